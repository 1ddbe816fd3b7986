import PyProof.Rows.All
import Wide.All
import OpenK.AllK
import Wide.FinOn
import HandS.ForMost
import HandS.Exc
import HandS.ExcInit
import HandS.ExcField
import HandS.ExcIs
import KE.KExcSuper
import KE.KSuper
import HandS.Wide
import HandS.Flow
import HandS.Style
import HandS.Deep
import HandS.TupAny
import HandS.NoneIn
import HandS.IsInst
import HandS.WideBits
import HandS.Gcd
import HandS.Conv
import HandS.Zip
import HandS.SortRule
import HandS.SortInts
import KE.KSortTupAny
import HandS.TupSets
import KE.KSetDisp
import HandS.SetIn
import KE.KExcIs
import HandS.Iter
import KE.DataFind
import PyProof.ReprRoads
import PyProof.NeKinds
import PyProof.FactsAll.dict_2
import PyProof.FactsAll.subtypes_1
import HandS.Star
import KE.RegKSuper
import PySem.Challenge.RW_slitsheets_k01_whole_measures_and_factor
set_option Elab.async false
set_option linter.all false
set_option maxRecDepth 100000
set_option maxHeartbeats 4000000
/-! XA: the package's own errors: their classes, and how one is made -/
namespace XA
open PySem PySem.W PySem.Calls PyProof.Rows PySem.HandSPX
/-- the __init__ that stands in a class -/
def initOf : Stmt → Stmt
  | .ClassDef _ _ _ (f :: _) _ _ _ _ _ _ _ => f
  | s => s
/-- the text of __init__(self, value=None): super().__init__(); self.value = value -/
structure InitTxt (A : Arguments) (B : List Stmt) (S : Scope) : Prop where
  ar : ∃ p1 p2 c, A = { posonlyargs := [], args := [{ arg := "self", annotation := none, pos := p1 }, { arg := "value", annotation := none, pos := p2 }], vararg := none, kwonlyargs := [], kw_defaults := [], kwarg := none, defaults := [c] }
  bd : ∃ p0 p1 p2 p3 p4 q1 q2 q3 q4, B = [.Expr (.Call (.Attribute (.Call (.Name "super" p0) [] [] p1) "__init__" p2) [] [] p3) p4, .Assign [.Attribute (.Name "self" q1) "value" q2] (.Name "value" q3) q4] ∧
    (∃ pl : Sem Bool, ∀ env : Env, eval (.Call (.Attribute (.Call (.Name "super" p0) [] [] p1) "__init__" p2) [] [] p3) env = (do
      let ov ← attributeBase (.Call (.Name "super" p0) [] [] p1) "__init__" env (eval (.Call (.Name "super" p0) [] [] p1) env)
      standAt p2.atName
      let (f, first) ← holding [ov] (getMethod ov "__init__" pl)
      callWith p3 f first (backTo p3 (starEach [] env)) [])) ∧
    ∀ env : Env, swapsWith (.Call (.Attribute (.Call (.Name "super" p0) [] [] p1) "__init__" p2) [] [] p3) none p4.line env = pure false
  sc : S = { kind := .function, names := [(PySem.Str.ofString "self", .local), (PySem.Str.ofString "value", .local), (PySem.Str.ofString "__class__", .free), (PySem.Str.ofString "super", .globalImplicit)], isGenerator := false, isCoroutine := false, more := [] }
def sheetTail : List Value := [.type "ValueError", .type "Exception", .type "BaseException", .type "object"]
def errTail (S : Addr) : List Value := .ref S :: sheetTail
/-- the common class of the errors stands at S -/
structure ShC (K : Frag) (S : Addr) : Prop where
  ns : nsIn K mainGlobals "SheetError" = some (some (.ref S))
  cls : ∃ q N bs sn sub ab col dd k0 k1 k2 k3 k5, K.lookup S = some (excClassObj "SheetError" q S N bs sheetTail true sn sub ab col dd k0 k1 k2 k3 k5 "ValueError.__new__")
/-- the error class x stands at C -/
structure ErC (K : Frag) (x : Str) (C S : Addr) : Prop where
  ns : nsIn K mainGlobals x = some (some (.ref C))
  sh : ShC K S
  ne : x ≠ "SheetError"
  cls : ∃ q N bs sn sub ab col dd k0 k1 k2 k3 k5, K.lookup C = some (excClassObj x q C N bs (errTail S) true sn sub ab col dd k0 k1 k2 k3 k5 "ValueError.__new__")
  sa : findIn K (.ref C) "__setattr__" = some (some (.builtin "object.__setattr__"))
  ga : findIn K (.ref C) "__getattribute__" = some (some (.builtin "BaseException.__getattribute__"))
  gg : findIn K (.ref C) "__getattr__" = some none
  nv : findIn K (.ref C) "value" = some none
  kp : keepIn K (.ref C) = true
  hc : findIn K (.ref C) "__class__" = some (some (.builtin "object.__class__"))
  gs : specialIn K (.builtin "object.__class__") "__get__" = some (some (.builtin "getset_descriptor.__get__"))
  tk : takesIn K (.builtin "object.__class__") = some true
/-- .. and may be raised: its __init__ -/
structure ErM (P : Program) (K : Frag) (mg : Str → Option Value) (x : Str) (C S fI : Addr) : Prop where
  er : ErC K x C S
  gC : mg x = some (.ref C)
  iC : findIn K (.ref C) "__init__" = some (some (.ref fI))
  sup : alongIn K "__init__" (errTail S) = some (some (.builtin "ValueError.__init__"))
  any : nsIn K cStatics "thirdparty.any" = some none
  msup : mg "super" = none
  fn : ∃ (oc : Value) (od : Option Addr) (A : Arguments) (B : List Stmt) (Sc : Scope) (q : Str) (dV kV doc pm : Value) (an : Option Addr) (cda cc : Addr) (ct : Value) (osl : Array (Option Value)), InitTxt A B Sc ∧ oc = .type "function" ∧
    K.lookup fI = some ⟨oc, od, .func (fnX "__init__" q A B Sc [("__class__", cc)] dV kV doc pm an (.ref cda) ct), osl⟩ ∧ codeIn K (.ref cda) q = true ∧
    (∃ c d sl, K.lookup cc = some ⟨c, d, .cell (some (.ref C)), sl⟩) ∧ (∃ td c d n sl, dV = .ref td ∧ K.lookup td = some ⟨c, d, .seq #[.none] n, sl⟩) ∧ (∃ c d vs sl file tf, K.lookup cda = some ⟨c, d, .fields vs, sl⟩ ∧ vs[2]? = some (.str file tf) ∧ ((P.main.file : Str) == file) = true)
  top : (P.main.scope.names.lookup ("super" : Str)).isSome = false
theorem refs_err (S : Addr) : refsVE (errTail S) = true := by show refsVE sheetTail = true; decide
section
variable {K : Frag} {x y : Str} {C D S S' : Addr}
theorem ErC.clsIn (T : ErC K x C S) : ∃ cd, PySem.W.clsIn K C = some cd ∧ cd.mro = .ref C :: errTail S ∧ cd.hasDict = true ∧ cd.name = x := by
  obtain ⟨q, N, bs, sn, sub, ab, col, dd, k0, k1, k2, k3, k5, h⟩ := T.cls
  exact ⟨_, by unfold PySem.W.clsIn; rw [h], rfl, rfl, rfl⟩
theorem ShC.clsIn (T : ShC K S) : ∃ cd, PySem.W.clsIn K S = some cd ∧ cd.mro = .ref S :: sheetTail ∧ cd.name = "SheetError" := by
  obtain ⟨q, N, bs, sn, sub, ab, col, dd, k0, k1, k2, k3, k5, h⟩ := T.cls
  exact ⟨_, by unfold PySem.W.clsIn; rw [h], rfl, rfl⟩
theorem ErC.ty (T : ErC K x C S) : typeIn K (.ref C) = some (.type "type") := by
  obtain ⟨q, N, bs, sn, sub, ab, col, dd, k0, k1, k2, k3, k5, h⟩ := T.cls
  show (K.lookup C).map (·.cls) = _
  rw [h]; rfl
theorem ShC.ty (T : ShC K S) : typeIn K (.ref S) = some (.type "type") := by
  obtain ⟨q, N, bs, sn, sub, ab, col, dd, k0, k1, k2, k3, k5, h⟩ := T.cls
  show (K.lookup S).map (·.cls) = _
  rw [h]; rfl
theorem ErC.sub (T : ErC K x C S) (b : Value) : subIn K (.ref C) b = some ((Value.ref C :: errTail S).contains b) := by
  obtain ⟨cd, h, hm, _⟩ := T.clsIn
  show mroIn K C b = _
  unfold mroIn
  rw [h, Option.bind_some, hm]; rfl
theorem ShC.sub (T : ShC K S) (b : Value) : subIn K (.ref S) b = some ((Value.ref S :: sheetTail).contains b) := by
  obtain ⟨cd, h, hm, _⟩ := T.clsIn
  show mroIn K S b = _
  unfold mroIn
  rw [h, Option.bind_some, hm]; rfl
theorem ErC.subT (T : ErC K x C S) (n : String) (h : sheetTail.contains (.type n) = true) : subIn K (.ref C) (.type n) = some true := by
  rw [T.sub]; show some (Value.type n == Value.ref C || (Value.type n == Value.ref S || sheetTail.contains (.type n))) = _
  rw [h, Bool.or_true, Bool.or_true]
theorem ErC.uniq (T : ErC K x C S) (T' : ErC K x D S') : C = D := by
  have := T.ns.symm.trans T'.ns
  exact Value.ref.inj (Option.some.inj (Option.some.inj this))
theorem ShC.uniq (T : ShC K S) (T' : ShC K S') : S = S' := by
  have := T.ns.symm.trans T'.ns
  exact Value.ref.inj (Option.some.inj (Option.some.inj this))
theorem ErC.apart (T : ErC K x C S) (T' : ErC K y D S') (h : x ≠ y) : C ≠ D := fun e => by
  obtain ⟨cd, h1, _, _, h2⟩ := T.clsIn
  obtain ⟨cd', h1', _, _, h2'⟩ := T'.clsIn
  rw [e, h1'] at h1
  cases h1
  exact h (h2.symm.trans h2')
theorem ErC.notS (T : ErC K x C S) : C ≠ S := fun e => by
  obtain ⟨cd, h1, _, _, h2⟩ := T.clsIn
  obtain ⟨cd', h1', _, h2'⟩ := T.sh.clsIn
  rw [e, h1'] at h1
  cases h1
  exact T.ne (h2.symm.trans h2')
/-- is an error of the class x one of the class y -/
def under (x y : Str) : Bool := x == y || y == "SheetError"
theorem ErC.subE (T : ErC K x C S) (T' : ErC K y D S') : subIn K (.ref C) (.ref D) = some (under x y) := by
  have eS := T.sh.uniq T'.sh
  subst eS
  rw [T.sub]
  show some (Value.ref D == Value.ref C || (Value.ref D == Value.ref S || sheetTail.contains (.ref D))) = _
  have h3 : sheetTail.contains (Value.ref D) = false := by simp [sheetTail]
  have h2 : (Value.ref D == Value.ref S) = false := by simp [T'.notS]
  have hy : (y == ("SheetError" : Str)) = false := by simp [T'.ne]
  unfold under
  rw [h3, h2, hy, Bool.or_false, Bool.or_false, Bool.or_false]
  by_cases h : x = y
  · subst h
    have := T.uniq T'
    subst this
    simp
  · have := T.apart T' h
    rw [beq_eq_false_iff_ne.mpr h, beq_eq_false_iff_ne.mpr fun z => this (Value.ref.inj z).symm]
theorem ErC.subS (T : ErC K x C S) (T' : ShC K S') : subIn K (.ref C) (.ref S') = some true := by
  have eS := T.sh.uniq T'
  subst eS
  rw [T.sub]
  show some (Value.ref S == Value.ref C || (Value.ref S == Value.ref S || sheetTail.contains (.ref S))) = _
  simp
/-- a class of errors, with its name: one of them, or their common one -/
def AnyC (K : Frag) (y : Str) (D : Addr) : Prop := (∃ S, ErC K y D S) ∨ (y = "SheetError" ∧ ShC K D)
theorem ErC.subA (T : ErC K x C S) (A : AnyC K y D) : subIn K (.ref C) (.ref D) = some (under x y) := by
  rcases A with ⟨S', T'⟩ | ⟨rfl, T'⟩
  · exact T.subE T'
  · rw [T.subS T']; simp [under]
theorem AnyC.ns (A : AnyC K y D) : nsIn K mainGlobals y = some (some (.ref D)) := by
  rcases A with ⟨S', T'⟩ | ⟨rfl, T'⟩
  · exact T'.ns
  · exact T'.ns
theorem AnyC.ty (A : AnyC K y D) : typeIn K (.ref D) = some (.type "type") := by
  rcases A with ⟨S', T'⟩ | ⟨rfl, T'⟩
  · exact T'.ty
  · exact T'.ty
theorem AnyC.isC (A : AnyC K y D) : (PySem.W.clsIn K D).isSome = true := by
  rcases A with ⟨S', T'⟩ | ⟨rfl, T'⟩
  · obtain ⟨cd, h, _⟩ := T'.clsIn; rw [h]; rfl
  · obtain ⟨cd, h, _⟩ := T'.clsIn; rw [h]; rfl
theorem AnyC.base (A : AnyC K y D) : subIn K (.ref D) (.type "BaseException") = some true := by
  rcases A with ⟨S', T'⟩ | ⟨rfl, T'⟩
  · exact T'.subT "BaseException" (by decide)
  · rw [T'.sub]; show some (Value.type "BaseException" == Value.ref D || sheetTail.contains (.type "BaseException")) = _
    rw [show sheetTail.contains (.type "BaseException") = true by decide, Bool.or_true]
theorem ErC.kit (T : ErC K x C S) (A : AnyC K y D) : kitOne K (.ref C) (.ref D) = some (under x y) := by
  unfold kitOne
  split
  · rename_i h
    have : C = D := Value.ref.inj (beq_iff_eq.mp h)
    subst this
    rcases A with ⟨S', T'⟩ | ⟨rfl, T'⟩
    · have : x = y := Classical.byContradiction fun n => T.apart T' n rfl
      rw [this]; simp [under]
    · simp [under]
  · unfold kitCls
    dsimp only
    rw [if_pos (by rw [A.isC, A.ty]; rfl)]
    exact T.subA A
theorem ErC.exm (T : ErC K x C S) (A : AnyC K y D) : exmOne K (.ref C) (.ref D) = some (under x y) := by
  unfold exmOne
  rw [if_pos (by rw [A.base]; rfl)]
  unfold kitCls
  dsimp only
  rw [if_pos (by rw [A.isC, A.ty]; rfl)]
  exact T.subA A
theorem ErC.kitV (T : ErC K x C S) : kitOne K (.ref C) (.type "ValueError") = some true := by
  unfold kitOne
  rw [if_neg (by simp)]
  unfold kitCls
  dsimp only
  rw [if_pos (by decide +kernel)]
  exact T.subT _ (by decide)
theorem ErC.excC (T : ErC K x C S) : L2.ExcC K C := ⟨T.ga, T.gg, T.subT _ (by decide), by obtain ⟨cd, h, _, hd, _⟩ := T.clsIn; unfold hasDictIn; rw [h]; exact hd, T.hc, T.gs, T.tk, by
  have := T.subT "object" (by decide)
  exact this⟩
theorem ErC.xfC (T : ErC K x C S) : L2.XfC K C := ⟨T.ga, T.gg, T.subT _ (by decide), T.excC.hd⟩
end
/-! ### an error is made -/
/-- what __init__ leaves of a fresh error at x -/
structure InitEnd (h h' : Heap) (x C dx t1 : Addr) (v : Value) : Prop where
  keep : ∀ b o, b ≠ x → h.get? b = some o → h'.get? b = some o
  obj : h'.get? x = some (excO C t1 |> fun o => { o with dict := some dx })
  dbig : h.objs.size ≤ dx
  dne : dx ≠ x
  ns : h'.Ns1 dx (fun y => if y = "value" then some v else none)
/-- a made error -/
structure Made (h h' : Heap) (e C d : Addr) (v : Value) : Prop where
  keep : ∀ b o, h.get? b = some o → h'.get? b = some o
  new : h.objs.size ≤ e
  obj : ∃ oe vs, h'.get? e = some oe ∧ oe.cls = .ref C ∧ oe.dict = some d ∧ oe.data = .fields vs ∧ vs[1]? = some .none
  dbig : h.objs.size ≤ d
  dne : d ≠ e
  ns : h'.Ns1 d (fun y => if y = "value" then some v else none)
section
variable {prog : Program} {w : World} {A : Around} {E : Value → Shared → Prop} {K : Frag} {mg mb : Str → Option Value} {C S fI : Addr} {x : Str}
theorem init_walk (T : ErM prog K mg x C S fI) {R : Result → Shared → Prop} {s : Shared} {e t0 : Addr} {v : Value} (X : K.In s.heap) (hlim : s.heap.NoLimit) (hg : s.heap.Ns mainGlobals mg) (hb : s.heap.Ns builtinsNs mb) (hbb : ∀ y : Str, y ≠ "__name__" → mb y = bootBuiltins y)
    (hx : s.heap.get? e = some (excO C t0)) (hnx : K.lookup e = none) (hroom : A.depth < recursionLimit)
    (hq : ∀ h' tk dx t1, InitEnd s.heap h' e C dx t1 v → R (.ok (.ret .none)) { s with heap := h', toks := tk }) :
    codeAny (model prog w) A (.call (.ref fI) ⟨[.ref e, v], []⟩) R s := by
  obtain ⟨oc, od, Ar, Bd, Sc, q, dV, kV, doc, pm, an, cda, cc, ct, osl, IT, hoc, ho, hcd, ⟨cl, cld, csl, hcell⟩, ⟨td, tc, tdd, tn, tsl, rfl, htd⟩, ⟨c1, d1, vs1, sl1, file, tf, hcode, hvs, hfile⟩⟩ := T.fn
  obtain ⟨⟨p1, p2, dd0, rfl⟩, ⟨b0, b1, b2, b3, b4, b5, b6, b7, b8, rfl, ⟨pl, hev⟩, hsw⟩, rfl⟩ := IT
  have hcl := T.er.clsIn
  obtain ⟨cd, hcd1, hmro, hhd, _⟩ := hcl
  have hb5 : ∀ x ∈ ([(PySem.Str.ofString "self", NameKind.local), (PySem.Str.ofString "value", .local), (PySem.Str.ofString "__class__", .free), (PySem.Str.ofString "super", .globalImplicit)] : List (Str × NameKind)), x.2 ≠ .cell := by decide
  refine ks_codeAny_call_defAt (binds := [("self", .ref e), ("value", v)]) hroom (X _ _ ho) rfl hlim (codeRec_of X hcd) rfl (BindsTo.of_defaults (T := td) rfl (X _ _ htd) rfl (by first | rfl | with_unfolding_all rfl) (by first | rfl | with_unfolding_all rfl)) hb5 (locs rfl) (fun h₁ hn k => ?_)
  have X₁ : K.In h₁ := X.keeps k
  have hx₁ := k _ _ hx
  have hxL : s.heap.objs.size ≠ e := Nat.ne_of_gt (Heap.lt_size hx)
  show _root_.PySem.wpAt _ (A.deeper (ksEnv q { kind := .function, names := [(PySem.Str.ofString "self", .local), (PySem.Str.ofString "value", .local), (PySem.Str.ofString "__class__", .free), (PySem.Str.ofString "super", .globalImplicit)], isGenerator := false, isCoroutine := false, more := [] } s.heap.objs.size fI (.ref cda) cc)) (.func _ (ksEnv q { kind := .function, names := [(PySem.Str.ofString "self", .local), (PySem.Str.ofString "value", .local), (PySem.Str.ofString "__class__", .free), (PySem.Str.ofString "super", .globalImplicit)], isGenerator := false, isCoroutine := false, more := [] } s.heap.objs.size fI (.ref cda) cc)) (execs _ (ksEnv q { kind := .function, names := [(PySem.Str.ofString "self", .local), (PySem.Str.ofString "value", .local), (PySem.Str.ofString "__class__", .free), (PySem.Str.ofString "super", .globalImplicit)], isGenerator := false, isCoroutine := false, more := [] } s.heap.objs.size fI (.ref cda) cc)) _ _ _
  refine ks_wpAt_execs_cons (ks_wpAt_Expr_any (ks_wpAt_MethodCall (pl := pl) ?_ (hev _)) rfl (hsw _))
  refine ks_wpAt_super_base (f := fI) (cc := cda) (by first | rfl | with_unfolding_all rfl) (by first | rfl | with_unfolding_all rfl) (by decide) rfl (X₁ _ _ ho) rfl rfl rfl (X₁ _ _ hcode) rfl hvs hfile T.top ?_
  refine ks_loadName_global rfl (by first | rfl | with_unfolding_all rfl) (loadGlobal_builtin (hg.keeps k) T.msup (hb.keeps k) ((hbb _ (by decide +kernel)).trans PyProof.Rows.Boot.«super») ⟨rfl, ?_⟩)
  refine wpAny_loadName_free rfl (by first | rfl | with_unfolding_all rfl) rfl ⟨_, X₁ _ _ hcell, rfl⟩ ?_
  refine wpAny_loadName_local rfl (by first | rfl | with_unfolding_all rfl) hn (v := .ref e) (by first | rfl | with_unfolding_all rfl | kernel_rfl) ?_
  obtain ⟨oC, hoC, hoC2⟩ : ∃ oC, h₁.get? C = some oC ∧ oC.data = .cls cd := by
    unfold PySem.W.clsIn at hcd1
    split at hcd1
    · rename_i ho'
      cases hcd1
      exact ⟨_, X₁ _ _ ho', rfl⟩
    · cases hcd1
  have hCe : e ≠ C := fun z => by
    rw [z, hoC] at hx₁
    cases hx₁
    cases hoC2
  have hsubC : mroIn K C (.ref C) = some true := by
    have := T.er.sub (.ref C)
    rw [show (Value.ref C :: errTail S).contains (.ref C) = true by simp] at this
    exact this
  refine ks_wpAny_isType_cls hoC hoC2 ⟨rfl, ?_⟩
  refine ks_wpAny_call_super hoC hoC2 hx₁ rfl (fun c z => by cases z) (looks_mroIn X₁ hsubC) (fun h2 hso k2 => ?_)
  have X₂ : K.In h2 := X₁.keeps k2
  have hx₂ := k2 _ _ hx₁
  have hI : Looks (model prog w) h2 (isInstance (.ref e) (.type "ValueError")) true := by
    have I : InstAt h2 e (excO C t0) C none := ⟨hx₂, rfl, rfl, trivial⟩
    exact I.type.andThen (looks_subIn X₂ (T.er.subT "ValueError" (by decide)))
  refine kxs_getMethod kxs_ValueError hso (looks_opaque X₂ T.any) (l₀ := cd.mro) (fun A Q E s k q => wpAny_bind ((looks_clsIn X₂ hcd1) A _ E s k (wpAny_pure q))) rfl X₂ (by rw [hmro]; simpa using T.sup) hI hCe (by decide) ?_
  refine kxs_callWith (i := "ValueError.__init__") (x := e) rfl (evalArgs_empty ⟨Heap.get?_push_at rfl rfl, ?_⟩)
  have hu : (h2.push (kxs_mw "ValueError.__init__" e)).get? h2.objs.size = some (kxs_mw "ValueError.__init__" e) := Heap.get?_push_at rfl rfl
  have k3 : ∀ b o, h2.get? b = some o → (h2.push (kxs_mw "ValueError.__init__" e)).get? b = some o := fun b o z => Heap.get?_push_of_some _ z
  obtain ⟨qn, N, bs, sn, sub, ab, col, dd, m0, m1, m2, m3, m5, hCl⟩ := T.er.cls
  refine wpAny_call (codeAny_of_tree ?_)
  show wpAny _ _ (callAny (.ref h2.objs.size) ⟨[], []⟩) _ _ _
  simp only [callAny]
  refine wpAny_bind (wpAny_load hu ?_)
  refine KFB.if_so (by simp only [kxs_mw]; decide) ?_
  simp only [kxs_mw]
  refine wpAny_bind (check_bound_init F.excBase_ValueError.toExcCallFacts (k3 _ _ (X₂ _ _ hCl)) (k3 _ _ hx₂) rfl ?_)
  refine wpAny_bind (wpAny_pure (wpAny_pure ?_))
  refine ⟨plainId_quiet F.excBase_ValueError.init.plain _, codeAny_builtin F.excBase_ValueError.initEntry ?_⟩
  refine exc_init_tree (cls := .ref C) (t0 := t0) (dv := none) (c2 := .none) (c3 := .none) (b4 := .bool false) (k3 _ _ hx₂) (by rw [sizeLine_eq]; decide) (fun h4 k4 hx4 htup => ?_)
  show _root_.PySem.wpAt _ _ _ (execs _ _) _ _ _
  have kk : ∀ b o, b ≠ e → s.heap.get? b = some o → h4.get? b = some o := fun b o hb z => k4 b o hb (k3 _ _ (k2 _ _ (k _ _ z)))
  have X4 : K.In h4 := fun a o z => kk a o (fun y => by rw [y, hnx] at z; cases z) (X a o z)
  have hn4 : h4.Ns s.heap.objs.size (fun y => ([("self", Value.ref e), ("value", v)] : List (Str × Value)).reverse.lookup y) := by
    obtain ⟨oL, es, ep, z, r⟩ := hn
    exact ⟨oL, es, ep, k4 _ _ hxL (k3 _ _ (k2 _ _ z)), r⟩
  have hz4 : s.heap.objs.size ≤ h4.objs.size := Nat.le_of_lt hn4.lt
  refine wpAt_of_wpAny (wpAny_execs_cons (plainObj_wpAny_Assign_Attribute ?_))
  refine wpAny_Name (wpAny_loadName_local rfl (by first | rfl | with_unfolding_all rfl) hn4 (v := v) rfl ?_) (by decide)
  refine wpAny_Name (wpAny_loadName_local rfl (by first | rfl | with_unfolding_all rfl) hn4 (v := .ref e) rfl ?_) (by decide)
  refine set_plain X4 (od := none) ⟨hx4, rfl, rfl, trivial⟩ T.er.sa ?_
  refine exc_osa X4 hx4 hcd1 (by rw [hmro]; exact refs_err S) hhd T.er.nv (fun h5 tk5 dx k5 dn dne hx5 hn5 => ?_)
  refine wpAny_execs_nil ?_
  exact hq h5 tk5 dx _ ⟨fun b o hb z => k5 b o hb (kk b o hb z), hx5, Nat.le_trans hz4 dn, dne, hn5⟩
end
end XA
/-! XB: errors over the hand layer: one is made and raised; a try whose error stays known behind it -/
namespace XA
open PySem PySem.W PySem.Calls PyProof.Rows PySem.HandSPX
section
variable {prog : Program} {w : World} {A : Around} {E : Value → Shared → Prop} {K : Frag} {mg mb : Str → Option Value} {C S fI : Addr} {x : Str}
theorem err_made (T : ErM prog K mg x C S fI) {R : Result → Shared → Prop} {s : Shared} {v : Value} (tI : typeIn K (.ref fI) = some (.type "function")) (X : K.In s.heap) (hlim : s.heap.NoLimit) (hg : s.heap.Ns mainGlobals mg) (hb : s.heap.Ns builtinsNs mb) (hbb : ∀ y : Str, y ≠ "__name__" → mb y = bootBuiltins y)
    (hroom : A.depth + 1 < recursionLimit) (hq : ∀ h' tk e d, Made s.heap h' e C d v → R (.ok (.ret (.ref e))) { s with heap := h', toks := tk }) :
    codeAny (model prog w) A (.call (.ref C) ⟨[v], []⟩) R s := by
  obtain ⟨qn, N, bs, sn, sub, ab, col, dd, m0, m1, m2, m3, m5, hCl⟩ := T.er.cls
  obtain ⟨hp, g, dr, tk, os⟩ := s
  have hz1 : [v].length ≤ sizeLine := by rw [sizeLine_eq]; exact (by decide : 1 ≤ 16777216)
  have k : ∀ b o, hp.get? b = some o → ((hp.push (kdv_tup [v])).push (excO C hp.objs.size)).get? b = some o := fun b o z => Heap.get?_push_of_some _ (Heap.get?_push_of_some _ z)
  have hget : ((hp.push (kdv_tup [v])).push (excO C hp.objs.size)).get? (hp.objs.size + 1) = some (excO C hp.objs.size) := by heap_get
  have hnx : K.lookup (hp.objs.size + 1) = none := by
    cases z : K.lookup (hp.objs.size + 1) with
    | none => rfl
    | some o =>
      have y : hp.get? (hp.objs.size + 1) = some o := X _ _ z
      exact absurd (Nat.lt_of_succ_lt (Heap.lt_size y)) (Nat.lt_irrefl _)
  refine call_own F.excBase_ValueError (fun Y => refsVE_contains Y (errTail S) (refs_err S)) (X _ _ hCl) (looks_findIn X T.iC) (fun self => bind_fn X self tI) hz1 ?_
  refine init_walk (s := ⟨(hp.push (kdv_tup [v])).push (excO C hp.objs.size), g, dr, tk, os⟩) T (X.keeps k) (hlim.keeps k) (hg.keeps k) (hb.keeps k) hbb hget hnx hroom fun h' tk' dx t1 ⟨k', hx, dn, dne, hns⟩ => ?_
  have old : ∀ b o, hp.get? b = some o → h'.get? b = some o := fun b o z => k' b o (Nat.ne_of_lt (Nat.lt_succ_of_lt (Heap.lt_size z))) (k b o z)
  have z : hp.objs.size + 1 + 1 ≤ dx := by
    have q := dn
    rw [Heap.size_push, Heap.size_push] at q
    exact q
  exact ⟨rfl, hq h' tk' (hp.objs.size + 1) dx ⟨old, Nat.le_succ _, ⟨_, _, hx, rfl, rfl, rfl, rfl⟩, Nat.le_trans (Nat.le_trans (Nat.le_succ _) (Nat.le_succ _)) z, dne, hns⟩⟩
end
theorem fnTy {P : Program} {K : Frag} {mg : Str → Option Value} {x : Str} {C S fI : Addr} (T : ErM P K mg x C S fI) : typeIn K (.ref fI) = some (.type "function") := by
  obtain ⟨oc, od, Ar, Bd, Sc, q, dV, kV, doc, pm, an, cda, cc, ct, osl, IT, hoc, ho, _⟩ := T.fn
  show (K.lookup fI).map (·.cls) = _
  rw [ho, hoc]; rfl
end XA
namespace L2
open PySem PySem.Spec PyProof.Rows XA
theorem relO_one {f0 : Str} {v : V} {u : Value} (r : RelV v u) (f : Str) : RelO (List.lookup f [(f0, v)]) (if f = f0 then some u else none) := by
  by_cases hw : f = f0
  · subst hw
    rw [if_pos rfl, show List.lookup f [(f, v)] = some v by simp [List.lookup]]
    exact r
  · rw [if_neg hw, show List.lookup f [(f0, v)] = none by simp [List.lookup, beq_eq_false_iff_ne.mpr hw]]
    trivial
section
variable {X : Cx} {x : Str} {C S fI : Addr}
/-- x(e) -/
def tMkE (C : Addr) (ta : TA) : St → Hp → XK → Prop := fun σ H Q => ta σ H fun vs H1 => ∃ v, vs = [v] ∧ ∀ d, H1 d = none → Q (.ref C) (some d) (upd H1 d (.xd [(("value" : Str), v)]))
theorem pmk_err {a : Expr} {ta : TA} {p pos : Pos} {k : Nat} (T : XA.ErM X.prog X.K X.mg x C S fI) (hr : Room k X.A) (ha : PA X [a] ta) (hg : Gl X x)
    (he : starEach (a :: []) X.env = (false, eval a X.env) :: starEach [] X.env := by rfl) (hpl : (backTo pos (starEach [] X.env)).any (·.1) = false := by rfl) (hdb : (x == ("__debug__" : Str)) = false := by decide) :
    PMk X (.Call (.Name x p) [a] [] pos) (tMkE C ta) := by
  intro pins s σ H Q I h
  refine wpAny_Call_Name_kw (ld_glob I hg T.gC ?_ hdb)
  refine PySem.W.callWith_K (h₀ := X.base) I.ok.mod.kin T.er.kp (thn (ha.run pos pins s σ H _ I h) fun us s1 ⟨vs, H1, I1, r1, v, ev, q1⟩ => ?_) he hpl
  subst ev
  refine ⟨I1.kIn, ?_⟩
  cases r1 with
  | @cons _ v' _ us' rv rn =>
    cases rn
    show wpAny _ _ (call (.ref C) [v']) _ _ _
    have hlim := I1.nolimit
    obtain ⟨mb, hb1, hb2⟩ := I1.mod.blt
    have hgl := I1.mod.glob.keeps I1.bk
    have hbl := hb1.keeps I1.bk
    obtain ⟨hp, g, dr, tk, os⟩ := s1
    refine wpAny_call (err_made T (fnTy T) I1.kIn hlim hgl hbl hb2 (by have := hr.dp; omega) fun h' tk' e d M => ?_)
    show MkP X pins σ Q (.ref e) ⟨h', g, dr, tk', os⟩
    obtain ⟨oe, fv, hoe, hc, hd, hdat, h1⟩ := M.obj
    have hns := M.ns
    obtain ⟨G', g1, g2⟩ := restrict h' fun b => decide (b ≠ e)
    have gk : ∀ b, b ≠ e → G'.get? b = h'.get? b := fun b hb => g1 b (decide_eq_true hb)
    have ge : G'.get? e = none := g2 e (by simp)
    have old : ∀ b o, hp.get? b = some o → G'.get? b = some o := fun b o q => (gk b (Nat.ne_of_lt (Nat.lt_of_lt_of_le (Heap.lt_size q) M.new))).trans (M.keep b o q)
    have ob : ObjOk X.prog X.w (upd H1 d (.xd [(("value" : Str), v)])) G' d (.xd [(("value" : Str), v)]) :=
      ⟨_, hns.at (fun o q => (gk d M.dne).trans q), fun f => relO_one rv f⟩
    have J : Inv X pins σ (upd H1 d (.xd [(("value" : Str), v)])) ⟨G', g, dr, tk', os⟩ := I1.laid (t' := tk') old M.dbig ob
    refine ⟨e, oe, fv, ⟨G', g, dr, tk', os⟩, _, .ref C, some d, rfl, J, fun b o q => ?_, ge, hoe, ⟨hc, hd⟩, hdat, h1, ?_, rfl, I1.bare, raises_own (T.er.subT "BaseException" (by decide)) T.er.ty, q1 d (I1.hok.fresh M.dbig)⟩
    · by_cases hb : b = e
      · have q' : G'.get? b = some o := q
        rw [hb, ge] at q'; cases q'
      · exact (gk b hb).symm.trans q
    · rw [upd_ne (Ne.symm M.dne)]
      exact I1.hok.fresh M.new
end
/-! ### try: the error is tracked from the suite on -/
/-- at a: an error of the class at C with its own dict at dd -/
def ErAt (a C dd : Addr) (h : Heap) : Prop := ∃ vs sl, h.get? a = some { cls := .ref C, dict := some dd, data := .fields vs, slots := sl }
def erO (a C dd : Addr) : HO := .ext (ErAt a C dd)
section
variable {X : Cx} {pins : List (Addr × Obj)} {σ : St} {H : Hp} {sI s' : Shared} {B : Heap}
theorem adopt {a C dd : Addr} (I : Inv X pins σ H sI) (nb : ∀ b o, sI.heap.get? b = some o → b ∉ frs X.stack → B.get? b = some o) (st : B.StaysIn s'.heap) (up : sI.heap.UpToSlots s'.heap) (os : s'.os = sI.os) (ag : AllBare s'.gens)
    (nB : B.get? a = none) (nF : a ∉ frs X.stack) (na : H a = none) (ha : ErAt a C dd s'.heap) : Inv X pins σ (upd H a (erO a C dd)) s' := by
  have nI : sI.heap.get? a = none := by
    cases z : sI.heap.get? a with
    | none => rfl
    | some o => rw [nb a o z nF] at nB; cases nB
  have ne : ∀ {b : Addr} {o : Obj}, sI.heap.get? b = some o → b ≠ a := fun {b o} z y => by rw [y, nI] at z; cases z
  have nf : ∀ b ∈ frs X.stack, ∀ o, sI.heap.get? b = some o → ∃ sl, s'.heap.get? b = some { o with slots := sl } := fun b hb o e => by
    obtain ⟨_, o', e', hd⟩ := I.stack.mem hb
    rw [e] at e'
    cases e'
    exact up b o e hd
  have hok0 : HOk X.prog X.w H s'.heap := (I.inGround nb).kept st
  have hok : HOk X.prog X.w (upd H a (erO a C dd)) s'.heap := fun b o q => by
    by_cases hb : b = a
    · subst hb
      rw [upd_same] at q
      cases q
      obtain ⟨vs, sl, hv⟩ := ha
      exact ⟨⟨vs, sl, hv⟩, ⟨_, hv⟩, fun h1 h2 z kk => by
        obtain ⟨vs', sl', z'⟩ := z
        exact ⟨vs', sl', kk _ z'⟩⟩
    · rw [upd_ne hb] at q
      refine (hok0 b o q).stay (fun c v _ z => z) (fun c hc => ?_) fun c xs hc => ?_
      · rw [upd_ne (fun z => by rw [z, na] at hc; cases hc)]; exact hc
      · rw [upd_ne (fun z => by rw [z, na] at hc; cases hc)]; exact hc
  have no : ∀ {b : Addr} {o : HO}, H b = some o → upd H a (erO a C dd) b = some o := fun {b o} z => by
    rw [upd_ne (fun y => by rw [y, na] at z; cases z)]; exact z
  have J := I.call (ch := []) (h' := s'.heap) (g' := s'.gens) (t' := s'.toks) (d' := s'.drawn) (H' := upd H a (erO a C dd))
    ⟨fun b o e _ hb _ => st b o (nb b o e hb), fun b o e _ hb _ => nf b hb o e, fun b o e n _ => by rw [upd_ne (ne e)]; exact n, fun b o e _ => by
      by_cases hb : b ∈ frs X.stack
      · obtain ⟨sl, q⟩ := nf b hb o e
        exact ⟨_, q⟩
      · exact ⟨o, st b o (nb b o e hb)⟩, fun _ _ e => no e, fun _ _ _ e => no e, fun b ps e => ⟨#[], by rw [no e]; simp⟩⟩
    hok ag (fun _ z => nomatch z)
  obtain ⟨a1, a2, a3, a4, a5⟩ := s'
  have e5 : a5 = sI.os := os
  subst e5
  exact J
end
/-- the context of a suite, the error being tracked -/
abbrev sui (X : Cx) (a : Addr) (pn : List (Addr × Obj)) : Cx := X.suite a pn
section
variable {X : Cx} {pins : List (Addr × Obj)} {σ : St} {H : Hp} {s : Shared} {a : Addr}
theorem toSui (I : Inv X pins σ H s) : Inv (sui X a (X.pn ++ pins)) [] σ H s :=
  ⟨I.ok.suite _ _, I.os, I.bare, I.base, I.loc, I.cell, I.free, I.freeC, fun p hp => I.pin p (by rw [List.append_nil] at hp; exact hp), I.hok, I.len⟩
theorem ofSui {pn' : List (Addr × Obj)} (I : Inv (sui X a (X.pn ++ pins)) pn' σ H s) (ok : X.Ok) : Inv X pins σ H s :=
  ⟨ok, I.os, I.bare, I.base, I.loc, I.cell, I.free, I.freeC, fun p hp => I.pin p (List.mem_append_left _ hp), I.hok, I.len⟩
end
/-- what 'except c as n' wishes of an error of the body, slot i being n's -/
def wSui (K : PySem.W.Frag) (c : Value) (i : Nat) (ts : TS) (Wout : WX) (D : Ends) : WX := fun cls d σ H => ∃ (C dd : Addr), cls = .ref C ∧ d = some dd ∧
  ∃ b, PySem.W.exmOne K cls c = some b ∧ (b = true → ∀ a, H a = none → ts { nx := fun σ' H' => D.nx (σ'.set i none) H', rt := D.rt, bk := fun σ' H' => D.bk (σ'.set i none) H', ct := fun σ' H' => D.ct (σ'.set i none) H' } (σ.set i (some (.ref a))) (upd H a (erO a C dd))) ∧ (b = false → Wout cls d σ H)
section
variable {X : Cx} {x n : Str} {c : Value} {i : Nat} {body suite : List Stmt} {b₀ : Stmt} {np pos pos' : Pos} {tb : WX → TS} {ts : TS} {Wout : WX}
theorem ps_try_sui (hs : X.stack = X.env :: X.outer) (hf : X.env.frame = some X.env.locals) (hN : X.N.Nodup) (hi : X.N[i]? = some n) (hln : X.env.kindOf n = some .local) (hc : Names X x c) (tk : Takes X Wout)
    (hb : ∀ (W : WX) (pn : List (Addr × Obj)) (xe : Value → Shared → Prop), Takes (X.tr pn xe) W → PassesOwn (model X.prog X.w) X.A X.env xe → PSs (X.tr pn xe) body (tb W))
    (hsu : ∀ (a : Addr) (pn : List (Addr × Obj)), PSs (sui X a pn) (b₀ :: suite) ts) :
    PS X (.Try body [.ExceptHandler (some (.Name x np)) (some n) (b₀ :: suite) pos'] [] [] pos) (fun D σ H => tb (wSui X.K c i ts Wout D) D σ H) := by
  refine ⟨fun pins s σ H D I h => ?_⟩
  have okX := I.ok
  have hfr : X.A.frames = some (X.env :: X.outer) := by rw [okX.frames, hs]
  refine wpAny_Try_except ?_
  refine wpAny_mono ((hb (wSui X.K c i ts Wout D) (X.pn ++ pins) (fun e s₁ => wpAny (model X.prog X.w) X.A (noteFrame e X.env) (fun _ s₂ => wpAny (model X.prog X.w) X.A (setFlight e none) (fun _ s₃ =>
    wpAny (model X.prog X.w) X.A (handleBy e X.env [.ExceptHandler (some (.Name x np)) (some n) (b₀ :: suite) pos']) (SP X pins D) X.xe s₃) X.xe s₂) X.xe s₁) (fun u s1 xx => ?_) PassesOwn.looking).run [] s σ H D (I.toTry _) h)
    (fun fl s1 hsp => ?_) (fun _ _ y => y)
  · obtain ⟨a, B, sI, pins1, σ1, H1, cls, d, rfl, J0, nb, up, sky, na, os, ag, C, dd, rfl, rfl, b, hb1, hyes, hno⟩ := xx
    have J : Inv X pins σ1 H1 sI := J0.ofTry okX
    have skyX : Sky B (X.env :: X.outer) a (Zc (.ref C) (some dd)) X.env.locals s1.heap := by rw [← hs]; exact sky
    refine Sky.land Zc.steady hfr hf skyX fun h3 fly3 up3 => ?_
    have J3 : Inv X pins σ1 H1 { s1 with heap := h3 } := J.landed nb fly3.1 (up.trans up3) os ag
    obtain ⟨oe3, vs3, he3, hz3, hd3⟩ := fly3.there
    have nFr : a ∉ frs (X.env :: X.outer) := fun hm => by
      obtain ⟨_, o', e', hnf⟩ := fly3.2.2.1.mem hm
      rw [he3] at e'
      cases e'
      exact hnf _ hd3
    refine wpAny_handleBy_cons (codeAny_handlers_test ?_) (by intro z; cases z)
    have LT : PySem.W.Looks (model X.prog X.w) h3 (typeOf (.ref a)) (.ref C) := fun A Q E s k q => wpAny_typeOf_ref (k _ _ he3) (by rw [hz3.1]; exact q)
    have LM := PySem.W.exm_one (M := model X.prog X.w) J3.kIn LT hb1
    have test : ∀ {Q : Value → Shared → Prop} {E : Value → Shared → Prop}, Q c { s1 with heap := h3 } → wpAny (model X.prog X.w) (X.A.mark (some (.ref a))) (eval (.Name x np) X.env) Q E { s1 with heap := h3 } := fun {Q E} q => by
      have S3 := toSui (a := a) J3
      obtain ⟨g1, g2, m1 | ⟨m1, m2, m3⟩⟩ := hc
      · exact ld_glob (X := sui X a (X.pn ++ pins)) S3 g1 m1 q g2
      · exact ld_blt (X := sui X a (X.pn ++ pins)) S3 g1 m1 m2 q m3 g2
    refine test (LM.here ?_)
    cases b with
    | true =>
      refine codeAny_handlers_suite_as (HandSPX.lands_againZ fly3 fun h4 fly4 up4 => ?_)
      obtain ⟨oe4, vs4, he4, hz4, hd4⟩ := fly4.there
      have hat : ErAt a C dd h4 := by
        obtain ⟨z1, z2⟩ := hz4
        obtain ⟨q1, q2, q3, q4⟩ := oe4
        dsimp only at z1 z2 hd4
        subst z1 z2 hd4
        exact ⟨_, _, he4⟩
      have J4 : Inv X pins σ1 (upd H1 a (erO a C dd)) { s1 with heap := h4 } := adopt J nb fly4.1 ((up.trans up3).trans up4) os ag fly4.2.1 (by rw [hs]; exact nFr) na hat
      refine store_ok (X := sui X a (X.pn ++ pins)) (v := .ref a) (toSui (a := a) J4) hN hi (.inl hln) rfl (fun s5 S5 => ?_) (.inr hln)
      refine wpAny_mono ((hsu a (X.pn ++ pins)).run [] s5 _ _ _ S5 (hyes rfl a na)) (fun fl s6 hsp => ?_) (fun _ _ z => False.elim z)
      have away : ∀ {σ6 : St} {H6 : Hp} {Q : Shared → Prop}, Inv (sui X a (X.pn ++ pins)) [] σ6 H6 s6 → (∀ s7, Inv X pins (σ6.set i none) H6 s7 → Q s7) →
          wpAny (model X.prog X.w) X.A (do bindName X.env n .none; unbindBehindTheSuite X.env n pos') (fun _ s7 => Q s7) X.xe s6 := fun {σ6 H6 Q} S6 q => gone_ok (ofSui S6 okX) hN hi hln q
      match fl, hsp with
      | .next, ⟨σ6, H6, S6, q6⟩ => exact away S6 fun s7 J7 => ⟨_, _, J7, q6⟩
      | .brk, ⟨σ6, H6, S6, q6⟩ => exact away S6 fun s7 J7 => ⟨_, _, J7, q6⟩
      | .cont, ⟨σ6, H6, S6, q6⟩ => exact away S6 fun s7 J7 => ⟨_, _, J7, q6⟩
      | .ret u, ⟨v6, σ6, H6, S6, r6, q6⟩ => exact away S6 fun s7 J7 => ⟨_, _, _, J7, r6, q6⟩
    | false =>
      show wpAny _ X.A (handleBy (.ref a) X.env []) _ _ _
      refine wpAny_handleBy_nil ?_
      obtain ⟨k1, k2, k3, oe, vs, T, oT, ts', he, hz, hd, h1, hr⟩ := id fly3
      unfold PySem.passOn
      refine wpAny_bind (wpAny_field he hd h1 ?_)
      rw [if_neg (show ¬ ((Value.ref T == Value.none) = true) from by simp)]
      have onward : wpAny (model X.prog X.w) X.A (setFlight (.ref a) X.env.frame) (fun _ s4 => wpAny (model X.prog X.w) X.A (throw (.ref a) : Sem Flow) (SP X pins D) X.xe s4) X.xe { s1 with heap := h3 } := by
        rw [hf]
        refine HandSPX.setFlight_upZ fly3 fun h4 hh4 up4 => wpAny_throw (tk _ _ ⟨a, B, sI, pins, σ1, H1, .ref C, some dd, rfl, J, nb, (up.trans up3).trans up4, .inr (.inr (by rw [hs]; exact hh4)), na, os, ag, hno rfl⟩)
      first
        | exact wpAny_bind (wpAny_pure (wpAny_bind onward))
        | exact wpAny_bind onward
  · match fl, hsp with
    | .next, ⟨σ', H', J', q⟩ => exact wpAny_execs_nil ⟨σ', H', J'.ofTry okX, q⟩
    | .brk, ⟨σ', H', J', q⟩ => exact ⟨σ', H', J'.ofTry okX, q⟩
    | .cont, ⟨σ', H', J', q⟩ => exact ⟨σ', H', J'.ofTry okX, q⟩
    | .ret u, ⟨v, σ', H', J', r, q⟩ => exact ⟨v, σ', H', J'.ofTry okX, r, q⟩
end
end L2
namespace XA
open PySem PySem.W PySem.Calls PyProof.Rows PySem.HandSPX
/-- the common class -/
theorem shC_mk {K : Frag} {S N : Addr} {q : Str} {bs : List Value} {sn : List Str} {sub : List Value} {ab : Bool} {col : Option Bool} {dd : Option Addr} {k0 k1 k2 k3 k5 : Option Value} (ns : nsIn K mainGlobals "SheetError" = some (some (.ref S)))
    (lk : K.lookup S = some (excClassObj "SheetError" q S N bs [.type "ValueError", .type "Exception", .type "BaseException", .type "object"] true sn sub ab col dd k0 k1 k2 k3 k5 "ValueError.__new__")) : ShC K S :=
  ⟨ns, ⟨q, N, bs, sn, sub, ab, col, dd, k0, k1, k2, k3, k5, lk⟩⟩
/-- an error's class, from what the top has left -/
theorem erM_mk {P : Program} {K : Frag} {h : Heap} {mg : Str → Option Value} {x : Str} {C S fI N cda cc td : Addr} {q qf : Str} {bs : List Value} {sn : List Str} {sub : List Value} {ab : Bool} {col : Option Bool} {dd : Option Addr} {k0 k1 k2 k3 k5 : Option Value}
    {A : Arguments} {B : List Stmt} {Sc : Scope} {od an : Option Addr} {kV doc pm ct : Value} {osl : Array (Option Value)} {c1 c2 c3 : Value} {d1 d2 d3 : Option Addr} {sl1 sl2 sl3 : Array (Option Value)} {n : Nat} {vs : Array Value} {file : Str} {tf : Tok}
    (X : K.In h) (G : h.Ns mainGlobals mg) (sh : ShC K S) (it : InitTxt A B Sc) (ne : x ≠ "SheetError")
    (ns : nsIn K mainGlobals x = some (some (.ref C)))
    (lk : K.lookup C = some (excClassObj x q C N bs [.ref S, .type "ValueError", .type "Exception", .type "BaseException", .type "object"] true sn sub ab col dd k0 k1 k2 k3 k5 "ValueError.__new__"))
    (sa : findIn K (.ref C) "__setattr__" = some (some (.builtin "object.__setattr__"))) (ga : findIn K (.ref C) "__getattribute__" = some (some (.builtin "BaseException.__getattribute__"))) (gg : findIn K (.ref C) "__getattr__" = some none)
    (nv : findIn K (.ref C) "value" = some none) (kp : keepIn K (.ref C) = true) (hc : findIn K (.ref C) "__class__" = some (some (.builtin "object.__class__")))
    (gs : specialIn K (.builtin "object.__class__") "__get__" = some (some (.builtin "getset_descriptor.__get__"))) (tk : takesIn K (.builtin "object.__class__") = some true)
    (iC : findIn K (.ref C) "__init__" = some (some (.ref fI))) (sup : alongIn K "__init__" [.ref S, .type "ValueError", .type "Exception", .type "BaseException", .type "object"] = some (some (.builtin "ValueError.__init__")))
    (any : nsIn K cStatics "thirdparty.any" = some none) (msup : nsIn K mainGlobals "super" = some none)
    (lf : K.lookup fI = some ⟨.type "function", od, .func (fnX "__init__" qf A B Sc [("__class__", cc)] (.ref td) kV doc pm an (.ref cda) ct), osl⟩) (cd : codeIn K (.ref cda) qf = true)
    (lc : K.lookup cc = some ⟨c1, d1, .cell (some (.ref C)), sl1⟩) (lt : K.lookup td = some ⟨c2, d2, .seq #[.none] n, sl2⟩) (lv : K.lookup cda = some ⟨c3, d3, .fields vs, sl3⟩) (hv : vs[2]? = some (.str file tf)) (hf : ((P.main.file : Str) == file) = true)
    (top : (P.main.scope.names.lookup ("super" : Str)).isSome = false) : ∃ C S fI, ErM P K mg x C S fI :=
  ⟨C, S, fI, ⟨⟨ns, sh, ne, ⟨q, N, bs, sn, sub, ab, col, dd, k0, k1, k2, k3, k5, lk⟩, sa, ga, gg, nv, kp, hc, gs, tk⟩, mg_of X G ns, iC, sup, any, mg_none_of X G msup,
    ⟨_, od, A, B, Sc, qf, _, kV, doc, pm, an, cda, cc, ct, osl, it, rfl, lf, cd, ⟨c1, d1, sl1, lc⟩, ⟨td, c2, d2, n, sl2, rfl, lt⟩, ⟨c3, d3, vs, sl3, file, tf, lv, hv, hf⟩⟩, top⟩⟩
end XA
/-! DL1: data D, what represents it, the state of a def as plain data, the judgements -/
namespace DL
open PySem PySem.Spec PyProof.Rows L2
inductive D where
  | non
  | bl (b : Bool)
  | int (i : Int)
  | str (x : Str)
  | tup (l : List D)
  | lst (l : List D)
  | dct0
  | scr (ns : List Int)
  | own (k : Nat)
  | exc (x : Str) (d : D)
  | glb (x : Str)
  | val (v : V)
abbrev St := L2.St
abbrev Env := List (Option D)
inductive Own where
  | lst (ds : List D)
  | dead
abbrev Mem := List Own
/-- where the owned cells stand; the lists that are being made out of sight -/
structure Ph where
  cells : List Addr
  hid : List (Addr × HO)
abbrev Ph.add (ph : Ph) (p : Addr) : Ph := { ph with cells := ph.cells ++ [p] }
abbrev Ph.cut (ph : Ph) (n : Nat) : Ph := { ph with cells := ph.cells.take n }
abbrev fVal : Str := "value"
/-- a tuple that stands still: one that was made, or one of the module's -/
def TupK (K : PySem.W.Frag) (S : Hp) (a : Addr) (xs : List V) : Prop := S a = some (.tup xs) ∨
  ∃ (o : Obj) (its : Array Value) (n : Nat), K.lookup a = some o ∧ o.cls = .type "tuple" ∧ o.data = .seq its n ∧ its.size ≤ sizeLine ∧ Vals xs its.toList
theorem TupK.ext {K : PySem.W.Frag} {S S' : Hp} {a : Addr} {xs : List V} (h : TupK K S a xs) (s : Same S S') : TupK K S' a xs := h.imp (fun z => s _ _ z) fun z => z
theorem TupK.sq {K : PySem.W.Frag} {S H : Hp} {a : Addr} {xs : List V} (h : TupK K S a xs) (s : Same S H) : SqT K H a xs := h.elim (fun z => SqT.of (s _ _ z)) .inr
mutual
inductive Rep (K : PySem.W.Frag) (ph : Ph) (S : Hp) : V → D → Prop
  | non : Rep K ph S .non .non
  | bl (b : Bool) : Rep K ph S (.bl b) (.bl b)
  | int (i : Int) : Rep K ph S (.int i) (.int i)
  | str (x : Str) : Rep K ph S (.str x) (.str x)
  | tup {a : Addr} {xs : List V} {ds : List D} : TupK K S a xs → RepAll K ph S xs ds → Rep K ph S (.ref a) (.tup ds)
  | lst {a : Addr} {xs : List V} {ds : List D} : S a = some (.lst xs) → RepAll K ph S xs ds → Rep K ph S (.ref a) (.lst ds)
  | scr {a : Addr} {ns : List Int} : SqL K S a (ns.map V.int) → Rep K ph S (.ref a) (.scr ns)
  | dct0 {a : Addr} : S a = some (.dK []) → Rep K ph S (.ref a) .dct0
  | own {a : Addr} {k : Nat} : ph.cells[k]? = some a → Rep K ph S (.ref a) (.own k)
  | exc {a C T dd : Addr} {x : Str} {v : V} {d : D} : XA.ErC K x C T → S a = some (erO a C dd) → S dd = some (.xd [(fVal, v)]) → Rep K ph S v d → Rep K ph S (.ref a) (.exc x d)
  | glb {a : Addr} {x : Str} : PySem.W.nsIn K mainGlobals x = some (some (.ref a)) → Rep K ph S (.ref a) (.glb x)
  | val (v : V) : Rep K ph S v (.val v)
inductive RepAll (K : PySem.W.Frag) (ph : Ph) (S : Hp) : List V → List D → Prop
  | nil : RepAll K ph S [] []
  | cons {v : V} {vs : List V} {d : D} {ds : List D} : Rep K ph S v d → RepAll K ph S vs ds → RepAll K ph S (v :: vs) (d :: ds)
end
structure Ext (ph : Ph) (S : Hp) (ph' : Ph) (S' : Hp) : Prop where
  pre : ∀ (k : Nat) (a : Addr), ph.cells[k]? = some a → ph'.cells[k]? = some a
  same : Same S S'
  hid : ph'.hid = ph.hid
theorem Ext.refl {ph : Ph} {S : Hp} : Ext ph S ph S := ⟨fun _ _ h => h, fun _ _ h => h, rfl⟩
theorem Ext.trans {ph ph1 ph2 : Ph} {S S1 S2 : Hp} (a : Ext ph S ph1 S1) (b : Ext ph1 S1 ph2 S2) : Ext ph S ph2 S2 :=
  ⟨fun k x h => b.pre k x (a.pre k x h), a.same.trans b.same, b.hid.trans a.hid⟩
section
variable {K : PySem.W.Frag} {ph ph' : Ph} {S S' : Hp}
mutual
theorem Rep.ext (x : Ext ph S ph' S') : ∀ (d : D) (v : V), Rep K ph S v d → Rep K ph' S' v d
  | .non, _, h => by cases h; exact .non
  | .bl _, _, h => by cases h; exact .bl _
  | .int _, _, h => by cases h; exact .int _
  | .str _, _, h => by cases h; exact .str _
  | .tup ds, _, h => by
    cases h with
    | tup h1 h2 => exact .tup (h1.ext x.same) (RepAll.ext x ds _ h2)
  | .lst ds, _, h => by
    cases h with
    | lst h1 h2 => exact .lst (x.same _ _ h1) (RepAll.ext x ds _ h2)
  | .dct0, _, h => by
    cases h with
    | dct0 h1 => exact .dct0 (x.same _ _ h1)
  | .scr ns, _, h => by
    cases h with
    | scr h1 => exact .scr (x.same.seq h1)
  | .own k, _, h => by
    cases h with
    | own h1 => exact .own (x.pre _ _ h1)
  | .glb _, _, h => by
    cases h with
    | glb h1 => exact .glb h1
  | .exc C d, _, h => by
    cases h with
    | exc h0 h1 h2 h3 => exact .exc h0 (x.same _ _ h1) (x.same _ _ h2) (Rep.ext x d _ h3)
  | .val v, _, h => by cases h; exact .val _
theorem RepAll.ext (x : Ext ph S ph' S') : ∀ (ds : List D) (vs : List V), RepAll K ph S vs ds → RepAll K ph' S' vs ds
  | [], _, h => by cases h; exact .nil
  | d :: ds, _, h => by
    cases h with
    | cons h1 h2 => exact .cons (Rep.ext x d _ h1) (RepAll.ext x ds _ h2)
end
theorem Rep.up {d : D} {v : V} (h : Rep K ph S v d) (x : Ext ph S ph' S') : Rep K ph' S' v d := Rep.ext x d v h
theorem RepAll.up {ds : List D} {vs : List V} (h : RepAll K ph S vs ds) (x : Ext ph S ph' S') : RepAll K ph' S' vs ds := RepAll.ext x ds vs h
theorem RepAll.len : ∀ {vs : List V} {ds : List D}, RepAll K ph S vs ds → vs.length = ds.length
  | _, _, .nil => rfl
  | _, _, .cons _ t => by rw [List.length_cons, List.length_cons, RepAll.len t]
theorem RepAll.get : ∀ {vs : List V} {ds : List D} {i : Nat} {d : D}, RepAll K ph S vs ds → ds[i]? = some d → ∃ v, vs[i]? = some v ∧ Rep K ph S v d
  | _, _, _, _, .nil, e => by simp at e
  | _, _, 0, _, .cons r _, e => by simp at e; subst e; exact ⟨_, rfl, r⟩
  | _, _, i + 1, _, .cons _ t, e => by
    obtain ⟨v, e1, r⟩ := RepAll.get (i := i) t (by simpa using e)
    exact ⟨v, by simpa using e1, r⟩
theorem RepAll.app : ∀ {vs ws : List V} {ds es : List D}, RepAll K ph S vs ds → RepAll K ph S ws es → RepAll K ph S (vs ++ ws) (ds ++ es)
  | _, _, _, _, .nil, q => q
  | _, _, _, _, .cons r t, q => .cons r (RepAll.app t q)
theorem RepAll.take : ∀ {vs : List V} {ds : List D} (n : Nat), RepAll K ph S vs ds → RepAll K ph S (vs.take n) (ds.take n)
  | _, _, 0, _ => .nil
  | _, _, _ + 1, .nil => .nil
  | _, _, n + 1, .cons r t => .cons r (RepAll.take n t)
theorem RepAll.drop : ∀ {vs : List V} {ds : List D} (n : Nat), RepAll K ph S vs ds → RepAll K ph S (vs.drop n) (ds.drop n)
  | _, _, 0, r => r
  | _, _, _ + 1, .nil => .nil
  | _, _, n + 1, .cons r t => RepAll.drop n t
theorem RepAll.set {v : V} {d : D} (r : Rep K ph S v d) : ∀ {vs : List V} {ds : List D} (i : Nat), RepAll K ph S vs ds → RepAll K ph S (vs.set i v) (ds.set i d)
  | _, _, _, .nil => .nil
  | _, _, 0, .cons _ t => .cons r t
  | _, _, i + 1, .cons q t => .cons q (RepAll.set r i t)
theorem RepAll.rep {v : V} {d : D} (r : Rep K ph S v d) : ∀ n : Nat, RepAll K ph S (List.replicate n v) (List.replicate n d)
  | 0 => .nil
  | n + 1 => .cons r (RepAll.rep r n)
theorem RepAll.ints : ∀ ns : List Int, RepAll K ph S (ns.map V.int) (ns.map D.int)
  | [] => .nil
  | n :: ns => .cons (.int n) (RepAll.ints ns)
end
/-- the state (σ, H) is told by the names' data ρ and the owned cells M -/
structure Sat (K : PySem.W.Frag) (ph : Ph) (S : Hp) (r : Env) (M : Mem) (σ : St) (H : Hp) : Prop where
  sub : Same S H
  len : ph.cells.length = M.length
  nd : ph.cells.Nodup
  trk : ∀ (k : Nat) (a : Addr), ph.cells[k]? = some a → ∃ o, H a = some o
  cell : ∀ (k : Nat) (ds : List D), M[k]? = some (.lst ds) → ∃ a xs, ph.cells[k]? = some a ∧ S a = none ∧ H a = some (.lst xs) ∧ RepAll K ph S xs ds
  hid : ∀ p ∈ ph.hid, H p.1 = some p.2 ∧ S p.1 = none ∧ p.1 ∉ ph.cells
  hnd : (ph.hid.map (·.1)).Nodup
  el : r.length = σ.length
  env : ∀ (i : Nat) (d : D), r[i]? = some (some d) → ∃ v, σ[i]? = some (some v) ∧ Rep K ph S v d
abbrev DQ := D → Mem → Prop
abbrev DTE := Env → Mem → DQ → Prop
abbrev DTT := Env → Mem → (Bool → Mem → Prop) → Prop
abbrev DTA := Env → Mem → (List D → Mem → Prop) → Prop
structure DEnds where
  nx : Env → Mem → Prop
  rt : DQ
  bk : Env → Mem → Prop := fun _ _ => False
  ct : Env → Mem → Prop := fun _ _ => False
abbrev DTS := DEnds → Env → Mem → Prop
/-- behind a piece, from (ph, S): the state as it is then, and what is wanted of it -/
def Aft (K : PySem.W.Frag) (ph : Ph) (S : Hp) (r : Env) (σ : St) (H : Hp) (Q : Ph → Hp → Mem → Prop) : Prop :=
  ∃ ph' S' M, Ext ph S ph' S' ∧ Sat K ph' S' r M σ H ∧ Q ph' S' M
def post (K : PySem.W.Frag) (ph : Ph) (S : Hp) (r : Env) (σ : St) (Q : DQ) : VK := fun v H => Aft K ph S r σ H fun ph' S' M => ∃ d, Rep K ph' S' v d ∧ Q d M
def postT (K : PySem.W.Frag) (ph : Ph) (S : Hp) (r : Env) (σ : St) (Q : Bool → Mem → Prop) : Bool → Hp → Prop := fun b H => Aft K ph S r σ H fun _ _ M => Q b M
def postA (K : PySem.W.Frag) (ph : Ph) (S : Hp) (r : Env) (σ : St) (Q : List D → Mem → Prop) : List V → Hp → Prop := fun vs H => Aft K ph S r σ H fun ph' S' M => ∃ ds, RepAll K ph' S' vs ds ∧ Q ds M
def postN (K : PySem.W.Frag) (ph : Ph) (S : Hp) (Q : Env → Mem → Prop) : St → Hp → Prop := fun σ H => ∃ r, Aft K ph S r σ H fun _ _ M => Q r M
/-- behind a return the names are gone -/
def postR (K : PySem.W.Frag) (ph : Ph) (S : Hp) (Q : DQ) : VK := fun v H => ∃ r σ, post K ph S r σ Q v H
structure DE (X : Cx) (e : Expr) (t : DTE) : Prop where
  pe : PE X e (fun σ H Q => ∃ ph S r M Q0, Sat X.K ph S r M σ H ∧ t r M Q0 ∧ ∀ v H', post X.K ph S r σ Q0 v H' → Q v H')
structure DT (X : Cx) (e : Expr) (t : DTT) : Prop where
  pt : PT X e (fun σ H Q => ∃ ph S r M Q0, Sat X.K ph S r M σ H ∧ t r M Q0 ∧ ∀ b H', postT X.K ph S r σ Q0 b H' → Q b H')
structure DW (X : Cx) (e : Expr) (t : DTT) : Prop where
  pw : PW X e (fun σ H Q => ∃ ph S r M Q0, Sat X.K ph S r M σ H ∧ t r M Q0 ∧ ∀ b H', postT X.K ph S r σ Q0 b H' → Q b H')
structure DA (X : Cx) (es : List Expr) (t : DTA) : Prop where
  pa : PA X es (fun σ H Q => ∃ ph S r M Q0, Sat X.K ph S r M σ H ∧ t r M Q0 ∧ ∀ vs H', postA X.K ph S r σ Q0 vs H' → Q vs H')
def lfS (K : PySem.W.Frag) (t : DTS) : TS := fun E σ H => ∃ ph S r M E0, Sat K ph S r M σ H ∧ t E0 r M ∧ (∀ σ' H', postN K ph S E0.nx σ' H' → E.nx σ' H') ∧ (∀ v H', postR K ph S E0.rt v H' → E.rt v H') ∧ (∀ σ' H', postN K ph S E0.bk σ' H' → E.bk σ' H') ∧ (∀ σ' H', postN K ph S E0.ct σ' H' → E.ct σ' H')
structure DS (X : Cx) (st : Stmt) (t : DTS) : Prop where
  ps : PS X st (lfS X.K t)
structure DSs (X : Cx) (sts : List Stmt) (t : DTS) : Prop where
  pss : PSs X sts (lfS X.K t)
/-! ### weakening the hand layer's judgements -/
section
variable {X : Cx}
theorem PE.weak {e : Expr} {t t' : TE} (h : PE X e t) (w : ∀ σ H Q, t' σ H Q → t σ H Q) : PE X e t' := ⟨fun pins s σ H Q I q => h.run pins s σ H Q I (w _ _ _ q)⟩
theorem PT.weak {e : Expr} {t t' : TT} (h : PT X e t) (w : ∀ σ H Q, t' σ H Q → t σ H Q) : PT X e t' := ⟨fun pins s σ H Q I q => h.run pins s σ H Q I (w _ _ _ q)⟩
theorem PW.weak {e : Expr} {t t' : TT} (h : PW X e t) (w : ∀ σ H Q, t' σ H Q → t σ H Q) : PW X e t' := ⟨fun wh pins s σ H Q I q => h.run wh pins s σ H Q I (w _ _ _ q)⟩
theorem PA.weak {e : List Expr} {t t' : TA} (h : PA X e t) (w : ∀ σ H Q, t' σ H Q → t σ H Q) : PA X e t' := ⟨fun pos pins s σ H Q I q => h.run pos pins s σ H Q I (w _ _ _ q)⟩
theorem PS.weak {e : Stmt} {t t' : TS} (h : PS X e t) (w : ∀ E σ H, t' E σ H → t E σ H) : PS X e t' := ⟨fun pins s σ H Q I q => h.run pins s σ H Q I (w _ _ _ q)⟩
theorem PSs.weak {e : List Stmt} {t t' : TS} (h : PSs X e t) (w : ∀ E σ H, t' E σ H → t E σ H) : PSs X e t' := ⟨fun pins s σ H Q I q => h.run pins s σ H Q I (w _ _ _ q)⟩
/-- from a rule of the hand layer -/
theorem DE.of {e : Expr} {t' : TE} {t : DTE} (h : PE X e t') (w : ∀ ph S r M σ H Q, Sat X.K ph S r M σ H → t r M Q → ∀ Q', (∀ v H', post X.K ph S r σ Q v H' → Q' v H') → t' σ H Q') : DE X e t :=
  ⟨PE.weak h fun σ H Q ⟨ph, S, r, M, Q0, hs, ht, hq⟩ => w ph S r M σ H Q0 hs ht Q hq⟩
theorem DT.of {e : Expr} {t' : TT} {t : DTT} (h : PT X e t') (w : ∀ ph S r M σ H Q, Sat X.K ph S r M σ H → t r M Q → ∀ Q', (∀ v H', postT X.K ph S r σ Q v H' → Q' v H') → t' σ H Q') : DT X e t :=
  ⟨PT.weak h fun σ H Q ⟨ph, S, r, M, Q0, hs, ht, hq⟩ => w ph S r M σ H Q0 hs ht Q hq⟩
theorem DW.of {e : Expr} {t' : TT} {t : DTT} (h : PW X e t') (w : ∀ ph S r M σ H Q, Sat X.K ph S r M σ H → t r M Q → ∀ Q', (∀ v H', postT X.K ph S r σ Q v H' → Q' v H') → t' σ H Q') : DW X e t :=
  ⟨PW.weak h fun σ H Q ⟨ph, S, r, M, Q0, hs, ht, hq⟩ => w ph S r M σ H Q0 hs ht Q hq⟩
theorem DA.of {e : List Expr} {t' : TA} {t : DTA} (h : PA X e t') (w : ∀ ph S r M σ H Q, Sat X.K ph S r M σ H → t r M Q → ∀ Q', (∀ v H', postA X.K ph S r σ Q v H' → Q' v H') → t' σ H Q') : DA X e t :=
  ⟨PA.weak h fun σ H Q ⟨ph, S, r, M, Q0, hs, ht, hq⟩ => w ph S r M σ H Q0 hs ht Q hq⟩
/-- the end of a reading: this value, this state -/
theorem Aft.here {K : PySem.W.Frag} {ph : Ph} {S : Hp} {r : Env} {σ : St} {H : Hp} {M : Mem} {Q : Ph → Hp → Mem → Prop} (h : Sat K ph S r M σ H) (q : Q ph S M) : Aft K ph S r σ H Q := ⟨ph, S, M, .refl, h, q⟩
theorem Aft.up {K : PySem.W.Frag} {ph ph1 : Ph} {S S1 : Hp} {r : Env} {σ : St} {H : Hp} {Q : Ph → Hp → Mem → Prop} (x : Ext ph S ph1 S1) (h : Aft K ph1 S1 r σ H Q) : Aft K ph S r σ H Q :=
  let ⟨ph', S', M, x', hs, q⟩ := h
  ⟨ph', S', M, x.trans x', hs, q⟩
/-! ### the simplest expressions -/
def dC (d : D) : DTE := fun _ M Q => Q d M
theorem de_c {e : Expr} {v : V} {d : D} (h : PE X e (tC v)) (hr : ∀ ph S, Rep X.K ph S v d) : DE X e (dC d) :=
  DE.of h fun ph S r M σ H Q hs ht Q' hq => hq _ _ (Aft.here hs ⟨d, hr _ _, ht⟩)
theorem de_int {i j pos} : DE X (.Constant (.int i) j pos) (dC (.int i)) := de_c pe_int fun _ _ => .int _
theorem de_bl {b j pos} : DE X (.Constant (.bool b) j pos) (dC (.bl b)) := de_c pe_bl fun _ _ => .bl _
theorem de_non {j pos} : DE X (.Constant .none j pos) (dC .non) := de_c pe_non fun _ _ => .non
theorem de_str {x j pos} : DE X (.Constant (.str x) j pos) (dC (.str x)) := de_c pe_str fun _ _ => .str _
def dVar (i : Nat) : DTE := fun r M Q => match r[i]? with
  | some (some d) => Q d M
  | _ => False
theorem de_var {e : Expr} (i : Nat) (h : PE X e (tVar i)) : DE X e (dVar i) :=
  DE.of h fun ph S r M σ H Q hs ht Q' hq => by
    unfold dVar at ht
    split at ht
    · rename_i d e
      obtain ⟨v, e1, rv⟩ := hs.env i d e
      exact ⟨v, e1, hq _ _ (Aft.here hs ⟨d, rv, ht⟩)⟩
    · exact ht.elim
/-- the name in slot i -/
theorem dv (i : Nat) {x : Str} {pos : Pos} (hN : X.N[i]? = some x := by rfl) (hv : Vis X.env.scope x := by first | exact Or.inl rfl | exact Or.inr (Or.inl rfl) | exact Or.inr (Or.inr rfl)) (hd : (x == ("__debug__" : Str)) = false := by decide)
    (hcd : (x == ("__classdict__" : Str)) = false := by decide) : DE X (.Name x pos) (dVar i) := de_var i (pe_var hN hv hd hcd)
theorem de_globI {x : Str} {i : Int} {t : Tok} {pos : Pos} (hg : Gl X x) (hm : X.mg x = some (.int i t)) (hd : (x == ("__debug__" : Str)) = false := by decide) : DE X (.Name x pos) (dC (.int i)) :=
  de_c (pe_glob (v := .int i) hg hm ⟨t, rfl⟩ hd) fun _ _ => .int _
end
end DL
/-! DL2: heaps that change; data as PyData; operators -/
namespace DL
open PySem PySem.Spec PyProof.Rows L2
mutual
def toPy : D → Option PyData
  | .non => some .none
  | .bl b => some (.bool b)
  | .int i => some (.int i)
  | .str x => some (.str x)
  | .tup l => match toPyAll l with
    | some ps => some (.tuple ps)
    | none => none
  | .lst l => match toPyAll l with
    | some ps => some (.list ps)
    | none => none
  | .dct0 => some (.dict [])
  | .scr _ => none
  | .own _ => none
  | .exc _ _ => none
  | .glb _ => none
  | .val _ => none
def toPyAll : List D → Option (List PyData)
  | [] => some []
  | d :: ds => match toPy d, toPyAll ds with
    | some p, some ps => some (p :: ps)
    | _, _ => none
end
section
variable {K : PySem.W.Frag} {ph ph' : Ph} {S S' : Hp} {r : Env} {M : Mem} {σ : St} {H : Hp} {p : Addr}
mutual
theorem Rep.hidP {c : List Addr} {l l' : List (Addr × HO)} : ∀ (d : D) (v : V), Rep K ⟨c, l⟩ S v d → Rep K ⟨c, l'⟩ S v d
  | .non, _, h => by cases h; exact .non
  | .bl _, _, h => by cases h; exact .bl _
  | .int _, _, h => by cases h; exact .int _
  | .str _, _, h => by cases h; exact .str _
  | .tup ds, _, h => by
    cases h with
    | tup h1 h2 => exact .tup h1 (RepAll.hidP ds _ h2)
  | .lst ds, _, h => by
    cases h with
    | lst h1 h2 => exact .lst h1 (RepAll.hidP ds _ h2)
  | .dct0, _, h => by
    cases h with
    | dct0 h1 => exact .dct0 h1
  | .scr ns, _, h => by
    cases h with
    | scr h1 => exact .scr h1
  | .own k, _, h => by
    cases h with
    | own h1 => exact .own h1
  | .glb _, _, h => by
    cases h with
    | glb h1 => exact .glb h1
  | .exc C d, _, h => by
    cases h with
    | exc h0 h1 h2 h3 => exact .exc h0 h1 h2 (Rep.hidP d _ h3)
  | .val v, _, h => by cases h; exact .val _
theorem RepAll.hidP {c : List Addr} {l l' : List (Addr × HO)} : ∀ (ds : List D) (vs : List V), RepAll K ⟨c, l⟩ S vs ds → RepAll K ⟨c, l'⟩ S vs ds
  | [], _, h => by cases h; exact .nil
  | d :: ds, _, h => by
    cases h with
    | cons h1 h2 => exact .cons (Rep.hidP d _ h1) (RepAll.hidP ds _ h2)
end
theorem Rep.hid {c : List Addr} {l l' : List (Addr × HO)} {d : D} {v : V} (h : Rep K ⟨c, l⟩ S v d) : Rep K ⟨c, l'⟩ S v d := Rep.hidP d v h
theorem RepAll.hid {c : List Addr} {l l' : List (Addr × HO)} {d : List D} {v : List V} (h : RepAll K ⟨c, l⟩ S v d) : RepAll K ⟨c, l'⟩ S v d := RepAll.hidP d v h
theorem Sat.read {d : D} {v : V} (h : Sat K ph S r M σ H) (q : Rep K ph S v d) : Rep K ph H v d := q.up ⟨fun _ _ e => e, h.sub, rfl⟩
theorem Sat.readAll {d : List D} {v : List V} (h : Sat K ph S r M σ H) (q : RepAll K ph S v d) : RepAll K ph H v d := q.up ⟨fun _ _ e => e, h.sub, rfl⟩
theorem Sat.noS (h : Sat K ph S r M σ H) (hp : H p = none) : S p = none := h.sub.free hp
theorem Sat.notin (h : Sat K ph S r M σ H) (hp : H p = none) : ∀ (k : Nat), ph.cells[k]? ≠ some p := fun k e => by
  obtain ⟨o, ho⟩ := h.trk k p e
  rw [hp] at ho; cases ho
theorem sameUpd {p : Addr} {o : HO} (h : H p = none) : Same H (upd H p o) := fun b x e => by
  rw [upd_ne (ne_of_none e h)]
  exact e
/-- a new object that is only read -/
theorem Sat.frz (h : Sat K ph S r M σ H) (hp : H p = none) (o : HO) : Ext ph S ph (upd S p o) ∧ Sat K ph (upd S p o) r M σ (upd H p o) := by
  have x : Ext ph S ph (upd S p o) := ⟨fun _ _ e => e, sameUpd (h.noS hp), rfl⟩
  refine ⟨x, fun b y e => ?_, h.len, h.nd, fun k a e => ?_, fun k ds e => ?_, fun q hq => ?_, h.hnd, h.el, fun i d e => ?_⟩
  · by_cases hb : b = p
    · rw [hb, upd_same] at e ⊢
      exact e
    · rw [upd_ne hb] at e ⊢
      exact h.sub b y e
  · obtain ⟨u, hu⟩ := h.trk k a e
    exact ⟨u, sameUpd hp _ _ hu⟩
  · obtain ⟨a, xs, h1, h2, h3, h4⟩ := h.cell k ds e
    have ne : a ≠ p := fun z => by rw [z, hp] at h3; cases h3
    refine ⟨a, xs, h1, ?_, ?_, h4.up x⟩
    · rw [upd_ne ne]; exact h2
    · rw [upd_ne ne]; exact h3
  · obtain ⟨h1, h2, h3⟩ := h.hid q hq
    have ne : q.1 ≠ p := fun z => by rw [z, hp] at h1; cases h1
    exact ⟨by rw [upd_ne ne]; exact h1, by rw [upd_ne ne]; exact h2, h3⟩
  · obtain ⟨v, e1, q⟩ := h.env i d e
    exact ⟨v, e1, q.up x⟩
/-- a new list that may be changed -/
theorem Sat.new (h : Sat K ph S r M σ H) (hp : H p = none) {xs : List V} {ds : List D} (hr : RepAll K ph S xs ds) :
    Ext ph S (ph.add p) S ∧ Sat K (ph.add p) S r (M ++ [.lst ds]) σ (upd H p (.lst xs)) ∧ (ph.add p).cells[M.length]? = some p := by
  have x : Ext ph S (ph.add p) S := ⟨fun k a e => by
    rw [List.getElem?_append_left (List.getElem?_eq_some_iff.mp e).1]; exact e, fun _ _ e => e, rfl⟩
  have here : (ph.add p).cells[M.length]? = some p := by
    rw [← h.len, List.getElem?_append_right (Nat.le_refl _), Nat.sub_self]; rfl
  have old : ∀ (k : Nat) (a : Addr), (ph.add p).cells[k]? = some a → ph.cells[k]? = some a ∨ (k = ph.cells.length ∧ a = p) := fun k a e => by
    by_cases hk : k < ph.cells.length
    · rw [List.getElem?_append_left hk] at e
      exact .inl e
    · rw [List.getElem?_append_right (by omega)] at e
      cases hk' : k - ph.cells.length with
      | zero =>
        rw [hk'] at e
        exact .inr ⟨by omega, (Option.some.inj e).symm⟩
      | succ n => rw [hk'] at e; simp at e
  refine ⟨x, ⟨fun b y e => sameUpd hp _ _ (h.sub b y e), by rw [List.length_append, List.length_append, h.len]; rfl, ?_, fun k a e => ?_, fun k es e => ?_, fun q hq => ?_, h.hnd, h.el, fun i d e => ?_⟩, here⟩
  · rw [List.nodup_append]
    refine ⟨h.nd, by simp, fun a ha b hb z => ?_⟩
    have hb' : b = p := by simpa using hb
    obtain ⟨k, hk⟩ := List.mem_iff_getElem?.mp ha
    exact h.notin hp k (by rw [hk, z, hb'])
  · rcases old k a e with q | ⟨_, q⟩
    · obtain ⟨u, hu⟩ := h.trk k a q
      exact ⟨u, sameUpd hp _ _ hu⟩
    · exact ⟨_, by rw [q, upd_same]⟩
  · by_cases hk : k < M.length
    · rw [List.getElem?_append_left hk] at e
      obtain ⟨a, ys, h1, h2, h3, h4⟩ := h.cell k es e
      exact ⟨a, ys, x.pre _ _ h1, h2, sameUpd hp _ _ h3, h4.up x⟩
    · rw [List.getElem?_append_right (by omega)] at e
      cases hk' : k - M.length with
      | succ n => rw [hk'] at e; simp at e
      | zero =>
        rw [hk'] at e
        have e' : ds = es := by simpa using e
        have k' : k = M.length := by omega
        subst e'
        subst k'
        exact ⟨p, xs, here, h.noS hp, upd_same, hr.up x⟩
  · obtain ⟨h1, h2, h3⟩ := h.hid q hq
    have ne : q.1 ≠ p := fun z => by rw [z, hp] at h1; cases h1
    exact ⟨by rw [upd_ne ne]; exact h1, h2, fun z => (List.mem_append.mp z).elim h3 fun z => ne (by simpa using z)⟩
  · obtain ⟨v, e1, q⟩ := h.env i d e
    exact ⟨v, e1, q.up x⟩
theorem nd_ix {l : List Addr} (hN : l.Nodup) {i j : Nat} {x : Addr} (a : l[i]? = some x) (b : l[j]? = some x) : i = j := by
  obtain ⟨h1, e1⟩ := List.getElem?_eq_some_iff.mp a
  obtain ⟨h2, e2⟩ := List.getElem?_eq_some_iff.mp b
  exact (List.getElem_inj hN).mp (e1.trans e2.symm)
/-- an owned list is changed -/
theorem Sat.put (h : Sat K ph S r M σ H) {k : Nat} {ds es : List D} {xs : List V} (hk : M[k]? = some (.lst ds)) {a : Addr} (ha : ph.cells[k]? = some a) (hr : RepAll K ph S xs es) :
    Sat K ph S r (M.set k (.lst es)) σ (upd H a (.lst xs)) := by
  obtain ⟨a', ys, h1, h2, h3, h4⟩ := h.cell k ds hk
  rw [ha] at h1
  cases h1
  have kl : k < M.length := (List.getElem?_eq_some_iff.mp hk).1
  refine ⟨fun b y e => ?_, by rw [List.length_set]; exact h.len, h.nd, fun j b e => ?_, fun j fs e => ?_, fun q hq => ?_, h.hnd, h.el, h.env⟩
  · rw [upd_ne (fun z => by rw [z, h2] at e; cases e)]
    exact h.sub b y e
  · by_cases hb : b = a
    · exact ⟨_, by rw [hb, upd_same]⟩
    · rw [upd_ne hb]; exact h.trk j b e
  · by_cases hj : j = k
    · subst hj
      rw [List.getElem?_set_self kl] at e
      cases e
      exact ⟨a, xs, ha, h2, upd_same, hr⟩
    · rw [List.getElem?_set_ne (Ne.symm hj)] at e
      obtain ⟨b, zs, q1, q2, q3, q4⟩ := h.cell j fs e
      have nb : b ≠ a := fun z => by rw [z] at q1; exact hj (nd_ix h.nd q1 ha)
      exact ⟨b, zs, q1, q2, by rw [upd_ne nb]; exact q3, q4⟩
  · obtain ⟨h1, h2, h3⟩ := h.hid q hq
    have ne : q.1 ≠ a := fun z => h3 (by rw [z]; exact List.mem_of_getElem? ha)
    exact ⟨by rw [upd_ne ne]; exact h1, h2, h3⟩
/-- the names change -/
theorem Sat.setN (h : Sat K ph S r M σ H) {i : Nat} {d : D} {v : V} (q : Rep K ph S v d) : Sat K ph S (r.set i (some d)) M (σ.set i (some v)) H := by
  refine ⟨h.sub, h.len, h.nd, h.trk, h.cell, h.hid, h.hnd, by rw [List.length_set, List.length_set]; exact h.el, fun j e hj => ?_⟩
  by_cases hi : j = i
  · subst hi
    have jl : j < r.length := by
      have := (List.getElem?_eq_some_iff.mp hj).1
      rwa [List.length_set] at this
    rw [List.getElem?_set_self jl] at hj
    cases hj
    exact ⟨v, by rw [List.getElem?_set_self (by rw [← h.el]; exact jl)], q⟩
  · rw [List.getElem?_set_ne (Ne.symm hi)] at hj
    rw [List.getElem?_set_ne (Ne.symm hi)]
    exact h.env j e hj
/-- a new list, out of sight while it is made -/
theorem Sat.hide (h : Sat K ph S r M σ H) (hp : H p = none) (o : HO) : Sat K { ph with hid := (p, o) :: ph.hid } S r M σ (upd H p o) := by
  refine ⟨fun b y e => sameUpd hp _ _ (h.sub b y e), h.len, h.nd, fun k a e => ?_, fun k ds e => ?_, fun q hq => ?_, ?_, h.el, fun i d e => ?_⟩
  · obtain ⟨u, hu⟩ := h.trk k a e
    exact ⟨u, sameUpd hp _ _ hu⟩
  · obtain ⟨a, xs, h1, h2, h3, h4⟩ := h.cell k ds e
    exact ⟨a, xs, h1, h2, sameUpd hp _ _ h3, RepAll.hid h4⟩
  · rcases List.mem_cons.mp hq with e | hq
    · rw [e]
      exact ⟨upd_same, h.noS hp, fun z => by
        obtain ⟨k, hk⟩ := List.mem_iff_getElem?.mp z
        exact h.notin hp k hk⟩
    · obtain ⟨h1, h2, h3⟩ := h.hid q hq
      exact ⟨sameUpd hp _ _ h1, h2, h3⟩
  · refine List.nodup_cons.mpr ⟨fun z => ?_, h.hnd⟩
    obtain ⟨q, hq, e⟩ := List.mem_map.mp z
    obtain ⟨h1, _, _⟩ := h.hid q hq
    have e' : q.1 = p := e
    rw [e', hp] at h1; cases h1
  · obtain ⟨v, e1, q⟩ := h.env i d e
    exact ⟨v, e1, Rep.hid q⟩
theorem hid_ne {p : Addr} {o : HO} {l : List (Addr × HO)} (h : ((p, o) :: l).map (·.1) |>.Nodup) : ∀ q ∈ l, q.1 ≠ p := fun q hq e =>
  (List.nodup_cons.mp h).1 (List.mem_map.mpr ⟨q, hq, e⟩)
/-- the hidden list changes -/
theorem Sat.hset {o o' : HO} {l : List (Addr × HO)} {c : List Addr} (h : Sat K ⟨c, (p, o) :: l⟩ S r M σ H) : Sat K ⟨c, (p, o') :: l⟩ S r M σ (upd H p o') := by
  obtain ⟨g1, g2, g3⟩ := h.hid _ List.mem_cons_self
  have nS : ∀ b y, S b = some y → b ≠ p := fun b y e z => by rw [z, g2] at e; cases e
  have nc : ∀ (k : Nat) (a : Addr), c[k]? = some a → a ≠ p := fun k a e z => g3 (by rw [← z]; exact List.mem_of_getElem? e)
  refine ⟨fun b y e => by rw [upd_ne (nS b y e)]; exact h.sub b y e, h.len, h.nd, fun k a e => ?_, fun k ds e => ?_, fun q hq => ?_, h.hnd, h.el, fun i d e => ?_⟩
  · obtain ⟨u, hu⟩ := h.trk k a e
    exact ⟨u, by rw [upd_ne (nc k a e)]; exact hu⟩
  · obtain ⟨a, xs, h1, h2, h3, h4⟩ := h.cell k ds e
    exact ⟨a, xs, h1, h2, by rw [upd_ne (nc k a h1)]; exact h3, RepAll.hid h4⟩
  · rcases List.mem_cons.mp hq with e | hq
    · rw [e]
      exact ⟨upd_same, g2, g3⟩
    · obtain ⟨h1, h2, h3⟩ := h.hid q (List.mem_cons_of_mem _ hq)
      exact ⟨by rw [upd_ne (hid_ne h.hnd q hq)]; exact h1, h2, h3⟩
  · obtain ⟨v, e1, q⟩ := h.env i d e
    exact ⟨v, e1, Rep.hid q⟩
/-- the hidden list is done: it is only read from now on -/
theorem Sat.hfrz {o : HO} {l : List (Addr × HO)} {c : List Addr} (h : Sat K ⟨c, (p, o) :: l⟩ S r M σ H) : Ext ⟨c, l⟩ S ⟨c, l⟩ (upd S p o) ∧ Sat K ⟨c, l⟩ (upd S p o) r M σ H := by
  obtain ⟨g1, g2, g3⟩ := h.hid _ List.mem_cons_self
  have x : Ext ⟨c, l⟩ S ⟨c, l⟩ (upd S p o) := ⟨fun _ _ e => e, sameUpd g2, rfl⟩
  refine ⟨x, fun b y e => ?_, h.len, h.nd, h.trk, fun k ds e => ?_, fun q hq => ?_, (List.nodup_cons.mp h.hnd).2, h.el, fun i d e => ?_⟩
  · by_cases hb : b = p
    · rw [hb, upd_same] at e
      rw [hb, ← e]; exact g1
    · rw [upd_ne hb] at e
      exact h.sub b y e
  · obtain ⟨a, xs, h1, h2, h3, h4⟩ := h.cell k ds e
    have ne : a ≠ p := fun z => g3 (by rw [← z]; exact List.mem_of_getElem? h1)
    exact ⟨a, xs, h1, by rw [upd_ne ne]; exact h2, h3, (RepAll.hid h4).up x⟩
  · obtain ⟨h1, h2, h3⟩ := h.hid q (List.mem_cons_of_mem _ hq)
    exact ⟨h1, by rw [upd_ne (hid_ne h.hnd q hq)]; exact h2, h3⟩
  · obtain ⟨v, e1, q⟩ := h.env i d e
    exact ⟨v, e1, (Rep.hid q).up x⟩
/-- .. or it is owned from now on -/
theorem Sat.hown {xs : List V} {ds : List D} {l : List (Addr × HO)} {c : List Addr} (h : Sat K ⟨c, (p, .lst xs) :: l⟩ S r M σ H) (q : RepAll K ⟨c, l⟩ S xs ds) :
    Ext ⟨c, l⟩ S ⟨c ++ [p], l⟩ S ∧ Sat K ⟨c ++ [p], l⟩ S r (M ++ [.lst ds]) σ H ∧ (c ++ [p])[M.length]? = some p := by
  obtain ⟨g1, g2, g3⟩ := h.hid _ List.mem_cons_self
  have hl : c.length = M.length := h.len
  have x : Ext ⟨c, l⟩ S ⟨c ++ [p], l⟩ S := ⟨fun k a e => by
    show (c ++ [p])[k]? = _
    rw [List.getElem?_append_left (List.getElem?_eq_some_iff.mp e).1]; exact e, fun _ _ e => e, rfl⟩
  have here : (c ++ [p])[M.length]? = some p := by rw [← hl, List.getElem?_append_right (Nat.le_refl _), Nat.sub_self]; rfl
  have old : ∀ (k : Nat) (a : Addr), (c ++ [p])[k]? = some a → c[k]? = some a ∨ a = p := fun k a e => by
    by_cases hk : k < c.length
    · rw [List.getElem?_append_left hk] at e
      exact .inl e
    · rw [List.getElem?_append_right (by omega)] at e
      cases hk' : k - c.length with
      | zero => rw [hk'] at e; exact .inr (Option.some.inj e).symm
      | succ n => rw [hk'] at e; simp at e
  refine ⟨x, ⟨h.sub, ?_, ?_, fun k a e => ?_, fun k es e => ?_, fun q hq => ?_, (List.nodup_cons.mp h.hnd).2, h.el, fun i d e => ?_⟩, here⟩
  · show (c ++ [p]).length = _
    rw [List.length_append, List.length_append, hl]; rfl
  · show (c ++ [p]).Nodup
    rw [List.nodup_append]
    exact ⟨h.nd, by simp, fun a ha b hb z => g3 (by rw [show b = p by simpa using hb] at z; rw [← z]; exact ha)⟩
  · rcases old k a e with z | z
    · exact h.trk k a z
    · exact ⟨_, by rw [z]; exact g1⟩
  · by_cases hk : k < M.length
    · rw [List.getElem?_append_left hk] at e
      obtain ⟨a, ys, h1, h2, h3, h4⟩ := h.cell k es e
      exact ⟨a, ys, x.pre _ _ h1, h2, h3, (RepAll.hid h4).up x⟩
    · rw [List.getElem?_append_right (by omega)] at e
      cases hk' : k - M.length with
      | succ n => rw [hk'] at e; simp at e
      | zero =>
        rw [hk'] at e
        have e' : ds = es := by simpa using e
        have k' : k = M.length := by omega
        subst e'
        subst k'
        exact ⟨p, xs, here, g2, g1, q.up x⟩
  · obtain ⟨h1, h2, h3⟩ := h.hid q (List.mem_cons_of_mem _ hq)
    exact ⟨h1, h2, fun z => by
      rcases List.mem_append.mp z with z | z
      · exact h3 z
      · exact hid_ne h.hnd q hq (by simpa using z)⟩
  · obtain ⟨v, e1, q⟩ := h.env i d e
    exact ⟨v, e1, (Rep.hid q).up x⟩
/-! ### data as the library's data -/
variable {X : Cx} {pins : List (Addr × Obj)} {s : Shared}
mutual
theorem Rep.reads (I : Inv X pins σ H s) : ∀ (d : D) (v : V) (u : Value) (p : PyData), Rep X.K ph H v d → RelV v u → toPy d = some p → ∃ as, Reads s.heap u p as ∧ ∀ a ∈ as, H a ≠ none
  | .non, _, _, _, h, rv, e => by cases h; cases rv; cases e; exact ⟨_, .none, fun _ z => nomatch z⟩
  | .bl _, _, _, _, h, rv, e => by cases h; cases rv; cases e; exact ⟨_, .bool _, fun _ z => nomatch z⟩
  | .int _, _, _, _, h, rv, e => by cases h; obtain ⟨t, rfl⟩ := rv; cases e; exact ⟨_, .int _ _, fun _ z => nomatch z⟩
  | .str _, _, _, _, h, rv, e => by cases h; obtain ⟨t, rfl⟩ := rv; cases e; exact ⟨_, .str _ _, fun _ z => nomatch z⟩
  | .tup ds, _, _, _, h, rv, e => by
    cases h with
    | tup h1 h2 =>
      cases rv
      simp only [toPy] at e
      split at e
      · rename_i ps ep
        cases e
        obtain ⟨its, rx, ⟨o, ho, hc, n, hd⟩, _⟩ := I.tuple (h1.sq fun _ _ z => z)
        obtain ⟨as, q, qa⟩ := RepAll.reads I ds _ its ps h2 rx ep
        exact ⟨_, .tuple ho hc hd q, qa⟩
      · cases e
  | .lst ds, _, _, _, h, rv, e => by
    cases h with
    | lst h1 h2 =>
      cases rv
      simp only [toPy] at e
      split at e
      · rename_i ps ep
        cases e
        obtain ⟨its, rx, ⟨o, n, ho, hc, _, hd⟩, _⟩ := I.list (SqL.of h1)
        obtain ⟨as, q, qa⟩ := RepAll.reads I ds _ its ps h2 rx ep
        refine ⟨_, .list ho hc hd q, fun a ha => ?_⟩
        rcases List.mem_cons.mp ha with e | ha
        · rw [e, h1]; exact fun z => nomatch z
        · exact qa a ha
      · cases e
  | .dct0, _, _, _, h, rv, e => by
    cases h with
    | dct0 h1 =>
      cases rv
      cases e
      obtain ⟨_, _, vs, hk, o, es, ep, ho, hx, hd, _, he, _⟩ := I.hok _ _ h1
      cases hk
      have e0 : es = #[] := by
        cases es with
        | mk l =>
          cases l with
          | nil => rfl
          | cons x l => exact nomatch he
      subst e0
      refine ⟨_, .dict ho hx.1 hd .nil .nil, fun a ha => ?_⟩
      simp at ha
      rw [ha, h1]; exact fun z => nomatch z
  | .scr ns, _, _, _, _, _, e => by cases e
  | .own _, _, _, _, _, _, e => by cases e
  | .exc _ _, _, _, _, _, _, e => by cases e
  | .glb _, _, _, _, _, _, e => by cases e
  | .val _, _, _, _, _, _, e => by cases e
theorem RepAll.reads (I : Inv X pins σ H s) : ∀ (ds : List D) (vs : List V) (us : List Value) (ps : List PyData), RepAll X.K ph H vs ds → Vals vs us → toPyAll ds = some ps → ∃ as, ReadsAll s.heap us ps as ∧ ∀ a ∈ as, H a ≠ none
  | [], _, _, _, h, rv, e => by cases h; cases rv; cases e; exact ⟨_, .nil, fun _ z => nomatch z⟩
  | d :: ds, _, _, _, h, rv, e => by
    cases h with
    | cons h1 h2 =>
      cases rv with
      | cons r1 r2 =>
        simp only [toPyAll] at e
        split at e
        · rename_i p ps ep eps
          cases e
          obtain ⟨as, q1, a1⟩ := Rep.reads I d _ _ p h1 r1 ep
          obtain ⟨bs, q2, a2⟩ := RepAll.reads I ds _ _ ps h2 r2 eps
          refine ⟨_, .cons q1 q2, fun a ha => ?_⟩
          rcases List.mem_append.mp ha with ha | ha
          · exact a1 a ha
          · exact a2 a ha
        · cases e
end
end
end DL
/-! DL3: operators, comparisons, truth, displays -/
namespace DL
open PySem PySem.Spec PyProof.Rows L2
variable {X : Cx}
/-! ### two values -/
abbrev G2 := D → D → Mem → DQ → Prop
def OpD (X : Cx) (f : Value → Value → Sem Value) (g : G2) : Prop :=
  ∀ (pins : List (Addr × Obj)) (s : Shared) (σ : St) (H : Hp) (ph : Ph) (S : Hp) (r : Env) (M : Mem) (x y : V) (dx dy : D) (v u : Value) (Q : DQ),
    Inv X pins σ H s → Sat X.K ph S r M σ H → RelV x v → RelV y u → Rep X.K ph S x dx → Rep X.K ph S y dy → g dx dy M Q →
    wpAny (model X.prog X.w) X.A (f v u) (EP X pins σ (post X.K ph S r σ Q)) X.xe s
theorem OpD.of {f : Value → Value → Sem Value} {r2 : R2} {g : G2} (h : OpR X f r2)
    (w : ∀ (σ : St) (H : Hp) (ph : Ph) (S : Hp) (r : Env) (M : Mem) (x y : V) (dx dy : D) (Q : DQ), Sat X.K ph S r M σ H → Rep X.K ph S x dx → Rep X.K ph S y dy → g dx dy M Q → r2 x y H (post X.K ph S r σ Q)) : OpD X f g :=
  fun pins s σ H ph S r M x y dx dy v u Q I hs rx ry qx qy hg => h pins s σ H x y v u _ I rx ry (w σ H ph S r M x y dx dy Q hs qx qy hg)
theorem binD {a b : Expr} {ta tb : DTE} (ha : DE X a ta) (hb : DE X b tb) {pins : List (Addr × Obj)} {s : Shared} {σ : St} {H : Hp} {ph : Ph} {S : Hp} {r : Env} {M : Mem} {g : D → D → Mem → Prop}
    (I : Inv X pins σ H s) (hs : Sat X.K ph S r M σ H) (h : ta r M fun x M1 => tb r M1 fun y M2 => g x y M2) {α : Type} {Q : α → Shared → Prop} {f : Value → Value → Sem α}
    (hf : ∀ v u s2 x y dx dy H2 ph2 S2 M2, Ext ph S ph2 S2 → Inv X pins σ H2 s2 → Sat X.K ph2 S2 r M2 σ H2 → RelV x v → RelV y u → Rep X.K ph2 S2 x dx → Rep X.K ph2 S2 y dy → g dx dy M2 → wpAny (model X.prog X.w) X.A (f v u) Q X.xe s2) :
    wpAny (model X.prog X.w) X.A (eval a X.env) (fun v s1 => wpAny (model X.prog X.w) X.A (eval b X.env) (fun u s2 => wpAny (model X.prog X.w) X.A (f v u) Q X.xe s2) X.xe s1) X.xe s := by
  refine thn (ha.pe.run pins s σ H _ I ⟨ph, S, r, M, _, hs, h, fun _ _ q => q⟩) fun v s1 ⟨x, H1, I1, r1, ph1, S1, M1, x1, hs1, dx, q1, h1⟩ => ?_
  refine thn (hb.pe.run pins s1 σ H1 _ I1 ⟨ph1, S1, r, M1, _, hs1, h1, fun _ _ q => q⟩) fun u s2 ⟨y, H2, I2, r2, ph2, S2, M2, x2, hs2, dy, q2, h2⟩ => ?_
  exact hf v u s2 x y dx dy H2 ph2 S2 M2 (x1.trans x2) I2 hs2 r1 r2 (q1.up x2) q2 h2
def dOp (g : G2) (ta tb : DTE) : DTE := fun r M Q => ta r M fun x M1 => tb r M1 fun y M2 => g x y M2 Q
theorem EP.up {pins : List (Addr × Obj)} {σ : St} {ph ph1 : Ph} {S S1 : Hp} {r : Env} {Q : DQ} {u : Value} {s : Shared} (x : Ext ph S ph1 S1) (h : EP X pins σ (post X.K ph1 S1 r σ Q) u s) {Q' : VK} (w : ∀ v H', post X.K ph S r σ Q v H' → Q' v H') : EP X pins σ Q' u s :=
  let ⟨v, H', I, rv, q⟩ := h
  ⟨v, H', I, rv, w _ _ (Aft.up x q)⟩
theorem de_op {a b : Expr} {ta tb : DTE} {op : Operator} {g : G2} {pos : Pos} (ho : OpD X (binaryOp op) g) (ha : DE X a ta) (hb : DE X b tb) : DE X (.BinOp a op b pos) (dOp g ta tb) :=
  ⟨⟨fun pins s σ H Q I ⟨ph, S, r, M, Q0, hs, ht, hq⟩ => wpAny_BinOp (binD ha hb I hs ht fun v u s2 x y dx dy H2 ph2 S2 M2 x2 I2 hs2 rx ry qx qy h =>
    thn (ho pins s2 σ H2 ph2 S2 r M2 x y dx dy v u Q0 I2 hs2 rx ry qx qy h) fun _ _ q => EP.up x2 q hq)⟩⟩
theorem de_cmp {a b : Expr} {ta tb : DTE} {op : CmpOp} {g : G2} {pos : Pos} (ho : OpD X (compareOp op) g) (ha : DE X a ta) (hb : DE X b tb) (hm : behindInMarks op b = false) : DE X (.Compare a [op] [b] pos) (dOp g ta tb) :=
  ⟨⟨fun pins s σ H Q I ⟨ph, S, r, M, Q0, hs, ht, hq⟩ => wpAny_Compare1 (binD ha hb I hs ht fun v u s2 x y dx dy H2 ph2 S2 M2 x2 I2 hs2 rx ry qx qy h =>
    thn (ho pins s2 σ H2 ph2 S2 r M2 x y dx dy v u Q0 I2 hs2 rx ry qx qy h) fun _ _ q => EP.up x2 q hq) hm⟩⟩
/-! ### arithmetic -/
/-- of moderate size -/
def Sm (i : Int) : Prop := i.natAbs.log2 < 400000
theorem Sm.of {i : Int} (n : Nat) (h : i.natAbs < 2 ^ n) (hn : n ≤ 400000 := by decide) : Sm i := by
  unfold Sm
  by_cases h0 : i.natAbs = 0
  · rw [h0]; decide
  · exact Nat.lt_of_lt_of_le ((Nat.log2_lt h0).mpr h) hn
def rBin (C : Int → Int → Prop) (f : Int → Int → Int) : G2 := fun x y M Q => match x, y with
  | .int i, .int j => C i j ∧ Q (.int (f i j)) M
  | _, _ => False
theorem opd_int {F : Value → Value → Sem Value} {C : Int → Int → Prop} {f : Int → Int → Int} (h : OpR X F (rI C fun i j => .int (f i j))) : OpD X F (rBin C f) :=
  OpD.of h fun σ H ph S r M x y dx dy Q hs rx ry hg => by
    cases dx <;> cases dy <;> first | exact hg.elim | skip
    cases rx; cases ry
    exact ⟨_, _, rfl, rfl, hg.1, Aft.here hs ⟨_, .int _, hg.2⟩⟩
theorem opd_sub : OpD X (binaryOp .Sub) (rBin (fun _ _ => True) fun i j => i - j) := opd_int (fun pins s σ H x y v u Q I r1 r2 ⟨i, j, e1, e2, _, q⟩ => op_sub pins s σ H x y v u Q I r1 r2 ⟨i, j, e1, e2, q⟩)
def CMul (i j : Int) : Prop := Sm i ∧ Sm j
def CDiv (_ j : Int) : Prop := j ≠ 0 ∧ j.natAbs.log2 < 9000
def CMod (_ j : Int) : Prop := j ≠ 0
def CPow (a n : Int) : Prop := 0 ≤ n ∧ (Builtin.Int.intBits a : Int) * n ≤ 2 ^ 27
theorem opd_mulI : OpD X (binaryOp .Mult) (rBin CMul fun i j => i * j) := opd_int (fun pins s σ H x y v u Q I r1 r2 ⟨i, j, e1, e2, c, q⟩ => op_mulW pins s σ H x y v u Q I r1 r2 ⟨i, j, e1, e2, by have h1 := c.1; have h2 := c.2; unfold Sm at h1 h2; unfold L2.CMulW; omega, q⟩)
theorem op_fdivG : OpR X (binaryOp .FloorDiv) (rI CDiv fun i j => .int (i.fdiv j)) := opI fun i j _ _ _ _ _ hc q => floordiv_int hc.1 q (.inl (PyProof.noPylong_of_log2 hc.2))
theorem opd_fdiv : OpD X (binaryOp .FloorDiv) (rBin CDiv fun i j => i.fdiv j) := opd_int op_fdivG
theorem opd_mod : OpD X (binaryOp .Mod) (rBin CMod fun i j => i.fmod j) := opd_int op_modN
theorem op_powG : OpR X (binaryOp .Pow) (rI CPow fun i j => .int (i ^ j.toNat)) := opI fun i j _ _ _ _ _ hc q => pow_int hc.1 hc.2 q
theorem opd_pow : OpD X (binaryOp .Pow) (rBin CPow fun i j => i ^ j.toNat) := opd_int op_powG
/-- x + y -/
def gAdd : G2 := fun x y M Q => match x, y with
  | .int i, .int j => Q (.int (i + j)) M
  | .str a, .str b => a.length + b.length ≤ sizeLine ∧ Q (.str (a ++ b)) M
  | .lst a, .lst b => a.length + b.length ≤ sizeLine ∧ Q (.lst (a ++ b)) M
  | .tup a, .tup b => a.length + b.length ≤ sizeLine ∧ Q (.tup (a ++ b)) M
  | .own k, .lst b => match M[k]? with
    | some (.lst a) => a.length + b.length ≤ sizeLine ∧ Q (.lst (a ++ b)) M
    | _ => False
  | .lst b, .own k => match M[k]? with
    | some (.lst a) => b.length + a.length ≤ sizeLine ∧ Q (.lst (b ++ a)) M
    | _ => False
  | _, _ => False
theorem Aft.frz {K : PySem.W.Frag} {ph : Ph} {S : Hp} {r : Env} {σ : St} {H : Hp} {M : Mem} {p : Addr} {o : HO} {Q : Ph → Hp → Mem → Prop} (h : Sat K ph S r M σ H) (hp : H p = none) (q : Ext ph S ph (upd S p o) → Q ph (upd S p o) M) : Aft K ph S r σ (upd H p o) Q :=
  let ⟨x, hs⟩ := h.frz hp o
  ⟨ph, _, M, x, hs, q x⟩
theorem opd_add : OpD X (binaryOp .Add) gAdd := by
  intro pins s σ H ph S r M x y dx dy v u Q I hs rx ry qx qy hg
  cases dx <;> cases dy <;> first | exact hg.elim | skip
  · cases qx; cases qy
    exact op_add pins s σ H _ _ v u _ I rx ry ⟨_, _, rfl, rfl, Aft.here hs ⟨_, .int _, hg⟩⟩
  · cases qx; cases qy
    exact op_add_str pins s σ H _ _ v u _ I rx ry ⟨_, _, rfl, rfl, hg.1, Aft.here hs ⟨_, .str _, hg.2⟩⟩
  · cases qx with
    | tup h1 h2 =>
      cases qy with
      | tup h3 h4 =>
        obtain ⟨hz, q⟩ := hg
        rename_i xs _ ys
        have e1 := h2.len
        have e2 := h4.len
        refine op_catA pins s σ H _ _ v u _ I rx ry ⟨_, _, xs, ys, rfl, rfl, h1.sq hs.sub, h3.sq hs.sub, by omega, fun z => ?_, fun _ z => ?_, fun _ _ p hp => Aft.frz hs hp fun x => ⟨_, .tup (.inl upd_same) ((h2.app h4).up x), q⟩⟩
        · refine Aft.here hs ⟨_, .tup h3 ?_, q⟩
          rw [z] at h2
          cases h2
          exact h4
        · refine Aft.here hs ⟨_, .tup h1 ?_, q⟩
          rw [z] at h4
          cases h4
          rw [List.append_nil]; exact h2
  · cases qx with
    | lst h1 h2 =>
      cases qy with
      | lst h3 h4 =>
        have e1 := h2.len
        have e2 := h4.len
        exact op_cat pins s σ H _ _ v u _ I rx ry ⟨_, _, _, _, rfl, rfl, hs.sub _ _ h1, hs.sub _ _ h3, by have := hg.1; omega, fun p hp => Aft.frz hs hp fun x => ⟨_, .lst upd_same ((h2.app h4).up x), hg.2⟩⟩
  · cases qx with
    | lst h1 h2 =>
      cases qy with
      | own h3 =>
        rename_i b k _ _ _
        simp only [gAdd] at hg
        split at hg
        · rename_i a hk
          obtain ⟨a1, xs1, c1, c2, c3, c4⟩ := hs.cell k a hk
          rw [h3] at c1; cases c1
          have e1 := h2.len
          have e2 := c4.len
          exact op_cat pins s σ H _ _ v u _ I rx ry ⟨_, _, _, _, rfl, rfl, hs.sub _ _ h1, c3, by have := hg.1; omega, fun p hp => Aft.frz hs hp fun x => ⟨_, .lst upd_same ((h2.app c4).up x), hg.2⟩⟩
        · exact hg.elim
  · cases qx with
    | own h3 =>
      cases qy with
      | lst h1 h2 =>
        rename_i k b _ _ _
        simp only [gAdd] at hg
        split at hg
        · rename_i a hk
          obtain ⟨a1, xs1, c1, c2, c3, c4⟩ := hs.cell k a hk
          rw [h3] at c1; cases c1
          have e1 := h2.len
          have e2 := c4.len
          exact op_cat pins s σ H _ _ v u _ I rx ry ⟨_, _, _, _, rfl, rfl, c3, hs.sub _ _ h1, by have := hg.1; omega, fun p hp => Aft.frz hs hp fun x => ⟨_, .lst upd_same ((c4.app h2).up x), hg.2⟩⟩
        · exact hg.elim
/-! ### comparisons -/
def gCmpI (p : Int → Int → Bool) : G2 := fun x y M Q => match x, y with
  | .int i, .int j => Q (.bl (p i j)) M
  | _, _ => False
theorem opd_cmpI {F : Value → Value → Sem Value} {p : Int → Int → Bool} (h : OpR X F (rI0 fun i j => .bl (p i j))) : OpD X F (gCmpI p) :=
  OpD.of h fun σ H ph S r M x y dx dy Q hs rx ry hg => by
    cases dx <;> cases dy <;> first | exact hg.elim | skip
    cases rx; cases ry
    exact ⟨_, _, rfl, rfl, Aft.here hs ⟨_, .bl _, hg⟩⟩
theorem opd_lt : OpD X (compareOp .Lt) (gCmpI fun i j => decide (i < j)) := opd_cmpI op_lt
theorem opd_le : OpD X (compareOp .LtE) (gCmpI fun i j => decide (i ≤ j)) := opd_cmpI op_le
theorem opd_gt : OpD X (compareOp .Gt) (gCmpI fun i j => decide (j < i)) := opd_cmpI op_gt
theorem opd_ge : OpD X (compareOp .GtE) (gCmpI fun i j => decide (j ≤ i)) := opd_cmpI op_ge
/-- an owned list as it stands -/
def res (M : Mem) : D → D
  | .own k => match M[k]? with
    | some (.lst ds) => .lst ds
    | _ => .own k
  | d => d
theorem Rep.res {K : PySem.W.Frag} {ph : Ph} {S : Hp} {r : Env} {M : Mem} {σ : St} {H : Hp} {v : V} {d : D} (hs : Sat K ph S r M σ H) (q : Rep K ph S v d) : Rep K ph H v (res M d) := by
  cases d <;> first | exact hs.read q | skip
  rename_i k
  unfold DL.res
  dsimp only
  split
  · rename_i ds hk
    cases q with
    | own h =>
      obtain ⟨a, xs, c1, c2, c3, c4⟩ := hs.cell k ds hk
      rw [h] at c1; cases c1
      exact .lst c3 (hs.readAll c4)
  · exact hs.read q
/-- data that may be compared -/
def cmpd (d : D) : Option PyData := match toPy d with
  | some p => if SeqAt.shaped p = true then some p else none
  | none => none
theorem cmpd_some {d : D} {p : PyData} (h : cmpd d = some p) : toPy d = some p ∧ SeqAt.shaped p = true := by
  unfold cmpd at h
  split at h
  · rename_i p' e
    by_cases hs : SeqAt.shaped p' = true
    · rw [if_pos hs] at h; cases h; exact ⟨e, hs⟩
    · rw [if_neg hs] at h; cases h
  · cases h
/-- x == y of two data read; none: not covered -/
def eqB (x y : D) : Option Bool := match x, y with
  | .str a, .str b => some (a == b)
  | x, y => match cmpd x, cmpd y with
    | some p, some q => some (PyData.eqv p q)
    | _, _ => none
theorem eqB_of {x y : D} {b : Bool} (h : eqB x y = some b) : (∃ p q, x = .str p ∧ y = .str q ∧ b = (p == q)) ∨ ∃ p q, cmpd x = some p ∧ cmpd y = some q ∧ b = PyData.eqv p q := by
  unfold eqB at h
  split at h
  · exact .inl ⟨_, _, rfl, rfl, (Option.some.inj h).symm⟩
  · split at h
    · rename_i e1 e2; exact .inr ⟨_, _, e1, e2, (Option.some.inj h).symm⟩
    · cases h
def gEq : G2 := fun x y M Q => match eqB (res M x) (res M y) with
  | some b => Q (.bl b) M
  | none => False
def gNe : G2 := fun x y M Q => match eqB (res M x) (res M y) with
  | some b => Q (.bl (!b)) M
  | none => False
theorem res_str {M : Mem} {d : D} {z : Str} (h : res M d = .str z) : d = .str z := by
  cases d <;> first | exact h | skip
  rename_i k
  unfold res at h
  dsimp only at h
  split at h <;> cases h
theorem opd_eq (hu : X.A.units + 64 < cLine) : OpD X (compareOp .Eq) gEq := by
  intro pins s σ H ph S r M x y dx dy v u Q I hs rx ry qx qy hg
  unfold gEq at hg
  split at hg
  · rename_i b e
    rcases eqB_of e with ⟨p, q, e1, e2, rfl⟩ | ⟨p, q, e1, e2, rfl⟩
    · cases res_str e1; cases res_str e2
      cases qx; cases qy
      obtain ⟨_, rfl⟩ := rx
      obtain ⟨_, rfl⟩ := ry
      exact PyProof.Rows.eq_str ⟨.bl _, H, I, rfl, Aft.here hs ⟨_, .bl _, hg⟩⟩
    · obtain ⟨as, h1, _⟩ := Rep.reads I _ _ _ _ (Rep.res hs qx) rx (cmpd_some e1).1
      obtain ⟨bs, h2, _⟩ := Rep.reads I _ _ _ _ (Rep.res hs qy) ry (cmpd_some e2).1
      exact SeqAt.compareEq_shaped h1 h2 (cmpd_some e1).2 (cmpd_some e2).2 hu ⟨.bl _, H, I, rfl, Aft.here hs ⟨_, .bl _, hg⟩⟩
  · exact hg.elim
theorem opd_ne (hu : X.A.units + 64 < cLine) : OpD X (compareOp .NotEq) gNe := by
  intro pins s σ H ph S r M x y dx dy v u Q I hs rx ry qx qy hg
  unfold gNe at hg
  split at hg
  · rename_i b e
    rcases eqB_of e with ⟨p, q, e1, e2, rfl⟩ | ⟨p, q, e1, e2, rfl⟩
    · cases res_str e1; cases res_str e2
      cases qx; cases qy
      obtain ⟨_, rfl⟩ := rx
      obtain ⟨_, rfl⟩ := ry
      exact PyProof.Rows.ne_str ⟨.bl _, H, I, rfl, Aft.here hs ⟨_, .bl _, hg⟩⟩
    · obtain ⟨as, h1, _⟩ := Rep.reads I _ _ _ _ (Rep.res hs qx) rx (cmpd_some e1).1
      obtain ⟨bs, h2, _⟩ := Rep.reads I _ _ _ _ (Rep.res hs qy) ry (cmpd_some e2).1
      exact SeqAt.compareNe_shaped h1 h2 (cmpd_some e1).2 (cmpd_some e2).2 hu ⟨.bl _, H, I, rfl, Aft.here hs ⟨_, .bl _, hg⟩⟩
  · exact hg.elim
/-- x in y, y a list -/
def gIn (neg : Bool) : G2 := fun x y M Q => match cmpd (res M x), cmpd (res M y) with
  | some p, some (.list ps) => Q (.bl ((ps.any fun z => PyData.eqv z p) != neg)) M
  | _, _ => False
theorem opd_in (hu : X.A.units + 65 < cLine) : OpD X (compareOp .In) (gIn false) := by
  intro pins s σ H ph S r M x y dx dy v u Q I hs rx ry qx qy hg
  unfold gIn at hg
  split at hg
  · rename_i p ps e1 e2
    obtain ⟨as, h1, _⟩ := Rep.reads I _ _ _ _ (Rep.res hs qx) rx (cmpd_some e1).1
    obtain ⟨bs, h2, _⟩ := Rep.reads I _ _ _ _ (Rep.res hs qy) ry (cmpd_some e2).1
    refine SeqAt.in_list_reads h2 h1 (SeqAt.canLay_of_shaped (cmpd_some e2).2) (SeqAt.canLay_of_shaped (cmpd_some e1).2) (room_in_shaped (cmpd_some e1).2 hu) ⟨.bl _, H, I, rfl, Aft.here hs ⟨_, .bl _, ?_⟩⟩
    rw [Bool.bne_false] at hg; exact hg
  · exact hg.elim
end DL
/-! DL4: is, truth, chains, and/or/not, displays, subscripts, argument lists -/
namespace DL
open PySem PySem.Spec PyProof.Rows L2
variable {X : Cx}
/-! ### is -/
/-- x is y, y written None, True or False -/
def isB (x y : D) : Option Bool := match x, y with
  | .non, .non => some true
  | .bl b, .non => some false
  | .int _, .non => some false
  | .str _, .non => some false
  | .tup _, .non => some false
  | .lst _, .non => some false
  | .own _, .non => some false
  | .dct0, .non => some false
  | .exc _ _, .non => some false
  | .bl a, .bl b => some (decide (a = b))
  | .non, .bl _ => some false
  | .int _, .bl _ => some false
  | .str _, .bl _ => some false
  | .tup _, .bl _ => some false
  | .lst _, .bl _ => some false
  | .own _, .bl _ => some false
  | .dct0, .bl _ => some false
  | _, _ => none
def gIs (neg : Bool) : G2 := fun x y M Q => match isB x y with
  | some b => Q (.bl (b != neg)) M
  | none => False
theorem opd_is : OpD X (compareOp .Is) (gIs false) := by
  intro pins s σ H ph S r M x y dx dy v u Q I hs rx ry qx qy hg
  have fin : ∀ b : Bool, Q (.bl (b != false)) M → EP X pins σ (post X.K ph S r σ Q) (.bool b) s := fun b q => ⟨.bl b, H, I, rfl, Aft.here hs ⟨_, .bl _, by rwa [Bool.bne_false] at q⟩⟩
  cases dy <;> cases dx <;> first | exact hg.elim | skip
  all_goals cases qx <;> cases qy
  all_goals (first | (obtain ⟨t, rfl⟩ := rx) | cases rx)
  all_goals cases ry
  all_goals first
    | exact wpAny_is_other rfl (fun z => nomatch z) (fin false hg)
    | exact wpAny_is_self rfl (fin true hg)
    | skip
  rename_i b c
  by_cases e : c = b
  · subst e
    exact wpAny_is_self rfl (fin true (by simpa [gIs, isB] using hg))
  · exact wpAny_is_other rfl (fun z => e (Value.bool.inj z)) (fin false (by simpa [gIs, isB, e] using hg))
theorem opd_isnot : OpD X (compareOp .IsNot) (gIs true) := by
  intro pins s σ H ph S r M x y dx dy v u Q I hs rx ry qx qy hg
  have fin : ∀ b : Bool, Q (.bl (b != true)) M → EP X pins σ (post X.K ph S r σ Q) (.bool (!b)) s := fun b q => ⟨.bl (!b), H, I, rfl, Aft.here hs ⟨_, .bl _, by rwa [Bool.bne_true] at q⟩⟩
  cases dy <;> cases dx <;> first | exact hg.elim | skip
  all_goals cases qx <;> cases qy
  all_goals (first | (obtain ⟨t, rfl⟩ := rx) | cases rx)
  all_goals cases ry
  all_goals first
    | exact wpAny_isNot_other rfl (fun z => nomatch z) (fin false hg)
    | exact wpAny_isNot_self rfl (fin true hg)
    | skip
  rename_i b c
  by_cases e : c = b
  · subst e
    exact wpAny_isNot_self rfl (fin true (by simpa [gIs, isB] using hg))
  · exact wpAny_isNot_other rfl (fun z => e (Value.bool.inj z)) (fin false (by simpa [gIs, isB, e] using hg))
/-! ### truth -/
def tru (M : Mem) : D → Option Bool
  | .non => some false
  | .bl b => some b
  | .int i => some (i != 0)
  | .str x => if x.length ≤ sizeLine then some ((x.length : Int) != 0) else none
  | .tup l => some (!l.isEmpty)
  | .lst l => some (!l.isEmpty)
  | .own k => match M[k]? with
    | some (.lst l) => some (!l.isEmpty)
    | _ => none
  | .dct0 => some false
  | _ => none
theorem isEmp {K : PySem.W.Frag} {ph : Ph} {S : Hp} {xs : List V} {ds : List D} (h : RepAll K ph S xs ds) : (!ds.isEmpty) = !xs.isEmpty := by cases h <;> rfl
theorem tru_V {K : PySem.W.Frag} {ph : Ph} {S : Hp} {r : Env} {M : Mem} {σ : St} {H : Hp} {x : V} {d : D} {k : Bool} (hs : Sat K ph S r M σ H) (q : Rep K ph S x d) (h : tru M d = some k) : TruV K x H k := by
  cases d with
  | non => cases q; exact (Option.some.inj h).symm
  | bl b => cases q; exact (Option.some.inj h).symm
  | int i => cases q; exact (Option.some.inj h).symm
  | str z =>
    cases q
    have h' : (if z.length ≤ sizeLine then some ((z.length : Int) != 0) else none) = some k := h
    by_cases hz : z.length ≤ sizeLine
    · rw [if_pos hz] at h'
      exact ⟨hz, (Option.some.inj h').symm⟩
    · rw [if_neg hz] at h'; cases h'
  | tup l =>
    cases q with
    | tup h1 h2 => exact .inr (.inl ⟨_, h1.sq hs.sub, by rw [← isEmp h2]; exact (Option.some.inj h).symm⟩)
  | lst l =>
    cases q with
    | lst h1 h2 => exact .inl ⟨_, SqL.of (hs.sub _ _ h1), by rw [← isEmp h2]; exact (Option.some.inj h).symm⟩
  | dct0 =>
    cases q with
    | dct0 h1 => exact .inr (.inr ⟨_, hs.sub _ _ h1, (Option.some.inj h).symm⟩)
  | own j =>
    cases q with
    | own h1 =>
      unfold tru at h
      dsimp only at h
      split at h
      · rename_i l hk
        obtain ⟨a, xs, c1, c2, c3, c4⟩ := hs.cell j l hk
        rw [h1] at c1; cases c1
        exact .inl ⟨_, SqL.of c3, by rw [← isEmp c4]; exact (Option.some.inj h).symm⟩
      · cases h
  | scr ns => cases h
  | exc C d => cases h
  | glb x => cases h
  | val v => cases h
/-- what d's truth is -/
def gTru (d : D) (M : Mem) (Q : Bool → Prop) : Prop := match tru M d with
  | some b => Q b
  | none => False
def dTru (t : DTE) : DTT := fun r M Q => t r M fun d M1 => gTru d M1 fun b => Q b M1
theorem gTru_some {d : D} {M : Mem} {Q : Bool → Prop} (h : gTru d M Q) : ∃ b, tru M d = some b ∧ Q b := by
  unfold gTru at h
  split at h
  · rename_i b e; exact ⟨b, e, h⟩
  · exact h.elim
/-- an expression as a test -/
theorem dt_tru {e : Expr} {t : DTE} (h : DE X e t) (he : ∀ whole, isTrue e X.env whole = (do let v ← whole; standAt e.pos; holding [v] (truthy v)) := by intro _; rfl) : DT X e (dTru t) :=
  DT.of (pt_truth h.pe he) fun ph S r M σ H Q hs ht Q' hq => ⟨ph, S, r, M, _, hs, ht, fun v H1 h1 => by
    obtain ⟨ph1, S1, M1, x1, hs1, d, q1, g1⟩ := h1
    obtain ⟨b, eb, qb⟩ := gTru_some g1
    exact ⟨b, tru_V hs1 q1 eb, hq _ _ ⟨ph1, S1, M1, x1, hs1, qb⟩⟩⟩
/-- a comparison as a test -/
theorem dt_cmp {a b : Expr} {ta tb : DTE} {op : CmpOp} {g : G2} {pos : Pos} (ho : OpD X (compareOp op) g) (ha : DE X a ta) (hb : DE X b tb) (hm : behindInMarks op b = false) : DT X (.Compare a [op] [b] pos) (dTru (dOp g ta tb)) :=
  ⟨⟨fun pins s σ H Q I ⟨ph, S, r, M, Q0, hs, ht, hq⟩ => wpAny_isTrue_Compare1 (binD ha hb I hs ht fun v u s2 x y dx dy H2 ph2 S2 M2 x2 I2 hs2 rx ry qx qy h =>
    thn (ho pins s2 σ H2 ph2 S2 r M2 x y dx dy v u _ I2 hs2 rx ry qx qy h) fun c s3 ⟨z, H3, I3, r3, ph3, S3, M3, x3, hs3, d, q3, g3⟩ => by
      obtain ⟨k, ek, qk⟩ := gTru_some g3
      exact tru_ok pins s3 σ H3 z c Q I3 r3 ⟨k, tru_V hs3 q3 ek, hq _ _ ⟨ph3, S3, M3, x2.trans x3, hs3, qk⟩⟩) hm⟩⟩
/-! ### a < b < c -/
def dChain (g g' : G2) (ta tb tc : DTE) : DTE := fun r M Q => ta r M fun x M1 => tb r M1 fun y M2 => g x y M2 fun z M3 => gTru z M3 fun k => if k = true then tc r M3 fun w M4 => g' y w M4 Q else Q z M3
theorem dt_chain {a b c : Expr} {ta tb tc : DTE} {op op' : CmpOp} {g g' : G2} {pos : Pos} (ho : OpD X (compareOp op) g) (ho' : OpD X (compareOp op') g') (ha : DE X a ta) (hb : DE X b tb) (hc : DE X c tc)
    (hm : lastMarks [op, op'] [b, c] = false := by with_unfolding_all rfl) : DT X (.Compare a [op, op'] [b, c] pos) (dTru (dChain g g' ta tb tc)) := by
  refine ⟨⟨fun pins s σ H Q I ⟨ph, S, r, M, Q0, hs, ht, hq⟩ => ?_⟩⟩
  refine isTrue_chain (thn (ha.pe.run pins s σ H _ I ⟨ph, S, r, M, _, hs, ht, fun _ _ q => q⟩) fun v s1 ⟨x, H1, I1, r1, ph1, S1, M1, x1, hs1, dx, q1, h1⟩ =>
    test_link (thn (hb.pe.run pins s1 σ H1 _ I1 ⟨ph1, S1, r, M1, _, hs1, h1, fun _ _ q => q⟩) fun u s2 ⟨y, H2, I2, r2, ph2, S2, M2, x2, hs2, dy, q2, h2⟩ =>
      thn (ho pins s2 σ H2 ph2 S2 r M2 x y dx dy v u _ I2 hs2 r1 r2 (q1.up x2) q2 h2) fun d s3 ⟨z, H3, I3, r3, ph3, S3, M3, x3, hs3, dz, q3, h3⟩ => ?_)) hm
  obtain ⟨k, ek, qk⟩ := gTru_some h3
  refine thn (tru_ok pins s3 σ H3 z d (fun b H' => b = k ∧ H' = H3) I3 r3 ⟨k, tru_V hs3 q3 ek, rfl, rfl⟩) fun b s4 ⟨H4, I4, eb, eH⟩ => ?_
  rw [eH] at I4
  rw [← eb] at qk ek
  cases b with
  | false =>
    have qk' : gTru dz M3 fun b => Q0 b M3 := qk
    obtain ⟨k2, e2, q2'⟩ := gTru_some qk'
    rw [ek] at e2
    cases e2
    exact ite_ff ⟨H3, I4, hq _ _ ⟨ph3, S3, M3, x1.trans (x2.trans x3), hs3, q2'⟩⟩
  | true =>
    refine ite_tt (test_last (thn (hc.pe.run pins s4 σ H3 _ I4 ⟨ph3, S3, r, M3, _, hs3, qk, fun _ _ q => q⟩) fun w' s5 ⟨z', H5, I5, r5, ph5, S5, M5, x5, hs5, dw, q5, h5⟩ =>
      thn (ho' pins s5 σ H5 ph5 S5 r M5 y z' dy dw u w' _ I5 hs5 r2 r5 (q2.up (x3.trans x5)) q5 h5) fun d' s6 ⟨z2, H6, I6, r6, ph6, S6, M6, x6, hs6, d6, q6, h6⟩ => ?_))
    obtain ⟨k2, e2, q2'⟩ := gTru_some h6
    exact tru_ok pins s6 σ H6 z2 d' Q I6 r6 ⟨k2, tru_V hs6 q6 e2, hq _ _ ⟨ph6, S6, M6, x1.trans (x2.trans (x3.trans (x5.trans x6))), hs6, q2'⟩⟩
/-! ### and, or, not -/
def dAnd (t u : DTT) : DTT := fun r M Q => t r M fun c M1 => if c = true then u r M1 Q else Q false M1
def dOr (t u : DTT) : DTT := fun r M Q => t r M fun c M1 => if c = true then Q true M1 else u r M1 Q
def dNot (t : DTT) : DTT := fun r M Q => t r M fun c M1 => Q (!c) M1
variable {a b : Expr} {rest : List Expr} {pos : Pos}
theorem DW.dt {e : Expr} {t : DTT} (h : DW X e t) : DT X e t := ⟨h.pw.pt⟩
theorem dw_and1 {t : DTT} (h : DT X a t) : DW X (.BoolOp .And [a] pos) t := ⟨pw_and1 h.pt⟩
theorem dw_or1 {t : DTT} (h : DT X a t) : DW X (.BoolOp .Or [a] pos) t := ⟨pw_or1 h.pt⟩
theorem dw_and {t u : DTT} (h : DT X a t) (h2 : DW X (.BoolOp .And (b :: rest) pos) u) : DW X (.BoolOp .And (a :: b :: rest) pos) (dAnd t u) :=
  DW.of (pw_and h.pt h2.pw) fun ph S r M σ H Q hs ht Q' hq => ⟨ph, S, r, M, _, hs, ht, fun c H1 ⟨ph1, S1, M1, x1, hs1, h1⟩ => by
    cases c with
    | true => exact ⟨ph1, S1, r, M1, _, hs1, h1, fun c' H2 h2 => hq _ _ (Aft.up x1 h2)⟩
    | false => exact hq _ _ ⟨ph1, S1, M1, x1, hs1, h1⟩⟩
theorem dw_or {t u : DTT} (h : DT X a t) (h2 : DW X (.BoolOp .Or (b :: rest) pos) u) : DW X (.BoolOp .Or (a :: b :: rest) pos) (dOr t u) :=
  DW.of (pw_or h.pt h2.pw) fun ph S r M σ H Q hs ht Q' hq => ⟨ph, S, r, M, _, hs, ht, fun c H1 ⟨ph1, S1, M1, x1, hs1, h1⟩ => by
    cases c with
    | false => exact ⟨ph1, S1, r, M1, _, hs1, h1, fun c' H2 h2 => hq _ _ (Aft.up x1 h2)⟩
    | true => exact hq _ _ ⟨ph1, S1, M1, x1, hs1, h1⟩⟩
theorem dt_not {t : DTT} (h : DT X a t) : DT X (.UnaryOp .Not a pos) (dNot t) :=
  DT.of (pt_not h.pt) fun ph S r M σ H Q hs ht Q' hq => ⟨ph, S, r, M, _, hs, ht, fun c H1 h1 => hq _ _ h1⟩
/-- as values -/
def dAndV (t u : DTE) : DTE := fun r M Q => t r M fun d M1 => gTru d M1 fun c => if c = true then u r M1 Q else Q d M1
def dOrV (t u : DTE) : DTE := fun r M Q => t r M fun d M1 => gTru d M1 fun c => if c = true then Q d M1 else u r M1 Q
def dNotV (t : DTE) : DTE := fun r M Q => t r M fun d M1 => gTru d M1 fun c => Q (.bl (!c)) M1
theorem de_one {op} {t : DTE} (h : DE X a t) : DE X (.BoolOp op [a] pos) t := ⟨pe_one h.pe⟩
theorem de_and {t u : DTE} (h : DE X a t) (h2 : DE X (.BoolOp .And (b :: rest) pos) u) : DE X (.BoolOp .And (a :: b :: rest) pos) (dAndV t u) :=
  DE.of (pe_andT h.pe h2.pe) fun ph S r M σ H Q hs ht Q' hq => ⟨ph, S, r, M, _, hs, ht, fun v H1 ⟨ph1, S1, M1, x1, hs1, d, q1, g1⟩ => by
    obtain ⟨c, ec, qc⟩ := gTru_some g1
    refine ⟨c, tru_V hs1 q1 ec, ?_⟩
    cases c with
    | true => exact ⟨ph1, S1, r, M1, _, hs1, qc, fun c' H2 h2 => hq _ _ (Aft.up x1 h2)⟩
    | false => exact hq _ _ ⟨ph1, S1, M1, x1, hs1, _, q1, qc⟩⟩
theorem de_or {t u : DTE} (h : DE X a t) (h2 : DE X (.BoolOp .Or (b :: rest) pos) u) : DE X (.BoolOp .Or (a :: b :: rest) pos) (dOrV t u) :=
  DE.of (pe_orT h.pe h2.pe) fun ph S r M σ H Q hs ht Q' hq => ⟨ph, S, r, M, _, hs, ht, fun v H1 ⟨ph1, S1, M1, x1, hs1, d, q1, g1⟩ => by
    obtain ⟨c, ec, qc⟩ := gTru_some g1
    refine ⟨c, tru_V hs1 q1 ec, ?_⟩
    cases c with
    | false => exact ⟨ph1, S1, r, M1, _, hs1, qc, fun c' H2 h2 => hq _ _ (Aft.up x1 h2)⟩
    | true => exact hq _ _ ⟨ph1, S1, M1, x1, hs1, _, q1, qc⟩⟩
theorem de_not {t : DTE} (h : DE X a t) : DE X (.UnaryOp .Not a pos) (dNotV t) :=
  DE.of (pe_notT h.pe) fun ph S r M σ H Q hs ht Q' hq => ⟨ph, S, r, M, _, hs, ht, fun v H1 ⟨ph1, S1, M1, x1, hs1, d, q1, g1⟩ => by
    obtain ⟨c, ec, qc⟩ := gTru_some g1
    exact ⟨c, tru_V hs1 q1 ec, hq _ _ ⟨ph1, S1, M1, x1, hs1, _, .bl _, qc⟩⟩⟩
/-- a if t else b -/
def dIf (t : DTT) (u w : DTE) : DTE := fun r M Q => t r M fun c M1 => if c = true then u r M1 Q else w r M1 Q
theorem de_if {c : Expr} {t : DTT} {u w : DTE} (h : DT X c t) (h1 : DE X a u) (h2 : DE X b w) : DE X (.IfExp c a b pos) (dIf t u w) :=
  DE.of (pe_ifExp h.pt h1.pe h2.pe) fun ph S r M σ H Q hs ht Q' hq => ⟨ph, S, r, M, _, hs, ht, fun c H1 ⟨ph1, S1, M1, x1, hs1, g1⟩ => by
    cases c with
    | true => exact ⟨ph1, S1, r, M1, _, hs1, g1, fun c' H2 h2 => hq _ _ (Aft.up x1 h2)⟩
    | false => exact ⟨ph1, S1, r, M1, _, hs1, g1, fun c' H2 h2 => hq _ _ (Aft.up x1 h2)⟩⟩
/-- -a -/
def gNeg (d : D) (M : Mem) (Q : DQ) : Prop := match d with
  | .int i => Q (.int (-i)) M
  | _ => False
def dNeg (t : DTE) : DTE := fun r M Q => t r M fun d M1 => gNeg d M1 Q
theorem de_neg {t : DTE} (h : DE X a t) : DE X (.UnaryOp .USub a pos) (dNeg t) :=
  DE.of (pe_un un_neg h.pe) fun ph S r M σ H Q hs ht Q' hq => ⟨ph, S, r, M, _, hs, ht, fun v H1 ⟨ph1, S1, M1, x1, hs1, d, q1, g1⟩ => by
    cases d <;> first | exact g1.elim | skip
    cases q1
    exact ⟨_, rfl, hq _ _ ⟨ph1, S1, M1, x1, hs1, _, .int _, g1⟩⟩⟩
/-! ### argument lists, displays -/
def dNil : DTA := fun _ M Q => Q [] M
def dCons (t : DTE) (u : DTA) : DTA := fun r M Q => t r M fun d M1 => u r M1 fun ds M2 => Q (d :: ds) M2
theorem da_nil : DA X [] dNil := DA.of pa_nil fun ph S r M σ H Q hs ht Q' hq => hq _ _ (Aft.here hs ⟨_, .nil, ht⟩)
theorem da_cons {e : Expr} {es : List Expr} {t : DTE} {u : DTA} (h : DE X e t) (h2 : DA X es u) (hs : starEach (e :: es) X.env = (false, eval e X.env) :: starEach es X.env := by rfl) : DA X (e :: es) (dCons t u) :=
  DA.of (pa_cons h.pe h2.pa hs) fun ph S r M σ H Q hs ht Q' hq => ⟨ph, S, r, M, _, hs, ht, fun v H1 ⟨ph1, S1, M1, x1, hs1, d, q1, g1⟩ =>
    ⟨ph1, S1, r, M1, _, hs1, g1, fun vs H2 ⟨ph2, S2, M2, x2, hs2, ds, q2, g2⟩ => hq _ _ ⟨ph2, S2, M2, x1.trans x2, hs2, _, .cons (q1.up x2) q2, g2⟩⟩⟩
def dTup (t : DTA) : DTE := fun r M Q => t r M fun ds M1 => ds.length ≤ sizeLine ∧ Q (.tup ds) M1
def dLst (t : DTA) : DTE := fun r M Q => t r M fun ds M1 => ds.length ≤ sizeLine ∧ Q (.lst ds) M1
/-- a list that will be changed -/
def dOwn (t : DTA) : DTE := fun r M Q => t r M fun ds M1 => ds.length ≤ sizeLine ∧ Q (.own M1.length) (M1 ++ [.lst ds])
theorem de_tup {es : List Expr} {x1} {t : DTA} (h : DA X es t) : DE X (.Tuple es x1 pos) (dTup t) :=
  DE.of (pe_tup h.pa) fun ph S r M σ H Q hs ht Q' hq => ⟨ph, S, r, M, _, hs, ht, fun vs H1 ⟨ph1, S1, M1, x1, hs1, ds, q1, hz, g1⟩ =>
    ⟨by rw [q1.len]; exact hz, fun p hp => hq _ _ (Aft.up x1 (Aft.frz hs1 hp fun x => ⟨_, .tup (.inl upd_same) (q1.up x), g1⟩))⟩⟩
theorem de_lst {es : List Expr} {t : DTA} (h : DA X es t) : DE X (.List es pos) (dLst t) :=
  DE.of (pe_lst h.pa) fun ph S r M σ H Q hs ht Q' hq => ⟨ph, S, r, M, _, hs, ht, fun vs H1 ⟨ph1, S1, M1, x1, hs1, ds, q1, hz, g1⟩ =>
    ⟨by rw [q1.len]; exact hz, fun p hp => hq _ _ (Aft.up x1 (Aft.frz hs1 hp fun x => ⟨_, .lst upd_same (q1.up x), g1⟩))⟩⟩
theorem Aft.own {K : PySem.W.Frag} {ph : Ph} {S : Hp} {r : Env} {σ : St} {H : Hp} {M : Mem} {p : Addr} {xs : List V} {ds : List D} {Q : DQ} (h : Sat K ph S r M σ H) (hp : H p = none) (hr : RepAll K ph S xs ds) (q : Q (.own M.length) (M ++ [.lst ds])) :
    post K ph S r σ Q (.ref p) (upd H p (.lst xs)) :=
  let ⟨x, hs, e⟩ := h.new hp hr
  ⟨_, _, _, x, hs, _, .own e, q⟩
theorem de_own {es : List Expr} {t : DTA} (h : DA X es t) : DE X (.List es pos) (dOwn t) :=
  DE.of (pe_lst h.pa) fun ph S r M σ H Q hs ht Q' hq => ⟨ph, S, r, M, _, hs, ht, fun vs H1 ⟨ph1, S1, M1, x1, hs1, ds, q1, hz, g1⟩ =>
    ⟨by rw [q1.len]; exact hz, fun p hp => hq _ _ (Aft.up x1 (Aft.own hs1 hp q1 g1))⟩⟩
theorem de_dct0 : DE X (.Dict [] [] pos) (dC .dct0) :=
  DE.of pe_dnewK fun ph S r M σ H Q hs ht Q' hq p hp => hq _ _ (Aft.frz hs hp fun x => ⟨_, .dct0 upd_same, ht⟩)
/-! ### subscripts -/
/-- d's item at i, for every kind of sequence -/
def gIx : G2 := fun x y M Q => match res M x, y with
  | .lst l, .int i => match atI l i with
    | some d => Q d M
    | none => False
  | .tup l, .int i => match atI l i with
    | some d => Q d M
    | none => False
  | .scr ns, .int i => match atI ns i with
    | some n => Q (.int n) M
    | none => False
  | _, _ => False
theorem atI_rep {K : PySem.W.Frag} {ph : Ph} {S : Hp} {vs : List V} {ds : List D} {i : Int} {d : D} (h : RepAll K ph S vs ds) (e : atI ds i = some d) : ∃ v, atI vs i = some v ∧ Rep K ph S v d := by
  unfold atI at e ⊢
  rw [h.len]
  cases q : ixN ds.length i with
  | none => rw [q] at e; cases e
  | some j =>
    rw [q] at e
    exact h.get e
theorem atI_map {α β : Type} {f : α → β} {l : List α} {i : Int} {x : α} (e : atI l i = some x) : atI (l.map f) i = some (f x) := by
  unfold atI at e ⊢
  rw [List.length_map]
  cases q : ixN l.length i with
  | none => rw [q] at e; cases e
  | some j =>
    rw [q] at e
    show (l.map f)[j]? = _
    rw [List.getElem?_map]
    rw [show l[j]? = some x from e]
    rfl
/-- an owned list's items represent over S -/
theorem res_lst {K : PySem.W.Frag} {ph : Ph} {S : Hp} {r : Env} {M : Mem} {σ : St} {H : Hp} {v : V} {d : D} {l : List D} (hs : Sat K ph S r M σ H) (q : Rep K ph S v d) (e : res M d = .lst l) : ∃ a xs, v = .ref a ∧ H a = some (.lst xs) ∧ RepAll K ph S xs l := by
  cases d <;> first | (unfold res at e; cases e; done) | skip
  · cases e
    cases q with
    | lst h1 h2 => exact ⟨_, _, rfl, hs.sub _ _ h1, h2⟩
  · rename_i k
    unfold res at e
    dsimp only at e
    split at e
    · rename_i ds hk
      cases e
      cases q with
      | own h =>
        obtain ⟨a, xs, c1, c2, c3, c4⟩ := hs.cell k _ hk
        rw [h] at c1; cases c1
        exact ⟨_, _, rfl, c3, c4⟩
    · cases e
theorem res_tup {M : Mem} {d : D} {l : List D} (e : res M d = .tup l) : d = .tup l := by
  cases d <;> first | exact e | skip
  unfold res at e
  dsimp only at e
  split at e <;> cases e
theorem res_scr {M : Mem} {d : D} {l : List Int} (e : res M d = .scr l) : d = .scr l := by
  cases d <;> first | exact e | skip
  unfold res at e
  dsimp only at e
  split at e <;> cases e
theorem de_ix {ta tb : DTE} (ha : DE X a ta) (hb : DE X b tb) (hs : PlainIx b := by exact fun _ _ => rfl) : DE X (.Subscript a b pos) (dOp gIx ta tb) :=
  DE.of (pe_ix (ix_list.or ix_tup) ha.pe hb.pe hs) fun ph S r M σ H Q hs ht Q' hq => ⟨ph, S, r, M, _, hs, ht, fun v H1 ⟨ph1, S1, M1, x1, hs1, d, q1, g1⟩ =>
    ⟨ph1, S1, r, M1, _, hs1, g1, fun u H2 ⟨ph2, S2, M2, x2, hs2, e, q2, g2⟩ => by
      have q1' := q1.up x2
      have xx := x1.trans x2
      replace g2 : gIx d e M2 Q := g2
      unfold gIx at g2
      split at g2
      · rename_i l i er
        cases q2
        split at g2
        · rename_i d' ei
          obtain ⟨p, xs, rfl, hp, hx⟩ := res_lst hs2 q1' er
          obtain ⟨w, ew, qw⟩ := atI_rep hx ei
          exact .inl ⟨p, xs, i, w, rfl, rfl, SqL.of hp, ew, hq _ _ ⟨ph2, S2, M2, xx, hs2, _, qw, g2⟩⟩
        · exact g2.elim
      · rename_i l i er
        cases q2
        split at g2
        · rename_i d' ei
          cases res_tup er
          cases q1' with
          | tup h1 h2 =>
            obtain ⟨w, ew, qw⟩ := atI_rep h2 ei
            exact .inr ⟨_, _, i, w, rfl, rfl, h1.sq hs2.sub, ew, hq _ _ ⟨ph2, S2, M2, xx, hs2, _, qw, g2⟩⟩
        · exact g2.elim
      · rename_i ns i er
        cases q2
        split at g2
        · rename_i n ei
          cases res_scr er
          cases q1' with
          | scr h1 => exact .inl ⟨_, _, i, _, rfl, rfl, hs2.sub.seq h1, atI_map ei, hq _ _ ⟨ph2, S2, M2, xx, hs2, _, .int _, g2⟩⟩
        · exact g2.elim
      · exact g2.elim⟩⟩
end DL
/-! DL5: defs and their calls -/
namespace DL
open PySem PySem.Spec PyProof.Rows L2
/-! ### a def's promise over the hand layer, where no guard runs -/
structure FnG (P : Program) (w : World) (K : PySem.W.Frag) (mg : Str → Option Value) (base : Heap) (CX : CXT) (k : Nat) (f : Addr) (fd : FuncData) (ps : List Str) (sp : Sp) : Prop where
  len : ∀ vs H Q E, sp vs H Q E → vs.length = ps.length
  run : ∀ (A : Around) (outer : List PySem.Env) (s : Shared) (H : Hp) (args : Args) (us : List Value) (vs : List V) (Q : VK) (E : XK), Room k A → A.guards = some [] → Env0 P w K mg base A outer s H → BindsTo s fd args (ps.zip us) → Vals vs us → sp vs H Q E →
    codeAny (model P w) A (.call (.ref f) args) (CR CX outer P w H s Q E) s
theorem FnG.mono {P : Program} {w : World} {K : PySem.W.Frag} {mg : Str → Option Value} {base : Heap} {CX : CXT} {j k : Nat} {f : Addr} {fd : FuncData} {ps : List Str} {sp : Sp} (F : FnG P w K mg base CX j f fd ps sp) (h : j ≤ k) :
    FnG P w K mg base CX k f fd ps sp := ⟨F.len, fun A outer s H args us vs Q E hr => F.run A outer s H args us vs Q E (hr.mono h)⟩
section
variable {X : Cx} {CX : CXT} {k : Nat} {f : Addr} {fd : FuncData} {ps : List Str} {sp : Sp} {dvs : List V} {ds : List Value} {E : XK} {x : Str} {p pos : Pos} {e : Expr} {es : List Expr} {t : TA}
theorem run_fnG {pins : List (Addr × Obj)} {σ : St} {H : Hp} {s : Shared} {Q : VK} {us : List Value} {vs : List V} (F : FnG X.prog X.w X.K X.mg X.base CX k f fd ps sp) (hr : Room k X.A) (gd : X.A.guards = some []) (hb : Binds X.K fd ps ds) (hd : Vals dvs ds) (hx : Passes CX X E)
    (I : Inv X pins σ H s) (r : Vals vs us) (h : sp (vs ++ dvs) H Q E) : wpAny (model X.prog X.w) X.A (call (.ref f) us) (EP X pins σ Q) X.xe s := by
  have r2 : Vals (vs ++ dvs) (us ++ ds) := r.append hd
  have hl : (us ++ ds).length = ps.length := by rw [← r2.length]; exact F.len _ _ _ _ h
  refine wpAny_call (codeAny_mono (F.run X.A X.stack s H ⟨us, []⟩ (us ++ ds) (vs ++ dvs) Q E hr gd I.env0 (hb s us I.kIn hl) r2 h) fun r s' hq => ?_)
  match r, hq with
  | .error e, hq => exact hx pins σ H s e s' I hq
  | .ok (.ret u), hq => exact I.after hq
  | .ok .next, hq => exact False.elim hq
  | .ok .brk, hq => exact False.elim hq
  | .ok .cont, hq => exact False.elim hq
theorem pe_callG (F : FnG X.prog X.w X.K X.mg X.base CX k f fd ps sp) (hr : Room k X.A) (gd : X.A.guards = some []) (hg : Gl X x) (hm : X.mg x = some (.ref f)) (hk : PySem.W.keepIn X.K (.ref f) = true) (hb : Binds X.K fd ps ds) (hd : Vals dvs ds) (hx : Passes CX X E)
    (ha : PA X (e :: es) t) (hdb : (x == ("__debug__" : Str)) = false := by decide) (he : starEach (e :: es) X.env = (false, eval e X.env) :: starEach es X.env := by rfl) (hpl : (backTo pos (starEach es X.env)).any (·.1) = false := by rfl) :
    PE X (.Call (.Name x p) (e :: es) [] pos) (tCall sp dvs E t) :=
  ⟨fun pins s σ H Q I h => wpAny_Call_Name_kw (ld_glob I hg hm (PySem.W.callWith_K (h₀ := X.base) I.ok.mod.kin hk (thn (ha.run pos pins s σ H _ I h) fun us s1 ⟨vs, H1, I1, r, q⟩ => ⟨I1.kIn, run_fnG F hr gd hb hd hx I1 r q⟩) he hpl) hdb)⟩
end
/-- a def by its body -/
theorem fnG_of {CX : CXT} {P : Program} {w : World} {K : PySem.W.Frag} {mg : Str → Option Value} {base : Heap} {k : Nat} {f : Addr} {name qual : Str} {params : Arguments} {body : List Stmt} {scope : Scope} {dV kV doc pm cdv ct oc : Value} {an od : Option Addr}
    {osl : Array (Option Value)} {N ps : List Str} {sp : Sp} (lk : K.lookup f = some ⟨oc, od, .func (PySem.W.fnOf name qual params body scope dV kV doc pm an cdv ct), osl⟩) (hcd : PySem.W.codeIn K cdv qual = true) (S : FnScope N ps scope)
    (len : ∀ vs H Q E, sp vs H Q E → vs.length = ps.length)
    (hbody : ∀ (A : Around) (outer : List PySem.Env) (s : Shared) (H : Hp) (vs : List V) (Q : VK) (E : XK), Room k (A.deeper (envOfC qual scope s.heap.objs.size f cdv)) → A.guards = some [] → sp vs H Q E →
      ∃ t, PSs (cxOf CX P w K mg base N qual scope f cdv A outer s H E) body t ∧ t { nx := fun _ H' => Q .non H', rt := Q } (start N vs) H) :
    FnG P w K mg base CX (k + 1) f (PySem.W.fnOf name qual params body scope dV kV doc pm an cdv ct) ps sp := by
  refine ⟨len, fun A outer s H args us vs Q E hr gd e0 hb r hsp => ?_⟩
  have hl := len _ _ _ _ hsp
  have KX : K.In s.heap := e0.mod.kin.keeps fun b o e => (e0.bs b o e).1
  have lim : s.heap.NoLimit := e0.mod.nolimit.keeps fun b o e => (e0.bs b o e).1
  refine codeAny_call_function hr.depth (KX _ _ lk) rfl S.co S.gen rfl (PySem.W.codeRec_of KX hcd) (hb _ _ _ _ ?_)
  refine wpAny_newFunctionEnv_cells S.kind (fun y hy => ?_) fun env he s1 x => ?_
  · rcases S.par y.1 (List.of_mem_zip (a := y.1) (b := y.2) hy).1 with q | q
    · exact .inl q
    · exact .inr ⟨q, PySem.W.cellsFrom_some _ _ _ (.inl q)⟩
  subst he
  refine ⟨lim.keeps x.toInCall.keep, codeAny_func ?_⟩
  obtain ⟨t, ht, hq⟩ := hbody A outer s H vs Q E (hr.deeper _) gd hsp
  have I : Inv (cxOf CX P w K mg base N qual scope f cdv A outer s H E) [] (start N vs) H s1 := inv_start S hr.hd e0 hl r x
  refine wpAny_mono (ht.run [] s1 (start N vs) H _ I hq) (fun fl s' hs => ?_) fun e s' hs => hs
  match fl, hs with
  | .ret u, ⟨v, σ', H', J, rv, q⟩ => exact ⟨v, H', J.os, J.bare, J.base, J.hok, rv, q⟩
  | .next, ⟨σ', H', J, q⟩ => exact ⟨V.non, H', J.os, J.bare, J.base, J.hok, rfl, q⟩
  | .brk, ⟨_, _, _, q⟩ => exact False.elim q
  | .cont, ⟨_, _, _, q⟩ => exact False.elim q
/-! ### a def's promise over data -/
/-- what is wanted of an exception: its class, its value, the cells -/
abbrev DX := Str → D → Mem → Prop
abbrev DSp := List D → Mem → DQ → DX → Prop
def DX0 : DX := fun _ _ _ => False
def postM (K : PySem.W.Frag) (ph : Ph) (S : Hp) (Q : DQ) : VK := post K ph S [] [] Q
def postX (K : PySem.W.Frag) (ph : Ph) (S : Hp) (E : DX) : XK := fun cls d H => ∃ (x : Str) (C T dd : Addr) (v : V) (dv : D), XA.ErC K x C T ∧ cls = .ref C ∧ d = some dd ∧
  Aft K ph S [] [] H fun ph' S' M => S' dd = some (.xd [(fVal, v)]) ∧ Rep K ph' S' v dv ∧ E x dv M
def lfSp (K : PySem.W.Frag) (n : Nat) (sp : DSp) : Sp := fun vs H Q E => ∃ ph S M ds Q0 E0, ds.length = n ∧ Sat K ph S [] M [] H ∧ RepAll K ph S vs ds ∧ sp ds M Q0 E0 ∧ (∀ v H', postM K ph S Q0 v H' → Q v H') ∧ (∀ cls d H', postX K ph S E0 cls d H' → E cls d H')
abbrev FnD (P : Program) (w : World) (K : PySem.W.Frag) (mg : Str → Option Value) (base : Heap) (CX : CXT) (k : Nat) (f : Addr) (fd : FuncData) (ps : List Str) (sp : DSp) : Prop :=
  FnG P w K mg base CX k f fd ps (lfSp K ps.length sp)
theorem Sat.drop {K : PySem.W.Frag} {ph : Ph} {S : Hp} {r : Env} {M : Mem} {σ : St} {H : Hp} (h : Sat K ph S r M σ H) : Sat K ph S [] M [] H :=
  ⟨h.sub, h.len, h.nd, h.trk, h.cell, h.hid, h.hnd, rfl, fun i d e => by simp at e⟩
/-- behind a call the names are as they were -/
theorem Sat.back {K : PySem.W.Frag} {ph ph' : Ph} {S S' : Hp} {r : Env} {M M' : Mem} {σ : St} {H H' : Hp} (h : Sat K ph S r M σ H) (x : Ext ph S ph' S') (h' : Sat K ph' S' [] M' [] H') : Sat K ph' S' r M' σ H' :=
  ⟨h'.sub, h'.len, h'.nd, h'.trk, h'.cell, h'.hid, h'.hnd, h.el, fun i d e => let ⟨v, e1, q⟩ := h.env i d e; ⟨v, e1, q.up x⟩⟩
section
variable {X : Cx} {CX : CXT} {k : Nat} {f : Addr} {fd : FuncData} {ps : List Str} {sp : DSp} {x : Str} {p pos : Pos} {e : Expr} {es : List Expr} {t : DTA}
/-- f(..), then the defaults -/
def dCall (n : Nat) (sp : DSp) (dvs : List D) (E : DX) (t : DTA) : DTE := fun r M Q => t r M fun ds M1 => (ds ++ dvs).length = n ∧ sp (ds ++ dvs) M1 Q E
/-- a value that is the same everywhere -/
def Cst (K : PySem.W.Frag) (v : V) (d : D) : Prop := ∀ ph S, Rep K ph S v d
inductive Csts (K : PySem.W.Frag) : List V → List D → Prop
  | nil : Csts K [] []
  | cons {v : V} {d : D} {vs : List V} {ds : List D} : Cst K v d → Csts K vs ds → Csts K (v :: vs) (d :: ds)
theorem Csts.rep {K : PySem.W.Frag} {ph : Ph} {S : Hp} : ∀ {vs : List V} {ds : List D}, Csts K vs ds → RepAll K ph S vs ds
  | _, _, .nil => .nil
  | _, _, .cons h t => .cons (h _ _) t.rep
theorem lf_call {t' : TA} {dvs : List V} {dds : List D} {E' : XK} {E : DX} (hE : ∀ ph S cls d H', postX X.K ph S E cls d H' → E' cls d H') (hc : Csts X.K dvs dds) {ph : Ph} {S : Hp} {r : Env} {M : Mem} {σ : St} {H : Hp} {Q : DQ} {Q' : VK} (hs : Sat X.K ph S r M σ H) (ht : dCall ps.length sp dds E t r M Q) (hq : ∀ v H', post X.K ph S r σ Q v H' → Q' v H')
    (w : ∀ Q1 : List V → Hp → Prop, (∀ vs H', postA X.K ph S r σ (fun ds M1 => (ds ++ dds).length = ps.length ∧ sp (ds ++ dds) M1 Q E) vs H' → Q1 vs H') → t' σ H Q1) : tCall (lfSp X.K ps.length sp) dvs E' t' σ H Q' :=
  w _ fun vs H1 ⟨ph1, S1, M1, x1, hs1, ds, q1, hl, h1⟩ => ⟨ph1, S1, M1, ds ++ dds, Q, E, hl, hs1.drop, q1.app hc.rep, h1, fun v H2 ⟨ph2, S2, M2, x2, hs2, d, q2, h2⟩ => hq _ _ ⟨ph2, S2, M2, x1.trans x2, hs1.back x2 hs2, d, q2, h2⟩, fun cls d H2 h2 => hE _ _ _ _ _ h2⟩
theorem de_callX {dvs : List V} {dds : List D} {ds : List Value} {E' : XK} {E : DX} (F : FnD X.prog X.w X.K X.mg X.base CX k f fd ps sp) (hr : Room k X.A) (gd : X.A.guards = some []) (hm : X.mg x = some (.ref f)) (hk : PySem.W.keepIn X.K (.ref f) = true) (hb : Binds X.K fd ps ds) (hd : Vals dvs ds) (hc : Csts X.K dvs dds) (hx : Passes CX X E') (hE : ∀ ph S cls d H', postX X.K ph S E cls d H' → E' cls d H')
    (ha : DA X (e :: es) t) (hg : Gl X x := by rfl) (hdb : (x == ("__debug__" : Str)) = false := by decide) (he : starEach (e :: es) X.env = (false, eval e X.env) :: starEach es X.env := by rfl) (hpl : (backTo pos (starEach es X.env)).any (·.1) = false := by rfl) :
    DE X (.Call (.Name x p) (e :: es) [] pos) (dCall ps.length sp dds E t) :=
  DE.of (pe_callG F hr gd hg hm hk hb hd hx ha.pa hdb he hpl) fun ph S r M σ H Q hs ht Q' hq => lf_call hE hc hs ht hq fun Q1 hQ1 => ⟨ph, S, r, M, _, hs, ht, hQ1⟩
theorem pX0 : ∀ ph S cls d H', postX X.K ph S DX0 cls d H' → E0 cls d H' := fun _ _ _ _ _ ⟨_, _, _, _, _, _, _, _, _, _, _, _, _, _, _, _, z⟩ => z
/-- what is told of a def of the module, for its callers -/
structure Def (P : Program) (w : World) (K : PySem.W.Frag) (mg : Str → Option Value) (base : Heap) (CX : CXT) (k : Nat) (x : Str) (st : Stmt) (ps : List Str) (sp : DSp) : Prop where
  ex : ∃ (f : Addr) (fd : FuncData), FnD P w K mg base CX k f fd ps sp ∧ mg x = some (.ref f) ∧ PySem.W.keepIn K (.ref f) = true ∧ Binds K fd ps [] ∧ Fun K x x st f fd
/-- a call of a def from which nothing is raised -/
theorem dcall {n : Nat} {st : Stmt} {P : Program} {w : World} {K : PySem.W.Frag} {mg : Str → Option Value} {base : Heap} (F : Def P w K mg base CX0 k x st ps sp) {j : Nat} (hr : Room j X.A) (gd : X.A.guards = some []) (ha : DA X (e :: es) t) (hj : k ≤ j := by decide) (hn : ps.length = n := by rfl)
    (h1 : P = X.prog := by rfl) (h2 : w = X.w := by rfl) (h3 : K = X.K := by rfl) (h4 : mg = X.mg := by rfl) (h5 : base = X.base := by rfl) (hg : Gl X x := by rfl) (hdb : (x == ("__debug__" : Str)) = false := by decide) (he : starEach (e :: es) X.env = (false, eval e X.env) :: starEach es X.env := by rfl)
    (hpl : (backTo pos (starEach es X.env)).any (·.1) = false := by rfl) : DE X (.Call (.Name x p) (e :: es) [] pos) (dCall n sp [] DX0 t) := by
  subst h1 h2 h3 h4 h5 hn
  obtain ⟨f, fd, h1, h2, h3, h4, _⟩ := F.ex
  exact de_callX h1 (hr.mono hj) gd h2 h3 h4 .nil .nil pass0 pX0 ha hg hdb he hpl
end
/-! ### at the end of a def: the cells that it made are left behind -/
mutual
def below (n : Nat) : D → Bool
  | .tup l => belowAll n l
  | .lst l => belowAll n l
  | .own k => decide (k < n)
  | .exc _ d => below n d
  | _ => true
def belowAll (n : Nat) : List D → Bool
  | [] => true
  | d :: ds => below n d && belowAll n ds
end
def belowO (n : Nat) : Own → Bool
  | .lst l => belowAll n l
  | .dead => true
section
variable {K : PySem.W.Frag} {ph : Ph} {S : Hp} {n : Nat}
mutual
theorem Rep.take : ∀ (d : D) (v : V), below n d = true → Rep K ph S v d → Rep K (ph.cut n) S v d
  | .non, _, _, h => by cases h; exact .non
  | .bl _, _, _, h => by cases h; exact .bl _
  | .int _, _, _, h => by cases h; exact .int _
  | .str _, _, _, h => by cases h; exact .str _
  | .tup ds, _, e, h => by
    cases h with
    | tup h1 h2 => exact .tup h1 (RepAll.takeP ds _ (by simpa only [below] using e) h2)
  | .lst ds, _, e, h => by
    cases h with
    | lst h1 h2 => exact .lst h1 (RepAll.takeP ds _ (by simpa only [below] using e) h2)
  | .dct0, _, _, h => by
    cases h with
    | dct0 h1 => exact .dct0 h1
  | .scr ns, _, _, h => by
    cases h with
    | scr h1 => exact .scr h1
  | .own k, _, e, h => by
    cases h with
    | own h1 =>
      have e' : k < n := of_decide_eq_true (by simpa only [below] using e)
      exact .own (by show (ph.cells.take n)[k]? = _; rw [List.getElem?_take_of_lt e']; exact h1)
  | .glb _, _, _, h => by
    cases h with
    | glb h1 => exact .glb h1
  | .exc C d, _, e, h => by
    cases h with
    | exc h0 h1 h2 h3 => exact .exc h0 h1 h2 (Rep.take d _ (by simpa only [below] using e) h3)
  | .val v, _, _, h => by cases h; exact .val _
theorem RepAll.takeP : ∀ (ds : List D) (vs : List V), belowAll n ds = true → RepAll K ph S vs ds → RepAll K (ph.cut n) S vs ds
  | [], _, _, h => by cases h; exact .nil
  | d :: ds, _, e, h => by
    have e' : below n d = true ∧ belowAll n ds = true := by simpa only [belowAll, Bool.and_eq_true] using e
    cases h with
    | cons h1 h2 => exact .cons (Rep.take d _ e'.1 h1) (RepAll.takeP ds _ e'.2 h2)
end
mutual
theorem Rep.belowP : ∀ (d : D) (v : V), Rep K ph S v d → below ph.cells.length d = true
  | .non, _, _ => by simp only [below]
  | .bl _, _, _ => by simp only [below]
  | .int _, _, _ => by simp only [below]
  | .str _, _, _ => by simp only [below]
  | .tup ds, _, h => by
    cases h with
    | tup h1 h2 => simp only [below]; exact RepAll.belowP ds _ h2
  | .lst ds, _, h => by
    cases h with
    | lst h1 h2 => simp only [below]; exact RepAll.belowP ds _ h2
  | .dct0, _, _ => by simp only [below]
  | .scr ns, _, _ => by simp only [below]
  | .own k, _, h => by
    cases h with
    | own h1 => simp only [below]; exact decide_eq_true (List.getElem?_eq_some_iff.mp h1).1
  | .glb _, _, _ => by simp only [below]
  | .exc C d, _, h => by
    cases h with
    | exc h0 h1 h2 h3 => simp only [below]; exact Rep.belowP d _ h3
  | .val v, _, _ => by simp only [below]
theorem RepAll.belowP : ∀ (ds : List D) (vs : List V), RepAll K ph S vs ds → belowAll ph.cells.length ds = true
  | [], _, _ => by simp only [belowAll]
  | d :: ds, _, h => by
    cases h with
    | cons h1 h2 => simp only [belowAll, Bool.and_eq_true]; exact ⟨Rep.belowP d _ h1, RepAll.belowP ds _ h2⟩
end
end
mutual
theorem below.mono {m n : Nat} (hmn : m ≤ n) : ∀ d : D, below m d = true → below n d = true
  | .non, _ => by simp only [below]
  | .bl _, _ => by simp only [below]
  | .int _, _ => by simp only [below]
  | .str _, _ => by simp only [below]
  | .tup ds, h => by
    simp only [below] at h ⊢
    exact belowAll.mono hmn ds h
  | .lst ds, h => by
    simp only [below] at h ⊢
    exact belowAll.mono hmn ds h
  | .dct0, _ => by simp only [below]
  | .scr _, _ => by simp only [below]
  | .own k, h => by
    simp only [below] at h ⊢
    have := of_decide_eq_true h
    exact decide_eq_true (by omega)
  | .glb _, _ => by simp only [below]
  | .exc _ d, h => by
    simp only [below] at h ⊢
    exact below.mono hmn d h
  | .val _, _ => by simp only [below]
theorem belowAll.mono {m n : Nat} (hmn : m ≤ n) : ∀ ds : List D, belowAll m ds = true → belowAll n ds = true
  | [], _ => by simp only [belowAll]
  | d :: ds, h => by
    simp only [belowAll, Bool.and_eq_true] at h ⊢
    exact ⟨below.mono hmn d h.1, belowAll.mono hmn ds h.2⟩
end
/-- d and the cells M1 are what stays of M': all else was made by the def -/
def Rtq (M : Mem) (Q : DQ) : DQ := fun d M' => ∃ M1 G, M' = M1 ++ G ∧ M.length ≤ M1.length ∧ below M1.length d = true ∧ (∀ (i : Nat) (c : Own), M1[i]? = some c → M[i]? = some c ∨ belowO M1.length c = true) ∧ Q d M1
theorem Sat.leave {K : PySem.W.Frag} {ph ph1 : Ph} {S S1 : Hp} {r : Env} {M M1 G : Mem} {σ : St} {H H1 : Hp} (h0 : Sat K ph S [] M [] H) (x : Ext ph S ph1 S1) (h : Sat K ph1 S1 r (M1 ++ G) σ H1) (hl : M.length ≤ M1.length) (hc : ∀ (i : Nat) (c : Own), M1[i]? = some c → M[i]? = some c ∨ belowO M1.length c = true) :
    Ext ph S (ph1.cut M1.length) S1 ∧ Sat K (ph1.cut M1.length) S1 [] M1 [] H1 := by
  have hpl : M1.length ≤ ph1.cells.length := by have := h.len; rw [List.length_append] at this; omega
  have up : ∀ (k : Nat) (a : Addr), k < M1.length → ph1.cells[k]? = some a → (ph1.cut M1.length).cells[k]? = some a := fun k a hk e => by show (ph1.cells.take M1.length)[k]? = _; rw [List.getElem?_take_of_lt hk]; exact e
  have dn : ∀ (k : Nat) (a : Addr), (ph1.cut M1.length).cells[k]? = some a → ph1.cells[k]? = some a := fun k a e => by
    replace e : (ph1.cells.take M1.length)[k]? = some a := e
    have hk : k < M1.length := by
      have := (List.getElem?_eq_some_iff.mp e).1
      rw [List.length_take] at this; omega
    rw [List.getElem?_take_of_lt hk] at e; exact e
  refine ⟨⟨fun k a e => up k a ?_ (x.pre k a e), x.same, x.hid⟩, h.sub, ?_, h.nd.sublist (List.take_sublist _ _), fun k a e => h.trk k a (dn k a e), fun k ds e => ?_, fun q hq => ?_, h.hnd, rfl, fun i d e => by simp at e⟩
  · refine Nat.lt_of_lt_of_le ?_ hl
    rw [← h0.len]; exact (List.getElem?_eq_some_iff.mp e).1
  · show (ph1.cells.take M1.length).length = _
    rw [List.length_take]; omega
  · have kl : k < M1.length := (List.getElem?_eq_some_iff.mp e).1
    obtain ⟨a, xs, c1, c2, c3, c4⟩ := h.cell k ds (by rw [List.getElem?_append_left kl]; exact e)
    refine ⟨a, xs, up k a (by omega) c1, c2, c3, RepAll.takeP ds xs ?_ c4⟩
    rcases hc k _ e with q | q
    · obtain ⟨_, _, _, _, _, b4⟩ := h0.cell k ds q
      refine belowAll.mono hl _ ?_
      rw [← h0.len]; exact RepAll.belowP _ _ b4
    · simpa only [belowO] using q
  · obtain ⟨h1, h2, h3⟩ := h.hid q hq
    exact ⟨h1, h2, fun z => h3 (List.mem_of_mem_take z)⟩
theorem Rtq.out {K : PySem.W.Frag} {ph : Ph} {S : Hp} {M : Mem} {H : Hp} {Q : DQ} (h0 : Sat K ph S [] M [] H) {v : V} {H1 : Hp} (h : postR K ph S (Rtq M Q) v H1) : postM K ph S Q v H1 := by
  obtain ⟨r, σ, ph1, S1, M', x, hs, d, q, M1, G, rfl, hl, hb, hc, hq⟩ := h
  obtain ⟨x2, hs2⟩ := Sat.leave h0 x hs hl hc
  exact ⟨_, _, _, x2, hs2, d, Rep.take d v hb q, hq⟩
/-- the names at the entry -/
def startD (n : Nat) (ds : List D) : Env := ds.map some ++ List.replicate (n - ds.length) none
theorem Sat.start {K : PySem.W.Frag} {ph : Ph} {S : Hp} {M : Mem} {H : Hp} {vs : List V} {ds : List D} (h : Sat K ph S [] M [] H) (q : RepAll K ph S vs ds) (N : List Str) : Sat K ph S (startD N.length ds) M (L2.start N vs) H := by
  refine ⟨h.sub, h.len, h.nd, h.trk, h.cell, h.hid, h.hnd, ?_, fun i d e => ?_⟩
  · unfold startD L2.start
    rw [List.length_append, List.length_append, List.length_map, List.length_map, List.length_replicate, List.length_replicate, q.len]
  · unfold startD at e
    by_cases hi : i < ds.length
    · rw [List.getElem?_append_left (by rw [List.length_map]; exact hi), List.getElem?_map] at e
      cases e' : ds[i]? with
      | none => rw [e'] at e; cases e
      | some d' =>
        rw [e'] at e
        have e2 : d' = d := by simpa using e
        subst e2
        obtain ⟨v, ev, qv⟩ := q.get e'
        refine ⟨v, ?_, qv⟩
        unfold L2.start
        rw [List.getElem?_append_left (by rw [List.length_map, q.len]; exact hi), List.getElem?_map, ev]
        rfl
    · rw [List.getElem?_append_right (by rw [List.length_map]; omega), List.getElem?_replicate] at e
      split at e <;> cases e
/-- what the body's end is for the def -/
def dEnds (M : Mem) (Q : DQ) : DEnds := { nx := fun _ M' => Rtq M Q .non M', rt := Rtq M Q }
section
variable {P : Program} {w : World} {K : PySem.W.Frag} {mg : Str → Option Value} {base : Heap}
/-- THE RULE: a def from which nothing is raised, by its body; its end leaves its own cells behind -/
theorem Fun.okD {x qual : Str} {st : Stmt} {f : Addr} {fd : FuncData} {N ps : List Str} {k : Nat} {sp : DSp} {t : DTS} (F : Fun K x qual st f fd) (S : FnScope N ps (defScope st))
    (hder : ∀ (cdv : Value) (A : Around) (outer : List PySem.Env) (s : Shared) (H : Hp) (E : XK), Room k (A.deeper (envOfC qual (defScope st) s.heap.objs.size f cdv)) → (A.deeper (envOfC qual (defScope st) s.heap.objs.size f cdv)).guards = some [] →
      DSs (cxOf CX0 P w K mg base N qual (defScope st) f cdv A outer s H E).nox (defBody st) t)
    (hread : ∀ ds M Q, ds.length = ps.length → sp ds M Q DX0 → t (dEnds M Q) (startD N.length ds) M)
    (hX : ∀ ds M Q E, sp ds M Q E → sp ds M Q DX0 := by exact fun _ _ _ _ h => h) : FnD P w K mg base CX0 (k + 1) f fd ps sp := by
  obtain ⟨oc, od, kV, doc, pm, an, cdv, ct, osl, rfl, lk, hcd⟩ := F.ex
  refine fnG_of lk hcd S (fun vs H Q E h => ?_) fun A outer s H vs Q E hr gd hsp => ?_
  · obtain ⟨_, _, _, _, _, _, hl, _, q, _⟩ := h
    rw [q.len]; exact hl
  · obtain ⟨ph, S0, M, ds, Q0, E0, hl, hs, hq, h, h1, h2⟩ := hsp
    refine ⟨_, (hder cdv A outer s H E hr gd).pss.nox, ph, S0, startD N.length ds, M, dEnds M Q0, hs.start hq N, hread ds M Q0 hl (hX _ _ _ _ h), ?_, ?_, ?_, ?_⟩
    · rintro σ' H' ⟨r, ph1, S1, M1, x, hs1, z⟩
      exact h1 _ _ (Rtq.out hs ⟨r, σ', ph1, S1, M1, x, hs1, .non, .non, z⟩)
    · exact fun v H' z => h1 _ _ (Rtq.out hs z)
    · rintro σ' H' ⟨r, ph1, S1, M1, x, hs1, z⟩
      exact z.elim
    · rintro σ' H' ⟨r, ph1, S1, M1, x, hs1, z⟩
      exact z.elim
end
end DL
/-! DL6: statements, loops, comprehensions -/
namespace DL
open PySem PySem.Spec PyProof.Rows L2
variable {X : Cx}
theorem DS.of {st : Stmt} {t' : TS} {t : DTS} (h : PS X st t') (w : ∀ ph S r M σ H E, Sat X.K ph S r M σ H → t E r M → ∀ E', (∀ σ' H', postN X.K ph S E.nx σ' H' → E'.nx σ' H') → (∀ v H', postR X.K ph S E.rt v H' → E'.rt v H') → (∀ σ' H', postN X.K ph S E.bk σ' H' → E'.bk σ' H') → (∀ σ' H', postN X.K ph S E.ct σ' H' → E'.ct σ' H') → t' E' σ H) : DS X st t :=
  ⟨PS.weak h fun E σ H ⟨ph, S, r, M, E0, hs, ht, h1, h2, h3, h4⟩ => w ph S r M σ H E0 hs ht E h1 h2 h3 h4⟩
theorem postN.up {K : PySem.W.Frag} {ph ph1 : Ph} {S S1 : Hp} {Q : Env → Mem → Prop} {σ : St} {H : Hp} (x : Ext ph S ph1 S1) (h : postN K ph1 S1 Q σ H) : postN K ph S Q σ H := let ⟨r, q⟩ := h; ⟨r, Aft.up x q⟩
theorem postR.up {K : PySem.W.Frag} {ph ph1 : Ph} {S S1 : Hp} {Q : DQ} {v : V} {H : Hp} (x : Ext ph S ph1 S1) (h : postR K ph1 S1 Q v H) : postR K ph S Q v H := let ⟨r, σ, q⟩ := h; ⟨r, σ, Aft.up x q⟩
/-! ### blocks -/
def dNext : DTS := fun E r M => E.nx r M
def dSeq (t u : DTS) : DTS := fun E r M => t { E with nx := u E } r M
theorem dss_nil : DSs X [] dNext := ⟨PSs.weak pss_nil fun E σ H ⟨ph, S, r, M, E0, hs, ht, h1, _, _, _⟩ => h1 _ _ ⟨r, Aft.here hs ht⟩⟩
theorem lf_on {ph ph1 : Ph} {S S1 : Hp} {r : Env} {M : Mem} {σ : St} {H : Hp} {t : DTS} {E : DEnds} {E' : Ends} (x : Ext ph S ph1 S1) (hs : Sat X.K ph1 S1 r M σ H) (ht : t E r M)
    (h1 : ∀ σ' H', postN X.K ph S E.nx σ' H' → E'.nx σ' H') (h2 : ∀ v H', postR X.K ph S E.rt v H' → E'.rt v H') (h3 : ∀ σ' H', postN X.K ph S E.bk σ' H' → E'.bk σ' H') (h4 : ∀ σ' H', postN X.K ph S E.ct σ' H' → E'.ct σ' H') : lfS X.K t E' σ H :=
  ⟨ph1, S1, r, M, E, hs, ht, fun _ _ z => h1 _ _ (z.up x), fun _ _ z => h2 _ _ (z.up x), fun _ _ z => h3 _ _ (z.up x), fun _ _ z => h4 _ _ (z.up x)⟩
theorem dss_cons {st : Stmt} {rest : List Stmt} {t u : DTS} (h : DS X st t) (h' : DSs X rest u) : DSs X (st :: rest) (dSeq t u) :=
  ⟨PSs.weak (pss_cons h.ps h'.pss) fun E σ H ⟨ph, S, r, M, E0, hs, ht, h1, h2, h3, h4⟩ =>
    ⟨ph, S, r, M, { E0 with nx := u E0 }, hs, ht, fun σ' H' ⟨r1, ph1, S1, M1, x, hs1, z⟩ => lf_on x hs1 z h1 h2 h3 h4, h2, h3, h4⟩⟩
theorem dss_one {st : Stmt} {t : DTS} (h : DS X st t) : DSs X [st] t := ⟨pss_one h.ps⟩
def dNever : DTS := fun _ _ _ => False
section
variable {pos : Pos}
/-- an expression whose value is dropped -/
def dDrop (t : DTE) : DTS := fun E r M => t r M fun _ M1 => E.nx r M1
theorem ds_expr {e : Expr} {t : DTE} (he : DE X e t) (hs : swapsWith e none pos.line X.env = pure false := by rfl) : DS X (.Expr e pos) (dDrop t) :=
  DS.of (ps_expr he.pe hs) fun ph S r M σ H E hs ht E' h1 _ _ _ => ⟨ph, S, r, M, _, hs, ht, fun v H' ⟨ph1, S1, M1, x, hs1, d, _, z⟩ => h1 _ _ ⟨r, ph1, S1, M1, x, hs1, z⟩⟩
def dRet (t : DTE) : DTS := fun E r M => t r M E.rt
theorem ds_ret {e : Expr} {t : DTE} (he : DE X e t) : DS X (.Return (some e) pos) (dRet t) :=
  DS.of (ps_ret he.pe) fun ph S r M σ H E hs ht E' _ h2 _ _ => ⟨ph, S, r, M, _, hs, ht, fun v H' z => h2 _ _ ⟨r, σ, z⟩⟩
def dRetN : DTS := fun E _ M => E.rt .non M
def dIfS (c : DTT) (t u : DTS) : DTS := fun E r M => c r M fun b M1 => if b = true then t E r M1 else u E r M1
theorem ds_if {c : Expr} {a b : List Stmt} {tc : DTT} {t u : DTS} (hc : DT X c tc) (ha : DSs X a t) (hb : DSs X b u) : DS X (.If c a b pos) (dIfS tc t u) :=
  DS.of (ps_if hc.pt ha.pss hb.pss) fun ph S r M σ H E hs ht E' h1 h2 h3 h4 => ⟨ph, S, r, M, _, hs, ht, fun k H1 ⟨ph1, S1, M1, x, hs1, z⟩ => by
    cases k with
    | true => exact lf_on x hs1 z h1 h2 h3 h4
    | false => exact lf_on x hs1 z h1 h2 h3 h4⟩
end
/-! ### targets -/
abbrev DTG := D → Env → Mem → (Env → Mem → Prop) → Prop
structure DG (X : Cx) (target : Expr) (g : DTG) : Prop where
  pg : PG X target (fun v σ H Q => ∃ ph S r M d Q0, Sat X.K ph S r M σ H ∧ Rep X.K ph S v d ∧ g d r M Q0 ∧ ∀ σ' H', postN X.K ph S Q0 σ' H' → Q σ' H')
def dName (i : Nat) : DTG := fun d r M Q => Q (r.set i (some d)) M
theorem dg_name {i : Nat} {x : Str} {pos : Pos} (hN : X.N.Nodup) (hi : X.N[i]? = some x := by rfl) (hx : Loc X.env.scope x := by first | exact Or.inl rfl | exact Or.inr rfl) (hf : X.fn x = true ∨ X.env.scope.names.lookup x = some .local := by first | exact .inl rfl | exact .inr rfl | assumption) : DG X (.Name x pos) (dName i) :=
  ⟨⟨fun pins s σ H v u Q I rv ⟨ph, S, r, M, d, Q0, hs, q, hg, h1⟩ => (pg_name hN hi hx hf).run pins s σ H v u Q I rv (h1 _ _ ⟨_, Aft.here (hs.setN q) hg⟩)⟩⟩
abbrev DTGs := List D → Env → Mem → (Env → Mem → Prop) → Prop
structure DGs (X : Cx) (ts : List Expr) (g : DTGs) : Prop where
  pgs : PGs X ts (fun vs σ H Q => ∃ ph S r M ds Q0, Sat X.K ph S r M σ H ∧ RepAll X.K ph S vs ds ∧ g ds r M Q0 ∧ ∀ σ' H', postN X.K ph S Q0 σ' H' → Q σ' H')
def dGNil : DTGs := fun ds r M Q => match ds with
  | [] => Q r M
  | _ => False
def dGCons (g : DTG) (u : DTGs) : DTGs := fun ds r M Q => match ds with
  | d :: rest => g d r M fun r1 M1 => u rest r1 M1 Q
  | _ => False
theorem dgs_nil : DGs X [] dGNil := ⟨⟨fun pins s σ H vs us Q I rv ⟨ph, S, r, M, ds, Q0, hs, q, hg, h1⟩ => pgs_nil.run pins s σ H vs us Q I rv (by
  cases ds with
  | cons d ds => exact hg.elim
  | nil =>
    cases q
    exact ⟨rfl, h1 _ _ ⟨r, Aft.here hs hg⟩⟩)⟩⟩
theorem dgs_cons {e : Expr} {es : List Expr} {g : DTG} {u : DTGs} (h : DG X e g) (h' : DGs X es u) (hst : (assignEach (e :: es) X.env).map (·.2) = assign e X.env :: (assignEach es X.env).map (·.2) := by rfl) : DGs X (e :: es) (dGCons g u) :=
  ⟨⟨fun pins s σ H vs us Q I rv ⟨ph, S, r, M, ds, Q0, hs, q, hg, h1⟩ => (pgs_cons h.pg h'.pgs hst).run pins s σ H vs us Q I rv (by
    cases ds with
    | nil => exact hg.elim
    | cons d ds =>
      cases q with
      | cons q1 q2 => exact ⟨_, _, rfl, ph, S, r, M, d, _, hs, q1, hg, fun σ1 H1 ⟨r1, ph1, S1, M1, x1, hs1, z⟩ => ⟨ph1, S1, r1, M1, ds, Q0, hs1, q2.up x1, z, fun σ2 H2 z2 => h1 _ _ (z2.up x1)⟩⟩)⟩⟩
/-- (a, b, ..) = a tuple, or a list -/
def dGTup (n : Nat) (u : DTGs) : DTG := fun d r M Q => match res M d with
  | .tup ds => ds.length = n ∧ u ds r M Q
  | .lst ds => ds.length = n ∧ u ds r M Q
  | _ => False
theorem dg_tup {es : List Expr} {k : Nat} {u : DTGs} {n : Nat} {pos : Pos} (hc : X.calm = true) (h : DGs X es u) (hn : (assignEach es X.env).length = n := by rfl) (hst : (assignEach es X.env).findIdx? (·.1) = none := by rfl) : DG X (.Tuple es k pos) (dGTup n u) :=
  ⟨⟨fun pins s σ H v u' Q I rv ⟨ph, S, r, M, d, Q0, hs, q, hg, h1⟩ => by
    unfold dGTup at hg
    split at hg
    · rename_i ds e
      have e' := res_tup e
      subst e'
      refine (pg_tup hc h.pgs hn hst).run pins s σ H v u' Q I rv ?_
      cases q with
      | tup q1 q2 => exact ⟨_, _, rfl, q1.sq hs.sub, by rw [q2.len]; exact hg.1, ph, S, r, M, _, Q0, hs, q2, hg.2, h1⟩
    · rename_i ds e
      obtain ⟨a, xs, e1, e2, q2⟩ := res_lst hs q e
      refine (pg_unl hc h.pgs hn hst).run pins s σ H v u' Q I rv ?_
      exact ⟨a, xs, e1, SqL.of e2, by rw [q2.len]; exact hg.1, ph, S, r, M, _, Q0, hs, q2, hg.2, h1⟩
    · exact hg.elim⟩⟩
/-- o[i] = .., o an owned list -/
def gSetL (o i d : D) (M : Mem) (Q : Mem → Prop) : Prop := match o, i with
  | .own k, .int j => match M[k]? with
    | some (.lst l) => match ixN l.length j with
      | some n => Q (M.set k (.lst (l.set n d)))
      | none => False
    | _ => False
  | _, _ => False
def dSub (to ti : DTE) : DTG := fun d r M Q => to r M fun o M1 => ti r M1 fun i M2 => gSetL o i d M2 fun M3 => Q r M3
theorem dg_sub {o i : Expr} {to ti : DTE} {pos : Pos} (ho : DE X o to) (hi : DE X i ti)
    (ha : ∀ v, assign (.Subscript o i pos) X.env v = (do
      let ov ← holding [v] (eval o X.env)
      let iv ← holding [v, ov] (eval i X.env)
      standAt pos
      holding [v, ov, iv] (setItem ov iv v)
      release [v, ov, iv] []) := by intro _; rfl) : DG X (.Subscript o i pos) (dSub to ti) :=
  ⟨⟨fun pins s σ H v u Q I rv ⟨ph, S, r, M, d, Q0, hs, q, hg, h1⟩ => (pg_sub ho.pe hi.pe set_list ha).run pins s σ H v u Q I rv
    ⟨ph, S, r, M, _, hs, hg, fun ov H1 ⟨ph1, S1, M1, x1, hs1, od, q1, g1⟩ => ⟨ph1, S1, r, M1, _, hs1, g1, fun iv H2 ⟨ph2, S2, M2, x2, hs2, id', q2, g2⟩ => by
      replace g2 : gSetL od id' d M2 fun M3 => Q0 r M3 := g2
      cases od with
      | own k =>
        cases id' with
        | int j =>
          unfold gSetL at g2
          dsimp only at g2
          split at g2
          · rename_i l hk
            split at g2
            · rename_i n hn
              cases q2
              cases q1 with
              | own hp =>
                have hp2 := x2.pre _ _ hp
                obtain ⟨a, xs, c1, c2, c3, c4⟩ := hs2.cell k l hk
                rw [hp2] at c1; cases c1
                exact ⟨_, xs, j, n, rfl, rfl, c3, by rw [c4.len]; exact hn, h1 _ _ ⟨r, ph2, S2, _, x1.trans x2, hs2.put hk hp2 (RepAll.set (q.up (x1.trans x2)) n c4), g2⟩⟩
            · exact g2.elim
          · exact g2.elim
        | _ => exact g2.elim
      | _ => exact g2.elim⟩⟩⟩⟩
/-- target = value -/
def dAsg (t : DTE) (g : DTG) : DTS := fun E r M => t r M fun d M1 => g d r M1 E.nx
section
variable {pos : Pos}
theorem ds_asg {tg e : Expr} {t : DTE} {g : DTG} (he : DE X e t) (hg : DG X tg g) (hs : swapsWithSole [tg] e pos.line X.env = pure false := by rfl) (hw : swappedStores [tg] e X.env = pure none := by rfl)
    (h1 : (assignEach [tg] X.env).map (·.2) = [assign tg X.env] := by rfl) : DS X (.Assign [tg] e pos) (dAsg t g) :=
  DS.of (ps_asg he.pe hg.pg hs hw h1) fun ph S r M σ H E hs ht E' h1 _ _ _ => ⟨ph, S, r, M, _, hs, ht, fun v H' ⟨ph1, S1, M1, x, hs1, d, q, z⟩ => ⟨ph1, S1, r, M1, d, E.nx, hs1, q, z, fun σ2 H2 z2 => h1 _ _ (z2.up x)⟩⟩
/-- name = value -/
theorem ds_set {i : Nat} {x : Str} {e : Expr} {t : DTE} {pos' : Pos} (hN : X.N.Nodup) (he : DE X e t) (hi : X.N[i]? = some x := by rfl) (hx : Loc X.env.scope x := by first | exact Or.inl rfl | exact Or.inr rfl) (hs : swapsWith e (some (.Name x pos')) pos.line X.env = pure false := by rfl) (hf : X.fn x = true ∨ X.env.scope.names.lookup x = some .local := by first | exact .inl rfl | exact .inr rfl | assumption) :
    DS X (.Assign [.Name x pos'] e pos) (dAsg t (dName i)) :=
  DS.of (ps_set hN hi hx he.pe hs hf) fun ph S r M σ H E hs ht E' h1 _ _ _ => ⟨ph, S, r, M, _, hs, ht, fun v H' ⟨ph1, S1, M1, x, hs1, d, q, z⟩ => h1 _ _ ⟨_, ph1, S1, M1, x, hs1.setN q, z⟩⟩
/-- a, b = x, y -/
def dPar (i j : Nat) (t : DTA) : DTS := fun E r M => t r M fun ds M1 => match ds with
  | [d, e] => E.nx ((r.set i (some d)).set j (some e)) M1
  | _ => False
theorem ds_par {i j : Nat} {x y : Str} {a b : Expr} {t : DTA} {px py pt : Pos} {kt k2 pt2} (hc : X.calm = true) (hN : X.N.Nodup) (ha : DA X [a, b] t) (hi : X.N[i]? = some x := by rfl) (hj : X.N[j]? = some y := by rfl) (hij : i ≠ j := by decide)
    (hx : X.env.scope.names.lookup x = some .local := by rfl) (hy : X.env.scope.names.lookup y = some .local := by rfl)
    (hw : swappedStores [.Tuple [.Name x px, .Name y py] kt pt] (.Tuple [a, b] k2 pt2) X.env = pure (some [x, y]) := by rfl)
    (hs : swapsWithSole [.Tuple [.Name x px, .Name y py] kt pt] (.Tuple [a, b] k2 pt2) pos.line X.env = pure false := by rfl) :
    DS X (.Assign [.Tuple [.Name x px, .Name y py] kt pt] (.Tuple [a, b] k2 pt2) pos) (dPar i j t) :=
  DS.of (ps_par hc hN hi hj hij hx hy ha.pa hw hs) fun ph S r M σ H E hs ht E' h1 _ _ _ => ⟨ph, S, r, M, _, hs, ht, fun vs H' ⟨ph1, S1, M1, x, hs1, ds, q, z⟩ => by
    match ds, q, z with
    | [d, e], .cons q1 (.cons q2 .nil), z => exact ⟨_, _, rfl, h1 _ _ ⟨_, ph1, S1, M1, x, (hs1.setN q1).setN q2, z⟩⟩⟩
def dPar3 (i j l : Nat) (t : DTA) : DTS := fun E r M => t r M fun ds M1 => match ds with
  | [d, e, f] => E.nx (((r.set i (some d)).set j (some e)).set l (some f)) M1
  | _ => False
theorem ds_par3 {i j l : Nat} {x y z : Str} {a b c : Expr} {t : DTA} {px py pz pt : Pos} {kt k2 pt2} (hc : X.calm = true) (hN : X.N.Nodup) (ha : DA X [a, b, c] t) (hi : X.N[i]? = some x := by rfl) (hj : X.N[j]? = some y := by rfl) (hl : X.N[l]? = some z := by rfl) (hij : i ≠ j := by decide) (hil : i ≠ l := by decide) (hjl : j ≠ l := by decide)
    (hx : X.env.scope.names.lookup x = some .local := by rfl) (hy : X.env.scope.names.lookup y = some .local := by rfl) (hz : X.env.scope.names.lookup z = some .local := by rfl)
    (hw : swappedStores [.Tuple [.Name x px, .Name y py, .Name z pz] kt pt] (.Tuple [a, b, c] k2 pt2) X.env = pure (some [x, y, z]) := by rfl)
    (hs : swapsWithSole [.Tuple [.Name x px, .Name y py, .Name z pz] kt pt] (.Tuple [a, b, c] k2 pt2) pos.line X.env = pure false := by rfl) :
    DS X (.Assign [.Tuple [.Name x px, .Name y py, .Name z pz] kt pt] (.Tuple [a, b, c] k2 pt2) pos) (dPar3 i j l t) :=
  DS.of (ps_par3 hc hN hi hj hl hij hil hjl hx hy hz ha.pa hw hs) fun ph S r M σ H E hs ht E' h1 _ _ _ => ⟨ph, S, r, M, _, hs, ht, fun vs H' ⟨ph1, S1, M1, x, hs1, ds, q, z⟩ => by
    match ds, q, z with
    | [d, e, f], .cons q1 (.cons q2 (.cons q3 .nil)), z => exact ⟨_, _, _, rfl, h1 _ _ ⟨_, ph1, S1, M1, x, ((hs1.setN q1).setN q2).setN q3, z⟩⟩⟩
/-- name op= e (ints) -/
def gIpI (f : Int → Int → Int) (x y : D) (M : Mem) (Q : DQ) : Prop := match x, y with
  | .int i, .int j => Q (.int (f i j)) M
  | _, _ => False
def dAug (i : Nat) (t : DTE) (f : Int → Int → Int) : DTS := fun E r M => match r[i]? with
  | some (some (.int a)) => t r M fun d M1 => gIpI f (.int a) d M1 fun z M2 => E.nx (r.set i (some z)) M2
  | _ => False
/-! ### while -/
def dWhile (c : DTT) (t : DTS) : DTS := fun E r M => ∃ W : Nat → Env → Mem → Prop, (∃ m, W m r M) ∧ ∀ m r M, W m r M →
  c r M fun b M1 => if b = true then t { E with nx := fun r' M' => ∃ m', m' < m ∧ W m' r' M', ct := fun r' M' => ∃ m', m' < m ∧ W m' r' M', bk := E.nx } r M1 else E.nx r M1
theorem ds_while {c : Expr} {body : List Stmt} {tc : DTT} {t : DTS} (hc : DT X c tc) (hb : DSs X body t) (hp : PassesOwn (model X.prog X.w) X.A X.env X.xe := by exact PassesOwn.never) : DS X (.While c body [] pos) (dWhile tc t) :=
  DS.of (ps_while hp hc.pt hb.pss) fun ph S r M σ H E hs ht E' h1 h2 h3 h4 => by
    obtain ⟨W, ⟨m0, w0⟩, turn⟩ := ht
    refine ⟨fun m σ H => postN X.K ph S (W m) σ H, ⟨m0, r, Aft.here hs w0⟩, fun m σ1 H1 ⟨r1, ph1, S1, M1, x1, hs1, w1⟩ => ?_⟩
    refine ⟨ph1, S1, r1, M1, _, hs1, turn m r1 M1 w1, fun b H2 ⟨ph2, S2, M2, x2, hs2, z⟩ => ?_⟩
    cases b with
    | false =>
      rw [if_neg Bool.false_ne_true] at z ⊢
      exact h1 _ _ ⟨r1, ph2, S2, M2, x1.trans x2, hs2, z⟩
    | true =>
      rw [if_pos rfl] at z ⊢
      refine ⟨fun σ' H' => ∃ m', m' < m ∧ postN X.K ph S (W m') σ' H', fun _ _ q => q, ?_⟩
      exact lf_on (x1.trans x2) hs2 z (fun σ' H' ⟨r', ph', S', M', x', hs', m', hm, w'⟩ => ⟨m', hm, r', ph', S', M', x', hs', w'⟩) h2 h1 (fun σ' H' ⟨r', ph', S', M', x', hs', m', hm, w'⟩ => ⟨m', hm, r', ph', S', M', x', hs', w'⟩)
end
/-! ### what is walked -/
/-- J walks the items ds, while C holds of the cells -/
def Wlk (K : PySem.W.Frag) (ph : Ph) (S : Hp) (J : It) (ds : List D) (C : Mem → Prop) : Prop :=
  ∀ (ph' : Ph) S' r M σ H, (∀ (k : Nat) (a : Addr), ph.cells[k]? = some a → ph'.cells[k]? = some a) → Same S S' → Sat K ph' S' r M σ H → C M →
    (∀ i, ds.length ≤ i → J.stop i H) ∧ ∀ i d, ds[i]? = some d → J.go i H ∧ ∀ x H', J.yld i H x H' → Aft K ph' S' r σ H' fun ph2 S2 M2 => M2 = M ∧ Rep K ph2 S2 x d
abbrev DTI := Env → Mem → (List D → (Mem → Prop) → Mem → Prop) → Prop
structure DI (X : Cx) (tg iter : Expr) (t : DTI) : Prop where
  pi : PI X tg iter (fun σ H R => ∃ ph S r M Q0, Sat X.K ph S r M σ H ∧ t r M Q0 ∧ ∀ J H', (Aft X.K ph S r σ H' fun ph' S' M' => ∃ ds C, Wlk X.K ph' S' J ds C ∧ Q0 ds C M') → R J H')
/-- for: W holds ahead of turn i -/
def forW (ds : List D) (C : Mem → Prop) (g : DTG) (t : DTS) (E : DEnds) (r : Env) (M0 : Mem) : Prop := ∃ W : Nat → Env → Mem → Prop, W 0 r M0 ∧ ∀ i r M, W i r M → C M ∧ (ds.length ≤ i → E.nx r M) ∧
  ∀ d, ds[i]? = some d → g d r M fun r2 M2 => t { E with nx := W (i + 1), ct := W (i + 1), bk := E.nx } r2 M2
def dFor (wi : DTI) (g : DTG) (t : DTS) : DTS := fun E r M => wi r M fun ds C M0 => forW ds C g t E r M0
theorem ds_for {tg iter : Expr} {body : List Stmt} {wi : DTI} {g : DTG} {t : DTS} {pos : Pos} (hc : X.calm = true) (hi : DI X tg iter wi) (hg : DG X tg g) (hb : DSs X body t)
    (hs : ∀ x, foldedSetIterable iter X.env x = pure x := by intro _; rfl) (hp : PassesOwn (model X.prog X.w) X.A X.env X.xe := by exact PassesOwn.never) : DS X (.For tg iter body [] pos) (dFor wi g t) :=
  DS.of (ps_for hp hc hi.pi hg.pg hb.pss hs) fun ph S r M σ H E hs ht E' h1 h2 h3 h4 => by
    refine ⟨ph, S, r, M, _, hs, ht, fun J H1 ⟨ph1, S1, M1, x1, hs1, ds, C, wk, W, w0, turn⟩ => ?_⟩
    refine ⟨fun i m σ H => m = ds.length - i ∧ ∃ r', Aft X.K ph1 S1 r' σ H fun _ _ M => W i r' M, ⟨ds.length, by omega, r, Aft.here hs1 w0⟩, ?_⟩
    rintro i m σ3 H3 ⟨rfl, r3, ph3, S3, M3, x3, hs3, w3⟩
    obtain ⟨c3, f3, g3⟩ := turn i r3 M3 w3
    obtain ⟨k1, k2⟩ := wk ph3 S3 r3 M3 σ3 H3 x3.pre x3.same hs3 c3
    by_cases hl : ds.length ≤ i
    · exact .inl ⟨k1 i hl, h1 _ _ ⟨r3, ph3, S3, M3, x1.trans x3, hs3, f3 hl⟩⟩
    · obtain ⟨d, ed⟩ : ∃ d, ds[i]? = some d := ⟨ds[i]'(by omega), List.getElem?_eq_getElem (by omega)⟩
      obtain ⟨k3, k4⟩ := k2 i d ed
      refine .inr ⟨k3, fun σ' H' => ∃ r', Aft X.K ph1 S1 r' σ' H' fun _ _ M => W (i + 1) r' M, fun σ' H' z => ⟨ds.length - (i + 1), by omega, rfl, z⟩, fun x H4 hy => ?_⟩
      obtain ⟨ph4, S4, M4, x4, hs4, rfl, q4⟩ := k4 x H4 hy
      refine ⟨ph4, S4, r3, M4, d, _, hs4, q4, g3 d ed, fun σ5 H5 ⟨r5, ph5, S5, M5, x5, hs5, z5⟩ => ?_⟩
      have xx : Ext ph1 S1 ph5 S5 := x3.trans (x4.trans x5)
      refine ⟨ph5, S5, r5, M5, _, hs5, z5, ?_, ?_, ?_, ?_⟩
      · exact fun σ6 H6 ⟨r6, z6⟩ => ⟨r6, Aft.up xx z6⟩
      · exact fun v H6 z6 => h2 _ _ (z6.up (x1.trans xx))
      · exact fun σ6 H6 z6 => h1 _ _ (z6.up (x1.trans xx))
      · exact fun σ6 H6 ⟨r6, z6⟩ => ⟨r6, Aft.up xx z6⟩
/-! ### comprehensions -/
/-- the tests behind if -/
def dYes : DTT := fun _ M Q => Q true M
structure DTs (X : Cx) (ifs : List Expr) (t : DTT) : Prop where
  pts : PTs X ifs (fun σ H Q => ∃ ph S r M Q0, Sat X.K ph S r M σ H ∧ t r M Q0 ∧ ∀ b H', postT X.K ph S r σ Q0 b H' → Q b H')
theorem dts_nil : DTs X [] dYes := ⟨⟨fun pins s σ H Q I ⟨ph, S, r, M, Q0, hs, ht, hq⟩ => pts_nil.run pins s σ H Q I (hq _ _ (Aft.here hs ht))⟩⟩
theorem dts_one {c : Expr} {t : DTT} (h : DT X c t) : DTs X [c] t := ⟨pts_one h.pt⟩
def wipeD (r : Env) : List Nat → Env
  | [] => r
  | v :: vs => (wipeD r vs).set v none
theorem Sat.clr {K : PySem.W.Frag} {ph : Ph} {S : Hp} {r : Env} {M : Mem} {σ : St} {H : Hp} (h : Sat K ph S r M σ H) (i : Nat) : Sat K ph S (r.set i none) M (σ.set i none) H := by
  refine ⟨h.sub, h.len, h.nd, h.trk, h.cell, h.hid, h.hnd, by rw [List.length_set, List.length_set]; exact h.el, fun j e hj => ?_⟩
  by_cases hi : j = i
  · subst hi
    have jl : j < r.length := by
      have := (List.getElem?_eq_some_iff.mp hj).1
      rwa [List.length_set] at this
    rw [List.getElem?_set_self jl] at hj
    cases hj
  · rw [List.getElem?_set_ne (Ne.symm hi)] at hj
    rw [List.getElem?_set_ne (Ne.symm hi)]
    exact h.env j e hj
theorem Sat.wipe {K : PySem.W.Frag} {ph : Ph} {S : Hp} {r : Env} {M : Mem} {σ : St} {H : Hp} (h : Sat K ph S r M σ H) : ∀ vs : List Nat, Sat K ph S (wipeD r vs) M (L2.wipe σ vs) H
  | [] => h
  | v :: vs => (Sat.wipe h vs).clr v
/-- a target whose names are the comprehension's own (places vs) -/
structure DCG (X : Cx) (target : Expr) (vs : List Nat) (g : DTG) : Prop where
  pg : PG X target (fun v σ H Q => ∃ ph S r M d Q0, Sat X.K ph S r M σ H ∧ Rep X.K ph S v d ∧ g d r M Q0 ∧ ∀ σ' H', postN X.K ph S Q0 σ' H' → L2.wipe σ' vs = L2.wipe σ vs → Q σ' H')
theorem wipe_set {σ : St} {i : Nat} {x : Option V} : ∀ {vs : List Nat}, i ∈ vs → L2.wipe (σ.set i x) vs = L2.wipe σ vs
  | [], h => by cases h
  | v :: vs, h => by
    unfold L2.wipe
    by_cases hv : i ∈ vs
    · rw [wipe_set hv]
    · have e : i = v := (List.mem_cons.mp h).resolve_right hv
      subst e
      have key : ∀ (us : List Nat), i ∉ us → L2.wipe (σ.set i x) us = (L2.wipe σ us).set i x := by
        intro us
        induction us with
        | nil => intro _; rfl
        | cons u us ih =>
          intro hu
          unfold L2.wipe
          rw [ih (fun z => hu (List.mem_cons_of_mem _ z)), List.set_comm _ _ (fun e => hu (by rw [e]; exact List.mem_cons_self))]
      rw [key vs hv, List.set_set]
theorem dcg_name {i : Nat} {x : Str} {pos : Pos} {vs : List Nat} (hN : X.N.Nodup) (hi : X.N[i]? = some x := by rfl) (hv : i ∈ vs := by decide) (hx : Loc X.env.scope x := by first | exact Or.inl rfl | exact Or.inr rfl) (hf : X.fn x = true ∨ X.env.scope.names.lookup x = some .local := by first | exact .inl rfl | exact .inr rfl | assumption) : DCG X (.Name x pos) vs (dName i) :=
  ⟨⟨fun pins s σ H v u Q I rv ⟨ph, S, r, M, d, Q0, hs, q, hg, h1⟩ => (pg_name hN hi hx hf).run pins s σ H v u Q I rv (h1 _ _ ⟨_, Aft.here (hs.setN q) hg⟩ (wipe_set hv))⟩⟩
/-- [e for target in iter if ..]: W holds ahead of turn i with the items made so far; own: the list will be changed -/
def lcW (own : Bool) (ds : List D) (C : Mem → Prop) (g : DTG) (tt : DTT) (te : DTE) (r : Env) (M0 : Mem) (Q : DQ) : Prop := ∃ W : Nat → List D → Mem → Prop, W 0 [] M0 ∧ ∀ i acc M, W i acc M → C M ∧
  (ds.length ≤ i → if own = true then Q (.own M.length) (M ++ [.lst acc]) else Q (.lst acc) M) ∧
  ∀ d, ds[i]? = some d → g d r M fun r2 M2 => tt r2 M2 fun b M3 => if b = true then te r2 M3 fun e M4 => acc.length < sizeLine ∧ W (i + 1) (acc ++ [e]) M4 else W (i + 1) acc M3
def dLc (own : Bool) (wi : DTI) (g : DTG) (tt : DTT) (te : DTE) (vs : List Nat) : DTE := fun r M Q => wi r M fun ds C M0 => lcW own ds C g tt te (wipeD r vs) M0 Q
theorem wipe_at {σ : St} {i : Nat} : ∀ {vs : List Nat}, i ∈ vs → i < σ.length → (L2.wipe σ vs)[i]? = some none
  | [], h, _ => by cases h
  | v :: vs, h, hl => by
    unfold L2.wipe
    by_cases e : v = i
    · subst e
      rw [List.getElem?_set_self (by rw [wipe_length]; exact hl)]
    · rw [List.getElem?_set_ne e]
      exact wipe_at ((List.mem_cons.mp h).resolve_left (fun z => e z.symm)) hl
theorem wipe_wipe (σ : St) (vs : List Nat) : L2.wipe (L2.wipe σ vs) vs = L2.wipe σ vs := by
  refine List.ext_getElem? fun i => ?_
  by_cases hi : i ∈ vs
  · by_cases hl : i < σ.length
    · rw [wipe_at hi (by rw [wipe_length]; exact hl), wipe_at hi hl]
    · rw [List.getElem?_eq_none (by rw [wipe_length, wipe_length]; omega), List.getElem?_eq_none (by rw [wipe_length]; omega)]
  · rw [wipe_out hi]
theorem lc_read (o : Bool) {wi : DTI} {g : DTG} {tt : DTT} {te : DTE} {vs : List Nat} {ph : Ph} {S : Hp} {r : Env} {M : Mem} {σ : St} {H : Hp} {Q : DQ} (hs : Sat X.K ph S r M σ H) (ht : dLc o wi g tt te vs r M Q) (Q' : VK) (hq : ∀ v H', post X.K ph S r σ Q v H' → Q' v H') :
    tLc (fun σ H R => ∃ ph S r M Q0, Sat X.K ph S r M σ H ∧ wi r M Q0 ∧ ∀ J H', (Aft X.K ph S r σ H' fun ph' S' M' => ∃ ds C, Wlk X.K ph' S' J ds C ∧ Q0 ds C M') → R J H')
      (fun v σ H Q => ∃ ph S r M d Q0, Sat X.K ph S r M σ H ∧ Rep X.K ph S v d ∧ g d r M Q0 ∧ ∀ σ' H', postN X.K ph S Q0 σ' H' → L2.wipe σ' vs = L2.wipe σ vs → Q σ' H')
      (fun σ H Q => ∃ ph S r M Q0, Sat X.K ph S r M σ H ∧ tt r M Q0 ∧ ∀ b H', postT X.K ph S r σ Q0 b H' → Q b H')
      (fun σ H Q => ∃ ph S r M Q0, Sat X.K ph S r M σ H ∧ te r M Q0 ∧ ∀ v H', post X.K ph S r σ Q0 v H' → Q v H') vs σ H Q' := by
  refine ⟨ph, S, r, M, _, hs, ht, fun J H1 ⟨ph1, S1, M1, x1, hs1, ds, C, wk, W, w0, turn⟩ => ?_⟩
  intro p hp
  refine ⟨fun i m H => m = ds.length - i ∧ ∃ (ph2 : Ph) (S2 : Hp) (M2 : Mem) (xs : List V) (acc : List D), Ext ph1 S1 ⟨ph2.cells, ph1.hid⟩ S2 ∧ ph2.hid = (p, .lst xs) :: ph1.hid ∧ Sat X.K ph2 S2 r M2 σ H ∧ RepAll X.K ph2 S2 xs acc ∧ W i acc M2,
    ⟨ds.length, by omega, { ph1 with hid := (p, .lst []) :: ph1.hid }, S1, M1, [], [], .refl, rfl, hs1.hide hp _, .nil, w0⟩, ?_⟩
  rintro i m H3 ⟨rfl, ph3, S3, M3, xs, acc, x3, eh, hs3, qa, w3⟩
  obtain ⟨c3, f3, g3⟩ := turn i acc M3 w3
  obtain ⟨k1, k2⟩ := wk ph3 S3 r M3 σ H3 x3.pre x3.same hs3 c3
  by_cases hl : ds.length ≤ i
  · refine .inl ⟨k1 i hl, ?_⟩
    have f := f3 hl
    obtain ⟨c, hd⟩ := ph3
    cases eh
    cases o with
    | false =>
      rw [if_neg Bool.false_ne_true] at f
      obtain ⟨x4, hs4⟩ := hs3.hfrz
      exact hq _ _ ⟨⟨c, ph1.hid⟩, _, M3, x1.trans (x3.trans x4), hs4, _, .lst upd_same ((RepAll.hid qa).up x4), f⟩
    | true =>
      rw [if_pos rfl] at f
      obtain ⟨x4, hs4, e4⟩ := hs3.hown (RepAll.hid qa)
      exact hq _ _ ⟨⟨c ++ [p], ph1.hid⟩, _, _, x1.trans (x3.trans x4), hs4, _, .own e4, f⟩
  · obtain ⟨d, ed⟩ : ∃ d, ds[i]? = some d := ⟨ds[i]'(by omega), List.getElem?_eq_getElem (by omega)⟩
    obtain ⟨k3, k4⟩ := k2 i d ed
    refine .inr ⟨k3, fun H' => ∃ (ph2 : Ph) (S2 : Hp) (M2 : Mem) (xs : List V) (acc : List D), Ext ph1 S1 ⟨ph2.cells, ph1.hid⟩ S2 ∧ ph2.hid = (p, .lst xs) :: ph1.hid ∧ Sat X.K ph2 S2 r M2 σ H' ∧ RepAll X.K ph2 S2 xs acc ∧ W (i + 1) acc M2, fun H' z => ⟨ds.length - (i + 1), by omega, rfl, z⟩, fun x H4 hy => ?_⟩
    obtain ⟨ph4, S4, M4, x4, hs4, rfl, q4⟩ := k4 x H4 hy
    refine ⟨ph4, S4, wipeD r vs, M4, d, _, hs4.wipe vs, q4, g3 d ed, fun σ5 H5 ⟨r5, ph5, S5, M5, x5, hs5, z5⟩ e5 => ⟨e5.trans (wipe_wipe σ vs), ?_⟩⟩
    refine ⟨ph5, S5, r5, M5, _, hs5, z5, fun b H6 ⟨ph6, S6, M6, x6, hs6, z6⟩ => ?_⟩
    cases b with
    | false =>
      have xx := x4.trans (x5.trans x6)
      rw [if_neg Bool.false_ne_true] at z6 ⊢
      exact ⟨ph6, S6, M6, xs, acc, ⟨fun k a e => xx.pre k a (x3.pre k a e), x3.same.trans xx.same, rfl⟩, xx.hid.trans eh, hs3.back xx hs6.drop, qa.up xx, z6⟩
    | true =>
      rw [if_pos rfl] at z6 ⊢
      refine ⟨ph6, S6, r5, M6, _, hs6, z6, fun v H7 ⟨ph7, S7, M7, x7, hs7, e, q7, hlt, w7⟩ => ?_⟩
      have xx := x4.trans (x5.trans (x6.trans x7))
      have eh7 : ph7.hid = (p, .lst xs) :: ph1.hid := xx.hid.trans eh
      obtain ⟨c, hd⟩ := ph7
      cases eh7
      have hb : Sat X.K ⟨c, (p, .lst xs) :: ph1.hid⟩ S7 r M7 σ H7 := hs3.back xx hs7.drop
      obtain ⟨g1, _, _⟩ := hb.hid _ List.mem_cons_self
      refine ⟨xs, g1, by rw [qa.len]; exact hlt, ⟨c, (p, .lst (xs ++ [v])) :: ph1.hid⟩, S7, M7, xs ++ [v], acc ++ [e], ⟨fun k a e => xx.pre k a (x3.pre k a e), x3.same.trans xx.same, rfl⟩, rfl, hb.hset, ?_, w7⟩
      exact (RepAll.hid (qa.up xx)).app (.cons (Rep.hid q7) .nil)
theorem de_lc (o : Bool) {elt tg iter : Expr} {ifs : List Expr} {scope : Scope} {own : List (Str × Nat)} {pos : Pos} {wi : DTI} {g : DTG} {tt : DTT} {te : DTE} (hc : X.calm = true) (hN : X.N.Nodup) (ok : BlkOk X.N X.env.scope scope own) (hi : DI X tg iter wi)
    (hg : ∀ (s : Shared) (H : Hp) (C : Addr) (cl : List (Str × Addr)) (fp : List Addr), DCG (X.blk s H scope (compEnvC scope cl C X.env) fp) tg (own.map (·.2)) g)
    (ht : ∀ (s : Shared) (H : Hp) (C : Addr) (cl : List (Str × Addr)) (fp : List Addr), DTs (X.blk s H scope (compEnvC scope cl C X.env) fp) ifs tt)
    (he : ∀ (s : Shared) (H : Hp) (C : Addr) (cl : List (Str × Addr)) (fp : List Addr), DE (X.blk s H scope (compEnvC scope cl C X.env) fp) elt te)
    (hs : ∀ x, foldedSetIterable iter X.env x = pure x := by intro _; rfl) : DE X (.ListComp elt [⟨tg, iter, ifs, 0⟩] scope pos) (dLc o wi g tt te (own.map (·.2))) :=
  DE.of (pe_lc hc hN hi.pi ok (fun s H C cl fp => (hg s H C cl fp).pg) (fun s H C cl fp => (ht s H C cl fp).pts) (fun s H C cl fp => (he s H C cl fp).pe) hs) fun ph S r M σ H Q hs ht Q' hq => lc_read (X := X) o hs ht Q' hq
/-- y = [..] -/
theorem ds_setLc (o : Bool) {i : Nat} {y : Str} {py : Pos} {elt tg iter : Expr} {ifs : List Expr} {scope : Scope} {own : List (Str × Nat)} {pos spos : Pos} {wi : DTI} {g : DTG} {tt : DTT} {te : DTE} (hc : X.calm = true) (hN : X.N.Nodup) (hsw : swapsWith (.ListComp elt [⟨tg, iter, ifs, 0⟩] scope pos) (some (.Name y py)) spos.line X.env = pure true) (ok : BlkOk X.N X.env.scope scope own) (hi : DI X tg iter wi)
    (hg : ∀ (s : Shared) (H : Hp) (C : Addr) (cl : List (Str × Addr)) (fp : List Addr), DCG (X.blk s H scope (compEnvC scope cl C X.env) fp) tg (own.map (·.2)) g)
    (ht : ∀ (s : Shared) (H : Hp) (C : Addr) (cl : List (Str × Addr)) (fp : List Addr), DTs (X.blk s H scope (compEnvC scope cl C X.env) fp) ifs tt)
    (he : ∀ (s : Shared) (H : Hp) (C : Addr) (cl : List (Str × Addr)) (fp : List Addr), DE (X.blk s H scope (compEnvC scope cl C X.env) fp) elt te)
    (hy : X.N[i]? = some y := by rfl) (hyl : X.env.scope.names.lookup y = some .local := by rfl) (hs : ∀ x, foldedSetIterable iter X.env x = pure x := by intro _; rfl) : DS X (.Assign [.Name y py] (.ListComp elt [⟨tg, iter, ifs, 0⟩] scope pos) spos) (dAsg (dLc o wi g tt te (own.map (·.2))) (dName i)) :=
  DS.of (ps_setLc hc hN hy hyl hsw hi.pi ok (fun s H C cl fp => (hg s H C cl fp).pg) (fun s H C cl fp => (ht s H C cl fp).pts) (fun s H C cl fp => (he s H C cl fp).pe) hs) fun ph S r M σ H E hs ht E' h1 _ _ _ =>
    lc_read (X := X) o hs ht _ fun v H' ⟨ph1, S1, M1, x, hs1, d, q, z⟩ => h1 _ _ ⟨_, ph1, S1, M1, x, hs1.setN q, z⟩
end DL
/-! DL7: what is walked; built-ins; methods; slices; repr -/
namespace DL
open PySem PySem.Spec PyProof.Rows L2
variable {X : Cx}
/-! ### what is walked -/
theorem Wlk.list {K : PySem.W.Frag} {ph : Ph} {S : Hp} {a : Addr} {ds : List D} {C : Mem → Prop} (h : ∀ (ph' : Ph) (S' : Hp) (r : Env) (M : Mem) (σ : St) (H : Hp), (∀ (k : Nat) (a : Addr), ph.cells[k]? = some a → ph'.cells[k]? = some a) → Same S S' → Sat K ph' S' r M σ H → C M → ∃ xs, SqL K H a xs ∧ RepAll K ph' S' xs ds) : Wlk K ph S (Itl K a) ds C :=
  fun ph' S' r M σ H h1 h2 hs hc => by
    obtain ⟨xs, q, qa⟩ := h ph' S' r M σ H h1 h2 hs hc
    refine ⟨fun i hi => ⟨xs, q, by rw [qa.len]; exact hi⟩, fun i d e => ?_⟩
    obtain ⟨x, ex, qx⟩ := qa.get e
    refine ⟨⟨xs, x, q, ex⟩, fun y H' ⟨e1, e2⟩ => ?_⟩
    subst e1
    have ey := e2 xs q
    rw [ex] at ey
    cases ey
    exact Aft.here hs ⟨rfl, qx⟩
theorem Wlk.tup {K : PySem.W.Frag} {ph : Ph} {S : Hp} {a : Addr} {ds : List D} {C : Mem → Prop} (h : ∀ (ph' : Ph) (S' : Hp) (r : Env) (M : Mem) (σ : St) (H : Hp), (∀ (k : Nat) (a : Addr), ph.cells[k]? = some a → ph'.cells[k]? = some a) → Same S S' → Sat K ph' S' r M σ H → C M → ∃ xs, SqT K H a xs ∧ RepAll K ph' S' xs ds) : Wlk K ph S (Itt K a) ds C :=
  fun ph' S' r M σ H h1 h2 hs hc => by
    obtain ⟨xs, q, qa⟩ := h ph' S' r M σ H h1 h2 hs hc
    refine ⟨fun i hi => ⟨xs, q, by rw [qa.len]; exact hi⟩, fun i d e => ?_⟩
    obtain ⟨x, ex, qx⟩ := qa.get e
    refine ⟨⟨xs, x, q, ex⟩, fun y H' ⟨e1, e2⟩ => ?_⟩
    subst e1
    have ey := e2 xs q
    rw [ex] at ey
    cases ey
    exact Aft.here hs ⟨rfl, qx⟩
theorem RepAll.ext0 {K : PySem.W.Frag} {ph ph' : Ph} {S S' : Hp} {d : List D} {v : List V} (h1 : ∀ (k : Nat) (a : Addr), ph.cells[k]? = some a → ph'.cells[k]? = some a) (h2 : Same S S') (q : RepAll K ph S v d) : RepAll K ph' S' v d :=
  RepAll.hid (c := ph'.cells) (l := ph.hid) (l' := ph'.hid) (q.up (ph' := ⟨ph'.cells, ph.hid⟩) ⟨h1, h2, rfl⟩)
/-- a list, a tuple, the script -/
def gSeqI (d : D) (M : Mem) (R : List D → (Mem → Prop) → Mem → Prop) : Prop := match d with
  | .lst ds => R ds (fun _ => True) M
  | .tup ds => R ds (fun _ => True) M
  | .scr ns => R (ns.map D.int) (fun _ => True) M
  | .own k => match M[k]? with
    | some (.lst ds) => R ds (fun M' => M'[k]? = some (.lst ds)) M
    | _ => False
  | _ => False
def dSeqI (t : DTE) : DTI := fun r M R => t r M fun d M1 => gSeqI d M1 R
/-- it is a list at a, or a tuple -/
theorem pi_seq {tg l : Expr} {tl : TE} (hl : PE X l tl) : PI X tg l (fun σ H R => tl σ H fun x H1 => ∃ a, x = .ref a ∧ (((∃ xs, SqL X.K H1 a xs) ∧ R (Itl X.K a) H1) ∨ ((∃ xs, SqT X.K H1 a xs) ∧ R (Itt X.K a) H1))) := by
  refine ⟨fun pins s σ H R I h => thn (hl.run pins s σ H _ I h) fun v s1 ⟨x, H1, I1, r1, a, ex, q1⟩ => ?_⟩
  subst ex
  cases r1
  have fp : ∀ b ∈ [s1.heap.objs.size], FpOk X pins H1 b := fun b hb => by
    have e : b = s1.heap.objs.size := by simpa using hb
    rw [e]
    exact I1.fpOk (Nat.le_refl _) (I1.hok.fresh (Nat.le_refl _))
  rcases q1 with ⟨⟨xs, hq⟩, q⟩ | ⟨⟨xs, hq⟩, q⟩
  · obtain ⟨its, rv, p, hz⟩ := I1.list hq
    exact wpAny_pyIter_list p.isList ⟨s1.heap.objs.size, [s1.heap.objs.size], _, _, H1, rfl, I1.kept (t' := s1.toks) fun b o e => Heap.get?_push_of_some _ e, turn_list a _, ⟨_, Heap.get?_push_size _ rfl, rfl, rfl⟩, fp, q⟩
  · obtain ⟨its, rv, p, hz⟩ := I1.tuple hq
    exact wpAny_pyIter_tuple (show s1.heap.IsTuple a its.toArray from p) ⟨s1.heap.objs.size, [s1.heap.objs.size], _, _, H1, rfl, I1.kept (t' := s1.toks) fun b o e => Heap.get?_push_of_some _ e, turn_tuple a _, ⟨_, Heap.get?_push_size _ rfl, rfl, rfl⟩, fp, q⟩
theorem PI.weak {tg l : Expr} {t t' : TI} (h : PI X tg l t) (w : ∀ σ H R, t' σ H R → t σ H R) : PI X tg l t' := ⟨fun pins s σ H R I q => h.run pins s σ H R I (w _ _ _ q)⟩
theorem di_seq {tg l : Expr} {t : DTE} (h : DE X l t) : DI X tg l (dSeqI t) :=
  ⟨PI.weak (pi_seq h.pe) fun σ H R ⟨ph, S, r, M, Q0, hs, ht, hq⟩ => ⟨ph, S, r, M, _, hs, ht, fun v H1 ⟨ph1, S1, M1, x1, hs1, d, q1, g1⟩ => by
    cases d <;> first | exact g1.elim | skip
    · cases q1 with
      | tup h1 h2 => exact ⟨_, rfl, .inr ⟨⟨_, h1.sq hs1.sub⟩, hq _ _ ⟨ph1, S1, M1, x1, hs1, _, _, Wlk.tup (fun ph' S' r' M' σ' H' e1 e2 hs' _ => ⟨_, (h1.ext e2).sq hs'.sub, h2.ext0 e1 e2⟩), g1⟩⟩⟩
    · cases q1 with
      | lst h1 h2 => exact ⟨_, rfl, .inl ⟨⟨_, SqL.of (hs1.sub _ _ h1)⟩, hq _ _ ⟨ph1, S1, M1, x1, hs1, _, _, Wlk.list (fun ph' S' r' M' σ' H' e1 e2 hs' _ => ⟨_, SqL.of (hs'.sub _ _ (e2 _ _ h1)), h2.ext0 e1 e2⟩), g1⟩⟩⟩
    · cases q1 with
      | scr h1 => exact ⟨_, rfl, .inl ⟨⟨_, hs1.sub.seq h1⟩, hq _ _ ⟨ph1, S1, M1, x1, hs1, _, _, Wlk.list (fun ph' S' r' M' σ' H' e1 e2 hs' _ => ⟨_, hs'.sub.seq (e2.seq h1), RepAll.ints _⟩), g1⟩⟩⟩
    · rename_i k
      cases q1 with
      | own h1 =>
        replace g1 : gSeqI (.own k) M1 Q0 := g1
        unfold gSeqI at g1
        dsimp only at g1
        split at g1
        · rename_i ds hk
          obtain ⟨a, xs, c1, c2, c3, c4⟩ := hs1.cell k ds hk
          rw [h1] at c1; cases c1
          refine ⟨_, rfl, .inl ⟨⟨_, SqL.of c3⟩, hq _ _ ⟨ph1, S1, M1, x1, hs1, _, _, Wlk.list (fun ph' S' r' M' σ' H' e1 e2 hs' hc => ?_), g1⟩⟩⟩
          obtain ⟨a', xs', b1, b2, b3, b4⟩ := hs'.cell k ds hc
          rw [e1 _ _ h1] at b1; cases b1
          exact ⟨xs', SqL.of b3, b4⟩
        · exact g1.elim⟩⟩
/-- lo, lo + 1, .. -/
def rng (lo : Int) (n : Nat) : List D := (List.range n).map fun i => D.int (lo + (i : Nat))
theorem rng_len (lo : Int) (n : Nat) : (rng lo n).length = n := by unfold rng; rw [List.length_map, List.length_range]
theorem rng_get {lo : Int} {n i : Nat} {d : D} : (rng lo n)[i]? = some d ↔ i < n ∧ d = .int (lo + (i : Nat)) := by
  unfold rng
  rw [List.getElem?_map]
  constructor
  · intro e
    cases h : (List.range n)[i]? with
    | none => rw [h] at e; cases e
    | some j =>
      rw [h] at e
      obtain ⟨h1, h2⟩ := List.getElem?_eq_some_iff.mp h
      rw [List.length_range] at h1
      rw [List.getElem_range] at h2
      exact ⟨h1, by rw [h2]; exact (Option.some.inj e).symm⟩
  · rintro ⟨h1, rfl⟩
    rw [List.getElem?_eq_getElem (by rw [List.length_range]; exact h1), List.getElem_range]
    rfl
theorem Wlk.range {K : PySem.W.Frag} {ph : Ph} {S : Hp} {lo : Int} {n : Nat} {C : Mem → Prop} : Wlk K ph S (Itr lo n) (rng lo n) C := fun ph' S' r M σ H h1 h2 hs hc => by
  refine ⟨fun i hi => by rw [rng_len] at hi; exact hi, fun i d e => ?_⟩
  obtain ⟨hi, rfl⟩ := rng_get.mp e
  refine ⟨hi, fun x H' ⟨e1, e2⟩ => ?_⟩
  subst e1 e2
  exact Aft.here hs ⟨rfl, .int _⟩
def Rg (i : Int) : Prop := -(2 ^ 62) ≤ i ∧ i < 2 ^ 62
def gRng1 (ds : List D) (M : Mem) (R : List D → (Mem → Prop) → Mem → Prop) : Prop := match ds with
  | [.int n] => Rg n ∧ R (rng 0 n.toNat) (fun _ => True) M
  | _ => False
def gRng2 (ds : List D) (M : Mem) (R : List D → (Mem → Prop) → Mem → Prop) : Prop := match ds with
  | [.int a, .int b] => (Rg a ∧ Rg b) ∧ R (rng a (b - a).toNat) (fun _ => True) M
  | _ => False
def dRngI (g : List D → Mem → (List D → (Mem → Prop) → Mem → Prop) → Prop) (t : DTA) : DTI := fun r M R => t r M fun ds M1 => g ds M1 R
theorem di_range1 {tg a : Expr} {t : DTA} {p pos : Pos} (hm : X.mg "range" = none) (ha : DA X [a] t) (hg : Gl X "range" := by rfl) (hst : starEach [a] X.env = [(false, eval a X.env)] := by rfl) : DI X tg (.Call (.Name "range" p) [a] [] pos) (dRngI gRng1 t) :=
  ⟨PI.weak (pi_range1 hg hm ha.pa hst) fun σ H R ⟨ph, S, r, M, Q0, hs, ht, hq⟩ => ⟨ph, S, r, M, _, hs, ht, fun vs H1 ⟨ph1, S1, M1, x1, hs1, ds, q1, g1⟩ => by
    match ds, q1, g1 with
    | [.int n], .cons q .nil, ⟨⟨h1, h2⟩, g⟩ =>
      cases q
      exact ⟨n, rfl, h1, h2, hq _ _ ⟨ph1, S1, M1, x1, hs1, _, _, Wlk.range, g⟩⟩⟩⟩
theorem di_range2 {tg a b : Expr} {t : DTA} {p pos : Pos} (hm : X.mg "range" = none) (ha : DA X [a, b] t) (hg : Gl X "range" := by rfl) (hst : starEach [a, b] X.env = [(false, eval a X.env), (false, eval b X.env)] := by rfl) (hs2 : starEach [b] X.env = [(false, eval b X.env)] := by rfl) : DI X tg (.Call (.Name "range" p) [a, b] [] pos) (dRngI gRng2 t) :=
  ⟨PI.weak (pi_range2 hg hm ha.pa hst hs2) fun σ H R ⟨ph, S, r, M, Q0, hs, ht, hq⟩ => ⟨ph, S, r, M, _, hs, ht, fun vs H1 ⟨ph1, S1, M1, x1, hs1, ds, q1, g1⟩ => by
    match ds, q1, g1 with
    | [.int a, .int b], .cons q (.cons q' .nil), ⟨⟨⟨h1, h2⟩, h3, h4⟩, g⟩ =>
      cases q
      cases q'
      exact ⟨a, b, rfl, ⟨h1, h2, h3, h4⟩, hq _ _ ⟨ph1, S1, M1, x1, hs1, _, _, Wlk.range, g⟩⟩⟩⟩
/-! ### calls of what is built in -/
abbrev GA := List D → Mem → DQ → Prop
def CallD (X : Cx) (f : Value) (g : GA) : Prop :=
  ∀ (pins : List (Addr × Obj)) (s : Shared) (σ : St) (H : Hp) (ph : Ph) (S : Hp) (r : Env) (M : Mem) (vs : List V) (us : List Value) (ds : List D) (Q : DQ), Inv X pins σ H s → Sat X.K ph S r M σ H → Vals vs us → RepAll X.K ph S vs ds → g ds M Q →
    wpAny (model X.prog X.w) X.A (call f us) (EP X pins σ (post X.K ph S r σ Q)) X.xe s
theorem CallD.of {f : Value} {r' : List V → Hp → VK → Prop} {g : GA} (h : CallR X f r')
    (w : ∀ (σ : St) (H : Hp) (ph : Ph) (S : Hp) (r : Env) (M : Mem) (vs : List V) (ds : List D) (Q : DQ), Sat X.K ph S r M σ H → RepAll X.K ph S vs ds → g ds M Q → r' vs H (post X.K ph S r σ Q)) : CallD X f g :=
  fun pins s σ H ph S r M vs us ds Q I hs rv q hg => h pins s σ H vs us _ I rv (w σ H ph S r M vs ds Q hs q hg)
def dCB (g : GA) (t : DTA) : DTE := fun r M Q => t r M fun ds M1 => g ds M1 Q
section
variable {x : Str} {p pos : Pos} {e : Expr} {es : List Expr} {t : DTA} {id T : String} {g : GA}
theorem de_blt (hc : CallD X (.builtin id) g) (hm : X.mg x = none) (ha : DA X (e :: es) t) (hv : bootBuiltins x = some (.builtin id) := by decide +kernel) (hg : Gl X x := by rfl) (hn : x ≠ "__name__" := by decide) (hdb : (x == ("__debug__" : Str)) = false := by decide)
    (he : starEach (e :: es) X.env = (false, eval e X.env) :: starEach es X.env := by rfl) (hpl : (backTo pos (starEach es X.env)).any (·.1) = false := by rfl) : DE X (.Call (.Name x p) (e :: es) [] pos) (dCB g t) :=
  ⟨⟨fun pins s σ H Q I ⟨ph, S, r, M, Q0, hs, ht, hq⟩ => wpAny_Call_Name_kw (ld_blt I hg hm hv (PyProof.Rows.callWith_builtin1 (thn (ha.pa.run pos pins s σ H _ I ⟨ph, S, r, M, _, hs, ht, fun _ _ z => z⟩)
    fun us s1 ⟨vs, H1, I1, r1, ph1, S1, M1, x1, hs1, ds, q1, g1⟩ => thn (hc pins s1 σ H1 ph1 S1 r M1 vs us ds Q0 I1 hs1 r1 q1 g1) fun _ _ z => EP.up x1 z hq) he hpl) hn hdb)⟩⟩
theorem de_ty (hc : CallD X (.type T) g) (hm : X.mg x = none) (ha : DA X (e :: es) t) (hv : bootBuiltins x = some (.type T) := by decide +kernel) (hg : Gl X x := by rfl) (hn : x ≠ "__name__" := by decide) (hdb : (x == ("__debug__" : Str)) = false := by decide)
    (he : starEach (e :: es) X.env = (false, eval e X.env) :: starEach es X.env := by rfl) (hpl : (backTo pos (starEach es X.env)).any (·.1) = false := by rfl) : DE X (.Call (.Name x p) (e :: es) [] pos) (dCB g t) :=
  ⟨⟨fun pins s σ H Q I ⟨ph, S, r, M, Q0, hs, ht, hq⟩ => wpAny_Call_Name_kw (ld_blt I hg hm hv (PyProof.Rows.callWith_type1 (thn (ha.pa.run pos pins s σ H _ I ⟨ph, S, r, M, _, hs, ht, fun _ _ z => z⟩)
    fun us s1 ⟨vs, H1, I1, r1, ph1, S1, M1, x1, hs1, ds, q1, g1⟩ => thn (hc pins s1 σ H1 ph1 S1 r M1 vs us ds Q0 I1 hs1 r1 q1 g1) fun _ _ z => EP.up x1 z hq) he hpl) hn hdb)⟩⟩
/-- a built-in name as a value -/
theorem de_bltn {v : V} {u : Value} (hm : X.mg x = none) (r : RelV v u) (hv : bootBuiltins x = some u := by decide +kernel) (hg : Gl X x := by rfl) (hn : x ≠ "__name__" := by decide) (hd : (x == ("__debug__" : Str)) = false := by decide) : DE X (.Name x pos) (dC (.val v)) :=
  de_c (pe_bltn hg hm hv r hn hd) fun _ _ => .val _
end
def gAbs : GA := fun ds M Q => match ds with
  | [.int i] => Q (.int (if i < 0 then -i else i)) M
  | _ => False
def gInt : GA := fun ds M Q => match ds with
  | [.int i] => Q (.int i) M
  | [.bl b] => Q (.int (if b then 1 else 0)) M
  | _ => False
theorem cd_int : CallD X (.type "int") gInt := CallD.of call_int1 fun σ H ph S r M vs ds Q hs q hg => by
  match ds, q, hg with
  | [.int i], .cons q .nil, hg => cases q; exact .inl ⟨_, rfl, Aft.here hs ⟨_, .int _, hg⟩⟩
  | [.bl i], .cons q .nil, hg => cases q; exact .inr ⟨_, rfl, Aft.here hs ⟨_, .int _, hg⟩⟩
def gMax : GA := fun ds M Q => match ds with
  | [.int i, .int j] => Q (.int (if j > i then j else i)) M
  | _ => False
theorem cd_max (hc : X.calm = true) : CallD X (.builtin "max") gMax := CallD.of (call_max2 hc) fun σ H ph S r M vs ds Q hs q hg => by
  match ds, q, hg with
  | [.int i, .int j], .cons q (.cons q' .nil), hg => cases q; cases q'; exact ⟨_, _, rfl, Aft.here hs ⟨_, .int _, hg⟩⟩
def gMin : GA := fun ds M Q => match ds with
  | [.int i, .int j] => Q (.int (if j < i then j else i)) M
  | _ => False
def gGcd : GA := fun ds M Q => match ds with
  | [.int i, .int j] => Q (.int (Int.gcd i j)) M
  | _ => False
/-- the length of a list, a tuple, a text -/
def lenD (M : Mem) : D → Option Nat
  | .lst l => some l.length
  | .tup l => some l.length
  | .scr l => some l.length
  | .own k => match M[k]? with
    | some (.lst l) => some l.length
    | _ => none
  | .str x => if x.length ≤ sizeLine then some x.length else none
  | _ => none
def gLen : GA := fun ds M Q => match ds with
  | [d] => match lenD M d with
    | some n => Q (.int n) M
    | none => False
  | _ => False
theorem len_V {K : PySem.W.Frag} {ph : Ph} {S : Hp} {r : Env} {M : Mem} {σ : St} {H : Hp} {v : V} {d : D} {n : Nat} (hs : Sat K ph S r M σ H) (q : Rep K ph S v d) (e : lenD M d = some n) : LenV K v H n := by
  cases d <;> first | (cases e; done) | skip
  · rename_i x
    cases q
    have e' : (if x.length ≤ sizeLine then some x.length else none) = some n := e
    by_cases h : x.length ≤ sizeLine
    · rw [if_pos h] at e'
      exact ⟨h, (Option.some.inj e').symm⟩
    · rw [if_neg h] at e'; cases e'
  · cases q with
    | tup h1 h2 => exact .inr ⟨_, h1.sq hs.sub, by rw [h2.len]; exact (Option.some.inj e).symm⟩
  · cases q with
    | lst h1 h2 => exact .inl ⟨_, SqL.of (hs.sub _ _ h1), by rw [h2.len]; exact (Option.some.inj e).symm⟩
  · cases q with
    | scr h1 => exact .inl ⟨_, hs.sub.seq h1, by rw [List.length_map]; exact (Option.some.inj e).symm⟩
  · rename_i k
    cases q with
    | own h1 =>
      unfold lenD at e
      dsimp only at e
      split at e
      · rename_i l hk
        obtain ⟨a, xs, c1, c2, c3, c4⟩ := hs.cell k l hk
        rw [h1] at c1; cases c1
        exact .inl ⟨_, SqL.of c3, by rw [c4.len]; exact (Option.some.inj e).symm⟩
      · cases e
theorem cd_len : CallD X (.builtin "len") gLen := CallD.of call_len fun σ H ph S r M vs ds Q hs q hg => by
  match ds, q, hg with
  | [d], .cons q .nil, hg =>
    unfold gLen at hg
    dsimp only at hg
    split at hg
    · rename_i n e
      exact ⟨_, n, rfl, len_V hs q e, Aft.here hs ⟨_, .int _, hg⟩⟩
    · exact hg.elim
/-- the ints of a list of ints -/
def intsD : List D → Option (List Int)
  | [] => some []
  | .int i :: ds => match intsD ds with
    | some is => some (i :: is)
    | none => none
  | _ :: _ => none
theorem intsD_rep {K : PySem.W.Frag} {ph : Ph} {S : Hp} : ∀ {vs : List V} {ds : List D} {is : List Int}, RepAll K ph S vs ds → intsD ds = some is → vs = is.map V.int
  | _, [], _, .nil, e => by cases e; rfl
  | _, d :: ds, is, .cons q t, e => by
    cases d <;> first | (cases e; done) | skip
    unfold intsD at e
    split at e
    · rename_i is' e'
      cases e
      cases q
      rw [intsD_rep t e']; rfl
    · cases e
def gSum : GA := fun ds M Q => match ds with
  | [d] => match res M d with
    | .lst l => match intsD l with
      | some is => Q (.int is.sum) M
      | none => False
    | .scr ns => Q (.int ns.sum) M
    | _ => False
  | _ => False
theorem cd_sum (hc : X.calm = true) : CallD X (.builtin "sum") gSum := CallD.of (cr_sum hc) fun σ H ph S r M vs ds Q hs q hg => by
  match ds, q, hg with
  | [d], .cons q .nil, hg =>
    unfold gSum at hg
    dsimp only at hg
    split at hg
    · rename_i l e
      split at hg
      · rename_i is e2
        obtain ⟨a, xs, rfl, h1, h2⟩ := res_lst hs q e
        exact ⟨a, is, rfl, by rw [← intsD_rep h2 e2]; exact SqL.of h1, Aft.here hs ⟨_, .int _, hg⟩⟩
      · exact hg.elim
    · rename_i ns e
      cases res_scr e
      cases q with
      | scr h1 => exact ⟨_, ns, rfl, hs.sub.seq h1, Aft.here hs ⟨_, .int _, hg⟩⟩
    · exact hg.elim
/-- isinstance(x, T), T a built-in class -/
def tyD : D → Option String
  | .non => some "NoneType"
  | .bl _ => some "bool"
  | .int _ => some "int"
  | .str _ => some "str"
  | .tup _ => some "tuple"
  | .lst _ => some "list"
  | .dct0 => some "dict"
  | _ => none
def tyM (M : Mem) : D → Option String
  | .own k => match M[k]? with
    | some (.lst _) => some "list"
    | _ => none
  | d => tyD d
def gIsi : GA := fun ds M Q => match ds with
  | [d, .val (.ty n)] => match tyM M d with
    | some T => match kitB T n with
      | some b => Q (.bl b) M
      | none => False
    | none => False
  | _ => False
theorem ty_V {K : PySem.W.Frag} {ph : Ph} {S : Hp} {r : Env} {M : Mem} {σ : St} {H : Hp} {v : V} {d : D} {T : String} (hs : Sat K ph S r M σ H) (q : Rep K ph S v d) (e : tyM M d = some T) : TyX K H v (.type T) := by
  cases d <;> first | (cases e; done) | skip
  · cases q; cases e; exact .base .non
  · cases q; cases e; exact .base (.bl _)
  · cases q; cases e; exact .base (.int _)
  · cases q; cases e; exact .base (.str _)
  · cases q with
    | tup h1 h2 => cases e; exact h1.elim (fun z => .base (.tup (hs.sub _ _ z))) fun ⟨_, _, _, l, c, _⟩ => .kTuple l c
  · cases q with
    | lst h1 h2 => cases e; exact .base (.lst (hs.sub _ _ h1))
  · cases q with
    | dct0 h1 => cases e; exact .base (.dK (hs.sub _ _ h1))
  · rename_i k
    cases q with
    | own h1 =>
      unfold tyM at e
      dsimp only at e
      split at e
      · rename_i l hk
        cases e
        obtain ⟨a, xs, c1, c2, c3, c4⟩ := hs.cell k l hk
        rw [h1] at c1; cases c1
        exact .base (.lst c3)
      · cases e
theorem cd_isi : CallD X (.builtin "isinstance") gIsi := CallD.of call_isi fun σ H ph S r M vs ds Q hs q hg => by
  match ds, q, hg with
  | [d, .val (.ty n)], .cons q (.cons q' .nil), hg =>
    unfold gIsi at hg
    dsimp only at hg
    split at hg
    · rename_i T e
      split at hg
      · rename_i b eb
        cases q'
        exact ⟨_, _, _, _, b, rfl, .ty n, ty_V hs q e, kit_ty eb, Aft.here hs ⟨_, .bl _, hg⟩⟩
      · exact hg.elim
    · exact hg.elim
/-- n.bit_length() -/
def gBits (d : D) (M : Mem) (Q : DQ) : Prop := match d with
  | .int i => Q (.int (Builtin.Int.intBits i : Nat)) M
  | _ => False
def dBits (t : DTE) : DTE := fun r M Q => t r M fun d M1 => gBits d M1 Q
theorem de_bits {o : Expr} {t : DTE} {apos pos : Pos} (ho : DE X o t) (hbase : attributeBase o "bit_length" X.env (eval o X.env) = eval o X.env := by rfl) (hline : (apos.endLine == pos.line) = true := by rfl) : DE X (.Call (.Attribute o "bit_length" apos) [] [] pos) (dBits t) :=
  DE.of (pe_bits ho.pe hbase hline) fun ph S r M σ H Q hs ht Q' hq => ⟨ph, S, r, M, _, hs, ht, fun v H1 ⟨ph1, S1, M1, x1, hs1, d, q1, g1⟩ => by
    cases d <;> first | exact g1.elim | skip
    cases q1
    exact ⟨_, rfl, hq _ _ ⟨ph1, S1, M1, x1, hs1, _, .int _, g1⟩⟩⟩
/-! ### methods of lists -/
def gAppend (o : D) (ds : List D) (M : Mem) (Q : DQ) : Prop := match o, ds with
  | .own k, [d] => match M[k]? with
    | some (.lst l) => l.length < sizeLine ∧ Q .non (M.set k (.lst (l ++ [d])))
    | _ => False
  | _, _ => False
def dMet (g : D → List D → Mem → DQ → Prop) (to : DTE) (t : DTA) : DTE := fun r M Q => to r M fun o M1 => (∃ k l, o = .own k ∧ M1[k]? = some (.lst l)) ∧ t r M1 fun ds M2 => g o ds M2 Q
theorem de_append {o e : Expr} {to : DTE} {t : DTA} {apos cpos : Pos} (ho : DE X o to) (ha : DA X [e] t) (h1 : attributeBase o "append" X.env (eval o X.env) = eval o X.env := by rfl)
    (h2 : (((backTo cpos (starEach [e] X.env)).all fun x => !x.1) && (backToKw cpos (keywordEach [] X.env)).all (fun x => x.1.isSome) && decide (([e] : List Expr).length + ([] : List Keyword).length + (if ([] : List Keyword).isEmpty then 0 else 1) < 30)) = true := by rfl) (h3 : (apos.endLine == cpos.line) = true := by rfl)
    (h4 : starEach [e] X.env = (false, eval e X.env) :: starEach [] X.env := by rfl) (h5 : (backTo cpos (starEach [] X.env)).any (·.1) = false := by rfl) : DE X (.Call (.Attribute o "append" apos) [e] [] cpos) (dMet gAppend to t) :=
  DE.of (pe_bm PySem.F.plainAttrs_list PySem.F.slot_list_append PySem.F.type_list_append mt_append ho.pe ha.pa h1 h2 h3 h4 h5) fun ph S r M σ H Q hs ht Q' hq => ⟨ph, S, r, M, _, hs, ht, fun v H1 ⟨ph1, S1, M1, x1, hs1, d, q1, ⟨k, l, e1, ek⟩, g1⟩ => by
    subst e1
    cases q1 with
    | own hp =>
      obtain ⟨a, xs, c1, c2, c3, c4⟩ := hs1.cell k l ek
      rw [hp] at c1; cases c1
      refine ⟨.inl ⟨rfl, _, SqL.of c3⟩, ph1, S1, r, M1, _, hs1, g1, fun vs H2 ⟨ph2, S2, M2, x2, hs2, ds, q2, g2⟩ => ?_⟩
      match ds, q2, g2 with
      | [d], .cons q3 .nil, g2 =>
        replace g2 : gAppend (.own k) [d] M2 Q := g2
        unfold gAppend at g2
        dsimp only at g2
        split at g2
        · rename_i l2 hk2
          have hp2 := x2.pre _ _ hp
          obtain ⟨a2, xs2, d1, d2, d3, d4⟩ := hs2.cell k l2 hk2
          rw [hp2] at d1; cases d1
          exact ⟨_, xs2, _, rfl, rfl, d3, by rw [d4.len]; exact g2.1, hq _ _ ⟨ph2, S2, _, x1.trans x2, hs2.put hk2 hp2 (d4.app (.cons q3 .nil)), _, .non, g2.2⟩⟩
        · exact g2.elim⟩
/-! ### slices -/
def cutD (l : List D) (lo hi : Option Int) : List D := List.take (HT.sIx l.length l.length hi - HT.sIx l.length 0 lo) (List.drop (HT.sIx l.length 0 lo) l)
abbrev DTO := Env → Mem → (Option Int → Mem → Prop) → Prop
structure DO (X : Cx) (e : Option Expr) (t : DTO) : Prop where
  po : PO X e (fun σ H Q => ∃ ph S r M Q0, Sat X.K ph S r M σ H ∧ t r M Q0 ∧ ∀ o H', (Aft X.K ph S r σ H' fun _ _ M' => Q0 o M') → Q o H')
def dPart (t : DTE) : DTO := fun r M Q => t r M fun d M1 => match d with
  | .int i => Q (some i) M1
  | _ => False
def dNoPart : DTO := fun _ M Q => Q none M
theorem do_some {e : Expr} {t : DTE} (h : DE X e t) : DO X (some e) (dPart t) :=
  ⟨⟨fun pins s σ H Q I ⟨ph, S, r, M, Q0, hs, ht, hq⟩ => (po_some h.pe).run pins s σ H Q I ⟨ph, S, r, M, _, hs, ht, fun v H1 ⟨ph1, S1, M1, x1, hs1, d, q1, g1⟩ => by
    cases d <;> first | exact g1.elim | skip
    cases q1
    exact ⟨_, rfl, hq _ _ ⟨ph1, S1, M1, x1, hs1, g1⟩⟩⟩⟩⟩
theorem do_none : DO X none dNoPart := ⟨⟨fun pins s σ H Q I ⟨ph, S, r, M, Q0, hs, ht, hq⟩ => po_none.run pins s σ H Q I (hq _ _ (Aft.here hs ht))⟩⟩
/-- l[a:b], a list -/
def gSlL (own : Bool) (d : D) (lo hi : Option Int) (M : Mem) (Q : DQ) : Prop := match res M d with
  | .lst l => if own = true then Q (.own M.length) (M ++ [.lst (cutD l lo hi)]) else Q (.lst (cutD l lo hi)) M
  | .scr ns => if own = true then Q (.own M.length) (M ++ [.lst (cutD (ns.map D.int) lo hi)]) else Q (.lst (cutD (ns.map D.int) lo hi)) M
  | _ => False
def dSl (g : D → Option Int → Option Int → Mem → DQ → Prop) (t : DTE) (tl th : DTO) : DTE := fun r M Q => t r M fun d M1 => tl r M1 fun lo M2 => th r M2 fun hi M3 => g d lo hi M3 Q
theorem cut_rep {K : PySem.W.Frag} {ph : Ph} {S : Hp} {xs : List V} {l : List D} {lo hi : Option Int} (q : RepAll K ph S xs l) : RepAll K ph S (cutV xs lo hi) (cutD l lo hi) := by
  unfold cutV cutD
  rw [q.len]
  exact (q.drop _).take _
theorem de_slL (own : Bool) {e : Expr} {lo hi : Option Expr} {t : DTE} {tl th : DTO} {pos p2 : Pos} (h : DE X e t) (h1 : DO X lo tl) (h2 : DO X hi th) : DE X (.Subscript e (.Slice lo hi none p2) pos) (dSl (gSlL own) t tl th) :=
  DE.of (pe_slice sl_list h.pe h1.po h2.po) fun ph S r M σ H Q hs ht Q' hq => ⟨ph, S, r, M, _, hs, ht, fun v H1 ⟨ph1, S1, M1, x1, hs1, d, q1, g1⟩ =>
    ⟨ph1, S1, r, M1, _, hs1, g1, fun lo H2 ⟨ph2, S2, M2, x2, hs2, g2⟩ => ⟨ph2, S2, r, M2, _, hs2, g2, fun hi H3 ⟨ph3, S3, M3, x3, hs3, g3⟩ => by
      replace g3 : gSlL own d lo hi M3 Q := g3
      have xx := x1.trans (x2.trans x3)
      have q3 := q1.up (x2.trans x3)
      unfold gSlL at g3
      split at g3
      · rename_i l er
        obtain ⟨p, xs, rfl, hp, hx⟩ := res_lst hs3 q3 er
        refine ⟨p, xs, rfl, SqL.of hp, fun b hb => ?_⟩
        cases own with
        | false => exact hq _ _ (Aft.up xx (Aft.frz hs3 hb fun x => ⟨_, .lst upd_same ((cut_rep hx).up x), g3⟩))
        | true => exact hq _ _ (Aft.up xx (Aft.own hs3 hb (cut_rep hx) g3))
      · rename_i ns er
        cases res_scr er
        cases q3 with
        | scr h1 =>
          refine ⟨_, _, rfl, hs3.sub.seq h1, fun b hb => ?_⟩
          cases own with
          | false => exact hq _ _ (Aft.up xx (Aft.frz hs3 hb fun x => ⟨_, .lst upd_same (cut_rep (RepAll.ints _)), g3⟩))
          | true => exact hq _ _ (Aft.up xx (Aft.own hs3 hb (cut_rep (RepAll.ints _)) g3))
      · exact g3.elim⟩⟩⟩
/-! ### repr -/
/-- data whose repr may be told -/
def shwn (d : D) : Option Str := match toPy d with
  | some p => if p.showable = true ∧ p.depth ≤ 64 ∧ p.shown.length ≤ sizeLine ∧ p.hasDict = false then some p.shown else none
  | none => none
def gRepr : GA := fun ds M Q => match ds with
  | [d] => match shwn (res M d) with
    | some z => Q (.str z) M
    | none => False
  | _ => False
theorem shown_flat {p : PyData} {u : Value} {h : Heap} {as : List Addr} (r : Reads h u p as) (hn : ∀ a, u ≠ .ref a) {A : Around} {P : Program} {w : World} {E : Value → Shared → Prop} {s : Shared} {Q : Value → Shared → Prop} (hs : p.showable = true) (hz : p.shown.length ≤ sizeLine)
    (q : ∀ tk tk', Q (.str p.shown tk) { s with toks := tk' }) : wpAny (model P w) A (call (.builtin "repr") [u]) Q E s := by
  cases r with
  | none => exact PySem.P.repr_of_none (q _ _)
  | bool b => exact PySem.P.repr_of_bool (q _ _)
  | int i t => exact PySem.P.repr_of_int (of_decide_eq_true hs) (q _ _)
  | str x t => exact PySem.P.repr_of_str (q _ _) hz
  | list _ _ _ _ => exact absurd rfl (hn _)
  | tuple _ _ _ _ => exact absurd rfl (hn _)
  | dict _ _ _ _ _ => exact absurd rfl (hn _)
end DL
/-! DL8: calls with keywords alone; a def for its callers; the end of a law -/
namespace DL
open PySem PySem.Spec PyProof.Rows L2
section
variable {X : Cx}
structure DK (X : Cx) (kws : List Keyword) (t : DTA) : Prop where
  pk : PK X kws (fun σ H Q => ∃ ph S r M Q0, Sat X.K ph S r M σ H ∧ t r M Q0 ∧ ∀ vs H', postA X.K ph S r σ Q0 vs H' → Q vs H')
theorem PK.weak {kws : List Keyword} {t t' : TA} (h : PK X kws t) (w : ∀ σ H Q, t' σ H Q → t σ H Q) : PK X kws t' := ⟨fun pos pins s σ H Q I q => h.run pos pins s σ H Q I (w _ _ _ q)⟩
theorem dk_nil : DK X [] dNil := ⟨PK.weak pk_nil fun σ H Q ⟨ph, S, r, M, Q0, hs, ht, hq⟩ => hq _ _ (Aft.here hs ⟨_, .nil, ht⟩)⟩
theorem dk_cons {e : Expr} {kws : List Keyword} {nm : Option Str} {kpos : Pos} {t : DTE} {u : DTA} (h : DE X e t) (h2 : DK X kws u) : DK X (⟨nm, e, kpos⟩ :: kws) (dCons t u) :=
  ⟨PK.weak (pk_cons h.pe h2.pk) fun σ H Q ⟨ph, S, r, M, Q0, hs, ht, hq⟩ => ⟨ph, S, r, M, _, hs, ht, fun v H1 ⟨ph1, S1, M1, x1, hs1, d, q1, g1⟩ =>
    ⟨ph1, S1, r, M1, _, hs1, g1, fun vs H2 ⟨ph2, S2, M2, x2, hs2, ds, q2, g2⟩ => hq _ _ ⟨ph2, S2, M2, x1.trans x2, hs2, _, .cons (q1.up x2) q2, g2⟩⟩⟩⟩
/-- the values by place -/
def pick {α : Type} (l : List Nat) (xs : List α) : List α := l.filterMap fun i => xs[i]?
theorem pick_vals {vs : List V} {us : List Value} (r : Vals vs us) : ∀ l : List Nat, Vals (pick l vs) (pick l us)
  | [] => .nil
  | i :: l => by
    unfold pick
    rw [List.filterMap_cons, List.filterMap_cons]
    cases e : vs[i]? with
    | none => rw [r.none_of e]; exact pick_vals r l
    | some v =>
      obtain ⟨u, eu, ru⟩ := r.get e
      rw [eu]
      exact .cons ru (pick_vals r l)
theorem pick_rep {K : PySem.W.Frag} {ph : Ph} {S : Hp} {vs : List V} {ds : List D} (r : RepAll K ph S vs ds) : ∀ l : List Nat, RepAll K ph S (pick l vs) (pick l ds)
  | [] => .nil
  | i :: l => by
    unfold pick
    rw [List.filterMap_cons, List.filterMap_cons]
    cases e : ds[i]? with
    | none =>
      have e' : vs[i]? = none := by
        have := List.getElem?_eq_none_iff.mp e
        exact List.getElem?_eq_none_iff.mpr (by rw [r.len]; exact this)
      rw [e']; exact pick_rep r l
    | some d =>
      obtain ⟨u, eu, ru⟩ := r.get e
      rw [eu]
      exact .cons ru (pick_rep r l)
def dCallK (m n : Nat) (sp : DSp) (l : List Nat) (E : DX) (t : DTA) : DTE := fun r M Q => t r M fun ds M1 => ds.length = m ∧ (pick l ds).length = n ∧ sp (pick l ds) M1 Q E
variable {k : Nat} {ps ks : List Str} {sp : DSp} {x : Str} {p pos : Pos} {kws : List Keyword} {t : DTA}
/-- f(k = v, ..): all arguments by their names -/
theorem dcallK {m n : Nat} {st : Stmt} (l : List Nat) {P : Program} {w : World} {K : PySem.W.Frag} {mg : Str → Option Value} {base : Heap} (F : Def P w K mg base CX0 k x st ps sp) {j : Nat} (hr : Room j X.A) (gd : X.A.guards = some []) (hkw : DK X kws t)
    (hks : (backToKw pos (keywordEach kws X.env)).filterMap (·.1) = ks)
    (hb : ∀ (kV doc pm : Value) (an : Option Addr) (cdv ct : Value) (us : List Value), us.length = ks.length → bindArgs (PySem.W.fnOf x x (defArgs st) (defBody st) (defScope st) .none kV doc pm an cdv ct) ⟨[], ks.zip us⟩ = pure (ps.zip (pick l us)))
    (hj : k ≤ j := by decide) (hm : ks.length = m := by rfl) (hn : ps.length = n := by rfl)
    (h1 : P = X.prog := by rfl) (h2 : w = X.w := by rfl) (h3 : K = X.K := by rfl) (h4 : mg = X.mg := by rfl) (h5 : base = X.base := by rfl) (hg : Gl X x := by rfl) (hdb : (x == ("__debug__" : Str)) = false := by decide) (hall : (backToKw pos (keywordEach kws X.env)).all (·.1.isSome) = true := by rfl)
    (hpl : ((backTo pos (starEach [] X.env)).any (·.1) || (backToKw pos (keywordEach kws X.env)).any (·.1.isNone)) = false := by rfl) : DE X (.Call (.Name x p) [] kws pos) (dCallK m n sp l DX0 t) := by
  subst h1 h2 h3 h4 h5 hn hm
  obtain ⟨f, fd, h1, h2, h3, h4, h5⟩ := F.ex
  refine ⟨⟨fun pins s σ H Q I ⟨ph, S, r, M, Q0, hs, ht, hq⟩ => wpAny_Call_Name_kw (ld_glob I hg h2 ?_ hdb)⟩⟩
  refine PySem.W.callWith_KW0 (h₀ := X.base) I.ok.mod.kin h3 hall (thn (hkw.pk.run pos pins s σ H _ I ⟨ph, S, r, M, _, hs, ht, fun _ _ z => z⟩) fun us s1 ⟨vs, H1, I1, r1, ph1, S1, M1, x1, hs1, ds, q1, hl, hp, g1⟩ => ⟨I1.kIn, ?_⟩) hpl
  rw [hks]
  obtain ⟨oc, od, kV, doc, pm, an, cdv, ct, osl, efd, lk, hcd⟩ := h5.ex
  have hul : us.length = ks.length := by rw [← Paired.length r1, q1.len]; exact hl
  have hb' : BindsTo s1 fd ⟨[], ks.zip us⟩ (ps.zip (pick l us)) := by
    rw [efd]
    exact .of_eq (hb kV doc pm an cdv ct us hul)
  refine wpAny_call (codeAny_mono (h1.run X.A X.stack s1 H1 ⟨[], ks.zip us⟩ (pick l us) (pick l vs) (post X.K ph1 S1 r σ Q0) E0 (hr.mono hj) gd I1.env0 hb' (pick_vals r1 l) ?_) fun r s' hz => ?_)
  · exact ⟨ph1, S1, M1, pick l ds, Q0, DX0, hp, hs1.drop, pick_rep q1 l, g1, fun v H2 ⟨ph2, S2, M2, x2, hs2, d, q2, h2⟩ => ⟨ph2, S2, M2, x2, hs1.back x2 hs2, d, q2, h2⟩, pX0 _ _⟩
  · match r, hz with
    | .error e, hz => exact pass0 pins σ H1 s1 e s' I1 hz
    | .ok (.ret u), hz => exact EP.up x1 (I1.after hz) hq
    | .ok .next, hz => exact False.elim hz
    | .ok .brk, hz => exact False.elim hz
    | .ok .cont, hz => exact False.elim hz
end
/-! ### a def, made known to its callers -/
theorem Def.mk' {P : Program} {w : World} {K : PySem.W.Frag} {mg : Str → Option Value} {base : Heap} {k : Nat} {x : Str} {st : Stmt} {ps : List Str} {sp : DSp} {f : Addr} {fd : FuncData} (F : Fun K x x st f fd) (h : FnD P w K mg base CX0 k f fd ps sp) (hm : mg x = some (.ref f)) (hb : Binds K fd ps []) : Def P w K mg base CX0 k x st ps sp :=
  ⟨f, fd, h, hm, F.kp, hb, F⟩
/-- a def that stands in the module -/
structure Here (K : PySem.W.Frag) (mg : Str → Option Value) (x : Str) (st : Stmt) (ps : List Str) : Prop where
  ex : ∃ (f : Addr) (fd : FuncData), Fun K x x st f fd ∧ mg x = some (.ref f) ∧ Binds K fd ps []
theorem here_of {K : PySem.W.Frag} {h : Heap} {mg : Str → Option Value} {x : Str} {st : Stmt} {ps : List Str} {f : Addr} {oc : Value} {od an : Option Addr} {osl : Array (Option Value)} {kV doc pm cdv ct : Value} (X : K.In h) (G : h.Ns mainGlobals mg)
    (a : PySem.W.nsIn K mainGlobals x = some (some (.ref f))) (l : K.lookup f = some ⟨oc, od, .func (PySem.W.fnOf x x (defArgs st) (defBody st) (defScope st) .none kV doc pm an cdv ct), osl⟩) (c : PySem.W.codeIn K cdv x = true) (k : PySem.W.keepIn K (.ref f) = true)
    (hb : ∀ (kV doc pm : Value) (an : Option Addr) (cdv ct : Value) (us : List Value), us.length = ps.length → bindArgs (PySem.W.fnOf x x (defArgs st) (defBody st) (defScope st) .none kV doc pm an cdv ct) ⟨us, []⟩ = pure (ps.zip us)) : Here K mg x st ps :=
  ⟨f, _, fun_mk (st := st) l c k, PySem.W.mg_of X G a, (fun_mk (st := st) l c k).binds hb⟩
section
variable {P : Program} {w : World} {K : PySem.W.Frag} {mg : Str → Option Value} {base : Heap}
/-- THE RULE for a def of the module -/
theorem Here.ok {x : Str} {st : Stmt} {N ps : List Str} {k : Nat} {sp : DSp} {t : DTS} (F : Here K mg x st ps) (S : FnScope N ps (defScope st))
    (hder : ∀ (f : Addr) (cdv : Value) (A : Around) (outer : List PySem.Env) (s : Shared) (H : Hp) (E : XK), Room k (A.deeper (envOfC x (defScope st) s.heap.objs.size f cdv)) → (A.deeper (envOfC x (defScope st) s.heap.objs.size f cdv)).guards = some [] →
      DSs (cxOf CX0 P w K mg base N x (defScope st) f cdv A outer s H E).nox (defBody st) t)
    (hread : ∀ ds M Q, ds.length = ps.length → sp ds M Q DX0 → t (dEnds M Q) (startD N.length ds) M)
    (hX : ∀ ds M Q E, sp ds M Q E → sp ds M Q DX0 := by exact fun _ _ _ _ h => h) : Def P w K mg base CX0 (k + 1) x st ps sp :=
  let ⟨f, fd, h1, h2, h3⟩ := F.ex
  Def.mk' h1 (Fun.okD h1 S (hder f) hread hX) h2 h3
end
/-! ### the end of a law -/
def spLaw : DSp := fun ds M Q _ => M = [] ∧ (∃ ns, ds = [.scr ns]) ∧ Q (.bl true) []
theorem law_callG {P : Program} {w : World} {K : PySem.W.Frag} {mg mb : Str → Option Value} {k : Nat} {fa a : Addr} {fd : FuncData} {x : Str} {s1 : Shared} {vs : List Value} {ns : List Int}
    (KX : K.In s1.heap) (hns : s1.heap.Ns mainGlobals mg) (hb : s1.heap.Ns builtinsNs mb) (hbb : ∀ x : Str, x ≠ "__name__" → mb x = bootBuiltins x) (hlim : s1.heap.NoLimit) (hg : s1.gens = #[])
    (ha : s1.heap.get? a = some { cls := .type "list", data := .seq vs.toArray }) (hi : IntsAre vs ns) (hl : ns.length ≤ sizeLine) (hr : Room k callerA)
    (F : ∀ base : Heap, K.In base → base.Ns mainGlobals mg → FnD P w K mg base CX0 k fa fd [x] spLaw) (hbind : ∀ (s : Shared) (u : Value), BindsTo s fd ⟨[u], []⟩ [(x, u)]) :
    codeAny (model P w) callerA (.call (.ref fa) ⟨[.ref a], []⟩) (fun r s' => r = .ok (.ret (.bool true)) ∧ OldK s1.heap s'.heap ∧ s'.os = s1.os ∧ AllBare s'.gens) s1 := by
  have rv := vals_ints hi
  have lenV := hi.length
  have core : ∀ H : Hp, Only H → SqL K H a (ns.map V.int) → HOk P w H s1.heap → (∀ b, H b ≠ none → b = a) → (H a ≠ none → K.lookup a = none) →
      codeAny (model P w) callerA (.call (.ref fa) ⟨[.ref a], []⟩) (fun r s' => r = .ok (.ret (.bool true)) ∧ OldK s1.heap s'.heap ∧ s'.os = s1.os ∧ AllBare s'.gens) s1 := by
    intro H hO hS hok hA hK
    have at_ : ∀ {b : Addr}, H b ≠ none → b = a := fun {b} z => hA b z
    have noA : ∀ {b : Addr} {o : Obj} {es : Array DictEntry} {ep : Nat}, s1.heap.get? b = some o → o.data = .dict es ep → H b = none := fun {b o es ep} e d => by
      by_cases z : H b = none
      · exact z
      · have e' := at_ z
        rw [e', ha] at e
        rw [← Option.some.inj e] at d
        exact nomatch d
    have nsK : ∀ {b : Addr} {m : Str → Option Value}, s1.heap.Ns b m → (hidT s1.heap H).Ns b m := fun {b m} ⟨o, es, ep, e, d, r⟩ => ⟨o, es, ep, hidT_get e (noA e d), d, r⟩
    have hKb : K.In (hidT s1.heap H) := fun b o e => hidT_get (KX b o e) (by
      by_cases z : H b = none
      · exact z
      · have e' := at_ z
        rw [e'] at e z
        rw [hK z] at e
        cases e)
    have hM : Mod K mg (hidT s1.heap H) := ⟨hKb, nsK hns, ⟨mb, nsK hb, hbb⟩, let ⟨mc, g1, g2⟩ := hlim; ⟨mc, nsK g1, g2⟩⟩
    have e0 : Env0 P w K mg (hidT s1.heap H) callerA [] s1 H := ⟨rfl, hM, fun b o e => of_hidT e, Nat.le_of_eq (hidT_size _ _), trivial, fun b hb => absurd (show b ∈ ([] : List Addr) from hb) (by simp), hok, .of_eq hg⟩
    have st0 : Sat K ⟨[], []⟩ H [] [] [] H := ⟨fun _ _ e => e, rfl, List.nodup_nil, fun k a e => by simp at e, fun k ds e => by simp at e, fun _ hp => (nomatch hp), List.nodup_nil, rfl, fun i d e => by simp at e⟩
    have sp0 : lfSp K 1 spLaw [.ref a] H (fun v _ => v = .bl true) E0 := ⟨⟨[], []⟩, H, [], [.scr ns], fun d M => d = .bl true, DX0, rfl, st0, .cons (.scr hS) .nil, ⟨rfl, ⟨ns, rfl⟩, rfl⟩, fun v H' ⟨_, _, _, _, _, d, q, e⟩ => by
      rw [e] at q
      cases q
      rfl, fun cls d H' ⟨_, _, _, _, _, _, _, _, _, _, _, _, _, _, _, _, z⟩ => z⟩
    refine codeAny_mono ((F _ hKb (nsK hns)).run callerA [] s1 H ⟨[.ref a], []⟩ [.ref a] [.ref a] _ _ hr rfl e0 (hbind s1 (.ref a)) (.cons rfl .nil) sp0) fun r s' h => ?_
    match r, h with
    | .error e, h => exact False.elim h
    | .ok .next, h => exact False.elim h
    | .ok .brk, h => exact False.elim h
    | .ok .cont, h => exact False.elim h
    | .ok (.ret u), ⟨v, H', os, bare, un, hok', r', q⟩ =>
      have q' : v = .bl true := q
      subst q'
      obtain rfl : u = Value.bool true := r'
      refine ⟨rfl, OldK.of_keep fun b o e => ?_, os, bare⟩
      rcases hO b with q | ⟨ob, xs, q⟩
      · exact un.keep b o e q (fun z => nomatch z) (fun z => nomatch z)
      · obtain ⟨e1, _⟩ := hok b _ q
        obtain ⟨e2, _⟩ := hok' b _ (un.frzs b ob _ q)
        rw [e] at e1
        cases e1
        exact e2
  cases hk : K.lookup a with
  | some o =>
    have e := KX a o hk
    rw [ha] at e
    cases e
    exact core (fun _ => none) (fun _ => .inl rfl) (.inr ⟨_, vs.toArray, _, hk, rfl, rfl, rfl, by rw [List.size_toArray, lenV]; exact hl, by simpa using rv⟩) (fun b u z => (nomatch z)) (fun b z => absurd rfl z) fun z => absurd rfl z
  | none =>
    refine core (fun b => if b = a then some (.frz { cls := .type "list", data := .seq vs.toArray } (.lst (ns.map V.int))) else none) (fun b => ?_) (.inl (.inr ⟨{ cls := .type "list", data := .seq vs.toArray }, if_pos rfl⟩)) (fun b u z => ?_) (fun b z => ?_) fun _ => hk
    · by_cases hb : b = a
      · exact .inr ⟨_, _, if_pos hb⟩
      · exact .inl (if_neg hb)
    · by_cases hb : b = a
      · have z := (if_pos hb).symm.trans z
        cases z
        rw [hb]
        exact ⟨ha, by rw [List.length_map]; exact hl, vs, _, rv, ha⟩
      · have z := (if_neg hb).symm.trans z
        cases z
    · by_cases hb : b = a
      · exact hb
      · exact absurd (if_neg hb) z
/-- the goal that k_head leaves -/
theorem walkD {l : PySem.W.OpenLaw} {n k : Nat} {q : Program} {loose : List Str} {XP : (Str → Option Value) → Heap → Prop} {YP : World → Heap → Prop} {d : DefRec} {K : Params → PySem.W.Frag} {x : Str} {st : Stmt}
    (hn : l.most = some n) (hn2 : n ≤ sizeLine) (hdf : d.params.defaults = []) (hr : Room k callerA) (hY : ∀ (w : World) (h : Heap), YP w h → (K w.params).In h)
    (F : ∀ (w : World) (mg : Str → Option Value) (h : Heap), (K w.params).In h → h.Ns mainGlobals mg → ∀ base : Heap, (K w.params).In base → base.Ns mainGlobals mg → Def l.prog w (K w.params) mg base CX0 k d.name st [x] spLaw)
    (hb : ∀ (kV doc pm : Value) (an : Option Addr) (cdv ct : Value) (u : Value), bindArgs (PySem.W.fnOf d.name d.name (defArgs st) (defBody st) (defScope st) .none kV doc pm an cdv ct) ⟨[u], []⟩ = pure [(x, u)]) :
    PySem.W.WalkO q loose XP YP l.row.toRowW d [] (fun f vs => PySem.call f vs) := by
  refine Att.attach_call hn hdf fun w s0 s1 mg mb fa o pm cd doc a vs ns G Y ho hd hcd hmg hobj hints hlen hg => ?_
  have KX := hY w _ Y
  obtain ⟨f0, fd, g1, g2, g3, g4, g5⟩ := (F w mg _ KX G.T.g _ KX G.T.g).ex
  have ef : f0 = fa := by
    rw [g2] at hmg
    exact Value.ref.inj (Option.some.inj hmg)
  subst ef
  obtain ⟨oc, od, kV, doc', pm', an, cdv, ct, osl, efd, lk, hcd'⟩ := g5.ex
  refine law_callG (fd := fd) (k := k) (x := x) KX G.T.g G.T.b G.T.builtins G.T.nolimit hg hobj hints (Nat.le_trans hlen hn2) hr (fun base h1 h2 => ?_) fun s u => ?_
  · obtain ⟨f1, fd1, k1, k2, k3, k4, k5⟩ := (F w mg _ KX G.T.g base h1 h2).ex
    have e1 : f1 = f0 := by
      rw [g2] at k2
      exact (Value.ref.inj (Option.some.inj k2)).symm
    subst e1
    obtain ⟨_, _, _, _, _, _, _, _, _, _, lk1, _⟩ := k5.ex
    rw [lk] at lk1
    have e2 : fd = fd1 := by
      have := Option.some.inj lk1
      injection this with _ _ z _
      exact Data.func.inj z
    rw [e2]
    exact k1
  · rw [efd]
    exact .of_eq (hb kV doc' pm' an cdv ct u)
end DL
/-! DL9: further rules; lemmas for readings -/
namespace DL
open PySem PySem.Spec PyProof.Rows L2
theorem u64 {A : Around} {k : Nat} (hr : Room k A) : A.units + 64 < cLine := hr.units
theorem u65 {A : Around} {k : Nat} (hr : Room k A) : A.units + 65 < cLine := by have := hr.un; omega
theorem ux {A : Around} {k : Nat} (hr : Room k A) : A.units + 200 < cLine := by have := hr.un; omega
section
variable {X : Cx}
/-- an owned list is handed on: it is changed no more -/
def gFrz (d : D) (M : Mem) (Q : DQ) : Prop := match d with
  | .own k => match M[k]? with
    | some (.lst l) => Q (.lst l) (M.set k .dead)
    | _ => False
  | d => Q d M
def dFrz (t : DTE) : DTE := fun r M Q => t r M fun d M1 => gFrz d M1 Q
/-- a list, n times -/
def gMulL : G2 := fun x y M Q => match x, y with
  | .lst a, .int j => (-(2 ^ 63) ≤ j ∧ j < 2 ^ 63 ∧ a.length * j.toNat ≤ sizeLine) ∧ Q (.lst (List.flatten (List.replicate j.toNat a))) M
  | _, _ => False
end
variable {X : Cx}
/-! ### zip, enumerate -/
def pairD (x y : D) : D := .tup [x, y]
theorem RepAll.two {K : PySem.W.Frag} {ph : Ph} {S : Hp} {x y : V} {d e : D} (h : Rep K ph S x d) (g : Rep K ph S y e) : RepAll K ph S [x, y] [d, e] := .cons h (.cons g .nil)
theorem zip_get {l1 l2 : List D} {i : Nat} {d : D} (h : (List.zipWith pairD l1 l2)[i]? = some d) : ∃ x y, l1[i]? = some x ∧ l2[i]? = some y ∧ d = pairD x y := by
  rw [List.getElem?_zipWith] at h
  cases e1 : l1[i]? with
  | none => rw [e1] at h; cases h
  | some x =>
    cases e2 : l2[i]? with
    | none => rw [e1, e2] at h; cases h
    | some y =>
      rw [e1, e2] at h
      exact ⟨x, y, rfl, rfl, (Option.some.inj h).symm⟩
theorem Wlk.zip {K : PySem.W.Frag} {ph : Ph} {S : Hp} {a b : Addr} {d1 d2 : List D} {C1 C2 : Mem → Prop}
    (h1 : ∀ (ph' : Ph) (S' : Hp) (r' : Env) (M' : Mem) (σ' : St) (H' : Hp), (∀ (k : Nat) (a : Addr), ph.cells[k]? = some a → ph'.cells[k]? = some a) → Same S S' → Sat K ph' S' r' M' σ' H' → C1 M' → ∃ xs, SqL K H' a xs ∧ RepAll K ph' S' xs d1)
    (h2 : ∀ (ph' : Ph) (S' : Hp) (r' : Env) (M' : Mem) (σ' : St) (H' : Hp), (∀ (k : Nat) (a : Addr), ph.cells[k]? = some a → ph'.cells[k]? = some a) → Same S S' → Sat K ph' S' r' M' σ' H' → C2 M' → ∃ xs, SqL K H' b xs ∧ RepAll K ph' S' xs d2) :
    Wlk K ph S (Itz K a b) (List.zipWith pairD d1 d2) (fun M => C1 M ∧ C2 M) := fun ph' S' r M σ H e1 e2 hs hc => by
  obtain ⟨xs, q1, qa1⟩ := h1 ph' S' r M σ H e1 e2 hs hc.1
  obtain ⟨ys, q2, qa2⟩ := h2 ph' S' r M σ H e1 e2 hs hc.2
  refine ⟨fun i hi => ⟨xs, ys, q1, q2, by rw [qa1.len, qa2.len]; rw [List.length_zipWith] at hi; omega⟩, fun i d e => ?_⟩
  obtain ⟨x, y, ex, ey, rfl⟩ := zip_get e
  obtain ⟨u, eu, qu⟩ := qa1.get ex
  obtain ⟨w, ew, qw⟩ := qa2.get ey
  refine ⟨⟨xs, ys, u, w, q1, q2, eu, ew⟩, fun z H' ⟨T, u', w', ez, hT, eH, f1, f2⟩ => ?_⟩
  have e3 := f1 xs q1
  have e4 := f2 ys q2
  rw [eu] at e3; cases e3
  rw [ew] at e4; cases e4
  subst ez eH
  obtain ⟨x1, hs1⟩ := hs.frz hT (.tup [u, w])
  exact ⟨_, _, _, x1, hs1, rfl, .tup (.inl upd_same) ((RepAll.two qu qw).up x1)⟩
end DL
namespace DL
open PySem PySem.Spec PyProof.Rows L2
def t_is_whole : DTS :=
 (dRet (dAndV (dCB gIsi (dCons (dVar 0) (dCons (dC (.val (.ty "int"))) dNil))) (dNotV (dCB gIsi (dCons (dVar 0) (dCons (dC (.val (.ty "bool"))) dNil))))))
def t_is_between (c_is_whole : DSp) : DTS :=
 (dRet (dAndV (dCall 1 c_is_whole [] DX0 (dCons (dVar 0) dNil)) (dAndV (dOp (gCmpI fun i j => decide (j ≤ i)) (dVar 0) (dVar 1)) (dOrV (dOp (gIs false) (dVar 2) (dC .non)) (dOp (gCmpI fun i j => decide (i ≤ j)) (dVar 0) (dVar 2))))))
def t_is_measure_by (c_is_between : DSp) : DTS :=
 (dRet (dAndV (dCall 3 c_is_between [] DX0 (dCons (dVar 0) (dCons (dC (.int 5)) (dCons (dC .non) dNil)))) (dOp (gIn false) (dOp (rBin CMod fun i j => i.fmod j) (dVar 0) (dC (.int 4))) (dLst (dCons (dC (.int 0)) (dCons (dC (.int 1)) dNil))))))
def t_root_floor_by : DTS :=
 (dSeq (dIfS (dTru (dOp (gCmpI fun i j => decide (i < j)) (dVar 0) (dC (.int 2)))) (dRet (dVar 0)) dNext)
 (dSeq (dAsg (dC (.int 1)) (dName 1))
 (dSeq (dWhile (dTru (dOp (gCmpI fun i j => decide (i ≤ j)) (dOp (rBin CMul fun i j => i * j) (dVar 1) (dVar 1)) (dVar 0))) (dAsg (dOp (rBin CMul fun i j => i * j) (dC (.int 2)) (dVar 1)) (dName 1)))
 (dSeq (dAsg (dOp (rBin CDiv fun i j => i.fdiv j) (dOp gAdd (dVar 1) (dOp (rBin CDiv fun i j => i.fdiv j) (dVar 0) (dVar 1))) (dC (.int 2))) (dName 2))
 (dSeq (dWhile (dTru (dOp (gCmpI fun i j => decide (i < j)) (dVar 2) (dVar 1))) (dPar 1 2 (dCons (dVar 2) (dCons (dOp (rBin CDiv fun i j => i.fdiv j) (dOp gAdd (dVar 2) (dOp (rBin CDiv fun i j => i.fdiv j) (dVar 0) (dVar 2))) (dC (.int 2))) dNil))))
 (dRet (dVar 1)))))))
def t_l_hash_9cde : DTS :=
 (dSeq (dAsg (dOp (rBin CMod fun i j => i.fmod j) (dCB gInt (dCons (dOp gAdd (dOp gAdd (dOp gAdd (dOp (rBin CMul fun i j => i * j) (dVar 0) (dC (.int 1048583))) (dOp (rBin CMul fun i j => i * j) (dOp (rBin CMul fun i j => i * j) (dC (.int 16777259)) (dVar 1)) (dVar 1))) (dOp (rBin CMul fun i j => i * j) (dC (.int 71)) (dVar 1))) (dC (.int 13))) dNil)) (dC (.int 2147483629))) (dName 2))
 (dSeq (dAsg (dOp (rBin CMod fun i j => i.fmod j) (dCB gInt (dCons (dOp gAdd (dOp gAdd (dOp (rBin CMul fun i j => i * j) (dVar 2) (dVar 2)) (dOp (rBin CMul fun i j => i * j) (dC (.int 40503)) (dVar 1))) (dC (.int 27644437))) dNil)) (dC (.int 2147483587))) (dName 2))
 (dRet (dOp (rBin CMod fun i j => i.fmod j) (dCB gInt (dCons (dOp (rBin CMul fun i j => i * j) (dVar 2) (dC (.int 69069))) dNil)) (dC (.int 2147483647))))))
def t_l_random_7821 (c_l_hash_9cde : DSp) : DTS :=
 (dSeq (dIfS (dTru (dOp (gCmpI fun i j => decide (j < i)) (dOp gIx (dVar 0) (dC (.int 0))) (dC (.int 0)))) (dSeq (dAsg (dOp (rBin CMod fun i j => i.fmod j) (dCB gInt (dCons (dOp gIx (dVar 0) (dC (.int 0))) dNil)) (dVar 1)) (dName 2))
 (dSeq (dAsg (dOp (rBin CDiv fun i j => i.fdiv j) (dOp gIx (dVar 0) (dC (.int 0))) (dVar 1)) (dSub (dVar 0) (dC (.int 0))))
 (dRet (dVar 2)))) dNext)
 (dSeq (dAsg (dC (.int 0)) (dName 2))
 (dSeq (dFor (dRngI gRng1 (dCons (dOp gAdd (dC (.int 1)) (dOp (rBin CDiv fun i j => i.fdiv j) (dBits (dVar 1)) (dC (.int 30)))) dNil)) (dName 3) (dSeq (dAsg (dOp gAdd (dOp gIx (dVar 0) (dC (.int 2))) (dC (.int 1))) (dSub (dVar 0) (dC (.int 2))))
 (dAsg (dOp gAdd (dOp (rBin CMul fun i j => i * j) (dVar 2) (dC (.int 2147483587))) (dCall 2 c_l_hash_9cde [] DX0 (dCons (dOp gIx (dVar 0) (dC (.int 1))) (dCons (dOp gIx (dVar 0) (dC (.int 2))) dNil)))) (dName 2))))
 (dRet (dOp (rBin CMod fun i j => i.fmod j) (dCB gInt (dCons (dVar 2) dNil)) (dVar 1))))))
def t_l_cell_cf3b : DTS :=
 (dSeq (dIfS (dTru (dOp (gCmpI fun i j => decide (i < j)) (dVar 1) (dCB gLen (dCons (dVar 0) dNil)))) (dRet (dOp gIx (dVar 0) (dVar 1))) dNext)
 (dRet (dOp (rBin CMod fun i j => i.fmod j) (dCB gSum (dCons (dSl (gSlL false) (dVar 0) dNoPart (dPart (dC (.int 1)))) dNil)) (dC (.int 1000003)))))
def t_l_generator_b324 (c_l_cell_cf3b : DSp) : DTS :=
 (dSeq (dAsg (dCall 2 c_l_cell_cf3b [] DX0 (dCons (dVar 0) (dCons (dVar 1) dNil))) (dName 2))
 (dRet (dOwn (dCons (dOp (rBin CMod fun i j => i.fmod j) (dCB gInt (dCons (dCB gMax (dCons (dOp (rBin (fun _ _ => True) fun i j => i - j) (dVar 2) (dOp (rBin CPow fun i j => i ^ j.toNat) (dC (.int 10)) (dC (.int 18)))) (dCons (dC (.int 0)) dNil))) dNil)) (dOp (rBin CPow fun i j => i ^ j.toNat) (dOp (rBin CPow fun i j => i ^ j.toNat) (dC (.int 10)) (dC (.int 60))) (dC (.int 10)))) (dCons (dOp (rBin CMod fun i j => i.fmod j) (dCB gInt (dCons (dVar 2) dNil)) (dC (.int 2147483647))) (dCons (dOp (rBin CMul fun i j => i * j) (dC (.int 1000)) (dVar 1)) dNil))))))
def t_l_root_d754 : DTS :=
 (dSeq (dAsg (dTup (dCons (dC (.int 0)) (dCons (dC (.int 1)) dNil))) (dGTup 2 (dGCons (dName 1) (dGCons (dName 2) dGNil))))
 (dSeq (dWhile (dTru (dOp (gCmpI fun i j => decide (i ≤ j)) (dOp (rBin CMul fun i j => i * j) (dVar 2) (dVar 2)) (dVar 0))) (dAsg (dOp (rBin CMul fun i j => i * j) (dC (.int 2)) (dVar 2)) (dName 2)))
 (dSeq (dWhile (dTru (dOp (gCmpI fun i j => decide (j < i)) (dOp (rBin (fun _ _ => True) fun i j => i - j) (dVar 2) (dVar 1)) (dC (.int 1)))) (dSeq (dAsg (dOp (rBin CDiv fun i j => i.fdiv j) (dOp gAdd (dVar 1) (dVar 2)) (dC (.int 2))) (dName 3))
 (dAsg (dIf (dTru (dOp (gCmpI fun i j => decide (i ≤ j)) (dOp (rBin CMul fun i j => i * j) (dVar 3) (dVar 3)) (dVar 0))) (dTup (dCons (dVar 3) (dCons (dVar 2) dNil))) (dTup (dCons (dVar 1) (dCons (dVar 3) dNil)))) (dGTup 2 (dGCons (dName 1) (dGCons (dName 2) dGNil))))))
 (dRet (dVar 1)))))
def t_l_measure_0db7 (c_l_random_7821 : DSp) (c_l_root_d754 : DSp) : DTS :=
 (dSeq (dAsg (dC (.int 5)) (dName 2))
 (dSeq (dFor (dRngI gRng1 (dCons (dOp gAdd (dC (.int 1)) (dCall 2 c_l_random_7821 [] DX0 (dCons (dVar 0) (dCons (dVar 1) dNil)))) dNil)) (dName 3) (dAsg (dOp (rBin CMul fun i j => i * j) (dC (.int 10)) (dVar 2)) (dName 2)))
 (dSeq (dAsg (dOp gAdd (dC (.int 5)) (dCall 2 c_l_random_7821 [] DX0 (dCons (dVar 0) (dCons (dVar 2) dNil)))) (dName 4))
 (dSeq (dIfS (dTru (dOp gEq (dCall 2 c_l_random_7821 [] DX0 (dCons (dVar 0) (dCons (dC (.int 6)) dNil))) (dC (.int 0)))) (dAsg (dOp (rBin CMul fun i j => i * j) (dCall 1 c_l_root_d754 [] DX0 (dCons (dVar 4) dNil)) (dCall 1 c_l_root_d754 [] DX0 (dCons (dVar 4) dNil))) (dName 4)) dNext)
 (dSeq (dAsg (dOp gAdd (dOp (rBin (fun _ _ => True) fun i j => i - j) (dVar 4) (dOp (rBin CMod fun i j => i.fmod j) (dCB gInt (dCons (dVar 4) dNil)) (dC (.int 4)))) (dCall 2 c_l_random_7821 [] DX0 (dCons (dVar 0) (dCons (dC (.int 2)) dNil)))) (dName 5))
 (dRet (dIf (dTru (dOp (gCmpI fun i j => decide (j < i)) (dVar 5) (dC (.int 4)))) (dVar 5) (dC (.int 5)))))))))
end DL
namespace DL
open PySem PySem.Spec PyProof.Rows L2
end DL
namespace DL
open PySem PySem.Spec PyProof.Rows L2
end DL
namespace DL
open PySem PySem.Spec PyProof.Rows L2
def t_is_measure (c_is_measure_by : DSp) : DTS :=
 (dRet (dCall 1 c_is_measure_by [] DX0 (dCons (dVar 0) dNil)))
end DL
namespace DL
open PySem PySem.Spec PyProof.Rows L2
end DL
/-! DLS: sorted of ints, of tuples of ints -/
namespace DL
open PySem PySem.Spec PyProof.Rows L2
/-- by the first unlike number -/
def lexL : List Int → List Int → Bool
  | [], [] => false
  | [], _ :: _ => true
  | _ :: _, [] => false
  | x :: xs, y :: ys => if x = y then lexL xs ys else decide (x < y)
theorem lexL_conn : ∀ x y, lexL x y = false → lexL y x = false → x = y
  | [], [], _, _ => rfl
  | [], _ :: _, h, _ => by cases h
  | _ :: _, [], _, h => by cases h
  | x :: xs, y :: ys, h1, h2 => by
    unfold lexL at h1 h2
    by_cases e : x = y
    · rw [if_pos e] at h1
      rw [if_pos e.symm] at h2
      rw [e, lexL_conn xs ys h1 h2]
    · rw [if_neg e] at h1
      rw [if_neg (Ne.symm e)] at h2
      have a1 := of_decide_eq_false h1
      have a2 := of_decide_eq_false h2
      omega
/-- at v: a tuple of these ints -/
def IsTupI (h : Heap) (v : Value) (ns : List Int) : Prop := ∃ a o us n, v = .ref a ∧ h.get? a = some o ∧ o.cls = .type "tuple" ∧ o.data = .seq (List.toArray us) n ∧ Vals (ns.map V.int) us
theorem IsTupI.keeps {h h' : Heap} {v : Value} {ns : List Int} (p : IsTupI h v ns) (k : ∀ b o, h.get? b = some o → o.cls = .type "tuple" → h'.get? b = some o) : IsTupI h' v ns := by
  obtain ⟨a, o, us, n, e, ho, hc, hd, r⟩ := p
  exact ⟨a, o, us, n, e, k _ _ ho hc, hc, hd, r⟩
/-- the ints of a tuple, as H tells -/
def kV (K : PySem.W.Frag) (H : Hp) (v : V) : List Int := match v with
  | .ref t => match H t with
    | some (.tup xs) => xs.map fun x => match x with
      | .int i => i
      | _ => 0
    | _ => match K.lookup t with
      | some ⟨_, _, .seq its _, _⟩ => its.toList.map fun u => match u with
        | .int i _ => i
        | _ => 0
      | _ => []
  | _ => []
/-! ### as a rule for data -/
def tI (ns : List Int) : D := .tup (ns.map D.int)
/-! ### slices of lists and tuples alike -/
section
variable {X : Cx}
def gSl (own : Bool) (d : D) (lo hi : Option Int) (M : Mem) (Q : DQ) : Prop := match d with
  | .tup l => Q (.tup (cutD l lo hi)) M
  | d => gSlL own d lo hi M Q
theorem gSl_tup {own : Bool} {l : List D} {lo hi : Option Int} {M : Mem} {Q : DQ} : gSl own (.tup l) lo hi M Q = Q (.tup (cutD l lo hi)) M := rfl
theorem gSl_lst {l : List D} {lo hi : Option Int} {M : Mem} {Q : DQ} : gSl false (.lst l) lo hi M Q = Q (.lst (cutD l lo hi)) M := rfl
theorem cut_1 {a : D} {l : List D} : cutD (a :: l) (some 1) none = l := by
  unfold cutD
  have e1 : HT.sIx (a :: l).length 0 (some 1) = 1 := by
    have := HT.sIx_nat (a :: l).length 0 1
    rw [show ((1 : Nat) : Int) = 1 from rfl] at this
    rw [this, List.length_cons]
    omega
  have e2 : HT.sIx (a :: l).length (a :: l).length none = (a :: l).length := rfl
  rw [e1, e2]
  simp
end
/-! ### x + y, lists, the sum to be changed -/
end DL
namespace DL
open PySem PySem.Spec PyProof.Rows L2
end DL
namespace DL
open PySem PySem.Spec PyProof.Rows L2
end DL
namespace DL
open PySem PySem.Spec PyProof.Rows L2
end DL
namespace DL
open PySem PySem.Spec PyProof.Rows L2
end DL
/-! DLU: max and min of a list of ints -/
namespace DL
open PySem PySem.Spec PyProof.Rows L2
end DL
namespace DL
open PySem PySem.Spec PyProof.Rows L2
end DL
namespace DL
open PySem PySem.Spec PyProof.Rows L2
end DL
/-! DLV: sorted({(a, b), (c, d)}) -/
namespace DL
open PySem PySem.Spec PyProof.Rows L2
section
variable {X : Cx}
theorem TupK.ne {K : PySem.W.Frag} {S H : Hp} {a p : Addr} {xs : List V} {o : HO} (h : TupK K S a xs) (hk : ∀ t o, K.lookup t = some o → H t = none) (hp : H p = some o) (hs : S p = none) : a ≠ p := fun z => by
  rcases h with h | ⟨o', _, _, h, _⟩
  · rw [z, hs] at h; cases h
  · have := hk _ _ h
    rw [z, hp] at this; cases this
end
/-! ### a def whose own code must be known -/
end DL
namespace DL
open PySem PySem.Spec PyProof.Rows L2
end DL
namespace DL
open PySem PySem.Spec PyProof.Rows L2
end DL
/-! DLX: errors over data: raised, passed on, caught, asked -/
namespace DL
open PySem PySem.Spec PyProof.Rows L2
section
variable {X : Cx} {pos : Pos}
/-! ### names of the module as values; an error's value and kind -/
theorem de_gname {x : Str} {a : Addr} (hn : PySem.W.nsIn X.K mainGlobals x = some (some (.ref a))) (hm : X.mg x = some (.ref a)) (hg : Gl X x := by rfl) (hd : (x == ("__debug__" : Str)) = false := by decide) : DE X (.Name x pos) (dC (.glb x)) :=
  de_c (pe_glob (v := .ref a) hg hm rfl hd) fun _ _ => .glb hn
def dFld (t : DTE) : DTE := fun r M Q => t r M fun d M1 => match d with
  | .exc _ v => Q v M1
  | _ => False
theorem er_inst {pins : List (Addr × Obj)} {s : Shared} {σ : St} {H : Hp} {a C T dd : Addr} {x : Str} (I : Inv X pins σ H s) (h0 : XA.ErC X.K x C T) (ha : H a = some (erO a C dd)) : ∃ oe : Obj, s.heap.get? a = some oe ∧ oe.cls = .ref C ∧ PySem.W.notCls oe = true ∧ oe.dict = some dd := by
  have q : ObjOk X.prog X.w H s.heap a (.ext (ErAt a C dd)) := I.hok a _ ha
  obtain ⟨vs, sl, hv⟩ := q.1
  exact ⟨_, hv, rfl, rfl, rfl⟩
theorem de_fld {e : Expr} {t : DTE} (he : DE X e t) (hb : attributeBase e "value" X.env (eval e X.env) = eval e X.env := by rfl) : DE X (.Attribute e "value" pos) (dFld t) :=
  ⟨⟨fun pins s σ H Q I ⟨ph, S, r, M, Q0, hs, ht, hq⟩ => attr_of hb (thn (he.pe.run pins s σ H _ I ⟨ph, S, r, M, _, hs, ht, fun _ _ z => z⟩) fun u s1 ⟨y, H1, I1, ry, ph1, S1, M1, x1, hs1, d, q1, g1⟩ => by
    cases d <;> first | exact g1.elim | skip
    cases q1 with
    | @exc a C T dd x v d h0 ha hd hv =>
      cases (show u = Value.ref a from ry)
      obtain ⟨oe, e1, e2, e3, e4⟩ := er_inst I1 h0 (hs1.sub _ _ ha)
      have hx : ObjOk X.prog X.w H1 s1.heap dd (.xd [(fVal, v)]) := I1.hok dd _ (hs1.sub _ _ hd)
      obtain ⟨mA, hns, hr⟩ := hx
      obtain ⟨od, ho, hl⟩ := lookIn_ns hns
      have l : List.lookup fVal [(fVal, v)] = some v := by simp [List.lookup]
      obtain ⟨u, hu, ru⟩ := RelO.some_of (v := v) (o := mA fVal) (by rw [← l]; exact hr fVal)
      have J : PySem.W.InstAt s1.heap a oe C (some od) := ⟨e1, e2, e3, by rw [e4]; exact ho⟩
      have xf := h0.xfC
      exact HandSPX.exc_get I1.kIn J xf.ga xf.gg xf.exC (PySem.W.findObj_own xf.hdC h0.nv rfl (by rw [hl, hu])) (handed_of ru) ⟨v, H1, I1.tok _, ru, hq _ _ ⟨ph1, S1, M1, x1, hs1, _, hv, g1⟩⟩)⟩⟩
/-- isinstance, of errors too; L: the names of the error classes -/
def gIsx (L : List Str) : GA := fun ds M Q => match ds with
  | [.exc x _, .glb y] => y ∈ L ∧ Q (.bl (XA.under x y)) M
  | [.exc _ _, .val (.ty n)] => n = "ValueError" ∧ Q (.bl true) M
  | [.non, .glb y] => y ∈ L ∧ Q (.bl false) M
  | ds => gIsi ds M Q
theorem kit_non {K : PySem.W.Frag} {y : Str} {C : Addr} (A : XA.AnyC K y C) : PySem.W.kitOne K (.type "NoneType") (.ref C) = some false := by
  have e : PySem.fastBuiltinMro "NoneType" = some [Value.type "NoneType", Value.type "object"] := by decide +kernel
  unfold PySem.W.kitOne
  rw [if_neg (by simp)]
  unfold PySem.W.kitCls
  dsimp only
  rw [if_pos (by rw [A.isC, A.ty]; rfl)]
  show (PySem.fastBuiltinMro "NoneType").map _ = _
  rw [e]
  simp
theorem any_at {K : PySem.W.Frag} {y : Str} {a C : Addr} (h : PySem.W.nsIn K mainGlobals y = some (some (.ref a))) (A : XA.AnyC K y C) : a = C := by
  have z := h.symm.trans A.ns
  exact Value.ref.inj (Option.some.inj (Option.some.inj z))
theorem isx_exc {pins : List (Addr × Obj)} {s : Shared} {σ : St} {H : Hp} {ph : Ph} {S : Hp} {r : Env} {M : Mem} {v c : V} {us : List Value} {x : Str} {d : D} {Q : DQ} {cv : Value} {b : Bool} (I : Inv X pins σ H s) (hs : Sat X.K ph S r M σ H) (q : Rep X.K ph S v (.exc x d)) (rv : Vals [v, c] us)
    (rc : ∀ u, RelV c u → u = cv) (hk : ∀ C T, XA.ErC X.K x C T → PySem.W.kitOne X.K (.ref C) cv = some b) (hg : Q (.bl b) M) : wpAny (model X.prog X.w) X.A (call (.builtin "isinstance") us) (EP X pins σ (post X.K ph S r σ Q)) X.xe s := by
  obtain ⟨u1, u2, rfl, r1, r2⟩ := vals2 rv
  cases rc _ r2
  cases q with
  | @exc a C T dd x v d h0 ha hd hv =>
    cases (show u1 = Value.ref a from r1)
    obtain ⟨oe, e1, e2, e3, e4⟩ := er_inst I h0 (hs.sub _ _ ha)
    have hx : ObjOk X.prog X.w H s.heap dd (.xd [(fVal, v)]) := I.hok _ _ (hs.sub _ _ hd)
    obtain ⟨mA, hns, hr⟩ := hx
    obtain ⟨od, ho, hl⟩ := lookIn_ns hns
    have J : PySem.W.InstAt s.heap a oe C (some od) := ⟨e1, e2, e3, by rw [e4]; exact ho⟩
    have xc := h0.excC
    obtain ⟨cd, hc1, _⟩ := h0.clsIn
    exact PySem.W.kia_one (PySem.W.kitx_exc (by rw [hc1]; rfl) xc.hg xc.hk xc.hs xc.ha xc.hn xc.ht xc.hm) I.kIn J (hk _ _ h0) (fun z => nomatch z) fun tk => ⟨.bl b, H, I.kept (t' := tk) fun _ _ z => z, rfl, Aft.here hs ⟨_, .bl b, hg⟩⟩
theorem cd_isx {L : List Str} (hL : ∀ y ∈ L, ∃ C, XA.AnyC X.K y C) : CallD X (.builtin "isinstance") (gIsx L) := by
  intro pins s σ H ph S r M vs us ds Q I hs rv q hg
  have old : gIsi ds M Q → wpAny (model X.prog X.w) X.A (call (.builtin "isinstance") us) (EP X pins σ (post X.K ph S r σ Q)) X.xe s := fun z => cd_isi pins s σ H ph S r M vs us ds Q I hs rv q z
  unfold gIsx at hg
  split at hg
  · rename_i x v y
    obtain ⟨C', A⟩ := hL y hg.1
    cases q with
    | cons q1 q =>
      cases q with
      | cons q2 q =>
        cases q
        cases q2 with
        | glb hn =>
          cases any_at hn A
          exact isx_exc I hs q1 rv (cv := .ref C') (fun u z => z) (fun C T h0 => h0.kit A) hg.2
  · rename_i x v n
    obtain ⟨rfl, hg⟩ := hg
    cases q with
    | cons q1 q =>
      cases q with
      | cons q2 q =>
        cases q
        cases q2
        exact isx_exc I hs q1 rv (cv := .type "ValueError") (fun u z => z) (fun C T h0 => h0.kitV) hg
  · rename_i y
    obtain ⟨C', A⟩ := hL y hg.1
    cases q with
    | cons q1 q =>
      cases q with
      | cons q2 q =>
        cases q
        cases q1
        cases q2 with
        | glb hn =>
          cases any_at hn A
          exact call_isi pins s σ H _ us _ I rv ⟨.non, .ref C', _, _, false, rfl, .own C', .base .non, kit_non A, Aft.here hs ⟨_, .bl _, hg.2⟩⟩
  · exact old hg
end
/-! ### what may leave -/
abbrev DXE := Env → Str → D → Mem → Prop
def postE (K : PySem.W.Frag) (ph : Ph) (S : Hp) (E : DXE) : WX := fun cls d σ H => ∃ (x : Str) (C T dd : Addr) (v : V) (dv : D) (r : Env), XA.ErC K x C T ∧ cls = .ref C ∧ d = some dd ∧
  Aft K ph S r σ H fun ph' S' M => S' dd = some (.xd [(fVal, v)]) ∧ Rep K ph' S' v dv ∧ E r x dv M
theorem postE.up {K : PySem.W.Frag} {ph ph1 : Ph} {S S1 : Hp} {E : DXE} {cls : Value} {d : Option Addr} {σ : St} {H : Hp} (x : Ext ph S ph1 S1) (h : postE K ph1 S1 E cls d σ H) : postE K ph S E cls d σ H :=
  let ⟨y, C, T, dd, v, dv, r, h1, h2, h3, h4⟩ := h
  ⟨y, C, T, dd, v, dv, r, h1, h2, h3, Aft.up x h4⟩
structure DEX (X : Cx) (e : Expr) (t : DXE → DTE) : Prop where
  pe : ∀ W : WX, Takes X W → PE X e (fun σ H Q => ∃ ph S r M Q0 X0, Sat X.K ph S r M σ H ∧ t X0 r M Q0 ∧ (∀ v H', post X.K ph S r σ Q0 v H' → Q v H') ∧ ∀ cls d H', postE X.K ph S X0 cls d σ H' → W cls d σ H')
structure DAX (X : Cx) (es : List Expr) (t : DXE → DTA) : Prop where
  pa : ∀ W : WX, Takes X W → PA X es (fun σ H Q => ∃ ph S r M Q0 X0, Sat X.K ph S r M σ H ∧ t X0 r M Q0 ∧ (∀ v H', postA X.K ph S r σ Q0 v H' → Q v H') ∧ ∀ cls d H', postE X.K ph S X0 cls d σ H' → W cls d σ H')
def lfX (K : PySem.W.Frag) (W : WX) (t : DXE → DTS) : TS := fun E σ H => ∃ ph S r M E0 X0, Sat K ph S r M σ H ∧ t X0 E0 r M ∧ (∀ σ' H', postN K ph S E0.nx σ' H' → E.nx σ' H') ∧ (∀ v H', postR K ph S E0.rt v H' → E.rt v H') ∧ (∀ σ' H', postN K ph S E0.bk σ' H' → E.bk σ' H') ∧ (∀ σ' H', postN K ph S E0.ct σ' H' → E.ct σ' H') ∧
  ∀ cls d σ' H', postE K ph S X0 cls d σ' H' → W cls d σ' H'
structure DSX (X : Cx) (st : Stmt) (t : DXE → DTS) : Prop where
  ps : ∀ W : WX, Takes X W → PS X st (lfX X.K W t)
structure DSXs (X : Cx) (sts : List Stmt) (t : DXE → DTS) : Prop where
  pss : ∀ W : WX, Takes X W → PSs X sts (lfX X.K W t)
section
variable {X : Cx} {pos : Pos}
theorem dex_of {e : Expr} {t : DTE} (h : DE X.nox e t) : DEX X e (fun _ => t) := ⟨fun W tk => PE.weak h.pe.nox fun σ H Q ⟨ph, S, r, M, Q0, X0, hs, ht, hq, _⟩ => ⟨ph, S, r, M, Q0, hs, ht, hq⟩⟩
theorem dax_nil : DAX X [] (fun _ => dNil) := ⟨fun W tk => PA.weak pa_nil fun σ H Q ⟨ph, S, r, M, Q0, X0, hs, ht, hq, _⟩ => hq _ _ (Aft.here hs ⟨_, .nil, ht⟩)⟩
theorem postE.back {K : PySem.W.Frag} {ph ph1 : Ph} {S S1 : Hp} {E : DXE} {cls : Value} {d : Option Addr} {σ : St} {H : Hp} (x : Ext ph S ph1 S1) (h : postE K ph1 S1 E cls d σ H) : postE K ph S E cls d σ H := h.up x
theorem dax_cons {e : Expr} {es : List Expr} {t : DXE → DTE} {u : DXE → DTA} (h : DEX X e t) (h2 : DAX X es u) (hs : starEach (e :: es) X.env = (false, eval e X.env) :: starEach es X.env := by rfl) : DAX X (e :: es) (fun E => dCons (t E) (u E)) :=
  ⟨fun W tk => PA.weak (pa_cons (h.pe W tk) (h2.pa W tk) hs) fun σ H Q ⟨ph, S, r, M, Q0, X0, hs, ht, hq, hx⟩ => ⟨ph, S, r, M, _, X0, hs, ht, fun v H1 ⟨ph1, S1, M1, x1, hs1, d, q1, g1⟩ =>
    ⟨ph1, S1, r, M1, _, X0, hs1, g1, fun vs H2 ⟨ph2, S2, M2, x2, hs2, ds, q2, g2⟩ => hq _ _ ⟨ph2, S2, M2, x1.trans x2, hs2, _, .cons (q1.up x2) q2, g2⟩, fun cls d H' z => hx _ _ _ (z.up x1)⟩, hx⟩⟩
/-- a def's error, in our frame -/
theorem postX.at {K : PySem.W.Frag} {ph : Ph} {S : Hp} {r : Env} {M : Mem} {σ : St} {H H' : Hp} {E : DX} {cls : Value} {d : Option Addr} (hs : Sat K ph S r M σ H) (h : postX K ph S E cls d H') : postE K ph S (fun r' x dv M' => r' = r ∧ E x dv M') cls d σ H' :=
  let ⟨x, C, T, dd, v, dv, h1, h2, h3, ph', S', M', y, hs', e1, e2, e3⟩ := h
  ⟨x, C, T, dd, v, dv, r, h1, h2, h3, ph', S', M', y, hs.back y hs', e1, e2, rfl, e3⟩
variable {k : Nat} {f : Addr} {fd : FuncData} {ps : List Str} {sp : DSp} {x : Str} {p : Pos} {e : Expr} {es : List Expr} {t : DXE → DTA}
/-- f(..), f may raise -/
def dCallX (n : Nat) (sp : DSp) (t : DXE → DTA) : DXE → DTE := fun E r M Q => t E r M fun ds M1 => ds.length = n ∧ sp ds M1 Q (fun y dv M2 => E r y dv M2)
theorem run_fnX {W : WX} {pins : List (Addr × Obj)} {σ : St} {H : Hp} {s : Shared} {Q : VK} {us : List Value} {vs : List V} {sp : Sp} (F : FnG X.prog X.w X.K X.mg X.base (L2.CX X.prog X.w) k f fd ps sp) (hr : Room k X.A) (gd : X.A.guards = some []) (hb : Binds X.K fd ps []) (tk : Takes X W)
    (I : Inv X pins σ H s) (r : Vals vs us) (h : sp vs H Q (fun cls d H' => W cls d σ H')) : wpAny (model X.prog X.w) X.A (call (.ref f) us) (EP X pins σ Q) X.xe s := by
  have hl : us.length = ps.length := by rw [← r.length]; exact F.len _ _ _ _ h
  refine wpAny_call (codeAny_mono (F.run X.A X.stack s H ⟨us, []⟩ us vs Q _ hr gd I.env0 (by have := hb s us I.kIn (by rw [List.append_nil]; exact hl); rw [List.append_nil] at this; exact this) r h) fun fl s' hq => ?_)
  match fl, hq with
  | .error e, hq => exact tk _ _ (XE.of_call I (fun _ _ _ z => z) hq)
  | .ok (.ret u), hq => exact I.after hq
  | .ok .next, hq => exact False.elim hq
  | .ok .brk, hq => exact False.elim hq
  | .ok .cont, hq => exact False.elim hq
theorem lf_callX {W : WX} {n : Nat} {ph : Ph} {S : Hp} {r : Env} {M : Mem} {σ : St} {H : Hp} {Q : DQ} {Q' : VK} {X0 : DXE} {vs : List V} {ds : List D} (hs : Sat X.K ph S r M σ H) (qa : RepAll X.K ph S vs ds) (hl : ds.length = n) (h : sp ds M Q (fun y dv M2 => X0 r y dv M2))
    (hq : ∀ v H', post X.K ph S r σ Q v H' → Q' v H') (hx : ∀ cls d H', postE X.K ph S X0 cls d σ H' → W cls d σ H') : lfSp X.K n sp vs H Q' (fun cls d H' => W cls d σ H') :=
  ⟨ph, S, M, ds, Q, _, hl, hs.drop, qa, h, fun v H2 ⟨ph2, S2, M2, x2, hs2, d, q2, h2⟩ => hq _ _ ⟨ph2, S2, M2, x2, hs.back x2 hs2, d, q2, h2⟩, fun cls d H2 h2 => hx _ _ _ (by
    obtain ⟨y, C, T, dd, v, dv, r', b1, b2, b3, ph', S', M', z, hs', e1, e2, e3, e4⟩ := postX.at hs h2
    subst e3
    exact ⟨y, C, T, dd, v, dv, _, b1, b2, b3, ph', S', M', z, hs', e1, e2, e4⟩)⟩
theorem dcallX {n : Nat} {st : Stmt} {P : Program} {w : World} {K : PySem.W.Frag} {mg : Str → Option Value} {base : Heap} (F : Def P w K mg base (L2.CX P w) k x st ps sp) {j : Nat} (hr : Room j X.A) (gd : X.A.guards = some []) (ha : DAX X (e :: es) t) (hj : k ≤ j := by decide) (hn : ps.length = n := by rfl)
    (h1 : P = X.prog := by rfl) (h2 : w = X.w := by rfl) (h3 : K = X.K := by rfl) (h4 : mg = X.mg := by rfl) (h5 : base = X.base := by rfl) (hg : Gl X x := by rfl) (hdb : (x == ("__debug__" : Str)) = false := by decide) (he : starEach (e :: es) X.env = (false, eval e X.env) :: starEach es X.env := by rfl)
    (hpl : (backTo pos (starEach es X.env)).any (·.1) = false := by rfl) : DEX X (.Call (.Name x p) (e :: es) [] pos) (dCallX n sp t) := by
  subst h1 h2 h3 h4 h5 hn
  obtain ⟨f, fd, h1, h2, h3, h4, _⟩ := F.ex
  exact ⟨fun W tk => ⟨fun pins s σ H Q I ⟨ph, S, r, M, Q0, X0, hs, ht, hq, hx⟩ => wpAny_Call_Name_kw (ld_glob I hg h2 (PySem.W.callWith_K (h₀ := X.base) I.ok.mod.kin h3 (thn ((ha.pa W tk).run pos pins s σ H _ I ⟨ph, S, r, M, _, X0, hs, ht, fun _ _ z => z, hx⟩) fun us s1 ⟨vs, H1, I1, r1, ph1, S1, M1, x1, hs1, ds, q1, hl, g1⟩ =>
    ⟨I1.kIn, thn (run_fnX h1 (hr.mono hj) gd h4 tk I1 r1 (lf_callX hs1 q1 hl g1 (fun _ _ z => z) (fun cls d H' z => hx _ _ _ (z.up x1)))) fun _ _ z => EP.up x1 z hq⟩) he hpl) hdb)⟩⟩
end
end DL
/-! DLY: statements that may raise; try; a def that raises -/
namespace DL
open PySem PySem.Spec PyProof.Rows L2
section
variable {X : Cx} {pos : Pos}
theorem lfX_on {W : WX} {ph ph1 : Ph} {S S1 : Hp} {r : Env} {M : Mem} {σ : St} {H : Hp} {t : DXE → DTS} {X0 : DXE} {E : DEnds} {E' : Ends} (x : Ext ph S ph1 S1) (hs : Sat X.K ph1 S1 r M σ H) (ht : t X0 E r M)
    (h1 : ∀ σ' H', postN X.K ph S E.nx σ' H' → E'.nx σ' H') (h2 : ∀ v H', postR X.K ph S E.rt v H' → E'.rt v H') (h3 : ∀ σ' H', postN X.K ph S E.bk σ' H' → E'.bk σ' H') (h4 : ∀ σ' H', postN X.K ph S E.ct σ' H' → E'.ct σ' H')
    (h5 : ∀ cls d σ' H', postE X.K ph S X0 cls d σ' H' → W cls d σ' H') : lfX X.K W t E' σ H :=
  ⟨ph1, S1, r, M, E, X0, hs, ht, fun _ _ z => h1 _ _ (z.up x), fun _ _ z => h2 _ _ (z.up x), fun _ _ z => h3 _ _ (z.up x), fun _ _ z => h4 _ _ (z.up x), fun _ _ _ _ z => h5 _ _ _ _ (z.up x)⟩
theorem dssx_of {sts : List Stmt} {t : DTS} (h : DSs X.nox sts t) : DSXs X sts (fun _ => t) :=
  ⟨fun W tk => PSs.weak h.pss.nox fun E σ H ⟨ph, S, r, M, E0, X0, hs, ht, h1, h2, h3, h4, _⟩ => ⟨ph, S, r, M, E0, hs, ht, h1, h2, h3, h4⟩⟩
theorem dssx_cons {st : Stmt} {rest : List Stmt} {t u : DXE → DTS} (h : DSX X st t) (h' : DSXs X rest u) : DSXs X (st :: rest) (fun E => dSeq (t E) (u E)) :=
  ⟨fun W tk => PSs.weak (pss_cons (h.ps W tk) (h'.pss W tk)) fun E σ H ⟨ph, S, r, M, E0, X0, hs, ht, h1, h2, h3, h4, h5⟩ =>
    ⟨ph, S, r, M, { E0 with nx := u X0 E0 }, X0, hs, ht, fun σ' H' ⟨r1, ph1, S1, M1, x, hs1, z⟩ => lfX_on x hs1 z h1 h2 h3 h4 h5, h2, h3, h4, h5⟩⟩
theorem dssx_one {st : Stmt} {t : DXE → DTS} (h : DSX X st t) : DSXs X [st] t := ⟨fun W tk => pss_one (h.ps W tk)⟩
theorem dsx_if {c : Expr} {a b : List Stmt} {tc : DTT} {t u : DXE → DTS} (hc : DT X.nox c tc) (ha : DSXs X a t) (hb : DSXs X b u) : DSX X (.If c a b pos) (fun E => dIfS tc (t E) (u E)) :=
  ⟨fun W tk => PS.weak (ps_if hc.pt.nox (ha.pss W tk) (hb.pss W tk)) fun E σ H ⟨ph, S, r, M, E0, X0, hs, ht, h1, h2, h3, h4, h5⟩ => ⟨ph, S, r, M, _, hs, ht, fun k H1 ⟨ph1, S1, M1, x, hs1, z⟩ => by
    cases k with
    | true => exact lfX_on x hs1 z h1 h2 h3 h4 h5
    | false => exact lfX_on x hs1 z h1 h2 h3 h4 h5⟩⟩
theorem dsx_expr {e : Expr} {t : DXE → DTE} (he : DEX X e t) (hs : swapsWith e none pos.line X.env = pure false := by rfl) : DSX X (.Expr e pos) (fun E => dDrop (t E)) :=
  ⟨fun W tk => PS.weak (ps_expr (he.pe W tk) hs) fun E σ H ⟨ph, S, r, M, E0, X0, hs, ht, h1, _, _, _, h5⟩ => ⟨ph, S, r, M, _, X0, hs, ht, fun v H' ⟨ph1, S1, M1, x, hs1, d, _, z⟩ => h1 _ _ ⟨r, ph1, S1, M1, x, hs1, z⟩, fun cls d H' z => h5 _ _ _ _ z⟩⟩
/-- raise x(e) -/
def dRaise (x : Str) (t : DTA) : DXE → DTS := fun E _ r M => t r M fun ds M1 => ∃ d, ds = [d] ∧ E r x d M1
theorem dsx_raise {x : Str} {C S0 fI : Addr} {e : Expr} {p cpos : Pos} {t : DTA} {k : Nat} (T : XA.ErM X.prog X.K X.mg x C S0 fI) (hc : X.calm = true) (hr : Room k X.A) (ha : DA X.nox [e] t) (hg : Gl X x := by rfl)
    (he : starEach (e :: []) X.env = (false, eval e X.env) :: starEach [] X.env := by rfl) (hpl : (backTo cpos (starEach [] X.env)).any (·.1) = false := by rfl) (hdb : (x == ("__debug__" : Str)) = false := by decide) :
    DSX X (.Raise (some (.Call (.Name x p) [e] [] cpos)) none pos) (dRaise x t) := by
  refine ⟨fun W tk => ?_⟩
  have pa : PA X [e] (fun σ H Q => ∃ ph S r M Q0, Sat X.K ph S r M σ H ∧ t r M Q0 ∧ ∀ vs H', postA X.K ph S r σ Q0 vs H' → Q vs H') := ⟨fun pos pins s σ H Q I hw =>
    wpAny_mono (ha.pa.run pos pins s σ H Q (I.wish _) hw) (fun _ _ ⟨v, H', I', r, q⟩ => ⟨v, H', I'.unwish, r, q⟩) fun _ _ z => False.elim z⟩
  refine PS.weak (ps_raise hc tk (pmk_err T hr pa hg he hpl hdb)) fun E σ H ⟨ph, S, r, M, E0, X0, hs, ht, _, _, _, _, h5⟩ => ⟨ph, S, r, M, _, hs, ht, fun vs H1 ⟨ph1, S1, M1, x1, hs1, ds, q1, d, ed, g1⟩ => ?_⟩
  subst ed
  cases q1 with
  | @cons v vs' _ _ q1 q2 =>
    cases q2
    refine ⟨v, rfl, fun dd hd => h5 _ _ _ _ ⟨x, C, S0, dd, v, d, r, T.er, rfl, rfl, Aft.up x1 (Aft.frz hs1 hd fun y => ⟨upd_same, q1.up y, g1⟩)⟩⟩
/-! ### try -/
/-- try: t / except c as (slot i): ts, all that t raises being of the class c -/
def dTry (c : Str) (i : Nat) (t : DXE → DTS) (ts : DTS) : DTS := fun E r M => t (fun r' x dv M' => XA.under x c = true ∧
  ts { nx := fun r2 M2 => E.nx (r2.set i none) M2, rt := E.rt, bk := fun r2 M2 => E.bk (r2.set i none) M2, ct := fun r2 M2 => E.ct (r2.set i none) M2 } (r'.set i (some (.exc x dv))) M') E r M
theorem ds_try {x n : Str} {C : Addr} {i : Nat} {body suite : List Stmt} {b₀ : Stmt} {np pos' : Pos} {t : DXE → DTS} {ts : DTS} (hs : X.stack = X.env :: X.outer) (hf : X.env.frame = some X.env.locals) (hN : X.N.Nodup) (hA : XA.AnyC X.K x C) (hm : X.mg x = some (.ref C)) (tk : Takes X (fun _ _ _ _ => False))
    (hb : ∀ (pn : List (Addr × Obj)) (xe : Value → Shared → Prop), PassesOwn (model X.prog X.w) X.A X.env xe → DSXs (X.tr pn xe) body t) (hsu : ∀ (a : Addr) (pn : List (Addr × Obj)), DSs (sui X a pn) (b₀ :: suite) ts)
    (hi : X.N[i]? = some n := by rfl) (hln : X.env.kindOf n = some .local := by rfl) (hg : Gl X x := by rfl) (hdb : (x == ("__debug__" : Str)) = false := by decide) :
    DS X (.Try body [.ExceptHandler (some (.Name x np)) (some n) (b₀ :: suite) pos'] [] [] pos) (dTry x i t ts) := by
  have main := ps_try_sui (X := X) (x := x) (n := n) (c := .ref C) (i := i) (np := np) (pos := pos) (pos' := pos') (Wout := fun _ _ _ _ => False) hs hf hN hi hln ⟨hg, hdb, .inl hm⟩ tk (tb := fun W => lfX X.K W t) (fun W pn xe tkW hp => (hb pn xe hp).pss W tkW) (ts := lfS X.K ts) (fun a pn => (hsu a pn).pss)
  refine ⟨PS.weak main fun E' σ H ⟨ph, S, r, M, E, hs, ht, h1, h2, h3, h4⟩ => ⟨ph, S, r, M, E, _, hs, ht, h1, h2, h3, h4, ?_⟩⟩
  rintro cls d σ1 H1 ⟨y, C1, T1, dd, v, dv, r1, e1, rfl, rfl, ph1, S1, M1, x1, hs1, g1, g2, hu, g3⟩
  refine ⟨C1, dd, rfl, rfl, true, by rw [e1.exm hA, hu], fun _ a ha => ?_, fun z => Bool.noConfusion z⟩
  obtain ⟨x2, hs2⟩ := hs1.frz ha (erO a C1 dd)
  have q : Rep X.K ph1 (upd S1 a (erO a C1 dd)) (.ref a) (.exc y dv) := .exc e1 upd_same (x2.same _ _ g1) (g2.up x2)
  have xx := x1.trans x2
  refine ⟨ph1, _, _, M1, _, hs2.setN q, g3, ?_, ?_, ?_, ?_⟩
  · exact fun σ' H' ⟨r', ph', S', M', z, hs', w⟩ => h1 _ _ ⟨_, ph', S', M', xx.trans z, hs'.clr i, w⟩
  · exact fun v H' z => h2 _ _ (z.up xx)
  · exact fun σ' H' ⟨r', ph', S', M', z, hs', w⟩ => h3 _ _ ⟨_, ph', S', M', xx.trans z, hs'.clr i, w⟩
  · exact fun σ' H' ⟨r', ph', S', M', z, hs', w⟩ => h4 _ _ ⟨_, ph', S', M', xx.trans z, hs'.clr i, w⟩
end
/-! ### a def that may raise -/
def Rtx (M : Mem) (E : DX) : DX := fun x d M' => ∃ M1 G, M' = M1 ++ G ∧ M.length ≤ M1.length ∧ below M1.length d = true ∧ (∀ (i : Nat) (c : Own), M1[i]? = some c → M[i]? = some c ∨ belowO M1.length c = true) ∧ E x d M1
def dOut (M : Mem) (E : DX) : DXE := fun _ x d M' => Rtx M E x d M'
theorem Rtx.out {K : PySem.W.Frag} {ph : Ph} {S : Hp} {M : Mem} {H : Hp} {E : DX} (h0 : Sat K ph S [] M [] H) {cls : Value} {d : Option Addr} {σ : St} {H1 : Hp} (h : postE K ph S (dOut M E) cls d σ H1) : postX K ph S E cls d H1 := by
  obtain ⟨x, C, T, dd, v, dv, r, e1, e2, e3, ph1, S1, M', y, hs, q1, q2, M1, G, rfl, hl, hb, hc, hq⟩ := h
  obtain ⟨x2, hs2⟩ := Sat.leave h0 y hs hl hc
  exact ⟨x, C, T, dd, v, dv, e1, e2, e3, _, _, _, x2, hs2, q1, Rep.take dv v hb q2, hq⟩
section
variable {P : Program} {w : World} {K : PySem.W.Frag} {mg : Str → Option Value} {base : Heap}
theorem Fun.okE {x qual : Str} {st : Stmt} {f : Addr} {fd : FuncData} {N ps : List Str} {k : Nat} {sp : DSp} {t : DXE → DTS} (F : Fun K x qual st f fd) (S : FnScope N ps (defScope st))
    (hder : ∀ (cdv : Value) (A : Around) (outer : List PySem.Env) (s : Shared) (H : Hp) (E : XK), Room k (A.deeper (envOfC qual (defScope st) s.heap.objs.size f cdv)) → (A.deeper (envOfC qual (defScope st) s.heap.objs.size f cdv)).guards = some [] →
      DSXs (cxOf (L2.CX P w) P w K mg base N qual (defScope st) f cdv A outer s H E) (defBody st) t)
    (hread : ∀ ds M Q E, ds.length = ps.length → belowAll M.length ds = true → sp ds M Q E → t (dOut M E) (dEnds M Q) (startD N.length ds) M) : FnD P w K mg base (L2.CX P w) (k + 1) f fd ps sp := by
  obtain ⟨oc, od, kV, doc, pm, an, cdv, ct, osl, rfl, lk, hcd⟩ := F.ex
  refine fnG_of lk hcd S (fun vs H Q E h => ?_) fun A outer s H vs Q E hr gd hsp => ?_
  · obtain ⟨_, _, _, _, _, _, hl, _, q, _⟩ := h
    rw [q.len]; exact hl
  · obtain ⟨ph, S0, M, ds, Q0, E0, hl, hs, hq, h, h1, h2⟩ := hsp
    refine ⟨_, (hder cdv A outer s H E hr gd).pss _ (takes_of rfl rfl rfl rfl), ph, S0, startD N.length ds, M, dEnds M Q0, dOut M E0, hs.start hq N, hread ds M Q0 E0 hl (by rw [← hs.len]; exact RepAll.belowP _ _ hq) h, ?_, ?_, ?_, ?_, ?_⟩
    · rintro σ' H' ⟨r, ph1, S1, M1, x, hs1, z⟩
      exact h1 _ _ (Rtq.out hs ⟨r, σ', ph1, S1, M1, x, hs1, .non, .non, z⟩)
    · exact fun v H' z => h1 _ _ (Rtq.out hs z)
    · rintro σ' H' ⟨r, ph1, S1, M1, x, hs1, z⟩
      exact z.elim
    · rintro σ' H' ⟨r, ph1, S1, M1, x, hs1, z⟩
      exact z.elim
    · exact fun cls d σ' H' z => h2 _ _ _ (Rtx.out hs z)
theorem Here.okE {x : Str} {st : Stmt} {N ps : List Str} {k : Nat} {sp : DSp} {t : DXE → DTS} (F : Here K mg x st ps) (S : FnScope N ps (defScope st))
    (hder : ∀ (f : Addr) (cdv : Value) (A : Around) (outer : List PySem.Env) (s : Shared) (H : Hp) (E : XK), Room k (A.deeper (envOfC x (defScope st) s.heap.objs.size f cdv)) → (A.deeper (envOfC x (defScope st) s.heap.objs.size f cdv)).guards = some [] →
      DSXs (cxOf (L2.CX P w) P w K mg base N x (defScope st) f cdv A outer s H E) (defBody st) t)
    (hread : ∀ ds M Q E, ds.length = ps.length → belowAll M.length ds = true → sp ds M Q E → t (dOut M E) (dEnds M Q) (startD N.length ds) M) : Def P w K mg base (L2.CX P w) (k + 1) x st ps sp :=
  let ⟨f, fd, h1, h2, h3⟩ := F.ex
  ⟨f, fd, Fun.okE h1 S (hder f) hread, h2, h1.kp, h3, h1⟩
end
/-! ### a def that may raise, called where it doesn't -/
section
variable {X : Cx} {k : Nat} {ps ks : List Str} {sp : DSp} {x : Str} {p pos : Pos} {e : Expr} {es : List Expr} {kws : List Keyword} {t : DTA}
theorem passN : Passes (L2.CX X.prog X.w) X E0 := fun _ _ _ _ _ _ _ h => by
  obtain ⟨_, _, _, _, _, _, _, _, _, _, _, _, z⟩ := h
  exact z.elim
theorem dcallN {n : Nat} {st : Stmt} {P : Program} {w : World} {K : PySem.W.Frag} {mg : Str → Option Value} {base : Heap} (F : Def P w K mg base (L2.CX P w) k x st ps sp) {j : Nat} (hr : Room j X.A) (gd : X.A.guards = some []) (ha : DA X (e :: es) t) (hj : k ≤ j := by decide) (hn : ps.length = n := by rfl)
    (h1 : P = X.prog := by rfl) (h2 : w = X.w := by rfl) (h3 : K = X.K := by rfl) (h4 : mg = X.mg := by rfl) (h5 : base = X.base := by rfl) (hg : Gl X x := by rfl) (hdb : (x == ("__debug__" : Str)) = false := by decide) (he : starEach (e :: es) X.env = (false, eval e X.env) :: starEach es X.env := by rfl)
    (hpl : (backTo pos (starEach es X.env)).any (·.1) = false := by rfl) : DE X (.Call (.Name x p) (e :: es) [] pos) (dCall n sp [] DX0 t) := by
  subst h1 h2 h3 h4 h5 hn
  obtain ⟨f, fd, h1, h2, h3, h4, _⟩ := F.ex
  exact de_callX h1 (hr.mono hj) gd h2 h3 h4 .nil .nil passN pX0 ha hg hdb he hpl
theorem dcallKN {m n : Nat} {st : Stmt} (l : List Nat) {P : Program} {w : World} {K : PySem.W.Frag} {mg : Str → Option Value} {base : Heap} (F : Def P w K mg base (L2.CX P w) k x st ps sp) {j : Nat} (hr : Room j X.A) (gd : X.A.guards = some []) (hkw : DK X kws t)
    (hks : (backToKw pos (keywordEach kws X.env)).filterMap (·.1) = ks)
    (hb : ∀ (kV doc pm : Value) (an : Option Addr) (cdv ct : Value) (us : List Value), us.length = ks.length → bindArgs (PySem.W.fnOf x x (defArgs st) (defBody st) (defScope st) .none kV doc pm an cdv ct) ⟨[], ks.zip us⟩ = pure (ps.zip (pick l us)))
    (hj : k ≤ j := by decide) (hm : ks.length = m := by rfl) (hn : ps.length = n := by rfl)
    (h1 : P = X.prog := by rfl) (h2 : w = X.w := by rfl) (h3 : K = X.K := by rfl) (h4 : mg = X.mg := by rfl) (h5 : base = X.base := by rfl) (hg : Gl X x := by rfl) (hdb : (x == ("__debug__" : Str)) = false := by decide) (hall : (backToKw pos (keywordEach kws X.env)).all (·.1.isSome) = true := by rfl)
    (hpl : ((backTo pos (starEach [] X.env)).any (·.1) || (backToKw pos (keywordEach kws X.env)).any (·.1.isNone)) = false := by rfl) : DE X (.Call (.Name x p) [] kws pos) (dCallK m n sp l DX0 t) := by
  subst h1 h2 h3 h4 h5 hn hm
  obtain ⟨f, fd, h1, h2, h3, h4, h5⟩ := F.ex
  refine ⟨⟨fun pins s σ H Q I ⟨ph, S, r, M, Q0, hs, ht, hq⟩ => wpAny_Call_Name_kw (ld_glob I hg h2 ?_ hdb)⟩⟩
  refine PySem.W.callWith_KW0 (h₀ := X.base) I.ok.mod.kin h3 hall (thn (hkw.pk.run pos pins s σ H _ I ⟨ph, S, r, M, _, hs, ht, fun _ _ z => z⟩) fun us s1 ⟨vs, H1, I1, r1, ph1, S1, M1, x1, hs1, ds, q1, hl, hp, g1⟩ => ⟨I1.kIn, ?_⟩) hpl
  rw [hks]
  obtain ⟨oc, od, kV, doc, pm, an, cdv, ct, osl, efd, lk, hcd⟩ := h5.ex
  have hul : us.length = ks.length := by rw [← Paired.length r1, q1.len]; exact hl
  have hb' : BindsTo s1 fd ⟨[], ks.zip us⟩ (ps.zip (pick l us)) := by
    rw [efd]
    exact .of_eq (hb kV doc pm an cdv ct us hul)
  refine wpAny_call (codeAny_mono (h1.run X.A X.stack s1 H1 ⟨[], ks.zip us⟩ (pick l us) (pick l vs) (post X.K ph1 S1 r σ Q0) E0 (hr.mono hj) gd I1.env0 hb' (pick_vals r1 l) ?_) fun r s' hz => ?_)
  · exact ⟨ph1, S1, M1, pick l ds, Q0, DX0, hp, hs1.drop, pick_rep q1 l, g1, fun v H2 ⟨ph2, S2, M2, x2, hs2, d, q2, h2⟩ => ⟨ph2, S2, M2, x2, hs1.back x2 hs2, d, q2, h2⟩, pX0 _ _⟩
  · match r, hz with
    | .error e, hz => exact passN pins σ H1 s1 e s' I1 hz
    | .ok (.ret u), hz => exact EP.up x1 (I1.after hz) hq
    | .ok .next, hz => exact False.elim hz
    | .ok .brk, hz => exact False.elim hz
    | .ok .cont, hz => exact False.elim hz
/-! ### a call of what an expression tells (a def out of a list of defs) -/
/-- the defs that may be meant: name, number of parameters, contract -/
abbrev Tab := List (Str × Nat × DSp)
def dCallV (L : Tab) (tf : DTE) (t : DXE → DTA) : DXE → DTE := fun E r M Q => tf r M fun d M0 => match d with
  | .glb x => ∃ n sp, (x, n, sp) ∈ L ∧ t E r M0 fun ds M1 => ds.length = n ∧ sp ds M1 Q (fun y dv M2 => E r y dv M2)
  | _ => False
theorem dcallV {L : Tab} {P : Program} {w : World} {K : PySem.W.Frag} {mg : Str → Option Value} {base : Heap} {fe : Expr} {tf : DTE} {t : DXE → DTA} {j : Nat} (hf : DE X.nox fe tf) (ha : DAX X (e :: es) t)
    (FL : ∀ x n sp, (x, n, sp) ∈ L → ∃ k st ps, k ≤ j ∧ ps.length = n ∧ Def P w K mg base (L2.CX P w) k x st ps sp) (hr : Room j X.A) (gd : X.A.guards = some [])
    (h1 : P = X.prog := by rfl) (h2 : w = X.w := by rfl) (h3 : K = X.K := by rfl) (h4 : mg = X.mg := by rfl) (h5 : base = X.base := by rfl)
    (ht : eval (.Call fe (e :: es) [] pos) X.env = (do callWith pos (← eval fe X.env) [] (backTo pos (starEach (e :: es) X.env)) (backToKw pos (keywordEach [] X.env))) := by rfl)
    (he : starEach (e :: es) X.env = (false, eval e X.env) :: starEach es X.env := by rfl) (hpl : (backTo pos (starEach es X.env)).any (·.1) = false := by rfl) : DEX X (.Call fe (e :: es) [] pos) (dCallV L tf t) := by
  subst h1 h2 h3 h4 h5
  refine ⟨fun W tk => ⟨fun pins s σ H Q I ⟨ph, S, r, M, Q0, X0, hs, hq0, hq, hx⟩ => ?_⟩⟩
  refine Call_ (thn (hf.pe.nox.run pins s σ H _ I ⟨ph, S, r, M, _, hs, hq0, fun _ _ z => z⟩) fun u s1 ⟨y, H1, I1, ry, ph1, S1, M1, x1, hs1, d, q1, g1⟩ => ?_) ht
  cases d <;> first | exact g1.elim | skip
  rename_i z
  obtain ⟨n, sp, hL, g1⟩ := g1
  obtain ⟨k, st, ps, hj, hn, F⟩ := FL z n sp hL
  obtain ⟨f, fd, h1, h2, h3, h4, _⟩ := F.ex
  cases q1 with
  | @glb a _ hz =>
    have ea : a = f := by
      have y1 := PySem.W.mg_of I1.ok.mod.kin I1.ok.mod.glob hz
      rw [h2] at y1
      exact (Value.ref.inj (Option.some.inj y1)).symm
    subst ea
    cases (show u = Value.ref a from ry)
    subst hn
    refine PySem.W.callWith_K (h₀ := X.base) I1.ok.mod.kin h3 (thn ((ha.pa W tk).run pos pins s1 σ H1 _ I1 ⟨ph1, S1, r, M1, _, X0, hs1, g1, fun _ _ z => z, fun cls d H' z => hx _ _ _ (z.up x1)⟩) fun us s2 ⟨vs, H2, I2, r2, ph2, S2, M2, x2, hs2, ds, q2, hl, g2⟩ => ⟨I2.kIn, ?_⟩) he hpl
    exact thn (run_fnX h1 (hr.mono hj) gd h4 tk I2 r2 (lf_callX hs2 q2 hl g2 (fun _ _ z => z) (fun cls d H' z => hx _ _ _ (z.up (x1.trans x2))))) fun _ _ z => EP.up (x1.trans x2) z hq
end
end DL
namespace DL
open PySem PySem.Spec PyProof.Rows L2
theorem takes0 {X : Cx} : Takes X (fun _ _ _ _ => False) := fun _ _ ⟨_, _, _, _, _, _, _, _, _, _, _, _, _, _, _, _, z⟩ => z.elim
/-- a contract without errors -/
theorem Def.weak {P : Program} {w : World} {K : PySem.W.Frag} {mg : Str → Option Value} {base : Heap} {CX : CXT} {k : Nat} {x : Str} {st : Stmt} {ps : List Str} {sp sp' : DSp} (F : Def P w K mg base CX k x st ps sp) (h : ∀ ds M Q E, sp' ds M Q E → sp ds M Q DX0) : Def P w K mg base CX k x st ps sp' := by
  obtain ⟨f, fd, h1, h2, h3, h4, h5⟩ := F.ex
  refine ⟨f, fd, ⟨fun vs H Q E z => ?_, fun A outer s H args us vs Q E hr gd e0 hb r z => ?_⟩, h2, h3, h4, h5⟩
  · obtain ⟨ph, S, M, ds, Q0, E0, hl, hs, q, z, z1, z2⟩ := z
    rw [q.len]; exact hl
  · obtain ⟨ph, S, M, ds, Q0, E0, hl, hs, q, z, z1, z2⟩ := z
    exact h1.run A outer s H args us vs Q E hr gd e0 hb r ⟨ph, S, M, ds, Q0, DX0, hl, hs, q, h _ _ _ _ z, z1, fun cls d H2 ⟨_, _, _, _, _, _, _, _, _, _, _, _, _, _, _, _, y⟩ => y.elim⟩
end DL
namespace DL
open PySem PySem.Spec PyProof.Rows L2
/-- an error leaves, the cells being as they were -/
theorem rtx {M : Mem} {E : DX} {x : Str} {d : D} {r : Env} (hb : below M.length d = true) (h : E x d M) : dOut M E r x d M :=
  ⟨M, [], by rw [List.append_nil], Nat.le_refl _, hb, fun i c e => .inl e, h⟩
end DL
/-! DLZ: list(range), range with a step, enumerate, xs[::-1], xs.index -/
namespace DL
open PySem PySem.Spec PyProof.Rows L2
section
variable {X : Cx} {pos : Pos}
/-! ### list(range(..)) -/
def gLRng (own : Bool) : GA := fun ds M Q => match ds with
  | [.int b] => RgOk 0 b ∧ (if own = true then Q (.own M.length) (M ++ [.lst (rng 0 b.toNat)]) else Q (.lst (rng 0 b.toNat)) M)
  | [.int a, .int b] => RgOk a b ∧ (if own = true then Q (.own M.length) (M ++ [.lst (rng a (b - a).toNat)]) else Q (.lst (rng a (b - a).toNat)) M)
  | _ => False
/-! ### range(a, b, c) -/
/-! ### enumerate -/
/-! ### xs[::-1] -/
/-! ### xs.index(y) -/
mutual
def dpD : D → Bool
  | .non => true
  | .bl _ => true
  | .int _ => true
  | .str _ => true
  | .tup l => dpDAll l
  | .lst l => dpDAll l
  | _ => false
def dpDAll : List D → Bool
  | [] => true
  | d :: ds => dpD d && dpDAll ds
end
mutual
theorem Rep.dp {K : PySem.W.Frag} {ph : Ph} {H : Hp} : ∀ (d : D) (v : V) (p : PyData), Rep K ph H v d → dpD d = true → toPy d = some p → Dp K H v p
  | .non, _, _, h, _, e => by cases h; cases e; exact .non
  | .bl _, _, _, h, _, e => by cases h; cases e; exact .bl _
  | .int _, _, _, h, _, e => by cases h; cases e; exact .int _
  | .str _, _, _, h, _, e => by cases h; cases e; exact .str _
  | .tup ds, _, _, h, g, e => by
    cases h with
    | tup h1 h2 =>
      simp only [toPy] at e
      split at e
      · rename_i ps ep
        cases e
        exact .tup (h1.sq fun _ _ z => z) (RepAll.dp ds _ ps h2 (by simpa only [dpD] using g) ep)
      · cases e
  | .lst ds, _, _, h, g, e => by
    cases h with
    | lst h1 h2 =>
      simp only [toPy] at e
      split at e
      · rename_i ps ep
        cases e
        exact .lst (SqL.of h1) (RepAll.dp ds _ ps h2 (by simpa only [dpD] using g) ep)
      · cases e
  | .dct0, _, _, _, g, _ => by simp [dpD] at g
  | .scr _, _, _, _, g, _ => by simp [dpD] at g
  | .own _, _, _, _, g, _ => by simp [dpD] at g
  | .exc _ _, _, _, _, g, _ => by simp [dpD] at g
  | .glb _, _, _, _, g, _ => by simp [dpD] at g
  | .val _, _, _, _, g, _ => by simp [dpD] at g
theorem RepAll.dp {K : PySem.W.Frag} {ph : Ph} {H : Hp} : ∀ (ds : List D) (vs : List V) (ps : List PyData), RepAll K ph H vs ds → dpDAll ds = true → toPyAll ds = some ps → DpAll K H vs ps
  | [], _, _, h, _, e => by cases h; cases e; exact .nil
  | d :: ds, _, _, h, g, e => by
    cases h with
    | cons h1 h2 =>
      have g' : dpD d = true ∧ dpDAll ds = true := by simpa only [dpDAll, Bool.and_eq_true] using g
      simp only [toPyAll] at e
      split at e
      · rename_i p ps ep eps
        cases e
        exact .cons (Rep.dp d _ p h1 g'.1 ep) (RepAll.dp ds _ ps h2 g'.2 eps)
      · cases e
end
end
end DL
namespace DL
open PySem PySem.Spec PyProof.Rows L2
def t_check_measure_x (c_is_measure_by : DSp) : DXE → DTS :=
 fun E => (dIfS (dNot (dTru (dCall 1 c_is_measure_by [] DX0 (dCons (dVar 0) dNil)))) (dRaise "InvalidMeasure" (dCons (dVar 0) dNil) E) dNext)
end DL
namespace DL
open PySem PySem.Spec PyProof.Rows L2
end DL
/-! XC: list(range(a, b, c)); xs.count(y) -/
namespace L2
open PySem PySem.Spec PyProof.Rows PyProof
end L2
/-! DLC: list(range(a, b, c)), xs.count(y), comparisons and reprs of data with owned lists within -/
namespace DL
open PySem PySem.Spec PyProof.Rows L2
section
variable {X : Cx} {pos : Pos}
/-! ### xs.count(y) -/
/-! ### owned lists within -/
def cellL (M : Mem) (k : Nat) : Option (List D) := match M[k]? with
  | some (.lst ds) => some ds
  | _ => none
mutual
/-- every owned list within as it stands -/
def resD (M : Mem) : D → D
  | .own k => match cellL M k with
    | some ds => .lst ds
    | none => .own k
  | .tup l => .tup (resDA M l)
  | .lst l => .lst (resDA M l)
  | d => d
def resDA (M : Mem) : List D → List D
  | [] => []
  | d :: ds => resD M d :: resDA M ds
end
section
variable {K : PySem.W.Frag} {ph : Ph} {S : Hp} {r : Env} {M : Mem} {σ : St} {H : Hp}
mutual
theorem Rep.resD (hs : Sat K ph S r M σ H) : ∀ (d : D) (v : V), Rep K ph S v d → Rep K ph H v (resD M d)
  | .own k, v, q => by
    unfold DL.resD
    split
    · rename_i ds hk
      have hk' : M[k]? = some (.lst ds) := by
        unfold cellL at hk
        split at hk
        · rename_i e; cases hk; exact e
        · cases hk
      cases q with
      | own h =>
        obtain ⟨a, xs, c1, c2, c3, c4⟩ := hs.cell k ds hk'
        rw [h] at c1; cases c1
        exact .lst c3 (hs.readAll c4)
    · exact hs.read q
  | .tup l, _, .tup h1 h2 => by
    unfold DL.resD
    exact .tup (h1.ext hs.sub) (RepAll.resD hs l _ h2)
  | .lst l, _, .lst h1 h2 => by
    unfold DL.resD
    exact .lst (hs.sub _ _ h1) (RepAll.resD hs l _ h2)
  | .non, _, q => hs.read q
  | .bl _, _, q => hs.read q
  | .int _, _, q => hs.read q
  | .str _, _, q => hs.read q
  | .dct0, _, q => hs.read q
  | .scr _, _, q => hs.read q
  | .exc _ _, _, q => hs.read q
  | .glb _, _, q => hs.read q
  | .val _, _, q => hs.read q
theorem RepAll.resD (hs : Sat K ph S r M σ H) : ∀ (ds : List D) (vs : List V), RepAll K ph S vs ds → RepAll K ph H vs (resDA M ds)
  | [], _, .nil => by unfold DL.resDA; exact .nil
  | d :: ds, _, .cons q t => by unfold DL.resDA; exact .cons (Rep.resD hs d _ q) (RepAll.resD hs ds _ t)
end
theorem resD_str {d : D} {z : Str} (h : DL.resD M d = .str z) : d = .str z := by
  cases d <;> unfold DL.resD at h <;> first | exact h | (split at h <;> cases h) | cases h
end
def gEqD : G2 := fun x y M Q => match eqB (resD M x) (resD M y) with
  | some b => Q (.bl b) M
  | none => False
def gNeD : G2 := fun x y M Q => match eqB (resD M x) (resD M y) with
  | some b => Q (.bl (!b)) M
  | none => False
theorem opd_eqD (hu : X.A.units + 64 < cLine) : OpD X (compareOp .Eq) gEqD := by
  intro pins s σ H ph S r M x y dx dy v u Q I hs rx ry qx qy hg
  unfold gEqD at hg
  split at hg
  · rename_i b e
    rcases eqB_of e with ⟨p, q, e1, e2, rfl⟩ | ⟨p, q, e1, e2, rfl⟩
    · cases resD_str e1; cases resD_str e2
      cases qx; cases qy
      obtain ⟨_, rfl⟩ := rx
      obtain ⟨_, rfl⟩ := ry
      exact PyProof.Rows.eq_str ⟨.bl _, H, I, rfl, Aft.here hs ⟨_, .bl _, hg⟩⟩
    · obtain ⟨as, h1, _⟩ := Rep.reads I _ _ _ _ (Rep.resD hs _ _ qx) rx (cmpd_some e1).1
      obtain ⟨bs, h2, _⟩ := Rep.reads I _ _ _ _ (Rep.resD hs _ _ qy) ry (cmpd_some e2).1
      exact SeqAt.compareEq_shaped h1 h2 (cmpd_some e1).2 (cmpd_some e2).2 hu ⟨.bl _, H, I, rfl, Aft.here hs ⟨_, .bl _, hg⟩⟩
  · exact hg.elim
theorem opd_neD (hu : X.A.units + 64 < cLine) : OpD X (compareOp .NotEq) gNeD := by
  intro pins s σ H ph S r M x y dx dy v u Q I hs rx ry qx qy hg
  unfold gNeD at hg
  split at hg
  · rename_i b e
    rcases eqB_of e with ⟨p, q, e1, e2, rfl⟩ | ⟨p, q, e1, e2, rfl⟩
    · cases resD_str e1; cases resD_str e2
      cases qx; cases qy
      obtain ⟨_, rfl⟩ := rx
      obtain ⟨_, rfl⟩ := ry
      exact PyProof.Rows.ne_str ⟨.bl _, H, I, rfl, Aft.here hs ⟨_, .bl _, hg⟩⟩
    · obtain ⟨as, h1, _⟩ := Rep.reads I _ _ _ _ (Rep.resD hs _ _ qx) rx (cmpd_some e1).1
      obtain ⟨bs, h2, _⟩ := Rep.reads I _ _ _ _ (Rep.resD hs _ _ qy) ry (cmpd_some e2).1
      exact SeqAt.compareNe_shaped h1 h2 (cmpd_some e1).2 (cmpd_some e2).2 hu ⟨.bl _, H, I, rfl, Aft.here hs ⟨_, .bl _, hg⟩⟩
  · exact hg.elim
end
end DL
namespace DL
open PySem PySem.Spec PyProof.Rows L2
end DL
/-! XD: repr of a list whose items may be dicts, where no list within is asked about -/
namespace L2
open PySem PySem.Spec PyProof.Rows PyProof
section
variable {prog : Program} {w : World} {A : Around} {E : Value → Shared → Prop} {s : Shared} {Q : Value → Shared → Prop}
theorem repr_listZ {a : Addr} {o : Obj} {vs : Array Value} {n : Nat} {xs : List PyData} {as : List Addr} (ho : s.heap.get? a = some o) (oc : o.cls = .type "list") (od : o.data = .seq vs n) (rs : ReadsAll s.heap vs.toList xs as)
    (sh : PyData.showableAll xs = true) (no : sysModules ∉ as) (gd : A.guards = some []) (un : A.units + (PyData.depthAll xs + 3) < cLine) (len : (PyData.list xs).shown.length ≤ sizeLine)
    (q : ∀ h' u tk, (∀ b o, s.heap.get? b = some o → h'.get? b = some o) → Q (.str (PyData.list xs).shown u) { s with heap := h', toks := tk }) :
    wpAny (model prog w) A (call (.builtin "repr") [.ref a]) Q E s := by
  have len2 : (listText (PyData.shownAll xs)).length ≤ sizeLine := by simpa only [PyData.shown] using len
  obtain ⟨cs, deep, each⟩ := ReprAllK.of_readsAll (prog := prog) (w := w) rs sh (fun _ => no) (fun t ht => Nat.le_trans (listText_mem_le ht) len2)
  have away : a ∉ cs := not_mem_of_deeper (.list ho oc od rs) (by simp only [PyData.depth]; omega) deep
  refine call_repr_slot (by omega) ⟨o, ho, oc⟩ F.slot_list_repr.toG ?_
  simp only [PyData.shown] at q
  cases vs with
  | mk l =>
    cases l with
    | nil =>
      cases (show ReadsAll s.heap [] xs as from rs)
      simp only [PyData.shownAll, listText_nil] at q
      exact call_list_repr_empty ⟨o, ho, oc⟩ ho od ⟨_, _, rfl, q s.heap _ _ fun _ _ z => z⟩
    | cons x l =>
      refine call_list_reprK ho oc od away (by simpa using each.length_eq) (fun i y z => each.item i y (by simpa using z)) gd (fun b _ => Clear.nil b) ?_ (fun _ _ z => z) (fun h' u tk kp => ⟨_, _, rfl, q h' u tk kp⟩) len2
      show A.units + 1 + (PyData.depthAll xs + 1) < cLine
      omega
end
end L2
/-! DLR: how readings are shown -/
namespace DL
open PySem PySem.Spec PyProof.Rows L2
/-! ### while -/
/-- the same, the measure told apart -/
theorem dwhile_of {c : DTT} {t : DTS} {E : DEnds} {r : Env} {M : Mem} (W : Nat → Env → Mem → Prop) (n : Nat) (h0 : W n r M)
    (step : ∀ n r M, W n r M → c r M fun b M1 => if b = true then t { E with nx := fun r' M' => ∃ m', m' < n ∧ W m' r' M', ct := fun r' M' => ∃ m', m' < n ∧ W m' r' M', bk := E.nx } r M1 else E.nx r M1) : dWhile c t E r M := ⟨W, ⟨n, h0⟩, step⟩
/-! ### comparing plain data -/
theorem gEq_int {i j : Int} {M : Mem} {Q : DQ} : gEq (.int i) (.int j) M Q = Q (.bl (i == j)) M := rfl
theorem gNe_int {i j : Int} {M : Mem} {Q : DQ} : gNe (.int i) (.int j) M Q = Q (.bl (!(i == j))) M := rfl
theorem gEq_bl {i j : Bool} {M : Mem} {Q : DQ} : gEq (.bl i) (.bl j) M Q = Q (.bl (i == j)) M := rfl
theorem gNe_bl {i j : Bool} {M : Mem} {Q : DQ} : gNe (.bl i) (.bl j) M Q = Q (.bl (!(i == j))) M := rfl
theorem gNe_nil {M : Mem} {Q : DQ} : gNe (.lst []) (.lst []) M Q = Q (.bl false) M := rfl
/-! ### the end of a def -/
theorem rtq {M : Mem} {Q : DQ} {d : D} (q : Q d M) (hb : below M.length d = true := by rfl) : Rtq M Q d M := ⟨M, [], (List.append_nil M).symm, Nat.le_refl _, hb, fun _ _ h => .inl h, q⟩
theorem rtqG {M G : Mem} {Q : DQ} {d : D} (q : Q d M) (hb : below M.length d = true := by rfl) : Rtq M Q d (M ++ G) := ⟨M, G, rfl, Nat.le_refl _, hb, fun _ _ h => .inl h, q⟩
/-- new cells stay, others were changed: all of them plain -/
theorem rtqC {M M1 : Mem} {Q : DQ} {d : D} (q : Q d M1) (hl : M.length ≤ M1.length) (hb : below M1.length d = true) (hc : ∀ (i : Nat) (c : Own), M1[i]? = some c → M[i]? = some c ∨ belowO M1.length c = true) : Rtq M Q d M1 := ⟨M1, [], (List.append_nil _).symm, hl, hb, hc, q⟩
end DL
namespace DL
open PySem PySem.Spec PyProof.Rows L2
/-! ### comprehensions -/
theorem lcW_pure {ds : List D} {C : Mem → Prop} {g : DTG} {tt : DTT} {te : DTE} {r : Env} {M : Mem} {Q : DQ} (f : D → Option D) (hC : C M) (hl : ds.length ≤ sizeLine)
    (step : ∀ d ∈ ds, ∀ (Y : D → Mem → Prop) (N : Mem → Prop), (match f d with | some e => Y e M | none => N M) → g d r M fun r2 M2 => tt r2 M2 fun b M3 => if b = true then te r2 M3 Y else N M3)
    (q : Q (.lst (ds.filterMap f)) M) : lcW false ds C g tt te r M Q := by
  refine ⟨fun i acc M' => M' = M ∧ acc = (ds.take i).filterMap f ∧ i ≤ ds.length, ⟨rfl, rfl, Nat.zero_le _⟩, ?_⟩
  rintro i acc M' ⟨rfl, rfl, hi⟩
  refine ⟨hC, fun hd => ?_, fun d ed => ?_⟩
  · rw [if_neg Bool.false_ne_true]
    rw [List.take_of_length_le hd]; exact q
  · have hlt : i < ds.length := (List.getElem?_eq_some_iff.mp ed).1
    have ht : ds.take (i + 1) = ds.take i ++ [d] := by rw [List.take_add_one, ed]; rfl
    refine step d (List.mem_of_getElem? ed) _ _ ?_
    split
    · rename_i e he
      refine ⟨?_, rfl, ?_, hlt⟩
      · have h1 : ((ds.take i).filterMap f).length ≤ (ds.take i).length := List.length_filterMap_le _ _
        have h2 : (ds.take i).length ≤ i := by rw [List.length_take]; omega
        omega
      · rw [ht, List.filterMap_append]
        simp [he]
    · rename_i he
      refine ⟨rfl, ?_, hlt⟩
      rw [ht, List.filterMap_append]
      simp [he]
/-! ### data that may be compared -/
mutual
def fine (n : Nat) : D → Bool
  | .non => true
  | .bl _ => true
  | .int _ => true
  | .str x => PyData.strOk x
  | .tup l => match n with
    | 0 => false
    | n + 1 => fineAll n l
  | .lst l => match n with
    | 0 => false
    | n + 1 => fineAll n l
  | _ => false
def fineAll (n : Nat) : List D → Bool
  | [] => true
  | d :: ds => fine n d && fineAll n ds
end
mutual
theorem fine_py : ∀ (n : Nat) (d : D), fine n d = true → ∃ p, toPy d = some p ∧ p.canLay0 = true ∧ p.depth ≤ n
  | n, .non, _ => ⟨.none, rfl, by simp only [PyData.canLay0], by simp only [PyData.depth]; omega⟩
  | n, .bl b, _ => ⟨.bool b, rfl, by simp only [PyData.canLay0], by simp only [PyData.depth]; omega⟩
  | n, .int i, _ => ⟨.int i, rfl, by simp only [PyData.canLay0], by simp only [PyData.depth]; omega⟩
  | n, .str x, h => ⟨.str x, rfl, by simpa only [PyData.canLay0, fine] using h, by simp only [PyData.depth]; omega⟩
  | 0, .tup l, h => by simp [fine] at h
  | n + 1, .tup l, h => by
    obtain ⟨ps, h1, h2, h3, _⟩ := fine_pyAll n l (by simpa only [fine] using h)
    exact ⟨.tuple ps, by simp only [toPy, h1], by simpa only [PyData.canLay0] using h2, by simp only [PyData.depth]; omega⟩
  | 0, .lst l, h => by simp [fine] at h
  | n + 1, .lst l, h => by
    obtain ⟨ps, h1, h2, h3, _⟩ := fine_pyAll n l (by simpa only [fine] using h)
    exact ⟨.list ps, by simp only [toPy, h1], by simpa only [PyData.canLay0] using h2, by simp only [PyData.depth]; omega⟩
  | n, .dct0, h => by simp [fine] at h
  | n, .scr _, h => by simp [fine] at h
  | n, .own _, h => by simp [fine] at h
  | n, .exc _ _, h => by simp [fine] at h
  | n, .glb _, h => by simp [fine] at h
  | n, .val _, h => by simp [fine] at h
theorem fine_pyAll : ∀ (n : Nat) (ds : List D), fineAll n ds = true → ∃ ps, toPyAll ds = some ps ∧ PyData.canLayAll0 ps = true ∧ PyData.depthAll ps ≤ n ∧ ps.length = ds.length
  | n, [], _ => ⟨[], rfl, by simp only [PyData.canLayAll0], by simp only [PyData.depthAll]; omega, rfl⟩
  | n, d :: ds, h => by
    have h' : fine n d = true ∧ fineAll n ds = true := by simpa only [fineAll, Bool.and_eq_true] using h
    obtain ⟨p, a1, a2, a3⟩ := fine_py n d h'.1
    obtain ⟨ps, b1, b2, b3, b4⟩ := fine_pyAll n ds h'.2
    exact ⟨p :: ps, by simp only [toPyAll, a1, b1], by simp only [PyData.canLayAll0, a2, b2, Bool.and_self], by simp only [PyData.depthAll]; omega, by rw [List.length_cons, List.length_cons, b4]⟩
end
theorem cmpd_fine {n : Nat} {d : D} (h : fine n d = true) (hn : n ≤ 64 := by decide) : ∃ p, toPy d = some p ∧ cmpd d = some p := by
  obtain ⟨p, h1, h2, h3⟩ := fine_py n d h
  refine ⟨p, h1, ?_⟩
  unfold cmpd
  rw [h1]
  have : SeqAt.shaped p = true := by unfold SeqAt.shaped; rw [h2]; simp; omega
  simp only [this, if_true]
theorem eqv_self {n : Nat} {d : D} {p : PyData} (h : fine n d = true) (hp : toPy d = some p) : PyData.eqv p p = true := by
  obtain ⟨p', h1, h2, _⟩ := fine_py n d h
  rw [hp] at h1; cases h1
  exact SeqAt.eqv_refl p h2
theorem eqB_self {n : Nat} {d : D} (h : fine n d = true) (hn : n ≤ 64 := by decide) : eqB d d = some true := by
  obtain ⟨p, h1, h2⟩ := cmpd_fine h hn
  unfold eqB
  split
  · simp_all
  · rw [h2]
    show some (PyData.eqv p p) = _
    rw [eqv_self h h1]
theorem gNe_strs {a b : Str} {M : Mem} {Q : DQ} : gNe (.str a) (.str b) M Q = Q (.bl (!(a == b))) M := rfl
theorem gEq_strs {a b : Str} {M : Mem} {Q : DQ} : gEq (.str a) (.str b) M Q = Q (.bl (a == b)) M := rfl
/-! ### data that may be shown -/
mutual
def lit (B : Nat) : D → Bool
  | .int i => decide (i.natAbs.log2 < B)
  | .tup l => litAll B l
  | .lst l => litAll B l
  | _ => true
def litAll (B : Nat) : List D → Bool
  | [] => true
  | d :: ds => lit B d && litAll B ds
end
mutual
def wt (B : Nat) : D → Nat
  | .int _ => B + 1
  | .str x => x.cps.size
  | .tup l => wtAll B l
  | .lst l => wtAll B l
  | _ => 0
def wtAll (B : Nat) : List D → Nat
  | [] => 0
  | d :: ds => wt B d + 1 + wtAll B ds
end
theorem strOk_short {x : Str} (h : PyData.strOk x = true) : ∀ c ∈ x.cps.toList, c < 16 ^ 8 := by
  have h0 : x.cps.all (· < 0x110000) = true := h
  intro c hc
  have h1 := (Array.all_eq_true_iff_forall_mem.mp h0) c (Array.mem_toList_iff.mp hc)
  have h2 : c < 0x110000 := by simpa using h1
  have e : (16 : Nat) ^ 8 = 4294967296 := by decide
  omega
mutual
theorem lit_py (B : Nat) (hB : B ≤ 1919) : ∀ (n : Nat) (d : D) (p : PyData), fine n d = true → lit B d = true → toPy d = some p → p.showable = true ∧ p.leavesShort (B + 8) = true ∧ p.weight ≤ wt B d
  | n, .non, p, _, _, e => by cases e; exact ⟨by simp only [PyData.showable], by simp only [PyData.leavesShort], by simp only [PyData.weight]; omega⟩
  | n, .bl b, p, _, _, e => by cases e; exact ⟨by simp only [PyData.showable], by simp only [PyData.leavesShort], by simp only [PyData.weight]; omega⟩
  | n, .int i, p, _, h, e => by
    cases e
    have h' : i.natAbs.log2 < B := by simpa only [lit, decide_eq_true_eq] using h
    refine ⟨?_, ?_, ?_⟩
    · simp only [PyData.showable, decide_eq_true_eq]; omega
    · simp only [PyData.leavesShort, decide_eq_true_eq]
      show (Str.ofString (toString i)).length ≤ _
      rw [PySem.ofString_length]
      have := int_text_length_le (a := i) (k := B) (by omega) h'
      omega
    · simp only [PyData.weight, wt]
      split <;> omega
  | n, .str x, p, hf, _, e => by
    cases e
    refine ⟨by simp only [PyData.showable], ?_, by simp only [PyData.weight, wt]; omega⟩
    simp only [PyData.leavesShort, List.all_eq_true, decide_eq_true_eq]
    exact strOk_short (by simpa only [fine] using hf)
  | 0, .tup l, p, h, _, _ => by simp [fine] at h
  | 0, .lst l, p, h, _, _ => by simp [fine] at h
  | n + 1, .tup l, p, h, h2, e => by
    obtain ⟨ps, e1, _⟩ := fine_pyAll n l (by simpa only [fine] using h)
    have e' : p = .tuple ps := by simp only [toPy, e1] at e; exact (Option.some.inj e).symm
    subst e'
    obtain ⟨a, b, c⟩ := lit_pyAll B hB n l ps (by simpa only [fine] using h) (by simpa only [lit] using h2) e1
    exact ⟨by simpa only [PyData.showable] using a, by simpa only [PyData.leavesShort] using b, by simpa only [PyData.weight, wt] using c⟩
  | n + 1, .lst l, p, h, h2, e => by
    obtain ⟨ps, e1, _⟩ := fine_pyAll n l (by simpa only [fine] using h)
    have e' : p = .list ps := by simp only [toPy, e1] at e; exact (Option.some.inj e).symm
    subst e'
    obtain ⟨a, b, c⟩ := lit_pyAll B hB n l ps (by simpa only [fine] using h) (by simpa only [lit] using h2) e1
    exact ⟨by simpa only [PyData.showable] using a, by simpa only [PyData.leavesShort] using b, by simpa only [PyData.weight, wt] using c⟩
  | n, .dct0, _, h, _, _ => by simp [fine] at h
  | n, .scr _, _, h, _, _ => by simp [fine] at h
  | n, .own _, _, h, _, _ => by simp [fine] at h
  | n, .exc _ _, _, h, _, _ => by simp [fine] at h
  | n, .glb _, _, h, _, _ => by simp [fine] at h
  | n, .val _, _, h, _, _ => by simp [fine] at h
theorem lit_pyAll (B : Nat) (hB : B ≤ 1919) : ∀ (n : Nat) (ds : List D) (ps : List PyData), fineAll n ds = true → litAll B ds = true → toPyAll ds = some ps → PyData.showableAll ps = true ∧ PyData.leavesShortAll (B + 8) ps = true ∧ PyData.weightAll ps ≤ wtAll B ds
  | n, [], ps, _, _, e => by cases e; exact ⟨by simp only [PyData.showableAll], by simp only [PyData.leavesShortAll], by simp only [PyData.weightAll]; omega⟩
  | n, d :: ds, ps, h, h2, e => by
    have h' : fine n d = true ∧ fineAll n ds = true := by simpa only [fineAll, Bool.and_eq_true] using h
    have h2' : lit B d = true ∧ litAll B ds = true := by simpa only [litAll, Bool.and_eq_true] using h2
    obtain ⟨p, a1, _, _⟩ := fine_py n d h'.1
    obtain ⟨qs, b1, _, _, _⟩ := fine_pyAll n ds h'.2
    have e' : ps = p :: qs := by simp only [toPyAll, a1, b1] at e; exact (Option.some.inj e).symm
    subst e'
    obtain ⟨c1, c2, c3⟩ := lit_py B hB n d p h'.1 h2'.1 a1
    obtain ⟨d1, d2, d3⟩ := lit_pyAll B hB n ds qs h'.2 h2'.2 b1
    refine ⟨by simp only [PyData.showableAll, c1, d1, Bool.and_self], by simp only [PyData.leavesShortAll, c2, d2, Bool.and_self], ?_⟩
    simp only [PyData.weightAll, wtAll]; omega
end
/-- d's repr is covered: ints of B bits, at most -/
theorem shw_of (B n : Nat) {d : D} (h : fine n d = true) (hl : lit B d = true) (hw : (B + 10) * wt B d + B + 8 ≤ 16777216) (hB : B ≤ 1919 := by decide) (hn : n ≤ 64 := by decide) : ∃ z, shwn d = some z := by
  obtain ⟨p, e1, e2, e3⟩ := fine_py n d h
  obtain ⟨a, b, c⟩ := lit_py B hB n d p h hl e1
  have h1 := PyData.shown_le (B + 8) (by omega) p b
  have h2 : (B + 8 + 2) * p.weight ≤ (B + 10) * wt B d := Nat.mul_le_mul (by omega) c
  refine ⟨p.shown, ?_⟩
  unfold shwn
  rw [e1]
  dsimp only
  rw [if_pos ⟨a, by omega, by rw [sizeLine_eq]; omega, PyData.hasDict_of_canLay p e2⟩]
/-! ### items by a written index -/
section
variable {α : Type}
theorem atI_of (n : Nat) {l : List α} (h : n < l.length) : atI l (n : Int) = l[n]? := by
  unfold atI ixN
  rw [if_pos (by omega), if_pos (by omega)]
  rfl
theorem atI_0 {a : α} {l : List α} : atI (a :: l) 0 = some a := atI_of 0 (by simp)
theorem atI_1 {a b : α} {l : List α} : atI (a :: b :: l) 1 = some b := atI_of 1 (by simp)
theorem atI_2 {a b c : α} {l : List α} : atI (a :: b :: c :: l) 2 = some c := atI_of 2 (by simp)
theorem atI_3 {a b c d : α} {l : List α} : atI (a :: b :: c :: d :: l) 3 = some d := atI_of 3 (by simp)
theorem atI_4 {a b c d e : α} {l : List α} : atI (a :: b :: c :: d :: e :: l) 4 = some e := atI_of 4 (by simp)
theorem atI_5 {a b c d e f : α} {l : List α} : atI (a :: b :: c :: d :: e :: f :: l) 5 = some f := atI_of 5 (by simp)
theorem ixN_30 : ixN 3 0 = some 0 := by decide
theorem ixN_31 : ixN 3 1 = some 1 := by decide
theorem ixN_32 : ixN 3 2 = some 2 := by decide
end
theorem rs_lst {M : Mem} {l : List D} : res M (.lst l) = .lst l := rfl
theorem rs_tup {M : Mem} {l : List D} : res M (.tup l) = .tup l := rfl
theorem rs_scr {M : Mem} {l : List Int} : res M (.scr l) = .scr l := rfl
theorem rs_int {M : Mem} {i : Int} : res M (.int i) = .int i := rfl
theorem intsD_map : ∀ ns : List Int, intsD (ns.map D.int) = some ns
  | [] => rfl
  | n :: ns => by rw [List.map_cons]; unfold intsD; rw [intsD_map ns]
theorem cut_map (ns : List Int) (lo hi : Option Int) : ∃ xs : List Int, cutD (ns.map D.int) lo hi = xs.map D.int := by
  unfold cutD
  rw [← List.map_drop, ← List.map_take]
  exact ⟨_, rfl⟩
end DL
/-! DLD: repr of data with empty dicts -/
namespace DL
open PySem PySem.Spec PyProof.Rows L2
mutual
/-- no list within -/
def nolst : D → Bool
  | .lst _ => false
  | .own _ => false
  | .tup l => nolstA l
  | _ => true
def nolstA : List D → Bool
  | [] => true
  | d :: ds => nolst d && nolstA ds
end
section
variable {X : Cx} {pins : List (Addr × Obj)} {s : Shared} {ph : Ph} {σ : St} {H : Hp}
mutual
theorem Rep.readsZ (I : Inv X pins σ H s) : ∀ (d : D) (v : V) (u : Value) (p : PyData), Rep X.K ph H v d → RelV v u → toPy d = some p → nolst d = true → ∃ as, Reads s.heap u p as ∧ sysModules ∉ as
  | .non, _, _, _, h, rv, e, _ => by cases h; cases rv; cases e; exact ⟨_, .none, by simp⟩
  | .bl _, _, _, _, h, rv, e, _ => by cases h; cases rv; cases e; exact ⟨_, .bool _, by simp⟩
  | .int _, _, _, _, h, rv, e, _ => by cases h; obtain ⟨t, rfl⟩ := rv; cases e; exact ⟨_, .int _ _, by simp⟩
  | .str _, _, _, _, h, rv, e, _ => by cases h; obtain ⟨t, rfl⟩ := rv; cases e; exact ⟨_, .str _ _, by simp⟩
  | .tup ds, _, _, _, h, rv, e, n => by
    cases h with
    | tup h1 h2 =>
      cases rv
      simp only [toPy] at e
      split at e
      · rename_i ps ep
        cases e
        obtain ⟨its, rx, ⟨o, ho, hc, n', hd⟩, _⟩ := I.tuple (h1.sq fun _ _ z => z)
        obtain ⟨as, q, qa⟩ := RepAll.readsZ I ds _ its ps h2 rx ep (by simpa only [nolst] using n)
        exact ⟨_, .tuple ho hc hd q, qa⟩
      · cases e
  | .lst ds, _, _, _, _, _, _, n => by simp [nolst] at n
  | .dct0, _, _, _, h, rv, e, _ => by
    cases h with
    | dct0 h1 =>
      cases rv
      cases e
      obtain ⟨_, hs, vs, hk, o, es, ep, ho, hx, hd, _, he, _⟩ := I.hok _ _ h1
      cases hk
      have e0 : es = #[] := by
        cases es with
        | mk l =>
          cases l with
          | nil => rfl
          | cons x l => exact nomatch he
      subst e0
      refine ⟨_, .dict ho hx.1 hd .nil .nil, fun ha => ?_⟩
      simp at ha
      rw [← ha] at hs
      exact absurd hs (by decide)
  | .scr ns, _, _, _, _, _, e, _ => by cases e
  | .own _, _, _, _, _, _, e, _ => by cases e
  | .exc _ _, _, _, _, _, _, e, _ => by cases e
  | .glb _, _, _, _, _, _, e, _ => by cases e
  | .val _, _, _, _, _, _, e, _ => by cases e
theorem RepAll.readsZ (I : Inv X pins σ H s) : ∀ (ds : List D) (vs : List V) (us : List Value) (ps : List PyData), RepAll X.K ph H vs ds → Vals vs us → toPyAll ds = some ps → nolstA ds = true → ∃ as, ReadsAll s.heap us ps as ∧ sysModules ∉ as
  | [], _, _, _, h, rv, e, _ => by cases h; cases rv; cases e; exact ⟨_, .nil, by simp⟩
  | d :: ds, _, _, _, h, rv, e, n => by
    have n' : nolst d = true ∧ nolstA ds = true := by simpa only [nolstA, Bool.and_eq_true] using n
    cases h with
    | cons h1 h2 =>
      cases rv with
      | cons r1 r2 =>
        simp only [toPyAll] at e
        split at e
        · rename_i p ps ep eps
          cases e
          obtain ⟨as, q1, a1⟩ := Rep.readsZ I d _ _ p h1 r1 ep n'.1
          obtain ⟨bs, q2, a2⟩ := RepAll.readsZ I ds _ _ ps h2 r2 eps n'.2
          refine ⟨_, .cons q1 q2, fun ha => ?_⟩
          rcases List.mem_append.mp ha with ha | ha
          · exact a1 ha
          · exact a2 ha
        · cases e
end
end
/-- dicts may stand within -/
def okZ : D → Bool
  | .lst l => nolstA l
  | d => nolst d
def shwnZ (d : D) : Option Str := match toPy d with
  | some p => if p.showable = true ∧ p.depth ≤ 64 ∧ p.shown.length ≤ sizeLine ∧ (p.hasDict = false ∨ okZ d = true) then some p.shown else none
  | none => none
def gReprZ : GA := fun ds M Q => match ds with
  | [d] => match shwnZ (resD M d) with
    | some z => Q (.str z) M
    | none => False
  | _ => False
section
variable {X : Cx}
theorem cd_reprZ (gd : X.A.guards = some []) (hu : X.A.units + 200 < cLine) : CallD X (.builtin "repr") gReprZ := by
  intro pins s σ H ph S r M vs us ds Q I hs rv q hg
  match ds, vs, us, rv, q, hg with
  | [d], [v], [u], .cons ru .nil, .cons q .nil, hg =>
    unfold gReprZ at hg
    dsimp only at hg
    split at hg
    · rename_i z ez
      unfold shwnZ at ez
      split at ez
      · rename_i p ep
        by_cases hp : p.showable = true ∧ p.depth ≤ 64 ∧ p.shown.length ≤ sizeLine ∧ (p.hasDict = false ∨ okZ (resD M d) = true)
        · rw [if_pos hp] at ez
          cases ez
          have qd := Rep.resD hs _ _ q
          have plain : ∀ as, Reads s.heap u p as → (p.hasDict = true → sysModules ∉ as) → wpAny (model X.prog X.w) X.A (call (.builtin "repr") [u]) (fun x s' => ∃ v H', Inv X pins σ H' s' ∧ RelV v x ∧ Aft X.K ph S r σ H' fun ph' S' M' => ∃ d', Rep X.K ph' S' v d' ∧ Q d' M') X.xe s := fun as h1 hn => by
            by_cases hr : ∃ a, u = .ref a
            · obtain ⟨a, rfl⟩ := hr
              refine PySem.repr_of_reads' h1 hp.1 hn gd ?_ (fun _ _ e => e) (fun h' u tk k => ⟨.str p.shown, H, I.kept k, ⟨_, rfl⟩, Aft.here hs ⟨_, .str _, hg⟩⟩) hp.2.2.1
              have := hp.2.1; omega
            · exact shown_flat h1 (fun a e => hr ⟨a, e⟩) hp.1 hp.2.2.1 fun tk tk' => ⟨.str p.shown, H, I.tok _, ⟨_, rfl⟩, Aft.here hs ⟨_, .str _, hg⟩⟩
          rcases hp.2.2.2 with h0 | h0
          · obtain ⟨as, h1, _⟩ := Rep.reads I _ _ _ _ qd ru ep
            exact plain as h1 fun z => by rw [h0] at z; cases z
          · by_cases hl : nolst (resD M d) = true
            · obtain ⟨as, h1, h2⟩ := Rep.readsZ I _ _ _ _ qd ru ep hl
              exact plain as h1 fun _ => h2
            · generalize resD M d = dd at *
              cases dd with
              | lst l =>
                cases qd with
                | lst g1 g2 =>
                  cases ru
                  simp only [toPy] at ep
                  split at ep
                  · rename_i ps eps
                    cases ep
                    obtain ⟨its, rx, ⟨o, n, ho, hc, _, hd⟩, _⟩ := I.list (SqL.of g1)
                    obtain ⟨as, q2, qa⟩ := RepAll.readsZ I l _ its ps g2 rx eps h0
                    refine repr_listZ ho hc hd q2 (by simpa only [PyData.showable] using hp.1) qa gd ?_ hp.2.2.1 fun h' u tk k => ⟨.str _, H, I.kept k, ⟨_, rfl⟩, Aft.here hs ⟨_, .str _, hg⟩⟩
                    have := hp.2.1
                    simp only [PyData.depth] at this
                    omega
                  · cases ep
              | _ => exact absurd h0 hl
        · rw [if_neg hp] at ez; cases ez
      · cases ez
    · exact hg.elim
end
theorem RepAll.repN {K : PySem.W.Frag} {ph : Ph} {S : Hp} {xs : List V} {ds : List D} (h : RepAll K ph S xs ds) : ∀ n : Nat, RepAll K ph S (List.replicate n xs).flatten (List.flatten (List.replicate n ds))
  | 0 => .nil
  | n + 1 => by
    rw [List.replicate_succ, List.replicate_succ, List.flatten_cons, List.flatten_cons]
    exact RepAll.app h (RepAll.repN h n)
/-- a list, n times -/
theorem opd_mulL {X : Cx} : OpD X (binaryOp .Mult) gMulL := by
  intro pins s σ H ph S r M x y dx dy v u Q I hs rx ry qx qy hg
  cases dx <;> first | exact hg.elim | skip
  cases dy <;> first | exact hg.elim | skip
  cases qy
  cases qx with
  | lst h1 h2 =>
    refine op_rep pins s σ H _ _ v u _ I rx ry ⟨_, _, _, rfl, rfl, hs.sub _ _ h1, hg.1.1, hg.1.2.1, by rw [h2.len]; exact hg.1.2.2, fun p hp => ?_⟩
    exact Aft.frz hs hp fun z => ⟨_, .lst upd_same ((h2.repN _).up z), hg.2⟩
theorem shwnZ_of {d : D} {z : Str} (h : shwn d = some z) : shwnZ d = some z := by
  unfold shwn at h
  unfold shwnZ
  split at h
  · rename_i p ep
    by_cases hp : p.showable = true ∧ p.depth ≤ 64 ∧ p.shown.length ≤ sizeLine ∧ p.hasDict = false
    · rw [if_pos hp] at h
      try rw [ep]
      try dsimp only
      rw [if_pos ⟨hp.1, hp.2.1, hp.2.2.1, .inl hp.2.2.2⟩]
      exact h
    · rw [if_neg hp] at h; cases h
  · cases h
end DL
namespace DL
open PySem PySem.Spec PyProof.Rows L2
end DL
/-! XE: a dict beside an int -/
namespace L2
open PySem PySem.Spec PyProof.Rows PyProof
open PySem.SeqAt PySem.AutoSeq1 PySem.Sem
end L2
/-! DLG: an empty dict beside an int -/
namespace DL
open PySem PySem.Spec PyProof.Rows L2
end DL
namespace DL
open PySem PySem.Spec PyProof.Rows L2
end DL
/-! DLK: the module's own tuples, starred items, len(set(..)) of ints -/
namespace DL
open PySem PySem.Spec PyProof.Rows L2
/-- the module's value at a is the data d -/
def KRep (K : PySem.W.Frag) (u : Value) (d : D) : Prop := ∃ v : V, RelV v u ∧ ∀ ph S, Rep K ph S v d
theorem KRep.int {K : PySem.W.Frag} {i : Int} {t : Tok} : KRep K (.int i t) (.int i) := ⟨.int i, ⟨t, rfl⟩, fun _ _ => .int _⟩
inductive KReps (K : PySem.W.Frag) : List Value → List D → Prop
  | nil : KReps K [] []
  | cons {u : Value} {us : List Value} {d : D} {ds : List D} : KRep K u d → KReps K us ds → KReps K (u :: us) (d :: ds)
theorem KRep.all {K : PySem.W.Frag} : ∀ {us : List Value} {ds : List D}, KReps K us ds → ∃ vs, Vals vs us ∧ ∀ ph S, RepAll K ph S vs ds
  | _, _, .nil => ⟨[], .nil, fun _ _ => .nil⟩
  | _, _, .cons ⟨v, r, q⟩ t => by
    obtain ⟨vs, rs, qs⟩ := KRep.all t
    exact ⟨v :: vs, .cons r rs, fun ph S => .cons (q ph S) (qs ph S)⟩
theorem KRep.tup {K : PySem.W.Frag} {a : Addr} {dd : Option Addr} {its : Array Value} {n : Nat} {sl : Array (Option Value)} {ds : List D} (l : K.lookup a = some ⟨.type "tuple", dd, .seq its n, sl⟩)
    (h : KReps K its.toList ds) (hz : its.size ≤ 100 := by decide) : KRep K (.ref a) (.tup ds) := by
  obtain ⟨vs, rs, qs⟩ := KRep.all h
  exact ⟨.ref a, rfl, fun ph S => .tup (.inr ⟨_, its, n, l, rfl, rfl, by rw [sizeLine_eq]; omega, rs⟩) (qs ph S)⟩
end DL
namespace DL
open PySem PySem.Spec PyProof.Rows L2
def errL_k01 : List Str := ["InvalidMeasure"]
def t_whole_root_x (c_check_measure_x : DSp) (c_root_floor_by : DSp) : DXE → DTS :=
 fun E => (dSeq (dDrop (dCallX 1 c_check_measure_x (fun E => (dCons (dVar 0) dNil)) E))
 (dRet (dCall 1 c_root_floor_by [] DX0 (dCons (dVar 0) dNil))))
def t_square_part_by (c_root_floor_by : DSp) : DTS :=
 (dSeq (dPar3 1 2 3 (dCons (dC (.int 1)) (dCons (dVar 0) (dCons (dC (.int 2)) dNil))))
 (dSeq (dWhile (dTru (dOp (gCmpI fun i j => decide (i ≤ j)) (dOp (rBin CMul fun i j => i * j) (dOp (rBin CMul fun i j => i * j) (dVar 3) (dVar 3)) (dVar 3)) (dVar 2))) (dSeq (dWhile (dTru (dOp gEq (dOp (rBin CMod fun i j => i.fmod j) (dVar 2) (dOp (rBin CMul fun i j => i * j) (dVar 3) (dVar 3))) (dC (.int 0)))) (dPar 1 2 (dCons (dOp (rBin CMul fun i j => i * j) (dVar 1) (dVar 3)) (dCons (dOp (rBin CDiv fun i j => i.fdiv j) (dVar 2) (dOp (rBin CMul fun i j => i * j) (dVar 3) (dVar 3))) dNil))))
 (dSeq (dIfS (dTru (dOp gEq (dOp (rBin CMod fun i j => i.fmod j) (dVar 2) (dVar 3)) (dC (.int 0)))) (dAsg (dOp (rBin CDiv fun i j => i.fdiv j) (dVar 2) (dVar 3)) (dName 2)) dNext)
 (dAsg (dOp gAdd (dVar 3) (dC (.int 1))) (dName 3)))))
 (dSeq (dAsg (dCall 1 c_root_floor_by [] DX0 (dCons (dVar 2) dNil)) (dName 4))
 (dRet (dIf (dTru (dOp gEq (dOp (rBin CMul fun i j => i * j) (dVar 4) (dVar 4)) (dVar 2))) (dOp (rBin CMul fun i j => i * j) (dVar 1) (dVar 4)) (dVar 1))))))
def t_factor_by (c_square_part_by : DSp) : DTS :=
 (dSeq (dAsg (dCall 1 c_square_part_by [] DX0 (dCons (dVar 0) dNil)) (dName 1))
 (dRet (dIf (dTru (dOp (gIn false) (dOp (rBin CMod fun i j => i.fmod j) (dOp (rBin CDiv fun i j => i.fdiv j) (dVar 0) (dOp (rBin CMul fun i j => i * j) (dVar 1) (dVar 1))) (dC (.int 4))) (dLst (dCons (dC (.int 0)) (dCons (dC (.int 1)) dNil))))) (dVar 1) (dOp (rBin CDiv fun i j => i.fdiv j) (dVar 1) (dC (.int 2))))))
def t_factor_x (c_check_measure_x : DSp) (c_factor_by : DSp) : DXE → DTS :=
 fun E => (dSeq (dDrop (dCallX 1 c_check_measure_x (fun E => (dCons (dVar 0) dNil)) E))
 (dRet (dCall 1 c_factor_by [] DX0 (dCons (dVar 0) dNil))))
def t_l_factor_b928 (c_l_root_d754 : DSp) : DTS :=
 (dSeq (dAsg (dLc false (dRngI gRng2 (dCons (dC (.int 1)) (dCons (dOp gAdd (dCall 1 c_l_root_d754 [] DX0 (dCons (dVar 0) dNil)) (dC (.int 1))) dNil))) (dName 2) (dAnd (dTru (dOp gEq (dOp (rBin CMod fun i j => i.fmod j) (dCB gInt (dCons (dVar 0) dNil)) (dOp (rBin CMul fun i j => i * j) (dVar 2) (dVar 2))) (dC (.int 0)))) (dTru (dOp (gCmpI fun i j => decide (i < j)) (dOp (rBin CMod fun i j => i.fmod j) (dCB gInt (dCons (dOp (rBin CDiv fun i j => i.fdiv j) (dVar 0) (dOp (rBin CMul fun i j => i * j) (dVar 2) (dVar 2))) dNil)) (dC (.int 4))) (dC (.int 2))))) (dVar 2) [2]) (dName 1))
 (dRet (dOp gIx (dVar 1) (dOp (rBin (fun _ _ => True) fun i j => i - j) (dCB gLen (dCons (dVar 1) dNil)) (dC (.int 1))))))
def t_l_right_7f71 (c_l_measure_0db7 : DSp) (c_whole_root : DSp) (c_is_measure : DSp) (c_l_random_7821 : DSp) (c_factor : DSp) (c_l_factor_b928 : DSp) : DTS :=
 (dSeq (dFor (dRngI gRng1 (dCons (dC (.int 4)) dNil)) (dName 1) (dSeq (dAsg (dCall 2 c_l_measure_0db7 [] DX0 (dCons (dVar 0) (dCons (dC (.int 28)) dNil))) (dName 2))
 (dSeq (dAsg (dCall 1 c_whole_root [] DX0 (dCons (dVar 2) dNil)) (dName 3))
 (dSeq (dIfS (dOr (dNot (dTru (dChain (gCmpI fun i j => decide (i ≤ j)) (gCmpI fun i j => decide (i < j)) (dOp (rBin CMul fun i j => i * j) (dVar 3) (dVar 3)) (dVar 2) (dOp (rBin CMul fun i j => i * j) (dOp gAdd (dVar 3) (dC (.int 1))) (dOp gAdd (dVar 3) (dC (.int 1))))))) (dOr (dTru (dCB gIsi (dCons (dVar 3) (dCons (dC (.val (.ty "bool"))) dNil)))) (dOr (dTru (dOp (gIs true) (dCall 1 c_is_measure [] DX0 (dCons (dVar 2) dNil)) (dC (.bl true)))) (dTru (dOp gNe (dCallK 1 1 c_whole_root [0] DX0 (dCons (dVar 2) dNil)) (dVar 3)))))) (dRet (dC (.bl false))) dNext)
 (dSeq (dFor (dRngI gRng1 (dCons (dC (.int 4)) dNil)) (dName 4) (dIfS (dTru (dOp gNe (dCB gReprZ (dCons (dCall 1 c_is_measure [] DX0 (dCons (dOp gAdd (dVar 2) (dVar 4)) dNil)) dNil)) (dCB gReprZ (dCons (dOp (gCmpI fun i j => decide (i < j)) (dOp (rBin CMod fun i j => i.fmod j) (dCB gInt (dCons (dOp gAdd (dVar 2) (dVar 4)) dNil)) (dC (.int 4))) (dC (.int 2))) dNil)))) (dRet (dC (.bl false))) dNext))
 (dSeq (dAsg (dOp gAdd (dC (.int 5)) (dCall 2 c_l_random_7821 [] DX0 (dCons (dVar 0) (dCons (dC (.int 2000)) dNil)))) (dName 5))
 (dSeq (dAsg (dOp gAdd (dOp (rBin (fun _ _ => True) fun i j => i - j) (dVar 5) (dOp (rBin CMod fun i j => i.fmod j) (dCB gInt (dCons (dVar 5) dNil)) (dC (.int 4)))) (dCall 2 c_l_random_7821 [] DX0 (dCons (dVar 0) (dCons (dC (.int 2)) dNil)))) (dName 5))
 (dSeq (dIfS (dAnd (dTru (dOp (gCmpI fun i j => decide (j < i)) (dVar 5) (dC (.int 4)))) (dOr (dTru (dOp gNe (dCB gReprZ (dCons (dCall 1 c_factor [] DX0 (dCons (dVar 5) dNil)) dNil)) (dCB gReprZ (dCons (dCall 1 c_l_factor_b928 [] DX0 (dCons (dVar 5) dNil)) dNil)))) (dTru (dOp gNe (dCallK 1 1 c_factor [0] DX0 (dCons (dVar 5) dNil)) (dCall 1 c_factor [] DX0 (dCons (dVar 5) dNil)))))) (dRet (dC (.bl false))) dNext)
 (dSeq (dPar 6 7 (dCons (dOp gAdd (dC (.int 1)) (dCall 2 c_l_random_7821 [] DX0 (dCons (dVar 0) (dCons (dC (.int 100000)) dNil)))) (dCons (dOp gIx (dLst (dCons (dC (.int 5)) (dCons (dC (.int 8)) (dCons (dC (.int 12)) (dCons (dC (.int 13)) (dCons (dC (.int 17)) (dCons (dC (.int 21)) (dCons (dC (.int 24)) (dCons (dC (.int 28)) (dCons (dC (.int 29)) (dCons (dC (.int 33)) dNil))))))))))) (dCall 2 c_l_random_7821 [] DX0 (dCons (dVar 0) (dCons (dC (.int 10)) dNil)))) dNil)))
 (dSeq (dIfS (dOr (dTru (dOp gNe (dCall 1 c_factor [] DX0 (dCons (dOp (rBin CMul fun i j => i * j) (dOp (rBin CMul fun i j => i * j) (dVar 6) (dVar 6)) (dVar 7)) dNil)) (dVar 6))) (dTru (dOp gNe (dCall 1 c_factor [] DX0 (dCons (dOp (rBin CMul fun i j => i * j) (dOp gAdd (dVar 6) (dC (.int 2))) (dOp gAdd (dVar 6) (dC (.int 2)))) dNil)) (dOp gAdd (dVar 6) (dC (.int 2)))))) (dRet (dC (.bl false))) dNext)
 (dSeq (dPar 8 9 (dCons (dOp gAdd (dC (.int 1)) (dOp (rBin CMod fun i j => i.fmod j) (dCB gInt (dCons (dVar 6) dNil)) (dC (.int 22000)))) (dCons (dOp (rBin (fun _ _ => True) fun i j => i - j) (dOp (rBin CPow fun i j => i ^ j.toNat) (dC (.int 10)) (dC (.int 6))) (dVar 6)) dNil)))
 (dSeq (dIfS (dAnd (dTru (dOp gEq (dVar 1) (dC (.int 0)))) (dAnd (dTru (dOp (gCmpI fun i j => decide (j < i)) (dVar 5) (dC (.int 4)))) (dOr (dTru (dOp gNe (dCall 1 c_factor [] DX0 (dCons (dOp (rBin CMul fun i j => i * j) (dOp (rBin CMul fun i j => i * j) (dVar 8) (dVar 8)) (dVar 5)) dNil)) (dOp (rBin CMul fun i j => i * j) (dVar 8) (dCall 1 c_l_factor_b928 [] DX0 (dCons (dVar 5) dNil))))) (dTru (dOp gNe (dCall 1 c_factor [] DX0 (dCons (dOp (rBin CMul fun i j => i * j) (dVar 9) (dVar 9)) dNil)) (dVar 9)))))) (dRet (dC (.bl false))) dNext)
 (dSeq (dAsg (dCall 2 c_l_measure_0db7 [] DX0 (dCons (dVar 0) (dCons (dC (.int 11)) dNil))) (dName 10))
 (dSeq (dAsg (dCall 1 c_factor [] DX0 (dCons (dVar 10) dNil)) (dName 11))
 (dSeq (dIfS (dOr (dTru (dCB gIsi (dCons (dVar 11) (dCons (dC (.val (.ty "bool"))) dNil)))) (dOr (dNot (dTru (dCB gIsi (dCons (dVar 11) (dCons (dC (.val (.ty "int"))) dNil))))) (dTru (dOp (gCmpI fun i j => decide (i < j)) (dVar 11) (dC (.int 1)))))) (dRet (dC (.bl false))) dNext)
 (dSeq (dAsg (dOp (rBin CDiv fun i j => i.fdiv j) (dVar 10) (dOp (rBin CMul fun i j => i * j) (dVar 11) (dVar 11))) (dName 12))
 (dIfS (dOr (dTru (dOp gNe (dOp (rBin CMod fun i j => i.fmod j) (dCB gInt (dCons (dVar 10) dNil)) (dOp (rBin CMul fun i j => i * j) (dVar 11) (dVar 11))) (dC (.int 0)))) (dOr (dTru (dOp (gCmpI fun i j => decide (j < i)) (dOp (rBin CMod fun i j => i.fmod j) (dCB gInt (dCons (dVar 12) dNil)) (dC (.int 4))) (dC (.int 1)))) (dTru (dOp gNe (dLc false (dRngI gRng2 (dCons (dC (.int 2)) (dCons (dC (.int 1000)) dNil))) (dName 13) (dAnd (dTru (dOp gEq (dOp (rBin CMod fun i j => i.fmod j) (dCB gInt (dCons (dVar 12) dNil)) (dOp (rBin CMul fun i j => i * j) (dVar 13) (dVar 13))) (dC (.int 0)))) (dTru (dOp (gCmpI fun i j => decide (i < j)) (dOp (rBin CMod fun i j => i.fmod j) (dCB gInt (dCons (dOp (rBin CDiv fun i j => i.fdiv j) (dVar 12) (dOp (rBin CMul fun i j => i * j) (dVar 13) (dVar 13))) dNil)) (dC (.int 4))) (dC (.int 2))))) (dVar 13) [13]) (dLst dNil))))) (dRet (dC (.bl false))) dNext)))))))))))))))))
 (dRet (dC (.bl true))))
def t_l_told_59a8 (c_whole_root_x : DSp) (c_factor_x : DSp) : DTS :=
 (dSeq (dAsg (dC .non) (dName 2))
 (dSeq (dTry "SheetError" 3 (fun E => (dDrop (dCallV [("whole_root", 1, c_whole_root_x), ("factor", 1, c_factor_x)] (dOp gIx (dLst (dCons (dC (.glb "whole_root")) (dCons (dC (.glb "factor")) dNil))) (dVar 0)) (fun E => (dCons (dVar 1) dNil)) E))) (dAsg (dVar 3) (dName 2)))
 (dSeq (dIfS (dTru (dOp (gIs false) (dVar 2) (dC .non))) (dRet (dLst (dCons (dC (.str (PySem.Str.ofString "let"))) dNil))) dNext)
 (dRet (dLst (dCons (dAndV (dCB (gIsx errL_k01) (dCons (dVar 2) (dCons (dC (.glb "InvalidMeasure")) dNil))) (dCB (gIsx errL_k01) (dCons (dVar 2) (dCons (dC (.val (.ty "ValueError"))) dNil)))) (dCons (dFld (dVar 2)) dNil)))))))
def t_l_law_0a00 (c_l_generator_b324 : DSp) (c_l_right_7f71 : DSp) (c_is_measure : DSp) (c_l_told_59a8 : DSp) (c_factor : DSp) (c_whole_root : DSp) : DTS :=
 (dSeq (dAsg (dCall 2 c_l_generator_b324 [] DX0 (dCons (dVar 0) (dCons (dC (.int 0)) dNil))) (dName 1))
 (dSeq (dIfS (dNot (dTru (dCall 1 c_l_right_7f71 [] DX0 (dCons (dVar 1) dNil)))) (dRet (dC (.bl false))) dNext)
 (dSeq (dFor (dSeqI (dLst (dCons (dC .non) (dCons (dC (.int 0)) (dCons (dC (.int 1)) (dCons (dC (.int 4)) (dCons (dC (.int 6)) (dCons (dC (.int 7)) (dCons (dNeg (dC (.int 4))) (dCons (dNeg (dC (.int 3))) (dCons (dC (.bl true)) (dCons (dC (.bl false)) (dCons (dC (.str (PySem.Str.ofString "5"))) (dCons (dLst (dCons (dC (.int 5)) dNil)) (dCons (dTup (dCons (dC (.int 5)) dNil)) (dCons (dC .dct0) (dCons (dOp gAdd (dOp (rBin CPow fun i j => i ^ j.toNat) (dC (.int 10)) (dC (.int 29))) (dC (.int 2))) dNil))))))))))))))))) (dName 2) (dSeq (dIfS (dOr (dTru (dOp (gIs true) (dCall 1 c_is_measure [] DX0 (dCons (dVar 2) dNil)) (dC (.bl false)))) (dTru (dOp (gIs true) (dCallK 1 1 c_is_measure [0] DX0 (dCons (dVar 2) dNil)) (dC (.bl false))))) (dRet (dC (.bl false))) dNext)
 (dIfS (dTru (dOp gNeD (dLc false (dRngI gRng1 (dCons (dC (.int 2)) dNil)) (dName 3) dYes (dCB gReprZ (dCons (dCall 2 c_l_told_59a8 [] DX0 (dCons (dVar 3) (dCons (dVar 2) dNil))) dNil)) [3]) (dOp gMulL (dLst (dCons (dCB gReprZ (dCons (dLst (dCons (dC (.bl true)) (dCons (dVar 2) dNil))) dNil)) dNil)) (dC (.int 2))))) (dRet (dC (.bl false))) dNext)))
 (dSeq (dAsg (dOwn (dCons (dC (.int 5)) dNil)) (dName 4))
 (dSeq (dAsg (dLc false (dRngI gRng1 (dCons (dC (.int 2)) dNil)) (dName 3) dYes (dCall 2 c_l_told_59a8 [] DX0 (dCons (dVar 3) (dCons (dVar 4) dNil))) [3]) (dName 5))
 (dSeq (dDrop (dMet gAppend (dVar 4) (dCons (dC (.int 7)) dNil)))
 (dSeq (dIfS (dOr (dTru (dOp gNeD (dLc false (dSeqI (dVar 5)) (dName 6) dYes (dOp gIx (dVar 6) (dC (.int 1))) [6]) (dOp gMulL (dLst (dCons (dLst (dCons (dC (.int 5)) (dCons (dC (.int 7)) dNil))) dNil)) (dC (.int 2))))) (dTru (dOp gNeD (dCall 1 c_factor [] DX0 (dCons (dC (.int 999999000001)) dNil)) (dC (.int 1))))) (dRet (dC (.bl false))) dNext)
 (dRet (dAndV (dOp gEqD (dLc false (dSeqI (dLst (dCons (dC (.int 5)) (dCons (dC (.int 8)) (dCons (dC (.int 12)) (dCons (dC (.int 16)) (dCons (dC (.int 20)) (dCons (dC (.int 45)) (dCons (dC (.int 36)) (dCons (dC (.int 9)) (dCons (dC (.int 72)) dNil))))))))))) (dName 7) dYes (dCall 1 c_factor [] DX0 (dCons (dVar 7) dNil)) [7]) (dLst (dCons (dC (.int 1)) (dCons (dC (.int 1)) (dCons (dC (.int 1)) (dCons (dC (.int 4)) (dCons (dC (.int 2)) (dCons (dC (.int 3)) (dCons (dC (.int 6)) (dCons (dC (.int 3)) (dCons (dC (.int 3)) dNil))))))))))) (dOp gEqD (dCall 1 c_whole_root [] DX0 (dCons (dC (.int 5)) dNil)) (dC (.int 2))))))))))))
end DL
namespace C_k01
open PySem PySem.Spec PyProof.Rows L2 DL
def topS (i : Nat) : Stmt := PySem.Challenge.pw_slitsheets_k01_whole_measures_and_factor.main.body.getD i (.Pass ⟨0, 0, 0, 0⟩)
abbrev s_l_cell_cf3b : Stmt := topS 18
theorem sc_l_cell_cf3b : FnScope ["_law_script", "_law_index"] ["_law_script", "_law_index"] (defScope s_l_cell_cf3b) := ⟨rfl, rfl, rfl, by decide +kernel, rfl, by decide +kernel, by decide +kernel⟩
abbrev s_l_generator_b324 : Stmt := topS 19
theorem sc_l_generator_b324 : FnScope ["_law_script", "_law_index", "_law_seed"] ["_law_script", "_law_index"] (defScope s_l_generator_b324) := ⟨rfl, rfl, rfl, by decide +kernel, rfl, by decide +kernel, by decide +kernel⟩
abbrev s_l_hash_9cde : Stmt := topS 16
theorem sc_l_hash_9cde : FnScope ["_law_seed", "_law_index", "_law_mixed"] ["_law_seed", "_law_index"] (defScope s_l_hash_9cde) := ⟨rfl, rfl, rfl, by decide +kernel, rfl, by decide +kernel, by decide +kernel⟩
abbrev s_l_random_7821 : Stmt := topS 17
theorem sc_l_random_7821 : FnScope ["_law_generator_here", "_law_bound", "_law_drawn", "_law_turn"] ["_law_generator_here", "_law_bound"] (defScope s_l_random_7821) := ⟨rfl, rfl, rfl, by decide +kernel, rfl, by decide +kernel, by decide +kernel⟩
abbrev s_l_root_d754 : Stmt := topS 20
theorem sc_l_root_d754 : FnScope ["_law_number", "_law_low", "_law_high", "_law_middle"] ["_law_number"] (defScope s_l_root_d754) := ⟨rfl, rfl, rfl, by decide +kernel, rfl, by decide +kernel, by decide +kernel⟩
abbrev s_l_measure_0db7 : Stmt := topS 21
theorem sc_l_measure_0db7 : FnScope ["_law_generator_here", "_law_figures", "_law_bound", "_law_turn", "_law_number", "_law_found"] ["_law_generator_here", "_law_figures"] (defScope s_l_measure_0db7) := ⟨rfl, rfl, rfl, by decide +kernel, rfl, by decide +kernel, by decide +kernel⟩
abbrev s_is_whole : Stmt := topS 5
theorem sc_is_whole : FnScope ["value"] ["value"] (defScope s_is_whole) := ⟨rfl, rfl, rfl, by decide +kernel, rfl, by decide +kernel, by decide +kernel⟩
abbrev s_is_between : Stmt := topS 6
theorem sc_is_between : FnScope ["value", "low", "high"] ["value", "low", "high"] (defScope s_is_between) := ⟨rfl, rfl, rfl, by decide +kernel, rfl, by decide +kernel, by decide +kernel⟩
abbrev s_is_measure_by : Stmt := topS 7
theorem sc_is_measure_by : FnScope ["value"] ["value"] (defScope s_is_measure_by) := ⟨rfl, rfl, rfl, by decide +kernel, rfl, by decide +kernel, by decide +kernel⟩
abbrev s_check_measure_x : Stmt := topS 8
theorem sc_check_measure_x : FnScope ["measure"] ["measure"] (defScope s_check_measure_x) := ⟨rfl, rfl, rfl, by decide +kernel, rfl, by decide +kernel, by decide +kernel⟩
abbrev s_root_floor_by : Stmt := topS 9
theorem sc_root_floor_by : FnScope ["number", "found", "again"] ["number"] (defScope s_root_floor_by) := ⟨rfl, rfl, rfl, by decide +kernel, rfl, by decide +kernel, by decide +kernel⟩
abbrev s_whole_root_x : Stmt := topS 13
theorem sc_whole_root_x : FnScope ["measure"] ["measure"] (defScope s_whole_root_x) := ⟨rfl, rfl, rfl, by decide +kernel, rfl, by decide +kernel, by decide +kernel⟩
abbrev s_is_measure : Stmt := topS 12
theorem sc_is_measure : FnScope ["value"] ["value"] (defScope s_is_measure) := ⟨rfl, rfl, rfl, by decide +kernel, rfl, by decide +kernel, by decide +kernel⟩
abbrev s_square_part_by : Stmt := topS 10
theorem sc_square_part_by : FnScope ["number", "found", "left", "low", "root"] ["number"] (defScope s_square_part_by) := ⟨rfl, rfl, rfl, by decide +kernel, rfl, by decide +kernel, by decide +kernel⟩
abbrev s_factor_by : Stmt := topS 11
theorem sc_factor_by : FnScope ["measure", "found"] ["measure"] (defScope s_factor_by) := ⟨rfl, rfl, rfl, by decide +kernel, rfl, by decide +kernel, by decide +kernel⟩
abbrev s_factor_x : Stmt := topS 14
theorem sc_factor_x : FnScope ["measure"] ["measure"] (defScope s_factor_x) := ⟨rfl, rfl, rfl, by decide +kernel, rfl, by decide +kernel, by decide +kernel⟩
abbrev s_l_factor_b928 : Stmt := topS 22
theorem sc_l_factor_b928 : FnScope ["_law_measure_here", "_law_found", "_law_f"] ["_law_measure_here"] (defScope s_l_factor_b928) := ⟨rfl, rfl, rfl, by decide +kernel, rfl, by decide +kernel, by decide +kernel⟩
abbrev s_l_right_7f71 : Stmt := topS 24
theorem sc_l_right_7f71 : FnScope ["_law_generator_here", "_law_turn", "_law_measure_here", "_law_root_here", "_law_more", "_law_small", "_law_put", "_law_rest", "_law_many", "_law_great", "_law_wide", "_law_told_here", "_law_left", "_law_g"] ["_law_generator_here"] (defScope s_l_right_7f71) := ⟨rfl, rfl, rfl, by decide +kernel, rfl, by decide +kernel, by decide +kernel⟩
abbrev s_l_told_59a8 : Stmt := topS 23
theorem sc_l_told_59a8 : FnScope ["_law_door", "_law_value", "_law_error", "caught"] ["_law_door", "_law_value"] (defScope s_l_told_59a8) := ⟨rfl, rfl, rfl, by decide +kernel, rfl, by decide +kernel, by decide +kernel⟩
abbrev s_l_law_0a00 : Stmt := topS 25
theorem sc_l_law_0a00 : FnScope ["_law_script", "_law_generator_here", "_law_odd", "_law_door", "_law_bad", "_law_told_here", "_law_item", "_law_measure_here"] ["_law_script"] (defScope s_l_law_0a00) := ⟨rfl, rfl, rfl, by decide +kernel, rfl, by decide +kernel, by decide +kernel⟩
abbrev k_InvalidMeasure : Stmt := XA.initOf (topS 2)
theorem it_InvalidMeasure : XA.InitTxt (defArgs k_InvalidMeasure) (defBody k_InvalidMeasure) (defScope k_InvalidMeasure) := ⟨⟨_, _, _, rfl⟩, ⟨_, _, _, _, _, _, _, _, _, rfl, ⟨_, fun _ => rfl⟩, fun _ => rfl⟩, rfl⟩
/-- what the top has left -/
structure Txt (P : Program) (K : PySem.W.Frag) (mg : Str → Option Value) (base : Heap) : Prop where
  s_SheetError : ∃ S, XA.ShC K S ∧ mg "SheetError" = some (.ref S)
  e_InvalidMeasure : ∃ C S fI, XA.ErM P K mg "InvalidMeasure" C S fI
  v_factor : ∃ a, PySem.W.nsIn K mainGlobals "factor" = some (some (.ref a)) ∧ mg "factor" = some (.ref a)
  v_whole_root : ∃ a, PySem.W.nsIn K mainGlobals "whole_root" = some (some (.ref a)) ∧ mg "whole_root" = some (.ref a)
  n_ValueError : mg "ValueError" = none
  n_bool : mg "bool" = none
  n_int : mg "int" = none
  n_isinstance : mg "isinstance" = none
  n_len : mg "len" = none
  n_max : mg "max" = none
  n_range : mg "range" = none
  n_repr : mg "repr" = none
  n_sum : mg "sum" = none
  c_LEAST : ∃ t, mg "LEAST" = some (.int 5 t)
  h_l_cell_cf3b : Here K mg "_law_cell" s_l_cell_cf3b ["_law_script", "_law_index"]
  h_l_generator_b324 : Here K mg "_law_generator" s_l_generator_b324 ["_law_script", "_law_index"]
  h_l_hash_9cde : Here K mg "_law_hash" s_l_hash_9cde ["_law_seed", "_law_index"]
  h_l_random_7821 : Here K mg "_law_random" s_l_random_7821 ["_law_generator_here", "_law_bound"]
  h_l_root_d754 : Here K mg "_law_root" s_l_root_d754 ["_law_number"]
  h_l_measure_0db7 : Here K mg "_law_measure" s_l_measure_0db7 ["_law_generator_here", "_law_figures"]
  h_is_whole : Here K mg "is_whole" s_is_whole ["value"]
  h_is_between : Here K mg "is_between" s_is_between ["value", "low", "high"]
  h_is_measure_by : Here K mg "is_measure_by" s_is_measure_by ["value"]
  h_check_measure_x : Here K mg "check_measure" s_check_measure_x ["measure"]
  h_root_floor_by : Here K mg "root_floor_by" s_root_floor_by ["number"]
  h_whole_root_x : Here K mg "whole_root" s_whole_root_x ["measure"]
  h_is_measure : Here K mg "is_measure" s_is_measure ["value"]
  h_square_part_by : Here K mg "square_part_by" s_square_part_by ["number"]
  h_factor_by : Here K mg "factor_by" s_factor_by ["measure"]
  h_factor_x : Here K mg "factor" s_factor_x ["measure"]
  h_l_factor_b928 : Here K mg "_law_factor" s_l_factor_b928 ["_law_measure_here"]
  h_l_right_7f71 : Here K mg "_law_right" s_l_right_7f71 ["_law_generator_here"]
  h_l_told_59a8 : Here K mg "_law_told" s_l_told_59a8 ["_law_door", "_law_value"]
  h_l_law_0a00 : Here K mg "law" s_l_law_0a00 ["_law_script"]
theorem Txt.isE {P : Program} {K : PySem.W.Frag} {mg : Str → Option Value} {base : Heap} (T : Txt P K mg base) : ∀ y ∈ errL_k01, ∃ C, XA.AnyC K y C := fun y hy => by
  simp only [errL_k01, List.mem_cons, List.not_mem_nil, or_false] at hy
  rcases hy with rfl
  · obtain ⟨C, S, fI, h⟩ := T.e_InvalidMeasure; exact ⟨C, .inl ⟨S, h.er⟩⟩
section
variable {P : Program} {w : World} {K : PySem.W.Frag} {mg : Str → Option Value} {base : Heap}
theorem ok_l_cell_cf3b {sp : DSp} (T : Txt P K mg base) (hread : ∀ ds M Q, ds.length = 2 → sp ds M Q DX0 → t_l_cell_cf3b (dEnds M Q) (startD 2 ds) M) (hX : ∀ ds M Q E, sp ds M Q E → sp ds M Q DX0 := by exact fun _ _ _ _ h => h) : Def P w K mg base CX0 1 "_law_cell" s_l_cell_cf3b ["_law_script", "_law_index"] sp :=
 T.h_l_cell_cf3b.ok (t := t_l_cell_cf3b) sc_l_cell_cf3b (fun f cdv A outer s H E hr gd => (dss_cons (ds_if (dt_cmp opd_lt (dv 1) (de_blt cd_len T.n_len (da_cons (dv 0) da_nil)) (nomark _)) (dss_one (ds_ret (de_ix (dv 0) (dv 1)))) dss_nil)
 (dss_one (ds_ret (de_op opd_mod (de_blt (cd_sum rfl) T.n_sum (da_cons (de_slL false (dv 0) do_none (do_some de_int)) da_nil)) de_int))))) hread hX
theorem ok_l_generator_b324 {c_l_cell_cf3b : DSp} {sp : DSp} (T : Txt P K mg base) (D_l_cell_cf3b : Def P w K mg base CX0 1 "_law_cell" s_l_cell_cf3b ["_law_script", "_law_index"] c_l_cell_cf3b) (hread : ∀ ds M Q, ds.length = 2 → sp ds M Q DX0 → t_l_generator_b324 c_l_cell_cf3b (dEnds M Q) (startD 3 ds) M) (hX : ∀ ds M Q E, sp ds M Q E → sp ds M Q DX0 := by exact fun _ _ _ _ h => h) : Def P w K mg base CX0 2 "_law_generator" s_l_generator_b324 ["_law_script", "_law_index"] sp :=
 T.h_l_generator_b324.ok (t := t_l_generator_b324 c_l_cell_cf3b) sc_l_generator_b324 (fun f cdv A outer s H E hr gd => (dss_cons (ds_set (i := 2) sc_l_generator_b324.nd (dcall D_l_cell_cf3b hr gd (da_cons (dv 0) (da_cons (dv 1) da_nil))))
 (dss_one (ds_ret (de_own (da_cons (de_op opd_mod (de_ty cd_int T.n_int (da_cons (de_blt (cd_max rfl) T.n_max (da_cons (de_op opd_sub (dv 2) (de_op opd_pow de_int de_int)) (da_cons de_int da_nil))) da_nil)) (de_op opd_pow (de_op opd_pow de_int de_int) de_int)) (da_cons (de_op opd_mod (de_ty cd_int T.n_int (da_cons (dv 2) da_nil)) de_int) (da_cons (de_op opd_mulI de_int (dv 1)) da_nil)))))))) hread hX
theorem ok_l_hash_9cde {sp : DSp} (T : Txt P K mg base) (hread : ∀ ds M Q, ds.length = 2 → sp ds M Q DX0 → t_l_hash_9cde (dEnds M Q) (startD 3 ds) M) (hX : ∀ ds M Q E, sp ds M Q E → sp ds M Q DX0 := by exact fun _ _ _ _ h => h) : Def P w K mg base CX0 1 "_law_hash" s_l_hash_9cde ["_law_seed", "_law_index"] sp :=
 T.h_l_hash_9cde.ok (t := t_l_hash_9cde) sc_l_hash_9cde (fun f cdv A outer s H E hr gd => (dss_cons (ds_set (i := 2) sc_l_hash_9cde.nd (de_op opd_mod (de_ty cd_int T.n_int (da_cons (de_op opd_add (de_op opd_add (de_op opd_add (de_op opd_mulI (dv 0) de_int) (de_op opd_mulI (de_op opd_mulI de_int (dv 1)) (dv 1))) (de_op opd_mulI de_int (dv 1))) de_int) da_nil)) de_int))
 (dss_cons (ds_set (i := 2) sc_l_hash_9cde.nd (de_op opd_mod (de_ty cd_int T.n_int (da_cons (de_op opd_add (de_op opd_add (de_op opd_mulI (dv 2) (dv 2)) (de_op opd_mulI de_int (dv 1))) de_int) da_nil)) de_int))
 (dss_one (ds_ret (de_op opd_mod (de_ty cd_int T.n_int (da_cons (de_op opd_mulI (dv 2) de_int) da_nil)) de_int)))))) hread hX
theorem ok_l_random_7821 {c_l_hash_9cde : DSp} {sp : DSp} (T : Txt P K mg base) (D_l_hash_9cde : Def P w K mg base CX0 1 "_law_hash" s_l_hash_9cde ["_law_seed", "_law_index"] c_l_hash_9cde) (hread : ∀ ds M Q, ds.length = 2 → sp ds M Q DX0 → t_l_random_7821 c_l_hash_9cde (dEnds M Q) (startD 4 ds) M) (hX : ∀ ds M Q E, sp ds M Q E → sp ds M Q DX0 := by exact fun _ _ _ _ h => h) : Def P w K mg base CX0 2 "_law_random" s_l_random_7821 ["_law_generator_here", "_law_bound"] sp :=
 T.h_l_random_7821.ok (t := t_l_random_7821 c_l_hash_9cde) sc_l_random_7821 (fun f cdv A outer s H E hr gd => (dss_cons (ds_if (dt_cmp opd_gt (de_ix (dv 0) de_int) de_int (nomark _)) (dss_cons (ds_set (i := 2) sc_l_random_7821.nd (de_op opd_mod (de_ty cd_int T.n_int (da_cons (de_ix (dv 0) de_int) da_nil)) (dv 1)))
 (dss_cons (ds_asg (de_op opd_fdiv (de_ix (dv 0) de_int) (dv 1)) (dg_sub (dv 0) de_int))
 (dss_one (ds_ret (dv 2))))) dss_nil)
 (dss_cons (ds_set (i := 2) sc_l_random_7821.nd de_int)
 (dss_cons (ds_for rfl (di_range1 T.n_range (da_cons (de_op opd_add de_int (de_op opd_fdiv (de_bits (dv 1)) de_int)) da_nil)) (dg_name (i := 3) sc_l_random_7821.nd) (dss_cons (ds_asg (de_op opd_add (de_ix (dv 0) de_int) de_int) (dg_sub (dv 0) de_int))
 (dss_one (ds_set (i := 2) sc_l_random_7821.nd (de_op opd_add (de_op opd_mulI (dv 2) de_int) (dcall D_l_hash_9cde hr gd (da_cons (de_ix (dv 0) de_int) (da_cons (de_ix (dv 0) de_int) da_nil))))))))
 (dss_one (ds_ret (de_op opd_mod (de_ty cd_int T.n_int (da_cons (dv 2) da_nil)) (dv 1)))))))) hread hX
theorem ok_l_root_d754 {sp : DSp} (T : Txt P K mg base) (hread : ∀ ds M Q, ds.length = 1 → sp ds M Q DX0 → t_l_root_d754 (dEnds M Q) (startD 4 ds) M) (hX : ∀ ds M Q E, sp ds M Q E → sp ds M Q DX0 := by exact fun _ _ _ _ h => h) : Def P w K mg base CX0 1 "_law_root" s_l_root_d754 ["_law_number"] sp :=
 T.h_l_root_d754.ok (t := t_l_root_d754) sc_l_root_d754 (fun f cdv A outer s H E hr gd => (dss_cons (ds_asg (de_tup (da_cons de_int (da_cons de_int da_nil))) (dg_tup rfl (dgs_cons (dg_name (i := 1) sc_l_root_d754.nd) (dgs_cons (dg_name (i := 2) sc_l_root_d754.nd) dgs_nil))))
 (dss_cons (ds_while (dt_cmp opd_le (de_op opd_mulI (dv 2) (dv 2)) (dv 0) (nomark _)) (dss_one (ds_set (i := 2) sc_l_root_d754.nd (de_op opd_mulI de_int (dv 2)))))
 (dss_cons (ds_while (dt_cmp opd_gt (de_op opd_sub (dv 2) (dv 1)) de_int (nomark _)) (dss_cons (ds_set (i := 3) sc_l_root_d754.nd (de_op opd_fdiv (de_op opd_add (dv 1) (dv 2)) de_int))
 (dss_one (ds_asg (de_if (dt_cmp opd_le (de_op opd_mulI (dv 3) (dv 3)) (dv 0) (nomark _)) (de_tup (da_cons (dv 3) (da_cons (dv 2) da_nil))) (de_tup (da_cons (dv 1) (da_cons (dv 3) da_nil)))) (dg_tup rfl (dgs_cons (dg_name (i := 1) sc_l_root_d754.nd) (dgs_cons (dg_name (i := 2) sc_l_root_d754.nd) dgs_nil)))))))
 (dss_one (ds_ret (dv 1))))))) hread hX
theorem ok_l_measure_0db7 {c_l_random_7821 c_l_root_d754 : DSp} {sp : DSp} (T : Txt P K mg base) (D_l_random_7821 : Def P w K mg base CX0 2 "_law_random" s_l_random_7821 ["_law_generator_here", "_law_bound"] c_l_random_7821) (D_l_root_d754 : Def P w K mg base CX0 1 "_law_root" s_l_root_d754 ["_law_number"] c_l_root_d754) (hread : ∀ ds M Q, ds.length = 2 → sp ds M Q DX0 → t_l_measure_0db7 c_l_random_7821 c_l_root_d754 (dEnds M Q) (startD 6 ds) M) (hX : ∀ ds M Q E, sp ds M Q E → sp ds M Q DX0 := by exact fun _ _ _ _ h => h) : Def P w K mg base CX0 3 "_law_measure" s_l_measure_0db7 ["_law_generator_here", "_law_figures"] sp :=
 T.h_l_measure_0db7.ok (t := t_l_measure_0db7 c_l_random_7821 c_l_root_d754) sc_l_measure_0db7 (fun f cdv A outer s H E hr gd => (dss_cons (ds_set (i := 2) sc_l_measure_0db7.nd de_int)
 (dss_cons (ds_for rfl (di_range1 T.n_range (da_cons (de_op opd_add de_int (dcall D_l_random_7821 hr gd (da_cons (dv 0) (da_cons (dv 1) da_nil)))) da_nil)) (dg_name (i := 3) sc_l_measure_0db7.nd) (dss_one (ds_set (i := 2) sc_l_measure_0db7.nd (de_op opd_mulI de_int (dv 2)))))
 (dss_cons (ds_set (i := 4) sc_l_measure_0db7.nd (de_op opd_add de_int (dcall D_l_random_7821 hr gd (da_cons (dv 0) (da_cons (dv 2) da_nil)))))
 (dss_cons (ds_if (dt_cmp (opd_eq (u64 hr)) (dcall D_l_random_7821 hr gd (da_cons (dv 0) (da_cons de_int da_nil))) de_int (nomark _)) (dss_one (ds_set (i := 4) sc_l_measure_0db7.nd (de_op opd_mulI (dcall D_l_root_d754 hr gd (da_cons (dv 4) da_nil)) (dcall D_l_root_d754 hr gd (da_cons (dv 4) da_nil))))) dss_nil)
 (dss_cons (ds_set (i := 5) sc_l_measure_0db7.nd (de_op opd_add (de_op opd_sub (dv 4) (de_op opd_mod (de_ty cd_int T.n_int (da_cons (dv 4) da_nil)) de_int)) (dcall D_l_random_7821 hr gd (da_cons (dv 0) (da_cons de_int da_nil)))))
 (dss_one (ds_ret (de_if (dt_cmp opd_gt (dv 5) de_int (nomark _)) (dv 5) de_int))))))))) hread hX
theorem ok_is_whole {sp : DSp} (T : Txt P K mg base) (hread : ∀ ds M Q, ds.length = 1 → sp ds M Q DX0 → t_is_whole (dEnds M Q) (startD 1 ds) M) (hX : ∀ ds M Q E, sp ds M Q E → sp ds M Q DX0 := by exact fun _ _ _ _ h => h) : Def P w K mg base CX0 1 "is_whole" s_is_whole ["value"] sp :=
 T.h_is_whole.ok (t := t_is_whole) sc_is_whole (fun f cdv A outer s H E hr gd => (dss_one (ds_ret (de_and (de_blt cd_isi T.n_isinstance (da_cons (dv 0) (da_cons (de_bltn (v := .ty "int") T.n_int rfl) da_nil))) (de_one (de_not (de_blt cd_isi T.n_isinstance (da_cons (dv 0) (da_cons (de_bltn (v := .ty "bool") T.n_bool rfl) da_nil))))))))) hread hX
theorem ok_is_between {c_is_whole : DSp} {sp : DSp} (T : Txt P K mg base) (D_is_whole : Def P w K mg base CX0 1 "is_whole" s_is_whole ["value"] c_is_whole) (hread : ∀ ds M Q, ds.length = 3 → sp ds M Q DX0 → t_is_between c_is_whole (dEnds M Q) (startD 3 ds) M) (hX : ∀ ds M Q E, sp ds M Q E → sp ds M Q DX0 := by exact fun _ _ _ _ h => h) : Def P w K mg base CX0 2 "is_between" s_is_between ["value", "low", "high"] sp :=
 T.h_is_between.ok (t := t_is_between c_is_whole) sc_is_between (fun f cdv A outer s H E hr gd => (dss_one (ds_ret (de_and (dcall D_is_whole hr gd (da_cons (dv 0) da_nil)) (de_and (de_cmp opd_ge (dv 0) (dv 1) (nomark _)) (de_one (de_or (de_cmp opd_is (dv 2) de_non (nomark _)) (de_one (de_cmp opd_le (dv 0) (dv 2) (nomark _)))))))))) hread hX
theorem ok_is_measure_by {c_is_between : DSp} {sp : DSp} (T : Txt P K mg base) (D_is_between : Def P w K mg base CX0 2 "is_between" s_is_between ["value", "low", "high"] c_is_between) (hread : ∀ ds M Q, ds.length = 1 → sp ds M Q DX0 → t_is_measure_by c_is_between (dEnds M Q) (startD 1 ds) M) (hX : ∀ ds M Q E, sp ds M Q E → sp ds M Q DX0 := by exact fun _ _ _ _ h => h) : Def P w K mg base CX0 3 "is_measure_by" s_is_measure_by ["value"] sp :=
 T.h_is_measure_by.ok (t := t_is_measure_by c_is_between) sc_is_measure_by (fun f cdv A outer s H E hr gd => (dss_one (ds_ret (de_and (dcall D_is_between hr gd (da_cons (dv 0) (da_cons (let ⟨_, h⟩ := T.c_LEAST; de_globI rfl h) (da_cons de_non da_nil)))) (de_one (de_cmp (opd_in (u65 hr)) (de_op opd_mod (dv 0) de_int) (de_lst (da_cons de_int (da_cons de_int da_nil))) (by rfl))))))) hread hX
theorem ok_check_measure_x {c_is_measure_by : DSp} {sp : DSp} (T : Txt P K mg base) (D_is_measure_by : Def P w K mg base CX0 3 "is_measure_by" s_is_measure_by ["value"] c_is_measure_by) (hread : ∀ ds M Q E, ds.length = 1 → belowAll M.length ds = true → sp ds M Q E → t_check_measure_x c_is_measure_by (dOut M E) (dEnds M Q) (startD 1 ds) M) : Def P w K mg base (L2.CX P w) 4 "check_measure" s_check_measure_x ["measure"] sp :=
 T.h_check_measure_x.okE (t := t_check_measure_x c_is_measure_by) sc_check_measure_x (fun f cdv A outer s H E hr gd => (dssx_one (dsx_if (dt_not (dt_tru (dcall D_is_measure_by hr gd (da_cons (dv 0) da_nil)))) (dssx_one (let ⟨_, _, _, h⟩ := T.e_InvalidMeasure; dsx_raise h rfl hr (da_cons (dv 0) da_nil))) (dssx_of dss_nil)))) hread
theorem ok_root_floor_by {sp : DSp} (T : Txt P K mg base) (hread : ∀ ds M Q, ds.length = 1 → sp ds M Q DX0 → t_root_floor_by (dEnds M Q) (startD 3 ds) M) (hX : ∀ ds M Q E, sp ds M Q E → sp ds M Q DX0 := by exact fun _ _ _ _ h => h) : Def P w K mg base CX0 1 "root_floor_by" s_root_floor_by ["number"] sp :=
 T.h_root_floor_by.ok (t := t_root_floor_by) sc_root_floor_by (fun f cdv A outer s H E hr gd => (dss_cons (ds_if (dt_cmp opd_lt (dv 0) de_int (nomark _)) (dss_one (ds_ret (dv 0))) dss_nil)
 (dss_cons (ds_set (i := 1) sc_root_floor_by.nd de_int)
 (dss_cons (ds_while (dt_cmp opd_le (de_op opd_mulI (dv 1) (dv 1)) (dv 0) (nomark _)) (dss_one (ds_set (i := 1) sc_root_floor_by.nd (de_op opd_mulI de_int (dv 1)))))
 (dss_cons (ds_set (i := 2) sc_root_floor_by.nd (de_op opd_fdiv (de_op opd_add (dv 1) (de_op opd_fdiv (dv 0) (dv 1))) de_int))
 (dss_cons (ds_while (dt_cmp opd_lt (dv 2) (dv 1) (nomark _)) (dss_one (ds_par (i := 1) (j := 2) rfl sc_root_floor_by.nd (da_cons (dv 2) (da_cons (de_op opd_fdiv (de_op opd_add (dv 2) (de_op opd_fdiv (dv 0) (dv 2))) de_int) da_nil)))))
 (dss_one (ds_ret (dv 1))))))))) hread hX
theorem ok_whole_root_x {c_check_measure_x c_root_floor_by : DSp} {sp : DSp} (T : Txt P K mg base) (D_check_measure_x : Def P w K mg base (L2.CX P w) 4 "check_measure" s_check_measure_x ["measure"] c_check_measure_x) (D_root_floor_by : Def P w K mg base CX0 1 "root_floor_by" s_root_floor_by ["number"] c_root_floor_by) (hread : ∀ ds M Q E, ds.length = 1 → belowAll M.length ds = true → sp ds M Q E → t_whole_root_x c_check_measure_x c_root_floor_by (dOut M E) (dEnds M Q) (startD 1 ds) M) : Def P w K mg base (L2.CX P w) 5 "whole_root" s_whole_root_x ["measure"] sp :=
 T.h_whole_root_x.okE (t := t_whole_root_x c_check_measure_x c_root_floor_by) sc_whole_root_x (fun f cdv A outer s H E hr gd => (dssx_cons (dsx_expr (dcallX D_check_measure_x hr gd (dax_cons (dex_of (dv 0)) dax_nil)))
 (dssx_of (dss_one (ds_ret (dcall D_root_floor_by hr gd (da_cons (dv 0) da_nil))))))) hread
theorem ok_is_measure {c_is_measure_by : DSp} {sp : DSp} (T : Txt P K mg base) (D_is_measure_by : Def P w K mg base CX0 3 "is_measure_by" s_is_measure_by ["value"] c_is_measure_by) (hread : ∀ ds M Q, ds.length = 1 → sp ds M Q DX0 → t_is_measure c_is_measure_by (dEnds M Q) (startD 1 ds) M) (hX : ∀ ds M Q E, sp ds M Q E → sp ds M Q DX0 := by exact fun _ _ _ _ h => h) : Def P w K mg base CX0 4 "is_measure" s_is_measure ["value"] sp :=
 T.h_is_measure.ok (t := t_is_measure c_is_measure_by) sc_is_measure (fun f cdv A outer s H E hr gd => (dss_one (ds_ret (dcall D_is_measure_by hr gd (da_cons (dv 0) da_nil))))) hread hX
theorem ok_square_part_by {c_root_floor_by : DSp} {sp : DSp} (T : Txt P K mg base) (D_root_floor_by : Def P w K mg base CX0 1 "root_floor_by" s_root_floor_by ["number"] c_root_floor_by) (hread : ∀ ds M Q, ds.length = 1 → sp ds M Q DX0 → t_square_part_by c_root_floor_by (dEnds M Q) (startD 5 ds) M) (hX : ∀ ds M Q E, sp ds M Q E → sp ds M Q DX0 := by exact fun _ _ _ _ h => h) : Def P w K mg base CX0 2 "square_part_by" s_square_part_by ["number"] sp :=
 T.h_square_part_by.ok (t := t_square_part_by c_root_floor_by) sc_square_part_by (fun f cdv A outer s H E hr gd => (dss_cons (ds_par3 (i := 1) (j := 2) (l := 3) rfl sc_square_part_by.nd (da_cons de_int (da_cons (dv 0) (da_cons de_int da_nil))))
 (dss_cons (ds_while (dt_cmp opd_le (de_op opd_mulI (de_op opd_mulI (dv 3) (dv 3)) (dv 3)) (dv 2) (nomark _)) (dss_cons (ds_while (dt_cmp (opd_eq (u64 hr)) (de_op opd_mod (dv 2) (de_op opd_mulI (dv 3) (dv 3))) de_int (nomark _)) (dss_one (ds_par (i := 1) (j := 2) rfl sc_square_part_by.nd (da_cons (de_op opd_mulI (dv 1) (dv 3)) (da_cons (de_op opd_fdiv (dv 2) (de_op opd_mulI (dv 3) (dv 3))) da_nil)))))
 (dss_cons (ds_if (dt_cmp (opd_eq (u64 hr)) (de_op opd_mod (dv 2) (dv 3)) de_int (nomark _)) (dss_one (ds_set (i := 2) sc_square_part_by.nd (de_op opd_fdiv (dv 2) (dv 3)))) dss_nil)
 (dss_one (ds_set (i := 3) sc_square_part_by.nd (de_op opd_add (dv 3) de_int))))))
 (dss_cons (ds_set (i := 4) sc_square_part_by.nd (dcall D_root_floor_by hr gd (da_cons (dv 2) da_nil)))
 (dss_one (ds_ret (de_if (dt_cmp (opd_eq (u64 hr)) (de_op opd_mulI (dv 4) (dv 4)) (dv 2) (nomark _)) (de_op opd_mulI (dv 1) (dv 4)) (dv 1)))))))) hread hX
theorem ok_factor_by {c_square_part_by : DSp} {sp : DSp} (T : Txt P K mg base) (D_square_part_by : Def P w K mg base CX0 2 "square_part_by" s_square_part_by ["number"] c_square_part_by) (hread : ∀ ds M Q, ds.length = 1 → sp ds M Q DX0 → t_factor_by c_square_part_by (dEnds M Q) (startD 2 ds) M) (hX : ∀ ds M Q E, sp ds M Q E → sp ds M Q DX0 := by exact fun _ _ _ _ h => h) : Def P w K mg base CX0 3 "factor_by" s_factor_by ["measure"] sp :=
 T.h_factor_by.ok (t := t_factor_by c_square_part_by) sc_factor_by (fun f cdv A outer s H E hr gd => (dss_cons (ds_set (i := 1) sc_factor_by.nd (dcall D_square_part_by hr gd (da_cons (dv 0) da_nil)))
 (dss_one (ds_ret (de_if (dt_cmp (opd_in (u65 hr)) (de_op opd_mod (de_op opd_fdiv (dv 0) (de_op opd_mulI (dv 1) (dv 1))) de_int) (de_lst (da_cons de_int (da_cons de_int da_nil))) (by rfl)) (dv 1) (de_op opd_fdiv (dv 1) de_int)))))) hread hX
theorem ok_factor_x {c_check_measure_x c_factor_by : DSp} {sp : DSp} (T : Txt P K mg base) (D_check_measure_x : Def P w K mg base (L2.CX P w) 4 "check_measure" s_check_measure_x ["measure"] c_check_measure_x) (D_factor_by : Def P w K mg base CX0 3 "factor_by" s_factor_by ["measure"] c_factor_by) (hread : ∀ ds M Q E, ds.length = 1 → belowAll M.length ds = true → sp ds M Q E → t_factor_x c_check_measure_x c_factor_by (dOut M E) (dEnds M Q) (startD 1 ds) M) : Def P w K mg base (L2.CX P w) 5 "factor" s_factor_x ["measure"] sp :=
 T.h_factor_x.okE (t := t_factor_x c_check_measure_x c_factor_by) sc_factor_x (fun f cdv A outer s H E hr gd => (dssx_cons (dsx_expr (dcallX D_check_measure_x hr gd (dax_cons (dex_of (dv 0)) dax_nil)))
 (dssx_of (dss_one (ds_ret (dcall D_factor_by hr gd (da_cons (dv 0) da_nil))))))) hread
theorem ok_l_factor_b928 {c_l_root_d754 : DSp} {sp : DSp} (T : Txt P K mg base) (D_l_root_d754 : Def P w K mg base CX0 1 "_law_root" s_l_root_d754 ["_law_number"] c_l_root_d754) (hread : ∀ ds M Q, ds.length = 1 → sp ds M Q DX0 → t_l_factor_b928 c_l_root_d754 (dEnds M Q) (startD 3 ds) M) (hX : ∀ ds M Q E, sp ds M Q E → sp ds M Q DX0 := by exact fun _ _ _ _ h => h) : Def P w K mg base CX0 2 "_law_factor" s_l_factor_b928 ["_law_measure_here"] sp :=
 T.h_l_factor_b928.ok (t := t_l_factor_b928 c_l_root_d754) sc_l_factor_b928 (fun f cdv A outer s H E hr gd => (dss_cons (ds_setLc false (i := 1) (own := [("_law_f", 2)]) rfl sc_l_factor_b928.nd  (sw_true rfl rfl rfl (by decide +kernel)) (blkOk_by (N := ["_law_measure_here", "_law_found", "_law_f"]) (own := [("_law_f", 2)]) (sc := (defScope s_l_factor_b928)) (by decide +kernel)) (di_range2 T.n_range (da_cons de_int (da_cons (de_op opd_add (dcall D_l_root_d754 hr gd (da_cons (dv 0) da_nil)) de_int) da_nil))) (fun _ _ _ _ _ => (dcg_name (i := 2) sc_l_factor_b928.nd)) (fun _ _ _ _ _ => (dts_one (DW.dt (dw_and (dt_cmp (opd_eq (u64 hr)) (de_op opd_mod (de_ty cd_int T.n_int (da_cons (dv 0) da_nil)) (de_op opd_mulI (dv 2) (dv 2))) de_int (nomark _)) (dw_and1 (dt_cmp opd_lt (de_op opd_mod (de_ty cd_int T.n_int (da_cons (de_op opd_fdiv (dv 0) (de_op opd_mulI (dv 2) (dv 2))) da_nil)) de_int) de_int (nomark _))))))) (fun _ _ _ _ _ => (dv 2)))
 (dss_one (ds_ret (de_ix (dv 1) (de_op opd_sub (de_blt cd_len T.n_len (da_cons (dv 1) da_nil)) de_int)))))) hread hX
theorem ok_l_right_7f71 {c_l_measure_0db7 c_whole_root c_is_measure c_l_random_7821 c_factor c_l_factor_b928 : DSp} {sp : DSp} (T : Txt P K mg base) (D_l_measure_0db7 : Def P w K mg base CX0 3 "_law_measure" s_l_measure_0db7 ["_law_generator_here", "_law_figures"] c_l_measure_0db7) (D_whole_root : Def P w K mg base (L2.CX P w) 5 "whole_root" s_whole_root_x ["measure"] c_whole_root) (D_is_measure : Def P w K mg base CX0 4 "is_measure" s_is_measure ["value"] c_is_measure) (D_l_random_7821 : Def P w K mg base CX0 2 "_law_random" s_l_random_7821 ["_law_generator_here", "_law_bound"] c_l_random_7821) (D_factor : Def P w K mg base (L2.CX P w) 5 "factor" s_factor_x ["measure"] c_factor) (D_l_factor_b928 : Def P w K mg base CX0 2 "_law_factor" s_l_factor_b928 ["_law_measure_here"] c_l_factor_b928) (hread : ∀ ds M Q, ds.length = 1 → sp ds M Q DX0 → t_l_right_7f71 c_l_measure_0db7 c_whole_root c_is_measure c_l_random_7821 c_factor c_l_factor_b928 (dEnds M Q) (startD 14 ds) M) (hX : ∀ ds M Q E, sp ds M Q E → sp ds M Q DX0 := by exact fun _ _ _ _ h => h) : Def P w K mg base CX0 6 "_law_right" s_l_right_7f71 ["_law_generator_here"] sp :=
 T.h_l_right_7f71.ok (t := t_l_right_7f71 c_l_measure_0db7 c_whole_root c_is_measure c_l_random_7821 c_factor c_l_factor_b928) sc_l_right_7f71 (fun f cdv A outer s H E hr gd => (dss_cons (ds_for rfl (di_range1 T.n_range (da_cons de_int da_nil)) (dg_name (i := 1) sc_l_right_7f71.nd) (dss_cons (ds_set (i := 2) sc_l_right_7f71.nd (dcall D_l_measure_0db7 hr gd (da_cons (dv 0) (da_cons de_int da_nil))))
 (dss_cons (ds_set (i := 3) sc_l_right_7f71.nd (dcallN D_whole_root hr gd (da_cons (dv 2) da_nil)))
 (dss_cons (ds_if (DW.dt (dw_or (dt_not (dt_chain opd_le opd_lt (de_op opd_mulI (dv 3) (dv 3)) (dv 2) (de_op opd_mulI (de_op opd_add (dv 3) de_int) (de_op opd_add (dv 3) de_int)))) (dw_or (dt_tru (de_blt cd_isi T.n_isinstance (da_cons (dv 3) (da_cons (de_bltn (v := .ty "bool") T.n_bool rfl) da_nil)))) (dw_or (dt_cmp opd_isnot (dcall D_is_measure hr gd (da_cons (dv 2) da_nil)) de_bl (nomark _)) (dw_or1 (dt_cmp (opd_ne (u64 hr)) (dcallKN [0] D_whole_root hr gd (dk_cons (dv 2) dk_nil) (ks := ["measure"]) rfl (fun _ _ _ _ _ _ us hl => match us, hl with | [_], _ => rfl)) (dv 3) (nomark _))))))) (dss_one (ds_ret de_bl)) dss_nil)
 (dss_cons (ds_for rfl (di_range1 T.n_range (da_cons de_int da_nil)) (dg_name (i := 4) sc_l_right_7f71.nd) (dss_one (ds_if (dt_cmp (opd_ne (u64 hr)) (de_blt (cd_reprZ gd (ux hr)) T.n_repr (da_cons (dcall D_is_measure hr gd (da_cons (de_op opd_add (dv 2) (dv 4)) da_nil)) da_nil)) (de_blt (cd_reprZ gd (ux hr)) T.n_repr (da_cons (de_cmp opd_lt (de_op opd_mod (de_ty cd_int T.n_int (da_cons (de_op opd_add (dv 2) (dv 4)) da_nil)) de_int) de_int (nomark _)) da_nil)) (nomark _)) (dss_one (ds_ret de_bl)) dss_nil)))
 (dss_cons (ds_set (i := 5) sc_l_right_7f71.nd (de_op opd_add de_int (dcall D_l_random_7821 hr gd (da_cons (dv 0) (da_cons de_int da_nil)))))
 (dss_cons (ds_set (i := 5) sc_l_right_7f71.nd (de_op opd_add (de_op opd_sub (dv 5) (de_op opd_mod (de_ty cd_int T.n_int (da_cons (dv 5) da_nil)) de_int)) (dcall D_l_random_7821 hr gd (da_cons (dv 0) (da_cons de_int da_nil)))))
 (dss_cons (ds_if (DW.dt (dw_and (dt_cmp opd_gt (dv 5) de_int (nomark _)) (dw_and1 (DW.dt (dw_or (dt_cmp (opd_ne (u64 hr)) (de_blt (cd_reprZ gd (ux hr)) T.n_repr (da_cons (dcallN D_factor hr gd (da_cons (dv 5) da_nil)) da_nil)) (de_blt (cd_reprZ gd (ux hr)) T.n_repr (da_cons (dcall D_l_factor_b928 hr gd (da_cons (dv 5) da_nil)) da_nil)) (nomark _)) (dw_or1 (dt_cmp (opd_ne (u64 hr)) (dcallKN [0] D_factor hr gd (dk_cons (dv 5) dk_nil) (ks := ["measure"]) rfl (fun _ _ _ _ _ _ us hl => match us, hl with | [_], _ => rfl)) (dcallN D_factor hr gd (da_cons (dv 5) da_nil)) (nomark _)))))))) (dss_one (ds_ret de_bl)) dss_nil)
 (dss_cons (ds_par (i := 6) (j := 7) rfl sc_l_right_7f71.nd (da_cons (de_op opd_add de_int (dcall D_l_random_7821 hr gd (da_cons (dv 0) (da_cons de_int da_nil)))) (da_cons (de_ix (de_lst (da_cons de_int (da_cons de_int (da_cons de_int (da_cons de_int (da_cons de_int (da_cons de_int (da_cons de_int (da_cons de_int (da_cons de_int (da_cons de_int da_nil))))))))))) (dcall D_l_random_7821 hr gd (da_cons (dv 0) (da_cons de_int da_nil)))) da_nil)))
 (dss_cons (ds_if (DW.dt (dw_or (dt_cmp (opd_ne (u64 hr)) (dcallN D_factor hr gd (da_cons (de_op opd_mulI (de_op opd_mulI (dv 6) (dv 6)) (dv 7)) da_nil)) (dv 6) (nomark _)) (dw_or1 (dt_cmp (opd_ne (u64 hr)) (dcallN D_factor hr gd (da_cons (de_op opd_mulI (de_op opd_add (dv 6) de_int) (de_op opd_add (dv 6) de_int)) da_nil)) (de_op opd_add (dv 6) de_int) (nomark _))))) (dss_one (ds_ret de_bl)) dss_nil)
 (dss_cons (ds_par (i := 8) (j := 9) rfl sc_l_right_7f71.nd (da_cons (de_op opd_add de_int (de_op opd_mod (de_ty cd_int T.n_int (da_cons (dv 6) da_nil)) de_int)) (da_cons (de_op opd_sub (de_op opd_pow de_int de_int) (dv 6)) da_nil)))
 (dss_cons (ds_if (DW.dt (dw_and (dt_cmp (opd_eq (u64 hr)) (dv 1) de_int (nomark _)) (dw_and (dt_cmp opd_gt (dv 5) de_int (nomark _)) (dw_and1 (DW.dt (dw_or (dt_cmp (opd_ne (u64 hr)) (dcallN D_factor hr gd (da_cons (de_op opd_mulI (de_op opd_mulI (dv 8) (dv 8)) (dv 5)) da_nil)) (de_op opd_mulI (dv 8) (dcall D_l_factor_b928 hr gd (da_cons (dv 5) da_nil))) (nomark _)) (dw_or1 (dt_cmp (opd_ne (u64 hr)) (dcallN D_factor hr gd (da_cons (de_op opd_mulI (dv 9) (dv 9)) da_nil)) (dv 9) (nomark _))))))))) (dss_one (ds_ret de_bl)) dss_nil)
 (dss_cons (ds_set (i := 10) sc_l_right_7f71.nd (dcall D_l_measure_0db7 hr gd (da_cons (dv 0) (da_cons de_int da_nil))))
 (dss_cons (ds_set (i := 11) sc_l_right_7f71.nd (dcallN D_factor hr gd (da_cons (dv 10) da_nil)))
 (dss_cons (ds_if (DW.dt (dw_or (dt_tru (de_blt cd_isi T.n_isinstance (da_cons (dv 11) (da_cons (de_bltn (v := .ty "bool") T.n_bool rfl) da_nil)))) (dw_or (dt_not (dt_tru (de_blt cd_isi T.n_isinstance (da_cons (dv 11) (da_cons (de_bltn (v := .ty "int") T.n_int rfl) da_nil))))) (dw_or1 (dt_cmp opd_lt (dv 11) de_int (nomark _)))))) (dss_one (ds_ret de_bl)) dss_nil)
 (dss_cons (ds_set (i := 12) sc_l_right_7f71.nd (de_op opd_fdiv (dv 10) (de_op opd_mulI (dv 11) (dv 11))))
 (dss_one (ds_if (DW.dt (dw_or (dt_cmp (opd_ne (u64 hr)) (de_op opd_mod (de_ty cd_int T.n_int (da_cons (dv 10) da_nil)) (de_op opd_mulI (dv 11) (dv 11))) de_int (nomark _)) (dw_or (dt_cmp opd_gt (de_op opd_mod (de_ty cd_int T.n_int (da_cons (dv 12) da_nil)) de_int) de_int (nomark _)) (dw_or1 (dt_cmp (opd_ne (u64 hr)) (de_lc false (own := [("_law_g", 13)]) rfl sc_l_right_7f71.nd (blkOk_by (N := ["_law_generator_here", "_law_turn", "_law_measure_here", "_law_root_here", "_law_more", "_law_small", "_law_put", "_law_rest", "_law_many", "_law_great", "_law_wide", "_law_told_here", "_law_left", "_law_g"]) (own := [("_law_g", 13)]) (sc := (defScope s_l_right_7f71)) (by decide +kernel)) (di_range2 T.n_range (da_cons de_int (da_cons de_int da_nil))) (fun _ _ _ _ _ => (dcg_name (i := 13) sc_l_right_7f71.nd)) (fun _ _ _ _ _ => (dts_one (DW.dt (dw_and (dt_cmp (opd_eq (u64 hr)) (de_op opd_mod (de_ty cd_int T.n_int (da_cons (dv 12) da_nil)) (de_op opd_mulI (dv 13) (dv 13))) de_int (nomark _)) (dw_and1 (dt_cmp opd_lt (de_op opd_mod (de_ty cd_int T.n_int (da_cons (de_op opd_fdiv (dv 12) (de_op opd_mulI (dv 13) (dv 13))) da_nil)) de_int) de_int (nomark _))))))) (fun _ _ _ _ _ => (dv 13))) (de_lst da_nil) (nomark _)))))) (dss_one (ds_ret de_bl)) dss_nil))))))))))))))))))
 (dss_one (ds_ret de_bl)))) hread hX
theorem ok_l_told_59a8 {c_whole_root_x c_factor_x : DSp} {sp : DSp} (T : Txt P K mg base) (D_whole_root_x : Def P w K mg base (L2.CX P w) 5 "whole_root" s_whole_root_x ["measure"] c_whole_root_x) (D_factor_x : Def P w K mg base (L2.CX P w) 5 "factor" s_factor_x ["measure"] c_factor_x) (hread : ∀ ds M Q, ds.length = 2 → sp ds M Q DX0 → t_l_told_59a8 c_whole_root_x c_factor_x (dEnds M Q) (startD 4 ds) M) (hX : ∀ ds M Q E, sp ds M Q E → sp ds M Q DX0 := by exact fun _ _ _ _ h => h) : Def P w K mg base CX0 6 "_law_told" s_l_told_59a8 ["_law_door", "_law_value"] sp :=
 T.h_l_told_59a8.ok (t := t_l_told_59a8 c_whole_root_x c_factor_x) sc_l_told_59a8 (fun f cdv A outer s H E hr gd => (dss_cons (ds_set (i := 2) sc_l_told_59a8.nd de_non)
 (dss_cons (let ⟨_, h⟩ := T.s_SheetError; ds_try (i := 3) rfl rfl sc_l_told_59a8.nd (.inr ⟨rfl, h.1⟩) h.2 takes0 (fun pn xe hp => (dssx_one (dsx_expr (dcallV (L := [("whole_root", 1, c_whole_root_x), ("factor", 1, c_factor_x)]) (de_ix (de_lst (da_cons (let ⟨_, h⟩ := T.v_whole_root; de_gname h.1 h.2) (da_cons (let ⟨_, h⟩ := T.v_factor; de_gname h.1 h.2) da_nil))) (dv 0)) (dax_cons (dex_of (dv 1)) dax_nil) (fun _ _ _ h => by simp only [List.mem_cons, List.not_mem_nil, or_false, Prod.mk.injEq] at h; rcases h with ⟨rfl, rfl, rfl⟩ | ⟨rfl, rfl, rfl⟩ <;> first | exact ⟨_, _, _, by decide, rfl, D_whole_root_x⟩ | exact ⟨_, _, _, by decide, rfl, D_factor_x⟩) hr gd)))) (fun a pn => (dss_one (ds_set (i := 2) sc_l_told_59a8.nd (dv 3)))))
 (dss_cons (ds_if (dt_cmp opd_is (dv 2) de_non (nomark _)) (dss_one (ds_ret (de_lst (da_cons de_str da_nil)))) dss_nil)
 (dss_one (ds_ret (de_lst (da_cons (de_and (de_blt (cd_isx T.isE) T.n_isinstance (da_cons (dv 2) (da_cons (let ⟨_, _, _, h⟩ := T.e_InvalidMeasure; de_gname h.er.ns h.gC) da_nil))) (de_one (de_blt (cd_isx T.isE) T.n_isinstance (da_cons (dv 2) (da_cons (de_bltn (v := .ty "ValueError") T.n_ValueError rfl) da_nil))))) (da_cons (de_fld (dv 2)) da_nil))))))))) hread hX
theorem ok_l_law_0a00 {c_l_generator_b324 c_l_right_7f71 c_is_measure c_l_told_59a8 c_factor c_whole_root : DSp} {sp : DSp} (T : Txt P K mg base) (D_l_generator_b324 : Def P w K mg base CX0 2 "_law_generator" s_l_generator_b324 ["_law_script", "_law_index"] c_l_generator_b324) (D_l_right_7f71 : Def P w K mg base CX0 6 "_law_right" s_l_right_7f71 ["_law_generator_here"] c_l_right_7f71) (D_is_measure : Def P w K mg base CX0 4 "is_measure" s_is_measure ["value"] c_is_measure) (D_l_told_59a8 : Def P w K mg base CX0 6 "_law_told" s_l_told_59a8 ["_law_door", "_law_value"] c_l_told_59a8) (D_factor : Def P w K mg base (L2.CX P w) 5 "factor" s_factor_x ["measure"] c_factor) (D_whole_root : Def P w K mg base (L2.CX P w) 5 "whole_root" s_whole_root_x ["measure"] c_whole_root) (hread : ∀ ds M Q, ds.length = 1 → sp ds M Q DX0 → t_l_law_0a00 c_l_generator_b324 c_l_right_7f71 c_is_measure c_l_told_59a8 c_factor c_whole_root (dEnds M Q) (startD 8 ds) M) (hX : ∀ ds M Q E, sp ds M Q E → sp ds M Q DX0 := by exact fun _ _ _ _ h => h) : Def P w K mg base CX0 7 "law" s_l_law_0a00 ["_law_script"] sp :=
 T.h_l_law_0a00.ok (t := t_l_law_0a00 c_l_generator_b324 c_l_right_7f71 c_is_measure c_l_told_59a8 c_factor c_whole_root) sc_l_law_0a00 (fun f cdv A outer s H E hr gd => (dss_cons (ds_set (i := 1) sc_l_law_0a00.nd (dcall D_l_generator_b324 hr gd (da_cons (dv 0) (da_cons de_int da_nil))))
 (dss_cons (ds_if (dt_not (dt_tru (dcall D_l_right_7f71 hr gd (da_cons (dv 1) da_nil)))) (dss_one (ds_ret de_bl)) dss_nil)
 (dss_cons (ds_for rfl (di_seq (de_lst (da_cons de_non (da_cons de_int (da_cons de_int (da_cons de_int (da_cons de_int (da_cons de_int (da_cons (de_neg de_int) (da_cons (de_neg de_int) (da_cons de_bl (da_cons de_bl (da_cons de_str (da_cons (de_lst (da_cons de_int da_nil)) (da_cons (de_tup (da_cons de_int da_nil)) (da_cons de_dct0 (da_cons (de_op opd_add (de_op opd_pow de_int de_int) de_int) da_nil))))))))))))))))) (dg_name (i := 2) sc_l_law_0a00.nd) (dss_cons (ds_if (DW.dt (dw_or (dt_cmp opd_isnot (dcall D_is_measure hr gd (da_cons (dv 2) da_nil)) de_bl (nomark _)) (dw_or1 (dt_cmp opd_isnot (dcallK [0] D_is_measure hr gd (dk_cons (dv 2) dk_nil) (ks := ["value"]) rfl (fun _ _ _ _ _ _ us hl => match us, hl with | [_], _ => rfl)) de_bl (nomark _))))) (dss_one (ds_ret de_bl)) dss_nil)
 (dss_one (ds_if (dt_cmp (opd_neD (u64 hr)) (de_lc false (own := [("_law_door", 3)]) rfl sc_l_law_0a00.nd (blkOk_by (N := ["_law_script", "_law_generator_here", "_law_odd", "_law_door", "_law_bad", "_law_told_here", "_law_item", "_law_measure_here"]) (own := [("_law_door", 3)]) (sc := (defScope s_l_law_0a00)) (by decide +kernel)) (di_range1 T.n_range (da_cons de_int da_nil)) (fun _ _ _ _ _ => (dcg_name (i := 3) sc_l_law_0a00.nd)) (fun _ _ _ _ _ => dts_nil) (fun _ _ _ _ _ => (de_blt (cd_reprZ gd (ux hr)) T.n_repr (da_cons (dcall D_l_told_59a8 hr gd (da_cons (dv 3) (da_cons (dv 2) da_nil))) da_nil)))) (de_op opd_mulL (de_lst (da_cons (de_blt (cd_reprZ gd (ux hr)) T.n_repr (da_cons (de_lst (da_cons de_bl (da_cons (dv 2) da_nil))) da_nil)) da_nil)) de_int) (nomark _)) (dss_one (ds_ret de_bl)) dss_nil))))
 (dss_cons (ds_set (i := 4) sc_l_law_0a00.nd (de_own (da_cons de_int da_nil)))
 (dss_cons (ds_setLc false (i := 5) (own := [("_law_door", 3)]) rfl sc_l_law_0a00.nd  (sw_true rfl rfl rfl (by decide +kernel)) (blkOk_by (N := ["_law_script", "_law_generator_here", "_law_odd", "_law_door", "_law_bad", "_law_told_here", "_law_item", "_law_measure_here"]) (own := [("_law_door", 3)]) (sc := (defScope s_l_law_0a00)) (by decide +kernel)) (di_range1 T.n_range (da_cons de_int da_nil)) (fun _ _ _ _ _ => (dcg_name (i := 3) sc_l_law_0a00.nd)) (fun _ _ _ _ _ => dts_nil) (fun _ _ _ _ _ => (dcall D_l_told_59a8 hr gd (da_cons (dv 3) (da_cons (dv 4) da_nil)))))
 (dss_cons (ds_expr (de_append (dv 4) (da_cons de_int da_nil)))
 (dss_cons (ds_if (DW.dt (dw_or (dt_cmp (opd_neD (u64 hr)) (de_lc false (own := [("_law_item", 6)]) rfl sc_l_law_0a00.nd (blkOk_by (N := ["_law_script", "_law_generator_here", "_law_odd", "_law_door", "_law_bad", "_law_told_here", "_law_item", "_law_measure_here"]) (own := [("_law_item", 6)]) (sc := (defScope s_l_law_0a00)) (by decide +kernel)) (di_seq (dv 5)) (fun _ _ _ _ _ => (dcg_name (i := 6) sc_l_law_0a00.nd)) (fun _ _ _ _ _ => dts_nil) (fun _ _ _ _ _ => (de_ix (dv 6) de_int))) (de_op opd_mulL (de_lst (da_cons (de_lst (da_cons de_int (da_cons de_int da_nil))) da_nil)) de_int) (nomark _)) (dw_or1 (dt_cmp (opd_neD (u64 hr)) (dcallN D_factor hr gd (da_cons de_int da_nil)) de_int (nomark _))))) (dss_one (ds_ret de_bl)) dss_nil)
 (dss_one (ds_ret (de_and (de_cmp (opd_eqD (u64 hr)) (de_lc false (own := [("_law_measure_here", 7)]) rfl sc_l_law_0a00.nd (blkOk_by (N := ["_law_script", "_law_generator_here", "_law_odd", "_law_door", "_law_bad", "_law_told_here", "_law_item", "_law_measure_here"]) (own := [("_law_measure_here", 7)]) (sc := (defScope s_l_law_0a00)) (by decide +kernel)) (di_seq (de_lst (da_cons de_int (da_cons de_int (da_cons de_int (da_cons de_int (da_cons de_int (da_cons de_int (da_cons de_int (da_cons de_int (da_cons de_int da_nil))))))))))) (fun _ _ _ _ _ => (dcg_name (i := 7) sc_l_law_0a00.nd)) (fun _ _ _ _ _ => dts_nil) (fun _ _ _ _ _ => (dcallN D_factor hr gd (da_cons (dv 7) da_nil)))) (de_lst (da_cons de_int (da_cons de_int (da_cons de_int (da_cons de_int (da_cons de_int (da_cons de_int (da_cons de_int (da_cons de_int (da_cons de_int da_nil)))))))))) (nomark _)) (de_one (de_cmp (opd_eqD (u64 hr)) (dcallN D_whole_root hr gd (da_cons de_int da_nil)) de_int (nomark _)))))))))))))) hread hX
end
end C_k01
/-! MA: whole roots, common divisors, sizes; plain -/
namespace DL
/-! ### a great number, by its name -/
def BIGN : Nat := 2 ^ 4000
def BIG : Int := (BIGN : Nat)
theorem bign_pos : 0 < BIGN := Nat.pow_pos (by decide)
theorem big_pos : 0 < BIG := Int.natCast_pos.mpr bign_pos
theorem bign_ge {k : Nat} (h : k ≤ 4000) : 2 ^ k ≤ BIGN := Nat.pow_le_pow_right (by decide) h
/-- a written number is below BIG -/
theorem big_ge (k : Nat) (h : k < 2 ^ 240 := by decide) : (k : Int) ≤ BIG := by
  have := bign_ge (k := 240) (by decide)
  unfold BIG
  omega
theorem log2_of {i : Int} (n : Nat) (h : i.natAbs < 2 ^ n) (h0 : 0 < n) : i.natAbs.log2 < n := by
  by_cases z : i.natAbs = 0
  · rw [z]; simpa using h0
  · exact (Nat.log2_lt z).mpr h
theorem nat_of_big {i : Int} (h1 : -BIG ≤ i) (h2 : i ≤ BIG) : i.natAbs < 2 ^ 4001 := by
  have h3 : (2 : Nat) ^ 4001 = BIGN + BIGN := by unfold BIGN; rw [Nat.pow_succ, Nat.mul_two]
  have h4 := bign_pos
  rw [h3]
  unfold BIG at h1 h2
  omega
theorem log_of_big {i : Int} (h1 : -BIG ≤ i) (h2 : i ≤ BIG) : i.natAbs.log2 < 4001 := log2_of 4001 (nat_of_big h1 h2) (by decide)
/-! ### whole roots -/
def isqN (n : Nat) : Nat :=
  if h : n = 0 then 0
  else
    let r := 2 * isqN (n / 4)
    if (r + 1) * (r + 1) ≤ n then r + 1 else r
termination_by n
decreasing_by omega
theorem isqN_spec (n : Nat) : isqN n * isqN n ≤ n ∧ n < (isqN n + 1) * (isqN n + 1) := by
  induction n using Nat.strongRecOn with
  | ind n ih =>
    unfold isqN
    split
    · rename_i h; subst h; decide
    · rename_i h
      obtain ⟨h1, h2⟩ := ih (n / 4) (by omega)
      generalize isqN (n / 4) = s at *
      have e1 : 4 * (s * s) ≤ n := by omega
      have e2 : n < 4 * ((s + 1) * (s + 1)) := by omega
      have x1 : (2 * s) * (2 * s) = 4 * (s * s) := by rw [Nat.mul_mul_mul_comm]
      have x2 : (2 * s + 1) * (2 * s + 1) = 4 * (s * s) + 4 * s + 1 := by
        rw [Nat.add_mul, Nat.mul_add, x1]; omega
      have x3 : (s + 1) * (s + 1) = s * s + 2 * s + 1 := by
        rw [Nat.add_mul, Nat.mul_add]; omega
      have x4 : (2 * s + 1 + 1) * (2 * s + 1 + 1) = 4 * (s * s) + 8 * s + 4 := by
        rw [Nat.add_mul, Nat.mul_add, Nat.add_mul, Nat.mul_add, x1]; omega
      dsimp only
      split
      · rename_i hc
        exact ⟨hc, by rw [x4]; omega⟩
      · rename_i hc
        exact ⟨by rw [x1]; omega, by omega⟩
theorem isqN_uni {n r : Nat} (h1 : r * r ≤ n) (h2 : n < (r + 1) * (r + 1)) : isqN n = r := by
  obtain ⟨g1, g2⟩ := isqN_spec n
  rcases Nat.lt_trichotomy (isqN n) r with h | h | h
  · have : (isqN n + 1) * (isqN n + 1) ≤ r * r := Nat.mul_le_mul h h
    omega
  · exact h
  · have : (r + 1) * (r + 1) ≤ isqN n * isqN n := Nat.mul_le_mul h h
    omega
/-- the greatest count whose square is at most n -/
def isq (n : Int) : Int := (isqN n.toNat : Nat)
theorem isq_nn (n : Int) : 0 ≤ isq n := Int.natCast_nonneg _
theorem isq_le {n : Int} (h : 0 ≤ n) : isq n * isq n ≤ n := by
  have := (isqN_spec n.toNat).1
  unfold isq
  rw [← Int.natCast_mul]
  omega
theorem isq_lt {n : Int} (h : 0 ≤ n) : n < (isq n + 1) * (isq n + 1) := by
  have := (isqN_spec n.toNat).2
  unfold isq
  have e : ((isqN n.toNat : Int) + 1) * ((isqN n.toNat : Int) + 1) = (((isqN n.toNat + 1) * (isqN n.toNat + 1) : Nat) : Int) := by
    rw [Int.natCast_mul]; rfl
  rw [e]
  omega
theorem isq_uni {n r : Int} (h0 : 0 ≤ r) (h1 : r * r ≤ n) (h2 : n < (r + 1) * (r + 1)) : isq n = r := by
  obtain ⟨k, rfl⟩ := Int.eq_ofNat_of_zero_le h0
  have h1' : ((k * k : Nat) : Int) ≤ n := by rw [Int.natCast_mul]; exact h1
  have h2' : n < (((k + 1) * (k + 1) : Nat) : Int) := by rw [Int.natCast_mul]; exact h2
  unfold isq
  rw [isqN_uni (n := n.toNat) (r := k) (by omega) (by omega)]
theorem sq_lt {a b : Int} (ha : 0 ≤ a) (h : a < b) : a * a < b * b := by
  have := Int.mul_lt_mul' (Int.le_of_lt h) h ha (by omega : (0:Int) < b)
  exact this
theorem sq_le {a b : Int} (ha : 0 ≤ a) (h : a ≤ b) : a * a ≤ b * b := Int.mul_le_mul h h ha (by omega)
theorem lt_of_sq {a b : Int} (hb : 0 ≤ b) (h : a * a < b * b) : a < b := by
  by_cases z : a < b
  · exact z
  · have := sq_le hb (by omega : b ≤ a)
    omega
theorem isq_self {r : Int} (h : 0 ≤ r) : isq (r * r) = r := isq_uni h (Int.le_refl _) (sq_lt h (by omega))
/-- self is at most n -/
theorem isq_le_self {n : Int} (h : 0 ≤ n) : isq n ≤ n := by
  by_cases z : isq n ≤ n
  · exact z
  · have h1 := isq_le h
    have h2 := isq_nn n
    have h3 : 1 * isq n ≤ isq n * isq n := Int.mul_le_mul_of_nonneg_right (by omega) h2
    omega
theorem newton_ge {n x : Int} (hn : 0 ≤ n) (hx : 0 < x) : isq n ≤ (x + n / x) / 2 := by
  have h1 := isq_le hn
  generalize isq n = s at *
  have h2 : 0 ≤ (x - s) * (x - s) := by
    rcases Int.le_total 0 (x - s) with h | h
    · exact Int.mul_nonneg h h
    · have := Int.mul_nonneg (show (0:Int) ≤ -(x - s) by omega) (show (0:Int) ≤ -(x - s) by omega)
      rwa [Int.neg_mul_neg] at this
  have h3 : (x - s) * (x - s) = x * x - 2 * (s * x) + s * s := by
    rw [Int.sub_mul, Int.mul_sub, Int.mul_sub, Int.mul_comm x s]; omega
  have h4 : (2 * s - x) * x ≤ n := by
    have e : (2 * s - x) * x = 2 * (s * x) - x * x := by rw [Int.sub_mul, Int.mul_assoc]
    omega
  have h5 : 2 * s - x ≤ n / x := (Int.le_ediv_iff_mul_le hx).mpr h4
  omega
theorem newton_end {n x : Int} (hx : 0 < x) (h : x ≤ (x + n / x) / 2) : x * x ≤ n := by
  have h1 : x ≤ n / x := by omega
  exact (Int.le_ediv_iff_mul_le hx).mp h1
theorem sq_big {n x : Int} (hn : 0 ≤ n) (hx : 0 ≤ x) (h : n < x * x) : isq n ≤ x := by
  have h1 := isq_le hn
  have := lt_of_sq hx (by omega : isq n * isq n < x * x)
  omega
/-! ### common divisors -/
end DL
namespace DL
open PySem PySem.Spec PyProof.Rows L2
theorem gIn_two {i a b : Int} {M : Mem} {Q : DQ} : gIn false (.int i) (.lst [.int a, .int b]) M Q = Q (.bl (i == a || i == b)) M := by
  show Q (.bl ((a == i || (b == i || false)) != false)) M = _
  have e : ((a == i || (b == i || false)) != false) = (i == a || i == b) := by
    rw [Bool.bne_false, Bool.or_false, Bool.beq_comm (a := a), Bool.beq_comm (a := b)]
  rw [e]
theorem gRepr_bl {b : Bool} {M : Mem} {Q : DQ} : gRepr [.bl b] M Q = Q (.str (PyData.shown (.bool b))) M := by
  cases b <;> rfl
local macro_rules | `(tactic| walk_at "rd") => `(tactic| simp only [startD, List.map, List.replicate, List.length_cons, List.length_nil, List.append_eq, List.append_nil, List.nil_append, List.cons_append, Nat.reduceSub, Nat.reduceAdd, List.getElem?_cons_zero, List.getElem?_cons_succ, List.set_cons_zero, List.set_cons_succ,
  dC, dVar, dOp, dTru, gTru, tru, dChain, dAnd, dOr, dNot, dAndV, dOrV, dNotV, dIf, dNeg, gNeg, dNil, dCons, dTup, dLst, dOwn, gIx, rBin, gAdd, gCmpI, dCall, dCallK, dSeq, dNext, dDrop, dRet, dRetN, dIfS, dName, dGNil, dGCons, dGTup, dSub, gSetL, dAsg, dPar, dPar3, dAug, gIpI, dSeqI, gSeqI, dRngI, gRng1, gRng2, dCB, gAbs, gInt, gMax, gMin, gGcd, gLen, lenD, gIsi, tyM, tyD, dBits, gBits, dMet, gAppend, dPart, dNoPart, dSl, dEnds, gIs, isB, dNever, dFor, dLc, wipeD, dYes,
  sizeLine_eq, Nat.reduceLeDiff, gEq_int, gNe_int, gEq_strs, gNe_strs, gIn_two, gRepr_bl, rs_lst, rs_tup, rs_scr, rs_int, atI_0, atI_1, atI_2, atI_3, atI_4, atI_5, ixN_30, ixN_31, ixN_32, gEq_bl, gNe_bl, decide_eq_true_eq, beq_iff_eq, Bool.not_eq_true', beq_eq_false_iff_ne, decide_eq_false_iff_not, Bool.not_true, Bool.not_false, if_true, if_false, Bool.false_eq_true, ite_true, ite_false, true_and, and_true, ne_eq, Bool.bne_false, Bool.bne_true, reduceCtorEq])
/-! ### sizes -/
theorem sm_big {i : Int} (h1 : -BIG ≤ i) (h2 : i ≤ BIG) : Sm i := by
  have := log_of_big h1 h2
  unfold Sm; omega
theorem sm_big8 {i : Int} (h1 : -(8 * BIG) ≤ i) (h2 : i ≤ 8 * BIG) : Sm i := by
  refine Sm.of 4004 ?_ (by decide)
  have h3 : (2 : Nat) ^ 4004 = 16 * BIGN := by unfold BIGN; rw [Nat.pow_add 2 4000 4, Nat.mul_comm]
  have h4 := bign_pos
  rw [h3]
  unfold BIG at h1 h2
  omega
theorem cdiv_big {a i : Int} (h0 : i ≠ 0) (h1 : -(8 * BIG) ≤ i) (h2 : i ≤ 8 * BIG) : CDiv a i := by
  refine ⟨h0, Nat.lt_of_lt_of_le (log2_of 4004 ?_ (by decide)) (by decide)⟩
  have h3 : (2 : Nat) ^ 4004 = 16 * BIGN := by unfold BIGN; rw [Nat.pow_add 2 4000 4, Nat.mul_comm]
  have h4 := bign_pos
  rw [h3]
  unfold BIG at h1 h2
  omega
theorem fdiv_pos {a b : Int} (h : 0 < b) : a.fdiv b = a / b := Int.fdiv_eq_ediv_of_nonneg a (Int.le_of_lt h)
theorem fmod_pos {a b : Int} (h : 0 < b) : a.fmod b = a % b := Int.fmod_eq_emod_of_nonneg a (Int.le_of_lt h)
/-! ### kinds -/
theorem kb_NoneType_int : kitB "NoneType" "int" = some false := by decide +kernel
theorem kb_bool_int : kitB "bool" "int" = some true := by decide +kernel
theorem kb_int_int : kitB "int" "int" = some true := by decide +kernel
theorem kb_str_int : kitB "str" "int" = some false := by decide +kernel
theorem kb_tuple_int : kitB "tuple" "int" = some false := by decide +kernel
theorem kb_list_int : kitB "list" "int" = some false := by decide +kernel
theorem kb_dict_int : kitB "dict" "int" = some false := by decide +kernel
theorem kb_NoneType_bool : kitB "NoneType" "bool" = some false := by decide +kernel
theorem kb_bool_bool : kitB "bool" "bool" = some true := by decide +kernel
theorem kb_int_bool : kitB "int" "bool" = some false := by decide +kernel
theorem kb_str_bool : kitB "str" "bool" = some false := by decide +kernel
theorem kb_tuple_bool : kitB "tuple" "bool" = some false := by decide +kernel
theorem kb_list_bool : kitB "list" "bool" = some false := by decide +kernel
theorem kb_dict_bool : kitB "dict" "bool" = some false := by decide +kernel
theorem kb_NoneType_tuple : kitB "NoneType" "tuple" = some false := by decide +kernel
theorem kb_bool_tuple : kitB "bool" "tuple" = some false := by decide +kernel
theorem kb_int_tuple : kitB "int" "tuple" = some false := by decide +kernel
theorem kb_str_tuple : kitB "str" "tuple" = some false := by decide +kernel
theorem kb_tuple_tuple : kitB "tuple" "tuple" = some true := by decide +kernel
theorem kb_list_tuple : kitB "list" "tuple" = some false := by decide +kernel
theorem kb_dict_tuple : kitB "dict" "tuple" = some false := by decide +kernel
theorem kb_NoneType_list : kitB "NoneType" "list" = some false := by decide +kernel
theorem kb_bool_list : kitB "bool" "list" = some false := by decide +kernel
theorem kb_int_list : kitB "int" "list" = some false := by decide +kernel
theorem kb_str_list : kitB "str" "list" = some false := by decide +kernel
theorem kb_tuple_list : kitB "tuple" "list" = some false := by decide +kernel
theorem kb_list_list : kitB "list" "list" = some true := by decide +kernel
theorem kb_dict_list : kitB "dict" "list" = some false := by decide +kernel
local macro_rules | `(tactic| walk_at "kb") => `(tactic| simp only [kb_NoneType_list, kb_bool_list, kb_int_list, kb_str_list, kb_tuple_list, kb_list_list, kb_dict_list, kb_NoneType_int, kb_bool_int, kb_int_int, kb_str_int, kb_tuple_int, kb_list_int, kb_dict_int, kb_NoneType_bool, kb_bool_bool, kb_int_bool, kb_str_bool, kb_tuple_bool, kb_list_bool, kb_dict_bool, kb_NoneType_tuple, kb_bool_tuple, kb_int_tuple, kb_str_tuple, kb_tuple_tuple, kb_list_tuple, kb_dict_tuple, if_true, if_false, Bool.false_eq_true, ite_true, ite_false, Bool.not_true, Bool.not_false])
/-! ### measures -/
def isW : D → Bool
  | .int _ => true
  | _ => false
/-- is_whole(d), d any data -/
def sp_is_whole : DSp := fun ds M Q _ => ∃ d T, ds = [d] ∧ tyM M d = some T ∧ Q (.bl (isW d)) M
theorem rd_is_whole : ∀ ds M Q, ds.length = 1 → sp_is_whole ds M Q DX0 → t_is_whole (dEnds M Q) (startD 1 ds) M := by
  rintro _ M Q _ ⟨d, T, rfl, ht, q⟩
  unfold t_is_whole
  cases d <;> first | (cases ht; done) | skip
  all_goals walk_at "rd"
  case own k =>
    unfold tyM at ht
    dsimp only at ht
    split at ht
    · rename_i ds hk
      simp only [hk]
      walk_at "kb"
      exact rtq q
    · cases ht
  all_goals walk_at "kb"
  all_goals exact rtq q
/-- the whole root of a count -/
def sp_isq : DSp := fun ds M Q _ => ∃ n : Int, ds = [.int n] ∧ 0 ≤ n ∧ n ≤ BIG ∧ Q (.int (isq n)) M
theorem rd_root_floor_by : ∀ ds M Q, ds.length = 1 → sp_isq ds M Q DX0 → t_root_floor_by (dEnds M Q) (startD 3 ds) M := by
  rintro _ M Q _ ⟨n, rfl, h0, hB, q⟩
  unfold t_root_floor_by
  walk_at "rd"
  split
  · rename_i h2
    have : isq n = n := by
      rcases (by omega : n = 0 ∨ n = 1) with e | e <;> subst e
      · exact isq_self (r := 0) (by decide)
      · exact isq_self (r := 1) (by decide)
    rw [this] at q
    exact rtq q
  · rename_i h2
    refine dwhile_of (fun m r M' => ∃ f : Int, r = [some (.int n), some (.int f), none] ∧ M' = M ∧ 1 ≤ f ∧ f ≤ 2 * n ∧ m = (2 * n + 2 - f).toNat) _ ⟨1, rfl, rfl, by omega, by omega, rfl⟩ ?_
    rintro m r M' ⟨f, rfl, rfl, hf, hf2, rfl⟩
    walk_at "rd"
    have sf : Sm f := sm_big8 (by omega) (by omega)
    refine ⟨⟨sf, sf⟩, ?_⟩
    split
    · rename_i hc
      refine ⟨⟨Sm.of 4 (by decide), sf⟩, _, ?_, 2 * f, rfl, by omega, ?_, rfl⟩
      · have : f * 1 ≤ f * f := Int.mul_le_mul_of_nonneg_left hf (by omega)
        omega
      · have : f * 1 ≤ f * f := Int.mul_le_mul_of_nonneg_left hf (by omega)
        omega
    · rename_i hc
      have dv : ∀ x : Int, 1 ≤ x → x ≤ 2 * n → CDiv n x := fun x h1 h3 => cdiv_big (by omega) (by omega) (by omega)
      have d2 : ∀ x : Int, CDiv x 2 := fun x => ⟨by decide, by decide⟩
      refine ⟨dv f hf hf2, d2 _, ?_⟩
      refine dwhile_of (fun m r M'' => ∃ x : Int, r = [some (.int n), some (.int x), some (.int ((x + n.fdiv x).fdiv 2))] ∧ M'' = M' ∧ 1 ≤ x ∧ x ≤ 2 * n ∧ isq n ≤ x ∧ m = x.toNat) _ ⟨f, rfl, rfl, hf, hf2, sq_big h0 (by omega) (by omega), rfl⟩ ?_
      rintro m r M'' ⟨x, rfl, rfl, hx, hx2, hs, rfl⟩
      walk_at "rd"
      have e1 : n.fdiv x = n / x := fdiv_pos (by omega)
      have e2 : ∀ y : Int, y.fdiv 2 = y / 2 := fun y => fdiv_pos (by decide)
      rw [e2, e1]
      have ng := newton_ge h0 (x := x) (by omega)
      have h1q : 1 ≤ isq n := by
        by_cases z : 1 ≤ isq n
        · exact z
        · have e : isq n = 0 := by have := isq_nn n; omega
          have := isq_lt h0
          rw [e] at this
          omega
      split
      · rename_i hlt
        refine ⟨dv _ (by omega) (by omega), d2 _, _, ?_, (x + n / x) / 2, ?_, by omega, by omega, ng, rfl⟩
        · omega
        · rw [e2]
      · rename_i hge
        have e : isq n = x := isq_uni (by omega) (newton_end (by omega) (by omega)) (by
          have h3 := isq_lt h0
          have : (isq n + 1) * (isq n + 1) ≤ (x + 1) * (x + 1) := sq_le (by omega) (by omega)
          omega)
        rw [e] at q
        exact rtq q
end DL
namespace DL
open PySem PySem.Spec PyProof.Rows L2
local macro_rules | `(tactic| walk_at "rd") => `(tactic| simp only [startD, List.map, List.replicate, List.length_cons, List.length_nil, List.append_eq, List.append_nil, List.nil_append, List.cons_append, Nat.reduceSub, Nat.reduceAdd, List.getElem?_cons_zero, List.getElem?_cons_succ, List.set_cons_zero, List.set_cons_succ,
  dC, dVar, dOp, dTru, gTru, tru, dChain, dAnd, dOr, dNot, dAndV, dOrV, dNotV, dIf, dNeg, gNeg, dNil, dCons, dTup, dLst, dOwn, gIx, rBin, gAdd, gCmpI, dCall, dCallK, dSeq, dNext, dDrop, dRet, dRetN, dIfS, dName, dGNil, dGCons, dGTup, dSub, gSetL, dAsg, dPar, dPar3, dAug, gIpI, dSeqI, gSeqI, dRngI, gRng1, gRng2, dCB, gAbs, gInt, gMax, gMin, gGcd, gLen, lenD, gIsi, tyM, tyD, dBits, gBits, dMet, gAppend, dPart, dNoPart, dSl, dEnds, gIs, isB, dNever, dFor, dLc, wipeD, dYes,
  sizeLine_eq, Nat.reduceLeDiff, gEq_int, gNe_int, gEq_strs, gNe_strs, gIn_two, gRepr_bl, rs_lst, rs_tup, rs_scr, rs_int, atI_0, atI_1, atI_2, atI_3, atI_4, atI_5, ixN_30, ixN_31, ixN_32, gEq_bl, gNe_bl, decide_eq_true_eq, beq_iff_eq, Bool.not_eq_true', beq_eq_false_iff_ne, decide_eq_false_iff_not, Bool.not_true, Bool.not_false, if_true, if_false, Bool.false_eq_true, ite_true, ite_false, true_and, and_true, ne_eq, Bool.bne_false, Bool.bne_true, reduceCtorEq])
local macro_rules | `(tactic| walk_at "rh") => `(tactic| simp only [*, startD, List.map, List.replicate, List.length_cons, List.length_nil, List.append_eq, List.append_nil, List.nil_append, List.cons_append, Nat.reduceSub, Nat.reduceAdd, List.getElem?_cons_zero, List.getElem?_cons_succ, List.set_cons_zero, List.set_cons_succ,
  dC, dVar, dOp, dTru, gTru, tru, dChain, dAnd, dOr, dNot, dAndV, dOrV, dNotV, dIf, dNeg, gNeg, dNil, dCons, dTup, dLst, dOwn, gIx, rBin, gAdd, gCmpI, dCall, dCallK, dSeq, dNext, dDrop, dRet, dRetN, dIfS, dName, dGNil, dGCons, dGTup, dSub, gSetL, dAsg, dPar, dPar3, dAug, gIpI, dSeqI, gSeqI, dRngI, gRng1, gRng2, dCB, gAbs, gInt, gMax, gMin, gGcd, gLen, lenD, gIsi, tyM, tyD, dBits, gBits, dMet, gAppend, dPart, dNoPart, dSl, dEnds, gIs, isB, dNever, dFor, dLc, wipeD, dYes,
  sizeLine_eq, Nat.reduceLeDiff, gEq_int, gNe_int, gEq_strs, gNe_strs, gIn_two, gRepr_bl, rs_lst, rs_tup, rs_scr, rs_int, atI_0, atI_1, atI_2, atI_3, atI_4, atI_5, ixN_30, ixN_31, ixN_32, gEq_bl, gNe_bl, decide_eq_true_eq, beq_iff_eq, Bool.not_eq_true', beq_eq_false_iff_ne, decide_eq_false_iff_not, Bool.not_true, Bool.not_false, if_true, if_false, Bool.false_eq_true, ite_true, ite_false, true_and, and_true, ne_eq, Bool.bne_false, Bool.bne_true, reduceCtorEq])
local macro_rules | `(tactic| walk_at "kb") => `(tactic| simp only [kb_NoneType_list, kb_bool_list, kb_int_list, kb_str_list, kb_tuple_list, kb_list_list, kb_dict_list, kb_NoneType_int, kb_bool_int, kb_int_int, kb_str_int, kb_tuple_int, kb_list_int, kb_dict_int, kb_NoneType_bool, kb_bool_bool, kb_int_bool, kb_str_bool, kb_tuple_bool, kb_list_bool, kb_dict_bool, kb_NoneType_tuple, kb_bool_tuple, kb_int_tuple, kb_str_tuple, kb_tuple_tuple, kb_list_tuple, kb_dict_tuple, if_true, if_false, Bool.false_eq_true, ite_true, ite_false, Bool.not_true, Bool.not_false])
/-! ### bounds and measures -/
def btw (d : D) (lo : Int) (hi : D) : Bool := match d with
  | .int i => decide (lo ≤ i) && (match hi with | .int h => decide (i ≤ h) | _ => true)
  | _ => false
def sp_is_between : DSp := fun ds M Q _ => ∃ d lo hi T, ds = [d, .int lo, hi] ∧ tyM M d = some T ∧ (hi = .non ∨ ∃ h, hi = .int h) ∧ Q (.bl (btw d lo hi)) M
theorem rd_is_between : ∀ ds M Q, ds.length = 3 → sp_is_between ds M Q DX0 → t_is_between sp_is_whole (dEnds M Q) (startD 3 ds) M := by
  rintro _ M Q - ⟨d, lo, hi, T, rfl, ht, hh, q⟩
  unfold t_is_between
  walk_at "rd"
  refine ⟨d, T, rfl, ht, ?_⟩
  cases d <;> first | (simp only [isW, Bool.false_eq_true, if_false]; exact rtq q) | skip
  simp only [isW, if_true]
  by_cases h1 : lo ≤ (‹Int› : Int)
  · simp only [h1, if_true]
    rcases hh with rfl | ⟨h, rfl⟩
    · walk_at "rd"
      simp only [btw, h1, decide_true, Bool.and_true] at q
      exact rtq q
    · walk_at "rd"
      simp only [btw, h1, decide_true, Bool.true_and] at q
      exact rtq q
  · simp only [h1, if_false]
    simp only [btw, h1, decide_false, Bool.false_and] at q
    exact rtq q
def isMeas (d : D) : Bool := match d with
  | .int i => decide (5 ≤ i) && (i % 4 == 0 || i % 4 == 1)
  | _ => false
def sp_is_measure : DSp := fun ds M Q _ => ∃ d T, ds = [d] ∧ tyM M d = some T ∧ Q (.bl (isMeas d)) M
theorem rd_is_measure_by : ∀ ds M Q, ds.length = 1 → sp_is_measure ds M Q DX0 → t_is_measure_by sp_is_between (dEnds M Q) (startD 1 ds) M := by
  rintro _ M Q - ⟨d, T, rfl, ht, q⟩
  unfold t_is_measure_by
  walk_at "rd"
  refine ⟨d, 5, .non, T, rfl, ht, .inl rfl, ?_⟩
  cases d <;> first | (simp only [btw, Bool.false_eq_true, if_false]; exact rtq q) | skip
  rename_i i
  simp only [btw, Bool.and_true, decide_eq_true_eq]
  by_cases h1 : 5 ≤ i
  · simp only [h1, if_true]
    refine ⟨(by decide : (4 : Int) ≠ 0), ?_⟩
    simp only [isMeas, h1, decide_true, Bool.true_and] at q
    rw [fmod_pos (by decide)]
    exact rtq q
  · simp only [h1, if_false]
    simp only [isMeas, h1, decide_false, Bool.false_and] at q
    exact rtq q
/-! ### root numbers -/
/-! ### the least form of a root number -/
theorem meas_ge {m : Int} (h : isMeas (.int m) = true) : 5 ≤ m := by
  simp only [isMeas, Bool.and_eq_true, decide_eq_true_eq] at h
  exact h.1
end DL
namespace DL
open PySem PySem.Spec PyProof.Rows L2
local macro_rules | `(tactic| walk_at "rd") => `(tactic| simp only [startD, List.map, List.replicate, List.length_cons, List.length_nil, List.append_eq, List.append_nil, List.nil_append, List.cons_append, Nat.reduceSub, Nat.reduceAdd, List.getElem?_cons_zero, List.getElem?_cons_succ, List.set_cons_zero, List.set_cons_succ,
  dC, dVar, dOp, dTru, gTru, tru, dChain, dAnd, dOr, dNot, dAndV, dOrV, dNotV, dIf, dNeg, gNeg, dNil, dCons, dTup, dLst, dOwn, gIx, rBin, gAdd, gCmpI, dCall, dCallK, dSeq, dNext, dDrop, dRet, dRetN, dIfS, dName, dGNil, dGCons, dGTup, dSub, gSetL, dAsg, dPar, dPar3, dAug, gIpI, dSeqI, gSeqI, dRngI, gRng1, gRng2, dCB, gAbs, gInt, gMax, gMin, gGcd, gLen, lenD, gIsi, tyM, tyD, dBits, gBits, dMet, gAppend, dPart, dNoPart, dSl, dEnds, gIs, isB, dNever, dFor, dLc, wipeD, dYes,
  sizeLine_eq, Nat.reduceLeDiff, gEq_int, gNe_int, gEq_strs, gNe_strs, gIn_two, gRepr_bl, rs_lst, rs_tup, rs_scr, rs_int, atI_0, atI_1, atI_2, atI_3, atI_4, atI_5, ixN_30, ixN_31, ixN_32, gEq_bl, gNe_bl, decide_eq_true_eq, beq_iff_eq, Bool.not_eq_true', beq_eq_false_iff_ne, decide_eq_false_iff_not, Bool.not_true, Bool.not_false, if_true, if_false, Bool.false_eq_true, ite_true, ite_false, true_and, and_true, ne_eq, Bool.bne_false, Bool.bne_true, reduceCtorEq])
local macro_rules | `(tactic| walk_at "rh") => `(tactic| simp only [*, startD, List.map, List.replicate, List.length_cons, List.length_nil, List.append_eq, List.append_nil, List.nil_append, List.cons_append, Nat.reduceSub, Nat.reduceAdd, List.getElem?_cons_zero, List.getElem?_cons_succ, List.set_cons_zero, List.set_cons_succ,
  dC, dVar, dOp, dTru, gTru, tru, dChain, dAnd, dOr, dNot, dAndV, dOrV, dNotV, dIf, dNeg, gNeg, dNil, dCons, dTup, dLst, dOwn, gIx, rBin, gAdd, gCmpI, dCall, dCallK, dSeq, dNext, dDrop, dRet, dRetN, dIfS, dName, dGNil, dGCons, dGTup, dSub, gSetL, dAsg, dPar, dPar3, dAug, gIpI, dSeqI, gSeqI, dRngI, gRng1, gRng2, dCB, gAbs, gInt, gMax, gMin, gGcd, gLen, lenD, gIsi, tyM, tyD, dBits, gBits, dMet, gAppend, dPart, dNoPart, dSl, dEnds, gIs, isB, dNever, dFor, dLc, wipeD, dYes,
  sizeLine_eq, Nat.reduceLeDiff, gEq_int, gNe_int, gEq_strs, gNe_strs, gIn_two, gRepr_bl, rs_lst, rs_tup, rs_scr, rs_int, atI_0, atI_1, atI_2, atI_3, atI_4, atI_5, ixN_30, ixN_31, ixN_32, gEq_bl, gNe_bl, decide_eq_true_eq, beq_iff_eq, Bool.not_eq_true', beq_eq_false_iff_ne, decide_eq_false_iff_not, Bool.not_true, Bool.not_false, if_true, if_false, Bool.false_eq_true, ite_true, ite_false, true_and, and_true, ne_eq, Bool.bne_false, Bool.bne_true, reduceCtorEq])
local macro_rules | `(tactic| walk_at "kb") => `(tactic| simp only [kb_NoneType_list, kb_bool_list, kb_int_list, kb_str_list, kb_tuple_list, kb_list_list, kb_dict_list, kb_NoneType_int, kb_bool_int, kb_int_int, kb_str_int, kb_tuple_int, kb_list_int, kb_dict_int, kb_NoneType_bool, kb_bool_bool, kb_int_bool, kb_str_bool, kb_tuple_bool, kb_list_bool, kb_dict_bool, kb_NoneType_tuple, kb_bool_tuple, kb_int_tuple, kb_str_tuple, kb_tuple_tuple, kb_list_tuple, kb_dict_tuple, if_true, if_false, Bool.false_eq_true, ite_true, ite_false, Bool.not_true, Bool.not_false])
/-! ### the law's own draws -/
theorem sm_of {i : Int} (n : Nat) (h1 : -(2 ^ n : Int) < i) (h2 : i < 2 ^ n) (hn : n ≤ 400000 := by decide) : Sm i := by
  refine Sm.of n ?_ hn
  have e : ((2 ^ n : Nat) : Int) = (2 : Int) ^ n := by rw [Int.natCast_pow]; rfl
  omega
theorem fm_range {a b : Int} (h : 0 < b) : 0 ≤ a.fmod b ∧ a.fmod b < b := by
  rw [fmod_pos h]
  exact ⟨Int.emod_nonneg _ (by omega), Int.emod_lt_of_pos _ h⟩
def P31 : Int := 2147483648
def P40 : Int := 1099511627776
def sp_hash : DSp := fun ds M Q _ => ∃ s c : Int, ds = [.int s, .int c] ∧ 0 ≤ s ∧ s < P31 ∧ 0 ≤ c ∧ c ≤ P40 ∧ ∀ v, 0 ≤ v → v < P31 → Q (.int v) M
theorem rd_l_hash_9cde : ∀ ds M Q, ds.length = 2 → sp_hash ds M Q DX0 → t_l_hash_9cde (dEnds M Q) (startD 3 ds) M := by
  rintro _ M Q - ⟨s, c, rfl, s0, s1, c0, c1, q⟩
  unfold P31 P40 at *
  unfold t_l_hash_9cde
  walk_at "rd"
  have ss : Sm s := sm_of 32 (by omega) (by omega)
  have sc : Sm c := sm_of 42 (by omega) (by omega)
  have hm : ∀ a : Int, 0 ≤ a.fmod 2147483629 ∧ a.fmod 2147483629 < 2147483629 := fun a => fm_range (by decide)
  have k1 : Sm (16777259 * c) := sm_of 72 (by omega) (by omega)
  refine ⟨⟨ss, sm_of 32 (by decide) (by decide)⟩, ⟨sm_of 32 (by decide) (by decide), sc⟩, ⟨k1, sc⟩, ⟨sm_of 32 (by decide) (by decide), sc⟩, (by decide : (2147483629 : Int) ≠ 0), ?_⟩
  generalize hv : Int.fmod _ 2147483629 = v
  have v1 : 0 ≤ v ∧ v < 2147483629 := by rw [← hv]; exact hm _
  have sv : Sm v := sm_of 32 (by omega) (by omega)
  refine ⟨⟨sv, sv⟩, ⟨sm_of 32 (by decide) (by decide), sc⟩, (by decide : (2147483587 : Int) ≠ 0), ?_⟩
  generalize hw : Int.fmod _ 2147483587 = w
  have w1 : 0 ≤ w ∧ w < 2147483587 := by rw [← hw]; exact fm_range (by decide)
  refine ⟨⟨sm_of 32 (by omega) (by omega), sm_of 32 (by decide) (by decide)⟩, (by decide : (2147483647 : Int) ≠ 0), ?_⟩
  have r1 : 0 ≤ (w * 69069).fmod 2147483647 ∧ (w * 69069).fmod 2147483647 < 2147483647 := fm_range (by decide)
  exact rtq (q _ r1.1 (by omega))
/-- cell k is a generator that has counted n, at most -/
def Gn (k : Nat) (n : Int) (M : Mem) : Prop := ∃ a s c : Int, M[k]? = some (.lst [.int a, .int s, .int c]) ∧ 0 ≤ s ∧ s < P31 ∧ 0 ≤ c ∧ c ≤ n
/-- cell k alone has changed -/
def Gst (k : Nat) (n : Int) (M M' : Mem) : Prop := M'.length = M.length ∧ Gn k n M' ∧ ∀ i, i ≠ k → M'[i]? = M[i]?
theorem Gn.le {k : Nat} {n m : Int} {M : Mem} (h : Gn k n M) (hn : n ≤ m) : Gn k m M := by
  obtain ⟨a, s, c, h1, h2, h3, h4, h5⟩ := h
  exact ⟨a, s, c, h1, h2, h3, h4, by omega⟩
theorem Gst.refl {k : Nat} {n : Int} {M : Mem} (h : Gn k n M) : Gst k n M M := ⟨rfl, h, fun _ _ => rfl⟩
theorem Gst.trans {k : Nat} {n m : Int} {M M' M'' : Mem} (h : Gst k n M M') (g : Gst k m M' M'') : Gst k m M M'' :=
  ⟨g.1.trans h.1, g.2.1, fun i hi => (g.2.2 i hi).trans (h.2.2 i hi)⟩
theorem Gst.le {k : Nat} {n m : Int} {M M' : Mem} (h : Gst k n M M') (hn : n ≤ m) : Gst k m M M' := ⟨h.1, h.2.1.le hn, h.2.2⟩
theorem Gst.set {k : Nat} {n : Int} {M : Mem} {a s c : Int} (hk : k < M.length) (h2 : 0 ≤ s) (h3 : s < P31) (h4 : 0 ≤ c) (h5 : c ≤ n) : Gst k n M (M.set k (.lst [.int a, .int s, .int c])) :=
  ⟨List.length_set, ⟨a, s, c, List.getElem?_set_self hk, h2, h3, h4, h5⟩, fun _ hi => List.getElem?_set_ne (Ne.symm hi)⟩
/-- a def that has changed the generator alone -/
theorem Gst.rtq {k : Nat} {n : Int} {M M' : Mem} {Q : DQ} {d : D} (h : Gst k n M M') (q : Q d M') (hb : below M'.length d = true := by rfl) : Rtq M Q d M' := by
  refine rtqC q (Nat.le_of_eq h.1.symm) hb fun i c hc => ?_
  by_cases hi : i = k
  · subst hi
    obtain ⟨a, s, c', e, _⟩ := h.2.1
    rw [e] at hc
    cases hc
    exact .inr rfl
  · rw [h.2.2 i hi] at hc
    exact .inl hc
def sp_random : DSp := fun ds M Q _ => ∃ (k : Nat) (b n : Int), ds = [.own k, .int b] ∧ 0 < b ∧ b < 2 ^ 900 ∧ Gn k n M ∧ n ≤ P40 - 40 ∧ ∀ v M', 0 ≤ v → v < b → Gst k (n + 40) M M' → Q (.int v) M'
theorem bits_le {b : Int} {n : Nat} (h0 : 0 < b) (h : b < 2 ^ n) : Builtin.Int.intBits b ≤ n := by
  unfold Builtin.Int.intBits
  rw [if_neg (by simp; omega)]
  have h1 : b.natAbs < 2 ^ n := by
    have e : ((2 ^ n : Nat) : Int) = (2 : Int) ^ n := by rw [Int.natCast_pow]; rfl
    omega
  have := (Nat.log2_lt (by omega)).mpr h1
  omega
theorem rd_l_random_7821 : ∀ ds M Q, ds.length = 2 → sp_random ds M Q DX0 → t_l_random_7821 sp_hash (dEnds M Q) (startD 4 ds) M := by
  rintro _ M Q - ⟨k, b, n, rfl, b0, b1, ⟨a, s, c, hk, s0, s1, c0, c1⟩, hn, q⟩
  have kl : k < M.length := (List.getElem?_eq_some_iff.mp hk).1
  unfold t_l_random_7821
  walk_at "rd"
  have e0 : res M (.own k) = .lst [.int a, .int s, .int c] := by unfold res; dsimp only; rw [hk]
  simp only [e0, hk]
  walk_at "rd"
  by_cases ha : 0 < a
  · rw [if_pos ha]
    have := fm_range (a := a) b0
    refine ⟨(by omega : b ≠ 0), ⟨by omega, Nat.lt_of_lt_of_le (log2_of 900 (by
      have e : ((2 ^ 900 : Nat) : Int) = (2 : Int) ^ 900 := by rw [Int.natCast_pow]; rfl
      omega) (by decide)) (by decide)⟩, ?_⟩
    exact (Gst.set kl s0 s1 c0 (by omega)).rtq (q _ _ this.1 this.2 (Gst.set kl s0 s1 c0 (by omega)))
  · rw [if_neg ha]
    have hb := bits_le b0 b1
    generalize hbits : Builtin.Int.intBits b = bits at hb
    have ef : ((bits : Nat) : Int).fdiv 30 = (bits / 30 : Nat) := by rw [fdiv_pos (by decide)]; omega
    rw [ef]
    refine ⟨⟨by decide, by decide⟩, ⟨by omega, by omega⟩, ?_⟩
    have eT : (1 + ((bits / 30 : Nat) : Int)).toNat = 1 + bits / 30 := by omega
    rw [eT]
    generalize hT : 1 + bits / 30 = T
    have hT1 : T ≤ 31 := by omega
    refine ⟨fun i r M' => i ≤ T ∧ Gst k (n + i) M M' ∧ ∃ dr tn, r = [some (.own k), some (.int b), some (.int dr), tn] ∧ 0 ≤ dr ∧ dr < 2 ^ (32 * i), ⟨by omega, ⟨rfl, ⟨a, s, c, hk, s0, s1, c0, by omega⟩, fun _ _ => rfl⟩, 0, _, rfl, by decide, by decide⟩, ?_⟩
    rintro i r M' ⟨hi, hg, dr, tn, rfl, d0, d1⟩
    refine ⟨trivial, fun hl => ?_, fun d hd => ?_⟩
    · walk_at "rd"
      have := fm_range (a := dr) b0
      exact ⟨(by omega : b ≠ 0), hg.rtq (q _ _ this.1 this.2 (hg.le (by omega)))⟩
    · obtain ⟨hi2, rfl⟩ := rng_get.mp hd
      obtain ⟨a', s', c', hk', s0', s1', c0', c1'⟩ := hg.2.1
      have kl' : k < M'.length := (List.getElem?_eq_some_iff.mp hk').1
      have e1 : res M' (.own k) = .lst [.int a', .int s', .int c'] := by unfold res; dsimp only; rw [hk']
      walk_at "rd"
      simp only [e1, hk']
      walk_at "rd"
      have e2 : res (M'.set k (.lst [.int a', .int s', .int (c' + 1)])) (.own k) = .lst [.int a', .int s', .int (c' + 1)] := by unfold res; dsimp only; rw [List.getElem?_set_self kl']
      simp only [e2]
      walk_at "rd"
      have sd : Sm dr := sm_of (32 * i) (by have := Int.pow_pos (n := 2) (m := 32 * i) (by decide); omega) d1 (by omega)
      unfold P40 at hn
      refine ⟨⟨sd, sm_of 32 (by decide) (by decide)⟩, s', c' + 1, rfl, s0', s1', by omega, by unfold P40; omega, fun v v0 v1 => ?_⟩
      refine ⟨by omega, hg.trans (Gst.set kl' s0' s1' (by omega) (by omega)), _, _, rfl, by omega, ?_⟩
      unfold P31 at v1
      have e3 : (2 : Int) ^ (32 * (i + 1)) = 2 ^ (32 * i) * 4294967296 := by rw [Nat.mul_add, Int.pow_add]; rfl
      rw [e3]
      omega
def sp_cell : DSp := fun ds M Q _ => ∃ (ns : List Int) (i : Int), ds = [.scr ns, .int i] ∧ 0 ≤ i ∧ ∀ v, Q (.int v) M
theorem rd_l_cell_cf3b : ∀ ds M Q, ds.length = 2 → sp_cell ds M Q DX0 → t_l_cell_cf3b (dEnds M Q) (startD 2 ds) M := by
  rintro _ M Q - ⟨ns, i, rfl, i0, q⟩
  unfold t_l_cell_cf3b
  walk_at "rd"
  by_cases hi : i < (ns.length : Nat)
  · rw [if_pos hi]
    have e : i = (i.toNat : Nat) := by omega
    have hl : i.toNat < ns.length := by omega
    rw [e, atI_of _ hl, List.getElem?_eq_getElem hl]
    exact rtq (q _)
  · rw [if_neg hi]
    obtain ⟨xs, ex⟩ := cut_map ns none (some 1)
    unfold gSlL
    walk_at "rd"
    rw [ex]
    unfold gSum
    walk_at "rd"
    rw [intsD_map]
    exact ⟨(by decide : (1000003 : Int) ≠ 0), rtq (q _)⟩
def sp_generator : DSp := fun ds M Q _ => ∃ (ns : List Int) (i : Int), ds = [.scr ns, .int i] ∧ 0 ≤ i ∧ i < P31 ∧ ∀ M', M'.length = M.length + 1 → Gn M.length (1000 * i) M' → (∀ j, j < M.length → M'[j]? = M[j]?) → Q (.own M.length) M'
theorem rd_l_generator_b324 : ∀ ds M Q, ds.length = 2 → sp_generator ds M Q DX0 → t_l_generator_b324 sp_cell (dEnds M Q) (startD 3 ds) M := by
  rintro _ M Q - ⟨ns, i, rfl, i0, i1, q⟩
  unfold t_l_generator_b324
  walk_at "rd"
  refine ⟨ns, i, rfl, i0, fun v => ?_⟩
  dsimp only
  have cp : CPow 10 18 ∧ CPow 10 60 ∧ CPow (10 ^ Int.toNat 60) 10 := by refine ⟨?_, ?_, ?_⟩ <;> (unfold CPow; decide)
  have hi : Sm i := by unfold P31 at i1; exact sm_of 32 (by omega) (by omega)
  refine ⟨cp.1, cp.2.1, cp.2.2, ?_, (by decide : (2147483647 : Int) ≠ 0), ⟨Sm.of 20 (by decide), hi⟩, ?_⟩
  · have h1 : (0 : Int) < (10 ^ Int.toNat 60) ^ Int.toNat 10 := Int.pow_pos (Int.pow_pos (by decide))
    exact fun e => by rw [e] at h1; exact absurd h1 (by decide)
  · have g := fm_range (a := v) (b := 2147483647) (by decide)
    have hl : ∀ c : Own, (M ++ [c])[M.length]? = some c := fun c => by rw [List.getElem?_append_right (Nat.le_refl _), Nat.sub_self]; rfl
    refine rtqC (q _ (by simp) ⟨_, _, _, hl _, g.1, by unfold P31; omega, by omega, Int.le_refl _⟩ fun j hj => List.getElem?_append_left hj) (by simp) (by simp only [below]; exact decide_eq_true (by simp)) fun j c hc => ?_
    by_cases hj : j < M.length
    · rw [List.getElem?_append_left hj] at hc; exact .inl hc
    · have hj2 : j < M.length + 1 := by
        have := (List.getElem?_eq_some_iff.mp hc).1
        simpa using this
      have e : j = M.length := by omega
      subst e
      rw [hl] at hc
      cases hc
      exact .inr rfl
theorem rd_l_root_d754 : ∀ ds M Q, ds.length = 1 → sp_isq ds M Q DX0 → t_l_root_d754 (dEnds M Q) (startD 4 ds) M := by
  rintro _ M Q - ⟨n, rfl, h0, hB, q⟩
  unfold t_l_root_d754
  walk_at "rd"
  refine dwhile_of (fun m r M' => ∃ f : Int, r = [some (.int n), some (.int 0), some (.int f), none] ∧ M' = M ∧ 1 ≤ f ∧ f ≤ 2 * n + 1 ∧ m = (2 * n + 2 - f).toNat) _ ⟨1, rfl, rfl, by omega, by omega, rfl⟩ ?_
  rintro m r M' ⟨f, rfl, rfl, hf, hf2, rfl⟩
  walk_at "rd"
  have sf : Sm f := sm_big8 (by have := big_ge 1; omega) (by have := big_ge 1; omega)
  refine ⟨⟨sf, sf⟩, ?_⟩
  split
  · rename_i hc
    have : f * 1 ≤ f * f := Int.mul_le_mul_of_nonneg_left hf (by omega)
    exact ⟨⟨Sm.of 4 (by decide), sf⟩, _, by omega, 2 * f, rfl, by omega, by omega, rfl⟩
  · rename_i hc
    refine dwhile_of (fun m r M'' => ∃ lo hi : Int, ∃ mi, r = [some (.int n), some (.int lo), some (.int hi), mi] ∧ M'' = M' ∧ 0 ≤ lo ∧ lo < hi ∧ hi ≤ 2 * n + 1 ∧ lo * lo ≤ n ∧ n < hi * hi ∧ m = (hi - lo).toNat) _ ⟨0, f, none, rfl, rfl, by omega, by omega, hf2, by omega, by omega, rfl⟩ ?_
    rintro m r M'' ⟨lo, hi, mi, rfl, rfl, g1, g2, g3, g4, g5, rfl⟩
    walk_at "rd"
    split
    · rename_i hlt
      have e2 : (lo + hi).fdiv 2 = (lo + hi) / 2 := fdiv_pos (by decide)
      rw [e2]
      have sm : Sm ((lo + hi) / 2) := sm_big8 (by have := big_ge 1; omega) (by have := big_ge 1; omega)
      refine ⟨⟨by decide, by decide⟩, ⟨sm, sm⟩, ?_⟩
      split
      · rename_i hm
        exact ⟨_, by omega, (lo + hi) / 2, hi, _, rfl, by omega, by omega, by omega, hm, g5, rfl⟩
      · rename_i hm
        exact ⟨_, by omega, lo, (lo + hi) / 2, _, rfl, by omega, by omega, by omega, g4, by omega, rfl⟩
    · rename_i hge
      have e : hi = lo + 1 := by omega
      subst e
      have e : isq n = lo := isq_uni (by omega) g4 g5
      rw [e] at q
      exact rtq q
def P400 : Int := 2 ^ 400
theorem p400_big : P400 ≤ BIG := by
  unfold P400 BIG BIGN
  have h : (2 : Nat) ^ 400 ≤ 2 ^ 4000 := Nat.pow_le_pow_right (by decide) (by decide)
  have e : ((2 ^ 400 : Nat) : Int) = (2 : Int) ^ 400 := by rw [Int.natCast_pow]; rfl
  omega
theorem p400_900 : P400 < 2 ^ 900 := by
  unfold P400
  have h : (2 : Nat) ^ 400 < 2 ^ 900 := Nat.pow_lt_pow_right (by decide) (by decide)
  have e : ((2 ^ 400 : Nat) : Int) = (2 : Int) ^ 400 := by rw [Int.natCast_pow]; rfl
  have e2 : ((2 ^ 900 : Nat) : Int) = (2 : Int) ^ 900 := by rw [Int.natCast_pow]; rfl
  omega
theorem p400_ten {i : Nat} (h : i ≤ 110) : 5 * (10 : Int) ^ i + 10 ≤ P400 := by
  have h1 : (10 : Int) ^ i ≤ 10 ^ 110 := by
    have h0 : (10 : Nat) ^ i ≤ 10 ^ 110 := Nat.pow_le_pow_right (by decide) h
    have e : ((10 ^ i : Nat) : Int) = (10 : Int) ^ i := by rw [Int.natCast_pow]; rfl
    have e2 : ((10 ^ 110 : Nat) : Int) = (10 : Int) ^ 110 := by rw [Int.natCast_pow]; rfl
    omega
  have h2 : 5 * (10 : Int) ^ 110 + 10 ≤ P400 := by unfold P400; decide +kernel
  omega
def sp_lmeasure : DSp := fun ds M Q _ => ∃ (k : Nat) (f n : Int), ds = [.own k, .int f] ∧ 0 < f ∧ f ≤ 100 ∧ Gn k n M ∧ n ≤ P40 - 400 ∧ ∀ m M', isMeas (.int m) = true → m ≤ 10 ^ (f.toNat + 1) → Gst k (n + 160) M M' → Q (.int m) M'
theorem rd_l_measure_0db7 : ∀ ds M Q, ds.length = 2 → sp_lmeasure ds M Q DX0 → t_l_measure_0db7 sp_random sp_isq (dEnds M Q) (startD 6 ds) M := by
  rintro _ M Q - ⟨k, f, n, rfl, f0, f1, hg, hn, q⟩
  unfold t_l_measure_0db7
  walk_at "rd"
  refine ⟨k, f, n, rfl, f0, by have := p400_900; have := p400_ten (i := 3) (by decide); omega, hg, by omega, fun v M1 v0 v1 g1 => ?_⟩
  walk_at "rd"
  refine ⟨⟨by omega, by omega⟩, ?_⟩
  have eT : (1 + v).toNat ≤ 100 := by omega
  have eF : (1 + v).toNat ≤ f.toNat := by omega
  generalize hT : (1 + v).toNat = T at eT eF
  refine ⟨fun i r M' => i ≤ T ∧ M' = M1 ∧ ∃ b tn, r = [some (.own k), some (.int f), some (.int b), tn, none, none] ∧ 5 ≤ b ∧ b ≤ 5 * 10 ^ i, ⟨by omega, rfl, 5, _, rfl, by omega, by decide⟩, ?_⟩
  rintro i r M' ⟨hi, rfl, b, tn, rfl, b5, b1⟩
  have hp := p400_ten (i := i) (by omega)
  refine ⟨trivial, fun hl => ?_, fun d hd => ?_⟩
  · walk_at "rd"
    refine ⟨k, b, n + 40, rfl, by omega, by have := p400_900; omega, g1.2.1, by omega, fun v2 M2 v20 v21 g2 => ?_⟩
    walk_at "rd"
    refine ⟨k, 6, n + 40 + 40, rfl, by decide, by have := p400_900; have := p400_ten (i := 3) (by decide); omega, g2.2.1, by omega, fun v3 M3 v30 v31 g3 => ?_⟩
    walk_at "rd"
    have hq := isq_le_self (n := 5 + v2) (by omega)
    have hq2 := isq_le (n := 5 + v2) (by omega)
    have hq3 := isq_lt (n := 5 + v2) (by omega)
    have hq0 := isq_nn (5 + v2)
    have hq4 : 2 ≤ isq (5 + v2) := by
      by_cases z : 2 ≤ isq (5 + v2)
      · exact z
      · rcases (by omega : isq (5 + v2) = 0 ∨ isq (5 + v2) = 1) with e | e <;> rw [e] at hq3 <;> omega
    have hq5 : 4 ≤ isq (5 + v2) * isq (5 + v2) := by
      have : 2 * 2 ≤ isq (5 + v2) * isq (5 + v2) := Int.mul_le_mul hq4 hq4 (by decide) hq0
      omega
    have pb := p400_big
    have p9 := p400_900
    have p3 := p400_ten (i := 3) (by decide)
    have pF : 5 * (10 : Int) ^ i + 5 ≤ 10 ^ (f.toNat + 1) := by
      have h0 : (10 : Nat) ^ i ≤ 10 ^ f.toNat := Nat.pow_le_pow_right (by decide) (by omega)
      have h1 : (10 : Nat) ^ (f.toNat + 1) = 10 ^ f.toNat * 10 := by rw [Nat.pow_succ]
      have e : ((10 ^ i : Nat) : Int) = (10 : Int) ^ i := by rw [Int.natCast_pow]; rfl
      have e2 : ((10 ^ (f.toNat + 1) : Nat) : Int) = (10 : Int) ^ (f.toNat + 1) := by rw [Int.natCast_pow]; rfl
      have h3 : 0 < (10 : Nat) ^ i := Nat.pow_pos (by decide)
      omega
    have fin : ∀ N : Int, 4 ≤ N → N ≤ 5 + v2 → ∀ (v4 : Int) M4, 0 ≤ v4 → v4 < 2 → Gst k (n + 40 + 40 + 40 + 40) M3 M4 → Q (.int (if 4 < N - N.fmod 4 + v4 then N - N.fmod 4 + v4 else 5)) M4 := by
      intro N n1 n2 v4 M4 v40 v41 g4
      have ef : N.fmod 4 = N % 4 := fmod_pos (by decide)
      rw [ef]
      refine q _ M4 ?_ ?_ (((((g1.trans g2).trans g3).trans g4).le (by omega)))
      · split
        · rename_i h4
          have h5 : 5 ≤ N - N % 4 + v4 := by omega
          simp only [isMeas, h5, decide_true, Bool.true_and, Bool.or_eq_true, beq_iff_eq]
          omega
        · decide
      · split <;> omega
    by_cases h3 : v3 = 0
    · rw [if_pos h3]
      have sq : Sm (isq (5 + v2)) := sm_big (by omega) (by omega)
      refine ⟨_, rfl, by omega, by omega, _, rfl, by omega, by omega, ⟨sq, sq⟩, (by decide : (4 : Int) ≠ 0), k, 2, n + 40 + 40 + 40, rfl, by decide, by omega, g3.2.1, by omega, fun v4 M4 v40 v41 g4 => ?_⟩
      walk_at "rd"
      have g5 := fin _ hq5 hq2 v4 M4 v40 v41 g4
      have gg := ((g1.trans g2).trans g3).trans g4
      split
      · rename_i h4
        rw [if_pos h4] at g5
        exact gg.rtq g5
      · rename_i h4
        rw [if_neg h4] at g5
        exact gg.rtq g5
    · rw [if_neg h3]
      refine ⟨(by decide : (4 : Int) ≠ 0), k, 2, n + 40 + 40 + 40, rfl, by decide, by omega, g3.2.1, by omega, fun v4 M4 v40 v41 g4 => ?_⟩
      walk_at "rd"
      have g5 := fin _ (by omega) (Int.le_refl _) v4 M4 v40 v41 g4
      have gg := ((g1.trans g2).trans g3).trans g4
      split
      · rename_i h4
        rw [if_pos h4] at g5
        exact gg.rtq g5
      · rename_i h4
        rw [if_neg h4] at g5
        exact gg.rtq g5
  · obtain ⟨hi2, rfl⟩ := rng_get.mp hd
    walk_at "rd"
    have sb : Sm b := sm_big (by have := big_pos; omega) (by have := p400_big; omega)
    refine ⟨⟨Sm.of 5 (by decide), sb⟩, by omega, _, _, rfl, by omega, ?_⟩
    rw [Int.pow_succ]
    omega
end DL
namespace DL
open PySem PySem.Spec PyProof.Rows L2
local macro_rules | `(tactic| walk_at "rd") => `(tactic| simp only [startD, List.map, List.replicate, List.length_cons, List.length_nil, List.append_eq, List.append_nil, List.nil_append, List.cons_append, Nat.reduceSub, Nat.reduceAdd, List.getElem?_cons_zero, List.getElem?_cons_succ, List.set_cons_zero, List.set_cons_succ,
  dC, dVar, dOp, dTru, gTru, tru, dChain, dAnd, dOr, dNot, dAndV, dOrV, dNotV, dIf, dNeg, gNeg, dNil, dCons, dTup, dLst, dOwn, gIx, rBin, gAdd, gCmpI, dCall, dCallK, dSeq, dNext, dDrop, dRet, dRetN, dIfS, dName, dGNil, dGCons, dGTup, dSub, gSetL, dAsg, dPar, dPar3, dAug, gIpI, dSeqI, gSeqI, dRngI, gRng1, gRng2, dCB, gAbs, gInt, gMax, gMin, gGcd, gLen, lenD, gIsi, tyM, tyD, dBits, gBits, dMet, gAppend, dPart, dNoPart, dSl, dEnds, gIs, isB, dNever, dFor, dLc, wipeD, dYes,
  sizeLine_eq, Nat.reduceLeDiff, gEq_int, gNe_int, gEq_strs, gNe_strs, gIn_two, gRepr_bl, rs_lst, rs_tup, rs_scr, rs_int, atI_0, atI_1, atI_2, atI_3, atI_4, atI_5, ixN_30, ixN_31, ixN_32, gEq_bl, gNe_bl, decide_eq_true_eq, beq_iff_eq, Bool.not_eq_true', beq_eq_false_iff_ne, decide_eq_false_iff_not, Bool.not_true, Bool.not_false, if_true, if_false, Bool.false_eq_true, ite_true, ite_false, true_and, and_true, ne_eq, Bool.bne_false, Bool.bne_true, reduceCtorEq])
local macro_rules | `(tactic| walk_at "rh") => `(tactic| simp only [*, startD, List.map, List.replicate, List.length_cons, List.length_nil, List.append_eq, List.append_nil, List.nil_append, List.cons_append, Nat.reduceSub, Nat.reduceAdd, List.getElem?_cons_zero, List.getElem?_cons_succ, List.set_cons_zero, List.set_cons_succ,
  dC, dVar, dOp, dTru, gTru, tru, dChain, dAnd, dOr, dNot, dAndV, dOrV, dNotV, dIf, dNeg, gNeg, dNil, dCons, dTup, dLst, dOwn, gIx, rBin, gAdd, gCmpI, dCall, dCallK, dSeq, dNext, dDrop, dRet, dRetN, dIfS, dName, dGNil, dGCons, dGTup, dSub, gSetL, dAsg, dPar, dPar3, dAug, gIpI, dSeqI, gSeqI, dRngI, gRng1, gRng2, dCB, gAbs, gInt, gMax, gMin, gGcd, gLen, lenD, gIsi, tyM, tyD, dBits, gBits, dMet, gAppend, dPart, dNoPart, dSl, dEnds, gIs, isB, dNever, dFor, dLc, wipeD, dYes,
  sizeLine_eq, Nat.reduceLeDiff, gEq_int, gNe_int, gEq_strs, gNe_strs, gIn_two, gRepr_bl, rs_lst, rs_tup, rs_scr, rs_int, atI_0, atI_1, atI_2, atI_3, atI_4, atI_5, ixN_30, ixN_31, ixN_32, gEq_bl, gNe_bl, decide_eq_true_eq, beq_iff_eq, Bool.not_eq_true', beq_eq_false_iff_ne, decide_eq_false_iff_not, Bool.not_true, Bool.not_false, if_true, if_false, Bool.false_eq_true, ite_true, ite_false, true_and, and_true, ne_eq, Bool.bne_false, Bool.bne_true, reduceCtorEq])
local macro_rules | `(tactic| walk_at "kb") => `(tactic| simp only [kb_NoneType_list, kb_bool_list, kb_int_list, kb_str_list, kb_tuple_list, kb_list_list, kb_dict_list, kb_NoneType_int, kb_bool_int, kb_int_int, kb_str_int, kb_tuple_int, kb_list_int, kb_dict_int, kb_NoneType_bool, kb_bool_bool, kb_int_bool, kb_str_bool, kb_tuple_bool, kb_list_bool, kb_dict_bool, kb_NoneType_tuple, kb_bool_tuple, kb_int_tuple, kb_str_tuple, kb_tuple_tuple, kb_list_tuple, kb_dict_tuple, if_true, if_false, Bool.false_eq_true, ite_true, ite_false, Bool.not_true, Bool.not_false])
theorem fine_ty {n : Nat} {d : D} (M : Mem) (h : fine n d = true) : ∃ T, tyM M d = some T := by
  cases d <;> first | exact ⟨_, rfl⟩ | (simp [fine] at h)
theorem dSeq_open {a b : DTS} {E : DEnds} {r : Env} {M : Mem} (h : ∀ B : Env → Mem → Prop, b E = B → a { E with nx := B } r M) : dSeq a b E r M := h _ rfl
/-! ### the least form: scaled, its size -/
theorem str_self (z : Str) : (z == z) = true := by simp
end DL
namespace DL
open PySem PySem.Spec PyProof.Rows L2
local macro_rules | `(tactic| walk_at "rd") => `(tactic| simp only [startD, List.map, List.replicate, List.length_cons, List.length_nil, List.append_eq, List.append_nil, List.nil_append, List.cons_append, Nat.reduceSub, Nat.reduceAdd, List.getElem?_cons_zero, List.getElem?_cons_succ, List.set_cons_zero, List.set_cons_succ,
  dC, dVar, dOp, dTru, gTru, tru, dChain, dAnd, dOr, dNot, dAndV, dOrV, dNotV, dIf, dNeg, gNeg, dNil, dCons, dTup, dLst, dOwn, gIx, rBin, gAdd, gCmpI, dCall, dCallK, dSeq, dNext, dDrop, dRet, dRetN, dIfS, dName, dGNil, dGCons, dGTup, dSub, gSetL, dAsg, dPar, dPar3, dAug, gIpI, dSeqI, gSeqI, dRngI, gRng1, gRng2, dCB, gAbs, gInt, gMax, gMin, gGcd, gLen, lenD, gIsi, tyM, tyD, dBits, gBits, dMet, gAppend, dPart, dNoPart, dSl, dEnds, gIs, isB, dNever, dFor, dLc, wipeD, dYes,
  sizeLine_eq, Nat.reduceLeDiff, gEq_int, gNe_int, gEq_strs, gNe_strs, gIn_two, gRepr_bl, rs_lst, rs_tup, rs_scr, rs_int, atI_0, atI_1, atI_2, atI_3, atI_4, atI_5, ixN_30, ixN_31, ixN_32, gEq_bl, gNe_bl, decide_eq_true_eq, beq_iff_eq, Bool.not_eq_true', beq_eq_false_iff_ne, decide_eq_false_iff_not, Bool.not_true, Bool.not_false, if_true, if_false, Bool.false_eq_true, ite_true, ite_false, true_and, and_true, ne_eq, Bool.bne_false, Bool.bne_true, reduceCtorEq])
local macro_rules | `(tactic| walk_at "rh") => `(tactic| simp only [*, startD, List.map, List.replicate, List.length_cons, List.length_nil, List.append_eq, List.append_nil, List.nil_append, List.cons_append, Nat.reduceSub, Nat.reduceAdd, List.getElem?_cons_zero, List.getElem?_cons_succ, List.set_cons_zero, List.set_cons_succ,
  dC, dVar, dOp, dTru, gTru, tru, dChain, dAnd, dOr, dNot, dAndV, dOrV, dNotV, dIf, dNeg, gNeg, dNil, dCons, dTup, dLst, dOwn, gIx, rBin, gAdd, gCmpI, dCall, dCallK, dSeq, dNext, dDrop, dRet, dRetN, dIfS, dName, dGNil, dGCons, dGTup, dSub, gSetL, dAsg, dPar, dPar3, dAug, gIpI, dSeqI, gSeqI, dRngI, gRng1, gRng2, dCB, gAbs, gInt, gMax, gMin, gGcd, gLen, lenD, gIsi, tyM, tyD, dBits, gBits, dMet, gAppend, dPart, dNoPart, dSl, dEnds, gIs, isB, dNever, dFor, dLc, wipeD, dYes,
  sizeLine_eq, Nat.reduceLeDiff, gEq_int, gNe_int, gEq_strs, gNe_strs, gIn_two, gRepr_bl, rs_lst, rs_tup, rs_scr, rs_int, atI_0, atI_1, atI_2, atI_3, atI_4, atI_5, ixN_30, ixN_31, ixN_32, gEq_bl, gNe_bl, decide_eq_true_eq, beq_iff_eq, Bool.not_eq_true', beq_eq_false_iff_ne, decide_eq_false_iff_not, Bool.not_true, Bool.not_false, if_true, if_false, Bool.false_eq_true, ite_true, ite_false, true_and, and_true, ne_eq, Bool.bne_false, Bool.bne_true, reduceCtorEq])
local macro_rules | `(tactic| walk_at "kb") => `(tactic| simp only [kb_NoneType_list, kb_bool_list, kb_int_list, kb_str_list, kb_tuple_list, kb_list_list, kb_dict_list, kb_NoneType_int, kb_bool_int, kb_int_int, kb_str_int, kb_tuple_int, kb_list_int, kb_dict_int, kb_NoneType_bool, kb_bool_bool, kb_int_bool, kb_str_bool, kb_tuple_bool, kb_list_bool, kb_dict_bool, kb_NoneType_tuple, kb_bool_tuple, kb_int_tuple, kb_str_tuple, kb_tuple_tuple, kb_list_tuple, kb_dict_tuple, if_true, if_false, Bool.false_eq_true, ite_true, ite_false, Bool.not_true, Bool.not_false])
/-! ### bits -/
def Bi (n : Nat) (i : Int) : Prop := i.natAbs < 2 ^ n
theorem Bi.mono {n k : Nat} {i : Int} (h : Bi n i) (hk : n ≤ k := by decide) : Bi k i := Nat.lt_of_lt_of_le h (Nat.pow_le_pow_right (by decide) hk)
theorem Bi.mul {n k : Nat} {i j : Int} (h : Bi n i) (g : Bi k j) : Bi (n + k) (i * j) := by
  unfold Bi at *
  rw [Int.natAbs_mul, Nat.pow_add]
  exact Nat.mul_lt_mul'' h g
theorem Bi.add {n : Nat} {i j : Int} (h : Bi n i) (g : Bi n j) : Bi (n + 1) (i + j) := by
  unfold Bi at *
  rw [Nat.pow_succ]
  omega
theorem Bi.sub {n : Nat} {i j : Int} (h : Bi n i) (g : Bi n j) : Bi (n + 1) (i - j) := by
  unfold Bi at *
  rw [Nat.pow_succ]
  omega
theorem Bi.sm {n : Nat} {i : Int} (h : Bi n i) (hn : n ≤ 400000 := by decide) : Sm i := Sm.of n h hn
theorem Bi.of_abs {n : Nat} {i : Int} (k : Nat) (h : i.natAbs ≤ k) (hk : k < 2 ^ n := by decide) : Bi n i := Nat.lt_of_le_of_lt h hk
/-! ### normal forms -/
abbrev T3 (a b c : Int) : D := .tup [.int a, .int b, .int c]
def nC (X Y b : Int) : Int := if b < 0 then 0 - (Int.gcd (Int.gcd X Y : Int) b : Int) else (Int.gcd (Int.gcd X Y : Int) b : Int)
def nf (X Y b : Int) : D := T3 (X.fdiv (nC X Y b)) (Y.fdiv (nC X Y b)) (b.fdiv (nC X Y b))
/-! ### sums, products, quotients -/
def Sz (n : Nat) (a b c : Int) : Prop := Bi n a ∧ Bi n b ∧ Bi n c
theorem meas_le {m : Int} (h : isMeas (.int m) = true) : 0 ≤ m := by have := meas_ge h; omega
/-! ### the law's drawn root numbers -/
/-! ### sizes and values, for the laws -/
theorem Sz.mono {n k : Nat} {a b c : Int} (h : Sz n a b c) (hk : n ≤ k := by decide) : Sz k a b c := ⟨h.1.mono hk, h.2.1.mono hk, h.2.2.mono hk⟩
end DL
namespace DL
open PySem PySem.Spec PyProof.Rows L2
local macro_rules | `(tactic| walk_at "rd") => `(tactic| simp only [startD, List.map, List.replicate, List.length_cons, List.length_nil, List.append_eq, List.append_nil, List.nil_append, List.cons_append, Nat.reduceSub, Nat.reduceAdd, List.getElem?_cons_zero, List.getElem?_cons_succ, List.set_cons_zero, List.set_cons_succ,
  dC, dVar, dOp, dTru, gTru, tru, dChain, dAnd, dOr, dNot, dAndV, dOrV, dNotV, dIf, dNeg, gNeg, dNil, dCons, dTup, dLst, dOwn, gIx, rBin, gAdd, gCmpI, dCall, dCallK, dSeq, dNext, dDrop, dRet, dRetN, dIfS, dName, dGNil, dGCons, dGTup, dSub, gSetL, dAsg, dPar, dPar3, dAug, gIpI, dSeqI, gSeqI, dRngI, gRng1, gRng2, dCB, gAbs, gInt, gMax, gMin, gGcd, gLen, lenD, gIsi, tyM, tyD, dBits, gBits, dMet, gAppend, dPart, dNoPart, dSl, dEnds, gIs, isB, dNever, dFor, dLc, wipeD, dYes,
  sizeLine_eq, Nat.reduceLeDiff, gEq_int, gNe_int, gEq_strs, gNe_strs, gIn_two, gRepr_bl, rs_lst, rs_tup, rs_scr, rs_int, atI_0, atI_1, atI_2, atI_3, atI_4, atI_5, ixN_30, ixN_31, ixN_32, gEq_bl, gNe_bl, decide_eq_true_eq, beq_iff_eq, Bool.not_eq_true', beq_eq_false_iff_ne, decide_eq_false_iff_not, Bool.not_true, Bool.not_false, if_true, if_false, Bool.false_eq_true, ite_true, ite_false, true_and, and_true, ne_eq, Bool.bne_false, Bool.bne_true, reduceCtorEq])
local macro_rules | `(tactic| walk_at "rh") => `(tactic| simp only [*, startD, List.map, List.replicate, List.length_cons, List.length_nil, List.append_eq, List.append_nil, List.nil_append, List.cons_append, Nat.reduceSub, Nat.reduceAdd, List.getElem?_cons_zero, List.getElem?_cons_succ, List.set_cons_zero, List.set_cons_succ,
  dC, dVar, dOp, dTru, gTru, tru, dChain, dAnd, dOr, dNot, dAndV, dOrV, dNotV, dIf, dNeg, gNeg, dNil, dCons, dTup, dLst, dOwn, gIx, rBin, gAdd, gCmpI, dCall, dCallK, dSeq, dNext, dDrop, dRet, dRetN, dIfS, dName, dGNil, dGCons, dGTup, dSub, gSetL, dAsg, dPar, dPar3, dAug, gIpI, dSeqI, gSeqI, dRngI, gRng1, gRng2, dCB, gAbs, gInt, gMax, gMin, gGcd, gLen, lenD, gIsi, tyM, tyD, dBits, gBits, dMet, gAppend, dPart, dNoPart, dSl, dEnds, gIs, isB, dNever, dFor, dLc, wipeD, dYes,
  sizeLine_eq, Nat.reduceLeDiff, gEq_int, gNe_int, gEq_strs, gNe_strs, gIn_two, gRepr_bl, rs_lst, rs_tup, rs_scr, rs_int, atI_0, atI_1, atI_2, atI_3, atI_4, atI_5, ixN_30, ixN_31, ixN_32, gEq_bl, gNe_bl, decide_eq_true_eq, beq_iff_eq, Bool.not_eq_true', beq_eq_false_iff_ne, decide_eq_false_iff_not, Bool.not_true, Bool.not_false, if_true, if_false, Bool.false_eq_true, ite_true, ite_false, true_and, and_true, ne_eq, Bool.bne_false, Bool.bne_true, reduceCtorEq])
local macro_rules | `(tactic| walk_at "kb") => `(tactic| simp only [kb_NoneType_list, kb_bool_list, kb_int_list, kb_str_list, kb_tuple_list, kb_list_list, kb_dict_list, kb_NoneType_int, kb_bool_int, kb_int_int, kb_str_int, kb_tuple_int, kb_list_int, kb_dict_int, kb_NoneType_bool, kb_bool_bool, kb_int_bool, kb_str_bool, kb_tuple_bool, kb_list_bool, kb_dict_bool, kb_NoneType_tuple, kb_bool_tuple, kb_int_tuple, kb_str_tuple, kb_tuple_tuple, kb_list_tuple, kb_dict_tuple, if_true, if_false, Bool.false_eq_true, ite_true, ite_false, Bool.not_true, Bool.not_false])
/-! ### the side of x + y root m -/
/-! ### the floor -/
end DL
namespace DL
open PySem PySem.Spec PyProof.Rows L2
local macro_rules | `(tactic| walk_at "rd") => `(tactic| simp only [startD, List.map, List.replicate, List.length_cons, List.length_nil, List.append_eq, List.append_nil, List.nil_append, List.cons_append, Nat.reduceSub, Nat.reduceAdd, List.getElem?_cons_zero, List.getElem?_cons_succ, List.set_cons_zero, List.set_cons_succ,
  dC, dVar, dOp, dTru, gTru, tru, dChain, dAnd, dOr, dNot, dAndV, dOrV, dNotV, dIf, dNeg, gNeg, dNil, dCons, dTup, dLst, dOwn, gIx, rBin, gAdd, gCmpI, dCall, dCallK, dSeq, dNext, dDrop, dRet, dRetN, dIfS, dName, dGNil, dGCons, dGTup, dSub, gSetL, dAsg, dPar, dPar3, dAug, gIpI, dSeqI, gSeqI, dRngI, gRng1, gRng2, dCB, gAbs, gInt, gMax, gMin, gGcd, gLen, lenD, gIsi, tyM, tyD, dBits, gBits, dMet, gAppend, dPart, dNoPart, dSl, dEnds, gIs, isB, dNever, dFor, dLc, wipeD, dYes,
  sizeLine_eq, Nat.reduceLeDiff, gEq_int, gNe_int, gEq_strs, gNe_strs, gIn_two, gRepr_bl, rs_lst, rs_tup, rs_scr, rs_int, atI_0, atI_1, atI_2, atI_3, atI_4, atI_5, ixN_30, ixN_31, ixN_32, gEq_bl, gNe_bl, decide_eq_true_eq, beq_iff_eq, Bool.not_eq_true', beq_eq_false_iff_ne, decide_eq_false_iff_not, Bool.not_true, Bool.not_false, if_true, if_false, Bool.false_eq_true, ite_true, ite_false, true_and, and_true, ne_eq, Bool.bne_false, Bool.bne_true, reduceCtorEq])
local macro_rules | `(tactic| walk_at "rh") => `(tactic| simp only [*, startD, List.map, List.replicate, List.length_cons, List.length_nil, List.append_eq, List.append_nil, List.nil_append, List.cons_append, Nat.reduceSub, Nat.reduceAdd, List.getElem?_cons_zero, List.getElem?_cons_succ, List.set_cons_zero, List.set_cons_succ,
  dC, dVar, dOp, dTru, gTru, tru, dChain, dAnd, dOr, dNot, dAndV, dOrV, dNotV, dIf, dNeg, gNeg, dNil, dCons, dTup, dLst, dOwn, gIx, rBin, gAdd, gCmpI, dCall, dCallK, dSeq, dNext, dDrop, dRet, dRetN, dIfS, dName, dGNil, dGCons, dGTup, dSub, gSetL, dAsg, dPar, dPar3, dAug, gIpI, dSeqI, gSeqI, dRngI, gRng1, gRng2, dCB, gAbs, gInt, gMax, gMin, gGcd, gLen, lenD, gIsi, tyM, tyD, dBits, gBits, dMet, gAppend, dPart, dNoPart, dSl, dEnds, gIs, isB, dNever, dFor, dLc, wipeD, dYes,
  sizeLine_eq, Nat.reduceLeDiff, gEq_int, gNe_int, gEq_strs, gNe_strs, gIn_two, gRepr_bl, rs_lst, rs_tup, rs_scr, rs_int, atI_0, atI_1, atI_2, atI_3, atI_4, atI_5, ixN_30, ixN_31, ixN_32, gEq_bl, gNe_bl, decide_eq_true_eq, beq_iff_eq, Bool.not_eq_true', beq_eq_false_iff_ne, decide_eq_false_iff_not, Bool.not_true, Bool.not_false, if_true, if_false, Bool.false_eq_true, ite_true, ite_false, true_and, and_true, ne_eq, Bool.bne_false, Bool.bne_true, reduceCtorEq])
local macro_rules | `(tactic| walk_at "kb") => `(tactic| simp only [kb_NoneType_list, kb_bool_list, kb_int_list, kb_str_list, kb_tuple_list, kb_list_list, kb_dict_list, kb_NoneType_int, kb_bool_int, kb_int_int, kb_str_int, kb_tuple_int, kb_list_int, kb_dict_int, kb_NoneType_bool, kb_bool_bool, kb_int_bool, kb_str_bool, kb_tuple_bool, kb_list_bool, kb_dict_bool, kb_NoneType_tuple, kb_bool_tuple, kb_int_tuple, kb_str_tuple, kb_tuple_tuple, kb_list_tuple, kb_dict_tuple, if_true, if_false, Bool.false_eq_true, ite_true, ite_false, Bool.not_true, Bool.not_false])
/-! ### cuttings -/
/-- a cutting: (a, b, c, e) -/
def isCut (a b c e : Int) : Bool := decide (1 ≤ b) && (decide (1 ≤ c) && (decide (c + e < b) && (decide (0 ≤ a) && (decide (a < (Int.gcd b c : Int)) && (Int.gcd (Int.gcd a (Int.gcd b c : Int) : Int) e : Int) == 1))))
theorem rd_is_measure : ∀ ds M Q, ds.length = 1 → sp_is_measure ds M Q DX0 → t_is_measure sp_is_measure (dEnds M Q) (startD 1 ds) M := by
  rintro _ M Q - ⟨d, T, rfl, ht, q⟩
  unfold t_is_measure
  walk_at "rd"
  exact ⟨d, T, rfl, ht, rtq q⟩
def sp_whole_root : DSp := fun ds M Q _ => ∃ m : Int, ds = [.int m] ∧ isMeas (.int m) = true ∧ m ≤ BIG ∧ Q (.int (isq m)) M
def meas4 (b c e : Int) : Int := e * e + 4 * b * c
theorem cut_parts {a b c e : Int} (h : isCut a b c e = true) : 1 ≤ b ∧ 1 ≤ c ∧ c + e < b ∧ 0 ≤ a ∧ a < (Int.gcd b c : Int) ∧ (Int.gcd (Int.gcd a (Int.gcd b c : Int) : Int) e : Int) = 1 := by
  simpa only [isCut, Bool.and_eq_true, decide_eq_true_eq, beq_iff_eq] using h
end DL
/-! MB: what a deed makes of a cutting; plain -/
namespace DL
/-- two ways to write the common divisor differ by a multiple of the other two -/
theorem bez_diff {m n g u v u' v' : Int} (hg : g ≠ 0) (hm : g ∣ m) (hn : g ∣ n) (h : u * m + v * n = g) (h' : u' * m + v' * n = g) : ∃ t, (u - u') * g = t * n ∧ (v - v') * g = -(t * m) := by
  -- t = u v' - u' v
  refine ⟨u * v' - u' * v, ?_, ?_⟩
  · have : (u - u') * g = u * (u' * m + v' * n) - u' * (u * m + v * n) := by rw [h, h']; grind
    rw [this]; grind
  · have : (v - v') * g = v * (u' * m + v' * n) - v' * (u * m + v * n) := by rw [h, h']; grind
    rw [this]; grind
theorem row_diff {p q x z x' z' : Int} (f1 : p * z - q * x = 1) (f1' : p * z' - q * x' = 1) : ∃ s, x - x' = s * p ∧ z - z' = s * q := by
  refine ⟨x * z' - x' * z, ?_, ?_⟩
  · have : x - x' = x * (p * z' - q * x') - x' * (p * z - q * x) := by rw [f1, f1']; omega
    rw [this]; grind
  · have : z - z' = z * (p * z' - q * x') - z' * (p * z - q * x) := by rw [f1, f1']; omega
    rw [this]; grind
/-- (a', w, g, e') is where the deed (p, q) leads from (a, b, c, e) -/
structure IsDone (a b c e p q a' w g e' : Int) : Prop where
  gc : g = (Int.gcd (p * b + q * a) (q * c) : Int)
  wi : w * g = c * (b - q * e - q * q * c)
  tu : e' = 0 - e - 2 * q * c
  lo : 0 ≤ a'
  hi : a' < (Int.gcd w g : Int)
  ex : ∃ u v x z : Int, p * z - q * x = 1 ∧ u * (p * b + q * a) + v * (q * c) = g ∧ (Int.gcd w g : Int) ∣ a' + (u * (x * b + z * a + e + q * c) + v * (z * c))
theorem isDone_unique {a b c e p q a1 w1 g1 e1 a2 w2 g2 e2 : Int} (hg : g1 ≠ 0) (h1 : IsDone a b c e p q a1 w1 g1 e1) (h2 : IsDone a b c e p q a2 w2 g2 e2) : a1 = a2 ∧ w1 = w2 ∧ g1 = g2 ∧ e1 = e2 := by
  have eg : g1 = g2 := h1.gc.trans h2.gc.symm
  subst eg
  have ew : w1 = w2 := Int.eq_of_mul_eq_mul_right hg (h1.wi.trans h2.wi.symm)
  subst ew
  refine ⟨?_, rfl, rfl, h1.tu.trans h2.tu.symm⟩
  obtain ⟨u, v, x, z, f1, f2, f3⟩ := h1.ex
  obtain ⟨u', v', x', z', f1', f2', f3'⟩ := h2.ex
  have dm : g1 ∣ p * b + q * a := by rw [h1.gc]; exact Int.gcd_dvd_left _ _
  have dn : g1 ∣ q * c := by rw [h1.gc]; exact Int.gcd_dvd_right _ _
  obtain ⟨t, t1, t2⟩ := bez_diff hg dm dn f2 f2'
  -- the second rows differ by a multiple of the first
  have hs := row_diff f1 f1'
  obtain ⟨s, s1, s2⟩ := hs
  have hw : w1 * g1 = (p * b + q * a) * (z' * c) - (q * c) * (x' * b + z' * a + e + q * c) := by
    rw [h1.wi]
    have : (p * b + q * a) * (z' * c) - (q * c) * (x' * b + z' * a + e + q * c) = c * (b * (p * z' - q * x') - q * e - q * q * c) := by grind
    rw [this, f1', Int.mul_one]
  -- the difference of the two rests
  have hd : ∃ k, (u * (x * b + z * a + e + q * c) + v * (z * c)) - (u' * (x' * b + z' * a + e + q * c) + v' * (z' * c)) = s * g1 + k * w1 := by
    refine ⟨-t, ?_⟩
    refine Int.eq_of_mul_eq_mul_right hg ?_
    have ex' : x = x' + s * p := by omega
    have ez' : z = z' + s * q := by omega
    have l1 : ((u * (x * b + z * a + e + q * c) + v * (z * c)) - (u' * (x' * b + z' * a + e + q * c) + v' * (z' * c))) = s * (u * (p * b + q * a) + v * (q * c)) + ((u - u') * (x' * b + z' * a + e + q * c) + (v - v') * (z' * c)) := by
      rw [ex', ez']; grind
    rw [l1, f2]
    have l2 : (s * g1 + ((u - u') * (x' * b + z' * a + e + q * c) + (v - v') * (z' * c))) * g1 = s * g1 * g1 + (((u - u') * g1) * (x' * b + z' * a + e + q * c) + ((v - v') * g1) * (z' * c)) := by grind
    rw [l2, t1, t2]
    have l3 : (s * g1 + -t * w1) * g1 = s * g1 * g1 + -t * (w1 * g1) := by grind
    rw [l3, hw]
    grind
  obtain ⟨k, hk⟩ := hd
  have dG : (Int.gcd w1 g1 : Int) ∣ a1 - a2 := by
    have d1 := Int.dvd_sub f3 f3'
    have d2 : (Int.gcd w1 g1 : Int) ∣ s * g1 + k * w1 := Int.dvd_add (Int.dvd_trans (Int.gcd_dvd_right _ _) (Int.dvd_mul_left _ _)) (Int.dvd_trans (Int.gcd_dvd_left _ _) (Int.dvd_mul_left _ _))
    have d3 := Int.dvd_sub d1 d2
    have e3 : a1 + (u * (x * b + z * a + e + q * c) + v * (z * c)) - (a2 + (u' * (x' * b + z' * a + e + q * c) + v' * (z' * c))) - (s * g1 + k * w1) = a1 - a2 := by rw [← hk]; omega
    rwa [e3] at d3
  obtain ⟨j, hj⟩ := dG
  have l1 := h1.lo
  have l2 := h2.lo
  have u1 := h1.hi
  have u2 := h2.hi
  generalize (Int.gcd w1 g1 : Int) = G at *
  by_cases hj0 : j = 0
  · subst hj0; omega
  · exfalso
    rcases (by omega : 1 ≤ j ∨ j ≤ -1) with q | q
    · have : G * 1 ≤ G * j := Int.mul_le_mul_of_nonneg_left q (by omega)
      omega
    · have : G * j ≤ G * (-1) := Int.mul_le_mul_of_nonneg_left q (by omega)
      omega
/-- a concave form is positive between two places where it is -/
theorem between_pos {b c e q s : Int} (hb : 0 < b) (hc : 0 < c) (hq : 0 < q) (hf : 0 < b - q * e - q * q * c) (s0 : 0 ≤ s) (s1 : s ≤ q * c) : 0 < c * b - s * e - s * s := by
  have hqc : 0 < q * c := Int.mul_pos hq hc
  have e1 : q * c * (c * b - s * e - s * s) = (q * c - s) * (c * b) + s * (c * (b - q * e - q * q * c)) + s * ((q * c - s) * (q * c)) := by grind
  have h1 : 0 < c * b := Int.mul_pos hc hb
  have h2 : 0 < c * (b - q * e - q * q * c) := Int.mul_pos hc hf
  have h3 : 0 ≤ s * ((q * c - s) * (q * c)) := Int.mul_nonneg s0 (Int.mul_nonneg (by omega) (by omega))
  have h4 : 0 < (q * c - s) * (c * b) + s * (c * (b - q * e - q * q * c)) := by
    by_cases z : s = 0
    · subst z
      have := Int.mul_pos hqc h1
      simp only [Int.sub_zero, Int.zero_mul, Int.add_zero]
      exact this
    · have h5 : 0 ≤ (q * c - s) * (c * b) := Int.mul_nonneg (by omega) (by omega)
      have h6 : 0 < s * (c * (b - q * e - q * q * c)) := Int.mul_pos (by omega) h2
      omega
  have h7 : 0 < q * c * (c * b - s * e - s * s) := by omega
  by_cases z : 0 < c * b - s * e - s * s
  · exact z
  · have : q * c * (c * b - s * e - s * s) ≤ 0 := Int.mul_nonpos_of_nonneg_of_nonpos (by omega) (by omega)
    omega
/-- where a deed leads, the side is less wide than it must be -/
theorem done_room {b c e q w g : Int} (hb : 0 < b) (hc : 0 < c) (hq : 0 < q) (hg : 0 < g) (hf : 0 < b - q * e - q * q * c) (hd : g ∣ q * c) (hw : w * g = c * (b - q * e - q * q * c)) : 0 < w ∧ g + (0 - e - 2 * q * c) < w := by
  have h2 : 0 < c * (b - q * e - q * q * c) := Int.mul_pos hc hf
  have hle : g ≤ q * c := Int.le_of_dvd (Int.mul_pos hq hc) hd
  have hp := between_pos (s := q * c - g) hb hc hq hf (by omega) (by omega)
  have e1 : c * b - (q * c - g) * e - (q * c - g) * (q * c - g) = w * g - g * (g + (0 - e - 2 * q * c)) := by rw [hw]; grind
  rw [e1] at hp
  refine ⟨?_, ?_⟩
  · by_cases z : 0 < w
    · exact z
    · have : w * g ≤ 0 := Int.mul_nonpos_of_nonpos_of_nonneg (by omega) (by omega)
      omega
  · by_cases z : g + (0 - e - 2 * q * c) < w
    · exact z
    · have h3 : g * w ≤ g * (g + (0 - e - 2 * q * c)) := Int.mul_le_mul_of_nonneg_left (by omega) (by omega)
      have h4 : g * w = w * g := Int.mul_comm _ _
      omega
/-- what divides all of the new cutting divides all of the old one -/
theorem done_dvd {a b c e p q a' w g e' d : Int} (hg : g ≠ 0) (h : IsDone a b c e p q a' w g e') (d1 : d ∣ a') (d2 : d ∣ w) (d3 : d ∣ g) (d4 : d ∣ e') : d ∣ a ∧ d ∣ b ∧ d ∣ c ∧ d ∣ e := by
  obtain ⟨u, v, x, z, f1, f2, f3⟩ := h.ex
  have dm : g ∣ p * b + q * a := by rw [h.gc]; exact Int.gcd_dvd_left _ _
  have dn : g ∣ q * c := by rw [h.gc]; exact Int.gcd_dvd_right _ _
  obtain ⟨m', hm⟩ := dm
  obtain ⟨n', hn⟩ := dn
  have hu : u * m' + v * n' = 1 := by
    have : g * (u * m' + v * n') = g * 1 := by
      have e1 : g * (u * m' + v * n') = u * (g * m') + v * (g * n') := by grind
      rw [e1, ← hm, ← hn, f2, Int.mul_one]
    exact Int.eq_of_mul_eq_mul_left hg this
  generalize hr3 : x * b + z * a + e + q * c = r3 at f3
  generalize hr4 : z * c = r4 at f3
  have hW : w = m' * r4 - n' * r3 := by
    refine Int.eq_of_mul_eq_mul_right hg ?_
    rw [h.wi]
    have e1 : (m' * r4 - n' * r3) * g = (g * m') * r4 - (g * n') * r3 := by grind
    rw [e1, ← hm, ← hn, ← hr3, ← hr4]
    have e2 : (p * b + q * a) * (z * c) - (q * c) * (x * b + z * a + e + q * c) = c * (b * (p * z - q * x) - q * e - q * q * c) := by grind
    rw [e2, f1, Int.mul_one]
  have dR : d ∣ u * r3 + v * r4 := by
    have h1 : d ∣ (Int.gcd w g : Int) := Int.dvd_coe_gcd d2 d3
    have h2 := Int.dvd_sub (Int.dvd_trans h1 f3) d1
    have e1 : a' + (u * r3 + v * r4) - a' = u * r3 + v * r4 := by omega
    rwa [e1] at h2
  generalize hR : u * r3 + v * r4 = R at dR
  have e3 : r3 = m' * R - v * w := by
    have : m' * R - v * w = (u * m' + v * n') * r3 := by rw [← hR, hW]; grind
    rw [this, hu, Int.one_mul]
  have e4 : r4 = n' * R + u * w := by
    have : n' * R + u * w = (u * m' + v * n') * r4 := by rw [← hR, hW]; grind
    rw [this, hu, Int.one_mul]
  have D3 : d ∣ r3 := by rw [e3]; exact Int.dvd_sub (Int.dvd_mul_of_dvd_right dR) (Int.dvd_mul_of_dvd_right d2)
  have D4 : d ∣ r4 := by rw [e4]; exact Int.dvd_add (Int.dvd_mul_of_dvd_right dR) (Int.dvd_mul_of_dvd_right d2)
  have Dm : d ∣ p * b + q * a := by rw [hm]; exact Int.dvd_mul_of_dvd_left d3
  have Dn : d ∣ q * c := by rw [hn]; exact Int.dvd_mul_of_dvd_left d3
  have De : d ∣ e := by
    have h1 : e = 0 - e' - 2 * (q * c) := by have := h.tu; have e1 : 2 * q * c = 2 * (q * c) := Int.mul_assoc _ _ _; omega
    rw [h1, Int.zero_sub]
    exact Int.dvd_sub (Int.dvd_neg.mpr d4) (Int.dvd_mul_of_dvd_right Dn)
  have Dc : d ∣ c := by
    have h1 : c = p * r4 - x * (q * c) := by
      have : p * r4 - x * (q * c) = c * (p * z - q * x) := by rw [← hr4]; grind
      rw [this, f1, Int.mul_one]
    rw [h1]
    exact Int.dvd_sub (Int.dvd_mul_of_dvd_right D4) (Int.dvd_mul_of_dvd_right Dn)
  have Dx : d ∣ x * b + z * a := by
    have h1 : x * b + z * a = r3 - e - q * c := by omega
    rw [h1]
    exact Int.dvd_sub (Int.dvd_sub D3 De) Dn
  refine ⟨?_, ?_, Dc, De⟩
  · have h1 : a = p * (x * b + z * a) - x * (p * b + q * a) := by
      have : p * (x * b + z * a) - x * (p * b + q * a) = a * (p * z - q * x) := by grind
      rw [this, f1, Int.mul_one]
    rw [h1]
    exact Int.dvd_sub (Int.dvd_mul_of_dvd_right Dx) (Int.dvd_mul_of_dvd_right Dm)
  · have h1 : b = z * (p * b + q * a) - q * (x * b + z * a) := by
      have : z * (p * b + q * a) - q * (x * b + z * a) = b * (p * z - q * x) := by grind
      rw [this, f1, Int.mul_one]
    rw [h1]
    exact Int.dvd_sub (Int.dvd_mul_of_dvd_right Dm) (Int.dvd_mul_of_dvd_right Dx)
end DL
namespace DL
open PySem PySem.Spec PyProof.Rows L2
local macro_rules | `(tactic| walk_at "rd") => `(tactic| simp only [startD, List.map, List.replicate, List.length_cons, List.length_nil, List.append_eq, List.append_nil, List.nil_append, List.cons_append, Nat.reduceSub, Nat.reduceAdd, List.getElem?_cons_zero, List.getElem?_cons_succ, List.set_cons_zero, List.set_cons_succ,
  dC, dVar, dOp, dTru, gTru, tru, dChain, dAnd, dOr, dNot, dAndV, dOrV, dNotV, dIf, dNeg, gNeg, dNil, dCons, dTup, dLst, dOwn, gIx, rBin, gAdd, gCmpI, dCall, dCallK, dSeq, dNext, dDrop, dRet, dRetN, dIfS, dName, dGNil, dGCons, dGTup, dSub, gSetL, dAsg, dPar, dPar3, dAug, gIpI, dSeqI, gSeqI, dRngI, gRng1, gRng2, dCB, gAbs, gInt, gMax, gMin, gGcd, gLen, lenD, gIsi, tyM, tyD, dBits, gBits, dMet, gAppend, dPart, dNoPart, dSl, dEnds, gIs, isB, dNever, dFor, dLc, wipeD, dYes,
  sizeLine_eq, Nat.reduceLeDiff, gEq_int, gNe_int, gEq_strs, gNe_strs, gIn_two, gRepr_bl, rs_lst, rs_tup, rs_scr, rs_int, atI_0, atI_1, atI_2, atI_3, atI_4, atI_5, ixN_30, ixN_31, ixN_32, gEq_bl, gNe_bl, decide_eq_true_eq, beq_iff_eq, Bool.not_eq_true', beq_eq_false_iff_ne, decide_eq_false_iff_not, Bool.not_true, Bool.not_false, if_true, if_false, Bool.false_eq_true, ite_true, ite_false, true_and, and_true, ne_eq, Bool.bne_false, Bool.bne_true, reduceCtorEq])
local macro_rules | `(tactic| walk_at "rh") => `(tactic| simp only [*, startD, List.map, List.replicate, List.length_cons, List.length_nil, List.append_eq, List.append_nil, List.nil_append, List.cons_append, Nat.reduceSub, Nat.reduceAdd, List.getElem?_cons_zero, List.getElem?_cons_succ, List.set_cons_zero, List.set_cons_succ,
  dC, dVar, dOp, dTru, gTru, tru, dChain, dAnd, dOr, dNot, dAndV, dOrV, dNotV, dIf, dNeg, gNeg, dNil, dCons, dTup, dLst, dOwn, gIx, rBin, gAdd, gCmpI, dCall, dCallK, dSeq, dNext, dDrop, dRet, dRetN, dIfS, dName, dGNil, dGCons, dGTup, dSub, gSetL, dAsg, dPar, dPar3, dAug, gIpI, dSeqI, gSeqI, dRngI, gRng1, gRng2, dCB, gAbs, gInt, gMax, gMin, gGcd, gLen, lenD, gIsi, tyM, tyD, dBits, gBits, dMet, gAppend, dPart, dNoPart, dSl, dEnds, gIs, isB, dNever, dFor, dLc, wipeD, dYes,
  sizeLine_eq, Nat.reduceLeDiff, gEq_int, gNe_int, gEq_strs, gNe_strs, gIn_two, gRepr_bl, rs_lst, rs_tup, rs_scr, rs_int, atI_0, atI_1, atI_2, atI_3, atI_4, atI_5, ixN_30, ixN_31, ixN_32, gEq_bl, gNe_bl, decide_eq_true_eq, beq_iff_eq, Bool.not_eq_true', beq_eq_false_iff_ne, decide_eq_false_iff_not, Bool.not_true, Bool.not_false, if_true, if_false, Bool.false_eq_true, ite_true, ite_false, true_and, and_true, ne_eq, Bool.bne_false, Bool.bne_true, reduceCtorEq])
local macro_rules | `(tactic| walk_at "kb") => `(tactic| simp only [kb_NoneType_list, kb_bool_list, kb_int_list, kb_str_list, kb_tuple_list, kb_list_list, kb_dict_list, kb_NoneType_int, kb_bool_int, kb_int_int, kb_str_int, kb_tuple_int, kb_list_int, kb_dict_int, kb_NoneType_bool, kb_bool_bool, kb_int_bool, kb_str_bool, kb_tuple_bool, kb_list_bool, kb_dict_bool, kb_NoneType_tuple, kb_bool_tuple, kb_int_tuple, kb_str_tuple, kb_tuple_tuple, kb_list_tuple, kb_dict_tuple, if_true, if_false, Bool.false_eq_true, ite_true, ite_false, Bool.not_true, Bool.not_false])
/-! ### deeds -/
/-- where a deed leads is a cutting of the same measure -/
theorem done_cut {a b c e p q a' w g e' : Int} (h : isCut a b c e = true) (hq : 1 ≤ q) (hf : 0 < b - q * e - q * q * c) (hd : IsDone a b c e p q a' w g e') : isCut a' w g e' = true ∧ meas4 w g e' = meas4 b c e := by
  obtain ⟨h1, h2, h3, h4, h5, h6⟩ := cut_parts h
  have hqc : 0 < q * c := Int.mul_pos (by omega) (by omega)
  have dn : g ∣ q * c := by rw [hd.gc]; exact Int.gcd_dvd_right _ _
  have hg : 0 < g := by
    have := Int.gcd_pos_of_ne_zero_right (p * b + q * a) (show q * c ≠ 0 by omega)
    rw [hd.gc]; omega
  obtain ⟨w0, room⟩ := done_room (by omega : 0 < b) (by omega : 0 < c) (by omega : 0 < q) hg hf dn hd.wi
  have hprim : (Int.gcd (Int.gcd a' (Int.gcd w g : Int) : Int) e' : Int) = 1 := by
    have d0 : (Int.gcd (Int.gcd a' (Int.gcd w g : Int) : Int) e' : Int) ∣ (Int.gcd a' (Int.gcd w g : Int) : Int) := Int.gcd_dvd_left _ _
    have d4 : (Int.gcd (Int.gcd a' (Int.gcd w g : Int) : Int) e' : Int) ∣ e' := Int.gcd_dvd_right _ _
    have d1 := Int.dvd_trans d0 (Int.gcd_dvd_left _ _)
    have d5 := Int.dvd_trans d0 (Int.gcd_dvd_right _ _)
    have d2 := Int.dvd_trans d5 (Int.gcd_dvd_left _ _)
    have d3 := Int.dvd_trans d5 (Int.gcd_dvd_right _ _)
    obtain ⟨k1, k2, k3, k4⟩ := done_dvd (by omega) hd d1 d2 d3 d4
    have k5 : (Int.gcd (Int.gcd a' (Int.gcd w g : Int) : Int) e' : Int) ∣ 1 := by
      rw [← h6]
      exact Int.dvd_coe_gcd (Int.dvd_coe_gcd k1 (Int.dvd_coe_gcd k2 k3)) k4
    have k6 := Int.le_of_dvd (by decide) k5
    have k7 : (Int.gcd (Int.gcd a' (Int.gcd w g : Int) : Int) e' : Int) ≠ 0 := by
      intro z
      rw [z] at k5
      exact absurd (Int.zero_dvd.mp k5) (by decide)
    omega
  refine ⟨?_, ?_⟩
  · unfold isCut
    rw [decide_eq_true (show 1 ≤ w by omega), decide_eq_true (show 1 ≤ g by omega), decide_eq_true (show g + e' < w by have := hd.tu; omega), decide_eq_true hd.lo, decide_eq_true hd.hi, hprim]
    rfl
  · unfold meas4
    rw [hd.tu]
    have e1 : 4 * w * g = 4 * (w * g) := Int.mul_assoc _ _ _
    rw [e1, hd.wi]
    grind
end DL
/-! MC: Euclid's rule with the factors; plain -/
namespace DL
theorem gcd_emod' (m n : Int) : (Int.gcd n (m % n) : Int) = Int.gcd m n := by
  have h := Int.mul_ediv_add_emod m n
  refine congrArg _ (Nat.dvd_antisymm ?_ ?_)
  · refine Int.natCast_dvd_natCast.mp (Int.dvd_coe_gcd ?_ (Int.gcd_dvd_left _ _))
    have h1 : (Int.gcd n (m % n) : Int) ∣ n * (m / n) + m % n := Int.dvd_add (Int.dvd_mul_of_dvd_left (Int.gcd_dvd_left _ _)) (Int.gcd_dvd_right _ _)
    rwa [h] at h1
  · refine Int.natCast_dvd_natCast.mp (Int.dvd_coe_gcd (Int.gcd_dvd_right _ _) ?_)
    have e : m % n = m - n * (m / n) := by omega
    rw [e]
    exact Int.dvd_sub (Int.gcd_dvd_left _ _) (Int.dvd_mul_of_dvd_left (Int.gcd_dvd_right _ _))
end DL
namespace DL
open PySem PySem.Spec PyProof.Rows L2
local macro_rules | `(tactic| walk_at "rd") => `(tactic| simp only [startD, List.map, List.replicate, List.length_cons, List.length_nil, List.append_eq, List.append_nil, List.nil_append, List.cons_append, Nat.reduceSub, Nat.reduceAdd, List.getElem?_cons_zero, List.getElem?_cons_succ, List.set_cons_zero, List.set_cons_succ,
  dC, dVar, dOp, dTru, gTru, tru, dChain, dAnd, dOr, dNot, dAndV, dOrV, dNotV, dIf, dNeg, gNeg, dNil, dCons, dTup, dLst, dOwn, gIx, rBin, gAdd, gCmpI, dCall, dCallK, dSeq, dNext, dDrop, dRet, dRetN, dIfS, dName, dGNil, dGCons, dGTup, dSub, gSetL, dAsg, dPar, dPar3, dAug, gIpI, dSeqI, gSeqI, dRngI, gRng1, gRng2, dCB, gAbs, gInt, gMax, gMin, gGcd, gLen, lenD, gIsi, tyM, tyD, dBits, gBits, dMet, gAppend, dPart, dNoPart, dSl, dEnds, gIs, isB, dNever, dFor, dLc, wipeD, dYes,
  sizeLine_eq, Nat.reduceLeDiff, gEq_int, gNe_int, gEq_strs, gNe_strs, gIn_two, gRepr_bl, rs_lst, rs_tup, rs_scr, rs_int, atI_0, atI_1, atI_2, atI_3, atI_4, atI_5, ixN_30, ixN_31, ixN_32, gEq_bl, gNe_bl, decide_eq_true_eq, beq_iff_eq, Bool.not_eq_true', beq_eq_false_iff_ne, decide_eq_false_iff_not, Bool.not_true, Bool.not_false, if_true, if_false, Bool.false_eq_true, ite_true, ite_false, true_and, and_true, ne_eq, Bool.bne_false, Bool.bne_true, reduceCtorEq])
local macro_rules | `(tactic| walk_at "rh") => `(tactic| simp only [*, startD, List.map, List.replicate, List.length_cons, List.length_nil, List.append_eq, List.append_nil, List.nil_append, List.cons_append, Nat.reduceSub, Nat.reduceAdd, List.getElem?_cons_zero, List.getElem?_cons_succ, List.set_cons_zero, List.set_cons_succ,
  dC, dVar, dOp, dTru, gTru, tru, dChain, dAnd, dOr, dNot, dAndV, dOrV, dNotV, dIf, dNeg, gNeg, dNil, dCons, dTup, dLst, dOwn, gIx, rBin, gAdd, gCmpI, dCall, dCallK, dSeq, dNext, dDrop, dRet, dRetN, dIfS, dName, dGNil, dGCons, dGTup, dSub, gSetL, dAsg, dPar, dPar3, dAug, gIpI, dSeqI, gSeqI, dRngI, gRng1, gRng2, dCB, gAbs, gInt, gMax, gMin, gGcd, gLen, lenD, gIsi, tyM, tyD, dBits, gBits, dMet, gAppend, dPart, dNoPart, dSl, dEnds, gIs, isB, dNever, dFor, dLc, wipeD, dYes,
  sizeLine_eq, Nat.reduceLeDiff, gEq_int, gNe_int, gEq_strs, gNe_strs, gIn_two, gRepr_bl, rs_lst, rs_tup, rs_scr, rs_int, atI_0, atI_1, atI_2, atI_3, atI_4, atI_5, ixN_30, ixN_31, ixN_32, gEq_bl, gNe_bl, decide_eq_true_eq, beq_iff_eq, Bool.not_eq_true', beq_eq_false_iff_ne, decide_eq_false_iff_not, Bool.not_true, Bool.not_false, if_true, if_false, Bool.false_eq_true, ite_true, ite_false, true_and, and_true, ne_eq, Bool.bne_false, Bool.bne_true, reduceCtorEq])
local macro_rules | `(tactic| walk_at "kb") => `(tactic| simp only [kb_NoneType_list, kb_bool_list, kb_int_list, kb_str_list, kb_tuple_list, kb_list_list, kb_dict_list, kb_NoneType_int, kb_bool_int, kb_int_int, kb_str_int, kb_tuple_int, kb_list_int, kb_dict_int, kb_NoneType_bool, kb_bool_bool, kb_int_bool, kb_str_bool, kb_tuple_bool, kb_list_bool, kb_dict_bool, kb_NoneType_tuple, kb_bool_tuple, kb_int_tuple, kb_str_tuple, kb_tuple_tuple, kb_list_tuple, kb_dict_tuple, if_true, if_false, Bool.false_eq_true, ite_true, ite_false, Bool.not_true, Bool.not_false])
/-! ### the common divisor with its two factors -/
end DL
namespace DL
open PySem PySem.Spec PyProof.Rows L2
local macro_rules | `(tactic| walk_at "rd") => `(tactic| simp only [startD, List.map, List.replicate, List.length_cons, List.length_nil, List.append_eq, List.append_nil, List.nil_append, List.cons_append, Nat.reduceSub, Nat.reduceAdd, List.getElem?_cons_zero, List.getElem?_cons_succ, List.set_cons_zero, List.set_cons_succ,
  dC, dVar, dOp, dTru, gTru, tru, dChain, dAnd, dOr, dNot, dAndV, dOrV, dNotV, dIf, dNeg, gNeg, dNil, dCons, dTup, dLst, dOwn, gIx, rBin, gAdd, gCmpI, dCall, dCallK, dSeq, dNext, dDrop, dRet, dRetN, dIfS, dName, dGNil, dGCons, dGTup, dSub, gSetL, dAsg, dPar, dPar3, dAug, gIpI, dSeqI, gSeqI, dRngI, gRng1, gRng2, dCB, gAbs, gInt, gMax, gMin, gGcd, gLen, lenD, gIsi, tyM, tyD, dBits, gBits, dMet, gAppend, dPart, dNoPart, dSl, dEnds, gIs, isB, dNever, dFor, dLc, wipeD, dYes,
  sizeLine_eq, Nat.reduceLeDiff, gEq_int, gNe_int, gEq_strs, gNe_strs, gIn_two, gRepr_bl, rs_lst, rs_tup, rs_scr, rs_int, atI_0, atI_1, atI_2, atI_3, atI_4, atI_5, ixN_30, ixN_31, ixN_32, gEq_bl, gNe_bl, decide_eq_true_eq, beq_iff_eq, Bool.not_eq_true', beq_eq_false_iff_ne, decide_eq_false_iff_not, Bool.not_true, Bool.not_false, if_true, if_false, Bool.false_eq_true, ite_true, ite_false, true_and, and_true, ne_eq, Bool.bne_false, Bool.bne_true, reduceCtorEq])
local macro_rules | `(tactic| walk_at "rh") => `(tactic| simp only [*, startD, List.map, List.replicate, List.length_cons, List.length_nil, List.append_eq, List.append_nil, List.nil_append, List.cons_append, Nat.reduceSub, Nat.reduceAdd, List.getElem?_cons_zero, List.getElem?_cons_succ, List.set_cons_zero, List.set_cons_succ,
  dC, dVar, dOp, dTru, gTru, tru, dChain, dAnd, dOr, dNot, dAndV, dOrV, dNotV, dIf, dNeg, gNeg, dNil, dCons, dTup, dLst, dOwn, gIx, rBin, gAdd, gCmpI, dCall, dCallK, dSeq, dNext, dDrop, dRet, dRetN, dIfS, dName, dGNil, dGCons, dGTup, dSub, gSetL, dAsg, dPar, dPar3, dAug, gIpI, dSeqI, gSeqI, dRngI, gRng1, gRng2, dCB, gAbs, gInt, gMax, gMin, gGcd, gLen, lenD, gIsi, tyM, tyD, dBits, gBits, dMet, gAppend, dPart, dNoPart, dSl, dEnds, gIs, isB, dNever, dFor, dLc, wipeD, dYes,
  sizeLine_eq, Nat.reduceLeDiff, gEq_int, gNe_int, gEq_strs, gNe_strs, gIn_two, gRepr_bl, rs_lst, rs_tup, rs_scr, rs_int, atI_0, atI_1, atI_2, atI_3, atI_4, atI_5, ixN_30, ixN_31, ixN_32, gEq_bl, gNe_bl, decide_eq_true_eq, beq_iff_eq, Bool.not_eq_true', beq_eq_false_iff_ne, decide_eq_false_iff_not, Bool.not_true, Bool.not_false, if_true, if_false, Bool.false_eq_true, ite_true, ite_false, true_and, and_true, ne_eq, Bool.bne_false, Bool.bne_true, reduceCtorEq])
local macro_rules | `(tactic| walk_at "kb") => `(tactic| simp only [kb_NoneType_list, kb_bool_list, kb_int_list, kb_str_list, kb_tuple_list, kb_list_list, kb_dict_list, kb_NoneType_int, kb_bool_int, kb_int_int, kb_str_int, kb_tuple_int, kb_list_int, kb_dict_int, kb_NoneType_bool, kb_bool_bool, kb_int_bool, kb_str_bool, kb_tuple_bool, kb_list_bool, kb_dict_bool, kb_NoneType_tuple, kb_bool_tuple, kb_int_tuple, kb_str_tuple, kb_tuple_tuple, kb_list_tuple, kb_dict_tuple, if_true, if_false, Bool.false_eq_true, ite_true, ite_false, Bool.not_true, Bool.not_false])
end DL
namespace DL
open PySem PySem.Spec PyProof.Rows L2
local macro_rules | `(tactic| walk_at "rd") => `(tactic| simp only [startD, List.map, List.replicate, List.length_cons, List.length_nil, List.append_eq, List.append_nil, List.nil_append, List.cons_append, Nat.reduceSub, Nat.reduceAdd, List.getElem?_cons_zero, List.getElem?_cons_succ, List.set_cons_zero, List.set_cons_succ,
  dC, dVar, dOp, dTru, gTru, tru, dChain, dAnd, dOr, dNot, dAndV, dOrV, dNotV, dIf, dNeg, gNeg, dNil, dCons, dTup, dLst, dOwn, gIx, rBin, gAdd, gCmpI, dCall, dCallK, dSeq, dNext, dDrop, dRet, dRetN, dIfS, dName, dGNil, dGCons, dGTup, dSub, gSetL, dAsg, dPar, dPar3, dAug, gIpI, dSeqI, gSeqI, dRngI, gRng1, gRng2, dCB, gAbs, gInt, gMax, gMin, gGcd, gLen, lenD, gIsi, tyM, tyD, dBits, gBits, dMet, gAppend, dPart, dNoPart, dSl, dEnds, gIs, isB, dNever, dFor, dLc, wipeD, dYes,
  sizeLine_eq, Nat.reduceLeDiff, gEq_int, gNe_int, gEq_strs, gNe_strs, gIn_two, gRepr_bl, rs_lst, rs_tup, rs_scr, rs_int, atI_0, atI_1, atI_2, atI_3, atI_4, atI_5, ixN_30, ixN_31, ixN_32, gEq_bl, gNe_bl, decide_eq_true_eq, beq_iff_eq, Bool.not_eq_true', beq_eq_false_iff_ne, decide_eq_false_iff_not, Bool.not_true, Bool.not_false, if_true, if_false, Bool.false_eq_true, ite_true, ite_false, true_and, and_true, ne_eq, Bool.bne_false, Bool.bne_true, reduceCtorEq])
local macro_rules | `(tactic| walk_at "rh") => `(tactic| simp only [*, startD, List.map, List.replicate, List.length_cons, List.length_nil, List.append_eq, List.append_nil, List.nil_append, List.cons_append, Nat.reduceSub, Nat.reduceAdd, List.getElem?_cons_zero, List.getElem?_cons_succ, List.set_cons_zero, List.set_cons_succ,
  dC, dVar, dOp, dTru, gTru, tru, dChain, dAnd, dOr, dNot, dAndV, dOrV, dNotV, dIf, dNeg, gNeg, dNil, dCons, dTup, dLst, dOwn, gIx, rBin, gAdd, gCmpI, dCall, dCallK, dSeq, dNext, dDrop, dRet, dRetN, dIfS, dName, dGNil, dGCons, dGTup, dSub, gSetL, dAsg, dPar, dPar3, dAug, gIpI, dSeqI, gSeqI, dRngI, gRng1, gRng2, dCB, gAbs, gInt, gMax, gMin, gGcd, gLen, lenD, gIsi, tyM, tyD, dBits, gBits, dMet, gAppend, dPart, dNoPart, dSl, dEnds, gIs, isB, dNever, dFor, dLc, wipeD, dYes,
  sizeLine_eq, Nat.reduceLeDiff, gEq_int, gNe_int, gEq_strs, gNe_strs, gIn_two, gRepr_bl, rs_lst, rs_tup, rs_scr, rs_int, atI_0, atI_1, atI_2, atI_3, atI_4, atI_5, ixN_30, ixN_31, ixN_32, gEq_bl, gNe_bl, decide_eq_true_eq, beq_iff_eq, Bool.not_eq_true', beq_eq_false_iff_ne, decide_eq_false_iff_not, Bool.not_true, Bool.not_false, if_true, if_false, Bool.false_eq_true, ite_true, ite_false, true_and, and_true, ne_eq, Bool.bne_false, Bool.bne_true, reduceCtorEq])
local macro_rules | `(tactic| walk_at "kb") => `(tactic| simp only [kb_NoneType_list, kb_bool_list, kb_int_list, kb_str_list, kb_tuple_list, kb_list_list, kb_dict_list, kb_NoneType_int, kb_bool_int, kb_int_int, kb_str_int, kb_tuple_int, kb_list_int, kb_dict_int, kb_NoneType_bool, kb_bool_bool, kb_int_bool, kb_str_bool, kb_tuple_bool, kb_list_bool, kb_dict_bool, kb_NoneType_tuple, kb_bool_tuple, kb_int_tuple, kb_str_tuple, kb_tuple_tuple, kb_list_tuple, kb_dict_tuple, if_true, if_false, Bool.false_eq_true, ite_true, ite_false, Bool.not_true, Bool.not_false])
/-! ### all that a deed makes -/
end DL
/-! MD: deeds with q = 1 that lead nearer to the heart; columns led down; plain -/
namespace DL
end DL
/-! ME: two columns led down; plain -/
namespace DL
/-- (o1, o2), (t1, t2) came of (i, k), (j, l) -/
structure Led (i k j l o1 o2 t1 t2 : Int) : Prop where
  ex : ∃ u v u' v' : Int, o1 = u * i + v * j ∧ o2 = u * k + v * l ∧ t1 = u' * i + v' * j ∧ t2 = u' * k + v' * l ∧ (u * v' - u' * v = 1 ∨ u * v' - u' * v = -1)
theorem Led.start (i k j l : Int) : Led i k j l i k j l := ⟨1, 0, 0, 1, by omega, by omega, by omega, by omega, .inl (by omega)⟩
end DL
namespace DL
open PySem PySem.Spec PyProof.Rows L2
local macro_rules | `(tactic| walk_at "rd") => `(tactic| simp only [startD, List.map, List.replicate, List.length_cons, List.length_nil, List.append_eq, List.append_nil, List.nil_append, List.cons_append, Nat.reduceSub, Nat.reduceAdd, List.getElem?_cons_zero, List.getElem?_cons_succ, List.set_cons_zero, List.set_cons_succ,
  dC, dVar, dOp, dTru, gTru, tru, dChain, dAnd, dOr, dNot, dAndV, dOrV, dNotV, dIf, dNeg, gNeg, dNil, dCons, dTup, dLst, dOwn, gIx, rBin, gAdd, gCmpI, dCall, dCallK, dSeq, dNext, dDrop, dRet, dRetN, dIfS, dName, dGNil, dGCons, dGTup, dSub, gSetL, dAsg, dPar, dPar3, dAug, gIpI, dSeqI, gSeqI, dRngI, gRng1, gRng2, dCB, gAbs, gInt, gMax, gMin, gGcd, gLen, lenD, gIsi, tyM, tyD, dBits, gBits, dMet, gAppend, dPart, dNoPart, dSl, gSl_tup, gSl_lst, cut_1, dEnds, gIs, isB, dNever, dFor, dLc, wipeD, dYes,
  sizeLine_eq, Nat.reduceLeDiff, gEq_int, gNe_int, gEq_strs, gNe_strs, gIn_two, gRepr_bl, rs_lst, rs_tup, rs_scr, rs_int, atI_0, atI_1, atI_2, atI_3, atI_4, atI_5, ixN_30, ixN_31, ixN_32, gEq_bl, gNe_bl, decide_eq_true_eq, beq_iff_eq, Bool.not_eq_true', beq_eq_false_iff_ne, decide_eq_false_iff_not, Bool.not_true, Bool.not_false, if_true, if_false, Bool.false_eq_true, ite_true, ite_false, true_and, and_true, ne_eq, Bool.bne_false, Bool.bne_true, reduceCtorEq])
local macro_rules | `(tactic| walk_at "rh") => `(tactic| simp only [*, startD, List.map, List.replicate, List.length_cons, List.length_nil, List.append_eq, List.append_nil, List.nil_append, List.cons_append, Nat.reduceSub, Nat.reduceAdd, List.getElem?_cons_zero, List.getElem?_cons_succ, List.set_cons_zero, List.set_cons_succ,
  dC, dVar, dOp, dTru, gTru, tru, dChain, dAnd, dOr, dNot, dAndV, dOrV, dNotV, dIf, dNeg, gNeg, dNil, dCons, dTup, dLst, dOwn, gIx, rBin, gAdd, gCmpI, dCall, dCallK, dSeq, dNext, dDrop, dRet, dRetN, dIfS, dName, dGNil, dGCons, dGTup, dSub, gSetL, dAsg, dPar, dPar3, dAug, gIpI, dSeqI, gSeqI, dRngI, gRng1, gRng2, dCB, gAbs, gInt, gMax, gMin, gGcd, gLen, lenD, gIsi, tyM, tyD, dBits, gBits, dMet, gAppend, dPart, dNoPart, dSl, gSl_tup, gSl_lst, cut_1, dEnds, gIs, isB, dNever, dFor, dLc, wipeD, dYes,
  sizeLine_eq, Nat.reduceLeDiff, gEq_int, gNe_int, gEq_strs, gNe_strs, gIn_two, gRepr_bl, rs_lst, rs_tup, rs_scr, rs_int, atI_0, atI_1, atI_2, atI_3, atI_4, atI_5, ixN_30, ixN_31, ixN_32, gEq_bl, gNe_bl, decide_eq_true_eq, beq_iff_eq, Bool.not_eq_true', beq_eq_false_iff_ne, decide_eq_false_iff_not, Bool.not_true, Bool.not_false, if_true, if_false, Bool.false_eq_true, ite_true, ite_false, true_and, and_true, ne_eq, Bool.bne_false, Bool.bne_true, reduceCtorEq])
local macro_rules | `(tactic| walk_at "kb") => `(tactic| simp only [kb_NoneType_list, kb_bool_list, kb_int_list, kb_str_list, kb_tuple_list, kb_list_list, kb_dict_list, kb_NoneType_int, kb_bool_int, kb_int_int, kb_str_int, kb_tuple_int, kb_list_int, kb_dict_int, kb_NoneType_bool, kb_bool_bool, kb_int_bool, kb_str_bool, kb_tuple_bool, kb_list_bool, kb_dict_bool, kb_NoneType_tuple, kb_bool_tuple, kb_int_tuple, kb_str_tuple, kb_tuple_tuple, kb_list_tuple, kb_dict_tuple, if_true, if_false, Bool.false_eq_true, ite_true, ite_false, Bool.not_true, Bool.not_false])
/-! ### sizes of cuttings by their measure -/
def CutB (n : Nat) (a b c e : Int) : Prop := Bi n a ∧ Bi n b ∧ Bi n c ∧ Bi n e
theorem CutB.mono {n k : Nat} {a b c e : Int} (h : CutB n a b c e) (hk : n ≤ k := by decide) : CutB k a b c e := ⟨h.1.mono hk, h.2.1.mono hk, h.2.2.1.mono hk, h.2.2.2.mono hk⟩
/-- a deed's numbers, but for the bound of the first -/
structure DeedQ (b c e p q : Int) : Prop where
  q1 : 1 ≤ q
  al : 0 < b - q * e - q * q * c
  p0 : 0 ≤ p
  cp : Int.gcd p q = 1
theorem deedq_one {a b c e p : Int} (h : isCut a b c e = true) (hp : 0 ≤ p) : DeedQ b c e p 1 := by
  obtain ⟨h1, h2, h3, h4, h5, _⟩ := cut_parts h
  refine ⟨by omega, by rw [Int.one_mul, Int.one_mul, Int.one_mul]; omega, hp, ?_⟩
  simp [Int.gcd]
def farV (a b c : Int) : Int := if c = 1 then 0 else if (Int.gcd (Int.gcd a b : Int) c : Int) = 1 then 1 else 2
theorem done_g {a b c e p q a' w g e' : Int} (hc : 1 ≤ c) (hq : 1 ≤ q) (h : IsDone a b c e p q a' w g e') : 0 < g := by
  have := Int.gcd_pos_of_ne_zero_right (p * b + q * a) (show q * c ≠ 0 by have := Int.mul_pos (show 0 < q by omega) (show 0 < c by omega); omega)
  have := h.gc
  omega
/-- p is the least that leads nearer -/
def IsNear (a b c e p : Int) : Prop := (∀ a' w g e', IsDone a b c e p 1 a' w g e' → farV a' w g + 1 = farV a b c) ∧ ∀ p', 0 ≤ p' → p' < p → ∀ a' w g e', IsDone a b c e p' 1 a' w g e' → farV a b c ≤ farV a' w g
end DL
namespace DL
open PySem PySem.Spec PyProof.Rows L2
local macro_rules | `(tactic| walk_at "rd") => `(tactic| simp only [startD, List.map, List.replicate, List.length_cons, List.length_nil, List.append_eq, List.append_nil, List.nil_append, List.cons_append, Nat.reduceSub, Nat.reduceAdd, List.getElem?_cons_zero, List.getElem?_cons_succ, List.set_cons_zero, List.set_cons_succ,
  dC, dVar, dOp, dTru, gTru, tru, dChain, dAnd, dOr, dNot, dAndV, dOrV, dNotV, dIf, dNeg, gNeg, dNil, dCons, dTup, dLst, dOwn, gIx, rBin, gAdd, gCmpI, dCall, dCallK, dSeq, dNext, dDrop, dRet, dRetN, dIfS, dName, dGNil, dGCons, dGTup, dSub, gSetL, dAsg, dPar, dPar3, dAug, gIpI, dSeqI, gSeqI, dRngI, gRng1, gRng2, dCB, gAbs, gInt, gMax, gMin, gGcd, gLen, lenD, gIsi, tyM, tyD, dBits, gBits, dMet, gAppend, dPart, dNoPart, dSl, gSl_tup, gSl_lst, cut_1, dEnds, gIs, isB, dNever, dFor, dLc, wipeD, dYes,
  sizeLine_eq, Nat.reduceLeDiff, gEq_int, gNe_int, gEq_strs, gNe_strs, gIn_two, gRepr_bl, rs_lst, rs_tup, rs_scr, rs_int, atI_0, atI_1, atI_2, atI_3, atI_4, atI_5, ixN_30, ixN_31, ixN_32, gEq_bl, gNe_bl, decide_eq_true_eq, beq_iff_eq, Bool.not_eq_true', beq_eq_false_iff_ne, decide_eq_false_iff_not, Bool.not_true, Bool.not_false, if_true, if_false, Bool.false_eq_true, ite_true, ite_false, true_and, and_true, ne_eq, Bool.bne_false, Bool.bne_true, reduceCtorEq])
local macro_rules | `(tactic| walk_at "rh") => `(tactic| simp only [*, startD, List.map, List.replicate, List.length_cons, List.length_nil, List.append_eq, List.append_nil, List.nil_append, List.cons_append, Nat.reduceSub, Nat.reduceAdd, List.getElem?_cons_zero, List.getElem?_cons_succ, List.set_cons_zero, List.set_cons_succ,
  dC, dVar, dOp, dTru, gTru, tru, dChain, dAnd, dOr, dNot, dAndV, dOrV, dNotV, dIf, dNeg, gNeg, dNil, dCons, dTup, dLst, dOwn, gIx, rBin, gAdd, gCmpI, dCall, dCallK, dSeq, dNext, dDrop, dRet, dRetN, dIfS, dName, dGNil, dGCons, dGTup, dSub, gSetL, dAsg, dPar, dPar3, dAug, gIpI, dSeqI, gSeqI, dRngI, gRng1, gRng2, dCB, gAbs, gInt, gMax, gMin, gGcd, gLen, lenD, gIsi, tyM, tyD, dBits, gBits, dMet, gAppend, dPart, dNoPart, dSl, gSl_tup, gSl_lst, cut_1, dEnds, gIs, isB, dNever, dFor, dLc, wipeD, dYes,
  sizeLine_eq, Nat.reduceLeDiff, gEq_int, gNe_int, gEq_strs, gNe_strs, gIn_two, gRepr_bl, rs_lst, rs_tup, rs_scr, rs_int, atI_0, atI_1, atI_2, atI_3, atI_4, atI_5, ixN_30, ixN_31, ixN_32, gEq_bl, gNe_bl, decide_eq_true_eq, beq_iff_eq, Bool.not_eq_true', beq_eq_false_iff_ne, decide_eq_false_iff_not, Bool.not_true, Bool.not_false, if_true, if_false, Bool.false_eq_true, ite_true, ite_false, true_and, and_true, ne_eq, Bool.bne_false, Bool.bne_true, reduceCtorEq])
local macro_rules | `(tactic| walk_at "kb") => `(tactic| simp only [kb_NoneType_list, kb_bool_list, kb_int_list, kb_str_list, kb_tuple_list, kb_list_list, kb_dict_list, kb_NoneType_int, kb_bool_int, kb_int_int, kb_str_int, kb_tuple_int, kb_list_int, kb_dict_int, kb_NoneType_bool, kb_bool_bool, kb_int_bool, kb_str_bool, kb_tuple_bool, kb_list_bool, kb_dict_bool, kb_NoneType_tuple, kb_bool_tuple, kb_int_tuple, kb_str_tuple, kb_tuple_tuple, kb_list_tuple, kb_dict_tuple, if_true, if_false, Bool.false_eq_true, ite_true, ite_false, Bool.not_true, Bool.not_false])
/-! ### the way to the heart -/
/-- deeds (p, 1), one behind the other, from (a, b, c, e) to (a', b', c', e') -/
def HWay : List Int → Int → Int → Int → Int → Int → Int → Int → Int → Prop
  | [], a, b, c, e, a', b', c', e' => a' = a ∧ b' = b ∧ c' = c ∧ e' = e
  | p :: ps, a, b, c, e, a', b', c', e' => ∃ a1 w g e1, 0 ≤ p ∧ p < c / (Int.gcd b c : Int) ∧ IsDone a b c e p 1 a1 w g e1 ∧ HWay ps a1 w g e1 a' b' c' e' ∧ IsNear a b c e p
theorem done_one {a b c e p a' w g e' : Int} (h : isCut a b c e = true) (hp : 0 ≤ p) (hd : IsDone a b c e p 1 a' w g e') : isCut a' w g e' = true ∧ meas4 w g e' = meas4 b c e :=
  done_cut h (Int.le_refl _) (deedq_one h hp).al hd
end DL
namespace DL
open PySem PySem.Spec PyProof.Rows L2
local macro_rules | `(tactic| walk_at "rd") => `(tactic| simp only [startD, List.map, List.replicate, List.length_cons, List.length_nil, List.append_eq, List.append_nil, List.nil_append, List.cons_append, Nat.reduceSub, Nat.reduceAdd, List.getElem?_cons_zero, List.getElem?_cons_succ, List.set_cons_zero, List.set_cons_succ,
  dC, dVar, dOp, dTru, gTru, tru, dChain, dAnd, dOr, dNot, dAndV, dOrV, dNotV, dIf, dNeg, gNeg, dNil, dCons, dTup, dLst, dOwn, gIx, rBin, gAdd, gCmpI, dCall, dCallK, dSeq, dNext, dDrop, dRet, dRetN, dIfS, dName, dGNil, dGCons, dGTup, dSub, gSetL, dAsg, dPar, dPar3, dAug, gIpI, dSeqI, gSeqI, dRngI, gRng1, gRng2, dCB, gAbs, gInt, gMax, gMin, gGcd, gLen, lenD, gIsi, tyM, tyD, dBits, gBits, dMet, gAppend, dPart, dNoPart, dSl, gSl_tup, gSl_lst, cut_1, dEnds, gIs, isB, dNever, dFor, dLc, wipeD, dYes,
  sizeLine_eq, Nat.reduceLeDiff, gEq_int, gNe_int, gEq_strs, gNe_strs, gIn_two, gRepr_bl, rs_lst, rs_tup, rs_scr, rs_int, atI_0, atI_1, atI_2, atI_3, atI_4, atI_5, ixN_30, ixN_31, ixN_32, gEq_bl, gNe_bl, decide_eq_true_eq, beq_iff_eq, Bool.not_eq_true', beq_eq_false_iff_ne, decide_eq_false_iff_not, Bool.not_true, Bool.not_false, if_true, if_false, Bool.false_eq_true, ite_true, ite_false, true_and, and_true, ne_eq, Bool.bne_false, Bool.bne_true, reduceCtorEq])
local macro_rules | `(tactic| walk_at "rh") => `(tactic| simp only [*, startD, List.map, List.replicate, List.length_cons, List.length_nil, List.append_eq, List.append_nil, List.nil_append, List.cons_append, Nat.reduceSub, Nat.reduceAdd, List.getElem?_cons_zero, List.getElem?_cons_succ, List.set_cons_zero, List.set_cons_succ,
  dC, dVar, dOp, dTru, gTru, tru, dChain, dAnd, dOr, dNot, dAndV, dOrV, dNotV, dIf, dNeg, gNeg, dNil, dCons, dTup, dLst, dOwn, gIx, rBin, gAdd, gCmpI, dCall, dCallK, dSeq, dNext, dDrop, dRet, dRetN, dIfS, dName, dGNil, dGCons, dGTup, dSub, gSetL, dAsg, dPar, dPar3, dAug, gIpI, dSeqI, gSeqI, dRngI, gRng1, gRng2, dCB, gAbs, gInt, gMax, gMin, gGcd, gLen, lenD, gIsi, tyM, tyD, dBits, gBits, dMet, gAppend, dPart, dNoPart, dSl, gSl_tup, gSl_lst, cut_1, dEnds, gIs, isB, dNever, dFor, dLc, wipeD, dYes,
  sizeLine_eq, Nat.reduceLeDiff, gEq_int, gNe_int, gEq_strs, gNe_strs, gIn_two, gRepr_bl, rs_lst, rs_tup, rs_scr, rs_int, atI_0, atI_1, atI_2, atI_3, atI_4, atI_5, ixN_30, ixN_31, ixN_32, gEq_bl, gNe_bl, decide_eq_true_eq, beq_iff_eq, Bool.not_eq_true', beq_eq_false_iff_ne, decide_eq_false_iff_not, Bool.not_true, Bool.not_false, if_true, if_false, Bool.false_eq_true, ite_true, ite_false, true_and, and_true, ne_eq, Bool.bne_false, Bool.bne_true, reduceCtorEq])
local macro_rules | `(tactic| walk_at "kb") => `(tactic| simp only [kb_NoneType_list, kb_bool_list, kb_int_list, kb_str_list, kb_tuple_list, kb_list_list, kb_dict_list, kb_NoneType_int, kb_bool_int, kb_int_int, kb_str_int, kb_tuple_int, kb_list_int, kb_dict_int, kb_NoneType_bool, kb_bool_bool, kb_int_bool, kb_str_bool, kb_tuple_bool, kb_list_bool, kb_dict_bool, kb_NoneType_tuple, kb_bool_tuple, kb_int_tuple, kb_str_tuple, kb_tuple_tuple, kb_list_tuple, kb_dict_tuple, if_true, if_false, Bool.false_eq_true, ite_true, ite_false, Bool.not_true, Bool.not_false])
/-! ### the law's own deeds -/
end DL
namespace DL
open PySem PySem.Spec PyProof.Rows L2
local macro_rules | `(tactic| walk_at "rd") => `(tactic| simp only [startD, List.map, List.replicate, List.length_cons, List.length_nil, List.append_eq, List.append_nil, List.nil_append, List.cons_append, Nat.reduceSub, Nat.reduceAdd, List.getElem?_cons_zero, List.getElem?_cons_succ, List.set_cons_zero, List.set_cons_succ,
  dC, dVar, dOp, dTru, gTru, tru, dChain, dAnd, dOr, dNot, dAndV, dOrV, dNotV, dIf, dNeg, gNeg, dNil, dCons, dTup, dLst, dOwn, gIx, rBin, gAdd, gCmpI, dCall, dCallK, dSeq, dNext, dDrop, dRet, dRetN, dIfS, dName, dGNil, dGCons, dGTup, dSub, gSetL, dAsg, dPar, dPar3, dAug, gIpI, dSeqI, gSeqI, dRngI, gRng1, gRng2, dCB, gAbs, gInt, gMax, gMin, gGcd, gLen, lenD, gIsi, tyM, tyD, dBits, gBits, dMet, gAppend, dPart, dNoPart, dSl, gSl_tup, gSl_lst, cut_1, dEnds, gIs, isB, dNever, dFor, dLc, wipeD, dYes,
  sizeLine_eq, Nat.reduceLeDiff, gEq_int, gNe_int, gEq_strs, gNe_strs, gIn_two, gRepr_bl, rs_lst, rs_tup, rs_scr, rs_int, atI_0, atI_1, atI_2, atI_3, atI_4, atI_5, ixN_30, ixN_31, ixN_32, gEq_bl, gNe_bl, decide_eq_true_eq, beq_iff_eq, Bool.not_eq_true', beq_eq_false_iff_ne, decide_eq_false_iff_not, Bool.not_true, Bool.not_false, if_true, if_false, Bool.false_eq_true, ite_true, ite_false, true_and, and_true, ne_eq, Bool.bne_false, Bool.bne_true, reduceCtorEq])
local macro_rules | `(tactic| walk_at "rh") => `(tactic| simp only [*, startD, List.map, List.replicate, List.length_cons, List.length_nil, List.append_eq, List.append_nil, List.nil_append, List.cons_append, Nat.reduceSub, Nat.reduceAdd, List.getElem?_cons_zero, List.getElem?_cons_succ, List.set_cons_zero, List.set_cons_succ,
  dC, dVar, dOp, dTru, gTru, tru, dChain, dAnd, dOr, dNot, dAndV, dOrV, dNotV, dIf, dNeg, gNeg, dNil, dCons, dTup, dLst, dOwn, gIx, rBin, gAdd, gCmpI, dCall, dCallK, dSeq, dNext, dDrop, dRet, dRetN, dIfS, dName, dGNil, dGCons, dGTup, dSub, gSetL, dAsg, dPar, dPar3, dAug, gIpI, dSeqI, gSeqI, dRngI, gRng1, gRng2, dCB, gAbs, gInt, gMax, gMin, gGcd, gLen, lenD, gIsi, tyM, tyD, dBits, gBits, dMet, gAppend, dPart, dNoPart, dSl, gSl_tup, gSl_lst, cut_1, dEnds, gIs, isB, dNever, dFor, dLc, wipeD, dYes,
  sizeLine_eq, Nat.reduceLeDiff, gEq_int, gNe_int, gEq_strs, gNe_strs, gIn_two, gRepr_bl, rs_lst, rs_tup, rs_scr, rs_int, atI_0, atI_1, atI_2, atI_3, atI_4, atI_5, ixN_30, ixN_31, ixN_32, gEq_bl, gNe_bl, decide_eq_true_eq, beq_iff_eq, Bool.not_eq_true', beq_eq_false_iff_ne, decide_eq_false_iff_not, Bool.not_true, Bool.not_false, if_true, if_false, Bool.false_eq_true, ite_true, ite_false, true_and, and_true, ne_eq, Bool.bne_false, Bool.bne_true, reduceCtorEq])
local macro_rules | `(tactic| walk_at "kb") => `(tactic| simp only [kb_NoneType_list, kb_bool_list, kb_int_list, kb_str_list, kb_tuple_list, kb_list_list, kb_dict_list, kb_NoneType_int, kb_bool_int, kb_int_int, kb_str_int, kb_tuple_int, kb_list_int, kb_dict_int, kb_NoneType_bool, kb_bool_bool, kb_int_bool, kb_str_bool, kb_tuple_bool, kb_list_bool, kb_dict_bool, kb_NoneType_tuple, kb_bool_tuple, kb_int_tuple, kb_str_tuple, kb_tuple_tuple, kb_list_tuple, kb_dict_tuple, if_true, if_false, Bool.false_eq_true, ite_true, ite_false, Bool.not_true, Bool.not_false])
/-! ### k63: drawn deeds, the heart's numbers -/
/-- a deed: (p, q) is one of (a, b, c, e) -/
def isDeed (b c e p q : Int) : Bool := decide (1 ≤ q) && (decide (0 < b - q * e - q * q * c) && (decide (0 ≤ p) && (decide (p < q * (c / (Int.gcd b c : Int))) && (Int.gcd p q : Int) == 1)))
theorem meas_par {a b c e : Int} : (e - meas4 b c e) % 2 = 0 := by
  unfold meas4
  have e1 : 4 * b * c = 4 * (b * c) := Int.mul_assoc _ _ _
  rw [e1]
  rcases (by omega : e % 2 = 0 ∨ e % 2 = 1) with q | q
  · obtain ⟨t, rfl⟩ : ∃ t, e = 2 * t := ⟨e / 2, by omega⟩
    have : 2 * t * (2 * t) = 4 * (t * t) := by grind
    omega
  · obtain ⟨t, rfl⟩ : ∃ t, e = 2 * t + 1 := ⟨e / 2, by omega⟩
    have : (2 * t + 1) * (2 * t + 1) = 4 * (t * t + t) + 1 := by grind
    omega
end DL
namespace DL
open PySem PySem.Spec PyProof.Rows L2
local macro_rules | `(tactic| walk_at "rd") => `(tactic| simp only [startD, List.map, List.replicate, List.length_cons, List.length_nil, List.append_eq, List.append_nil, List.nil_append, List.cons_append, Nat.reduceSub, Nat.reduceAdd, List.getElem?_cons_zero, List.getElem?_cons_succ, List.set_cons_zero, List.set_cons_succ,
  dC, dVar, dOp, dTru, gTru, tru, dChain, dAnd, dOr, dNot, dAndV, dOrV, dNotV, dIf, dNeg, gNeg, dNil, dCons, dTup, dLst, dOwn, gIx, rBin, gAdd, gCmpI, dCall, dCallK, dSeq, dNext, dDrop, dRet, dRetN, dIfS, dName, dGNil, dGCons, dGTup, dSub, gSetL, dAsg, dPar, dPar3, dAug, gIpI, dSeqI, gSeqI, dRngI, gRng1, gRng2, dCB, gAbs, gInt, gMax, gMin, gGcd, gLen, lenD, gIsi, tyM, tyD, dBits, gBits, dMet, gAppend, dPart, dNoPart, dSl, gSl_tup, gSl_lst, cut_1, dEnds, gIs, isB, dNever, dFor, dLc, wipeD, dYes,
  sizeLine_eq, Nat.reduceLeDiff, gEq_int, gNe_int, gEq_strs, gNe_strs, gIn_two, gRepr_bl, rs_lst, rs_tup, rs_scr, rs_int, atI_0, atI_1, atI_2, atI_3, atI_4, atI_5, ixN_30, ixN_31, ixN_32, gEq_bl, gNe_bl, decide_eq_true_eq, beq_iff_eq, Bool.not_eq_true', beq_eq_false_iff_ne, decide_eq_false_iff_not, Bool.not_true, Bool.not_false, if_true, if_false, Bool.false_eq_true, ite_true, ite_false, true_and, and_true, ne_eq, Bool.bne_false, Bool.bne_true, reduceCtorEq])
local macro_rules | `(tactic| walk_at "rh") => `(tactic| simp only [*, startD, List.map, List.replicate, List.length_cons, List.length_nil, List.append_eq, List.append_nil, List.nil_append, List.cons_append, Nat.reduceSub, Nat.reduceAdd, List.getElem?_cons_zero, List.getElem?_cons_succ, List.set_cons_zero, List.set_cons_succ,
  dC, dVar, dOp, dTru, gTru, tru, dChain, dAnd, dOr, dNot, dAndV, dOrV, dNotV, dIf, dNeg, gNeg, dNil, dCons, dTup, dLst, dOwn, gIx, rBin, gAdd, gCmpI, dCall, dCallK, dSeq, dNext, dDrop, dRet, dRetN, dIfS, dName, dGNil, dGCons, dGTup, dSub, gSetL, dAsg, dPar, dPar3, dAug, gIpI, dSeqI, gSeqI, dRngI, gRng1, gRng2, dCB, gAbs, gInt, gMax, gMin, gGcd, gLen, lenD, gIsi, tyM, tyD, dBits, gBits, dMet, gAppend, dPart, dNoPart, dSl, gSl_tup, gSl_lst, cut_1, dEnds, gIs, isB, dNever, dFor, dLc, wipeD, dYes,
  sizeLine_eq, Nat.reduceLeDiff, gEq_int, gNe_int, gEq_strs, gNe_strs, gIn_two, gRepr_bl, rs_lst, rs_tup, rs_scr, rs_int, atI_0, atI_1, atI_2, atI_3, atI_4, atI_5, ixN_30, ixN_31, ixN_32, gEq_bl, gNe_bl, decide_eq_true_eq, beq_iff_eq, Bool.not_eq_true', beq_eq_false_iff_ne, decide_eq_false_iff_not, Bool.not_true, Bool.not_false, if_true, if_false, Bool.false_eq_true, ite_true, ite_false, true_and, and_true, ne_eq, Bool.bne_false, Bool.bne_true, reduceCtorEq])
local macro_rules | `(tactic| walk_at "kb") => `(tactic| simp only [kb_NoneType_list, kb_bool_list, kb_int_list, kb_str_list, kb_tuple_list, kb_list_list, kb_dict_list, kb_NoneType_int, kb_bool_int, kb_int_int, kb_str_int, kb_tuple_int, kb_list_int, kb_dict_int, kb_NoneType_bool, kb_bool_bool, kb_int_bool, kb_str_bool, kb_tuple_bool, kb_list_bool, kb_dict_bool, kb_NoneType_tuple, kb_bool_tuple, kb_int_tuple, kb_str_tuple, kb_tuple_tuple, kb_list_tuple, kb_dict_tuple, if_true, if_false, Bool.false_eq_true, ite_true, ite_false, Bool.not_true, Bool.not_false])
/-! ### all cuttings of a measure, as laws list them -/
def IsC (m : Int) (x : List Int) : Prop := ∃ a b c e, x = [a, b, c, e] ∧ isCut a b c e = true ∧ meas4 b c e = m
/-- l: cuttings of the measure m, among them all with P c e -/
def Cov (m : Int) (l : List (List Int)) (P : Int → Int → Prop) : Prop := (∀ x ∈ l, IsC m x) ∧ ∀ a b c e, isCut a b c e = true → meas4 b c e = m → P c e → [a, b, c, e] ∈ l
theorem Cov.weak {m : Int} {l : List (List Int)} {P P' : Int → Int → Prop} (h : Cov m l P) (w : ∀ a b c e, isCut a b c e = true → meas4 b c e = m → P' c e → P c e) : Cov m l P' := ⟨h.1, fun a b c e h1 h2 h3 => h.2 a b c e h1 h2 (w a b c e h1 h2 h3)⟩
theorem Cov.app {m : Int} {l l2 : List (List Int)} {P P' : Int → Int → Prop} (h : Cov m l P) (g : Cov m l2 P') : Cov m (l ++ l2) fun c e => P c e ∨ P' c e :=
  ⟨fun x hx => (List.mem_append.mp hx).elim (h.1 x) (g.1 x), fun a b c e h1 h2 h3 => List.mem_append.mpr (h3.imp (h.2 a b c e h1 h2) (g.2 a b c e h1 h2))⟩
theorem Cov.nil {m : Int} : Cov m [] fun _ _ => False := ⟨fun x hx => (by cases hx), fun _ _ _ _ _ _ h => h.elim⟩
theorem meas_bc {b c e m : Int} : meas4 b c e = m ↔ 4 * (b * c) = m - e * e := by
  unfold meas4
  rw [Int.mul_assoc]
  omega
/-! ### k28's own lists -/
/-! every deed leads somewhere -/
theorem bez_ex : ∀ (k : Nat) (m n : Int), n.natAbs ≤ k → ∃ u v : Int, u * m + v * n = (Int.gcd m n : Int)
  | 0, m, n, h => by
    have : n = 0 := by omega
    subst this
    rw [Int.gcd_zero_right]
    rcases (by omega : 0 ≤ m ∨ m ≤ 0) with h | h
    · exact ⟨1, 0, by omega⟩
    · exact ⟨-1, 0, by omega⟩
  | k + 1, m, n, h => by
    by_cases z : n = 0
    · subst z
      exact bez_ex k m 0 (by simp)
    · have r0 := Int.emod_nonneg m z
      have r1 := Int.emod_lt m z
      obtain ⟨u, v, e⟩ := bez_ex k n (m % n) (by omega)
      have eg : (Int.gcd n (m % n) : Int) = Int.gcd m n := gcd_emod' m n
      rw [eg] at e
      have em := Int.mul_ediv_add_emod m n
      refine ⟨v, u - v * (m / n), ?_⟩
      have : v * m + (u - v * (m / n)) * n = u * n + v * (m - n * (m / n)) := by grind
      rw [this, ← e]
      have : m - n * (m / n) = m % n := by omega
      rw [this]
theorem done_ex {a b c e p q : Int} (hc : 1 ≤ c) (hq : 1 ≤ q) (cp : Int.gcd p q = 1) : ∃ a' w g e', IsDone a b c e p q a' w g e' := by
  obtain ⟨z, y, hz⟩ := bez_ex q.natAbs p q (Nat.le_refl _)
  rw [cp] at hz
  have row : p * z - q * (-y) = 1 := by
    have : p * z - q * (-y) = z * p + y * q := by grind
    rw [this]; exact hz
  obtain ⟨u, v, huv⟩ := bez_ex (q * c).natAbs (p * b + q * a) (q * c) (Nat.le_refl _)
  have j0 : 0 < q * c := Int.mul_pos (by omega) (by omega)
  have g0 : 0 < (Int.gcd (p * b + q * a) (q * c) : Int) := by
    have := Int.gcd_pos_of_ne_zero_right (p * b + q * a) (show q * c ≠ 0 by omega)
    omega
  have dg : (Int.gcd (p * b + q * a) (q * c) : Int) ∣ c * (b - q * e - q * q * c) := by
    have h1 : c * (b - q * e - q * q * c) = (p * b + q * a) * (z * c) - (q * c) * ((-y) * b + z * a + e + q * c) := by
      have : (p * b + q * a) * (z * c) - (q * c) * ((-y) * b + z * a + e + q * c) = c * (b * (p * z - q * (-y)) - q * e - q * q * c) := by grind
      rw [this, row, Int.mul_one]
    rw [h1]
    exact Int.dvd_sub (Int.dvd_mul_of_dvd_left (Int.gcd_dvd_left _ _)) (Int.dvd_mul_of_dvd_left (Int.gcd_dvd_right _ _))
  obtain ⟨w, hw⟩ := dg
  have G0 : 0 < (Int.gcd w (Int.gcd (p * b + q * a) (q * c) : Int) : Int) := by
    have := Int.gcd_pos_of_ne_zero_right w (show (Int.gcd (p * b + q * a) (q * c) : Int) ≠ 0 by omega)
    omega
  refine ⟨_, w, _, _, rfl, by rw [hw, Int.mul_comm], rfl, Int.emod_nonneg (0 - (u * ((-y) * b + z * a + e + q * c) + v * (z * c))) (by omega), Int.emod_lt_of_pos _ G0, u, v, -y, z, row, huv, ?_⟩
  have := Int.mul_ediv_add_emod (0 - (u * ((-y) * b + z * a + e + q * c) + v * (z * c))) (Int.gcd w (Int.gcd (p * b + q * a) (q * c) : Int) : Int)
  refine ⟨-((0 - (u * ((-y) * b + z * a + e + q * c) + v * (z * c))) / (Int.gcd w (Int.gcd (p * b + q * a) (q * c) : Int) : Int)), ?_⟩
  rw [Int.mul_neg]
  omega
/-! where a deed leads, as a function -/
theorem isDeed_parts {b c e p q : Int} (h : isDeed b c e p q = true) : DeedQ b c e p q ∧ p < q * (c / (Int.gcd b c : Int)) := by
  simp only [isDeed, Bool.and_eq_true, decide_eq_true_eq, beq_iff_eq] at h
  obtain ⟨h1, h2, h3, h4, h5⟩ := h
  exact ⟨⟨h1, h2, h3, by omega⟩, h4⟩
end DL
namespace DL
open PySem PySem.Spec PyProof.Rows L2
local macro_rules | `(tactic| walk_at "rd") => `(tactic| simp only [startD, List.map, List.replicate, List.length_cons, List.length_nil, List.append_eq, List.append_nil, List.nil_append, List.cons_append, Nat.reduceSub, Nat.reduceAdd, List.getElem?_cons_zero, List.getElem?_cons_succ, List.set_cons_zero, List.set_cons_succ,
  dC, dVar, dOp, dTru, gTru, tru, dChain, dAnd, dOr, dNot, dAndV, dOrV, dNotV, dIf, dNeg, gNeg, dNil, dCons, dTup, dLst, dOwn, gIx, rBin, gAdd, gCmpI, dCall, dCallK, dSeq, dNext, dDrop, dRet, dRetN, dIfS, dName, dGNil, dGCons, dGTup, dSub, gSetL, dAsg, dPar, dPar3, dAug, gIpI, dSeqI, gSeqI, dRngI, gRng1, gRng2, dCB, gAbs, gInt, gMax, gMin, gGcd, gLen, lenD, gIsi, tyM, tyD, dBits, gBits, dMet, gAppend, dPart, dNoPart, dSl, gSl_tup, gSl_lst, cut_1, dEnds, gIs, isB, dNever, dFor, dLc, wipeD, dYes,
  sizeLine_eq, Nat.reduceLeDiff, gEq_int, gNe_int, gEq_strs, gNe_strs, gIn_two, gRepr_bl, rs_lst, rs_tup, rs_scr, rs_int, atI_0, atI_1, atI_2, atI_3, atI_4, atI_5, ixN_30, ixN_31, ixN_32, gEq_bl, gNe_bl, decide_eq_true_eq, beq_iff_eq, Bool.not_eq_true', beq_eq_false_iff_ne, decide_eq_false_iff_not, Bool.not_true, Bool.not_false, if_true, if_false, Bool.false_eq_true, ite_true, ite_false, true_and, and_true, ne_eq, Bool.bne_false, Bool.bne_true, reduceCtorEq])
local macro_rules | `(tactic| walk_at "rh") => `(tactic| simp only [*, startD, List.map, List.replicate, List.length_cons, List.length_nil, List.append_eq, List.append_nil, List.nil_append, List.cons_append, Nat.reduceSub, Nat.reduceAdd, List.getElem?_cons_zero, List.getElem?_cons_succ, List.set_cons_zero, List.set_cons_succ,
  dC, dVar, dOp, dTru, gTru, tru, dChain, dAnd, dOr, dNot, dAndV, dOrV, dNotV, dIf, dNeg, gNeg, dNil, dCons, dTup, dLst, dOwn, gIx, rBin, gAdd, gCmpI, dCall, dCallK, dSeq, dNext, dDrop, dRet, dRetN, dIfS, dName, dGNil, dGCons, dGTup, dSub, gSetL, dAsg, dPar, dPar3, dAug, gIpI, dSeqI, gSeqI, dRngI, gRng1, gRng2, dCB, gAbs, gInt, gMax, gMin, gGcd, gLen, lenD, gIsi, tyM, tyD, dBits, gBits, dMet, gAppend, dPart, dNoPart, dSl, gSl_tup, gSl_lst, cut_1, dEnds, gIs, isB, dNever, dFor, dLc, wipeD, dYes,
  sizeLine_eq, Nat.reduceLeDiff, gEq_int, gNe_int, gEq_strs, gNe_strs, gIn_two, gRepr_bl, rs_lst, rs_tup, rs_scr, rs_int, atI_0, atI_1, atI_2, atI_3, atI_4, atI_5, ixN_30, ixN_31, ixN_32, gEq_bl, gNe_bl, decide_eq_true_eq, beq_iff_eq, Bool.not_eq_true', beq_eq_false_iff_ne, decide_eq_false_iff_not, Bool.not_true, Bool.not_false, if_true, if_false, Bool.false_eq_true, ite_true, ite_false, true_and, and_true, ne_eq, Bool.bne_false, Bool.bne_true, reduceCtorEq])
local macro_rules | `(tactic| walk_at "kb") => `(tactic| simp only [kb_NoneType_list, kb_bool_list, kb_int_list, kb_str_list, kb_tuple_list, kb_list_list, kb_dict_list, kb_NoneType_int, kb_bool_int, kb_int_int, kb_str_int, kb_tuple_int, kb_list_int, kb_dict_int, kb_NoneType_bool, kb_bool_bool, kb_int_bool, kb_str_bool, kb_tuple_bool, kb_list_bool, kb_dict_bool, kb_NoneType_tuple, kb_bool_tuple, kb_int_tuple, kb_str_tuple, kb_tuple_tuple, kb_list_tuple, kb_dict_tuple, if_true, if_false, Bool.false_eq_true, ite_true, ite_false, Bool.not_true, Bool.not_false])
/-! ### cells are only added -/
def Plus (M M' : Mem) : Prop := ∃ G, M' = M ++ G ∧ ∀ c ∈ G, ∀ n, belowO n c = true
theorem Plus.refl (M : Mem) : Plus M M := ⟨[], (List.append_nil M).symm, fun c h => (by cases h)⟩
theorem Plus.trans {M M' M'' : Mem} (h : Plus M M') (g : Plus M' M'') : Plus M M'' := by
  obtain ⟨G, rfl, h1⟩ := h
  obtain ⟨G', rfl, h2⟩ := g
  exact ⟨G ++ G', List.append_assoc _ _ _, fun c hc => (List.mem_append.mp hc).elim (h1 c) (h2 c)⟩
theorem Plus.add {M M' : Mem} {l : List D} (h : Plus M M') (hl : ∀ n, belowAll n l = true) : Plus M (M' ++ [.lst l]) :=
  h.trans ⟨[.lst l], rfl, fun c hc n => by rw [List.mem_singleton.mp hc]; exact hl n⟩
theorem Plus.get {M M' : Mem} (h : Plus M M') {i : Nat} (hi : i < M.length) : M'[i]? = M[i]? := by
  obtain ⟨G, rfl, _⟩ := h
  exact List.getElem?_append_left hi
theorem Plus.len {M M' : Mem} (h : Plus M M') : M.length ≤ M'.length := by
  obtain ⟨G, rfl, _⟩ := h
  rw [List.length_append]; omega
theorem Plus.rtq {M M' : Mem} {Q : DQ} {d : D} (h : Plus M M') (q : Q d M') (hb : below M'.length d = true := by rfl) : Rtq M Q d M' := by
  refine rtqC q h.len hb fun i c hc => ?_
  obtain ⟨G, rfl, h1⟩ := h
  by_cases hi : i < M.length
  · rw [List.getElem?_append_left hi] at hc
    exact .inl hc
  · rw [List.getElem?_append_right (by omega)] at hc
    exact .inr (h1 c (List.mem_of_getElem? hc) _)
/-- the new cells are let go -/
theorem Plus.drop {M M' : Mem} {Q : DQ} {d : D} (h : Plus M M') (q : Q d M) (hb : below M.length d = true := by rfl) : Rtq M Q d M' := by
  obtain ⟨G, rfl, _⟩ := h
  exact rtqG q hb
theorem Plus.set {M M' : Mem} {k : Nat} {l : List D} (h : Plus M M') (hk : M.length ≤ k) (hl : ∀ n, belowAll n l = true) : Plus M (M'.set k (.lst l)) := by
  obtain ⟨G, rfl, h1⟩ := h
  refine ⟨G.set (k - M.length) (.lst l), ?_, fun c hc n => ?_⟩
  · rw [List.set_append_right _ _ hk]
  · rcases List.mem_or_eq_of_mem_set hc with hc | rfl
    · exact h1 c hc n
    · exact hl n
/-! ### the way to the heart, as a list of the caller's -/
/-! ### k28 -/
theorem near_uniq {a b c e p p2 : Int} (h : isCut a b c e = true) (h1 : IsNear a b c e p) (h2 : IsNear a b c e p2) (k1 : 0 ≤ p) (k2 : 0 ≤ p2) : p = p2 := by
  have key : ∀ x y : Int, IsNear a b c e x → IsNear a b c e y → 0 ≤ x → x < y → False := by
    intro x y hx hy x0 xy
    obtain ⟨a', w, g, e', hd⟩ := done_ex (a := a) (b := b) (e := e) (p := x) (cut_parts h).2.1 (Int.le_refl 1) (deedq_one h x0).cp
    have := hx.1 _ _ _ _ hd
    have := hy.2 x x0 xy _ _ _ _ hd
    omega
  rcases (by omega : p = p2 ∨ p < p2 ∨ p2 < p) with z | z | z
  · exact z
  · exact (key p p2 h1 h2 k1 z).elim
  · exact (key p2 p h2 h1 k2 z).elim
theorem HWay.uniq : ∀ {ps ps2 : List Int} {a b c e a1 b1 c1 e1 a2 b2 c2 e2 : Int}, isCut a b c e = true → HWay ps a b c e a1 b1 c1 e1 → HWay ps2 a b c e a2 b2 c2 e2 → ps.length = ps2.length → ps = ps2
  | [], [], _, _, _, _, _, _, _, _, _, _, _, _, _, _, _, _ => rfl
  | [], _ :: _, _, _, _, _, _, _, _, _, _, _, _, _, _, _, _, h => by cases h
  | _ :: _, [], _, _, _, _, _, _, _, _, _, _, _, _, _, _, _, h => by cases h
  | p :: ps, p2 :: ps2, _, _, _, _, _, _, _, _, _, _, _, _, hc, ⟨x1, x2, x3, x4, u0, u1, u2, u3, u4⟩, ⟨y1, y2, y3, y4, v0, v1, v2, v3, v4⟩, h => by
    have ep := near_uniq hc u4 v4 u0 v0
    subst ep
    have hg := done_g (cut_parts hc).2.1 (Int.le_refl 1) u2
    obtain ⟨rfl, rfl, rfl, rfl⟩ := isDone_unique (by omega) u2 v2
    rw [HWay.uniq (done_one hc u0 u2).1 u3 v3 (by simpa using h)]
end DL
namespace DL
open PySem PySem.Spec PyProof.Rows L2
local macro_rules | `(tactic| walk_at "rd") => `(tactic| simp only [startD, List.map, List.replicate, List.length_cons, List.length_nil, List.append_eq, List.append_nil, List.nil_append, List.cons_append, Nat.reduceSub, Nat.reduceAdd, List.getElem?_cons_zero, List.getElem?_cons_succ, List.set_cons_zero, List.set_cons_succ,
  dC, dVar, dOp, dTru, gTru, tru, dChain, dAnd, dOr, dNot, dAndV, dOrV, dNotV, dIf, dNeg, gNeg, dNil, dCons, dTup, dLst, dOwn, gIx, rBin, gAdd, gCmpI, dCall, dCallK, dSeq, dNext, dDrop, dRet, dRetN, dIfS, dName, dGNil, dGCons, dGTup, dSub, gSetL, dAsg, dPar, dPar3, dAug, gIpI, dSeqI, gSeqI, dRngI, gRng1, gRng2, dCB, gAbs, gInt, gMax, gMin, gGcd, gLen, lenD, gIsi, tyM, tyD, dBits, gBits, dMet, gAppend, dPart, dNoPart, dSl, gSl_tup, gSl_lst, cut_1, dEnds, gIs, isB, dNever, dFor, dLc, wipeD, dYes,
  sizeLine_eq, Nat.reduceLeDiff, gEq_int, gNe_int, gEq_strs, gNe_strs, gIn_two, gRepr_bl, rs_lst, rs_tup, rs_scr, rs_int, atI_0, atI_1, atI_2, atI_3, atI_4, atI_5, ixN_30, ixN_31, ixN_32, gEq_bl, gNe_bl, decide_eq_true_eq, beq_iff_eq, Bool.not_eq_true', beq_eq_false_iff_ne, decide_eq_false_iff_not, Bool.not_true, Bool.not_false, if_true, if_false, Bool.false_eq_true, ite_true, ite_false, true_and, and_true, ne_eq, Bool.bne_false, Bool.bne_true, reduceCtorEq])
local macro_rules | `(tactic| walk_at "rh") => `(tactic| simp only [*, startD, List.map, List.replicate, List.length_cons, List.length_nil, List.append_eq, List.append_nil, List.nil_append, List.cons_append, Nat.reduceSub, Nat.reduceAdd, List.getElem?_cons_zero, List.getElem?_cons_succ, List.set_cons_zero, List.set_cons_succ,
  dC, dVar, dOp, dTru, gTru, tru, dChain, dAnd, dOr, dNot, dAndV, dOrV, dNotV, dIf, dNeg, gNeg, dNil, dCons, dTup, dLst, dOwn, gIx, rBin, gAdd, gCmpI, dCall, dCallK, dSeq, dNext, dDrop, dRet, dRetN, dIfS, dName, dGNil, dGCons, dGTup, dSub, gSetL, dAsg, dPar, dPar3, dAug, gIpI, dSeqI, gSeqI, dRngI, gRng1, gRng2, dCB, gAbs, gInt, gMax, gMin, gGcd, gLen, lenD, gIsi, tyM, tyD, dBits, gBits, dMet, gAppend, dPart, dNoPart, dSl, gSl_tup, gSl_lst, cut_1, dEnds, gIs, isB, dNever, dFor, dLc, wipeD, dYes,
  sizeLine_eq, Nat.reduceLeDiff, gEq_int, gNe_int, gEq_strs, gNe_strs, gIn_two, gRepr_bl, rs_lst, rs_tup, rs_scr, rs_int, atI_0, atI_1, atI_2, atI_3, atI_4, atI_5, ixN_30, ixN_31, ixN_32, gEq_bl, gNe_bl, decide_eq_true_eq, beq_iff_eq, Bool.not_eq_true', beq_eq_false_iff_ne, decide_eq_false_iff_not, Bool.not_true, Bool.not_false, if_true, if_false, Bool.false_eq_true, ite_true, ite_false, true_and, and_true, ne_eq, Bool.bne_false, Bool.bne_true, reduceCtorEq])
local macro_rules | `(tactic| walk_at "kb") => `(tactic| simp only [kb_NoneType_list, kb_bool_list, kb_int_list, kb_str_list, kb_tuple_list, kb_list_list, kb_dict_list, kb_NoneType_int, kb_bool_int, kb_int_int, kb_str_int, kb_tuple_int, kb_list_int, kb_dict_int, kb_NoneType_bool, kb_bool_bool, kb_int_bool, kb_str_bool, kb_tuple_bool, kb_list_bool, kb_dict_bool, kb_NoneType_tuple, kb_bool_tuple, kb_int_tuple, kb_str_tuple, kb_tuple_tuple, kb_list_tuple, kb_dict_tuple, if_true, if_false, Bool.false_eq_true, ite_true, ite_false, Bool.not_true, Bool.not_false])
/-! ### sorted lists of tuples of ints -/
abbrev LSorted (l : List (List Int)) : Prop := l.Pairwise fun x y => lexL y x = false
theorem sorted_uniq : ∀ {l1 l2 : List (List Int)}, l1.Perm l2 → LSorted l1 → LSorted l2 → l1 = l2
  | [], l2, h, _, _ => (List.Perm.eq_nil h.symm).symm
  | x :: l1, [], h, _, _ => absurd h.length_eq (by simp)
  | x :: l1, y :: l2, h, s1, s2 => by
    have h1 := List.pairwise_cons.mp s1
    have h2 := List.pairwise_cons.mp s2
    have e : x = y := by
      rcases List.mem_cons.mp (h.mem_iff.mp (List.mem_cons_self (a := x) (l := l1))) with e | hx
      · exact e
      · rcases List.mem_cons.mp (h.mem_iff.mpr (List.mem_cons_self (a := y) (l := l2))) with e | hy
        · exact e.symm
        · exact lexL_conn x y (h2.1 x hx) (h1.1 y hy)
    subst e
    rw [sorted_uniq h.cons_inv h1.2 h2.2]
theorem nodup_perm {α : Type} {l1 l2 : List α} (h1 : l1.Nodup) (h2 : l2.Nodup) (h : ∀ x, x ∈ l1 ↔ x ∈ l2) : l1.Perm l2 := (List.perm_ext_iff_of_nodup h1 h2).mpr h
theorem sorted_one {l1 l2 : List (List Int)} (h1 : l1.Nodup) (h2 : l2.Nodup) (h : ∀ x, x ∈ l1 ↔ x ∈ l2) (s1 : LSorted l1) (s2 : LSorted l2) : l1 = l2 := sorted_uniq (nodup_perm h1 h2 h) s1 s2
/-! ### all cuttings of a measure, each once -/
def CovX (m : Int) (l : List (List Int)) (P : Int → Int → Prop) : Prop := l.Nodup ∧ ∀ x, x ∈ l ↔ ∃ a b c e, x = [a, b, c, e] ∧ isCut a b c e = true ∧ meas4 b c e = m ∧ P c e
theorem CovX.nil {m : Int} {P : Int → Int → Prop} (h : ∀ a b c e, isCut a b c e = true → meas4 b c e = m → ¬ P c e) : CovX m [] P :=
  ⟨List.nodup_nil, fun x => ⟨fun h => (by cases h), by rintro ⟨a, b, c, e, rfl, h1, h2, h3⟩; exact (h a b c e h1 h2 h3).elim⟩⟩
theorem CovX.iff {m : Int} {l : List (List Int)} {P P' : Int → Int → Prop} (h : CovX m l P) (w : ∀ a b c e, isCut a b c e = true → meas4 b c e = m → (P' c e ↔ P c e)) : CovX m l P' := by
  refine ⟨h.1, fun x => (h.2 x).trans ?_⟩
  constructor
  · rintro ⟨a, b, c, e, rfl, h1, h2, h3⟩; exact ⟨a, b, c, e, rfl, h1, h2, (w a b c e h1 h2).mpr h3⟩
  · rintro ⟨a, b, c, e, rfl, h1, h2, h3⟩; exact ⟨a, b, c, e, rfl, h1, h2, (w a b c e h1 h2).mp h3⟩
theorem CovX.app {m : Int} {l l2 : List (List Int)} {P P' : Int → Int → Prop} (h : CovX m l P) (g : CovX m l2 P') (w : ∀ c e, P c e → P' c e → False) : CovX m (l ++ l2) fun c e => P c e ∨ P' c e := by
  refine ⟨List.nodup_append.mpr ⟨h.1, g.1, fun x hx y hy e => ?_⟩, fun x => ?_⟩
  · subst e
    obtain ⟨a, b, c, e, rfl, _, _, h3⟩ := (h.2 x).mp hx
    obtain ⟨a', b', c', e', h4, _, _, h5⟩ := (g.2 _).mp hy
    cases h4
    exact w c e h3 h5
  · rw [List.mem_append, h.2, g.2]
    constructor
    · rintro (⟨a, b, c, e, rfl, h1, h2, h3⟩ | ⟨a, b, c, e, rfl, h1, h2, h3⟩)
      · exact ⟨a, b, c, e, rfl, h1, h2, .inl h3⟩
      · exact ⟨a, b, c, e, rfl, h1, h2, .inr h3⟩
    · rintro ⟨a, b, c, e, rfl, h1, h2, h3 | h3⟩
      · exact .inl ⟨a, b, c, e, rfl, h1, h2, h3⟩
      · exact .inr ⟨a, b, c, e, rfl, h1, h2, h3⟩
/-- the whole of them, sorted -/
structure AllC (m : Int) (l : List (List Int)) : Prop where
  nd : l.Nodup
  mem : ∀ x, x ∈ l ↔ IsC m x
  srt : LSorted l
  len : l.length ≤ 10000000
theorem AllC.of {m : Int} {l l' : List (List Int)} {P : Int → Int → Prop} (h : CovX m l P) (w : ∀ a b c e, isCut a b c e = true → meas4 b c e = m → P c e) (hl : l.length ≤ 10000000) (pm : l'.Perm l) (sd : LSorted l') : AllC m l' := by
  refine ⟨(pm.nodup_iff).mpr h.1, fun x => ?_, sd, by rw [pm.length_eq]; exact hl⟩
  rw [pm.mem_iff, h.2]
  constructor
  · rintro ⟨a, b, c, e, rfl, h1, h2, _⟩; exact ⟨a, b, c, e, rfl, h1, h2⟩
  · rintro ⟨a, b, c, e, rfl, h1, h2⟩; exact ⟨a, b, c, e, rfl, h1, h2, w a b c e h1 h2⟩
theorem AllC.uniq {m : Int} {l l' : List (List Int)} (h : AllC m l) (g : AllC m l') : l = l' := sorted_one h.nd g.nd (fun x => (h.mem x).trans (g.mem x).symm) h.srt g.srt
/-! ### the functions of k13 to k16 -/
end DL
namespace DL
open PySem PySem.Spec PyProof.Rows L2
local macro_rules | `(tactic| walk_at "rd") => `(tactic| simp only [startD, List.map, List.replicate, List.length_cons, List.length_nil, List.append_eq, List.append_nil, List.nil_append, List.cons_append, Nat.reduceSub, Nat.reduceAdd, List.getElem?_cons_zero, List.getElem?_cons_succ, List.set_cons_zero, List.set_cons_succ,
  dC, dVar, dOp, dTru, gTru, tru, dChain, dAnd, dOr, dNot, dAndV, dOrV, dNotV, dIf, dNeg, gNeg, dNil, dCons, dTup, dLst, dOwn, gIx, rBin, gAdd, gCmpI, dCall, dCallK, dSeq, dNext, dDrop, dRet, dRetN, dIfS, dName, dGNil, dGCons, dGTup, dSub, gSetL, dAsg, dPar, dPar3, dAug, gIpI, dSeqI, gSeqI, dRngI, gRng1, gRng2, dCB, gAbs, gInt, gMax, gMin, gGcd, gLen, lenD, gIsi, tyM, tyD, dBits, gBits, dMet, gAppend, dPart, dNoPart, dSl, gSl_tup, gSl_lst, cut_1, dEnds, gIs, isB, dNever, dFor, dLc, wipeD, dYes,
  sizeLine_eq, Nat.reduceLeDiff, gEq_int, gNe_int, gEq_strs, gNe_strs, gIn_two, gRepr_bl, rs_lst, rs_tup, rs_scr, rs_int, atI_0, atI_1, atI_2, atI_3, atI_4, atI_5, ixN_30, ixN_31, ixN_32, gEq_bl, gNe_bl, decide_eq_true_eq, beq_iff_eq, Bool.not_eq_true', beq_eq_false_iff_ne, decide_eq_false_iff_not, Bool.not_true, Bool.not_false, if_true, if_false, Bool.false_eq_true, ite_true, ite_false, true_and, and_true, ne_eq, Bool.bne_false, Bool.bne_true, reduceCtorEq])
local macro_rules | `(tactic| walk_at "rh") => `(tactic| simp only [*, startD, List.map, List.replicate, List.length_cons, List.length_nil, List.append_eq, List.append_nil, List.nil_append, List.cons_append, Nat.reduceSub, Nat.reduceAdd, List.getElem?_cons_zero, List.getElem?_cons_succ, List.set_cons_zero, List.set_cons_succ,
  dC, dVar, dOp, dTru, gTru, tru, dChain, dAnd, dOr, dNot, dAndV, dOrV, dNotV, dIf, dNeg, gNeg, dNil, dCons, dTup, dLst, dOwn, gIx, rBin, gAdd, gCmpI, dCall, dCallK, dSeq, dNext, dDrop, dRet, dRetN, dIfS, dName, dGNil, dGCons, dGTup, dSub, gSetL, dAsg, dPar, dPar3, dAug, gIpI, dSeqI, gSeqI, dRngI, gRng1, gRng2, dCB, gAbs, gInt, gMax, gMin, gGcd, gLen, lenD, gIsi, tyM, tyD, dBits, gBits, dMet, gAppend, dPart, dNoPart, dSl, gSl_tup, gSl_lst, cut_1, dEnds, gIs, isB, dNever, dFor, dLc, wipeD, dYes,
  sizeLine_eq, Nat.reduceLeDiff, gEq_int, gNe_int, gEq_strs, gNe_strs, gIn_two, gRepr_bl, rs_lst, rs_tup, rs_scr, rs_int, atI_0, atI_1, atI_2, atI_3, atI_4, atI_5, ixN_30, ixN_31, ixN_32, gEq_bl, gNe_bl, decide_eq_true_eq, beq_iff_eq, Bool.not_eq_true', beq_eq_false_iff_ne, decide_eq_false_iff_not, Bool.not_true, Bool.not_false, if_true, if_false, Bool.false_eq_true, ite_true, ite_false, true_and, and_true, ne_eq, Bool.bne_false, Bool.bne_true, reduceCtorEq])
local macro_rules | `(tactic| walk_at "kb") => `(tactic| simp only [kb_NoneType_list, kb_bool_list, kb_int_list, kb_str_list, kb_tuple_list, kb_list_list, kb_dict_list, kb_NoneType_int, kb_bool_int, kb_int_int, kb_str_int, kb_tuple_int, kb_list_int, kb_dict_int, kb_NoneType_bool, kb_bool_bool, kb_int_bool, kb_str_bool, kb_tuple_bool, kb_list_bool, kb_dict_bool, kb_NoneType_tuple, kb_bool_tuple, kb_int_tuple, kb_str_tuple, kb_tuple_tuple, kb_list_tuple, kb_dict_tuple, if_true, if_false, Bool.false_eq_true, ite_true, ite_false, Bool.not_true, Bool.not_false])
/-! ### a drawn cutting of a small measure -/
/-! ### all deeds of a cutting -/
theorem allowed_mono {b c e q q' : Int} (hb : 1 ≤ b) (hc : 1 ≤ c) (h1 : 1 ≤ q) (h2 : q ≤ q') (h : 0 < b - q' * e - q' * q' * c) : 0 < b - q * e - q * q * c := by
  have e1 : q' * (b - q * e - q * q * c) = q * (b - q' * e - q' * q' * c) + (q' - q) * b + q * q' * (q' - q) * c := by grind
  have p1 : 0 < q * (b - q' * e - q' * q' * c) := Int.mul_pos (by omega) h
  have p2 : 0 ≤ (q' - q) * b := Int.mul_nonneg (by omega) (by omega)
  have p3 : 0 ≤ q * q' * (q' - q) * c := Int.mul_nonneg (Int.mul_nonneg (Int.mul_nonneg (by omega) (by omega)) (by omega)) (by omega)
  by_cases z : 0 < b - q * e - q * q * c
  · exact z
  · have : q' * (b - q * e - q * q * c) ≤ 0 := Int.mul_nonpos_of_nonneg_of_nonpos (by omega) (by omega)
    omega
def CovD (b c e : Int) (l : List (List Int)) (k : Int) : Prop := l.Nodup ∧ ∀ x, x ∈ l ↔ ∃ p q, x = [p, q] ∧ isDeed b c e p q = true ∧ q < k
structure AllD (b c e : Int) (l : List (List Int)) : Prop where
  nd : l.Nodup
  mem : ∀ x, x ∈ l ↔ ∃ p q, x = [p, q] ∧ isDeed b c e p q = true
  srt : LSorted l
  len : l.length ≤ 10000000
theorem AllD.uniq {b c e : Int} {l l' : List (List Int)} (h : AllD b c e l) (g : AllD b c e l') : l = l' := sorted_one h.nd g.nd (fun x => (h.mem x).trans (g.mem x).symm) h.srt g.srt
theorem AllD.of {b c e k : Int} {l l' : List (List Int)} (hb : 1 ≤ b) (hc : 1 ≤ c) (hk : 1 ≤ k) (h : CovD b c e l k) (hn : ¬ 0 < b - k * e - k * k * c) (hl : l.length ≤ 10000000) (pm : l'.Perm l) (sd : LSorted l') : AllD b c e l' := by
  refine ⟨(pm.nodup_iff).mpr h.1, fun x => ?_, sd, by rw [pm.length_eq]; exact hl⟩
  rw [pm.mem_iff, h.2]
  constructor
  · rintro ⟨p, q, rfl, h1, _⟩; exact ⟨p, q, rfl, h1⟩
  · rintro ⟨p, q, rfl, h1⟩
    refine ⟨p, q, rfl, h1, ?_⟩
    by_cases z : q < k
    · exact z
    · exact (hn (allowed_mono hb hc hk (by omega) (isDeed_parts h1).1.al)).elim
/-! ### deeds judged -/
theorem len2 {l : List D} (h : l.length = 2) : ∃ a b, l = [a, b] := by
  match l, h with
  | [a, b], _ => exact ⟨a, b, rfl⟩
/-! ### columns led down -/
end DL
namespace DL
open PySem PySem.Spec PyProof.Rows L2
local macro_rules | `(tactic| walk_at "rd") => `(tactic| simp only [startD, List.map, List.replicate, List.length_cons, List.length_nil, List.append_eq, List.append_nil, List.nil_append, List.cons_append, Nat.reduceSub, Nat.reduceAdd, List.getElem?_cons_zero, List.getElem?_cons_succ, List.set_cons_zero, List.set_cons_succ,
  dC, dVar, dOp, dTru, gTru, tru, dChain, dAnd, dOr, dNot, dAndV, dOrV, dNotV, dIf, dNeg, gNeg, dNil, dCons, dTup, dLst, dOwn, gIx, rBin, gAdd, gCmpI, dCall, dCallK, dSeq, dNext, dDrop, dRet, dRetN, dIfS, dName, dGNil, dGCons, dGTup, dSub, gSetL, dAsg, dPar, dPar3, dAug, gIpI, dSeqI, gSeqI, dRngI, gRng1, gRng2, dCB, gAbs, gInt, gMax, gMin, gGcd, gLen, lenD, gIsi, tyM, tyD, dBits, gBits, dMet, gAppend, dPart, dNoPart, dSl, gSl_tup, gSl_lst, cut_1, dEnds, gIs, isB, dNever, dFor, dLc, wipeD, dYes,
  sizeLine_eq, Nat.reduceLeDiff, gEq_int, gNe_int, gEq_strs, gNe_strs, gIn_two, gRepr_bl, rs_lst, rs_tup, rs_scr, rs_int, atI_0, atI_1, atI_2, atI_3, atI_4, atI_5, ixN_30, ixN_31, ixN_32, gEq_bl, gNe_bl, decide_eq_true_eq, beq_iff_eq, Bool.not_eq_true', beq_eq_false_iff_ne, decide_eq_false_iff_not, Bool.not_true, Bool.not_false, if_true, if_false, Bool.false_eq_true, ite_true, ite_false, true_and, and_true, ne_eq, Bool.bne_false, Bool.bne_true, reduceCtorEq])
local macro_rules | `(tactic| walk_at "rh") => `(tactic| simp only [*, startD, List.map, List.replicate, List.length_cons, List.length_nil, List.append_eq, List.append_nil, List.nil_append, List.cons_append, Nat.reduceSub, Nat.reduceAdd, List.getElem?_cons_zero, List.getElem?_cons_succ, List.set_cons_zero, List.set_cons_succ,
  dC, dVar, dOp, dTru, gTru, tru, dChain, dAnd, dOr, dNot, dAndV, dOrV, dNotV, dIf, dNeg, gNeg, dNil, dCons, dTup, dLst, dOwn, gIx, rBin, gAdd, gCmpI, dCall, dCallK, dSeq, dNext, dDrop, dRet, dRetN, dIfS, dName, dGNil, dGCons, dGTup, dSub, gSetL, dAsg, dPar, dPar3, dAug, gIpI, dSeqI, gSeqI, dRngI, gRng1, gRng2, dCB, gAbs, gInt, gMax, gMin, gGcd, gLen, lenD, gIsi, tyM, tyD, dBits, gBits, dMet, gAppend, dPart, dNoPart, dSl, gSl_tup, gSl_lst, cut_1, dEnds, gIs, isB, dNever, dFor, dLc, wipeD, dYes,
  sizeLine_eq, Nat.reduceLeDiff, gEq_int, gNe_int, gEq_strs, gNe_strs, gIn_two, gRepr_bl, rs_lst, rs_tup, rs_scr, rs_int, atI_0, atI_1, atI_2, atI_3, atI_4, atI_5, ixN_30, ixN_31, ixN_32, gEq_bl, gNe_bl, decide_eq_true_eq, beq_iff_eq, Bool.not_eq_true', beq_eq_false_iff_ne, decide_eq_false_iff_not, Bool.not_true, Bool.not_false, if_true, if_false, Bool.false_eq_true, ite_true, ite_false, true_and, and_true, ne_eq, Bool.bne_false, Bool.bne_true, reduceCtorEq])
local macro_rules | `(tactic| walk_at "kb") => `(tactic| simp only [kb_NoneType_list, kb_bool_list, kb_int_list, kb_str_list, kb_tuple_list, kb_list_list, kb_dict_list, kb_NoneType_int, kb_bool_int, kb_int_int, kb_str_int, kb_tuple_int, kb_list_int, kb_dict_int, kb_NoneType_bool, kb_bool_bool, kb_int_bool, kb_str_bool, kb_tuple_bool, kb_list_bool, kb_dict_bool, kb_NoneType_tuple, kb_bool_tuple, kb_int_tuple, kb_str_tuple, kb_tuple_tuple, kb_list_tuple, kb_dict_tuple, if_true, if_false, Bool.false_eq_true, ite_true, ite_false, Bool.not_true, Bool.not_false])
/-! ### columns of a deed's table, led down -/
/-! ### x in l -/
end DL
/-! MF: the deed that leads back; plain -/
namespace DL
end DL
namespace DL
open PySem PySem.Spec PyProof.Rows L2
local macro_rules | `(tactic| walk_at "rd") => `(tactic| simp only [startD, List.map, List.replicate, List.length_cons, List.length_nil, List.append_eq, List.append_nil, List.nil_append, List.cons_append, Nat.reduceSub, Nat.reduceAdd, List.getElem?_cons_zero, List.getElem?_cons_succ, List.set_cons_zero, List.set_cons_succ,
  dC, dVar, dOp, dTru, gTru, tru, dChain, dAnd, dOr, dNot, dAndV, dOrV, dNotV, dIf, dNeg, gNeg, dNil, dCons, dTup, dLst, dOwn, gIx, rBin, gAdd, gCmpI, dCall, dCallK, dSeq, dNext, dDrop, dRet, dRetN, dIfS, dName, dGNil, dGCons, dGTup, dSub, gSetL, dAsg, dPar, dPar3, dAug, gIpI, dSeqI, gSeqI, dRngI, gRng1, gRng2, dCB, gAbs, gInt, gMax, gMin, gGcd, gLen, lenD, gIsi, tyM, tyD, dBits, gBits, dMet, gAppend, dPart, dNoPart, dSl, gSl_tup, gSl_lst, cut_1, dEnds, gIs, isB, dNever, dFor, dLc, wipeD, dYes,
  sizeLine_eq, Nat.reduceLeDiff, gEq_int, gNe_int, gEq_strs, gNe_strs, gIn_two, gRepr_bl, rs_lst, rs_tup, rs_scr, rs_int, atI_0, atI_1, atI_2, atI_3, atI_4, atI_5, ixN_30, ixN_31, ixN_32, gEq_bl, gNe_bl, decide_eq_true_eq, beq_iff_eq, Bool.not_eq_true', beq_eq_false_iff_ne, decide_eq_false_iff_not, Bool.not_true, Bool.not_false, if_true, if_false, Bool.false_eq_true, ite_true, ite_false, true_and, and_true, ne_eq, Bool.bne_false, Bool.bne_true, reduceCtorEq])
local macro_rules | `(tactic| walk_at "rh") => `(tactic| simp only [*, startD, List.map, List.replicate, List.length_cons, List.length_nil, List.append_eq, List.append_nil, List.nil_append, List.cons_append, Nat.reduceSub, Nat.reduceAdd, List.getElem?_cons_zero, List.getElem?_cons_succ, List.set_cons_zero, List.set_cons_succ,
  dC, dVar, dOp, dTru, gTru, tru, dChain, dAnd, dOr, dNot, dAndV, dOrV, dNotV, dIf, dNeg, gNeg, dNil, dCons, dTup, dLst, dOwn, gIx, rBin, gAdd, gCmpI, dCall, dCallK, dSeq, dNext, dDrop, dRet, dRetN, dIfS, dName, dGNil, dGCons, dGTup, dSub, gSetL, dAsg, dPar, dPar3, dAug, gIpI, dSeqI, gSeqI, dRngI, gRng1, gRng2, dCB, gAbs, gInt, gMax, gMin, gGcd, gLen, lenD, gIsi, tyM, tyD, dBits, gBits, dMet, gAppend, dPart, dNoPart, dSl, gSl_tup, gSl_lst, cut_1, dEnds, gIs, isB, dNever, dFor, dLc, wipeD, dYes,
  sizeLine_eq, Nat.reduceLeDiff, gEq_int, gNe_int, gEq_strs, gNe_strs, gIn_two, gRepr_bl, rs_lst, rs_tup, rs_scr, rs_int, atI_0, atI_1, atI_2, atI_3, atI_4, atI_5, ixN_30, ixN_31, ixN_32, gEq_bl, gNe_bl, decide_eq_true_eq, beq_iff_eq, Bool.not_eq_true', beq_eq_false_iff_ne, decide_eq_false_iff_not, Bool.not_true, Bool.not_false, if_true, if_false, Bool.false_eq_true, ite_true, ite_false, true_and, and_true, ne_eq, Bool.bne_false, Bool.bne_true, reduceCtorEq])
local macro_rules | `(tactic| walk_at "kb") => `(tactic| simp only [kb_NoneType_list, kb_bool_list, kb_int_list, kb_str_list, kb_tuple_list, kb_list_list, kb_dict_list, kb_NoneType_int, kb_bool_int, kb_int_int, kb_str_int, kb_tuple_int, kb_list_int, kb_dict_int, kb_NoneType_bool, kb_bool_bool, kb_int_bool, kb_str_bool, kb_tuple_bool, kb_list_bool, kb_dict_bool, kb_NoneType_tuple, kb_bool_tuple, kb_int_tuple, kb_str_tuple, kb_tuple_tuple, kb_list_tuple, kb_dict_tuple, if_true, if_false, Bool.false_eq_true, ite_true, ite_false, Bool.not_true, Bool.not_false])
mutual
/-- data without truth values and dicts -/
def nb : PyData → Bool
  | .none => true
  | .int _ => true
  | .str _ => true
  | .list l => nbAll l
  | .tuple l => nbAll l
  | _ => false
def nbAll : List PyData → Bool
  | [] => true
  | d :: ds => nb d && nbAll ds
end
end DL
/-! MG: how many numbers below n are free of n; plain -/
namespace DL
open Classical in
noncomputable def cnt (n : Nat) (P : Nat → Prop) : Nat := (List.range n).countP fun i => decide (P i)
open Classical in
theorem cnt_congr {n : Nat} {P Q : Nat → Prop} (h : ∀ i, i < n → (P i ↔ Q i)) : cnt n P = cnt n Q := by
  unfold cnt
  refine List.countP_congr fun i hi => ?_
  rw [decide_eq_true_iff, decide_eq_true_iff]
  exact h i (List.mem_range.mp hi)
theorem cnt_add (m n : Nat) (P : Nat → Prop) : cnt (m + n) P = cnt m P + cnt n (fun i => P (m + i)) := by
  unfold cnt
  rw [List.range_add, List.countP_append, List.countP_map]
  rfl
open Classical in
theorem cnt_none {n : Nat} {P : Nat → Prop} (h : ∀ i, i < n → ¬ P i) : cnt n P = 0 := by
  unfold cnt
  rw [List.countP_eq_zero]
  intro i hi
  rw [decide_eq_true_iff]
  exact h i (List.mem_range.mp hi)
open Classical in
theorem cnt_split (n : Nat) (P Q : Nat → Prop) : cnt n P = cnt n (fun i => P i ∧ Q i) + cnt n (fun i => P i ∧ ¬ Q i) := by
  induction n with
  | zero => rfl
  | succ n ih =>
    rw [cnt_add, cnt_add, cnt_add, ih]
    have one : ∀ R : Nat → Prop, cnt 1 R = (if R 0 then 1 else 0) := by
      intro R
      unfold cnt
      rw [show List.range 1 = [0] from rfl, List.countP_singleton]
      by_cases h : R 0
      · simp [h]
      · simp [h]
    rw [one, one, one]
    generalize cnt n (fun i => P i ∧ Q i) = A
    generalize cnt n (fun i => P i ∧ ¬ Q i) = B
    generalize P (n + 0) = p
    generalize Q (n + 0) = q
    by_cases h1 : p
    · by_cases h2 : q
      · rw [if_pos h1, if_pos ⟨h1, h2⟩, if_neg (fun z => z.2 h2)]; omega
      · rw [if_pos h1, if_neg (fun z => h2 z.2), if_pos ⟨h1, h2⟩]; omega
    · rw [if_neg h1, if_neg (fun z => h1 z.1), if_neg (fun z => h1 z.1)]; omega
theorem cnt_per {m : Nat} {P : Nat → Prop} (h : ∀ i, P (m + i) ↔ P i) : ∀ k, cnt (k * m) P = k * cnt m P
  | 0 => by rw [Nat.zero_mul, Nat.zero_mul]; rfl
  | k + 1 => by
    rw [Nat.succ_mul, Nat.add_comm, cnt_add, cnt_congr (n := k * m) fun i _ => h i, cnt_per h k, Nat.succ_mul, Nat.add_comm]
theorem cnt_mul {k : Nat} (hk : 1 ≤ k) (P : Nat → Prop) : ∀ m, cnt (m * k) (fun i => k ∣ i ∧ P i) = cnt m (fun j => P (j * k))
  | 0 => by rw [Nat.zero_mul]; rfl
  | m + 1 => by
    rw [Nat.succ_mul, cnt_add, cnt_mul hk P m, cnt_add]
    congr 1
    obtain ⟨j, rfl⟩ : ∃ j, k = 1 + j := ⟨k - 1, by omega⟩
    rw [cnt_add, cnt_none (n := j), Nat.add_zero]
    · refine cnt_congr fun i hi => ?_
      have : i = 0 := by omega
      subst this
      rw [Nat.add_zero, Nat.add_zero]
      exact ⟨fun h => h.2, fun h => ⟨Nat.dvd_mul_left _ _, h⟩⟩
    · intro i hi h
      have h1 := (Nat.dvd_add_right (Nat.dvd_mul_left (1 + j) m)).mp h.1
      have := Nat.le_of_dvd (by omega) h1
      omega
/-- no divisor of n below k divides i -/
def Free (n k i : Nat) : Prop := ∀ d, 2 ≤ d → d < k → d ∣ n → ¬ d ∣ i
noncomputable def phi (n : Nat) : Nat := cnt n fun i => Nat.gcd i n = 1
theorem free_gcd {n k i : Nat} (hn : 1 ≤ n) (hk : n < k) : Free n k i ↔ Nat.gcd i n = 1 := by
  constructor
  · intro h
    have g0 : 0 < Nat.gcd i n := Nat.gcd_pos_of_pos_right _ (by omega)
    have g1 : Nat.gcd i n ≤ n := Nat.le_of_dvd (by omega) (Nat.gcd_dvd_right _ _)
    by_cases z : Nat.gcd i n = 1
    · exact z
    · exact (h (Nat.gcd i n) (by omega) (by omega) (Nat.gcd_dvd_right _ _) (Nat.gcd_dvd_left _ _)).elim
  · intro h d d2 _ dn di
    have := Nat.dvd_gcd di dn
    rw [h] at this
    have := Nat.le_of_dvd (by decide) this
    omega
/-- the state of the reckoning -/
structure Fst (n k left c : Nat) : Prop where
  l1 : 1 ≤ left
  ln : left ∣ n
  low : ∀ d, 2 ≤ d → d < k → ¬ d ∣ left
  up : ∀ d, d ∣ n → (∀ e, 2 ≤ e → e < k → ¬ e ∣ d) → d ∣ left
  ct : c = cnt n (Free n k)
theorem Fst.no {n k left c : Nat} (hk : 2 ≤ k) (h : Fst n k left c) (hd : ¬ k ∣ left) : Fst n (k + 1) left c := by
  refine ⟨h.l1, h.ln, fun d d2 d3 => ?_, fun d d1 d2 => h.up d d1 fun e e1 e2 => d2 e e1 (by omega), ?_⟩
  · by_cases z : d = k
    · subst z; exact hd
    · exact h.low d d2 (by omega)
  · rw [h.ct]
    refine cnt_congr fun i _ => ⟨fun f d d2 d3 dn di => ?_, fun f d d2 d3 => f d d2 (by omega)⟩
    by_cases z : d = k
    · subst z
      refine hd (h.up d dn fun e e2 e3 ed => ?_)
      exact f e e2 e3 (Nat.dvd_trans ed dn) (Nat.dvd_trans ed di)
    · exact f d d2 (by omega) dn di
/-- a divisor of what is left that no lower one divides -/
theorem Fst.yes {n k left c left' : Nat} (hn : 1 ≤ n) (hk : 2 ≤ k) (h : Fst n k left c) (hd : k ∣ left) (h1 : left' ∣ left) (h2 : ¬ k ∣ left') (h3 : ∀ d, Nat.gcd d k = 1 → d ∣ left → d ∣ left') : Fst n (k + 1) left' (c / k * (k - 1)) := by
  have prime : ∀ e, 2 ≤ e → e < k → ¬ e ∣ k := fun e e2 e3 ek => h.low e e2 e3 (Nat.dvd_trans ek hd)
  have cop : ∀ d, (∀ e, 2 ≤ e → e < k + 1 → ¬ e ∣ d) → Nat.gcd d k = 1 := by
    intro d hd'
    have g0 : 0 < Nat.gcd d k := Nat.gcd_pos_of_pos_right _ (by omega)
    have g1 : Nat.gcd d k ≤ k := Nat.le_of_dvd (by omega) (Nat.gcd_dvd_right _ _)
    by_cases z : Nat.gcd d k = 1
    · exact z
    · exact (hd' (Nat.gcd d k) (by omega) (by omega) (Nat.gcd_dvd_left _ _)).elim
  have cop2 : ∀ d, 2 ≤ d → d < k → Nat.gcd d k = 1 := by
    intro d d2 d3
    have g0 : 0 < Nat.gcd d k := Nat.gcd_pos_of_pos_right _ (by omega)
    have g1 : Nat.gcd d k ≤ d := Nat.le_of_dvd (by omega) (Nat.gcd_dvd_left _ _)
    by_cases z : Nat.gcd d k = 1
    · exact z
    · exact (prime (Nat.gcd d k) (by omega) (by omega) (Nat.gcd_dvd_right _ _)).elim
  have l1 : 1 ≤ left' := by
    rcases Nat.eq_zero_or_pos left' with z | z
    · rw [z] at h1
      have := Nat.zero_dvd.mp h1
      have := h.l1
      omega
    · exact z
  refine ⟨l1, Nat.dvd_trans h1 h.ln, fun d d2 d3 dl => ?_, fun d d1 d2 => h3 d (cop d d2) (h.up d d1 fun e e1 e2 => d2 e e1 (by omega)), ?_⟩
  · by_cases z : d = k
    · subst z; exact h2 dl
    · exact h.low d d2 (by omega) (Nat.dvd_trans dl h1)
  · obtain ⟨m, hm⟩ := Nat.dvd_trans hd h.ln
    have per : ∀ i, Free n k (m + i) ↔ Free n k i := by
      have dm : ∀ d, 2 ≤ d → d < k → d ∣ n → d ∣ m := by
        intro d d2 d3 dn
        rw [hm] at dn
        exact Nat.Coprime.dvd_of_dvd_mul_left (cop2 d d2 d3) dn
      refine fun i => ⟨fun f d d2 d3 dn di => f d d2 d3 dn (Nat.dvd_add (dm d d2 d3 dn) di), fun f d d2 d3 dn di => f d d2 d3 dn ((Nat.dvd_add_right (dm d d2 d3 dn)).mp di)⟩
    have e1 : cnt n (Free n k) = k * cnt m (Free n k) := by
      have := cnt_per per k
      rw [← hm] at this
      exact this
    have e2 : cnt n (fun i => Free n k i ∧ k ∣ i) = cnt m (Free n k) := by
      have h5 := cnt_mul (k := k) (by omega) (Free n k) m
      rw [Nat.mul_comm, ← hm] at h5
      rw [cnt_congr (Q := fun i => k ∣ i ∧ Free n k i) (fun i _ => And.comm), h5]
      refine cnt_congr fun j _ => ⟨fun f d d2 d3 dn dj => f d d2 d3 dn (Nat.dvd_mul_right_of_dvd dj _), fun f d d2 d3 dn dj => f d d2 d3 dn ?_⟩
      exact Nat.Coprime.dvd_of_dvd_mul_right (cop2 d d2 d3) dj
    have e3 : cnt n (Free n (k + 1)) = cnt n (fun i => Free n k i ∧ ¬ k ∣ i) := by
      refine cnt_congr fun i _ => ⟨fun f => ⟨fun d d2 d3 => f d d2 (by omega), f k hk (by omega) ⟨m, hm⟩⟩, fun f d d2 d3 dn di => ?_⟩
      by_cases z : d = k
      · subst z; exact f.2 di
      · exact f.1 d d2 (by omega) dn di
    have e4 := cnt_split n (Free n k) (fun i => k ∣ i)
    rw [e3, h.ct, e1, Nat.mul_div_cancel_left _ (by omega)]
    rw [e1, e2] at e4
    obtain ⟨j, rfl⟩ : ∃ j, k = j + 1 := ⟨k - 1, by omega⟩
    rw [Nat.succ_mul] at e4
    rw [Nat.add_sub_cancel, Nat.mul_comm]
    omega
open Classical in
theorem Fst.start {n : Nat} (hn : 1 ≤ n) : Fst n 2 n n := by
  refine ⟨hn, Nat.dvd_refl _, fun d d2 d3 => by omega, fun d h _ => h, ?_⟩
  unfold cnt
  rw [List.countP_eq_length.mpr, List.length_range]
  intro i _
  rw [decide_eq_true_iff]
  intro d d2 d3
  omega
/-- on to a later place, where nothing divides -/
theorem Fst.far {n k left c : Nat} (hk : 2 ≤ k) (h : Fst n k left c) : ∀ j, (∀ d, k ≤ d → d < k + j → ¬ d ∣ left) → Fst n (k + j) left c
  | 0, _ => h
  | j + 1, hd => Fst.no (k := k + j) (by omega) (Fst.far hk h j fun d d1 d2 => hd d d1 (by omega)) (hd (k + j) (by omega) (by omega))
theorem Fst.done {n k left c : Nat} (hn : 1 ≤ n) (hk : n < k) (h : Fst n k left c) : c = phi n := by
  rw [h.ct]
  exact cnt_congr fun i _ => free_gcd hn hk
theorem Fst.fin {n k left c : Nat} (hn : 1 ≤ n) (hk : 2 ≤ k) (h : Fst n k left c) (hl : left < k * k) : (if 1 < left then c / left * (left - 1) else c) = phi n := by
  by_cases h1 : 1 < left
  · rw [if_pos h1]
    -- what is left has no divisor of its own
    have own : ∀ d, 2 ≤ d → d < left → ¬ d ∣ left := by
      intro d d2 d3 ⟨j, hj⟩
      by_cases z : d < k
      · exact h.low d d2 z ⟨j, hj⟩
      · by_cases y : j < k
        · have j2 : 2 ≤ j := by
            rcases (by omega : j = 0 ∨ j = 1 ∨ 2 ≤ j) with e | e | e
            · rw [e] at hj; omega
            · rw [e] at hj; omega
            · exact e
          exact h.low j j2 y ⟨d, by rw [hj, Nat.mul_comm]⟩
        · have : k * k ≤ d * j := Nat.mul_le_mul (by omega) (by omega)
          omega
    have hkl : k ≤ left := by
      by_cases z : k ≤ left
      · exact z
      · exact (h.low left (by omega) (by omega) (Nat.dvd_refl _)).elim
    have s1 := h.far hk (left - k) fun d d1 d2 => own d (by omega) (by omega)
    rw [show k + (left - k) = left by omega] at s1
    have s2 := s1.yes (left' := 1) hn (by omega) (Nat.dvd_refl _) (Nat.one_dvd _) (fun z => by have := Nat.le_of_dvd (by decide) z; omega) (fun d d1 d2 => by
      have := Nat.dvd_gcd (Nat.dvd_refl d) d2
      rw [d1] at this
      exact this)
    have s3 := s2.far (by omega) n fun d d1 d2 z => by have := Nat.le_of_dvd (by decide) z; omega
    exact s3.done hn (by omega)
  · rw [if_neg h1]
    have e : left = 1 := by have := h.l1; omega
    subst e
    have s3 := h.far hk n fun d d1 d2 z => by have := Nat.le_of_dvd (by decide) z; omega
    exact s3.done hn (by omega)
end DL
namespace DL
open PySem PySem.Spec PyProof.Rows L2
local macro_rules | `(tactic| walk_at "rd") => `(tactic| simp only [startD, List.map, List.replicate, List.length_cons, List.length_nil, List.append_eq, List.append_nil, List.nil_append, List.cons_append, Nat.reduceSub, Nat.reduceAdd, List.getElem?_cons_zero, List.getElem?_cons_succ, List.set_cons_zero, List.set_cons_succ,
  dC, dVar, dOp, dTru, gTru, tru, dChain, dAnd, dOr, dNot, dAndV, dOrV, dNotV, dIf, dNeg, gNeg, dNil, dCons, dTup, dLst, dOwn, gIx, rBin, gAdd, gCmpI, dCall, dCallK, dSeq, dNext, dDrop, dRet, dRetN, dIfS, dName, dGNil, dGCons, dGTup, dSub, gSetL, dAsg, dPar, dPar3, dAug, gIpI, dSeqI, gSeqI, dRngI, gRng1, gRng2, dCB, gAbs, gInt, gMax, gMin, gGcd, gLen, lenD, gIsi, tyM, tyD, dBits, gBits, dMet, gAppend, dPart, dNoPart, dSl, gSl_tup, gSl_lst, cut_1, dEnds, gIs, isB, dNever, dFor, dLc, wipeD, dYes,
  sizeLine_eq, Nat.reduceLeDiff, gEq_int, gNe_int, gEq_strs, gNe_strs, gIn_two, gRepr_bl, rs_lst, rs_tup, rs_scr, rs_int, atI_0, atI_1, atI_2, atI_3, atI_4, atI_5, ixN_30, ixN_31, ixN_32, gEq_bl, gNe_bl, decide_eq_true_eq, beq_iff_eq, Bool.not_eq_true', beq_eq_false_iff_ne, decide_eq_false_iff_not, Bool.not_true, Bool.not_false, if_true, if_false, Bool.false_eq_true, ite_true, ite_false, true_and, and_true, ne_eq, Bool.bne_false, Bool.bne_true, reduceCtorEq])
local macro_rules | `(tactic| walk_at "rh") => `(tactic| simp only [*, startD, List.map, List.replicate, List.length_cons, List.length_nil, List.append_eq, List.append_nil, List.nil_append, List.cons_append, Nat.reduceSub, Nat.reduceAdd, List.getElem?_cons_zero, List.getElem?_cons_succ, List.set_cons_zero, List.set_cons_succ,
  dC, dVar, dOp, dTru, gTru, tru, dChain, dAnd, dOr, dNot, dAndV, dOrV, dNotV, dIf, dNeg, gNeg, dNil, dCons, dTup, dLst, dOwn, gIx, rBin, gAdd, gCmpI, dCall, dCallK, dSeq, dNext, dDrop, dRet, dRetN, dIfS, dName, dGNil, dGCons, dGTup, dSub, gSetL, dAsg, dPar, dPar3, dAug, gIpI, dSeqI, gSeqI, dRngI, gRng1, gRng2, dCB, gAbs, gInt, gMax, gMin, gGcd, gLen, lenD, gIsi, tyM, tyD, dBits, gBits, dMet, gAppend, dPart, dNoPart, dSl, gSl_tup, gSl_lst, cut_1, dEnds, gIs, isB, dNever, dFor, dLc, wipeD, dYes,
  sizeLine_eq, Nat.reduceLeDiff, gEq_int, gNe_int, gEq_strs, gNe_strs, gIn_two, gRepr_bl, rs_lst, rs_tup, rs_scr, rs_int, atI_0, atI_1, atI_2, atI_3, atI_4, atI_5, ixN_30, ixN_31, ixN_32, gEq_bl, gNe_bl, decide_eq_true_eq, beq_iff_eq, Bool.not_eq_true', beq_eq_false_iff_ne, decide_eq_false_iff_not, Bool.not_true, Bool.not_false, if_true, if_false, Bool.false_eq_true, ite_true, ite_false, true_and, and_true, ne_eq, Bool.bne_false, Bool.bne_true, reduceCtorEq])
local macro_rules | `(tactic| walk_at "kb") => `(tactic| simp only [kb_NoneType_list, kb_bool_list, kb_int_list, kb_str_list, kb_tuple_list, kb_list_list, kb_dict_list, kb_NoneType_int, kb_bool_int, kb_int_int, kb_str_int, kb_tuple_int, kb_list_int, kb_dict_int, kb_NoneType_bool, kb_bool_bool, kb_int_bool, kb_str_bool, kb_tuple_bool, kb_list_bool, kb_dict_bool, kb_NoneType_tuple, kb_bool_tuple, kb_int_tuple, kb_str_tuple, kb_tuple_tuple, kb_list_tuple, kb_dict_tuple, if_true, if_false, Bool.false_eq_true, ite_true, ite_false, Bool.not_true, Bool.not_false])
end DL
/-! MH: mirrored cuttings, mirrored deeds; plain -/
namespace DL
end DL
namespace DL
open PySem PySem.Spec PyProof.Rows L2
local macro_rules | `(tactic| walk_at "rd") => `(tactic| simp only [startD, List.map, List.replicate, List.length_cons, List.length_nil, List.append_eq, List.append_nil, List.nil_append, List.cons_append, Nat.reduceSub, Nat.reduceAdd, List.getElem?_cons_zero, List.getElem?_cons_succ, List.set_cons_zero, List.set_cons_succ,
  dC, dVar, dOp, dTru, gTru, tru, dChain, dAnd, dOr, dNot, dAndV, dOrV, dNotV, dIf, dNeg, gNeg, dNil, dCons, dTup, dLst, dOwn, gIx, rBin, gAdd, gCmpI, dCall, dCallK, dSeq, dNext, dDrop, dRet, dRetN, dIfS, dName, dGNil, dGCons, dGTup, dSub, gSetL, dAsg, dPar, dPar3, dAug, gIpI, dSeqI, gSeqI, dRngI, gRng1, gRng2, dCB, gAbs, gInt, gMax, gMin, gGcd, gLen, lenD, gIsi, tyM, tyD, dBits, gBits, dMet, gAppend, dPart, dNoPart, dSl, gSl_tup, gSl_lst, cut_1, dEnds, gIs, isB, dNever, dFor, dLc, wipeD, dYes,
  sizeLine_eq, Nat.reduceLeDiff, gEq_int, gNe_int, gEq_strs, gNe_strs, gIn_two, gRepr_bl, rs_lst, rs_tup, rs_scr, rs_int, atI_0, atI_1, atI_2, atI_3, atI_4, atI_5, ixN_30, ixN_31, ixN_32, gEq_bl, gNe_bl, decide_eq_true_eq, beq_iff_eq, Bool.not_eq_true', beq_eq_false_iff_ne, decide_eq_false_iff_not, Bool.not_true, Bool.not_false, if_true, if_false, Bool.false_eq_true, ite_true, ite_false, true_and, and_true, ne_eq, Bool.bne_false, Bool.bne_true, reduceCtorEq])
local macro_rules | `(tactic| walk_at "rh") => `(tactic| simp only [*, startD, List.map, List.replicate, List.length_cons, List.length_nil, List.append_eq, List.append_nil, List.nil_append, List.cons_append, Nat.reduceSub, Nat.reduceAdd, List.getElem?_cons_zero, List.getElem?_cons_succ, List.set_cons_zero, List.set_cons_succ,
  dC, dVar, dOp, dTru, gTru, tru, dChain, dAnd, dOr, dNot, dAndV, dOrV, dNotV, dIf, dNeg, gNeg, dNil, dCons, dTup, dLst, dOwn, gIx, rBin, gAdd, gCmpI, dCall, dCallK, dSeq, dNext, dDrop, dRet, dRetN, dIfS, dName, dGNil, dGCons, dGTup, dSub, gSetL, dAsg, dPar, dPar3, dAug, gIpI, dSeqI, gSeqI, dRngI, gRng1, gRng2, dCB, gAbs, gInt, gMax, gMin, gGcd, gLen, lenD, gIsi, tyM, tyD, dBits, gBits, dMet, gAppend, dPart, dNoPart, dSl, gSl_tup, gSl_lst, cut_1, dEnds, gIs, isB, dNever, dFor, dLc, wipeD, dYes,
  sizeLine_eq, Nat.reduceLeDiff, gEq_int, gNe_int, gEq_strs, gNe_strs, gIn_two, gRepr_bl, rs_lst, rs_tup, rs_scr, rs_int, atI_0, atI_1, atI_2, atI_3, atI_4, atI_5, ixN_30, ixN_31, ixN_32, gEq_bl, gNe_bl, decide_eq_true_eq, beq_iff_eq, Bool.not_eq_true', beq_eq_false_iff_ne, decide_eq_false_iff_not, Bool.not_true, Bool.not_false, if_true, if_false, Bool.false_eq_true, ite_true, ite_false, true_and, and_true, ne_eq, Bool.bne_false, Bool.bne_true, reduceCtorEq])
local macro_rules | `(tactic| walk_at "kb") => `(tactic| simp only [kb_NoneType_list, kb_bool_list, kb_int_list, kb_str_list, kb_tuple_list, kb_list_list, kb_dict_list, kb_NoneType_int, kb_bool_int, kb_int_int, kb_str_int, kb_tuple_int, kb_list_int, kb_dict_int, kb_NoneType_bool, kb_bool_bool, kb_int_bool, kb_str_bool, kb_tuple_bool, kb_list_bool, kb_dict_bool, kb_NoneType_tuple, kb_bool_tuple, kb_int_tuple, kb_str_tuple, kb_tuple_tuple, kb_list_tuple, kb_dict_tuple, if_true, if_false, Bool.false_eq_true, ite_true, ite_false, Bool.not_true, Bool.not_false])
/-! calls whose answers are known -/
end DL
namespace DL
open PySem PySem.Spec PyProof.Rows L2
local macro_rules | `(tactic| walk_at "rd") => `(tactic| simp only [startD, List.map, List.replicate, List.length_cons, List.length_nil, List.append_eq, List.append_nil, List.nil_append, List.cons_append, Nat.reduceSub, Nat.reduceAdd, List.getElem?_cons_zero, List.getElem?_cons_succ, List.set_cons_zero, List.set_cons_succ,
  dC, dVar, dOp, dTru, gTru, tru, dChain, dAnd, dOr, dNot, dAndV, dOrV, dNotV, dIf, dNeg, gNeg, dNil, dCons, dTup, dLst, dOwn, gIx, rBin, gAdd, gCmpI, dCall, dCallK, dSeq, dNext, dDrop, dRet, dRetN, dIfS, dName, dGNil, dGCons, dGTup, dSub, gSetL, dAsg, dPar, dPar3, dAug, gIpI, dSeqI, gSeqI, dRngI, gRng1, gRng2, dCB, gAbs, gInt, gMax, gMin, gGcd, gLen, lenD, gIsi, tyM, tyD, dBits, gBits, dMet, gAppend, dPart, dNoPart, dSl, gSl_tup, gSl_lst, cut_1, dEnds, gIs, isB, dNever, dFor, dLc, wipeD, dYes,
  sizeLine_eq, Nat.reduceLeDiff, gEq_int, gNe_int, gEq_strs, gNe_strs, gIn_two, gRepr_bl, rs_lst, rs_tup, rs_scr, rs_int, atI_0, atI_1, atI_2, atI_3, atI_4, atI_5, ixN_30, ixN_31, ixN_32, gEq_bl, gNe_bl, decide_eq_true_eq, beq_iff_eq, Bool.not_eq_true', beq_eq_false_iff_ne, decide_eq_false_iff_not, Bool.not_true, Bool.not_false, if_true, if_false, Bool.false_eq_true, ite_true, ite_false, true_and, and_true, ne_eq, Bool.bne_false, Bool.bne_true, reduceCtorEq])
local macro_rules | `(tactic| walk_at "rh") => `(tactic| simp only [*, startD, List.map, List.replicate, List.length_cons, List.length_nil, List.append_eq, List.append_nil, List.nil_append, List.cons_append, Nat.reduceSub, Nat.reduceAdd, List.getElem?_cons_zero, List.getElem?_cons_succ, List.set_cons_zero, List.set_cons_succ,
  dC, dVar, dOp, dTru, gTru, tru, dChain, dAnd, dOr, dNot, dAndV, dOrV, dNotV, dIf, dNeg, gNeg, dNil, dCons, dTup, dLst, dOwn, gIx, rBin, gAdd, gCmpI, dCall, dCallK, dSeq, dNext, dDrop, dRet, dRetN, dIfS, dName, dGNil, dGCons, dGTup, dSub, gSetL, dAsg, dPar, dPar3, dAug, gIpI, dSeqI, gSeqI, dRngI, gRng1, gRng2, dCB, gAbs, gInt, gMax, gMin, gGcd, gLen, lenD, gIsi, tyM, tyD, dBits, gBits, dMet, gAppend, dPart, dNoPart, dSl, gSl_tup, gSl_lst, cut_1, dEnds, gIs, isB, dNever, dFor, dLc, wipeD, dYes,
  sizeLine_eq, Nat.reduceLeDiff, gEq_int, gNe_int, gEq_strs, gNe_strs, gIn_two, gRepr_bl, rs_lst, rs_tup, rs_scr, rs_int, atI_0, atI_1, atI_2, atI_3, atI_4, atI_5, ixN_30, ixN_31, ixN_32, gEq_bl, gNe_bl, decide_eq_true_eq, beq_iff_eq, Bool.not_eq_true', beq_eq_false_iff_ne, decide_eq_false_iff_not, Bool.not_true, Bool.not_false, if_true, if_false, Bool.false_eq_true, ite_true, ite_false, true_and, and_true, ne_eq, Bool.bne_false, Bool.bne_true, reduceCtorEq])
local macro_rules | `(tactic| walk_at "kb") => `(tactic| simp only [kb_NoneType_list, kb_bool_list, kb_int_list, kb_str_list, kb_tuple_list, kb_list_list, kb_dict_list, kb_NoneType_int, kb_bool_int, kb_int_int, kb_str_int, kb_tuple_int, kb_list_int, kb_dict_int, kb_NoneType_bool, kb_bool_bool, kb_int_bool, kb_str_bool, kb_tuple_bool, kb_list_bool, kb_dict_bool, kb_NoneType_tuple, kb_bool_tuple, kb_int_tuple, kb_str_tuple, kb_tuple_tuple, kb_list_tuple, kb_dict_tuple, if_true, if_false, Bool.false_eq_true, ite_true, ite_false, Bool.not_true, Bool.not_false])
/-! ### the sides of cuttings -/
/-! ### what the first numbers may be -/
/-! ### all turns -/
structure TurnsOK (m : Int) (l : List Int) : Prop where
  nd : l.Nodup
  bd : ∀ e ∈ l, -128 ≤ e ∧ e ≤ 128
  all : ∀ e : Int, e * e < m → (m - e) % 2 = 0 → e ∈ l
  len : l.length ≤ 260
theorem CovX.start {m : Int} {T : List Int} : CovX m [] fun _ e' => e' ∈ T.take 0 := CovX.nil fun a b c e _ _ h => by rw [List.take_zero] at h; cases h
theorem CovX.all {m : Int} {l : List (List Int)} {T : List Int} (h : CovX m l fun _ e' => e' ∈ T) (hT : TurnsOK m T) : CovX m l fun _ _ => True :=
  h.iff fun a b c e h1 h2 => ⟨fun _ => by
    obtain ⟨k1, k2, _⟩ := cut_parts h1
    have h3 := meas_bc.mp h2
    have h4 : 1 * 1 ≤ b * c := Int.mul_le_mul k1 k2 (by decide) (by omega)
    have h5 : (e - m) % 2 = 0 := by rw [← h2]; exact meas_par (a := a)
    exact hT.all e (by omega) (by omega), fun _ => trivial⟩
theorem CovX.len {m : Int} {l l' : List (List Int)} (h : CovX m l fun _ _ => True) (g : AllC m l') : l'.length = l.length := by
  refine ((List.perm_ext_iff_of_nodup g.nd h.1).mpr fun x => ?_).length_eq
  rw [g.mem, h.2]
  constructor
  · rintro ⟨a, b, c, e, rfl, h1, h2⟩; exact ⟨a, b, c, e, rfl, h1, h2, trivial⟩
  · rintro ⟨a, b, c, e, rfl, h1, h2, _⟩; exact ⟨a, b, c, e, rfl, h1, h2⟩
/-! ### how many cuttings there are -/
theorem CovX.same {m : Int} {l l' : List (List Int)} {P : Int → Int → Prop} (h : CovX m l P) (g : CovX m l' P) : l.length = l'.length :=
  ((List.perm_ext_iff_of_nodup h.1 g.1).mpr fun x => (h.2 x).trans (g.2 x).symm).length_eq
end DL
/-! MI: how many cuttings have a told last number; plain -/
namespace DL
end DL
namespace DL
open PySem PySem.Spec PyProof.Rows L2
local macro_rules | `(tactic| walk_at "rd") => `(tactic| simp only [startD, List.map, List.replicate, List.length_cons, List.length_nil, List.append_eq, List.append_nil, List.nil_append, List.cons_append, Nat.reduceSub, Nat.reduceAdd, List.getElem?_cons_zero, List.getElem?_cons_succ, List.set_cons_zero, List.set_cons_succ,
  dC, dVar, dOp, dTru, gTru, tru, dChain, dAnd, dOr, dNot, dAndV, dOrV, dNotV, dIf, dNeg, gNeg, dNil, dCons, dTup, dLst, dOwn, gIx, rBin, gAdd, gCmpI, dCall, dCallK, dSeq, dNext, dDrop, dRet, dRetN, dIfS, dName, dGNil, dGCons, dGTup, dSub, gSetL, dAsg, dPar, dPar3, dAug, gIpI, dSeqI, gSeqI, dRngI, gRng1, gRng2, dCB, gAbs, gInt, gMax, gMin, gGcd, gLen, lenD, gIsi, tyM, tyD, dBits, gBits, dMet, gAppend, dPart, dNoPart, dSl, gSl_tup, gSl_lst, cut_1, dEnds, gIs, isB, dNever, dFor, dLc, wipeD, dYes,
  sizeLine_eq, Nat.reduceLeDiff, gEq_int, gNe_int, gEq_strs, gNe_strs, gIn_two, gRepr_bl, rs_lst, rs_tup, rs_scr, rs_int, atI_0, atI_1, atI_2, atI_3, atI_4, atI_5, ixN_30, ixN_31, ixN_32, gEq_bl, gNe_bl, decide_eq_true_eq, beq_iff_eq, Bool.not_eq_true', beq_eq_false_iff_ne, decide_eq_false_iff_not, Bool.not_true, Bool.not_false, if_true, if_false, Bool.false_eq_true, ite_true, ite_false, true_and, and_true, ne_eq, Bool.bne_false, Bool.bne_true, reduceCtorEq])
local macro_rules | `(tactic| walk_at "rh") => `(tactic| simp only [*, startD, List.map, List.replicate, List.length_cons, List.length_nil, List.append_eq, List.append_nil, List.nil_append, List.cons_append, Nat.reduceSub, Nat.reduceAdd, List.getElem?_cons_zero, List.getElem?_cons_succ, List.set_cons_zero, List.set_cons_succ,
  dC, dVar, dOp, dTru, gTru, tru, dChain, dAnd, dOr, dNot, dAndV, dOrV, dNotV, dIf, dNeg, gNeg, dNil, dCons, dTup, dLst, dOwn, gIx, rBin, gAdd, gCmpI, dCall, dCallK, dSeq, dNext, dDrop, dRet, dRetN, dIfS, dName, dGNil, dGCons, dGTup, dSub, gSetL, dAsg, dPar, dPar3, dAug, gIpI, dSeqI, gSeqI, dRngI, gRng1, gRng2, dCB, gAbs, gInt, gMax, gMin, gGcd, gLen, lenD, gIsi, tyM, tyD, dBits, gBits, dMet, gAppend, dPart, dNoPart, dSl, gSl_tup, gSl_lst, cut_1, dEnds, gIs, isB, dNever, dFor, dLc, wipeD, dYes,
  sizeLine_eq, Nat.reduceLeDiff, gEq_int, gNe_int, gEq_strs, gNe_strs, gIn_two, gRepr_bl, rs_lst, rs_tup, rs_scr, rs_int, atI_0, atI_1, atI_2, atI_3, atI_4, atI_5, ixN_30, ixN_31, ixN_32, gEq_bl, gNe_bl, decide_eq_true_eq, beq_iff_eq, Bool.not_eq_true', beq_eq_false_iff_ne, decide_eq_false_iff_not, Bool.not_true, Bool.not_false, if_true, if_false, Bool.false_eq_true, ite_true, ite_false, true_and, and_true, ne_eq, Bool.bne_false, Bool.bne_true, reduceCtorEq])
local macro_rules | `(tactic| walk_at "kb") => `(tactic| simp only [kb_NoneType_list, kb_bool_list, kb_int_list, kb_str_list, kb_tuple_list, kb_list_list, kb_dict_list, kb_NoneType_int, kb_bool_int, kb_int_int, kb_str_int, kb_tuple_int, kb_list_int, kb_dict_int, kb_NoneType_bool, kb_bool_bool, kb_int_bool, kb_str_bool, kb_tuple_bool, kb_list_bool, kb_dict_bool, kb_NoneType_tuple, kb_bool_tuple, kb_int_tuple, kb_str_tuple, kb_tuple_tuple, kb_list_tuple, kb_dict_tuple, if_true, if_false, Bool.false_eq_true, ite_true, ite_false, Bool.not_true, Bool.not_false])
end DL
namespace DL
open PySem PySem.Spec PyProof.Rows L2
local macro_rules | `(tactic| walk_at "rd") => `(tactic| simp only [startD, List.map, List.replicate, List.length_cons, List.length_nil, List.append_eq, List.append_nil, List.nil_append, List.cons_append, Nat.reduceSub, Nat.reduceAdd, List.getElem?_cons_zero, List.getElem?_cons_succ, List.set_cons_zero, List.set_cons_succ,
  dC, dVar, dOp, dTru, gTru, tru, dChain, dAnd, dOr, dNot, dAndV, dOrV, dNotV, dIf, dNeg, gNeg, dNil, dCons, dTup, dLst, dOwn, gIx, rBin, gAdd, gCmpI, dCall, dCallK, dSeq, dNext, dDrop, dRet, dRetN, dIfS, dName, dGNil, dGCons, dGTup, dSub, gSetL, dAsg, dPar, dPar3, dAug, gIpI, dSeqI, gSeqI, dRngI, gRng1, gRng2, dCB, gAbs, gInt, gMax, gMin, gGcd, gLen, lenD, gIsi, tyM, tyD, dBits, gBits, dMet, gAppend, dPart, dNoPart, dSl, gSl_tup, gSl_lst, cut_1, dEnds, gIs, isB, dNever, dCallX, dRaise, dTry, dFld, dCallV, gLRng, gFrz, dFrz, dFor, dLc, wipeD, dYes,
  sizeLine_eq, Nat.reduceLeDiff, gEq_int, gNe_int, gEq_strs, gNe_strs, gIn_two, gRepr_bl, rs_lst, rs_tup, rs_scr, rs_int, atI_0, atI_1, atI_2, atI_3, atI_4, atI_5, ixN_30, ixN_31, ixN_32, gEq_bl, gNe_bl, decide_eq_true_eq, beq_iff_eq, Bool.not_eq_true', beq_eq_false_iff_ne, decide_eq_false_iff_not, Bool.not_true, Bool.not_false, if_true, if_false, Bool.false_eq_true, ite_true, ite_false, true_and, and_true, ne_eq, Bool.bne_false, Bool.bne_true, reduceCtorEq])
local macro_rules | `(tactic| walk_at "rh") => `(tactic| simp only [*, startD, List.map, List.replicate, List.length_cons, List.length_nil, List.append_eq, List.append_nil, List.nil_append, List.cons_append, Nat.reduceSub, Nat.reduceAdd, List.getElem?_cons_zero, List.getElem?_cons_succ, List.set_cons_zero, List.set_cons_succ,
  dC, dVar, dOp, dTru, gTru, tru, dChain, dAnd, dOr, dNot, dAndV, dOrV, dNotV, dIf, dNeg, gNeg, dNil, dCons, dTup, dLst, dOwn, gIx, rBin, gAdd, gCmpI, dCall, dCallK, dSeq, dNext, dDrop, dRet, dRetN, dIfS, dName, dGNil, dGCons, dGTup, dSub, gSetL, dAsg, dPar, dPar3, dAug, gIpI, dSeqI, gSeqI, dRngI, gRng1, gRng2, dCB, gAbs, gInt, gMax, gMin, gGcd, gLen, lenD, gIsi, tyM, tyD, dBits, gBits, dMet, gAppend, dPart, dNoPart, dSl, gSl_tup, gSl_lst, cut_1, dEnds, gIs, isB, dNever, dCallX, dRaise, dTry, dFld, dCallV, gLRng, gFrz, dFrz, dFor, dLc, wipeD, dYes,
  sizeLine_eq, Nat.reduceLeDiff, gEq_int, gNe_int, gEq_strs, gNe_strs, gIn_two, gRepr_bl, rs_lst, rs_tup, rs_scr, rs_int, atI_0, atI_1, atI_2, atI_3, atI_4, atI_5, ixN_30, ixN_31, ixN_32, gEq_bl, gNe_bl, decide_eq_true_eq, beq_iff_eq, Bool.not_eq_true', beq_eq_false_iff_ne, decide_eq_false_iff_not, Bool.not_true, Bool.not_false, if_true, if_false, Bool.false_eq_true, ite_true, ite_false, true_and, and_true, ne_eq, Bool.bne_false, Bool.bne_true, reduceCtorEq])
local macro_rules | `(tactic| walk_at "kb") => `(tactic| simp only [kb_NoneType_list, kb_bool_list, kb_int_list, kb_str_list, kb_tuple_list, kb_list_list, kb_dict_list, kb_NoneType_int, kb_bool_int, kb_int_int, kb_str_int, kb_tuple_int, kb_list_int, kb_dict_int, kb_NoneType_bool, kb_bool_bool, kb_int_bool, kb_str_bool, kb_tuple_bool, kb_list_bool, kb_dict_bool, kb_NoneType_tuple, kb_bool_tuple, kb_int_tuple, kb_str_tuple, kb_tuple_tuple, kb_list_tuple, kb_dict_tuple, if_true, if_false, Bool.false_eq_true, ite_true, ite_false, Bool.not_true, Bool.not_false])
/-! RdZ: the checks with their errors -/
theorem belowAll_mem {n : Nat} : ∀ {l : List D} {d : D}, belowAll n l = true → d ∈ l → below n d = true
  | [], _, _, h => by simp at h
  | x :: l, d, h, hd => by
    simp only [belowAll, Bool.and_eq_true] at h
    rcases List.mem_cons.mp hd with e | e
    · rw [e]; exact h.1
    · exact belowAll_mem h.2 e
def sp_check_measure_x : DSp := fun ds M Q E => ∃ d T, ds = [d] ∧ tyM M d = some T ∧ (isMeas d = true → Q .non M) ∧ (isMeas d = false → E "InvalidMeasure" d M)
theorem rd_check_measure_x : ∀ ds M Q E, ds.length = 1 → belowAll M.length ds = true → sp_check_measure_x ds M Q E → t_check_measure_x sp_is_measure (dOut M E) (dEnds M Q) (startD 1 ds) M := by
  rintro _ M Q E - hb ⟨d, T, rfl, ht, q, q2⟩
  unfold t_check_measure_x
  walk_at "rd"
  refine ⟨d, T, rfl, ht, ?_⟩
  cases h : isMeas d with
  | true => walk_at "rd"; exact rtq (q h)
  | false => walk_at "rd"; exact ⟨d, rfl, rtx (belowAll_mem hb (by simp)) (q2 h)⟩
/-! ### the heart's numbers -/
/-! ### the heart's functions -/
theorem isMeas_int {d : D} (h : isMeas d = true) : ∃ m, d = .int m ∧ 5 ≤ m ∧ (m % 4 = 0 ∨ m % 4 = 1) := by
  unfold isMeas at h
  split at h
  · rename_i i; exact ⟨i, rfl, by simpa using h⟩
  · cases h
end DL
namespace DL
open PySem PySem.Spec PyProof.Rows L2
local macro_rules | `(tactic| walk_at "rd") => `(tactic| simp only [startD, List.map, List.replicate, List.length_cons, List.length_nil, List.append_eq, List.append_nil, List.nil_append, List.cons_append, Nat.reduceSub, Nat.reduceAdd, List.getElem?_cons_zero, List.getElem?_cons_succ, List.set_cons_zero, List.set_cons_succ,
  dC, dVar, dOp, dTru, gTru, tru, dChain, dAnd, dOr, dNot, dAndV, dOrV, dNotV, dIf, dNeg, gNeg, dNil, dCons, dTup, dLst, dOwn, gIx, rBin, gAdd, gCmpI, dCall, dCallK, dSeq, dNext, dDrop, dRet, dRetN, dIfS, dName, dGNil, dGCons, dGTup, dSub, gSetL, dAsg, dPar, dPar3, dAug, gIpI, dSeqI, gSeqI, dRngI, gRng1, gRng2, dCB, gAbs, gInt, gMax, gMin, gGcd, gLen, lenD, gIsi, tyM, tyD, dBits, gBits, dMet, gAppend, dPart, dNoPart, dSl, gSl_tup, gSl_lst, cut_1, dEnds, gIs, isB, dNever, dCallX, dRaise, dTry, dFld, dCallV, gLRng, gFrz, dFrz, dFor, dLc, wipeD, dYes,
  sizeLine_eq, Nat.reduceLeDiff, gEq_int, gNe_int, gEq_strs, gNe_strs, gIn_two, gRepr_bl, rs_lst, rs_tup, rs_scr, rs_int, atI_0, atI_1, atI_2, atI_3, atI_4, atI_5, ixN_30, ixN_31, ixN_32, gEq_bl, gNe_bl, decide_eq_true_eq, beq_iff_eq, Bool.not_eq_true', beq_eq_false_iff_ne, decide_eq_false_iff_not, Bool.not_true, Bool.not_false, if_true, if_false, Bool.false_eq_true, ite_true, ite_false, true_and, and_true, ne_eq, Bool.bne_false, Bool.bne_true, reduceCtorEq])
local macro_rules | `(tactic| walk_at "rh") => `(tactic| simp only [*, startD, List.map, List.replicate, List.length_cons, List.length_nil, List.append_eq, List.append_nil, List.nil_append, List.cons_append, Nat.reduceSub, Nat.reduceAdd, List.getElem?_cons_zero, List.getElem?_cons_succ, List.set_cons_zero, List.set_cons_succ,
  dC, dVar, dOp, dTru, gTru, tru, dChain, dAnd, dOr, dNot, dAndV, dOrV, dNotV, dIf, dNeg, gNeg, dNil, dCons, dTup, dLst, dOwn, gIx, rBin, gAdd, gCmpI, dCall, dCallK, dSeq, dNext, dDrop, dRet, dRetN, dIfS, dName, dGNil, dGCons, dGTup, dSub, gSetL, dAsg, dPar, dPar3, dAug, gIpI, dSeqI, gSeqI, dRngI, gRng1, gRng2, dCB, gAbs, gInt, gMax, gMin, gGcd, gLen, lenD, gIsi, tyM, tyD, dBits, gBits, dMet, gAppend, dPart, dNoPart, dSl, gSl_tup, gSl_lst, cut_1, dEnds, gIs, isB, dNever, dCallX, dRaise, dTry, dFld, dCallV, gLRng, gFrz, dFrz, dFor, dLc, wipeD, dYes,
  sizeLine_eq, Nat.reduceLeDiff, gEq_int, gNe_int, gEq_strs, gNe_strs, gIn_two, gRepr_bl, rs_lst, rs_tup, rs_scr, rs_int, atI_0, atI_1, atI_2, atI_3, atI_4, atI_5, ixN_30, ixN_31, ixN_32, gEq_bl, gNe_bl, decide_eq_true_eq, beq_iff_eq, Bool.not_eq_true', beq_eq_false_iff_ne, decide_eq_false_iff_not, Bool.not_true, Bool.not_false, if_true, if_false, Bool.false_eq_true, ite_true, ite_false, true_and, and_true, ne_eq, Bool.bne_false, Bool.bne_true, reduceCtorEq])
local macro_rules | `(tactic| walk_at "kb") => `(tactic| simp only [kb_NoneType_list, kb_bool_list, kb_int_list, kb_str_list, kb_tuple_list, kb_list_list, kb_dict_list, kb_NoneType_int, kb_bool_int, kb_int_int, kb_str_int, kb_tuple_int, kb_list_int, kb_dict_int, kb_NoneType_bool, kb_bool_bool, kb_int_bool, kb_str_bool, kb_tuple_bool, kb_list_bool, kb_dict_bool, kb_NoneType_tuple, kb_bool_tuple, kb_int_tuple, kb_str_tuple, kb_tuple_tuple, kb_list_tuple, kb_dict_tuple, if_true, if_false, Bool.false_eq_true, ite_true, ite_false, Bool.not_true, Bool.not_false])
/-! RdDD: data that is shown, dicts among them (X_k11 has its own copy) -/
abbrev er (x : Str) (d : D) : Option (Str × D) := some (x, d)
theorem gReprZ_res {d : D} {M : Mem} {Q : DQ} {z : Str} (h : shwnZ (resD M d) = some z) (q : Q (.str z) M) : gReprZ [d] M Q := by
  unfold gReprZ
  dsimp only
  rw [h]
  exact q
/-! ### data that is shown -/
structure Sh (d : D) : Prop where
  f : fine 10 d = true
  l : lit 200 d = true
  w : wt 200 d ≤ 10000
mutual
theorem resD_fine (M : Mem) : ∀ (n : Nat) (d : D), fine n d = true → resD M d = d
  | _, .non, _ => rfl
  | _, .bl _, _ => rfl
  | _, .int _, _ => rfl
  | _, .str _, _ => rfl
  | 0, .tup l, h => by simp [fine] at h
  | 0, .lst l, h => by simp [fine] at h
  | n + 1, .tup l, h => by unfold resD; rw [resDA_fine M n l (by simpa only [fine] using h)]
  | n + 1, .lst l, h => by unfold resD; rw [resDA_fine M n l (by simpa only [fine] using h)]
  | _, .dct0, h => rfl
  | _, .scr _, h => by simp [fine] at h
  | _, .own _, h => by simp [fine] at h
  | _, .exc _ _, h => by simp [fine] at h
  | _, .glb _, h => by simp [fine] at h
  | _, .val _, h => by simp [fine] at h
theorem resDA_fine (M : Mem) : ∀ (n : Nat) (ds : List D), fineAll n ds = true → resDA M ds = ds
  | _, [], _ => rfl
  | n, d :: ds, h => by
    have h' : fine n d = true ∧ fineAll n ds = true := by simpa only [fineAll, Bool.and_eq_true] using h
    unfold resDA
    rw [resD_fine M n d h'.1, resDA_fine M n ds h'.2]
end
mutual
theorem fine_mono : ∀ (n k : Nat) (d : D), n ≤ k → fine n d = true → fine k d = true
  | _, _, .non, _, _ => rfl
  | _, _, .bl _, _, _ => rfl
  | _, _, .int _, _, _ => rfl
  | _, _, .str _, _, h => by simpa only [fine] using h
  | 0, _, .tup l, _, h => by simp [fine] at h
  | 0, _, .lst l, _, h => by simp [fine] at h
  | n + 1, 0, .tup l, hn, _ => by omega
  | n + 1, 0, .lst l, hn, _ => by omega
  | n + 1, k + 1, .tup l, hn, h => by simp only [fine] at h ⊢; exact fineA_mono n k l (by omega) h
  | n + 1, k + 1, .lst l, hn, h => by simp only [fine] at h ⊢; exact fineA_mono n k l (by omega) h
  | _, _, .dct0, _, h => by simp [fine] at h
  | _, _, .scr _, _, h => by simp [fine] at h
  | _, _, .own _, _, h => by simp [fine] at h
  | _, _, .exc _ _, _, h => by simp [fine] at h
  | _, _, .glb _, _, h => by simp [fine] at h
  | _, _, .val _, _, h => by simp [fine] at h
theorem fineA_mono : ∀ (n k : Nat) (ds : List D), n ≤ k → fineAll n ds = true → fineAll k ds = true
  | _, _, [], _, _ => rfl
  | n, k, d :: ds, hn, h => by
    have h' : fine n d = true ∧ fineAll n ds = true := by simpa only [fineAll, Bool.and_eq_true] using h
    simp only [fineAll, fine_mono n k d hn h'.1, fineA_mono n k ds hn h'.2, Bool.and_self]
end
theorem fine_up {d : D} (h : fine 10 d = true) : fine 41 d = true := fine_mono 10 41 d (by decide) h
theorem Sh.shown {d : D} (h : Sh d) (M : Mem) : ∃ z, shwnZ (resD M d) = some z := by
  rw [resD_fine M 10 d h.f]
  obtain ⟨z, hz⟩ := shw_of 200 10 h.f h.l (by have := h.w; omega)
  exact ⟨z, shwnZ_of hz⟩
theorem sh_int {i : Int} (h : Bi 150 i) : lit 200 (.int i) = true := decide_eq_true (Nat.lt_of_lt_of_le (log2_of 150 h (by decide)) (by decide))
theorem gMulL_ok {l : List D} {n : Nat} {M : Mem} {Q : DQ} (h : l.length * n ≤ 1000) (hn : n ≤ 1000) (q : Q (.lst (List.flatten (List.replicate n l))) M) : gMulL (.lst l) (.int (n : Int)) M Q := ⟨⟨by omega, by omega, by rw [sizeLine_eq, Int.toNat_natCast]; omega⟩, q⟩
end DL
/-! MJ: the greatest square in a number -/
namespace DL
def SqF (s : Nat) : Prop := 0 < s ∧ ∀ d, 2 ≤ d → ¬ d * d ∣ s
theorem sqF_one : SqF 1 := ⟨by decide, fun d hd h => by
  have := Nat.le_of_dvd (by decide) h
  have : 2 * 2 ≤ d * d := Nat.mul_le_mul hd hd
  omega⟩
theorem sqF_of {s : Nat} (h0 : 0 < s) (h : ∀ d, d < s + 1 → 2 ≤ d → ¬ d * d ∣ s) : SqF s := ⟨h0, fun d hd hs => by
  have h1 := Nat.le_of_dvd h0 hs
  have h2 : d * 1 ≤ d * d := Nat.mul_le_mul (Nat.le_refl _) (by omega)
  exact h d (by omega) hd hs⟩
theorem SqF.mul {s t : Nat} (hs : SqF s) (ht : SqF t) (hc : Nat.Coprime s t) : SqF (s * t) := ⟨Nat.mul_pos hs.1 ht.1, fun d hd h => by
  have hg := Nat.gcd_dvd_left d s
  have hg2 := Nat.gcd_dvd_right d s
  have hgp : 0 < Nat.gcd d s := Nat.gcd_pos_of_pos_right _ hs.1
  by_cases g1 : Nat.gcd d s = 1
  · have c1 : Nat.Coprime d s := g1
    have c2 : Nat.Coprime (d * d) s := Nat.Coprime.mul_left c1 c1
    exact ht.2 d hd (c2.dvd_of_dvd_mul_left h)
  · have c1 : Nat.Coprime (Nat.gcd d s) t := Nat.Coprime.coprime_dvd_left hg2 hc
    have c2 : Nat.Coprime (Nat.gcd d s * Nat.gcd d s) t := Nat.Coprime.mul_left c1 c1
    have h2 : Nat.gcd d s * Nat.gcd d s ∣ s * t := Nat.dvd_trans (Nat.mul_dvd_mul hg hg) h
    exact hs.2 _ (by omega) (c2.dvd_of_dvd_mul_right h2)⟩
/-- n is F squared times a number without a square -/
def IsPart (n F s : Nat) : Prop := n = F * F * s ∧ SqF s
theorem dvd_part {n F s f : Nat} (h : IsPart n F s) (h0 : 0 < F) (hf : f * f ∣ n) : f ∣ F := by
  obtain ⟨rfl, hs⟩ := h
  have hgp : 0 < Nat.gcd f F := Nat.gcd_pos_of_pos_right _ h0
  obtain ⟨g, f', F', hg, hc, rfl, rfl⟩ := Nat.exists_coprime' hgp
  have hg2 : 0 < g * g := Nat.mul_pos hg hg
  have e1 : f' * g * (f' * g) = g * g * (f' * f') := by grind
  have e2 : F' * g * (F' * g) * s = g * g * (F' * F' * s) := by grind
  rw [e1, e2] at hf
  have h3 : f' * f' ∣ F' * F' * s := Nat.dvd_of_mul_dvd_mul_left hg2 hf
  have c2 : Nat.Coprime (f' * f') (F' * F') := Nat.Coprime.mul_left (Nat.Coprime.mul_right hc hc) (Nat.Coprime.mul_right hc hc)
  have h4 : f' * f' ∣ s := c2.dvd_of_dvd_mul_left h3
  have : f' < 2 := by
    rcases Nat.lt_or_ge f' 2 with h | h
    · exact h
    · exact absurd h4 (hs.2 f' h)
  rcases (by omega : f' = 0 ∨ f' = 1) with rfl | rfl
  · rw [Nat.zero_mul] at h4
    have := Nat.eq_zero_of_zero_dvd h4
    have := hs.1
    omega
  · rw [Nat.one_mul]
    exact Nat.dvd_mul_left _ _
/-- g is the greatest number whose square leaves a measure, or 1 or 4 -/
structure IsFac (n g : Nat) : Prop where
  pos : 0 < g
  dv : g * g ∣ n
  ms : n / (g * g) % 4 < 2
  top : ∀ f, 0 < f → f * f ∣ n → n / (f * f) % 4 < 2 → f ∣ g
theorem IsFac.uni {n g g' : Nat} (h : IsFac n g) (h' : IsFac n g') : g = g' := Nat.dvd_antisymm (h'.top g h.pos h.dv h.ms) (h.top g' h'.pos h'.dv h'.ms)
theorem sq_mod (k : Nat) : k * k % 4 = 0 ∧ k % 2 = 0 ∨ k * k % 4 = 1 ∧ k % 2 = 1 := by
  rcases (by omega : k % 4 = 0 ∨ k % 4 = 1 ∨ k % 4 = 2 ∨ k % 4 = 3) with h | h | h | h <;> (rw [Nat.mul_mod, h]; omega)
theorem IsPart.fac1 {n F s : Nat} (h : IsPart n F s) (h0 : 0 < F) (hs : s % 4 < 2) : IsFac n F := by
  have hFF := Nat.mul_pos h0 h0
  refine ⟨h0, ⟨s, h.1⟩, ?_, fun f _ hf _ => dvd_part h h0 hf⟩
  rw [h.1, Nat.mul_div_cancel_left _ hFF]
  exact hs
theorem IsPart.even {n F s : Nat} (h : IsPart n F s) (hs : 2 ≤ s % 4) (hn : n % 4 < 2) : F % 2 = 0 := by
  rcases sq_mod F with ⟨_, h2⟩ | ⟨h1, _⟩
  · exact h2
  · have e := h.1
    rw [e, Nat.mul_mod, h1, Nat.one_mul, Nat.mod_mod] at hn
    omega
theorem IsPart.fac2 {n F s : Nat} (h : IsPart n F s) (h0 : 0 < F) (hs : 2 ≤ s % 4) (hn : n % 4 < 2) : IsFac n (F / 2) := by
  have he := h.even hs hn
  obtain ⟨G, rfl⟩ : ∃ G, F = 2 * G := ⟨F / 2, by omega⟩
  have hG : 2 * G / 2 = G := by omega
  rw [hG]
  have g0 : 0 < G := by omega
  have hGG := Nat.mul_pos g0 g0
  have e : n = G * G * (4 * s) := by rw [h.1]; grind
  refine ⟨g0, ⟨_, e⟩, ?_, fun f f0 hf hq => ?_⟩
  · rw [e, Nat.mul_div_cancel_left _ hGG]
    omega
  · obtain ⟨k, hk⟩ := dvd_part h h0 hf
    have hff := Nat.mul_pos f0 f0
    have e2 : n = f * f * (k * k * s) := by
      rw [h.1, hk]
      grind
    rw [e2, Nat.mul_div_cancel_left _ hff] at hq
    rcases sq_mod k with ⟨_, h2⟩ | ⟨h1, _⟩
    · obtain ⟨j, rfl⟩ : ∃ j, k = 2 * j := ⟨k / 2, by omega⟩
      have : 2 * G = 2 * (f * j) := by rw [hk]; grind
      exact ⟨j, by omega⟩
    · rw [Nat.mul_mod, h1, Nat.one_mul, Nat.mod_mod] at hq
      omega
/-- the factor, as the program takes it from F -/
theorem IsPart.fac {n F s : Nat} (h : IsPart n F s) (h0 : 0 < F) (hn : n % 4 < 2) : IsFac n (if n / (F * F) % 4 < 2 then F else F / 2) := by
  have hFF := Nat.mul_pos h0 h0
  have e : n / (F * F) = s := by rw [h.1, Nat.mul_div_cancel_left _ hFF]
  rw [e]
  by_cases hs : s % 4 < 2
  · rw [if_pos hs]; exact h.fac1 h0 hs
  · rw [if_neg hs]; exact h.fac2 h0 (by omega) hn
theorem IsPart.times {n F s : Nat} (k : Nat) (h : IsPart n F s) : IsPart (k * k * n) (k * F) s := ⟨by rw [h.1]; grind, h.2⟩
/-- times a square -/
theorem fac_times {n g k : Nat} (hp : ∃ F s, IsPart n F s ∧ 0 < F) (hn : n % 4 < 2) (hk : 0 < k) (h : IsFac n g) : IsFac (k * k * n) (k * g) := by
  obtain ⟨F, s, hp, h0⟩ := hp
  have hkn : k * k * n % 4 < 2 := by
    rcases sq_mod k with ⟨h1, _⟩ | ⟨h1, _⟩
    · rw [Nat.mul_mod, h1]; omega
    · rw [Nat.mul_mod, h1, Nat.one_mul, Nat.mod_mod]; exact hn
  by_cases hs : s % 4 < 2
  · rw [h.uni (hp.fac1 h0 hs)]
    exact (hp.times k).fac1 (Nat.mul_pos hk h0) hs
  · have e := hp.even (by omega) hn
    rw [h.uni (hp.fac2 h0 (by omega) hn)]
    have := (hp.times k).fac2 (Nat.mul_pos hk h0) (by omega) hkn
    have e2 : k * F / 2 = k * (F / 2) := by
      obtain ⟨G, rfl⟩ : ∃ G, F = 2 * G := ⟨F / 2, by omega⟩
      have : k * (2 * G) = 2 * (k * G) := by grind
      rw [this]
      have : 2 * G / 2 = G := by omega
      rw [this]
      omega
    rwa [e2] at this
theorem part_ex : ∀ n : Nat, 0 < n → ∃ F s, IsPart n F s ∧ 0 < F := fun n => by
  induction n using Nat.strongRecOn with
  | ind n ih =>
    intro hn
    by_cases h : ∃ d, 2 ≤ d ∧ d * d ∣ n
    · obtain ⟨d, h2, k, hk⟩ := h
      have k0 : 0 < k := by
        rcases Nat.eq_zero_or_pos k with z | z
        · rw [z] at hk; omega
        · exact z
      have : 2 * 2 ≤ d * d := Nat.mul_le_mul h2 h2
      have : 4 * k ≤ d * d * k := Nat.mul_le_mul this (Nat.le_refl _)
      obtain ⟨F, s, hP, F0⟩ := ih k (by omega) k0
      exact ⟨d * F, s, by rw [hk]; exact hP.times d, Nat.mul_pos (by omega) F0⟩
    · exact ⟨1, n, ⟨by omega, hn, fun d h2 hd => h ⟨d, h2, hd⟩⟩, by decide⟩
/-! ### the loop -/
structure Inv0 (n f l p s : Nat) : Prop where
  eq : n = f * f * l * s
  f0 : 0 < f
  l0 : 0 < l
  p2 : 2 ≤ p
  no : ∀ d, 2 ≤ d → d < p → ¬ d ∣ l
  sq : SqF s
  co : Nat.Coprime s l
theorem Inv0.start {n : Nat} (h : 0 < n) : Inv0 n 1 n 2 1 := ⟨by grind, by decide, h, by decide, fun d a b => by omega, sqF_one, Nat.coprime_one_left _⟩
theorem Inv0.more {n f l p s : Nat} (h : Inv0 n f l p s) (hd : p * p ∣ l) : Inv0 n (f * p) (l / (p * p)) p s ∧ l / (p * p) < l := by
  obtain ⟨k, rfl⟩ := hd
  have hp := h.p2
  have hpp : 0 < p * p := Nat.mul_pos (by omega) (by omega)
  rw [Nat.mul_div_cancel_left _ hpp]
  have k0 : 0 < k := by
    rcases Nat.eq_zero_or_pos k with rfl | h1
    · have := h.l0; simp at this
    · exact h1
  have hk : k ∣ p * p * k := Nat.dvd_mul_left _ _
  refine ⟨⟨by rw [h.eq]; grind, Nat.mul_pos h.f0 (by omega), k0, hp, fun d a b c => h.no d a b (Nat.dvd_trans c hk), h.sq, Nat.Coprime.coprime_dvd_right hk h.co⟩, ?_⟩
  have : 2 * 2 ≤ p * p := Nat.mul_le_mul hp hp
  have : 4 * k ≤ p * p * k := Nat.mul_le_mul this (Nat.le_refl _)
  omega
theorem Inv0.prime {n f l p s : Nat} (h : Inv0 n f l p s) (hd : p ∣ l) : SqF p := ⟨by have := h.p2; omega, fun d h2 hdd => by
  have hp := h.p2
  have d1 : d ∣ p := Nat.dvd_trans (Nat.dvd_mul_right d d) hdd
  have d2 := Nat.le_of_dvd (by omega) d1
  rcases Nat.lt_or_ge d p with h3 | h3
  · exact h.no d h2 h3 (Nat.dvd_trans d1 hd)
  · have : d = p := by omega
    subst this
    have h4 := Nat.le_of_dvd (by omega) hdd
    have : 2 * d ≤ d * d := Nat.mul_le_mul h2 (Nat.le_refl _)
    omega⟩
theorem Inv0.one {n f l p s : Nat} (h : Inv0 n f l p s) (hn : ¬ p * p ∣ l) (hd : p ∣ l) : Inv0 n f (l / p) (p + 1) (s * p) ∧ l / p ≤ l := by
  have hpr := h.prime hd
  have hp := h.p2
  have hcp : Nat.Coprime s p := Nat.Coprime.coprime_dvd_right hd h.co
  obtain ⟨k, rfl⟩ := hd
  have hkk : p * k / p = k := Nat.mul_div_cancel_left _ (by omega)
  rw [hkk]
  have k0 : 0 < k := by
    rcases Nat.eq_zero_or_pos k with rfl | h1
    · have := h.l0; simp at this
    · exact h1
  have hk : k ∣ p * k := Nat.dvd_mul_left _ _
  have hpk : ¬ p ∣ k := fun ⟨j, hj⟩ => hn ⟨j, by rw [hj]; grind⟩
  refine ⟨⟨by rw [h.eq]; grind, h.f0, k0, by omega, fun d a b c => ?_, h.sq.mul hpr hcp, ?_⟩, Nat.le_of_dvd h.l0 hk⟩
  · rcases Nat.lt_or_ge d p with h3 | h3
    · exact h.no d a h3 (Nat.dvd_trans c hk)
    · have : d = p := by omega
      subst this
      exact hpk c
  · refine Nat.Coprime.mul_left (Nat.Coprime.coprime_dvd_right hk h.co) ?_
    show Nat.gcd p k = 1
    have g1 := Nat.gcd_dvd_left p k
    have g2 := Nat.gcd_dvd_right p k
    have g3 := Nat.le_of_dvd (by omega) g1
    have g0 : 0 < Nat.gcd p k := Nat.gcd_pos_of_pos_right _ k0
    rcases Nat.lt_or_ge (Nat.gcd p k) 2 with h2 | h2
    · omega
    · rcases Nat.lt_or_ge (Nat.gcd p k) p with h3 | h3
      · exact absurd (Nat.dvd_trans g2 hk) (h.no _ h2 h3)
      · have : Nat.gcd p k = p := by omega
        rw [this] at g2
        exact absurd g2 hpk
theorem Inv0.none {n f l p s : Nat} (h : Inv0 n f l p s) (hn : ¬ p ∣ l) : Inv0 n f l (p + 1) s :=
  ⟨h.eq, h.f0, h.l0, by have := h.p2; omega, fun d a b c => by
    rcases Nat.lt_or_ge d p with h3 | h3
    · exact h.no d a h3 c
    · have : d = p := by omega
      subst this
      exact hn c, h.sq, h.co⟩
theorem Inv0.fin {n f l p s : Nat} (h : Inv0 n f l p s) (hl : l < p * p * p) (hns : ∀ r, r * r ≠ l) : IsPart n f (l * s) := by
  have hp := h.p2
  refine ⟨by rw [h.eq]; grind, SqF.mul ⟨h.l0, fun d h2 hd => ?_⟩ h.sq h.co.symm⟩
  have d1 : d ∣ l := Nat.dvd_trans (Nat.dvd_mul_right d d) hd
  have dp : p ≤ d := by
    rcases Nat.lt_or_ge d p with h3 | h3
    · exact absurd d1 (h.no d h2 h3)
    · exact h3
  obtain ⟨c, hc⟩ := hd
  have c1 : c ∣ l := ⟨d * d, by rw [hc]; grind⟩
  have c0 : 0 < c := Nat.pos_of_dvd_of_pos c1 h.l0
  rcases Nat.lt_or_ge c 2 with h3 | h3
  · have : c = 1 := by omega
    subst this
    exact hns d (by omega)
  · rcases Nat.lt_or_ge c p with h4 | h4
    · exact absurd c1 (h.no c h3 h4)
    · have a1 : p * p ≤ d * d := Nat.mul_le_mul dp dp
      have a2 : p * p * p ≤ d * d * c := Nat.mul_le_mul a1 h4
      omega
theorem Inv0.finS {n f l p s r : Nat} (h : Inv0 n f l p s) (hr : r * r = l) : IsPart n (f * r) s := ⟨by rw [h.eq, ← hr]; grind, h.sq⟩
theorem part_one : IsPart 1 1 1 := ⟨rfl, sqF_one⟩
theorem fac_sq {k : Nat} (hk : 0 < k) : IsFac (k * k) k := by
  have := fac_times (n := 1) (g := 1) (k := k) ⟨1, 1, part_one, by decide⟩ (by decide) hk (part_one.fac1 (by decide) (by decide))
  rwa [Nat.mul_one, Nat.mul_one] at this
def rests : List Nat := [5, 8, 12, 13, 17, 21, 24, 28, 29, 33]
theorem rest_fac : ∀ R ∈ rests, R % 4 < 2 ∧ 5 ≤ R ∧ R ≤ 33 ∧ IsFac R 1 := by
  have d1 : ∀ R s : Nat, R = s → s < 40 → 0 < s → s % 4 < 2 → (∀ d, d < s + 1 → 2 ≤ d → ¬ d * d ∣ s) → IsFac R 1 := fun R s e _ s0 h4 h => IsPart.fac1 (F := 1) (s := s) ⟨by omega, sqF_of s0 h⟩ (by decide) h4
  have d2 : ∀ R s : Nat, R = 4 * s → s < 40 → 0 < s → 2 ≤ s % 4 → (∀ d, d < s + 1 → 2 ≤ d → ¬ d * d ∣ s) → IsFac R 1 := fun R s e _ s0 h4 h => IsPart.fac2 (F := 2) (s := s) ⟨by omega, sqF_of s0 h⟩ (by decide) h4 (by omega)
  intro R hR
  simp only [rests, List.mem_cons, List.not_mem_nil, or_false] at hR
  rcases hR with rfl | rfl | rfl | rfl | rfl | rfl | rfl | rfl | rfl | rfl
  · exact ⟨by decide, by decide, by decide, d1 _ 5 (by decide) (by decide) (by decide) (by decide) (by decide)⟩
  · exact ⟨by decide, by decide, by decide, d2 _ 2 (by decide) (by decide) (by decide) (by decide) (by decide)⟩
  · exact ⟨by decide, by decide, by decide, d2 _ 3 (by decide) (by decide) (by decide) (by decide) (by decide)⟩
  · exact ⟨by decide, by decide, by decide, d1 _ 13 (by decide) (by decide) (by decide) (by decide) (by decide)⟩
  · exact ⟨by decide, by decide, by decide, d1 _ 17 (by decide) (by decide) (by decide) (by decide) (by decide)⟩
  · exact ⟨by decide, by decide, by decide, d1 _ 21 (by decide) (by decide) (by decide) (by decide) (by decide)⟩
  · exact ⟨by decide, by decide, by decide, d2 _ 6 (by decide) (by decide) (by decide) (by decide) (by decide)⟩
  · exact ⟨by decide, by decide, by decide, d2 _ 7 (by decide) (by decide) (by decide) (by decide) (by decide)⟩
  · exact ⟨by decide, by decide, by decide, d1 _ 29 (by decide) (by decide) (by decide) (by decide) (by decide)⟩
  · exact ⟨by decide, by decide, by decide, d1 _ 33 (by decide) (by decide) (by decide) (by decide) (by decide)⟩
theorem rest_times {R p : Nat} (hR : R ∈ rests) (hp : 0 < p) : IsFac (p * p * R) p ∧ p * p * R % 4 < 2 := by
  obtain ⟨h4, h5, _, hf⟩ := rest_fac R hR
  have := fac_times (part_ex R (by omega)) h4 hp hf
  rw [Nat.mul_one] at this
  refine ⟨this, ?_⟩
  rcases sq_mod p with ⟨h1, _⟩ | ⟨h1, _⟩
  · rw [Nat.mul_mod, h1]; omega
  · rw [Nat.mul_mod, h1, Nat.one_mul, Nat.mod_mod]; exact h4
/-- the factors at the end of the law -/
theorem ends_fac : IsFac 5 1 ∧ IsFac 8 1 ∧ IsFac 12 1 ∧ IsFac 16 4 ∧ IsFac 20 2 ∧ IsFac 45 3 ∧ IsFac 36 6 ∧ IsFac 9 3 ∧ IsFac 72 3 :=
  ⟨(rest_fac 5 (by decide)).2.2.2, (rest_fac 8 (by decide)).2.2.2, (rest_fac 12 (by decide)).2.2.2, fac_sq (k := 4) (by decide), (rest_times (R := 5) (p := 2) (by decide) (by decide)).1, (rest_times (R := 5) (p := 3) (by decide) (by decide)).1,
    fac_sq (k := 6) (by decide), fac_sq (k := 3) (by decide), (rest_times (R := 8) (p := 3) (by decide) (by decide)).1⟩
theorem bigSq : SqF 999999000001 := by
  have key : ∀ d, d < 10001 → 2 ≤ d → ¬ d ∣ 999999000001 := by
    have h : (List.range 10001).all (fun d => decide (d < 2) || !(999999000001 % d == 0)) = true := by decide +kernel
    intro d hd h2 hdv
    have := List.all_eq_true.mp h d (List.mem_range.mpr hd)
    simp only [Bool.or_eq_true, decide_eq_true_eq, Bool.not_eq_true', beq_eq_false_iff_ne] at this
    rcases this with h | h
    · omega
    · exact h (Nat.mod_eq_zero_of_dvd hdv)
  refine ⟨by decide, fun d h2 hd => ?_⟩
  have d1 : d ∣ 999999000001 := Nat.dvd_trans (Nat.dvd_mul_right d d) hd
  have dp : 10001 ≤ d := by
    rcases Nat.lt_or_ge d 10001 with h3 | h3
    · exact absurd d1 (key d h3 h2)
    · exact h3
  obtain ⟨c, hc⟩ := hd
  have c1 : c ∣ 999999000001 := ⟨d * d, by rw [hc]; grind⟩
  have c0 : 0 < c := Nat.pos_of_dvd_of_pos c1 (by decide)
  rcases Nat.lt_or_ge c 2 with h3 | h3
  · have : c = 1 := by omega
    subst this
    rw [Nat.mul_one] at hc
    rcases Nat.lt_or_ge d 1000000 with h4 | h4
    · have : d * d ≤ 999999 * 999999 := Nat.mul_le_mul (by omega) (by omega)
      omega
    · have : 1000000 * 1000000 ≤ d * d := Nat.mul_le_mul h4 h4
      omega
  · rcases Nat.lt_or_ge c 10001 with h4 | h4
    · exact key c h4 h3 c1
    · have a1 : 10001 * 10001 ≤ d * d := Nat.mul_le_mul dp dp
      have a2 : 10001 * 10001 * 10001 ≤ d * d * c := Nat.mul_le_mul a1 h4
      omega
theorem bigFac : IsFac 999999000001 1 := IsPart.fac1 (F := 1) (s := 999999000001) ⟨by decide, bigSq⟩ (by decide) (by decide)
/-- what is left has no such square -/
theorem IsFac.left {n g f : Nat} (h : IsFac n g) (h2 : 2 ≤ f) (hd : f * f ∣ n / (g * g)) (hm : n / (g * g) / (f * f) % 4 < 2) : False := by
  obtain ⟨k, hk⟩ := h.dv
  have gg := Nat.mul_pos h.pos h.pos
  rw [hk, Nat.mul_div_cancel_left _ gg] at hd hm
  obtain ⟨j, rfl⟩ := hd
  have ff : 0 < f * f := Nat.mul_pos (by omega) (by omega)
  rw [Nat.mul_div_cancel_left _ ff] at hm
  have e : n = g * f * (g * f) * j := by rw [hk]; grind
  have gf : 0 < g * f := Nat.mul_pos h.pos (by omega)
  have := h.top (g * f) gf ⟨j, e⟩ (by rw [e, Nat.mul_div_cancel_left _ (Nat.mul_pos gf gf)]; exact hm)
  have h3 := Nat.le_of_dvd h.pos this
  have : g * 2 ≤ g * f := Nat.mul_le_mul (Nat.le_refl _) h2
  have := h.pos
  omega
end DL
namespace DL
open PySem PySem.Spec PyProof.Rows L2
local macro_rules | `(tactic| walk_at "rd") => `(tactic| simp only [startD, List.map, List.replicate, List.length_cons, List.length_nil, List.append_eq, List.append_nil, List.nil_append, List.cons_append, Nat.reduceSub, Nat.reduceAdd, List.getElem?_cons_zero, List.getElem?_cons_succ, List.set_cons_zero, List.set_cons_succ,
  dC, dVar, dOp, dTru, gTru, tru, dChain, dAnd, dOr, dNot, dAndV, dOrV, dNotV, dIf, dNeg, gNeg, dNil, dCons, dTup, dLst, dOwn, gIx, rBin, gAdd, gCmpI, dCall, dCallK, dSeq, dNext, dDrop, dRet, dRetN, dIfS, dName, dGNil, dGCons, dGTup, dSub, gSetL, dAsg, dPar, dPar3, dAug, gIpI, dSeqI, gSeqI, dRngI, gRng1, gRng2, dCB, gAbs, gInt, gMax, gMin, gGcd, gLen, lenD, gIsi, tyM, tyD, dBits, gBits, dMet, gAppend, dPart, dNoPart, dSl, gSl_tup, gSl_lst, cut_1, dEnds, gIs, isB, dNever, dCallX, dRaise, dTry, dFld, dCallV, gLRng, gFrz, dFrz, dFor, dLc, wipeD, dYes,
  sizeLine_eq, Nat.reduceLeDiff, gEq_int, gNe_int, gEq_strs, gNe_strs, gIn_two, gRepr_bl, rs_lst, rs_tup, rs_scr, rs_int, atI_0, atI_1, atI_2, atI_3, atI_4, atI_5, ixN_30, ixN_31, ixN_32, gEq_bl, gNe_bl, decide_eq_true_eq, beq_iff_eq, Bool.not_eq_true', beq_eq_false_iff_ne, decide_eq_false_iff_not, Bool.not_true, Bool.not_false, if_true, if_false, Bool.false_eq_true, ite_true, ite_false, true_and, and_true, ne_eq, Bool.bne_false, Bool.bne_true, reduceCtorEq])
local macro_rules | `(tactic| walk_at "rh") => `(tactic| simp only [*, startD, List.map, List.replicate, List.length_cons, List.length_nil, List.append_eq, List.append_nil, List.nil_append, List.cons_append, Nat.reduceSub, Nat.reduceAdd, List.getElem?_cons_zero, List.getElem?_cons_succ, List.set_cons_zero, List.set_cons_succ,
  dC, dVar, dOp, dTru, gTru, tru, dChain, dAnd, dOr, dNot, dAndV, dOrV, dNotV, dIf, dNeg, gNeg, dNil, dCons, dTup, dLst, dOwn, gIx, rBin, gAdd, gCmpI, dCall, dCallK, dSeq, dNext, dDrop, dRet, dRetN, dIfS, dName, dGNil, dGCons, dGTup, dSub, gSetL, dAsg, dPar, dPar3, dAug, gIpI, dSeqI, gSeqI, dRngI, gRng1, gRng2, dCB, gAbs, gInt, gMax, gMin, gGcd, gLen, lenD, gIsi, tyM, tyD, dBits, gBits, dMet, gAppend, dPart, dNoPart, dSl, gSl_tup, gSl_lst, cut_1, dEnds, gIs, isB, dNever, dCallX, dRaise, dTry, dFld, dCallV, gLRng, gFrz, dFrz, dFor, dLc, wipeD, dYes,
  sizeLine_eq, Nat.reduceLeDiff, gEq_int, gNe_int, gEq_strs, gNe_strs, gIn_two, gRepr_bl, rs_lst, rs_tup, rs_scr, rs_int, atI_0, atI_1, atI_2, atI_3, atI_4, atI_5, ixN_30, ixN_31, ixN_32, gEq_bl, gNe_bl, decide_eq_true_eq, beq_iff_eq, Bool.not_eq_true', beq_eq_false_iff_ne, decide_eq_false_iff_not, Bool.not_true, Bool.not_false, if_true, if_false, Bool.false_eq_true, ite_true, ite_false, true_and, and_true, ne_eq, Bool.bne_false, Bool.bne_true, reduceCtorEq])
local macro_rules | `(tactic| walk_at "kb") => `(tactic| simp only [kb_NoneType_list, kb_bool_list, kb_int_list, kb_str_list, kb_tuple_list, kb_list_list, kb_dict_list, kb_NoneType_int, kb_bool_int, kb_int_int, kb_str_int, kb_tuple_int, kb_list_int, kb_dict_int, kb_NoneType_bool, kb_bool_bool, kb_int_bool, kb_str_bool, kb_tuple_bool, kb_list_bool, kb_dict_bool, kb_NoneType_tuple, kb_bool_tuple, kb_int_tuple, kb_str_tuple, kb_tuple_tuple, kb_list_tuple, kb_dict_tuple, if_true, if_false, Bool.false_eq_true, ite_true, ite_false, Bool.not_true, Bool.not_false])
/-! ### the greatest square -/
def sp_square_part : DSp := fun ds M Q _ => ∃ n : Nat, ds = [.int n] ∧ 0 < n ∧ n ≤ 1000000000000 ∧ ∀ F s : Nat, IsPart n F s → 0 < F → F ≤ 1000000 → Q (.int F) M
theorem part_le {n f l p s : Nat} (h : Inv0 n f l p s) (hn : n ≤ 1000000000000) : l ≤ 1000000000000 ∧ f ≤ 1000000 := by
  have h1 : f * f * l * s ≤ 1000000000000 := by rw [← h.eq]; exact hn
  have s0 := h.sq.1
  have l0 := h.l0
  have ff := Nat.mul_pos h.f0 h.f0
  have e1 : f * f * l ≤ f * f * l * s := Nat.le_mul_of_pos_right _ s0
  have e2 : l ≤ f * f * l := Nat.le_mul_of_pos_left _ ff
  have e3 : f * f ≤ f * f * l := Nat.le_mul_of_pos_right _ l0
  refine ⟨by omega, ?_⟩
  rcases Nat.lt_or_ge f 1000001 with h | h
  · omega
  · have := Nat.mul_le_mul h h
    omega
theorem rd_square_part_by : ∀ ds M Q, ds.length = 1 → sp_square_part ds M Q DX0 → t_square_part_by sp_isq (dEnds M Q) (startD 5 ds) M := by
  rintro _ M Q - ⟨n, rfl, n1, n2, q⟩
  unfold t_square_part_by
  have sm : ∀ {i : Nat}, i ≤ 2000000000000 → Bi 42 (i : Int) := fun h => Bi.of_abs 2000000000000 (by omega) (by decide)
  refine dSeq_open fun B hB => ?_
  walk_at "rd"
  rw [← hB]
  clear hB B
  refine dSeq_open fun B hB => ?_
  refine dwhile_of (fun m r M' => M' = M ∧ ∃ f l p s : Nat, r = [some (.int n), some (.int f), some (.int l), some (.int p), none] ∧ p ≤ 10001 ∧ Inv0 n f l p s ∧ m = l + 1 - p) _ ⟨rfl, 1, n, 2, 1, rfl, by decide, Inv0.start n1, rfl⟩ ?_
  rintro m r M' ⟨rfl, f, l, p, s, rfl, hp, hI, rfl⟩
  obtain ⟨hl, hf⟩ := part_le hI n2
  have bp := sm (i := p) (by omega)
  have bpp : Bi 42 ((p : Int) * p) := by
    have : p * p ≤ 10001 * 10001 := Nat.mul_le_mul hp hp
    exact_mod_cast sm (i := p * p) (by omega)
  have bl := sm (i := l) (by omega)
  have bf := sm (i := f) (by omega)
  walk_at "rd"
  refine ⟨⟨bp.sm, bp.sm⟩, ⟨bpp.sm, bp.sm⟩, ?_⟩
  by_cases hkk : (p : Int) * p * p ≤ l
  · rw [if_pos hkk]
    have hkk' : p * p * p ≤ l := by exact_mod_cast hkk
    have p2 := hI.p2
    have hp1 : p ≤ 10000 := by
      rcases Nat.lt_or_ge p 10001 with h | h
      · omega
      · have := Nat.mul_le_mul (Nat.mul_le_mul h h) h
        omega
    have p0 : 0 < (p : Int) := by omega
    have pp0 : 0 < (p : Int) * p := Int.mul_pos p0 p0
    have emm : ∀ x : Nat, ((x : Int)).fmod ((p : Int) * p) = ((x % (p * p) : Nat) : Int) := fun x => by rw [fmod_pos pp0]; rfl
    have edd : ∀ x : Nat, ((x : Int)).fdiv ((p : Int) * p) = ((x / (p * p) : Nat) : Int) := fun x => by rw [fdiv_pos pp0]; rfl
    have em : ∀ x : Nat, ((x : Int)).fmod (p : Int) = ((x % p : Nat) : Int) := fun x => by rw [fmod_pos p0]; rfl
    have ed : ∀ x : Nat, ((x : Int)).fdiv (p : Int) = ((x / p : Nat) : Int) := fun x => by rw [fdiv_pos p0]; rfl
    have lpp : p ≤ p * p * p := by
      have : 1 ≤ p * p := Nat.mul_pos (by omega) (by omega)
      exact Nat.le_mul_of_pos_left _ this
    refine dwhile_of (fun m r M'' => M'' = M' ∧ ∃ f2 l2 : Nat, r = [some (.int n), some (.int f2), some (.int l2), some (.int p), none] ∧ l2 ≤ l ∧ Inv0 n f2 l2 p s ∧ m = l2 + 1) _ ⟨rfl, f, l, rfl, Nat.le_refl _, hI, rfl⟩ ?_
    rintro _ r M'' ⟨rfl, f2, l2, rfl, hl2, hI2, rfl⟩
    obtain ⟨_, hf2⟩ := part_le hI2 n2
    have bf2 := sm (i := f2) (by omega)
    walk_at "rd"
    refine ⟨⟨bp.sm, bp.sm⟩, Int.ne_of_gt pp0, ?_⟩
    rw [emm]
    by_cases hd : p * p ∣ l2
    · rw [if_pos (by rw [Nat.mod_eq_zero_of_dvd hd]; rfl)]
      obtain ⟨i1, i2⟩ := hI2.more hd
      refine ⟨⟨bf2.sm, bp.sm⟩, ⟨bp.sm, bp.sm⟩, ⟨Int.ne_of_gt pp0, Nat.lt_of_lt_of_le (log2_of 42 bpp (by decide)) (by decide)⟩, ?_⟩
      rw [edd]
      exact ⟨l2 / (p * p) + 1, by omega, f2 * p, l2 / (p * p), rfl, by omega, i1, rfl⟩
    · rw [if_neg (fun z => hd (Nat.dvd_of_mod_eq_zero (by exact_mod_cast z)))]
      refine ⟨(by omega : (p : Int) ≠ 0), ?_⟩
      rw [em]
      by_cases hd1 : p ∣ l2
      · rw [if_pos (by rw [Nat.mod_eq_zero_of_dvd hd1]; rfl)]
        obtain ⟨i1, i2⟩ := hI2.one hd hd1
        refine ⟨⟨by omega, Nat.lt_of_lt_of_le (log2_of 42 bp (by decide)) (by decide)⟩, ?_⟩
        rw [ed]
        exact ⟨l2 / p + 1 - (p + 1), by omega, f2, l2 / p, p + 1, s * p, rfl, by omega, i1, rfl⟩
      · rw [if_neg (fun z => hd1 (Nat.dvd_of_mod_eq_zero (by exact_mod_cast z)))]
        exact ⟨l2 + 1 - (p + 1), by omega, f2, l2, p + 1, s, rfl, by omega, hI2.none hd1, rfl⟩
  · rw [if_neg hkk, ← hB]
    clear hB B
    have hkk' : l < p * p * p := by
      rcases Nat.lt_or_ge l (p * p * p) with h | h
      · exact h
      · exact absurd (by exact_mod_cast h) hkk
    refine dSeq_open fun B hB => ?_
    walk_at "rd"
    have pb := p400_big
    have p9 := p400_900
    have p29 := p400_ten (i := 29) (by decide)
    refine ⟨l, rfl, by omega, by omega, ?_⟩
    dsimp only
    rw [← hB]
    clear hB B
    have i0 := isq_nn l
    have i1 := isq_le (n := l) (by omega)
    have i2 := isq_le_self (n := l) (by omega)
    generalize hr : isq (l : Int) = r at *
    obtain ⟨r, rfl⟩ : ∃ k : Nat, r = k := ⟨r.toNat, by omega⟩
    have br := sm (i := r) (by omega)
    walk_at "rd"
    refine ⟨⟨br.sm, br.sm⟩, ?_⟩
    by_cases hq : (r : Int) * r = l
    · rw [if_pos hq]
      have hq' : r * r = l := by exact_mod_cast hq
      have r0 : 0 < r := by
        rcases Nat.eq_zero_or_pos r with z | z
        · have := hI.l0
          rw [z] at hq'
          omega
        · exact z
      have hP := hI.finS hq'
      have hb : f * r ≤ 1000000 := by
        rcases Nat.lt_or_ge (f * r) 1000001 with h | h
        · omega
        · have h1 := Nat.mul_le_mul h h
          have h2 : f * r * (f * r) ≤ f * r * (f * r) * s := Nat.le_mul_of_pos_right _ hI.sq.1
          have := hP.1
          omega
      refine ⟨⟨bf.sm, br.sm⟩, ?_⟩
      exact rtq (q (f * r) s hP (Nat.mul_pos hI.f0 r0) hb)
    · rw [if_neg hq]
      refine rtq (q f (l * s) (hI.fin hkk' fun k hk => hq ?_) hI.f0 hf)
      have hk' : isq (l : Int) = k := by
        rw [← hk]
        exact isq_self (r := k) (by omega)
      rw [hr] at hk'
      rw [hk', ← hk]
      rfl
/-! ### the factor -/
def sp_factor_by : DSp := fun ds M Q _ => ∃ n : Nat, ds = [.int n] ∧ 5 ≤ n ∧ n % 4 < 2 ∧ n ≤ 1000000000000 ∧ ∀ g F s : Nat, IsPart n F s → 0 < F → IsFac n g → g ≤ 1000000 → Q (.int g) M
theorem rd_factor_by : ∀ ds M Q, ds.length = 1 → sp_factor_by ds M Q DX0 → t_factor_by sp_square_part (dEnds M Q) (startD 2 ds) M := by
  rintro _ M Q - ⟨n, rfl, n5, n4, n2, q⟩
  unfold t_factor_by
  have sm : ∀ {i : Nat}, i ≤ 2000000000000 → Bi 42 (i : Int) := fun h => Bi.of_abs 2000000000000 (by omega) (by decide)
  refine dSeq_open fun B hB => ?_
  walk_at "rd"
  refine ⟨n, rfl, by omega, n2, fun F s hP F0 hF => ?_⟩
  dsimp only
  rw [← hB]
  clear hB B
  have hFF := Nat.mul_pos F0 F0
  have bF := sm (i := F) (by omega)
  have bFF : Bi 42 ((F : Int) * F) := by
    have : F * F ≤ 1000000 * 1000000 := Nat.mul_le_mul hF hF
    exact_mod_cast sm (i := F * F) (by omega)
  have FF0 : 0 < (F : Int) * F := by exact_mod_cast hFF
  have F0' : 0 < (F : Int) := by omega
  walk_at "rd"
  refine ⟨⟨bF.sm, bF.sm⟩, ⟨Int.ne_of_gt FF0, Nat.lt_of_lt_of_le (log2_of 42 bFF (by decide)) (by decide)⟩, (by decide : (4 : Int) ≠ 0), ?_⟩
  have e1 : ((n : Int)).fdiv ((F : Int) * F) = ((n / (F * F) : Nat) : Int) := by rw [fdiv_pos FF0]; rfl
  have e2 : ((n / (F * F) : Nat) : Int).fmod 4 = ((n / (F * F) % 4 : Nat) : Int) := by rw [fmod_pos (by decide)]; rfl
  have e3 : ((F : Int)).fdiv 2 = ((F / 2 : Nat) : Int) := by rw [fdiv_pos (by decide)]; rfl
  rw [e1, e2, e3]
  have hfac := hP.fac F0 n4
  by_cases h : n / (F * F) % 4 < 2
  · rw [if_pos h] at hfac
    rw [if_pos (by rcases (by omega : n / (F * F) % 4 = 0 ∨ n / (F * F) % 4 = 1) with e | e <;> rw [e] <;> rfl)]
    exact rtq (q F F s hP F0 hfac hF)
  · rw [if_neg h] at hfac
    rw [if_neg (by
      have h1 : n / (F * F) % 4 < 4 := Nat.mod_lt _ (by decide)
      rcases (by omega : n / (F * F) % 4 = 2 ∨ n / (F * F) % 4 = 3) with e | e <;> rw [e] <;> decide)]
    exact ⟨⟨by decide, by decide⟩, rtq (q (F / 2) F s hP F0 hfac (by omega))⟩
/-- whole_root, factor of any value: only measures are let -/
def sp_whole_root_x : DSp := fun ds M Q E => ∃ d T, ds = [d] ∧ tyM M d = some T ∧ (isMeas d = true → ∃ m, d = .int m ∧ m ≤ BIG ∧ Q (.int (isq m)) M) ∧ (isMeas d = false → E "InvalidMeasure" d M)
theorem rd_whole_root_x : ∀ ds M Q E, ds.length = 1 → belowAll M.length ds = true → sp_whole_root_x ds M Q E → t_whole_root_x sp_check_measure_x sp_isq (dOut M E) (dEnds M Q) (startD 1 ds) M := by
  rintro _ M Q E - hb ⟨d, T, rfl, ht, q1, q2⟩
  unfold t_whole_root_x
  refine dSeq_open fun B hB => ?_
  walk_at "rd"
  refine ⟨d, T, rfl, ht, fun h => ?_, fun h => rtx (belowAll_mem hb (by simp)) (q2 h)⟩
  obtain ⟨m, rfl, m5, _⟩ := isMeas_int h
  obtain ⟨_, e, hB', q⟩ := q1 h
  cases e
  rw [← hB]
  clear hB B
  walk_at "rd"
  exact ⟨m, rfl, by omega, hB', rtq q⟩
theorem wk_whole_root : ∀ ds M Q E, sp_whole_root ds M Q E → sp_whole_root_x ds M Q DX0 := by
  rintro _ M Q E ⟨m, rfl, hm, hB, q⟩
  exact ⟨_, _, rfl, rfl, fun _ => ⟨m, rfl, hB, q⟩, fun h => by rw [hm] at h; cases h⟩
def sp_factor_x : DSp := fun ds M Q E => ∃ d T, ds = [d] ∧ tyM M d = some T ∧ (isMeas d = true → ∃ n : Nat, d = .int n ∧ 5 ≤ n ∧ n % 4 < 2 ∧ n ≤ 1000000000000 ∧ ∀ g F s : Nat, IsPart n F s → 0 < F → IsFac n g → g ≤ 1000000 → Q (.int g) M) ∧ (isMeas d = false → E "InvalidMeasure" d M)
theorem rd_factor_x : ∀ ds M Q E, ds.length = 1 → belowAll M.length ds = true → sp_factor_x ds M Q E → t_factor_x sp_check_measure_x sp_factor_by (dOut M E) (dEnds M Q) (startD 1 ds) M := by
  rintro _ M Q E - hb ⟨d, T, rfl, ht, q1, q2⟩
  unfold t_factor_x
  refine dSeq_open fun B hB => ?_
  walk_at "rd"
  refine ⟨d, T, rfl, ht, fun h => ?_, fun h => rtx (belowAll_mem hb (by simp)) (q2 h)⟩
  obtain ⟨n, rfl, n5, n4, n2, q⟩ := q1 h
  rw [← hB]
  clear hB B
  walk_at "rd"
  exact ⟨n, rfl, n5, n4, n2, fun g F s a b c d => rtq (q g F s a b c d)⟩
theorem isMeas_nat {n : Nat} (h5 : 5 ≤ n) (h4 : n % 4 < 2) : isMeas (.int n) = true := by
  have : (5 : Int) ≤ n := by omega
  simp only [isMeas, this, decide_true, Bool.true_and, Bool.or_eq_true, beq_iff_eq]
  omega
theorem wk_factor : ∀ ds M Q E, sp_factor_by ds M Q E → sp_factor_x ds M Q DX0 := by
  rintro _ M Q E ⟨n, rfl, n5, n4, n2, q⟩
  exact ⟨_, _, rfl, rfl, fun _ => ⟨n, rfl, n5, n4, n2, q⟩, fun h => by rw [isMeas_nat n5 n4] at h; cases h⟩
/-! ### the law's own factor -/
def facP (n i : Nat) : Bool := decide (n % (i * i) = 0) && decide (n / (i * i) % 4 < 2)
theorem facP_iff {n i : Nat} : facP n i = true ↔ i * i ∣ n ∧ n / (i * i) % 4 < 2 := by
  unfold facP
  simp only [Bool.and_eq_true, decide_eq_true_eq]
  exact ⟨fun h => ⟨Nat.dvd_of_mod_eq_zero h.1, h.2⟩, fun h => ⟨Nat.mod_eq_zero_of_dvd h.1, h.2⟩⟩
theorem fac_last {n g k : Nat} (h : IsFac n g) (hk : g ≤ k) : ∃ l, ((List.range k).map (· + 1)).filter (facP n) = l ++ [g] := by
  obtain ⟨j, rfl⟩ : ∃ j, k = (g - 1) + 1 + j := ⟨k - g, by have := h.pos; omega⟩
  have g1 : g - 1 + 1 = g := by have := h.pos; omega
  have h0 : facP n g = true := facP_iff.mpr ⟨h.dv, h.ms⟩
  refine ⟨((List.range (g - 1)).map (· + 1)).filter (facP n), ?_⟩
  rw [List.range_add, List.range_succ, List.map_append, List.map_append, List.filter_append, List.filter_append, List.map_singleton, g1, List.filter_cons, if_pos h0, List.filter_nil]
  have : (List.map (· + 1) (List.map (g + ·) (List.range j))).filter (facP n) = [] := by
    refine List.filter_eq_nil_iff.mpr fun x hx => ?_
    obtain ⟨y, hy, rfl⟩ := List.mem_map.mp hx
    obtain ⟨z, _, rfl⟩ := List.mem_map.mp hy
    intro hf
    obtain ⟨f1, f2⟩ := facP_iff.mp hf
    have := Nat.le_of_dvd h.pos (h.top _ (by omega) f1 f2)
    omega
  rw [this, List.append_nil]
def sp_lfac : DSp := fun ds M Q _ => ∃ n : Nat, ds = [.int n] ∧ 5 ≤ n ∧ n ≤ 3000 ∧ n % 4 < 2 ∧ ∀ g F s : Nat, IsPart n F s → 0 < F → IsFac n g → Q (.int g) M
theorem rd_l_factor_b928 : ∀ ds M Q, ds.length = 1 → sp_lfac ds M Q DX0 → t_l_factor_b928 sp_isq (dEnds M Q) (startD 3 ds) M := by
  rintro _ M Q - ⟨n, rfl, n5, n3, n4, q⟩
  unfold t_l_factor_b928
  have sm : ∀ {i : Nat}, i ≤ 2000000000000 → Bi 42 (i : Int) := fun h => Bi.of_abs 2000000000000 (by omega) (by decide)
  have pb := p400_big
  have p9 := p400_900
  have p29 := p400_ten (i := 29) (by decide)
  refine dSeq_open fun B hB => ?_
  walk_at "rd"
  refine ⟨n, rfl, by omega, by omega, ?_⟩
  dsimp only
  obtain ⟨k, hk⟩ : ∃ k : Nat, isq (n : Int) = k := ⟨(isq n).toNat, by have := isq_nn n; omega⟩
  have i1 := isq_le (n := n) (by omega)
  have i2 := isq_lt (n := n) (by omega)
  have i3 := isq_le_self (n := n) (by omega)
  rw [hk] at i1 i2 i3 ⊢
  have hk3 : k ≤ 3000 := by omega
  refine ⟨⟨by unfold Rg; decide, by unfold Rg; omega⟩, ?_⟩
  have ek : ((k : Int) + 1 - 1).toNat = k := by omega
  rw [ek]
  have en : rng 1 k = ((List.range k).map (· + 1)).map fun i : Nat => D.int (i : Int) := by
    unfold rng
    rw [List.map_map]
    refine List.map_congr_left fun i _ => ?_
    show D.int (1 + (i : Nat)) = D.int ((i + 1 : Nat) : Int)
    rw [show (1 : Int) + (i : Nat) = ((i + 1 : Nat) : Int) by omega]
  refine lcW_pure (fun d => match d with | .int i => if facP n i.toNat = true then some (.int i) else none | _ => none) trivial (by rw [en, List.length_map, List.length_map, List.length_range, sizeLine_eq]; omega) (fun d hd Y N' hy => ?_) ?_
  · obtain ⟨j, hj⟩ := List.getElem?_of_mem hd
    obtain ⟨hj, rfl⟩ := rng_get.mp hj
    rw [show (1 : Int) + (j : Nat) = ((j + 1 : Nat) : Int) by omega] at hy ⊢
    have bi := sm (i := j + 1) (by omega)
    have hii : 0 < (j + 1) * (j + 1) := Nat.mul_pos (by omega) (by omega)
    have bii : Bi 42 (((j + 1 : Nat) : Int) * ((j + 1 : Nat) : Int)) := by
      have : (j + 1) * (j + 1) ≤ 3000 * 3000 := Nat.mul_le_mul (by omega) (by omega)
      exact_mod_cast sm (i := (j + 1) * (j + 1)) (by omega)
    generalize hJ : j + 1 = J at *
    have II0 : 0 < (J : Int) * J := by exact_mod_cast hii
    have e1 : ((n : Int)).fdiv ((J : Int) * J) = ((n / (J * J) : Nat) : Int) := by rw [fdiv_pos II0]; rfl
    have e2 : ((n / (J * J) : Nat) : Int).fmod 4 = ((n / (J * J) % 4 : Nat) : Int) := by rw [fmod_pos (by decide)]; rfl
    have e3 : ((n : Int)).fmod ((J : Int) * J) = ((n % (J * J) : Nat) : Int) := by rw [fmod_pos II0]; rfl
    dsimp only at hy
    rw [Int.toNat_natCast] at hy
    walk_at "rd"
    refine ⟨⟨bi.sm, bi.sm⟩, Int.ne_of_gt II0, ?_⟩
    rw [e3, e1, e2]
    unfold facP at hy
    by_cases h1 : n % (J * J) = 0
    · rw [if_pos (by rw [h1]; rfl)]
      refine ⟨⟨bi.sm, bi.sm⟩, ⟨Int.ne_of_gt II0, Nat.lt_of_lt_of_le (log2_of 42 bii (by decide)) (by decide)⟩, (by decide : (4 : Int) ≠ 0), ?_⟩
      by_cases h2 : n / (J * J) % 4 < 2
      · rw [if_pos (by simp [h1, h2])] at hy
        rw [if_pos (by omega)]
        exact hy
      · rw [if_neg (by simp [h1, h2])] at hy
        rw [if_neg (by omega)]
        exact hy
    · rw [if_neg (by simp [h1])] at hy
      rw [if_neg (by omega)]
      exact hy
  · obtain ⟨F, sq, hP, F0⟩ := part_ex n (by omega)
    have hfac := hP.fac F0 n4
    generalize (if n / (F * F) % 4 < 2 then F else F / 2) = g at hfac
    have gk : g ≤ k := by
      have h1 : g * g ≤ n := Nat.le_of_dvd (by omega) hfac.dv
      rcases Nat.lt_or_ge k g with h | h
      · have := Nat.mul_le_mul h h
        have h3 : n < (k + 1) * (k + 1) := by exact_mod_cast i2
        have h4 : (k + 1) * (k + 1) ≤ g * g := this
        exact absurd (Nat.lt_of_lt_of_le h3 (Nat.le_trans h4 h1)) (Nat.lt_irrefl _)
      · exact h
    obtain ⟨l, hl⟩ := fac_last hfac gk
    have e4 : (rng 1 k).filterMap (fun d => match d with | .int i => if facP n i.toNat = true then some (.int i) else none | _ => none) = (l.map fun i : Nat => D.int (i : Int)) ++ [.int g] := by
      rw [en, List.filterMap_map]
      have : ∀ L : List Nat, L.filterMap ((fun d => match d with | D.int i => if facP n i.toNat = true then some (D.int i) else none | _ => none) ∘ fun i : Nat => D.int (i : Int)) = (L.filter (facP n)).map fun i : Nat => D.int (i : Int) := by
        intro L
        induction L with
        | nil => rfl
        | cons x L ih =>
          rw [List.filterMap_cons, List.filter_cons, ih]
          have e5 : ((fun d => match d with | D.int i => if facP n i.toNat = true then some (D.int i) else none | _ => none) ∘ fun i : Nat => D.int (i : Int)) x = if facP n x = true then some (D.int x) else none := by
            show (if facP n (x : Int).toNat = true then some (D.int x) else none) = _
            rw [Int.toNat_natCast]
          rw [e5]
          by_cases hx : facP n x = true
          · rw [if_pos hx, if_pos hx]; rfl
          · rw [if_neg hx, if_neg hx]
      rw [this, hl, List.map_append]
      rfl
    rw [e4]
    rw [← hB]
    clear hB B
    walk_at "rd"
    have e6 : ((((List.map (fun i : Nat => D.int (i : Int)) l ++ [D.int (g : Int)]).length : Nat) : Int) - 1) = ((l.length : Nat) : Int) := by
      rw [List.length_append, List.length_map, List.length_singleton]
      omega
    rw [e6, atI_of _ (by rw [List.length_append, List.length_map, List.length_singleton]; omega), List.getElem?_append_right (by rw [List.length_map]; exact Nat.le_refl _), List.length_map, Nat.sub_self]
    exact rtq (q g F sq hP F0 hfac)
/-! ### the drawn ones -/
theorem gNe_int_same {i : Int} {M : Mem} {Q : DQ} (q : Q (.bl false) M) : gNe (.int i) (.int i) M Q := by rw [gNe_int]; simpa using q
theorem gNe_str_same {z : Str} {M : Mem} {Q : DQ} (q : Q (.bl false) M) : gNe (.str z) (.str z) M Q := by rw [gNe_strs, str_self]; exact q
theorem gReprZ_bl {b : Bool} {M : Mem} {Q : DQ} (q : Q (.str (PyData.shown (.bool b))) M) : gReprZ [.bl b] M Q := by cases b <;> exact q
theorem gReprZ_small {n : Nat} {M : Mem} (h : n ≤ 2000000000000) : ∃ z, ∀ Q : DQ, Q (.str z) M → gReprZ [.int n] M Q := by
  have b : Bi 150 (n : Int) := (Bi.of_abs (n := 42) 2000000000000 (by omega) (by decide)).mono
  have hs : Sh (.int n) := ⟨rfl, sh_int b, by simp only [wt]; decide⟩
  obtain ⟨z, hz⟩ := hs.shown M
  exact ⟨z, fun Q q => gReprZ_res hz q⟩
def sp_right1 : DSp := fun ds M Q _ => ∃ (k : Nat) (n : Int), ds = [.own k] ∧ Gn k n M ∧ n ≤ P40 - 4000 ∧ ∀ M', Gst k (n + 2200) M M' → Q (.bl true) M'
theorem rd_l_right_7f71 : ∀ ds M Q, ds.length = 1 → sp_right1 ds M Q DX0 → t_l_right_7f71 sp_lmeasure sp_whole_root sp_is_measure sp_random sp_factor_by sp_lfac (dEnds M Q) (startD 14 ds) M := by
  rintro _ M Q - ⟨k, n, rfl, hg, hn, q⟩
  unfold t_l_right_7f71
  have sm : ∀ {i : Nat}, i ≤ 2000000000000 → Bi 42 (i : Int) := fun h => Bi.of_abs 2000000000000 (by omega) (by decide)
  refine dSeq_open fun B hB => ?_
  walk_at "rd"
  refine ⟨by unfold Rg; decide, fun i r M' => i ≤ 4 ∧ Gst k (n + 500 * i) M M' ∧ ∃ t1 t2 t3 t4 t5 t6 t7 t8 t9 t10 t11 t12 t13 : Option D, r = [some (.own k), t1, t2, t3, t4, t5, t6, t7, t8, t9, t10, t11, t12, t13], ⟨by decide, Gst.refl (hg.le (by omega)), none, none, none, none, none, none, none, none, none, none, none, none, none, rfl⟩, ?_⟩
  rintro i r M' ⟨hi, g0, t1, t2, t3, t4, t5, t6, t7, t8, t9, t10, t11, t12, t13, rfl⟩
  refine ⟨trivial, fun hli => ?_, fun d hd => ?_⟩
  · dsimp only
    rw [← hB]
    walk_at "rd"
    exact g0.rtq (q M' (g0.le (by omega)))
  obtain ⟨hi4, rfl⟩ := rng_get.mp hd
  have hi4 : i < 4 := hi4
  simp only [dName, List.set_cons_zero, List.set_cons_succ]
  clear hB
  refine dSeq_open fun B1 hB => ?_
  walk_at "rd"
  refine ⟨k, 28, _, rfl, by decide, by decide, g0.2.1, by omega, fun m M1 hm hm29 g1 => ?_⟩
  dsimp only
  rw [← hB]
  clear hB B1
  have m0 := meas_le hm
  have hm29 : m ≤ 10 ^ 29 := hm29
  have pb := p400_big
  have p9 := p400_900
  have p29 := p400_ten (i := 29) (by decide)
  refine dSeq_open fun B1 hB => ?_
  walk_at "rd"
  refine ⟨m, rfl, hm, by omega, ?_⟩
  dsimp only
  rw [← hB]
  clear hB B1
  obtain ⟨mm, rfl, mm5, mm4⟩ : ∃ mm : Nat, m = mm ∧ 5 ≤ mm ∧ mm % 4 < 2 := by
    obtain ⟨_, e, h5, h4⟩ := isMeas_int hm
    cases e
    exact ⟨m.toNat, by omega, by omega, by omega⟩
  have i0 := isq_nn (mm : Int)
  have i1 := isq_le m0
  have i2 := isq_lt m0
  have i3 := isq_le_self m0
  generalize hr : isq (mm : Int) = r at *
  refine dSeq_open fun B1 hB => ?_
  walk_at "rd"
  have sr : Sm r := sm_big (by omega) (by omega)
  have sr1 : Sm (r + 1) := sm_big (by omega) (by omega)
  refine ⟨⟨sr, sr⟩, ?_⟩
  rw [if_pos i1]
  refine ⟨⟨sr1, sr1⟩, ?_⟩
  rw [if_neg (fun z => z i2), show kitB "int" "bool" = some false from rfl]
  dsimp only
  rw [if_neg (by decide)]
  refine ⟨_, _, rfl, rfl, ?_⟩
  rw [hm]
  dsimp only
  rw [if_neg (by decide)]
  refine ⟨rfl, mm, rfl, hm, by omega, ?_⟩
  rw [hr]
  refine gNe_int_same ?_
  dsimp only
  rw [if_neg (by decide), ← hB]
  clear hB B1
  refine dSeq_open fun B1 hB => ?_
  walk_at "rd"
  refine ⟨by unfold Rg; decide, fun j r' M2 => M2 = M1 ∧ ∃ t4 : Option D, r' = [some (.own k), some (D.int (0 + ↑i)), some (.int mm), some (.int r), t4, t5, t6, t7, t8, t9, t10, t11, t12, t13], ⟨rfl, _, rfl⟩, ?_⟩
  rintro j r' M2 ⟨rfl, t4, rfl⟩
  refine ⟨trivial, fun hlj => ?_, fun d hd => ?_⟩
  rotate_left
  · obtain ⟨hj4, rfl⟩ := rng_get.mp hd
    have hj4 : j < 4 := hj4
    walk_at "rd"
    refine ⟨_, _, rfl, rfl, ?_⟩
    refine gReprZ_bl ⟨(by decide : (4 : Int) ≠ 0), gReprZ_bl ?_⟩
    have e : isMeas (.int ((mm : Int) + (0 + (j : Nat)))) = decide (((mm : Int) + (0 + (j : Nat))).fmod 4 < 2) := by
      rw [fmod_pos (by decide)]
      unfold isMeas
      have : (5 : Int) ≤ (mm : Int) + (0 + (j : Nat)) := by omega
      dsimp only
      rw [decide_eq_true this, Bool.true_and]
      rw [Bool.eq_iff_iff]
      simp only [Bool.or_eq_true, beq_iff_eq, decide_eq_true_eq]
      omega
    rw [e]
    refine gNe_str_same ?_
    dsimp only
    rw [if_neg (by decide)]
    exact ⟨rfl, _, rfl⟩
  dsimp only
  rw [← hB]
  clear hB B1 hlj j
  refine dSeq_open fun B1 hB => ?_
  walk_at "rd"
  refine ⟨k, 2000, _, rfl, by decide, by omega, g1.2.1, by omega, fun v M3 v0 v1 g3 => ?_⟩
  dsimp only
  rw [← hB]
  clear hB B1
  refine dSeq_open fun B1 hB => ?_
  walk_at "rd"
  refine ⟨(by decide : (4 : Int) ≠ 0), k, 2, _, rfl, by decide, by omega, g3.2.1, by omega, fun v4 M4 v40 v41 g4 => ?_⟩
  dsimp only
  have gg := ((g0.trans g1).trans g3).trans g4
  obtain ⟨sma, hsma⟩ : ∃ x : Int, 5 + v - (5 + v).fmod 4 + v4 = x := ⟨_, rfl⟩
  rw [hsma]
  rw [fmod_pos (by decide)] at hsma
  rw [← hB]
  clear hB B1
  have hpos : 4 ≤ sma ∧ sma ≤ 2005 ∧ sma % 4 < 2 := by omega
  obtain ⟨sn, rfl⟩ : ∃ x : Nat, sma = x := ⟨sma.toNat, by omega⟩
  obtain ⟨F, s2, hP, F0⟩ := part_ex sn (by omega)
  have hfac : IsFac sn (if sn / (F * F) % 4 < 2 then F else F / 2) := hP.fac F0 (by omega)
  generalize (if sn / (F * F) % 4 < 2 then F else F / 2) = gs at hfac
  have gs2 : gs ≤ 3000 := by
    have h1 : gs * gs ≤ sn := Nat.le_of_dvd (by omega) hfac.dv
    have h2 : gs * 1 ≤ gs * gs := Nat.mul_le_mul (Nat.le_refl _) hfac.pos
    omega
  refine dSeq_open fun B1 hB => ?_
  suffices hb : B1 [some (.own k), some (D.int (0 + ↑i)), some (.int mm), some (.int r), t4, some (.int sn), t6, t7, t8, t9, t10, t11, t12, t13] M4 by
    walk_at "rd"
    by_cases h5 : (4 : Int) < sn
    · rw [if_pos h5]
      refine ⟨sn, rfl, by omega, by omega, by omega, fun g' _ _ _ _ hg' _ => ?_⟩
      cases hg'.uni hfac
      obtain ⟨z, hz⟩ := gReprZ_small (n := gs) (M := M4) (by omega)
      refine hz _ ?_
      refine ⟨sn, rfl, by omega, by omega, by omega, fun g' _ _ _ _ hg' => ?_⟩
      cases hg'.uni hfac
      refine hz _ ?_
      refine gNe_str_same ?_
      dsimp only
      rw [if_neg (by decide)]
      refine ⟨rfl, sn, rfl, by omega, by omega, by omega, fun g' _ _ _ _ hg' _ => ?_⟩
      cases hg'.uni hfac
      refine ⟨sn, rfl, by omega, by omega, by omega, fun g' _ _ _ _ hg' _ => ?_⟩
      cases hg'.uni hfac
      refine gNe_int_same ?_
      dsimp only
      rw [if_neg (by decide)]
      exact hb
    · rw [if_neg h5]
      exact hb
  rw [← hB]
  clear hB B1
  refine dSeq_open fun B1 hB => ?_
  walk_at "rd"
  refine ⟨k, 100000, _, rfl, by decide, by omega, g4.2.1, by omega, fun v5 M5 v50 v51 g5 => ?_⟩
  dsimp only
  refine ⟨k, 10, _, rfl, by decide, by omega, g5.2.1, by omega, fun v6 M6 v60 v61 g6 => ?_⟩
  obtain ⟨pu, hpu⟩ : ∃ x : Nat, 1 + v5 = x := ⟨(1 + v5).toNat, by omega⟩
  obtain ⟨R, hR, hat⟩ : ∃ R ∈ rests, atI [D.int 5, D.int 8, D.int 12, D.int 13, D.int 17, D.int 21, D.int 24, D.int 28, D.int 29, D.int 33] v6 = some (.int (R : Nat)) := by
    obtain ⟨w, rfl⟩ : ∃ w : Nat, v6 = w := ⟨v6.toNat, by omega⟩
    have hw : w < 10 := by omega
    refine ⟨rests[w], List.getElem_mem hw, ?_⟩
    rw [atI_of _ hw]
    match w, hw with
    | 0, _ => rfl
    | 1, _ => rfl
    | 2, _ => rfl
    | 3, _ => rfl
    | 4, _ => rfl
    | 5, _ => rfl
    | 6, _ => rfl
    | 7, _ => rfl
    | 8, _ => rfl
    | 9, _ => rfl
  dsimp only
  rw [hat, hpu]
  dsimp only
  have p1 : 1 ≤ pu ∧ pu ≤ 100000 := by omega
  rw [← hB]
  clear hB B1 hat
  have gg6 := (gg.trans g5).trans g6
  refine dSeq_open fun B1 hB => ?_
  walk_at "rd"
  have bpu := sm (i := pu) (by omega)
  have pp : pu * pu ≤ 100000 * 100000 := Nat.mul_le_mul p1.2 p1.2
  have bpp : Bi 42 ((pu : Int) * pu) := by exact_mod_cast sm (i := pu * pu) (by omega)
  have bR : Bi 42 (R : Int) := sm (by have := (rest_fac R hR).2.2.1; omega)
  obtain ⟨t1', t2'⟩ := rest_times hR (p := pu) (by omega)
  have rr := rest_fac R hR
  have hppR : pu * pu * R ≤ 100000 * 100000 * 33 := Nat.mul_le_mul pp rr.2.2.1
  have hppR5 : 5 ≤ pu * pu * R := by
    have : 1 * 5 ≤ pu * pu * R := Nat.mul_le_mul (Nat.mul_pos (by omega) (by omega)) rr.2.1
    omega
  refine ⟨⟨bpu.sm, bpu.sm⟩, ⟨bpp.sm, bR.sm⟩, pu * pu * R, rfl, hppR5, t2', by omega, fun g' _ _ _ _ hg' _ => ?_⟩
  cases hg'.uni t1'
  refine gNe_int_same ?_
  dsimp only
  rw [if_neg (by decide)]
  have b2 : Bi 42 ((pu : Int) + 2) := by exact_mod_cast sm (i := pu + 2) (by omega)
  have pp2 : (pu + 2) * (pu + 2) ≤ 100002 * 100002 := Nat.mul_le_mul (by omega) (by omega)
  have pp25 : 3 * 3 ≤ (pu + 2) * (pu + 2) := Nat.mul_le_mul (by omega) (by omega)
  refine ⟨⟨b2.sm, b2.sm⟩, (pu + 2) * (pu + 2), rfl, by omega, by rcases sq_mod (pu + 2) with ⟨h, _⟩ | ⟨h, _⟩ <;> omega, by omega, fun g' _ _ _ _ hg' _ => ?_⟩
  cases hg'.uni (fac_sq (by omega))
  refine gNe_int_same ?_
  dsimp only
  rw [if_neg (by decide), ← hB]
  clear hB B1
  refine dSeq_open fun B1 hB => ?_
  walk_at "rd"
  refine ⟨(by decide : (22000 : Int) ≠ 0), ⟨by decide, by decide⟩, ?_⟩
  obtain ⟨mn, hmn⟩ : ∃ x : Nat, 1 + (pu : Int).fmod 22000 = x := ⟨(1 + (pu : Int).fmod 22000).toNat, by rw [fmod_pos (by decide)]; omega⟩
  obtain ⟨gr, hgr⟩ : ∃ x : Nat, (10 : Int) ^ Int.toNat 6 - pu = x := ⟨((10 : Int) ^ Int.toNat 6 - pu).toNat, by
    have : (10 : Int) ^ Int.toNat 6 = 1000000 := rfl
    omega⟩
  rw [hmn, hgr]
  rw [fmod_pos (by decide)] at hmn
  have hgr' : (1000000 : Int) - pu = gr := hgr
  have hm1 : 1 ≤ mn ∧ mn ≤ 22000 := by omega
  have hg1 : 900000 ≤ gr ∧ gr ≤ 1000000 := by omega
  rw [← hB]
  clear hB B1
  refine dSeq_open fun B1 hB => ?_
  suffices hb : B1 [some (.own k), some (D.int (0 + ↑i)), some (.int mm), some (.int r), t4, some (.int sn), some (.int pu), some (.int R), some (.int mn), some (.int gr), t10, t11, t12, t13] M6 by
    walk_at "rd"
    by_cases hz : (0 : Int) + (i : Nat) = 0
    · rw [if_pos hz]
      by_cases h5 : (4 : Int) < sn
      · rw [if_pos h5]
        have bm := sm (i := mn) (by omega)
        have mm2 : mn * mn ≤ 22000 * 22000 := Nat.mul_le_mul hm1.2 hm1.2
        have bmm : Bi 42 ((mn : Int) * mn) := by exact_mod_cast sm (i := mn * mn) (by omega)
        have bs := sm (i := sn) (by omega)
        have mms : mn * mn * sn ≤ 22000 * 22000 * 2005 := Nat.mul_le_mul mm2 (by omega)
        have mms5 : 5 ≤ mn * mn * sn := by
          have : 1 * 5 ≤ mn * mn * sn := Nat.mul_le_mul (Nat.mul_pos (by omega) (by omega)) (by omega)
          omega
        have hft := fac_times ⟨F, s2, hP, F0⟩ (by omega) hm1.1 hfac
        refine ⟨⟨bm.sm, bm.sm⟩, ⟨bmm.sm, bs.sm⟩, mn * mn * sn, rfl, mms5, ?_, by omega, fun g' _ _ _ _ hg' _ => ?_⟩
        · rcases sq_mod mn with ⟨h1, _⟩ | ⟨h1, _⟩
          · rw [Nat.mul_mod, h1]; omega
          · rw [Nat.mul_mod, h1, Nat.one_mul, Nat.mod_mod]; omega
        cases hg'.uni hft
        refine ⟨sn, rfl, by omega, by omega, by omega, fun g' _ _ _ _ hg' => ?_⟩
        cases hg'.uni hfac
        refine ⟨⟨bm.sm, (sm (i := gs) (by omega)).sm⟩, ?_⟩
        refine gNe_int_same ?_
        dsimp only
        rw [if_neg (by decide)]
        have bg := sm (i := gr) (by omega)
        have gg2 : gr * gr ≤ 1000000 * 1000000 := Nat.mul_le_mul hg1.2 hg1.2
        have gg3 : 900000 * 900000 ≤ gr * gr := Nat.mul_le_mul hg1.1 hg1.1
        refine ⟨⟨bg.sm, bg.sm⟩, gr * gr, rfl, by omega, by rcases sq_mod gr with ⟨h, _⟩ | ⟨h, _⟩ <;> omega, by omega, fun g' _ _ _ _ hg' _ => ?_⟩
        cases hg'.uni (fac_sq (by omega))
        refine gNe_int_same ?_
        dsimp only
        rw [if_neg (by decide)]
        exact hb
      · rw [if_neg h5]
        exact hb
    · rw [if_neg hz]
      exact hb
  rw [← hB]
  clear hB B1
  refine dSeq_open fun B1 hB => ?_
  walk_at "rd"
  refine ⟨k, 11, _, rfl, by decide, by decide, gg6.2.1, by omega, fun wm M7 hwm hw12 g7 => ?_⟩
  dsimp only
  rw [← hB]
  clear hB B1
  have gg7 := gg6.trans g7
  have hw12 : wm ≤ 1000000000000 := hw12
  obtain ⟨wd, rfl, wd5, wd4⟩ : ∃ mm : Nat, wm = mm ∧ 5 ≤ mm ∧ mm % 4 < 2 := by
    obtain ⟨_, e, h5, h4⟩ := isMeas_int hwm
    cases e
    exact ⟨wm.toNat, by omega, by omega, by omega⟩
  refine dSeq_open fun B1 hB => ?_
  walk_at "rd"
  refine ⟨wd, rfl, wd5, wd4, by omega, fun fw Fw sw hPw Fw0 hfw hfw6 => ?_⟩
  dsimp only
  rw [← hB]
  clear hB B1
  have fw0 := hfw.pos
  refine dSeq_open fun B1 hB => ?_
  walk_at "rd"
  rw [show kitB "int" "bool" = some false from rfl, show kitB "int" "int" = some true from rfl]
  dsimp only
  rw [if_neg (by decide), if_neg (by decide), if_neg (by omega), ← hB]
  clear hB B1
  have bfw := sm (i := fw) (by omega)
  have fww : fw * fw ≤ 1000000 * 1000000 := Nat.mul_le_mul hfw6 hfw6
  have ffpos : 0 < fw * fw := Nat.mul_pos fw0 fw0
  have bfww : Bi 42 ((fw : Int) * fw) := by exact_mod_cast sm (i := fw * fw) (by omega)
  have FW0 : 0 < (fw : Int) * fw := by exact_mod_cast ffpos
  have e1 : ((wd : Int)).fdiv ((fw : Int) * fw) = ((wd / (fw * fw) : Nat) : Int) := by rw [fdiv_pos FW0]; rfl
  have e2 : ((wd / (fw * fw) : Nat) : Int).fmod 4 = ((wd / (fw * fw) % 4 : Nat) : Int) := by rw [fmod_pos (by decide)]; rfl
  have e3 : ((wd : Int)).fmod ((fw : Int) * fw) = ((wd % (fw * fw) : Nat) : Int) := by rw [fmod_pos FW0]; rfl
  refine dSeq_open fun B1 hB => ?_
  walk_at "rd"
  refine ⟨⟨bfw.sm, bfw.sm⟩, ⟨Int.ne_of_gt FW0, Nat.lt_of_lt_of_le (log2_of 42 bfww (by decide)) (by decide)⟩, ?_⟩
  rw [e1, ← hB]
  clear hB B1
  walk_at "rd"
  refine ⟨⟨bfw.sm, bfw.sm⟩, Int.ne_of_gt FW0, ?_⟩
  rw [e3, if_neg (by rw [Nat.mod_eq_zero_of_dvd hfw.dv]; exact fun z => z rfl)]
  refine ⟨(by decide : (4 : Int) ≠ 0), ?_⟩
  rw [e2, if_neg (by have := hfw.ms; omega)]
  refine ⟨⟨by unfold Rg; decide, by unfold Rg; decide⟩, lcW_pure (fun _ => none) trivial (by decide +kernel) (fun d hd Y N' hy => ?_) ?_⟩
  · obtain ⟨j, hj⟩ := List.getElem?_of_mem hd
    obtain ⟨hj2, rfl⟩ := rng_get.mp hj
    have hj2 : j < 998 := hj2
    rw [show (2 : Int) + (j : Nat) = ((j + 2 : Nat) : Int) by omega]
    generalize hJ : j + 2 = J at *
    have bi := sm (i := J) (by omega)
    have hii : 0 < J * J := Nat.mul_pos (by omega) (by omega)
    have hJ2 : J * J ≤ 1000 * 1000 := Nat.mul_le_mul (by omega) (by omega)
    have bii : Bi 42 ((J : Int) * J) := by exact_mod_cast sm (i := J * J) (by omega)
    have II0 : 0 < (J : Int) * J := by exact_mod_cast hii
    generalize hL : wd / (fw * fw) = L at *
    have f1 : ((L : Int)).fdiv ((J : Int) * J) = ((L / (J * J) : Nat) : Int) := by rw [fdiv_pos II0]; rfl
    have f2 : ((L / (J * J) : Nat) : Int).fmod 4 = ((L / (J * J) % 4 : Nat) : Int) := by rw [fmod_pos (by decide)]; rfl
    have f3 : ((L : Int)).fmod ((J : Int) * J) = ((L % (J * J) : Nat) : Int) := by rw [fmod_pos II0]; rfl
    walk_at "rd"
    refine ⟨⟨bi.sm, bi.sm⟩, Int.ne_of_gt II0, ?_⟩
    rw [f3, f1, f2]
    by_cases h1 : L % (J * J) = 0
    · rw [if_pos (by rw [h1]; rfl)]
      refine ⟨⟨bi.sm, bi.sm⟩, ⟨Int.ne_of_gt II0, Nat.lt_of_lt_of_le (log2_of 42 bii (by decide)) (by decide)⟩, (by decide : (4 : Int) ≠ 0), ?_⟩
      by_cases h2 : L / (J * J) % 4 < 2
      · exact absurd (hfw.left (f := J) (by omega) (by rw [hL]; exact Nat.dvd_of_mod_eq_zero h1) (by rw [hL]; exact h2)) id
      · rw [if_neg (by omega)]
        exact hy
    · rw [if_neg (by omega)]
      exact hy
  · have : ∀ L : List D, L.filterMap (fun _ => (none : Option D)) = [] := fun L => by
      induction L with
      | nil => rfl
      | cons x L ih => rw [List.filterMap_cons]; exact ih
    rw [this, gNe_nil]
    dsimp only
    rw [if_neg (by decide)]
    exact ⟨by omega, gg7.le (by omega), _, _, _, _, _, _, _, _, _, _, _, _, _, rfl⟩
/-! ### what is told -/
def sp_told01 : DSp := fun ds M Q _ => ∃ (w : Int) (d : D), ds = [.int w, d] ∧ (w = 0 ∨ w = 1) ∧ (∃ T, tyM M d = some T) ∧ isMeas d = false ∧ below M.length d = true ∧ Q (.lst [.bl true, d]) M
theorem rd_l_told_59a8 : ∀ ds M Q, ds.length = 2 → sp_told01 ds M Q DX0 → t_l_told_59a8 sp_whole_root_x sp_factor_x (dEnds M Q) (startD 4 ds) M := by
  rintro _ M Q - ⟨w, d, rfl, hw, ⟨T, ht⟩, hm, hb, q⟩
  unfold t_l_told_59a8
  refine dSeq_open fun B hB => ?_
  walk_at "rd"
  rw [← hB]
  clear hB B
  refine dSeq_open fun B hB => ?_
  have fin : B [some (.int w), some d, some (.exc "InvalidMeasure" d), none] M := by
    rw [← hB]
    clear hB B
    refine dSeq_open fun B hB => ?_
    walk_at "rd"
    rw [← hB]
    clear hB B
    walk_at "rd"
    refine ⟨by decide, ?_⟩
    rw [show XA.under (Str.ofString "InvalidMeasure") (Str.ofString "InvalidMeasure") = true from by decide]
    dsimp only
    rw [if_pos rfl]
    exact ⟨rfl, rtq q (by simp only [below, belowAll, hb, Bool.and_self])⟩
  walk_at "rd"
  rcases hw with rfl | rfl
  · rw [atI_0]
    exact ⟨1, _, .head _, rfl, d, T, rfl, ht, fun h => (by rw [hm] at h; cases h), fun _ => ⟨by decide, fin⟩⟩
  · rw [atI_1]
    exact ⟨1, _, .tail _ (.head _), rfl, d, T, rfl, ht, fun h => (by rw [hm] at h; cases h), fun _ => ⟨by decide, fin⟩⟩
/-! ### the law -/
theorem gNeD_ok {x y d : D} {M : Mem} {Q : DQ} (hx : resD M x = d) (hy : resD M y = d) (e : eqB d d = some true) (q : Q (.bl false) M) : gNeD x y M Q := by
  unfold gNeD
  rw [hx, hy, e]
  exact q
theorem gEqD_ok {x y d : D} {M : Mem} {Q : DQ} (hx : resD M x = d) (hy : resD M y = d) (e : eqB d d = some true) (q : Q (.bl true) M) : gEqD x y M Q := by
  unfold gEqD
  rw [hx, hy, e]
  exact q
theorem ty_shd {odd : D} {M : Mem} (h : Sh odd ∨ odd = .dct0) : ∃ T, tyM M odd = some T := by
  rcases h with h | rfl
  · exact fine_ty M (fine_up h.f)
  · exact ⟨_, rfl⟩
theorem rd_l_law_0a00 : ∀ ds M Q, ds.length = 1 → spLaw ds M Q DX0 → t_l_law_0a00 sp_generator sp_right1 sp_is_measure sp_told01 sp_factor_by sp_whole_root (dEnds M Q) (startD 8 ds) M := by
  rintro _ M Q - ⟨rfl, ⟨ns, rfl⟩, q⟩
  unfold t_l_law_0a00
  have fin : ∀ M2, Rtq [] Q (.bl true) M2 := fun M2 => ⟨[], M2, rfl, Nat.zero_le _, rfl, fun i c h => by simp at h, q⟩
  refine dSeq_open fun B hB => ?_
  walk_at "rd"
  refine ⟨ns, _, rfl, by decide, by unfold P31; decide, fun M1 ml hg hold => ?_⟩
  rw [← hB]
  clear hB B
  refine dSeq_open fun B hB => ?_
  walk_at "rd"
  refine ⟨0, _, rfl, hg, by unfold P40; decide, fun M2 g2 => ?_⟩
  dsimp only
  rw [if_neg (by decide), ← hB]
  clear hB B
  refine dSeq_open fun B hB => ?_
  walk_at "rd"
  refine ⟨⟨by decide, by decide⟩, ?_⟩
  have hA : ∀ d ∈ [D.non, D.int 0, D.int 1, D.int 4, D.int 6, D.int 7, D.int (-4), D.int (-3), D.bl true, D.bl false, D.str (Str.ofString "5"), D.lst [D.int 5], D.tup [D.int 5], D.dct0, D.int (10 ^ Int.toNat 29 + 2)], (Sh d ∨ d = .dct0) ∧ isMeas d = false ∧ (∀ n, below n d = true) ∧ (∀ M, resD M (.lst [.bl true, d]) = .lst [.bl true, d]) ∧ ((shwnZ (.lst [.bl true, d])).map PyData.strOk) = some true := fun d hd => by
    simp only [List.mem_cons, List.not_mem_nil, or_false] at hd
    rcases hd with rfl | rfl | rfl | rfl | rfl | rfl | rfl | rfl | rfl | rfl | rfl | rfl | rfl | rfl | rfl
    all_goals
      refine ⟨?_, by decide +kernel, fun n => rfl, fun M => rfl, by decide +kernel⟩
      first
      | exact .inr rfl
      | (refine .inl ⟨?_, ?_, ?_⟩
         · first | rfl | decide +kernel
         · first | rfl | decide +kernel
         · first | exact Nat.le_of_ble_eq_true rfl | decide +kernel)
  generalize [D.non, D.int 0, D.int 1, D.int 4, D.int 6, D.int 7, D.int (-4), D.int (-3), D.bl true, D.bl false, D.str (Str.ofString "5"), D.lst [D.int 5], D.tup [D.int 5], D.dct0, D.int (10 ^ Int.toNat 29 + 2)] = ws at *
  refine ⟨fun i r M' => M' = M2 ∧ ∃ t2 t3 : Option D, r = [some (.scr ns), some (.own 0), t2, t3, none, none, none, none], ⟨rfl, none, none, rfl⟩, ?_⟩
  rintro i r M' ⟨rfl, t2, t3, rfl⟩
  refine ⟨trivial, fun hli => ?_, fun d hd => ?_⟩
  rotate_left
  · obtain ⟨h1, h2, h3, h4, h5⟩ := hA d (List.mem_of_getElem? hd)
    obtain ⟨T, ht⟩ := ty_shd (M := M') h1
    have hs : ∃ z, shwnZ (resD M' (.lst [.bl true, d])) = some z ∧ PyData.strOk z = true := by
      rw [h4]
      cases e : shwnZ (.lst [.bl true, d]) with
      | none => rw [e] at h5; cases h5
      | some z => rw [e] at h5; exact ⟨z, rfl, by simpa using h5⟩
    obtain ⟨z, hz, hzo⟩ := hs
    simp only [dName, List.set_cons_zero, List.set_cons_succ]
    clear hB
    refine dSeq_open fun B1 hB => ?_
    walk_at "rd"
    refine ⟨d, T, rfl, ht, ?_⟩
    rw [h2]
    dsimp only
    rw [if_neg (by decide)]
    refine ⟨rfl, d, T, rfl, ht, ?_⟩
    rw [h2]
    dsimp only
    rw [if_neg (by decide), ← hB]
    clear hB B1
    walk_at "rd"
    refine ⟨by unfold Rg; decide, lcW_pure (fun _ => some (.str z)) trivial (by decide +kernel) (fun d2 hd2 Y N' hy => ?_) ?_⟩
    · obtain ⟨w, hw⟩ := List.getElem?_of_mem hd2
      obtain ⟨w0, rfl⟩ := rng_get.mp hw
      have w0 : w < 2 := w0
      walk_at "rd"
      refine ⟨_, d, rfl, by omega, ⟨T, ht⟩, h2, h3 _, ?_⟩
      exact gReprZ_res hz hy
    have hfm : (rng 0 (Int.toNat 2)).filterMap (fun _ => some (D.str z)) = List.replicate 2 (D.str z) := rfl
    rw [hfm]
    refine gReprZ_res hz ?_
    show gMulL (D.lst [D.str z]) (D.int ((2 : Nat) : Int)) _ _
    refine gMulL_ok (Nat.le_of_ble_eq_true rfl) (by decide) ?_
    refine gNeD_ok (d := .lst [.str z, .str z]) rfl rfl (eqB_self (n := 2) (by simp only [fine, fineAll, hzo, Bool.and_self])) ?_
    dsimp only
    rw [if_neg (by decide)]
    exact ⟨rfl, _, _, rfl⟩
  dsimp only
  rw [← hB]
  clear hB B hli hA i
  refine dSeq_open fun B hB => ?_
  walk_at "rd"
  rw [← hB]
  clear hB B
  refine dSeq_open fun B hB => ?_
  walk_at "rd"
  have mK : ∀ x : Own, (M' ++ [x])[M'.length]? = some x := fun x => by rw [List.getElem?_append_right (Nat.le_refl _), Nat.sub_self]; rfl
  generalize hK : M'.length = k0 at *
  have hn : (D.own k0 |> below (k0 + 1)) = true := by show decide (k0 < k0 + 1) = true; exact decide_eq_true (by omega)
  refine ⟨(by unfold Rg; decide), lcW_pure (fun _ => some (.lst [.bl true, .own k0])) trivial (by decide +kernel) (fun d hd Y N' hy => ?_) ?_⟩
  · obtain ⟨w, hw⟩ := List.getElem?_of_mem hd
    obtain ⟨w0, rfl⟩ := rng_get.mp hw
    have w0 : w < 2 := w0
    walk_at "rd"
    refine ⟨_, .own k0, rfl, by omega, ⟨"list", by unfold tyM; dsimp only; rw [mK]⟩, rfl, ?_, hy⟩
    rw [List.length_append, hK]
    exact hn
  have hfm : (rng 0 (Int.toNat 2)).filterMap (fun _ => some (D.lst [.bl true, .own k0])) = List.replicate 2 (D.lst [.bl true, .own k0]) := rfl
  rw [hfm, ← hB]
  clear hB B
  refine dSeq_open fun B hB => ?_
  walk_at "rd"
  rw [mK]
  dsimp only
  refine ⟨⟨k0, _, rfl, mK _⟩, by decide, ?_⟩
  have hset : List.set (M' ++ [Own.lst [D.int 5]]) k0 (Own.lst ([D.int 5] ++ [D.int 7])) = M' ++ [Own.lst [D.int 5, D.int 7]] := by
    rw [← hK, List.set_append_right _ _ (Nat.le_refl _), Nat.sub_self]
    rfl
  rw [hset, ← hB]
  clear hB B hset
  refine dSeq_open fun B hB => ?_
  walk_at "rd"
  refine lcW_pure (fun _ => some (.own k0)) trivial (by rw [sizeLine_eq]; exact Nat.le_of_ble_eq_true rfl) (fun d hd Y N' hy => ?_) ?_
  · have hd' : d = .lst [.bl true, .own k0] := by
      simp only [List.replicate, List.mem_cons, List.not_mem_nil, or_false, or_self] at hd
      exact hd
    subst hd'
    walk_at "rd"
    exact hy
  have hfm2 : (List.filterMap (fun _ => some (D.own k0)) (List.replicate 2 (D.lst [.bl true, .own k0]))) = List.replicate 2 (.own k0) := rfl
  show gMulL (D.lst [D.lst [D.int 5, D.int 7]]) (D.int ((2 : Nat) : Int)) _ _
  refine gMulL_ok (by decide) (by decide) ?_
  have cl : cellL (M' ++ [Own.lst [D.int 5, D.int 7]]) k0 = some [D.int 5, D.int 7] := by unfold cellL; rw [mK]
  refine gNeD_ok (d := .lst (List.replicate 2 (.lst [.int 5, .int 7]))) (by
    show resD _ (D.lst (List.replicate 2 (.own k0))) = _
    simp only [List.replicate, resD, resDA, cl]) (by rfl) (by decide +kernel) ?_
  dsimp only
  rw [if_neg (by decide)]
  refine ⟨999999000001, rfl, by decide, by decide, by decide, fun g' _ _ _ _ hg' _ => ?_⟩
  cases hg'.uni bigFac
  refine gNeD_ok (d := .int 1) rfl rfl (by decide +kernel) ?_
  dsimp only
  rw [if_neg (by decide), ← hB]
  clear hB B
  walk_at "rd"
  obtain ⟨z1, z2, z3, z4, z5, z6, z7, z8, z9⟩ := ends_fac
  refine lcW_pure (fun d => match d with
    | .int 16 => some (.int 4) | .int 20 => some (.int 2) | .int 45 => some (.int 3) | .int 36 => some (.int 6) | .int 9 => some (.int 3) | .int 72 => some (.int 3) | _ => some (.int 1)) trivial (by rw [sizeLine_eq]; exact Nat.le_of_ble_eq_true rfl) (fun d hd Y N' hy => ?_) ?_
  · simp only [List.mem_cons, List.not_mem_nil, or_false] at hd
    have one : ∀ (a b : Nat), 5 ≤ a → a % 4 < 2 → a ≤ 100 → IsFac a b → Y (.int b) (M' ++ [Own.lst [D.int 5, D.int 7]]) → (dName 7) (.int a) [some (D.scr ns), some (D.own 0), t2, t3, some (D.own k0), some (D.lst [D.lst [D.bl true, D.own k0], D.lst [D.bl true, D.own k0]]), none, none] (M' ++ [Own.lst [D.int 5, D.int 7]]) fun r2 M2 => dYes r2 M2 fun b M3 => if b = true then (dCall 1 sp_factor_by [] DX0 (dCons (dVar 7) dNil)) r2 M3 Y else N' M3 := fun a b h1 h2 h3 h4 hy => by
      walk_at "rd"
      refine ⟨a, rfl, h1, h2, by omega, fun g' _ _ _ _ hg' _ => ?_⟩
      cases hg'.uni h4
      exact hy
    rcases hd with rfl | rfl | rfl | rfl | rfl | rfl | rfl | rfl | rfl
    · exact one 5 1 (by decide) (by decide) (by decide) z1 hy
    · exact one 8 1 (by decide) (by decide) (by decide) z2 hy
    · exact one 12 1 (by decide) (by decide) (by decide) z3 hy
    · exact one 16 4 (by decide) (by decide) (by decide) z4 hy
    · exact one 20 2 (by decide) (by decide) (by decide) z5 hy
    · exact one 45 3 (by decide) (by decide) (by decide) z6 hy
    · exact one 36 6 (by decide) (by decide) (by decide) z7 hy
    · exact one 9 3 (by decide) (by decide) (by decide) z8 hy
    · exact one 72 3 (by decide) (by decide) (by decide) z9 hy
  have e9 : List.filterMap (fun d => match d with
    | .int 16 => some (.int 4) | .int 20 => some (.int 2) | .int 45 => some (.int 3) | .int 36 => some (.int 6) | .int 9 => some (.int 3) | .int 72 => some (.int 3) | _ => some (.int 1)) [D.int 5, D.int 8, D.int 12, D.int 16, D.int 20, D.int 45, D.int 36, D.int 9, D.int 72] = [D.int 1, D.int 1, D.int 1, D.int 4, D.int 2, D.int 3, D.int 6, D.int 3, D.int 3] := rfl
  rw [e9]
  refine gEqD_ok (d := .lst [D.int 1, D.int 1, D.int 1, D.int 4, D.int 2, D.int 3, D.int 6, D.int 3, D.int 3]) rfl rfl (by decide +kernel) ?_
  dsimp only
  rw [if_pos rfl]
  have pb := p400_big
  have p9 := p400_900
  have p29 := p400_ten (i := 29) (by decide)
  refine ⟨5, rfl, by decide, by omega, ?_⟩
  rw [show isq 5 = 2 from isq_uni (by decide) (by decide) (by decide)]
  exact gEqD_ok (d := .int 2) rfl rfl (by decide +kernel) (fin _)
end DL
namespace C_k01
open PySem PySem.Spec PyProof.Rows L2 DL
theorem law_ok {P : Program} {w : World} {K : PySem.W.Frag} {mg : Str → Option Value} {base : Heap} (T : Txt P K mg base) : Def P w K mg base CX0 7 "law" s_l_law_0a00 ["_law_script"] spLaw := by
  have D_l_cell_cf3b := ok_l_cell_cf3b (P := P) (w := w) T  rd_l_cell_cf3b
  have D_l_generator_b324 := ok_l_generator_b324 (P := P) (w := w) T D_l_cell_cf3b rd_l_generator_b324
  have D_l_hash_9cde := ok_l_hash_9cde (P := P) (w := w) T  rd_l_hash_9cde
  have D_l_random_7821 := ok_l_random_7821 (P := P) (w := w) T D_l_hash_9cde rd_l_random_7821
  have D_l_root_d754 := ok_l_root_d754 (P := P) (w := w) T  rd_l_root_d754
  have D_l_measure_0db7 := ok_l_measure_0db7 (P := P) (w := w) T D_l_random_7821 D_l_root_d754 rd_l_measure_0db7
  have D_is_whole := ok_is_whole (P := P) (w := w) T  rd_is_whole
  have D_is_between := ok_is_between (P := P) (w := w) T D_is_whole rd_is_between
  have D_is_measure_by := ok_is_measure_by (P := P) (w := w) T D_is_between rd_is_measure_by
  have D_check_measure_x := ok_check_measure_x (P := P) (w := w) T D_is_measure_by rd_check_measure_x
  have D_root_floor_by := ok_root_floor_by (P := P) (w := w) T  rd_root_floor_by
  have D_whole_root_x := ok_whole_root_x (P := P) (w := w) T D_check_measure_x D_root_floor_by rd_whole_root_x
  have D_whole_root := D_whole_root_x.weak wk_whole_root
  have D_is_measure := ok_is_measure (P := P) (w := w) T D_is_measure_by rd_is_measure
  have D_square_part_by := ok_square_part_by (P := P) (w := w) T D_root_floor_by rd_square_part_by
  have D_factor_by := ok_factor_by (P := P) (w := w) T D_square_part_by rd_factor_by
  have D_factor_x := ok_factor_x (P := P) (w := w) T D_check_measure_x D_factor_by rd_factor_x
  have D_factor := D_factor_x.weak wk_factor
  have D_l_factor_b928 := ok_l_factor_b928 (P := P) (w := w) T D_l_root_d754 rd_l_factor_b928
  have D_l_right_7f71 := ok_l_right_7f71 (P := P) (w := w) T D_l_measure_0db7 D_whole_root D_is_measure D_l_random_7821 D_factor D_l_factor_b928 rd_l_right_7f71
  have D_l_told_59a8 := ok_l_told_59a8 (P := P) (w := w) T D_whole_root_x D_factor_x rd_l_told_59a8
  exact ok_l_law_0a00 T D_l_generator_b324 D_l_right_7f71 D_is_measure D_l_told_59a8 D_factor D_whole_root rd_l_law_0a00
end C_k01
/-! XH: what super().__init__ means, from the class's own line -/
namespace XA
open PySem PySem.W PySem.Calls PyProof.Rows PySem.HandSPX
theorem sup_of {K : Frag} {x : Str} {C S N : Addr} {q : Str} {bs : List Value} {sn : List Str} {sub : List Value} {ab : Bool} {col : Option Bool} {dd : Option Addr} {k0 k1 k2 k3 k5 : Option Value} {n : String}
    (lk : K.lookup C = some (excClassObj x q C N bs [.ref S, .type "ValueError", .type "Exception", .type "BaseException", .type "object"] true sn sub ab col dd k0 k1 k2 k3 k5 n))
    (sp : ks_superIn K C C "__init__" = some (some (.builtin "ValueError.__init__"))) : alongIn K "__init__" [.ref S, .type "ValueError", .type "Exception", .type "BaseException", .type "object"] = some (some (.builtin "ValueError.__init__")) := by
  have h1 : ∃ cd, PySem.W.clsIn K C = some cd ∧ cd.mro = .ref C :: [.ref S, .type "ValueError", .type "Exception", .type "BaseException", .type "object"] := ⟨_, by unfold PySem.W.clsIn; rw [lk], rfl⟩
  obtain ⟨cd, h1, h2⟩ := h1
  unfold ks_superIn at sp
  rw [h1, Option.bind_some, h2] at sp
  simpa using sp
end XA
namespace C_k01
open PySem PySem.Spec PyProof.Rows L2 DL
theorem all_mk {K : PySem.W.Frag} {h : Heap} {mg : Str → Option Value} (X : K.In h) (G : h.Ns mainGlobals mg)
    (n_ValueError : PySem.W.nsIn K mainGlobals "ValueError" = some none)
    (n_bool : PySem.W.nsIn K mainGlobals "bool" = some none)
    (n_int : PySem.W.nsIn K mainGlobals "int" = some none)
    (n_isinstance : PySem.W.nsIn K mainGlobals "isinstance" = some none)
    (n_len : PySem.W.nsIn K mainGlobals "len" = some none)
    (n_max : PySem.W.nsIn K mainGlobals "max" = some none)
    (n_range : PySem.W.nsIn K mainGlobals "range" = some none)
    (n_repr : PySem.W.nsIn K mainGlobals "repr" = some none)
    (n_sum : PySem.W.nsIn K mainGlobals "sum" = some none)
    {tk_LEAST : Tok} (c_LEAST : PySem.W.nsIn K mainGlobals "LEAST" = some (some (.int 5 tk_LEAST)))
    {cS nS : Addr} {qS : Str} {bS : List Value} {snS : List Str} {suS : List Value} {abS : Bool} {coS : Option Bool} {ddS : Option Addr} {k0S k1S k2S k3S k5S : Option Value}
    (ns_S : PySem.W.nsIn K mainGlobals "SheetError" = some (some (.ref cS))) (lk_S : K.lookup cS = some (excClassObj "SheetError" qS cS nS bS [.type "ValueError", .type "Exception", .type "BaseException", .type "object"] true snS suS abS coS ddS k0S k1S k2S k3S k5S "ValueError.__new__"))
    (gs_S : PySem.W.specialIn K (.builtin "object.__class__") "__get__" = some (some (.builtin "getset_descriptor.__get__"))) (tk_S : PySem.W.takesIn K (.builtin "object.__class__") = some true)
    (any_S : PySem.W.nsIn K PySem.cStatics "thirdparty.any" = some none) (msup_S : PySem.W.nsIn K mainGlobals "super" = some none)
    {c_InvalidMeasure f_InvalidMeasure n_InvalidMeasure cda_InvalidMeasure cc_InvalidMeasure td_InvalidMeasure : Addr} {q_InvalidMeasure : Str} {b_InvalidMeasure : List Value} {sn_InvalidMeasure : List Str} {su_InvalidMeasure : List Value} {ab_InvalidMeasure : Bool} {co_InvalidMeasure : Option Bool} {dd_InvalidMeasure : Option Addr} {k0_InvalidMeasure k1_InvalidMeasure k2_InvalidMeasure k3_InvalidMeasure k5_InvalidMeasure : Option Value} {od_InvalidMeasure an_InvalidMeasure : Option Addr} {kV_InvalidMeasure dc_InvalidMeasure pm_InvalidMeasure ct_InvalidMeasure : Value} {osl_InvalidMeasure : Array (Option Value)} {c1_InvalidMeasure c2_InvalidMeasure c3_InvalidMeasure : Value} {d1_InvalidMeasure d2_InvalidMeasure d3_InvalidMeasure : Option Addr} {sl1_InvalidMeasure sl2_InvalidMeasure sl3_InvalidMeasure : Array (Option Value)} {tn_InvalidMeasure : Nat} {vs_InvalidMeasure : Array Value} {fi_InvalidMeasure : Str} {tf_InvalidMeasure : Tok}
    (ns_InvalidMeasure : PySem.W.nsIn K mainGlobals "InvalidMeasure" = some (some (.ref c_InvalidMeasure))) (lk_InvalidMeasure : K.lookup c_InvalidMeasure = some (excClassObj "InvalidMeasure" q_InvalidMeasure c_InvalidMeasure n_InvalidMeasure b_InvalidMeasure [.ref cS, .type "ValueError", .type "Exception", .type "BaseException", .type "object"] true sn_InvalidMeasure su_InvalidMeasure ab_InvalidMeasure co_InvalidMeasure dd_InvalidMeasure k0_InvalidMeasure k1_InvalidMeasure k2_InvalidMeasure k3_InvalidMeasure k5_InvalidMeasure "ValueError.__new__"))
    (sa_InvalidMeasure : PySem.W.findIn K (.ref c_InvalidMeasure) "__setattr__" = some (some (.builtin "object.__setattr__"))) (ga_InvalidMeasure : PySem.W.findIn K (.ref c_InvalidMeasure) "__getattribute__" = some (some (.builtin "BaseException.__getattribute__"))) (gg_InvalidMeasure : PySem.W.findIn K (.ref c_InvalidMeasure) "__getattr__" = some none)
    (nv_InvalidMeasure : PySem.W.findIn K (.ref c_InvalidMeasure) "value" = some none) (kp_InvalidMeasure : PySem.W.keepIn K (.ref c_InvalidMeasure) = true) (hc_InvalidMeasure : PySem.W.findIn K (.ref c_InvalidMeasure) "__class__" = some (some (.builtin "object.__class__"))) (iC_InvalidMeasure : PySem.W.findIn K (.ref c_InvalidMeasure) "__init__" = some (some (.ref f_InvalidMeasure))) (sp_InvalidMeasure : PySem.W.ks_superIn K c_InvalidMeasure c_InvalidMeasure "__init__" = some (some (.builtin "ValueError.__init__")))
    (lf_InvalidMeasure : K.lookup f_InvalidMeasure = some ⟨.type "function", od_InvalidMeasure, .func (PySem.W.fnX "__init__" "InvalidMeasure.__init__" (defArgs k_InvalidMeasure) (defBody k_InvalidMeasure) (defScope k_InvalidMeasure) [("__class__", cc_InvalidMeasure)] (.ref td_InvalidMeasure) kV_InvalidMeasure dc_InvalidMeasure pm_InvalidMeasure an_InvalidMeasure (.ref cda_InvalidMeasure) ct_InvalidMeasure), osl_InvalidMeasure⟩) (cd_InvalidMeasure : PySem.W.codeIn K (.ref cda_InvalidMeasure) "InvalidMeasure.__init__" = true)
    (lc_InvalidMeasure : K.lookup cc_InvalidMeasure = some ⟨c1_InvalidMeasure, d1_InvalidMeasure, .cell (some (.ref c_InvalidMeasure)), sl1_InvalidMeasure⟩) (lt_InvalidMeasure : K.lookup td_InvalidMeasure = some ⟨c2_InvalidMeasure, d2_InvalidMeasure, .seq #[.none] tn_InvalidMeasure, sl2_InvalidMeasure⟩) (lv_InvalidMeasure : K.lookup cda_InvalidMeasure = some ⟨c3_InvalidMeasure, d3_InvalidMeasure, .fields vs_InvalidMeasure, sl3_InvalidMeasure⟩) (hv_InvalidMeasure : vs_InvalidMeasure[2]? = some (.str fi_InvalidMeasure tf_InvalidMeasure)) (hf_InvalidMeasure : (((PySem.Challenge.pw_slitsheets_k01_whole_measures_and_factor : Program).main.file : Str) == fi_InvalidMeasure) = true)
    {va_factor : Addr} (vn_factor : PySem.W.nsIn K mainGlobals "factor" = some (some (.ref va_factor)))
    {va_whole_root : Addr} (vn_whole_root : PySem.W.nsIn K mainGlobals "whole_root" = some (some (.ref va_whole_root)))
    {f_l_cell_cf3b : Addr} {oc_l_cell_cf3b kV_l_cell_cf3b dc_l_cell_cf3b pm_l_cell_cf3b cd_l_cell_cf3b ct_l_cell_cf3b : Value} {od_l_cell_cf3b an_l_cell_cf3b : Option Addr} {sl_l_cell_cf3b : Array (Option Value)}
    (a_l_cell_cf3b : PySem.W.nsIn K mainGlobals "_law_cell" = some (some (.ref f_l_cell_cf3b))) (l_l_cell_cf3b : K.lookup f_l_cell_cf3b = some ⟨oc_l_cell_cf3b, od_l_cell_cf3b, .func (PySem.W.fnOf "_law_cell" "_law_cell" (defArgs s_l_cell_cf3b) (defBody s_l_cell_cf3b) (defScope s_l_cell_cf3b) .none kV_l_cell_cf3b dc_l_cell_cf3b pm_l_cell_cf3b an_l_cell_cf3b cd_l_cell_cf3b ct_l_cell_cf3b), sl_l_cell_cf3b⟩) (e_l_cell_cf3b : PySem.W.codeIn K cd_l_cell_cf3b "_law_cell" = true) (k_l_cell_cf3b : PySem.W.keepIn K (.ref f_l_cell_cf3b) = true)
    {f_l_generator_b324 : Addr} {oc_l_generator_b324 kV_l_generator_b324 dc_l_generator_b324 pm_l_generator_b324 cd_l_generator_b324 ct_l_generator_b324 : Value} {od_l_generator_b324 an_l_generator_b324 : Option Addr} {sl_l_generator_b324 : Array (Option Value)}
    (a_l_generator_b324 : PySem.W.nsIn K mainGlobals "_law_generator" = some (some (.ref f_l_generator_b324))) (l_l_generator_b324 : K.lookup f_l_generator_b324 = some ⟨oc_l_generator_b324, od_l_generator_b324, .func (PySem.W.fnOf "_law_generator" "_law_generator" (defArgs s_l_generator_b324) (defBody s_l_generator_b324) (defScope s_l_generator_b324) .none kV_l_generator_b324 dc_l_generator_b324 pm_l_generator_b324 an_l_generator_b324 cd_l_generator_b324 ct_l_generator_b324), sl_l_generator_b324⟩) (e_l_generator_b324 : PySem.W.codeIn K cd_l_generator_b324 "_law_generator" = true) (k_l_generator_b324 : PySem.W.keepIn K (.ref f_l_generator_b324) = true)
    {f_l_hash_9cde : Addr} {oc_l_hash_9cde kV_l_hash_9cde dc_l_hash_9cde pm_l_hash_9cde cd_l_hash_9cde ct_l_hash_9cde : Value} {od_l_hash_9cde an_l_hash_9cde : Option Addr} {sl_l_hash_9cde : Array (Option Value)}
    (a_l_hash_9cde : PySem.W.nsIn K mainGlobals "_law_hash" = some (some (.ref f_l_hash_9cde))) (l_l_hash_9cde : K.lookup f_l_hash_9cde = some ⟨oc_l_hash_9cde, od_l_hash_9cde, .func (PySem.W.fnOf "_law_hash" "_law_hash" (defArgs s_l_hash_9cde) (defBody s_l_hash_9cde) (defScope s_l_hash_9cde) .none kV_l_hash_9cde dc_l_hash_9cde pm_l_hash_9cde an_l_hash_9cde cd_l_hash_9cde ct_l_hash_9cde), sl_l_hash_9cde⟩) (e_l_hash_9cde : PySem.W.codeIn K cd_l_hash_9cde "_law_hash" = true) (k_l_hash_9cde : PySem.W.keepIn K (.ref f_l_hash_9cde) = true)
    {f_l_random_7821 : Addr} {oc_l_random_7821 kV_l_random_7821 dc_l_random_7821 pm_l_random_7821 cd_l_random_7821 ct_l_random_7821 : Value} {od_l_random_7821 an_l_random_7821 : Option Addr} {sl_l_random_7821 : Array (Option Value)}
    (a_l_random_7821 : PySem.W.nsIn K mainGlobals "_law_random" = some (some (.ref f_l_random_7821))) (l_l_random_7821 : K.lookup f_l_random_7821 = some ⟨oc_l_random_7821, od_l_random_7821, .func (PySem.W.fnOf "_law_random" "_law_random" (defArgs s_l_random_7821) (defBody s_l_random_7821) (defScope s_l_random_7821) .none kV_l_random_7821 dc_l_random_7821 pm_l_random_7821 an_l_random_7821 cd_l_random_7821 ct_l_random_7821), sl_l_random_7821⟩) (e_l_random_7821 : PySem.W.codeIn K cd_l_random_7821 "_law_random" = true) (k_l_random_7821 : PySem.W.keepIn K (.ref f_l_random_7821) = true)
    {f_l_root_d754 : Addr} {oc_l_root_d754 kV_l_root_d754 dc_l_root_d754 pm_l_root_d754 cd_l_root_d754 ct_l_root_d754 : Value} {od_l_root_d754 an_l_root_d754 : Option Addr} {sl_l_root_d754 : Array (Option Value)}
    (a_l_root_d754 : PySem.W.nsIn K mainGlobals "_law_root" = some (some (.ref f_l_root_d754))) (l_l_root_d754 : K.lookup f_l_root_d754 = some ⟨oc_l_root_d754, od_l_root_d754, .func (PySem.W.fnOf "_law_root" "_law_root" (defArgs s_l_root_d754) (defBody s_l_root_d754) (defScope s_l_root_d754) .none kV_l_root_d754 dc_l_root_d754 pm_l_root_d754 an_l_root_d754 cd_l_root_d754 ct_l_root_d754), sl_l_root_d754⟩) (e_l_root_d754 : PySem.W.codeIn K cd_l_root_d754 "_law_root" = true) (k_l_root_d754 : PySem.W.keepIn K (.ref f_l_root_d754) = true)
    {f_l_measure_0db7 : Addr} {oc_l_measure_0db7 kV_l_measure_0db7 dc_l_measure_0db7 pm_l_measure_0db7 cd_l_measure_0db7 ct_l_measure_0db7 : Value} {od_l_measure_0db7 an_l_measure_0db7 : Option Addr} {sl_l_measure_0db7 : Array (Option Value)}
    (a_l_measure_0db7 : PySem.W.nsIn K mainGlobals "_law_measure" = some (some (.ref f_l_measure_0db7))) (l_l_measure_0db7 : K.lookup f_l_measure_0db7 = some ⟨oc_l_measure_0db7, od_l_measure_0db7, .func (PySem.W.fnOf "_law_measure" "_law_measure" (defArgs s_l_measure_0db7) (defBody s_l_measure_0db7) (defScope s_l_measure_0db7) .none kV_l_measure_0db7 dc_l_measure_0db7 pm_l_measure_0db7 an_l_measure_0db7 cd_l_measure_0db7 ct_l_measure_0db7), sl_l_measure_0db7⟩) (e_l_measure_0db7 : PySem.W.codeIn K cd_l_measure_0db7 "_law_measure" = true) (k_l_measure_0db7 : PySem.W.keepIn K (.ref f_l_measure_0db7) = true)
    {f_is_whole : Addr} {oc_is_whole kV_is_whole dc_is_whole pm_is_whole cd_is_whole ct_is_whole : Value} {od_is_whole an_is_whole : Option Addr} {sl_is_whole : Array (Option Value)}
    (a_is_whole : PySem.W.nsIn K mainGlobals "is_whole" = some (some (.ref f_is_whole))) (l_is_whole : K.lookup f_is_whole = some ⟨oc_is_whole, od_is_whole, .func (PySem.W.fnOf "is_whole" "is_whole" (defArgs s_is_whole) (defBody s_is_whole) (defScope s_is_whole) .none kV_is_whole dc_is_whole pm_is_whole an_is_whole cd_is_whole ct_is_whole), sl_is_whole⟩) (e_is_whole : PySem.W.codeIn K cd_is_whole "is_whole" = true) (k_is_whole : PySem.W.keepIn K (.ref f_is_whole) = true)
    {f_is_between : Addr} {oc_is_between kV_is_between dc_is_between pm_is_between cd_is_between ct_is_between : Value} {od_is_between an_is_between : Option Addr} {sl_is_between : Array (Option Value)}
    (a_is_between : PySem.W.nsIn K mainGlobals "is_between" = some (some (.ref f_is_between))) (l_is_between : K.lookup f_is_between = some ⟨oc_is_between, od_is_between, .func (PySem.W.fnOf "is_between" "is_between" (defArgs s_is_between) (defBody s_is_between) (defScope s_is_between) .none kV_is_between dc_is_between pm_is_between an_is_between cd_is_between ct_is_between), sl_is_between⟩) (e_is_between : PySem.W.codeIn K cd_is_between "is_between" = true) (k_is_between : PySem.W.keepIn K (.ref f_is_between) = true)
    {f_is_measure_by : Addr} {oc_is_measure_by kV_is_measure_by dc_is_measure_by pm_is_measure_by cd_is_measure_by ct_is_measure_by : Value} {od_is_measure_by an_is_measure_by : Option Addr} {sl_is_measure_by : Array (Option Value)}
    (a_is_measure_by : PySem.W.nsIn K mainGlobals "is_measure_by" = some (some (.ref f_is_measure_by))) (l_is_measure_by : K.lookup f_is_measure_by = some ⟨oc_is_measure_by, od_is_measure_by, .func (PySem.W.fnOf "is_measure_by" "is_measure_by" (defArgs s_is_measure_by) (defBody s_is_measure_by) (defScope s_is_measure_by) .none kV_is_measure_by dc_is_measure_by pm_is_measure_by an_is_measure_by cd_is_measure_by ct_is_measure_by), sl_is_measure_by⟩) (e_is_measure_by : PySem.W.codeIn K cd_is_measure_by "is_measure_by" = true) (k_is_measure_by : PySem.W.keepIn K (.ref f_is_measure_by) = true)
    {f_check_measure_x : Addr} {oc_check_measure_x kV_check_measure_x dc_check_measure_x pm_check_measure_x cd_check_measure_x ct_check_measure_x : Value} {od_check_measure_x an_check_measure_x : Option Addr} {sl_check_measure_x : Array (Option Value)}
    (a_check_measure_x : PySem.W.nsIn K mainGlobals "check_measure" = some (some (.ref f_check_measure_x))) (l_check_measure_x : K.lookup f_check_measure_x = some ⟨oc_check_measure_x, od_check_measure_x, .func (PySem.W.fnOf "check_measure" "check_measure" (defArgs s_check_measure_x) (defBody s_check_measure_x) (defScope s_check_measure_x) .none kV_check_measure_x dc_check_measure_x pm_check_measure_x an_check_measure_x cd_check_measure_x ct_check_measure_x), sl_check_measure_x⟩) (e_check_measure_x : PySem.W.codeIn K cd_check_measure_x "check_measure" = true) (k_check_measure_x : PySem.W.keepIn K (.ref f_check_measure_x) = true)
    {f_root_floor_by : Addr} {oc_root_floor_by kV_root_floor_by dc_root_floor_by pm_root_floor_by cd_root_floor_by ct_root_floor_by : Value} {od_root_floor_by an_root_floor_by : Option Addr} {sl_root_floor_by : Array (Option Value)}
    (a_root_floor_by : PySem.W.nsIn K mainGlobals "root_floor_by" = some (some (.ref f_root_floor_by))) (l_root_floor_by : K.lookup f_root_floor_by = some ⟨oc_root_floor_by, od_root_floor_by, .func (PySem.W.fnOf "root_floor_by" "root_floor_by" (defArgs s_root_floor_by) (defBody s_root_floor_by) (defScope s_root_floor_by) .none kV_root_floor_by dc_root_floor_by pm_root_floor_by an_root_floor_by cd_root_floor_by ct_root_floor_by), sl_root_floor_by⟩) (e_root_floor_by : PySem.W.codeIn K cd_root_floor_by "root_floor_by" = true) (k_root_floor_by : PySem.W.keepIn K (.ref f_root_floor_by) = true)
    {f_whole_root_x : Addr} {oc_whole_root_x kV_whole_root_x dc_whole_root_x pm_whole_root_x cd_whole_root_x ct_whole_root_x : Value} {od_whole_root_x an_whole_root_x : Option Addr} {sl_whole_root_x : Array (Option Value)}
    (a_whole_root_x : PySem.W.nsIn K mainGlobals "whole_root" = some (some (.ref f_whole_root_x))) (l_whole_root_x : K.lookup f_whole_root_x = some ⟨oc_whole_root_x, od_whole_root_x, .func (PySem.W.fnOf "whole_root" "whole_root" (defArgs s_whole_root_x) (defBody s_whole_root_x) (defScope s_whole_root_x) .none kV_whole_root_x dc_whole_root_x pm_whole_root_x an_whole_root_x cd_whole_root_x ct_whole_root_x), sl_whole_root_x⟩) (e_whole_root_x : PySem.W.codeIn K cd_whole_root_x "whole_root" = true) (k_whole_root_x : PySem.W.keepIn K (.ref f_whole_root_x) = true)
    {f_is_measure : Addr} {oc_is_measure kV_is_measure dc_is_measure pm_is_measure cd_is_measure ct_is_measure : Value} {od_is_measure an_is_measure : Option Addr} {sl_is_measure : Array (Option Value)}
    (a_is_measure : PySem.W.nsIn K mainGlobals "is_measure" = some (some (.ref f_is_measure))) (l_is_measure : K.lookup f_is_measure = some ⟨oc_is_measure, od_is_measure, .func (PySem.W.fnOf "is_measure" "is_measure" (defArgs s_is_measure) (defBody s_is_measure) (defScope s_is_measure) .none kV_is_measure dc_is_measure pm_is_measure an_is_measure cd_is_measure ct_is_measure), sl_is_measure⟩) (e_is_measure : PySem.W.codeIn K cd_is_measure "is_measure" = true) (k_is_measure : PySem.W.keepIn K (.ref f_is_measure) = true)
    {f_square_part_by : Addr} {oc_square_part_by kV_square_part_by dc_square_part_by pm_square_part_by cd_square_part_by ct_square_part_by : Value} {od_square_part_by an_square_part_by : Option Addr} {sl_square_part_by : Array (Option Value)}
    (a_square_part_by : PySem.W.nsIn K mainGlobals "square_part_by" = some (some (.ref f_square_part_by))) (l_square_part_by : K.lookup f_square_part_by = some ⟨oc_square_part_by, od_square_part_by, .func (PySem.W.fnOf "square_part_by" "square_part_by" (defArgs s_square_part_by) (defBody s_square_part_by) (defScope s_square_part_by) .none kV_square_part_by dc_square_part_by pm_square_part_by an_square_part_by cd_square_part_by ct_square_part_by), sl_square_part_by⟩) (e_square_part_by : PySem.W.codeIn K cd_square_part_by "square_part_by" = true) (k_square_part_by : PySem.W.keepIn K (.ref f_square_part_by) = true)
    {f_factor_by : Addr} {oc_factor_by kV_factor_by dc_factor_by pm_factor_by cd_factor_by ct_factor_by : Value} {od_factor_by an_factor_by : Option Addr} {sl_factor_by : Array (Option Value)}
    (a_factor_by : PySem.W.nsIn K mainGlobals "factor_by" = some (some (.ref f_factor_by))) (l_factor_by : K.lookup f_factor_by = some ⟨oc_factor_by, od_factor_by, .func (PySem.W.fnOf "factor_by" "factor_by" (defArgs s_factor_by) (defBody s_factor_by) (defScope s_factor_by) .none kV_factor_by dc_factor_by pm_factor_by an_factor_by cd_factor_by ct_factor_by), sl_factor_by⟩) (e_factor_by : PySem.W.codeIn K cd_factor_by "factor_by" = true) (k_factor_by : PySem.W.keepIn K (.ref f_factor_by) = true)
    {f_factor_x : Addr} {oc_factor_x kV_factor_x dc_factor_x pm_factor_x cd_factor_x ct_factor_x : Value} {od_factor_x an_factor_x : Option Addr} {sl_factor_x : Array (Option Value)}
    (a_factor_x : PySem.W.nsIn K mainGlobals "factor" = some (some (.ref f_factor_x))) (l_factor_x : K.lookup f_factor_x = some ⟨oc_factor_x, od_factor_x, .func (PySem.W.fnOf "factor" "factor" (defArgs s_factor_x) (defBody s_factor_x) (defScope s_factor_x) .none kV_factor_x dc_factor_x pm_factor_x an_factor_x cd_factor_x ct_factor_x), sl_factor_x⟩) (e_factor_x : PySem.W.codeIn K cd_factor_x "factor" = true) (k_factor_x : PySem.W.keepIn K (.ref f_factor_x) = true)
    {f_l_factor_b928 : Addr} {oc_l_factor_b928 kV_l_factor_b928 dc_l_factor_b928 pm_l_factor_b928 cd_l_factor_b928 ct_l_factor_b928 : Value} {od_l_factor_b928 an_l_factor_b928 : Option Addr} {sl_l_factor_b928 : Array (Option Value)}
    (a_l_factor_b928 : PySem.W.nsIn K mainGlobals "_law_factor" = some (some (.ref f_l_factor_b928))) (l_l_factor_b928 : K.lookup f_l_factor_b928 = some ⟨oc_l_factor_b928, od_l_factor_b928, .func (PySem.W.fnOf "_law_factor" "_law_factor" (defArgs s_l_factor_b928) (defBody s_l_factor_b928) (defScope s_l_factor_b928) .none kV_l_factor_b928 dc_l_factor_b928 pm_l_factor_b928 an_l_factor_b928 cd_l_factor_b928 ct_l_factor_b928), sl_l_factor_b928⟩) (e_l_factor_b928 : PySem.W.codeIn K cd_l_factor_b928 "_law_factor" = true) (k_l_factor_b928 : PySem.W.keepIn K (.ref f_l_factor_b928) = true)
    {f_l_right_7f71 : Addr} {oc_l_right_7f71 kV_l_right_7f71 dc_l_right_7f71 pm_l_right_7f71 cd_l_right_7f71 ct_l_right_7f71 : Value} {od_l_right_7f71 an_l_right_7f71 : Option Addr} {sl_l_right_7f71 : Array (Option Value)}
    (a_l_right_7f71 : PySem.W.nsIn K mainGlobals "_law_right" = some (some (.ref f_l_right_7f71))) (l_l_right_7f71 : K.lookup f_l_right_7f71 = some ⟨oc_l_right_7f71, od_l_right_7f71, .func (PySem.W.fnOf "_law_right" "_law_right" (defArgs s_l_right_7f71) (defBody s_l_right_7f71) (defScope s_l_right_7f71) .none kV_l_right_7f71 dc_l_right_7f71 pm_l_right_7f71 an_l_right_7f71 cd_l_right_7f71 ct_l_right_7f71), sl_l_right_7f71⟩) (e_l_right_7f71 : PySem.W.codeIn K cd_l_right_7f71 "_law_right" = true) (k_l_right_7f71 : PySem.W.keepIn K (.ref f_l_right_7f71) = true)
    {f_l_told_59a8 : Addr} {oc_l_told_59a8 kV_l_told_59a8 dc_l_told_59a8 pm_l_told_59a8 cd_l_told_59a8 ct_l_told_59a8 : Value} {od_l_told_59a8 an_l_told_59a8 : Option Addr} {sl_l_told_59a8 : Array (Option Value)}
    (a_l_told_59a8 : PySem.W.nsIn K mainGlobals "_law_told" = some (some (.ref f_l_told_59a8))) (l_l_told_59a8 : K.lookup f_l_told_59a8 = some ⟨oc_l_told_59a8, od_l_told_59a8, .func (PySem.W.fnOf "_law_told" "_law_told" (defArgs s_l_told_59a8) (defBody s_l_told_59a8) (defScope s_l_told_59a8) .none kV_l_told_59a8 dc_l_told_59a8 pm_l_told_59a8 an_l_told_59a8 cd_l_told_59a8 ct_l_told_59a8), sl_l_told_59a8⟩) (e_l_told_59a8 : PySem.W.codeIn K cd_l_told_59a8 "_law_told" = true) (k_l_told_59a8 : PySem.W.keepIn K (.ref f_l_told_59a8) = true)
    {f_l_law_0a00 : Addr} {oc_l_law_0a00 kV_l_law_0a00 dc_l_law_0a00 pm_l_law_0a00 cd_l_law_0a00 ct_l_law_0a00 : Value} {od_l_law_0a00 an_l_law_0a00 : Option Addr} {sl_l_law_0a00 : Array (Option Value)}
    (a_l_law_0a00 : PySem.W.nsIn K mainGlobals "law" = some (some (.ref f_l_law_0a00))) (l_l_law_0a00 : K.lookup f_l_law_0a00 = some ⟨oc_l_law_0a00, od_l_law_0a00, .func (PySem.W.fnOf "law" "law" (defArgs s_l_law_0a00) (defBody s_l_law_0a00) (defScope s_l_law_0a00) .none kV_l_law_0a00 dc_l_law_0a00 pm_l_law_0a00 an_l_law_0a00 cd_l_law_0a00 ct_l_law_0a00), sl_l_law_0a00⟩) (e_l_law_0a00 : PySem.W.codeIn K cd_l_law_0a00 "law" = true) (k_l_law_0a00 : PySem.W.keepIn K (.ref f_l_law_0a00) = true)
    (base : Heap) (Xb : K.In base) : Txt PySem.Challenge.pw_slitsheets_k01_whole_measures_and_factor K mg base where
  s_SheetError := ⟨_, XA.shC_mk ns_S lk_S, PySem.W.mg_of X G ns_S⟩
  e_InvalidMeasure := XA.erM_mk X G (XA.shC_mk ns_S lk_S) it_InvalidMeasure (by decide) ns_InvalidMeasure lk_InvalidMeasure sa_InvalidMeasure ga_InvalidMeasure gg_InvalidMeasure nv_InvalidMeasure kp_InvalidMeasure hc_InvalidMeasure gs_S tk_S iC_InvalidMeasure (XA.sup_of lk_InvalidMeasure sp_InvalidMeasure) any_S msup_S lf_InvalidMeasure cd_InvalidMeasure lc_InvalidMeasure lt_InvalidMeasure lv_InvalidMeasure hv_InvalidMeasure hf_InvalidMeasure (by decide +kernel)
  v_factor := ⟨_, vn_factor, PySem.W.mg_of X G vn_factor⟩
  v_whole_root := ⟨_, vn_whole_root, PySem.W.mg_of X G vn_whole_root⟩
  n_ValueError := PySem.W.mg_none_of X G n_ValueError
  n_bool := PySem.W.mg_none_of X G n_bool
  n_int := PySem.W.mg_none_of X G n_int
  n_isinstance := PySem.W.mg_none_of X G n_isinstance
  n_len := PySem.W.mg_none_of X G n_len
  n_max := PySem.W.mg_none_of X G n_max
  n_range := PySem.W.mg_none_of X G n_range
  n_repr := PySem.W.mg_none_of X G n_repr
  n_sum := PySem.W.mg_none_of X G n_sum
  c_LEAST := ⟨_, PySem.W.mg_of X G c_LEAST⟩
  h_l_cell_cf3b := here_of (st := s_l_cell_cf3b) X G a_l_cell_cf3b l_l_cell_cf3b e_l_cell_cf3b k_l_cell_cf3b fun _ _ _ _ _ _ us hl => match us, hl with | [_, _], _ => rfl
  h_l_generator_b324 := here_of (st := s_l_generator_b324) X G a_l_generator_b324 l_l_generator_b324 e_l_generator_b324 k_l_generator_b324 fun _ _ _ _ _ _ us hl => match us, hl with | [_, _], _ => rfl
  h_l_hash_9cde := here_of (st := s_l_hash_9cde) X G a_l_hash_9cde l_l_hash_9cde e_l_hash_9cde k_l_hash_9cde fun _ _ _ _ _ _ us hl => match us, hl with | [_, _], _ => rfl
  h_l_random_7821 := here_of (st := s_l_random_7821) X G a_l_random_7821 l_l_random_7821 e_l_random_7821 k_l_random_7821 fun _ _ _ _ _ _ us hl => match us, hl with | [_, _], _ => rfl
  h_l_root_d754 := here_of (st := s_l_root_d754) X G a_l_root_d754 l_l_root_d754 e_l_root_d754 k_l_root_d754 fun _ _ _ _ _ _ us hl => match us, hl with | [_], _ => rfl
  h_l_measure_0db7 := here_of (st := s_l_measure_0db7) X G a_l_measure_0db7 l_l_measure_0db7 e_l_measure_0db7 k_l_measure_0db7 fun _ _ _ _ _ _ us hl => match us, hl with | [_, _], _ => rfl
  h_is_whole := here_of (st := s_is_whole) X G a_is_whole l_is_whole e_is_whole k_is_whole fun _ _ _ _ _ _ us hl => match us, hl with | [_], _ => rfl
  h_is_between := here_of (st := s_is_between) X G a_is_between l_is_between e_is_between k_is_between fun _ _ _ _ _ _ us hl => match us, hl with | [_, _, _], _ => rfl
  h_is_measure_by := here_of (st := s_is_measure_by) X G a_is_measure_by l_is_measure_by e_is_measure_by k_is_measure_by fun _ _ _ _ _ _ us hl => match us, hl with | [_], _ => rfl
  h_check_measure_x := here_of (st := s_check_measure_x) X G a_check_measure_x l_check_measure_x e_check_measure_x k_check_measure_x fun _ _ _ _ _ _ us hl => match us, hl with | [_], _ => rfl
  h_root_floor_by := here_of (st := s_root_floor_by) X G a_root_floor_by l_root_floor_by e_root_floor_by k_root_floor_by fun _ _ _ _ _ _ us hl => match us, hl with | [_], _ => rfl
  h_whole_root_x := here_of (st := s_whole_root_x) X G a_whole_root_x l_whole_root_x e_whole_root_x k_whole_root_x fun _ _ _ _ _ _ us hl => match us, hl with | [_], _ => rfl
  h_is_measure := here_of (st := s_is_measure) X G a_is_measure l_is_measure e_is_measure k_is_measure fun _ _ _ _ _ _ us hl => match us, hl with | [_], _ => rfl
  h_square_part_by := here_of (st := s_square_part_by) X G a_square_part_by l_square_part_by e_square_part_by k_square_part_by fun _ _ _ _ _ _ us hl => match us, hl with | [_], _ => rfl
  h_factor_by := here_of (st := s_factor_by) X G a_factor_by l_factor_by e_factor_by k_factor_by fun _ _ _ _ _ _ us hl => match us, hl with | [_], _ => rfl
  h_factor_x := here_of (st := s_factor_x) X G a_factor_x l_factor_x e_factor_x k_factor_x fun _ _ _ _ _ _ us hl => match us, hl with | [_], _ => rfl
  h_l_factor_b928 := here_of (st := s_l_factor_b928) X G a_l_factor_b928 l_l_factor_b928 e_l_factor_b928 k_l_factor_b928 fun _ _ _ _ _ _ us hl => match us, hl with | [_], _ => rfl
  h_l_right_7f71 := here_of (st := s_l_right_7f71) X G a_l_right_7f71 l_l_right_7f71 e_l_right_7f71 k_l_right_7f71 fun _ _ _ _ _ _ us hl => match us, hl with | [_], _ => rfl
  h_l_told_59a8 := here_of (st := s_l_told_59a8) X G a_l_told_59a8 l_l_told_59a8 e_l_told_59a8 k_l_told_59a8 fun _ _ _ _ _ _ us hl => match us, hl with | [_, _], _ => rfl
  h_l_law_0a00 := here_of (st := s_l_law_0a00) X G a_l_law_0a00 l_l_law_0a00 e_l_law_0a00 k_l_law_0a00 fun _ _ _ _ _ _ us hl => match us, hl with | [_], _ => rfl
end C_k01
open PySem PySem.W PyProof.Rows
set_option maxHeartbeats 0 in
theorem PySem.Challenge.cw_slitsheets_k01_whole_measures_and_factor_holds : PySem.Challenge.rw_slitsheets_k01_whole_measures_and_factor.Holds := by
  w_on; o_law; k_head; (case hw => w_witness2)
  k_fill
  refine DL.walkD (l := PySem.Challenge.rw_slitsheets_k01_whole_measures_and_factor) (n := 63) (k := 7) (x := "_law_script") (st := C_k01.s_l_law_0a00) rfl (by decide) rfl ⟨rfl, by decide, by decide⟩ (fun w h Y => PySem.W.kIn_of Y) ?F (fun _ _ _ _ _ _ _ => rfl)
  case F =>
    intro w mg h KX G base Xb Gb
    refine' C_k01.law_ok (C_k01.all_mk KX G ?n_ValueError ?n_bool ?n_int ?n_isinstance ?n_len ?n_max ?n_range ?n_repr ?n_sum ?c_LEAST ?ns_S ?lk_S ?gs_S ?tk_S ?any_S ?msup_S ?ns_InvalidMeasure ?lk_InvalidMeasure ?sa_InvalidMeasure ?ga_InvalidMeasure ?gg_InvalidMeasure ?nv_InvalidMeasure ?kp_InvalidMeasure ?hc_InvalidMeasure ?iC_InvalidMeasure ?sp_InvalidMeasure ?lf_InvalidMeasure ?cd_InvalidMeasure ?lc_InvalidMeasure ?lt_InvalidMeasure ?lv_InvalidMeasure ?hv_InvalidMeasure ?hf_InvalidMeasure ?vn_factor ?vn_whole_root ?a_l_cell_cf3b ?l_l_cell_cf3b ?e_l_cell_cf3b ?k_l_cell_cf3b ?a_l_generator_b324 ?l_l_generator_b324 ?e_l_generator_b324 ?k_l_generator_b324 ?a_l_hash_9cde ?l_l_hash_9cde ?e_l_hash_9cde ?k_l_hash_9cde ?a_l_random_7821 ?l_l_random_7821 ?e_l_random_7821 ?k_l_random_7821 ?a_l_root_d754 ?l_l_root_d754 ?e_l_root_d754 ?k_l_root_d754 ?a_l_measure_0db7 ?l_l_measure_0db7 ?e_l_measure_0db7 ?k_l_measure_0db7 ?a_is_whole ?l_is_whole ?e_is_whole ?k_is_whole ?a_is_between ?l_is_between ?e_is_between ?k_is_between ?a_is_measure_by ?l_is_measure_by ?e_is_measure_by ?k_is_measure_by ?a_check_measure_x ?l_check_measure_x ?e_check_measure_x ?k_check_measure_x ?a_root_floor_by ?l_root_floor_by ?e_root_floor_by ?k_root_floor_by ?a_whole_root_x ?l_whole_root_x ?e_whole_root_x ?k_whole_root_x ?a_is_measure ?l_is_measure ?e_is_measure ?k_is_measure ?a_square_part_by ?l_square_part_by ?e_square_part_by ?k_square_part_by ?a_factor_by ?l_factor_by ?e_factor_by ?k_factor_by ?a_factor_x ?l_factor_x ?e_factor_x ?k_factor_x ?a_l_factor_b928 ?l_l_factor_b928 ?e_l_factor_b928 ?k_l_factor_b928 ?a_l_right_7f71 ?l_l_right_7f71 ?e_l_right_7f71 ?k_l_right_7f71 ?a_l_told_59a8 ?l_l_told_59a8 ?e_l_told_59a8 ?k_l_told_59a8 ?a_l_law_0a00 ?l_l_law_0a00 ?e_l_law_0a00 ?k_l_law_0a00 base Xb)
    (case n_ValueError => k_is)
    (case n_bool => k_is)
    (case n_int => k_is)
    (case n_isinstance => k_is)
    (case n_len => k_is)
    (case n_max => k_is)
    (case n_range => k_is)
    (case n_repr => k_is)
    (case n_sum => k_is)
    (case c_LEAST => k_is)
    (case ns_S => k_is)
    (case lk_S => k_is)
    (case gs_S => k_is)
    (case tk_S => k_is)
    (case any_S => k_is)
    (case msup_S => k_is)
    (case ns_InvalidMeasure => k_is)
    (case lk_InvalidMeasure => k_is)
    (case sa_InvalidMeasure => k_is)
    (case ga_InvalidMeasure => k_is)
    (case gg_InvalidMeasure => k_is)
    (case nv_InvalidMeasure => k_is)
    (case kp_InvalidMeasure => k_is)
    (case hc_InvalidMeasure => k_is)
    (case iC_InvalidMeasure => k_is)
    (case sp_InvalidMeasure => ks_is)
    (case lf_InvalidMeasure => k_is)
    (case cd_InvalidMeasure => k_is)
    (case lc_InvalidMeasure => k_is)
    (case lt_InvalidMeasure => k_is)
    (case lv_InvalidMeasure => k_is)
    (case hv_InvalidMeasure => first | rfl | decide +kernel)
    (case hf_InvalidMeasure => first | rfl | decide +kernel)
    (case vn_factor => k_is)
    (case vn_whole_root => k_is)
    (case a_l_cell_cf3b => k_is)
    (case l_l_cell_cf3b => k_is)
    (case e_l_cell_cf3b => k_is)
    (case k_l_cell_cf3b => k_is)
    (case a_l_generator_b324 => k_is)
    (case l_l_generator_b324 => k_is)
    (case e_l_generator_b324 => k_is)
    (case k_l_generator_b324 => k_is)
    (case a_l_hash_9cde => k_is)
    (case l_l_hash_9cde => k_is)
    (case e_l_hash_9cde => k_is)
    (case k_l_hash_9cde => k_is)
    (case a_l_random_7821 => k_is)
    (case l_l_random_7821 => k_is)
    (case e_l_random_7821 => k_is)
    (case k_l_random_7821 => k_is)
    (case a_l_root_d754 => k_is)
    (case l_l_root_d754 => k_is)
    (case e_l_root_d754 => k_is)
    (case k_l_root_d754 => k_is)
    (case a_l_measure_0db7 => k_is)
    (case l_l_measure_0db7 => k_is)
    (case e_l_measure_0db7 => k_is)
    (case k_l_measure_0db7 => k_is)
    (case a_is_whole => k_is)
    (case l_is_whole => k_is)
    (case e_is_whole => k_is)
    (case k_is_whole => k_is)
    (case a_is_between => k_is)
    (case l_is_between => k_is)
    (case e_is_between => k_is)
    (case k_is_between => k_is)
    (case a_is_measure_by => k_is)
    (case l_is_measure_by => k_is)
    (case e_is_measure_by => k_is)
    (case k_is_measure_by => k_is)
    (case a_check_measure_x => k_is)
    (case l_check_measure_x => k_is)
    (case e_check_measure_x => k_is)
    (case k_check_measure_x => k_is)
    (case a_root_floor_by => k_is)
    (case l_root_floor_by => k_is)
    (case e_root_floor_by => k_is)
    (case k_root_floor_by => k_is)
    (case a_whole_root_x => k_is)
    (case l_whole_root_x => k_is)
    (case e_whole_root_x => k_is)
    (case k_whole_root_x => k_is)
    (case a_is_measure => k_is)
    (case l_is_measure => k_is)
    (case e_is_measure => k_is)
    (case k_is_measure => k_is)
    (case a_square_part_by => k_is)
    (case l_square_part_by => k_is)
    (case e_square_part_by => k_is)
    (case k_square_part_by => k_is)
    (case a_factor_by => k_is)
    (case l_factor_by => k_is)
    (case e_factor_by => k_is)
    (case k_factor_by => k_is)
    (case a_factor_x => k_is)
    (case l_factor_x => k_is)
    (case e_factor_x => k_is)
    (case k_factor_x => k_is)
    (case a_l_factor_b928 => k_is)
    (case l_l_factor_b928 => k_is)
    (case e_l_factor_b928 => k_is)
    (case k_l_factor_b928 => k_is)
    (case a_l_right_7f71 => k_is)
    (case l_l_right_7f71 => k_is)
    (case e_l_right_7f71 => k_is)
    (case k_l_right_7f71 => k_is)
    (case a_l_told_59a8 => k_is)
    (case l_l_told_59a8 => k_is)
    (case e_l_told_59a8 => k_is)
    (case k_l_told_59a8 => k_is)
    (case a_l_law_0a00 => k_is)
    (case l_l_law_0a00 => k_is)
    (case e_l_law_0a00 => k_is)
    (case k_l_law_0a00 => k_is)
