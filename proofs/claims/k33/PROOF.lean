import PyProof.Rows.All
import Wide.All
import OpenK.AllK
import Wide.FinOn
import HandS.ForMost
import HandS.Exc
import HandS.ExcInit
import HandS.ExcField
import HandS.ExcIs
import KE.KExcSuper
import KE.KSuper
import HandS.Wide
import HandS.Flow
import HandS.Style
import HandS.Deep
import HandS.TupAny
import HandS.NoneIn
import HandS.IsInst
import HandS.WideBits
import HandS.Gcd
import HandS.Conv
import HandS.Zip
import HandS.SortRule
import HandS.SortInts
import KE.KSortTupAny
import HandS.TupSets
import KE.KSetDisp
import HandS.SetIn
import KE.KExcIs
import HandS.Iter
import KE.DataFind
import PyProof.ReprRoads
import PyProof.NeKinds
import PyProof.FactsAll.dict_2
import PyProof.FactsAll.subtypes_1
import HandS.Star
import KE.RegKSuper
import PySem.Challenge.RW_slitsheets_k33_hearts_and_roads_refused
set_option Elab.async false
set_option linter.all false
set_option maxRecDepth 100000
set_option maxHeartbeats 4000000
/-! XA: the package's own errors: their classes, and how one is made -/
namespace XA
open PySem PySem.W PySem.Calls PyProof.Rows PySem.HandSPX
/-- the __init__ that stands in a class -/
def initOf : Stmt → Stmt
  | .ClassDef _ _ _ (f :: _) _ _ _ _ _ _ _ => f
  | s => s
/-- the text of __init__(self, value=None): super().__init__(); self.value = value -/
structure InitTxt (A : Arguments) (B : List Stmt) (S : Scope) : Prop where
  ar : ∃ p1 p2 c, A = { posonlyargs := [], args := [{ arg := "self", annotation := none, pos := p1 }, { arg := "value", annotation := none, pos := p2 }], vararg := none, kwonlyargs := [], kw_defaults := [], kwarg := none, defaults := [c] }
  bd : ∃ p0 p1 p2 p3 p4 q1 q2 q3 q4, B = [.Expr (.Call (.Attribute (.Call (.Name "super" p0) [] [] p1) "__init__" p2) [] [] p3) p4, .Assign [.Attribute (.Name "self" q1) "value" q2] (.Name "value" q3) q4] ∧
    (∃ pl : Sem Bool, ∀ env : Env, eval (.Call (.Attribute (.Call (.Name "super" p0) [] [] p1) "__init__" p2) [] [] p3) env = (do
      let ov ← attributeBase (.Call (.Name "super" p0) [] [] p1) "__init__" env (eval (.Call (.Name "super" p0) [] [] p1) env)
      standAt p2.atName
      let (f, first) ← holding [ov] (getMethod ov "__init__" pl)
      callWith p3 f first (backTo p3 (starEach [] env)) [])) ∧
    ∀ env : Env, swapsWith (.Call (.Attribute (.Call (.Name "super" p0) [] [] p1) "__init__" p2) [] [] p3) none p4.line env = pure false
  sc : S = { kind := .function, names := [(PySem.Str.ofString "self", .local), (PySem.Str.ofString "value", .local), (PySem.Str.ofString "__class__", .free), (PySem.Str.ofString "super", .globalImplicit)], isGenerator := false, isCoroutine := false, more := [] }
def sheetTail : List Value := [.type "ValueError", .type "Exception", .type "BaseException", .type "object"]
def errTail (S : Addr) : List Value := .ref S :: sheetTail
/-- the common class of the errors stands at S -/
structure ShC (K : Frag) (S : Addr) : Prop where
  ns : nsIn K mainGlobals "SheetError" = some (some (.ref S))
  cls : ∃ q N bs sn sub ab col dd k0 k1 k2 k3 k5, K.lookup S = some (excClassObj "SheetError" q S N bs sheetTail true sn sub ab col dd k0 k1 k2 k3 k5 "ValueError.__new__")
/-- the error class x stands at C -/
structure ErC (K : Frag) (x : Str) (C S : Addr) : Prop where
  ns : nsIn K mainGlobals x = some (some (.ref C))
  sh : ShC K S
  ne : x ≠ "SheetError"
  cls : ∃ q N bs sn sub ab col dd k0 k1 k2 k3 k5, K.lookup C = some (excClassObj x q C N bs (errTail S) true sn sub ab col dd k0 k1 k2 k3 k5 "ValueError.__new__")
  sa : findIn K (.ref C) "__setattr__" = some (some (.builtin "object.__setattr__"))
  ga : findIn K (.ref C) "__getattribute__" = some (some (.builtin "BaseException.__getattribute__"))
  gg : findIn K (.ref C) "__getattr__" = some none
  nv : findIn K (.ref C) "value" = some none
  kp : keepIn K (.ref C) = true
  hc : findIn K (.ref C) "__class__" = some (some (.builtin "object.__class__"))
  gs : specialIn K (.builtin "object.__class__") "__get__" = some (some (.builtin "getset_descriptor.__get__"))
  tk : takesIn K (.builtin "object.__class__") = some true
/-- .. and may be raised: its __init__ -/
structure ErM (P : Program) (K : Frag) (mg : Str → Option Value) (x : Str) (C S fI : Addr) : Prop where
  er : ErC K x C S
  gC : mg x = some (.ref C)
  iC : findIn K (.ref C) "__init__" = some (some (.ref fI))
  sup : alongIn K "__init__" (errTail S) = some (some (.builtin "ValueError.__init__"))
  any : nsIn K cStatics "thirdparty.any" = some none
  msup : mg "super" = none
  fn : ∃ (oc : Value) (od : Option Addr) (A : Arguments) (B : List Stmt) (Sc : Scope) (q : Str) (dV kV doc pm : Value) (an : Option Addr) (cda cc : Addr) (ct : Value) (osl : Array (Option Value)), InitTxt A B Sc ∧ oc = .type "function" ∧
    K.lookup fI = some ⟨oc, od, .func (fnX "__init__" q A B Sc [("__class__", cc)] dV kV doc pm an (.ref cda) ct), osl⟩ ∧ codeIn K (.ref cda) q = true ∧
    (∃ c d sl, K.lookup cc = some ⟨c, d, .cell (some (.ref C)), sl⟩) ∧ (∃ td c d n sl, dV = .ref td ∧ K.lookup td = some ⟨c, d, .seq #[.none] n, sl⟩) ∧ (∃ c d vs sl file tf, K.lookup cda = some ⟨c, d, .fields vs, sl⟩ ∧ vs[2]? = some (.str file tf) ∧ ((P.main.file : Str) == file) = true)
  top : (P.main.scope.names.lookup ("super" : Str)).isSome = false
theorem refs_err (S : Addr) : refsVE (errTail S) = true := by show refsVE sheetTail = true; decide
section
variable {K : Frag} {x y : Str} {C D S S' : Addr}
theorem ErC.clsIn (T : ErC K x C S) : ∃ cd, PySem.W.clsIn K C = some cd ∧ cd.mro = .ref C :: errTail S ∧ cd.hasDict = true ∧ cd.name = x := by
  obtain ⟨q, N, bs, sn, sub, ab, col, dd, k0, k1, k2, k3, k5, h⟩ := T.cls
  exact ⟨_, by unfold PySem.W.clsIn; rw [h], rfl, rfl, rfl⟩
theorem ShC.clsIn (T : ShC K S) : ∃ cd, PySem.W.clsIn K S = some cd ∧ cd.mro = .ref S :: sheetTail ∧ cd.name = "SheetError" := by
  obtain ⟨q, N, bs, sn, sub, ab, col, dd, k0, k1, k2, k3, k5, h⟩ := T.cls
  exact ⟨_, by unfold PySem.W.clsIn; rw [h], rfl, rfl⟩
theorem ErC.ty (T : ErC K x C S) : typeIn K (.ref C) = some (.type "type") := by
  obtain ⟨q, N, bs, sn, sub, ab, col, dd, k0, k1, k2, k3, k5, h⟩ := T.cls
  show (K.lookup C).map (·.cls) = _
  rw [h]; rfl
theorem ShC.ty (T : ShC K S) : typeIn K (.ref S) = some (.type "type") := by
  obtain ⟨q, N, bs, sn, sub, ab, col, dd, k0, k1, k2, k3, k5, h⟩ := T.cls
  show (K.lookup S).map (·.cls) = _
  rw [h]; rfl
theorem ErC.sub (T : ErC K x C S) (b : Value) : subIn K (.ref C) b = some ((Value.ref C :: errTail S).contains b) := by
  obtain ⟨cd, h, hm, _⟩ := T.clsIn
  show mroIn K C b = _
  unfold mroIn
  rw [h, Option.bind_some, hm]; rfl
theorem ShC.sub (T : ShC K S) (b : Value) : subIn K (.ref S) b = some ((Value.ref S :: sheetTail).contains b) := by
  obtain ⟨cd, h, hm, _⟩ := T.clsIn
  show mroIn K S b = _
  unfold mroIn
  rw [h, Option.bind_some, hm]; rfl
theorem ErC.subT (T : ErC K x C S) (n : String) (h : sheetTail.contains (.type n) = true) : subIn K (.ref C) (.type n) = some true := by
  rw [T.sub]; show some (Value.type n == Value.ref C || (Value.type n == Value.ref S || sheetTail.contains (.type n))) = _
  rw [h, Bool.or_true, Bool.or_true]
theorem ErC.uniq (T : ErC K x C S) (T' : ErC K x D S') : C = D := by
  have := T.ns.symm.trans T'.ns
  exact Value.ref.inj (Option.some.inj (Option.some.inj this))
theorem ShC.uniq (T : ShC K S) (T' : ShC K S') : S = S' := by
  have := T.ns.symm.trans T'.ns
  exact Value.ref.inj (Option.some.inj (Option.some.inj this))
theorem ErC.apart (T : ErC K x C S) (T' : ErC K y D S') (h : x ≠ y) : C ≠ D := fun e => by
  obtain ⟨cd, h1, _, _, h2⟩ := T.clsIn
  obtain ⟨cd', h1', _, _, h2'⟩ := T'.clsIn
  rw [e, h1'] at h1
  cases h1
  exact h (h2.symm.trans h2')
theorem ErC.notS (T : ErC K x C S) : C ≠ S := fun e => by
  obtain ⟨cd, h1, _, _, h2⟩ := T.clsIn
  obtain ⟨cd', h1', _, h2'⟩ := T.sh.clsIn
  rw [e, h1'] at h1
  cases h1
  exact T.ne (h2.symm.trans h2')
/-- is an error of the class x one of the class y -/
def under (x y : Str) : Bool := x == y || y == "SheetError"
theorem ErC.subE (T : ErC K x C S) (T' : ErC K y D S') : subIn K (.ref C) (.ref D) = some (under x y) := by
  have eS := T.sh.uniq T'.sh
  subst eS
  rw [T.sub]
  show some (Value.ref D == Value.ref C || (Value.ref D == Value.ref S || sheetTail.contains (.ref D))) = _
  have h3 : sheetTail.contains (Value.ref D) = false := by simp [sheetTail]
  have h2 : (Value.ref D == Value.ref S) = false := by simp [T'.notS]
  have hy : (y == ("SheetError" : Str)) = false := by simp [T'.ne]
  unfold under
  rw [h3, h2, hy, Bool.or_false, Bool.or_false, Bool.or_false]
  by_cases h : x = y
  · subst h
    have := T.uniq T'
    subst this
    simp
  · have := T.apart T' h
    rw [beq_eq_false_iff_ne.mpr h, beq_eq_false_iff_ne.mpr fun z => this (Value.ref.inj z).symm]
theorem ErC.subS (T : ErC K x C S) (T' : ShC K S') : subIn K (.ref C) (.ref S') = some true := by
  have eS := T.sh.uniq T'
  subst eS
  rw [T.sub]
  show some (Value.ref S == Value.ref C || (Value.ref S == Value.ref S || sheetTail.contains (.ref S))) = _
  simp
/-- a class of errors, with its name: one of them, or their common one -/
def AnyC (K : Frag) (y : Str) (D : Addr) : Prop := (∃ S, ErC K y D S) ∨ (y = "SheetError" ∧ ShC K D)
theorem ErC.subA (T : ErC K x C S) (A : AnyC K y D) : subIn K (.ref C) (.ref D) = some (under x y) := by
  rcases A with ⟨S', T'⟩ | ⟨rfl, T'⟩
  · exact T.subE T'
  · rw [T.subS T']; simp [under]
theorem AnyC.ns (A : AnyC K y D) : nsIn K mainGlobals y = some (some (.ref D)) := by
  rcases A with ⟨S', T'⟩ | ⟨rfl, T'⟩
  · exact T'.ns
  · exact T'.ns
theorem AnyC.ty (A : AnyC K y D) : typeIn K (.ref D) = some (.type "type") := by
  rcases A with ⟨S', T'⟩ | ⟨rfl, T'⟩
  · exact T'.ty
  · exact T'.ty
theorem AnyC.isC (A : AnyC K y D) : (PySem.W.clsIn K D).isSome = true := by
  rcases A with ⟨S', T'⟩ | ⟨rfl, T'⟩
  · obtain ⟨cd, h, _⟩ := T'.clsIn; rw [h]; rfl
  · obtain ⟨cd, h, _⟩ := T'.clsIn; rw [h]; rfl
theorem AnyC.base (A : AnyC K y D) : subIn K (.ref D) (.type "BaseException") = some true := by
  rcases A with ⟨S', T'⟩ | ⟨rfl, T'⟩
  · exact T'.subT "BaseException" (by decide)
  · rw [T'.sub]; show some (Value.type "BaseException" == Value.ref D || sheetTail.contains (.type "BaseException")) = _
    rw [show sheetTail.contains (.type "BaseException") = true by decide, Bool.or_true]
theorem ErC.kit (T : ErC K x C S) (A : AnyC K y D) : kitOne K (.ref C) (.ref D) = some (under x y) := by
  unfold kitOne
  split
  · rename_i h
    have : C = D := Value.ref.inj (beq_iff_eq.mp h)
    subst this
    rcases A with ⟨S', T'⟩ | ⟨rfl, T'⟩
    · have : x = y := Classical.byContradiction fun n => T.apart T' n rfl
      rw [this]; simp [under]
    · simp [under]
  · unfold kitCls
    dsimp only
    rw [if_pos (by rw [A.isC, A.ty]; rfl)]
    exact T.subA A
theorem ErC.exm (T : ErC K x C S) (A : AnyC K y D) : exmOne K (.ref C) (.ref D) = some (under x y) := by
  unfold exmOne
  rw [if_pos (by rw [A.base]; rfl)]
  unfold kitCls
  dsimp only
  rw [if_pos (by rw [A.isC, A.ty]; rfl)]
  exact T.subA A
theorem ErC.kitV (T : ErC K x C S) : kitOne K (.ref C) (.type "ValueError") = some true := by
  unfold kitOne
  rw [if_neg (by simp)]
  unfold kitCls
  dsimp only
  rw [if_pos (by decide +kernel)]
  exact T.subT _ (by decide)
theorem ErC.excC (T : ErC K x C S) : L2.ExcC K C := ⟨T.ga, T.gg, T.subT _ (by decide), by obtain ⟨cd, h, _, hd, _⟩ := T.clsIn; unfold hasDictIn; rw [h]; exact hd, T.hc, T.gs, T.tk, by
  have := T.subT "object" (by decide)
  exact this⟩
theorem ErC.xfC (T : ErC K x C S) : L2.XfC K C := ⟨T.ga, T.gg, T.subT _ (by decide), T.excC.hd⟩
end
/-! ### an error is made -/
/-- what __init__ leaves of a fresh error at x -/
structure InitEnd (h h' : Heap) (x C dx t1 : Addr) (v : Value) : Prop where
  keep : ∀ b o, b ≠ x → h.get? b = some o → h'.get? b = some o
  obj : h'.get? x = some (excO C t1 |> fun o => { o with dict := some dx })
  dbig : h.objs.size ≤ dx
  dne : dx ≠ x
  ns : h'.Ns1 dx (fun y => if y = "value" then some v else none)
/-- a made error -/
structure Made (h h' : Heap) (e C d : Addr) (v : Value) : Prop where
  keep : ∀ b o, h.get? b = some o → h'.get? b = some o
  new : h.objs.size ≤ e
  obj : ∃ oe vs, h'.get? e = some oe ∧ oe.cls = .ref C ∧ oe.dict = some d ∧ oe.data = .fields vs ∧ vs[1]? = some .none
  dbig : h.objs.size ≤ d
  dne : d ≠ e
  ns : h'.Ns1 d (fun y => if y = "value" then some v else none)
section
variable {prog : Program} {w : World} {A : Around} {E : Value → Shared → Prop} {K : Frag} {mg mb : Str → Option Value} {C S fI : Addr} {x : Str}
theorem init_walk (T : ErM prog K mg x C S fI) {R : Result → Shared → Prop} {s : Shared} {e t0 : Addr} {v : Value} (X : K.In s.heap) (hlim : s.heap.NoLimit) (hg : s.heap.Ns mainGlobals mg) (hb : s.heap.Ns builtinsNs mb) (hbb : ∀ y : Str, y ≠ "__name__" → mb y = bootBuiltins y)
    (hx : s.heap.get? e = some (excO C t0)) (hnx : K.lookup e = none) (hroom : A.depth < recursionLimit)
    (hq : ∀ h' tk dx t1, InitEnd s.heap h' e C dx t1 v → R (.ok (.ret .none)) { s with heap := h', toks := tk }) :
    codeAny (model prog w) A (.call (.ref fI) ⟨[.ref e, v], []⟩) R s := by
  obtain ⟨oc, od, Ar, Bd, Sc, q, dV, kV, doc, pm, an, cda, cc, ct, osl, IT, hoc, ho, hcd, ⟨cl, cld, csl, hcell⟩, ⟨td, tc, tdd, tn, tsl, rfl, htd⟩, ⟨c1, d1, vs1, sl1, file, tf, hcode, hvs, hfile⟩⟩ := T.fn
  obtain ⟨⟨p1, p2, dd0, rfl⟩, ⟨b0, b1, b2, b3, b4, b5, b6, b7, b8, rfl, ⟨pl, hev⟩, hsw⟩, rfl⟩ := IT
  have hcl := T.er.clsIn
  obtain ⟨cd, hcd1, hmro, hhd, _⟩ := hcl
  have hb5 : ∀ x ∈ ([(PySem.Str.ofString "self", NameKind.local), (PySem.Str.ofString "value", .local), (PySem.Str.ofString "__class__", .free), (PySem.Str.ofString "super", .globalImplicit)] : List (Str × NameKind)), x.2 ≠ .cell := by decide
  refine ks_codeAny_call_defAt (binds := [("self", .ref e), ("value", v)]) hroom (X _ _ ho) rfl hlim (codeRec_of X hcd) rfl (BindsTo.of_defaults (T := td) rfl (X _ _ htd) rfl (by first | rfl | with_unfolding_all rfl) (by first | rfl | with_unfolding_all rfl)) hb5 (locs rfl) (fun h₁ hn k => ?_)
  have X₁ : K.In h₁ := X.keeps k
  have hx₁ := k _ _ hx
  have hxL : s.heap.objs.size ≠ e := Nat.ne_of_gt (Heap.lt_size hx)
  show _root_.PySem.wpAt _ (A.deeper (ksEnv q { kind := .function, names := [(PySem.Str.ofString "self", .local), (PySem.Str.ofString "value", .local), (PySem.Str.ofString "__class__", .free), (PySem.Str.ofString "super", .globalImplicit)], isGenerator := false, isCoroutine := false, more := [] } s.heap.objs.size fI (.ref cda) cc)) (.func _ (ksEnv q { kind := .function, names := [(PySem.Str.ofString "self", .local), (PySem.Str.ofString "value", .local), (PySem.Str.ofString "__class__", .free), (PySem.Str.ofString "super", .globalImplicit)], isGenerator := false, isCoroutine := false, more := [] } s.heap.objs.size fI (.ref cda) cc)) (execs _ (ksEnv q { kind := .function, names := [(PySem.Str.ofString "self", .local), (PySem.Str.ofString "value", .local), (PySem.Str.ofString "__class__", .free), (PySem.Str.ofString "super", .globalImplicit)], isGenerator := false, isCoroutine := false, more := [] } s.heap.objs.size fI (.ref cda) cc)) _ _ _
  refine ks_wpAt_execs_cons (ks_wpAt_Expr_any (ks_wpAt_MethodCall (pl := pl) ?_ (hev _)) rfl (hsw _))
  refine ks_wpAt_super_base (f := fI) (cc := cda) (by first | rfl | with_unfolding_all rfl) (by first | rfl | with_unfolding_all rfl) (by decide) rfl (X₁ _ _ ho) rfl rfl rfl (X₁ _ _ hcode) rfl hvs hfile T.top ?_
  refine ks_loadName_global rfl (by first | rfl | with_unfolding_all rfl) (loadGlobal_builtin (hg.keeps k) T.msup (hb.keeps k) ((hbb _ (by decide +kernel)).trans PyProof.Rows.Boot.«super») ⟨rfl, ?_⟩)
  refine wpAny_loadName_free rfl (by first | rfl | with_unfolding_all rfl) rfl ⟨_, X₁ _ _ hcell, rfl⟩ ?_
  refine wpAny_loadName_local rfl (by first | rfl | with_unfolding_all rfl) hn (v := .ref e) (by first | rfl | with_unfolding_all rfl | kernel_rfl) ?_
  obtain ⟨oC, hoC, hoC2⟩ : ∃ oC, h₁.get? C = some oC ∧ oC.data = .cls cd := by
    unfold PySem.W.clsIn at hcd1
    split at hcd1
    · rename_i ho'
      cases hcd1
      exact ⟨_, X₁ _ _ ho', rfl⟩
    · cases hcd1
  have hCe : e ≠ C := fun z => by
    rw [z, hoC] at hx₁
    cases hx₁
    cases hoC2
  have hsubC : mroIn K C (.ref C) = some true := by
    have := T.er.sub (.ref C)
    rw [show (Value.ref C :: errTail S).contains (.ref C) = true by simp] at this
    exact this
  refine ks_wpAny_isType_cls hoC hoC2 ⟨rfl, ?_⟩
  refine ks_wpAny_call_super hoC hoC2 hx₁ rfl (fun c z => by cases z) (looks_mroIn X₁ hsubC) (fun h2 hso k2 => ?_)
  have X₂ : K.In h2 := X₁.keeps k2
  have hx₂ := k2 _ _ hx₁
  have hI : Looks (model prog w) h2 (isInstance (.ref e) (.type "ValueError")) true := by
    have I : InstAt h2 e (excO C t0) C none := ⟨hx₂, rfl, rfl, trivial⟩
    exact I.type.andThen (looks_subIn X₂ (T.er.subT "ValueError" (by decide)))
  refine kxs_getMethod kxs_ValueError hso (looks_opaque X₂ T.any) (l₀ := cd.mro) (fun A Q E s k q => wpAny_bind ((looks_clsIn X₂ hcd1) A _ E s k (wpAny_pure q))) rfl X₂ (by rw [hmro]; simpa using T.sup) hI hCe (by decide) ?_
  refine kxs_callWith (i := "ValueError.__init__") (x := e) rfl (evalArgs_empty ⟨Heap.get?_push_at rfl rfl, ?_⟩)
  have hu : (h2.push (kxs_mw "ValueError.__init__" e)).get? h2.objs.size = some (kxs_mw "ValueError.__init__" e) := Heap.get?_push_at rfl rfl
  have k3 : ∀ b o, h2.get? b = some o → (h2.push (kxs_mw "ValueError.__init__" e)).get? b = some o := fun b o z => Heap.get?_push_of_some _ z
  obtain ⟨qn, N, bs, sn, sub, ab, col, dd, m0, m1, m2, m3, m5, hCl⟩ := T.er.cls
  refine wpAny_call (codeAny_of_tree ?_)
  show wpAny _ _ (callAny (.ref h2.objs.size) ⟨[], []⟩) _ _ _
  simp only [callAny]
  refine wpAny_bind (wpAny_load hu ?_)
  refine KFB.if_so (by simp only [kxs_mw]; decide) ?_
  simp only [kxs_mw]
  refine wpAny_bind (check_bound_init F.excBase_ValueError.toExcCallFacts (k3 _ _ (X₂ _ _ hCl)) (k3 _ _ hx₂) rfl ?_)
  refine wpAny_bind (wpAny_pure (wpAny_pure ?_))
  refine ⟨plainId_quiet F.excBase_ValueError.init.plain _, codeAny_builtin F.excBase_ValueError.initEntry ?_⟩
  refine exc_init_tree (cls := .ref C) (t0 := t0) (dv := none) (c2 := .none) (c3 := .none) (b4 := .bool false) (k3 _ _ hx₂) (by rw [sizeLine_eq]; decide) (fun h4 k4 hx4 htup => ?_)
  show _root_.PySem.wpAt _ _ _ (execs _ _) _ _ _
  have kk : ∀ b o, b ≠ e → s.heap.get? b = some o → h4.get? b = some o := fun b o hb z => k4 b o hb (k3 _ _ (k2 _ _ (k _ _ z)))
  have X4 : K.In h4 := fun a o z => kk a o (fun y => by rw [y, hnx] at z; cases z) (X a o z)
  have hn4 : h4.Ns s.heap.objs.size (fun y => ([("self", Value.ref e), ("value", v)] : List (Str × Value)).reverse.lookup y) := by
    obtain ⟨oL, es, ep, z, r⟩ := hn
    exact ⟨oL, es, ep, k4 _ _ hxL (k3 _ _ (k2 _ _ z)), r⟩
  have hz4 : s.heap.objs.size ≤ h4.objs.size := Nat.le_of_lt hn4.lt
  refine wpAt_of_wpAny (wpAny_execs_cons (plainObj_wpAny_Assign_Attribute ?_))
  refine wpAny_Name (wpAny_loadName_local rfl (by first | rfl | with_unfolding_all rfl) hn4 (v := v) rfl ?_) (by decide)
  refine wpAny_Name (wpAny_loadName_local rfl (by first | rfl | with_unfolding_all rfl) hn4 (v := .ref e) rfl ?_) (by decide)
  refine set_plain X4 (od := none) ⟨hx4, rfl, rfl, trivial⟩ T.er.sa ?_
  refine exc_osa X4 hx4 hcd1 (by rw [hmro]; exact refs_err S) hhd T.er.nv (fun h5 tk5 dx k5 dn dne hx5 hn5 => ?_)
  refine wpAny_execs_nil ?_
  exact hq h5 tk5 dx _ ⟨fun b o hb z => k5 b o hb (kk b o hb z), hx5, Nat.le_trans hz4 dn, dne, hn5⟩
end
end XA
/-! XB: errors over the hand layer: one is made and raised; a try whose error stays known behind it -/
namespace XA
open PySem PySem.W PySem.Calls PyProof.Rows PySem.HandSPX
section
variable {prog : Program} {w : World} {A : Around} {E : Value → Shared → Prop} {K : Frag} {mg mb : Str → Option Value} {C S fI : Addr} {x : Str}
theorem err_made (T : ErM prog K mg x C S fI) {R : Result → Shared → Prop} {s : Shared} {v : Value} (tI : typeIn K (.ref fI) = some (.type "function")) (X : K.In s.heap) (hlim : s.heap.NoLimit) (hg : s.heap.Ns mainGlobals mg) (hb : s.heap.Ns builtinsNs mb) (hbb : ∀ y : Str, y ≠ "__name__" → mb y = bootBuiltins y)
    (hroom : A.depth + 1 < recursionLimit) (hq : ∀ h' tk e d, Made s.heap h' e C d v → R (.ok (.ret (.ref e))) { s with heap := h', toks := tk }) :
    codeAny (model prog w) A (.call (.ref C) ⟨[v], []⟩) R s := by
  obtain ⟨qn, N, bs, sn, sub, ab, col, dd, m0, m1, m2, m3, m5, hCl⟩ := T.er.cls
  obtain ⟨hp, g, dr, tk, os⟩ := s
  have hz1 : [v].length ≤ sizeLine := by rw [sizeLine_eq]; exact (by decide : 1 ≤ 16777216)
  have k : ∀ b o, hp.get? b = some o → ((hp.push (kdv_tup [v])).push (excO C hp.objs.size)).get? b = some o := fun b o z => Heap.get?_push_of_some _ (Heap.get?_push_of_some _ z)
  have hget : ((hp.push (kdv_tup [v])).push (excO C hp.objs.size)).get? (hp.objs.size + 1) = some (excO C hp.objs.size) := by heap_get
  have hnx : K.lookup (hp.objs.size + 1) = none := by
    cases z : K.lookup (hp.objs.size + 1) with
    | none => rfl
    | some o =>
      have y : hp.get? (hp.objs.size + 1) = some o := X _ _ z
      exact absurd (Nat.lt_of_succ_lt (Heap.lt_size y)) (Nat.lt_irrefl _)
  refine call_own F.excBase_ValueError (fun Y => refsVE_contains Y (errTail S) (refs_err S)) (X _ _ hCl) (looks_findIn X T.iC) (fun self => bind_fn X self tI) hz1 ?_
  refine init_walk (s := ⟨(hp.push (kdv_tup [v])).push (excO C hp.objs.size), g, dr, tk, os⟩) T (X.keeps k) (hlim.keeps k) (hg.keeps k) (hb.keeps k) hbb hget hnx hroom fun h' tk' dx t1 ⟨k', hx, dn, dne, hns⟩ => ?_
  have old : ∀ b o, hp.get? b = some o → h'.get? b = some o := fun b o z => k' b o (Nat.ne_of_lt (Nat.lt_succ_of_lt (Heap.lt_size z))) (k b o z)
  have z : hp.objs.size + 1 + 1 ≤ dx := by
    have q := dn
    rw [Heap.size_push, Heap.size_push] at q
    exact q
  exact ⟨rfl, hq h' tk' (hp.objs.size + 1) dx ⟨old, Nat.le_succ _, ⟨_, _, hx, rfl, rfl, rfl, rfl⟩, Nat.le_trans (Nat.le_trans (Nat.le_succ _) (Nat.le_succ _)) z, dne, hns⟩⟩
end
theorem fnTy {P : Program} {K : Frag} {mg : Str → Option Value} {x : Str} {C S fI : Addr} (T : ErM P K mg x C S fI) : typeIn K (.ref fI) = some (.type "function") := by
  obtain ⟨oc, od, Ar, Bd, Sc, q, dV, kV, doc, pm, an, cda, cc, ct, osl, IT, hoc, ho, _⟩ := T.fn
  show (K.lookup fI).map (·.cls) = _
  rw [ho, hoc]; rfl
end XA
namespace L2
open PySem PySem.Spec PyProof.Rows XA
theorem relO_one {f0 : Str} {v : V} {u : Value} (r : RelV v u) (f : Str) : RelO (List.lookup f [(f0, v)]) (if f = f0 then some u else none) := by
  by_cases hw : f = f0
  · subst hw
    rw [if_pos rfl, show List.lookup f [(f, v)] = some v by simp [List.lookup]]
    exact r
  · rw [if_neg hw, show List.lookup f [(f0, v)] = none by simp [List.lookup, beq_eq_false_iff_ne.mpr hw]]
    trivial
section
variable {X : Cx} {x : Str} {C S fI : Addr}
/-- x(e) -/
def tMkE (C : Addr) (ta : TA) : St → Hp → XK → Prop := fun σ H Q => ta σ H fun vs H1 => ∃ v, vs = [v] ∧ ∀ d, H1 d = none → Q (.ref C) (some d) (upd H1 d (.xd [(("value" : Str), v)]))
theorem pmk_err {a : Expr} {ta : TA} {p pos : Pos} {k : Nat} (T : XA.ErM X.prog X.K X.mg x C S fI) (hr : Room k X.A) (ha : PA X [a] ta) (hg : Gl X x)
    (he : starEach (a :: []) X.env = (false, eval a X.env) :: starEach [] X.env := by rfl) (hpl : (backTo pos (starEach [] X.env)).any (·.1) = false := by rfl) (hdb : (x == ("__debug__" : Str)) = false := by decide) :
    PMk X (.Call (.Name x p) [a] [] pos) (tMkE C ta) := by
  intro pins s σ H Q I h
  refine wpAny_Call_Name_kw (ld_glob I hg T.gC ?_ hdb)
  refine PySem.W.callWith_K (h₀ := X.base) I.ok.mod.kin T.er.kp (thn (ha.run pos pins s σ H _ I h) fun us s1 ⟨vs, H1, I1, r1, v, ev, q1⟩ => ?_) he hpl
  subst ev
  refine ⟨I1.kIn, ?_⟩
  cases r1 with
  | @cons _ v' _ us' rv rn =>
    cases rn
    show wpAny _ _ (call (.ref C) [v']) _ _ _
    have hlim := I1.nolimit
    obtain ⟨mb, hb1, hb2⟩ := I1.mod.blt
    have hgl := I1.mod.glob.keeps I1.bk
    have hbl := hb1.keeps I1.bk
    obtain ⟨hp, g, dr, tk, os⟩ := s1
    refine wpAny_call (err_made T (fnTy T) I1.kIn hlim hgl hbl hb2 (by have := hr.dp; omega) fun h' tk' e d M => ?_)
    show MkP X pins σ Q (.ref e) ⟨h', g, dr, tk', os⟩
    obtain ⟨oe, fv, hoe, hc, hd, hdat, h1⟩ := M.obj
    have hns := M.ns
    obtain ⟨G', g1, g2⟩ := restrict h' fun b => decide (b ≠ e)
    have gk : ∀ b, b ≠ e → G'.get? b = h'.get? b := fun b hb => g1 b (decide_eq_true hb)
    have ge : G'.get? e = none := g2 e (by simp)
    have old : ∀ b o, hp.get? b = some o → G'.get? b = some o := fun b o q => (gk b (Nat.ne_of_lt (Nat.lt_of_lt_of_le (Heap.lt_size q) M.new))).trans (M.keep b o q)
    have ob : ObjOk X.prog X.w (upd H1 d (.xd [(("value" : Str), v)])) G' d (.xd [(("value" : Str), v)]) :=
      ⟨_, hns.at (fun o q => (gk d M.dne).trans q), fun f => relO_one rv f⟩
    have J : Inv X pins σ (upd H1 d (.xd [(("value" : Str), v)])) ⟨G', g, dr, tk', os⟩ := I1.laid (t' := tk') old M.dbig ob
    refine ⟨e, oe, fv, ⟨G', g, dr, tk', os⟩, _, .ref C, some d, rfl, J, fun b o q => ?_, ge, hoe, ⟨hc, hd⟩, hdat, h1, ?_, rfl, I1.bare, raises_own (T.er.subT "BaseException" (by decide)) T.er.ty, q1 d (I1.hok.fresh M.dbig)⟩
    · by_cases hb : b = e
      · have q' : G'.get? b = some o := q
        rw [hb, ge] at q'; cases q'
      · exact (gk b hb).symm.trans q
    · rw [upd_ne (Ne.symm M.dne)]
      exact I1.hok.fresh M.new
end
/-! ### try: the error is tracked from the suite on -/
/-- at a: an error of the class at C with its own dict at dd -/
def ErAt (a C dd : Addr) (h : Heap) : Prop := ∃ vs sl, h.get? a = some { cls := .ref C, dict := some dd, data := .fields vs, slots := sl }
def erO (a C dd : Addr) : HO := .ext (ErAt a C dd)
section
variable {X : Cx} {pins : List (Addr × Obj)} {σ : St} {H : Hp} {sI s' : Shared} {B : Heap}
theorem adopt {a C dd : Addr} (I : Inv X pins σ H sI) (nb : ∀ b o, sI.heap.get? b = some o → b ∉ frs X.stack → B.get? b = some o) (st : B.StaysIn s'.heap) (up : sI.heap.UpToSlots s'.heap) (os : s'.os = sI.os) (ag : AllBare s'.gens)
    (nB : B.get? a = none) (nF : a ∉ frs X.stack) (na : H a = none) (ha : ErAt a C dd s'.heap) : Inv X pins σ (upd H a (erO a C dd)) s' := by
  have nI : sI.heap.get? a = none := by
    cases z : sI.heap.get? a with
    | none => rfl
    | some o => rw [nb a o z nF] at nB; cases nB
  have ne : ∀ {b : Addr} {o : Obj}, sI.heap.get? b = some o → b ≠ a := fun {b o} z y => by rw [y, nI] at z; cases z
  have nf : ∀ b ∈ frs X.stack, ∀ o, sI.heap.get? b = some o → ∃ sl, s'.heap.get? b = some { o with slots := sl } := fun b hb o e => by
    obtain ⟨_, o', e', hd⟩ := I.stack.mem hb
    rw [e] at e'
    cases e'
    exact up b o e hd
  have hok0 : HOk X.prog X.w H s'.heap := (I.inGround nb).kept st
  have hok : HOk X.prog X.w (upd H a (erO a C dd)) s'.heap := fun b o q => by
    by_cases hb : b = a
    · subst hb
      rw [upd_same] at q
      cases q
      obtain ⟨vs, sl, hv⟩ := ha
      exact ⟨⟨vs, sl, hv⟩, ⟨_, hv⟩, fun h1 h2 z kk => by
        obtain ⟨vs', sl', z'⟩ := z
        exact ⟨vs', sl', kk _ z'⟩⟩
    · rw [upd_ne hb] at q
      refine (hok0 b o q).stay (fun c v _ z => z) (fun c hc => ?_) fun c xs hc => ?_
      · rw [upd_ne (fun z => by rw [z, na] at hc; cases hc)]; exact hc
      · rw [upd_ne (fun z => by rw [z, na] at hc; cases hc)]; exact hc
  have no : ∀ {b : Addr} {o : HO}, H b = some o → upd H a (erO a C dd) b = some o := fun {b o} z => by
    rw [upd_ne (fun y => by rw [y, na] at z; cases z)]; exact z
  have J := I.call (ch := []) (h' := s'.heap) (g' := s'.gens) (t' := s'.toks) (d' := s'.drawn) (H' := upd H a (erO a C dd))
    ⟨fun b o e _ hb _ => st b o (nb b o e hb), fun b o e _ hb _ => nf b hb o e, fun b o e n _ => by rw [upd_ne (ne e)]; exact n, fun b o e _ => by
      by_cases hb : b ∈ frs X.stack
      · obtain ⟨sl, q⟩ := nf b hb o e
        exact ⟨_, q⟩
      · exact ⟨o, st b o (nb b o e hb)⟩, fun _ _ e => no e, fun _ _ _ e => no e, fun b ps e => ⟨#[], by rw [no e]; simp⟩⟩
    hok ag (fun _ z => nomatch z)
  obtain ⟨a1, a2, a3, a4, a5⟩ := s'
  have e5 : a5 = sI.os := os
  subst e5
  exact J
end
/-- the context of a suite, the error being tracked -/
abbrev sui (X : Cx) (a : Addr) (pn : List (Addr × Obj)) : Cx := X.suite a pn
section
variable {X : Cx} {pins : List (Addr × Obj)} {σ : St} {H : Hp} {s : Shared} {a : Addr}
theorem toSui (I : Inv X pins σ H s) : Inv (sui X a (X.pn ++ pins)) [] σ H s :=
  ⟨I.ok.suite _ _, I.os, I.bare, I.base, I.loc, I.cell, I.free, I.freeC, fun p hp => I.pin p (by rw [List.append_nil] at hp; exact hp), I.hok, I.len⟩
theorem ofSui {pn' : List (Addr × Obj)} (I : Inv (sui X a (X.pn ++ pins)) pn' σ H s) (ok : X.Ok) : Inv X pins σ H s :=
  ⟨ok, I.os, I.bare, I.base, I.loc, I.cell, I.free, I.freeC, fun p hp => I.pin p (List.mem_append_left _ hp), I.hok, I.len⟩
end
/-- what 'except c as n' wishes of an error of the body, slot i being n's -/
def wSui (K : PySem.W.Frag) (c : Value) (i : Nat) (ts : TS) (Wout : WX) (D : Ends) : WX := fun cls d σ H => ∃ (C dd : Addr), cls = .ref C ∧ d = some dd ∧
  ∃ b, PySem.W.exmOne K cls c = some b ∧ (b = true → ∀ a, H a = none → ts { nx := fun σ' H' => D.nx (σ'.set i none) H', rt := D.rt, bk := fun σ' H' => D.bk (σ'.set i none) H', ct := fun σ' H' => D.ct (σ'.set i none) H' } (σ.set i (some (.ref a))) (upd H a (erO a C dd))) ∧ (b = false → Wout cls d σ H)
section
variable {X : Cx} {x n : Str} {c : Value} {i : Nat} {body suite : List Stmt} {b₀ : Stmt} {np pos pos' : Pos} {tb : WX → TS} {ts : TS} {Wout : WX}
theorem ps_try_sui (hs : X.stack = X.env :: X.outer) (hf : X.env.frame = some X.env.locals) (hN : X.N.Nodup) (hi : X.N[i]? = some n) (hln : X.env.kindOf n = some .local) (hc : Names X x c) (tk : Takes X Wout)
    (hb : ∀ (W : WX) (pn : List (Addr × Obj)) (xe : Value → Shared → Prop), Takes (X.tr pn xe) W → PassesOwn (model X.prog X.w) X.A X.env xe → PSs (X.tr pn xe) body (tb W))
    (hsu : ∀ (a : Addr) (pn : List (Addr × Obj)), PSs (sui X a pn) (b₀ :: suite) ts) :
    PS X (.Try body [.ExceptHandler (some (.Name x np)) (some n) (b₀ :: suite) pos'] [] [] pos) (fun D σ H => tb (wSui X.K c i ts Wout D) D σ H) := by
  refine ⟨fun pins s σ H D I h => ?_⟩
  have okX := I.ok
  have hfr : X.A.frames = some (X.env :: X.outer) := by rw [okX.frames, hs]
  refine wpAny_Try_except ?_
  refine wpAny_mono ((hb (wSui X.K c i ts Wout D) (X.pn ++ pins) (fun e s₁ => wpAny (model X.prog X.w) X.A (noteFrame e X.env) (fun _ s₂ => wpAny (model X.prog X.w) X.A (setFlight e none) (fun _ s₃ =>
    wpAny (model X.prog X.w) X.A (handleBy e X.env [.ExceptHandler (some (.Name x np)) (some n) (b₀ :: suite) pos']) (SP X pins D) X.xe s₃) X.xe s₂) X.xe s₁) (fun u s1 xx => ?_) PassesOwn.looking).run [] s σ H D (I.toTry _) h)
    (fun fl s1 hsp => ?_) (fun _ _ y => y)
  · obtain ⟨a, B, sI, pins1, σ1, H1, cls, d, rfl, J0, nb, up, sky, na, os, ag, C, dd, rfl, rfl, b, hb1, hyes, hno⟩ := xx
    have J : Inv X pins σ1 H1 sI := J0.ofTry okX
    have skyX : Sky B (X.env :: X.outer) a (Zc (.ref C) (some dd)) X.env.locals s1.heap := by rw [← hs]; exact sky
    refine Sky.land Zc.steady hfr hf skyX fun h3 fly3 up3 => ?_
    have J3 : Inv X pins σ1 H1 { s1 with heap := h3 } := J.landed nb fly3.1 (up.trans up3) os ag
    obtain ⟨oe3, vs3, he3, hz3, hd3⟩ := fly3.there
    have nFr : a ∉ frs (X.env :: X.outer) := fun hm => by
      obtain ⟨_, o', e', hnf⟩ := fly3.2.2.1.mem hm
      rw [he3] at e'
      cases e'
      exact hnf _ hd3
    refine wpAny_handleBy_cons (codeAny_handlers_test ?_) (by intro z; cases z)
    have LT : PySem.W.Looks (model X.prog X.w) h3 (typeOf (.ref a)) (.ref C) := fun A Q E s k q => wpAny_typeOf_ref (k _ _ he3) (by rw [hz3.1]; exact q)
    have LM := PySem.W.exm_one (M := model X.prog X.w) J3.kIn LT hb1
    have test : ∀ {Q : Value → Shared → Prop} {E : Value → Shared → Prop}, Q c { s1 with heap := h3 } → wpAny (model X.prog X.w) (X.A.mark (some (.ref a))) (eval (.Name x np) X.env) Q E { s1 with heap := h3 } := fun {Q E} q => by
      have S3 := toSui (a := a) J3
      obtain ⟨g1, g2, m1 | ⟨m1, m2, m3⟩⟩ := hc
      · exact ld_glob (X := sui X a (X.pn ++ pins)) S3 g1 m1 q g2
      · exact ld_blt (X := sui X a (X.pn ++ pins)) S3 g1 m1 m2 q m3 g2
    refine test (LM.here ?_)
    cases b with
    | true =>
      refine codeAny_handlers_suite_as (HandSPX.lands_againZ fly3 fun h4 fly4 up4 => ?_)
      obtain ⟨oe4, vs4, he4, hz4, hd4⟩ := fly4.there
      have hat : ErAt a C dd h4 := by
        obtain ⟨z1, z2⟩ := hz4
        obtain ⟨q1, q2, q3, q4⟩ := oe4
        dsimp only at z1 z2 hd4
        subst z1 z2 hd4
        exact ⟨_, _, he4⟩
      have J4 : Inv X pins σ1 (upd H1 a (erO a C dd)) { s1 with heap := h4 } := adopt J nb fly4.1 ((up.trans up3).trans up4) os ag fly4.2.1 (by rw [hs]; exact nFr) na hat
      refine store_ok (X := sui X a (X.pn ++ pins)) (v := .ref a) (toSui (a := a) J4) hN hi (.inl hln) rfl (fun s5 S5 => ?_) (.inr hln)
      refine wpAny_mono ((hsu a (X.pn ++ pins)).run [] s5 _ _ _ S5 (hyes rfl a na)) (fun fl s6 hsp => ?_) (fun _ _ z => False.elim z)
      have away : ∀ {σ6 : St} {H6 : Hp} {Q : Shared → Prop}, Inv (sui X a (X.pn ++ pins)) [] σ6 H6 s6 → (∀ s7, Inv X pins (σ6.set i none) H6 s7 → Q s7) →
          wpAny (model X.prog X.w) X.A (do bindName X.env n .none; unbindBehindTheSuite X.env n pos') (fun _ s7 => Q s7) X.xe s6 := fun {σ6 H6 Q} S6 q => gone_ok (ofSui S6 okX) hN hi hln q
      match fl, hsp with
      | .next, ⟨σ6, H6, S6, q6⟩ => exact away S6 fun s7 J7 => ⟨_, _, J7, q6⟩
      | .brk, ⟨σ6, H6, S6, q6⟩ => exact away S6 fun s7 J7 => ⟨_, _, J7, q6⟩
      | .cont, ⟨σ6, H6, S6, q6⟩ => exact away S6 fun s7 J7 => ⟨_, _, J7, q6⟩
      | .ret u, ⟨v6, σ6, H6, S6, r6, q6⟩ => exact away S6 fun s7 J7 => ⟨_, _, _, J7, r6, q6⟩
    | false =>
      show wpAny _ X.A (handleBy (.ref a) X.env []) _ _ _
      refine wpAny_handleBy_nil ?_
      obtain ⟨k1, k2, k3, oe, vs, T, oT, ts', he, hz, hd, h1, hr⟩ := id fly3
      unfold PySem.passOn
      refine wpAny_bind (wpAny_field he hd h1 ?_)
      rw [if_neg (show ¬ ((Value.ref T == Value.none) = true) from by simp)]
      have onward : wpAny (model X.prog X.w) X.A (setFlight (.ref a) X.env.frame) (fun _ s4 => wpAny (model X.prog X.w) X.A (throw (.ref a) : Sem Flow) (SP X pins D) X.xe s4) X.xe { s1 with heap := h3 } := by
        rw [hf]
        refine HandSPX.setFlight_upZ fly3 fun h4 hh4 up4 => wpAny_throw (tk _ _ ⟨a, B, sI, pins, σ1, H1, .ref C, some dd, rfl, J, nb, (up.trans up3).trans up4, .inr (.inr (by rw [hs]; exact hh4)), na, os, ag, hno rfl⟩)
      first
        | exact wpAny_bind (wpAny_pure (wpAny_bind onward))
        | exact wpAny_bind onward
  · match fl, hsp with
    | .next, ⟨σ', H', J', q⟩ => exact wpAny_execs_nil ⟨σ', H', J'.ofTry okX, q⟩
    | .brk, ⟨σ', H', J', q⟩ => exact ⟨σ', H', J'.ofTry okX, q⟩
    | .cont, ⟨σ', H', J', q⟩ => exact ⟨σ', H', J'.ofTry okX, q⟩
    | .ret u, ⟨v, σ', H', J', r, q⟩ => exact ⟨v, σ', H', J'.ofTry okX, r, q⟩
end
end L2
namespace XA
open PySem PySem.W PySem.Calls PyProof.Rows PySem.HandSPX
/-- the common class -/
theorem shC_mk {K : Frag} {S N : Addr} {q : Str} {bs : List Value} {sn : List Str} {sub : List Value} {ab : Bool} {col : Option Bool} {dd : Option Addr} {k0 k1 k2 k3 k5 : Option Value} (ns : nsIn K mainGlobals "SheetError" = some (some (.ref S)))
    (lk : K.lookup S = some (excClassObj "SheetError" q S N bs [.type "ValueError", .type "Exception", .type "BaseException", .type "object"] true sn sub ab col dd k0 k1 k2 k3 k5 "ValueError.__new__")) : ShC K S :=
  ⟨ns, ⟨q, N, bs, sn, sub, ab, col, dd, k0, k1, k2, k3, k5, lk⟩⟩
/-- an error's class, from what the top has left -/
theorem erM_mk {P : Program} {K : Frag} {h : Heap} {mg : Str → Option Value} {x : Str} {C S fI N cda cc td : Addr} {q qf : Str} {bs : List Value} {sn : List Str} {sub : List Value} {ab : Bool} {col : Option Bool} {dd : Option Addr} {k0 k1 k2 k3 k5 : Option Value}
    {A : Arguments} {B : List Stmt} {Sc : Scope} {od an : Option Addr} {kV doc pm ct : Value} {osl : Array (Option Value)} {c1 c2 c3 : Value} {d1 d2 d3 : Option Addr} {sl1 sl2 sl3 : Array (Option Value)} {n : Nat} {vs : Array Value} {file : Str} {tf : Tok}
    (X : K.In h) (G : h.Ns mainGlobals mg) (sh : ShC K S) (it : InitTxt A B Sc) (ne : x ≠ "SheetError")
    (ns : nsIn K mainGlobals x = some (some (.ref C)))
    (lk : K.lookup C = some (excClassObj x q C N bs [.ref S, .type "ValueError", .type "Exception", .type "BaseException", .type "object"] true sn sub ab col dd k0 k1 k2 k3 k5 "ValueError.__new__"))
    (sa : findIn K (.ref C) "__setattr__" = some (some (.builtin "object.__setattr__"))) (ga : findIn K (.ref C) "__getattribute__" = some (some (.builtin "BaseException.__getattribute__"))) (gg : findIn K (.ref C) "__getattr__" = some none)
    (nv : findIn K (.ref C) "value" = some none) (kp : keepIn K (.ref C) = true) (hc : findIn K (.ref C) "__class__" = some (some (.builtin "object.__class__")))
    (gs : specialIn K (.builtin "object.__class__") "__get__" = some (some (.builtin "getset_descriptor.__get__"))) (tk : takesIn K (.builtin "object.__class__") = some true)
    (iC : findIn K (.ref C) "__init__" = some (some (.ref fI))) (sup : alongIn K "__init__" [.ref S, .type "ValueError", .type "Exception", .type "BaseException", .type "object"] = some (some (.builtin "ValueError.__init__")))
    (any : nsIn K cStatics "thirdparty.any" = some none) (msup : nsIn K mainGlobals "super" = some none)
    (lf : K.lookup fI = some ⟨.type "function", od, .func (fnX "__init__" qf A B Sc [("__class__", cc)] (.ref td) kV doc pm an (.ref cda) ct), osl⟩) (cd : codeIn K (.ref cda) qf = true)
    (lc : K.lookup cc = some ⟨c1, d1, .cell (some (.ref C)), sl1⟩) (lt : K.lookup td = some ⟨c2, d2, .seq #[.none] n, sl2⟩) (lv : K.lookup cda = some ⟨c3, d3, .fields vs, sl3⟩) (hv : vs[2]? = some (.str file tf)) (hf : ((P.main.file : Str) == file) = true)
    (top : (P.main.scope.names.lookup ("super" : Str)).isSome = false) : ∃ C S fI, ErM P K mg x C S fI :=
  ⟨C, S, fI, ⟨⟨ns, sh, ne, ⟨q, N, bs, sn, sub, ab, col, dd, k0, k1, k2, k3, k5, lk⟩, sa, ga, gg, nv, kp, hc, gs, tk⟩, mg_of X G ns, iC, sup, any, mg_none_of X G msup,
    ⟨_, od, A, B, Sc, qf, _, kV, doc, pm, an, cda, cc, ct, osl, it, rfl, lf, cd, ⟨c1, d1, sl1, lc⟩, ⟨td, c2, d2, n, sl2, rfl, lt⟩, ⟨c3, d3, vs, sl3, file, tf, lv, hv, hf⟩⟩, top⟩⟩
end XA
/-! DL1: data D, what represents it, the state of a def as plain data, the judgements -/
namespace DL
open PySem PySem.Spec PyProof.Rows L2
inductive D where
  | non
  | bl (b : Bool)
  | int (i : Int)
  | str (x : Str)
  | tup (l : List D)
  | lst (l : List D)
  | dct0
  | scr (ns : List Int)
  | own (k : Nat)
  | exc (x : Str) (d : D)
  | glb (x : Str)
  | val (v : V)
abbrev St := L2.St
abbrev Env := List (Option D)
inductive Own where
  | lst (ds : List D)
  | dead
abbrev Mem := List Own
/-- where the owned cells stand; the lists that are being made out of sight -/
structure Ph where
  cells : List Addr
  hid : List (Addr × HO)
abbrev Ph.add (ph : Ph) (p : Addr) : Ph := { ph with cells := ph.cells ++ [p] }
abbrev Ph.cut (ph : Ph) (n : Nat) : Ph := { ph with cells := ph.cells.take n }
abbrev fVal : Str := "value"
/-- a tuple that stands still: one that was made, or one of the module's -/
def TupK (K : PySem.W.Frag) (S : Hp) (a : Addr) (xs : List V) : Prop := S a = some (.tup xs) ∨
  ∃ (o : Obj) (its : Array Value) (n : Nat), K.lookup a = some o ∧ o.cls = .type "tuple" ∧ o.data = .seq its n ∧ its.size ≤ sizeLine ∧ Vals xs its.toList
theorem TupK.ext {K : PySem.W.Frag} {S S' : Hp} {a : Addr} {xs : List V} (h : TupK K S a xs) (s : Same S S') : TupK K S' a xs := h.imp (fun z => s _ _ z) fun z => z
theorem TupK.sq {K : PySem.W.Frag} {S H : Hp} {a : Addr} {xs : List V} (h : TupK K S a xs) (s : Same S H) : SqT K H a xs := h.elim (fun z => SqT.of (s _ _ z)) .inr
mutual
inductive Rep (K : PySem.W.Frag) (ph : Ph) (S : Hp) : V → D → Prop
  | non : Rep K ph S .non .non
  | bl (b : Bool) : Rep K ph S (.bl b) (.bl b)
  | int (i : Int) : Rep K ph S (.int i) (.int i)
  | str (x : Str) : Rep K ph S (.str x) (.str x)
  | tup {a : Addr} {xs : List V} {ds : List D} : TupK K S a xs → RepAll K ph S xs ds → Rep K ph S (.ref a) (.tup ds)
  | lst {a : Addr} {xs : List V} {ds : List D} : S a = some (.lst xs) → RepAll K ph S xs ds → Rep K ph S (.ref a) (.lst ds)
  | scr {a : Addr} {ns : List Int} : SqL K S a (ns.map V.int) → Rep K ph S (.ref a) (.scr ns)
  | dct0 {a : Addr} : S a = some (.dK []) → Rep K ph S (.ref a) .dct0
  | own {a : Addr} {k : Nat} : ph.cells[k]? = some a → Rep K ph S (.ref a) (.own k)
  | exc {a C T dd : Addr} {x : Str} {v : V} {d : D} : XA.ErC K x C T → S a = some (erO a C dd) → S dd = some (.xd [(fVal, v)]) → Rep K ph S v d → Rep K ph S (.ref a) (.exc x d)
  | glb {a : Addr} {x : Str} : PySem.W.nsIn K mainGlobals x = some (some (.ref a)) → Rep K ph S (.ref a) (.glb x)
  | val (v : V) : Rep K ph S v (.val v)
inductive RepAll (K : PySem.W.Frag) (ph : Ph) (S : Hp) : List V → List D → Prop
  | nil : RepAll K ph S [] []
  | cons {v : V} {vs : List V} {d : D} {ds : List D} : Rep K ph S v d → RepAll K ph S vs ds → RepAll K ph S (v :: vs) (d :: ds)
end
structure Ext (ph : Ph) (S : Hp) (ph' : Ph) (S' : Hp) : Prop where
  pre : ∀ (k : Nat) (a : Addr), ph.cells[k]? = some a → ph'.cells[k]? = some a
  same : Same S S'
  hid : ph'.hid = ph.hid
theorem Ext.refl {ph : Ph} {S : Hp} : Ext ph S ph S := ⟨fun _ _ h => h, fun _ _ h => h, rfl⟩
theorem Ext.trans {ph ph1 ph2 : Ph} {S S1 S2 : Hp} (a : Ext ph S ph1 S1) (b : Ext ph1 S1 ph2 S2) : Ext ph S ph2 S2 :=
  ⟨fun k x h => b.pre k x (a.pre k x h), a.same.trans b.same, b.hid.trans a.hid⟩
section
variable {K : PySem.W.Frag} {ph ph' : Ph} {S S' : Hp}
mutual
theorem Rep.ext (x : Ext ph S ph' S') : ∀ (d : D) (v : V), Rep K ph S v d → Rep K ph' S' v d
  | .non, _, h => by cases h; exact .non
  | .bl _, _, h => by cases h; exact .bl _
  | .int _, _, h => by cases h; exact .int _
  | .str _, _, h => by cases h; exact .str _
  | .tup ds, _, h => by
    cases h with
    | tup h1 h2 => exact .tup (h1.ext x.same) (RepAll.ext x ds _ h2)
  | .lst ds, _, h => by
    cases h with
    | lst h1 h2 => exact .lst (x.same _ _ h1) (RepAll.ext x ds _ h2)
  | .dct0, _, h => by
    cases h with
    | dct0 h1 => exact .dct0 (x.same _ _ h1)
  | .scr ns, _, h => by
    cases h with
    | scr h1 => exact .scr (x.same.seq h1)
  | .own k, _, h => by
    cases h with
    | own h1 => exact .own (x.pre _ _ h1)
  | .glb _, _, h => by
    cases h with
    | glb h1 => exact .glb h1
  | .exc C d, _, h => by
    cases h with
    | exc h0 h1 h2 h3 => exact .exc h0 (x.same _ _ h1) (x.same _ _ h2) (Rep.ext x d _ h3)
  | .val v, _, h => by cases h; exact .val _
theorem RepAll.ext (x : Ext ph S ph' S') : ∀ (ds : List D) (vs : List V), RepAll K ph S vs ds → RepAll K ph' S' vs ds
  | [], _, h => by cases h; exact .nil
  | d :: ds, _, h => by
    cases h with
    | cons h1 h2 => exact .cons (Rep.ext x d _ h1) (RepAll.ext x ds _ h2)
end
theorem Rep.up {d : D} {v : V} (h : Rep K ph S v d) (x : Ext ph S ph' S') : Rep K ph' S' v d := Rep.ext x d v h
theorem RepAll.up {ds : List D} {vs : List V} (h : RepAll K ph S vs ds) (x : Ext ph S ph' S') : RepAll K ph' S' vs ds := RepAll.ext x ds vs h
theorem RepAll.len : ∀ {vs : List V} {ds : List D}, RepAll K ph S vs ds → vs.length = ds.length
  | _, _, .nil => rfl
  | _, _, .cons _ t => by rw [List.length_cons, List.length_cons, RepAll.len t]
theorem RepAll.get : ∀ {vs : List V} {ds : List D} {i : Nat} {d : D}, RepAll K ph S vs ds → ds[i]? = some d → ∃ v, vs[i]? = some v ∧ Rep K ph S v d
  | _, _, _, _, .nil, e => by simp at e
  | _, _, 0, _, .cons r _, e => by simp at e; subst e; exact ⟨_, rfl, r⟩
  | _, _, i + 1, _, .cons _ t, e => by
    obtain ⟨v, e1, r⟩ := RepAll.get (i := i) t (by simpa using e)
    exact ⟨v, by simpa using e1, r⟩
theorem RepAll.app : ∀ {vs ws : List V} {ds es : List D}, RepAll K ph S vs ds → RepAll K ph S ws es → RepAll K ph S (vs ++ ws) (ds ++ es)
  | _, _, _, _, .nil, q => q
  | _, _, _, _, .cons r t, q => .cons r (RepAll.app t q)
theorem RepAll.take : ∀ {vs : List V} {ds : List D} (n : Nat), RepAll K ph S vs ds → RepAll K ph S (vs.take n) (ds.take n)
  | _, _, 0, _ => .nil
  | _, _, _ + 1, .nil => .nil
  | _, _, n + 1, .cons r t => .cons r (RepAll.take n t)
theorem RepAll.drop : ∀ {vs : List V} {ds : List D} (n : Nat), RepAll K ph S vs ds → RepAll K ph S (vs.drop n) (ds.drop n)
  | _, _, 0, r => r
  | _, _, _ + 1, .nil => .nil
  | _, _, n + 1, .cons r t => RepAll.drop n t
theorem RepAll.rev : ∀ {vs : List V} {ds : List D}, RepAll K ph S vs ds → RepAll K ph S vs.reverse ds.reverse
  | _, _, .nil => .nil
  | _, _, .cons r t => by
    rw [List.reverse_cons, List.reverse_cons]
    exact (RepAll.rev t).app (.cons r .nil)
theorem RepAll.set {v : V} {d : D} (r : Rep K ph S v d) : ∀ {vs : List V} {ds : List D} (i : Nat), RepAll K ph S vs ds → RepAll K ph S (vs.set i v) (ds.set i d)
  | _, _, _, .nil => .nil
  | _, _, 0, .cons _ t => .cons r t
  | _, _, i + 1, .cons q t => .cons q (RepAll.set r i t)
theorem RepAll.rep {v : V} {d : D} (r : Rep K ph S v d) : ∀ n : Nat, RepAll K ph S (List.replicate n v) (List.replicate n d)
  | 0 => .nil
  | n + 1 => .cons r (RepAll.rep r n)
theorem RepAll.ints : ∀ ns : List Int, RepAll K ph S (ns.map V.int) (ns.map D.int)
  | [] => .nil
  | n :: ns => .cons (.int n) (RepAll.ints ns)
end
/-- the state (σ, H) is told by the names' data ρ and the owned cells M -/
structure Sat (K : PySem.W.Frag) (ph : Ph) (S : Hp) (r : Env) (M : Mem) (σ : St) (H : Hp) : Prop where
  sub : Same S H
  len : ph.cells.length = M.length
  nd : ph.cells.Nodup
  trk : ∀ (k : Nat) (a : Addr), ph.cells[k]? = some a → ∃ o, H a = some o
  cell : ∀ (k : Nat) (ds : List D), M[k]? = some (.lst ds) → ∃ a xs, ph.cells[k]? = some a ∧ S a = none ∧ H a = some (.lst xs) ∧ RepAll K ph S xs ds
  hid : ∀ p ∈ ph.hid, H p.1 = some p.2 ∧ S p.1 = none ∧ p.1 ∉ ph.cells
  hnd : (ph.hid.map (·.1)).Nodup
  el : r.length = σ.length
  env : ∀ (i : Nat) (d : D), r[i]? = some (some d) → ∃ v, σ[i]? = some (some v) ∧ Rep K ph S v d
abbrev DQ := D → Mem → Prop
abbrev DTE := Env → Mem → DQ → Prop
abbrev DTT := Env → Mem → (Bool → Mem → Prop) → Prop
abbrev DTA := Env → Mem → (List D → Mem → Prop) → Prop
structure DEnds where
  nx : Env → Mem → Prop
  rt : DQ
  bk : Env → Mem → Prop := fun _ _ => False
  ct : Env → Mem → Prop := fun _ _ => False
abbrev DTS := DEnds → Env → Mem → Prop
/-- behind a piece, from (ph, S): the state as it is then, and what is wanted of it -/
def Aft (K : PySem.W.Frag) (ph : Ph) (S : Hp) (r : Env) (σ : St) (H : Hp) (Q : Ph → Hp → Mem → Prop) : Prop :=
  ∃ ph' S' M, Ext ph S ph' S' ∧ Sat K ph' S' r M σ H ∧ Q ph' S' M
def post (K : PySem.W.Frag) (ph : Ph) (S : Hp) (r : Env) (σ : St) (Q : DQ) : VK := fun v H => Aft K ph S r σ H fun ph' S' M => ∃ d, Rep K ph' S' v d ∧ Q d M
def postT (K : PySem.W.Frag) (ph : Ph) (S : Hp) (r : Env) (σ : St) (Q : Bool → Mem → Prop) : Bool → Hp → Prop := fun b H => Aft K ph S r σ H fun _ _ M => Q b M
def postA (K : PySem.W.Frag) (ph : Ph) (S : Hp) (r : Env) (σ : St) (Q : List D → Mem → Prop) : List V → Hp → Prop := fun vs H => Aft K ph S r σ H fun ph' S' M => ∃ ds, RepAll K ph' S' vs ds ∧ Q ds M
def postN (K : PySem.W.Frag) (ph : Ph) (S : Hp) (Q : Env → Mem → Prop) : St → Hp → Prop := fun σ H => ∃ r, Aft K ph S r σ H fun _ _ M => Q r M
/-- behind a return the names are gone -/
def postR (K : PySem.W.Frag) (ph : Ph) (S : Hp) (Q : DQ) : VK := fun v H => ∃ r σ, post K ph S r σ Q v H
structure DE (X : Cx) (e : Expr) (t : DTE) : Prop where
  pe : PE X e (fun σ H Q => ∃ ph S r M Q0, Sat X.K ph S r M σ H ∧ t r M Q0 ∧ ∀ v H', post X.K ph S r σ Q0 v H' → Q v H')
structure DT (X : Cx) (e : Expr) (t : DTT) : Prop where
  pt : PT X e (fun σ H Q => ∃ ph S r M Q0, Sat X.K ph S r M σ H ∧ t r M Q0 ∧ ∀ b H', postT X.K ph S r σ Q0 b H' → Q b H')
structure DW (X : Cx) (e : Expr) (t : DTT) : Prop where
  pw : PW X e (fun σ H Q => ∃ ph S r M Q0, Sat X.K ph S r M σ H ∧ t r M Q0 ∧ ∀ b H', postT X.K ph S r σ Q0 b H' → Q b H')
structure DA (X : Cx) (es : List Expr) (t : DTA) : Prop where
  pa : PA X es (fun σ H Q => ∃ ph S r M Q0, Sat X.K ph S r M σ H ∧ t r M Q0 ∧ ∀ vs H', postA X.K ph S r σ Q0 vs H' → Q vs H')
def lfS (K : PySem.W.Frag) (t : DTS) : TS := fun E σ H => ∃ ph S r M E0, Sat K ph S r M σ H ∧ t E0 r M ∧ (∀ σ' H', postN K ph S E0.nx σ' H' → E.nx σ' H') ∧ (∀ v H', postR K ph S E0.rt v H' → E.rt v H') ∧ (∀ σ' H', postN K ph S E0.bk σ' H' → E.bk σ' H') ∧ (∀ σ' H', postN K ph S E0.ct σ' H' → E.ct σ' H')
structure DS (X : Cx) (st : Stmt) (t : DTS) : Prop where
  ps : PS X st (lfS X.K t)
structure DSs (X : Cx) (sts : List Stmt) (t : DTS) : Prop where
  pss : PSs X sts (lfS X.K t)
/-! ### weakening the hand layer's judgements -/
section
variable {X : Cx}
theorem PE.weak {e : Expr} {t t' : TE} (h : PE X e t) (w : ∀ σ H Q, t' σ H Q → t σ H Q) : PE X e t' := ⟨fun pins s σ H Q I q => h.run pins s σ H Q I (w _ _ _ q)⟩
theorem PT.weak {e : Expr} {t t' : TT} (h : PT X e t) (w : ∀ σ H Q, t' σ H Q → t σ H Q) : PT X e t' := ⟨fun pins s σ H Q I q => h.run pins s σ H Q I (w _ _ _ q)⟩
theorem PW.weak {e : Expr} {t t' : TT} (h : PW X e t) (w : ∀ σ H Q, t' σ H Q → t σ H Q) : PW X e t' := ⟨fun wh pins s σ H Q I q => h.run wh pins s σ H Q I (w _ _ _ q)⟩
theorem PA.weak {e : List Expr} {t t' : TA} (h : PA X e t) (w : ∀ σ H Q, t' σ H Q → t σ H Q) : PA X e t' := ⟨fun pos pins s σ H Q I q => h.run pos pins s σ H Q I (w _ _ _ q)⟩
theorem PS.weak {e : Stmt} {t t' : TS} (h : PS X e t) (w : ∀ E σ H, t' E σ H → t E σ H) : PS X e t' := ⟨fun pins s σ H Q I q => h.run pins s σ H Q I (w _ _ _ q)⟩
theorem PSs.weak {e : List Stmt} {t t' : TS} (h : PSs X e t) (w : ∀ E σ H, t' E σ H → t E σ H) : PSs X e t' := ⟨fun pins s σ H Q I q => h.run pins s σ H Q I (w _ _ _ q)⟩
/-- from a rule of the hand layer -/
theorem DE.of {e : Expr} {t' : TE} {t : DTE} (h : PE X e t') (w : ∀ ph S r M σ H Q, Sat X.K ph S r M σ H → t r M Q → ∀ Q', (∀ v H', post X.K ph S r σ Q v H' → Q' v H') → t' σ H Q') : DE X e t :=
  ⟨PE.weak h fun σ H Q ⟨ph, S, r, M, Q0, hs, ht, hq⟩ => w ph S r M σ H Q0 hs ht Q hq⟩
theorem DT.of {e : Expr} {t' : TT} {t : DTT} (h : PT X e t') (w : ∀ ph S r M σ H Q, Sat X.K ph S r M σ H → t r M Q → ∀ Q', (∀ v H', postT X.K ph S r σ Q v H' → Q' v H') → t' σ H Q') : DT X e t :=
  ⟨PT.weak h fun σ H Q ⟨ph, S, r, M, Q0, hs, ht, hq⟩ => w ph S r M σ H Q0 hs ht Q hq⟩
theorem DW.of {e : Expr} {t' : TT} {t : DTT} (h : PW X e t') (w : ∀ ph S r M σ H Q, Sat X.K ph S r M σ H → t r M Q → ∀ Q', (∀ v H', postT X.K ph S r σ Q v H' → Q' v H') → t' σ H Q') : DW X e t :=
  ⟨PW.weak h fun σ H Q ⟨ph, S, r, M, Q0, hs, ht, hq⟩ => w ph S r M σ H Q0 hs ht Q hq⟩
theorem DA.of {e : List Expr} {t' : TA} {t : DTA} (h : PA X e t') (w : ∀ ph S r M σ H Q, Sat X.K ph S r M σ H → t r M Q → ∀ Q', (∀ v H', postA X.K ph S r σ Q v H' → Q' v H') → t' σ H Q') : DA X e t :=
  ⟨PA.weak h fun σ H Q ⟨ph, S, r, M, Q0, hs, ht, hq⟩ => w ph S r M σ H Q0 hs ht Q hq⟩
/-- the end of a reading: this value, this state -/
theorem Aft.here {K : PySem.W.Frag} {ph : Ph} {S : Hp} {r : Env} {σ : St} {H : Hp} {M : Mem} {Q : Ph → Hp → Mem → Prop} (h : Sat K ph S r M σ H) (q : Q ph S M) : Aft K ph S r σ H Q := ⟨ph, S, M, .refl, h, q⟩
theorem Aft.up {K : PySem.W.Frag} {ph ph1 : Ph} {S S1 : Hp} {r : Env} {σ : St} {H : Hp} {Q : Ph → Hp → Mem → Prop} (x : Ext ph S ph1 S1) (h : Aft K ph1 S1 r σ H Q) : Aft K ph S r σ H Q :=
  let ⟨ph', S', M, x', hs, q⟩ := h
  ⟨ph', S', M, x.trans x', hs, q⟩
/-! ### the simplest expressions -/
def dC (d : D) : DTE := fun _ M Q => Q d M
theorem de_c {e : Expr} {v : V} {d : D} (h : PE X e (tC v)) (hr : ∀ ph S, Rep X.K ph S v d) : DE X e (dC d) :=
  DE.of h fun ph S r M σ H Q hs ht Q' hq => hq _ _ (Aft.here hs ⟨d, hr _ _, ht⟩)
theorem de_int {i j pos} : DE X (.Constant (.int i) j pos) (dC (.int i)) := de_c pe_int fun _ _ => .int _
theorem de_bl {b j pos} : DE X (.Constant (.bool b) j pos) (dC (.bl b)) := de_c pe_bl fun _ _ => .bl _
theorem de_non {j pos} : DE X (.Constant .none j pos) (dC .non) := de_c pe_non fun _ _ => .non
theorem de_str {x j pos} : DE X (.Constant (.str x) j pos) (dC (.str x)) := de_c pe_str fun _ _ => .str _
def dVar (i : Nat) : DTE := fun r M Q => match r[i]? with
  | some (some d) => Q d M
  | _ => False
theorem de_var {e : Expr} (i : Nat) (h : PE X e (tVar i)) : DE X e (dVar i) :=
  DE.of h fun ph S r M σ H Q hs ht Q' hq => by
    unfold dVar at ht
    split at ht
    · rename_i d e
      obtain ⟨v, e1, rv⟩ := hs.env i d e
      exact ⟨v, e1, hq _ _ (Aft.here hs ⟨d, rv, ht⟩)⟩
    · exact ht.elim
/-- the name in slot i -/
theorem dv (i : Nat) {x : Str} {pos : Pos} (hN : X.N[i]? = some x := by rfl) (hv : Vis X.env.scope x := by first | exact Or.inl rfl | exact Or.inr (Or.inl rfl) | exact Or.inr (Or.inr rfl)) (hd : (x == ("__debug__" : Str)) = false := by decide)
    (hcd : (x == ("__classdict__" : Str)) = false := by decide) : DE X (.Name x pos) (dVar i) := de_var i (pe_var hN hv hd hcd)
theorem de_globI {x : Str} {i : Int} {t : Tok} {pos : Pos} (hg : Gl X x) (hm : X.mg x = some (.int i t)) (hd : (x == ("__debug__" : Str)) = false := by decide) : DE X (.Name x pos) (dC (.int i)) :=
  de_c (pe_glob (v := .int i) hg hm ⟨t, rfl⟩ hd) fun _ _ => .int _
end
end DL
/-! DL2: heaps that change; data as PyData; operators -/
namespace DL
open PySem PySem.Spec PyProof.Rows L2
mutual
def toPy : D → Option PyData
  | .non => some .none
  | .bl b => some (.bool b)
  | .int i => some (.int i)
  | .str x => some (.str x)
  | .tup l => match toPyAll l with
    | some ps => some (.tuple ps)
    | none => none
  | .lst l => match toPyAll l with
    | some ps => some (.list ps)
    | none => none
  | .dct0 => some (.dict [])
  | .scr _ => none
  | .own _ => none
  | .exc _ _ => none
  | .glb _ => none
  | .val _ => none
def toPyAll : List D → Option (List PyData)
  | [] => some []
  | d :: ds => match toPy d, toPyAll ds with
    | some p, some ps => some (p :: ps)
    | _, _ => none
end
section
variable {K : PySem.W.Frag} {ph ph' : Ph} {S S' : Hp} {r : Env} {M : Mem} {σ : St} {H : Hp} {p : Addr}
mutual
theorem Rep.hidP {c : List Addr} {l l' : List (Addr × HO)} : ∀ (d : D) (v : V), Rep K ⟨c, l⟩ S v d → Rep K ⟨c, l'⟩ S v d
  | .non, _, h => by cases h; exact .non
  | .bl _, _, h => by cases h; exact .bl _
  | .int _, _, h => by cases h; exact .int _
  | .str _, _, h => by cases h; exact .str _
  | .tup ds, _, h => by
    cases h with
    | tup h1 h2 => exact .tup h1 (RepAll.hidP ds _ h2)
  | .lst ds, _, h => by
    cases h with
    | lst h1 h2 => exact .lst h1 (RepAll.hidP ds _ h2)
  | .dct0, _, h => by
    cases h with
    | dct0 h1 => exact .dct0 h1
  | .scr ns, _, h => by
    cases h with
    | scr h1 => exact .scr h1
  | .own k, _, h => by
    cases h with
    | own h1 => exact .own h1
  | .glb _, _, h => by
    cases h with
    | glb h1 => exact .glb h1
  | .exc C d, _, h => by
    cases h with
    | exc h0 h1 h2 h3 => exact .exc h0 h1 h2 (Rep.hidP d _ h3)
  | .val v, _, h => by cases h; exact .val _
theorem RepAll.hidP {c : List Addr} {l l' : List (Addr × HO)} : ∀ (ds : List D) (vs : List V), RepAll K ⟨c, l⟩ S vs ds → RepAll K ⟨c, l'⟩ S vs ds
  | [], _, h => by cases h; exact .nil
  | d :: ds, _, h => by
    cases h with
    | cons h1 h2 => exact .cons (Rep.hidP d _ h1) (RepAll.hidP ds _ h2)
end
theorem Rep.hid {c : List Addr} {l l' : List (Addr × HO)} {d : D} {v : V} (h : Rep K ⟨c, l⟩ S v d) : Rep K ⟨c, l'⟩ S v d := Rep.hidP d v h
theorem RepAll.hid {c : List Addr} {l l' : List (Addr × HO)} {d : List D} {v : List V} (h : RepAll K ⟨c, l⟩ S v d) : RepAll K ⟨c, l'⟩ S v d := RepAll.hidP d v h
theorem Sat.read {d : D} {v : V} (h : Sat K ph S r M σ H) (q : Rep K ph S v d) : Rep K ph H v d := q.up ⟨fun _ _ e => e, h.sub, rfl⟩
theorem Sat.readAll {d : List D} {v : List V} (h : Sat K ph S r M σ H) (q : RepAll K ph S v d) : RepAll K ph H v d := q.up ⟨fun _ _ e => e, h.sub, rfl⟩
theorem Sat.noS (h : Sat K ph S r M σ H) (hp : H p = none) : S p = none := h.sub.free hp
theorem Sat.notin (h : Sat K ph S r M σ H) (hp : H p = none) : ∀ (k : Nat), ph.cells[k]? ≠ some p := fun k e => by
  obtain ⟨o, ho⟩ := h.trk k p e
  rw [hp] at ho; cases ho
theorem sameUpd {p : Addr} {o : HO} (h : H p = none) : Same H (upd H p o) := fun b x e => by
  rw [upd_ne (ne_of_none e h)]
  exact e
/-- a new object that is only read -/
theorem Sat.frz (h : Sat K ph S r M σ H) (hp : H p = none) (o : HO) : Ext ph S ph (upd S p o) ∧ Sat K ph (upd S p o) r M σ (upd H p o) := by
  have x : Ext ph S ph (upd S p o) := ⟨fun _ _ e => e, sameUpd (h.noS hp), rfl⟩
  refine ⟨x, fun b y e => ?_, h.len, h.nd, fun k a e => ?_, fun k ds e => ?_, fun q hq => ?_, h.hnd, h.el, fun i d e => ?_⟩
  · by_cases hb : b = p
    · rw [hb, upd_same] at e ⊢
      exact e
    · rw [upd_ne hb] at e ⊢
      exact h.sub b y e
  · obtain ⟨u, hu⟩ := h.trk k a e
    exact ⟨u, sameUpd hp _ _ hu⟩
  · obtain ⟨a, xs, h1, h2, h3, h4⟩ := h.cell k ds e
    have ne : a ≠ p := fun z => by rw [z, hp] at h3; cases h3
    refine ⟨a, xs, h1, ?_, ?_, h4.up x⟩
    · rw [upd_ne ne]; exact h2
    · rw [upd_ne ne]; exact h3
  · obtain ⟨h1, h2, h3⟩ := h.hid q hq
    have ne : q.1 ≠ p := fun z => by rw [z, hp] at h1; cases h1
    exact ⟨by rw [upd_ne ne]; exact h1, by rw [upd_ne ne]; exact h2, h3⟩
  · obtain ⟨v, e1, q⟩ := h.env i d e
    exact ⟨v, e1, q.up x⟩
/-- a new list that may be changed -/
theorem Sat.new (h : Sat K ph S r M σ H) (hp : H p = none) {xs : List V} {ds : List D} (hr : RepAll K ph S xs ds) :
    Ext ph S (ph.add p) S ∧ Sat K (ph.add p) S r (M ++ [.lst ds]) σ (upd H p (.lst xs)) ∧ (ph.add p).cells[M.length]? = some p := by
  have x : Ext ph S (ph.add p) S := ⟨fun k a e => by
    rw [List.getElem?_append_left (List.getElem?_eq_some_iff.mp e).1]; exact e, fun _ _ e => e, rfl⟩
  have here : (ph.add p).cells[M.length]? = some p := by
    rw [← h.len, List.getElem?_append_right (Nat.le_refl _), Nat.sub_self]; rfl
  have old : ∀ (k : Nat) (a : Addr), (ph.add p).cells[k]? = some a → ph.cells[k]? = some a ∨ (k = ph.cells.length ∧ a = p) := fun k a e => by
    by_cases hk : k < ph.cells.length
    · rw [List.getElem?_append_left hk] at e
      exact .inl e
    · rw [List.getElem?_append_right (by omega)] at e
      cases hk' : k - ph.cells.length with
      | zero =>
        rw [hk'] at e
        exact .inr ⟨by omega, (Option.some.inj e).symm⟩
      | succ n => rw [hk'] at e; simp at e
  refine ⟨x, ⟨fun b y e => sameUpd hp _ _ (h.sub b y e), by rw [List.length_append, List.length_append, h.len]; rfl, ?_, fun k a e => ?_, fun k es e => ?_, fun q hq => ?_, h.hnd, h.el, fun i d e => ?_⟩, here⟩
  · rw [List.nodup_append]
    refine ⟨h.nd, by simp, fun a ha b hb z => ?_⟩
    have hb' : b = p := by simpa using hb
    obtain ⟨k, hk⟩ := List.mem_iff_getElem?.mp ha
    exact h.notin hp k (by rw [hk, z, hb'])
  · rcases old k a e with q | ⟨_, q⟩
    · obtain ⟨u, hu⟩ := h.trk k a q
      exact ⟨u, sameUpd hp _ _ hu⟩
    · exact ⟨_, by rw [q, upd_same]⟩
  · by_cases hk : k < M.length
    · rw [List.getElem?_append_left hk] at e
      obtain ⟨a, ys, h1, h2, h3, h4⟩ := h.cell k es e
      exact ⟨a, ys, x.pre _ _ h1, h2, sameUpd hp _ _ h3, h4.up x⟩
    · rw [List.getElem?_append_right (by omega)] at e
      cases hk' : k - M.length with
      | succ n => rw [hk'] at e; simp at e
      | zero =>
        rw [hk'] at e
        have e' : ds = es := by simpa using e
        have k' : k = M.length := by omega
        subst e'
        subst k'
        exact ⟨p, xs, here, h.noS hp, upd_same, hr.up x⟩
  · obtain ⟨h1, h2, h3⟩ := h.hid q hq
    have ne : q.1 ≠ p := fun z => by rw [z, hp] at h1; cases h1
    exact ⟨by rw [upd_ne ne]; exact h1, h2, fun z => (List.mem_append.mp z).elim h3 fun z => ne (by simpa using z)⟩
  · obtain ⟨v, e1, q⟩ := h.env i d e
    exact ⟨v, e1, q.up x⟩
theorem nd_ix {l : List Addr} (hN : l.Nodup) {i j : Nat} {x : Addr} (a : l[i]? = some x) (b : l[j]? = some x) : i = j := by
  obtain ⟨h1, e1⟩ := List.getElem?_eq_some_iff.mp a
  obtain ⟨h2, e2⟩ := List.getElem?_eq_some_iff.mp b
  exact (List.getElem_inj hN).mp (e1.trans e2.symm)
/-- an owned list is changed -/
theorem Sat.put (h : Sat K ph S r M σ H) {k : Nat} {ds es : List D} {xs : List V} (hk : M[k]? = some (.lst ds)) {a : Addr} (ha : ph.cells[k]? = some a) (hr : RepAll K ph S xs es) :
    Sat K ph S r (M.set k (.lst es)) σ (upd H a (.lst xs)) := by
  obtain ⟨a', ys, h1, h2, h3, h4⟩ := h.cell k ds hk
  rw [ha] at h1
  cases h1
  have kl : k < M.length := (List.getElem?_eq_some_iff.mp hk).1
  refine ⟨fun b y e => ?_, by rw [List.length_set]; exact h.len, h.nd, fun j b e => ?_, fun j fs e => ?_, fun q hq => ?_, h.hnd, h.el, h.env⟩
  · rw [upd_ne (fun z => by rw [z, h2] at e; cases e)]
    exact h.sub b y e
  · by_cases hb : b = a
    · exact ⟨_, by rw [hb, upd_same]⟩
    · rw [upd_ne hb]; exact h.trk j b e
  · by_cases hj : j = k
    · subst hj
      rw [List.getElem?_set_self kl] at e
      cases e
      exact ⟨a, xs, ha, h2, upd_same, hr⟩
    · rw [List.getElem?_set_ne (Ne.symm hj)] at e
      obtain ⟨b, zs, q1, q2, q3, q4⟩ := h.cell j fs e
      have nb : b ≠ a := fun z => by rw [z] at q1; exact hj (nd_ix h.nd q1 ha)
      exact ⟨b, zs, q1, q2, by rw [upd_ne nb]; exact q3, q4⟩
  · obtain ⟨h1, h2, h3⟩ := h.hid q hq
    have ne : q.1 ≠ a := fun z => h3 (by rw [z]; exact List.mem_of_getElem? ha)
    exact ⟨by rw [upd_ne ne]; exact h1, h2, h3⟩
/-- an owned list is changed no more -/
theorem Sat.freeze (h : Sat K ph S r M σ H) {k : Nat} {ds : List D} (hk : M[k]? = some (.lst ds)) :
    ∃ a xs, ph.cells[k]? = some a ∧ Ext ph S ph (upd S a (.lst xs)) ∧ Sat K ph (upd S a (.lst xs)) r (M.set k .dead) σ H ∧ Rep K ph (upd S a (.lst xs)) (.ref a) (.lst ds) := by
  obtain ⟨a, xs, h1, h2, h3, h4⟩ := h.cell k ds hk
  have x : Ext ph S ph (upd S a (.lst xs)) := ⟨fun _ _ e => e, sameUpd h2, rfl⟩
  refine ⟨a, xs, h1, x, ⟨fun b y e => ?_, by rw [List.length_set]; exact h.len, h.nd, h.trk, fun j fs e => ?_, fun q hq => ?_, h.hnd, h.el, fun i d e => ?_⟩, .lst upd_same (h4.up x)⟩
  · by_cases hb : b = a
    · rw [hb, upd_same] at e
      rw [hb, ← e]; exact h3
    · rw [upd_ne hb] at e
      exact h.sub b y e
  · have kl : k < M.length := (List.getElem?_eq_some_iff.mp hk).1
    by_cases hj : j = k
    · subst hj
      rw [List.getElem?_set_self kl] at e
      cases e
    · rw [List.getElem?_set_ne (Ne.symm hj)] at e
      obtain ⟨b, zs, q1, q2, q3, q4⟩ := h.cell j fs e
      have nb : b ≠ a := fun z => by rw [z] at q1; exact hj (nd_ix h.nd q1 h1)
      exact ⟨b, zs, q1, by rw [upd_ne nb]; exact q2, q3, q4.up x⟩
  · obtain ⟨g1, g2, g3⟩ := h.hid q hq
    have ne : q.1 ≠ a := fun z => g3 (by rw [z]; exact List.mem_of_getElem? h1)
    exact ⟨g1, by rw [upd_ne ne]; exact g2, g3⟩
  · obtain ⟨v, e1, q⟩ := h.env i d e
    exact ⟨v, e1, q.up x⟩
/-- the names change -/
theorem Sat.setN (h : Sat K ph S r M σ H) {i : Nat} {d : D} {v : V} (q : Rep K ph S v d) : Sat K ph S (r.set i (some d)) M (σ.set i (some v)) H := by
  refine ⟨h.sub, h.len, h.nd, h.trk, h.cell, h.hid, h.hnd, by rw [List.length_set, List.length_set]; exact h.el, fun j e hj => ?_⟩
  by_cases hi : j = i
  · subst hi
    have jl : j < r.length := by
      have := (List.getElem?_eq_some_iff.mp hj).1
      rwa [List.length_set] at this
    rw [List.getElem?_set_self jl] at hj
    cases hj
    exact ⟨v, by rw [List.getElem?_set_self (by rw [← h.el]; exact jl)], q⟩
  · rw [List.getElem?_set_ne (Ne.symm hi)] at hj
    rw [List.getElem?_set_ne (Ne.symm hi)]
    exact h.env j e hj
/-- a new list, out of sight while it is made -/
theorem Sat.hide (h : Sat K ph S r M σ H) (hp : H p = none) (o : HO) : Sat K { ph with hid := (p, o) :: ph.hid } S r M σ (upd H p o) := by
  refine ⟨fun b y e => sameUpd hp _ _ (h.sub b y e), h.len, h.nd, fun k a e => ?_, fun k ds e => ?_, fun q hq => ?_, ?_, h.el, fun i d e => ?_⟩
  · obtain ⟨u, hu⟩ := h.trk k a e
    exact ⟨u, sameUpd hp _ _ hu⟩
  · obtain ⟨a, xs, h1, h2, h3, h4⟩ := h.cell k ds e
    exact ⟨a, xs, h1, h2, sameUpd hp _ _ h3, RepAll.hid h4⟩
  · rcases List.mem_cons.mp hq with e | hq
    · rw [e]
      exact ⟨upd_same, h.noS hp, fun z => by
        obtain ⟨k, hk⟩ := List.mem_iff_getElem?.mp z
        exact h.notin hp k hk⟩
    · obtain ⟨h1, h2, h3⟩ := h.hid q hq
      exact ⟨sameUpd hp _ _ h1, h2, h3⟩
  · refine List.nodup_cons.mpr ⟨fun z => ?_, h.hnd⟩
    obtain ⟨q, hq, e⟩ := List.mem_map.mp z
    obtain ⟨h1, _, _⟩ := h.hid q hq
    have e' : q.1 = p := e
    rw [e', hp] at h1; cases h1
  · obtain ⟨v, e1, q⟩ := h.env i d e
    exact ⟨v, e1, Rep.hid q⟩
theorem hid_ne {p : Addr} {o : HO} {l : List (Addr × HO)} (h : ((p, o) :: l).map (·.1) |>.Nodup) : ∀ q ∈ l, q.1 ≠ p := fun q hq e =>
  (List.nodup_cons.mp h).1 (List.mem_map.mpr ⟨q, hq, e⟩)
/-- the hidden list changes -/
theorem Sat.hset {o o' : HO} {l : List (Addr × HO)} {c : List Addr} (h : Sat K ⟨c, (p, o) :: l⟩ S r M σ H) : Sat K ⟨c, (p, o') :: l⟩ S r M σ (upd H p o') := by
  obtain ⟨g1, g2, g3⟩ := h.hid _ List.mem_cons_self
  have nS : ∀ b y, S b = some y → b ≠ p := fun b y e z => by rw [z, g2] at e; cases e
  have nc : ∀ (k : Nat) (a : Addr), c[k]? = some a → a ≠ p := fun k a e z => g3 (by rw [← z]; exact List.mem_of_getElem? e)
  refine ⟨fun b y e => by rw [upd_ne (nS b y e)]; exact h.sub b y e, h.len, h.nd, fun k a e => ?_, fun k ds e => ?_, fun q hq => ?_, h.hnd, h.el, fun i d e => ?_⟩
  · obtain ⟨u, hu⟩ := h.trk k a e
    exact ⟨u, by rw [upd_ne (nc k a e)]; exact hu⟩
  · obtain ⟨a, xs, h1, h2, h3, h4⟩ := h.cell k ds e
    exact ⟨a, xs, h1, h2, by rw [upd_ne (nc k a h1)]; exact h3, RepAll.hid h4⟩
  · rcases List.mem_cons.mp hq with e | hq
    · rw [e]
      exact ⟨upd_same, g2, g3⟩
    · obtain ⟨h1, h2, h3⟩ := h.hid q (List.mem_cons_of_mem _ hq)
      exact ⟨by rw [upd_ne (hid_ne h.hnd q hq)]; exact h1, h2, h3⟩
  · obtain ⟨v, e1, q⟩ := h.env i d e
    exact ⟨v, e1, Rep.hid q⟩
/-- the hidden list is done: it is only read from now on -/
theorem Sat.hfrz {o : HO} {l : List (Addr × HO)} {c : List Addr} (h : Sat K ⟨c, (p, o) :: l⟩ S r M σ H) : Ext ⟨c, l⟩ S ⟨c, l⟩ (upd S p o) ∧ Sat K ⟨c, l⟩ (upd S p o) r M σ H := by
  obtain ⟨g1, g2, g3⟩ := h.hid _ List.mem_cons_self
  have x : Ext ⟨c, l⟩ S ⟨c, l⟩ (upd S p o) := ⟨fun _ _ e => e, sameUpd g2, rfl⟩
  refine ⟨x, fun b y e => ?_, h.len, h.nd, h.trk, fun k ds e => ?_, fun q hq => ?_, (List.nodup_cons.mp h.hnd).2, h.el, fun i d e => ?_⟩
  · by_cases hb : b = p
    · rw [hb, upd_same] at e
      rw [hb, ← e]; exact g1
    · rw [upd_ne hb] at e
      exact h.sub b y e
  · obtain ⟨a, xs, h1, h2, h3, h4⟩ := h.cell k ds e
    have ne : a ≠ p := fun z => g3 (by rw [← z]; exact List.mem_of_getElem? h1)
    exact ⟨a, xs, h1, by rw [upd_ne ne]; exact h2, h3, (RepAll.hid h4).up x⟩
  · obtain ⟨h1, h2, h3⟩ := h.hid q (List.mem_cons_of_mem _ hq)
    exact ⟨h1, by rw [upd_ne (hid_ne h.hnd q hq)]; exact h2, h3⟩
  · obtain ⟨v, e1, q⟩ := h.env i d e
    exact ⟨v, e1, (Rep.hid q).up x⟩
/-- .. or it is owned from now on -/
theorem Sat.hown {xs : List V} {ds : List D} {l : List (Addr × HO)} {c : List Addr} (h : Sat K ⟨c, (p, .lst xs) :: l⟩ S r M σ H) (q : RepAll K ⟨c, l⟩ S xs ds) :
    Ext ⟨c, l⟩ S ⟨c ++ [p], l⟩ S ∧ Sat K ⟨c ++ [p], l⟩ S r (M ++ [.lst ds]) σ H ∧ (c ++ [p])[M.length]? = some p := by
  obtain ⟨g1, g2, g3⟩ := h.hid _ List.mem_cons_self
  have hl : c.length = M.length := h.len
  have x : Ext ⟨c, l⟩ S ⟨c ++ [p], l⟩ S := ⟨fun k a e => by
    show (c ++ [p])[k]? = _
    rw [List.getElem?_append_left (List.getElem?_eq_some_iff.mp e).1]; exact e, fun _ _ e => e, rfl⟩
  have here : (c ++ [p])[M.length]? = some p := by rw [← hl, List.getElem?_append_right (Nat.le_refl _), Nat.sub_self]; rfl
  have old : ∀ (k : Nat) (a : Addr), (c ++ [p])[k]? = some a → c[k]? = some a ∨ a = p := fun k a e => by
    by_cases hk : k < c.length
    · rw [List.getElem?_append_left hk] at e
      exact .inl e
    · rw [List.getElem?_append_right (by omega)] at e
      cases hk' : k - c.length with
      | zero => rw [hk'] at e; exact .inr (Option.some.inj e).symm
      | succ n => rw [hk'] at e; simp at e
  refine ⟨x, ⟨h.sub, ?_, ?_, fun k a e => ?_, fun k es e => ?_, fun q hq => ?_, (List.nodup_cons.mp h.hnd).2, h.el, fun i d e => ?_⟩, here⟩
  · show (c ++ [p]).length = _
    rw [List.length_append, List.length_append, hl]; rfl
  · show (c ++ [p]).Nodup
    rw [List.nodup_append]
    exact ⟨h.nd, by simp, fun a ha b hb z => g3 (by rw [show b = p by simpa using hb] at z; rw [← z]; exact ha)⟩
  · rcases old k a e with z | z
    · exact h.trk k a z
    · exact ⟨_, by rw [z]; exact g1⟩
  · by_cases hk : k < M.length
    · rw [List.getElem?_append_left hk] at e
      obtain ⟨a, ys, h1, h2, h3, h4⟩ := h.cell k es e
      exact ⟨a, ys, x.pre _ _ h1, h2, h3, (RepAll.hid h4).up x⟩
    · rw [List.getElem?_append_right (by omega)] at e
      cases hk' : k - M.length with
      | succ n => rw [hk'] at e; simp at e
      | zero =>
        rw [hk'] at e
        have e' : ds = es := by simpa using e
        have k' : k = M.length := by omega
        subst e'
        subst k'
        exact ⟨p, xs, here, g2, g1, q.up x⟩
  · obtain ⟨h1, h2, h3⟩ := h.hid q (List.mem_cons_of_mem _ hq)
    exact ⟨h1, h2, fun z => by
      rcases List.mem_append.mp z with z | z
      · exact h3 z
      · exact hid_ne h.hnd q hq (by simpa using z)⟩
  · obtain ⟨v, e1, q⟩ := h.env i d e
    exact ⟨v, e1, (Rep.hid q).up x⟩
/-! ### data as the library's data -/
variable {X : Cx} {pins : List (Addr × Obj)} {s : Shared}
mutual
theorem Rep.reads (I : Inv X pins σ H s) : ∀ (d : D) (v : V) (u : Value) (p : PyData), Rep X.K ph H v d → RelV v u → toPy d = some p → ∃ as, Reads s.heap u p as ∧ ∀ a ∈ as, H a ≠ none
  | .non, _, _, _, h, rv, e => by cases h; cases rv; cases e; exact ⟨_, .none, fun _ z => nomatch z⟩
  | .bl _, _, _, _, h, rv, e => by cases h; cases rv; cases e; exact ⟨_, .bool _, fun _ z => nomatch z⟩
  | .int _, _, _, _, h, rv, e => by cases h; obtain ⟨t, rfl⟩ := rv; cases e; exact ⟨_, .int _ _, fun _ z => nomatch z⟩
  | .str _, _, _, _, h, rv, e => by cases h; obtain ⟨t, rfl⟩ := rv; cases e; exact ⟨_, .str _ _, fun _ z => nomatch z⟩
  | .tup ds, _, _, _, h, rv, e => by
    cases h with
    | tup h1 h2 =>
      cases rv
      simp only [toPy] at e
      split at e
      · rename_i ps ep
        cases e
        obtain ⟨its, rx, ⟨o, ho, hc, n, hd⟩, _⟩ := I.tuple (h1.sq fun _ _ z => z)
        obtain ⟨as, q, qa⟩ := RepAll.reads I ds _ its ps h2 rx ep
        exact ⟨_, .tuple ho hc hd q, qa⟩
      · cases e
  | .lst ds, _, _, _, h, rv, e => by
    cases h with
    | lst h1 h2 =>
      cases rv
      simp only [toPy] at e
      split at e
      · rename_i ps ep
        cases e
        obtain ⟨its, rx, ⟨o, n, ho, hc, _, hd⟩, _⟩ := I.list (SqL.of h1)
        obtain ⟨as, q, qa⟩ := RepAll.reads I ds _ its ps h2 rx ep
        refine ⟨_, .list ho hc hd q, fun a ha => ?_⟩
        rcases List.mem_cons.mp ha with e | ha
        · rw [e, h1]; exact fun z => nomatch z
        · exact qa a ha
      · cases e
  | .dct0, _, _, _, h, rv, e => by
    cases h with
    | dct0 h1 =>
      cases rv
      cases e
      obtain ⟨_, _, vs, hk, o, es, ep, ho, hx, hd, _, he, _⟩ := I.hok _ _ h1
      cases hk
      have e0 : es = #[] := by
        cases es with
        | mk l =>
          cases l with
          | nil => rfl
          | cons x l => exact nomatch he
      subst e0
      refine ⟨_, .dict ho hx.1 hd .nil .nil, fun a ha => ?_⟩
      simp at ha
      rw [ha, h1]; exact fun z => nomatch z
  | .scr ns, _, _, _, _, _, e => by cases e
  | .own _, _, _, _, _, _, e => by cases e
  | .exc _ _, _, _, _, _, _, e => by cases e
  | .glb _, _, _, _, _, _, e => by cases e
  | .val _, _, _, _, _, _, e => by cases e
theorem RepAll.reads (I : Inv X pins σ H s) : ∀ (ds : List D) (vs : List V) (us : List Value) (ps : List PyData), RepAll X.K ph H vs ds → Vals vs us → toPyAll ds = some ps → ∃ as, ReadsAll s.heap us ps as ∧ ∀ a ∈ as, H a ≠ none
  | [], _, _, _, h, rv, e => by cases h; cases rv; cases e; exact ⟨_, .nil, fun _ z => nomatch z⟩
  | d :: ds, _, _, _, h, rv, e => by
    cases h with
    | cons h1 h2 =>
      cases rv with
      | cons r1 r2 =>
        simp only [toPyAll] at e
        split at e
        · rename_i p ps ep eps
          cases e
          obtain ⟨as, q1, a1⟩ := Rep.reads I d _ _ p h1 r1 ep
          obtain ⟨bs, q2, a2⟩ := RepAll.reads I ds _ _ ps h2 r2 eps
          refine ⟨_, .cons q1 q2, fun a ha => ?_⟩
          rcases List.mem_append.mp ha with ha | ha
          · exact a1 a ha
          · exact a2 a ha
        · cases e
end
end
end DL
/-! DL3: operators, comparisons, truth, displays -/
namespace DL
open PySem PySem.Spec PyProof.Rows L2
variable {X : Cx}
/-! ### two values -/
abbrev G2 := D → D → Mem → DQ → Prop
def OpD (X : Cx) (f : Value → Value → Sem Value) (g : G2) : Prop :=
  ∀ (pins : List (Addr × Obj)) (s : Shared) (σ : St) (H : Hp) (ph : Ph) (S : Hp) (r : Env) (M : Mem) (x y : V) (dx dy : D) (v u : Value) (Q : DQ),
    Inv X pins σ H s → Sat X.K ph S r M σ H → RelV x v → RelV y u → Rep X.K ph S x dx → Rep X.K ph S y dy → g dx dy M Q →
    wpAny (model X.prog X.w) X.A (f v u) (EP X pins σ (post X.K ph S r σ Q)) X.xe s
theorem OpD.of {f : Value → Value → Sem Value} {r2 : R2} {g : G2} (h : OpR X f r2)
    (w : ∀ (σ : St) (H : Hp) (ph : Ph) (S : Hp) (r : Env) (M : Mem) (x y : V) (dx dy : D) (Q : DQ), Sat X.K ph S r M σ H → Rep X.K ph S x dx → Rep X.K ph S y dy → g dx dy M Q → r2 x y H (post X.K ph S r σ Q)) : OpD X f g :=
  fun pins s σ H ph S r M x y dx dy v u Q I hs rx ry qx qy hg => h pins s σ H x y v u _ I rx ry (w σ H ph S r M x y dx dy Q hs qx qy hg)
theorem binD {a b : Expr} {ta tb : DTE} (ha : DE X a ta) (hb : DE X b tb) {pins : List (Addr × Obj)} {s : Shared} {σ : St} {H : Hp} {ph : Ph} {S : Hp} {r : Env} {M : Mem} {g : D → D → Mem → Prop}
    (I : Inv X pins σ H s) (hs : Sat X.K ph S r M σ H) (h : ta r M fun x M1 => tb r M1 fun y M2 => g x y M2) {α : Type} {Q : α → Shared → Prop} {f : Value → Value → Sem α}
    (hf : ∀ v u s2 x y dx dy H2 ph2 S2 M2, Ext ph S ph2 S2 → Inv X pins σ H2 s2 → Sat X.K ph2 S2 r M2 σ H2 → RelV x v → RelV y u → Rep X.K ph2 S2 x dx → Rep X.K ph2 S2 y dy → g dx dy M2 → wpAny (model X.prog X.w) X.A (f v u) Q X.xe s2) :
    wpAny (model X.prog X.w) X.A (eval a X.env) (fun v s1 => wpAny (model X.prog X.w) X.A (eval b X.env) (fun u s2 => wpAny (model X.prog X.w) X.A (f v u) Q X.xe s2) X.xe s1) X.xe s := by
  refine thn (ha.pe.run pins s σ H _ I ⟨ph, S, r, M, _, hs, h, fun _ _ q => q⟩) fun v s1 ⟨x, H1, I1, r1, ph1, S1, M1, x1, hs1, dx, q1, h1⟩ => ?_
  refine thn (hb.pe.run pins s1 σ H1 _ I1 ⟨ph1, S1, r, M1, _, hs1, h1, fun _ _ q => q⟩) fun u s2 ⟨y, H2, I2, r2, ph2, S2, M2, x2, hs2, dy, q2, h2⟩ => ?_
  exact hf v u s2 x y dx dy H2 ph2 S2 M2 (x1.trans x2) I2 hs2 r1 r2 (q1.up x2) q2 h2
def dOp (g : G2) (ta tb : DTE) : DTE := fun r M Q => ta r M fun x M1 => tb r M1 fun y M2 => g x y M2 Q
theorem EP.up {pins : List (Addr × Obj)} {σ : St} {ph ph1 : Ph} {S S1 : Hp} {r : Env} {Q : DQ} {u : Value} {s : Shared} (x : Ext ph S ph1 S1) (h : EP X pins σ (post X.K ph1 S1 r σ Q) u s) {Q' : VK} (w : ∀ v H', post X.K ph S r σ Q v H' → Q' v H') : EP X pins σ Q' u s :=
  let ⟨v, H', I, rv, q⟩ := h
  ⟨v, H', I, rv, w _ _ (Aft.up x q)⟩
theorem de_op {a b : Expr} {ta tb : DTE} {op : Operator} {g : G2} {pos : Pos} (ho : OpD X (binaryOp op) g) (ha : DE X a ta) (hb : DE X b tb) : DE X (.BinOp a op b pos) (dOp g ta tb) :=
  ⟨⟨fun pins s σ H Q I ⟨ph, S, r, M, Q0, hs, ht, hq⟩ => wpAny_BinOp (binD ha hb I hs ht fun v u s2 x y dx dy H2 ph2 S2 M2 x2 I2 hs2 rx ry qx qy h =>
    thn (ho pins s2 σ H2 ph2 S2 r M2 x y dx dy v u Q0 I2 hs2 rx ry qx qy h) fun _ _ q => EP.up x2 q hq)⟩⟩
theorem de_cmp {a b : Expr} {ta tb : DTE} {op : CmpOp} {g : G2} {pos : Pos} (ho : OpD X (compareOp op) g) (ha : DE X a ta) (hb : DE X b tb) (hm : behindInMarks op b = false) : DE X (.Compare a [op] [b] pos) (dOp g ta tb) :=
  ⟨⟨fun pins s σ H Q I ⟨ph, S, r, M, Q0, hs, ht, hq⟩ => wpAny_Compare1 (binD ha hb I hs ht fun v u s2 x y dx dy H2 ph2 S2 M2 x2 I2 hs2 rx ry qx qy h =>
    thn (ho pins s2 σ H2 ph2 S2 r M2 x y dx dy v u Q0 I2 hs2 rx ry qx qy h) fun _ _ q => EP.up x2 q hq) hm⟩⟩
/-! ### arithmetic -/
/-- of moderate size -/
def Sm (i : Int) : Prop := i.natAbs.log2 < 400000
theorem Sm.of {i : Int} (n : Nat) (h : i.natAbs < 2 ^ n) (hn : n ≤ 400000 := by decide) : Sm i := by
  unfold Sm
  by_cases h0 : i.natAbs = 0
  · rw [h0]; decide
  · exact Nat.lt_of_lt_of_le ((Nat.log2_lt h0).mpr h) hn
def rBin (C : Int → Int → Prop) (f : Int → Int → Int) : G2 := fun x y M Q => match x, y with
  | .int i, .int j => C i j ∧ Q (.int (f i j)) M
  | _, _ => False
theorem opd_int {F : Value → Value → Sem Value} {C : Int → Int → Prop} {f : Int → Int → Int} (h : OpR X F (rI C fun i j => .int (f i j))) : OpD X F (rBin C f) :=
  OpD.of h fun σ H ph S r M x y dx dy Q hs rx ry hg => by
    cases dx <;> cases dy <;> first | exact hg.elim | skip
    cases rx; cases ry
    exact ⟨_, _, rfl, rfl, hg.1, Aft.here hs ⟨_, .int _, hg.2⟩⟩
theorem opd_sub : OpD X (binaryOp .Sub) (rBin (fun _ _ => True) fun i j => i - j) := opd_int (fun pins s σ H x y v u Q I r1 r2 ⟨i, j, e1, e2, _, q⟩ => op_sub pins s σ H x y v u Q I r1 r2 ⟨i, j, e1, e2, q⟩)
def CMul (i j : Int) : Prop := Sm i ∧ Sm j
def CDiv (_ j : Int) : Prop := j ≠ 0 ∧ j.natAbs.log2 < 9000
def CMod (_ j : Int) : Prop := j ≠ 0
def CPow (a n : Int) : Prop := 0 ≤ n ∧ (Builtin.Int.intBits a : Int) * n ≤ 2 ^ 27
theorem opd_mulI : OpD X (binaryOp .Mult) (rBin CMul fun i j => i * j) := opd_int (fun pins s σ H x y v u Q I r1 r2 ⟨i, j, e1, e2, c, q⟩ => op_mulW pins s σ H x y v u Q I r1 r2 ⟨i, j, e1, e2, by have h1 := c.1; have h2 := c.2; unfold Sm at h1 h2; unfold L2.CMulW; omega, q⟩)
theorem op_fdivG : OpR X (binaryOp .FloorDiv) (rI CDiv fun i j => .int (i.fdiv j)) := opI fun i j _ _ _ _ _ hc q => floordiv_int hc.1 q (.inl (PyProof.noPylong_of_log2 hc.2))
theorem opd_fdiv : OpD X (binaryOp .FloorDiv) (rBin CDiv fun i j => i.fdiv j) := opd_int op_fdivG
theorem opd_mod : OpD X (binaryOp .Mod) (rBin CMod fun i j => i.fmod j) := opd_int op_modN
theorem op_powG : OpR X (binaryOp .Pow) (rI CPow fun i j => .int (i ^ j.toNat)) := opI fun i j _ _ _ _ _ hc q => pow_int hc.1 hc.2 q
theorem opd_pow : OpD X (binaryOp .Pow) (rBin CPow fun i j => i ^ j.toNat) := opd_int op_powG
/-- x + y -/
def gAdd : G2 := fun x y M Q => match x, y with
  | .int i, .int j => Q (.int (i + j)) M
  | .str a, .str b => a.length + b.length ≤ sizeLine ∧ Q (.str (a ++ b)) M
  | .lst a, .lst b => a.length + b.length ≤ sizeLine ∧ Q (.lst (a ++ b)) M
  | .tup a, .tup b => a.length + b.length ≤ sizeLine ∧ Q (.tup (a ++ b)) M
  | .own k, .lst b => match M[k]? with
    | some (.lst a) => a.length + b.length ≤ sizeLine ∧ Q (.lst (a ++ b)) M
    | _ => False
  | .lst b, .own k => match M[k]? with
    | some (.lst a) => b.length + a.length ≤ sizeLine ∧ Q (.lst (b ++ a)) M
    | _ => False
  | _, _ => False
theorem Aft.frz {K : PySem.W.Frag} {ph : Ph} {S : Hp} {r : Env} {σ : St} {H : Hp} {M : Mem} {p : Addr} {o : HO} {Q : Ph → Hp → Mem → Prop} (h : Sat K ph S r M σ H) (hp : H p = none) (q : Ext ph S ph (upd S p o) → Q ph (upd S p o) M) : Aft K ph S r σ (upd H p o) Q :=
  let ⟨x, hs⟩ := h.frz hp o
  ⟨ph, _, M, x, hs, q x⟩
theorem opd_add : OpD X (binaryOp .Add) gAdd := by
  intro pins s σ H ph S r M x y dx dy v u Q I hs rx ry qx qy hg
  cases dx <;> cases dy <;> first | exact hg.elim | skip
  · cases qx; cases qy
    exact op_add pins s σ H _ _ v u _ I rx ry ⟨_, _, rfl, rfl, Aft.here hs ⟨_, .int _, hg⟩⟩
  · cases qx; cases qy
    exact op_add_str pins s σ H _ _ v u _ I rx ry ⟨_, _, rfl, rfl, hg.1, Aft.here hs ⟨_, .str _, hg.2⟩⟩
  · cases qx with
    | tup h1 h2 =>
      cases qy with
      | tup h3 h4 =>
        obtain ⟨hz, q⟩ := hg
        rename_i xs _ ys
        have e1 := h2.len
        have e2 := h4.len
        refine op_catA pins s σ H _ _ v u _ I rx ry ⟨_, _, xs, ys, rfl, rfl, h1.sq hs.sub, h3.sq hs.sub, by omega, fun z => ?_, fun _ z => ?_, fun _ _ p hp => Aft.frz hs hp fun x => ⟨_, .tup (.inl upd_same) ((h2.app h4).up x), q⟩⟩
        · refine Aft.here hs ⟨_, .tup h3 ?_, q⟩
          rw [z] at h2
          cases h2
          exact h4
        · refine Aft.here hs ⟨_, .tup h1 ?_, q⟩
          rw [z] at h4
          cases h4
          rw [List.append_nil]; exact h2
  · cases qx with
    | lst h1 h2 =>
      cases qy with
      | lst h3 h4 =>
        have e1 := h2.len
        have e2 := h4.len
        exact op_cat pins s σ H _ _ v u _ I rx ry ⟨_, _, _, _, rfl, rfl, hs.sub _ _ h1, hs.sub _ _ h3, by have := hg.1; omega, fun p hp => Aft.frz hs hp fun x => ⟨_, .lst upd_same ((h2.app h4).up x), hg.2⟩⟩
  · cases qx with
    | lst h1 h2 =>
      cases qy with
      | own h3 =>
        rename_i b k _ _ _
        simp only [gAdd] at hg
        split at hg
        · rename_i a hk
          obtain ⟨a1, xs1, c1, c2, c3, c4⟩ := hs.cell k a hk
          rw [h3] at c1; cases c1
          have e1 := h2.len
          have e2 := c4.len
          exact op_cat pins s σ H _ _ v u _ I rx ry ⟨_, _, _, _, rfl, rfl, hs.sub _ _ h1, c3, by have := hg.1; omega, fun p hp => Aft.frz hs hp fun x => ⟨_, .lst upd_same ((h2.app c4).up x), hg.2⟩⟩
        · exact hg.elim
  · cases qx with
    | own h3 =>
      cases qy with
      | lst h1 h2 =>
        rename_i k b _ _ _
        simp only [gAdd] at hg
        split at hg
        · rename_i a hk
          obtain ⟨a1, xs1, c1, c2, c3, c4⟩ := hs.cell k a hk
          rw [h3] at c1; cases c1
          have e1 := h2.len
          have e2 := c4.len
          exact op_cat pins s σ H _ _ v u _ I rx ry ⟨_, _, _, _, rfl, rfl, c3, hs.sub _ _ h1, by have := hg.1; omega, fun p hp => Aft.frz hs hp fun x => ⟨_, .lst upd_same ((c4.app h2).up x), hg.2⟩⟩
        · exact hg.elim
/-! ### comparisons -/
def gCmpI (p : Int → Int → Bool) : G2 := fun x y M Q => match x, y with
  | .int i, .int j => Q (.bl (p i j)) M
  | _, _ => False
theorem opd_cmpI {F : Value → Value → Sem Value} {p : Int → Int → Bool} (h : OpR X F (rI0 fun i j => .bl (p i j))) : OpD X F (gCmpI p) :=
  OpD.of h fun σ H ph S r M x y dx dy Q hs rx ry hg => by
    cases dx <;> cases dy <;> first | exact hg.elim | skip
    cases rx; cases ry
    exact ⟨_, _, rfl, rfl, Aft.here hs ⟨_, .bl _, hg⟩⟩
theorem opd_lt : OpD X (compareOp .Lt) (gCmpI fun i j => decide (i < j)) := opd_cmpI op_lt
theorem opd_le : OpD X (compareOp .LtE) (gCmpI fun i j => decide (i ≤ j)) := opd_cmpI op_le
theorem opd_gt : OpD X (compareOp .Gt) (gCmpI fun i j => decide (j < i)) := opd_cmpI op_gt
theorem opd_ge : OpD X (compareOp .GtE) (gCmpI fun i j => decide (j ≤ i)) := opd_cmpI op_ge
/-- an owned list as it stands -/
def res (M : Mem) : D → D
  | .own k => match M[k]? with
    | some (.lst ds) => .lst ds
    | _ => .own k
  | d => d
theorem Rep.res {K : PySem.W.Frag} {ph : Ph} {S : Hp} {r : Env} {M : Mem} {σ : St} {H : Hp} {v : V} {d : D} (hs : Sat K ph S r M σ H) (q : Rep K ph S v d) : Rep K ph H v (res M d) := by
  cases d <;> first | exact hs.read q | skip
  rename_i k
  unfold DL.res
  dsimp only
  split
  · rename_i ds hk
    cases q with
    | own h =>
      obtain ⟨a, xs, c1, c2, c3, c4⟩ := hs.cell k ds hk
      rw [h] at c1; cases c1
      exact .lst c3 (hs.readAll c4)
  · exact hs.read q
/-- data that may be compared -/
def cmpd (d : D) : Option PyData := match toPy d with
  | some p => if SeqAt.shaped p = true then some p else none
  | none => none
theorem cmpd_some {d : D} {p : PyData} (h : cmpd d = some p) : toPy d = some p ∧ SeqAt.shaped p = true := by
  unfold cmpd at h
  split at h
  · rename_i p' e
    by_cases hs : SeqAt.shaped p' = true
    · rw [if_pos hs] at h; cases h; exact ⟨e, hs⟩
    · rw [if_neg hs] at h; cases h
  · cases h
/-- x == y of two data read; none: not covered -/
def eqB (x y : D) : Option Bool := match x, y with
  | .str a, .str b => some (a == b)
  | x, y => match cmpd x, cmpd y with
    | some p, some q => some (PyData.eqv p q)
    | _, _ => none
theorem eqB_of {x y : D} {b : Bool} (h : eqB x y = some b) : (∃ p q, x = .str p ∧ y = .str q ∧ b = (p == q)) ∨ ∃ p q, cmpd x = some p ∧ cmpd y = some q ∧ b = PyData.eqv p q := by
  unfold eqB at h
  split at h
  · exact .inl ⟨_, _, rfl, rfl, (Option.some.inj h).symm⟩
  · split at h
    · rename_i e1 e2; exact .inr ⟨_, _, e1, e2, (Option.some.inj h).symm⟩
    · cases h
def gEq : G2 := fun x y M Q => match eqB (res M x) (res M y) with
  | some b => Q (.bl b) M
  | none => False
def gNe : G2 := fun x y M Q => match eqB (res M x) (res M y) with
  | some b => Q (.bl (!b)) M
  | none => False
theorem res_str {M : Mem} {d : D} {z : Str} (h : res M d = .str z) : d = .str z := by
  cases d <;> first | exact h | skip
  rename_i k
  unfold res at h
  dsimp only at h
  split at h <;> cases h
theorem opd_eq (hu : X.A.units + 64 < cLine) : OpD X (compareOp .Eq) gEq := by
  intro pins s σ H ph S r M x y dx dy v u Q I hs rx ry qx qy hg
  unfold gEq at hg
  split at hg
  · rename_i b e
    rcases eqB_of e with ⟨p, q, e1, e2, rfl⟩ | ⟨p, q, e1, e2, rfl⟩
    · cases res_str e1; cases res_str e2
      cases qx; cases qy
      obtain ⟨_, rfl⟩ := rx
      obtain ⟨_, rfl⟩ := ry
      exact PyProof.Rows.eq_str ⟨.bl _, H, I, rfl, Aft.here hs ⟨_, .bl _, hg⟩⟩
    · obtain ⟨as, h1, _⟩ := Rep.reads I _ _ _ _ (Rep.res hs qx) rx (cmpd_some e1).1
      obtain ⟨bs, h2, _⟩ := Rep.reads I _ _ _ _ (Rep.res hs qy) ry (cmpd_some e2).1
      exact SeqAt.compareEq_shaped h1 h2 (cmpd_some e1).2 (cmpd_some e2).2 hu ⟨.bl _, H, I, rfl, Aft.here hs ⟨_, .bl _, hg⟩⟩
  · exact hg.elim
theorem opd_ne (hu : X.A.units + 64 < cLine) : OpD X (compareOp .NotEq) gNe := by
  intro pins s σ H ph S r M x y dx dy v u Q I hs rx ry qx qy hg
  unfold gNe at hg
  split at hg
  · rename_i b e
    rcases eqB_of e with ⟨p, q, e1, e2, rfl⟩ | ⟨p, q, e1, e2, rfl⟩
    · cases res_str e1; cases res_str e2
      cases qx; cases qy
      obtain ⟨_, rfl⟩ := rx
      obtain ⟨_, rfl⟩ := ry
      exact PyProof.Rows.ne_str ⟨.bl _, H, I, rfl, Aft.here hs ⟨_, .bl _, hg⟩⟩
    · obtain ⟨as, h1, _⟩ := Rep.reads I _ _ _ _ (Rep.res hs qx) rx (cmpd_some e1).1
      obtain ⟨bs, h2, _⟩ := Rep.reads I _ _ _ _ (Rep.res hs qy) ry (cmpd_some e2).1
      exact SeqAt.compareNe_shaped h1 h2 (cmpd_some e1).2 (cmpd_some e2).2 hu ⟨.bl _, H, I, rfl, Aft.here hs ⟨_, .bl _, hg⟩⟩
  · exact hg.elim
/-- x in y, y a list -/
def gIn (neg : Bool) : G2 := fun x y M Q => match cmpd (res M x), cmpd (res M y) with
  | some p, some (.list ps) => Q (.bl ((ps.any fun z => PyData.eqv z p) != neg)) M
  | _, _ => False
theorem opd_in (hu : X.A.units + 65 < cLine) : OpD X (compareOp .In) (gIn false) := by
  intro pins s σ H ph S r M x y dx dy v u Q I hs rx ry qx qy hg
  unfold gIn at hg
  split at hg
  · rename_i p ps e1 e2
    obtain ⟨as, h1, _⟩ := Rep.reads I _ _ _ _ (Rep.res hs qx) rx (cmpd_some e1).1
    obtain ⟨bs, h2, _⟩ := Rep.reads I _ _ _ _ (Rep.res hs qy) ry (cmpd_some e2).1
    refine SeqAt.in_list_reads h2 h1 (SeqAt.canLay_of_shaped (cmpd_some e2).2) (SeqAt.canLay_of_shaped (cmpd_some e1).2) (room_in_shaped (cmpd_some e1).2 hu) ⟨.bl _, H, I, rfl, Aft.here hs ⟨_, .bl _, ?_⟩⟩
    rw [Bool.bne_false] at hg; exact hg
  · exact hg.elim
theorem opd_notin (hu : X.A.units + 65 < cLine) : OpD X (compareOp .NotIn) (gIn true) := by
  intro pins s σ H ph S r M x y dx dy v u Q I hs rx ry qx qy hg
  unfold gIn at hg
  split at hg
  · rename_i p ps e1 e2
    obtain ⟨as, h1, _⟩ := Rep.reads I _ _ _ _ (Rep.res hs qx) rx (cmpd_some e1).1
    obtain ⟨bs, h2, _⟩ := Rep.reads I _ _ _ _ (Rep.res hs qy) ry (cmpd_some e2).1
    refine SeqAt.notIn_list_reads h2 h1 (SeqAt.canLay_of_shaped (cmpd_some e2).2) (SeqAt.canLay_of_shaped (cmpd_some e1).2) (room_in_shaped (cmpd_some e1).2 hu) ⟨.bl _, H, I, rfl, Aft.here hs ⟨_, .bl _, ?_⟩⟩
    rw [Bool.bne_true] at hg; exact hg
  · exact hg.elim
end DL
/-! DL4: is, truth, chains, and/or/not, displays, subscripts, argument lists -/
namespace DL
open PySem PySem.Spec PyProof.Rows L2
variable {X : Cx}
/-! ### is -/
/-- x is y, y written None, True or False -/
def isB (x y : D) : Option Bool := match x, y with
  | .non, .non => some true
  | .bl b, .non => some false
  | .int _, .non => some false
  | .str _, .non => some false
  | .tup _, .non => some false
  | .lst _, .non => some false
  | .own _, .non => some false
  | .dct0, .non => some false
  | .exc _ _, .non => some false
  | .bl a, .bl b => some (decide (a = b))
  | .non, .bl _ => some false
  | .int _, .bl _ => some false
  | .str _, .bl _ => some false
  | .tup _, .bl _ => some false
  | .lst _, .bl _ => some false
  | .own _, .bl _ => some false
  | .dct0, .bl _ => some false
  | _, _ => none
def gIs (neg : Bool) : G2 := fun x y M Q => match isB x y with
  | some b => Q (.bl (b != neg)) M
  | none => False
theorem opd_is : OpD X (compareOp .Is) (gIs false) := by
  intro pins s σ H ph S r M x y dx dy v u Q I hs rx ry qx qy hg
  have fin : ∀ b : Bool, Q (.bl (b != false)) M → EP X pins σ (post X.K ph S r σ Q) (.bool b) s := fun b q => ⟨.bl b, H, I, rfl, Aft.here hs ⟨_, .bl _, by rwa [Bool.bne_false] at q⟩⟩
  cases dy <;> cases dx <;> first | exact hg.elim | skip
  all_goals cases qx <;> cases qy
  all_goals (first | (obtain ⟨t, rfl⟩ := rx) | cases rx)
  all_goals cases ry
  all_goals first
    | exact wpAny_is_other rfl (fun z => nomatch z) (fin false hg)
    | exact wpAny_is_self rfl (fin true hg)
    | skip
  rename_i b c
  by_cases e : c = b
  · subst e
    exact wpAny_is_self rfl (fin true (by simpa [gIs, isB] using hg))
  · exact wpAny_is_other rfl (fun z => e (Value.bool.inj z)) (fin false (by simpa [gIs, isB, e] using hg))
theorem opd_isnot : OpD X (compareOp .IsNot) (gIs true) := by
  intro pins s σ H ph S r M x y dx dy v u Q I hs rx ry qx qy hg
  have fin : ∀ b : Bool, Q (.bl (b != true)) M → EP X pins σ (post X.K ph S r σ Q) (.bool (!b)) s := fun b q => ⟨.bl (!b), H, I, rfl, Aft.here hs ⟨_, .bl _, by rwa [Bool.bne_true] at q⟩⟩
  cases dy <;> cases dx <;> first | exact hg.elim | skip
  all_goals cases qx <;> cases qy
  all_goals (first | (obtain ⟨t, rfl⟩ := rx) | cases rx)
  all_goals cases ry
  all_goals first
    | exact wpAny_isNot_other rfl (fun z => nomatch z) (fin false hg)
    | exact wpAny_isNot_self rfl (fin true hg)
    | skip
  rename_i b c
  by_cases e : c = b
  · subst e
    exact wpAny_isNot_self rfl (fin true (by simpa [gIs, isB] using hg))
  · exact wpAny_isNot_other rfl (fun z => e (Value.bool.inj z)) (fin false (by simpa [gIs, isB, e] using hg))
/-! ### truth -/
def tru (M : Mem) : D → Option Bool
  | .non => some false
  | .bl b => some b
  | .int i => some (i != 0)
  | .str x => if x.length ≤ sizeLine then some ((x.length : Int) != 0) else none
  | .tup l => some (!l.isEmpty)
  | .lst l => some (!l.isEmpty)
  | .own k => match M[k]? with
    | some (.lst l) => some (!l.isEmpty)
    | _ => none
  | .dct0 => some false
  | _ => none
theorem isEmp {K : PySem.W.Frag} {ph : Ph} {S : Hp} {xs : List V} {ds : List D} (h : RepAll K ph S xs ds) : (!ds.isEmpty) = !xs.isEmpty := by cases h <;> rfl
theorem tru_V {K : PySem.W.Frag} {ph : Ph} {S : Hp} {r : Env} {M : Mem} {σ : St} {H : Hp} {x : V} {d : D} {k : Bool} (hs : Sat K ph S r M σ H) (q : Rep K ph S x d) (h : tru M d = some k) : TruV K x H k := by
  cases d with
  | non => cases q; exact (Option.some.inj h).symm
  | bl b => cases q; exact (Option.some.inj h).symm
  | int i => cases q; exact (Option.some.inj h).symm
  | str z =>
    cases q
    have h' : (if z.length ≤ sizeLine then some ((z.length : Int) != 0) else none) = some k := h
    by_cases hz : z.length ≤ sizeLine
    · rw [if_pos hz] at h'
      exact ⟨hz, (Option.some.inj h').symm⟩
    · rw [if_neg hz] at h'; cases h'
  | tup l =>
    cases q with
    | tup h1 h2 => exact .inr (.inl ⟨_, h1.sq hs.sub, by rw [← isEmp h2]; exact (Option.some.inj h).symm⟩)
  | lst l =>
    cases q with
    | lst h1 h2 => exact .inl ⟨_, SqL.of (hs.sub _ _ h1), by rw [← isEmp h2]; exact (Option.some.inj h).symm⟩
  | dct0 =>
    cases q with
    | dct0 h1 => exact .inr (.inr ⟨_, hs.sub _ _ h1, (Option.some.inj h).symm⟩)
  | own j =>
    cases q with
    | own h1 =>
      unfold tru at h
      dsimp only at h
      split at h
      · rename_i l hk
        obtain ⟨a, xs, c1, c2, c3, c4⟩ := hs.cell j l hk
        rw [h1] at c1; cases c1
        exact .inl ⟨_, SqL.of c3, by rw [← isEmp c4]; exact (Option.some.inj h).symm⟩
      · cases h
  | scr ns => cases h
  | exc C d => cases h
  | glb x => cases h
  | val v => cases h
/-- what d's truth is -/
def gTru (d : D) (M : Mem) (Q : Bool → Prop) : Prop := match tru M d with
  | some b => Q b
  | none => False
def dTru (t : DTE) : DTT := fun r M Q => t r M fun d M1 => gTru d M1 fun b => Q b M1
theorem gTru_some {d : D} {M : Mem} {Q : Bool → Prop} (h : gTru d M Q) : ∃ b, tru M d = some b ∧ Q b := by
  unfold gTru at h
  split at h
  · rename_i b e; exact ⟨b, e, h⟩
  · exact h.elim
/-- an expression as a test -/
theorem dt_tru {e : Expr} {t : DTE} (h : DE X e t) (he : ∀ whole, isTrue e X.env whole = (do let v ← whole; standAt e.pos; holding [v] (truthy v)) := by intro _; rfl) : DT X e (dTru t) :=
  DT.of (pt_truth h.pe he) fun ph S r M σ H Q hs ht Q' hq => ⟨ph, S, r, M, _, hs, ht, fun v H1 h1 => by
    obtain ⟨ph1, S1, M1, x1, hs1, d, q1, g1⟩ := h1
    obtain ⟨b, eb, qb⟩ := gTru_some g1
    exact ⟨b, tru_V hs1 q1 eb, hq _ _ ⟨ph1, S1, M1, x1, hs1, qb⟩⟩⟩
/-- a comparison as a test -/
theorem dt_cmp {a b : Expr} {ta tb : DTE} {op : CmpOp} {g : G2} {pos : Pos} (ho : OpD X (compareOp op) g) (ha : DE X a ta) (hb : DE X b tb) (hm : behindInMarks op b = false) : DT X (.Compare a [op] [b] pos) (dTru (dOp g ta tb)) :=
  ⟨⟨fun pins s σ H Q I ⟨ph, S, r, M, Q0, hs, ht, hq⟩ => wpAny_isTrue_Compare1 (binD ha hb I hs ht fun v u s2 x y dx dy H2 ph2 S2 M2 x2 I2 hs2 rx ry qx qy h =>
    thn (ho pins s2 σ H2 ph2 S2 r M2 x y dx dy v u _ I2 hs2 rx ry qx qy h) fun c s3 ⟨z, H3, I3, r3, ph3, S3, M3, x3, hs3, d, q3, g3⟩ => by
      obtain ⟨k, ek, qk⟩ := gTru_some g3
      exact tru_ok pins s3 σ H3 z c Q I3 r3 ⟨k, tru_V hs3 q3 ek, hq _ _ ⟨ph3, S3, M3, x2.trans x3, hs3, qk⟩⟩) hm⟩⟩
/-! ### a < b < c -/
def dChain (g g' : G2) (ta tb tc : DTE) : DTE := fun r M Q => ta r M fun x M1 => tb r M1 fun y M2 => g x y M2 fun z M3 => gTru z M3 fun k => if k = true then tc r M3 fun w M4 => g' y w M4 Q else Q z M3
theorem dt_chain {a b c : Expr} {ta tb tc : DTE} {op op' : CmpOp} {g g' : G2} {pos : Pos} (ho : OpD X (compareOp op) g) (ho' : OpD X (compareOp op') g') (ha : DE X a ta) (hb : DE X b tb) (hc : DE X c tc)
    (hm : lastMarks [op, op'] [b, c] = false := by with_unfolding_all rfl) : DT X (.Compare a [op, op'] [b, c] pos) (dTru (dChain g g' ta tb tc)) := by
  refine ⟨⟨fun pins s σ H Q I ⟨ph, S, r, M, Q0, hs, ht, hq⟩ => ?_⟩⟩
  refine isTrue_chain (thn (ha.pe.run pins s σ H _ I ⟨ph, S, r, M, _, hs, ht, fun _ _ q => q⟩) fun v s1 ⟨x, H1, I1, r1, ph1, S1, M1, x1, hs1, dx, q1, h1⟩ =>
    test_link (thn (hb.pe.run pins s1 σ H1 _ I1 ⟨ph1, S1, r, M1, _, hs1, h1, fun _ _ q => q⟩) fun u s2 ⟨y, H2, I2, r2, ph2, S2, M2, x2, hs2, dy, q2, h2⟩ =>
      thn (ho pins s2 σ H2 ph2 S2 r M2 x y dx dy v u _ I2 hs2 r1 r2 (q1.up x2) q2 h2) fun d s3 ⟨z, H3, I3, r3, ph3, S3, M3, x3, hs3, dz, q3, h3⟩ => ?_)) hm
  obtain ⟨k, ek, qk⟩ := gTru_some h3
  refine thn (tru_ok pins s3 σ H3 z d (fun b H' => b = k ∧ H' = H3) I3 r3 ⟨k, tru_V hs3 q3 ek, rfl, rfl⟩) fun b s4 ⟨H4, I4, eb, eH⟩ => ?_
  rw [eH] at I4
  rw [← eb] at qk ek
  cases b with
  | false =>
    have qk' : gTru dz M3 fun b => Q0 b M3 := qk
    obtain ⟨k2, e2, q2'⟩ := gTru_some qk'
    rw [ek] at e2
    cases e2
    exact ite_ff ⟨H3, I4, hq _ _ ⟨ph3, S3, M3, x1.trans (x2.trans x3), hs3, q2'⟩⟩
  | true =>
    refine ite_tt (test_last (thn (hc.pe.run pins s4 σ H3 _ I4 ⟨ph3, S3, r, M3, _, hs3, qk, fun _ _ q => q⟩) fun w' s5 ⟨z', H5, I5, r5, ph5, S5, M5, x5, hs5, dw, q5, h5⟩ =>
      thn (ho' pins s5 σ H5 ph5 S5 r M5 y z' dy dw u w' _ I5 hs5 r2 r5 (q2.up (x3.trans x5)) q5 h5) fun d' s6 ⟨z2, H6, I6, r6, ph6, S6, M6, x6, hs6, d6, q6, h6⟩ => ?_))
    obtain ⟨k2, e2, q2'⟩ := gTru_some h6
    exact tru_ok pins s6 σ H6 z2 d' Q I6 r6 ⟨k2, tru_V hs6 q6 e2, hq _ _ ⟨ph6, S6, M6, x1.trans (x2.trans (x3.trans (x5.trans x6))), hs6, q2'⟩⟩
theorem de_chain {a b c : Expr} {ta tb tc : DTE} {op op' : CmpOp} {g g' : G2} {pos : Pos} (ho : OpD X (compareOp op) g) (ho' : OpD X (compareOp op') g') (ha : DE X a ta) (hb : DE X b tb) (hc : DE X c tc)
    (hm : lastMarks [op, op'] [b, c] = false := by with_unfolding_all rfl) : DE X (.Compare a [op, op'] [b, c] pos) (dChain g g' ta tb tc) := by
  refine ⟨⟨fun pins s σ H Q I ⟨ph, S, r, M, Q0, hs, ht, hq⟩ => ?_⟩⟩
  refine Compare_chain (thn (ha.pe.run pins s σ H _ I ⟨ph, S, r, M, _, hs, ht, fun _ _ q => q⟩) fun v s1 ⟨x, H1, I1, r1, ph1, S1, M1, x1, hs1, dx, q1, h1⟩ =>
    chain_link (thn (hb.pe.run pins s1 σ H1 _ I1 ⟨ph1, S1, r, M1, _, hs1, h1, fun _ _ q => q⟩) fun u s2 ⟨y, H2, I2, r2, ph2, S2, M2, x2, hs2, dy, q2, h2⟩ =>
      thn (ho pins s2 σ H2 ph2 S2 r M2 x y dx dy v u _ I2 hs2 r1 r2 (q1.up x2) q2 h2) fun d s3 ⟨z, H3, I3, r3, ph3, S3, M3, x3, hs3, dz, q3, h3⟩ => ?_)) hm
  obtain ⟨k, ek, qk⟩ := gTru_some h3
  refine thn (tru_ok pins s3 σ H3 z d (fun b H' => b = k ∧ H' = H3) I3 r3 ⟨k, tru_V hs3 q3 ek, rfl, rfl⟩) fun b s4 ⟨H4, I4, eb, eH⟩ => ?_
  rw [eH] at I4
  rw [← eb] at qk
  cases b with
  | false => exact ite_ff ⟨z, H3, I4, r3, hq _ _ ⟨ph3, S3, M3, x1.trans (x2.trans x3), hs3, _, q3, qk⟩⟩
  | true =>
    exact ite_tt (chain_last (thn (hc.pe.run pins s4 σ H3 _ I4 ⟨ph3, S3, r, M3, _, hs3, qk, fun _ _ q => q⟩) fun w' s5 ⟨z', H5, I5, r5, ph5, S5, M5, x5, hs5, dw, q5, h5⟩ =>
      thn (ho' pins s5 σ H5 ph5 S5 r M5 y z' dy dw u w' _ I5 hs5 r2 r5 (q2.up (x3.trans x5)) q5 h5) fun d' s6 q6 => EP.up (x1.trans (x2.trans (x3.trans x5))) q6 hq))
/-! ### and, or, not -/
def dAnd (t u : DTT) : DTT := fun r M Q => t r M fun c M1 => if c = true then u r M1 Q else Q false M1
def dOr (t u : DTT) : DTT := fun r M Q => t r M fun c M1 => if c = true then Q true M1 else u r M1 Q
def dNot (t : DTT) : DTT := fun r M Q => t r M fun c M1 => Q (!c) M1
variable {a b : Expr} {rest : List Expr} {pos : Pos}
theorem DW.dt {e : Expr} {t : DTT} (h : DW X e t) : DT X e t := ⟨h.pw.pt⟩
theorem dw_and1 {t : DTT} (h : DT X a t) : DW X (.BoolOp .And [a] pos) t := ⟨pw_and1 h.pt⟩
theorem dw_or1 {t : DTT} (h : DT X a t) : DW X (.BoolOp .Or [a] pos) t := ⟨pw_or1 h.pt⟩
theorem dw_and {t u : DTT} (h : DT X a t) (h2 : DW X (.BoolOp .And (b :: rest) pos) u) : DW X (.BoolOp .And (a :: b :: rest) pos) (dAnd t u) :=
  DW.of (pw_and h.pt h2.pw) fun ph S r M σ H Q hs ht Q' hq => ⟨ph, S, r, M, _, hs, ht, fun c H1 ⟨ph1, S1, M1, x1, hs1, h1⟩ => by
    cases c with
    | true => exact ⟨ph1, S1, r, M1, _, hs1, h1, fun c' H2 h2 => hq _ _ (Aft.up x1 h2)⟩
    | false => exact hq _ _ ⟨ph1, S1, M1, x1, hs1, h1⟩⟩
theorem dw_or {t u : DTT} (h : DT X a t) (h2 : DW X (.BoolOp .Or (b :: rest) pos) u) : DW X (.BoolOp .Or (a :: b :: rest) pos) (dOr t u) :=
  DW.of (pw_or h.pt h2.pw) fun ph S r M σ H Q hs ht Q' hq => ⟨ph, S, r, M, _, hs, ht, fun c H1 ⟨ph1, S1, M1, x1, hs1, h1⟩ => by
    cases c with
    | false => exact ⟨ph1, S1, r, M1, _, hs1, h1, fun c' H2 h2 => hq _ _ (Aft.up x1 h2)⟩
    | true => exact hq _ _ ⟨ph1, S1, M1, x1, hs1, h1⟩⟩
theorem dt_not {t : DTT} (h : DT X a t) : DT X (.UnaryOp .Not a pos) (dNot t) :=
  DT.of (pt_not h.pt) fun ph S r M σ H Q hs ht Q' hq => ⟨ph, S, r, M, _, hs, ht, fun c H1 h1 => hq _ _ h1⟩
/-- as values -/
def dAndV (t u : DTE) : DTE := fun r M Q => t r M fun d M1 => gTru d M1 fun c => if c = true then u r M1 Q else Q d M1
def dOrV (t u : DTE) : DTE := fun r M Q => t r M fun d M1 => gTru d M1 fun c => if c = true then Q d M1 else u r M1 Q
def dNotV (t : DTE) : DTE := fun r M Q => t r M fun d M1 => gTru d M1 fun c => Q (.bl (!c)) M1
theorem de_one {op} {t : DTE} (h : DE X a t) : DE X (.BoolOp op [a] pos) t := ⟨pe_one h.pe⟩
theorem de_and {t u : DTE} (h : DE X a t) (h2 : DE X (.BoolOp .And (b :: rest) pos) u) : DE X (.BoolOp .And (a :: b :: rest) pos) (dAndV t u) :=
  DE.of (pe_andT h.pe h2.pe) fun ph S r M σ H Q hs ht Q' hq => ⟨ph, S, r, M, _, hs, ht, fun v H1 ⟨ph1, S1, M1, x1, hs1, d, q1, g1⟩ => by
    obtain ⟨c, ec, qc⟩ := gTru_some g1
    refine ⟨c, tru_V hs1 q1 ec, ?_⟩
    cases c with
    | true => exact ⟨ph1, S1, r, M1, _, hs1, qc, fun c' H2 h2 => hq _ _ (Aft.up x1 h2)⟩
    | false => exact hq _ _ ⟨ph1, S1, M1, x1, hs1, _, q1, qc⟩⟩
theorem de_or {t u : DTE} (h : DE X a t) (h2 : DE X (.BoolOp .Or (b :: rest) pos) u) : DE X (.BoolOp .Or (a :: b :: rest) pos) (dOrV t u) :=
  DE.of (pe_orT h.pe h2.pe) fun ph S r M σ H Q hs ht Q' hq => ⟨ph, S, r, M, _, hs, ht, fun v H1 ⟨ph1, S1, M1, x1, hs1, d, q1, g1⟩ => by
    obtain ⟨c, ec, qc⟩ := gTru_some g1
    refine ⟨c, tru_V hs1 q1 ec, ?_⟩
    cases c with
    | false => exact ⟨ph1, S1, r, M1, _, hs1, qc, fun c' H2 h2 => hq _ _ (Aft.up x1 h2)⟩
    | true => exact hq _ _ ⟨ph1, S1, M1, x1, hs1, _, q1, qc⟩⟩
theorem de_not {t : DTE} (h : DE X a t) : DE X (.UnaryOp .Not a pos) (dNotV t) :=
  DE.of (pe_notT h.pe) fun ph S r M σ H Q hs ht Q' hq => ⟨ph, S, r, M, _, hs, ht, fun v H1 ⟨ph1, S1, M1, x1, hs1, d, q1, g1⟩ => by
    obtain ⟨c, ec, qc⟩ := gTru_some g1
    exact ⟨c, tru_V hs1 q1 ec, hq _ _ ⟨ph1, S1, M1, x1, hs1, _, .bl _, qc⟩⟩⟩
/-- a if t else b -/
def dIf (t : DTT) (u w : DTE) : DTE := fun r M Q => t r M fun c M1 => if c = true then u r M1 Q else w r M1 Q
theorem de_if {c : Expr} {t : DTT} {u w : DTE} (h : DT X c t) (h1 : DE X a u) (h2 : DE X b w) : DE X (.IfExp c a b pos) (dIf t u w) :=
  DE.of (pe_ifExp h.pt h1.pe h2.pe) fun ph S r M σ H Q hs ht Q' hq => ⟨ph, S, r, M, _, hs, ht, fun c H1 ⟨ph1, S1, M1, x1, hs1, g1⟩ => by
    cases c with
    | true => exact ⟨ph1, S1, r, M1, _, hs1, g1, fun c' H2 h2 => hq _ _ (Aft.up x1 h2)⟩
    | false => exact ⟨ph1, S1, r, M1, _, hs1, g1, fun c' H2 h2 => hq _ _ (Aft.up x1 h2)⟩⟩
/-- -a -/
def gNeg (d : D) (M : Mem) (Q : DQ) : Prop := match d with
  | .int i => Q (.int (-i)) M
  | _ => False
def dNeg (t : DTE) : DTE := fun r M Q => t r M fun d M1 => gNeg d M1 Q
theorem de_neg {t : DTE} (h : DE X a t) : DE X (.UnaryOp .USub a pos) (dNeg t) :=
  DE.of (pe_un un_neg h.pe) fun ph S r M σ H Q hs ht Q' hq => ⟨ph, S, r, M, _, hs, ht, fun v H1 ⟨ph1, S1, M1, x1, hs1, d, q1, g1⟩ => by
    cases d <;> first | exact g1.elim | skip
    cases q1
    exact ⟨_, rfl, hq _ _ ⟨ph1, S1, M1, x1, hs1, _, .int _, g1⟩⟩⟩
/-! ### argument lists, displays -/
def dNil : DTA := fun _ M Q => Q [] M
def dCons (t : DTE) (u : DTA) : DTA := fun r M Q => t r M fun d M1 => u r M1 fun ds M2 => Q (d :: ds) M2
theorem da_nil : DA X [] dNil := DA.of pa_nil fun ph S r M σ H Q hs ht Q' hq => hq _ _ (Aft.here hs ⟨_, .nil, ht⟩)
theorem da_cons {e : Expr} {es : List Expr} {t : DTE} {u : DTA} (h : DE X e t) (h2 : DA X es u) (hs : starEach (e :: es) X.env = (false, eval e X.env) :: starEach es X.env := by rfl) : DA X (e :: es) (dCons t u) :=
  DA.of (pa_cons h.pe h2.pa hs) fun ph S r M σ H Q hs ht Q' hq => ⟨ph, S, r, M, _, hs, ht, fun v H1 ⟨ph1, S1, M1, x1, hs1, d, q1, g1⟩ =>
    ⟨ph1, S1, r, M1, _, hs1, g1, fun vs H2 ⟨ph2, S2, M2, x2, hs2, ds, q2, g2⟩ => hq _ _ ⟨ph2, S2, M2, x1.trans x2, hs2, _, .cons (q1.up x2) q2, g2⟩⟩⟩
def dTup (t : DTA) : DTE := fun r M Q => t r M fun ds M1 => ds.length ≤ sizeLine ∧ Q (.tup ds) M1
def dLst (t : DTA) : DTE := fun r M Q => t r M fun ds M1 => ds.length ≤ sizeLine ∧ Q (.lst ds) M1
/-- a list that will be changed -/
def dOwn (t : DTA) : DTE := fun r M Q => t r M fun ds M1 => ds.length ≤ sizeLine ∧ Q (.own M1.length) (M1 ++ [.lst ds])
theorem de_tup {es : List Expr} {x1} {t : DTA} (h : DA X es t) : DE X (.Tuple es x1 pos) (dTup t) :=
  DE.of (pe_tup h.pa) fun ph S r M σ H Q hs ht Q' hq => ⟨ph, S, r, M, _, hs, ht, fun vs H1 ⟨ph1, S1, M1, x1, hs1, ds, q1, hz, g1⟩ =>
    ⟨by rw [q1.len]; exact hz, fun p hp => hq _ _ (Aft.up x1 (Aft.frz hs1 hp fun x => ⟨_, .tup (.inl upd_same) (q1.up x), g1⟩))⟩⟩
theorem de_lst {es : List Expr} {t : DTA} (h : DA X es t) : DE X (.List es pos) (dLst t) :=
  DE.of (pe_lst h.pa) fun ph S r M σ H Q hs ht Q' hq => ⟨ph, S, r, M, _, hs, ht, fun vs H1 ⟨ph1, S1, M1, x1, hs1, ds, q1, hz, g1⟩ =>
    ⟨by rw [q1.len]; exact hz, fun p hp => hq _ _ (Aft.up x1 (Aft.frz hs1 hp fun x => ⟨_, .lst upd_same (q1.up x), g1⟩))⟩⟩
theorem Aft.own {K : PySem.W.Frag} {ph : Ph} {S : Hp} {r : Env} {σ : St} {H : Hp} {M : Mem} {p : Addr} {xs : List V} {ds : List D} {Q : DQ} (h : Sat K ph S r M σ H) (hp : H p = none) (hr : RepAll K ph S xs ds) (q : Q (.own M.length) (M ++ [.lst ds])) :
    post K ph S r σ Q (.ref p) (upd H p (.lst xs)) :=
  let ⟨x, hs, e⟩ := h.new hp hr
  ⟨_, _, _, x, hs, _, .own e, q⟩
theorem de_own {es : List Expr} {t : DTA} (h : DA X es t) : DE X (.List es pos) (dOwn t) :=
  DE.of (pe_lst h.pa) fun ph S r M σ H Q hs ht Q' hq => ⟨ph, S, r, M, _, hs, ht, fun vs H1 ⟨ph1, S1, M1, x1, hs1, ds, q1, hz, g1⟩ =>
    ⟨by rw [q1.len]; exact hz, fun p hp => hq _ _ (Aft.up x1 (Aft.own hs1 hp q1 g1))⟩⟩
theorem de_dct0 : DE X (.Dict [] [] pos) (dC .dct0) :=
  DE.of pe_dnewK fun ph S r M σ H Q hs ht Q' hq p hp => hq _ _ (Aft.frz hs hp fun x => ⟨_, .dct0 upd_same, ht⟩)
/-! ### subscripts -/
/-- d's item at i, for every kind of sequence -/
def gIx : G2 := fun x y M Q => match res M x, y with
  | .lst l, .int i => match atI l i with
    | some d => Q d M
    | none => False
  | .tup l, .int i => match atI l i with
    | some d => Q d M
    | none => False
  | .scr ns, .int i => match atI ns i with
    | some n => Q (.int n) M
    | none => False
  | _, _ => False
theorem atI_rep {K : PySem.W.Frag} {ph : Ph} {S : Hp} {vs : List V} {ds : List D} {i : Int} {d : D} (h : RepAll K ph S vs ds) (e : atI ds i = some d) : ∃ v, atI vs i = some v ∧ Rep K ph S v d := by
  unfold atI at e ⊢
  rw [h.len]
  cases q : ixN ds.length i with
  | none => rw [q] at e; cases e
  | some j =>
    rw [q] at e
    exact h.get e
theorem atI_map {α β : Type} {f : α → β} {l : List α} {i : Int} {x : α} (e : atI l i = some x) : atI (l.map f) i = some (f x) := by
  unfold atI at e ⊢
  rw [List.length_map]
  cases q : ixN l.length i with
  | none => rw [q] at e; cases e
  | some j =>
    rw [q] at e
    show (l.map f)[j]? = _
    rw [List.getElem?_map]
    rw [show l[j]? = some x from e]
    rfl
/-- an owned list's items represent over S -/
theorem res_lst {K : PySem.W.Frag} {ph : Ph} {S : Hp} {r : Env} {M : Mem} {σ : St} {H : Hp} {v : V} {d : D} {l : List D} (hs : Sat K ph S r M σ H) (q : Rep K ph S v d) (e : res M d = .lst l) : ∃ a xs, v = .ref a ∧ H a = some (.lst xs) ∧ RepAll K ph S xs l := by
  cases d <;> first | (unfold res at e; cases e; done) | skip
  · cases e
    cases q with
    | lst h1 h2 => exact ⟨_, _, rfl, hs.sub _ _ h1, h2⟩
  · rename_i k
    unfold res at e
    dsimp only at e
    split at e
    · rename_i ds hk
      cases e
      cases q with
      | own h =>
        obtain ⟨a, xs, c1, c2, c3, c4⟩ := hs.cell k _ hk
        rw [h] at c1; cases c1
        exact ⟨_, _, rfl, c3, c4⟩
    · cases e
theorem res_tup {M : Mem} {d : D} {l : List D} (e : res M d = .tup l) : d = .tup l := by
  cases d <;> first | exact e | skip
  unfold res at e
  dsimp only at e
  split at e <;> cases e
theorem res_scr {M : Mem} {d : D} {l : List Int} (e : res M d = .scr l) : d = .scr l := by
  cases d <;> first | exact e | skip
  unfold res at e
  dsimp only at e
  split at e <;> cases e
theorem de_ix {ta tb : DTE} (ha : DE X a ta) (hb : DE X b tb) (hs : PlainIx b := by exact fun _ _ => rfl) : DE X (.Subscript a b pos) (dOp gIx ta tb) :=
  DE.of (pe_ix (ix_list.or ix_tup) ha.pe hb.pe hs) fun ph S r M σ H Q hs ht Q' hq => ⟨ph, S, r, M, _, hs, ht, fun v H1 ⟨ph1, S1, M1, x1, hs1, d, q1, g1⟩ =>
    ⟨ph1, S1, r, M1, _, hs1, g1, fun u H2 ⟨ph2, S2, M2, x2, hs2, e, q2, g2⟩ => by
      have q1' := q1.up x2
      have xx := x1.trans x2
      replace g2 : gIx d e M2 Q := g2
      unfold gIx at g2
      split at g2
      · rename_i l i er
        cases q2
        split at g2
        · rename_i d' ei
          obtain ⟨p, xs, rfl, hp, hx⟩ := res_lst hs2 q1' er
          obtain ⟨w, ew, qw⟩ := atI_rep hx ei
          exact .inl ⟨p, xs, i, w, rfl, rfl, SqL.of hp, ew, hq _ _ ⟨ph2, S2, M2, xx, hs2, _, qw, g2⟩⟩
        · exact g2.elim
      · rename_i l i er
        cases q2
        split at g2
        · rename_i d' ei
          cases res_tup er
          cases q1' with
          | tup h1 h2 =>
            obtain ⟨w, ew, qw⟩ := atI_rep h2 ei
            exact .inr ⟨_, _, i, w, rfl, rfl, h1.sq hs2.sub, ew, hq _ _ ⟨ph2, S2, M2, xx, hs2, _, qw, g2⟩⟩
        · exact g2.elim
      · rename_i ns i er
        cases q2
        split at g2
        · rename_i n ei
          cases res_scr er
          cases q1' with
          | scr h1 => exact .inl ⟨_, _, i, _, rfl, rfl, hs2.sub.seq h1, atI_map ei, hq _ _ ⟨ph2, S2, M2, xx, hs2, _, .int _, g2⟩⟩
        · exact g2.elim
      · exact g2.elim⟩⟩
end DL
/-! DL5: defs and their calls -/
namespace DL
open PySem PySem.Spec PyProof.Rows L2
/-! ### a def's promise over the hand layer, where no guard runs -/
structure FnG (P : Program) (w : World) (K : PySem.W.Frag) (mg : Str → Option Value) (base : Heap) (CX : CXT) (k : Nat) (f : Addr) (fd : FuncData) (ps : List Str) (sp : Sp) : Prop where
  len : ∀ vs H Q E, sp vs H Q E → vs.length = ps.length
  run : ∀ (A : Around) (outer : List PySem.Env) (s : Shared) (H : Hp) (args : Args) (us : List Value) (vs : List V) (Q : VK) (E : XK), Room k A → A.guards = some [] → Env0 P w K mg base A outer s H → BindsTo s fd args (ps.zip us) → Vals vs us → sp vs H Q E →
    codeAny (model P w) A (.call (.ref f) args) (CR CX outer P w H s Q E) s
theorem FnG.mono {P : Program} {w : World} {K : PySem.W.Frag} {mg : Str → Option Value} {base : Heap} {CX : CXT} {j k : Nat} {f : Addr} {fd : FuncData} {ps : List Str} {sp : Sp} (F : FnG P w K mg base CX j f fd ps sp) (h : j ≤ k) :
    FnG P w K mg base CX k f fd ps sp := ⟨F.len, fun A outer s H args us vs Q E hr => F.run A outer s H args us vs Q E (hr.mono h)⟩
section
variable {X : Cx} {CX : CXT} {k : Nat} {f : Addr} {fd : FuncData} {ps : List Str} {sp : Sp} {dvs : List V} {ds : List Value} {E : XK} {x : Str} {p pos : Pos} {e : Expr} {es : List Expr} {t : TA}
theorem run_fnG {pins : List (Addr × Obj)} {σ : St} {H : Hp} {s : Shared} {Q : VK} {us : List Value} {vs : List V} (F : FnG X.prog X.w X.K X.mg X.base CX k f fd ps sp) (hr : Room k X.A) (gd : X.A.guards = some []) (hb : Binds X.K fd ps ds) (hd : Vals dvs ds) (hx : Passes CX X E)
    (I : Inv X pins σ H s) (r : Vals vs us) (h : sp (vs ++ dvs) H Q E) : wpAny (model X.prog X.w) X.A (call (.ref f) us) (EP X pins σ Q) X.xe s := by
  have r2 : Vals (vs ++ dvs) (us ++ ds) := r.append hd
  have hl : (us ++ ds).length = ps.length := by rw [← r2.length]; exact F.len _ _ _ _ h
  refine wpAny_call (codeAny_mono (F.run X.A X.stack s H ⟨us, []⟩ (us ++ ds) (vs ++ dvs) Q E hr gd I.env0 (hb s us I.kIn hl) r2 h) fun r s' hq => ?_)
  match r, hq with
  | .error e, hq => exact hx pins σ H s e s' I hq
  | .ok (.ret u), hq => exact I.after hq
  | .ok .next, hq => exact False.elim hq
  | .ok .brk, hq => exact False.elim hq
  | .ok .cont, hq => exact False.elim hq
theorem pe_callG (F : FnG X.prog X.w X.K X.mg X.base CX k f fd ps sp) (hr : Room k X.A) (gd : X.A.guards = some []) (hg : Gl X x) (hm : X.mg x = some (.ref f)) (hk : PySem.W.keepIn X.K (.ref f) = true) (hb : Binds X.K fd ps ds) (hd : Vals dvs ds) (hx : Passes CX X E)
    (ha : PA X (e :: es) t) (hdb : (x == ("__debug__" : Str)) = false := by decide) (he : starEach (e :: es) X.env = (false, eval e X.env) :: starEach es X.env := by rfl) (hpl : (backTo pos (starEach es X.env)).any (·.1) = false := by rfl) :
    PE X (.Call (.Name x p) (e :: es) [] pos) (tCall sp dvs E t) :=
  ⟨fun pins s σ H Q I h => wpAny_Call_Name_kw (ld_glob I hg hm (PySem.W.callWith_K (h₀ := X.base) I.ok.mod.kin hk (thn (ha.run pos pins s σ H _ I h) fun us s1 ⟨vs, H1, I1, r, q⟩ => ⟨I1.kIn, run_fnG F hr gd hb hd hx I1 r q⟩) he hpl) hdb)⟩
end
/-- a def by its body -/
theorem fnG_of {CX : CXT} {P : Program} {w : World} {K : PySem.W.Frag} {mg : Str → Option Value} {base : Heap} {k : Nat} {f : Addr} {name qual : Str} {params : Arguments} {body : List Stmt} {scope : Scope} {dV kV doc pm cdv ct oc : Value} {an od : Option Addr}
    {osl : Array (Option Value)} {N ps : List Str} {sp : Sp} (lk : K.lookup f = some ⟨oc, od, .func (PySem.W.fnOf name qual params body scope dV kV doc pm an cdv ct), osl⟩) (hcd : PySem.W.codeIn K cdv qual = true) (S : FnScope N ps scope)
    (len : ∀ vs H Q E, sp vs H Q E → vs.length = ps.length)
    (hbody : ∀ (A : Around) (outer : List PySem.Env) (s : Shared) (H : Hp) (vs : List V) (Q : VK) (E : XK), Room k (A.deeper (envOfC qual scope s.heap.objs.size f cdv)) → A.guards = some [] → sp vs H Q E →
      ∃ t, PSs (cxOf CX P w K mg base N qual scope f cdv A outer s H E) body t ∧ t { nx := fun _ H' => Q .non H', rt := Q } (start N vs) H) :
    FnG P w K mg base CX (k + 1) f (PySem.W.fnOf name qual params body scope dV kV doc pm an cdv ct) ps sp := by
  refine ⟨len, fun A outer s H args us vs Q E hr gd e0 hb r hsp => ?_⟩
  have hl := len _ _ _ _ hsp
  have KX : K.In s.heap := e0.mod.kin.keeps fun b o e => (e0.bs b o e).1
  have lim : s.heap.NoLimit := e0.mod.nolimit.keeps fun b o e => (e0.bs b o e).1
  refine codeAny_call_function hr.depth (KX _ _ lk) rfl S.co S.gen rfl (PySem.W.codeRec_of KX hcd) (hb _ _ _ _ ?_)
  refine wpAny_newFunctionEnv_cells S.kind (fun y hy => ?_) fun env he s1 x => ?_
  · rcases S.par y.1 (List.of_mem_zip (a := y.1) (b := y.2) hy).1 with q | q
    · exact .inl q
    · exact .inr ⟨q, PySem.W.cellsFrom_some _ _ _ (.inl q)⟩
  subst he
  refine ⟨lim.keeps x.toInCall.keep, codeAny_func ?_⟩
  obtain ⟨t, ht, hq⟩ := hbody A outer s H vs Q E (hr.deeper _) gd hsp
  have I : Inv (cxOf CX P w K mg base N qual scope f cdv A outer s H E) [] (start N vs) H s1 := inv_start S hr.hd e0 hl r x
  refine wpAny_mono (ht.run [] s1 (start N vs) H _ I hq) (fun fl s' hs => ?_) fun e s' hs => hs
  match fl, hs with
  | .ret u, ⟨v, σ', H', J, rv, q⟩ => exact ⟨v, H', J.os, J.bare, J.base, J.hok, rv, q⟩
  | .next, ⟨σ', H', J, q⟩ => exact ⟨V.non, H', J.os, J.bare, J.base, J.hok, rfl, q⟩
  | .brk, ⟨_, _, _, q⟩ => exact False.elim q
  | .cont, ⟨_, _, _, q⟩ => exact False.elim q
/-! ### a def's promise over data -/
/-- what is wanted of an exception: its class, its value, the cells -/
abbrev DX := Str → D → Mem → Prop
abbrev DSp := List D → Mem → DQ → DX → Prop
def DX0 : DX := fun _ _ _ => False
def postM (K : PySem.W.Frag) (ph : Ph) (S : Hp) (Q : DQ) : VK := post K ph S [] [] Q
def postX (K : PySem.W.Frag) (ph : Ph) (S : Hp) (E : DX) : XK := fun cls d H => ∃ (x : Str) (C T dd : Addr) (v : V) (dv : D), XA.ErC K x C T ∧ cls = .ref C ∧ d = some dd ∧
  Aft K ph S [] [] H fun ph' S' M => S' dd = some (.xd [(fVal, v)]) ∧ Rep K ph' S' v dv ∧ E x dv M
def lfSp (K : PySem.W.Frag) (n : Nat) (sp : DSp) : Sp := fun vs H Q E => ∃ ph S M ds Q0 E0, ds.length = n ∧ Sat K ph S [] M [] H ∧ RepAll K ph S vs ds ∧ sp ds M Q0 E0 ∧ (∀ v H', postM K ph S Q0 v H' → Q v H') ∧ (∀ cls d H', postX K ph S E0 cls d H' → E cls d H')
abbrev FnD (P : Program) (w : World) (K : PySem.W.Frag) (mg : Str → Option Value) (base : Heap) (CX : CXT) (k : Nat) (f : Addr) (fd : FuncData) (ps : List Str) (sp : DSp) : Prop :=
  FnG P w K mg base CX k f fd ps (lfSp K ps.length sp)
theorem Sat.drop {K : PySem.W.Frag} {ph : Ph} {S : Hp} {r : Env} {M : Mem} {σ : St} {H : Hp} (h : Sat K ph S r M σ H) : Sat K ph S [] M [] H :=
  ⟨h.sub, h.len, h.nd, h.trk, h.cell, h.hid, h.hnd, rfl, fun i d e => by simp at e⟩
/-- behind a call the names are as they were -/
theorem Sat.back {K : PySem.W.Frag} {ph ph' : Ph} {S S' : Hp} {r : Env} {M M' : Mem} {σ : St} {H H' : Hp} (h : Sat K ph S r M σ H) (x : Ext ph S ph' S') (h' : Sat K ph' S' [] M' [] H') : Sat K ph' S' r M' σ H' :=
  ⟨h'.sub, h'.len, h'.nd, h'.trk, h'.cell, h'.hid, h'.hnd, h.el, fun i d e => let ⟨v, e1, q⟩ := h.env i d e; ⟨v, e1, q.up x⟩⟩
section
variable {X : Cx} {CX : CXT} {k : Nat} {f : Addr} {fd : FuncData} {ps : List Str} {sp : DSp} {x : Str} {p pos : Pos} {e : Expr} {es : List Expr} {t : DTA}
/-- f(..), then the defaults -/
def dCall (n : Nat) (sp : DSp) (dvs : List D) (E : DX) (t : DTA) : DTE := fun r M Q => t r M fun ds M1 => (ds ++ dvs).length = n ∧ sp (ds ++ dvs) M1 Q E
/-- a value that is the same everywhere -/
def Cst (K : PySem.W.Frag) (v : V) (d : D) : Prop := ∀ ph S, Rep K ph S v d
inductive Csts (K : PySem.W.Frag) : List V → List D → Prop
  | nil : Csts K [] []
  | cons {v : V} {d : D} {vs : List V} {ds : List D} : Cst K v d → Csts K vs ds → Csts K (v :: vs) (d :: ds)
theorem Csts.rep {K : PySem.W.Frag} {ph : Ph} {S : Hp} : ∀ {vs : List V} {ds : List D}, Csts K vs ds → RepAll K ph S vs ds
  | _, _, .nil => .nil
  | _, _, .cons h t => .cons (h _ _) t.rep
theorem lf_call {t' : TA} {dvs : List V} {dds : List D} {E' : XK} {E : DX} (hE : ∀ ph S cls d H', postX X.K ph S E cls d H' → E' cls d H') (hc : Csts X.K dvs dds) {ph : Ph} {S : Hp} {r : Env} {M : Mem} {σ : St} {H : Hp} {Q : DQ} {Q' : VK} (hs : Sat X.K ph S r M σ H) (ht : dCall ps.length sp dds E t r M Q) (hq : ∀ v H', post X.K ph S r σ Q v H' → Q' v H')
    (w : ∀ Q1 : List V → Hp → Prop, (∀ vs H', postA X.K ph S r σ (fun ds M1 => (ds ++ dds).length = ps.length ∧ sp (ds ++ dds) M1 Q E) vs H' → Q1 vs H') → t' σ H Q1) : tCall (lfSp X.K ps.length sp) dvs E' t' σ H Q' :=
  w _ fun vs H1 ⟨ph1, S1, M1, x1, hs1, ds, q1, hl, h1⟩ => ⟨ph1, S1, M1, ds ++ dds, Q, E, hl, hs1.drop, q1.app hc.rep, h1, fun v H2 ⟨ph2, S2, M2, x2, hs2, d, q2, h2⟩ => hq _ _ ⟨ph2, S2, M2, x1.trans x2, hs1.back x2 hs2, d, q2, h2⟩, fun cls d H2 h2 => hE _ _ _ _ _ h2⟩
theorem de_callX {dvs : List V} {dds : List D} {ds : List Value} {E' : XK} {E : DX} (F : FnD X.prog X.w X.K X.mg X.base CX k f fd ps sp) (hr : Room k X.A) (gd : X.A.guards = some []) (hm : X.mg x = some (.ref f)) (hk : PySem.W.keepIn X.K (.ref f) = true) (hb : Binds X.K fd ps ds) (hd : Vals dvs ds) (hc : Csts X.K dvs dds) (hx : Passes CX X E') (hE : ∀ ph S cls d H', postX X.K ph S E cls d H' → E' cls d H')
    (ha : DA X (e :: es) t) (hg : Gl X x := by rfl) (hdb : (x == ("__debug__" : Str)) = false := by decide) (he : starEach (e :: es) X.env = (false, eval e X.env) :: starEach es X.env := by rfl) (hpl : (backTo pos (starEach es X.env)).any (·.1) = false := by rfl) :
    DE X (.Call (.Name x p) (e :: es) [] pos) (dCall ps.length sp dds E t) :=
  DE.of (pe_callG F hr gd hg hm hk hb hd hx ha.pa hdb he hpl) fun ph S r M σ H Q hs ht Q' hq => lf_call hE hc hs ht hq fun Q1 hQ1 => ⟨ph, S, r, M, _, hs, ht, hQ1⟩
theorem pX0 : ∀ ph S cls d H', postX X.K ph S DX0 cls d H' → E0 cls d H' := fun _ _ _ _ _ ⟨_, _, _, _, _, _, _, _, _, _, _, _, _, _, _, _, z⟩ => z
/-- what is told of a def of the module, for its callers -/
structure Def (P : Program) (w : World) (K : PySem.W.Frag) (mg : Str → Option Value) (base : Heap) (CX : CXT) (k : Nat) (x : Str) (st : Stmt) (ps : List Str) (sp : DSp) : Prop where
  ex : ∃ (f : Addr) (fd : FuncData), FnD P w K mg base CX k f fd ps sp ∧ mg x = some (.ref f) ∧ PySem.W.keepIn K (.ref f) = true ∧ Binds K fd ps [] ∧ Fun K x x st f fd
/-- a call of a def from which nothing is raised -/
theorem dcall {n : Nat} {st : Stmt} {P : Program} {w : World} {K : PySem.W.Frag} {mg : Str → Option Value} {base : Heap} (F : Def P w K mg base CX0 k x st ps sp) {j : Nat} (hr : Room j X.A) (gd : X.A.guards = some []) (ha : DA X (e :: es) t) (hj : k ≤ j := by decide) (hn : ps.length = n := by rfl)
    (h1 : P = X.prog := by rfl) (h2 : w = X.w := by rfl) (h3 : K = X.K := by rfl) (h4 : mg = X.mg := by rfl) (h5 : base = X.base := by rfl) (hg : Gl X x := by rfl) (hdb : (x == ("__debug__" : Str)) = false := by decide) (he : starEach (e :: es) X.env = (false, eval e X.env) :: starEach es X.env := by rfl)
    (hpl : (backTo pos (starEach es X.env)).any (·.1) = false := by rfl) : DE X (.Call (.Name x p) (e :: es) [] pos) (dCall n sp [] DX0 t) := by
  subst h1 h2 h3 h4 h5 hn
  obtain ⟨f, fd, h1, h2, h3, h4, _⟩ := F.ex
  exact de_callX h1 (hr.mono hj) gd h2 h3 h4 .nil .nil pass0 pX0 ha hg hdb he hpl
end
/-! ### at the end of a def: the cells that it made are left behind -/
mutual
def below (n : Nat) : D → Bool
  | .tup l => belowAll n l
  | .lst l => belowAll n l
  | .own k => decide (k < n)
  | .exc _ d => below n d
  | _ => true
def belowAll (n : Nat) : List D → Bool
  | [] => true
  | d :: ds => below n d && belowAll n ds
end
def belowO (n : Nat) : Own → Bool
  | .lst l => belowAll n l
  | .dead => true
section
variable {K : PySem.W.Frag} {ph : Ph} {S : Hp} {n : Nat}
mutual
theorem Rep.take : ∀ (d : D) (v : V), below n d = true → Rep K ph S v d → Rep K (ph.cut n) S v d
  | .non, _, _, h => by cases h; exact .non
  | .bl _, _, _, h => by cases h; exact .bl _
  | .int _, _, _, h => by cases h; exact .int _
  | .str _, _, _, h => by cases h; exact .str _
  | .tup ds, _, e, h => by
    cases h with
    | tup h1 h2 => exact .tup h1 (RepAll.takeP ds _ (by simpa only [below] using e) h2)
  | .lst ds, _, e, h => by
    cases h with
    | lst h1 h2 => exact .lst h1 (RepAll.takeP ds _ (by simpa only [below] using e) h2)
  | .dct0, _, _, h => by
    cases h with
    | dct0 h1 => exact .dct0 h1
  | .scr ns, _, _, h => by
    cases h with
    | scr h1 => exact .scr h1
  | .own k, _, e, h => by
    cases h with
    | own h1 =>
      have e' : k < n := of_decide_eq_true (by simpa only [below] using e)
      exact .own (by show (ph.cells.take n)[k]? = _; rw [List.getElem?_take_of_lt e']; exact h1)
  | .glb _, _, _, h => by
    cases h with
    | glb h1 => exact .glb h1
  | .exc C d, _, e, h => by
    cases h with
    | exc h0 h1 h2 h3 => exact .exc h0 h1 h2 (Rep.take d _ (by simpa only [below] using e) h3)
  | .val v, _, _, h => by cases h; exact .val _
theorem RepAll.takeP : ∀ (ds : List D) (vs : List V), belowAll n ds = true → RepAll K ph S vs ds → RepAll K (ph.cut n) S vs ds
  | [], _, _, h => by cases h; exact .nil
  | d :: ds, _, e, h => by
    have e' : below n d = true ∧ belowAll n ds = true := by simpa only [belowAll, Bool.and_eq_true] using e
    cases h with
    | cons h1 h2 => exact .cons (Rep.take d _ e'.1 h1) (RepAll.takeP ds _ e'.2 h2)
end
mutual
theorem Rep.belowP : ∀ (d : D) (v : V), Rep K ph S v d → below ph.cells.length d = true
  | .non, _, _ => by simp only [below]
  | .bl _, _, _ => by simp only [below]
  | .int _, _, _ => by simp only [below]
  | .str _, _, _ => by simp only [below]
  | .tup ds, _, h => by
    cases h with
    | tup h1 h2 => simp only [below]; exact RepAll.belowP ds _ h2
  | .lst ds, _, h => by
    cases h with
    | lst h1 h2 => simp only [below]; exact RepAll.belowP ds _ h2
  | .dct0, _, _ => by simp only [below]
  | .scr ns, _, _ => by simp only [below]
  | .own k, _, h => by
    cases h with
    | own h1 => simp only [below]; exact decide_eq_true (List.getElem?_eq_some_iff.mp h1).1
  | .glb _, _, _ => by simp only [below]
  | .exc C d, _, h => by
    cases h with
    | exc h0 h1 h2 h3 => simp only [below]; exact Rep.belowP d _ h3
  | .val v, _, _ => by simp only [below]
theorem RepAll.belowP : ∀ (ds : List D) (vs : List V), RepAll K ph S vs ds → belowAll ph.cells.length ds = true
  | [], _, _ => by simp only [belowAll]
  | d :: ds, _, h => by
    cases h with
    | cons h1 h2 => simp only [belowAll, Bool.and_eq_true]; exact ⟨Rep.belowP d _ h1, RepAll.belowP ds _ h2⟩
end
end
mutual
theorem below.mono {m n : Nat} (hmn : m ≤ n) : ∀ d : D, below m d = true → below n d = true
  | .non, _ => by simp only [below]
  | .bl _, _ => by simp only [below]
  | .int _, _ => by simp only [below]
  | .str _, _ => by simp only [below]
  | .tup ds, h => by
    simp only [below] at h ⊢
    exact belowAll.mono hmn ds h
  | .lst ds, h => by
    simp only [below] at h ⊢
    exact belowAll.mono hmn ds h
  | .dct0, _ => by simp only [below]
  | .scr _, _ => by simp only [below]
  | .own k, h => by
    simp only [below] at h ⊢
    have := of_decide_eq_true h
    exact decide_eq_true (by omega)
  | .glb _, _ => by simp only [below]
  | .exc _ d, h => by
    simp only [below] at h ⊢
    exact below.mono hmn d h
  | .val _, _ => by simp only [below]
theorem belowAll.mono {m n : Nat} (hmn : m ≤ n) : ∀ ds : List D, belowAll m ds = true → belowAll n ds = true
  | [], _ => by simp only [belowAll]
  | d :: ds, h => by
    simp only [belowAll, Bool.and_eq_true] at h ⊢
    exact ⟨below.mono hmn d h.1, belowAll.mono hmn ds h.2⟩
end
/-- d and the cells M1 are what stays of M': all else was made by the def -/
def Rtq (M : Mem) (Q : DQ) : DQ := fun d M' => ∃ M1 G, M' = M1 ++ G ∧ M.length ≤ M1.length ∧ below M1.length d = true ∧ (∀ (i : Nat) (c : Own), M1[i]? = some c → M[i]? = some c ∨ belowO M1.length c = true) ∧ Q d M1
theorem Sat.leave {K : PySem.W.Frag} {ph ph1 : Ph} {S S1 : Hp} {r : Env} {M M1 G : Mem} {σ : St} {H H1 : Hp} (h0 : Sat K ph S [] M [] H) (x : Ext ph S ph1 S1) (h : Sat K ph1 S1 r (M1 ++ G) σ H1) (hl : M.length ≤ M1.length) (hc : ∀ (i : Nat) (c : Own), M1[i]? = some c → M[i]? = some c ∨ belowO M1.length c = true) :
    Ext ph S (ph1.cut M1.length) S1 ∧ Sat K (ph1.cut M1.length) S1 [] M1 [] H1 := by
  have hpl : M1.length ≤ ph1.cells.length := by have := h.len; rw [List.length_append] at this; omega
  have up : ∀ (k : Nat) (a : Addr), k < M1.length → ph1.cells[k]? = some a → (ph1.cut M1.length).cells[k]? = some a := fun k a hk e => by show (ph1.cells.take M1.length)[k]? = _; rw [List.getElem?_take_of_lt hk]; exact e
  have dn : ∀ (k : Nat) (a : Addr), (ph1.cut M1.length).cells[k]? = some a → ph1.cells[k]? = some a := fun k a e => by
    replace e : (ph1.cells.take M1.length)[k]? = some a := e
    have hk : k < M1.length := by
      have := (List.getElem?_eq_some_iff.mp e).1
      rw [List.length_take] at this; omega
    rw [List.getElem?_take_of_lt hk] at e; exact e
  refine ⟨⟨fun k a e => up k a ?_ (x.pre k a e), x.same, x.hid⟩, h.sub, ?_, h.nd.sublist (List.take_sublist _ _), fun k a e => h.trk k a (dn k a e), fun k ds e => ?_, fun q hq => ?_, h.hnd, rfl, fun i d e => by simp at e⟩
  · refine Nat.lt_of_lt_of_le ?_ hl
    rw [← h0.len]; exact (List.getElem?_eq_some_iff.mp e).1
  · show (ph1.cells.take M1.length).length = _
    rw [List.length_take]; omega
  · have kl : k < M1.length := (List.getElem?_eq_some_iff.mp e).1
    obtain ⟨a, xs, c1, c2, c3, c4⟩ := h.cell k ds (by rw [List.getElem?_append_left kl]; exact e)
    refine ⟨a, xs, up k a (by omega) c1, c2, c3, RepAll.takeP ds xs ?_ c4⟩
    rcases hc k _ e with q | q
    · obtain ⟨_, _, _, _, _, b4⟩ := h0.cell k ds q
      refine belowAll.mono hl _ ?_
      rw [← h0.len]; exact RepAll.belowP _ _ b4
    · simpa only [belowO] using q
  · obtain ⟨h1, h2, h3⟩ := h.hid q hq
    exact ⟨h1, h2, fun z => h3 (List.mem_of_mem_take z)⟩
theorem Rtq.out {K : PySem.W.Frag} {ph : Ph} {S : Hp} {M : Mem} {H : Hp} {Q : DQ} (h0 : Sat K ph S [] M [] H) {v : V} {H1 : Hp} (h : postR K ph S (Rtq M Q) v H1) : postM K ph S Q v H1 := by
  obtain ⟨r, σ, ph1, S1, M', x, hs, d, q, M1, G, rfl, hl, hb, hc, hq⟩ := h
  obtain ⟨x2, hs2⟩ := Sat.leave h0 x hs hl hc
  exact ⟨_, _, _, x2, hs2, d, Rep.take d v hb q, hq⟩
/-- the names at the entry -/
def startD (n : Nat) (ds : List D) : Env := ds.map some ++ List.replicate (n - ds.length) none
theorem Sat.start {K : PySem.W.Frag} {ph : Ph} {S : Hp} {M : Mem} {H : Hp} {vs : List V} {ds : List D} (h : Sat K ph S [] M [] H) (q : RepAll K ph S vs ds) (N : List Str) : Sat K ph S (startD N.length ds) M (L2.start N vs) H := by
  refine ⟨h.sub, h.len, h.nd, h.trk, h.cell, h.hid, h.hnd, ?_, fun i d e => ?_⟩
  · unfold startD L2.start
    rw [List.length_append, List.length_append, List.length_map, List.length_map, List.length_replicate, List.length_replicate, q.len]
  · unfold startD at e
    by_cases hi : i < ds.length
    · rw [List.getElem?_append_left (by rw [List.length_map]; exact hi), List.getElem?_map] at e
      cases e' : ds[i]? with
      | none => rw [e'] at e; cases e
      | some d' =>
        rw [e'] at e
        have e2 : d' = d := by simpa using e
        subst e2
        obtain ⟨v, ev, qv⟩ := q.get e'
        refine ⟨v, ?_, qv⟩
        unfold L2.start
        rw [List.getElem?_append_left (by rw [List.length_map, q.len]; exact hi), List.getElem?_map, ev]
        rfl
    · rw [List.getElem?_append_right (by rw [List.length_map]; omega), List.getElem?_replicate] at e
      split at e <;> cases e
/-- what the body's end is for the def -/
def dEnds (M : Mem) (Q : DQ) : DEnds := { nx := fun _ M' => Rtq M Q .non M', rt := Rtq M Q }
section
variable {P : Program} {w : World} {K : PySem.W.Frag} {mg : Str → Option Value} {base : Heap}
/-- THE RULE: a def from which nothing is raised, by its body; its end leaves its own cells behind -/
theorem Fun.okD {x qual : Str} {st : Stmt} {f : Addr} {fd : FuncData} {N ps : List Str} {k : Nat} {sp : DSp} {t : DTS} (F : Fun K x qual st f fd) (S : FnScope N ps (defScope st))
    (hder : ∀ (cdv : Value) (A : Around) (outer : List PySem.Env) (s : Shared) (H : Hp) (E : XK), Room k (A.deeper (envOfC qual (defScope st) s.heap.objs.size f cdv)) → (A.deeper (envOfC qual (defScope st) s.heap.objs.size f cdv)).guards = some [] →
      DSs (cxOf CX0 P w K mg base N qual (defScope st) f cdv A outer s H E).nox (defBody st) t)
    (hread : ∀ ds M Q, ds.length = ps.length → sp ds M Q DX0 → t (dEnds M Q) (startD N.length ds) M)
    (hX : ∀ ds M Q E, sp ds M Q E → sp ds M Q DX0 := by exact fun _ _ _ _ h => h) : FnD P w K mg base CX0 (k + 1) f fd ps sp := by
  obtain ⟨oc, od, kV, doc, pm, an, cdv, ct, osl, rfl, lk, hcd⟩ := F.ex
  refine fnG_of lk hcd S (fun vs H Q E h => ?_) fun A outer s H vs Q E hr gd hsp => ?_
  · obtain ⟨_, _, _, _, _, _, hl, _, q, _⟩ := h
    rw [q.len]; exact hl
  · obtain ⟨ph, S0, M, ds, Q0, E0, hl, hs, hq, h, h1, h2⟩ := hsp
    refine ⟨_, (hder cdv A outer s H E hr gd).pss.nox, ph, S0, startD N.length ds, M, dEnds M Q0, hs.start hq N, hread ds M Q0 hl (hX _ _ _ _ h), ?_, ?_, ?_, ?_⟩
    · rintro σ' H' ⟨r, ph1, S1, M1, x, hs1, z⟩
      exact h1 _ _ (Rtq.out hs ⟨r, σ', ph1, S1, M1, x, hs1, .non, .non, z⟩)
    · exact fun v H' z => h1 _ _ (Rtq.out hs z)
    · rintro σ' H' ⟨r, ph1, S1, M1, x, hs1, z⟩
      exact z.elim
    · rintro σ' H' ⟨r, ph1, S1, M1, x, hs1, z⟩
      exact z.elim
end
end DL
/-! DL6: statements, loops, comprehensions -/
namespace DL
open PySem PySem.Spec PyProof.Rows L2
variable {X : Cx}
theorem DS.of {st : Stmt} {t' : TS} {t : DTS} (h : PS X st t') (w : ∀ ph S r M σ H E, Sat X.K ph S r M σ H → t E r M → ∀ E', (∀ σ' H', postN X.K ph S E.nx σ' H' → E'.nx σ' H') → (∀ v H', postR X.K ph S E.rt v H' → E'.rt v H') → (∀ σ' H', postN X.K ph S E.bk σ' H' → E'.bk σ' H') → (∀ σ' H', postN X.K ph S E.ct σ' H' → E'.ct σ' H') → t' E' σ H) : DS X st t :=
  ⟨PS.weak h fun E σ H ⟨ph, S, r, M, E0, hs, ht, h1, h2, h3, h4⟩ => w ph S r M σ H E0 hs ht E h1 h2 h3 h4⟩
theorem postN.up {K : PySem.W.Frag} {ph ph1 : Ph} {S S1 : Hp} {Q : Env → Mem → Prop} {σ : St} {H : Hp} (x : Ext ph S ph1 S1) (h : postN K ph1 S1 Q σ H) : postN K ph S Q σ H := let ⟨r, q⟩ := h; ⟨r, Aft.up x q⟩
theorem postR.up {K : PySem.W.Frag} {ph ph1 : Ph} {S S1 : Hp} {Q : DQ} {v : V} {H : Hp} (x : Ext ph S ph1 S1) (h : postR K ph1 S1 Q v H) : postR K ph S Q v H := let ⟨r, σ, q⟩ := h; ⟨r, σ, Aft.up x q⟩
/-! ### blocks -/
def dNext : DTS := fun E r M => E.nx r M
def dSeq (t u : DTS) : DTS := fun E r M => t { E with nx := u E } r M
theorem dss_nil : DSs X [] dNext := ⟨PSs.weak pss_nil fun E σ H ⟨ph, S, r, M, E0, hs, ht, h1, _, _, _⟩ => h1 _ _ ⟨r, Aft.here hs ht⟩⟩
theorem lf_on {ph ph1 : Ph} {S S1 : Hp} {r : Env} {M : Mem} {σ : St} {H : Hp} {t : DTS} {E : DEnds} {E' : Ends} (x : Ext ph S ph1 S1) (hs : Sat X.K ph1 S1 r M σ H) (ht : t E r M)
    (h1 : ∀ σ' H', postN X.K ph S E.nx σ' H' → E'.nx σ' H') (h2 : ∀ v H', postR X.K ph S E.rt v H' → E'.rt v H') (h3 : ∀ σ' H', postN X.K ph S E.bk σ' H' → E'.bk σ' H') (h4 : ∀ σ' H', postN X.K ph S E.ct σ' H' → E'.ct σ' H') : lfS X.K t E' σ H :=
  ⟨ph1, S1, r, M, E, hs, ht, fun _ _ z => h1 _ _ (z.up x), fun _ _ z => h2 _ _ (z.up x), fun _ _ z => h3 _ _ (z.up x), fun _ _ z => h4 _ _ (z.up x)⟩
theorem dss_cons {st : Stmt} {rest : List Stmt} {t u : DTS} (h : DS X st t) (h' : DSs X rest u) : DSs X (st :: rest) (dSeq t u) :=
  ⟨PSs.weak (pss_cons h.ps h'.pss) fun E σ H ⟨ph, S, r, M, E0, hs, ht, h1, h2, h3, h4⟩ =>
    ⟨ph, S, r, M, { E0 with nx := u E0 }, hs, ht, fun σ' H' ⟨r1, ph1, S1, M1, x, hs1, z⟩ => lf_on x hs1 z h1 h2 h3 h4, h2, h3, h4⟩⟩
theorem dss_one {st : Stmt} {t : DTS} (h : DS X st t) : DSs X [st] t := ⟨pss_one h.ps⟩
def dNever : DTS := fun _ _ _ => False
section
variable {pos : Pos}
/-- an expression whose value is dropped -/
def dDrop (t : DTE) : DTS := fun E r M => t r M fun _ M1 => E.nx r M1
theorem ds_expr {e : Expr} {t : DTE} (he : DE X e t) (hs : swapsWith e none pos.line X.env = pure false := by rfl) : DS X (.Expr e pos) (dDrop t) :=
  DS.of (ps_expr he.pe hs) fun ph S r M σ H E hs ht E' h1 _ _ _ => ⟨ph, S, r, M, _, hs, ht, fun v H' ⟨ph1, S1, M1, x, hs1, d, _, z⟩ => h1 _ _ ⟨r, ph1, S1, M1, x, hs1, z⟩⟩
def dRet (t : DTE) : DTS := fun E r M => t r M E.rt
theorem ds_ret {e : Expr} {t : DTE} (he : DE X e t) : DS X (.Return (some e) pos) (dRet t) :=
  DS.of (ps_ret he.pe) fun ph S r M σ H E hs ht E' _ h2 _ _ => ⟨ph, S, r, M, _, hs, ht, fun v H' z => h2 _ _ ⟨r, σ, z⟩⟩
def dRetN : DTS := fun E _ M => E.rt .non M
def dIfS (c : DTT) (t u : DTS) : DTS := fun E r M => c r M fun b M1 => if b = true then t E r M1 else u E r M1
theorem ds_if {c : Expr} {a b : List Stmt} {tc : DTT} {t u : DTS} (hc : DT X c tc) (ha : DSs X a t) (hb : DSs X b u) : DS X (.If c a b pos) (dIfS tc t u) :=
  DS.of (ps_if hc.pt ha.pss hb.pss) fun ph S r M σ H E hs ht E' h1 h2 h3 h4 => ⟨ph, S, r, M, _, hs, ht, fun k H1 ⟨ph1, S1, M1, x, hs1, z⟩ => by
    cases k with
    | true => exact lf_on x hs1 z h1 h2 h3 h4
    | false => exact lf_on x hs1 z h1 h2 h3 h4⟩
end
/-! ### targets -/
abbrev DTG := D → Env → Mem → (Env → Mem → Prop) → Prop
structure DG (X : Cx) (target : Expr) (g : DTG) : Prop where
  pg : PG X target (fun v σ H Q => ∃ ph S r M d Q0, Sat X.K ph S r M σ H ∧ Rep X.K ph S v d ∧ g d r M Q0 ∧ ∀ σ' H', postN X.K ph S Q0 σ' H' → Q σ' H')
def dName (i : Nat) : DTG := fun d r M Q => Q (r.set i (some d)) M
theorem dg_name {i : Nat} {x : Str} {pos : Pos} (hN : X.N.Nodup) (hi : X.N[i]? = some x := by rfl) (hx : Loc X.env.scope x := by first | exact Or.inl rfl | exact Or.inr rfl) (hf : X.fn x = true ∨ X.env.scope.names.lookup x = some .local := by first | exact .inl rfl | exact .inr rfl | assumption) : DG X (.Name x pos) (dName i) :=
  ⟨⟨fun pins s σ H v u Q I rv ⟨ph, S, r, M, d, Q0, hs, q, hg, h1⟩ => (pg_name hN hi hx hf).run pins s σ H v u Q I rv (h1 _ _ ⟨_, Aft.here (hs.setN q) hg⟩)⟩⟩
abbrev DTGs := List D → Env → Mem → (Env → Mem → Prop) → Prop
structure DGs (X : Cx) (ts : List Expr) (g : DTGs) : Prop where
  pgs : PGs X ts (fun vs σ H Q => ∃ ph S r M ds Q0, Sat X.K ph S r M σ H ∧ RepAll X.K ph S vs ds ∧ g ds r M Q0 ∧ ∀ σ' H', postN X.K ph S Q0 σ' H' → Q σ' H')
def dGNil : DTGs := fun ds r M Q => match ds with
  | [] => Q r M
  | _ => False
def dGCons (g : DTG) (u : DTGs) : DTGs := fun ds r M Q => match ds with
  | d :: rest => g d r M fun r1 M1 => u rest r1 M1 Q
  | _ => False
theorem dgs_nil : DGs X [] dGNil := ⟨⟨fun pins s σ H vs us Q I rv ⟨ph, S, r, M, ds, Q0, hs, q, hg, h1⟩ => pgs_nil.run pins s σ H vs us Q I rv (by
  cases ds with
  | cons d ds => exact hg.elim
  | nil =>
    cases q
    exact ⟨rfl, h1 _ _ ⟨r, Aft.here hs hg⟩⟩)⟩⟩
theorem dgs_cons {e : Expr} {es : List Expr} {g : DTG} {u : DTGs} (h : DG X e g) (h' : DGs X es u) (hst : (assignEach (e :: es) X.env).map (·.2) = assign e X.env :: (assignEach es X.env).map (·.2) := by rfl) : DGs X (e :: es) (dGCons g u) :=
  ⟨⟨fun pins s σ H vs us Q I rv ⟨ph, S, r, M, ds, Q0, hs, q, hg, h1⟩ => (pgs_cons h.pg h'.pgs hst).run pins s σ H vs us Q I rv (by
    cases ds with
    | nil => exact hg.elim
    | cons d ds =>
      cases q with
      | cons q1 q2 => exact ⟨_, _, rfl, ph, S, r, M, d, _, hs, q1, hg, fun σ1 H1 ⟨r1, ph1, S1, M1, x1, hs1, z⟩ => ⟨ph1, S1, r1, M1, ds, Q0, hs1, q2.up x1, z, fun σ2 H2 z2 => h1 _ _ (z2.up x1)⟩⟩)⟩⟩
/-- (a, b, ..) = a tuple, or a list -/
def dGTup (n : Nat) (u : DTGs) : DTG := fun d r M Q => match res M d with
  | .tup ds => ds.length = n ∧ u ds r M Q
  | .lst ds => ds.length = n ∧ u ds r M Q
  | _ => False
theorem dg_tup {es : List Expr} {k : Nat} {u : DTGs} {n : Nat} {pos : Pos} (hc : X.calm = true) (h : DGs X es u) (hn : (assignEach es X.env).length = n := by rfl) (hst : (assignEach es X.env).findIdx? (·.1) = none := by rfl) : DG X (.Tuple es k pos) (dGTup n u) :=
  ⟨⟨fun pins s σ H v u' Q I rv ⟨ph, S, r, M, d, Q0, hs, q, hg, h1⟩ => by
    unfold dGTup at hg
    split at hg
    · rename_i ds e
      have e' := res_tup e
      subst e'
      refine (pg_tup hc h.pgs hn hst).run pins s σ H v u' Q I rv ?_
      cases q with
      | tup q1 q2 => exact ⟨_, _, rfl, q1.sq hs.sub, by rw [q2.len]; exact hg.1, ph, S, r, M, _, Q0, hs, q2, hg.2, h1⟩
    · rename_i ds e
      obtain ⟨a, xs, e1, e2, q2⟩ := res_lst hs q e
      refine (pg_unl hc h.pgs hn hst).run pins s σ H v u' Q I rv ?_
      exact ⟨a, xs, e1, SqL.of e2, by rw [q2.len]; exact hg.1, ph, S, r, M, _, Q0, hs, q2, hg.2, h1⟩
    · exact hg.elim⟩⟩
/-- o[i] = .., o an owned list -/
def gSetL (o i d : D) (M : Mem) (Q : Mem → Prop) : Prop := match o, i with
  | .own k, .int j => match M[k]? with
    | some (.lst l) => match ixN l.length j with
      | some n => Q (M.set k (.lst (l.set n d)))
      | none => False
    | _ => False
  | _, _ => False
def dSub (to ti : DTE) : DTG := fun d r M Q => to r M fun o M1 => ti r M1 fun i M2 => gSetL o i d M2 fun M3 => Q r M3
theorem dg_sub {o i : Expr} {to ti : DTE} {pos : Pos} (ho : DE X o to) (hi : DE X i ti)
    (ha : ∀ v, assign (.Subscript o i pos) X.env v = (do
      let ov ← holding [v] (eval o X.env)
      let iv ← holding [v, ov] (eval i X.env)
      standAt pos
      holding [v, ov, iv] (setItem ov iv v)
      release [v, ov, iv] []) := by intro _; rfl) : DG X (.Subscript o i pos) (dSub to ti) :=
  ⟨⟨fun pins s σ H v u Q I rv ⟨ph, S, r, M, d, Q0, hs, q, hg, h1⟩ => (pg_sub ho.pe hi.pe set_list ha).run pins s σ H v u Q I rv
    ⟨ph, S, r, M, _, hs, hg, fun ov H1 ⟨ph1, S1, M1, x1, hs1, od, q1, g1⟩ => ⟨ph1, S1, r, M1, _, hs1, g1, fun iv H2 ⟨ph2, S2, M2, x2, hs2, id', q2, g2⟩ => by
      replace g2 : gSetL od id' d M2 fun M3 => Q0 r M3 := g2
      cases od with
      | own k =>
        cases id' with
        | int j =>
          unfold gSetL at g2
          dsimp only at g2
          split at g2
          · rename_i l hk
            split at g2
            · rename_i n hn
              cases q2
              cases q1 with
              | own hp =>
                have hp2 := x2.pre _ _ hp
                obtain ⟨a, xs, c1, c2, c3, c4⟩ := hs2.cell k l hk
                rw [hp2] at c1; cases c1
                exact ⟨_, xs, j, n, rfl, rfl, c3, by rw [c4.len]; exact hn, h1 _ _ ⟨r, ph2, S2, _, x1.trans x2, hs2.put hk hp2 (RepAll.set (q.up (x1.trans x2)) n c4), g2⟩⟩
            · exact g2.elim
          · exact g2.elim
        | _ => exact g2.elim
      | _ => exact g2.elim⟩⟩⟩⟩
/-- target = value -/
def dAsg (t : DTE) (g : DTG) : DTS := fun E r M => t r M fun d M1 => g d r M1 E.nx
section
variable {pos : Pos}
theorem ds_asg {tg e : Expr} {t : DTE} {g : DTG} (he : DE X e t) (hg : DG X tg g) (hs : swapsWithSole [tg] e pos.line X.env = pure false := by rfl) (hw : swappedStores [tg] e X.env = pure none := by rfl)
    (h1 : (assignEach [tg] X.env).map (·.2) = [assign tg X.env] := by rfl) : DS X (.Assign [tg] e pos) (dAsg t g) :=
  DS.of (ps_asg he.pe hg.pg hs hw h1) fun ph S r M σ H E hs ht E' h1 _ _ _ => ⟨ph, S, r, M, _, hs, ht, fun v H' ⟨ph1, S1, M1, x, hs1, d, q, z⟩ => ⟨ph1, S1, r, M1, d, E.nx, hs1, q, z, fun σ2 H2 z2 => h1 _ _ (z2.up x)⟩⟩
/-- name = value -/
theorem ds_set {i : Nat} {x : Str} {e : Expr} {t : DTE} {pos' : Pos} (hN : X.N.Nodup) (he : DE X e t) (hi : X.N[i]? = some x := by rfl) (hx : Loc X.env.scope x := by first | exact Or.inl rfl | exact Or.inr rfl) (hs : swapsWith e (some (.Name x pos')) pos.line X.env = pure false := by rfl) (hf : X.fn x = true ∨ X.env.scope.names.lookup x = some .local := by first | exact .inl rfl | exact .inr rfl | assumption) :
    DS X (.Assign [.Name x pos'] e pos) (dAsg t (dName i)) :=
  DS.of (ps_set hN hi hx he.pe hs hf) fun ph S r M σ H E hs ht E' h1 _ _ _ => ⟨ph, S, r, M, _, hs, ht, fun v H' ⟨ph1, S1, M1, x, hs1, d, q, z⟩ => h1 _ _ ⟨_, ph1, S1, M1, x, hs1.setN q, z⟩⟩
/-- a, b = x, y -/
def dPar (i j : Nat) (t : DTA) : DTS := fun E r M => t r M fun ds M1 => match ds with
  | [d, e] => E.nx ((r.set i (some d)).set j (some e)) M1
  | _ => False
theorem ds_par {i j : Nat} {x y : Str} {a b : Expr} {t : DTA} {px py pt : Pos} {kt k2 pt2} (hc : X.calm = true) (hN : X.N.Nodup) (ha : DA X [a, b] t) (hi : X.N[i]? = some x := by rfl) (hj : X.N[j]? = some y := by rfl) (hij : i ≠ j := by decide)
    (hx : X.env.scope.names.lookup x = some .local := by rfl) (hy : X.env.scope.names.lookup y = some .local := by rfl)
    (hw : swappedStores [.Tuple [.Name x px, .Name y py] kt pt] (.Tuple [a, b] k2 pt2) X.env = pure (some [x, y]) := by rfl)
    (hs : swapsWithSole [.Tuple [.Name x px, .Name y py] kt pt] (.Tuple [a, b] k2 pt2) pos.line X.env = pure false := by rfl) :
    DS X (.Assign [.Tuple [.Name x px, .Name y py] kt pt] (.Tuple [a, b] k2 pt2) pos) (dPar i j t) :=
  DS.of (ps_par hc hN hi hj hij hx hy ha.pa hw hs) fun ph S r M σ H E hs ht E' h1 _ _ _ => ⟨ph, S, r, M, _, hs, ht, fun vs H' ⟨ph1, S1, M1, x, hs1, ds, q, z⟩ => by
    match ds, q, z with
    | [d, e], .cons q1 (.cons q2 .nil), z => exact ⟨_, _, rfl, h1 _ _ ⟨_, ph1, S1, M1, x, (hs1.setN q1).setN q2, z⟩⟩⟩
def dPar3 (i j l : Nat) (t : DTA) : DTS := fun E r M => t r M fun ds M1 => match ds with
  | [d, e, f] => E.nx (((r.set i (some d)).set j (some e)).set l (some f)) M1
  | _ => False
theorem ds_par3 {i j l : Nat} {x y z : Str} {a b c : Expr} {t : DTA} {px py pz pt : Pos} {kt k2 pt2} (hc : X.calm = true) (hN : X.N.Nodup) (ha : DA X [a, b, c] t) (hi : X.N[i]? = some x := by rfl) (hj : X.N[j]? = some y := by rfl) (hl : X.N[l]? = some z := by rfl) (hij : i ≠ j := by decide) (hil : i ≠ l := by decide) (hjl : j ≠ l := by decide)
    (hx : X.env.scope.names.lookup x = some .local := by rfl) (hy : X.env.scope.names.lookup y = some .local := by rfl) (hz : X.env.scope.names.lookup z = some .local := by rfl)
    (hw : swappedStores [.Tuple [.Name x px, .Name y py, .Name z pz] kt pt] (.Tuple [a, b, c] k2 pt2) X.env = pure (some [x, y, z]) := by rfl)
    (hs : swapsWithSole [.Tuple [.Name x px, .Name y py, .Name z pz] kt pt] (.Tuple [a, b, c] k2 pt2) pos.line X.env = pure false := by rfl) :
    DS X (.Assign [.Tuple [.Name x px, .Name y py, .Name z pz] kt pt] (.Tuple [a, b, c] k2 pt2) pos) (dPar3 i j l t) :=
  DS.of (ps_par3 hc hN hi hj hl hij hil hjl hx hy hz ha.pa hw hs) fun ph S r M σ H E hs ht E' h1 _ _ _ => ⟨ph, S, r, M, _, hs, ht, fun vs H' ⟨ph1, S1, M1, x, hs1, ds, q, z⟩ => by
    match ds, q, z with
    | [d, e, f], .cons q1 (.cons q2 (.cons q3 .nil)), z => exact ⟨_, _, _, rfl, h1 _ _ ⟨_, ph1, S1, M1, x, ((hs1.setN q1).setN q2).setN q3, z⟩⟩⟩
/-- name op= e (ints) -/
def gIpI (f : Int → Int → Int) (x y : D) (M : Mem) (Q : DQ) : Prop := match x, y with
  | .int i, .int j => Q (.int (f i j)) M
  | _, _ => False
def dAug (i : Nat) (t : DTE) (f : Int → Int → Int) : DTS := fun E r M => match r[i]? with
  | some (some (.int a)) => t r M fun d M1 => gIpI f (.int a) d M1 fun z M2 => E.nx (r.set i (some z)) M2
  | _ => False
/-! ### while -/
def dWhile (c : DTT) (t : DTS) : DTS := fun E r M => ∃ W : Nat → Env → Mem → Prop, (∃ m, W m r M) ∧ ∀ m r M, W m r M →
  c r M fun b M1 => if b = true then t { E with nx := fun r' M' => ∃ m', m' < m ∧ W m' r' M', ct := fun r' M' => ∃ m', m' < m ∧ W m' r' M', bk := E.nx } r M1 else E.nx r M1
theorem ds_while {c : Expr} {body : List Stmt} {tc : DTT} {t : DTS} (hc : DT X c tc) (hb : DSs X body t) (hp : PassesOwn (model X.prog X.w) X.A X.env X.xe := by exact PassesOwn.never) : DS X (.While c body [] pos) (dWhile tc t) :=
  DS.of (ps_while hp hc.pt hb.pss) fun ph S r M σ H E hs ht E' h1 h2 h3 h4 => by
    obtain ⟨W, ⟨m0, w0⟩, turn⟩ := ht
    refine ⟨fun m σ H => postN X.K ph S (W m) σ H, ⟨m0, r, Aft.here hs w0⟩, fun m σ1 H1 ⟨r1, ph1, S1, M1, x1, hs1, w1⟩ => ?_⟩
    refine ⟨ph1, S1, r1, M1, _, hs1, turn m r1 M1 w1, fun b H2 ⟨ph2, S2, M2, x2, hs2, z⟩ => ?_⟩
    cases b with
    | false =>
      rw [if_neg Bool.false_ne_true] at z ⊢
      exact h1 _ _ ⟨r1, ph2, S2, M2, x1.trans x2, hs2, z⟩
    | true =>
      rw [if_pos rfl] at z ⊢
      refine ⟨fun σ' H' => ∃ m', m' < m ∧ postN X.K ph S (W m') σ' H', fun _ _ q => q, ?_⟩
      exact lf_on (x1.trans x2) hs2 z (fun σ' H' ⟨r', ph', S', M', x', hs', m', hm, w'⟩ => ⟨m', hm, r', ph', S', M', x', hs', w'⟩) h2 h1 (fun σ' H' ⟨r', ph', S', M', x', hs', m', hm, w'⟩ => ⟨m', hm, r', ph', S', M', x', hs', w'⟩)
end
/-! ### what is walked -/
/-- J walks the items ds, while C holds of the cells -/
def Wlk (K : PySem.W.Frag) (ph : Ph) (S : Hp) (J : It) (ds : List D) (C : Mem → Prop) : Prop :=
  ∀ (ph' : Ph) S' r M σ H, (∀ (k : Nat) (a : Addr), ph.cells[k]? = some a → ph'.cells[k]? = some a) → Same S S' → Sat K ph' S' r M σ H → C M →
    (∀ i, ds.length ≤ i → J.stop i H) ∧ ∀ i d, ds[i]? = some d → J.go i H ∧ ∀ x H', J.yld i H x H' → Aft K ph' S' r σ H' fun ph2 S2 M2 => M2 = M ∧ Rep K ph2 S2 x d
abbrev DTI := Env → Mem → (List D → (Mem → Prop) → Mem → Prop) → Prop
structure DI (X : Cx) (tg iter : Expr) (t : DTI) : Prop where
  pi : PI X tg iter (fun σ H R => ∃ ph S r M Q0, Sat X.K ph S r M σ H ∧ t r M Q0 ∧ ∀ J H', (Aft X.K ph S r σ H' fun ph' S' M' => ∃ ds C, Wlk X.K ph' S' J ds C ∧ Q0 ds C M') → R J H')
/-- for: W holds ahead of turn i -/
def forW (ds : List D) (C : Mem → Prop) (g : DTG) (t : DTS) (E : DEnds) (r : Env) (M0 : Mem) : Prop := ∃ W : Nat → Env → Mem → Prop, W 0 r M0 ∧ ∀ i r M, W i r M → C M ∧ (ds.length ≤ i → E.nx r M) ∧
  ∀ d, ds[i]? = some d → g d r M fun r2 M2 => t { E with nx := W (i + 1), ct := W (i + 1), bk := E.nx } r2 M2
def dFor (wi : DTI) (g : DTG) (t : DTS) : DTS := fun E r M => wi r M fun ds C M0 => forW ds C g t E r M0
theorem ds_for {tg iter : Expr} {body : List Stmt} {wi : DTI} {g : DTG} {t : DTS} {pos : Pos} (hc : X.calm = true) (hi : DI X tg iter wi) (hg : DG X tg g) (hb : DSs X body t)
    (hs : ∀ x, foldedSetIterable iter X.env x = pure x := by intro _; rfl) (hp : PassesOwn (model X.prog X.w) X.A X.env X.xe := by exact PassesOwn.never) : DS X (.For tg iter body [] pos) (dFor wi g t) :=
  DS.of (ps_for hp hc hi.pi hg.pg hb.pss hs) fun ph S r M σ H E hs ht E' h1 h2 h3 h4 => by
    refine ⟨ph, S, r, M, _, hs, ht, fun J H1 ⟨ph1, S1, M1, x1, hs1, ds, C, wk, W, w0, turn⟩ => ?_⟩
    refine ⟨fun i m σ H => m = ds.length - i ∧ ∃ r', Aft X.K ph1 S1 r' σ H fun _ _ M => W i r' M, ⟨ds.length, by omega, r, Aft.here hs1 w0⟩, ?_⟩
    rintro i m σ3 H3 ⟨rfl, r3, ph3, S3, M3, x3, hs3, w3⟩
    obtain ⟨c3, f3, g3⟩ := turn i r3 M3 w3
    obtain ⟨k1, k2⟩ := wk ph3 S3 r3 M3 σ3 H3 x3.pre x3.same hs3 c3
    by_cases hl : ds.length ≤ i
    · exact .inl ⟨k1 i hl, h1 _ _ ⟨r3, ph3, S3, M3, x1.trans x3, hs3, f3 hl⟩⟩
    · obtain ⟨d, ed⟩ : ∃ d, ds[i]? = some d := ⟨ds[i]'(by omega), List.getElem?_eq_getElem (by omega)⟩
      obtain ⟨k3, k4⟩ := k2 i d ed
      refine .inr ⟨k3, fun σ' H' => ∃ r', Aft X.K ph1 S1 r' σ' H' fun _ _ M => W (i + 1) r' M, fun σ' H' z => ⟨ds.length - (i + 1), by omega, rfl, z⟩, fun x H4 hy => ?_⟩
      obtain ⟨ph4, S4, M4, x4, hs4, rfl, q4⟩ := k4 x H4 hy
      refine ⟨ph4, S4, r3, M4, d, _, hs4, q4, g3 d ed, fun σ5 H5 ⟨r5, ph5, S5, M5, x5, hs5, z5⟩ => ?_⟩
      have xx : Ext ph1 S1 ph5 S5 := x3.trans (x4.trans x5)
      refine ⟨ph5, S5, r5, M5, _, hs5, z5, ?_, ?_, ?_, ?_⟩
      · exact fun σ6 H6 ⟨r6, z6⟩ => ⟨r6, Aft.up xx z6⟩
      · exact fun v H6 z6 => h2 _ _ (z6.up (x1.trans xx))
      · exact fun σ6 H6 z6 => h1 _ _ (z6.up (x1.trans xx))
      · exact fun σ6 H6 ⟨r6, z6⟩ => ⟨r6, Aft.up xx z6⟩
/-! ### comprehensions -/
/-- the tests behind if -/
def dYes : DTT := fun _ M Q => Q true M
structure DTs (X : Cx) (ifs : List Expr) (t : DTT) : Prop where
  pts : PTs X ifs (fun σ H Q => ∃ ph S r M Q0, Sat X.K ph S r M σ H ∧ t r M Q0 ∧ ∀ b H', postT X.K ph S r σ Q0 b H' → Q b H')
theorem dts_nil : DTs X [] dYes := ⟨⟨fun pins s σ H Q I ⟨ph, S, r, M, Q0, hs, ht, hq⟩ => pts_nil.run pins s σ H Q I (hq _ _ (Aft.here hs ht))⟩⟩
theorem dts_one {c : Expr} {t : DTT} (h : DT X c t) : DTs X [c] t := ⟨pts_one h.pt⟩
def wipeD (r : Env) : List Nat → Env
  | [] => r
  | v :: vs => (wipeD r vs).set v none
theorem Sat.clr {K : PySem.W.Frag} {ph : Ph} {S : Hp} {r : Env} {M : Mem} {σ : St} {H : Hp} (h : Sat K ph S r M σ H) (i : Nat) : Sat K ph S (r.set i none) M (σ.set i none) H := by
  refine ⟨h.sub, h.len, h.nd, h.trk, h.cell, h.hid, h.hnd, by rw [List.length_set, List.length_set]; exact h.el, fun j e hj => ?_⟩
  by_cases hi : j = i
  · subst hi
    have jl : j < r.length := by
      have := (List.getElem?_eq_some_iff.mp hj).1
      rwa [List.length_set] at this
    rw [List.getElem?_set_self jl] at hj
    cases hj
  · rw [List.getElem?_set_ne (Ne.symm hi)] at hj
    rw [List.getElem?_set_ne (Ne.symm hi)]
    exact h.env j e hj
theorem Sat.wipe {K : PySem.W.Frag} {ph : Ph} {S : Hp} {r : Env} {M : Mem} {σ : St} {H : Hp} (h : Sat K ph S r M σ H) : ∀ vs : List Nat, Sat K ph S (wipeD r vs) M (L2.wipe σ vs) H
  | [] => h
  | v :: vs => (Sat.wipe h vs).clr v
/-- a target whose names are the comprehension's own (places vs) -/
structure DCG (X : Cx) (target : Expr) (vs : List Nat) (g : DTG) : Prop where
  pg : PG X target (fun v σ H Q => ∃ ph S r M d Q0, Sat X.K ph S r M σ H ∧ Rep X.K ph S v d ∧ g d r M Q0 ∧ ∀ σ' H', postN X.K ph S Q0 σ' H' → L2.wipe σ' vs = L2.wipe σ vs → Q σ' H')
theorem wipe_set {σ : St} {i : Nat} {x : Option V} : ∀ {vs : List Nat}, i ∈ vs → L2.wipe (σ.set i x) vs = L2.wipe σ vs
  | [], h => by cases h
  | v :: vs, h => by
    unfold L2.wipe
    by_cases hv : i ∈ vs
    · rw [wipe_set hv]
    · have e : i = v := (List.mem_cons.mp h).resolve_right hv
      subst e
      have key : ∀ (us : List Nat), i ∉ us → L2.wipe (σ.set i x) us = (L2.wipe σ us).set i x := by
        intro us
        induction us with
        | nil => intro _; rfl
        | cons u us ih =>
          intro hu
          unfold L2.wipe
          rw [ih (fun z => hu (List.mem_cons_of_mem _ z)), List.set_comm _ _ (fun e => hu (by rw [e]; exact List.mem_cons_self))]
      rw [key vs hv, List.set_set]
theorem dcg_name {i : Nat} {x : Str} {pos : Pos} {vs : List Nat} (hN : X.N.Nodup) (hi : X.N[i]? = some x := by rfl) (hv : i ∈ vs := by decide) (hx : Loc X.env.scope x := by first | exact Or.inl rfl | exact Or.inr rfl) (hf : X.fn x = true ∨ X.env.scope.names.lookup x = some .local := by first | exact .inl rfl | exact .inr rfl | assumption) : DCG X (.Name x pos) vs (dName i) :=
  ⟨⟨fun pins s σ H v u Q I rv ⟨ph, S, r, M, d, Q0, hs, q, hg, h1⟩ => (pg_name hN hi hx hf).run pins s σ H v u Q I rv (h1 _ _ ⟨_, Aft.here (hs.setN q) hg⟩ (wipe_set hv))⟩⟩
/-- [e for target in iter if ..]: W holds ahead of turn i with the items made so far; own: the list will be changed -/
def lcW (own : Bool) (ds : List D) (C : Mem → Prop) (g : DTG) (tt : DTT) (te : DTE) (r : Env) (M0 : Mem) (Q : DQ) : Prop := ∃ W : Nat → List D → Mem → Prop, W 0 [] M0 ∧ ∀ i acc M, W i acc M → C M ∧
  (ds.length ≤ i → if own = true then Q (.own M.length) (M ++ [.lst acc]) else Q (.lst acc) M) ∧
  ∀ d, ds[i]? = some d → g d r M fun r2 M2 => tt r2 M2 fun b M3 => if b = true then te r2 M3 fun e M4 => acc.length < sizeLine ∧ W (i + 1) (acc ++ [e]) M4 else W (i + 1) acc M3
def dLc (own : Bool) (wi : DTI) (g : DTG) (tt : DTT) (te : DTE) (vs : List Nat) : DTE := fun r M Q => wi r M fun ds C M0 => lcW own ds C g tt te (wipeD r vs) M0 Q
theorem wipe_at {σ : St} {i : Nat} : ∀ {vs : List Nat}, i ∈ vs → i < σ.length → (L2.wipe σ vs)[i]? = some none
  | [], h, _ => by cases h
  | v :: vs, h, hl => by
    unfold L2.wipe
    by_cases e : v = i
    · subst e
      rw [List.getElem?_set_self (by rw [wipe_length]; exact hl)]
    · rw [List.getElem?_set_ne e]
      exact wipe_at ((List.mem_cons.mp h).resolve_left (fun z => e z.symm)) hl
theorem wipe_wipe (σ : St) (vs : List Nat) : L2.wipe (L2.wipe σ vs) vs = L2.wipe σ vs := by
  refine List.ext_getElem? fun i => ?_
  by_cases hi : i ∈ vs
  · by_cases hl : i < σ.length
    · rw [wipe_at hi (by rw [wipe_length]; exact hl), wipe_at hi hl]
    · rw [List.getElem?_eq_none (by rw [wipe_length, wipe_length]; omega), List.getElem?_eq_none (by rw [wipe_length]; omega)]
  · rw [wipe_out hi]
theorem lc_read (o : Bool) {wi : DTI} {g : DTG} {tt : DTT} {te : DTE} {vs : List Nat} {ph : Ph} {S : Hp} {r : Env} {M : Mem} {σ : St} {H : Hp} {Q : DQ} (hs : Sat X.K ph S r M σ H) (ht : dLc o wi g tt te vs r M Q) (Q' : VK) (hq : ∀ v H', post X.K ph S r σ Q v H' → Q' v H') :
    tLc (fun σ H R => ∃ ph S r M Q0, Sat X.K ph S r M σ H ∧ wi r M Q0 ∧ ∀ J H', (Aft X.K ph S r σ H' fun ph' S' M' => ∃ ds C, Wlk X.K ph' S' J ds C ∧ Q0 ds C M') → R J H')
      (fun v σ H Q => ∃ ph S r M d Q0, Sat X.K ph S r M σ H ∧ Rep X.K ph S v d ∧ g d r M Q0 ∧ ∀ σ' H', postN X.K ph S Q0 σ' H' → L2.wipe σ' vs = L2.wipe σ vs → Q σ' H')
      (fun σ H Q => ∃ ph S r M Q0, Sat X.K ph S r M σ H ∧ tt r M Q0 ∧ ∀ b H', postT X.K ph S r σ Q0 b H' → Q b H')
      (fun σ H Q => ∃ ph S r M Q0, Sat X.K ph S r M σ H ∧ te r M Q0 ∧ ∀ v H', post X.K ph S r σ Q0 v H' → Q v H') vs σ H Q' := by
  refine ⟨ph, S, r, M, _, hs, ht, fun J H1 ⟨ph1, S1, M1, x1, hs1, ds, C, wk, W, w0, turn⟩ => ?_⟩
  intro p hp
  refine ⟨fun i m H => m = ds.length - i ∧ ∃ (ph2 : Ph) (S2 : Hp) (M2 : Mem) (xs : List V) (acc : List D), Ext ph1 S1 ⟨ph2.cells, ph1.hid⟩ S2 ∧ ph2.hid = (p, .lst xs) :: ph1.hid ∧ Sat X.K ph2 S2 r M2 σ H ∧ RepAll X.K ph2 S2 xs acc ∧ W i acc M2,
    ⟨ds.length, by omega, { ph1 with hid := (p, .lst []) :: ph1.hid }, S1, M1, [], [], .refl, rfl, hs1.hide hp _, .nil, w0⟩, ?_⟩
  rintro i m H3 ⟨rfl, ph3, S3, M3, xs, acc, x3, eh, hs3, qa, w3⟩
  obtain ⟨c3, f3, g3⟩ := turn i acc M3 w3
  obtain ⟨k1, k2⟩ := wk ph3 S3 r M3 σ H3 x3.pre x3.same hs3 c3
  by_cases hl : ds.length ≤ i
  · refine .inl ⟨k1 i hl, ?_⟩
    have f := f3 hl
    obtain ⟨c, hd⟩ := ph3
    cases eh
    cases o with
    | false =>
      rw [if_neg Bool.false_ne_true] at f
      obtain ⟨x4, hs4⟩ := hs3.hfrz
      exact hq _ _ ⟨⟨c, ph1.hid⟩, _, M3, x1.trans (x3.trans x4), hs4, _, .lst upd_same ((RepAll.hid qa).up x4), f⟩
    | true =>
      rw [if_pos rfl] at f
      obtain ⟨x4, hs4, e4⟩ := hs3.hown (RepAll.hid qa)
      exact hq _ _ ⟨⟨c ++ [p], ph1.hid⟩, _, _, x1.trans (x3.trans x4), hs4, _, .own e4, f⟩
  · obtain ⟨d, ed⟩ : ∃ d, ds[i]? = some d := ⟨ds[i]'(by omega), List.getElem?_eq_getElem (by omega)⟩
    obtain ⟨k3, k4⟩ := k2 i d ed
    refine .inr ⟨k3, fun H' => ∃ (ph2 : Ph) (S2 : Hp) (M2 : Mem) (xs : List V) (acc : List D), Ext ph1 S1 ⟨ph2.cells, ph1.hid⟩ S2 ∧ ph2.hid = (p, .lst xs) :: ph1.hid ∧ Sat X.K ph2 S2 r M2 σ H' ∧ RepAll X.K ph2 S2 xs acc ∧ W (i + 1) acc M2, fun H' z => ⟨ds.length - (i + 1), by omega, rfl, z⟩, fun x H4 hy => ?_⟩
    obtain ⟨ph4, S4, M4, x4, hs4, rfl, q4⟩ := k4 x H4 hy
    refine ⟨ph4, S4, wipeD r vs, M4, d, _, hs4.wipe vs, q4, g3 d ed, fun σ5 H5 ⟨r5, ph5, S5, M5, x5, hs5, z5⟩ e5 => ⟨e5.trans (wipe_wipe σ vs), ?_⟩⟩
    refine ⟨ph5, S5, r5, M5, _, hs5, z5, fun b H6 ⟨ph6, S6, M6, x6, hs6, z6⟩ => ?_⟩
    cases b with
    | false =>
      have xx := x4.trans (x5.trans x6)
      rw [if_neg Bool.false_ne_true] at z6 ⊢
      exact ⟨ph6, S6, M6, xs, acc, ⟨fun k a e => xx.pre k a (x3.pre k a e), x3.same.trans xx.same, rfl⟩, xx.hid.trans eh, hs3.back xx hs6.drop, qa.up xx, z6⟩
    | true =>
      rw [if_pos rfl] at z6 ⊢
      refine ⟨ph6, S6, r5, M6, _, hs6, z6, fun v H7 ⟨ph7, S7, M7, x7, hs7, e, q7, hlt, w7⟩ => ?_⟩
      have xx := x4.trans (x5.trans (x6.trans x7))
      have eh7 : ph7.hid = (p, .lst xs) :: ph1.hid := xx.hid.trans eh
      obtain ⟨c, hd⟩ := ph7
      cases eh7
      have hb : Sat X.K ⟨c, (p, .lst xs) :: ph1.hid⟩ S7 r M7 σ H7 := hs3.back xx hs7.drop
      obtain ⟨g1, _, _⟩ := hb.hid _ List.mem_cons_self
      refine ⟨xs, g1, by rw [qa.len]; exact hlt, ⟨c, (p, .lst (xs ++ [v])) :: ph1.hid⟩, S7, M7, xs ++ [v], acc ++ [e], ⟨fun k a e => xx.pre k a (x3.pre k a e), x3.same.trans xx.same, rfl⟩, rfl, hb.hset, ?_, w7⟩
      exact (RepAll.hid (qa.up xx)).app (.cons (Rep.hid q7) .nil)
theorem de_lc (o : Bool) {elt tg iter : Expr} {ifs : List Expr} {scope : Scope} {own : List (Str × Nat)} {pos : Pos} {wi : DTI} {g : DTG} {tt : DTT} {te : DTE} (hc : X.calm = true) (hN : X.N.Nodup) (ok : BlkOk X.N X.env.scope scope own) (hi : DI X tg iter wi)
    (hg : ∀ (s : Shared) (H : Hp) (C : Addr) (cl : List (Str × Addr)) (fp : List Addr), DCG (X.blk s H scope (compEnvC scope cl C X.env) fp) tg (own.map (·.2)) g)
    (ht : ∀ (s : Shared) (H : Hp) (C : Addr) (cl : List (Str × Addr)) (fp : List Addr), DTs (X.blk s H scope (compEnvC scope cl C X.env) fp) ifs tt)
    (he : ∀ (s : Shared) (H : Hp) (C : Addr) (cl : List (Str × Addr)) (fp : List Addr), DE (X.blk s H scope (compEnvC scope cl C X.env) fp) elt te)
    (hs : ∀ x, foldedSetIterable iter X.env x = pure x := by intro _; rfl) : DE X (.ListComp elt [⟨tg, iter, ifs, 0⟩] scope pos) (dLc o wi g tt te (own.map (·.2))) :=
  DE.of (pe_lc hc hN hi.pi ok (fun s H C cl fp => (hg s H C cl fp).pg) (fun s H C cl fp => (ht s H C cl fp).pts) (fun s H C cl fp => (he s H C cl fp).pe) hs) fun ph S r M σ H Q hs ht Q' hq => lc_read (X := X) o hs ht Q' hq
/-- y = [..] -/
theorem ds_setLc (o : Bool) {i : Nat} {y : Str} {py : Pos} {elt tg iter : Expr} {ifs : List Expr} {scope : Scope} {own : List (Str × Nat)} {pos spos : Pos} {wi : DTI} {g : DTG} {tt : DTT} {te : DTE} (hc : X.calm = true) (hN : X.N.Nodup) (hsw : swapsWith (.ListComp elt [⟨tg, iter, ifs, 0⟩] scope pos) (some (.Name y py)) spos.line X.env = pure true) (ok : BlkOk X.N X.env.scope scope own) (hi : DI X tg iter wi)
    (hg : ∀ (s : Shared) (H : Hp) (C : Addr) (cl : List (Str × Addr)) (fp : List Addr), DCG (X.blk s H scope (compEnvC scope cl C X.env) fp) tg (own.map (·.2)) g)
    (ht : ∀ (s : Shared) (H : Hp) (C : Addr) (cl : List (Str × Addr)) (fp : List Addr), DTs (X.blk s H scope (compEnvC scope cl C X.env) fp) ifs tt)
    (he : ∀ (s : Shared) (H : Hp) (C : Addr) (cl : List (Str × Addr)) (fp : List Addr), DE (X.blk s H scope (compEnvC scope cl C X.env) fp) elt te)
    (hy : X.N[i]? = some y := by rfl) (hyl : X.env.scope.names.lookup y = some .local := by rfl) (hs : ∀ x, foldedSetIterable iter X.env x = pure x := by intro _; rfl) : DS X (.Assign [.Name y py] (.ListComp elt [⟨tg, iter, ifs, 0⟩] scope pos) spos) (dAsg (dLc o wi g tt te (own.map (·.2))) (dName i)) :=
  DS.of (ps_setLc hc hN hy hyl hsw hi.pi ok (fun s H C cl fp => (hg s H C cl fp).pg) (fun s H C cl fp => (ht s H C cl fp).pts) (fun s H C cl fp => (he s H C cl fp).pe) hs) fun ph S r M σ H E hs ht E' h1 _ _ _ =>
    lc_read (X := X) o hs ht _ fun v H' ⟨ph1, S1, M1, x, hs1, d, q, z⟩ => h1 _ _ ⟨_, ph1, S1, M1, x, hs1.setN q, z⟩
end DL
/-! DL7: what is walked; built-ins; methods; slices; repr -/
namespace DL
open PySem PySem.Spec PyProof.Rows L2
variable {X : Cx}
/-! ### what is walked -/
theorem Wlk.list {K : PySem.W.Frag} {ph : Ph} {S : Hp} {a : Addr} {ds : List D} {C : Mem → Prop} (h : ∀ (ph' : Ph) (S' : Hp) (r : Env) (M : Mem) (σ : St) (H : Hp), (∀ (k : Nat) (a : Addr), ph.cells[k]? = some a → ph'.cells[k]? = some a) → Same S S' → Sat K ph' S' r M σ H → C M → ∃ xs, SqL K H a xs ∧ RepAll K ph' S' xs ds) : Wlk K ph S (Itl K a) ds C :=
  fun ph' S' r M σ H h1 h2 hs hc => by
    obtain ⟨xs, q, qa⟩ := h ph' S' r M σ H h1 h2 hs hc
    refine ⟨fun i hi => ⟨xs, q, by rw [qa.len]; exact hi⟩, fun i d e => ?_⟩
    obtain ⟨x, ex, qx⟩ := qa.get e
    refine ⟨⟨xs, x, q, ex⟩, fun y H' ⟨e1, e2⟩ => ?_⟩
    subst e1
    have ey := e2 xs q
    rw [ex] at ey
    cases ey
    exact Aft.here hs ⟨rfl, qx⟩
theorem Wlk.tup {K : PySem.W.Frag} {ph : Ph} {S : Hp} {a : Addr} {ds : List D} {C : Mem → Prop} (h : ∀ (ph' : Ph) (S' : Hp) (r : Env) (M : Mem) (σ : St) (H : Hp), (∀ (k : Nat) (a : Addr), ph.cells[k]? = some a → ph'.cells[k]? = some a) → Same S S' → Sat K ph' S' r M σ H → C M → ∃ xs, SqT K H a xs ∧ RepAll K ph' S' xs ds) : Wlk K ph S (Itt K a) ds C :=
  fun ph' S' r M σ H h1 h2 hs hc => by
    obtain ⟨xs, q, qa⟩ := h ph' S' r M σ H h1 h2 hs hc
    refine ⟨fun i hi => ⟨xs, q, by rw [qa.len]; exact hi⟩, fun i d e => ?_⟩
    obtain ⟨x, ex, qx⟩ := qa.get e
    refine ⟨⟨xs, x, q, ex⟩, fun y H' ⟨e1, e2⟩ => ?_⟩
    subst e1
    have ey := e2 xs q
    rw [ex] at ey
    cases ey
    exact Aft.here hs ⟨rfl, qx⟩
theorem RepAll.ext0 {K : PySem.W.Frag} {ph ph' : Ph} {S S' : Hp} {d : List D} {v : List V} (h1 : ∀ (k : Nat) (a : Addr), ph.cells[k]? = some a → ph'.cells[k]? = some a) (h2 : Same S S') (q : RepAll K ph S v d) : RepAll K ph' S' v d :=
  RepAll.hid (c := ph'.cells) (l := ph.hid) (l' := ph'.hid) (q.up (ph' := ⟨ph'.cells, ph.hid⟩) ⟨h1, h2, rfl⟩)
/-- a list, a tuple, the script -/
def gSeqI (d : D) (M : Mem) (R : List D → (Mem → Prop) → Mem → Prop) : Prop := match d with
  | .lst ds => R ds (fun _ => True) M
  | .tup ds => R ds (fun _ => True) M
  | .scr ns => R (ns.map D.int) (fun _ => True) M
  | .own k => match M[k]? with
    | some (.lst ds) => R ds (fun M' => M'[k]? = some (.lst ds)) M
    | _ => False
  | _ => False
def dSeqI (t : DTE) : DTI := fun r M R => t r M fun d M1 => gSeqI d M1 R
/-- it is a list at a, or a tuple -/
theorem pi_seq {tg l : Expr} {tl : TE} (hl : PE X l tl) : PI X tg l (fun σ H R => tl σ H fun x H1 => ∃ a, x = .ref a ∧ (((∃ xs, SqL X.K H1 a xs) ∧ R (Itl X.K a) H1) ∨ ((∃ xs, SqT X.K H1 a xs) ∧ R (Itt X.K a) H1))) := by
  refine ⟨fun pins s σ H R I h => thn (hl.run pins s σ H _ I h) fun v s1 ⟨x, H1, I1, r1, a, ex, q1⟩ => ?_⟩
  subst ex
  cases r1
  have fp : ∀ b ∈ [s1.heap.objs.size], FpOk X pins H1 b := fun b hb => by
    have e : b = s1.heap.objs.size := by simpa using hb
    rw [e]
    exact I1.fpOk (Nat.le_refl _) (I1.hok.fresh (Nat.le_refl _))
  rcases q1 with ⟨⟨xs, hq⟩, q⟩ | ⟨⟨xs, hq⟩, q⟩
  · obtain ⟨its, rv, p, hz⟩ := I1.list hq
    exact wpAny_pyIter_list p.isList ⟨s1.heap.objs.size, [s1.heap.objs.size], _, _, H1, rfl, I1.kept (t' := s1.toks) fun b o e => Heap.get?_push_of_some _ e, turn_list a _, ⟨_, Heap.get?_push_size _ rfl, rfl, rfl⟩, fp, q⟩
  · obtain ⟨its, rv, p, hz⟩ := I1.tuple hq
    exact wpAny_pyIter_tuple (show s1.heap.IsTuple a its.toArray from p) ⟨s1.heap.objs.size, [s1.heap.objs.size], _, _, H1, rfl, I1.kept (t' := s1.toks) fun b o e => Heap.get?_push_of_some _ e, turn_tuple a _, ⟨_, Heap.get?_push_size _ rfl, rfl, rfl⟩, fp, q⟩
theorem PI.weak {tg l : Expr} {t t' : TI} (h : PI X tg l t) (w : ∀ σ H R, t' σ H R → t σ H R) : PI X tg l t' := ⟨fun pins s σ H R I q => h.run pins s σ H R I (w _ _ _ q)⟩
theorem di_seq {tg l : Expr} {t : DTE} (h : DE X l t) : DI X tg l (dSeqI t) :=
  ⟨PI.weak (pi_seq h.pe) fun σ H R ⟨ph, S, r, M, Q0, hs, ht, hq⟩ => ⟨ph, S, r, M, _, hs, ht, fun v H1 ⟨ph1, S1, M1, x1, hs1, d, q1, g1⟩ => by
    cases d <;> first | exact g1.elim | skip
    · cases q1 with
      | tup h1 h2 => exact ⟨_, rfl, .inr ⟨⟨_, h1.sq hs1.sub⟩, hq _ _ ⟨ph1, S1, M1, x1, hs1, _, _, Wlk.tup (fun ph' S' r' M' σ' H' e1 e2 hs' _ => ⟨_, (h1.ext e2).sq hs'.sub, h2.ext0 e1 e2⟩), g1⟩⟩⟩
    · cases q1 with
      | lst h1 h2 => exact ⟨_, rfl, .inl ⟨⟨_, SqL.of (hs1.sub _ _ h1)⟩, hq _ _ ⟨ph1, S1, M1, x1, hs1, _, _, Wlk.list (fun ph' S' r' M' σ' H' e1 e2 hs' _ => ⟨_, SqL.of (hs'.sub _ _ (e2 _ _ h1)), h2.ext0 e1 e2⟩), g1⟩⟩⟩
    · cases q1 with
      | scr h1 => exact ⟨_, rfl, .inl ⟨⟨_, hs1.sub.seq h1⟩, hq _ _ ⟨ph1, S1, M1, x1, hs1, _, _, Wlk.list (fun ph' S' r' M' σ' H' e1 e2 hs' _ => ⟨_, hs'.sub.seq (e2.seq h1), RepAll.ints _⟩), g1⟩⟩⟩
    · rename_i k
      cases q1 with
      | own h1 =>
        replace g1 : gSeqI (.own k) M1 Q0 := g1
        unfold gSeqI at g1
        dsimp only at g1
        split at g1
        · rename_i ds hk
          obtain ⟨a, xs, c1, c2, c3, c4⟩ := hs1.cell k ds hk
          rw [h1] at c1; cases c1
          refine ⟨_, rfl, .inl ⟨⟨_, SqL.of c3⟩, hq _ _ ⟨ph1, S1, M1, x1, hs1, _, _, Wlk.list (fun ph' S' r' M' σ' H' e1 e2 hs' hc => ?_), g1⟩⟩⟩
          obtain ⟨a', xs', b1, b2, b3, b4⟩ := hs'.cell k ds hc
          rw [e1 _ _ h1] at b1; cases b1
          exact ⟨xs', SqL.of b3, b4⟩
        · exact g1.elim⟩⟩
/-- lo, lo + 1, .. -/
def rng (lo : Int) (n : Nat) : List D := (List.range n).map fun i => D.int (lo + (i : Nat))
theorem rng_len (lo : Int) (n : Nat) : (rng lo n).length = n := by unfold rng; rw [List.length_map, List.length_range]
theorem rng_get {lo : Int} {n i : Nat} {d : D} : (rng lo n)[i]? = some d ↔ i < n ∧ d = .int (lo + (i : Nat)) := by
  unfold rng
  rw [List.getElem?_map]
  constructor
  · intro e
    cases h : (List.range n)[i]? with
    | none => rw [h] at e; cases e
    | some j =>
      rw [h] at e
      obtain ⟨h1, h2⟩ := List.getElem?_eq_some_iff.mp h
      rw [List.length_range] at h1
      rw [List.getElem_range] at h2
      exact ⟨h1, by rw [h2]; exact (Option.some.inj e).symm⟩
  · rintro ⟨h1, rfl⟩
    rw [List.getElem?_eq_getElem (by rw [List.length_range]; exact h1), List.getElem_range]
    rfl
theorem Wlk.range {K : PySem.W.Frag} {ph : Ph} {S : Hp} {lo : Int} {n : Nat} {C : Mem → Prop} : Wlk K ph S (Itr lo n) (rng lo n) C := fun ph' S' r M σ H h1 h2 hs hc => by
  refine ⟨fun i hi => by rw [rng_len] at hi; exact hi, fun i d e => ?_⟩
  obtain ⟨hi, rfl⟩ := rng_get.mp e
  refine ⟨hi, fun x H' ⟨e1, e2⟩ => ?_⟩
  subst e1 e2
  exact Aft.here hs ⟨rfl, .int _⟩
def Rg (i : Int) : Prop := -(2 ^ 62) ≤ i ∧ i < 2 ^ 62
def gRng1 (ds : List D) (M : Mem) (R : List D → (Mem → Prop) → Mem → Prop) : Prop := match ds with
  | [.int n] => Rg n ∧ R (rng 0 n.toNat) (fun _ => True) M
  | _ => False
def gRng2 (ds : List D) (M : Mem) (R : List D → (Mem → Prop) → Mem → Prop) : Prop := match ds with
  | [.int a, .int b] => (Rg a ∧ Rg b) ∧ R (rng a (b - a).toNat) (fun _ => True) M
  | _ => False
def dRngI (g : List D → Mem → (List D → (Mem → Prop) → Mem → Prop) → Prop) (t : DTA) : DTI := fun r M R => t r M fun ds M1 => g ds M1 R
theorem di_range1 {tg a : Expr} {t : DTA} {p pos : Pos} (hm : X.mg "range" = none) (ha : DA X [a] t) (hg : Gl X "range" := by rfl) (hst : starEach [a] X.env = [(false, eval a X.env)] := by rfl) : DI X tg (.Call (.Name "range" p) [a] [] pos) (dRngI gRng1 t) :=
  ⟨PI.weak (pi_range1 hg hm ha.pa hst) fun σ H R ⟨ph, S, r, M, Q0, hs, ht, hq⟩ => ⟨ph, S, r, M, _, hs, ht, fun vs H1 ⟨ph1, S1, M1, x1, hs1, ds, q1, g1⟩ => by
    match ds, q1, g1 with
    | [.int n], .cons q .nil, ⟨⟨h1, h2⟩, g⟩ =>
      cases q
      exact ⟨n, rfl, h1, h2, hq _ _ ⟨ph1, S1, M1, x1, hs1, _, _, Wlk.range, g⟩⟩⟩⟩
/-! ### calls of what is built in -/
abbrev GA := List D → Mem → DQ → Prop
def CallD (X : Cx) (f : Value) (g : GA) : Prop :=
  ∀ (pins : List (Addr × Obj)) (s : Shared) (σ : St) (H : Hp) (ph : Ph) (S : Hp) (r : Env) (M : Mem) (vs : List V) (us : List Value) (ds : List D) (Q : DQ), Inv X pins σ H s → Sat X.K ph S r M σ H → Vals vs us → RepAll X.K ph S vs ds → g ds M Q →
    wpAny (model X.prog X.w) X.A (call f us) (EP X pins σ (post X.K ph S r σ Q)) X.xe s
theorem CallD.of {f : Value} {r' : List V → Hp → VK → Prop} {g : GA} (h : CallR X f r')
    (w : ∀ (σ : St) (H : Hp) (ph : Ph) (S : Hp) (r : Env) (M : Mem) (vs : List V) (ds : List D) (Q : DQ), Sat X.K ph S r M σ H → RepAll X.K ph S vs ds → g ds M Q → r' vs H (post X.K ph S r σ Q)) : CallD X f g :=
  fun pins s σ H ph S r M vs us ds Q I hs rv q hg => h pins s σ H vs us _ I rv (w σ H ph S r M vs ds Q hs q hg)
def dCB (g : GA) (t : DTA) : DTE := fun r M Q => t r M fun ds M1 => g ds M1 Q
section
variable {x : Str} {p pos : Pos} {e : Expr} {es : List Expr} {t : DTA} {id T : String} {g : GA}
theorem de_blt (hc : CallD X (.builtin id) g) (hm : X.mg x = none) (ha : DA X (e :: es) t) (hv : bootBuiltins x = some (.builtin id) := by decide +kernel) (hg : Gl X x := by rfl) (hn : x ≠ "__name__" := by decide) (hdb : (x == ("__debug__" : Str)) = false := by decide)
    (he : starEach (e :: es) X.env = (false, eval e X.env) :: starEach es X.env := by rfl) (hpl : (backTo pos (starEach es X.env)).any (·.1) = false := by rfl) : DE X (.Call (.Name x p) (e :: es) [] pos) (dCB g t) :=
  ⟨⟨fun pins s σ H Q I ⟨ph, S, r, M, Q0, hs, ht, hq⟩ => wpAny_Call_Name_kw (ld_blt I hg hm hv (PyProof.Rows.callWith_builtin1 (thn (ha.pa.run pos pins s σ H _ I ⟨ph, S, r, M, _, hs, ht, fun _ _ z => z⟩)
    fun us s1 ⟨vs, H1, I1, r1, ph1, S1, M1, x1, hs1, ds, q1, g1⟩ => thn (hc pins s1 σ H1 ph1 S1 r M1 vs us ds Q0 I1 hs1 r1 q1 g1) fun _ _ z => EP.up x1 z hq) he hpl) hn hdb)⟩⟩
theorem de_ty (hc : CallD X (.type T) g) (hm : X.mg x = none) (ha : DA X (e :: es) t) (hv : bootBuiltins x = some (.type T) := by decide +kernel) (hg : Gl X x := by rfl) (hn : x ≠ "__name__" := by decide) (hdb : (x == ("__debug__" : Str)) = false := by decide)
    (he : starEach (e :: es) X.env = (false, eval e X.env) :: starEach es X.env := by rfl) (hpl : (backTo pos (starEach es X.env)).any (·.1) = false := by rfl) : DE X (.Call (.Name x p) (e :: es) [] pos) (dCB g t) :=
  ⟨⟨fun pins s σ H Q I ⟨ph, S, r, M, Q0, hs, ht, hq⟩ => wpAny_Call_Name_kw (ld_blt I hg hm hv (PyProof.Rows.callWith_type1 (thn (ha.pa.run pos pins s σ H _ I ⟨ph, S, r, M, _, hs, ht, fun _ _ z => z⟩)
    fun us s1 ⟨vs, H1, I1, r1, ph1, S1, M1, x1, hs1, ds, q1, g1⟩ => thn (hc pins s1 σ H1 ph1 S1 r M1 vs us ds Q0 I1 hs1 r1 q1 g1) fun _ _ z => EP.up x1 z hq) he hpl) hn hdb)⟩⟩
/-- a module's name for a built-in function (gcd) -/
theorem de_bfun (hc : CallD X (.builtin id) g) (hm : X.mg x = some (.builtin id)) (ha : DA X (e :: es) t) (hg : Gl X x := by rfl) (hdb : (x == ("__debug__" : Str)) = false := by decide)
    (he : starEach (e :: es) X.env = (false, eval e X.env) :: starEach es X.env := by rfl) (hpl : (backTo pos (starEach es X.env)).any (·.1) = false := by rfl) : DE X (.Call (.Name x p) (e :: es) [] pos) (dCB g t) :=
  ⟨⟨fun pins s σ H Q I ⟨ph, S, r, M, Q0, hs, ht, hq⟩ => wpAny_Call_Name_kw (ld_glob I hg hm (PyProof.Rows.callWith_builtin1 (thn (ha.pa.run pos pins s σ H _ I ⟨ph, S, r, M, _, hs, ht, fun _ _ z => z⟩)
    fun us s1 ⟨vs, H1, I1, r1, ph1, S1, M1, x1, hs1, ds, q1, g1⟩ => thn (hc pins s1 σ H1 ph1 S1 r M1 vs us ds Q0 I1 hs1 r1 q1 g1) fun _ _ z => EP.up x1 z hq) he hpl) hdb)⟩⟩
/-- a built-in name as a value -/
theorem de_bltn {v : V} {u : Value} (hm : X.mg x = none) (r : RelV v u) (hv : bootBuiltins x = some u := by decide +kernel) (hg : Gl X x := by rfl) (hn : x ≠ "__name__" := by decide) (hd : (x == ("__debug__" : Str)) = false := by decide) : DE X (.Name x pos) (dC (.val v)) :=
  de_c (pe_bltn hg hm hv r hn hd) fun _ _ => .val _
end
def gAbs : GA := fun ds M Q => match ds with
  | [.int i] => Q (.int (if i < 0 then -i else i)) M
  | _ => False
theorem cd_abs : CallD X (.builtin "abs") gAbs := CallD.of call_abs fun σ H ph S r M vs ds Q hs q hg => by
  match ds, q, hg with
  | [.int i], .cons q .nil, hg => cases q; exact ⟨_, rfl, Aft.here hs ⟨_, .int _, hg⟩⟩
def gInt : GA := fun ds M Q => match ds with
  | [.int i] => Q (.int i) M
  | [.bl b] => Q (.int (if b then 1 else 0)) M
  | _ => False
theorem cd_int : CallD X (.type "int") gInt := CallD.of call_int1 fun σ H ph S r M vs ds Q hs q hg => by
  match ds, q, hg with
  | [.int i], .cons q .nil, hg => cases q; exact .inl ⟨_, rfl, Aft.here hs ⟨_, .int _, hg⟩⟩
  | [.bl i], .cons q .nil, hg => cases q; exact .inr ⟨_, rfl, Aft.here hs ⟨_, .int _, hg⟩⟩
def gMax : GA := fun ds M Q => match ds with
  | [.int i, .int j] => Q (.int (if j > i then j else i)) M
  | _ => False
theorem cd_max (hc : X.calm = true) : CallD X (.builtin "max") gMax := CallD.of (call_max2 hc) fun σ H ph S r M vs ds Q hs q hg => by
  match ds, q, hg with
  | [.int i, .int j], .cons q (.cons q' .nil), hg => cases q; cases q'; exact ⟨_, _, rfl, Aft.here hs ⟨_, .int _, hg⟩⟩
def gMin : GA := fun ds M Q => match ds with
  | [.int i, .int j] => Q (.int (if j < i then j else i)) M
  | _ => False
def gGcd : GA := fun ds M Q => match ds with
  | [.int i, .int j] => Q (.int (Int.gcd i j)) M
  | _ => False
theorem cd_gcd : CallD X (.builtin "math.gcd") gGcd := CallD.of cr_gcd fun σ H ph S r M vs ds Q hs q hg => by
  match ds, q, hg with
  | [.int i, .int j], .cons q (.cons q' .nil), hg => cases q; cases q'; exact ⟨_, _, rfl, Aft.here hs ⟨_, .int _, hg⟩⟩
/-- the length of a list, a tuple, a text -/
def lenD (M : Mem) : D → Option Nat
  | .lst l => some l.length
  | .tup l => some l.length
  | .scr l => some l.length
  | .own k => match M[k]? with
    | some (.lst l) => some l.length
    | _ => none
  | .str x => if x.length ≤ sizeLine then some x.length else none
  | _ => none
def gLen : GA := fun ds M Q => match ds with
  | [d] => match lenD M d with
    | some n => Q (.int n) M
    | none => False
  | _ => False
theorem len_V {K : PySem.W.Frag} {ph : Ph} {S : Hp} {r : Env} {M : Mem} {σ : St} {H : Hp} {v : V} {d : D} {n : Nat} (hs : Sat K ph S r M σ H) (q : Rep K ph S v d) (e : lenD M d = some n) : LenV K v H n := by
  cases d <;> first | (cases e; done) | skip
  · rename_i x
    cases q
    have e' : (if x.length ≤ sizeLine then some x.length else none) = some n := e
    by_cases h : x.length ≤ sizeLine
    · rw [if_pos h] at e'
      exact ⟨h, (Option.some.inj e').symm⟩
    · rw [if_neg h] at e'; cases e'
  · cases q with
    | tup h1 h2 => exact .inr ⟨_, h1.sq hs.sub, by rw [h2.len]; exact (Option.some.inj e).symm⟩
  · cases q with
    | lst h1 h2 => exact .inl ⟨_, SqL.of (hs.sub _ _ h1), by rw [h2.len]; exact (Option.some.inj e).symm⟩
  · cases q with
    | scr h1 => exact .inl ⟨_, hs.sub.seq h1, by rw [List.length_map]; exact (Option.some.inj e).symm⟩
  · rename_i k
    cases q with
    | own h1 =>
      unfold lenD at e
      dsimp only at e
      split at e
      · rename_i l hk
        obtain ⟨a, xs, c1, c2, c3, c4⟩ := hs.cell k l hk
        rw [h1] at c1; cases c1
        exact .inl ⟨_, SqL.of c3, by rw [c4.len]; exact (Option.some.inj e).symm⟩
      · cases e
theorem cd_len : CallD X (.builtin "len") gLen := CallD.of call_len fun σ H ph S r M vs ds Q hs q hg => by
  match ds, q, hg with
  | [d], .cons q .nil, hg =>
    unfold gLen at hg
    dsimp only at hg
    split at hg
    · rename_i n e
      exact ⟨_, n, rfl, len_V hs q e, Aft.here hs ⟨_, .int _, hg⟩⟩
    · exact hg.elim
/-- the ints of a list of ints -/
def intsD : List D → Option (List Int)
  | [] => some []
  | .int i :: ds => match intsD ds with
    | some is => some (i :: is)
    | none => none
  | _ :: _ => none
theorem intsD_rep {K : PySem.W.Frag} {ph : Ph} {S : Hp} : ∀ {vs : List V} {ds : List D} {is : List Int}, RepAll K ph S vs ds → intsD ds = some is → vs = is.map V.int
  | _, [], _, .nil, e => by cases e; rfl
  | _, d :: ds, is, .cons q t, e => by
    cases d <;> first | (cases e; done) | skip
    unfold intsD at e
    split at e
    · rename_i is' e'
      cases e
      cases q
      rw [intsD_rep t e']; rfl
    · cases e
def gSum : GA := fun ds M Q => match ds with
  | [d] => match res M d with
    | .lst l => match intsD l with
      | some is => Q (.int is.sum) M
      | none => False
    | .scr ns => Q (.int ns.sum) M
    | _ => False
  | _ => False
theorem cd_sum (hc : X.calm = true) : CallD X (.builtin "sum") gSum := CallD.of (cr_sum hc) fun σ H ph S r M vs ds Q hs q hg => by
  match ds, q, hg with
  | [d], .cons q .nil, hg =>
    unfold gSum at hg
    dsimp only at hg
    split at hg
    · rename_i l e
      split at hg
      · rename_i is e2
        obtain ⟨a, xs, rfl, h1, h2⟩ := res_lst hs q e
        exact ⟨a, is, rfl, by rw [← intsD_rep h2 e2]; exact SqL.of h1, Aft.here hs ⟨_, .int _, hg⟩⟩
      · exact hg.elim
    · rename_i ns e
      cases res_scr e
      cases q with
      | scr h1 => exact ⟨_, ns, rfl, hs.sub.seq h1, Aft.here hs ⟨_, .int _, hg⟩⟩
    · exact hg.elim
/-- isinstance(x, T), T a built-in class -/
def tyD : D → Option String
  | .non => some "NoneType"
  | .bl _ => some "bool"
  | .int _ => some "int"
  | .str _ => some "str"
  | .tup _ => some "tuple"
  | .lst _ => some "list"
  | .dct0 => some "dict"
  | _ => none
def tyM (M : Mem) : D → Option String
  | .own k => match M[k]? with
    | some (.lst _) => some "list"
    | _ => none
  | d => tyD d
def gIsi : GA := fun ds M Q => match ds with
  | [d, .val (.ty n)] => match tyM M d with
    | some T => match kitB T n with
      | some b => Q (.bl b) M
      | none => False
    | none => False
  | _ => False
theorem ty_V {K : PySem.W.Frag} {ph : Ph} {S : Hp} {r : Env} {M : Mem} {σ : St} {H : Hp} {v : V} {d : D} {T : String} (hs : Sat K ph S r M σ H) (q : Rep K ph S v d) (e : tyM M d = some T) : TyX K H v (.type T) := by
  cases d <;> first | (cases e; done) | skip
  · cases q; cases e; exact .base .non
  · cases q; cases e; exact .base (.bl _)
  · cases q; cases e; exact .base (.int _)
  · cases q; cases e; exact .base (.str _)
  · cases q with
    | tup h1 h2 => cases e; exact h1.elim (fun z => .base (.tup (hs.sub _ _ z))) fun ⟨_, _, _, l, c, _⟩ => .kTuple l c
  · cases q with
    | lst h1 h2 => cases e; exact .base (.lst (hs.sub _ _ h1))
  · cases q with
    | dct0 h1 => cases e; exact .base (.dK (hs.sub _ _ h1))
  · rename_i k
    cases q with
    | own h1 =>
      unfold tyM at e
      dsimp only at e
      split at e
      · rename_i l hk
        cases e
        obtain ⟨a, xs, c1, c2, c3, c4⟩ := hs.cell k l hk
        rw [h1] at c1; cases c1
        exact .base (.lst c3)
      · cases e
theorem cd_isi : CallD X (.builtin "isinstance") gIsi := CallD.of call_isi fun σ H ph S r M vs ds Q hs q hg => by
  match ds, q, hg with
  | [d, .val (.ty n)], .cons q (.cons q' .nil), hg =>
    unfold gIsi at hg
    dsimp only at hg
    split at hg
    · rename_i T e
      split at hg
      · rename_i b eb
        cases q'
        exact ⟨_, _, _, _, b, rfl, .ty n, ty_V hs q e, kit_ty eb, Aft.here hs ⟨_, .bl _, hg⟩⟩
      · exact hg.elim
    · exact hg.elim
/-- n.bit_length() -/
def gBits (d : D) (M : Mem) (Q : DQ) : Prop := match d with
  | .int i => Q (.int (Builtin.Int.intBits i : Nat)) M
  | _ => False
def dBits (t : DTE) : DTE := fun r M Q => t r M fun d M1 => gBits d M1 Q
theorem de_bits {o : Expr} {t : DTE} {apos pos : Pos} (ho : DE X o t) (hbase : attributeBase o "bit_length" X.env (eval o X.env) = eval o X.env := by rfl) (hline : (apos.endLine == pos.line) = true := by rfl) : DE X (.Call (.Attribute o "bit_length" apos) [] [] pos) (dBits t) :=
  DE.of (pe_bits ho.pe hbase hline) fun ph S r M σ H Q hs ht Q' hq => ⟨ph, S, r, M, _, hs, ht, fun v H1 ⟨ph1, S1, M1, x1, hs1, d, q1, g1⟩ => by
    cases d <;> first | exact g1.elim | skip
    cases q1
    exact ⟨_, rfl, hq _ _ ⟨ph1, S1, M1, x1, hs1, _, .int _, g1⟩⟩⟩
/-! ### methods of lists -/
def gAppend (o : D) (ds : List D) (M : Mem) (Q : DQ) : Prop := match o, ds with
  | .own k, [d] => match M[k]? with
    | some (.lst l) => l.length < sizeLine ∧ Q .non (M.set k (.lst (l ++ [d])))
    | _ => False
  | _, _ => False
def dMet (g : D → List D → Mem → DQ → Prop) (to : DTE) (t : DTA) : DTE := fun r M Q => to r M fun o M1 => (∃ k l, o = .own k ∧ M1[k]? = some (.lst l)) ∧ t r M1 fun ds M2 => g o ds M2 Q
theorem de_append {o e : Expr} {to : DTE} {t : DTA} {apos cpos : Pos} (ho : DE X o to) (ha : DA X [e] t) (h1 : attributeBase o "append" X.env (eval o X.env) = eval o X.env := by rfl)
    (h2 : (((backTo cpos (starEach [e] X.env)).all fun x => !x.1) && (backToKw cpos (keywordEach [] X.env)).all (fun x => x.1.isSome) && decide (([e] : List Expr).length + ([] : List Keyword).length + (if ([] : List Keyword).isEmpty then 0 else 1) < 30)) = true := by rfl) (h3 : (apos.endLine == cpos.line) = true := by rfl)
    (h4 : starEach [e] X.env = (false, eval e X.env) :: starEach [] X.env := by rfl) (h5 : (backTo cpos (starEach [] X.env)).any (·.1) = false := by rfl) : DE X (.Call (.Attribute o "append" apos) [e] [] cpos) (dMet gAppend to t) :=
  DE.of (pe_bm PySem.F.plainAttrs_list PySem.F.slot_list_append PySem.F.type_list_append mt_append ho.pe ha.pa h1 h2 h3 h4 h5) fun ph S r M σ H Q hs ht Q' hq => ⟨ph, S, r, M, _, hs, ht, fun v H1 ⟨ph1, S1, M1, x1, hs1, d, q1, ⟨k, l, e1, ek⟩, g1⟩ => by
    subst e1
    cases q1 with
    | own hp =>
      obtain ⟨a, xs, c1, c2, c3, c4⟩ := hs1.cell k l ek
      rw [hp] at c1; cases c1
      refine ⟨.inl ⟨rfl, _, SqL.of c3⟩, ph1, S1, r, M1, _, hs1, g1, fun vs H2 ⟨ph2, S2, M2, x2, hs2, ds, q2, g2⟩ => ?_⟩
      match ds, q2, g2 with
      | [d], .cons q3 .nil, g2 =>
        replace g2 : gAppend (.own k) [d] M2 Q := g2
        unfold gAppend at g2
        dsimp only at g2
        split at g2
        · rename_i l2 hk2
          have hp2 := x2.pre _ _ hp
          obtain ⟨a2, xs2, d1, d2, d3, d4⟩ := hs2.cell k l2 hk2
          rw [hp2] at d1; cases d1
          exact ⟨_, xs2, _, rfl, rfl, d3, by rw [d4.len]; exact g2.1, hq _ _ ⟨ph2, S2, _, x1.trans x2, hs2.put hk2 hp2 (d4.app (.cons q3 .nil)), _, .non, g2.2⟩⟩
        · exact g2.elim⟩
/-! ### slices -/
def cutD (l : List D) (lo hi : Option Int) : List D := List.take (HT.sIx l.length l.length hi - HT.sIx l.length 0 lo) (List.drop (HT.sIx l.length 0 lo) l)
abbrev DTO := Env → Mem → (Option Int → Mem → Prop) → Prop
structure DO (X : Cx) (e : Option Expr) (t : DTO) : Prop where
  po : PO X e (fun σ H Q => ∃ ph S r M Q0, Sat X.K ph S r M σ H ∧ t r M Q0 ∧ ∀ o H', (Aft X.K ph S r σ H' fun _ _ M' => Q0 o M') → Q o H')
def dPart (t : DTE) : DTO := fun r M Q => t r M fun d M1 => match d with
  | .int i => Q (some i) M1
  | _ => False
def dNoPart : DTO := fun _ M Q => Q none M
theorem do_some {e : Expr} {t : DTE} (h : DE X e t) : DO X (some e) (dPart t) :=
  ⟨⟨fun pins s σ H Q I ⟨ph, S, r, M, Q0, hs, ht, hq⟩ => (po_some h.pe).run pins s σ H Q I ⟨ph, S, r, M, _, hs, ht, fun v H1 ⟨ph1, S1, M1, x1, hs1, d, q1, g1⟩ => by
    cases d <;> first | exact g1.elim | skip
    cases q1
    exact ⟨_, rfl, hq _ _ ⟨ph1, S1, M1, x1, hs1, g1⟩⟩⟩⟩⟩
theorem do_none : DO X none dNoPart := ⟨⟨fun pins s σ H Q I ⟨ph, S, r, M, Q0, hs, ht, hq⟩ => po_none.run pins s σ H Q I (hq _ _ (Aft.here hs ht))⟩⟩
/-- l[a:b], a list -/
def gSlL (own : Bool) (d : D) (lo hi : Option Int) (M : Mem) (Q : DQ) : Prop := match res M d with
  | .lst l => if own = true then Q (.own M.length) (M ++ [.lst (cutD l lo hi)]) else Q (.lst (cutD l lo hi)) M
  | .scr ns => if own = true then Q (.own M.length) (M ++ [.lst (cutD (ns.map D.int) lo hi)]) else Q (.lst (cutD (ns.map D.int) lo hi)) M
  | _ => False
def dSl (g : D → Option Int → Option Int → Mem → DQ → Prop) (t : DTE) (tl th : DTO) : DTE := fun r M Q => t r M fun d M1 => tl r M1 fun lo M2 => th r M2 fun hi M3 => g d lo hi M3 Q
theorem cut_rep {K : PySem.W.Frag} {ph : Ph} {S : Hp} {xs : List V} {l : List D} {lo hi : Option Int} (q : RepAll K ph S xs l) : RepAll K ph S (cutV xs lo hi) (cutD l lo hi) := by
  unfold cutV cutD
  rw [q.len]
  exact (q.drop _).take _
theorem de_slL (own : Bool) {e : Expr} {lo hi : Option Expr} {t : DTE} {tl th : DTO} {pos p2 : Pos} (h : DE X e t) (h1 : DO X lo tl) (h2 : DO X hi th) : DE X (.Subscript e (.Slice lo hi none p2) pos) (dSl (gSlL own) t tl th) :=
  DE.of (pe_slice sl_list h.pe h1.po h2.po) fun ph S r M σ H Q hs ht Q' hq => ⟨ph, S, r, M, _, hs, ht, fun v H1 ⟨ph1, S1, M1, x1, hs1, d, q1, g1⟩ =>
    ⟨ph1, S1, r, M1, _, hs1, g1, fun lo H2 ⟨ph2, S2, M2, x2, hs2, g2⟩ => ⟨ph2, S2, r, M2, _, hs2, g2, fun hi H3 ⟨ph3, S3, M3, x3, hs3, g3⟩ => by
      replace g3 : gSlL own d lo hi M3 Q := g3
      have xx := x1.trans (x2.trans x3)
      have q3 := q1.up (x2.trans x3)
      unfold gSlL at g3
      split at g3
      · rename_i l er
        obtain ⟨p, xs, rfl, hp, hx⟩ := res_lst hs3 q3 er
        refine ⟨p, xs, rfl, SqL.of hp, fun b hb => ?_⟩
        cases own with
        | false => exact hq _ _ (Aft.up xx (Aft.frz hs3 hb fun x => ⟨_, .lst upd_same ((cut_rep hx).up x), g3⟩))
        | true => exact hq _ _ (Aft.up xx (Aft.own hs3 hb (cut_rep hx) g3))
      · rename_i ns er
        cases res_scr er
        cases q3 with
        | scr h1 =>
          refine ⟨_, _, rfl, hs3.sub.seq h1, fun b hb => ?_⟩
          cases own with
          | false => exact hq _ _ (Aft.up xx (Aft.frz hs3 hb fun x => ⟨_, .lst upd_same (cut_rep (RepAll.ints _)), g3⟩))
          | true => exact hq _ _ (Aft.up xx (Aft.own hs3 hb (cut_rep (RepAll.ints _)) g3))
      · exact g3.elim⟩⟩⟩
theorem cut_whole {α : Type} {l : List α} {lo hi : Option Int} (h : HT.sIx l.length 0 lo = 0 ∧ HT.sIx l.length l.length hi = l.length) : List.take (HT.sIx l.length l.length hi - HT.sIx l.length 0 lo) (List.drop (HT.sIx l.length 0 lo) l) = l := by
  rw [h.1, h.2]; simp
/-! ### repr -/
/-- data whose repr may be told -/
def shwn (d : D) : Option Str := match toPy d with
  | some p => if p.showable = true ∧ p.depth ≤ 64 ∧ p.shown.length ≤ sizeLine ∧ p.hasDict = false then some p.shown else none
  | none => none
def gRepr : GA := fun ds M Q => match ds with
  | [d] => match shwn (res M d) with
    | some z => Q (.str z) M
    | none => False
  | _ => False
theorem shown_flat {p : PyData} {u : Value} {h : Heap} {as : List Addr} (r : Reads h u p as) (hn : ∀ a, u ≠ .ref a) {A : Around} {P : Program} {w : World} {E : Value → Shared → Prop} {s : Shared} {Q : Value → Shared → Prop} (hs : p.showable = true) (hz : p.shown.length ≤ sizeLine)
    (q : ∀ tk tk', Q (.str p.shown tk) { s with toks := tk' }) : wpAny (model P w) A (call (.builtin "repr") [u]) Q E s := by
  cases r with
  | none => exact PySem.P.repr_of_none (q _ _)
  | bool b => exact PySem.P.repr_of_bool (q _ _)
  | int i t => exact PySem.P.repr_of_int (of_decide_eq_true hs) (q _ _)
  | str x t => exact PySem.P.repr_of_str (q _ _) hz
  | list _ _ _ _ => exact absurd rfl (hn _)
  | tuple _ _ _ _ => exact absurd rfl (hn _)
  | dict _ _ _ _ _ => exact absurd rfl (hn _)
end DL
/-! DL8: calls with keywords alone; a def for its callers; the end of a law -/
namespace DL
open PySem PySem.Spec PyProof.Rows L2
section
variable {X : Cx}
/-- the values by place -/
def pick {α : Type} (l : List Nat) (xs : List α) : List α := l.filterMap fun i => xs[i]?
def dCallK (m n : Nat) (sp : DSp) (l : List Nat) (E : DX) (t : DTA) : DTE := fun r M Q => t r M fun ds M1 => ds.length = m ∧ (pick l ds).length = n ∧ sp (pick l ds) M1 Q E
variable {k : Nat} {ps ks : List Str} {sp : DSp} {x : Str} {p pos : Pos} {kws : List Keyword} {t : DTA}
end
/-! ### a def, made known to its callers -/
theorem Def.mk' {P : Program} {w : World} {K : PySem.W.Frag} {mg : Str → Option Value} {base : Heap} {k : Nat} {x : Str} {st : Stmt} {ps : List Str} {sp : DSp} {f : Addr} {fd : FuncData} (F : Fun K x x st f fd) (h : FnD P w K mg base CX0 k f fd ps sp) (hm : mg x = some (.ref f)) (hb : Binds K fd ps []) : Def P w K mg base CX0 k x st ps sp :=
  ⟨f, fd, h, hm, F.kp, hb, F⟩
/-- a def that stands in the module -/
structure Here (K : PySem.W.Frag) (mg : Str → Option Value) (x : Str) (st : Stmt) (ps : List Str) : Prop where
  ex : ∃ (f : Addr) (fd : FuncData), Fun K x x st f fd ∧ mg x = some (.ref f) ∧ Binds K fd ps []
theorem here_of {K : PySem.W.Frag} {h : Heap} {mg : Str → Option Value} {x : Str} {st : Stmt} {ps : List Str} {f : Addr} {oc : Value} {od an : Option Addr} {osl : Array (Option Value)} {kV doc pm cdv ct : Value} (X : K.In h) (G : h.Ns mainGlobals mg)
    (a : PySem.W.nsIn K mainGlobals x = some (some (.ref f))) (l : K.lookup f = some ⟨oc, od, .func (PySem.W.fnOf x x (defArgs st) (defBody st) (defScope st) .none kV doc pm an cdv ct), osl⟩) (c : PySem.W.codeIn K cdv x = true) (k : PySem.W.keepIn K (.ref f) = true)
    (hb : ∀ (kV doc pm : Value) (an : Option Addr) (cdv ct : Value) (us : List Value), us.length = ps.length → bindArgs (PySem.W.fnOf x x (defArgs st) (defBody st) (defScope st) .none kV doc pm an cdv ct) ⟨us, []⟩ = pure (ps.zip us)) : Here K mg x st ps :=
  ⟨f, _, fun_mk (st := st) l c k, PySem.W.mg_of X G a, (fun_mk (st := st) l c k).binds hb⟩
section
variable {P : Program} {w : World} {K : PySem.W.Frag} {mg : Str → Option Value} {base : Heap}
/-- THE RULE for a def of the module -/
theorem Here.ok {x : Str} {st : Stmt} {N ps : List Str} {k : Nat} {sp : DSp} {t : DTS} (F : Here K mg x st ps) (S : FnScope N ps (defScope st))
    (hder : ∀ (f : Addr) (cdv : Value) (A : Around) (outer : List PySem.Env) (s : Shared) (H : Hp) (E : XK), Room k (A.deeper (envOfC x (defScope st) s.heap.objs.size f cdv)) → (A.deeper (envOfC x (defScope st) s.heap.objs.size f cdv)).guards = some [] →
      DSs (cxOf CX0 P w K mg base N x (defScope st) f cdv A outer s H E).nox (defBody st) t)
    (hread : ∀ ds M Q, ds.length = ps.length → sp ds M Q DX0 → t (dEnds M Q) (startD N.length ds) M)
    (hX : ∀ ds M Q E, sp ds M Q E → sp ds M Q DX0 := by exact fun _ _ _ _ h => h) : Def P w K mg base CX0 (k + 1) x st ps sp :=
  let ⟨f, fd, h1, h2, h3⟩ := F.ex
  Def.mk' h1 (Fun.okD h1 S (hder f) hread hX) h2 h3
end
/-! ### the end of a law -/
def spLaw : DSp := fun ds M Q _ => M = [] ∧ (∃ ns, ds = [.scr ns]) ∧ Q (.bl true) []
theorem law_callG {P : Program} {w : World} {K : PySem.W.Frag} {mg mb : Str → Option Value} {k : Nat} {fa a : Addr} {fd : FuncData} {x : Str} {s1 : Shared} {vs : List Value} {ns : List Int}
    (KX : K.In s1.heap) (hns : s1.heap.Ns mainGlobals mg) (hb : s1.heap.Ns builtinsNs mb) (hbb : ∀ x : Str, x ≠ "__name__" → mb x = bootBuiltins x) (hlim : s1.heap.NoLimit) (hg : s1.gens = #[])
    (ha : s1.heap.get? a = some { cls := .type "list", data := .seq vs.toArray }) (hi : IntsAre vs ns) (hl : ns.length ≤ sizeLine) (hr : Room k callerA)
    (F : ∀ base : Heap, K.In base → base.Ns mainGlobals mg → FnD P w K mg base CX0 k fa fd [x] spLaw) (hbind : ∀ (s : Shared) (u : Value), BindsTo s fd ⟨[u], []⟩ [(x, u)]) :
    codeAny (model P w) callerA (.call (.ref fa) ⟨[.ref a], []⟩) (fun r s' => r = .ok (.ret (.bool true)) ∧ OldK s1.heap s'.heap ∧ s'.os = s1.os ∧ AllBare s'.gens) s1 := by
  have rv := vals_ints hi
  have lenV := hi.length
  have core : ∀ H : Hp, Only H → SqL K H a (ns.map V.int) → HOk P w H s1.heap → (∀ b, H b ≠ none → b = a) → (H a ≠ none → K.lookup a = none) →
      codeAny (model P w) callerA (.call (.ref fa) ⟨[.ref a], []⟩) (fun r s' => r = .ok (.ret (.bool true)) ∧ OldK s1.heap s'.heap ∧ s'.os = s1.os ∧ AllBare s'.gens) s1 := by
    intro H hO hS hok hA hK
    have at_ : ∀ {b : Addr}, H b ≠ none → b = a := fun {b} z => hA b z
    have noA : ∀ {b : Addr} {o : Obj} {es : Array DictEntry} {ep : Nat}, s1.heap.get? b = some o → o.data = .dict es ep → H b = none := fun {b o es ep} e d => by
      by_cases z : H b = none
      · exact z
      · have e' := at_ z
        rw [e', ha] at e
        rw [← Option.some.inj e] at d
        exact nomatch d
    have nsK : ∀ {b : Addr} {m : Str → Option Value}, s1.heap.Ns b m → (hidT s1.heap H).Ns b m := fun {b m} ⟨o, es, ep, e, d, r⟩ => ⟨o, es, ep, hidT_get e (noA e d), d, r⟩
    have hKb : K.In (hidT s1.heap H) := fun b o e => hidT_get (KX b o e) (by
      by_cases z : H b = none
      · exact z
      · have e' := at_ z
        rw [e'] at e z
        rw [hK z] at e
        cases e)
    have hM : Mod K mg (hidT s1.heap H) := ⟨hKb, nsK hns, ⟨mb, nsK hb, hbb⟩, let ⟨mc, g1, g2⟩ := hlim; ⟨mc, nsK g1, g2⟩⟩
    have e0 : Env0 P w K mg (hidT s1.heap H) callerA [] s1 H := ⟨rfl, hM, fun b o e => of_hidT e, Nat.le_of_eq (hidT_size _ _), trivial, fun b hb => absurd (show b ∈ ([] : List Addr) from hb) (by simp), hok, .of_eq hg⟩
    have st0 : Sat K ⟨[], []⟩ H [] [] [] H := ⟨fun _ _ e => e, rfl, List.nodup_nil, fun k a e => by simp at e, fun k ds e => by simp at e, fun _ hp => (nomatch hp), List.nodup_nil, rfl, fun i d e => by simp at e⟩
    have sp0 : lfSp K 1 spLaw [.ref a] H (fun v _ => v = .bl true) E0 := ⟨⟨[], []⟩, H, [], [.scr ns], fun d M => d = .bl true, DX0, rfl, st0, .cons (.scr hS) .nil, ⟨rfl, ⟨ns, rfl⟩, rfl⟩, fun v H' ⟨_, _, _, _, _, d, q, e⟩ => by
      rw [e] at q
      cases q
      rfl, fun cls d H' ⟨_, _, _, _, _, _, _, _, _, _, _, _, _, _, _, _, z⟩ => z⟩
    refine codeAny_mono ((F _ hKb (nsK hns)).run callerA [] s1 H ⟨[.ref a], []⟩ [.ref a] [.ref a] _ _ hr rfl e0 (hbind s1 (.ref a)) (.cons rfl .nil) sp0) fun r s' h => ?_
    match r, h with
    | .error e, h => exact False.elim h
    | .ok .next, h => exact False.elim h
    | .ok .brk, h => exact False.elim h
    | .ok .cont, h => exact False.elim h
    | .ok (.ret u), ⟨v, H', os, bare, un, hok', r', q⟩ =>
      have q' : v = .bl true := q
      subst q'
      obtain rfl : u = Value.bool true := r'
      refine ⟨rfl, OldK.of_keep fun b o e => ?_, os, bare⟩
      rcases hO b with q | ⟨ob, xs, q⟩
      · exact un.keep b o e q (fun z => nomatch z) (fun z => nomatch z)
      · obtain ⟨e1, _⟩ := hok b _ q
        obtain ⟨e2, _⟩ := hok' b _ (un.frzs b ob _ q)
        rw [e] at e1
        cases e1
        exact e2
  cases hk : K.lookup a with
  | some o =>
    have e := KX a o hk
    rw [ha] at e
    cases e
    exact core (fun _ => none) (fun _ => .inl rfl) (.inr ⟨_, vs.toArray, _, hk, rfl, rfl, rfl, by rw [List.size_toArray, lenV]; exact hl, by simpa using rv⟩) (fun b u z => (nomatch z)) (fun b z => absurd rfl z) fun z => absurd rfl z
  | none =>
    refine core (fun b => if b = a then some (.frz { cls := .type "list", data := .seq vs.toArray } (.lst (ns.map V.int))) else none) (fun b => ?_) (.inl (.inr ⟨{ cls := .type "list", data := .seq vs.toArray }, if_pos rfl⟩)) (fun b u z => ?_) (fun b z => ?_) fun _ => hk
    · by_cases hb : b = a
      · exact .inr ⟨_, _, if_pos hb⟩
      · exact .inl (if_neg hb)
    · by_cases hb : b = a
      · have z := (if_pos hb).symm.trans z
        cases z
        rw [hb]
        exact ⟨ha, by rw [List.length_map]; exact hl, vs, _, rv, ha⟩
      · have z := (if_neg hb).symm.trans z
        cases z
    · by_cases hb : b = a
      · exact hb
      · exact absurd (if_neg hb) z
/-- the goal that k_head leaves -/
theorem walkD {l : PySem.W.OpenLaw} {n k : Nat} {q : Program} {loose : List Str} {XP : (Str → Option Value) → Heap → Prop} {YP : World → Heap → Prop} {d : DefRec} {K : Params → PySem.W.Frag} {x : Str} {st : Stmt}
    (hn : l.most = some n) (hn2 : n ≤ sizeLine) (hdf : d.params.defaults = []) (hr : Room k callerA) (hY : ∀ (w : World) (h : Heap), YP w h → (K w.params).In h)
    (F : ∀ (w : World) (mg : Str → Option Value) (h : Heap), (K w.params).In h → h.Ns mainGlobals mg → ∀ base : Heap, (K w.params).In base → base.Ns mainGlobals mg → Def l.prog w (K w.params) mg base CX0 k d.name st [x] spLaw)
    (hb : ∀ (kV doc pm : Value) (an : Option Addr) (cdv ct : Value) (u : Value), bindArgs (PySem.W.fnOf d.name d.name (defArgs st) (defBody st) (defScope st) .none kV doc pm an cdv ct) ⟨[u], []⟩ = pure [(x, u)]) :
    PySem.W.WalkO q loose XP YP l.row.toRowW d [] (fun f vs => PySem.call f vs) := by
  refine Att.attach_call hn hdf fun w s0 s1 mg mb fa o pm cd doc a vs ns G Y ho hd hcd hmg hobj hints hlen hg => ?_
  have KX := hY w _ Y
  obtain ⟨f0, fd, g1, g2, g3, g4, g5⟩ := (F w mg _ KX G.T.g _ KX G.T.g).ex
  have ef : f0 = fa := by
    rw [g2] at hmg
    exact Value.ref.inj (Option.some.inj hmg)
  subst ef
  obtain ⟨oc, od, kV, doc', pm', an, cdv, ct, osl, efd, lk, hcd'⟩ := g5.ex
  refine law_callG (fd := fd) (k := k) (x := x) KX G.T.g G.T.b G.T.builtins G.T.nolimit hg hobj hints (Nat.le_trans hlen hn2) hr (fun base h1 h2 => ?_) fun s u => ?_
  · obtain ⟨f1, fd1, k1, k2, k3, k4, k5⟩ := (F w mg _ KX G.T.g base h1 h2).ex
    have e1 : f1 = f0 := by
      rw [g2] at k2
      exact (Value.ref.inj (Option.some.inj k2)).symm
    subst e1
    obtain ⟨_, _, _, _, _, _, _, _, _, _, lk1, _⟩ := k5.ex
    rw [lk] at lk1
    have e2 : fd = fd1 := by
      have := Option.some.inj lk1
      injection this with _ _ z _
      exact Data.func.inj z
    rw [e2]
    exact k1
  · rw [efd]
    exact .of_eq (hb kV doc' pm' an cdv ct u)
end DL
/-! DL9: further rules; lemmas for readings -/
namespace DL
open PySem PySem.Spec PyProof.Rows L2
theorem u64 {A : Around} {k : Nat} (hr : Room k A) : A.units + 64 < cLine := hr.units
theorem u65 {A : Around} {k : Nat} (hr : Room k A) : A.units + 65 < cLine := by have := hr.un; omega
theorem ux {A : Around} {k : Nat} (hr : Room k A) : A.units + 200 < cLine := by have := hr.un; omega
section
variable {X : Cx}
/-- an owned list is handed on: it is changed no more -/
def gFrz (d : D) (M : Mem) (Q : DQ) : Prop := match d with
  | .own k => match M[k]? with
    | some (.lst l) => Q (.lst l) (M.set k .dead)
    | _ => False
  | d => Q d M
def dFrz (t : DTE) : DTE := fun r M Q => t r M fun d M1 => gFrz d M1 Q
theorem de_frz {e : Expr} {t : DTE} (h : DE X e t) : DE X e (dFrz t) :=
  DE.of h.pe fun ph S r M σ H Q hs ht Q' hq => ⟨ph, S, r, M, _, hs, ht, fun v H1 ⟨ph1, S1, M1, x1, hs1, d, q1, g1⟩ => by
    cases d with
    | own k =>
      replace g1 : gFrz (.own k) M1 Q := g1
      unfold gFrz at g1
      dsimp only at g1
      split at g1
      · rename_i l hk
        cases q1 with
        | own hp =>
          obtain ⟨a, xs, e1, x2, hs2, q2⟩ := hs1.freeze hk
          rw [hp] at e1
          cases e1
          exact hq _ _ ⟨ph1, _, _, x1.trans x2, hs2, _, q2, g1⟩
      · exact g1.elim
    | _ => exact hq _ _ ⟨ph1, S1, M1, x1, hs1, _, q1, g1⟩⟩
/-- a list, n times -/
def gMulL : G2 := fun x y M Q => match x, y with
  | .lst a, .int j => (-(2 ^ 63) ≤ j ∧ j < 2 ^ 63 ∧ a.length * j.toNat ≤ sizeLine) ∧ Q (.lst (List.flatten (List.replicate j.toNat a))) M
  | _, _ => False
end
variable {X : Cx}
/-! ### zip, enumerate -/
def pairD (x y : D) : D := .tup [x, y]
theorem RepAll.two {K : PySem.W.Frag} {ph : Ph} {S : Hp} {x y : V} {d e : D} (h : Rep K ph S x d) (g : Rep K ph S y e) : RepAll K ph S [x, y] [d, e] := .cons h (.cons g .nil)
theorem zip_get {l1 l2 : List D} {i : Nat} {d : D} (h : (List.zipWith pairD l1 l2)[i]? = some d) : ∃ x y, l1[i]? = some x ∧ l2[i]? = some y ∧ d = pairD x y := by
  rw [List.getElem?_zipWith] at h
  cases e1 : l1[i]? with
  | none => rw [e1] at h; cases h
  | some x =>
    cases e2 : l2[i]? with
    | none => rw [e1, e2] at h; cases h
    | some y =>
      rw [e1, e2] at h
      exact ⟨x, y, rfl, rfl, (Option.some.inj h).symm⟩
theorem Wlk.zip {K : PySem.W.Frag} {ph : Ph} {S : Hp} {a b : Addr} {d1 d2 : List D} {C1 C2 : Mem → Prop}
    (h1 : ∀ (ph' : Ph) (S' : Hp) (r' : Env) (M' : Mem) (σ' : St) (H' : Hp), (∀ (k : Nat) (a : Addr), ph.cells[k]? = some a → ph'.cells[k]? = some a) → Same S S' → Sat K ph' S' r' M' σ' H' → C1 M' → ∃ xs, SqL K H' a xs ∧ RepAll K ph' S' xs d1)
    (h2 : ∀ (ph' : Ph) (S' : Hp) (r' : Env) (M' : Mem) (σ' : St) (H' : Hp), (∀ (k : Nat) (a : Addr), ph.cells[k]? = some a → ph'.cells[k]? = some a) → Same S S' → Sat K ph' S' r' M' σ' H' → C2 M' → ∃ xs, SqL K H' b xs ∧ RepAll K ph' S' xs d2) :
    Wlk K ph S (Itz K a b) (List.zipWith pairD d1 d2) (fun M => C1 M ∧ C2 M) := fun ph' S' r M σ H e1 e2 hs hc => by
  obtain ⟨xs, q1, qa1⟩ := h1 ph' S' r M σ H e1 e2 hs hc.1
  obtain ⟨ys, q2, qa2⟩ := h2 ph' S' r M σ H e1 e2 hs hc.2
  refine ⟨fun i hi => ⟨xs, ys, q1, q2, by rw [qa1.len, qa2.len]; rw [List.length_zipWith] at hi; omega⟩, fun i d e => ?_⟩
  obtain ⟨x, y, ex, ey, rfl⟩ := zip_get e
  obtain ⟨u, eu, qu⟩ := qa1.get ex
  obtain ⟨w, ew, qw⟩ := qa2.get ey
  refine ⟨⟨xs, ys, u, w, q1, q2, eu, ew⟩, fun z H' ⟨T, u', w', ez, hT, eH, f1, f2⟩ => ?_⟩
  have e3 := f1 xs q1
  have e4 := f2 ys q2
  rw [eu] at e3; cases e3
  rw [ew] at e4; cases e4
  subst ez eH
  obtain ⟨x1, hs1⟩ := hs.frz hT (.tup [u, w])
  exact ⟨_, _, _, x1, hs1, rfl, .tup (.inl upd_same) ((RepAll.two qu qw).up x1)⟩
end DL
namespace DL
open PySem PySem.Spec PyProof.Rows L2
def t_is_whole : DTS :=
 (dRet (dAndV (dCB gIsi (dCons (dVar 0) (dCons (dC (.val (.ty "int"))) dNil))) (dNotV (dCB gIsi (dCons (dVar 0) (dCons (dC (.val (.ty "bool"))) dNil))))))
def t_is_between (c_is_whole : DSp) : DTS :=
 (dRet (dAndV (dCall 1 c_is_whole [] DX0 (dCons (dVar 0) dNil)) (dAndV (dOp (gCmpI fun i j => decide (j ≤ i)) (dVar 0) (dVar 1)) (dOrV (dOp (gIs false) (dVar 2) (dC .non)) (dOp (gCmpI fun i j => decide (i ≤ j)) (dVar 0) (dVar 2))))))
def t_is_measure_by (c_is_between : DSp) : DTS :=
 (dRet (dAndV (dCall 3 c_is_between [] DX0 (dCons (dVar 0) (dCons (dC (.int 5)) (dCons (dC .non) dNil)))) (dOp (gIn false) (dOp (rBin CMod fun i j => i.fmod j) (dVar 0) (dC (.int 4))) (dLst (dCons (dC (.int 0)) (dCons (dC (.int 1)) dNil))))))
def t_root_floor_by : DTS :=
 (dSeq (dIfS (dTru (dOp (gCmpI fun i j => decide (i < j)) (dVar 0) (dC (.int 2)))) (dRet (dVar 0)) dNext)
 (dSeq (dAsg (dC (.int 1)) (dName 1))
 (dSeq (dWhile (dTru (dOp (gCmpI fun i j => decide (i ≤ j)) (dOp (rBin CMul fun i j => i * j) (dVar 1) (dVar 1)) (dVar 0))) (dAsg (dOp (rBin CMul fun i j => i * j) (dC (.int 2)) (dVar 1)) (dName 1)))
 (dSeq (dAsg (dOp (rBin CDiv fun i j => i.fdiv j) (dOp gAdd (dVar 1) (dOp (rBin CDiv fun i j => i.fdiv j) (dVar 0) (dVar 1))) (dC (.int 2))) (dName 2))
 (dSeq (dWhile (dTru (dOp (gCmpI fun i j => decide (i < j)) (dVar 2) (dVar 1))) (dPar 1 2 (dCons (dVar 2) (dCons (dOp (rBin CDiv fun i j => i.fdiv j) (dOp gAdd (dVar 2) (dOp (rBin CDiv fun i j => i.fdiv j) (dVar 0) (dVar 2))) (dC (.int 2))) dNil))))
 (dRet (dVar 1)))))))
def t_common_by : DTS :=
 (dSeq (dPar 2 3 (dCons (dCB gAbs (dCons (dVar 0) dNil)) (dCons (dCB gAbs (dCons (dVar 1) dNil)) dNil)))
 (dSeq (dWhile (dTru (dOp gNe (dVar 3) (dC (.int 0)))) (dPar 2 3 (dCons (dVar 3) (dCons (dOp (rBin CMod fun i j => i.fmod j) (dVar 2) (dVar 3)) dNil))))
 (dRet (dVar 2))))
def t_l_hash_9cde : DTS :=
 (dSeq (dAsg (dOp (rBin CMod fun i j => i.fmod j) (dCB gInt (dCons (dOp gAdd (dOp gAdd (dOp gAdd (dOp (rBin CMul fun i j => i * j) (dVar 0) (dC (.int 1048583))) (dOp (rBin CMul fun i j => i * j) (dOp (rBin CMul fun i j => i * j) (dC (.int 16777259)) (dVar 1)) (dVar 1))) (dOp (rBin CMul fun i j => i * j) (dC (.int 71)) (dVar 1))) (dC (.int 13))) dNil)) (dC (.int 2147483629))) (dName 2))
 (dSeq (dAsg (dOp (rBin CMod fun i j => i.fmod j) (dCB gInt (dCons (dOp gAdd (dOp gAdd (dOp (rBin CMul fun i j => i * j) (dVar 2) (dVar 2)) (dOp (rBin CMul fun i j => i * j) (dC (.int 40503)) (dVar 1))) (dC (.int 27644437))) dNil)) (dC (.int 2147483587))) (dName 2))
 (dRet (dOp (rBin CMod fun i j => i.fmod j) (dCB gInt (dCons (dOp (rBin CMul fun i j => i * j) (dVar 2) (dC (.int 69069))) dNil)) (dC (.int 2147483647))))))
def t_l_random_7821 (c_l_hash_9cde : DSp) : DTS :=
 (dSeq (dIfS (dTru (dOp (gCmpI fun i j => decide (j < i)) (dOp gIx (dVar 0) (dC (.int 0))) (dC (.int 0)))) (dSeq (dAsg (dOp (rBin CMod fun i j => i.fmod j) (dCB gInt (dCons (dOp gIx (dVar 0) (dC (.int 0))) dNil)) (dVar 1)) (dName 2))
 (dSeq (dAsg (dOp (rBin CDiv fun i j => i.fdiv j) (dOp gIx (dVar 0) (dC (.int 0))) (dVar 1)) (dSub (dVar 0) (dC (.int 0))))
 (dRet (dVar 2)))) dNext)
 (dSeq (dAsg (dC (.int 0)) (dName 2))
 (dSeq (dFor (dRngI gRng1 (dCons (dOp gAdd (dC (.int 1)) (dOp (rBin CDiv fun i j => i.fdiv j) (dBits (dVar 1)) (dC (.int 30)))) dNil)) (dName 3) (dSeq (dAsg (dOp gAdd (dOp gIx (dVar 0) (dC (.int 2))) (dC (.int 1))) (dSub (dVar 0) (dC (.int 2))))
 (dAsg (dOp gAdd (dOp (rBin CMul fun i j => i * j) (dVar 2) (dC (.int 2147483587))) (dCall 2 c_l_hash_9cde [] DX0 (dCons (dOp gIx (dVar 0) (dC (.int 1))) (dCons (dOp gIx (dVar 0) (dC (.int 2))) dNil)))) (dName 2))))
 (dRet (dOp (rBin CMod fun i j => i.fmod j) (dCB gInt (dCons (dVar 2) dNil)) (dVar 1))))))
def t_l_cell_cf3b : DTS :=
 (dSeq (dIfS (dTru (dOp (gCmpI fun i j => decide (i < j)) (dVar 1) (dCB gLen (dCons (dVar 0) dNil)))) (dRet (dOp gIx (dVar 0) (dVar 1))) dNext)
 (dRet (dOp (rBin CMod fun i j => i.fmod j) (dCB gSum (dCons (dSl (gSlL false) (dVar 0) dNoPart (dPart (dC (.int 1)))) dNil)) (dC (.int 1000003)))))
def t_l_generator_b324 (c_l_cell_cf3b : DSp) : DTS :=
 (dSeq (dAsg (dCall 2 c_l_cell_cf3b [] DX0 (dCons (dVar 0) (dCons (dVar 1) dNil))) (dName 2))
 (dRet (dOwn (dCons (dOp (rBin CMod fun i j => i.fmod j) (dCB gInt (dCons (dCB gMax (dCons (dOp (rBin (fun _ _ => True) fun i j => i - j) (dVar 2) (dOp (rBin CPow fun i j => i ^ j.toNat) (dC (.int 10)) (dC (.int 18)))) (dCons (dC (.int 0)) dNil))) dNil)) (dOp (rBin CPow fun i j => i ^ j.toNat) (dOp (rBin CPow fun i j => i ^ j.toNat) (dC (.int 10)) (dC (.int 60))) (dC (.int 10)))) (dCons (dOp (rBin CMod fun i j => i.fmod j) (dCB gInt (dCons (dVar 2) dNil)) (dC (.int 2147483647))) (dCons (dOp (rBin CMul fun i j => i * j) (dC (.int 1000)) (dVar 1)) dNil))))))
def t_l_common_6be5 : DTS :=
 (dSeq (dPar 2 3 (dCons (dCB gAbs (dCons (dVar 0) dNil)) (dCons (dCB gAbs (dCons (dVar 1) dNil)) dNil)))
 (dSeq (dWhile (dTru (dOp gNe (dVar 3) (dC (.int 0)))) (dPar 2 3 (dCons (dVar 3) (dCons (dOp (rBin CMod fun i j => i.fmod j) (dCB gInt (dCons (dVar 2) dNil)) (dVar 3)) dNil))))
 (dRet (dVar 2))))
end DL
namespace DL
open PySem PySem.Spec PyProof.Rows L2
end DL
namespace DL
open PySem PySem.Spec PyProof.Rows L2
end DL
namespace DL
open PySem PySem.Spec PyProof.Rows L2
def t_is_cutting_by (c_is_whole : DSp) (c_common_by : DSp) : DTS :=
 (dSeq (dIfS (dOr (dNot (dTru (dCB gIsi (dCons (dVar 0) (dCons (dC (.val (.ty "tuple"))) dNil))))) (dOr (dTru (dOp gNe (dCB gLen (dCons (dVar 0) dNil)) (dC (.int 4)))) (dTru (dOp gNe (dLc false (dSeqI (dVar 0)) (dName 1) (dNot (dTru (dCall 1 c_is_whole [] DX0 (dCons (dVar 1) dNil)))) (dVar 1) [1]) (dLst dNil))))) (dRet (dC (.bl false))) dNext)
 (dSeq (dAsg (dVar 0) (dGTup 4 (dGCons (dName 2) (dGCons (dName 3) (dGCons (dName 4) (dGCons (dName 5) dGNil))))))
 (dSeq (dIfS (dOr (dTru (dOp (gCmpI fun i j => decide (i < j)) (dVar 3) (dC (.int 1)))) (dOr (dTru (dOp (gCmpI fun i j => decide (i < j)) (dVar 4) (dC (.int 1)))) (dNot (dTru (dOp (gCmpI fun i j => decide (i < j)) (dOp gAdd (dVar 4) (dVar 5)) (dVar 3)))))) (dRet (dC (.bl false))) dNext)
 (dSeq (dAsg (dCall 2 c_common_by [] DX0 (dCons (dVar 3) (dCons (dVar 4) dNil))) (dName 6))
 (dRet (dAndV (dChain (gCmpI fun i j => decide (i ≤ j)) (gCmpI fun i j => decide (i < j)) (dC (.int 0)) (dVar 2) (dVar 6)) (dOp gEq (dCall 2 c_common_by [] DX0 (dCons (dCall 2 c_common_by [] DX0 (dCons (dVar 2) (dCons (dVar 6) dNil))) (dCons (dVar 5) dNil))) (dC (.int 1)))))))))
def t_measure_by : DTS :=
 (dRet (dOp gAdd (dOp (rBin CMul fun i j => i * j) (dOp gIx (dVar 0) (dC (.int 3))) (dOp gIx (dVar 0) (dC (.int 3)))) (dOp (rBin CMul fun i j => i * j) (dOp (rBin CMul fun i j => i * j) (dC (.int 4)) (dOp gIx (dVar 0) (dC (.int 1)))) (dOp gIx (dVar 0) (dC (.int 2))))))
end DL
namespace DL
open PySem PySem.Spec PyProof.Rows L2
end DL
/-! DLS: sorted of ints, of tuples of ints -/
namespace DL
open PySem PySem.Spec PyProof.Rows L2
/-- by the first unlike number -/
def lexL : List Int → List Int → Bool
  | [], [] => false
  | [], _ :: _ => true
  | _ :: _, [] => false
  | x :: xs, y :: ys => if x = y then lexL xs ys else decide (x < y)
theorem lexL_asym : ∀ x y, lexL x y = true → lexL y x = false
  | [], [], h => by cases h
  | [], _ :: _, _ => rfl
  | _ :: _, [], h => by cases h
  | x :: xs, y :: ys, h => by
    unfold lexL at h ⊢
    by_cases e : x = y
    · rw [if_pos e] at h
      rw [if_pos e.symm]
      exact lexL_asym xs ys h
    · rw [if_neg e] at h
      rw [if_neg (Ne.symm e)]
      have := of_decide_eq_true h
      exact decide_eq_false (by omega)
theorem lexL_tr : ∀ x y z, lexL y x = false → lexL z y = false → lexL z x = false
  | [], [], z, _, h => h
  | [], _ :: _, [], _, h => by cases h
  | [], _ :: _, _ :: _, _, _ => rfl
  | _ :: _, [], _, h, _ => by cases h
  | _ :: _, _ :: _, [], _, h => by cases h
  | x :: xs, y :: ys, z :: zs, h1, h2 => by
    unfold lexL at h1 h2 ⊢
    by_cases e1 : y = x
    · rw [if_pos e1] at h1
      by_cases e2 : z = y
      · rw [if_pos e2] at h2
        rw [if_pos (e2.trans e1)]
        exact lexL_tr xs ys zs h1 h2
      · rw [if_neg e2] at h2
        rw [if_neg (fun z => e2 (z.trans e1.symm)), ← e1]
        exact h2
    · rw [if_neg e1] at h1
      have a1 := of_decide_eq_false h1
      by_cases e2 : z = y
      · rw [if_neg (fun z => e1 (e2.symm.trans z)), e2]
        exact h1
      · rw [if_neg e2] at h2
        have a2 := of_decide_eq_false h2
        rw [if_neg (by omega)]
        exact decide_eq_false (by omega)
theorem lexL_conn : ∀ x y, lexL x y = false → lexL y x = false → x = y
  | [], [], _, _ => rfl
  | [], _ :: _, h, _ => by cases h
  | _ :: _, [], _, h => by cases h
  | x :: xs, y :: ys, h1, h2 => by
    unfold lexL at h1 h2
    by_cases e : x = y
    · rw [if_pos e] at h1
      rw [if_pos e.symm] at h2
      rw [e, lexL_conn xs ys h1 h2]
    · rw [if_neg e] at h1
      rw [if_neg (Ne.symm e)] at h2
      have a1 := of_decide_eq_false h1
      have a2 := of_decide_eq_false h2
      omega
theorem lexL_swo {α : Type} (k : α → List Int) : SrtO.Swo fun v u => lexL (k v) (k u) := ⟨fun _ _ => lexL_asym _ _, fun _ _ _ => lexL_tr _ _ _⟩
/-- at v: a tuple of these ints -/
def IsTupI (h : Heap) (v : Value) (ns : List Int) : Prop := ∃ a o us n, v = .ref a ∧ h.get? a = some o ∧ o.cls = .type "tuple" ∧ o.data = .seq (List.toArray us) n ∧ Vals (ns.map V.int) us
theorem IsTupI.keeps {h h' : Heap} {v : Value} {ns : List Int} (p : IsTupI h v ns) (k : ∀ b o, h.get? b = some o → o.cls = .type "tuple" → h'.get? b = some o) : IsTupI h' v ns := by
  obtain ⟨a, o, us, n, e, ho, hc, hd, r⟩ := p
  exact ⟨a, o, us, n, e, k _ _ ho hc, hc, hd, r⟩
theorem lex_run {prog : Program} {w : World} {A : Around} {Q : Bool → Shared → Prop} {s : Shared} : ∀ (ns ms : List Int) (us vs : List Value) (i : Nat), Vals (ns.map V.int) us → Vals (ms.map V.int) vs → ns.length = ms.length → Q (lexL ns ms) s → PySem.W.KatLex prog w A true false Q (us.zip vs) i s
  | [], [], us, vs, i, r1, r2, _, q => by
    cases r1; cases r2
    exact PySem.W.kat_nil q
  | [], _ :: _, _, _, _, _, _, h, _ => by cases h
  | _ :: _, [], _, _, _, _, _, h, _ => by cases h
  | n :: ns, m :: ms, _, _, i, .cons rn r1, .cons rm r2, h, q => by
    obtain ⟨t1, rfl⟩ := rn
    obtain ⟨t2, rfl⟩ := rm
    unfold lexL at q
    refine PySem.W.kat_cons (SeqAt.EqAt.int_int n t1 m t2 prog w _ _ (PySem.W.kat_go (fun e => ?_) fun e => ?_))
    · have e' : n = m := by simpa using e
      rw [if_pos e'] at q
      exact PySem.W.kat_yes (lex_run ns ms _ _ _ r1 r2 (by simpa using h) q)
    · have e' : ¬ n = m := by simpa using e
      rw [if_neg e'] at q
      exact PySem.W.kat_no (oneLt_any_int q)
theorem tup_cmpI {prog : Program} {w : World} {A : Around} {s : Shared} {vs : List Value} {k : Value → List Int} {d : Nat} (hp : ∀ v ∈ vs, IsTupI s.heap v (k v) ∧ (k v).length = d) : SrtO.Cmp prog w A s (tuples' true) (fun p => p.1 ∈ vs) (SrtO.lt2 fun v u => lexL (k v) (k u)) := by
  intro p q hm hm'
  obtain ⟨⟨a, o, us, n, e, ho, hc, hd, r⟩, l1⟩ := hp _ hm
  obtain ⟨⟨a', o', us', n', e', ho', hc', hd', r'⟩, l2⟩ := hp _ hm'
  show wpAny (model prog w) A (keyLt' (tuples' true) p.1 q.1) (fun r s' => s' = s ∧ r = lexL (k p.1) (k q.1)) (fun _ _ => False) s
  generalize k p.1 = ns at r l1 ⊢
  generalize k q.1 = ms at r' l2 ⊢
  rw [e, e']
  refine PySem.W.kat_lt ho hd ho' hd' ?_
  have z1 : us.length = ns.length := by rw [← r.length, List.length_map]
  have z2 : us'.length = ms.length := by rw [← r'.length, List.length_map]
  have z : decide ((List.toArray us).size < (List.toArray us').size) = false := by
    rw [List.size_toArray, List.size_toArray, z1, z2, l1, l2]
    exact decide_eq_false (Nat.lt_irrefl _)
  rw [z]
  exact lex_run ns ms us us' 0 r r' (l1.trans l2.symm) ⟨rfl, rfl⟩
theorem firsts_ofI {h : Heap} {k : Value → List Int} {d : Nat} (hd : 1 ≤ d) : ∀ {vs : List Value}, (∀ v ∈ vs, IsTupI h v (k v) ∧ (k v).length = d) → ∃ fs : List Value, PySem.W.KatTups h vs fs ∧ fs.length = vs.length ∧ ∀ f ∈ fs, ∃ x t, f = Value.int x t
  | [], _ => ⟨[], .nil, rfl, fun f hf => by cases hf⟩
  | v :: vs, hp => by
    obtain ⟨fs, h1, h2, h3⟩ := firsts_ofI hd fun v' hm => hp v' (List.mem_cons_of_mem _ hm)
    obtain ⟨⟨a, o, us, n, e, ho, hc, hdt, r⟩, l⟩ := hp v List.mem_cons_self
    generalize k v = ns at r l
    match ns, us, r, l with
    | [], _, _, l => exact absurd (show (0 : Nat) = d from l) (by omega)
    | x :: xs, _, .cons rx r, l =>
      obtain ⟨t, rfl⟩ := rx
      subst e
      refine ⟨.int x t :: fs, .cons ho hc hdt (by simp) h1, by rw [List.length_cons, List.length_cons, h2], fun f hf => ?_⟩
      rcases List.mem_cons.mp hf with rfl | hf
      · exact ⟨x, t, rfl⟩
      · exact h3 f hf
theorem tups_sortableI {prog : Program} {w : World} {A : Around} {s : Shared} {a : Addr} {vs : List Value} {k : Value → List Int} {d : Nat} (hd : 1 ≤ d) (h0 : 0 < vs.length) (hp : ∀ v ∈ vs, IsTupI s.heap v (k v) ∧ (k v).length = d) (ha : ∀ o, s.heap.get? a = some o → o.cls ≠ .type "tuple") :
    SrtO.SortableO prog w A s a vs fun v u => lexL (k v) (k u) := by
  intro h' keep
  have hp' : ∀ v ∈ vs, IsTupI h' v (k v) ∧ (k v).length = d := fun v hm => ⟨(hp v hm).1.keeps fun b o e c => keep b o (fun z => ha o (by rw [← z]; exact e) c) e, (hp v hm).2⟩
  obtain ⟨fs, h1, h2, h3⟩ := firsts_ofI hd hp'
  refine ⟨tuples' true, fun Q E hq => PySem.W.kat_kind (T := .type "int") h1 (by omega) (fun f hm => ?_) (by rfl) ?_, tup_cmpI hp'⟩
  · obtain ⟨x, t, rfl⟩ := h3 f hm
    exact PySem.W.Looks.now
  · have e : (Value.type "int" != Value.type "tuple") = true := by decide +kernel
    rw [e]
    exact hq
theorem sorted_tupsI {prog : Program} {w : World} {A : Around} {E : Value → Shared → Prop} {s : Shared} {l : Addr} {vs : List Value} {k : Value → List Int} {d : Nat} {Q : Value → Shared → Prop} (hd : 1 ≤ d) (hl : s.heap.IsList l vs.toArray) (hz : vs.length ≤ sizeLine) (hp : ∀ v ∈ vs, IsTupI s.heap v (k v) ∧ (k v).length = d)
    (h : ∀ (h' : Heap) (b : Addr) (out : List Value), SrtO.Srtd (fun v u => lexL (k v) (k u)) out → out.Perm vs → (∀ c o, s.heap.get? c = some o → h'.get? c = some o) → s.heap.objs.size ≤ b → (∃ n, h'.get? b = some (seqObj "list" out.toArray n)) → Q (.ref b) { s with heap := h' }) :
    wpAny (model prog w) A (call (.builtin "sorted") [.ref l]) Q E s := by
  refine SrtO.sorted_ord (lexL_swo k) hl hz (fun h2 h₁ a ha kk => ?_) fun out hs hb => ?_
  · refine tups_sortableI (s := { s with heap := h₁ }) hd (by omega) (fun v hm => ⟨(hp v hm).1.keeps fun b o e _ => (kk b o e).2, (hp v hm).2⟩) fun o e c => ?_
    have e' : some o = some (seqObj "list" vs.toArray 0) := e.symm.trans ha
    cases e'
    exact absurd (Value.type.inj c) (by decide)
  · exact h _ _ out hs hb.perm (fun b o e => sortedAll_old e) (Nat.le_succ _) (sortedAll_at s.heap vs out.toArray)
/-- the ints of a tuple, as H tells -/
def kV (K : PySem.W.Frag) (H : Hp) (v : V) : List Int := match v with
  | .ref t => match H t with
    | some (.tup xs) => xs.map fun x => match x with
      | .int i => i
      | _ => 0
    | _ => match K.lookup t with
      | some ⟨_, _, .seq its _, _⟩ => its.toList.map fun u => match u with
        | .int i _ => i
        | _ => 0
      | _ => []
  | _ => []
theorem kV_at {K : PySem.W.Frag} {H : Hp} {t : Addr} {ns : List Int} (h : H t = some (.tup (ns.map V.int))) : kV K H (.ref t) = ns := by
  unfold kV
  dsimp only
  rw [h]
  dsimp only
  rw [List.map_map]
  exact (List.map_congr_left fun x _ => rfl).trans (List.map_id ns)
theorem ints_vals : ∀ {ns : List Int} {us : List Value}, Vals (ns.map V.int) us → (us.map fun u => match u with | .int i _ => i | _ => 0) = ns
  | [], _, .nil => rfl
  | n :: ns, _, .cons r t => by
    obtain ⟨tk, rfl⟩ := r
    rw [List.map_cons, ints_vals t]
theorem kV_atT {K : PySem.W.Frag} {S H : Hp} {t : Addr} {ns : List Int} (hk : ∀ t o, K.lookup t = some o → H t = none) (s : Same S H) (h : TupK K S t (ns.map V.int)) : kV K H (.ref t) = ns := by
  rcases h with h | ⟨o, its, n, hl, hc, hd, _, hv⟩
  · exact kV_at (s _ _ h)
  · unfold kV
    dsimp only
    rw [hk t o hl]
    dsimp only
    obtain ⟨c, d, da, sl⟩ := o
    dsimp only at hd
    subst hd
    rw [hl]
    exact ints_vals hv
theorem _root_.L2.Inv.kNone {X : Cx} {pins : List (Addr × Obj)} {σ : St} {H : Hp} {s : Shared} (I : Inv X pins σ H s) : ∀ t o, X.K.lookup t = some o → H t = none := fun t o e => (I.bs t o (I.ok.mod.kin t o e)).2
def rSortedIT (K : PySem.W.Frag) : List V → Hp → VK → Prop := fun vs H Q => ∃ (a : Addr) (xs : List V) (d : Nat), vs = [V.ref a] ∧ SqL K H a xs ∧ 1 ≤ d ∧ (∀ x ∈ xs, (∃ t, x = V.ref t ∧ SqT K H t ((kV K H x).map V.int)) ∧ (kV K H x).length = d) ∧
  ∀ ys p, ys.Pairwise (fun x y => lexL (kV K H y) (kV K H x) = false) → ys.Perm xs → H p = none → Q (.ref p) (upd H p (.lst ys))
theorem cr_sortedIT {X : Cx} : CallR X (.builtin "sorted") (rSortedIT X.K) := by
  intro pins s σ H vs us Q I r h
  obtain ⟨a, xs, d, rfl, hs, hd, hx, q⟩ := h
  obtain ⟨its, rv, hl, hz⟩ := I.list hs
  match us, r with
  | [u], .cons ru .nil =>
    obtain rfl : u = Value.ref a := ru
    obtain ⟨e1, e2⟩ := refs_back rv fun x m => by
      obtain ⟨⟨t, e, _⟩, _⟩ := hx x m
      exact ⟨t, e⟩
    refine sorted_tupsI (k := fun u => kV X.K H (backV u)) hd hl.isList (by rw [← rv.length]; exact hz) (fun v hv => ?_) fun h' b out h1 h2 kp hb hn => ?_
    · obtain ⟨t, rfl⟩ := e2 v hv
      have hm : V.ref t ∈ xs := by rw [e1]; exact List.mem_map.mpr ⟨_, hv, rfl⟩
      obtain ⟨⟨t', e, ht⟩, hl'⟩ := hx _ hm
      cases e
      obtain ⟨its2, r2, ⟨o, ho, hc, n, hd'⟩, _⟩ := I.tuple ht
      exact ⟨⟨t, o, its2, n, rfl, ho, hc, hd', r2⟩, hl'⟩
    · have h3 : ∀ u ∈ out, ∃ a, u = Value.ref a := fun u hu => e2 u (h2.mem_iff.mp hu)
      obtain ⟨n, hn⟩ := hn
      have hp : (out.map backV).Perm xs := by
        rw [e1]
        exact h2.map _
      have hlen : (out.map backV).length ≤ sizeLine := by rw [hp.length_eq]; exact hz
      exact ⟨.ref b, upd H b (.lst (out.map backV)), I.laid (t' := s.toks) kp hb ⟨hlen, out, n, vals_back h3, hn⟩, rfl, q _ b (List.pairwise_map.mpr h1) hp (I.hok.fresh hb)⟩
/-! ### as a rule for data -/
def tI (ns : List Int) : D := .tup (ns.map D.int)
theorem RepAll.ofMem {K : PySem.W.Frag} {ph : Ph} {S : Hp} {f : V → D} : ∀ {ys : List V}, (∀ y ∈ ys, Rep K ph S y (f y)) → RepAll K ph S ys (ys.map f)
  | [], _ => .nil
  | y :: ys, h => .cons (h y List.mem_cons_self) (RepAll.ofMem fun z hz => h z (List.mem_cons_of_mem _ hz))
theorem RepAll.intsV {K : PySem.W.Frag} {ph : Ph} {S : Hp} : ∀ {xs : List V} {ns : List Int}, RepAll K ph S xs (ns.map D.int) → xs = ns.map V.int
  | _, [], .nil => rfl
  | _, _ :: _, .cons h t => by
    cases h
    rw [RepAll.intsV t]
    rfl
def ownOr (own : Bool) (l : List D) (M : Mem) (Q : DQ) : Prop := if own = true then Q (.own M.length) (M ++ [.lst l]) else Q (.lst l) M
/-- sorted(l), l a list of ints or of tuples of ints of one length -/
def gSorted (own : Bool) : GA := fun ds M Q => match ds with
  | [d] => (∃ l : List Int, res M d = .lst (l.map D.int) ∧ ∀ l' : List Int, l'.Perm l → l'.Pairwise (· ≤ ·) → ownOr own (l'.map D.int) M Q) ∨
    ∃ (k : Nat) (l : List (List Int)), res M d = .lst (l.map tI) ∧ 1 ≤ k ∧ (∀ ns ∈ l, ns.length = k) ∧ ∀ l' : List (List Int), l'.Perm l → l'.Pairwise (fun x y => lexL y x = false) → ownOr own (l'.map tI) M Q
  | _ => False
theorem RepAll.tups {K : PySem.W.Frag} {ph : Ph} {S H : Hp} (hk : ∀ t o, K.lookup t = some o → H t = none) (hsub : Same S H) : ∀ {xs : List V} {l : List (List Int)}, RepAll K ph S xs (l.map tI) → (∀ x ∈ xs, (∃ t, x = V.ref t ∧ SqT K H t ((kV K H x).map V.int)) ∧ kV K H x ∈ l ∧ Rep K ph S x (tI (kV K H x))) ∧ xs.map (kV K H) = l
  | _, [], .nil => ⟨fun x h => (by cases h), rfl⟩
  | _, n :: l, .cons h t => by
    obtain ⟨i1, i2⟩ := RepAll.tups hk hsub t
    have h0 := h
    cases h with
    | tup h1 h2 =>
      have e := RepAll.intsV h2
      subst e
      have e2 := kV_atT hk hsub h1
      refine ⟨fun x hx => ?_, by rw [List.map_cons, e2, i2]⟩
      rcases List.mem_cons.mp hx with rfl | hx
      · rw [e2]
        exact ⟨⟨_, rfl, h1.sq hsub⟩, List.mem_cons_self, h0⟩
      · obtain ⟨j1, j2, j3⟩ := i1 x hx
        exact ⟨j1, List.mem_cons_of_mem _ j2, j3⟩
theorem cd_sorted {X : Cx} (own : Bool) : CallD X (.builtin "sorted") (gSorted own) := by
  intro pins s σ H ph S r M vs us ds Q I hs rv q hg
  match ds, vs, us, rv, q, hg with
  | [d], [v], [u], .cons ru .nil, .cons q .nil, hg =>
    rcases hg with ⟨l, er, g⟩ | ⟨k, l, er, hk, hl, g⟩
    · obtain ⟨p, xs, rfl, hp, hx⟩ := res_lst hs q er
      have e := RepAll.intsV hx
      subst e
      refine cr_sortedI pins s σ H _ _ _ I (.cons ru .nil) ⟨p, l, rfl, SqL.of hp, fun l' b pm sd hb => ?_⟩
      have g' := g l' pm sd
      cases own with
      | false => exact Aft.frz hs hb fun x => ⟨_, .lst upd_same (RepAll.ints _), g'⟩
      | true => exact Aft.own hs hb (RepAll.ints _) g'
    · obtain ⟨p, xs, rfl, hp, hx⟩ := res_lst hs q er
      obtain ⟨i1, i2⟩ := RepAll.tups I.kNone hs.sub hx
      refine cr_sortedIT pins s σ H _ _ _ I (.cons ru .nil) ⟨p, xs, k, rfl, SqL.of hp, hk, fun x hx => ⟨(i1 x hx).1, hl _ (i1 x hx).2.1⟩, fun ys b sd pm hb => ?_⟩
      have ry : RepAll X.K ph S ys ((ys.map (kV X.K H)).map tI) := by
        rw [List.map_map]
        exact RepAll.ofMem fun y hy => (i1 y (pm.mem_iff.mp hy)).2.2
      have g' := g (ys.map (kV X.K H)) (by rw [← i2]; exact pm.map _) (List.pairwise_map.mpr sd)
      cases own with
      | false => exact Aft.frz hs hb fun x => ⟨_, .lst upd_same (ry.up x), g'⟩
      | true => exact Aft.own hs hb ry g'
/-! ### slices of lists and tuples alike -/
section
variable {X : Cx}
def gSl (own : Bool) (d : D) (lo hi : Option Int) (M : Mem) (Q : DQ) : Prop := match d with
  | .tup l => Q (.tup (cutD l lo hi)) M
  | d => gSlL own d lo hi M Q
theorem de_sl (own : Bool) {e : Expr} {lo hi : Option Expr} {t : DTE} {tl th : DTO} {pos p2 : Pos} (h : DE X e t) (h1 : DO X lo tl) (h2 : DO X hi th) : DE X (.Subscript e (.Slice lo hi none p2) pos) (dSl (gSl own) t tl th) :=
  DE.of (pe_slice (SlR.or sl_list sl_tupA) h.pe h1.po h2.po) fun ph S r M σ H Q hs ht Q' hq => ⟨ph, S, r, M, _, hs, ht, fun v H1 ⟨ph1, S1, M1, x1, hs1, d, q1, g1⟩ =>
    ⟨ph1, S1, r, M1, _, hs1, g1, fun lo H2 ⟨ph2, S2, M2, x2, hs2, g2⟩ => ⟨ph2, S2, r, M2, _, hs2, g2, fun hi H3 ⟨ph3, S3, M3, x3, hs3, g3⟩ => by
      replace g3 : gSl own d lo hi M3 Q := g3
      have xx := x1.trans (x2.trans x3)
      have q3 := q1.up (x2.trans x3)
      by_cases htup : ∃ l, d = .tup l
      · obtain ⟨l, rfl⟩ := htup
        cases q3 with
        | tup h1 h2 =>
          refine .inr ⟨_, _, rfl, h1.sq hs3.sub, fun hw => ?_, fun _ b hb => hq _ _ (Aft.up xx (Aft.frz hs3 hb fun x => ⟨_, .tup (.inl upd_same) ((cut_rep h2).up x), g3⟩))⟩
          have hw' : HT.sIx l.length 0 lo = 0 ∧ HT.sIx l.length l.length hi = l.length := by rw [← h2.len]; exact hw
          refine hq _ _ (Aft.up xx (Aft.here hs3 ⟨_, .tup h1 ?_, g3⟩))
          unfold cutD
          rw [cut_whole hw']
          exact h2
      · left
        have g4 : gSlL own d lo hi M3 Q := by cases d <;> first | exact g3 | exact absurd ⟨_, rfl⟩ htup
        unfold gSlL at g4
        split at g4
        · rename_i l er
          obtain ⟨p, xs, rfl, hp, hx⟩ := res_lst hs3 q3 er
          refine ⟨p, xs, rfl, SqL.of hp, fun b hb => ?_⟩
          cases own with
          | false => exact hq _ _ (Aft.up xx (Aft.frz hs3 hb fun x => ⟨_, .lst upd_same ((cut_rep hx).up x), g4⟩))
          | true => exact hq _ _ (Aft.up xx (Aft.own hs3 hb (cut_rep hx) g4))
        · rename_i ns er
          have er' := res_scr er
          subst er'
          cases q3 with
          | scr h1 =>
            refine ⟨_, _, rfl, hs3.sub.seq h1, fun b hb => ?_⟩
            cases own with
            | false => exact hq _ _ (Aft.up xx (Aft.frz hs3 hb fun x => ⟨_, .lst upd_same (cut_rep (RepAll.ints _)), g4⟩))
            | true => exact hq _ _ (Aft.up xx (Aft.own hs3 hb (cut_rep (RepAll.ints _)) g4))
        · exact g4.elim⟩⟩⟩
theorem gSl_tup {own : Bool} {l : List D} {lo hi : Option Int} {M : Mem} {Q : DQ} : gSl own (.tup l) lo hi M Q = Q (.tup (cutD l lo hi)) M := rfl
theorem gSl_lst {l : List D} {lo hi : Option Int} {M : Mem} {Q : DQ} : gSl false (.lst l) lo hi M Q = Q (.lst (cutD l lo hi)) M := rfl
theorem cut_1 {a : D} {l : List D} : cutD (a :: l) (some 1) none = l := by
  unfold cutD
  have e1 : HT.sIx (a :: l).length 0 (some 1) = 1 := by
    have := HT.sIx_nat (a :: l).length 0 1
    rw [show ((1 : Nat) : Int) = 1 from rfl] at this
    rw [this, List.length_cons]
    omega
  have e2 : HT.sIx (a :: l).length (a :: l).length none = (a :: l).length := rfl
  rw [e1, e2]
  simp
end
/-! ### x + y, lists, the sum to be changed -/
end DL
namespace DL
open PySem PySem.Spec PyProof.Rows L2
def t_far_by (c_common_by : DSp) : DTS :=
 (dSeq (dAsg (dVar 0) (dGTup 4 (dGCons (dName 1) (dGCons (dName 2) (dGCons (dName 3) (dGCons (dName 4) dGNil))))))
 (dSeq (dIfS (dTru (dOp gEq (dVar 3) (dC (.int 1)))) (dRet (dC (.int 0))) dNext)
 (dRet (dIf (dTru (dOp gEq (dCall 2 c_common_by [] DX0 (dCons (dCall 2 c_common_by [] DX0 (dCons (dVar 1) (dCons (dVar 2) dNil))) (dCons (dVar 3) dNil))) (dC (.int 1)))) (dC (.int 1)) (dC (.int 2))))))
def t_is_heart (c_is_cutting_by : DSp) : DTS :=
 (dRet (dAndV (dCall 1 c_is_cutting_by [] DX0 (dCons (dVar 0) dNil)) (dOp gEq (dOp gIx (dVar 0) (dC (.int 2))) (dC (.int 1)))))
def t_shared : DTS :=
 (dSeq (dAsg (dTup (dCons (dVar 0) (dCons (dVar 1) (dCons (dC (.int 1)) (dCons (dC (.int 0)) (dCons (dC (.int 0)) (dCons (dC (.int 1)) dNil))))))) (dGTup 6 (dGCons (dName 2) (dGCons (dName 3) (dGCons (dName 4) (dGCons (dName 5) (dGCons (dName 6) (dGCons (dName 7) dGNil))))))))
 (dSeq (dWhile (dTru (dOp gNe (dVar 3) (dC (.int 0)))) (dSeq (dAsg (dOp (rBin CDiv fun i j => i.fdiv j) (dVar 2) (dVar 3)) (dName 8))
 (dSeq (dPar 2 3 (dCons (dVar 3) (dCons (dOp (rBin (fun _ _ => True) fun i j => i - j) (dVar 2) (dOp (rBin CMul fun i j => i * j) (dVar 8) (dVar 3))) dNil)))
 (dSeq (dPar 4 5 (dCons (dVar 5) (dCons (dOp (rBin (fun _ _ => True) fun i j => i - j) (dVar 4) (dOp (rBin CMul fun i j => i * j) (dVar 8) (dVar 5))) dNil)))
 (dPar 6 7 (dCons (dVar 7) (dCons (dOp (rBin (fun _ _ => True) fun i j => i - j) (dVar 6) (dOp (rBin CMul fun i j => i * j) (dVar 8) (dVar 7))) dNil)))))))
 (dRet (dIf (dTru (dOp (gCmpI fun i j => decide (j < i)) (dVar 2) (dC (.int 0)))) (dTup (dCons (dVar 2) (dCons (dVar 4) (dCons (dVar 6) dNil)))) (dTup (dCons (dNeg (dVar 2)) (dCons (dNeg (dVar 4)) (dCons (dNeg (dVar 6)) dNil))))))))
def t_opposite_by (c_shared : DSp) : DTS :=
 (dRet (dOp (rBin CMod fun i j => i.fmod j) (dOp gIx (dCall 2 c_shared [] DX0 (dCons (dOp (rBin CMod fun i j => i.fmod j) (dVar 0) (dVar 1)) (dCons (dVar 1) dNil))) (dC (.int 1))) (dVar 1)))
def t_beside (c_opposite_by : DSp) : DTS :=
 (dSeq (dAsg (dVar 0) (dGTup 2 (dGCons (dName 1) (dGCons (dName 2) dGNil))))
 (dSeq (dAsg (dIf (dTru (dOp (gCmpI fun i j => decide (j < i)) (dVar 2) (dC (.int 1)))) (dCall 2 c_opposite_by [] DX0 (dCons (dVar 1) (dCons (dVar 2) dNil))) (dC (.int 0))) (dName 3))
 (dRet (dTup (dCons (dOp (rBin CDiv fun i j => i.fdiv j) (dOp (rBin (fun _ _ => True) fun i j => i - j) (dOp (rBin CMul fun i j => i * j) (dVar 1) (dVar 3)) (dC (.int 1))) (dVar 2)) (dCons (dVar 3) dNil))))))
def t_table_by (c_beside : DSp) : DTS :=
 (dSeq (dAsg (dVar 0) (dGTup 4 (dGCons (dName 2) (dGCons (dName 3) (dGCons (dName 4) (dGCons (dName 5) dGNil))))))
 (dSeq (dAsg (dVar 1) (dGTup 2 (dGCons (dName 6) (dGCons (dName 7) dGNil))))
 (dSeq (dAsg (dCall 1 c_beside [] DX0 (dCons (dVar 1) dNil)) (dGTup 2 (dGCons (dName 8) (dGCons (dName 9) dGNil))))
 (dSeq (dAsg (dOp gAdd (dOp gAdd (dOp gAdd (dOp (rBin CMul fun i j => i * j) (dVar 8) (dVar 3)) (dOp (rBin CMul fun i j => i * j) (dVar 9) (dVar 2))) (dVar 5)) (dOp (rBin CMul fun i j => i * j) (dVar 7) (dVar 4))) (dName 10))
 (dRet (dTup (dCons (dTup (dCons (dOp gAdd (dOp (rBin CMul fun i j => i * j) (dVar 6) (dVar 3)) (dOp (rBin CMul fun i j => i * j) (dVar 7) (dVar 2))) (dCons (dOp (rBin CMul fun i j => i * j) (dVar 7) (dVar 4)) (dCons (dVar 10) (dCons (dOp (rBin CMul fun i j => i * j) (dVar 9) (dVar 4)) dNil))))) (dCons (dVar 8) (dCons (dVar 9) dNil)))))))))
def t_full_by (c_table_by : DSp) (c_shared : DSp) (c_opposite_by : DSp) : DTS :=
 (dSeq (dAsg (dCall 2 c_table_by [] DX0 (dCons (dVar 0) (dCons (dVar 1) dNil))) (dGTup 3 (dGCons (dGTup 4 (dGCons (dName 2) (dGCons (dName 3) (dGCons (dName 4) (dGCons (dName 5) dGNil))))) (dGCons (dName 6) (dGCons (dName 7) dGNil)))))
 (dSeq (dAsg (dCall 2 c_shared [] DX0 (dCons (dVar 2) (dCons (dVar 3) dNil))) (dGTup 3 (dGCons (dName 8) (dGCons (dName 9) (dGCons (dName 10) dGNil)))))
 (dSeq (dAsg (dOp (rBin CDiv fun i j => i.fdiv j) (dOp (rBin (fun _ _ => True) fun i j => i - j) (dOp (rBin CMul fun i j => i * j) (dVar 2) (dVar 5)) (dOp (rBin CMul fun i j => i * j) (dVar 3) (dVar 4))) (dVar 8)) (dName 11))
 (dSeq (dPar 12 13 (dCons (dCB gGcd (dCons (dVar 11) (dCons (dVar 8) dNil))) (dCons (dNeg (dOp gAdd (dOp (rBin CMul fun i j => i * j) (dVar 9) (dVar 4)) (dOp (rBin CMul fun i j => i * j) (dVar 10) (dVar 5)))) dNil)))
 (dSeq (dPar 14 15 (dCons (dOp (rBin CMod fun i j => i.fmod j) (dVar 13) (dVar 12)) (dCons (dOp (rBin CDiv fun i j => i.fdiv j) (dVar 8) (dVar 12)) dNil)))
 (dSeq (dAsg (dIf (dTru (dOp (gCmpI fun i j => decide (j < i)) (dVar 15) (dC (.int 1)))) (dOp (rBin CMod fun i j => i.fmod j) (dOp (rBin CMul fun i j => i * j) (dOp (rBin CDiv fun i j => i.fdiv j) (dOp (rBin (fun _ _ => True) fun i j => i - j) (dVar 14) (dVar 13)) (dVar 12)) (dCall 2 c_opposite_by [] DX0 (dCons (dOp (rBin CDiv fun i j => i.fdiv j) (dVar 11) (dVar 12)) (dCons (dVar 15) dNil)))) (dVar 15)) (dC (.int 0))) (dName 16))
 (dSeq (dPar3 9 10 13 (dCons (dOp gAdd (dVar 9) (dOp (rBin CMul fun i j => i * j) (dVar 16) (dOp (rBin CDiv fun i j => i.fdiv j) (dVar 3) (dVar 8)))) (dCons (dOp (rBin (fun _ _ => True) fun i j => i - j) (dVar 10) (dOp (rBin CMul fun i j => i * j) (dVar 16) (dOp (rBin CDiv fun i j => i.fdiv j) (dVar 2) (dVar 8)))) (dCons (dOp gAdd (dVar 13) (dOp (rBin CMul fun i j => i * j) (dVar 16) (dVar 11))) dNil))))
 (dSeq (dAsg (dTup (dCons (dVar 14) (dCons (dVar 11) (dCons (dVar 8) (dCons (dOp (rBin (fun _ _ => True) fun i j => i - j) (dNeg (dOp gIx (dVar 0) (dC (.int 3)))) (dOp (rBin CMul fun i j => i * j) (dOp (rBin CMul fun i j => i * j) (dC (.int 2)) (dOp gIx (dVar 1) (dC (.int 1)))) (dOp gIx (dVar 0) (dC (.int 2))))) dNil))))) (dName 17))
 (dRet (dTup (dCons (dVar 17) (dCons (dTup (dCons (dTup (dCons (dVar 9) (dCons (dVar 10) dNil))) (dCons (dTup (dCons (dNeg (dOp (rBin CDiv fun i j => i.fdiv j) (dVar 3) (dVar 8))) (dCons (dOp (rBin CDiv fun i j => i.fdiv j) (dVar 2) (dVar 8)) dNil))) dNil))) (dCons (dOp (rBin CDiv fun i j => i.fdiv j) (dOp (rBin (fun _ _ => True) fun i j => i - j) (dVar 13) (dVar 14)) (dVar 8)) (dCons (dVar 6) (dCons (dVar 7) dNil)))))))))))))))
def t_done_by (c_full_by : DSp) : DTS :=
 (dRet (dOp gIx (dCall 2 c_full_by [] DX0 (dCons (dVar 0) (dCons (dVar 1) dNil))) (dC (.int 0))))
def t_nearer_by (c_far_by : DSp) (c_done_by : DSp) : DTS :=
 (dSeq (dPar 1 2 (dCons (dCall 1 c_far_by [] DX0 (dCons (dVar 0) dNil)) (dCons (dC (.int 0)) dNil)))
 (dSeq (dWhile (dTru (dOp (gCmpI fun i j => decide (j ≤ i)) (dCall 1 c_far_by [] DX0 (dCons (dCall 2 c_done_by [] DX0 (dCons (dVar 0) (dCons (dTup (dCons (dVar 2) (dCons (dC (.int 1)) dNil))) dNil))) dNil)) (dVar 1))) (dAsg (dOp gAdd (dVar 2) (dC (.int 1))) (dName 2)))
 (dRet (dTup (dCons (dVar 2) (dCons (dC (.int 1)) dNil))))))
def t_to_heart_by (c_nearer_by : DSp) (c_done_by : DSp) : DTS :=
 (dSeq (dPar 1 2 (dCons (dVar 0) (dCons (dLst dNil) dNil)))
 (dSeq (dWhile (dTru (dOp gNe (dOp gIx (dVar 1) (dC (.int 2))) (dC (.int 1)))) (dSeq (dAsg (dCall 1 c_nearer_by [] DX0 (dCons (dVar 1) dNil)) (dName 3))
 (dPar 1 2 (dCons (dCall 2 c_done_by [] DX0 (dCons (dVar 1) (dCons (dVar 3) dNil))) (dCons (dOp gAdd (dVar 2) (dLst (dCons (dVar 3) dNil))) dNil)))))
 (dRet (dTup (dCons (dVar 2) (dCons (dVar 1) dNil))))))
def t_bounds_by (c_root_floor_by : DSp) : DTS :=
 (dSeq (dAsg (dCall 1 c_root_floor_by [] DX0 (dCons (dVar 0) dNil)) (dName 1))
 (dSeq (dAsg (dIf (dTru (dOp (gCmpI fun i j => decide (i < j)) (dOp (rBin CMul fun i j => i * j) (dVar 1) (dVar 1)) (dVar 0))) (dOp (rBin (fun _ _ => True) fun i j => i - j) (dC (.int 0)) (dVar 1)) (dOp (rBin (fun _ _ => True) fun i j => i - j) (dC (.int 1)) (dVar 1))) (dName 2))
 (dSeq (dAsg (dOp (rBin (fun _ _ => True) fun i j => i - j) (dOp (rBin (fun _ _ => True) fun i j => i - j) (dC (.int 0)) (dVar 2)) (dC (.int 2))) (dName 3))
 (dSeq (dIfS (dTru (dOp gNe (dOp (rBin CMod fun i j => i.fmod j) (dOp (rBin (fun _ _ => True) fun i j => i - j) (dVar 2) (dVar 0)) (dC (.int 2))) (dC (.int 0)))) (dAsg (dOp gAdd (dVar 2) (dC (.int 1))) (dName 2)) dNext)
 (dSeq (dIfS (dTru (dOp gNe (dOp (rBin CMod fun i j => i.fmod j) (dOp (rBin (fun _ _ => True) fun i j => i - j) (dVar 3) (dVar 0)) (dC (.int 2))) (dC (.int 0)))) (dAsg (dOp (rBin (fun _ _ => True) fun i j => i - j) (dVar 3) (dC (.int 1))) (dName 3)) dNext)
 (dRet (dTup (dCons (dVar 2) (dCons (dVar 3) dNil)))))))))
def t_l_measured_5aba : DTS :=
 (dRet (dOp gAdd (dOp (rBin CMul fun i j => i * j) (dOp gIx (dVar 0) (dC (.int 3))) (dOp gIx (dVar 0) (dC (.int 3)))) (dOp (rBin CMul fun i j => i * j) (dOp (rBin CMul fun i j => i * j) (dC (.int 4)) (dOp gIx (dVar 0) (dC (.int 1)))) (dOp gIx (dVar 0) (dC (.int 2))))))
end DL
namespace DL
open PySem PySem.Spec PyProof.Rows L2
def t_l_is_cutting_9b45 (c_l_common_6be5 : DSp) (c_l_measured_5aba : DSp) : DTS :=
 (dSeq (dAsg (dVar 0) (dGTup 4 (dGCons (dName 1) (dGCons (dName 2) (dGCons (dName 3) (dGCons (dName 4) dGNil))))))
 (dSeq (dIfS (dOr (dTru (dOp (gCmpI fun i j => decide (i < j)) (dVar 2) (dC (.int 1)))) (dOr (dTru (dOp (gCmpI fun i j => decide (i < j)) (dVar 3) (dC (.int 1)))) (dOr (dTru (dOp (gCmpI fun i j => decide (j ≤ i)) (dOp gAdd (dVar 3) (dVar 4)) (dVar 2))) (dNot (dTru (dChain (gCmpI fun i j => decide (i ≤ j)) (gCmpI fun i j => decide (i < j)) (dC (.int 0)) (dVar 1) (dCall 2 c_l_common_6be5 [] DX0 (dCons (dVar 2) (dCons (dVar 3) dNil))))))))) (dRet (dC (.bl false))) dNext)
 (dRet (dAndV (dOp gEq (dCall 2 c_l_common_6be5 [] DX0 (dCons (dCall 2 c_l_common_6be5 [] DX0 (dCons (dVar 1) (dCons (dVar 2) dNil))) (dCons (dCall 2 c_l_common_6be5 [] DX0 (dCons (dVar 3) (dCons (dVar 4) dNil))) dNil))) (dC (.int 1))) (dOp (gCmpI fun i j => decide (j < i)) (dCall 1 c_l_measured_5aba [] DX0 (dCons (dVar 0) dNil)) (dC (.int 4)))))))
def t_l_great_5836 (c_l_random_7821 : DSp) (c_l_common_6be5 : DSp) (c_l_is_cutting_9b45 : DSp) : DTS :=
 (dSeq (dAsg (dC (.int 3)) (dName 2))
 (dSeq (dFor (dRngI gRng1 (dCons (dCall 2 c_l_random_7821 [] DX0 (dCons (dVar 0) (dCons (dVar 1) dNil))) dNil)) (dName 3) (dAsg (dOp (rBin CMul fun i j => i * j) (dC (.int 10)) (dVar 2)) (dName 2)))
 (dSeq (dAsg (dOp gIx (dLst (dCons (dC (.int 1)) (dCons (dC (.int 1)) (dCons (dC (.int 2)) (dCons (dC (.int 3)) (dCons (dC (.int 6)) (dCons (dC (.int 12)) dNil))))))) (dCall 2 c_l_random_7821 [] DX0 (dCons (dVar 0) (dCons (dC (.int 6)) dNil)))) (dName 4))
 (dSeq (dPar 5 6 (dCons (dOp (rBin CMul fun i j => i * j) (dVar 4) (dOp gAdd (dC (.int 1)) (dCall 2 c_l_random_7821 [] DX0 (dCons (dVar 0) (dCons (dVar 2) dNil))))) (dCons (dOp (rBin (fun _ _ => True) fun i j => i - j) (dCall 2 c_l_random_7821 [] DX0 (dCons (dVar 0) (dCons (dOp gAdd (dOp (rBin CMul fun i j => i * j) (dC (.int 2)) (dVar 2)) (dC (.int 1))) dNil))) (dVar 2)) dNil)))
 (dSeq (dAsg (dCB gMax (dCons (dC (.int 1)) (dCons (dOp gAdd (dOp gAdd (dVar 5) (dVar 6)) (dC (.int 1))) dNil))) (dName 7))
 (dSeq (dAsg (dOp gAdd (dVar 7) (dCall 2 c_l_random_7821 [] DX0 (dCons (dVar 0) (dCons (dVar 2) dNil)))) (dName 8))
 (dSeq (dAsg (dOp (rBin (fun _ _ => True) fun i j => i - j) (dOp gAdd (dVar 8) (dVar 4)) (dOp (rBin CMod fun i j => i.fmod j) (dCB gInt (dCons (dVar 8) dNil)) (dVar 4))) (dName 8))
 (dSeq (dAsg (dTup (dCons (dCall 2 c_l_random_7821 [] DX0 (dCons (dVar 0) (dCons (dCall 2 c_l_common_6be5 [] DX0 (dCons (dVar 8) (dCons (dVar 5) dNil))) dNil))) (dCons (dVar 8) (dCons (dVar 5) (dCons (dVar 6) dNil))))) (dName 9))
 (dRet (dIf (dTru (dCall 1 c_l_is_cutting_9b45 [] DX0 (dCons (dVar 9) dNil))) (dVar 9) (dTup (dCons (dC (.int 0)) (dCons (dVar 8) (dCons (dC (.int 1)) (dCons (dIf (dTru (dOp (gCmpI fun i j => decide (i < j)) (dOp gAdd (dC (.int 1)) (dVar 6)) (dVar 8))) (dVar 6) (dOp (rBin (fun _ _ => True) fun i j => i - j) (dC (.int 0)) (dVar 8))) dNil)))))))))))))))
end DL
namespace DL
open PySem PySem.Spec PyProof.Rows L2
def t_l_allowed_c76c : DTS :=
 (dSeq (dAsg (dVar 0) (dGTup 4 (dGCons (dName 2) (dGCons (dName 3) (dGCons (dName 4) (dGCons (dName 5) dGNil))))))
 (dRet (dOp (gCmpI fun i j => decide (j < i)) (dOp (rBin (fun _ _ => True) fun i j => i - j) (dOp (rBin (fun _ _ => True) fun i j => i - j) (dVar 3) (dOp (rBin CMul fun i j => i * j) (dVar 1) (dVar 5))) (dOp (rBin CMul fun i j => i * j) (dOp (rBin CMul fun i j => i * j) (dVar 1) (dVar 1)) (dVar 4))) (dC (.int 0)))))
def t_allowed_by : DTS :=
 (dSeq (dAsg (dVar 0) (dGTup 4 (dGCons (dName 2) (dGCons (dName 3) (dGCons (dName 4) (dGCons (dName 5) dGNil))))))
 (dRet (dOp (gCmpI fun i j => decide (j < i)) (dOp (rBin (fun _ _ => True) fun i j => i - j) (dOp (rBin (fun _ _ => True) fun i j => i - j) (dVar 3) (dOp (rBin CMul fun i j => i * j) (dVar 1) (dVar 5))) (dOp (rBin CMul fun i j => i * j) (dOp (rBin CMul fun i j => i * j) (dVar 1) (dVar 1)) (dVar 4))) (dC (.int 0)))))
def t_round_of : DTS :=
 (dRet (dOp (rBin CDiv fun i j => i.fdiv j) (dOp gIx (dVar 0) (dC (.int 2))) (dCB gGcd (dCons (dOp gIx (dVar 0) (dC (.int 1))) (dCons (dOp gIx (dVar 0) (dC (.int 2))) dNil)))))
def t_is_deed_by (c_allowed_by : DSp) (c_round_of : DSp) : DTS :=
 (dSeq (dIfS (dOr (dNot (dTru (dCB gIsi (dCons (dVar 1) (dCons (dC (.val (.ty "tuple"))) dNil))))) (dTru (dOp gNe (dCB gLen (dCons (dVar 1) dNil)) (dC (.int 2))))) (dRet (dC (.bl false))) dNext)
 (dSeq (dIfS (dTru (dOp gNe (dLc false (dSeqI (dVar 1)) (dName 2) (dOr (dNot (dTru (dCB gIsi (dCons (dVar 2) (dCons (dC (.val (.ty "int"))) dNil))))) (dTru (dCB gIsi (dCons (dVar 2) (dCons (dC (.val (.ty "bool"))) dNil))))) (dVar 2) [2]) (dLst dNil))) (dRet (dC (.bl false))) dNext)
 (dSeq (dAsg (dVar 1) (dGTup 2 (dGCons (dName 3) (dGCons (dName 4) dGNil))))
 (dSeq (dIfS (dOr (dTru (dOp (gCmpI fun i j => decide (i < j)) (dVar 4) (dC (.int 1)))) (dOr (dNot (dTru (dCall 2 c_allowed_by [] DX0 (dCons (dVar 0) (dCons (dVar 4) dNil))))) (dNot (dTru (dChain (gCmpI fun i j => decide (i ≤ j)) (gCmpI fun i j => decide (i < j)) (dC (.int 0)) (dVar 3) (dOp (rBin CMul fun i j => i * j) (dVar 4) (dCall 1 c_round_of [] DX0 (dCons (dVar 0) dNil)))))))) (dRet (dC (.bl false))) dNext)
 (dRet (dOp gEq (dCB gGcd (dCons (dVar 3) (dCons (dVar 4) dNil))) (dC (.int 1))))))))
end DL
namespace DL
open PySem PySem.Spec PyProof.Rows L2
def t_back_by (c_full_by : DSp) (c_round_of : DSp) : DTS :=
 (dSeq (dAsg (dCall 2 c_full_by [] DX0 (dCons (dVar 0) (dCons (dVar 1) dNil))) (dGTup 5 (dGCons (dName 2) (dGCons (dName 3) (dGCons (dName 4) (dGCons (dName 4) (dGCons (dName 4) dGNil)))))))
 (dSeq (dAsg (dNeg (dOp gIx (dOp gIx (dVar 3) (dC (.int 1))) (dC (.int 0)))) (dName 5))
 (dRet (dTup (dCons (dOp (rBin CMod fun i j => i.fmod j) (dNeg (dOp gIx (dOp gIx (dVar 3) (dC (.int 0))) (dC (.int 0)))) (dOp (rBin CMul fun i j => i * j) (dVar 5) (dCall 1 c_round_of [] DX0 (dCons (dVar 2) dNil)))) (dCons (dVar 5) dNil))))))
end DL
/-! DLU: max and min of a list of ints -/
namespace DL
open PySem PySem.Spec PyProof.Rows L2
end DL
namespace DL
open PySem PySem.Spec PyProof.Rows L2
end DL
namespace DL
open PySem PySem.Spec PyProof.Rows L2
end DL
/-! DLV: sorted({(a, b), (c, d)}) -/
namespace DL
open PySem PySem.Spec PyProof.Rows L2
section
variable {X : Cx}
theorem TupK.ne {K : PySem.W.Frag} {S H : Hp} {a p : Addr} {xs : List V} {o : HO} (h : TupK K S a xs) (hk : ∀ t o, K.lookup t = some o → H t = none) (hp : H p = some o) (hs : S p = none) : a ≠ p := fun z => by
  rcases h with h | ⟨o', _, _, h, _⟩
  · rw [z, hs] at h; cases h
  · have := hk _ _ h
    rw [z, hp] at this; cases this
end
/-! ### a def whose own code must be known -/
end DL
namespace DL
open PySem PySem.Spec PyProof.Rows L2
end DL
namespace DL
open PySem PySem.Spec PyProof.Rows L2
end DL
/-! DLX: errors over data: raised, passed on, caught, asked -/
namespace DL
open PySem PySem.Spec PyProof.Rows L2
section
variable {X : Cx} {pos : Pos}
/-! ### names of the module as values; an error's value and kind -/
theorem de_gname {x : Str} {a : Addr} (hn : PySem.W.nsIn X.K mainGlobals x = some (some (.ref a))) (hm : X.mg x = some (.ref a)) (hg : Gl X x := by rfl) (hd : (x == ("__debug__" : Str)) = false := by decide) : DE X (.Name x pos) (dC (.glb x)) :=
  de_c (pe_glob (v := .ref a) hg hm rfl hd) fun _ _ => .glb hn
def dFld (t : DTE) : DTE := fun r M Q => t r M fun d M1 => match d with
  | .exc _ v => Q v M1
  | _ => False
theorem er_inst {pins : List (Addr × Obj)} {s : Shared} {σ : St} {H : Hp} {a C T dd : Addr} {x : Str} (I : Inv X pins σ H s) (h0 : XA.ErC X.K x C T) (ha : H a = some (erO a C dd)) : ∃ oe : Obj, s.heap.get? a = some oe ∧ oe.cls = .ref C ∧ PySem.W.notCls oe = true ∧ oe.dict = some dd := by
  have q : ObjOk X.prog X.w H s.heap a (.ext (ErAt a C dd)) := I.hok a _ ha
  obtain ⟨vs, sl, hv⟩ := q.1
  exact ⟨_, hv, rfl, rfl, rfl⟩
theorem de_fld {e : Expr} {t : DTE} (he : DE X e t) (hb : attributeBase e "value" X.env (eval e X.env) = eval e X.env := by rfl) : DE X (.Attribute e "value" pos) (dFld t) :=
  ⟨⟨fun pins s σ H Q I ⟨ph, S, r, M, Q0, hs, ht, hq⟩ => attr_of hb (thn (he.pe.run pins s σ H _ I ⟨ph, S, r, M, _, hs, ht, fun _ _ z => z⟩) fun u s1 ⟨y, H1, I1, ry, ph1, S1, M1, x1, hs1, d, q1, g1⟩ => by
    cases d <;> first | exact g1.elim | skip
    cases q1 with
    | @exc a C T dd x v d h0 ha hd hv =>
      cases (show u = Value.ref a from ry)
      obtain ⟨oe, e1, e2, e3, e4⟩ := er_inst I1 h0 (hs1.sub _ _ ha)
      have hx : ObjOk X.prog X.w H1 s1.heap dd (.xd [(fVal, v)]) := I1.hok dd _ (hs1.sub _ _ hd)
      obtain ⟨mA, hns, hr⟩ := hx
      obtain ⟨od, ho, hl⟩ := lookIn_ns hns
      have l : List.lookup fVal [(fVal, v)] = some v := by simp [List.lookup]
      obtain ⟨u, hu, ru⟩ := RelO.some_of (v := v) (o := mA fVal) (by rw [← l]; exact hr fVal)
      have J : PySem.W.InstAt s1.heap a oe C (some od) := ⟨e1, e2, e3, by rw [e4]; exact ho⟩
      have xf := h0.xfC
      exact HandSPX.exc_get I1.kIn J xf.ga xf.gg xf.exC (PySem.W.findObj_own xf.hdC h0.nv rfl (by rw [hl, hu])) (handed_of ru) ⟨v, H1, I1.tok _, ru, hq _ _ ⟨ph1, S1, M1, x1, hs1, _, hv, g1⟩⟩)⟩⟩
/-- isinstance, of errors too; L: the names of the error classes -/
def gIsx (L : List Str) : GA := fun ds M Q => match ds with
  | [.exc x _, .glb y] => y ∈ L ∧ Q (.bl (XA.under x y)) M
  | [.exc _ _, .val (.ty n)] => n = "ValueError" ∧ Q (.bl true) M
  | [.non, .glb y] => y ∈ L ∧ Q (.bl false) M
  | ds => gIsi ds M Q
theorem kit_non {K : PySem.W.Frag} {y : Str} {C : Addr} (A : XA.AnyC K y C) : PySem.W.kitOne K (.type "NoneType") (.ref C) = some false := by
  have e : PySem.fastBuiltinMro "NoneType" = some [Value.type "NoneType", Value.type "object"] := by decide +kernel
  unfold PySem.W.kitOne
  rw [if_neg (by simp)]
  unfold PySem.W.kitCls
  dsimp only
  rw [if_pos (by rw [A.isC, A.ty]; rfl)]
  show (PySem.fastBuiltinMro "NoneType").map _ = _
  rw [e]
  simp
theorem any_at {K : PySem.W.Frag} {y : Str} {a C : Addr} (h : PySem.W.nsIn K mainGlobals y = some (some (.ref a))) (A : XA.AnyC K y C) : a = C := by
  have z := h.symm.trans A.ns
  exact Value.ref.inj (Option.some.inj (Option.some.inj z))
theorem isx_exc {pins : List (Addr × Obj)} {s : Shared} {σ : St} {H : Hp} {ph : Ph} {S : Hp} {r : Env} {M : Mem} {v c : V} {us : List Value} {x : Str} {d : D} {Q : DQ} {cv : Value} {b : Bool} (I : Inv X pins σ H s) (hs : Sat X.K ph S r M σ H) (q : Rep X.K ph S v (.exc x d)) (rv : Vals [v, c] us)
    (rc : ∀ u, RelV c u → u = cv) (hk : ∀ C T, XA.ErC X.K x C T → PySem.W.kitOne X.K (.ref C) cv = some b) (hg : Q (.bl b) M) : wpAny (model X.prog X.w) X.A (call (.builtin "isinstance") us) (EP X pins σ (post X.K ph S r σ Q)) X.xe s := by
  obtain ⟨u1, u2, rfl, r1, r2⟩ := vals2 rv
  cases rc _ r2
  cases q with
  | @exc a C T dd x v d h0 ha hd hv =>
    cases (show u1 = Value.ref a from r1)
    obtain ⟨oe, e1, e2, e3, e4⟩ := er_inst I h0 (hs.sub _ _ ha)
    have hx : ObjOk X.prog X.w H s.heap dd (.xd [(fVal, v)]) := I.hok _ _ (hs.sub _ _ hd)
    obtain ⟨mA, hns, hr⟩ := hx
    obtain ⟨od, ho, hl⟩ := lookIn_ns hns
    have J : PySem.W.InstAt s.heap a oe C (some od) := ⟨e1, e2, e3, by rw [e4]; exact ho⟩
    have xc := h0.excC
    obtain ⟨cd, hc1, _⟩ := h0.clsIn
    exact PySem.W.kia_one (PySem.W.kitx_exc (by rw [hc1]; rfl) xc.hg xc.hk xc.hs xc.ha xc.hn xc.ht xc.hm) I.kIn J (hk _ _ h0) (fun z => nomatch z) fun tk => ⟨.bl b, H, I.kept (t' := tk) fun _ _ z => z, rfl, Aft.here hs ⟨_, .bl b, hg⟩⟩
theorem cd_isx {L : List Str} (hL : ∀ y ∈ L, ∃ C, XA.AnyC X.K y C) : CallD X (.builtin "isinstance") (gIsx L) := by
  intro pins s σ H ph S r M vs us ds Q I hs rv q hg
  have old : gIsi ds M Q → wpAny (model X.prog X.w) X.A (call (.builtin "isinstance") us) (EP X pins σ (post X.K ph S r σ Q)) X.xe s := fun z => cd_isi pins s σ H ph S r M vs us ds Q I hs rv q z
  unfold gIsx at hg
  split at hg
  · rename_i x v y
    obtain ⟨C', A⟩ := hL y hg.1
    cases q with
    | cons q1 q =>
      cases q with
      | cons q2 q =>
        cases q
        cases q2 with
        | glb hn =>
          cases any_at hn A
          exact isx_exc I hs q1 rv (cv := .ref C') (fun u z => z) (fun C T h0 => h0.kit A) hg.2
  · rename_i x v n
    obtain ⟨rfl, hg⟩ := hg
    cases q with
    | cons q1 q =>
      cases q with
      | cons q2 q =>
        cases q
        cases q2
        exact isx_exc I hs q1 rv (cv := .type "ValueError") (fun u z => z) (fun C T h0 => h0.kitV) hg
  · rename_i y
    obtain ⟨C', A⟩ := hL y hg.1
    cases q with
    | cons q1 q =>
      cases q with
      | cons q2 q =>
        cases q
        cases q1
        cases q2 with
        | glb hn =>
          cases any_at hn A
          exact call_isi pins s σ H _ us _ I rv ⟨.non, .ref C', _, _, false, rfl, .own C', .base .non, kit_non A, Aft.here hs ⟨_, .bl _, hg.2⟩⟩
  · exact old hg
end
/-! ### what may leave -/
abbrev DXE := Env → Str → D → Mem → Prop
def postE (K : PySem.W.Frag) (ph : Ph) (S : Hp) (E : DXE) : WX := fun cls d σ H => ∃ (x : Str) (C T dd : Addr) (v : V) (dv : D) (r : Env), XA.ErC K x C T ∧ cls = .ref C ∧ d = some dd ∧
  Aft K ph S r σ H fun ph' S' M => S' dd = some (.xd [(fVal, v)]) ∧ Rep K ph' S' v dv ∧ E r x dv M
theorem postE.up {K : PySem.W.Frag} {ph ph1 : Ph} {S S1 : Hp} {E : DXE} {cls : Value} {d : Option Addr} {σ : St} {H : Hp} (x : Ext ph S ph1 S1) (h : postE K ph1 S1 E cls d σ H) : postE K ph S E cls d σ H :=
  let ⟨y, C, T, dd, v, dv, r, h1, h2, h3, h4⟩ := h
  ⟨y, C, T, dd, v, dv, r, h1, h2, h3, Aft.up x h4⟩
structure DEX (X : Cx) (e : Expr) (t : DXE → DTE) : Prop where
  pe : ∀ W : WX, Takes X W → PE X e (fun σ H Q => ∃ ph S r M Q0 X0, Sat X.K ph S r M σ H ∧ t X0 r M Q0 ∧ (∀ v H', post X.K ph S r σ Q0 v H' → Q v H') ∧ ∀ cls d H', postE X.K ph S X0 cls d σ H' → W cls d σ H')
structure DAX (X : Cx) (es : List Expr) (t : DXE → DTA) : Prop where
  pa : ∀ W : WX, Takes X W → PA X es (fun σ H Q => ∃ ph S r M Q0 X0, Sat X.K ph S r M σ H ∧ t X0 r M Q0 ∧ (∀ v H', postA X.K ph S r σ Q0 v H' → Q v H') ∧ ∀ cls d H', postE X.K ph S X0 cls d σ H' → W cls d σ H')
def lfX (K : PySem.W.Frag) (W : WX) (t : DXE → DTS) : TS := fun E σ H => ∃ ph S r M E0 X0, Sat K ph S r M σ H ∧ t X0 E0 r M ∧ (∀ σ' H', postN K ph S E0.nx σ' H' → E.nx σ' H') ∧ (∀ v H', postR K ph S E0.rt v H' → E.rt v H') ∧ (∀ σ' H', postN K ph S E0.bk σ' H' → E.bk σ' H') ∧ (∀ σ' H', postN K ph S E0.ct σ' H' → E.ct σ' H') ∧
  ∀ cls d σ' H', postE K ph S X0 cls d σ' H' → W cls d σ' H'
structure DSX (X : Cx) (st : Stmt) (t : DXE → DTS) : Prop where
  ps : ∀ W : WX, Takes X W → PS X st (lfX X.K W t)
structure DSXs (X : Cx) (sts : List Stmt) (t : DXE → DTS) : Prop where
  pss : ∀ W : WX, Takes X W → PSs X sts (lfX X.K W t)
section
variable {X : Cx} {pos : Pos}
theorem dex_of {e : Expr} {t : DTE} (h : DE X.nox e t) : DEX X e (fun _ => t) := ⟨fun W tk => PE.weak h.pe.nox fun σ H Q ⟨ph, S, r, M, Q0, X0, hs, ht, hq, _⟩ => ⟨ph, S, r, M, Q0, hs, ht, hq⟩⟩
theorem dax_nil : DAX X [] (fun _ => dNil) := ⟨fun W tk => PA.weak pa_nil fun σ H Q ⟨ph, S, r, M, Q0, X0, hs, ht, hq, _⟩ => hq _ _ (Aft.here hs ⟨_, .nil, ht⟩)⟩
theorem postE.back {K : PySem.W.Frag} {ph ph1 : Ph} {S S1 : Hp} {E : DXE} {cls : Value} {d : Option Addr} {σ : St} {H : Hp} (x : Ext ph S ph1 S1) (h : postE K ph1 S1 E cls d σ H) : postE K ph S E cls d σ H := h.up x
theorem dax_cons {e : Expr} {es : List Expr} {t : DXE → DTE} {u : DXE → DTA} (h : DEX X e t) (h2 : DAX X es u) (hs : starEach (e :: es) X.env = (false, eval e X.env) :: starEach es X.env := by rfl) : DAX X (e :: es) (fun E => dCons (t E) (u E)) :=
  ⟨fun W tk => PA.weak (pa_cons (h.pe W tk) (h2.pa W tk) hs) fun σ H Q ⟨ph, S, r, M, Q0, X0, hs, ht, hq, hx⟩ => ⟨ph, S, r, M, _, X0, hs, ht, fun v H1 ⟨ph1, S1, M1, x1, hs1, d, q1, g1⟩ =>
    ⟨ph1, S1, r, M1, _, X0, hs1, g1, fun vs H2 ⟨ph2, S2, M2, x2, hs2, ds, q2, g2⟩ => hq _ _ ⟨ph2, S2, M2, x1.trans x2, hs2, _, .cons (q1.up x2) q2, g2⟩, fun cls d H' z => hx _ _ _ (z.up x1)⟩, hx⟩⟩
/-- a def's error, in our frame -/
theorem postX.at {K : PySem.W.Frag} {ph : Ph} {S : Hp} {r : Env} {M : Mem} {σ : St} {H H' : Hp} {E : DX} {cls : Value} {d : Option Addr} (hs : Sat K ph S r M σ H) (h : postX K ph S E cls d H') : postE K ph S (fun r' x dv M' => r' = r ∧ E x dv M') cls d σ H' :=
  let ⟨x, C, T, dd, v, dv, h1, h2, h3, ph', S', M', y, hs', e1, e2, e3⟩ := h
  ⟨x, C, T, dd, v, dv, r, h1, h2, h3, ph', S', M', y, hs.back y hs', e1, e2, rfl, e3⟩
variable {k : Nat} {f : Addr} {fd : FuncData} {ps : List Str} {sp : DSp} {x : Str} {p : Pos} {e : Expr} {es : List Expr} {t : DXE → DTA}
/-- f(..), f may raise -/
def dCallX (n : Nat) (sp : DSp) (t : DXE → DTA) : DXE → DTE := fun E r M Q => t E r M fun ds M1 => ds.length = n ∧ sp ds M1 Q (fun y dv M2 => E r y dv M2)
theorem run_fnX {W : WX} {pins : List (Addr × Obj)} {σ : St} {H : Hp} {s : Shared} {Q : VK} {us : List Value} {vs : List V} {sp : Sp} (F : FnG X.prog X.w X.K X.mg X.base (L2.CX X.prog X.w) k f fd ps sp) (hr : Room k X.A) (gd : X.A.guards = some []) (hb : Binds X.K fd ps []) (tk : Takes X W)
    (I : Inv X pins σ H s) (r : Vals vs us) (h : sp vs H Q (fun cls d H' => W cls d σ H')) : wpAny (model X.prog X.w) X.A (call (.ref f) us) (EP X pins σ Q) X.xe s := by
  have hl : us.length = ps.length := by rw [← r.length]; exact F.len _ _ _ _ h
  refine wpAny_call (codeAny_mono (F.run X.A X.stack s H ⟨us, []⟩ us vs Q _ hr gd I.env0 (by have := hb s us I.kIn (by rw [List.append_nil]; exact hl); rw [List.append_nil] at this; exact this) r h) fun fl s' hq => ?_)
  match fl, hq with
  | .error e, hq => exact tk _ _ (XE.of_call I (fun _ _ _ z => z) hq)
  | .ok (.ret u), hq => exact I.after hq
  | .ok .next, hq => exact False.elim hq
  | .ok .brk, hq => exact False.elim hq
  | .ok .cont, hq => exact False.elim hq
theorem lf_callX {W : WX} {n : Nat} {ph : Ph} {S : Hp} {r : Env} {M : Mem} {σ : St} {H : Hp} {Q : DQ} {Q' : VK} {X0 : DXE} {vs : List V} {ds : List D} (hs : Sat X.K ph S r M σ H) (qa : RepAll X.K ph S vs ds) (hl : ds.length = n) (h : sp ds M Q (fun y dv M2 => X0 r y dv M2))
    (hq : ∀ v H', post X.K ph S r σ Q v H' → Q' v H') (hx : ∀ cls d H', postE X.K ph S X0 cls d σ H' → W cls d σ H') : lfSp X.K n sp vs H Q' (fun cls d H' => W cls d σ H') :=
  ⟨ph, S, M, ds, Q, _, hl, hs.drop, qa, h, fun v H2 ⟨ph2, S2, M2, x2, hs2, d, q2, h2⟩ => hq _ _ ⟨ph2, S2, M2, x2, hs.back x2 hs2, d, q2, h2⟩, fun cls d H2 h2 => hx _ _ _ (by
    obtain ⟨y, C, T, dd, v, dv, r', b1, b2, b3, ph', S', M', z, hs', e1, e2, e3, e4⟩ := postX.at hs h2
    subst e3
    exact ⟨y, C, T, dd, v, dv, _, b1, b2, b3, ph', S', M', z, hs', e1, e2, e4⟩)⟩
theorem dcallX {n : Nat} {st : Stmt} {P : Program} {w : World} {K : PySem.W.Frag} {mg : Str → Option Value} {base : Heap} (F : Def P w K mg base (L2.CX P w) k x st ps sp) {j : Nat} (hr : Room j X.A) (gd : X.A.guards = some []) (ha : DAX X (e :: es) t) (hj : k ≤ j := by decide) (hn : ps.length = n := by rfl)
    (h1 : P = X.prog := by rfl) (h2 : w = X.w := by rfl) (h3 : K = X.K := by rfl) (h4 : mg = X.mg := by rfl) (h5 : base = X.base := by rfl) (hg : Gl X x := by rfl) (hdb : (x == ("__debug__" : Str)) = false := by decide) (he : starEach (e :: es) X.env = (false, eval e X.env) :: starEach es X.env := by rfl)
    (hpl : (backTo pos (starEach es X.env)).any (·.1) = false := by rfl) : DEX X (.Call (.Name x p) (e :: es) [] pos) (dCallX n sp t) := by
  subst h1 h2 h3 h4 h5 hn
  obtain ⟨f, fd, h1, h2, h3, h4, _⟩ := F.ex
  exact ⟨fun W tk => ⟨fun pins s σ H Q I ⟨ph, S, r, M, Q0, X0, hs, ht, hq, hx⟩ => wpAny_Call_Name_kw (ld_glob I hg h2 (PySem.W.callWith_K (h₀ := X.base) I.ok.mod.kin h3 (thn ((ha.pa W tk).run pos pins s σ H _ I ⟨ph, S, r, M, _, X0, hs, ht, fun _ _ z => z, hx⟩) fun us s1 ⟨vs, H1, I1, r1, ph1, S1, M1, x1, hs1, ds, q1, hl, g1⟩ =>
    ⟨I1.kIn, thn (run_fnX h1 (hr.mono hj) gd h4 tk I1 r1 (lf_callX hs1 q1 hl g1 (fun _ _ z => z) (fun cls d H' z => hx _ _ _ (z.up x1)))) fun _ _ z => EP.up x1 z hq⟩) he hpl) hdb)⟩⟩
end
end DL
/-! DLY: statements that may raise; try; a def that raises -/
namespace DL
open PySem PySem.Spec PyProof.Rows L2
theorem PS.noxS {X : Cx} {st : Stmt} {t : TS} (h : PS X.nox st t) : PS X st t := ⟨fun pins s σ H D I hw =>
  wpAny_mono (h.run pins s σ H D (I.wish _) hw) (fun _ _ q => q.unwish) fun _ _ z => False.elim z⟩
section
variable {X : Cx} {pos : Pos}
theorem lfX_on {W : WX} {ph ph1 : Ph} {S S1 : Hp} {r : Env} {M : Mem} {σ : St} {H : Hp} {t : DXE → DTS} {X0 : DXE} {E : DEnds} {E' : Ends} (x : Ext ph S ph1 S1) (hs : Sat X.K ph1 S1 r M σ H) (ht : t X0 E r M)
    (h1 : ∀ σ' H', postN X.K ph S E.nx σ' H' → E'.nx σ' H') (h2 : ∀ v H', postR X.K ph S E.rt v H' → E'.rt v H') (h3 : ∀ σ' H', postN X.K ph S E.bk σ' H' → E'.bk σ' H') (h4 : ∀ σ' H', postN X.K ph S E.ct σ' H' → E'.ct σ' H')
    (h5 : ∀ cls d σ' H', postE X.K ph S X0 cls d σ' H' → W cls d σ' H') : lfX X.K W t E' σ H :=
  ⟨ph1, S1, r, M, E, X0, hs, ht, fun _ _ z => h1 _ _ (z.up x), fun _ _ z => h2 _ _ (z.up x), fun _ _ z => h3 _ _ (z.up x), fun _ _ z => h4 _ _ (z.up x), fun _ _ _ _ z => h5 _ _ _ _ (z.up x)⟩
theorem dsx_of {st : Stmt} {t : DTS} (h : DS X.nox st t) : DSX X st (fun _ => t) :=
  ⟨fun W tk => PS.weak (PS.noxS h.ps) fun E σ H ⟨ph, S, r, M, E0, X0, hs, ht, h1, h2, h3, h4, _⟩ => ⟨ph, S, r, M, E0, hs, ht, h1, h2, h3, h4⟩⟩
theorem dssx_of {sts : List Stmt} {t : DTS} (h : DSs X.nox sts t) : DSXs X sts (fun _ => t) :=
  ⟨fun W tk => PSs.weak h.pss.nox fun E σ H ⟨ph, S, r, M, E0, X0, hs, ht, h1, h2, h3, h4, _⟩ => ⟨ph, S, r, M, E0, hs, ht, h1, h2, h3, h4⟩⟩
theorem dssx_cons {st : Stmt} {rest : List Stmt} {t u : DXE → DTS} (h : DSX X st t) (h' : DSXs X rest u) : DSXs X (st :: rest) (fun E => dSeq (t E) (u E)) :=
  ⟨fun W tk => PSs.weak (pss_cons (h.ps W tk) (h'.pss W tk)) fun E σ H ⟨ph, S, r, M, E0, X0, hs, ht, h1, h2, h3, h4, h5⟩ =>
    ⟨ph, S, r, M, { E0 with nx := u X0 E0 }, X0, hs, ht, fun σ' H' ⟨r1, ph1, S1, M1, x, hs1, z⟩ => lfX_on x hs1 z h1 h2 h3 h4 h5, h2, h3, h4, h5⟩⟩
theorem dssx_one {st : Stmt} {t : DXE → DTS} (h : DSX X st t) : DSXs X [st] t := ⟨fun W tk => pss_one (h.ps W tk)⟩
theorem dsx_if {c : Expr} {a b : List Stmt} {tc : DTT} {t u : DXE → DTS} (hc : DT X.nox c tc) (ha : DSXs X a t) (hb : DSXs X b u) : DSX X (.If c a b pos) (fun E => dIfS tc (t E) (u E)) :=
  ⟨fun W tk => PS.weak (ps_if hc.pt.nox (ha.pss W tk) (hb.pss W tk)) fun E σ H ⟨ph, S, r, M, E0, X0, hs, ht, h1, h2, h3, h4, h5⟩ => ⟨ph, S, r, M, _, hs, ht, fun k H1 ⟨ph1, S1, M1, x, hs1, z⟩ => by
    cases k with
    | true => exact lfX_on x hs1 z h1 h2 h3 h4 h5
    | false => exact lfX_on x hs1 z h1 h2 h3 h4 h5⟩⟩
theorem dsx_expr {e : Expr} {t : DXE → DTE} (he : DEX X e t) (hs : swapsWith e none pos.line X.env = pure false := by rfl) : DSX X (.Expr e pos) (fun E => dDrop (t E)) :=
  ⟨fun W tk => PS.weak (ps_expr (he.pe W tk) hs) fun E σ H ⟨ph, S, r, M, E0, X0, hs, ht, h1, _, _, _, h5⟩ => ⟨ph, S, r, M, _, X0, hs, ht, fun v H' ⟨ph1, S1, M1, x, hs1, d, _, z⟩ => h1 _ _ ⟨r, ph1, S1, M1, x, hs1, z⟩, fun cls d H' z => h5 _ _ _ _ z⟩⟩
theorem dsx_ret {e : Expr} {t : DXE → DTE} (he : DEX X e t) : DSX X (.Return (some e) pos) (fun E => dRet (t E)) :=
  ⟨fun W tk => PS.weak (ps_ret (he.pe W tk)) fun E σ H ⟨ph, S, r, M, E0, X0, hs, ht, _, h2, _, _, h5⟩ => ⟨ph, S, r, M, _, X0, hs, ht, fun v H' z => h2 _ _ ⟨r, σ, z⟩, fun cls d H' z => h5 _ _ _ _ z⟩⟩
/-- raise x(e) -/
def dRaise (x : Str) (t : DTA) : DXE → DTS := fun E _ r M => t r M fun ds M1 => ∃ d, ds = [d] ∧ E r x d M1
theorem dsx_raise {x : Str} {C S0 fI : Addr} {e : Expr} {p cpos : Pos} {t : DTA} {k : Nat} (T : XA.ErM X.prog X.K X.mg x C S0 fI) (hc : X.calm = true) (hr : Room k X.A) (ha : DA X.nox [e] t) (hg : Gl X x := by rfl)
    (he : starEach (e :: []) X.env = (false, eval e X.env) :: starEach [] X.env := by rfl) (hpl : (backTo cpos (starEach [] X.env)).any (·.1) = false := by rfl) (hdb : (x == ("__debug__" : Str)) = false := by decide) :
    DSX X (.Raise (some (.Call (.Name x p) [e] [] cpos)) none pos) (dRaise x t) := by
  refine ⟨fun W tk => ?_⟩
  have pa : PA X [e] (fun σ H Q => ∃ ph S r M Q0, Sat X.K ph S r M σ H ∧ t r M Q0 ∧ ∀ vs H', postA X.K ph S r σ Q0 vs H' → Q vs H') := ⟨fun pos pins s σ H Q I hw =>
    wpAny_mono (ha.pa.run pos pins s σ H Q (I.wish _) hw) (fun _ _ ⟨v, H', I', r, q⟩ => ⟨v, H', I'.unwish, r, q⟩) fun _ _ z => False.elim z⟩
  refine PS.weak (ps_raise hc tk (pmk_err T hr pa hg he hpl hdb)) fun E σ H ⟨ph, S, r, M, E0, X0, hs, ht, _, _, _, _, h5⟩ => ⟨ph, S, r, M, _, hs, ht, fun vs H1 ⟨ph1, S1, M1, x1, hs1, ds, q1, d, ed, g1⟩ => ?_⟩
  subst ed
  cases q1 with
  | @cons v vs' _ _ q1 q2 =>
    cases q2
    refine ⟨v, rfl, fun dd hd => h5 _ _ _ _ ⟨x, C, S0, dd, v, d, r, T.er, rfl, rfl, Aft.up x1 (Aft.frz hs1 hd fun y => ⟨upd_same, q1.up y, g1⟩)⟩⟩
/-! ### try -/
/-- try: t / except c as (slot i): ts, all that t raises being of the class c -/
def dTry (c : Str) (i : Nat) (t : DXE → DTS) (ts : DTS) : DTS := fun E r M => t (fun r' x dv M' => XA.under x c = true ∧
  ts { nx := fun r2 M2 => E.nx (r2.set i none) M2, rt := E.rt, bk := fun r2 M2 => E.bk (r2.set i none) M2, ct := fun r2 M2 => E.ct (r2.set i none) M2 } (r'.set i (some (.exc x dv))) M') E r M
theorem ds_try {x n : Str} {C : Addr} {i : Nat} {body suite : List Stmt} {b₀ : Stmt} {np pos' : Pos} {t : DXE → DTS} {ts : DTS} (hs : X.stack = X.env :: X.outer) (hf : X.env.frame = some X.env.locals) (hN : X.N.Nodup) (hA : XA.AnyC X.K x C) (hm : X.mg x = some (.ref C)) (tk : Takes X (fun _ _ _ _ => False))
    (hb : ∀ (pn : List (Addr × Obj)) (xe : Value → Shared → Prop), PassesOwn (model X.prog X.w) X.A X.env xe → DSXs (X.tr pn xe) body t) (hsu : ∀ (a : Addr) (pn : List (Addr × Obj)), DSs (sui X a pn) (b₀ :: suite) ts)
    (hi : X.N[i]? = some n := by rfl) (hln : X.env.kindOf n = some .local := by rfl) (hg : Gl X x := by rfl) (hdb : (x == ("__debug__" : Str)) = false := by decide) :
    DS X (.Try body [.ExceptHandler (some (.Name x np)) (some n) (b₀ :: suite) pos'] [] [] pos) (dTry x i t ts) := by
  have main := ps_try_sui (X := X) (x := x) (n := n) (c := .ref C) (i := i) (np := np) (pos := pos) (pos' := pos') (Wout := fun _ _ _ _ => False) hs hf hN hi hln ⟨hg, hdb, .inl hm⟩ tk (tb := fun W => lfX X.K W t) (fun W pn xe tkW hp => (hb pn xe hp).pss W tkW) (ts := lfS X.K ts) (fun a pn => (hsu a pn).pss)
  refine ⟨PS.weak main fun E' σ H ⟨ph, S, r, M, E, hs, ht, h1, h2, h3, h4⟩ => ⟨ph, S, r, M, E, _, hs, ht, h1, h2, h3, h4, ?_⟩⟩
  rintro cls d σ1 H1 ⟨y, C1, T1, dd, v, dv, r1, e1, rfl, rfl, ph1, S1, M1, x1, hs1, g1, g2, hu, g3⟩
  refine ⟨C1, dd, rfl, rfl, true, by rw [e1.exm hA, hu], fun _ a ha => ?_, fun z => Bool.noConfusion z⟩
  obtain ⟨x2, hs2⟩ := hs1.frz ha (erO a C1 dd)
  have q : Rep X.K ph1 (upd S1 a (erO a C1 dd)) (.ref a) (.exc y dv) := .exc e1 upd_same (x2.same _ _ g1) (g2.up x2)
  have xx := x1.trans x2
  refine ⟨ph1, _, _, M1, _, hs2.setN q, g3, ?_, ?_, ?_, ?_⟩
  · exact fun σ' H' ⟨r', ph', S', M', z, hs', w⟩ => h1 _ _ ⟨_, ph', S', M', xx.trans z, hs'.clr i, w⟩
  · exact fun v H' z => h2 _ _ (z.up xx)
  · exact fun σ' H' ⟨r', ph', S', M', z, hs', w⟩ => h3 _ _ ⟨_, ph', S', M', xx.trans z, hs'.clr i, w⟩
  · exact fun σ' H' ⟨r', ph', S', M', z, hs', w⟩ => h4 _ _ ⟨_, ph', S', M', xx.trans z, hs'.clr i, w⟩
end
/-! ### a def that may raise -/
def Rtx (M : Mem) (E : DX) : DX := fun x d M' => ∃ M1 G, M' = M1 ++ G ∧ M.length ≤ M1.length ∧ below M1.length d = true ∧ (∀ (i : Nat) (c : Own), M1[i]? = some c → M[i]? = some c ∨ belowO M1.length c = true) ∧ E x d M1
def dOut (M : Mem) (E : DX) : DXE := fun _ x d M' => Rtx M E x d M'
theorem Rtx.out {K : PySem.W.Frag} {ph : Ph} {S : Hp} {M : Mem} {H : Hp} {E : DX} (h0 : Sat K ph S [] M [] H) {cls : Value} {d : Option Addr} {σ : St} {H1 : Hp} (h : postE K ph S (dOut M E) cls d σ H1) : postX K ph S E cls d H1 := by
  obtain ⟨x, C, T, dd, v, dv, r, e1, e2, e3, ph1, S1, M', y, hs, q1, q2, M1, G, rfl, hl, hb, hc, hq⟩ := h
  obtain ⟨x2, hs2⟩ := Sat.leave h0 y hs hl hc
  exact ⟨x, C, T, dd, v, dv, e1, e2, e3, _, _, _, x2, hs2, q1, Rep.take dv v hb q2, hq⟩
section
variable {P : Program} {w : World} {K : PySem.W.Frag} {mg : Str → Option Value} {base : Heap}
theorem Fun.okE {x qual : Str} {st : Stmt} {f : Addr} {fd : FuncData} {N ps : List Str} {k : Nat} {sp : DSp} {t : DXE → DTS} (F : Fun K x qual st f fd) (S : FnScope N ps (defScope st))
    (hder : ∀ (cdv : Value) (A : Around) (outer : List PySem.Env) (s : Shared) (H : Hp) (E : XK), Room k (A.deeper (envOfC qual (defScope st) s.heap.objs.size f cdv)) → (A.deeper (envOfC qual (defScope st) s.heap.objs.size f cdv)).guards = some [] →
      DSXs (cxOf (L2.CX P w) P w K mg base N qual (defScope st) f cdv A outer s H E) (defBody st) t)
    (hread : ∀ ds M Q E, ds.length = ps.length → belowAll M.length ds = true → sp ds M Q E → t (dOut M E) (dEnds M Q) (startD N.length ds) M) : FnD P w K mg base (L2.CX P w) (k + 1) f fd ps sp := by
  obtain ⟨oc, od, kV, doc, pm, an, cdv, ct, osl, rfl, lk, hcd⟩ := F.ex
  refine fnG_of lk hcd S (fun vs H Q E h => ?_) fun A outer s H vs Q E hr gd hsp => ?_
  · obtain ⟨_, _, _, _, _, _, hl, _, q, _⟩ := h
    rw [q.len]; exact hl
  · obtain ⟨ph, S0, M, ds, Q0, E0, hl, hs, hq, h, h1, h2⟩ := hsp
    refine ⟨_, (hder cdv A outer s H E hr gd).pss _ (takes_of rfl rfl rfl rfl), ph, S0, startD N.length ds, M, dEnds M Q0, dOut M E0, hs.start hq N, hread ds M Q0 E0 hl (by rw [← hs.len]; exact RepAll.belowP _ _ hq) h, ?_, ?_, ?_, ?_, ?_⟩
    · rintro σ' H' ⟨r, ph1, S1, M1, x, hs1, z⟩
      exact h1 _ _ (Rtq.out hs ⟨r, σ', ph1, S1, M1, x, hs1, .non, .non, z⟩)
    · exact fun v H' z => h1 _ _ (Rtq.out hs z)
    · rintro σ' H' ⟨r, ph1, S1, M1, x, hs1, z⟩
      exact z.elim
    · rintro σ' H' ⟨r, ph1, S1, M1, x, hs1, z⟩
      exact z.elim
    · exact fun cls d σ' H' z => h2 _ _ _ (Rtx.out hs z)
theorem Here.okE {x : Str} {st : Stmt} {N ps : List Str} {k : Nat} {sp : DSp} {t : DXE → DTS} (F : Here K mg x st ps) (S : FnScope N ps (defScope st))
    (hder : ∀ (f : Addr) (cdv : Value) (A : Around) (outer : List PySem.Env) (s : Shared) (H : Hp) (E : XK), Room k (A.deeper (envOfC x (defScope st) s.heap.objs.size f cdv)) → (A.deeper (envOfC x (defScope st) s.heap.objs.size f cdv)).guards = some [] →
      DSXs (cxOf (L2.CX P w) P w K mg base N x (defScope st) f cdv A outer s H E) (defBody st) t)
    (hread : ∀ ds M Q E, ds.length = ps.length → belowAll M.length ds = true → sp ds M Q E → t (dOut M E) (dEnds M Q) (startD N.length ds) M) : Def P w K mg base (L2.CX P w) (k + 1) x st ps sp :=
  let ⟨f, fd, h1, h2, h3⟩ := F.ex
  ⟨f, fd, Fun.okE h1 S (hder f) hread, h2, h1.kp, h3, h1⟩
end
/-! ### a def that may raise, called where it doesn't -/
section
variable {X : Cx} {k : Nat} {ps ks : List Str} {sp : DSp} {x : Str} {p pos : Pos} {e : Expr} {es : List Expr} {kws : List Keyword} {t : DTA}
/-! ### a call of what an expression tells (a def out of a list of defs) -/
/-- the defs that may be meant: name, number of parameters, contract -/
abbrev Tab := List (Str × Nat × DSp)
def dCallV (L : Tab) (tf : DTE) (t : DXE → DTA) : DXE → DTE := fun E r M Q => tf r M fun d M0 => match d with
  | .glb x => ∃ n sp, (x, n, sp) ∈ L ∧ t E r M0 fun ds M1 => ds.length = n ∧ sp ds M1 Q (fun y dv M2 => E r y dv M2)
  | _ => False
theorem dcallV {L : Tab} {P : Program} {w : World} {K : PySem.W.Frag} {mg : Str → Option Value} {base : Heap} {fe : Expr} {tf : DTE} {t : DXE → DTA} {j : Nat} (hf : DE X.nox fe tf) (ha : DAX X (e :: es) t)
    (FL : ∀ x n sp, (x, n, sp) ∈ L → ∃ k st ps, k ≤ j ∧ ps.length = n ∧ Def P w K mg base (L2.CX P w) k x st ps sp) (hr : Room j X.A) (gd : X.A.guards = some [])
    (h1 : P = X.prog := by rfl) (h2 : w = X.w := by rfl) (h3 : K = X.K := by rfl) (h4 : mg = X.mg := by rfl) (h5 : base = X.base := by rfl)
    (ht : eval (.Call fe (e :: es) [] pos) X.env = (do callWith pos (← eval fe X.env) [] (backTo pos (starEach (e :: es) X.env)) (backToKw pos (keywordEach [] X.env))) := by rfl)
    (he : starEach (e :: es) X.env = (false, eval e X.env) :: starEach es X.env := by rfl) (hpl : (backTo pos (starEach es X.env)).any (·.1) = false := by rfl) : DEX X (.Call fe (e :: es) [] pos) (dCallV L tf t) := by
  subst h1 h2 h3 h4 h5
  refine ⟨fun W tk => ⟨fun pins s σ H Q I ⟨ph, S, r, M, Q0, X0, hs, hq0, hq, hx⟩ => ?_⟩⟩
  refine Call_ (thn (hf.pe.nox.run pins s σ H _ I ⟨ph, S, r, M, _, hs, hq0, fun _ _ z => z⟩) fun u s1 ⟨y, H1, I1, ry, ph1, S1, M1, x1, hs1, d, q1, g1⟩ => ?_) ht
  cases d <;> first | exact g1.elim | skip
  rename_i z
  obtain ⟨n, sp, hL, g1⟩ := g1
  obtain ⟨k, st, ps, hj, hn, F⟩ := FL z n sp hL
  obtain ⟨f, fd, h1, h2, h3, h4, _⟩ := F.ex
  cases q1 with
  | @glb a _ hz =>
    have ea : a = f := by
      have y1 := PySem.W.mg_of I1.ok.mod.kin I1.ok.mod.glob hz
      rw [h2] at y1
      exact (Value.ref.inj (Option.some.inj y1)).symm
    subst ea
    cases (show u = Value.ref a from ry)
    subst hn
    refine PySem.W.callWith_K (h₀ := X.base) I1.ok.mod.kin h3 (thn ((ha.pa W tk).run pos pins s1 σ H1 _ I1 ⟨ph1, S1, r, M1, _, X0, hs1, g1, fun _ _ z => z, fun cls d H' z => hx _ _ _ (z.up x1)⟩) fun us s2 ⟨vs, H2, I2, r2, ph2, S2, M2, x2, hs2, ds, q2, hl, g2⟩ => ⟨I2.kIn, ?_⟩) he hpl
    exact thn (run_fnX h1 (hr.mono hj) gd h4 tk I2 r2 (lf_callX hs2 q2 hl g2 (fun _ _ z => z) (fun cls d H' z => hx _ _ _ (z.up (x1.trans x2))))) fun _ _ z => EP.up (x1.trans x2) z hq
end
end DL
namespace DL
open PySem PySem.Spec PyProof.Rows L2
theorem takes0 {X : Cx} : Takes X (fun _ _ _ _ => False) := fun _ _ ⟨_, _, _, _, _, _, _, _, _, _, _, _, _, _, _, _, z⟩ => z.elim
end DL
namespace DL
open PySem PySem.Spec PyProof.Rows L2
/-- an error leaves, the cells being as they were -/
theorem rtx {M : Mem} {E : DX} {x : Str} {d : D} {r : Env} (hb : below M.length d = true) (h : E x d M) : dOut M E r x d M :=
  ⟨M, [], by rw [List.append_nil], Nat.le_refl _, hb, fun i c e => .inl e, h⟩
end DL
/-! DLZ: list(range), range with a step, enumerate, xs[::-1], xs.index -/
namespace DL
open PySem PySem.Spec PyProof.Rows L2
section
variable {X : Cx} {pos : Pos}
/-! ### list(range(..)) -/
def gLRng (own : Bool) : GA := fun ds M Q => match ds with
  | [.int b] => RgOk 0 b ∧ (if own = true then Q (.own M.length) (M ++ [.lst (rng 0 b.toNat)]) else Q (.lst (rng 0 b.toNat)) M)
  | [.int a, .int b] => RgOk a b ∧ (if own = true then Q (.own M.length) (M ++ [.lst (rng a (b - a).toNat)]) else Q (.lst (rng a (b - a).toNat)) M)
  | _ => False
/-! ### range(a, b, c) -/
def rngC (lo c : Int) (n : Nat) : List D := (List.range n).map fun i => D.int (lo + (i : Nat) * c)
theorem rngC_len (lo c : Int) (n : Nat) : (rngC lo c n).length = n := by unfold rngC; rw [List.length_map, List.length_range]
theorem rngC_get {lo c : Int} {n i : Nat} {d : D} : (rngC lo c n)[i]? = some d ↔ i < n ∧ d = .int (lo + (i : Nat) * c) := by
  unfold rngC
  rw [List.getElem?_map]
  by_cases h : i < n
  · rw [List.getElem?_range h]
    exact ⟨fun e => ⟨h, (Option.some.inj e).symm⟩, fun e => by rw [e.2]; rfl⟩
  · rw [List.getElem?_eq_none (by rw [List.length_range]; omega)]
    exact ⟨fun e => (nomatch e), fun e => absurd e.1 h⟩
theorem Wlk.rangeC {K : PySem.W.Frag} {ph : Ph} {S : Hp} {lo c : Int} {n : Nat} {C : Mem → Prop} : Wlk K ph S (Itc lo c n) (rngC lo c n) C := fun ph' S' r M σ H h1 h2 hs hc => by
  refine ⟨fun i hi => by rw [rngC_len] at hi; exact hi, fun i d e => ?_⟩
  obtain ⟨hi, rfl⟩ := rngC_get.mp e
  refine ⟨hi, fun x H' ⟨e1, e2⟩ => ?_⟩
  subst e1 e2
  exact Aft.here hs ⟨rfl, .int _⟩
def gRng3 (ds : List D) (M : Mem) (R : List D → (Mem → Prop) → Mem → Prop) : Prop := match ds with
  | [.int a, .int b, .int c] => ∃ n, RgC a b c n ∧ R (rngC a c n) (fun _ => True) M
  | _ => False
theorem di_range3 {tg a b c : Expr} {t : DTA} {p : Pos} (hm : X.mg "range" = none) (ha : DA X [a, b, c] t) (hg : Gl X "range" := by rfl)
    (hs : starEach [a, b, c] X.env = (false, eval a X.env) :: starEach [b, c] X.env := by rfl) (hpl : (backTo pos (starEach [b, c] X.env)).any (·.1) = false := by rfl) : DI X tg (.Call (.Name "range" p) [a, b, c] [] pos) (dRngI gRng3 t) :=
  ⟨PI.weak (pi_range3 hg hm ha.pa hs hpl) fun σ H R ⟨ph, S, r, M, Q0, hs, ht, hq⟩ => ⟨ph, S, r, M, _, hs, ht, fun vs H1 ⟨ph1, S1, M1, x1, hs1, ds, q1, g1⟩ => by
    match ds, q1, g1 with
    | [.int a, .int b, .int c], .cons q (.cons q' (.cons q'' .nil)), ⟨n, h, g⟩ =>
      cases q
      cases q'
      cases q''
      exact ⟨a, b, c, n, rfl, h, hq _ _ ⟨ph1, S1, M1, x1, hs1, _, _, Wlk.rangeC, g⟩⟩⟩⟩
/-! ### enumerate -/
/-! ### xs[::-1] -/
def ownQ (own : Bool) (l : List D) (M : Mem) (Q : DQ) : Prop := if own = true then Q (.own M.length) (M ++ [.lst l]) else Q (.lst l) M
def gRev (own : Bool) (d : D) (M : Mem) (Q : DQ) : Prop := match res M d with
  | .lst l => ownQ own l.reverse M Q
  | _ => False
def dRev (own : Bool) (t : DTE) : DTE := fun r M Q => t r M fun d M1 => gRev own d M1 Q
theorem de_rev (own : Bool) {e : Expr} {t : DTE} {k : Nat} {p1 p2 p3 : Pos} (h : DE X e t) : DE X (.Subscript e (.Slice none none (some (.UnaryOp .USub (.Constant (.int 1) k p1) p2)) p3) pos) (dRev own t) :=
  DE.of (pe_revL h.pe) fun ph S r M σ H Q hs ht Q' hq => ⟨ph, S, r, M, _, hs, ht, fun v H1 ⟨ph1, S1, M1, x1, hs1, d, q1, g1⟩ => by
    replace g1 : gRev own d M1 Q := g1
    unfold gRev at g1
    split at g1
    · rename_i l er
      obtain ⟨p, xs, rfl, hp, hx⟩ := res_lst hs1 q1 er
      refine ⟨p, xs, rfl, SqL.of hp, fun b hb => ?_⟩
      cases own with
      | false => exact hq _ _ (Aft.up x1 (Aft.frz hs1 hb fun x => ⟨_, .lst upd_same (hx.rev.up x), g1⟩))
      | true => exact hq _ _ (Aft.up x1 (Aft.own hs1 hb hx.rev g1))
    · exact g1.elim⟩
/-! ### xs.index(y) -/
mutual
def dpD : D → Bool
  | .non => true
  | .bl _ => true
  | .int _ => true
  | .str _ => true
  | .tup l => dpDAll l
  | .lst l => dpDAll l
  | _ => false
def dpDAll : List D → Bool
  | [] => true
  | d :: ds => dpD d && dpDAll ds
end
mutual
theorem Rep.dp {K : PySem.W.Frag} {ph : Ph} {H : Hp} : ∀ (d : D) (v : V) (p : PyData), Rep K ph H v d → dpD d = true → toPy d = some p → Dp K H v p
  | .non, _, _, h, _, e => by cases h; cases e; exact .non
  | .bl _, _, _, h, _, e => by cases h; cases e; exact .bl _
  | .int _, _, _, h, _, e => by cases h; cases e; exact .int _
  | .str _, _, _, h, _, e => by cases h; cases e; exact .str _
  | .tup ds, _, _, h, g, e => by
    cases h with
    | tup h1 h2 =>
      simp only [toPy] at e
      split at e
      · rename_i ps ep
        cases e
        exact .tup (h1.sq fun _ _ z => z) (RepAll.dp ds _ ps h2 (by simpa only [dpD] using g) ep)
      · cases e
  | .lst ds, _, _, h, g, e => by
    cases h with
    | lst h1 h2 =>
      simp only [toPy] at e
      split at e
      · rename_i ps ep
        cases e
        exact .lst (SqL.of h1) (RepAll.dp ds _ ps h2 (by simpa only [dpD] using g) ep)
      · cases e
  | .dct0, _, _, _, g, _ => by simp [dpD] at g
  | .scr _, _, _, _, g, _ => by simp [dpD] at g
  | .own _, _, _, _, g, _ => by simp [dpD] at g
  | .exc _ _, _, _, _, g, _ => by simp [dpD] at g
  | .glb _, _, _, _, g, _ => by simp [dpD] at g
  | .val _, _, _, _, g, _ => by simp [dpD] at g
theorem RepAll.dp {K : PySem.W.Frag} {ph : Ph} {H : Hp} : ∀ (ds : List D) (vs : List V) (ps : List PyData), RepAll K ph H vs ds → dpDAll ds = true → toPyAll ds = some ps → DpAll K H vs ps
  | [], _, _, h, _, e => by cases h; cases e; exact .nil
  | d :: ds, _, _, h, g, e => by
    cases h with
    | cons h1 h2 =>
      have g' : dpD d = true ∧ dpDAll ds = true := by simpa only [dpDAll, Bool.and_eq_true] using g
      simp only [toPyAll] at e
      split at e
      · rename_i p ps ep eps
        cases e
        exact .cons (Rep.dp d _ p h1 g'.1 ep) (RepAll.dp ds _ ps h2 g'.2 eps)
      · cases e
end
/-- the first place of an equal one -/
def gIndex (o : D) (ds : List D) (M : Mem) (Q : DQ) : Prop := match ds with
  | [y] => ∃ l ps p j z, res M o = .lst l ∧ dpDAll l = true ∧ dpD (res M y) = true ∧ cmpd (.lst l) = some (.list ps) ∧ cmpd (res M y) = some p ∧ ps[j]? = some z ∧ PyData.eqv z p = true ∧ (∀ (m : Nat) z', m < j → ps[m]? = some z' → PyData.eqv z' p = false) ∧ Q (.int (j : Nat)) M
  | _ => False
def dMeth (g : D → List D → Mem → DQ → Prop) (to : DTE) (t : DTA) : DTE := fun r M Q => to r M fun o M1 => (∃ l, res M1 o = .lst l) ∧ t r M1 fun ds M2 => g o ds M2 Q
theorem de_index {o e : Expr} {to : DTE} {t : DTA} {apos cpos : Pos} (hu : X.A.units + 65 < cLine) (ho : DE X o to) (ha : DA X [e] t) (h1 : attributeBase o "index" X.env (eval o X.env) = eval o X.env := by rfl)
    (h2 : (((backTo cpos (starEach [e] X.env)).all fun x => !x.1) && (backToKw cpos (keywordEach [] X.env)).all (fun x => x.1.isSome) && decide (([e] : List Expr).length + ([] : List Keyword).length + (if ([] : List Keyword).isEmpty then 0 else 1) < 30)) = true := by rfl) (h3 : (apos.endLine == cpos.line) = true := by rfl)
    (h4 : starEach [e] X.env = (false, eval e X.env) :: starEach [] X.env := by rfl) (h5 : (backTo cpos (starEach [] X.env)).any (·.1) = false := by rfl) : DE X (.Call (.Attribute o "index" apos) [e] [] cpos) (dMeth gIndex to t) :=
  DE.of (pe_bm PySem.F.plainAttrs_list PySem.F.slot_list_index PySem.F.type_list_index (mt_indexD hu) ho.pe ha.pa h1 h2 h3 h4 h5) fun ph S r M σ H Q hs ht Q' hq => ⟨ph, S, r, M, _, hs, ht, fun v H1 ⟨ph1, S1, M1, x1, hs1, d, q1, ⟨l0, e0⟩, g1⟩ => by
    obtain ⟨a0, xs0, rfl, hp0, hx0⟩ := res_lst hs1 q1 e0
    refine ⟨.inl ⟨rfl, _, SqL.of hp0⟩, ph1, S1, r, M1, _, hs1, g1, fun vs H2 ⟨ph2, S2, M2, x2, hs2, ds, q2, g2⟩ => ?_⟩
    match ds, q2, g2 with
    | [y], .cons q3 .nil, ⟨l, ps, p, j, z, el, hl, hy, cl, cy, hz, hzj, hno, g⟩ =>
      have ql := Rep.res hs2 (q1.up x2)
      rw [el] at ql
      exact ⟨_, _, p, ps, j, z, rfl, rfl, Rep.dp _ _ _ ql (by simpa only [dpD] using hl) (cmpd_some cl).1, Rep.dp _ _ _ (Rep.res hs2 q3) hy (cmpd_some cy).1, (cmpd_some cl).2, (cmpd_some cy).2, hz, hzj, hno, hq _ _ ⟨ph2, S2, M2, x1.trans x2, hs2, _, .int _, g⟩⟩⟩
end
end DL
namespace DL
open PySem PySem.Spec PyProof.Rows L2
def t_check_measure_x (c_is_measure_by : DSp) : DXE → DTS :=
 fun E => (dIfS (dNot (dTru (dCall 1 c_is_measure_by [] DX0 (dCons (dVar 0) dNil)))) (dRaise "InvalidMeasure" (dCons (dVar 0) dNil) E) dNext)
def t_how_many_heart_x (c_check_measure_x : DSp) (c_bounds_by : DSp) : DXE → DTS :=
 fun E => (dSeq (dDrop (dCallX 1 c_check_measure_x (fun E => (dCons (dVar 0) dNil)) E))
 (dSeq (dAsg (dCall 1 c_bounds_by [] DX0 (dCons (dVar 0) dNil)) (dGTup 2 (dGCons (dName 1) (dGCons (dName 2) dGNil))))
 (dRet (dOp gAdd (dOp (rBin CDiv fun i j => i.fdiv j) (dOp (rBin (fun _ _ => True) fun i j => i - j) (dVar 2) (dVar 1)) (dC (.int 2))) (dC (.int 1))))))
def t_check_number_x (c_is_whole : DSp) : DXE → DTS :=
 fun E => (dIfS (dOr (dNot (dTru (dCall 1 c_is_whole [] DX0 (dCons (dVar 0) dNil)))) (dOr (dAnd (dTru (dOp (gIs true) (dVar 1) (dC .non))) (dTru (dOp (gCmpI fun i j => decide (i < j)) (dVar 0) (dVar 1)))) (dAnd (dTru (dOp (gIs true) (dVar 2) (dC .non))) (dTru (dOp (gCmpI fun i j => decide (j < i)) (dVar 0) (dVar 2)))))) (dRaise "InvalidNumber" (dCons (dVar 0) dNil) E) dNext)
def t_heart_by : DTS :=
 (dRet (dTup (dCons (dC (.int 0)) (dCons (dOp (rBin CDiv fun i j => i.fdiv j) (dOp (rBin (fun _ _ => True) fun i j => i - j) (dVar 0) (dOp (rBin CMul fun i j => i * j) (dVar 1) (dVar 1))) (dC (.int 4))) (dCons (dC (.int 1)) (dCons (dVar 1) dNil))))))
def t_heart_numbered_x (c_check_measure_x : DSp) (c_bounds_by : DSp) (c_check_number_x : DSp) (c_heart_by : DSp) : DXE → DTS :=
 fun E => (dSeq (dDrop (dCallX 1 c_check_measure_x (fun E => (dCons (dVar 0) dNil)) E))
 (dSeq (dAsg (dCall 1 c_bounds_by [] DX0 (dCons (dVar 0) dNil)) (dGTup 2 (dGCons (dName 2) (dGCons (dName 3) dGNil))))
 (dSeq (dDrop (dCallX 3 c_check_number_x (fun E => (dCons (dVar 1) (dCons (dC (.int 0)) (dCons (dOp (rBin CDiv fun i j => i.fdiv j) (dOp (rBin (fun _ _ => True) fun i j => i - j) (dVar 3) (dVar 2)) (dC (.int 2))) dNil)))) E))
 (dRet (dCall 2 c_heart_by [] DX0 (dCons (dVar 0) (dCons (dOp gAdd (dVar 2) (dOp (rBin CMul fun i j => i * j) (dC (.int 2)) (dVar 1))) dNil)))))))
def t_heart_number_x (c_is_heart : DSp) (c_bounds_by : DSp) (c_measure_by : DSp) : DXE → DTS :=
 fun E => (dSeq (dIfS (dNot (dTru (dCall 1 c_is_heart [] DX0 (dCons (dVar 0) dNil)))) (dRaise "InvalidCutting" (dCons (dVar 0) dNil) E) dNext)
 (dRet (dOp (rBin CDiv fun i j => i.fdiv j) (dOp (rBin (fun _ _ => True) fun i j => i - j) (dOp gIx (dVar 0) (dC (.int 3))) (dOp gIx (dCall 1 c_bounds_by [] DX0 (dCons (dCall 1 c_measure_by [] DX0 (dCons (dVar 0) dNil)) dNil)) (dC (.int 0)))) (dC (.int 2)))))
end DL
namespace DL
open PySem PySem.Spec PyProof.Rows L2
def t_check_cutting_x (c_is_cutting_by : DSp) : DXE → DTS :=
 fun E => (dIfS (dNot (dTru (dCall 1 c_is_cutting_by [] DX0 (dCons (dVar 0) dNil)))) (dRaise "InvalidCutting" (dCons (dVar 0) dNil) E) dNext)
end DL
/-! XC: list(range(a, b, c)); xs.count(y) -/
namespace L2
open PySem PySem.Spec PyProof.Rows PyProof
def rgCV (lo c : Int) (n : Nat) : List V := (List.range n).map fun i => V.int (lo + (i : Nat) * c)
theorem rgCV_length (lo c : Int) (n : Nat) : (rgCV lo c n).length = n := by unfold rgCV; rw [List.length_map, List.length_range]
theorem vals_rgC {a c : Int} {n : Nat} {acc : Array Value} (h : ItemsOf (fun i v => ∃ t, v = .int (a + i * c) t) acc n) : Vals (rgCV a c n) acc.toList := by
  have e : acc.toList.length = n := by rw [Array.length_toList]; exact h.1
  unfold rgCV
  rw [← e]
  refine vals_of_get acc.toList _ fun j u hj => ?_
  obtain ⟨t, rfl⟩ := h.2 j u (by rw [← hj, Array.getElem?_toList])
  exact ⟨t, rfl⟩
variable {X : Cx} {pos : Pos}
def tLstRg3 (ta : TA) : TE := fun σ H Q => ta σ H fun vs H1 => ∃ (i j c : Int) (n : Nat), vs = [.int i, .int j, .int c] ∧ RgC i j c n ∧ n ≤ 2 ^ 24 ∧ ∀ q, H1 q = none → Q (.ref q) (upd H1 q (.lst (rgCV i c n)))
theorem pe_listRg3 {a b c : Expr} {ta : TA} {p p2 p3 : Pos} (hc : X.calm = true) (hg : Gl X "list") (hm : X.mg "list" = none) (hg2 : Gl X "range") (hm2 : X.mg "range" = none) (ha : PA X [a, b, c] ta)
    (hs : starEach [a, b, c] X.env = (false, eval a X.env) :: starEach [b, c] X.env := by rfl) (hpl : (backTo p3 (starEach [b, c] X.env)).any (·.1) = false := by rfl)
    (na : starEach [.Call (.Name "range" p2) [a, b, c] [] p3] X.env = (false, eval (.Call (.Name "range" p2) [a, b, c] [] p3) X.env) :: starEach [] X.env := by rfl) :
    PE X (.Call (.Name "list" p) [.Call (.Name "range" p2) [a, b, c] [] p3] [] pos) (tLstRg3 ta) := by
  refine ⟨fun pins s σ H Q I h => ?_⟩
  have inner : wpAny (model X.prog X.w) X.A (eval (.Call (.Name "range" p2) [a, b, c] [] p3) X.env) (fun x s' => ∃ r i j k n t u v H', x = .ref r ∧ IsRange s'.heap r i j k t u v ∧ RgC i j k n ∧ n ≤ 2 ^ 24 ∧ Inv X pins σ H' s' ∧ ∀ q, H' q = none → Q (.ref q) (upd H' q (.lst (rgCV i k n)))) X.xe s := by
    refine Call_ (ld_blt I hg2 hm2 boot_range (PyProof.Rows.callWith_type1 (thn (ha.run p3 pins s σ H _ I h) fun us s1 ⟨vs, H1, I1, r1, q1⟩ => ?_) hs hpl))
    obtain ⟨i, j, k, n, e, ⟨c0, c1, c2, c3⟩, hn, q⟩ := q1
    subst e
    cases r1 with
    | cons r rr =>
      cases rr with
      | cons r' rr =>
        cases rr with
        | cons r'' rr =>
          cases rr
          obtain ⟨t, rfl⟩ := r
          obtain ⟨t', rfl⟩ := r'
          obtain ⟨t'', rfl⟩ := r''
          refine call_range_3 c0 ?_ (.inl (PyProof.noPylong_small c1))
          exact ⟨_, i, j, k, n, _, _, _, H1, rfl, IsRange.new _ _ _ _ _ _ _, ⟨c0, c1, c2, c3⟩, hn, I1.kept (t' := s1.toks) fun b o e => Heap.get?_push_of_some _ e, q⟩
  refine Call_ (ld_blt I hg hm boot_list (PyProof.Rows.callWith_type1 (args_cons (thn inner fun x s1 ⟨r, i, j, k, n, t, u, v, H1, ex, hr, ⟨c0, c1, c2, c3⟩, hn, I1, q⟩ => args_nil ?_) na) na))
  subst ex
  refine call_list_range (n := n) (I1.ok.hd hc) hr c2 c3 hn fun h' tk acc c' hk e' hi => ?_
  refine ⟨.ref s1.heap.objs.size, upd H1 s1.heap.objs.size (.lst (rgCV i k n)), I1.laid hk (Nat.le_refl _) (show ObjOk X.prog X.w _ _ _ (.lst (rgCV i k n)) from ⟨?_, acc.toList, c', vals_rgC hi, ?_⟩), rfl, q _ (I1.hok.fresh (Nat.le_refl _))⟩
  · rw [rgCV_length, sizeLine_eq]; omega
  · rw [Array.toArray_toList]; exact e'
/-- l.count(x) -/
def rCountD (K : PySem.W.Frag) : V → List V → Hp → VK → Prop := fun x xs H Q => ∃ (a : Addr) (y : V) (d : PyData) (ds : List PyData), x = V.ref a ∧ xs = [y] ∧ Dp K H (V.ref a) (.list ds) ∧ Dp K H y d ∧
  SeqAt.shaped (.list ds) = true ∧ SeqAt.shaped d = true ∧ Q (.int (ds.countP fun z => PyData.eqv z d : Nat)) H
theorem mt_countD (hu : X.A.units + 65 < cLine) : MtR X "list.count" (rCountD X.K) := by
  intro pins s σ H x xs v us Q I rx rxs h
  obtain ⟨a, y, d, ds, rfl, rfl, hl, hy, sl, sd, q⟩ := h
  cases rx
  cases rxs with
  | cons ry rt =>
    rename_i uy ut
    cases rt
    obtain ⟨bs, r1⟩ := Dp.reads I d y uy hy ry
    have hxs : PyData.canLayAll0 ds = true := SeqAt.canLay_of_shaped sl
    have hroom : X.A.units + 1 + min (PyData.depthAll ds) d.depth < cLine := room_in_shaped sd hu
    cases hl with
    | lst hs ha =>
      obtain ⟨its, rv, ⟨⟨cls, dd, data, sls⟩, n, ho, hc, hdn, hdt⟩, hlen⟩ := I.list hs
      simp only at hc hdt
      subst hc hdt
      obtain ⟨as, h4⟩ := Dp.readsAll I ds _ its ha rv
      have hmap : its.map (SeqAt.readOf s.heap) = ds := SeqAt.readsAll_map ds its as hxs h4
      refine call_meets PySem.F.slot_list_count ⟨_, ho, rfl⟩ PySem.F.entry_list_count (PySem.F.args_list_count_2 _ _)
        (SeqAt.list_countAt a its.toArray n dd sls uy (fun u => PyData.eqv (SeqAt.readOf s.heap u) d)) ⟨ho, SeqAt.items_eqAt (vs := its.toArray) (show ReadsAll s.heap its.toArray.toList ds as from h4) r1 hxs (SeqAt.canLay_of_shaped sd) hroom, ?_⟩
      have e : its.toArray.toList.countP (fun u => PyData.eqv (SeqAt.readOf s.heap u) d) = ds.countP fun z => PyData.eqv z d := by
        rw [← hmap, List.countP_map]; rfl
      exact ⟨.int (ds.countP fun z => PyData.eqv z d : Nat), H, I.tok _, ⟨_, by rw [← e]⟩, q⟩
end L2
/-! DLC: list(range(a, b, c)), xs.count(y), comparisons and reprs of data with owned lists within -/
namespace DL
open PySem PySem.Spec PyProof.Rows L2
section
variable {X : Cx} {pos : Pos}
theorem rgCV_rep {K : PySem.W.Frag} {ph : Ph} {S : Hp} (a c : Int) (n : Nat) : RepAll K ph S (rgCV a c n) (rngC a c n) := by
  unfold rgCV rngC
  generalize (List.range n) = l
  induction l with
  | nil => exact .nil
  | cons x l ih => exact .cons (.int _) ih
def gLRng3 (own : Bool) : GA := fun ds M Q => match ds with
  | [.int a, .int b, .int c] => ∃ n, RgC a b c n ∧ n ≤ 2 ^ 24 ∧ ownQ own (rngC a c n) M Q
  | _ => False
theorem de_lrng3 (own : Bool) {a b c : Expr} {t : DTA} {p p2 p3 : Pos} (hc : X.calm = true) (hm : X.mg "list" = none) (hm2 : X.mg "range" = none) (ha : DA X [a, b, c] t) (hg : Gl X "list" := by rfl) (hg2 : Gl X "range" := by rfl)
    (hs : starEach [a, b, c] X.env = (false, eval a X.env) :: starEach [b, c] X.env := by rfl) (hpl : (backTo p3 (starEach [b, c] X.env)).any (·.1) = false := by rfl)
    (na2 : starEach [.Call (.Name "range" p2) [a, b, c] [] p3] X.env = (false, eval (.Call (.Name "range" p2) [a, b, c] [] p3) X.env) :: starEach [] X.env := by rfl) :
    DE X (.Call (.Name "list" p) [.Call (.Name "range" p2) [a, b, c] [] p3] [] pos) (dCB (gLRng3 own) t) :=
  DE.of (pe_listRg3 hc hg hm hg2 hm2 ha.pa hs hpl na2) fun ph S r M σ H Q hs ht Q' hq => ⟨ph, S, r, M, _, hs, ht, fun vs H1 ⟨ph1, S1, M1, x1, hs1, ds, q1, g1⟩ => by
    match ds, q1, g1 with
    | [.int a, .int b, .int c], .cons q (.cons q' (.cons q'' .nil)), ⟨n, h, hn, g⟩ =>
      cases q
      cases q'
      cases q''
      refine ⟨a, b, c, n, rfl, h, hn, fun p hp => ?_⟩
      cases own with
      | false => exact hq _ _ (Aft.up x1 (Aft.frz hs1 hp fun x => ⟨_, .lst upd_same (rgCV_rep _ _ _), g⟩))
      | true => exact hq _ _ (Aft.up x1 (Aft.own hs1 hp (rgCV_rep _ _ _) g))⟩
/-! ### xs.count(y) -/
def gCount (o : D) (ds : List D) (M : Mem) (Q : DQ) : Prop := match ds with
  | [y] => ∃ l ps p, res M o = .lst l ∧ dpDAll l = true ∧ dpD (res M y) = true ∧ cmpd (.lst l) = some (.list ps) ∧ cmpd (res M y) = some p ∧ Q (.int (ps.countP fun z => PyData.eqv z p : Nat)) M
  | _ => False
theorem de_count {o e : Expr} {to : DTE} {t : DTA} {apos cpos : Pos} (hu : X.A.units + 65 < cLine) (ho : DE X o to) (ha : DA X [e] t) (h1 : attributeBase o "count" X.env (eval o X.env) = eval o X.env := by rfl)
    (h2 : (((backTo cpos (starEach [e] X.env)).all fun x => !x.1) && (backToKw cpos (keywordEach [] X.env)).all (fun x => x.1.isSome) && decide (([e] : List Expr).length + ([] : List Keyword).length + (if ([] : List Keyword).isEmpty then 0 else 1) < 30)) = true := by rfl) (h3 : (apos.endLine == cpos.line) = true := by rfl)
    (h4 : starEach [e] X.env = (false, eval e X.env) :: starEach [] X.env := by rfl) (h5 : (backTo cpos (starEach [] X.env)).any (·.1) = false := by rfl) : DE X (.Call (.Attribute o "count" apos) [e] [] cpos) (dMeth gCount to t) :=
  DE.of (pe_bm PySem.F.plainAttrs_list PySem.F.slot_list_count PySem.F.type_list_count (mt_countD hu) ho.pe ha.pa h1 h2 h3 h4 h5) fun ph S r M σ H Q hs ht Q' hq => ⟨ph, S, r, M, _, hs, ht, fun v H1 ⟨ph1, S1, M1, x1, hs1, d, q1, ⟨l0, e0⟩, g1⟩ => by
    obtain ⟨a0, xs0, rfl, hp0, hx0⟩ := res_lst hs1 q1 e0
    refine ⟨.inl ⟨rfl, _, SqL.of hp0⟩, ph1, S1, r, M1, _, hs1, g1, fun vs H2 ⟨ph2, S2, M2, x2, hs2, ds, q2, g2⟩ => ?_⟩
    match ds, q2, g2 with
    | [y], .cons q3 .nil, ⟨l, ps, p, el, hl, hy, cl, cy, g⟩ =>
      have ql := Rep.res hs2 (q1.up x2)
      rw [el] at ql
      exact ⟨_, _, p, ps, rfl, rfl, Rep.dp _ _ _ ql (by simpa only [dpD] using hl) (cmpd_some cl).1, Rep.dp _ _ _ (Rep.res hs2 q3) hy (cmpd_some cy).1, (cmpd_some cl).2, (cmpd_some cy).2, hq _ _ ⟨ph2, S2, M2, x1.trans x2, hs2, _, .int _, g⟩⟩⟩
/-! ### owned lists within -/
def cellL (M : Mem) (k : Nat) : Option (List D) := match M[k]? with
  | some (.lst ds) => some ds
  | _ => none
mutual
/-- every owned list within as it stands -/
def resD (M : Mem) : D → D
  | .own k => match cellL M k with
    | some ds => .lst ds
    | none => .own k
  | .tup l => .tup (resDA M l)
  | .lst l => .lst (resDA M l)
  | d => d
def resDA (M : Mem) : List D → List D
  | [] => []
  | d :: ds => resD M d :: resDA M ds
end
section
variable {K : PySem.W.Frag} {ph : Ph} {S : Hp} {r : Env} {M : Mem} {σ : St} {H : Hp}
mutual
theorem Rep.resD (hs : Sat K ph S r M σ H) : ∀ (d : D) (v : V), Rep K ph S v d → Rep K ph H v (resD M d)
  | .own k, v, q => by
    unfold DL.resD
    split
    · rename_i ds hk
      have hk' : M[k]? = some (.lst ds) := by
        unfold cellL at hk
        split at hk
        · rename_i e; cases hk; exact e
        · cases hk
      cases q with
      | own h =>
        obtain ⟨a, xs, c1, c2, c3, c4⟩ := hs.cell k ds hk'
        rw [h] at c1; cases c1
        exact .lst c3 (hs.readAll c4)
    · exact hs.read q
  | .tup l, _, .tup h1 h2 => by
    unfold DL.resD
    exact .tup (h1.ext hs.sub) (RepAll.resD hs l _ h2)
  | .lst l, _, .lst h1 h2 => by
    unfold DL.resD
    exact .lst (hs.sub _ _ h1) (RepAll.resD hs l _ h2)
  | .non, _, q => hs.read q
  | .bl _, _, q => hs.read q
  | .int _, _, q => hs.read q
  | .str _, _, q => hs.read q
  | .dct0, _, q => hs.read q
  | .scr _, _, q => hs.read q
  | .exc _ _, _, q => hs.read q
  | .glb _, _, q => hs.read q
  | .val _, _, q => hs.read q
theorem RepAll.resD (hs : Sat K ph S r M σ H) : ∀ (ds : List D) (vs : List V), RepAll K ph S vs ds → RepAll K ph H vs (resDA M ds)
  | [], _, .nil => by unfold DL.resDA; exact .nil
  | d :: ds, _, .cons q t => by unfold DL.resDA; exact .cons (Rep.resD hs d _ q) (RepAll.resD hs ds _ t)
end
theorem resD_str {d : D} {z : Str} (h : DL.resD M d = .str z) : d = .str z := by
  cases d <;> unfold DL.resD at h <;> first | exact h | (split at h <;> cases h) | cases h
end
def gEqD : G2 := fun x y M Q => match eqB (resD M x) (resD M y) with
  | some b => Q (.bl b) M
  | none => False
def gNeD : G2 := fun x y M Q => match eqB (resD M x) (resD M y) with
  | some b => Q (.bl (!b)) M
  | none => False
theorem opd_eqD (hu : X.A.units + 64 < cLine) : OpD X (compareOp .Eq) gEqD := by
  intro pins s σ H ph S r M x y dx dy v u Q I hs rx ry qx qy hg
  unfold gEqD at hg
  split at hg
  · rename_i b e
    rcases eqB_of e with ⟨p, q, e1, e2, rfl⟩ | ⟨p, q, e1, e2, rfl⟩
    · cases resD_str e1; cases resD_str e2
      cases qx; cases qy
      obtain ⟨_, rfl⟩ := rx
      obtain ⟨_, rfl⟩ := ry
      exact PyProof.Rows.eq_str ⟨.bl _, H, I, rfl, Aft.here hs ⟨_, .bl _, hg⟩⟩
    · obtain ⟨as, h1, _⟩ := Rep.reads I _ _ _ _ (Rep.resD hs _ _ qx) rx (cmpd_some e1).1
      obtain ⟨bs, h2, _⟩ := Rep.reads I _ _ _ _ (Rep.resD hs _ _ qy) ry (cmpd_some e2).1
      exact SeqAt.compareEq_shaped h1 h2 (cmpd_some e1).2 (cmpd_some e2).2 hu ⟨.bl _, H, I, rfl, Aft.here hs ⟨_, .bl _, hg⟩⟩
  · exact hg.elim
theorem opd_neD (hu : X.A.units + 64 < cLine) : OpD X (compareOp .NotEq) gNeD := by
  intro pins s σ H ph S r M x y dx dy v u Q I hs rx ry qx qy hg
  unfold gNeD at hg
  split at hg
  · rename_i b e
    rcases eqB_of e with ⟨p, q, e1, e2, rfl⟩ | ⟨p, q, e1, e2, rfl⟩
    · cases resD_str e1; cases resD_str e2
      cases qx; cases qy
      obtain ⟨_, rfl⟩ := rx
      obtain ⟨_, rfl⟩ := ry
      exact PyProof.Rows.ne_str ⟨.bl _, H, I, rfl, Aft.here hs ⟨_, .bl _, hg⟩⟩
    · obtain ⟨as, h1, _⟩ := Rep.reads I _ _ _ _ (Rep.resD hs _ _ qx) rx (cmpd_some e1).1
      obtain ⟨bs, h2, _⟩ := Rep.reads I _ _ _ _ (Rep.resD hs _ _ qy) ry (cmpd_some e2).1
      exact SeqAt.compareNe_shaped h1 h2 (cmpd_some e1).2 (cmpd_some e2).2 hu ⟨.bl _, H, I, rfl, Aft.here hs ⟨_, .bl _, hg⟩⟩
  · exact hg.elim
end
end DL
namespace DL
open PySem PySem.Spec PyProof.Rows L2
def t_l_steps_3e4d (c_l_common_6be5 : DSp) : DTS :=
 (dSeq (dAsg (dOp (rBin (fun _ _ => True) fun i j => i - j) (dOp (rBin (fun _ _ => True) fun i j => i - j) (dC (.int 0)) (dVar 1)) (dVar 2)) (dName 3))
 (dRet (dAndV (dOp (gCmpI fun i j => decide (j ≤ i)) (dVar 3) (dC (.int 2))) (dOp gEq (dCall 2 c_l_common_6be5 [] DX0 (dCons (dOp (rBin CDiv fun i j => i.fdiv j) (dVar 3) (dC (.int 2))) (dCons (dOp (rBin CDiv fun i j => i.fdiv j) (dOp (rBin (fun _ _ => True) fun i j => i - j) (dVar 0) (dOp (rBin CMul fun i j => i * j) (dVar 1) (dVar 1))) (dC (.int 4))) dNil))) (dC (.int 1))))))
def t_is_step_by (c_common_by : DSp) : DTS :=
 (dSeq (dAsg (dOp (rBin (fun _ _ => True) fun i j => i - j) (dOp (rBin (fun _ _ => True) fun i j => i - j) (dC (.int 0)) (dVar 1)) (dVar 2)) (dName 3))
 (dRet (dAndV (dOp (gCmpI fun i j => decide (j ≤ i)) (dVar 3) (dC (.int 2))) (dOp gEq (dCall 2 c_common_by [] DX0 (dCons (dOp (rBin CDiv fun i j => i.fdiv j) (dVar 3) (dC (.int 2))) (dCons (dOp (rBin CDiv fun i j => i.fdiv j) (dOp (rBin (fun _ _ => True) fun i j => i - j) (dVar 0) (dOp (rBin CMul fun i j => i * j) (dVar 1) (dVar 1))) (dC (.int 4))) dNil))) (dC (.int 1))))))
end DL
/-! XD: repr of a list whose items may be dicts, where no list within is asked about -/
namespace L2
open PySem PySem.Spec PyProof.Rows PyProof
section
variable {prog : Program} {w : World} {A : Around} {E : Value → Shared → Prop} {s : Shared} {Q : Value → Shared → Prop}
theorem repr_listZ {a : Addr} {o : Obj} {vs : Array Value} {n : Nat} {xs : List PyData} {as : List Addr} (ho : s.heap.get? a = some o) (oc : o.cls = .type "list") (od : o.data = .seq vs n) (rs : ReadsAll s.heap vs.toList xs as)
    (sh : PyData.showableAll xs = true) (no : sysModules ∉ as) (gd : A.guards = some []) (un : A.units + (PyData.depthAll xs + 3) < cLine) (len : (PyData.list xs).shown.length ≤ sizeLine)
    (q : ∀ h' u tk, (∀ b o, s.heap.get? b = some o → h'.get? b = some o) → Q (.str (PyData.list xs).shown u) { s with heap := h', toks := tk }) :
    wpAny (model prog w) A (call (.builtin "repr") [.ref a]) Q E s := by
  have len2 : (listText (PyData.shownAll xs)).length ≤ sizeLine := by simpa only [PyData.shown] using len
  obtain ⟨cs, deep, each⟩ := ReprAllK.of_readsAll (prog := prog) (w := w) rs sh (fun _ => no) (fun t ht => Nat.le_trans (listText_mem_le ht) len2)
  have away : a ∉ cs := not_mem_of_deeper (.list ho oc od rs) (by simp only [PyData.depth]; omega) deep
  refine call_repr_slot (by omega) ⟨o, ho, oc⟩ F.slot_list_repr.toG ?_
  simp only [PyData.shown] at q
  cases vs with
  | mk l =>
    cases l with
    | nil =>
      cases (show ReadsAll s.heap [] xs as from rs)
      simp only [PyData.shownAll, listText_nil] at q
      exact call_list_repr_empty ⟨o, ho, oc⟩ ho od ⟨_, _, rfl, q s.heap _ _ fun _ _ z => z⟩
    | cons x l =>
      refine call_list_reprK ho oc od away (by simpa using each.length_eq) (fun i y z => each.item i y (by simpa using z)) gd (fun b _ => Clear.nil b) ?_ (fun _ _ z => z) (fun h' u tk kp => ⟨_, _, rfl, q h' u tk kp⟩) len2
      show A.units + 1 + (PyData.depthAll xs + 1) < cLine
      omega
end
end L2
/-! DLR: how readings are shown -/
namespace DL
open PySem PySem.Spec PyProof.Rows L2
/-! ### while -/
/-- the same, the measure told apart -/
theorem dwhile_of {c : DTT} {t : DTS} {E : DEnds} {r : Env} {M : Mem} (W : Nat → Env → Mem → Prop) (n : Nat) (h0 : W n r M)
    (step : ∀ n r M, W n r M → c r M fun b M1 => if b = true then t { E with nx := fun r' M' => ∃ m', m' < n ∧ W m' r' M', ct := fun r' M' => ∃ m', m' < n ∧ W m' r' M', bk := E.nx } r M1 else E.nx r M1) : dWhile c t E r M := ⟨W, ⟨n, h0⟩, step⟩
/-! ### comparing plain data -/
theorem gEq_int {i j : Int} {M : Mem} {Q : DQ} : gEq (.int i) (.int j) M Q = Q (.bl (i == j)) M := rfl
theorem gNe_int {i j : Int} {M : Mem} {Q : DQ} : gNe (.int i) (.int j) M Q = Q (.bl (!(i == j))) M := rfl
theorem gEq_bl {i j : Bool} {M : Mem} {Q : DQ} : gEq (.bl i) (.bl j) M Q = Q (.bl (i == j)) M := rfl
theorem gNe_bl {i j : Bool} {M : Mem} {Q : DQ} : gNe (.bl i) (.bl j) M Q = Q (.bl (!(i == j))) M := rfl
/-! ### the end of a def -/
theorem rtq {M : Mem} {Q : DQ} {d : D} (q : Q d M) (hb : below M.length d = true := by rfl) : Rtq M Q d M := ⟨M, [], (List.append_nil M).symm, Nat.le_refl _, hb, fun _ _ h => .inl h, q⟩
theorem rtqG {M G : Mem} {Q : DQ} {d : D} (q : Q d M) (hb : below M.length d = true := by rfl) : Rtq M Q d (M ++ G) := ⟨M, G, rfl, Nat.le_refl _, hb, fun _ _ h => .inl h, q⟩
/-- new cells stay, others were changed: all of them plain -/
theorem rtqC {M M1 : Mem} {Q : DQ} {d : D} (q : Q d M1) (hl : M.length ≤ M1.length) (hb : below M1.length d = true) (hc : ∀ (i : Nat) (c : Own), M1[i]? = some c → M[i]? = some c ∨ belowO M1.length c = true) : Rtq M Q d M1 := ⟨M1, [], (List.append_nil _).symm, hl, hb, hc, q⟩
end DL
namespace DL
open PySem PySem.Spec PyProof.Rows L2
/-! ### comprehensions -/
theorem lcW_pure {ds : List D} {C : Mem → Prop} {g : DTG} {tt : DTT} {te : DTE} {r : Env} {M : Mem} {Q : DQ} (f : D → Option D) (hC : C M) (hl : ds.length ≤ sizeLine)
    (step : ∀ d ∈ ds, ∀ (Y : D → Mem → Prop) (N : Mem → Prop), (match f d with | some e => Y e M | none => N M) → g d r M fun r2 M2 => tt r2 M2 fun b M3 => if b = true then te r2 M3 Y else N M3)
    (q : Q (.lst (ds.filterMap f)) M) : lcW false ds C g tt te r M Q := by
  refine ⟨fun i acc M' => M' = M ∧ acc = (ds.take i).filterMap f ∧ i ≤ ds.length, ⟨rfl, rfl, Nat.zero_le _⟩, ?_⟩
  rintro i acc M' ⟨rfl, rfl, hi⟩
  refine ⟨hC, fun hd => ?_, fun d ed => ?_⟩
  · rw [if_neg Bool.false_ne_true]
    rw [List.take_of_length_le hd]; exact q
  · have hlt : i < ds.length := (List.getElem?_eq_some_iff.mp ed).1
    have ht : ds.take (i + 1) = ds.take i ++ [d] := by rw [List.take_add_one, ed]; rfl
    refine step d (List.mem_of_getElem? ed) _ _ ?_
    split
    · rename_i e he
      refine ⟨?_, rfl, ?_, hlt⟩
      · have h1 : ((ds.take i).filterMap f).length ≤ (ds.take i).length := List.length_filterMap_le _ _
        have h2 : (ds.take i).length ≤ i := by rw [List.length_take]; omega
        omega
      · rw [ht, List.filterMap_append]
        simp [he]
    · rename_i he
      refine ⟨rfl, ?_, hlt⟩
      rw [ht, List.filterMap_append]
      simp [he]
/-! ### data that may be compared -/
mutual
def fine (n : Nat) : D → Bool
  | .non => true
  | .bl _ => true
  | .int _ => true
  | .str x => PyData.strOk x
  | .tup l => match n with
    | 0 => false
    | n + 1 => fineAll n l
  | .lst l => match n with
    | 0 => false
    | n + 1 => fineAll n l
  | _ => false
def fineAll (n : Nat) : List D → Bool
  | [] => true
  | d :: ds => fine n d && fineAll n ds
end
mutual
theorem fine_py : ∀ (n : Nat) (d : D), fine n d = true → ∃ p, toPy d = some p ∧ p.canLay0 = true ∧ p.depth ≤ n
  | n, .non, _ => ⟨.none, rfl, by simp only [PyData.canLay0], by simp only [PyData.depth]; omega⟩
  | n, .bl b, _ => ⟨.bool b, rfl, by simp only [PyData.canLay0], by simp only [PyData.depth]; omega⟩
  | n, .int i, _ => ⟨.int i, rfl, by simp only [PyData.canLay0], by simp only [PyData.depth]; omega⟩
  | n, .str x, h => ⟨.str x, rfl, by simpa only [PyData.canLay0, fine] using h, by simp only [PyData.depth]; omega⟩
  | 0, .tup l, h => by simp [fine] at h
  | n + 1, .tup l, h => by
    obtain ⟨ps, h1, h2, h3, _⟩ := fine_pyAll n l (by simpa only [fine] using h)
    exact ⟨.tuple ps, by simp only [toPy, h1], by simpa only [PyData.canLay0] using h2, by simp only [PyData.depth]; omega⟩
  | 0, .lst l, h => by simp [fine] at h
  | n + 1, .lst l, h => by
    obtain ⟨ps, h1, h2, h3, _⟩ := fine_pyAll n l (by simpa only [fine] using h)
    exact ⟨.list ps, by simp only [toPy, h1], by simpa only [PyData.canLay0] using h2, by simp only [PyData.depth]; omega⟩
  | n, .dct0, h => by simp [fine] at h
  | n, .scr _, h => by simp [fine] at h
  | n, .own _, h => by simp [fine] at h
  | n, .exc _ _, h => by simp [fine] at h
  | n, .glb _, h => by simp [fine] at h
  | n, .val _, h => by simp [fine] at h
theorem fine_pyAll : ∀ (n : Nat) (ds : List D), fineAll n ds = true → ∃ ps, toPyAll ds = some ps ∧ PyData.canLayAll0 ps = true ∧ PyData.depthAll ps ≤ n ∧ ps.length = ds.length
  | n, [], _ => ⟨[], rfl, by simp only [PyData.canLayAll0], by simp only [PyData.depthAll]; omega, rfl⟩
  | n, d :: ds, h => by
    have h' : fine n d = true ∧ fineAll n ds = true := by simpa only [fineAll, Bool.and_eq_true] using h
    obtain ⟨p, a1, a2, a3⟩ := fine_py n d h'.1
    obtain ⟨ps, b1, b2, b3, b4⟩ := fine_pyAll n ds h'.2
    exact ⟨p :: ps, by simp only [toPyAll, a1, b1], by simp only [PyData.canLayAll0, a2, b2, Bool.and_self], by simp only [PyData.depthAll]; omega, by rw [List.length_cons, List.length_cons, b4]⟩
end
theorem cmpd_fine {n : Nat} {d : D} (h : fine n d = true) (hn : n ≤ 64 := by decide) : ∃ p, toPy d = some p ∧ cmpd d = some p := by
  obtain ⟨p, h1, h2, h3⟩ := fine_py n d h
  refine ⟨p, h1, ?_⟩
  unfold cmpd
  rw [h1]
  have : SeqAt.shaped p = true := by unfold SeqAt.shaped; rw [h2]; simp; omega
  simp only [this, if_true]
theorem fineAll_iff {n : Nat} : ∀ {l : List D}, fineAll n l = true ↔ ∀ d ∈ l, fine n d = true
  | [] => by simp [fineAll]
  | d :: l => by simp only [fineAll, Bool.and_eq_true, List.mem_cons, forall_eq_or_imp, fineAll_iff (l := l)]
theorem res_fine {n : Nat} {d : D} {M : Mem} (h : fine n d = true) : res M d = d := by
  cases d <;> first | rfl | (simp [fine] at h)
theorem eqv_self {n : Nat} {d : D} {p : PyData} (h : fine n d = true) (hp : toPy d = some p) : PyData.eqv p p = true := by
  obtain ⟨p', h1, h2, _⟩ := fine_py n d h
  rw [hp] at h1; cases h1
  exact SeqAt.eqv_refl p h2
theorem eqB_self {n : Nat} {d : D} (h : fine n d = true) (hn : n ≤ 64 := by decide) : eqB d d = some true := by
  obtain ⟨p, h1, h2⟩ := cmpd_fine h hn
  unfold eqB
  split
  · simp_all
  · rw [h2]
    show some (PyData.eqv p p) = _
    rw [eqv_self h h1]
/-- the same data compared -/
theorem gNe_same {n : Nat} {d : D} {M : Mem} {Q : DQ} (h : fine n d = true) (q : Q (.bl false) M) (hn : n ≤ 64 := by decide) : gNe d d M Q := by
  unfold gNe
  rw [res_fine h, eqB_self h hn]
  exact q
theorem eqB_nil {n : Nat} {l : List D} (h : fineAll n l = true) (hn : n ≤ 60 := by decide) : eqB (.lst l) (.lst []) = some l.isEmpty := by
  have hf : fine (n + 1) (.lst l) = true := by simpa only [fine] using h
  obtain ⟨p, h1, h2⟩ := cmpd_fine hf (by omega)
  obtain ⟨ps, b1, _, _, b4⟩ := fine_pyAll n l h
  have e : p = .list ps := by simp only [toPy, b1] at h1; exact (Option.some.inj h1).symm
  subst e
  show (match cmpd (.lst l), cmpd (.lst []) with
    | some p, some q => some (PyData.eqv p q)
    | _, _ => none) = _
  rw [h2]
  show some (PyData.eqv (.list ps) (.list [])) = _
  cases l with
  | nil => cases ps with
    | nil => rfl
    | cons _ _ => simp at b4
  | cons _ _ => cases ps with
    | nil => simp at b4
    | cons _ _ => rfl
/-- a list beside the empty one -/
theorem gNe_nil' {n : Nat} {l : List D} {M : Mem} {Q : DQ} (h : fineAll n l = true) (q : Q (.bl (!l.isEmpty)) M) (hn : n ≤ 60 := by decide) : gNe (.lst l) (.lst []) M Q := by
  unfold gNe
  show match eqB (.lst l) (.lst []) with | some b => Q (.bl (!b)) M | none => False
  rw [eqB_nil h hn]
  exact q
theorem gNe_strs {a b : Str} {M : Mem} {Q : DQ} : gNe (.str a) (.str b) M Q = Q (.bl (!(a == b))) M := rfl
theorem gEq_strs {a b : Str} {M : Mem} {Q : DQ} : gEq (.str a) (.str b) M Q = Q (.bl (a == b)) M := rfl
/-! ### data that may be shown -/
mutual
def lit (B : Nat) : D → Bool
  | .int i => decide (i.natAbs.log2 < B)
  | .tup l => litAll B l
  | .lst l => litAll B l
  | _ => true
def litAll (B : Nat) : List D → Bool
  | [] => true
  | d :: ds => lit B d && litAll B ds
end
mutual
def wt (B : Nat) : D → Nat
  | .int _ => B + 1
  | .str x => x.cps.size
  | .tup l => wtAll B l
  | .lst l => wtAll B l
  | _ => 0
def wtAll (B : Nat) : List D → Nat
  | [] => 0
  | d :: ds => wt B d + 1 + wtAll B ds
end
theorem strOk_short {x : Str} (h : PyData.strOk x = true) : ∀ c ∈ x.cps.toList, c < 16 ^ 8 := by
  have h0 : x.cps.all (· < 0x110000) = true := h
  intro c hc
  have h1 := (Array.all_eq_true_iff_forall_mem.mp h0) c (Array.mem_toList_iff.mp hc)
  have h2 : c < 0x110000 := by simpa using h1
  have e : (16 : Nat) ^ 8 = 4294967296 := by decide
  omega
mutual
theorem lit_py (B : Nat) (hB : B ≤ 1919) : ∀ (n : Nat) (d : D) (p : PyData), fine n d = true → lit B d = true → toPy d = some p → p.showable = true ∧ p.leavesShort (B + 8) = true ∧ p.weight ≤ wt B d
  | n, .non, p, _, _, e => by cases e; exact ⟨by simp only [PyData.showable], by simp only [PyData.leavesShort], by simp only [PyData.weight]; omega⟩
  | n, .bl b, p, _, _, e => by cases e; exact ⟨by simp only [PyData.showable], by simp only [PyData.leavesShort], by simp only [PyData.weight]; omega⟩
  | n, .int i, p, _, h, e => by
    cases e
    have h' : i.natAbs.log2 < B := by simpa only [lit, decide_eq_true_eq] using h
    refine ⟨?_, ?_, ?_⟩
    · simp only [PyData.showable, decide_eq_true_eq]; omega
    · simp only [PyData.leavesShort, decide_eq_true_eq]
      show (Str.ofString (toString i)).length ≤ _
      rw [PySem.ofString_length]
      have := int_text_length_le (a := i) (k := B) (by omega) h'
      omega
    · simp only [PyData.weight, wt]
      split <;> omega
  | n, .str x, p, hf, _, e => by
    cases e
    refine ⟨by simp only [PyData.showable], ?_, by simp only [PyData.weight, wt]; omega⟩
    simp only [PyData.leavesShort, List.all_eq_true, decide_eq_true_eq]
    exact strOk_short (by simpa only [fine] using hf)
  | 0, .tup l, p, h, _, _ => by simp [fine] at h
  | 0, .lst l, p, h, _, _ => by simp [fine] at h
  | n + 1, .tup l, p, h, h2, e => by
    obtain ⟨ps, e1, _⟩ := fine_pyAll n l (by simpa only [fine] using h)
    have e' : p = .tuple ps := by simp only [toPy, e1] at e; exact (Option.some.inj e).symm
    subst e'
    obtain ⟨a, b, c⟩ := lit_pyAll B hB n l ps (by simpa only [fine] using h) (by simpa only [lit] using h2) e1
    exact ⟨by simpa only [PyData.showable] using a, by simpa only [PyData.leavesShort] using b, by simpa only [PyData.weight, wt] using c⟩
  | n + 1, .lst l, p, h, h2, e => by
    obtain ⟨ps, e1, _⟩ := fine_pyAll n l (by simpa only [fine] using h)
    have e' : p = .list ps := by simp only [toPy, e1] at e; exact (Option.some.inj e).symm
    subst e'
    obtain ⟨a, b, c⟩ := lit_pyAll B hB n l ps (by simpa only [fine] using h) (by simpa only [lit] using h2) e1
    exact ⟨by simpa only [PyData.showable] using a, by simpa only [PyData.leavesShort] using b, by simpa only [PyData.weight, wt] using c⟩
  | n, .dct0, _, h, _, _ => by simp [fine] at h
  | n, .scr _, _, h, _, _ => by simp [fine] at h
  | n, .own _, _, h, _, _ => by simp [fine] at h
  | n, .exc _ _, _, h, _, _ => by simp [fine] at h
  | n, .glb _, _, h, _, _ => by simp [fine] at h
  | n, .val _, _, h, _, _ => by simp [fine] at h
theorem lit_pyAll (B : Nat) (hB : B ≤ 1919) : ∀ (n : Nat) (ds : List D) (ps : List PyData), fineAll n ds = true → litAll B ds = true → toPyAll ds = some ps → PyData.showableAll ps = true ∧ PyData.leavesShortAll (B + 8) ps = true ∧ PyData.weightAll ps ≤ wtAll B ds
  | n, [], ps, _, _, e => by cases e; exact ⟨by simp only [PyData.showableAll], by simp only [PyData.leavesShortAll], by simp only [PyData.weightAll]; omega⟩
  | n, d :: ds, ps, h, h2, e => by
    have h' : fine n d = true ∧ fineAll n ds = true := by simpa only [fineAll, Bool.and_eq_true] using h
    have h2' : lit B d = true ∧ litAll B ds = true := by simpa only [litAll, Bool.and_eq_true] using h2
    obtain ⟨p, a1, _, _⟩ := fine_py n d h'.1
    obtain ⟨qs, b1, _, _, _⟩ := fine_pyAll n ds h'.2
    have e' : ps = p :: qs := by simp only [toPyAll, a1, b1] at e; exact (Option.some.inj e).symm
    subst e'
    obtain ⟨c1, c2, c3⟩ := lit_py B hB n d p h'.1 h2'.1 a1
    obtain ⟨d1, d2, d3⟩ := lit_pyAll B hB n ds qs h'.2 h2'.2 b1
    refine ⟨by simp only [PyData.showableAll, c1, d1, Bool.and_self], by simp only [PyData.leavesShortAll, c2, d2, Bool.and_self], ?_⟩
    simp only [PyData.weightAll, wtAll]; omega
end
/-- d's repr is covered: ints of B bits, at most -/
theorem shw_of (B n : Nat) {d : D} (h : fine n d = true) (hl : lit B d = true) (hw : (B + 10) * wt B d + B + 8 ≤ 16777216) (hB : B ≤ 1919 := by decide) (hn : n ≤ 64 := by decide) : ∃ z, shwn d = some z := by
  obtain ⟨p, e1, e2, e3⟩ := fine_py n d h
  obtain ⟨a, b, c⟩ := lit_py B hB n d p h hl e1
  have h1 := PyData.shown_le (B + 8) (by omega) p b
  have h2 : (B + 8 + 2) * p.weight ≤ (B + 10) * wt B d := Nat.mul_le_mul (by omega) c
  refine ⟨p.shown, ?_⟩
  unfold shwn
  rw [e1]
  dsimp only
  rw [if_pos ⟨a, by omega, by rw [sizeLine_eq]; omega, PyData.hasDict_of_canLay p e2⟩]
/-! ### items by a written index -/
section
variable {α : Type}
theorem atI_of (n : Nat) {l : List α} (h : n < l.length) : atI l (n : Int) = l[n]? := by
  unfold atI ixN
  rw [if_pos (by omega), if_pos (by omega)]
  rfl
theorem atI_0 {a : α} {l : List α} : atI (a :: l) 0 = some a := atI_of 0 (by simp)
theorem atI_1 {a b : α} {l : List α} : atI (a :: b :: l) 1 = some b := atI_of 1 (by simp)
theorem atI_2 {a b c : α} {l : List α} : atI (a :: b :: c :: l) 2 = some c := atI_of 2 (by simp)
theorem atI_3 {a b c d : α} {l : List α} : atI (a :: b :: c :: d :: l) 3 = some d := atI_of 3 (by simp)
theorem atI_4 {a b c d e : α} {l : List α} : atI (a :: b :: c :: d :: e :: l) 4 = some e := atI_of 4 (by simp)
theorem atI_5 {a b c d e f : α} {l : List α} : atI (a :: b :: c :: d :: e :: f :: l) 5 = some f := atI_of 5 (by simp)
theorem ixN_30 : ixN 3 0 = some 0 := by decide
theorem ixN_31 : ixN 3 1 = some 1 := by decide
theorem ixN_32 : ixN 3 2 = some 2 := by decide
end
theorem rs_lst {M : Mem} {l : List D} : res M (.lst l) = .lst l := rfl
theorem rs_tup {M : Mem} {l : List D} : res M (.tup l) = .tup l := rfl
theorem rs_scr {M : Mem} {l : List Int} : res M (.scr l) = .scr l := rfl
theorem rs_int {M : Mem} {i : Int} : res M (.int i) = .int i := rfl
theorem intsD_map : ∀ ns : List Int, intsD (ns.map D.int) = some ns
  | [] => rfl
  | n :: ns => by rw [List.map_cons]; unfold intsD; rw [intsD_map ns]
theorem cut_map (ns : List Int) (lo hi : Option Int) : ∃ xs : List Int, cutD (ns.map D.int) lo hi = xs.map D.int := by
  unfold cutD
  rw [← List.map_drop, ← List.map_take]
  exact ⟨_, rfl⟩
end DL
/-! DLD: repr of data with empty dicts -/
namespace DL
open PySem PySem.Spec PyProof.Rows L2
mutual
/-- no list within -/
def nolst : D → Bool
  | .lst _ => false
  | .own _ => false
  | .tup l => nolstA l
  | _ => true
def nolstA : List D → Bool
  | [] => true
  | d :: ds => nolst d && nolstA ds
end
section
variable {X : Cx} {pins : List (Addr × Obj)} {s : Shared} {ph : Ph} {σ : St} {H : Hp}
mutual
theorem Rep.readsZ (I : Inv X pins σ H s) : ∀ (d : D) (v : V) (u : Value) (p : PyData), Rep X.K ph H v d → RelV v u → toPy d = some p → nolst d = true → ∃ as, Reads s.heap u p as ∧ sysModules ∉ as
  | .non, _, _, _, h, rv, e, _ => by cases h; cases rv; cases e; exact ⟨_, .none, by simp⟩
  | .bl _, _, _, _, h, rv, e, _ => by cases h; cases rv; cases e; exact ⟨_, .bool _, by simp⟩
  | .int _, _, _, _, h, rv, e, _ => by cases h; obtain ⟨t, rfl⟩ := rv; cases e; exact ⟨_, .int _ _, by simp⟩
  | .str _, _, _, _, h, rv, e, _ => by cases h; obtain ⟨t, rfl⟩ := rv; cases e; exact ⟨_, .str _ _, by simp⟩
  | .tup ds, _, _, _, h, rv, e, n => by
    cases h with
    | tup h1 h2 =>
      cases rv
      simp only [toPy] at e
      split at e
      · rename_i ps ep
        cases e
        obtain ⟨its, rx, ⟨o, ho, hc, n', hd⟩, _⟩ := I.tuple (h1.sq fun _ _ z => z)
        obtain ⟨as, q, qa⟩ := RepAll.readsZ I ds _ its ps h2 rx ep (by simpa only [nolst] using n)
        exact ⟨_, .tuple ho hc hd q, qa⟩
      · cases e
  | .lst ds, _, _, _, _, _, _, n => by simp [nolst] at n
  | .dct0, _, _, _, h, rv, e, _ => by
    cases h with
    | dct0 h1 =>
      cases rv
      cases e
      obtain ⟨_, hs, vs, hk, o, es, ep, ho, hx, hd, _, he, _⟩ := I.hok _ _ h1
      cases hk
      have e0 : es = #[] := by
        cases es with
        | mk l =>
          cases l with
          | nil => rfl
          | cons x l => exact nomatch he
      subst e0
      refine ⟨_, .dict ho hx.1 hd .nil .nil, fun ha => ?_⟩
      simp at ha
      rw [← ha] at hs
      exact absurd hs (by decide)
  | .scr ns, _, _, _, _, _, e, _ => by cases e
  | .own _, _, _, _, _, _, e, _ => by cases e
  | .exc _ _, _, _, _, _, _, e, _ => by cases e
  | .glb _, _, _, _, _, _, e, _ => by cases e
  | .val _, _, _, _, _, _, e, _ => by cases e
theorem RepAll.readsZ (I : Inv X pins σ H s) : ∀ (ds : List D) (vs : List V) (us : List Value) (ps : List PyData), RepAll X.K ph H vs ds → Vals vs us → toPyAll ds = some ps → nolstA ds = true → ∃ as, ReadsAll s.heap us ps as ∧ sysModules ∉ as
  | [], _, _, _, h, rv, e, _ => by cases h; cases rv; cases e; exact ⟨_, .nil, by simp⟩
  | d :: ds, _, _, _, h, rv, e, n => by
    have n' : nolst d = true ∧ nolstA ds = true := by simpa only [nolstA, Bool.and_eq_true] using n
    cases h with
    | cons h1 h2 =>
      cases rv with
      | cons r1 r2 =>
        simp only [toPyAll] at e
        split at e
        · rename_i p ps ep eps
          cases e
          obtain ⟨as, q1, a1⟩ := Rep.readsZ I d _ _ p h1 r1 ep n'.1
          obtain ⟨bs, q2, a2⟩ := RepAll.readsZ I ds _ _ ps h2 r2 eps n'.2
          refine ⟨_, .cons q1 q2, fun ha => ?_⟩
          rcases List.mem_append.mp ha with ha | ha
          · exact a1 ha
          · exact a2 ha
        · cases e
end
end
/-- dicts may stand within -/
def okZ : D → Bool
  | .lst l => nolstA l
  | d => nolst d
def shwnZ (d : D) : Option Str := match toPy d with
  | some p => if p.showable = true ∧ p.depth ≤ 64 ∧ p.shown.length ≤ sizeLine ∧ (p.hasDict = false ∨ okZ d = true) then some p.shown else none
  | none => none
def gReprZ : GA := fun ds M Q => match ds with
  | [d] => match shwnZ (resD M d) with
    | some z => Q (.str z) M
    | none => False
  | _ => False
section
variable {X : Cx}
theorem cd_reprZ (gd : X.A.guards = some []) (hu : X.A.units + 200 < cLine) : CallD X (.builtin "repr") gReprZ := by
  intro pins s σ H ph S r M vs us ds Q I hs rv q hg
  match ds, vs, us, rv, q, hg with
  | [d], [v], [u], .cons ru .nil, .cons q .nil, hg =>
    unfold gReprZ at hg
    dsimp only at hg
    split at hg
    · rename_i z ez
      unfold shwnZ at ez
      split at ez
      · rename_i p ep
        by_cases hp : p.showable = true ∧ p.depth ≤ 64 ∧ p.shown.length ≤ sizeLine ∧ (p.hasDict = false ∨ okZ (resD M d) = true)
        · rw [if_pos hp] at ez
          cases ez
          have qd := Rep.resD hs _ _ q
          have plain : ∀ as, Reads s.heap u p as → (p.hasDict = true → sysModules ∉ as) → wpAny (model X.prog X.w) X.A (call (.builtin "repr") [u]) (fun x s' => ∃ v H', Inv X pins σ H' s' ∧ RelV v x ∧ Aft X.K ph S r σ H' fun ph' S' M' => ∃ d', Rep X.K ph' S' v d' ∧ Q d' M') X.xe s := fun as h1 hn => by
            by_cases hr : ∃ a, u = .ref a
            · obtain ⟨a, rfl⟩ := hr
              refine PySem.repr_of_reads' h1 hp.1 hn gd ?_ (fun _ _ e => e) (fun h' u tk k => ⟨.str p.shown, H, I.kept k, ⟨_, rfl⟩, Aft.here hs ⟨_, .str _, hg⟩⟩) hp.2.2.1
              have := hp.2.1; omega
            · exact shown_flat h1 (fun a e => hr ⟨a, e⟩) hp.1 hp.2.2.1 fun tk tk' => ⟨.str p.shown, H, I.tok _, ⟨_, rfl⟩, Aft.here hs ⟨_, .str _, hg⟩⟩
          rcases hp.2.2.2 with h0 | h0
          · obtain ⟨as, h1, _⟩ := Rep.reads I _ _ _ _ qd ru ep
            exact plain as h1 fun z => by rw [h0] at z; cases z
          · by_cases hl : nolst (resD M d) = true
            · obtain ⟨as, h1, h2⟩ := Rep.readsZ I _ _ _ _ qd ru ep hl
              exact plain as h1 fun _ => h2
            · generalize resD M d = dd at *
              cases dd with
              | lst l =>
                cases qd with
                | lst g1 g2 =>
                  cases ru
                  simp only [toPy] at ep
                  split at ep
                  · rename_i ps eps
                    cases ep
                    obtain ⟨its, rx, ⟨o, n, ho, hc, _, hd⟩, _⟩ := I.list (SqL.of g1)
                    obtain ⟨as, q2, qa⟩ := RepAll.readsZ I l _ its ps g2 rx eps h0
                    refine repr_listZ ho hc hd q2 (by simpa only [PyData.showable] using hp.1) qa gd ?_ hp.2.2.1 fun h' u tk k => ⟨.str _, H, I.kept k, ⟨_, rfl⟩, Aft.here hs ⟨_, .str _, hg⟩⟩
                    have := hp.2.1
                    simp only [PyData.depth] at this
                    omega
                  · cases ep
              | _ => exact absurd h0 hl
        · rw [if_neg hp] at ez; cases ez
      · cases ez
    · exact hg.elim
end
theorem RepAll.repN {K : PySem.W.Frag} {ph : Ph} {S : Hp} {xs : List V} {ds : List D} (h : RepAll K ph S xs ds) : ∀ n : Nat, RepAll K ph S (List.replicate n xs).flatten (List.flatten (List.replicate n ds))
  | 0 => .nil
  | n + 1 => by
    rw [List.replicate_succ, List.replicate_succ, List.flatten_cons, List.flatten_cons]
    exact RepAll.app h (RepAll.repN h n)
/-- a list, n times -/
theorem opd_mulL {X : Cx} : OpD X (binaryOp .Mult) gMulL := by
  intro pins s σ H ph S r M x y dx dy v u Q I hs rx ry qx qy hg
  cases dx <;> first | exact hg.elim | skip
  cases dy <;> first | exact hg.elim | skip
  cases qy
  cases qx with
  | lst h1 h2 =>
    refine op_rep pins s σ H _ _ v u _ I rx ry ⟨_, _, _, rfl, rfl, hs.sub _ _ h1, hg.1.1, hg.1.2.1, by rw [h2.len]; exact hg.1.2.2, fun p hp => ?_⟩
    exact Aft.frz hs hp fun z => ⟨_, .lst upd_same ((h2.repN _).up z), hg.2⟩
theorem shwnZ_of {d : D} {z : Str} (h : shwn d = some z) : shwnZ d = some z := by
  unfold shwn at h
  unfold shwnZ
  split at h
  · rename_i p ep
    by_cases hp : p.showable = true ∧ p.depth ≤ 64 ∧ p.shown.length ≤ sizeLine ∧ p.hasDict = false
    · rw [if_pos hp] at h
      try rw [ep]
      try dsimp only
      rw [if_pos ⟨hp.1, hp.2.1, hp.2.2.1, .inl hp.2.2.2⟩]
      exact h
    · rw [if_neg hp] at h; cases h
  · cases h
mutual
/-- data that may be shown, dicts among them: ints of B bits -/
def zok (B : Nat) : D → Bool
  | .non => true
  | .bl _ => true
  | .int i => decide (i.natAbs.log2 < B)
  | .str x => PyData.strOk x
  | .tup l => zokA B l
  | .lst l => zokA B l
  | .dct0 => true
  | _ => false
def zokA (B : Nat) : List D → Bool
  | [] => true
  | d :: ds => zok B d && zokA B ds
end
mutual
def dpt : D → Nat
  | .tup l => dptA l + 1
  | .lst l => dptA l + 1
  | .dct0 => 1
  | _ => 0
def dptA : List D → Nat
  | [] => 0
  | d :: ds => max (dpt d) (dptA ds)
end
mutual
theorem zok_py (B : Nat) (hB : B ≤ 1919) : ∀ d : D, zok B d = true → ∃ p, toPy d = some p ∧ p.showable = true ∧ p.leavesShort (B + 8) = true ∧ p.weight ≤ wt B d ∧ p.depth ≤ dpt d
  | .non, _ => ⟨.none, rfl, by simp only [PyData.showable], by simp only [PyData.leavesShort], by simp only [PyData.weight]; omega, by simp only [PyData.depth]; omega⟩
  | .bl b, _ => ⟨.bool b, rfl, by simp only [PyData.showable], by simp only [PyData.leavesShort], by simp only [PyData.weight]; omega, by simp only [PyData.depth]; omega⟩
  | .int i, h => by
    obtain ⟨a, b, c⟩ := lit_py B hB 0 (.int i) (.int i) rfl (by simpa only [lit, zok] using h) rfl
    exact ⟨.int i, rfl, a, b, c, by simp only [PyData.depth]; omega⟩
  | .str x, h => by
    obtain ⟨a, b, c⟩ := lit_py B hB 0 (.str x) (.str x) (by simpa only [fine, zok] using h) rfl rfl
    exact ⟨.str x, rfl, a, b, c, by simp only [PyData.depth]; omega⟩
  | .tup l, h => by
    obtain ⟨ps, e, a, b, c, d⟩ := zok_pyA B hB l (by simpa only [zok] using h)
    exact ⟨.tuple ps, by simp only [toPy, e], by simpa only [PyData.showable] using a, by simpa only [PyData.leavesShort] using b, by simpa only [PyData.weight, wt] using c, by simp only [PyData.depth, dpt]; omega⟩
  | .lst l, h => by
    obtain ⟨ps, e, a, b, c, d⟩ := zok_pyA B hB l (by simpa only [zok] using h)
    exact ⟨.list ps, by simp only [toPy, e], by simpa only [PyData.showable] using a, by simpa only [PyData.leavesShort] using b, by simpa only [PyData.weight, wt] using c, by simp only [PyData.depth, dpt]; omega⟩
  | .dct0, _ => ⟨.dict [], rfl, rfl, rfl, by simp only [PyData.weight, PyData.weightKv]; omega, by simp only [PyData.depth, PyData.depthKv, dpt]; omega⟩
  | .scr _, h => by simp [zok] at h
  | .own _, h => by simp [zok] at h
  | .exc _ _, h => by simp [zok] at h
  | .glb _, h => by simp [zok] at h
  | .val _, h => by simp [zok] at h
theorem zok_pyA (B : Nat) (hB : B ≤ 1919) : ∀ ds : List D, zokA B ds = true → ∃ ps, toPyAll ds = some ps ∧ PyData.showableAll ps = true ∧ PyData.leavesShortAll (B + 8) ps = true ∧ PyData.weightAll ps ≤ wtAll B ds ∧ PyData.depthAll ps ≤ dptA ds
  | [], _ => ⟨[], rfl, by simp only [PyData.showableAll], by simp only [PyData.leavesShortAll], by simp only [PyData.weightAll]; omega, by simp only [PyData.depthAll]; omega⟩
  | d :: ds, h => by
    have h' : zok B d = true ∧ zokA B ds = true := by simpa only [zokA, Bool.and_eq_true] using h
    obtain ⟨p, e1, a1, b1, c1, d1⟩ := zok_py B hB d h'.1
    obtain ⟨ps, e2, a2, b2, c2, d2⟩ := zok_pyA B hB ds h'.2
    exact ⟨p :: ps, by simp only [toPyAll, e1, e2], by simp only [PyData.showableAll, a1, a2, Bool.and_self], by simp only [PyData.leavesShortAll, b1, b2, Bool.and_self], by simp only [PyData.weightAll, wtAll]; omega, by simp only [PyData.depthAll, dptA]; omega⟩
end
/-- d's repr is covered: ints of B bits, at most; dicts only where no list stands beside them -/
theorem shwZ_of (B : Nat) {d : D} (h : zok B d = true) (hk : okZ d = true) (hw : (B + 10) * wt B d + B + 8 ≤ 16777216) (hB : B ≤ 1919 := by decide) (hd : dpt d ≤ 64 := by decide) : ∃ z, shwnZ d = some z := by
  obtain ⟨p, e1, a, b, c, dd⟩ := zok_py B hB d h
  have h1 := PyData.shown_le (B + 8) (by omega) p b
  have h2 : (B + 8 + 2) * p.weight ≤ (B + 10) * wt B d := Nat.mul_le_mul (by omega) c
  refine ⟨p.shown, ?_⟩
  unfold shwnZ
  rw [e1]
  dsimp only
  rw [if_pos ⟨a, by omega, by rw [sizeLine_eq]; omega, .inr hk⟩]
end DL
namespace DL
open PySem PySem.Spec PyProof.Rows L2
end DL
/-! XE: a dict beside an int -/
namespace L2
open PySem PySem.Spec PyProof.Rows PyProof
open PySem.SeqAt PySem.AutoSeq1 PySem.Sem
end L2
/-! DLG: an empty dict beside an int -/
namespace DL
open PySem PySem.Spec PyProof.Rows L2
end DL
namespace DL
open PySem PySem.Spec PyProof.Rows L2
end DL
/-! DLK: the module's own tuples, starred items, len(set(..)) of ints -/
namespace DL
open PySem PySem.Spec PyProof.Rows L2
/-- the module's value at a is the data d -/
def KRep (K : PySem.W.Frag) (u : Value) (d : D) : Prop := ∃ v : V, RelV v u ∧ ∀ ph S, Rep K ph S v d
theorem KRep.int {K : PySem.W.Frag} {i : Int} {t : Tok} : KRep K (.int i t) (.int i) := ⟨.int i, ⟨t, rfl⟩, fun _ _ => .int _⟩
inductive KReps (K : PySem.W.Frag) : List Value → List D → Prop
  | nil : KReps K [] []
  | cons {u : Value} {us : List Value} {d : D} {ds : List D} : KRep K u d → KReps K us ds → KReps K (u :: us) (d :: ds)
theorem KRep.all {K : PySem.W.Frag} : ∀ {us : List Value} {ds : List D}, KReps K us ds → ∃ vs, Vals vs us ∧ ∀ ph S, RepAll K ph S vs ds
  | _, _, .nil => ⟨[], .nil, fun _ _ => .nil⟩
  | _, _, .cons ⟨v, r, q⟩ t => by
    obtain ⟨vs, rs, qs⟩ := KRep.all t
    exact ⟨v :: vs, .cons r rs, fun ph S => .cons (q ph S) (qs ph S)⟩
theorem KRep.tup {K : PySem.W.Frag} {a : Addr} {dd : Option Addr} {its : Array Value} {n : Nat} {sl : Array (Option Value)} {ds : List D} (l : K.lookup a = some ⟨.type "tuple", dd, .seq its n, sl⟩)
    (h : KReps K its.toList ds) (hz : its.size ≤ 100 := by decide) : KRep K (.ref a) (.tup ds) := by
  obtain ⟨vs, rs, qs⟩ := KRep.all h
  exact ⟨.ref a, rfl, fun ph S => .tup (.inr ⟨_, its, n, l, rfl, rfl, by rw [sizeLine_eq]; omega, rs⟩) (qs ph S)⟩
section
variable {X : Cx} {pos : Pos}
/-- a def that is never called -/
theorem dss_never {sts : List Stmt} : DSs X sts dNever := ⟨⟨fun pins s σ H D I ⟨_, _, _, _, _, _, ht, _⟩ => ht.elim⟩⟩
def spNever : DSp := fun _ _ _ _ => False
/-! ### len(set(xs)), ints -/
end
end DL
namespace DL
open PySem PySem.Spec PyProof.Rows L2
end DL
namespace DL
open PySem PySem.Spec PyProof.Rows L2
def errL_k33 : List Str := ["InvalidMeasure", "InvalidNumber", "InvalidCutting", "Unlike", "TooMany"]
def t_lots_by (c_bounds_by : DSp) (c_is_step_by : DSp) : DTS :=
 (dSeq (dAsg (dCall 1 c_bounds_by [] DX0 (dCons (dVar 0) dNil)) (dGTup 2 (dGCons (dName 1) (dGCons (dName 2) dGNil))))
 (dSeq (dPar 3 4 (dCons (dCB (gLRng3 false) (dCons (dVar 1) (dCons (dOp gAdd (dVar 2) (dC (.int 1))) (dCons (dC (.int 2)) dNil)))) (dCons (dOwn dNil) dNil)))
 (dSeq (dWhile (dTru (dOp gNe (dVar 3) (dLst dNil))) (dSeq (dAsg (dTup (dCons (dLst (dCons (dOp gIx (dVar 3) (dC (.int 0))) dNil)) (dCons (dC (.int 0)) dNil))) (dGTup 2 (dGCons (dName 5) (dGCons (dName 6) dGNil))))
 (dSeq (dWhile (dTru (dOp (gCmpI fun i j => decide (i < j)) (dVar 6) (dCB gLen (dCons (dVar 5) dNil)))) (dSeq (dAsg (dOp gAdd (dVar 5) (dLc false (dSeqI (dVar 3)) (dName 7) (dAnd (dTru (dOp (gIn true) (dVar 7) (dVar 5))) (dTru (dCall 3 c_is_step_by [] DX0 (dCons (dVar 0) (dCons (dOp gIx (dVar 5) (dVar 6)) (dCons (dVar 7) dNil)))))) (dVar 7) [7])) (dName 5))
 (dAsg (dOp gAdd (dVar 6) (dC (.int 1))) (dName 6))))
 (dSeq (dAsg (dLc false (dSeqI (dVar 3)) (dName 7) (dTru (dOp (gIn true) (dVar 7) (dVar 5))) (dVar 7) [7]) (dName 3))
 (dDrop (dMet gAppend (dVar 4) (dCons (dCB (gSorted false) (dCons (dVar 5) dNil)) dNil)))))))
 (dRet (dFrz (dVar 4))))))
def t_heart_lots_x (c_check_measure_x : DSp) (c_bounds_by : DSp) (c_lots_by : DSp) (c_heart_by : DSp) : DXE → DTS :=
 fun E => (dSeq (dDrop (dCallX 1 c_check_measure_x (fun E => (dCons (dVar 0) dNil)) E))
 (dSeq (dAsg (dCall 1 c_bounds_by [] DX0 (dCons (dVar 0) dNil)) (dGTup 2 (dGCons (dName 1) (dGCons (dName 2) dGNil))))
 (dSeq (dIfS (dTru (dOp (gCmpI fun i j => decide (j < i)) (dOp gAdd (dOp (rBin CDiv fun i j => i.fdiv j) (dOp (rBin (fun _ _ => True) fun i j => i - j) (dVar 2) (dVar 1)) (dC (.int 2))) (dC (.int 1))) (dC (.int 100)))) (dRaise "TooMany" (dCons (dOp gAdd (dOp (rBin CDiv fun i j => i.fdiv j) (dOp (rBin (fun _ _ => True) fun i j => i - j) (dVar 2) (dVar 1)) (dC (.int 2))) (dC (.int 1))) dNil) E) dNext)
 (dRet (dLc false (dSeqI (dCall 1 c_lots_by [] DX0 (dCons (dVar 0) dNil))) (dName 3) dYes (dLc false (dSeqI (dVar 3)) (dName 4) dYes (dCall 2 c_heart_by [] DX0 (dCons (dVar 0) (dCons (dVar 4) dNil))) [4]) [3])))))
def t_heart_steps_x (c_is_heart : DSp) (c_measure_by : DSp) (c_bounds_by : DSp) (c_is_step_by : DSp) (c_heart_by : DSp) : DXE → DTS :=
 fun E => (dSeq (dIfS (dNot (dTru (dCall 1 c_is_heart [] DX0 (dCons (dVar 0) dNil)))) (dRaise "InvalidCutting" (dCons (dVar 0) dNil) E) dNext)
 (dSeq (dAsg (dCall 1 c_measure_by [] DX0 (dCons (dVar 0) dNil)) (dName 1))
 (dSeq (dAsg (dOp gIx (dCall 1 c_bounds_by [] DX0 (dCons (dVar 1) dNil)) (dC (.int 0))) (dName 2))
 (dSeq (dAsg (dOp gAdd (dOp (rBin CDiv fun i j => i.fdiv j) (dOp (rBin (fun _ _ => True) fun i j => i - j) (dOp (rBin (fun _ _ => True) fun i j => i - j) (dOp (rBin (fun _ _ => True) fun i j => i - j) (dC (.int 0)) (dOp gIx (dVar 0) (dC (.int 3)))) (dC (.int 2))) (dVar 2)) (dC (.int 2))) (dC (.int 1))) (dName 3))
 (dSeq (dIfS (dTru (dOp (gCmpI fun i j => decide (j < i)) (dVar 3) (dC (.int 5000)))) (dRaise "TooMany" (dCons (dVar 3) dNil) E) dNext)
 (dSeq (dAsg (dLc false (dRngI gRng3 (dCons (dVar 2) (dCons (dOp (rBin (fun _ _ => True) fun i j => i - j) (dOp (rBin (fun _ _ => True) fun i j => i - j) (dC (.int 0)) (dOp gIx (dVar 0) (dC (.int 3)))) (dC (.int 1))) (dCons (dC (.int 2)) dNil)))) (dName 5) (dTru (dCall 3 c_is_step_by [] DX0 (dCons (dVar 1) (dCons (dOp gIx (dVar 0) (dC (.int 3))) (dCons (dVar 5) dNil))))) (dVar 5) [5]) (dName 4))
 (dRet (dLc false (dSeqI (dVar 4)) (dName 5) dYes (dCall 2 c_heart_by [] DX0 (dCons (dVar 1) (dCons (dVar 5) dNil))) [5]))))))))
def t_heart_distance_x (c_check_cutting_x : DSp) (c_far_by : DSp) : DXE → DTS :=
 fun E => (dSeq (dDrop (dCallX 1 c_check_cutting_x (fun E => (dCons (dVar 0) dNil)) E))
 (dRet (dCall 1 c_far_by [] DX0 (dCons (dVar 0) dNil))))
def t_word_to_heart_x (c_check_cutting_x : DSp) (c_to_heart_by : DSp) : DXE → DTS :=
 fun E => (dSeq (dDrop (dCallX 1 c_check_cutting_x (fun E => (dCons (dVar 0) dNil)) E))
 (dRet (dOp gIx (dCall 1 c_to_heart_by [] DX0 (dCons (dVar 0) dNil)) (dC (.int 0)))))
def t_check_two_x (c_check_cutting_x : DSp) (c_measure_by : DSp) : DXE → DTS :=
 fun E => (dSeq (dDrop (dCallX 1 c_check_cutting_x (fun E => (dCons (dVar 0) dNil)) E))
 (dSeq (dDrop (dCallX 1 c_check_cutting_x (fun E => (dCons (dVar 1) dNil)) E))
 (dIfS (dTru (dOp gNe (dCall 1 c_measure_by [] DX0 (dCons (dVar 0) dNil)) (dCall 1 c_measure_by [] DX0 (dCons (dVar 1) dNil)))) (dRaise "Unlike" (dCons (dVar 1) dNil) E) dNext)))
def t_parted_by (c_measure_by : DSp) : DTS :=
 (dSeq (dAsg (dCall 1 c_measure_by [] DX0 (dCons (dVar 0) dNil)) (dName 2))
 (dRet (dAndV (dOp gEq (dOp (rBin CMod fun i j => i.fmod j) (dVar 2) (dC (.int 8))) (dC (.int 1))) (dAndV (dOp gNe (dVar 2) (dC (.int 9))) (dOp gNe (dOp (rBin CMod fun i j => i.fmod j) (dOp (rBin (fun _ _ => True) fun i j => i - j) (dOp gIx (dVar 0) (dC (.int 3))) (dOp gIx (dVar 1) (dC (.int 3)))) (dC (.int 4))) (dC (.int 0)))))))
def t_searched_by_n : DTS :=
 dNever
def t_line_down_n : DTS :=
 dNever
def t_between_by_n : DTS :=
 dNever
def t_numbers_by (c_measure_by : DSp) (c_searched_by_n : DSp) (c_line_down_n : DSp) (c_between_by_n : DSp) : DTS :=
 (dSeq (dPar3 2 3 4 (dCons (dCall 1 c_measure_by [] DX0 (dCons (dVar 0) dNil)) (dCons (dOp gIx (dVar 0) (dC (.int 3))) (dCons (dOp gIx (dVar 1) (dC (.int 3))) dNil))))
 (dSeq (dIfS (dTru (dOp gEq (dVar 3) (dVar 4))) (dRet (dLst (dCons (dVar 3) dNil))) dNext)
 (dSeq (dIfS (dTru (dOp (gCmpI fun i j => decide (i ≤ j)) (dVar 2) (dC (.int 2000)))) (dRet (dCall 2 c_searched_by_n [] DX0 (dCons (dVar 0) (dCons (dVar 1) dNil)))) dNext)
 (dSeq (dPar 5 6 (dCons (dCall 2 c_line_down_n [] DX0 (dCons (dVar 2) (dCons (dVar 3) dNil))) (dCons (dRev false (dCall 2 c_line_down_n [] DX0 (dCons (dVar 2) (dCons (dVar 4) dNil)))) dNil)))
 (dSeq (dIfS (dTru (dOp gEq (dOp gIx (dVar 5) (dNeg (dC (.int 1)))) (dOp gIx (dVar 6) (dC (.int 0))))) (dRet (dOp gAdd (dVar 5) (dSl (gSl false) (dVar 6) (dPart (dC (.int 1))) dNoPart))) dNext)
 (dRet (dOp gAdd (dOp gAdd (dVar 5) (dLst (dCons (dCall 3 c_between_by_n [] DX0 (dCons (dVar 2) (dCons (dOp gIx (dVar 5) (dNeg (dC (.int 1)))) (dCons (dOp gIx (dVar 6) (dC (.int 0))) dNil)))) dNil))) (dVar 6))))))))
def t_walked_by_n : DTS :=
 dNever
def t_step_deed_by : DTS :=
 (dSeq (dAsg (dOp (rBin CDiv fun i j => i.fdiv j) (dOp (rBin (fun _ _ => True) fun i j => i - j) (dOp (rBin (fun _ _ => True) fun i j => i - j) (dC (.int 0)) (dVar 0)) (dVar 1)) (dC (.int 2))) (dName 2))
 (dRet (dIf (dTru (dOp gEq (dVar 2) (dC (.int 1)))) (dTup (dCons (dC (.int 0)) (dCons (dC (.int 1)) dNil))) (dTup (dCons (dC (.int 1)) (dCons (dVar 2) dNil))))))
def t_turned_by (c_back_by : DSp) (c_done_by : DSp) : DTS :=
 (dSeq (dPar 2 3 (dCons (dVar 0) (dCons (dLst dNil) dNil)))
 (dSeq (dFor (dSeqI (dVar 1)) (dName 4) (dSeq (dAsg (dOp gAdd (dLst (dCons (dCall 2 c_back_by [] DX0 (dCons (dVar 2) (dCons (dVar 4) dNil))) dNil)) (dVar 3)) (dName 3))
 (dAsg (dCall 2 c_done_by [] DX0 (dCons (dVar 2) (dCons (dVar 4) dNil))) (dName 2))))
 (dRet (dVar 3))))
def t_road_by (c_to_heart_by : DSp) (c_parted_by : DSp) (c_numbers_by : DSp) (c_walked_by_n : DSp) (c_step_deed_by : DSp) (c_turned_by : DSp) : DTS :=
 (dSeq (dAsg (dTup (dCons (dCall 1 c_to_heart_by [] DX0 (dCons (dVar 0) dNil)) (dCons (dCall 1 c_to_heart_by [] DX0 (dCons (dVar 1) dNil)) dNil))) (dGTup 2 (dGCons (dGTup 2 (dGCons (dName 2) (dGCons (dName 3) dGNil))) (dGCons (dGTup 2 (dGCons (dName 4) (dGCons (dName 5) dGNil))) dGNil))))
 (dSeq (dIfS (dTru (dCall 2 c_parted_by [] DX0 (dCons (dVar 3) (dCons (dVar 5) dNil)))) (dRet (dC .non)) dNext)
 (dSeq (dAsg (dCall 2 c_numbers_by [] DX0 (dCons (dVar 3) (dCons (dVar 5) dNil))) (dName 6))
 (dSeq (dIfS (dTru (dOp (gIs false) (dVar 6) (dC .non))) (dRet (dCall 2 c_walked_by_n [] DX0 (dCons (dVar 0) (dCons (dVar 1) dNil)))) dNext)
 (dSeq (dAsg (dLc false (dRngI gRng1 (dCons (dOp (rBin (fun _ _ => True) fun i j => i - j) (dCB gLen (dCons (dVar 6) dNil)) (dC (.int 1))) dNil)) (dName 8) dYes (dCall 2 c_step_deed_by [] DX0 (dCons (dOp gIx (dVar 6) (dVar 8)) (dCons (dOp gIx (dVar 6) (dOp gAdd (dVar 8) (dC (.int 1)))) dNil))) [8]) (dName 7))
 (dRet (dOp gAdd (dOp gAdd (dVar 2) (dVar 7)) (dCall 2 c_turned_by [] DX0 (dCons (dVar 1) (dCons (dVar 4) dNil))))))))))
def t_road_x (c_check_two_x : DSp) (c_road_by : DSp) : DXE → DTS :=
 fun E => (dSeq (dDrop (dCallX 2 c_check_two_x (fun E => (dCons (dVar 0) (dCons (dVar 1) dNil))) E))
 (dRet (dCall 2 c_road_by [] DX0 (dCons (dVar 0) (dCons (dVar 1) dNil)))))
def t_is_road_by (c_is_deed_by : DSp) (c_done_by : DSp) : DTS :=
 (dSeq (dIfS (dOr (dNot (dTru (dCB gIsi (dCons (dVar 2) (dCons (dC (.val (.ty "list"))) dNil))))) (dTru (dOp (gCmpI fun i j => decide (j < i)) (dCB gLen (dCons (dVar 2) dNil)) (dC (.int 1000))))) (dRet (dC (.bl false))) dNext)
 (dSeq (dAsg (dVar 0) (dName 3))
 (dSeq (dFor (dSeqI (dVar 2)) (dName 4) (dSeq (dIfS (dNot (dTru (dCall 2 c_is_deed_by [] DX0 (dCons (dVar 3) (dCons (dVar 4) dNil))))) (dRet (dC (.bl false))) dNext)
 (dAsg (dCall 2 c_done_by [] DX0 (dCons (dVar 3) (dCons (dVar 4) dNil))) (dName 3))))
 (dRet (dOp gEq (dVar 3) (dVar 1))))))
def t_is_road_x (c_check_two_x : DSp) (c_is_road_by : DSp) : DXE → DTS :=
 fun E => (dSeq (dDrop (dCallX 2 c_check_two_x (fun E => (dCons (dVar 0) (dCons (dVar 1) dNil))) E))
 (dRet (dCall 3 c_is_road_by [] DX0 (dCons (dVar 0) (dCons (dVar 1) (dCons (dVar 2) dNil))))))
def t_l_asked_0403_x (c_how_many_heart_x : DSp) (c_heart_lots_x : DSp) (c_heart_number_x : DSp) (c_heart_steps_x : DSp) (c_heart_distance_x : DSp) (c_word_to_heart_x : DSp) (c_heart_numbered_x : DSp) (c_road_x : DSp) (c_is_road_x : DSp) : DXE → DTS :=
 fun E => (dSeq (dIfS (dTru (dOp (gCmpI fun i j => decide (i < j)) (dVar 0) (dC (.int 6)))) (dRet (dCallV [("how_many_heart", 1, c_how_many_heart_x), ("heart_lots", 1, c_heart_lots_x), ("heart_number", 1, c_heart_number_x), ("heart_steps", 1, c_heart_steps_x), ("heart_distance", 1, c_heart_distance_x), ("word_to_heart", 1, c_word_to_heart_x)] (dOp gIx (dLst (dCons (dC (.glb "how_many_heart")) (dCons (dC (.glb "heart_lots")) (dCons (dC (.glb "heart_number")) (dCons (dC (.glb "heart_steps")) (dCons (dC (.glb "heart_distance")) (dCons (dC (.glb "word_to_heart")) dNil))))))) (dVar 0)) (fun E => (dCons (dOp gIx (dVar 1) (dC (.int 0))) dNil)) E)) dNext)
 (dSeq (dIfS (dTru (dOp (gCmpI fun i j => decide (i < j)) (dVar 0) (dC (.int 8)))) (dRet (dCallV [("heart_numbered", 2, c_heart_numbered_x), ("road", 2, c_road_x)] (dOp gIx (dLst (dCons (dC (.glb "heart_numbered")) (dCons (dC (.glb "road")) dNil))) (dOp (rBin (fun _ _ => True) fun i j => i - j) (dVar 0) (dC (.int 6)))) (fun E => (dCons (dOp gIx (dVar 1) (dC (.int 0))) (dCons (dOp gIx (dVar 1) (dC (.int 1))) dNil))) E)) dNext)
 (dRet (dCallX 3 c_is_road_x (fun E => (dCons (dOp gIx (dVar 1) (dC (.int 0))) (dCons (dOp gIx (dVar 1) (dC (.int 1))) (dCons (dOp gIx (dVar 1) (dC (.int 2))) dNil)))) E))))
def t_l_told_db71 (c_l_asked_0403_x : DSp) : DTS :=
 (dSeq (dAsg (dC .non) (dName 2))
 (dSeq (dTry "SheetError" 3 (fun E => (dDrop (dCallX 2 c_l_asked_0403_x (fun E => (dCons (dVar 0) (dCons (dVar 1) dNil))) E))) (dAsg (dVar 3) (dName 2)))
 (dSeq (dIfS (dTru (dOp (gIs false) (dVar 2) (dC .non))) (dRet (dLst (dCons (dC (.str (PySem.Str.ofString "let"))) dNil))) dNext)
 (dSeq (dAsg (dLst (dCons (dCB (gIsx errL_k33) (dCons (dVar 2) (dCons (dC (.glb "InvalidMeasure")) dNil))) (dCons (dCB (gIsx errL_k33) (dCons (dVar 2) (dCons (dC (.glb "InvalidNumber")) dNil))) (dCons (dCB (gIsx errL_k33) (dCons (dVar 2) (dCons (dC (.glb "InvalidCutting")) dNil))) dNil)))) (dName 4))
 (dSeq (dAsg (dOp gAdd (dVar 4) (dLst (dCons (dCB (gIsx errL_k33) (dCons (dVar 2) (dCons (dC (.glb "Unlike")) dNil))) (dCons (dCB (gIsx errL_k33) (dCons (dVar 2) (dCons (dC (.glb "TooMany")) dNil))) dNil)))) (dName 4))
 (dSeq (dIfS (dOr (dTru (dOp gNe (dMeth gCount (dVar 4) (dCons (dC (.bl true)) dNil)) (dC (.int 1)))) (dNot (dTru (dCB (gIsx errL_k33) (dCons (dVar 2) (dCons (dC (.val (.ty "ValueError"))) dNil)))))) (dRet (dLst (dCons (dC (.str (PySem.Str.ofString "odd"))) dNil))) dNext)
 (dRet (dLst (dCons (dOp gIx (dLst (dCons (dC (.str (PySem.Str.ofString "measure"))) (dCons (dC (.str (PySem.Str.ofString "number"))) (dCons (dC (.str (PySem.Str.ofString "cutting"))) (dCons (dC (.str (PySem.Str.ofString "unlike"))) (dCons (dC (.str (PySem.Str.ofString "many"))) dNil)))))) (dMeth gIndex (dVar 4) (dCons (dC (.bl true)) dNil))) (dCons (dFld (dVar 2)) dNil))))))))))
def t_l_all_refused_8142 (c_l_told_db71 : DSp) : DTS :=
 (dSeq (dFor (dSeqI (dLst (dCons (dC .non) (dCons (dVar 3) (dCons (dC (.int 0)) dNil))))) (dName 4) (dFor (dSeqI (dVar 0)) (dName 5) (dSeq (dAsg (dCB gReprZ (dCons (dVar 3) dNil)) (dName 6))
 (dIfS (dOr (dTru (dOp gNe (dCB gReprZ (dCons (dCall 2 c_l_told_db71 [] DX0 (dCons (dVar 5) (dCons (dOp gAdd (dOp gAdd (dVar 1) (dLst (dCons (dVar 3) dNil))) (dOp gMulL (dLst (dCons (dVar 4) dNil)) (dC (.int 3)))) dNil))) dNil)) (dCB gReprZ (dCons (dLst (dCons (dVar 2) (dCons (dVar 3) dNil))) dNil)))) (dTru (dOp gNe (dCB gReprZ (dCons (dVar 3) dNil)) (dVar 6)))) (dRet (dC (.bl false))) dNext))))
 (dRet (dC (.bl true))))
def t_l_wrong_cuttings_2ff2 (c_l_common_6be5 : DSp) : DTS :=
 (dSeq (dAsg (dVar 0) (dGTup 4 (dGCons (dName 1) (dGCons (dName 2) (dGCons (dName 3) (dGCons (dName 4) dGNil))))))
 (dSeq (dAsg (dLst (dCons (dC .non) (dCons (dC (.int 0)) (dCons (dC (.str (PySem.Str.ofString "c"))) (dCons (dLst dNil) (dCons (dTup dNil) (dCons (dC .dct0) (dCons (dC (.bl true)) (dCons (dLst (dCons (dVar 1) (dCons (dVar 2) (dCons (dVar 3) (dCons (dVar 4) dNil))))) (dCons (dTup (dCons (dVar 1) (dCons (dVar 2) (dCons (dVar 3) dNil)))) (dCons (dTup (dCons (dVar 1) (dCons (dVar 2) (dCons (dVar 3) (dCons (dVar 4) (dCons (dC (.int 0)) dNil)))))) (dCons (dTup (dCons (dVar 1) (dCons (dC (.int 0)) (dCons (dVar 3) (dCons (dVar 4) dNil))))) (dCons (dTup (dCons (dVar 1) (dCons (dVar 2) (dCons (dC (.int 0)) (dCons (dVar 4) dNil))))) (dCons (dTup (dCons (dVar 1) (dCons (dVar 2) (dCons (dVar 3) (dCons (dOp (rBin (fun _ _ => True) fun i j => i - j) (dVar 2) (dVar 3)) dNil))))) (dCons (dTup (dCons (dVar 1) (dCons (dVar 2) (dCons (dNeg (dC (.int 1))) (dCons (dVar 4) dNil))))) (dCons (dTup (dCons (dC (.int 0)) (dCons (dNeg (dC (.int 3))) (dCons (dC (.int 1)) (dCons (dNeg (dC (.int 9))) dNil))))) dNil)))))))))))))))) (dName 5))
 (dSeq (dAsg (dOp gAdd (dVar 5) (dLst (dCons (dTup (dCons (dCall 2 c_l_common_6be5 [] DX0 (dCons (dVar 2) (dCons (dVar 3) dNil))) (dCons (dVar 2) (dCons (dVar 3) (dCons (dVar 4) dNil))))) (dCons (dTup (dCons (dNeg (dC (.int 1))) (dCons (dVar 2) (dCons (dVar 3) (dCons (dVar 4) dNil))))) (dCons (dTup (dCons (dC (.bl true)) (dCons (dC (.int 2)) (dCons (dC (.int 2)) (dCons (dNeg (dC (.int 1))) dNil))))) (dCons (dTup (dCons (dC (.int 0)) (dCons (dC (.bl true)) (dCons (dC (.int 1)) (dCons (dNeg (dC (.int 1))) dNil))))) (dCons (dTup (dCons (dC (.int 0)) (dCons (dC (.int 1)) (dCons (dC (.bl true)) (dCons (dNeg (dC (.int 1))) dNil))))) (dCons (dTup (dCons (dC (.bl false)) (dCons (dC (.int 1)) (dCons (dC (.int 1)) (dCons (dNeg (dC (.int 1))) dNil))))) (dCons (dTup (dCons (dC (.int 0)) (dCons (dC (.int 1)) (dCons (dC (.int 1)) (dCons (dC .non) dNil))))) (dCons (dTup (dCons (dC (.int 0)) (dCons (dC (.str (PySem.Str.ofString "1"))) (dCons (dC (.int 1)) (dCons (dNeg (dC (.int 1))) dNil))))) dNil)))))))))) (dName 5))
 (dSeq (dAsg (dOp gAdd (dVar 5) (dLst (dCons (dTup (dCons (dC (.int 0)) (dCons (dC (.int 2)) (dCons (dC (.int 1)) (dCons (dC (.bl false)) dNil))))) (dCons (dTup (dCons (dC (.int 0)) (dCons (dC (.int 5)) (dCons (dC (.int 1)) (dCons (dC (.bl true)) dNil))))) (dCons (dTup (dCons (dC (.int 0)) (dCons (dC .non) (dCons (dC (.int 1)) (dCons (dNeg (dC (.int 1))) dNil))))) (dCons (dTup (dCons (dC (.int 0)) (dCons (dC (.int 5)) (dCons (dLst (dCons (dC (.int 1)) dNil)) (dCons (dNeg (dC (.int 1))) dNil))))) dNil)))))) (dName 5))
 (dRet (dOp gAdd (dVar 5) (dLst (dCons (dTup (dCons (dC (.int 0)) (dCons (dC (.int 4)) (dCons (dC (.int 2)) (dCons (dNeg (dC (.int 2))) dNil))))) (dCons (dTup (dCons (dC (.int 0)) (dCons (dC (.int 2)) (dCons (dC (.int 2)) (dCons (dNeg (dC (.int 2))) dNil))))) (dCons (dTup (dCons (dC (.int 0)) (dCons (dC (.int 1)) (dCons (dC (.int 1)) (dCons (dC (.int 0)) dNil))))) (dCons (dTup (dCons (dLst (dCons (dC (.int 0)) dNil)) (dCons (dC (.int 1)) (dCons (dC (.int 1)) (dCons (dNeg (dC (.int 1))) dNil))))) (dCons (dTup (dCons (dC (.int 0)) (dCons (dC (.int 3)) (dCons (dC (.int 3)) (dCons (dNeg (dC (.int 3))) dNil))))) dNil))))))))))))
def t_l_law_a8bd (c_l_generator_b324 : DSp) (c_l_great_5836 : DSp) (c_l_measured_5aba : DSp) (c_l_all_refused_8142 : DSp) (c_l_wrong_cuttings_2ff2 : DSp) (c_is_heart : DSp) (c_l_told_db71 : DSp) : DTS :=
 (dSeq (dAsg (dCall 2 c_l_generator_b324 [] DX0 (dCons (dVar 0) (dCons (dC (.int 0)) dNil))) (dName 1))
 (dSeq (dAsg (dCall 2 c_l_great_5836 [] DX0 (dCons (dVar 1) (dCons (dC (.int 3)) dNil))) (dName 2))
 (dSeq (dAsg (dCall 1 c_l_measured_5aba [] DX0 (dCons (dVar 2) dNil)) (dName 3))
 (dSeq (dFor (dSeqI (dLst (dCons (dC .non) (dCons (dC (.int 0)) (dCons (dC (.int 4)) (dCons (dC (.int 6)) (dCons (dC (.int 7)) (dCons (dNeg (dC (.int 3))) (dCons (dC (.bl true)) (dCons (dC (.str (PySem.Str.ofString "5"))) (dCons (dLst (dCons (dC (.int 5)) dNil)) (dCons (dTup (dCons (dC (.int 5)) dNil)) (dCons (dC .dct0) dNil))))))))))))) (dName 4) (dIfS (dNot (dTru (dCall 4 c_l_all_refused_8142 [] DX0 (dCons (dLst (dCons (dC (.int 0)) (dCons (dC (.int 1)) (dCons (dC (.int 6)) dNil)))) (dCons (dLst dNil) (dCons (dC (.str (PySem.Str.ofString "measure"))) (dCons (dVar 4) dNil))))))) (dRet (dC (.bl false))) dNext))
 (dSeq (dFor (dSeqI (dLst (dCons (dC .non) (dCons (dNeg (dC (.int 1))) (dCons (dC (.bl true)) (dCons (dC (.bl false)) (dCons (dC (.str (PySem.Str.ofString "0"))) (dCons (dLst (dCons (dC (.int 0)) dNil)) (dCons (dTup (dCons (dC (.int 0)) dNil)) (dCons (dC (.int 1)) (dCons (dOp (rBin CPow fun i j => i ^ j.toNat) (dC (.int 10)) (dC (.int 29))) dNil))))))))))) (dName 4) (dIfS (dNot (dTru (dCall 4 c_l_all_refused_8142 [] DX0 (dCons (dLst (dCons (dC (.int 6)) dNil)) (dCons (dLst (dCons (dC (.int 5)) dNil)) (dCons (dC (.str (PySem.Str.ofString "number"))) (dCons (dVar 4) dNil))))))) (dRet (dC (.bl false))) dNext))
 (dSeq (dFor (dSeqI (dCall 1 c_l_wrong_cuttings_2ff2 [] DX0 (dCons (dVar 2) dNil))) (dName 4) (dIfS (dOr (dNot (dTru (dCall 4 c_l_all_refused_8142 [] DX0 (dCons (dLst (dCons (dC (.int 2)) (dCons (dC (.int 3)) (dCons (dC (.int 4)) (dCons (dC (.int 5)) (dCons (dC (.int 7)) (dCons (dC (.int 8)) dNil))))))) (dCons (dLst dNil) (dCons (dC (.str (PySem.Str.ofString "cutting"))) (dCons (dVar 4) dNil))))))) (dOr (dNot (dTru (dCall 4 c_l_all_refused_8142 [] DX0 (dCons (dLst (dCons (dC (.int 7)) (dCons (dC (.int 8)) dNil))) (dCons (dLst (dCons (dVar 2) dNil)) (dCons (dC (.str (PySem.Str.ofString "cutting"))) (dCons (dVar 4) dNil))))))) (dTru (dOp (gIs true) (dCall 1 c_is_heart [] DX0 (dCons (dVar 4) dNil)) (dC (.bl false)))))) (dRet (dC (.bl false))) dNext))
 (dSeq (dFor (dSeqI (dLst (dCons (dTup (dCons (dC (.int 0)) (dCons (dC (.int 2)) (dCons (dC (.int 2)) (dCons (dNeg (dC (.int 1))) dNil))))) (dCons (dTup (dCons (dC (.int 1)) (dCons (dC (.int 2)) (dCons (dC (.int 2)) (dCons (dNeg (dC (.int 1))) dNil))))) (dCons (dTup (dCons (dC (.int 0)) (dCons (dC (.int 1)) (dCons (dC (.int 2)) (dCons (dNeg (dC (.int 3))) dNil))))) dNil))))) (dName 4) (dIfS (dNot (dTru (dCall 4 c_l_all_refused_8142 [] DX0 (dCons (dLst (dCons (dC (.int 2)) (dCons (dC (.int 3)) dNil))) (dCons (dLst dNil) (dCons (dC (.str (PySem.Str.ofString "cutting"))) (dCons (dVar 4) dNil))))))) (dRet (dC (.bl false))) dNext))
 (dSeq (dAsg (dIf (dTru (dOp gNeD (dVar 3) (dC (.int 5)))) (dTup (dCons (dC (.int 0)) (dCons (dC (.int 1)) (dCons (dC (.int 1)) (dCons (dNeg (dC (.int 1))) dNil))))) (dTup (dCons (dC (.int 0)) (dCons (dC (.int 2)) (dCons (dC (.int 1)) (dCons (dNeg (dC (.int 3))) dNil)))))) (dName 5))
 (dSeq (dAsg (dTup (dCons (dC (.int 0)) (dCons (dOp gAdd (dOp (rBin CMul fun i j => i * j) (dOp gIx (dVar 2) (dC (.int 1))) (dOp gIx (dVar 2) (dC (.int 2)))) (dC (.int 1))) (dCons (dC (.int 1)) (dCons (dOp gIx (dVar 2) (dC (.int 3))) dNil))))) (dName 6))
 (dSeq (dIfS (dOr (dNot (dTru (dCall 4 c_l_all_refused_8142 [] DX0 (dCons (dLst (dCons (dC (.int 7)) (dCons (dC (.int 8)) dNil))) (dCons (dLst (dCons (dVar 2) dNil)) (dCons (dC (.str (PySem.Str.ofString "unlike"))) (dCons (dVar 5) dNil))))))) (dNot (dTru (dCall 4 c_l_all_refused_8142 [] DX0 (dCons (dLst (dCons (dC (.int 7)) (dCons (dC (.int 8)) dNil))) (dCons (dLst (dCons (dVar 2) dNil)) (dCons (dC (.str (PySem.Str.ofString "unlike"))) (dCons (dVar 6) dNil)))))))) (dRet (dC (.bl false))) dNext)
 (dSeq (dAsg (dOwn (dCons (dC (.int 5)) dNil)) (dName 7))
 (dSeq (dAsg (dLc false (dRngI gRng1 (dCons (dC (.int 9)) dNil)) (dName 9) dYes (dCall 2 c_l_told_db71 [] DX0 (dCons (dVar 9) (dCons (dLst (dCons (dVar 7) (dCons (dVar 7) (dCons (dVar 7) dNil)))) dNil))) [9]) (dName 8))
 (dSeq (dDrop (dMet gAppend (dVar 7) (dCons (dC (.int 7)) dNil)))
 (dSeq (dIfS (dOr (dTru (dOp gNeD (dLc false (dSeqI (dVar 8)) (dName 10) dYes (dOp gIx (dVar 10) (dC (.int 1))) [10]) (dOp gMulL (dLst (dCons (dLst (dCons (dC (.int 5)) (dCons (dC (.int 7)) dNil))) dNil)) (dC (.int 9))))) (dTru (dOp gNeD (dCall 2 c_l_told_db71 [] DX0 (dCons (dC (.int 1)) (dCons (dLst (dCons (dC (.int 400000001)) dNil)) dNil))) (dLst (dCons (dC (.str (PySem.Str.ofString "many"))) (dCons (dC (.int 19999)) dNil)))))) (dRet (dC (.bl false))) dNext)
 (dSeq (dAsg (dOp gAdd (dOp gAdd (dLc false (dSeqI (dLst (dCons (dC (.int 0)) (dCons (dC (.int 1)) dNil)))) (dName 9) dYes (dCall 2 c_l_told_db71 [] DX0 (dCons (dVar 9) (dCons (dLst (dCons (dC (.int 17)) dNil)) dNil))) [9]) (dLc false (dSeqI (dLst (dCons (dC (.int 2)) (dCons (dC (.int 3)) dNil)))) (dName 9) dYes (dCall 2 c_l_told_db71 [] DX0 (dCons (dVar 9) (dCons (dLst (dCons (dTup (dCons (dC (.int 0)) (dCons (dC (.int 4)) (dCons (dC (.int 1)) (dCons (dC (.int 1)) dNil))))) dNil)) dNil))) [9])) (dLc false (dSeqI (dLst (dCons (dC (.int 4)) (dCons (dC (.int 5)) dNil)))) (dName 9) dYes (dCall 2 c_l_told_db71 [] DX0 (dCons (dVar 9) (dCons (dLst (dCons (dVar 2) dNil)) dNil))) [9])) (dName 11))
 (dRet (dOp gEqD (dOp gAdd (dVar 11) (dLst (dCons (dCall 2 c_l_told_db71 [] DX0 (dCons (dC (.int 6)) (dCons (dLst (dCons (dC (.int 5)) (dCons (dC (.int 0)) dNil))) dNil))) (dCons (dCall 2 c_l_told_db71 [] DX0 (dCons (dC (.int 7)) (dCons (dLst (dCons (dVar 2) (dCons (dVar 2) dNil))) dNil))) (dCons (dCall 2 c_l_told_db71 [] DX0 (dCons (dC (.int 8)) (dCons (dLst (dCons (dVar 2) (dCons (dVar 2) (dCons (dC .non) dNil)))) dNil))) dNil))))) (dOp gMulL (dLst (dCons (dLst (dCons (dC (.str (PySem.Str.ofString "let"))) dNil)) dNil)) (dC (.int 9))))))))))))))))))))
end DL
namespace C_k33
open PySem PySem.Spec PyProof.Rows L2 DL
def topS (i : Nat) : Stmt := PySem.Challenge.pw_slitsheets_k33_hearts_and_roads_refused.main.body.getD i (.Pass ⟨0, 0, 0, 0⟩)
abbrev s_l_cell_cf3b : Stmt := topS 70
theorem sc_l_cell_cf3b : FnScope ["_law_script", "_law_index"] ["_law_script", "_law_index"] (defScope s_l_cell_cf3b) := ⟨rfl, rfl, rfl, by decide +kernel, rfl, by decide +kernel, by decide +kernel⟩
abbrev s_l_generator_b324 : Stmt := topS 71
theorem sc_l_generator_b324 : FnScope ["_law_script", "_law_index", "_law_seed"] ["_law_script", "_law_index"] (defScope s_l_generator_b324) := ⟨rfl, rfl, rfl, by decide +kernel, rfl, by decide +kernel, by decide +kernel⟩
abbrev s_l_hash_9cde : Stmt := topS 68
theorem sc_l_hash_9cde : FnScope ["_law_seed", "_law_index", "_law_mixed"] ["_law_seed", "_law_index"] (defScope s_l_hash_9cde) := ⟨rfl, rfl, rfl, by decide +kernel, rfl, by decide +kernel, by decide +kernel⟩
abbrev s_l_random_7821 : Stmt := topS 69
theorem sc_l_random_7821 : FnScope ["_law_generator_here", "_law_bound", "_law_drawn", "_law_turn"] ["_law_generator_here", "_law_bound"] (defScope s_l_random_7821) := ⟨rfl, rfl, rfl, by decide +kernel, rfl, by decide +kernel, by decide +kernel⟩
abbrev s_l_common_6be5 : Stmt := topS 72
theorem sc_l_common_6be5 : FnScope ["_law_one", "_law_other", "_law_low", "_law_high"] ["_law_one", "_law_other"] (defScope s_l_common_6be5) := ⟨rfl, rfl, rfl, by decide +kernel, rfl, by decide +kernel, by decide +kernel⟩
abbrev s_l_measured_5aba : Stmt := topS 73
theorem sc_l_measured_5aba : FnScope ["_law_cutting"] ["_law_cutting"] (defScope s_l_measured_5aba) := ⟨rfl, rfl, rfl, by decide +kernel, rfl, by decide +kernel, by decide +kernel⟩
abbrev s_l_is_cutting_9b45 : Stmt := topS 74
theorem sc_l_is_cutting_9b45 : FnScope ["_law_value", "_law_a", "_law_b", "_law_c", "_law_e"] ["_law_value"] (defScope s_l_is_cutting_9b45) := ⟨rfl, rfl, rfl, by decide +kernel, rfl, by decide +kernel, by decide +kernel⟩
abbrev s_l_great_5836 : Stmt := topS 75
theorem sc_l_great_5836 : FnScope ["_law_generator_here", "_law_figures", "_law_bound", "_law_turn", "_law_by", "_law_c", "_law_e", "_law_least", "_law_b", "_law_value"] ["_law_generator_here", "_law_figures"] (defScope s_l_great_5836) := ⟨rfl, rfl, rfl, by decide +kernel, rfl, by decide +kernel, by decide +kernel⟩
abbrev s_is_whole : Stmt := topS 10
theorem sc_is_whole : FnScope ["value"] ["value"] (defScope s_is_whole) := ⟨rfl, rfl, rfl, by decide +kernel, rfl, by decide +kernel, by decide +kernel⟩
abbrev s_is_between : Stmt := topS 11
theorem sc_is_between : FnScope ["value", "low", "high"] ["value", "low", "high"] (defScope s_is_between) := ⟨rfl, rfl, rfl, by decide +kernel, rfl, by decide +kernel, by decide +kernel⟩
abbrev s_is_measure_by : Stmt := topS 13
theorem sc_is_measure_by : FnScope ["value"] ["value"] (defScope s_is_measure_by) := ⟨rfl, rfl, rfl, by decide +kernel, rfl, by decide +kernel, by decide +kernel⟩
abbrev s_check_measure_x : Stmt := topS 14
theorem sc_check_measure_x : FnScope ["measure"] ["measure"] (defScope s_check_measure_x) := ⟨rfl, rfl, rfl, by decide +kernel, rfl, by decide +kernel, by decide +kernel⟩
abbrev s_root_floor_by : Stmt := topS 15
theorem sc_root_floor_by : FnScope ["number", "found", "again"] ["number"] (defScope s_root_floor_by) := ⟨rfl, rfl, rfl, by decide +kernel, rfl, by decide +kernel, by decide +kernel⟩
abbrev s_bounds_by : Stmt := topS 35
theorem sc_bounds_by : FnScope ["measure", "root", "low", "high"] ["measure"] (defScope s_bounds_by) := ⟨rfl, rfl, rfl, by decide +kernel, rfl, by decide +kernel, by decide +kernel⟩
abbrev s_how_many_heart_x : Stmt := topS 44
theorem sc_how_many_heart_x : FnScope ["measure", "low", "high"] ["measure"] (defScope s_how_many_heart_x) := ⟨rfl, rfl, rfl, by decide +kernel, rfl, by decide +kernel, by decide +kernel⟩
abbrev s_common_by : Stmt := topS 16
theorem sc_common_by : FnScope ["one", "other", "low", "high"] ["one", "other"] (defScope s_common_by) := ⟨rfl, rfl, rfl, by decide +kernel, rfl, by decide +kernel, by decide +kernel⟩
abbrev s_is_step_by : Stmt := topS 37
theorem sc_is_step_by : FnScope ["measure", "one", "other", "by"] ["measure", "one", "other"] (defScope s_is_step_by) := ⟨rfl, rfl, rfl, by decide +kernel, rfl, by decide +kernel, by decide +kernel⟩
abbrev s_lots_by : Stmt := topS 42
theorem sc_lots_by : FnScope ["measure", "low", "high", "left", "found", "lot", "at", "number"] ["measure"] (defScope s_lots_by) := ⟨rfl, rfl, rfl, by decide +kernel, rfl, by decide +kernel, by decide +kernel⟩
abbrev s_heart_by : Stmt := topS 36
theorem sc_heart_by : FnScope ["measure", "number"] ["measure", "number"] (defScope s_heart_by) := ⟨rfl, rfl, rfl, by decide +kernel, rfl, by decide +kernel, by decide +kernel⟩
abbrev s_heart_lots_x : Stmt := topS 50
theorem sc_heart_lots_x : FnScope ["measure", "low", "high", "lot", "number"] ["measure"] (defScope s_heart_lots_x) := ⟨rfl, rfl, rfl, by decide +kernel, rfl, by decide +kernel, by decide +kernel⟩
abbrev s_is_cutting_by : Stmt := topS 18
theorem sc_is_cutting_by : FnScope ["value", "item", "low", "high", "side", "turn", "both"] ["value"] (defScope s_is_cutting_by) := ⟨rfl, rfl, rfl, by decide +kernel, rfl, by decide +kernel, by decide +kernel⟩
abbrev s_is_heart : Stmt := topS 43
theorem sc_is_heart : FnScope ["value"] ["value"] (defScope s_is_heart) := ⟨rfl, rfl, rfl, by decide +kernel, rfl, by decide +kernel, by decide +kernel⟩
abbrev s_measure_by : Stmt := topS 20
theorem sc_measure_by : FnScope ["cutting"] ["cutting"] (defScope s_measure_by) := ⟨rfl, rfl, rfl, by decide +kernel, rfl, by decide +kernel, by decide +kernel⟩
abbrev s_heart_number_x : Stmt := topS 46
theorem sc_heart_number_x : FnScope ["cutting"] ["cutting"] (defScope s_heart_number_x) := ⟨rfl, rfl, rfl, by decide +kernel, rfl, by decide +kernel, by decide +kernel⟩
abbrev s_heart_steps_x : Stmt := topS 47
theorem sc_heart_steps_x : FnScope ["cutting", "measure", "low", "many", "numbers", "number"] ["cutting"] (defScope s_heart_steps_x) := ⟨rfl, rfl, rfl, by decide +kernel, rfl, by decide +kernel, by decide +kernel⟩
abbrev s_check_cutting_x : Stmt := topS 19
theorem sc_check_cutting_x : FnScope ["cutting"] ["cutting"] (defScope s_check_cutting_x) := ⟨rfl, rfl, rfl, by decide +kernel, rfl, by decide +kernel, by decide +kernel⟩
abbrev s_far_by : Stmt := topS 39
theorem sc_far_by : FnScope ["cutting", "a", "b", "c", "_"] ["cutting"] (defScope s_far_by) := ⟨rfl, rfl, rfl, by decide +kernel, rfl, by decide +kernel, by decide +kernel⟩
abbrev s_heart_distance_x : Stmt := topS 48
theorem sc_heart_distance_x : FnScope ["cutting"] ["cutting"] (defScope s_heart_distance_x) := ⟨rfl, rfl, rfl, by decide +kernel, rfl, by decide +kernel, by decide +kernel⟩
abbrev s_shared : Stmt := topS 26
theorem sc_shared : FnScope ["one", "other", "low", "high", "first", "second", "third", "fourth", "turn"] ["one", "other"] (defScope s_shared) := ⟨rfl, rfl, rfl, by decide +kernel, rfl, by decide +kernel, by decide +kernel⟩
abbrev s_opposite_by : Stmt := topS 27
theorem sc_opposite_by : FnScope ["number", "modulus"] ["number", "modulus"] (defScope s_opposite_by) := ⟨rfl, rfl, rfl, by decide +kernel, rfl, by decide +kernel, by decide +kernel⟩
abbrev s_beside : Stmt := topS 28
theorem sc_beside : FnScope ["deed", "near", "far", "high"] ["deed"] (defScope s_beside) := ⟨rfl, rfl, rfl, by decide +kernel, rfl, by decide +kernel, by decide +kernel⟩
abbrev s_table_by : Stmt := topS 29
theorem sc_table_by : FnScope ["cutting", "deed", "slant", "wide", "high", "shift", "near", "far", "left", "right", "low"] ["cutting", "deed"] (defScope s_table_by) := ⟨rfl, rfl, rfl, by decide +kernel, rfl, by decide +kernel, by decide +kernel⟩
abbrev s_full_by : Stmt := topS 30
theorem sc_full_by : FnScope ["cutting", "deed", "one", "two", "three", "four", "left", "right", "high", "first", "second", "wide", "common", "found", "slant", "lot", "turn", "new"] ["cutting", "deed"] (defScope s_full_by) := ⟨rfl, rfl, rfl, by decide +kernel, rfl, by decide +kernel, by decide +kernel⟩
abbrev s_done_by : Stmt := topS 31
theorem sc_done_by : FnScope ["cutting", "deed"] ["cutting", "deed"] (defScope s_done_by) := ⟨rfl, rfl, rfl, by decide +kernel, rfl, by decide +kernel, by decide +kernel⟩
abbrev s_nearer_by : Stmt := topS 40
theorem sc_nearer_by : FnScope ["cutting", "far", "p"] ["cutting"] (defScope s_nearer_by) := ⟨rfl, rfl, rfl, by decide +kernel, rfl, by decide +kernel, by decide +kernel⟩
abbrev s_to_heart_by : Stmt := topS 41
theorem sc_to_heart_by : FnScope ["cutting", "here", "found", "deed"] ["cutting"] (defScope s_to_heart_by) := ⟨rfl, rfl, rfl, by decide +kernel, rfl, by decide +kernel, by decide +kernel⟩
abbrev s_word_to_heart_x : Stmt := topS 49
theorem sc_word_to_heart_x : FnScope ["cutting"] ["cutting"] (defScope s_word_to_heart_x) := ⟨rfl, rfl, rfl, by decide +kernel, rfl, by decide +kernel, by decide +kernel⟩
abbrev s_check_number_x : Stmt := topS 12
theorem sc_check_number_x : FnScope ["number", "low", "high"] ["number", "low", "high"] (defScope s_check_number_x) := ⟨rfl, rfl, rfl, by decide +kernel, rfl, by decide +kernel, by decide +kernel⟩
abbrev s_heart_numbered_x : Stmt := topS 45
theorem sc_heart_numbered_x : FnScope ["measure", "number", "low", "high"] ["measure", "number"] (defScope s_heart_numbered_x) := ⟨rfl, rfl, rfl, by decide +kernel, rfl, by decide +kernel, by decide +kernel⟩
abbrev s_check_two_x : Stmt := topS 64
theorem sc_check_two_x : FnScope ["one", "other"] ["one", "other"] (defScope s_check_two_x) := ⟨rfl, rfl, rfl, by decide +kernel, rfl, by decide +kernel, by decide +kernel⟩
abbrev s_parted_by : Stmt := topS 61
theorem sc_parted_by : FnScope ["one", "other", "measure"] ["one", "other"] (defScope s_parted_by) := ⟨rfl, rfl, rfl, by decide +kernel, rfl, by decide +kernel, by decide +kernel⟩
abbrev s_searched_by_n : Stmt := topS 55
theorem sc_searched_by_n : FnScope ["one", "other", "measure", "start", "goal", "low", "high", "known", "waiting", "at", "number"] ["one", "other"] (defScope s_searched_by_n) := ⟨rfl, rfl, rfl, by decide +kernel, rfl, by decide +kernel, by decide +kernel⟩
abbrev s_line_down_n : Stmt := topS 57
theorem sc_line_down_n : FnScope ["measure", "number", "found", "low"] ["measure", "number"] (defScope s_line_down_n) := ⟨rfl, rfl, rfl, by decide +kernel, rfl, by decide +kernel, by decide +kernel⟩
abbrev s_between_by_n : Stmt := topS 56
theorem sc_between_by_n : FnScope ["measure", "one", "other", "low", "number"] ["measure", "one", "other"] (defScope s_between_by_n) := ⟨rfl, rfl, rfl, by decide +kernel, rfl, by decide +kernel, by decide +kernel⟩
abbrev s_numbers_by : Stmt := topS 58
theorem sc_numbers_by : FnScope ["one", "other", "measure", "start", "goal", "ahead", "behind"] ["one", "other"] (defScope s_numbers_by) := ⟨rfl, rfl, rfl, by decide +kernel, rfl, by decide +kernel, by decide +kernel⟩
abbrev s_walked_by_n : Stmt := topS 59
theorem sc_walked_by_n : FnScope ["one", "other", "known", "waiting", "at", "deed", "beyond"] ["one", "other"] (defScope s_walked_by_n) := ⟨rfl, rfl, rfl, by decide +kernel, rfl, by decide +kernel, by decide +kernel⟩
abbrev s_step_deed_by : Stmt := topS 38
theorem sc_step_deed_by : FnScope ["one", "other", "by"] ["one", "other"] (defScope s_step_deed_by) := ⟨rfl, rfl, rfl, by decide +kernel, rfl, by decide +kernel, by decide +kernel⟩
abbrev s_round_of : Stmt := topS 23
theorem sc_round_of : FnScope ["cutting"] ["cutting"] (defScope s_round_of) := ⟨rfl, rfl, rfl, by decide +kernel, rfl, by decide +kernel, by decide +kernel⟩
abbrev s_back_by : Stmt := topS 32
theorem sc_back_by : FnScope ["cutting", "deed", "new", "columns", "_", "far"] ["cutting", "deed"] (defScope s_back_by) := ⟨rfl, rfl, rfl, by decide +kernel, rfl, by decide +kernel, by decide +kernel⟩
abbrev s_turned_by : Stmt := topS 60
theorem sc_turned_by : FnScope ["cutting", "word", "here", "found", "deed"] ["cutting", "word"] (defScope s_turned_by) := ⟨rfl, rfl, rfl, by decide +kernel, rfl, by decide +kernel, by decide +kernel⟩
abbrev s_road_by : Stmt := topS 62
theorem sc_road_by : FnScope ["one", "other", "ahead", "low", "behind", "high", "numbers", "steps", "at"] ["one", "other"] (defScope s_road_by) := ⟨rfl, rfl, rfl, by decide +kernel, rfl, by decide +kernel, by decide +kernel⟩
abbrev s_road_x : Stmt := topS 65
theorem sc_road_x : FnScope ["one", "other"] ["one", "other"] (defScope s_road_x) := ⟨rfl, rfl, rfl, by decide +kernel, rfl, by decide +kernel, by decide +kernel⟩
abbrev s_allowed_by : Stmt := topS 22
theorem sc_allowed_by : FnScope ["cutting", "far", "_", "wide", "high", "shift"] ["cutting", "far"] (defScope s_allowed_by) := ⟨rfl, rfl, rfl, by decide +kernel, rfl, by decide +kernel, by decide +kernel⟩
abbrev s_is_deed_by : Stmt := topS 24
theorem sc_is_deed_by : FnScope ["cutting", "value", "part", "near", "far"] ["cutting", "value"] (defScope s_is_deed_by) := ⟨rfl, rfl, rfl, by decide +kernel, rfl, by decide +kernel, by decide +kernel⟩
abbrev s_is_road_by : Stmt := topS 63
theorem sc_is_road_by : FnScope ["one", "other", "value", "here", "deed"] ["one", "other", "value"] (defScope s_is_road_by) := ⟨rfl, rfl, rfl, by decide +kernel, rfl, by decide +kernel, by decide +kernel⟩
abbrev s_is_road_x : Stmt := topS 66
theorem sc_is_road_x : FnScope ["one", "other", "value"] ["one", "other", "value"] (defScope s_is_road_x) := ⟨rfl, rfl, rfl, by decide +kernel, rfl, by decide +kernel, by decide +kernel⟩
abbrev s_l_asked_0403_x : Stmt := topS 76
theorem sc_l_asked_0403_x : FnScope ["_law_door", "_law_given"] ["_law_door", "_law_given"] (defScope s_l_asked_0403_x) := ⟨rfl, rfl, rfl, by decide +kernel, rfl, by decide +kernel, by decide +kernel⟩
abbrev s_l_told_db71 : Stmt := topS 77
theorem sc_l_told_db71 : FnScope ["_law_door", "_law_given", "_law_caught", "error", "_law_kinds"] ["_law_door", "_law_given"] (defScope s_l_told_db71) := ⟨rfl, rfl, rfl, by decide +kernel, rfl, by decide +kernel, by decide +kernel⟩
abbrev s_l_all_refused_8142 : Stmt := topS 78
theorem sc_l_all_refused_8142 : FnScope ["_law_doors", "_law_given", "_law_due", "_law_odd", "_law_behind", "_law_door", "_law_kept"] ["_law_doors", "_law_given", "_law_due", "_law_odd"] (defScope s_l_all_refused_8142) := ⟨rfl, rfl, rfl, by decide +kernel, rfl, by decide +kernel, by decide +kernel⟩
abbrev s_l_wrong_cuttings_2ff2 : Stmt := topS 79
theorem sc_l_wrong_cuttings_2ff2 : FnScope ["_law_cutting", "_law_a", "_law_b", "_law_c", "_law_e", "_law_found"] ["_law_cutting"] (defScope s_l_wrong_cuttings_2ff2) := ⟨rfl, rfl, rfl, by decide +kernel, rfl, by decide +kernel, by decide +kernel⟩
abbrev s_l_law_a8bd : Stmt := topS 80
theorem sc_l_law_a8bd : FnScope ["_law_script", "_law_generator_here", "_law_cutting", "_law_measure", "_law_odd", "_law_unlike", "_law_near", "_law_bad", "_law_told_here", "_law_door", "_law_item", "_law_good"] ["_law_script"] (defScope s_l_law_a8bd) := ⟨rfl, rfl, rfl, by decide +kernel, rfl, by decide +kernel, by decide +kernel⟩
abbrev k_InvalidMeasure : Stmt := XA.initOf (topS 3)
theorem it_InvalidMeasure : XA.InitTxt (defArgs k_InvalidMeasure) (defBody k_InvalidMeasure) (defScope k_InvalidMeasure) := ⟨⟨_, _, _, rfl⟩, ⟨_, _, _, _, _, _, _, _, _, rfl, ⟨_, fun _ => rfl⟩, fun _ => rfl⟩, rfl⟩
abbrev k_InvalidNumber : Stmt := XA.initOf (topS 4)
theorem it_InvalidNumber : XA.InitTxt (defArgs k_InvalidNumber) (defBody k_InvalidNumber) (defScope k_InvalidNumber) := ⟨⟨_, _, _, rfl⟩, ⟨_, _, _, _, _, _, _, _, _, rfl, ⟨_, fun _ => rfl⟩, fun _ => rfl⟩, rfl⟩
abbrev k_InvalidCutting : Stmt := XA.initOf (topS 5)
theorem it_InvalidCutting : XA.InitTxt (defArgs k_InvalidCutting) (defBody k_InvalidCutting) (defScope k_InvalidCutting) := ⟨⟨_, _, _, rfl⟩, ⟨_, _, _, _, _, _, _, _, _, rfl, ⟨_, fun _ => rfl⟩, fun _ => rfl⟩, rfl⟩
abbrev k_Unlike : Stmt := XA.initOf (topS 6)
theorem it_Unlike : XA.InitTxt (defArgs k_Unlike) (defBody k_Unlike) (defScope k_Unlike) := ⟨⟨_, _, _, rfl⟩, ⟨_, _, _, _, _, _, _, _, _, rfl, ⟨_, fun _ => rfl⟩, fun _ => rfl⟩, rfl⟩
abbrev k_TooMany : Stmt := XA.initOf (topS 7)
theorem it_TooMany : XA.InitTxt (defArgs k_TooMany) (defBody k_TooMany) (defScope k_TooMany) := ⟨⟨_, _, _, rfl⟩, ⟨_, _, _, _, _, _, _, _, _, rfl, ⟨_, fun _ => rfl⟩, fun _ => rfl⟩, rfl⟩
/-- what the top has left -/
structure Txt (P : Program) (K : PySem.W.Frag) (mg : Str → Option Value) (base : Heap) : Prop where
  s_SheetError : ∃ S, XA.ShC K S ∧ mg "SheetError" = some (.ref S)
  e_InvalidMeasure : ∃ C S fI, XA.ErM P K mg "InvalidMeasure" C S fI
  e_InvalidNumber : ∃ C S fI, XA.ErM P K mg "InvalidNumber" C S fI
  e_InvalidCutting : ∃ C S fI, XA.ErM P K mg "InvalidCutting" C S fI
  e_Unlike : ∃ C S fI, XA.ErM P K mg "Unlike" C S fI
  e_TooMany : ∃ C S fI, XA.ErM P K mg "TooMany" C S fI
  v_heart_distance : ∃ a, PySem.W.nsIn K mainGlobals "heart_distance" = some (some (.ref a)) ∧ mg "heart_distance" = some (.ref a)
  v_heart_lots : ∃ a, PySem.W.nsIn K mainGlobals "heart_lots" = some (some (.ref a)) ∧ mg "heart_lots" = some (.ref a)
  v_heart_number : ∃ a, PySem.W.nsIn K mainGlobals "heart_number" = some (some (.ref a)) ∧ mg "heart_number" = some (.ref a)
  v_heart_numbered : ∃ a, PySem.W.nsIn K mainGlobals "heart_numbered" = some (some (.ref a)) ∧ mg "heart_numbered" = some (.ref a)
  v_heart_steps : ∃ a, PySem.W.nsIn K mainGlobals "heart_steps" = some (some (.ref a)) ∧ mg "heart_steps" = some (.ref a)
  v_how_many_heart : ∃ a, PySem.W.nsIn K mainGlobals "how_many_heart" = some (some (.ref a)) ∧ mg "how_many_heart" = some (.ref a)
  v_road : ∃ a, PySem.W.nsIn K mainGlobals "road" = some (some (.ref a)) ∧ mg "road" = some (.ref a)
  v_word_to_heart : ∃ a, PySem.W.nsIn K mainGlobals "word_to_heart" = some (some (.ref a)) ∧ mg "word_to_heart" = some (.ref a)
  n_ValueError : mg "ValueError" = none
  n_abs : mg "abs" = none
  n_bool : mg "bool" = none
  n_int : mg "int" = none
  n_isinstance : mg "isinstance" = none
  n_len : mg "len" = none
  n_list : mg "list" = none
  n_max : mg "max" = none
  n_range : mg "range" = none
  n_repr : mg "repr" = none
  n_sorted : mg "sorted" = none
  n_sum : mg "sum" = none
  n_tuple : mg "tuple" = none
  g_gcd : mg "gcd" = some (.builtin "math.gcd")
  c_LEAST : ∃ t, mg "LEAST" = some (.int 5 t)
  c_MOST_LISTED : ∃ t, mg "MOST_LISTED" = some (.int 5000 t)
  c_MOST_SEARCHED : ∃ t, mg "MOST_SEARCHED" = some (.int 2000 t)
  c_MOST_SIGNS : ∃ t, mg "MOST_SIGNS" = some (.int 1000 t)
  h_l_cell_cf3b : Here K mg "_law_cell" s_l_cell_cf3b ["_law_script", "_law_index"]
  h_l_generator_b324 : Here K mg "_law_generator" s_l_generator_b324 ["_law_script", "_law_index"]
  h_l_hash_9cde : Here K mg "_law_hash" s_l_hash_9cde ["_law_seed", "_law_index"]
  h_l_random_7821 : Here K mg "_law_random" s_l_random_7821 ["_law_generator_here", "_law_bound"]
  h_l_common_6be5 : Here K mg "_law_common" s_l_common_6be5 ["_law_one", "_law_other"]
  h_l_measured_5aba : Here K mg "_law_measured" s_l_measured_5aba ["_law_cutting"]
  h_l_is_cutting_9b45 : Here K mg "_law_is_cutting" s_l_is_cutting_9b45 ["_law_value"]
  h_l_great_5836 : Here K mg "_law_great" s_l_great_5836 ["_law_generator_here", "_law_figures"]
  h_is_whole : Here K mg "is_whole" s_is_whole ["value"]
  h_is_between : Here K mg "is_between" s_is_between ["value", "low", "high"]
  h_is_measure_by : Here K mg "is_measure_by" s_is_measure_by ["value"]
  h_check_measure_x : Here K mg "check_measure" s_check_measure_x ["measure"]
  h_root_floor_by : Here K mg "root_floor_by" s_root_floor_by ["number"]
  h_bounds_by : Here K mg "bounds_by" s_bounds_by ["measure"]
  h_how_many_heart_x : Here K mg "how_many_heart" s_how_many_heart_x ["measure"]
  h_common_by : Here K mg "common_by" s_common_by ["one", "other"]
  h_is_step_by : Here K mg "is_step_by" s_is_step_by ["measure", "one", "other"]
  h_lots_by : Here K mg "lots_by" s_lots_by ["measure"]
  h_heart_by : Here K mg "heart_by" s_heart_by ["measure", "number"]
  h_heart_lots_x : Here K mg "heart_lots" s_heart_lots_x ["measure"]
  h_is_cutting_by : Here K mg "is_cutting_by" s_is_cutting_by ["value"]
  h_is_heart : Here K mg "is_heart" s_is_heart ["value"]
  h_measure_by : Here K mg "measure_by" s_measure_by ["cutting"]
  h_heart_number_x : Here K mg "heart_number" s_heart_number_x ["cutting"]
  h_heart_steps_x : Here K mg "heart_steps" s_heart_steps_x ["cutting"]
  h_check_cutting_x : Here K mg "check_cutting" s_check_cutting_x ["cutting"]
  h_far_by : Here K mg "far_by" s_far_by ["cutting"]
  h_heart_distance_x : Here K mg "heart_distance" s_heart_distance_x ["cutting"]
  h_shared : Here K mg "shared" s_shared ["one", "other"]
  h_opposite_by : Here K mg "opposite_by" s_opposite_by ["number", "modulus"]
  h_beside : Here K mg "beside" s_beside ["deed"]
  h_table_by : Here K mg "table_by" s_table_by ["cutting", "deed"]
  h_full_by : Here K mg "full_by" s_full_by ["cutting", "deed"]
  h_done_by : Here K mg "done_by" s_done_by ["cutting", "deed"]
  h_nearer_by : Here K mg "nearer_by" s_nearer_by ["cutting"]
  h_to_heart_by : Here K mg "to_heart_by" s_to_heart_by ["cutting"]
  h_word_to_heart_x : Here K mg "word_to_heart" s_word_to_heart_x ["cutting"]
  h_check_number_x : Here K mg "check_number" s_check_number_x ["number", "low", "high"]
  h_heart_numbered_x : Here K mg "heart_numbered" s_heart_numbered_x ["measure", "number"]
  h_check_two_x : Here K mg "check_two" s_check_two_x ["one", "other"]
  h_parted_by : Here K mg "parted_by" s_parted_by ["one", "other"]
  h_searched_by_n : Here K mg "searched_by" s_searched_by_n ["one", "other"]
  h_line_down_n : Here K mg "line_down" s_line_down_n ["measure", "number"]
  h_between_by_n : Here K mg "between_by" s_between_by_n ["measure", "one", "other"]
  h_numbers_by : Here K mg "numbers_by" s_numbers_by ["one", "other"]
  h_walked_by_n : Here K mg "walked_by" s_walked_by_n ["one", "other"]
  h_step_deed_by : Here K mg "step_deed_by" s_step_deed_by ["one", "other"]
  h_round_of : Here K mg "round_of" s_round_of ["cutting"]
  h_back_by : Here K mg "back_by" s_back_by ["cutting", "deed"]
  h_turned_by : Here K mg "turned_by" s_turned_by ["cutting", "word"]
  h_road_by : Here K mg "road_by" s_road_by ["one", "other"]
  h_road_x : Here K mg "road" s_road_x ["one", "other"]
  h_allowed_by : Here K mg "allowed_by" s_allowed_by ["cutting", "far"]
  h_is_deed_by : Here K mg "is_deed_by" s_is_deed_by ["cutting", "value"]
  h_is_road_by : Here K mg "is_road_by" s_is_road_by ["one", "other", "value"]
  h_is_road_x : Here K mg "is_road" s_is_road_x ["one", "other", "value"]
  h_l_asked_0403_x : Here K mg "_law_asked" s_l_asked_0403_x ["_law_door", "_law_given"]
  h_l_told_db71 : Here K mg "_law_told" s_l_told_db71 ["_law_door", "_law_given"]
  h_l_all_refused_8142 : Here K mg "_law_all_refused" s_l_all_refused_8142 ["_law_doors", "_law_given", "_law_due", "_law_odd"]
  h_l_wrong_cuttings_2ff2 : Here K mg "_law_wrong_cuttings" s_l_wrong_cuttings_2ff2 ["_law_cutting"]
  h_l_law_a8bd : Here K mg "law" s_l_law_a8bd ["_law_script"]
theorem Txt.isE {P : Program} {K : PySem.W.Frag} {mg : Str → Option Value} {base : Heap} (T : Txt P K mg base) : ∀ y ∈ errL_k33, ∃ C, XA.AnyC K y C := fun y hy => by
  simp only [errL_k33, List.mem_cons, List.not_mem_nil, or_false] at hy
  rcases hy with rfl | rfl | rfl | rfl | rfl
  · obtain ⟨C, S, fI, h⟩ := T.e_InvalidMeasure; exact ⟨C, .inl ⟨S, h.er⟩⟩
  · obtain ⟨C, S, fI, h⟩ := T.e_InvalidNumber; exact ⟨C, .inl ⟨S, h.er⟩⟩
  · obtain ⟨C, S, fI, h⟩ := T.e_InvalidCutting; exact ⟨C, .inl ⟨S, h.er⟩⟩
  · obtain ⟨C, S, fI, h⟩ := T.e_Unlike; exact ⟨C, .inl ⟨S, h.er⟩⟩
  · obtain ⟨C, S, fI, h⟩ := T.e_TooMany; exact ⟨C, .inl ⟨S, h.er⟩⟩
section
variable {P : Program} {w : World} {K : PySem.W.Frag} {mg : Str → Option Value} {base : Heap}
theorem ok_l_cell_cf3b {sp : DSp} (T : Txt P K mg base) (hread : ∀ ds M Q, ds.length = 2 → sp ds M Q DX0 → t_l_cell_cf3b (dEnds M Q) (startD 2 ds) M) (hX : ∀ ds M Q E, sp ds M Q E → sp ds M Q DX0 := by exact fun _ _ _ _ h => h) : Def P w K mg base CX0 1 "_law_cell" s_l_cell_cf3b ["_law_script", "_law_index"] sp :=
 T.h_l_cell_cf3b.ok (t := t_l_cell_cf3b) sc_l_cell_cf3b (fun f cdv A outer s H E hr gd => (dss_cons (ds_if (dt_cmp opd_lt (dv 1) (de_blt cd_len T.n_len (da_cons (dv 0) da_nil)) (nomark _)) (dss_one (ds_ret (de_ix (dv 0) (dv 1)))) dss_nil)
 (dss_one (ds_ret (de_op opd_mod (de_blt (cd_sum rfl) T.n_sum (da_cons (de_slL false (dv 0) do_none (do_some de_int)) da_nil)) de_int))))) hread hX
theorem ok_l_generator_b324 {c_l_cell_cf3b : DSp} {sp : DSp} (T : Txt P K mg base) (D_l_cell_cf3b : Def P w K mg base CX0 1 "_law_cell" s_l_cell_cf3b ["_law_script", "_law_index"] c_l_cell_cf3b) (hread : ∀ ds M Q, ds.length = 2 → sp ds M Q DX0 → t_l_generator_b324 c_l_cell_cf3b (dEnds M Q) (startD 3 ds) M) (hX : ∀ ds M Q E, sp ds M Q E → sp ds M Q DX0 := by exact fun _ _ _ _ h => h) : Def P w K mg base CX0 2 "_law_generator" s_l_generator_b324 ["_law_script", "_law_index"] sp :=
 T.h_l_generator_b324.ok (t := t_l_generator_b324 c_l_cell_cf3b) sc_l_generator_b324 (fun f cdv A outer s H E hr gd => (dss_cons (ds_set (i := 2) sc_l_generator_b324.nd (dcall D_l_cell_cf3b hr gd (da_cons (dv 0) (da_cons (dv 1) da_nil))))
 (dss_one (ds_ret (de_own (da_cons (de_op opd_mod (de_ty cd_int T.n_int (da_cons (de_blt (cd_max rfl) T.n_max (da_cons (de_op opd_sub (dv 2) (de_op opd_pow de_int de_int)) (da_cons de_int da_nil))) da_nil)) (de_op opd_pow (de_op opd_pow de_int de_int) de_int)) (da_cons (de_op opd_mod (de_ty cd_int T.n_int (da_cons (dv 2) da_nil)) de_int) (da_cons (de_op opd_mulI de_int (dv 1)) da_nil)))))))) hread hX
theorem ok_l_hash_9cde {sp : DSp} (T : Txt P K mg base) (hread : ∀ ds M Q, ds.length = 2 → sp ds M Q DX0 → t_l_hash_9cde (dEnds M Q) (startD 3 ds) M) (hX : ∀ ds M Q E, sp ds M Q E → sp ds M Q DX0 := by exact fun _ _ _ _ h => h) : Def P w K mg base CX0 1 "_law_hash" s_l_hash_9cde ["_law_seed", "_law_index"] sp :=
 T.h_l_hash_9cde.ok (t := t_l_hash_9cde) sc_l_hash_9cde (fun f cdv A outer s H E hr gd => (dss_cons (ds_set (i := 2) sc_l_hash_9cde.nd (de_op opd_mod (de_ty cd_int T.n_int (da_cons (de_op opd_add (de_op opd_add (de_op opd_add (de_op opd_mulI (dv 0) de_int) (de_op opd_mulI (de_op opd_mulI de_int (dv 1)) (dv 1))) (de_op opd_mulI de_int (dv 1))) de_int) da_nil)) de_int))
 (dss_cons (ds_set (i := 2) sc_l_hash_9cde.nd (de_op opd_mod (de_ty cd_int T.n_int (da_cons (de_op opd_add (de_op opd_add (de_op opd_mulI (dv 2) (dv 2)) (de_op opd_mulI de_int (dv 1))) de_int) da_nil)) de_int))
 (dss_one (ds_ret (de_op opd_mod (de_ty cd_int T.n_int (da_cons (de_op opd_mulI (dv 2) de_int) da_nil)) de_int)))))) hread hX
theorem ok_l_random_7821 {c_l_hash_9cde : DSp} {sp : DSp} (T : Txt P K mg base) (D_l_hash_9cde : Def P w K mg base CX0 1 "_law_hash" s_l_hash_9cde ["_law_seed", "_law_index"] c_l_hash_9cde) (hread : ∀ ds M Q, ds.length = 2 → sp ds M Q DX0 → t_l_random_7821 c_l_hash_9cde (dEnds M Q) (startD 4 ds) M) (hX : ∀ ds M Q E, sp ds M Q E → sp ds M Q DX0 := by exact fun _ _ _ _ h => h) : Def P w K mg base CX0 2 "_law_random" s_l_random_7821 ["_law_generator_here", "_law_bound"] sp :=
 T.h_l_random_7821.ok (t := t_l_random_7821 c_l_hash_9cde) sc_l_random_7821 (fun f cdv A outer s H E hr gd => (dss_cons (ds_if (dt_cmp opd_gt (de_ix (dv 0) de_int) de_int (nomark _)) (dss_cons (ds_set (i := 2) sc_l_random_7821.nd (de_op opd_mod (de_ty cd_int T.n_int (da_cons (de_ix (dv 0) de_int) da_nil)) (dv 1)))
 (dss_cons (ds_asg (de_op opd_fdiv (de_ix (dv 0) de_int) (dv 1)) (dg_sub (dv 0) de_int))
 (dss_one (ds_ret (dv 2))))) dss_nil)
 (dss_cons (ds_set (i := 2) sc_l_random_7821.nd de_int)
 (dss_cons (ds_for rfl (di_range1 T.n_range (da_cons (de_op opd_add de_int (de_op opd_fdiv (de_bits (dv 1)) de_int)) da_nil)) (dg_name (i := 3) sc_l_random_7821.nd) (dss_cons (ds_asg (de_op opd_add (de_ix (dv 0) de_int) de_int) (dg_sub (dv 0) de_int))
 (dss_one (ds_set (i := 2) sc_l_random_7821.nd (de_op opd_add (de_op opd_mulI (dv 2) de_int) (dcall D_l_hash_9cde hr gd (da_cons (de_ix (dv 0) de_int) (da_cons (de_ix (dv 0) de_int) da_nil))))))))
 (dss_one (ds_ret (de_op opd_mod (de_ty cd_int T.n_int (da_cons (dv 2) da_nil)) (dv 1)))))))) hread hX
theorem ok_l_common_6be5 {sp : DSp} (T : Txt P K mg base) (hread : ∀ ds M Q, ds.length = 2 → sp ds M Q DX0 → t_l_common_6be5 (dEnds M Q) (startD 4 ds) M) (hX : ∀ ds M Q E, sp ds M Q E → sp ds M Q DX0 := by exact fun _ _ _ _ h => h) : Def P w K mg base CX0 1 "_law_common" s_l_common_6be5 ["_law_one", "_law_other"] sp :=
 T.h_l_common_6be5.ok (t := t_l_common_6be5) sc_l_common_6be5 (fun f cdv A outer s H E hr gd => (dss_cons (ds_par (i := 2) (j := 3) rfl sc_l_common_6be5.nd (da_cons (de_blt cd_abs T.n_abs (da_cons (dv 0) da_nil)) (da_cons (de_blt cd_abs T.n_abs (da_cons (dv 1) da_nil)) da_nil)))
 (dss_cons (ds_while (dt_cmp (opd_ne (u64 hr)) (dv 3) de_int (nomark _)) (dss_one (ds_par (i := 2) (j := 3) rfl sc_l_common_6be5.nd (da_cons (dv 3) (da_cons (de_op opd_mod (de_ty cd_int T.n_int (da_cons (dv 2) da_nil)) (dv 3)) da_nil)))))
 (dss_one (ds_ret (dv 2)))))) hread hX
theorem ok_l_measured_5aba {sp : DSp} (T : Txt P K mg base) (hread : ∀ ds M Q, ds.length = 1 → sp ds M Q DX0 → t_l_measured_5aba (dEnds M Q) (startD 1 ds) M) (hX : ∀ ds M Q E, sp ds M Q E → sp ds M Q DX0 := by exact fun _ _ _ _ h => h) : Def P w K mg base CX0 1 "_law_measured" s_l_measured_5aba ["_law_cutting"] sp :=
 T.h_l_measured_5aba.ok (t := t_l_measured_5aba) sc_l_measured_5aba (fun f cdv A outer s H E hr gd => (dss_one (ds_ret (de_op opd_add (de_op opd_mulI (de_ix (dv 0) de_int) (de_ix (dv 0) de_int)) (de_op opd_mulI (de_op opd_mulI de_int (de_ix (dv 0) de_int)) (de_ix (dv 0) de_int)))))) hread hX
theorem ok_l_is_cutting_9b45 {c_l_common_6be5 c_l_measured_5aba : DSp} {sp : DSp} (T : Txt P K mg base) (D_l_common_6be5 : Def P w K mg base CX0 1 "_law_common" s_l_common_6be5 ["_law_one", "_law_other"] c_l_common_6be5) (D_l_measured_5aba : Def P w K mg base CX0 1 "_law_measured" s_l_measured_5aba ["_law_cutting"] c_l_measured_5aba) (hread : ∀ ds M Q, ds.length = 1 → sp ds M Q DX0 → t_l_is_cutting_9b45 c_l_common_6be5 c_l_measured_5aba (dEnds M Q) (startD 5 ds) M) (hX : ∀ ds M Q E, sp ds M Q E → sp ds M Q DX0 := by exact fun _ _ _ _ h => h) : Def P w K mg base CX0 2 "_law_is_cutting" s_l_is_cutting_9b45 ["_law_value"] sp :=
 T.h_l_is_cutting_9b45.ok (t := t_l_is_cutting_9b45 c_l_common_6be5 c_l_measured_5aba) sc_l_is_cutting_9b45 (fun f cdv A outer s H E hr gd => (dss_cons (ds_asg (dv 0) (dg_tup rfl (dgs_cons (dg_name (i := 1) sc_l_is_cutting_9b45.nd) (dgs_cons (dg_name (i := 2) sc_l_is_cutting_9b45.nd) (dgs_cons (dg_name (i := 3) sc_l_is_cutting_9b45.nd) (dgs_cons (dg_name (i := 4) sc_l_is_cutting_9b45.nd) dgs_nil))))))
 (dss_cons (ds_if (DW.dt (dw_or (dt_cmp opd_lt (dv 2) de_int (nomark _)) (dw_or (dt_cmp opd_lt (dv 3) de_int (nomark _)) (dw_or (dt_cmp opd_ge (de_op opd_add (dv 3) (dv 4)) (dv 2) (nomark _)) (dw_or1 (dt_not (dt_chain opd_le opd_lt de_int (dv 1) (dcall D_l_common_6be5 hr gd (da_cons (dv 2) (da_cons (dv 3) da_nil)))))))))) (dss_one (ds_ret de_bl)) dss_nil)
 (dss_one (ds_ret (de_and (de_cmp (opd_eq (u64 hr)) (dcall D_l_common_6be5 hr gd (da_cons (dcall D_l_common_6be5 hr gd (da_cons (dv 1) (da_cons (dv 2) da_nil))) (da_cons (dcall D_l_common_6be5 hr gd (da_cons (dv 3) (da_cons (dv 4) da_nil))) da_nil))) de_int (nomark _)) (de_one (de_cmp opd_gt (dcall D_l_measured_5aba hr gd (da_cons (dv 0) da_nil)) de_int (nomark _))))))))) hread hX
theorem ok_l_great_5836 {c_l_random_7821 c_l_common_6be5 c_l_is_cutting_9b45 : DSp} {sp : DSp} (T : Txt P K mg base) (D_l_random_7821 : Def P w K mg base CX0 2 "_law_random" s_l_random_7821 ["_law_generator_here", "_law_bound"] c_l_random_7821) (D_l_common_6be5 : Def P w K mg base CX0 1 "_law_common" s_l_common_6be5 ["_law_one", "_law_other"] c_l_common_6be5) (D_l_is_cutting_9b45 : Def P w K mg base CX0 2 "_law_is_cutting" s_l_is_cutting_9b45 ["_law_value"] c_l_is_cutting_9b45) (hread : ∀ ds M Q, ds.length = 2 → sp ds M Q DX0 → t_l_great_5836 c_l_random_7821 c_l_common_6be5 c_l_is_cutting_9b45 (dEnds M Q) (startD 10 ds) M) (hX : ∀ ds M Q E, sp ds M Q E → sp ds M Q DX0 := by exact fun _ _ _ _ h => h) : Def P w K mg base CX0 3 "_law_great" s_l_great_5836 ["_law_generator_here", "_law_figures"] sp :=
 T.h_l_great_5836.ok (t := t_l_great_5836 c_l_random_7821 c_l_common_6be5 c_l_is_cutting_9b45) sc_l_great_5836 (fun f cdv A outer s H E hr gd => (dss_cons (ds_set (i := 2) sc_l_great_5836.nd de_int)
 (dss_cons (ds_for rfl (di_range1 T.n_range (da_cons (dcall D_l_random_7821 hr gd (da_cons (dv 0) (da_cons (dv 1) da_nil))) da_nil)) (dg_name (i := 3) sc_l_great_5836.nd) (dss_one (ds_set (i := 2) sc_l_great_5836.nd (de_op opd_mulI de_int (dv 2)))))
 (dss_cons (ds_set (i := 4) sc_l_great_5836.nd (de_ix (de_lst (da_cons de_int (da_cons de_int (da_cons de_int (da_cons de_int (da_cons de_int (da_cons de_int da_nil))))))) (dcall D_l_random_7821 hr gd (da_cons (dv 0) (da_cons de_int da_nil)))))
 (dss_cons (ds_par (i := 5) (j := 6) rfl sc_l_great_5836.nd (da_cons (de_op opd_mulI (dv 4) (de_op opd_add de_int (dcall D_l_random_7821 hr gd (da_cons (dv 0) (da_cons (dv 2) da_nil))))) (da_cons (de_op opd_sub (dcall D_l_random_7821 hr gd (da_cons (dv 0) (da_cons (de_op opd_add (de_op opd_mulI de_int (dv 2)) de_int) da_nil))) (dv 2)) da_nil)))
 (dss_cons (ds_set (i := 7) sc_l_great_5836.nd (de_blt (cd_max rfl) T.n_max (da_cons de_int (da_cons (de_op opd_add (de_op opd_add (dv 5) (dv 6)) de_int) da_nil))))
 (dss_cons (ds_set (i := 8) sc_l_great_5836.nd (de_op opd_add (dv 7) (dcall D_l_random_7821 hr gd (da_cons (dv 0) (da_cons (dv 2) da_nil)))))
 (dss_cons (ds_set (i := 8) sc_l_great_5836.nd (de_op opd_sub (de_op opd_add (dv 8) (dv 4)) (de_op opd_mod (de_ty cd_int T.n_int (da_cons (dv 8) da_nil)) (dv 4))))
 (dss_cons (ds_set (i := 9) sc_l_great_5836.nd (de_tup (da_cons (dcall D_l_random_7821 hr gd (da_cons (dv 0) (da_cons (dcall D_l_common_6be5 hr gd (da_cons (dv 8) (da_cons (dv 5) da_nil))) da_nil))) (da_cons (dv 8) (da_cons (dv 5) (da_cons (dv 6) da_nil))))))
 (dss_one (ds_ret (de_if (dt_tru (dcall D_l_is_cutting_9b45 hr gd (da_cons (dv 9) da_nil))) (dv 9) (de_tup (da_cons de_int (da_cons (dv 8) (da_cons de_int (da_cons (de_if (dt_cmp opd_lt (de_op opd_add de_int (dv 6)) (dv 8) (nomark _)) (dv 6) (de_op opd_sub de_int (dv 8))) da_nil))))))))))))))))) hread hX
theorem ok_is_whole {sp : DSp} (T : Txt P K mg base) (hread : ∀ ds M Q, ds.length = 1 → sp ds M Q DX0 → t_is_whole (dEnds M Q) (startD 1 ds) M) (hX : ∀ ds M Q E, sp ds M Q E → sp ds M Q DX0 := by exact fun _ _ _ _ h => h) : Def P w K mg base CX0 1 "is_whole" s_is_whole ["value"] sp :=
 T.h_is_whole.ok (t := t_is_whole) sc_is_whole (fun f cdv A outer s H E hr gd => (dss_one (ds_ret (de_and (de_blt cd_isi T.n_isinstance (da_cons (dv 0) (da_cons (de_bltn (v := .ty "int") T.n_int rfl) da_nil))) (de_one (de_not (de_blt cd_isi T.n_isinstance (da_cons (dv 0) (da_cons (de_bltn (v := .ty "bool") T.n_bool rfl) da_nil))))))))) hread hX
theorem ok_is_between {c_is_whole : DSp} {sp : DSp} (T : Txt P K mg base) (D_is_whole : Def P w K mg base CX0 1 "is_whole" s_is_whole ["value"] c_is_whole) (hread : ∀ ds M Q, ds.length = 3 → sp ds M Q DX0 → t_is_between c_is_whole (dEnds M Q) (startD 3 ds) M) (hX : ∀ ds M Q E, sp ds M Q E → sp ds M Q DX0 := by exact fun _ _ _ _ h => h) : Def P w K mg base CX0 2 "is_between" s_is_between ["value", "low", "high"] sp :=
 T.h_is_between.ok (t := t_is_between c_is_whole) sc_is_between (fun f cdv A outer s H E hr gd => (dss_one (ds_ret (de_and (dcall D_is_whole hr gd (da_cons (dv 0) da_nil)) (de_and (de_cmp opd_ge (dv 0) (dv 1) (nomark _)) (de_one (de_or (de_cmp opd_is (dv 2) de_non (nomark _)) (de_one (de_cmp opd_le (dv 0) (dv 2) (nomark _)))))))))) hread hX
theorem ok_is_measure_by {c_is_between : DSp} {sp : DSp} (T : Txt P K mg base) (D_is_between : Def P w K mg base CX0 2 "is_between" s_is_between ["value", "low", "high"] c_is_between) (hread : ∀ ds M Q, ds.length = 1 → sp ds M Q DX0 → t_is_measure_by c_is_between (dEnds M Q) (startD 1 ds) M) (hX : ∀ ds M Q E, sp ds M Q E → sp ds M Q DX0 := by exact fun _ _ _ _ h => h) : Def P w K mg base CX0 3 "is_measure_by" s_is_measure_by ["value"] sp :=
 T.h_is_measure_by.ok (t := t_is_measure_by c_is_between) sc_is_measure_by (fun f cdv A outer s H E hr gd => (dss_one (ds_ret (de_and (dcall D_is_between hr gd (da_cons (dv 0) (da_cons (let ⟨_, h⟩ := T.c_LEAST; de_globI rfl h) (da_cons de_non da_nil)))) (de_one (de_cmp (opd_in (u65 hr)) (de_op opd_mod (dv 0) de_int) (de_lst (da_cons de_int (da_cons de_int da_nil))) (by rfl))))))) hread hX
theorem ok_check_measure_x {c_is_measure_by : DSp} {sp : DSp} (T : Txt P K mg base) (D_is_measure_by : Def P w K mg base CX0 3 "is_measure_by" s_is_measure_by ["value"] c_is_measure_by) (hread : ∀ ds M Q E, ds.length = 1 → belowAll M.length ds = true → sp ds M Q E → t_check_measure_x c_is_measure_by (dOut M E) (dEnds M Q) (startD 1 ds) M) : Def P w K mg base (L2.CX P w) 4 "check_measure" s_check_measure_x ["measure"] sp :=
 T.h_check_measure_x.okE (t := t_check_measure_x c_is_measure_by) sc_check_measure_x (fun f cdv A outer s H E hr gd => (dssx_one (dsx_if (dt_not (dt_tru (dcall D_is_measure_by hr gd (da_cons (dv 0) da_nil)))) (dssx_one (let ⟨_, _, _, h⟩ := T.e_InvalidMeasure; dsx_raise h rfl hr (da_cons (dv 0) da_nil))) (dssx_of dss_nil)))) hread
theorem ok_root_floor_by {sp : DSp} (T : Txt P K mg base) (hread : ∀ ds M Q, ds.length = 1 → sp ds M Q DX0 → t_root_floor_by (dEnds M Q) (startD 3 ds) M) (hX : ∀ ds M Q E, sp ds M Q E → sp ds M Q DX0 := by exact fun _ _ _ _ h => h) : Def P w K mg base CX0 1 "root_floor_by" s_root_floor_by ["number"] sp :=
 T.h_root_floor_by.ok (t := t_root_floor_by) sc_root_floor_by (fun f cdv A outer s H E hr gd => (dss_cons (ds_if (dt_cmp opd_lt (dv 0) de_int (nomark _)) (dss_one (ds_ret (dv 0))) dss_nil)
 (dss_cons (ds_set (i := 1) sc_root_floor_by.nd de_int)
 (dss_cons (ds_while (dt_cmp opd_le (de_op opd_mulI (dv 1) (dv 1)) (dv 0) (nomark _)) (dss_one (ds_set (i := 1) sc_root_floor_by.nd (de_op opd_mulI de_int (dv 1)))))
 (dss_cons (ds_set (i := 2) sc_root_floor_by.nd (de_op opd_fdiv (de_op opd_add (dv 1) (de_op opd_fdiv (dv 0) (dv 1))) de_int))
 (dss_cons (ds_while (dt_cmp opd_lt (dv 2) (dv 1) (nomark _)) (dss_one (ds_par (i := 1) (j := 2) rfl sc_root_floor_by.nd (da_cons (dv 2) (da_cons (de_op opd_fdiv (de_op opd_add (dv 2) (de_op opd_fdiv (dv 0) (dv 2))) de_int) da_nil)))))
 (dss_one (ds_ret (dv 1))))))))) hread hX
theorem ok_bounds_by {c_root_floor_by : DSp} {sp : DSp} (T : Txt P K mg base) (D_root_floor_by : Def P w K mg base CX0 1 "root_floor_by" s_root_floor_by ["number"] c_root_floor_by) (hread : ∀ ds M Q, ds.length = 1 → sp ds M Q DX0 → t_bounds_by c_root_floor_by (dEnds M Q) (startD 4 ds) M) (hX : ∀ ds M Q E, sp ds M Q E → sp ds M Q DX0 := by exact fun _ _ _ _ h => h) : Def P w K mg base CX0 2 "bounds_by" s_bounds_by ["measure"] sp :=
 T.h_bounds_by.ok (t := t_bounds_by c_root_floor_by) sc_bounds_by (fun f cdv A outer s H E hr gd => (dss_cons (ds_set (i := 1) sc_bounds_by.nd (dcall D_root_floor_by hr gd (da_cons (dv 0) da_nil)))
 (dss_cons (ds_set (i := 2) sc_bounds_by.nd (de_if (dt_cmp opd_lt (de_op opd_mulI (dv 1) (dv 1)) (dv 0) (nomark _)) (de_op opd_sub de_int (dv 1)) (de_op opd_sub de_int (dv 1))))
 (dss_cons (ds_set (i := 3) sc_bounds_by.nd (de_op opd_sub (de_op opd_sub de_int (dv 2)) de_int))
 (dss_cons (ds_if (dt_cmp (opd_ne (u64 hr)) (de_op opd_mod (de_op opd_sub (dv 2) (dv 0)) de_int) de_int (nomark _)) (dss_one (ds_set (i := 2) sc_bounds_by.nd (de_op opd_add (dv 2) de_int))) dss_nil)
 (dss_cons (ds_if (dt_cmp (opd_ne (u64 hr)) (de_op opd_mod (de_op opd_sub (dv 3) (dv 0)) de_int) de_int (nomark _)) (dss_one (ds_set (i := 3) sc_bounds_by.nd (de_op opd_sub (dv 3) de_int))) dss_nil)
 (dss_one (ds_ret (de_tup (da_cons (dv 2) (da_cons (dv 3) da_nil))))))))))) hread hX
theorem ok_how_many_heart_x {c_check_measure_x c_bounds_by : DSp} {sp : DSp} (T : Txt P K mg base) (D_check_measure_x : Def P w K mg base (L2.CX P w) 4 "check_measure" s_check_measure_x ["measure"] c_check_measure_x) (D_bounds_by : Def P w K mg base CX0 2 "bounds_by" s_bounds_by ["measure"] c_bounds_by) (hread : ∀ ds M Q E, ds.length = 1 → belowAll M.length ds = true → sp ds M Q E → t_how_many_heart_x c_check_measure_x c_bounds_by (dOut M E) (dEnds M Q) (startD 3 ds) M) : Def P w K mg base (L2.CX P w) 5 "how_many_heart" s_how_many_heart_x ["measure"] sp :=
 T.h_how_many_heart_x.okE (t := t_how_many_heart_x c_check_measure_x c_bounds_by) sc_how_many_heart_x (fun f cdv A outer s H E hr gd => (dssx_cons (dsx_expr (dcallX D_check_measure_x hr gd (dax_cons (dex_of (dv 0)) dax_nil)))
 (dssx_of (dss_cons (ds_asg (dcall D_bounds_by hr gd (da_cons (dv 0) da_nil)) (dg_tup rfl (dgs_cons (dg_name (i := 1) sc_how_many_heart_x.nd) (dgs_cons (dg_name (i := 2) sc_how_many_heart_x.nd) dgs_nil))))
 (dss_one (ds_ret (de_op opd_add (de_op opd_fdiv (de_op opd_sub (dv 2) (dv 1)) de_int) de_int))))))) hread
theorem ok_common_by {sp : DSp} (T : Txt P K mg base) (hread : ∀ ds M Q, ds.length = 2 → sp ds M Q DX0 → t_common_by (dEnds M Q) (startD 4 ds) M) (hX : ∀ ds M Q E, sp ds M Q E → sp ds M Q DX0 := by exact fun _ _ _ _ h => h) : Def P w K mg base CX0 1 "common_by" s_common_by ["one", "other"] sp :=
 T.h_common_by.ok (t := t_common_by) sc_common_by (fun f cdv A outer s H E hr gd => (dss_cons (ds_par (i := 2) (j := 3) rfl sc_common_by.nd (da_cons (de_blt cd_abs T.n_abs (da_cons (dv 0) da_nil)) (da_cons (de_blt cd_abs T.n_abs (da_cons (dv 1) da_nil)) da_nil)))
 (dss_cons (ds_while (dt_cmp (opd_ne (u64 hr)) (dv 3) de_int (nomark _)) (dss_one (ds_par (i := 2) (j := 3) rfl sc_common_by.nd (da_cons (dv 3) (da_cons (de_op opd_mod (dv 2) (dv 3)) da_nil)))))
 (dss_one (ds_ret (dv 2)))))) hread hX
theorem ok_is_step_by {c_common_by : DSp} {sp : DSp} (T : Txt P K mg base) (D_common_by : Def P w K mg base CX0 1 "common_by" s_common_by ["one", "other"] c_common_by) (hread : ∀ ds M Q, ds.length = 3 → sp ds M Q DX0 → t_is_step_by c_common_by (dEnds M Q) (startD 4 ds) M) (hX : ∀ ds M Q E, sp ds M Q E → sp ds M Q DX0 := by exact fun _ _ _ _ h => h) : Def P w K mg base CX0 2 "is_step_by" s_is_step_by ["measure", "one", "other"] sp :=
 T.h_is_step_by.ok (t := t_is_step_by c_common_by) sc_is_step_by (fun f cdv A outer s H E hr gd => (dss_cons (ds_set (i := 3) sc_is_step_by.nd (de_op opd_sub (de_op opd_sub de_int (dv 1)) (dv 2)))
 (dss_one (ds_ret (de_and (de_cmp opd_ge (dv 3) de_int (nomark _)) (de_one (de_cmp (opd_eq (u64 hr)) (dcall D_common_by hr gd (da_cons (de_op opd_fdiv (dv 3) de_int) (da_cons (de_op opd_fdiv (de_op opd_sub (dv 0) (de_op opd_mulI (dv 1) (dv 1))) de_int) da_nil))) de_int (nomark _)))))))) hread hX
theorem ok_lots_by {c_bounds_by c_is_step_by : DSp} {sp : DSp} (T : Txt P K mg base) (D_bounds_by : Def P w K mg base CX0 2 "bounds_by" s_bounds_by ["measure"] c_bounds_by) (D_is_step_by : Def P w K mg base CX0 2 "is_step_by" s_is_step_by ["measure", "one", "other"] c_is_step_by) (hread : ∀ ds M Q, ds.length = 1 → sp ds M Q DX0 → t_lots_by c_bounds_by c_is_step_by (dEnds M Q) (startD 8 ds) M) (hX : ∀ ds M Q E, sp ds M Q E → sp ds M Q DX0 := by exact fun _ _ _ _ h => h) : Def P w K mg base CX0 3 "lots_by" s_lots_by ["measure"] sp :=
 T.h_lots_by.ok (t := t_lots_by c_bounds_by c_is_step_by) sc_lots_by (fun f cdv A outer s H E hr gd => (dss_cons (ds_asg (dcall D_bounds_by hr gd (da_cons (dv 0) da_nil)) (dg_tup rfl (dgs_cons (dg_name (i := 1) sc_lots_by.nd) (dgs_cons (dg_name (i := 2) sc_lots_by.nd) dgs_nil))))
 (dss_cons (ds_par (i := 3) (j := 4) rfl sc_lots_by.nd (da_cons (de_lrng3 false rfl T.n_list T.n_range (da_cons (dv 1) (da_cons (de_op opd_add (dv 2) de_int) (da_cons de_int da_nil)))) (da_cons (de_own da_nil) da_nil)))
 (dss_cons (ds_while (dt_cmp (opd_ne (u64 hr)) (dv 3) (de_lst da_nil) (nomark _)) (dss_cons (ds_asg (de_tup (da_cons (de_lst (da_cons (de_ix (dv 3) de_int) da_nil)) (da_cons de_int da_nil))) (dg_tup rfl (dgs_cons (dg_name (i := 5) sc_lots_by.nd) (dgs_cons (dg_name (i := 6) sc_lots_by.nd) dgs_nil))))
 (dss_cons (ds_while (dt_cmp opd_lt (dv 6) (de_blt cd_len T.n_len (da_cons (dv 5) da_nil)) (nomark _)) (dss_cons (ds_set (i := 5) sc_lots_by.nd (de_op opd_add (dv 5) (de_lc false (own := [("number", 7)]) rfl sc_lots_by.nd (blkOk_by (N := ["measure", "low", "high", "left", "found", "lot", "at", "number"]) (own := [("number", 7)]) (sc := (defScope s_lots_by)) (by decide +kernel)) (di_seq (dv 3)) (fun _ _ _ _ _ => (dcg_name (i := 7) sc_lots_by.nd)) (fun _ _ _ _ _ => (dts_one (DW.dt (dw_and (dt_cmp (opd_notin (u65 hr)) (dv 7) (dv 5) (by rfl)) (dw_and1 (dt_tru (dcall D_is_step_by hr gd (da_cons (dv 0) (da_cons (de_ix (dv 5) (dv 6)) (da_cons (dv 7) da_nil)))))))))) (fun _ _ _ _ _ => (dv 7)))))
 (dss_one (ds_set (i := 6) sc_lots_by.nd (de_op opd_add (dv 6) de_int)))))
 (dss_cons (ds_setLc false (i := 3) (own := [("number", 7)]) rfl sc_lots_by.nd  (sw_true rfl rfl rfl (by decide +kernel)) (blkOk_by (N := ["measure", "low", "high", "left", "found", "lot", "at", "number"]) (own := [("number", 7)]) (sc := (defScope s_lots_by)) (by decide +kernel)) (di_seq (dv 3)) (fun _ _ _ _ _ => (dcg_name (i := 7) sc_lots_by.nd)) (fun _ _ _ _ _ => (dts_one (dt_cmp (opd_notin (u65 hr)) (dv 7) (dv 5) (by rfl)))) (fun _ _ _ _ _ => (dv 7)))
 (dss_one (ds_expr (de_append (dv 4) (da_cons (de_blt (cd_sorted false) T.n_sorted (da_cons (dv 5) da_nil)) da_nil))))))))
 (dss_one (ds_ret (de_frz (dv 4)))))))) hread hX
theorem ok_heart_by {sp : DSp} (T : Txt P K mg base) (hread : ∀ ds M Q, ds.length = 2 → sp ds M Q DX0 → t_heart_by (dEnds M Q) (startD 2 ds) M) (hX : ∀ ds M Q E, sp ds M Q E → sp ds M Q DX0 := by exact fun _ _ _ _ h => h) : Def P w K mg base CX0 1 "heart_by" s_heart_by ["measure", "number"] sp :=
 T.h_heart_by.ok (t := t_heart_by) sc_heart_by (fun f cdv A outer s H E hr gd => (dss_one (ds_ret (de_tup (da_cons de_int (da_cons (de_op opd_fdiv (de_op opd_sub (dv 0) (de_op opd_mulI (dv 1) (dv 1))) de_int) (da_cons de_int (da_cons (dv 1) da_nil)))))))) hread hX
theorem ok_heart_lots_x {c_check_measure_x c_bounds_by c_lots_by c_heart_by : DSp} {sp : DSp} (T : Txt P K mg base) (D_check_measure_x : Def P w K mg base (L2.CX P w) 4 "check_measure" s_check_measure_x ["measure"] c_check_measure_x) (D_bounds_by : Def P w K mg base CX0 2 "bounds_by" s_bounds_by ["measure"] c_bounds_by) (D_lots_by : Def P w K mg base CX0 3 "lots_by" s_lots_by ["measure"] c_lots_by) (D_heart_by : Def P w K mg base CX0 1 "heart_by" s_heart_by ["measure", "number"] c_heart_by) (hread : ∀ ds M Q E, ds.length = 1 → belowAll M.length ds = true → sp ds M Q E → t_heart_lots_x c_check_measure_x c_bounds_by c_lots_by c_heart_by (dOut M E) (dEnds M Q) (startD 5 ds) M) : Def P w K mg base (L2.CX P w) 5 "heart_lots" s_heart_lots_x ["measure"] sp :=
 T.h_heart_lots_x.okE (t := t_heart_lots_x c_check_measure_x c_bounds_by c_lots_by c_heart_by) sc_heart_lots_x (fun f cdv A outer s H E hr gd => (dssx_cons (dsx_expr (dcallX D_check_measure_x hr gd (dax_cons (dex_of (dv 0)) dax_nil)))
 (dssx_cons (dsx_of (ds_asg (dcall D_bounds_by hr gd (da_cons (dv 0) da_nil)) (dg_tup rfl (dgs_cons (dg_name (i := 1) sc_heart_lots_x.nd) (dgs_cons (dg_name (i := 2) sc_heart_lots_x.nd) dgs_nil)))))
 (dssx_cons (dsx_if (dt_cmp opd_gt (de_op opd_add (de_op opd_fdiv (de_op opd_sub (dv 2) (dv 1)) de_int) de_int) de_int (nomark _)) (dssx_one (let ⟨_, _, _, h⟩ := T.e_TooMany; dsx_raise h rfl hr (da_cons (de_op opd_add (de_op opd_fdiv (de_op opd_sub (dv 2) (dv 1)) de_int) de_int) da_nil))) (dssx_of dss_nil))
 (dssx_of (dss_one (ds_ret (de_lc false (own := [("lot", 3)]) rfl sc_heart_lots_x.nd (blkOk_by (N := ["measure", "low", "high", "lot", "number"]) (own := [("lot", 3)]) (sc := (defScope s_heart_lots_x)) (by decide +kernel)) (di_seq (dcall D_lots_by hr gd (da_cons (dv 0) da_nil))) (fun _ _ _ _ _ => (dcg_name (i := 3) sc_heart_lots_x.nd)) (fun _ _ _ _ _ => dts_nil) (fun _ _ _ _ _ => (de_lc false (own := [("number", 4)]) rfl sc_heart_lots_x.nd (blkOk_by (N := ["measure", "low", "high", "lot", "number"]) (own := [("number", 4)]) (by rfl)) (di_seq (dv 3)) (fun _ _ _ _ _ => (dcg_name (i := 4) sc_heart_lots_x.nd)) (fun _ _ _ _ _ => dts_nil) (fun _ _ _ _ _ => (dcall D_heart_by hr gd (da_cons (dv 0) (da_cons (dv 4) da_nil)))))))))))))) hread
theorem ok_is_cutting_by {c_is_whole c_common_by : DSp} {sp : DSp} (T : Txt P K mg base) (D_is_whole : Def P w K mg base CX0 1 "is_whole" s_is_whole ["value"] c_is_whole) (D_common_by : Def P w K mg base CX0 1 "common_by" s_common_by ["one", "other"] c_common_by) (hread : ∀ ds M Q, ds.length = 1 → sp ds M Q DX0 → t_is_cutting_by c_is_whole c_common_by (dEnds M Q) (startD 7 ds) M) (hX : ∀ ds M Q E, sp ds M Q E → sp ds M Q DX0 := by exact fun _ _ _ _ h => h) : Def P w K mg base CX0 2 "is_cutting_by" s_is_cutting_by ["value"] sp :=
 T.h_is_cutting_by.ok (t := t_is_cutting_by c_is_whole c_common_by) sc_is_cutting_by (fun f cdv A outer s H E hr gd => (dss_cons (ds_if (DW.dt (dw_or (dt_not (dt_tru (de_blt cd_isi T.n_isinstance (da_cons (dv 0) (da_cons (de_bltn (v := .ty "tuple") T.n_tuple rfl) da_nil))))) (dw_or (dt_cmp (opd_ne (u64 hr)) (de_blt cd_len T.n_len (da_cons (dv 0) da_nil)) de_int (nomark _)) (dw_or1 (dt_cmp (opd_ne (u64 hr)) (de_lc false (own := [("item", 1)]) rfl sc_is_cutting_by.nd (blkOk_by (N := ["value", "item", "low", "high", "side", "turn", "both"]) (own := [("item", 1)]) (sc := (defScope s_is_cutting_by)) (by decide +kernel)) (di_seq (dv 0)) (fun _ _ _ _ _ => (dcg_name (i := 1) sc_is_cutting_by.nd)) (fun _ _ _ _ _ => (dts_one (dt_not (dt_tru (dcall D_is_whole hr gd (da_cons (dv 1) da_nil)))))) (fun _ _ _ _ _ => (dv 1))) (de_lst da_nil) (nomark _)))))) (dss_one (ds_ret de_bl)) dss_nil)
 (dss_cons (ds_asg (dv 0) (dg_tup rfl (dgs_cons (dg_name (i := 2) sc_is_cutting_by.nd) (dgs_cons (dg_name (i := 3) sc_is_cutting_by.nd) (dgs_cons (dg_name (i := 4) sc_is_cutting_by.nd) (dgs_cons (dg_name (i := 5) sc_is_cutting_by.nd) dgs_nil))))))
 (dss_cons (ds_if (DW.dt (dw_or (dt_cmp opd_lt (dv 3) de_int (nomark _)) (dw_or (dt_cmp opd_lt (dv 4) de_int (nomark _)) (dw_or1 (dt_not (dt_cmp opd_lt (de_op opd_add (dv 4) (dv 5)) (dv 3) (nomark _))))))) (dss_one (ds_ret de_bl)) dss_nil)
 (dss_cons (ds_set (i := 6) sc_is_cutting_by.nd (dcall D_common_by hr gd (da_cons (dv 3) (da_cons (dv 4) da_nil))))
 (dss_one (ds_ret (de_and (de_chain opd_le opd_lt de_int (dv 2) (dv 6)) (de_one (de_cmp (opd_eq (u64 hr)) (dcall D_common_by hr gd (da_cons (dcall D_common_by hr gd (da_cons (dv 2) (da_cons (dv 6) da_nil))) (da_cons (dv 5) da_nil))) de_int (nomark _))))))))))) hread hX
theorem ok_is_heart {c_is_cutting_by : DSp} {sp : DSp} (T : Txt P K mg base) (D_is_cutting_by : Def P w K mg base CX0 2 "is_cutting_by" s_is_cutting_by ["value"] c_is_cutting_by) (hread : ∀ ds M Q, ds.length = 1 → sp ds M Q DX0 → t_is_heart c_is_cutting_by (dEnds M Q) (startD 1 ds) M) (hX : ∀ ds M Q E, sp ds M Q E → sp ds M Q DX0 := by exact fun _ _ _ _ h => h) : Def P w K mg base CX0 3 "is_heart" s_is_heart ["value"] sp :=
 T.h_is_heart.ok (t := t_is_heart c_is_cutting_by) sc_is_heart (fun f cdv A outer s H E hr gd => (dss_one (ds_ret (de_and (dcall D_is_cutting_by hr gd (da_cons (dv 0) da_nil)) (de_one (de_cmp (opd_eq (u64 hr)) (de_ix (dv 0) de_int) de_int (nomark _))))))) hread hX
theorem ok_measure_by {sp : DSp} (T : Txt P K mg base) (hread : ∀ ds M Q, ds.length = 1 → sp ds M Q DX0 → t_measure_by (dEnds M Q) (startD 1 ds) M) (hX : ∀ ds M Q E, sp ds M Q E → sp ds M Q DX0 := by exact fun _ _ _ _ h => h) : Def P w K mg base CX0 1 "measure_by" s_measure_by ["cutting"] sp :=
 T.h_measure_by.ok (t := t_measure_by) sc_measure_by (fun f cdv A outer s H E hr gd => (dss_one (ds_ret (de_op opd_add (de_op opd_mulI (de_ix (dv 0) de_int) (de_ix (dv 0) de_int)) (de_op opd_mulI (de_op opd_mulI de_int (de_ix (dv 0) de_int)) (de_ix (dv 0) de_int)))))) hread hX
theorem ok_heart_number_x {c_is_heart c_bounds_by c_measure_by : DSp} {sp : DSp} (T : Txt P K mg base) (D_is_heart : Def P w K mg base CX0 3 "is_heart" s_is_heart ["value"] c_is_heart) (D_bounds_by : Def P w K mg base CX0 2 "bounds_by" s_bounds_by ["measure"] c_bounds_by) (D_measure_by : Def P w K mg base CX0 1 "measure_by" s_measure_by ["cutting"] c_measure_by) (hread : ∀ ds M Q E, ds.length = 1 → belowAll M.length ds = true → sp ds M Q E → t_heart_number_x c_is_heart c_bounds_by c_measure_by (dOut M E) (dEnds M Q) (startD 1 ds) M) : Def P w K mg base (L2.CX P w) 4 "heart_number" s_heart_number_x ["cutting"] sp :=
 T.h_heart_number_x.okE (t := t_heart_number_x c_is_heart c_bounds_by c_measure_by) sc_heart_number_x (fun f cdv A outer s H E hr gd => (dssx_cons (dsx_if (dt_not (dt_tru (dcall D_is_heart hr gd (da_cons (dv 0) da_nil)))) (dssx_one (let ⟨_, _, _, h⟩ := T.e_InvalidCutting; dsx_raise h rfl hr (da_cons (dv 0) da_nil))) (dssx_of dss_nil))
 (dssx_of (dss_one (ds_ret (de_op opd_fdiv (de_op opd_sub (de_ix (dv 0) de_int) (de_ix (dcall D_bounds_by hr gd (da_cons (dcall D_measure_by hr gd (da_cons (dv 0) da_nil)) da_nil)) de_int)) de_int)))))) hread
theorem ok_heart_steps_x {c_is_heart c_measure_by c_bounds_by c_is_step_by c_heart_by : DSp} {sp : DSp} (T : Txt P K mg base) (D_is_heart : Def P w K mg base CX0 3 "is_heart" s_is_heart ["value"] c_is_heart) (D_measure_by : Def P w K mg base CX0 1 "measure_by" s_measure_by ["cutting"] c_measure_by) (D_bounds_by : Def P w K mg base CX0 2 "bounds_by" s_bounds_by ["measure"] c_bounds_by) (D_is_step_by : Def P w K mg base CX0 2 "is_step_by" s_is_step_by ["measure", "one", "other"] c_is_step_by) (D_heart_by : Def P w K mg base CX0 1 "heart_by" s_heart_by ["measure", "number"] c_heart_by) (hread : ∀ ds M Q E, ds.length = 1 → belowAll M.length ds = true → sp ds M Q E → t_heart_steps_x c_is_heart c_measure_by c_bounds_by c_is_step_by c_heart_by (dOut M E) (dEnds M Q) (startD 6 ds) M) : Def P w K mg base (L2.CX P w) 4 "heart_steps" s_heart_steps_x ["cutting"] sp :=
 T.h_heart_steps_x.okE (t := t_heart_steps_x c_is_heart c_measure_by c_bounds_by c_is_step_by c_heart_by) sc_heart_steps_x (fun f cdv A outer s H E hr gd => (dssx_cons (dsx_if (dt_not (dt_tru (dcall D_is_heart hr gd (da_cons (dv 0) da_nil)))) (dssx_one (let ⟨_, _, _, h⟩ := T.e_InvalidCutting; dsx_raise h rfl hr (da_cons (dv 0) da_nil))) (dssx_of dss_nil))
 (dssx_cons (dsx_of (ds_set (i := 1) sc_heart_steps_x.nd (dcall D_measure_by hr gd (da_cons (dv 0) da_nil))))
 (dssx_cons (dsx_of (ds_set (i := 2) sc_heart_steps_x.nd (de_ix (dcall D_bounds_by hr gd (da_cons (dv 1) da_nil)) de_int)))
 (dssx_cons (dsx_of (ds_set (i := 3) sc_heart_steps_x.nd (de_op opd_add (de_op opd_fdiv (de_op opd_sub (de_op opd_sub (de_op opd_sub de_int (de_ix (dv 0) de_int)) de_int) (dv 2)) de_int) de_int)))
 (dssx_cons (dsx_if (dt_cmp opd_gt (dv 3) (let ⟨_, h⟩ := T.c_MOST_LISTED; de_globI rfl h) (nomark _)) (dssx_one (let ⟨_, _, _, h⟩ := T.e_TooMany; dsx_raise h rfl hr (da_cons (dv 3) da_nil))) (dssx_of dss_nil))
 (dssx_of (dss_cons (ds_setLc false (i := 4) (own := [("number", 5)]) rfl sc_heart_steps_x.nd  (sw_true rfl rfl rfl (by decide +kernel)) (blkOk_by (N := ["cutting", "measure", "low", "many", "numbers", "number"]) (own := [("number", 5)]) (sc := (defScope s_heart_steps_x)) (by decide +kernel)) (di_range3 T.n_range (da_cons (dv 2) (da_cons (de_op opd_sub (de_op opd_sub de_int (de_ix (dv 0) de_int)) de_int) (da_cons de_int da_nil)))) (fun _ _ _ _ _ => (dcg_name (i := 5) sc_heart_steps_x.nd)) (fun _ _ _ _ _ => (dts_one (dt_tru (dcall D_is_step_by hr gd (da_cons (dv 1) (da_cons (de_ix (dv 0) de_int) (da_cons (dv 5) da_nil))))))) (fun _ _ _ _ _ => (dv 5)))
 (dss_one (ds_ret (de_lc false (own := [("number", 5)]) rfl sc_heart_steps_x.nd (blkOk_by (N := ["cutting", "measure", "low", "many", "numbers", "number"]) (own := [("number", 5)]) (sc := (defScope s_heart_steps_x)) (by decide +kernel)) (di_seq (dv 4)) (fun _ _ _ _ _ => (dcg_name (i := 5) sc_heart_steps_x.nd)) (fun _ _ _ _ _ => dts_nil) (fun _ _ _ _ _ => (dcall D_heart_by hr gd (da_cons (dv 1) (da_cons (dv 5) da_nil))))))))))))))) hread
theorem ok_check_cutting_x {c_is_cutting_by : DSp} {sp : DSp} (T : Txt P K mg base) (D_is_cutting_by : Def P w K mg base CX0 2 "is_cutting_by" s_is_cutting_by ["value"] c_is_cutting_by) (hread : ∀ ds M Q E, ds.length = 1 → belowAll M.length ds = true → sp ds M Q E → t_check_cutting_x c_is_cutting_by (dOut M E) (dEnds M Q) (startD 1 ds) M) : Def P w K mg base (L2.CX P w) 3 "check_cutting" s_check_cutting_x ["cutting"] sp :=
 T.h_check_cutting_x.okE (t := t_check_cutting_x c_is_cutting_by) sc_check_cutting_x (fun f cdv A outer s H E hr gd => (dssx_one (dsx_if (dt_not (dt_tru (dcall D_is_cutting_by hr gd (da_cons (dv 0) da_nil)))) (dssx_one (let ⟨_, _, _, h⟩ := T.e_InvalidCutting; dsx_raise h rfl hr (da_cons (dv 0) da_nil))) (dssx_of dss_nil)))) hread
theorem ok_far_by {c_common_by : DSp} {sp : DSp} (T : Txt P K mg base) (D_common_by : Def P w K mg base CX0 1 "common_by" s_common_by ["one", "other"] c_common_by) (hread : ∀ ds M Q, ds.length = 1 → sp ds M Q DX0 → t_far_by c_common_by (dEnds M Q) (startD 5 ds) M) (hX : ∀ ds M Q E, sp ds M Q E → sp ds M Q DX0 := by exact fun _ _ _ _ h => h) : Def P w K mg base CX0 2 "far_by" s_far_by ["cutting"] sp :=
 T.h_far_by.ok (t := t_far_by c_common_by) sc_far_by (fun f cdv A outer s H E hr gd => (dss_cons (ds_asg (dv 0) (dg_tup rfl (dgs_cons (dg_name (i := 1) sc_far_by.nd) (dgs_cons (dg_name (i := 2) sc_far_by.nd) (dgs_cons (dg_name (i := 3) sc_far_by.nd) (dgs_cons (dg_name (i := 4) sc_far_by.nd) dgs_nil))))))
 (dss_cons (ds_if (dt_cmp (opd_eq (u64 hr)) (dv 3) de_int (nomark _)) (dss_one (ds_ret de_int)) dss_nil)
 (dss_one (ds_ret (de_if (dt_cmp (opd_eq (u64 hr)) (dcall D_common_by hr gd (da_cons (dcall D_common_by hr gd (da_cons (dv 1) (da_cons (dv 2) da_nil))) (da_cons (dv 3) da_nil))) de_int (nomark _)) de_int de_int)))))) hread hX
theorem ok_heart_distance_x {c_check_cutting_x c_far_by : DSp} {sp : DSp} (T : Txt P K mg base) (D_check_cutting_x : Def P w K mg base (L2.CX P w) 3 "check_cutting" s_check_cutting_x ["cutting"] c_check_cutting_x) (D_far_by : Def P w K mg base CX0 2 "far_by" s_far_by ["cutting"] c_far_by) (hread : ∀ ds M Q E, ds.length = 1 → belowAll M.length ds = true → sp ds M Q E → t_heart_distance_x c_check_cutting_x c_far_by (dOut M E) (dEnds M Q) (startD 1 ds) M) : Def P w K mg base (L2.CX P w) 4 "heart_distance" s_heart_distance_x ["cutting"] sp :=
 T.h_heart_distance_x.okE (t := t_heart_distance_x c_check_cutting_x c_far_by) sc_heart_distance_x (fun f cdv A outer s H E hr gd => (dssx_cons (dsx_expr (dcallX D_check_cutting_x hr gd (dax_cons (dex_of (dv 0)) dax_nil)))
 (dssx_of (dss_one (ds_ret (dcall D_far_by hr gd (da_cons (dv 0) da_nil))))))) hread
theorem ok_shared {sp : DSp} (T : Txt P K mg base) (hread : ∀ ds M Q, ds.length = 2 → sp ds M Q DX0 → t_shared (dEnds M Q) (startD 9 ds) M) (hX : ∀ ds M Q E, sp ds M Q E → sp ds M Q DX0 := by exact fun _ _ _ _ h => h) : Def P w K mg base CX0 1 "shared" s_shared ["one", "other"] sp :=
 T.h_shared.ok (t := t_shared) sc_shared (fun f cdv A outer s H E hr gd => (dss_cons (ds_asg (de_tup (da_cons (dv 0) (da_cons (dv 1) (da_cons de_int (da_cons de_int (da_cons de_int (da_cons de_int da_nil))))))) (dg_tup rfl (dgs_cons (dg_name (i := 2) sc_shared.nd) (dgs_cons (dg_name (i := 3) sc_shared.nd) (dgs_cons (dg_name (i := 4) sc_shared.nd) (dgs_cons (dg_name (i := 5) sc_shared.nd) (dgs_cons (dg_name (i := 6) sc_shared.nd) (dgs_cons (dg_name (i := 7) sc_shared.nd) dgs_nil))))))))
 (dss_cons (ds_while (dt_cmp (opd_ne (u64 hr)) (dv 3) de_int (nomark _)) (dss_cons (ds_set (i := 8) sc_shared.nd (de_op opd_fdiv (dv 2) (dv 3)))
 (dss_cons (ds_par (i := 2) (j := 3) rfl sc_shared.nd (da_cons (dv 3) (da_cons (de_op opd_sub (dv 2) (de_op opd_mulI (dv 8) (dv 3))) da_nil)))
 (dss_cons (ds_par (i := 4) (j := 5) rfl sc_shared.nd (da_cons (dv 5) (da_cons (de_op opd_sub (dv 4) (de_op opd_mulI (dv 8) (dv 5))) da_nil)))
 (dss_one (ds_par (i := 6) (j := 7) rfl sc_shared.nd (da_cons (dv 7) (da_cons (de_op opd_sub (dv 6) (de_op opd_mulI (dv 8) (dv 7))) da_nil))))))))
 (dss_one (ds_ret (de_if (dt_cmp opd_gt (dv 2) de_int (nomark _)) (de_tup (da_cons (dv 2) (da_cons (dv 4) (da_cons (dv 6) da_nil)))) (de_tup (da_cons (de_neg (dv 2)) (da_cons (de_neg (dv 4)) (da_cons (de_neg (dv 6)) da_nil)))))))))) hread hX
theorem ok_opposite_by {c_shared : DSp} {sp : DSp} (T : Txt P K mg base) (D_shared : Def P w K mg base CX0 1 "shared" s_shared ["one", "other"] c_shared) (hread : ∀ ds M Q, ds.length = 2 → sp ds M Q DX0 → t_opposite_by c_shared (dEnds M Q) (startD 2 ds) M) (hX : ∀ ds M Q E, sp ds M Q E → sp ds M Q DX0 := by exact fun _ _ _ _ h => h) : Def P w K mg base CX0 2 "opposite_by" s_opposite_by ["number", "modulus"] sp :=
 T.h_opposite_by.ok (t := t_opposite_by c_shared) sc_opposite_by (fun f cdv A outer s H E hr gd => (dss_one (ds_ret (de_op opd_mod (de_ix (dcall D_shared hr gd (da_cons (de_op opd_mod (dv 0) (dv 1)) (da_cons (dv 1) da_nil))) de_int) (dv 1))))) hread hX
theorem ok_beside {c_opposite_by : DSp} {sp : DSp} (T : Txt P K mg base) (D_opposite_by : Def P w K mg base CX0 2 "opposite_by" s_opposite_by ["number", "modulus"] c_opposite_by) (hread : ∀ ds M Q, ds.length = 1 → sp ds M Q DX0 → t_beside c_opposite_by (dEnds M Q) (startD 4 ds) M) (hX : ∀ ds M Q E, sp ds M Q E → sp ds M Q DX0 := by exact fun _ _ _ _ h => h) : Def P w K mg base CX0 3 "beside" s_beside ["deed"] sp :=
 T.h_beside.ok (t := t_beside c_opposite_by) sc_beside (fun f cdv A outer s H E hr gd => (dss_cons (ds_asg (dv 0) (dg_tup rfl (dgs_cons (dg_name (i := 1) sc_beside.nd) (dgs_cons (dg_name (i := 2) sc_beside.nd) dgs_nil))))
 (dss_cons (ds_set (i := 3) sc_beside.nd (de_if (dt_cmp opd_gt (dv 2) de_int (nomark _)) (dcall D_opposite_by hr gd (da_cons (dv 1) (da_cons (dv 2) da_nil))) de_int))
 (dss_one (ds_ret (de_tup (da_cons (de_op opd_fdiv (de_op opd_sub (de_op opd_mulI (dv 1) (dv 3)) de_int) (dv 2)) (da_cons (dv 3) da_nil)))))))) hread hX
theorem ok_table_by {c_beside : DSp} {sp : DSp} (T : Txt P K mg base) (D_beside : Def P w K mg base CX0 3 "beside" s_beside ["deed"] c_beside) (hread : ∀ ds M Q, ds.length = 2 → sp ds M Q DX0 → t_table_by c_beside (dEnds M Q) (startD 11 ds) M) (hX : ∀ ds M Q E, sp ds M Q E → sp ds M Q DX0 := by exact fun _ _ _ _ h => h) : Def P w K mg base CX0 4 "table_by" s_table_by ["cutting", "deed"] sp :=
 T.h_table_by.ok (t := t_table_by c_beside) sc_table_by (fun f cdv A outer s H E hr gd => (dss_cons (ds_asg (dv 0) (dg_tup rfl (dgs_cons (dg_name (i := 2) sc_table_by.nd) (dgs_cons (dg_name (i := 3) sc_table_by.nd) (dgs_cons (dg_name (i := 4) sc_table_by.nd) (dgs_cons (dg_name (i := 5) sc_table_by.nd) dgs_nil))))))
 (dss_cons (ds_asg (dv 1) (dg_tup rfl (dgs_cons (dg_name (i := 6) sc_table_by.nd) (dgs_cons (dg_name (i := 7) sc_table_by.nd) dgs_nil))))
 (dss_cons (ds_asg (dcall D_beside hr gd (da_cons (dv 1) da_nil)) (dg_tup rfl (dgs_cons (dg_name (i := 8) sc_table_by.nd) (dgs_cons (dg_name (i := 9) sc_table_by.nd) dgs_nil))))
 (dss_cons (ds_set (i := 10) sc_table_by.nd (de_op opd_add (de_op opd_add (de_op opd_add (de_op opd_mulI (dv 8) (dv 3)) (de_op opd_mulI (dv 9) (dv 2))) (dv 5)) (de_op opd_mulI (dv 7) (dv 4))))
 (dss_one (ds_ret (de_tup (da_cons (de_tup (da_cons (de_op opd_add (de_op opd_mulI (dv 6) (dv 3)) (de_op opd_mulI (dv 7) (dv 2))) (da_cons (de_op opd_mulI (dv 7) (dv 4)) (da_cons (dv 10) (da_cons (de_op opd_mulI (dv 9) (dv 4)) da_nil))))) (da_cons (dv 8) (da_cons (dv 9) da_nil))))))))))) hread hX
theorem ok_full_by {c_table_by c_shared c_opposite_by : DSp} {sp : DSp} (T : Txt P K mg base) (D_table_by : Def P w K mg base CX0 4 "table_by" s_table_by ["cutting", "deed"] c_table_by) (D_shared : Def P w K mg base CX0 1 "shared" s_shared ["one", "other"] c_shared) (D_opposite_by : Def P w K mg base CX0 2 "opposite_by" s_opposite_by ["number", "modulus"] c_opposite_by) (hread : ∀ ds M Q, ds.length = 2 → sp ds M Q DX0 → t_full_by c_table_by c_shared c_opposite_by (dEnds M Q) (startD 18 ds) M) (hX : ∀ ds M Q E, sp ds M Q E → sp ds M Q DX0 := by exact fun _ _ _ _ h => h) : Def P w K mg base CX0 5 "full_by" s_full_by ["cutting", "deed"] sp :=
 T.h_full_by.ok (t := t_full_by c_table_by c_shared c_opposite_by) sc_full_by (fun f cdv A outer s H E hr gd => (dss_cons (ds_asg (dcall D_table_by hr gd (da_cons (dv 0) (da_cons (dv 1) da_nil))) (dg_tup rfl (dgs_cons (dg_tup rfl (dgs_cons (dg_name (i := 2) sc_full_by.nd) (dgs_cons (dg_name (i := 3) sc_full_by.nd) (dgs_cons (dg_name (i := 4) sc_full_by.nd) (dgs_cons (dg_name (i := 5) sc_full_by.nd) dgs_nil))))) (dgs_cons (dg_name (i := 6) sc_full_by.nd) (dgs_cons (dg_name (i := 7) sc_full_by.nd) dgs_nil)))))
 (dss_cons (ds_asg (dcall D_shared hr gd (da_cons (dv 2) (da_cons (dv 3) da_nil))) (dg_tup rfl (dgs_cons (dg_name (i := 8) sc_full_by.nd) (dgs_cons (dg_name (i := 9) sc_full_by.nd) (dgs_cons (dg_name (i := 10) sc_full_by.nd) dgs_nil)))))
 (dss_cons (ds_set (i := 11) sc_full_by.nd (de_op opd_fdiv (de_op opd_sub (de_op opd_mulI (dv 2) (dv 5)) (de_op opd_mulI (dv 3) (dv 4))) (dv 8)))
 (dss_cons (ds_par (i := 12) (j := 13) rfl sc_full_by.nd (da_cons (de_bfun cd_gcd T.g_gcd (da_cons (dv 11) (da_cons (dv 8) da_nil))) (da_cons (de_neg (de_op opd_add (de_op opd_mulI (dv 9) (dv 4)) (de_op opd_mulI (dv 10) (dv 5)))) da_nil)))
 (dss_cons (ds_par (i := 14) (j := 15) rfl sc_full_by.nd (da_cons (de_op opd_mod (dv 13) (dv 12)) (da_cons (de_op opd_fdiv (dv 8) (dv 12)) da_nil)))
 (dss_cons (ds_set (i := 16) sc_full_by.nd (de_if (dt_cmp opd_gt (dv 15) de_int (nomark _)) (de_op opd_mod (de_op opd_mulI (de_op opd_fdiv (de_op opd_sub (dv 14) (dv 13)) (dv 12)) (dcall D_opposite_by hr gd (da_cons (de_op opd_fdiv (dv 11) (dv 12)) (da_cons (dv 15) da_nil)))) (dv 15)) de_int))
 (dss_cons (ds_par3 (i := 9) (j := 10) (l := 13) rfl sc_full_by.nd (da_cons (de_op opd_add (dv 9) (de_op opd_mulI (dv 16) (de_op opd_fdiv (dv 3) (dv 8)))) (da_cons (de_op opd_sub (dv 10) (de_op opd_mulI (dv 16) (de_op opd_fdiv (dv 2) (dv 8)))) (da_cons (de_op opd_add (dv 13) (de_op opd_mulI (dv 16) (dv 11))) da_nil))))
 (dss_cons (ds_set (i := 17) sc_full_by.nd (de_tup (da_cons (dv 14) (da_cons (dv 11) (da_cons (dv 8) (da_cons (de_op opd_sub (de_neg (de_ix (dv 0) de_int)) (de_op opd_mulI (de_op opd_mulI de_int (de_ix (dv 1) de_int)) (de_ix (dv 0) de_int))) da_nil))))))
 (dss_one (ds_ret (de_tup (da_cons (dv 17) (da_cons (de_tup (da_cons (de_tup (da_cons (dv 9) (da_cons (dv 10) da_nil))) (da_cons (de_tup (da_cons (de_neg (de_op opd_fdiv (dv 3) (dv 8))) (da_cons (de_op opd_fdiv (dv 2) (dv 8)) da_nil))) da_nil))) (da_cons (de_op opd_fdiv (de_op opd_sub (dv 13) (dv 14)) (dv 8)) (da_cons (dv 6) (da_cons (dv 7) da_nil))))))))))))))))) hread hX
theorem ok_done_by {c_full_by : DSp} {sp : DSp} (T : Txt P K mg base) (D_full_by : Def P w K mg base CX0 5 "full_by" s_full_by ["cutting", "deed"] c_full_by) (hread : ∀ ds M Q, ds.length = 2 → sp ds M Q DX0 → t_done_by c_full_by (dEnds M Q) (startD 2 ds) M) (hX : ∀ ds M Q E, sp ds M Q E → sp ds M Q DX0 := by exact fun _ _ _ _ h => h) : Def P w K mg base CX0 6 "done_by" s_done_by ["cutting", "deed"] sp :=
 T.h_done_by.ok (t := t_done_by c_full_by) sc_done_by (fun f cdv A outer s H E hr gd => (dss_one (ds_ret (de_ix (dcall D_full_by hr gd (da_cons (dv 0) (da_cons (dv 1) da_nil))) de_int)))) hread hX
theorem ok_nearer_by {c_far_by c_done_by : DSp} {sp : DSp} (T : Txt P K mg base) (D_far_by : Def P w K mg base CX0 2 "far_by" s_far_by ["cutting"] c_far_by) (D_done_by : Def P w K mg base CX0 6 "done_by" s_done_by ["cutting", "deed"] c_done_by) (hread : ∀ ds M Q, ds.length = 1 → sp ds M Q DX0 → t_nearer_by c_far_by c_done_by (dEnds M Q) (startD 3 ds) M) (hX : ∀ ds M Q E, sp ds M Q E → sp ds M Q DX0 := by exact fun _ _ _ _ h => h) : Def P w K mg base CX0 7 "nearer_by" s_nearer_by ["cutting"] sp :=
 T.h_nearer_by.ok (t := t_nearer_by c_far_by c_done_by) sc_nearer_by (fun f cdv A outer s H E hr gd => (dss_cons (ds_par (i := 1) (j := 2) rfl sc_nearer_by.nd (da_cons (dcall D_far_by hr gd (da_cons (dv 0) da_nil)) (da_cons de_int da_nil)))
 (dss_cons (ds_while (dt_cmp opd_ge (dcall D_far_by hr gd (da_cons (dcall D_done_by hr gd (da_cons (dv 0) (da_cons (de_tup (da_cons (dv 2) (da_cons de_int da_nil))) da_nil))) da_nil)) (dv 1) (nomark _)) (dss_one (ds_set (i := 2) sc_nearer_by.nd (de_op opd_add (dv 2) de_int))))
 (dss_one (ds_ret (de_tup (da_cons (dv 2) (da_cons de_int da_nil)))))))) hread hX
theorem ok_to_heart_by {c_nearer_by c_done_by : DSp} {sp : DSp} (T : Txt P K mg base) (D_nearer_by : Def P w K mg base CX0 7 "nearer_by" s_nearer_by ["cutting"] c_nearer_by) (D_done_by : Def P w K mg base CX0 6 "done_by" s_done_by ["cutting", "deed"] c_done_by) (hread : ∀ ds M Q, ds.length = 1 → sp ds M Q DX0 → t_to_heart_by c_nearer_by c_done_by (dEnds M Q) (startD 4 ds) M) (hX : ∀ ds M Q E, sp ds M Q E → sp ds M Q DX0 := by exact fun _ _ _ _ h => h) : Def P w K mg base CX0 8 "to_heart_by" s_to_heart_by ["cutting"] sp :=
 T.h_to_heart_by.ok (t := t_to_heart_by c_nearer_by c_done_by) sc_to_heart_by (fun f cdv A outer s H E hr gd => (dss_cons (ds_par (i := 1) (j := 2) rfl sc_to_heart_by.nd (da_cons (dv 0) (da_cons (de_lst da_nil) da_nil)))
 (dss_cons (ds_while (dt_cmp (opd_ne (u64 hr)) (de_ix (dv 1) de_int) de_int (nomark _)) (dss_cons (ds_set (i := 3) sc_to_heart_by.nd (dcall D_nearer_by hr gd (da_cons (dv 1) da_nil)))
 (dss_one (ds_par (i := 1) (j := 2) rfl sc_to_heart_by.nd (da_cons (dcall D_done_by hr gd (da_cons (dv 1) (da_cons (dv 3) da_nil))) (da_cons (de_op opd_add (dv 2) (de_lst (da_cons (dv 3) da_nil))) da_nil))))))
 (dss_one (ds_ret (de_tup (da_cons (dv 2) (da_cons (dv 1) da_nil)))))))) hread hX
theorem ok_word_to_heart_x {c_check_cutting_x c_to_heart_by : DSp} {sp : DSp} (T : Txt P K mg base) (D_check_cutting_x : Def P w K mg base (L2.CX P w) 3 "check_cutting" s_check_cutting_x ["cutting"] c_check_cutting_x) (D_to_heart_by : Def P w K mg base CX0 8 "to_heart_by" s_to_heart_by ["cutting"] c_to_heart_by) (hread : ∀ ds M Q E, ds.length = 1 → belowAll M.length ds = true → sp ds M Q E → t_word_to_heart_x c_check_cutting_x c_to_heart_by (dOut M E) (dEnds M Q) (startD 1 ds) M) : Def P w K mg base (L2.CX P w) 9 "word_to_heart" s_word_to_heart_x ["cutting"] sp :=
 T.h_word_to_heart_x.okE (t := t_word_to_heart_x c_check_cutting_x c_to_heart_by) sc_word_to_heart_x (fun f cdv A outer s H E hr gd => (dssx_cons (dsx_expr (dcallX D_check_cutting_x hr gd (dax_cons (dex_of (dv 0)) dax_nil)))
 (dssx_of (dss_one (ds_ret (de_ix (dcall D_to_heart_by hr gd (da_cons (dv 0) da_nil)) de_int)))))) hread
theorem ok_check_number_x {c_is_whole : DSp} {sp : DSp} (T : Txt P K mg base) (D_is_whole : Def P w K mg base CX0 1 "is_whole" s_is_whole ["value"] c_is_whole) (hread : ∀ ds M Q E, ds.length = 3 → belowAll M.length ds = true → sp ds M Q E → t_check_number_x c_is_whole (dOut M E) (dEnds M Q) (startD 3 ds) M) : Def P w K mg base (L2.CX P w) 2 "check_number" s_check_number_x ["number", "low", "high"] sp :=
 T.h_check_number_x.okE (t := t_check_number_x c_is_whole) sc_check_number_x (fun f cdv A outer s H E hr gd => (dssx_one (dsx_if (DW.dt (dw_or (dt_not (dt_tru (dcall D_is_whole hr gd (da_cons (dv 0) da_nil)))) (dw_or (DW.dt (dw_and (dt_cmp opd_isnot (dv 1) de_non (nomark _)) (dw_and1 (dt_cmp opd_lt (dv 0) (dv 1) (nomark _))))) (dw_or1 (DW.dt (dw_and (dt_cmp opd_isnot (dv 2) de_non (nomark _)) (dw_and1 (dt_cmp opd_gt (dv 0) (dv 2) (nomark _))))))))) (dssx_one (let ⟨_, _, _, h⟩ := T.e_InvalidNumber; dsx_raise h rfl hr (da_cons (dv 0) da_nil))) (dssx_of dss_nil)))) hread
theorem ok_heart_numbered_x {c_check_measure_x c_bounds_by c_check_number_x c_heart_by : DSp} {sp : DSp} (T : Txt P K mg base) (D_check_measure_x : Def P w K mg base (L2.CX P w) 4 "check_measure" s_check_measure_x ["measure"] c_check_measure_x) (D_bounds_by : Def P w K mg base CX0 2 "bounds_by" s_bounds_by ["measure"] c_bounds_by) (D_check_number_x : Def P w K mg base (L2.CX P w) 2 "check_number" s_check_number_x ["number", "low", "high"] c_check_number_x) (D_heart_by : Def P w K mg base CX0 1 "heart_by" s_heart_by ["measure", "number"] c_heart_by) (hread : ∀ ds M Q E, ds.length = 2 → belowAll M.length ds = true → sp ds M Q E → t_heart_numbered_x c_check_measure_x c_bounds_by c_check_number_x c_heart_by (dOut M E) (dEnds M Q) (startD 4 ds) M) : Def P w K mg base (L2.CX P w) 5 "heart_numbered" s_heart_numbered_x ["measure", "number"] sp :=
 T.h_heart_numbered_x.okE (t := t_heart_numbered_x c_check_measure_x c_bounds_by c_check_number_x c_heart_by) sc_heart_numbered_x (fun f cdv A outer s H E hr gd => (dssx_cons (dsx_expr (dcallX D_check_measure_x hr gd (dax_cons (dex_of (dv 0)) dax_nil)))
 (dssx_cons (dsx_of (ds_asg (dcall D_bounds_by hr gd (da_cons (dv 0) da_nil)) (dg_tup rfl (dgs_cons (dg_name (i := 2) sc_heart_numbered_x.nd) (dgs_cons (dg_name (i := 3) sc_heart_numbered_x.nd) dgs_nil)))))
 (dssx_cons (dsx_expr (dcallX D_check_number_x hr gd (dax_cons (dex_of (dv 1)) (dax_cons (dex_of de_int) (dax_cons (dex_of (de_op opd_fdiv (de_op opd_sub (dv 3) (dv 2)) de_int)) dax_nil)))))
 (dssx_of (dss_one (ds_ret (dcall D_heart_by hr gd (da_cons (dv 0) (da_cons (de_op opd_add (dv 2) (de_op opd_mulI de_int (dv 1))) da_nil)))))))))) hread
theorem ok_check_two_x {c_check_cutting_x c_measure_by : DSp} {sp : DSp} (T : Txt P K mg base) (D_check_cutting_x : Def P w K mg base (L2.CX P w) 3 "check_cutting" s_check_cutting_x ["cutting"] c_check_cutting_x) (D_measure_by : Def P w K mg base CX0 1 "measure_by" s_measure_by ["cutting"] c_measure_by) (hread : ∀ ds M Q E, ds.length = 2 → belowAll M.length ds = true → sp ds M Q E → t_check_two_x c_check_cutting_x c_measure_by (dOut M E) (dEnds M Q) (startD 2 ds) M) : Def P w K mg base (L2.CX P w) 4 "check_two" s_check_two_x ["one", "other"] sp :=
 T.h_check_two_x.okE (t := t_check_two_x c_check_cutting_x c_measure_by) sc_check_two_x (fun f cdv A outer s H E hr gd => (dssx_cons (dsx_expr (dcallX D_check_cutting_x hr gd (dax_cons (dex_of (dv 0)) dax_nil)))
 (dssx_cons (dsx_expr (dcallX D_check_cutting_x hr gd (dax_cons (dex_of (dv 1)) dax_nil)))
 (dssx_one (dsx_if (dt_cmp (opd_ne (u64 hr)) (dcall D_measure_by hr gd (da_cons (dv 0) da_nil)) (dcall D_measure_by hr gd (da_cons (dv 1) da_nil)) (nomark _)) (dssx_one (let ⟨_, _, _, h⟩ := T.e_Unlike; dsx_raise h rfl hr (da_cons (dv 1) da_nil))) (dssx_of dss_nil)))))) hread
theorem ok_parted_by {c_measure_by : DSp} {sp : DSp} (T : Txt P K mg base) (D_measure_by : Def P w K mg base CX0 1 "measure_by" s_measure_by ["cutting"] c_measure_by) (hread : ∀ ds M Q, ds.length = 2 → sp ds M Q DX0 → t_parted_by c_measure_by (dEnds M Q) (startD 3 ds) M) (hX : ∀ ds M Q E, sp ds M Q E → sp ds M Q DX0 := by exact fun _ _ _ _ h => h) : Def P w K mg base CX0 2 "parted_by" s_parted_by ["one", "other"] sp :=
 T.h_parted_by.ok (t := t_parted_by c_measure_by) sc_parted_by (fun f cdv A outer s H E hr gd => (dss_cons (ds_set (i := 2) sc_parted_by.nd (dcall D_measure_by hr gd (da_cons (dv 0) da_nil)))
 (dss_one (ds_ret (de_and (de_cmp (opd_eq (u64 hr)) (de_op opd_mod (dv 2) de_int) de_int (nomark _)) (de_and (de_cmp (opd_ne (u64 hr)) (dv 2) de_int (nomark _)) (de_one (de_cmp (opd_ne (u64 hr)) (de_op opd_mod (de_op opd_sub (de_ix (dv 0) de_int) (de_ix (dv 1) de_int)) de_int) de_int (nomark _))))))))) hread hX
theorem ok_searched_by_n {sp : DSp} (T : Txt P K mg base) (hread : ∀ ds M Q, ds.length = 2 → sp ds M Q DX0 → t_searched_by_n (dEnds M Q) (startD 11 ds) M) (hX : ∀ ds M Q E, sp ds M Q E → sp ds M Q DX0 := by exact fun _ _ _ _ h => h) : Def P w K mg base CX0 1 "searched_by" s_searched_by_n ["one", "other"] sp :=
 T.h_searched_by_n.ok (t := t_searched_by_n) sc_searched_by_n (fun f cdv A outer s H E hr gd => dss_never) hread hX
theorem ok_line_down_n {sp : DSp} (T : Txt P K mg base) (hread : ∀ ds M Q, ds.length = 2 → sp ds M Q DX0 → t_line_down_n (dEnds M Q) (startD 4 ds) M) (hX : ∀ ds M Q E, sp ds M Q E → sp ds M Q DX0 := by exact fun _ _ _ _ h => h) : Def P w K mg base CX0 1 "line_down" s_line_down_n ["measure", "number"] sp :=
 T.h_line_down_n.ok (t := t_line_down_n) sc_line_down_n (fun f cdv A outer s H E hr gd => dss_never) hread hX
theorem ok_between_by_n {sp : DSp} (T : Txt P K mg base) (hread : ∀ ds M Q, ds.length = 3 → sp ds M Q DX0 → t_between_by_n (dEnds M Q) (startD 5 ds) M) (hX : ∀ ds M Q E, sp ds M Q E → sp ds M Q DX0 := by exact fun _ _ _ _ h => h) : Def P w K mg base CX0 1 "between_by" s_between_by_n ["measure", "one", "other"] sp :=
 T.h_between_by_n.ok (t := t_between_by_n) sc_between_by_n (fun f cdv A outer s H E hr gd => dss_never) hread hX
theorem ok_numbers_by {c_measure_by c_searched_by_n c_line_down_n c_between_by_n : DSp} {sp : DSp} (T : Txt P K mg base) (D_measure_by : Def P w K mg base CX0 1 "measure_by" s_measure_by ["cutting"] c_measure_by) (D_searched_by_n : Def P w K mg base CX0 1 "searched_by" s_searched_by_n ["one", "other"] c_searched_by_n) (D_line_down_n : Def P w K mg base CX0 1 "line_down" s_line_down_n ["measure", "number"] c_line_down_n) (D_between_by_n : Def P w K mg base CX0 1 "between_by" s_between_by_n ["measure", "one", "other"] c_between_by_n) (hread : ∀ ds M Q, ds.length = 2 → sp ds M Q DX0 → t_numbers_by c_measure_by c_searched_by_n c_line_down_n c_between_by_n (dEnds M Q) (startD 7 ds) M) (hX : ∀ ds M Q E, sp ds M Q E → sp ds M Q DX0 := by exact fun _ _ _ _ h => h) : Def P w K mg base CX0 2 "numbers_by" s_numbers_by ["one", "other"] sp :=
 T.h_numbers_by.ok (t := t_numbers_by c_measure_by c_searched_by_n c_line_down_n c_between_by_n) sc_numbers_by (fun f cdv A outer s H E hr gd => (dss_cons (ds_par3 (i := 2) (j := 3) (l := 4) rfl sc_numbers_by.nd (da_cons (dcall D_measure_by hr gd (da_cons (dv 0) da_nil)) (da_cons (de_ix (dv 0) de_int) (da_cons (de_ix (dv 1) de_int) da_nil))))
 (dss_cons (ds_if (dt_cmp (opd_eq (u64 hr)) (dv 3) (dv 4) (nomark _)) (dss_one (ds_ret (de_lst (da_cons (dv 3) da_nil)))) dss_nil)
 (dss_cons (ds_if (dt_cmp opd_le (dv 2) (let ⟨_, h⟩ := T.c_MOST_SEARCHED; de_globI rfl h) (nomark _)) (dss_one (ds_ret (dcall D_searched_by_n hr gd (da_cons (dv 0) (da_cons (dv 1) da_nil))))) dss_nil)
 (dss_cons (ds_par (i := 5) (j := 6) rfl sc_numbers_by.nd (da_cons (dcall D_line_down_n hr gd (da_cons (dv 2) (da_cons (dv 3) da_nil))) (da_cons (de_rev false (dcall D_line_down_n hr gd (da_cons (dv 2) (da_cons (dv 4) da_nil)))) da_nil)))
 (dss_cons (ds_if (dt_cmp (opd_eq (u64 hr)) (de_ix (dv 5) (de_neg de_int)) (de_ix (dv 6) de_int) (nomark _)) (dss_one (ds_ret (de_op opd_add (dv 5) (de_sl false (dv 6) (do_some de_int) do_none)))) dss_nil)
 (dss_one (ds_ret (de_op opd_add (de_op opd_add (dv 5) (de_lst (da_cons (dcall D_between_by_n hr gd (da_cons (dv 2) (da_cons (de_ix (dv 5) (de_neg de_int)) (da_cons (de_ix (dv 6) de_int) da_nil)))) da_nil))) (dv 6)))))))))) hread hX
theorem ok_walked_by_n {sp : DSp} (T : Txt P K mg base) (hread : ∀ ds M Q, ds.length = 2 → sp ds M Q DX0 → t_walked_by_n (dEnds M Q) (startD 7 ds) M) (hX : ∀ ds M Q E, sp ds M Q E → sp ds M Q DX0 := by exact fun _ _ _ _ h => h) : Def P w K mg base CX0 1 "walked_by" s_walked_by_n ["one", "other"] sp :=
 T.h_walked_by_n.ok (t := t_walked_by_n) sc_walked_by_n (fun f cdv A outer s H E hr gd => dss_never) hread hX
theorem ok_step_deed_by {sp : DSp} (T : Txt P K mg base) (hread : ∀ ds M Q, ds.length = 2 → sp ds M Q DX0 → t_step_deed_by (dEnds M Q) (startD 3 ds) M) (hX : ∀ ds M Q E, sp ds M Q E → sp ds M Q DX0 := by exact fun _ _ _ _ h => h) : Def P w K mg base CX0 1 "step_deed_by" s_step_deed_by ["one", "other"] sp :=
 T.h_step_deed_by.ok (t := t_step_deed_by) sc_step_deed_by (fun f cdv A outer s H E hr gd => (dss_cons (ds_set (i := 2) sc_step_deed_by.nd (de_op opd_fdiv (de_op opd_sub (de_op opd_sub de_int (dv 0)) (dv 1)) de_int))
 (dss_one (ds_ret (de_if (dt_cmp (opd_eq (u64 hr)) (dv 2) de_int (nomark _)) (de_tup (da_cons de_int (da_cons de_int da_nil))) (de_tup (da_cons de_int (da_cons (dv 2) da_nil)))))))) hread hX
theorem ok_round_of {sp : DSp} (T : Txt P K mg base) (hread : ∀ ds M Q, ds.length = 1 → sp ds M Q DX0 → t_round_of (dEnds M Q) (startD 1 ds) M) (hX : ∀ ds M Q E, sp ds M Q E → sp ds M Q DX0 := by exact fun _ _ _ _ h => h) : Def P w K mg base CX0 1 "round_of" s_round_of ["cutting"] sp :=
 T.h_round_of.ok (t := t_round_of) sc_round_of (fun f cdv A outer s H E hr gd => (dss_one (ds_ret (de_op opd_fdiv (de_ix (dv 0) de_int) (de_bfun cd_gcd T.g_gcd (da_cons (de_ix (dv 0) de_int) (da_cons (de_ix (dv 0) de_int) da_nil))))))) hread hX
theorem ok_back_by {c_full_by c_round_of : DSp} {sp : DSp} (T : Txt P K mg base) (D_full_by : Def P w K mg base CX0 5 "full_by" s_full_by ["cutting", "deed"] c_full_by) (D_round_of : Def P w K mg base CX0 1 "round_of" s_round_of ["cutting"] c_round_of) (hread : ∀ ds M Q, ds.length = 2 → sp ds M Q DX0 → t_back_by c_full_by c_round_of (dEnds M Q) (startD 6 ds) M) (hX : ∀ ds M Q E, sp ds M Q E → sp ds M Q DX0 := by exact fun _ _ _ _ h => h) : Def P w K mg base CX0 6 "back_by" s_back_by ["cutting", "deed"] sp :=
 T.h_back_by.ok (t := t_back_by c_full_by c_round_of) sc_back_by (fun f cdv A outer s H E hr gd => (dss_cons (ds_asg (dcall D_full_by hr gd (da_cons (dv 0) (da_cons (dv 1) da_nil))) (dg_tup rfl (dgs_cons (dg_name (i := 2) sc_back_by.nd) (dgs_cons (dg_name (i := 3) sc_back_by.nd) (dgs_cons (dg_name (i := 4) sc_back_by.nd) (dgs_cons (dg_name (i := 4) sc_back_by.nd) (dgs_cons (dg_name (i := 4) sc_back_by.nd) dgs_nil)))))))
 (dss_cons (ds_set (i := 5) sc_back_by.nd (de_neg (de_ix (de_ix (dv 3) de_int) de_int)))
 (dss_one (ds_ret (de_tup (da_cons (de_op opd_mod (de_neg (de_ix (de_ix (dv 3) de_int) de_int)) (de_op opd_mulI (dv 5) (dcall D_round_of hr gd (da_cons (dv 2) da_nil)))) (da_cons (dv 5) da_nil)))))))) hread hX
theorem ok_turned_by {c_back_by c_done_by : DSp} {sp : DSp} (T : Txt P K mg base) (D_back_by : Def P w K mg base CX0 6 "back_by" s_back_by ["cutting", "deed"] c_back_by) (D_done_by : Def P w K mg base CX0 6 "done_by" s_done_by ["cutting", "deed"] c_done_by) (hread : ∀ ds M Q, ds.length = 2 → sp ds M Q DX0 → t_turned_by c_back_by c_done_by (dEnds M Q) (startD 5 ds) M) (hX : ∀ ds M Q E, sp ds M Q E → sp ds M Q DX0 := by exact fun _ _ _ _ h => h) : Def P w K mg base CX0 7 "turned_by" s_turned_by ["cutting", "word"] sp :=
 T.h_turned_by.ok (t := t_turned_by c_back_by c_done_by) sc_turned_by (fun f cdv A outer s H E hr gd => (dss_cons (ds_par (i := 2) (j := 3) rfl sc_turned_by.nd (da_cons (dv 0) (da_cons (de_lst da_nil) da_nil)))
 (dss_cons (ds_for rfl (di_seq (dv 1)) (dg_name (i := 4) sc_turned_by.nd) (dss_cons (ds_set (i := 3) sc_turned_by.nd (de_op opd_add (de_lst (da_cons (dcall D_back_by hr gd (da_cons (dv 2) (da_cons (dv 4) da_nil))) da_nil)) (dv 3)))
 (dss_one (ds_set (i := 2) sc_turned_by.nd (dcall D_done_by hr gd (da_cons (dv 2) (da_cons (dv 4) da_nil)))))))
 (dss_one (ds_ret (dv 3)))))) hread hX
theorem ok_road_by {c_to_heart_by c_parted_by c_numbers_by c_walked_by_n c_step_deed_by c_turned_by : DSp} {sp : DSp} (T : Txt P K mg base) (D_to_heart_by : Def P w K mg base CX0 8 "to_heart_by" s_to_heart_by ["cutting"] c_to_heart_by) (D_parted_by : Def P w K mg base CX0 2 "parted_by" s_parted_by ["one", "other"] c_parted_by) (D_numbers_by : Def P w K mg base CX0 2 "numbers_by" s_numbers_by ["one", "other"] c_numbers_by) (D_walked_by_n : Def P w K mg base CX0 1 "walked_by" s_walked_by_n ["one", "other"] c_walked_by_n) (D_step_deed_by : Def P w K mg base CX0 1 "step_deed_by" s_step_deed_by ["one", "other"] c_step_deed_by) (D_turned_by : Def P w K mg base CX0 7 "turned_by" s_turned_by ["cutting", "word"] c_turned_by) (hread : ∀ ds M Q, ds.length = 2 → sp ds M Q DX0 → t_road_by c_to_heart_by c_parted_by c_numbers_by c_walked_by_n c_step_deed_by c_turned_by (dEnds M Q) (startD 9 ds) M) (hX : ∀ ds M Q E, sp ds M Q E → sp ds M Q DX0 := by exact fun _ _ _ _ h => h) : Def P w K mg base CX0 9 "road_by" s_road_by ["one", "other"] sp :=
 T.h_road_by.ok (t := t_road_by c_to_heart_by c_parted_by c_numbers_by c_walked_by_n c_step_deed_by c_turned_by) sc_road_by (fun f cdv A outer s H E hr gd => (dss_cons (ds_asg (de_tup (da_cons (dcall D_to_heart_by hr gd (da_cons (dv 0) da_nil)) (da_cons (dcall D_to_heart_by hr gd (da_cons (dv 1) da_nil)) da_nil))) (dg_tup rfl (dgs_cons (dg_tup rfl (dgs_cons (dg_name (i := 2) sc_road_by.nd) (dgs_cons (dg_name (i := 3) sc_road_by.nd) dgs_nil))) (dgs_cons (dg_tup rfl (dgs_cons (dg_name (i := 4) sc_road_by.nd) (dgs_cons (dg_name (i := 5) sc_road_by.nd) dgs_nil))) dgs_nil))))
 (dss_cons (ds_if (dt_tru (dcall D_parted_by hr gd (da_cons (dv 3) (da_cons (dv 5) da_nil)))) (dss_one (ds_ret de_non)) dss_nil)
 (dss_cons (ds_set (i := 6) sc_road_by.nd (dcall D_numbers_by hr gd (da_cons (dv 3) (da_cons (dv 5) da_nil))))
 (dss_cons (ds_if (dt_cmp opd_is (dv 6) de_non (nomark _)) (dss_one (ds_ret (dcall D_walked_by_n hr gd (da_cons (dv 0) (da_cons (dv 1) da_nil))))) dss_nil)
 (dss_cons (ds_setLc false (i := 7) (own := [("at", 8)]) rfl sc_road_by.nd  (sw_true rfl rfl rfl (by decide +kernel)) (blkOk_by (N := ["one", "other", "ahead", "low", "behind", "high", "numbers", "steps", "at"]) (own := [("at", 8)]) (sc := (defScope s_road_by)) (by decide +kernel)) (di_range1 T.n_range (da_cons (de_op opd_sub (de_blt cd_len T.n_len (da_cons (dv 6) da_nil)) de_int) da_nil)) (fun _ _ _ _ _ => (dcg_name (i := 8) sc_road_by.nd)) (fun _ _ _ _ _ => dts_nil) (fun _ _ _ _ _ => (dcall D_step_deed_by hr gd (da_cons (de_ix (dv 6) (dv 8)) (da_cons (de_ix (dv 6) (de_op opd_add (dv 8) de_int)) da_nil)))))
 (dss_one (ds_ret (de_op opd_add (de_op opd_add (dv 2) (dv 7)) (dcall D_turned_by hr gd (da_cons (dv 1) (da_cons (dv 4) da_nil)))))))))))) hread hX
theorem ok_road_x {c_check_two_x c_road_by : DSp} {sp : DSp} (T : Txt P K mg base) (D_check_two_x : Def P w K mg base (L2.CX P w) 4 "check_two" s_check_two_x ["one", "other"] c_check_two_x) (D_road_by : Def P w K mg base CX0 9 "road_by" s_road_by ["one", "other"] c_road_by) (hread : ∀ ds M Q E, ds.length = 2 → belowAll M.length ds = true → sp ds M Q E → t_road_x c_check_two_x c_road_by (dOut M E) (dEnds M Q) (startD 2 ds) M) : Def P w K mg base (L2.CX P w) 10 "road" s_road_x ["one", "other"] sp :=
 T.h_road_x.okE (t := t_road_x c_check_two_x c_road_by) sc_road_x (fun f cdv A outer s H E hr gd => (dssx_cons (dsx_expr (dcallX D_check_two_x hr gd (dax_cons (dex_of (dv 0)) (dax_cons (dex_of (dv 1)) dax_nil))))
 (dssx_of (dss_one (ds_ret (dcall D_road_by hr gd (da_cons (dv 0) (da_cons (dv 1) da_nil)))))))) hread
theorem ok_allowed_by {sp : DSp} (T : Txt P K mg base) (hread : ∀ ds M Q, ds.length = 2 → sp ds M Q DX0 → t_allowed_by (dEnds M Q) (startD 6 ds) M) (hX : ∀ ds M Q E, sp ds M Q E → sp ds M Q DX0 := by exact fun _ _ _ _ h => h) : Def P w K mg base CX0 1 "allowed_by" s_allowed_by ["cutting", "far"] sp :=
 T.h_allowed_by.ok (t := t_allowed_by) sc_allowed_by (fun f cdv A outer s H E hr gd => (dss_cons (ds_asg (dv 0) (dg_tup rfl (dgs_cons (dg_name (i := 2) sc_allowed_by.nd) (dgs_cons (dg_name (i := 3) sc_allowed_by.nd) (dgs_cons (dg_name (i := 4) sc_allowed_by.nd) (dgs_cons (dg_name (i := 5) sc_allowed_by.nd) dgs_nil))))))
 (dss_one (ds_ret (de_cmp opd_gt (de_op opd_sub (de_op opd_sub (dv 3) (de_op opd_mulI (dv 1) (dv 5))) (de_op opd_mulI (de_op opd_mulI (dv 1) (dv 1)) (dv 4))) de_int (nomark _)))))) hread hX
theorem ok_is_deed_by {c_allowed_by c_round_of : DSp} {sp : DSp} (T : Txt P K mg base) (D_allowed_by : Def P w K mg base CX0 1 "allowed_by" s_allowed_by ["cutting", "far"] c_allowed_by) (D_round_of : Def P w K mg base CX0 1 "round_of" s_round_of ["cutting"] c_round_of) (hread : ∀ ds M Q, ds.length = 2 → sp ds M Q DX0 → t_is_deed_by c_allowed_by c_round_of (dEnds M Q) (startD 5 ds) M) (hX : ∀ ds M Q E, sp ds M Q E → sp ds M Q DX0 := by exact fun _ _ _ _ h => h) : Def P w K mg base CX0 2 "is_deed_by" s_is_deed_by ["cutting", "value"] sp :=
 T.h_is_deed_by.ok (t := t_is_deed_by c_allowed_by c_round_of) sc_is_deed_by (fun f cdv A outer s H E hr gd => (dss_cons (ds_if (DW.dt (dw_or (dt_not (dt_tru (de_blt cd_isi T.n_isinstance (da_cons (dv 1) (da_cons (de_bltn (v := .ty "tuple") T.n_tuple rfl) da_nil))))) (dw_or1 (dt_cmp (opd_ne (u64 hr)) (de_blt cd_len T.n_len (da_cons (dv 1) da_nil)) de_int (nomark _))))) (dss_one (ds_ret de_bl)) dss_nil)
 (dss_cons (ds_if (dt_cmp (opd_ne (u64 hr)) (de_lc false (own := [("part", 2)]) rfl sc_is_deed_by.nd (blkOk_by (N := ["cutting", "value", "part", "near", "far"]) (own := [("part", 2)]) (sc := (defScope s_is_deed_by)) (by decide +kernel)) (di_seq (dv 1)) (fun _ _ _ _ _ => (dcg_name (i := 2) sc_is_deed_by.nd)) (fun _ _ _ _ _ => (dts_one (DW.dt (dw_or (dt_not (dt_tru (de_blt cd_isi T.n_isinstance (da_cons (dv 2) (da_cons (de_bltn (v := .ty "int") T.n_int rfl) da_nil))))) (dw_or1 (dt_tru (de_blt cd_isi T.n_isinstance (da_cons (dv 2) (da_cons (de_bltn (v := .ty "bool") T.n_bool rfl) da_nil))))))))) (fun _ _ _ _ _ => (dv 2))) (de_lst da_nil) (nomark _)) (dss_one (ds_ret de_bl)) dss_nil)
 (dss_cons (ds_asg (dv 1) (dg_tup rfl (dgs_cons (dg_name (i := 3) sc_is_deed_by.nd) (dgs_cons (dg_name (i := 4) sc_is_deed_by.nd) dgs_nil))))
 (dss_cons (ds_if (DW.dt (dw_or (dt_cmp opd_lt (dv 4) de_int (nomark _)) (dw_or (dt_not (dt_tru (dcall D_allowed_by hr gd (da_cons (dv 0) (da_cons (dv 4) da_nil))))) (dw_or1 (dt_not (dt_chain opd_le opd_lt de_int (dv 3) (de_op opd_mulI (dv 4) (dcall D_round_of hr gd (da_cons (dv 0) da_nil))))))))) (dss_one (ds_ret de_bl)) dss_nil)
 (dss_one (ds_ret (de_cmp (opd_eq (u64 hr)) (de_bfun cd_gcd T.g_gcd (da_cons (dv 3) (da_cons (dv 4) da_nil))) de_int (nomark _))))))))) hread hX
theorem ok_is_road_by {c_is_deed_by c_done_by : DSp} {sp : DSp} (T : Txt P K mg base) (D_is_deed_by : Def P w K mg base CX0 2 "is_deed_by" s_is_deed_by ["cutting", "value"] c_is_deed_by) (D_done_by : Def P w K mg base CX0 6 "done_by" s_done_by ["cutting", "deed"] c_done_by) (hread : ∀ ds M Q, ds.length = 3 → sp ds M Q DX0 → t_is_road_by c_is_deed_by c_done_by (dEnds M Q) (startD 5 ds) M) (hX : ∀ ds M Q E, sp ds M Q E → sp ds M Q DX0 := by exact fun _ _ _ _ h => h) : Def P w K mg base CX0 7 "is_road_by" s_is_road_by ["one", "other", "value"] sp :=
 T.h_is_road_by.ok (t := t_is_road_by c_is_deed_by c_done_by) sc_is_road_by (fun f cdv A outer s H E hr gd => (dss_cons (ds_if (DW.dt (dw_or (dt_not (dt_tru (de_blt cd_isi T.n_isinstance (da_cons (dv 2) (da_cons (de_bltn (v := .ty "list") T.n_list rfl) da_nil))))) (dw_or1 (dt_cmp opd_gt (de_blt cd_len T.n_len (da_cons (dv 2) da_nil)) (let ⟨_, h⟩ := T.c_MOST_SIGNS; de_globI rfl h) (nomark _))))) (dss_one (ds_ret de_bl)) dss_nil)
 (dss_cons (ds_set (i := 3) sc_is_road_by.nd (dv 0))
 (dss_cons (ds_for rfl (di_seq (dv 2)) (dg_name (i := 4) sc_is_road_by.nd) (dss_cons (ds_if (dt_not (dt_tru (dcall D_is_deed_by hr gd (da_cons (dv 3) (da_cons (dv 4) da_nil))))) (dss_one (ds_ret de_bl)) dss_nil)
 (dss_one (ds_set (i := 3) sc_is_road_by.nd (dcall D_done_by hr gd (da_cons (dv 3) (da_cons (dv 4) da_nil)))))))
 (dss_one (ds_ret (de_cmp (opd_eq (u64 hr)) (dv 3) (dv 1) (nomark _)))))))) hread hX
theorem ok_is_road_x {c_check_two_x c_is_road_by : DSp} {sp : DSp} (T : Txt P K mg base) (D_check_two_x : Def P w K mg base (L2.CX P w) 4 "check_two" s_check_two_x ["one", "other"] c_check_two_x) (D_is_road_by : Def P w K mg base CX0 7 "is_road_by" s_is_road_by ["one", "other", "value"] c_is_road_by) (hread : ∀ ds M Q E, ds.length = 3 → belowAll M.length ds = true → sp ds M Q E → t_is_road_x c_check_two_x c_is_road_by (dOut M E) (dEnds M Q) (startD 3 ds) M) : Def P w K mg base (L2.CX P w) 8 "is_road" s_is_road_x ["one", "other", "value"] sp :=
 T.h_is_road_x.okE (t := t_is_road_x c_check_two_x c_is_road_by) sc_is_road_x (fun f cdv A outer s H E hr gd => (dssx_cons (dsx_expr (dcallX D_check_two_x hr gd (dax_cons (dex_of (dv 0)) (dax_cons (dex_of (dv 1)) dax_nil))))
 (dssx_of (dss_one (ds_ret (dcall D_is_road_by hr gd (da_cons (dv 0) (da_cons (dv 1) (da_cons (dv 2) da_nil))))))))) hread
theorem ok_l_asked_0403_x {c_how_many_heart_x c_heart_lots_x c_heart_number_x c_heart_steps_x c_heart_distance_x c_word_to_heart_x c_heart_numbered_x c_road_x c_is_road_x : DSp} {sp : DSp} (T : Txt P K mg base) (D_how_many_heart_x : Def P w K mg base (L2.CX P w) 5 "how_many_heart" s_how_many_heart_x ["measure"] c_how_many_heart_x) (D_heart_lots_x : Def P w K mg base (L2.CX P w) 5 "heart_lots" s_heart_lots_x ["measure"] c_heart_lots_x) (D_heart_number_x : Def P w K mg base (L2.CX P w) 4 "heart_number" s_heart_number_x ["cutting"] c_heart_number_x) (D_heart_steps_x : Def P w K mg base (L2.CX P w) 4 "heart_steps" s_heart_steps_x ["cutting"] c_heart_steps_x) (D_heart_distance_x : Def P w K mg base (L2.CX P w) 4 "heart_distance" s_heart_distance_x ["cutting"] c_heart_distance_x) (D_word_to_heart_x : Def P w K mg base (L2.CX P w) 9 "word_to_heart" s_word_to_heart_x ["cutting"] c_word_to_heart_x) (D_heart_numbered_x : Def P w K mg base (L2.CX P w) 5 "heart_numbered" s_heart_numbered_x ["measure", "number"] c_heart_numbered_x) (D_road_x : Def P w K mg base (L2.CX P w) 10 "road" s_road_x ["one", "other"] c_road_x) (D_is_road_x : Def P w K mg base (L2.CX P w) 8 "is_road" s_is_road_x ["one", "other", "value"] c_is_road_x) (hread : ∀ ds M Q E, ds.length = 2 → belowAll M.length ds = true → sp ds M Q E → t_l_asked_0403_x c_how_many_heart_x c_heart_lots_x c_heart_number_x c_heart_steps_x c_heart_distance_x c_word_to_heart_x c_heart_numbered_x c_road_x c_is_road_x (dOut M E) (dEnds M Q) (startD 2 ds) M) : Def P w K mg base (L2.CX P w) 11 "_law_asked" s_l_asked_0403_x ["_law_door", "_law_given"] sp :=
 T.h_l_asked_0403_x.okE (t := t_l_asked_0403_x c_how_many_heart_x c_heart_lots_x c_heart_number_x c_heart_steps_x c_heart_distance_x c_word_to_heart_x c_heart_numbered_x c_road_x c_is_road_x) sc_l_asked_0403_x (fun f cdv A outer s H E hr gd => (dssx_cons (dsx_if (dt_cmp opd_lt (dv 0) de_int (nomark _)) (dssx_one (dsx_ret (dcallV (L := [("how_many_heart", 1, c_how_many_heart_x), ("heart_lots", 1, c_heart_lots_x), ("heart_number", 1, c_heart_number_x), ("heart_steps", 1, c_heart_steps_x), ("heart_distance", 1, c_heart_distance_x), ("word_to_heart", 1, c_word_to_heart_x)]) (de_ix (de_lst (da_cons (let ⟨_, h⟩ := T.v_how_many_heart; de_gname h.1 h.2) (da_cons (let ⟨_, h⟩ := T.v_heart_lots; de_gname h.1 h.2) (da_cons (let ⟨_, h⟩ := T.v_heart_number; de_gname h.1 h.2) (da_cons (let ⟨_, h⟩ := T.v_heart_steps; de_gname h.1 h.2) (da_cons (let ⟨_, h⟩ := T.v_heart_distance; de_gname h.1 h.2) (da_cons (let ⟨_, h⟩ := T.v_word_to_heart; de_gname h.1 h.2) da_nil))))))) (dv 0)) (dax_cons (dex_of (de_ix (dv 1) de_int)) dax_nil) (fun _ _ _ h => by simp only [List.mem_cons, List.not_mem_nil, or_false, Prod.mk.injEq] at h; rcases h with ⟨rfl, rfl, rfl⟩ | ⟨rfl, rfl, rfl⟩ | ⟨rfl, rfl, rfl⟩ | ⟨rfl, rfl, rfl⟩ | ⟨rfl, rfl, rfl⟩ | ⟨rfl, rfl, rfl⟩ <;> first | exact ⟨_, _, _, by decide, rfl, D_how_many_heart_x⟩ | exact ⟨_, _, _, by decide, rfl, D_heart_lots_x⟩ | exact ⟨_, _, _, by decide, rfl, D_heart_number_x⟩ | exact ⟨_, _, _, by decide, rfl, D_heart_steps_x⟩ | exact ⟨_, _, _, by decide, rfl, D_heart_distance_x⟩ | exact ⟨_, _, _, by decide, rfl, D_word_to_heart_x⟩) hr gd))) (dssx_of dss_nil))
 (dssx_cons (dsx_if (dt_cmp opd_lt (dv 0) de_int (nomark _)) (dssx_one (dsx_ret (dcallV (L := [("heart_numbered", 2, c_heart_numbered_x), ("road", 2, c_road_x)]) (de_ix (de_lst (da_cons (let ⟨_, h⟩ := T.v_heart_numbered; de_gname h.1 h.2) (da_cons (let ⟨_, h⟩ := T.v_road; de_gname h.1 h.2) da_nil))) (de_op opd_sub (dv 0) de_int)) (dax_cons (dex_of (de_ix (dv 1) de_int)) (dax_cons (dex_of (de_ix (dv 1) de_int)) dax_nil)) (fun _ _ _ h => by simp only [List.mem_cons, List.not_mem_nil, or_false, Prod.mk.injEq] at h; rcases h with ⟨rfl, rfl, rfl⟩ | ⟨rfl, rfl, rfl⟩ <;> first | exact ⟨_, _, _, by decide, rfl, D_heart_numbered_x⟩ | exact ⟨_, _, _, by decide, rfl, D_road_x⟩) hr gd))) (dssx_of dss_nil))
 (dssx_one (dsx_ret (dcallX D_is_road_x hr gd (dax_cons (dex_of (de_ix (dv 1) de_int)) (dax_cons (dex_of (de_ix (dv 1) de_int)) (dax_cons (dex_of (de_ix (dv 1) de_int)) dax_nil))))))))) hread
theorem ok_l_told_db71 {c_l_asked_0403_x : DSp} {sp : DSp} (T : Txt P K mg base) (D_l_asked_0403_x : Def P w K mg base (L2.CX P w) 11 "_law_asked" s_l_asked_0403_x ["_law_door", "_law_given"] c_l_asked_0403_x) (hread : ∀ ds M Q, ds.length = 2 → sp ds M Q DX0 → t_l_told_db71 c_l_asked_0403_x (dEnds M Q) (startD 5 ds) M) (hX : ∀ ds M Q E, sp ds M Q E → sp ds M Q DX0 := by exact fun _ _ _ _ h => h) : Def P w K mg base CX0 12 "_law_told" s_l_told_db71 ["_law_door", "_law_given"] sp :=
 T.h_l_told_db71.ok (t := t_l_told_db71 c_l_asked_0403_x) sc_l_told_db71 (fun f cdv A outer s H E hr gd => (dss_cons (ds_set (i := 2) sc_l_told_db71.nd de_non)
 (dss_cons (let ⟨_, h⟩ := T.s_SheetError; ds_try (i := 3) rfl rfl sc_l_told_db71.nd (.inr ⟨rfl, h.1⟩) h.2 takes0 (fun pn xe hp => (dssx_one (dsx_expr (dcallX D_l_asked_0403_x hr gd (dax_cons (dex_of (dv 0)) (dax_cons (dex_of (dv 1)) dax_nil)))))) (fun a pn => (dss_one (ds_set (i := 2) sc_l_told_db71.nd (dv 3)))))
 (dss_cons (ds_if (dt_cmp opd_is (dv 2) de_non (nomark _)) (dss_one (ds_ret (de_lst (da_cons de_str da_nil)))) dss_nil)
 (dss_cons (ds_set (i := 4) sc_l_told_db71.nd (de_lst (da_cons (de_blt (cd_isx T.isE) T.n_isinstance (da_cons (dv 2) (da_cons (let ⟨_, _, _, h⟩ := T.e_InvalidMeasure; de_gname h.er.ns h.gC) da_nil))) (da_cons (de_blt (cd_isx T.isE) T.n_isinstance (da_cons (dv 2) (da_cons (let ⟨_, _, _, h⟩ := T.e_InvalidNumber; de_gname h.er.ns h.gC) da_nil))) (da_cons (de_blt (cd_isx T.isE) T.n_isinstance (da_cons (dv 2) (da_cons (let ⟨_, _, _, h⟩ := T.e_InvalidCutting; de_gname h.er.ns h.gC) da_nil))) da_nil)))))
 (dss_cons (ds_set (i := 4) sc_l_told_db71.nd (de_op opd_add (dv 4) (de_lst (da_cons (de_blt (cd_isx T.isE) T.n_isinstance (da_cons (dv 2) (da_cons (let ⟨_, _, _, h⟩ := T.e_Unlike; de_gname h.er.ns h.gC) da_nil))) (da_cons (de_blt (cd_isx T.isE) T.n_isinstance (da_cons (dv 2) (da_cons (let ⟨_, _, _, h⟩ := T.e_TooMany; de_gname h.er.ns h.gC) da_nil))) da_nil)))))
 (dss_cons (ds_if (DW.dt (dw_or (dt_cmp (opd_ne (u64 hr)) (de_count (u65 hr) (dv 4) (da_cons de_bl da_nil)) de_int (nomark _)) (dw_or1 (dt_not (dt_tru (de_blt (cd_isx T.isE) T.n_isinstance (da_cons (dv 2) (da_cons (de_bltn (v := .ty "ValueError") T.n_ValueError rfl) da_nil)))))))) (dss_one (ds_ret (de_lst (da_cons de_str da_nil)))) dss_nil)
 (dss_one (ds_ret (de_lst (da_cons (de_ix (de_lst (da_cons de_str (da_cons de_str (da_cons de_str (da_cons de_str (da_cons de_str da_nil)))))) (de_index (u65 hr) (dv 4) (da_cons de_bl da_nil))) (da_cons (de_fld (dv 2)) da_nil)))))))))))) hread hX
theorem ok_l_all_refused_8142 {c_l_told_db71 : DSp} {sp : DSp} (T : Txt P K mg base) (D_l_told_db71 : Def P w K mg base CX0 12 "_law_told" s_l_told_db71 ["_law_door", "_law_given"] c_l_told_db71) (hread : ∀ ds M Q, ds.length = 4 → sp ds M Q DX0 → t_l_all_refused_8142 c_l_told_db71 (dEnds M Q) (startD 7 ds) M) (hX : ∀ ds M Q E, sp ds M Q E → sp ds M Q DX0 := by exact fun _ _ _ _ h => h) : Def P w K mg base CX0 13 "_law_all_refused" s_l_all_refused_8142 ["_law_doors", "_law_given", "_law_due", "_law_odd"] sp :=
 T.h_l_all_refused_8142.ok (t := t_l_all_refused_8142 c_l_told_db71) sc_l_all_refused_8142 (fun f cdv A outer s H E hr gd => (dss_cons (ds_for rfl (di_seq (de_lst (da_cons de_non (da_cons (dv 3) (da_cons de_int da_nil))))) (dg_name (i := 4) sc_l_all_refused_8142.nd) (dss_one (ds_for rfl (di_seq (dv 0)) (dg_name (i := 5) sc_l_all_refused_8142.nd) (dss_cons (ds_set (i := 6) sc_l_all_refused_8142.nd (de_blt (cd_reprZ gd (ux hr)) T.n_repr (da_cons (dv 3) da_nil)))
 (dss_one (ds_if (DW.dt (dw_or (dt_cmp (opd_ne (u64 hr)) (de_blt (cd_reprZ gd (ux hr)) T.n_repr (da_cons (dcall D_l_told_db71 hr gd (da_cons (dv 5) (da_cons (de_op opd_add (de_op opd_add (dv 1) (de_lst (da_cons (dv 3) da_nil))) (de_op opd_mulL (de_lst (da_cons (dv 4) da_nil)) de_int)) da_nil))) da_nil)) (de_blt (cd_reprZ gd (ux hr)) T.n_repr (da_cons (de_lst (da_cons (dv 2) (da_cons (dv 3) da_nil))) da_nil)) (nomark _)) (dw_or1 (dt_cmp (opd_ne (u64 hr)) (de_blt (cd_reprZ gd (ux hr)) T.n_repr (da_cons (dv 3) da_nil)) (dv 6) (nomark _))))) (dss_one (ds_ret de_bl)) dss_nil))))))
 (dss_one (ds_ret de_bl)))) hread hX
theorem ok_l_wrong_cuttings_2ff2 {c_l_common_6be5 : DSp} {sp : DSp} (T : Txt P K mg base) (D_l_common_6be5 : Def P w K mg base CX0 1 "_law_common" s_l_common_6be5 ["_law_one", "_law_other"] c_l_common_6be5) (hread : ∀ ds M Q, ds.length = 1 → sp ds M Q DX0 → t_l_wrong_cuttings_2ff2 c_l_common_6be5 (dEnds M Q) (startD 6 ds) M) (hX : ∀ ds M Q E, sp ds M Q E → sp ds M Q DX0 := by exact fun _ _ _ _ h => h) : Def P w K mg base CX0 2 "_law_wrong_cuttings" s_l_wrong_cuttings_2ff2 ["_law_cutting"] sp :=
 T.h_l_wrong_cuttings_2ff2.ok (t := t_l_wrong_cuttings_2ff2 c_l_common_6be5) sc_l_wrong_cuttings_2ff2 (fun f cdv A outer s H E hr gd => (dss_cons (ds_asg (dv 0) (dg_tup rfl (dgs_cons (dg_name (i := 1) sc_l_wrong_cuttings_2ff2.nd) (dgs_cons (dg_name (i := 2) sc_l_wrong_cuttings_2ff2.nd) (dgs_cons (dg_name (i := 3) sc_l_wrong_cuttings_2ff2.nd) (dgs_cons (dg_name (i := 4) sc_l_wrong_cuttings_2ff2.nd) dgs_nil))))))
 (dss_cons (ds_set (i := 5) sc_l_wrong_cuttings_2ff2.nd (de_lst (da_cons de_non (da_cons de_int (da_cons de_str (da_cons (de_lst da_nil) (da_cons (de_tup da_nil) (da_cons de_dct0 (da_cons de_bl (da_cons (de_lst (da_cons (dv 1) (da_cons (dv 2) (da_cons (dv 3) (da_cons (dv 4) da_nil))))) (da_cons (de_tup (da_cons (dv 1) (da_cons (dv 2) (da_cons (dv 3) da_nil)))) (da_cons (de_tup (da_cons (dv 1) (da_cons (dv 2) (da_cons (dv 3) (da_cons (dv 4) (da_cons de_int da_nil)))))) (da_cons (de_tup (da_cons (dv 1) (da_cons de_int (da_cons (dv 3) (da_cons (dv 4) da_nil))))) (da_cons (de_tup (da_cons (dv 1) (da_cons (dv 2) (da_cons de_int (da_cons (dv 4) da_nil))))) (da_cons (de_tup (da_cons (dv 1) (da_cons (dv 2) (da_cons (dv 3) (da_cons (de_op opd_sub (dv 2) (dv 3)) da_nil))))) (da_cons (de_tup (da_cons (dv 1) (da_cons (dv 2) (da_cons (de_neg de_int) (da_cons (dv 4) da_nil))))) (da_cons (de_tup (da_cons de_int (da_cons (de_neg de_int) (da_cons de_int (da_cons (de_neg de_int) da_nil))))) da_nil)))))))))))))))))
 (dss_cons (ds_set (i := 5) sc_l_wrong_cuttings_2ff2.nd (de_op opd_add (dv 5) (de_lst (da_cons (de_tup (da_cons (dcall D_l_common_6be5 hr gd (da_cons (dv 2) (da_cons (dv 3) da_nil))) (da_cons (dv 2) (da_cons (dv 3) (da_cons (dv 4) da_nil))))) (da_cons (de_tup (da_cons (de_neg de_int) (da_cons (dv 2) (da_cons (dv 3) (da_cons (dv 4) da_nil))))) (da_cons (de_tup (da_cons de_bl (da_cons de_int (da_cons de_int (da_cons (de_neg de_int) da_nil))))) (da_cons (de_tup (da_cons de_int (da_cons de_bl (da_cons de_int (da_cons (de_neg de_int) da_nil))))) (da_cons (de_tup (da_cons de_int (da_cons de_int (da_cons de_bl (da_cons (de_neg de_int) da_nil))))) (da_cons (de_tup (da_cons de_bl (da_cons de_int (da_cons de_int (da_cons (de_neg de_int) da_nil))))) (da_cons (de_tup (da_cons de_int (da_cons de_int (da_cons de_int (da_cons de_non da_nil))))) (da_cons (de_tup (da_cons de_int (da_cons de_str (da_cons de_int (da_cons (de_neg de_int) da_nil))))) da_nil)))))))))))
 (dss_cons (ds_set (i := 5) sc_l_wrong_cuttings_2ff2.nd (de_op opd_add (dv 5) (de_lst (da_cons (de_tup (da_cons de_int (da_cons de_int (da_cons de_int (da_cons de_bl da_nil))))) (da_cons (de_tup (da_cons de_int (da_cons de_int (da_cons de_int (da_cons de_bl da_nil))))) (da_cons (de_tup (da_cons de_int (da_cons de_non (da_cons de_int (da_cons (de_neg de_int) da_nil))))) (da_cons (de_tup (da_cons de_int (da_cons de_int (da_cons (de_lst (da_cons de_int da_nil)) (da_cons (de_neg de_int) da_nil))))) da_nil)))))))
 (dss_one (ds_ret (de_op opd_add (dv 5) (de_lst (da_cons (de_tup (da_cons de_int (da_cons de_int (da_cons de_int (da_cons (de_neg de_int) da_nil))))) (da_cons (de_tup (da_cons de_int (da_cons de_int (da_cons de_int (da_cons (de_neg de_int) da_nil))))) (da_cons (de_tup (da_cons de_int (da_cons de_int (da_cons de_int (da_cons de_int da_nil))))) (da_cons (de_tup (da_cons (de_lst (da_cons de_int da_nil)) (da_cons de_int (da_cons de_int (da_cons (de_neg de_int) da_nil))))) (da_cons (de_tup (da_cons de_int (da_cons de_int (da_cons de_int (da_cons (de_neg de_int) da_nil))))) da_nil)))))))))))))) hread hX
theorem ok_l_law_a8bd {c_l_generator_b324 c_l_great_5836 c_l_measured_5aba c_l_all_refused_8142 c_l_wrong_cuttings_2ff2 c_is_heart c_l_told_db71 : DSp} {sp : DSp} (T : Txt P K mg base) (D_l_generator_b324 : Def P w K mg base CX0 2 "_law_generator" s_l_generator_b324 ["_law_script", "_law_index"] c_l_generator_b324) (D_l_great_5836 : Def P w K mg base CX0 3 "_law_great" s_l_great_5836 ["_law_generator_here", "_law_figures"] c_l_great_5836) (D_l_measured_5aba : Def P w K mg base CX0 1 "_law_measured" s_l_measured_5aba ["_law_cutting"] c_l_measured_5aba) (D_l_all_refused_8142 : Def P w K mg base CX0 13 "_law_all_refused" s_l_all_refused_8142 ["_law_doors", "_law_given", "_law_due", "_law_odd"] c_l_all_refused_8142) (D_l_wrong_cuttings_2ff2 : Def P w K mg base CX0 2 "_law_wrong_cuttings" s_l_wrong_cuttings_2ff2 ["_law_cutting"] c_l_wrong_cuttings_2ff2) (D_is_heart : Def P w K mg base CX0 3 "is_heart" s_is_heart ["value"] c_is_heart) (D_l_told_db71 : Def P w K mg base CX0 12 "_law_told" s_l_told_db71 ["_law_door", "_law_given"] c_l_told_db71) (hread : ∀ ds M Q, ds.length = 1 → sp ds M Q DX0 → t_l_law_a8bd c_l_generator_b324 c_l_great_5836 c_l_measured_5aba c_l_all_refused_8142 c_l_wrong_cuttings_2ff2 c_is_heart c_l_told_db71 (dEnds M Q) (startD 12 ds) M) (hX : ∀ ds M Q E, sp ds M Q E → sp ds M Q DX0 := by exact fun _ _ _ _ h => h) : Def P w K mg base CX0 14 "law" s_l_law_a8bd ["_law_script"] sp :=
 T.h_l_law_a8bd.ok (t := t_l_law_a8bd c_l_generator_b324 c_l_great_5836 c_l_measured_5aba c_l_all_refused_8142 c_l_wrong_cuttings_2ff2 c_is_heart c_l_told_db71) sc_l_law_a8bd (fun f cdv A outer s H E hr gd => (dss_cons (ds_set (i := 1) sc_l_law_a8bd.nd (dcall D_l_generator_b324 hr gd (da_cons (dv 0) (da_cons de_int da_nil))))
 (dss_cons (ds_set (i := 2) sc_l_law_a8bd.nd (dcall D_l_great_5836 hr gd (da_cons (dv 1) (da_cons de_int da_nil))))
 (dss_cons (ds_set (i := 3) sc_l_law_a8bd.nd (dcall D_l_measured_5aba hr gd (da_cons (dv 2) da_nil)))
 (dss_cons (ds_for rfl (di_seq (de_lst (da_cons de_non (da_cons de_int (da_cons de_int (da_cons de_int (da_cons de_int (da_cons (de_neg de_int) (da_cons de_bl (da_cons de_str (da_cons (de_lst (da_cons de_int da_nil)) (da_cons (de_tup (da_cons de_int da_nil)) (da_cons de_dct0 da_nil))))))))))))) (dg_name (i := 4) sc_l_law_a8bd.nd) (dss_one (ds_if (dt_not (dt_tru (dcall D_l_all_refused_8142 hr gd (da_cons (de_lst (da_cons de_int (da_cons de_int (da_cons de_int da_nil)))) (da_cons (de_lst da_nil) (da_cons de_str (da_cons (dv 4) da_nil))))))) (dss_one (ds_ret de_bl)) dss_nil)))
 (dss_cons (ds_for rfl (di_seq (de_lst (da_cons de_non (da_cons (de_neg de_int) (da_cons de_bl (da_cons de_bl (da_cons de_str (da_cons (de_lst (da_cons de_int da_nil)) (da_cons (de_tup (da_cons de_int da_nil)) (da_cons de_int (da_cons (de_op opd_pow de_int de_int) da_nil))))))))))) (dg_name (i := 4) sc_l_law_a8bd.nd) (dss_one (ds_if (dt_not (dt_tru (dcall D_l_all_refused_8142 hr gd (da_cons (de_lst (da_cons de_int da_nil)) (da_cons (de_lst (da_cons de_int da_nil)) (da_cons de_str (da_cons (dv 4) da_nil))))))) (dss_one (ds_ret de_bl)) dss_nil)))
 (dss_cons (ds_for rfl (di_seq (dcall D_l_wrong_cuttings_2ff2 hr gd (da_cons (dv 2) da_nil))) (dg_name (i := 4) sc_l_law_a8bd.nd) (dss_one (ds_if (DW.dt (dw_or (dt_not (dt_tru (dcall D_l_all_refused_8142 hr gd (da_cons (de_lst (da_cons de_int (da_cons de_int (da_cons de_int (da_cons de_int (da_cons de_int (da_cons de_int da_nil))))))) (da_cons (de_lst da_nil) (da_cons de_str (da_cons (dv 4) da_nil))))))) (dw_or (dt_not (dt_tru (dcall D_l_all_refused_8142 hr gd (da_cons (de_lst (da_cons de_int (da_cons de_int da_nil))) (da_cons (de_lst (da_cons (dv 2) da_nil)) (da_cons de_str (da_cons (dv 4) da_nil))))))) (dw_or1 (dt_cmp opd_isnot (dcall D_is_heart hr gd (da_cons (dv 4) da_nil)) de_bl (nomark _)))))) (dss_one (ds_ret de_bl)) dss_nil)))
 (dss_cons (ds_for rfl (di_seq (de_lst (da_cons (de_tup (da_cons de_int (da_cons de_int (da_cons de_int (da_cons (de_neg de_int) da_nil))))) (da_cons (de_tup (da_cons de_int (da_cons de_int (da_cons de_int (da_cons (de_neg de_int) da_nil))))) (da_cons (de_tup (da_cons de_int (da_cons de_int (da_cons de_int (da_cons (de_neg de_int) da_nil))))) da_nil))))) (dg_name (i := 4) sc_l_law_a8bd.nd) (dss_one (ds_if (dt_not (dt_tru (dcall D_l_all_refused_8142 hr gd (da_cons (de_lst (da_cons de_int (da_cons de_int da_nil))) (da_cons (de_lst da_nil) (da_cons de_str (da_cons (dv 4) da_nil))))))) (dss_one (ds_ret de_bl)) dss_nil)))
 (dss_cons (ds_set (i := 5) sc_l_law_a8bd.nd (de_if (dt_cmp (opd_neD (u64 hr)) (dv 3) de_int (nomark _)) (de_tup (da_cons de_int (da_cons de_int (da_cons de_int (da_cons (de_neg de_int) da_nil))))) (de_tup (da_cons de_int (da_cons de_int (da_cons de_int (da_cons (de_neg de_int) da_nil)))))))
 (dss_cons (ds_set (i := 6) sc_l_law_a8bd.nd (de_tup (da_cons de_int (da_cons (de_op opd_add (de_op opd_mulI (de_ix (dv 2) de_int) (de_ix (dv 2) de_int)) de_int) (da_cons de_int (da_cons (de_ix (dv 2) de_int) da_nil))))))
 (dss_cons (ds_if (DW.dt (dw_or (dt_not (dt_tru (dcall D_l_all_refused_8142 hr gd (da_cons (de_lst (da_cons de_int (da_cons de_int da_nil))) (da_cons (de_lst (da_cons (dv 2) da_nil)) (da_cons de_str (da_cons (dv 5) da_nil))))))) (dw_or1 (dt_not (dt_tru (dcall D_l_all_refused_8142 hr gd (da_cons (de_lst (da_cons de_int (da_cons de_int da_nil))) (da_cons (de_lst (da_cons (dv 2) da_nil)) (da_cons de_str (da_cons (dv 6) da_nil)))))))))) (dss_one (ds_ret de_bl)) dss_nil)
 (dss_cons (ds_set (i := 7) sc_l_law_a8bd.nd (de_own (da_cons de_int da_nil)))
 (dss_cons (ds_setLc false (i := 8) (own := [("_law_door", 9)]) rfl sc_l_law_a8bd.nd  (sw_true rfl rfl rfl (by decide +kernel)) (blkOk_by (N := ["_law_script", "_law_generator_here", "_law_cutting", "_law_measure", "_law_odd", "_law_unlike", "_law_near", "_law_bad", "_law_told_here", "_law_door", "_law_item", "_law_good"]) (own := [("_law_door", 9)]) (sc := (defScope s_l_law_a8bd)) (by decide +kernel)) (di_range1 T.n_range (da_cons de_int da_nil)) (fun _ _ _ _ _ => (dcg_name (i := 9) sc_l_law_a8bd.nd)) (fun _ _ _ _ _ => dts_nil) (fun _ _ _ _ _ => (dcall D_l_told_db71 hr gd (da_cons (dv 9) (da_cons (de_lst (da_cons (dv 7) (da_cons (dv 7) (da_cons (dv 7) da_nil)))) da_nil)))))
 (dss_cons (ds_expr (de_append (dv 7) (da_cons de_int da_nil)))
 (dss_cons (ds_if (DW.dt (dw_or (dt_cmp (opd_neD (u64 hr)) (de_lc false (own := [("_law_item", 10)]) rfl sc_l_law_a8bd.nd (blkOk_by (N := ["_law_script", "_law_generator_here", "_law_cutting", "_law_measure", "_law_odd", "_law_unlike", "_law_near", "_law_bad", "_law_told_here", "_law_door", "_law_item", "_law_good"]) (own := [("_law_item", 10)]) (sc := (defScope s_l_law_a8bd)) (by decide +kernel)) (di_seq (dv 8)) (fun _ _ _ _ _ => (dcg_name (i := 10) sc_l_law_a8bd.nd)) (fun _ _ _ _ _ => dts_nil) (fun _ _ _ _ _ => (de_ix (dv 10) de_int))) (de_op opd_mulL (de_lst (da_cons (de_lst (da_cons de_int (da_cons de_int da_nil))) da_nil)) de_int) (nomark _)) (dw_or1 (dt_cmp (opd_neD (u64 hr)) (dcall D_l_told_db71 hr gd (da_cons de_int (da_cons (de_lst (da_cons de_int da_nil)) da_nil))) (de_lst (da_cons de_str (da_cons de_int da_nil))) (nomark _))))) (dss_one (ds_ret de_bl)) dss_nil)
 (dss_cons (ds_set (i := 11) sc_l_law_a8bd.nd (de_op opd_add (de_op opd_add (de_lc false (own := [("_law_door", 9)]) rfl sc_l_law_a8bd.nd (blkOk_by (N := ["_law_script", "_law_generator_here", "_law_cutting", "_law_measure", "_law_odd", "_law_unlike", "_law_near", "_law_bad", "_law_told_here", "_law_door", "_law_item", "_law_good"]) (own := [("_law_door", 9)]) (sc := (defScope s_l_law_a8bd)) (by decide +kernel)) (di_seq (de_lst (da_cons de_int (da_cons de_int da_nil)))) (fun _ _ _ _ _ => (dcg_name (i := 9) sc_l_law_a8bd.nd)) (fun _ _ _ _ _ => dts_nil) (fun _ _ _ _ _ => (dcall D_l_told_db71 hr gd (da_cons (dv 9) (da_cons (de_lst (da_cons de_int da_nil)) da_nil))))) (de_lc false (own := [("_law_door", 9)]) rfl sc_l_law_a8bd.nd (blkOk_by (N := ["_law_script", "_law_generator_here", "_law_cutting", "_law_measure", "_law_odd", "_law_unlike", "_law_near", "_law_bad", "_law_told_here", "_law_door", "_law_item", "_law_good"]) (own := [("_law_door", 9)]) (sc := (defScope s_l_law_a8bd)) (by decide +kernel)) (di_seq (de_lst (da_cons de_int (da_cons de_int da_nil)))) (fun _ _ _ _ _ => (dcg_name (i := 9) sc_l_law_a8bd.nd)) (fun _ _ _ _ _ => dts_nil) (fun _ _ _ _ _ => (dcall D_l_told_db71 hr gd (da_cons (dv 9) (da_cons (de_lst (da_cons (de_tup (da_cons de_int (da_cons de_int (da_cons de_int (da_cons de_int da_nil))))) da_nil)) da_nil)))))) (de_lc false (own := [("_law_door", 9)]) rfl sc_l_law_a8bd.nd (blkOk_by (N := ["_law_script", "_law_generator_here", "_law_cutting", "_law_measure", "_law_odd", "_law_unlike", "_law_near", "_law_bad", "_law_told_here", "_law_door", "_law_item", "_law_good"]) (own := [("_law_door", 9)]) (sc := (defScope s_l_law_a8bd)) (by decide +kernel)) (di_seq (de_lst (da_cons de_int (da_cons de_int da_nil)))) (fun _ _ _ _ _ => (dcg_name (i := 9) sc_l_law_a8bd.nd)) (fun _ _ _ _ _ => dts_nil) (fun _ _ _ _ _ => (dcall D_l_told_db71 hr gd (da_cons (dv 9) (da_cons (de_lst (da_cons (dv 2) da_nil)) da_nil)))))))
 (dss_one (ds_ret (de_cmp (opd_eqD (u64 hr)) (de_op opd_add (dv 11) (de_lst (da_cons (dcall D_l_told_db71 hr gd (da_cons de_int (da_cons (de_lst (da_cons de_int (da_cons de_int da_nil))) da_nil))) (da_cons (dcall D_l_told_db71 hr gd (da_cons de_int (da_cons (de_lst (da_cons (dv 2) (da_cons (dv 2) da_nil))) da_nil))) (da_cons (dcall D_l_told_db71 hr gd (da_cons de_int (da_cons (de_lst (da_cons (dv 2) (da_cons (dv 2) (da_cons de_non da_nil)))) da_nil))) da_nil))))) (de_op opd_mulL (de_lst (da_cons (de_lst (da_cons de_str da_nil)) da_nil)) de_int) (nomark _)))))))))))))))))))) hread hX
end
end C_k33
/-! MA: whole roots, common divisors, sizes; plain -/
namespace DL
/-! ### a great number, by its name -/
def BIGN : Nat := 2 ^ 4000
def BIG : Int := (BIGN : Nat)
theorem bign_pos : 0 < BIGN := Nat.pow_pos (by decide)
theorem big_pos : 0 < BIG := Int.natCast_pos.mpr bign_pos
theorem bign_ge {k : Nat} (h : k ≤ 4000) : 2 ^ k ≤ BIGN := Nat.pow_le_pow_right (by decide) h
theorem log2_of {i : Int} (n : Nat) (h : i.natAbs < 2 ^ n) (h0 : 0 < n) : i.natAbs.log2 < n := by
  by_cases z : i.natAbs = 0
  · rw [z]; simpa using h0
  · exact (Nat.log2_lt z).mpr h
theorem nat_of_big {i : Int} (h1 : -BIG ≤ i) (h2 : i ≤ BIG) : i.natAbs < 2 ^ 4001 := by
  have h3 : (2 : Nat) ^ 4001 = BIGN + BIGN := by unfold BIGN; rw [Nat.pow_succ, Nat.mul_two]
  have h4 := bign_pos
  rw [h3]
  unfold BIG at h1 h2
  omega
theorem log_of_big {i : Int} (h1 : -BIG ≤ i) (h2 : i ≤ BIG) : i.natAbs.log2 < 4001 := log2_of 4001 (nat_of_big h1 h2) (by decide)
/-! ### whole roots -/
def isqN (n : Nat) : Nat :=
  if h : n = 0 then 0
  else
    let r := 2 * isqN (n / 4)
    if (r + 1) * (r + 1) ≤ n then r + 1 else r
termination_by n
decreasing_by omega
theorem isqN_spec (n : Nat) : isqN n * isqN n ≤ n ∧ n < (isqN n + 1) * (isqN n + 1) := by
  induction n using Nat.strongRecOn with
  | ind n ih =>
    unfold isqN
    split
    · rename_i h; subst h; decide
    · rename_i h
      obtain ⟨h1, h2⟩ := ih (n / 4) (by omega)
      generalize isqN (n / 4) = s at *
      have e1 : 4 * (s * s) ≤ n := by omega
      have e2 : n < 4 * ((s + 1) * (s + 1)) := by omega
      have x1 : (2 * s) * (2 * s) = 4 * (s * s) := by rw [Nat.mul_mul_mul_comm]
      have x2 : (2 * s + 1) * (2 * s + 1) = 4 * (s * s) + 4 * s + 1 := by
        rw [Nat.add_mul, Nat.mul_add, x1]; omega
      have x3 : (s + 1) * (s + 1) = s * s + 2 * s + 1 := by
        rw [Nat.add_mul, Nat.mul_add]; omega
      have x4 : (2 * s + 1 + 1) * (2 * s + 1 + 1) = 4 * (s * s) + 8 * s + 4 := by
        rw [Nat.add_mul, Nat.mul_add, Nat.add_mul, Nat.mul_add, x1]; omega
      dsimp only
      split
      · rename_i hc
        exact ⟨hc, by rw [x4]; omega⟩
      · rename_i hc
        exact ⟨by rw [x1]; omega, by omega⟩
theorem isqN_uni {n r : Nat} (h1 : r * r ≤ n) (h2 : n < (r + 1) * (r + 1)) : isqN n = r := by
  obtain ⟨g1, g2⟩ := isqN_spec n
  rcases Nat.lt_trichotomy (isqN n) r with h | h | h
  · have : (isqN n + 1) * (isqN n + 1) ≤ r * r := Nat.mul_le_mul h h
    omega
  · exact h
  · have : (r + 1) * (r + 1) ≤ isqN n * isqN n := Nat.mul_le_mul h h
    omega
/-- the greatest count whose square is at most n -/
def isq (n : Int) : Int := (isqN n.toNat : Nat)
theorem isq_nn (n : Int) : 0 ≤ isq n := Int.natCast_nonneg _
theorem isq_le {n : Int} (h : 0 ≤ n) : isq n * isq n ≤ n := by
  have := (isqN_spec n.toNat).1
  unfold isq
  rw [← Int.natCast_mul]
  omega
theorem isq_lt {n : Int} (h : 0 ≤ n) : n < (isq n + 1) * (isq n + 1) := by
  have := (isqN_spec n.toNat).2
  unfold isq
  have e : ((isqN n.toNat : Int) + 1) * ((isqN n.toNat : Int) + 1) = (((isqN n.toNat + 1) * (isqN n.toNat + 1) : Nat) : Int) := by
    rw [Int.natCast_mul]; rfl
  rw [e]
  omega
theorem isq_uni {n r : Int} (h0 : 0 ≤ r) (h1 : r * r ≤ n) (h2 : n < (r + 1) * (r + 1)) : isq n = r := by
  obtain ⟨k, rfl⟩ := Int.eq_ofNat_of_zero_le h0
  have h1' : ((k * k : Nat) : Int) ≤ n := by rw [Int.natCast_mul]; exact h1
  have h2' : n < (((k + 1) * (k + 1) : Nat) : Int) := by rw [Int.natCast_mul]; exact h2
  unfold isq
  rw [isqN_uni (n := n.toNat) (r := k) (by omega) (by omega)]
theorem sq_lt {a b : Int} (ha : 0 ≤ a) (h : a < b) : a * a < b * b := by
  have := Int.mul_lt_mul' (Int.le_of_lt h) h ha (by omega : (0:Int) < b)
  exact this
theorem sq_le {a b : Int} (ha : 0 ≤ a) (h : a ≤ b) : a * a ≤ b * b := Int.mul_le_mul h h ha (by omega)
theorem lt_of_sq {a b : Int} (hb : 0 ≤ b) (h : a * a < b * b) : a < b := by
  by_cases z : a < b
  · exact z
  · have := sq_le hb (by omega : b ≤ a)
    omega
theorem isq_self {r : Int} (h : 0 ≤ r) : isq (r * r) = r := isq_uni h (Int.le_refl _) (sq_lt h (by omega))
/-- self is at most n -/
theorem isq_le_self {n : Int} (h : 0 ≤ n) : isq n ≤ n := by
  by_cases z : isq n ≤ n
  · exact z
  · have h1 := isq_le h
    have h2 := isq_nn n
    have h3 : 1 * isq n ≤ isq n * isq n := Int.mul_le_mul_of_nonneg_right (by omega) h2
    omega
theorem newton_ge {n x : Int} (hn : 0 ≤ n) (hx : 0 < x) : isq n ≤ (x + n / x) / 2 := by
  have h1 := isq_le hn
  generalize isq n = s at *
  have h2 : 0 ≤ (x - s) * (x - s) := by
    rcases Int.le_total 0 (x - s) with h | h
    · exact Int.mul_nonneg h h
    · have := Int.mul_nonneg (show (0:Int) ≤ -(x - s) by omega) (show (0:Int) ≤ -(x - s) by omega)
      rwa [Int.neg_mul_neg] at this
  have h3 : (x - s) * (x - s) = x * x - 2 * (s * x) + s * s := by
    rw [Int.sub_mul, Int.mul_sub, Int.mul_sub, Int.mul_comm x s]; omega
  have h4 : (2 * s - x) * x ≤ n := by
    have e : (2 * s - x) * x = 2 * (s * x) - x * x := by rw [Int.sub_mul, Int.mul_assoc]
    omega
  have h5 : 2 * s - x ≤ n / x := (Int.le_ediv_iff_mul_le hx).mpr h4
  omega
theorem newton_end {n x : Int} (hx : 0 < x) (h : x ≤ (x + n / x) / 2) : x * x ≤ n := by
  have h1 : x ≤ n / x := by omega
  exact (Int.le_ediv_iff_mul_le hx).mp h1
theorem sq_big {n x : Int} (hn : 0 ≤ n) (hx : 0 ≤ x) (h : n < x * x) : isq n ≤ x := by
  have h1 := isq_le hn
  have := lt_of_sq hx (by omega : isq n * isq n < x * x)
  omega
/-! ### common divisors -/
theorem gcd_step {l h : Int} (hl : 0 ≤ l) (hh : 0 < h) : Int.gcd h (l.fmod h) = Int.gcd l h := by
  obtain ⟨a, rfl⟩ := Int.eq_ofNat_of_zero_le hl
  obtain ⟨b, rfl⟩ := Int.eq_ofNat_of_zero_le (Int.le_of_lt hh)
  rw [Int.fmod_eq_emod_of_nonneg _ (by omega)]
  show Nat.gcd (b : Int).natAbs ((a : Int) % (b : Int)).natAbs = Nat.gcd (a : Int).natAbs (b : Int).natAbs
  rw [← Int.natCast_emod, Int.natAbs_natCast, Int.natAbs_natCast, Int.natAbs_natCast, Nat.gcd_comm b, Nat.gcd_comm a b]
  exact (Nat.gcd_rec b a).symm
theorem gcd_end {l : Int} (hl : 0 ≤ l) : ((Int.gcd l 0 : Nat) : Int) = l := by
  rw [Int.gcd_zero_right]; omega
end DL
namespace DL
open PySem PySem.Spec PyProof.Rows L2
theorem gIn_two {i a b : Int} {M : Mem} {Q : DQ} : gIn false (.int i) (.lst [.int a, .int b]) M Q = Q (.bl (i == a || i == b)) M := by
  show Q (.bl ((a == i || (b == i || false)) != false)) M = _
  have e : ((a == i || (b == i || false)) != false) = (i == a || i == b) := by
    rw [Bool.bne_false, Bool.or_false, Bool.beq_comm (a := a), Bool.beq_comm (a := b)]
  rw [e]
theorem gRepr_bl {b : Bool} {M : Mem} {Q : DQ} : gRepr [.bl b] M Q = Q (.str (PyData.shown (.bool b))) M := by
  cases b <;> rfl
local macro_rules | `(tactic| walk_at "rd") => `(tactic| simp only [startD, List.map, List.replicate, List.length_cons, List.length_nil, List.append_eq, List.append_nil, List.nil_append, List.cons_append, Nat.reduceSub, Nat.reduceAdd, List.getElem?_cons_zero, List.getElem?_cons_succ, List.set_cons_zero, List.set_cons_succ,
  dC, dVar, dOp, dTru, gTru, tru, dChain, dAnd, dOr, dNot, dAndV, dOrV, dNotV, dIf, dNeg, gNeg, dNil, dCons, dTup, dLst, dOwn, gIx, rBin, gAdd, gCmpI, dCall, dCallK, dSeq, dNext, dDrop, dRet, dRetN, dIfS, dName, dGNil, dGCons, dGTup, dSub, gSetL, dAsg, dPar, dPar3, dAug, gIpI, dSeqI, gSeqI, dRngI, gRng1, gRng2, dCB, gAbs, gInt, gMax, gMin, gGcd, gLen, lenD, gIsi, tyM, tyD, dBits, gBits, dMet, gAppend, dPart, dNoPart, dSl, dEnds, gIs, isB, dNever, dFor, dLc, wipeD, dYes,
  sizeLine_eq, Nat.reduceLeDiff, gEq_int, gNe_int, gEq_strs, gNe_strs, gIn_two, gRepr_bl, rs_lst, rs_tup, rs_scr, rs_int, atI_0, atI_1, atI_2, atI_3, atI_4, atI_5, ixN_30, ixN_31, ixN_32, gEq_bl, gNe_bl, decide_eq_true_eq, beq_iff_eq, Bool.not_eq_true', beq_eq_false_iff_ne, decide_eq_false_iff_not, Bool.not_true, Bool.not_false, if_true, if_false, Bool.false_eq_true, ite_true, ite_false, true_and, and_true, ne_eq, Bool.bne_false, Bool.bne_true, reduceCtorEq])
/-! ### sizes -/
theorem sm_big {i : Int} (h1 : -BIG ≤ i) (h2 : i ≤ BIG) : Sm i := by
  have := log_of_big h1 h2
  unfold Sm; omega
theorem sm_big8 {i : Int} (h1 : -(8 * BIG) ≤ i) (h2 : i ≤ 8 * BIG) : Sm i := by
  refine Sm.of 4004 ?_ (by decide)
  have h3 : (2 : Nat) ^ 4004 = 16 * BIGN := by unfold BIGN; rw [Nat.pow_add 2 4000 4, Nat.mul_comm]
  have h4 := bign_pos
  rw [h3]
  unfold BIG at h1 h2
  omega
theorem cdiv_big {a i : Int} (h0 : i ≠ 0) (h1 : -(8 * BIG) ≤ i) (h2 : i ≤ 8 * BIG) : CDiv a i := by
  refine ⟨h0, Nat.lt_of_lt_of_le (log2_of 4004 ?_ (by decide)) (by decide)⟩
  have h3 : (2 : Nat) ^ 4004 = 16 * BIGN := by unfold BIGN; rw [Nat.pow_add 2 4000 4, Nat.mul_comm]
  have h4 := bign_pos
  rw [h3]
  unfold BIG at h1 h2
  omega
theorem fdiv_pos {a b : Int} (h : 0 < b) : a.fdiv b = a / b := Int.fdiv_eq_ediv_of_nonneg a (Int.le_of_lt h)
theorem fmod_pos {a b : Int} (h : 0 < b) : a.fmod b = a % b := Int.fmod_eq_emod_of_nonneg a (Int.le_of_lt h)
/-! ### kinds -/
theorem kb_NoneType_int : kitB "NoneType" "int" = some false := by decide +kernel
theorem kb_bool_int : kitB "bool" "int" = some true := by decide +kernel
theorem kb_int_int : kitB "int" "int" = some true := by decide +kernel
theorem kb_str_int : kitB "str" "int" = some false := by decide +kernel
theorem kb_tuple_int : kitB "tuple" "int" = some false := by decide +kernel
theorem kb_list_int : kitB "list" "int" = some false := by decide +kernel
theorem kb_dict_int : kitB "dict" "int" = some false := by decide +kernel
theorem kb_NoneType_bool : kitB "NoneType" "bool" = some false := by decide +kernel
theorem kb_bool_bool : kitB "bool" "bool" = some true := by decide +kernel
theorem kb_int_bool : kitB "int" "bool" = some false := by decide +kernel
theorem kb_str_bool : kitB "str" "bool" = some false := by decide +kernel
theorem kb_tuple_bool : kitB "tuple" "bool" = some false := by decide +kernel
theorem kb_list_bool : kitB "list" "bool" = some false := by decide +kernel
theorem kb_dict_bool : kitB "dict" "bool" = some false := by decide +kernel
theorem kb_NoneType_tuple : kitB "NoneType" "tuple" = some false := by decide +kernel
theorem kb_bool_tuple : kitB "bool" "tuple" = some false := by decide +kernel
theorem kb_int_tuple : kitB "int" "tuple" = some false := by decide +kernel
theorem kb_str_tuple : kitB "str" "tuple" = some false := by decide +kernel
theorem kb_tuple_tuple : kitB "tuple" "tuple" = some true := by decide +kernel
theorem kb_list_tuple : kitB "list" "tuple" = some false := by decide +kernel
theorem kb_dict_tuple : kitB "dict" "tuple" = some false := by decide +kernel
theorem kb_NoneType_list : kitB "NoneType" "list" = some false := by decide +kernel
theorem kb_bool_list : kitB "bool" "list" = some false := by decide +kernel
theorem kb_int_list : kitB "int" "list" = some false := by decide +kernel
theorem kb_str_list : kitB "str" "list" = some false := by decide +kernel
theorem kb_tuple_list : kitB "tuple" "list" = some false := by decide +kernel
theorem kb_list_list : kitB "list" "list" = some true := by decide +kernel
theorem kb_dict_list : kitB "dict" "list" = some false := by decide +kernel
local macro_rules | `(tactic| walk_at "kb") => `(tactic| simp only [kb_NoneType_list, kb_bool_list, kb_int_list, kb_str_list, kb_tuple_list, kb_list_list, kb_dict_list, kb_NoneType_int, kb_bool_int, kb_int_int, kb_str_int, kb_tuple_int, kb_list_int, kb_dict_int, kb_NoneType_bool, kb_bool_bool, kb_int_bool, kb_str_bool, kb_tuple_bool, kb_list_bool, kb_dict_bool, kb_NoneType_tuple, kb_bool_tuple, kb_int_tuple, kb_str_tuple, kb_tuple_tuple, kb_list_tuple, kb_dict_tuple, if_true, if_false, Bool.false_eq_true, ite_true, ite_false, Bool.not_true, Bool.not_false])
/-! ### measures -/
def isW : D → Bool
  | .int _ => true
  | _ => false
/-- is_whole(d), d any data -/
def sp_is_whole : DSp := fun ds M Q _ => ∃ d T, ds = [d] ∧ tyM M d = some T ∧ Q (.bl (isW d)) M
theorem rd_is_whole : ∀ ds M Q, ds.length = 1 → sp_is_whole ds M Q DX0 → t_is_whole (dEnds M Q) (startD 1 ds) M := by
  rintro _ M Q _ ⟨d, T, rfl, ht, q⟩
  unfold t_is_whole
  cases d <;> first | (cases ht; done) | skip
  all_goals walk_at "rd"
  case own k =>
    unfold tyM at ht
    dsimp only at ht
    split at ht
    · rename_i ds hk
      simp only [hk]
      walk_at "kb"
      exact rtq q
    · cases ht
  all_goals walk_at "kb"
  all_goals exact rtq q
/-- the common divisor of two ints -/
def sp_gcd : DSp := fun ds M Q _ => ∃ a b : Int, ds = [.int a, .int b] ∧ Q (.int (Int.gcd a b)) M
theorem gcd_abs (a b : Int) : Int.gcd (if a < 0 then -a else a) (if b < 0 then -b else b) = Int.gcd a b := by
  split <;> split <;> simp
theorem rd_common_by : ∀ ds M Q, ds.length = 2 → sp_gcd ds M Q DX0 → t_common_by (dEnds M Q) (startD 4 ds) M := by
  rintro _ M Q _ ⟨a, b, rfl, q⟩
  unfold t_common_by
  walk_at "rd"
  refine dwhile_of (fun n r M' => ∃ l h : Int, r = [some (.int a), some (.int b), some (.int l), some (.int h)] ∧ M' = M ∧ 0 ≤ l ∧ 0 ≤ h ∧ Int.gcd l h = Int.gcd a b ∧ n = h.toNat) _ ⟨_, _, rfl, rfl, ?_, ?_, gcd_abs a b, rfl⟩ ?_
  · split <;> omega
  · split <;> omega
  · rintro n r M' ⟨l, h, rfl, rfl, hl, hh, hg, rfl⟩
    walk_at "rd"
    split
    · rename_i h0
      have hp : 0 < h := by omega
      refine ⟨h0, _, ?_, h, l.fmod h, rfl, hh, ?_, (gcd_step hl hp).trans hg, rfl⟩
      · rw [fmod_pos hp]
        have := Int.emod_lt_of_pos l hp
        have := Int.emod_nonneg l h0
        omega
      · rw [fmod_pos hp]; exact Int.emod_nonneg l h0
    · rename_i h0
      have h0 : h = 0 := by omega
      subst h0
      rw [← hg, gcd_end hl] at q
      exact rtq q
/-- the whole root of a count -/
def sp_isq : DSp := fun ds M Q _ => ∃ n : Int, ds = [.int n] ∧ 0 ≤ n ∧ n ≤ BIG ∧ Q (.int (isq n)) M
theorem rd_root_floor_by : ∀ ds M Q, ds.length = 1 → sp_isq ds M Q DX0 → t_root_floor_by (dEnds M Q) (startD 3 ds) M := by
  rintro _ M Q _ ⟨n, rfl, h0, hB, q⟩
  unfold t_root_floor_by
  walk_at "rd"
  split
  · rename_i h2
    have : isq n = n := by
      rcases (by omega : n = 0 ∨ n = 1) with e | e <;> subst e
      · exact isq_self (r := 0) (by decide)
      · exact isq_self (r := 1) (by decide)
    rw [this] at q
    exact rtq q
  · rename_i h2
    refine dwhile_of (fun m r M' => ∃ f : Int, r = [some (.int n), some (.int f), none] ∧ M' = M ∧ 1 ≤ f ∧ f ≤ 2 * n ∧ m = (2 * n + 2 - f).toNat) _ ⟨1, rfl, rfl, by omega, by omega, rfl⟩ ?_
    rintro m r M' ⟨f, rfl, rfl, hf, hf2, rfl⟩
    walk_at "rd"
    have sf : Sm f := sm_big8 (by omega) (by omega)
    refine ⟨⟨sf, sf⟩, ?_⟩
    split
    · rename_i hc
      refine ⟨⟨Sm.of 4 (by decide), sf⟩, _, ?_, 2 * f, rfl, by omega, ?_, rfl⟩
      · have : f * 1 ≤ f * f := Int.mul_le_mul_of_nonneg_left hf (by omega)
        omega
      · have : f * 1 ≤ f * f := Int.mul_le_mul_of_nonneg_left hf (by omega)
        omega
    · rename_i hc
      have dv : ∀ x : Int, 1 ≤ x → x ≤ 2 * n → CDiv n x := fun x h1 h3 => cdiv_big (by omega) (by omega) (by omega)
      have d2 : ∀ x : Int, CDiv x 2 := fun x => ⟨by decide, by decide⟩
      refine ⟨dv f hf hf2, d2 _, ?_⟩
      refine dwhile_of (fun m r M'' => ∃ x : Int, r = [some (.int n), some (.int x), some (.int ((x + n.fdiv x).fdiv 2))] ∧ M'' = M' ∧ 1 ≤ x ∧ x ≤ 2 * n ∧ isq n ≤ x ∧ m = x.toNat) _ ⟨f, rfl, rfl, hf, hf2, sq_big h0 (by omega) (by omega), rfl⟩ ?_
      rintro m r M'' ⟨x, rfl, rfl, hx, hx2, hs, rfl⟩
      walk_at "rd"
      have e1 : n.fdiv x = n / x := fdiv_pos (by omega)
      have e2 : ∀ y : Int, y.fdiv 2 = y / 2 := fun y => fdiv_pos (by decide)
      rw [e2, e1]
      have ng := newton_ge h0 (x := x) (by omega)
      have h1q : 1 ≤ isq n := by
        by_cases z : 1 ≤ isq n
        · exact z
        · have e : isq n = 0 := by have := isq_nn n; omega
          have := isq_lt h0
          rw [e] at this
          omega
      split
      · rename_i hlt
        refine ⟨dv _ (by omega) (by omega), d2 _, _, ?_, (x + n / x) / 2, ?_, by omega, by omega, ng, rfl⟩
        · omega
        · rw [e2]
      · rename_i hge
        have e : isq n = x := isq_uni (by omega) (newton_end (by omega) (by omega)) (by
          have h3 := isq_lt h0
          have : (isq n + 1) * (isq n + 1) ≤ (x + 1) * (x + 1) := sq_le (by omega) (by omega)
          omega)
        rw [e] at q
        exact rtq q
end DL
namespace DL
open PySem PySem.Spec PyProof.Rows L2
local macro_rules | `(tactic| walk_at "rd") => `(tactic| simp only [startD, List.map, List.replicate, List.length_cons, List.length_nil, List.append_eq, List.append_nil, List.nil_append, List.cons_append, Nat.reduceSub, Nat.reduceAdd, List.getElem?_cons_zero, List.getElem?_cons_succ, List.set_cons_zero, List.set_cons_succ,
  dC, dVar, dOp, dTru, gTru, tru, dChain, dAnd, dOr, dNot, dAndV, dOrV, dNotV, dIf, dNeg, gNeg, dNil, dCons, dTup, dLst, dOwn, gIx, rBin, gAdd, gCmpI, dCall, dCallK, dSeq, dNext, dDrop, dRet, dRetN, dIfS, dName, dGNil, dGCons, dGTup, dSub, gSetL, dAsg, dPar, dPar3, dAug, gIpI, dSeqI, gSeqI, dRngI, gRng1, gRng2, dCB, gAbs, gInt, gMax, gMin, gGcd, gLen, lenD, gIsi, tyM, tyD, dBits, gBits, dMet, gAppend, dPart, dNoPart, dSl, dEnds, gIs, isB, dNever, dFor, dLc, wipeD, dYes,
  sizeLine_eq, Nat.reduceLeDiff, gEq_int, gNe_int, gEq_strs, gNe_strs, gIn_two, gRepr_bl, rs_lst, rs_tup, rs_scr, rs_int, atI_0, atI_1, atI_2, atI_3, atI_4, atI_5, ixN_30, ixN_31, ixN_32, gEq_bl, gNe_bl, decide_eq_true_eq, beq_iff_eq, Bool.not_eq_true', beq_eq_false_iff_ne, decide_eq_false_iff_not, Bool.not_true, Bool.not_false, if_true, if_false, Bool.false_eq_true, ite_true, ite_false, true_and, and_true, ne_eq, Bool.bne_false, Bool.bne_true, reduceCtorEq])
local macro_rules | `(tactic| walk_at "rh") => `(tactic| simp only [*, startD, List.map, List.replicate, List.length_cons, List.length_nil, List.append_eq, List.append_nil, List.nil_append, List.cons_append, Nat.reduceSub, Nat.reduceAdd, List.getElem?_cons_zero, List.getElem?_cons_succ, List.set_cons_zero, List.set_cons_succ,
  dC, dVar, dOp, dTru, gTru, tru, dChain, dAnd, dOr, dNot, dAndV, dOrV, dNotV, dIf, dNeg, gNeg, dNil, dCons, dTup, dLst, dOwn, gIx, rBin, gAdd, gCmpI, dCall, dCallK, dSeq, dNext, dDrop, dRet, dRetN, dIfS, dName, dGNil, dGCons, dGTup, dSub, gSetL, dAsg, dPar, dPar3, dAug, gIpI, dSeqI, gSeqI, dRngI, gRng1, gRng2, dCB, gAbs, gInt, gMax, gMin, gGcd, gLen, lenD, gIsi, tyM, tyD, dBits, gBits, dMet, gAppend, dPart, dNoPart, dSl, dEnds, gIs, isB, dNever, dFor, dLc, wipeD, dYes,
  sizeLine_eq, Nat.reduceLeDiff, gEq_int, gNe_int, gEq_strs, gNe_strs, gIn_two, gRepr_bl, rs_lst, rs_tup, rs_scr, rs_int, atI_0, atI_1, atI_2, atI_3, atI_4, atI_5, ixN_30, ixN_31, ixN_32, gEq_bl, gNe_bl, decide_eq_true_eq, beq_iff_eq, Bool.not_eq_true', beq_eq_false_iff_ne, decide_eq_false_iff_not, Bool.not_true, Bool.not_false, if_true, if_false, Bool.false_eq_true, ite_true, ite_false, true_and, and_true, ne_eq, Bool.bne_false, Bool.bne_true, reduceCtorEq])
local macro_rules | `(tactic| walk_at "kb") => `(tactic| simp only [kb_NoneType_list, kb_bool_list, kb_int_list, kb_str_list, kb_tuple_list, kb_list_list, kb_dict_list, kb_NoneType_int, kb_bool_int, kb_int_int, kb_str_int, kb_tuple_int, kb_list_int, kb_dict_int, kb_NoneType_bool, kb_bool_bool, kb_int_bool, kb_str_bool, kb_tuple_bool, kb_list_bool, kb_dict_bool, kb_NoneType_tuple, kb_bool_tuple, kb_int_tuple, kb_str_tuple, kb_tuple_tuple, kb_list_tuple, kb_dict_tuple, if_true, if_false, Bool.false_eq_true, ite_true, ite_false, Bool.not_true, Bool.not_false])
/-! ### bounds and measures -/
def btw (d : D) (lo : Int) (hi : D) : Bool := match d with
  | .int i => decide (lo ≤ i) && (match hi with | .int h => decide (i ≤ h) | _ => true)
  | _ => false
def sp_is_between : DSp := fun ds M Q _ => ∃ d lo hi T, ds = [d, .int lo, hi] ∧ tyM M d = some T ∧ (hi = .non ∨ ∃ h, hi = .int h) ∧ Q (.bl (btw d lo hi)) M
theorem isW_iff {d : D} : isW d = true ↔ ∃ i, d = .int i := by cases d <;> simp [isW]
theorem rd_is_between : ∀ ds M Q, ds.length = 3 → sp_is_between ds M Q DX0 → t_is_between sp_is_whole (dEnds M Q) (startD 3 ds) M := by
  rintro _ M Q - ⟨d, lo, hi, T, rfl, ht, hh, q⟩
  unfold t_is_between
  walk_at "rd"
  refine ⟨d, T, rfl, ht, ?_⟩
  cases d <;> first | (simp only [isW, Bool.false_eq_true, if_false]; exact rtq q) | skip
  simp only [isW, if_true]
  by_cases h1 : lo ≤ (‹Int› : Int)
  · simp only [h1, if_true]
    rcases hh with rfl | ⟨h, rfl⟩
    · walk_at "rd"
      simp only [btw, h1, decide_true, Bool.and_true] at q
      exact rtq q
    · walk_at "rd"
      simp only [btw, h1, decide_true, Bool.true_and] at q
      exact rtq q
  · simp only [h1, if_false]
    simp only [btw, h1, decide_false, Bool.false_and] at q
    exact rtq q
def isMeas (d : D) : Bool := match d with
  | .int i => decide (5 ≤ i) && (i % 4 == 0 || i % 4 == 1)
  | _ => false
def sp_is_measure : DSp := fun ds M Q _ => ∃ d T, ds = [d] ∧ tyM M d = some T ∧ Q (.bl (isMeas d)) M
theorem rd_is_measure_by : ∀ ds M Q, ds.length = 1 → sp_is_measure ds M Q DX0 → t_is_measure_by sp_is_between (dEnds M Q) (startD 1 ds) M := by
  rintro _ M Q - ⟨d, T, rfl, ht, q⟩
  unfold t_is_measure_by
  walk_at "rd"
  refine ⟨d, 5, .non, T, rfl, ht, .inl rfl, ?_⟩
  cases d <;> first | (simp only [btw, Bool.false_eq_true, if_false]; exact rtq q) | skip
  rename_i i
  simp only [btw, Bool.and_true, decide_eq_true_eq]
  by_cases h1 : 5 ≤ i
  · simp only [h1, if_true]
    refine ⟨(by decide : (4 : Int) ≠ 0), ?_⟩
    simp only [isMeas, h1, decide_true, Bool.true_and] at q
    rw [fmod_pos (by decide)]
    exact rtq q
  · simp only [h1, if_false]
    simp only [isMeas, h1, decide_false, Bool.false_and] at q
    exact rtq q
/-! ### root numbers -/
/-- the items that are no whole numbers -/
def bads (l : List D) : List D := l.filterMap fun e => if isW e = true then none else some e
theorem bads_fine {n : Nat} {l : List D} (h : ∀ e ∈ l, fine n e = true) : fineAll n (bads l) = true := by
  rw [fineAll_iff]
  intro d hd
  obtain ⟨e, he, hs⟩ := List.mem_filterMap.mp hd
  split at hs
  · cases hs
  · cases hs; exact h _ he
theorem bads_nil {l : List D} (h : (bads l).isEmpty = true) : ∀ e ∈ l, isW e = true := by
  intro e he
  have h0 : bads l = [] := List.isEmpty_iff.mp h
  by_cases hw : isW e = true
  · exact hw
  · have : e ∈ bads l := List.mem_filterMap.mpr ⟨e, he, by rw [if_neg hw]⟩
    rw [h0] at this; cases this
theorem bads_some {l : List D} (h : (bads l).isEmpty = false) : ∃ e ∈ l, isW e = false := by
  cases hb : bads l with
  | nil => rw [hb] at h; cases h
  | cons x xs =>
    have : x ∈ bads l := by rw [hb]; exact List.mem_cons_self
    obtain ⟨e, he, hs⟩ := List.mem_filterMap.mp this
    refine ⟨e, he, ?_⟩
    split at hs
    · cases hs
    · rename_i hw; exact Bool.eq_false_iff.mpr hw
/-! ### the least form of a root number -/
def isSq (m : Int) : Prop := isq m * isq m = m
instance (m : Int) : Decidable (isSq m) := inferInstanceAs (Decidable (_ = _))
theorem meas_ge {m : Int} (h : isMeas (.int m) = true) : 5 ≤ m := by
  simp only [isMeas, Bool.and_eq_true, decide_eq_true_eq] at h
  exact h.1
end DL
namespace DL
open PySem PySem.Spec PyProof.Rows L2
local macro_rules | `(tactic| walk_at "rd") => `(tactic| simp only [startD, List.map, List.replicate, List.length_cons, List.length_nil, List.append_eq, List.append_nil, List.nil_append, List.cons_append, Nat.reduceSub, Nat.reduceAdd, List.getElem?_cons_zero, List.getElem?_cons_succ, List.set_cons_zero, List.set_cons_succ,
  dC, dVar, dOp, dTru, gTru, tru, dChain, dAnd, dOr, dNot, dAndV, dOrV, dNotV, dIf, dNeg, gNeg, dNil, dCons, dTup, dLst, dOwn, gIx, rBin, gAdd, gCmpI, dCall, dCallK, dSeq, dNext, dDrop, dRet, dRetN, dIfS, dName, dGNil, dGCons, dGTup, dSub, gSetL, dAsg, dPar, dPar3, dAug, gIpI, dSeqI, gSeqI, dRngI, gRng1, gRng2, dCB, gAbs, gInt, gMax, gMin, gGcd, gLen, lenD, gIsi, tyM, tyD, dBits, gBits, dMet, gAppend, dPart, dNoPart, dSl, dEnds, gIs, isB, dNever, dFor, dLc, wipeD, dYes,
  sizeLine_eq, Nat.reduceLeDiff, gEq_int, gNe_int, gEq_strs, gNe_strs, gIn_two, gRepr_bl, rs_lst, rs_tup, rs_scr, rs_int, atI_0, atI_1, atI_2, atI_3, atI_4, atI_5, ixN_30, ixN_31, ixN_32, gEq_bl, gNe_bl, decide_eq_true_eq, beq_iff_eq, Bool.not_eq_true', beq_eq_false_iff_ne, decide_eq_false_iff_not, Bool.not_true, Bool.not_false, if_true, if_false, Bool.false_eq_true, ite_true, ite_false, true_and, and_true, ne_eq, Bool.bne_false, Bool.bne_true, reduceCtorEq])
local macro_rules | `(tactic| walk_at "rh") => `(tactic| simp only [*, startD, List.map, List.replicate, List.length_cons, List.length_nil, List.append_eq, List.append_nil, List.nil_append, List.cons_append, Nat.reduceSub, Nat.reduceAdd, List.getElem?_cons_zero, List.getElem?_cons_succ, List.set_cons_zero, List.set_cons_succ,
  dC, dVar, dOp, dTru, gTru, tru, dChain, dAnd, dOr, dNot, dAndV, dOrV, dNotV, dIf, dNeg, gNeg, dNil, dCons, dTup, dLst, dOwn, gIx, rBin, gAdd, gCmpI, dCall, dCallK, dSeq, dNext, dDrop, dRet, dRetN, dIfS, dName, dGNil, dGCons, dGTup, dSub, gSetL, dAsg, dPar, dPar3, dAug, gIpI, dSeqI, gSeqI, dRngI, gRng1, gRng2, dCB, gAbs, gInt, gMax, gMin, gGcd, gLen, lenD, gIsi, tyM, tyD, dBits, gBits, dMet, gAppend, dPart, dNoPart, dSl, dEnds, gIs, isB, dNever, dFor, dLc, wipeD, dYes,
  sizeLine_eq, Nat.reduceLeDiff, gEq_int, gNe_int, gEq_strs, gNe_strs, gIn_two, gRepr_bl, rs_lst, rs_tup, rs_scr, rs_int, atI_0, atI_1, atI_2, atI_3, atI_4, atI_5, ixN_30, ixN_31, ixN_32, gEq_bl, gNe_bl, decide_eq_true_eq, beq_iff_eq, Bool.not_eq_true', beq_eq_false_iff_ne, decide_eq_false_iff_not, Bool.not_true, Bool.not_false, if_true, if_false, Bool.false_eq_true, ite_true, ite_false, true_and, and_true, ne_eq, Bool.bne_false, Bool.bne_true, reduceCtorEq])
local macro_rules | `(tactic| walk_at "kb") => `(tactic| simp only [kb_NoneType_list, kb_bool_list, kb_int_list, kb_str_list, kb_tuple_list, kb_list_list, kb_dict_list, kb_NoneType_int, kb_bool_int, kb_int_int, kb_str_int, kb_tuple_int, kb_list_int, kb_dict_int, kb_NoneType_bool, kb_bool_bool, kb_int_bool, kb_str_bool, kb_tuple_bool, kb_list_bool, kb_dict_bool, kb_NoneType_tuple, kb_bool_tuple, kb_int_tuple, kb_str_tuple, kb_tuple_tuple, kb_list_tuple, kb_dict_tuple, if_true, if_false, Bool.false_eq_true, ite_true, ite_false, Bool.not_true, Bool.not_false])
/-! ### the law's own draws -/
theorem sm_of {i : Int} (n : Nat) (h1 : -(2 ^ n : Int) < i) (h2 : i < 2 ^ n) (hn : n ≤ 400000 := by decide) : Sm i := by
  refine Sm.of n ?_ hn
  have e : ((2 ^ n : Nat) : Int) = (2 : Int) ^ n := by rw [Int.natCast_pow]; rfl
  omega
theorem fm_range {a b : Int} (h : 0 < b) : 0 ≤ a.fmod b ∧ a.fmod b < b := by
  rw [fmod_pos h]
  exact ⟨Int.emod_nonneg _ (by omega), Int.emod_lt_of_pos _ h⟩
def P31 : Int := 2147483648
def P40 : Int := 1099511627776
def sp_hash : DSp := fun ds M Q _ => ∃ s c : Int, ds = [.int s, .int c] ∧ 0 ≤ s ∧ s < P31 ∧ 0 ≤ c ∧ c ≤ P40 ∧ ∀ v, 0 ≤ v → v < P31 → Q (.int v) M
theorem rd_l_hash_9cde : ∀ ds M Q, ds.length = 2 → sp_hash ds M Q DX0 → t_l_hash_9cde (dEnds M Q) (startD 3 ds) M := by
  rintro _ M Q - ⟨s, c, rfl, s0, s1, c0, c1, q⟩
  unfold P31 P40 at *
  unfold t_l_hash_9cde
  walk_at "rd"
  have ss : Sm s := sm_of 32 (by omega) (by omega)
  have sc : Sm c := sm_of 42 (by omega) (by omega)
  have hm : ∀ a : Int, 0 ≤ a.fmod 2147483629 ∧ a.fmod 2147483629 < 2147483629 := fun a => fm_range (by decide)
  have k1 : Sm (16777259 * c) := sm_of 72 (by omega) (by omega)
  refine ⟨⟨ss, sm_of 32 (by decide) (by decide)⟩, ⟨sm_of 32 (by decide) (by decide), sc⟩, ⟨k1, sc⟩, ⟨sm_of 32 (by decide) (by decide), sc⟩, (by decide : (2147483629 : Int) ≠ 0), ?_⟩
  generalize hv : Int.fmod _ 2147483629 = v
  have v1 : 0 ≤ v ∧ v < 2147483629 := by rw [← hv]; exact hm _
  have sv : Sm v := sm_of 32 (by omega) (by omega)
  refine ⟨⟨sv, sv⟩, ⟨sm_of 32 (by decide) (by decide), sc⟩, (by decide : (2147483587 : Int) ≠ 0), ?_⟩
  generalize hw : Int.fmod _ 2147483587 = w
  have w1 : 0 ≤ w ∧ w < 2147483587 := by rw [← hw]; exact fm_range (by decide)
  refine ⟨⟨sm_of 32 (by omega) (by omega), sm_of 32 (by decide) (by decide)⟩, (by decide : (2147483647 : Int) ≠ 0), ?_⟩
  have r1 : 0 ≤ (w * 69069).fmod 2147483647 ∧ (w * 69069).fmod 2147483647 < 2147483647 := fm_range (by decide)
  exact rtq (q _ r1.1 (by omega))
/-- cell k is a generator that has counted n, at most -/
def Gn (k : Nat) (n : Int) (M : Mem) : Prop := ∃ a s c : Int, M[k]? = some (.lst [.int a, .int s, .int c]) ∧ 0 ≤ s ∧ s < P31 ∧ 0 ≤ c ∧ c ≤ n
/-- cell k alone has changed -/
def Gst (k : Nat) (n : Int) (M M' : Mem) : Prop := M'.length = M.length ∧ Gn k n M' ∧ ∀ i, i ≠ k → M'[i]? = M[i]?
theorem Gn.le {k : Nat} {n m : Int} {M : Mem} (h : Gn k n M) (hn : n ≤ m) : Gn k m M := by
  obtain ⟨a, s, c, h1, h2, h3, h4, h5⟩ := h
  exact ⟨a, s, c, h1, h2, h3, h4, by omega⟩
theorem Gst.refl {k : Nat} {n : Int} {M : Mem} (h : Gn k n M) : Gst k n M M := ⟨rfl, h, fun _ _ => rfl⟩
theorem Gst.trans {k : Nat} {n m : Int} {M M' M'' : Mem} (h : Gst k n M M') (g : Gst k m M' M'') : Gst k m M M'' :=
  ⟨g.1.trans h.1, g.2.1, fun i hi => (g.2.2 i hi).trans (h.2.2 i hi)⟩
theorem Gst.le {k : Nat} {n m : Int} {M M' : Mem} (h : Gst k n M M') (hn : n ≤ m) : Gst k m M M' := ⟨h.1, h.2.1.le hn, h.2.2⟩
theorem Gst.set {k : Nat} {n : Int} {M : Mem} {a s c : Int} (hk : k < M.length) (h2 : 0 ≤ s) (h3 : s < P31) (h4 : 0 ≤ c) (h5 : c ≤ n) : Gst k n M (M.set k (.lst [.int a, .int s, .int c])) :=
  ⟨List.length_set, ⟨a, s, c, List.getElem?_set_self hk, h2, h3, h4, h5⟩, fun _ hi => List.getElem?_set_ne (Ne.symm hi)⟩
/-- a def that has changed the generator alone -/
theorem Gst.rtq {k : Nat} {n : Int} {M M' : Mem} {Q : DQ} {d : D} (h : Gst k n M M') (q : Q d M') (hb : below M'.length d = true := by rfl) : Rtq M Q d M' := by
  refine rtqC q (Nat.le_of_eq h.1.symm) hb fun i c hc => ?_
  by_cases hi : i = k
  · subst hi
    obtain ⟨a, s, c', e, _⟩ := h.2.1
    rw [e] at hc
    cases hc
    exact .inr rfl
  · rw [h.2.2 i hi] at hc
    exact .inl hc
def sp_random : DSp := fun ds M Q _ => ∃ (k : Nat) (b n : Int), ds = [.own k, .int b] ∧ 0 < b ∧ b < 2 ^ 900 ∧ Gn k n M ∧ n ≤ P40 - 40 ∧ ∀ v M', 0 ≤ v → v < b → Gst k (n + 40) M M' → Q (.int v) M'
theorem bits_le {b : Int} {n : Nat} (h0 : 0 < b) (h : b < 2 ^ n) : Builtin.Int.intBits b ≤ n := by
  unfold Builtin.Int.intBits
  rw [if_neg (by simp; omega)]
  have h1 : b.natAbs < 2 ^ n := by
    have e : ((2 ^ n : Nat) : Int) = (2 : Int) ^ n := by rw [Int.natCast_pow]; rfl
    omega
  have := (Nat.log2_lt (by omega)).mpr h1
  omega
theorem rd_l_random_7821 : ∀ ds M Q, ds.length = 2 → sp_random ds M Q DX0 → t_l_random_7821 sp_hash (dEnds M Q) (startD 4 ds) M := by
  rintro _ M Q - ⟨k, b, n, rfl, b0, b1, ⟨a, s, c, hk, s0, s1, c0, c1⟩, hn, q⟩
  have kl : k < M.length := (List.getElem?_eq_some_iff.mp hk).1
  unfold t_l_random_7821
  walk_at "rd"
  have e0 : res M (.own k) = .lst [.int a, .int s, .int c] := by unfold res; dsimp only; rw [hk]
  simp only [e0, hk]
  walk_at "rd"
  by_cases ha : 0 < a
  · rw [if_pos ha]
    have := fm_range (a := a) b0
    refine ⟨(by omega : b ≠ 0), ⟨by omega, Nat.lt_of_lt_of_le (log2_of 900 (by
      have e : ((2 ^ 900 : Nat) : Int) = (2 : Int) ^ 900 := by rw [Int.natCast_pow]; rfl
      omega) (by decide)) (by decide)⟩, ?_⟩
    exact (Gst.set kl s0 s1 c0 (by omega)).rtq (q _ _ this.1 this.2 (Gst.set kl s0 s1 c0 (by omega)))
  · rw [if_neg ha]
    have hb := bits_le b0 b1
    generalize hbits : Builtin.Int.intBits b = bits at hb
    have ef : ((bits : Nat) : Int).fdiv 30 = (bits / 30 : Nat) := by rw [fdiv_pos (by decide)]; omega
    rw [ef]
    refine ⟨⟨by decide, by decide⟩, ⟨by omega, by omega⟩, ?_⟩
    have eT : (1 + ((bits / 30 : Nat) : Int)).toNat = 1 + bits / 30 := by omega
    rw [eT]
    generalize hT : 1 + bits / 30 = T
    have hT1 : T ≤ 31 := by omega
    refine ⟨fun i r M' => i ≤ T ∧ Gst k (n + i) M M' ∧ ∃ dr tn, r = [some (.own k), some (.int b), some (.int dr), tn] ∧ 0 ≤ dr ∧ dr < 2 ^ (32 * i), ⟨by omega, ⟨rfl, ⟨a, s, c, hk, s0, s1, c0, by omega⟩, fun _ _ => rfl⟩, 0, _, rfl, by decide, by decide⟩, ?_⟩
    rintro i r M' ⟨hi, hg, dr, tn, rfl, d0, d1⟩
    refine ⟨trivial, fun hl => ?_, fun d hd => ?_⟩
    · walk_at "rd"
      have := fm_range (a := dr) b0
      exact ⟨(by omega : b ≠ 0), hg.rtq (q _ _ this.1 this.2 (hg.le (by omega)))⟩
    · obtain ⟨hi2, rfl⟩ := rng_get.mp hd
      obtain ⟨a', s', c', hk', s0', s1', c0', c1'⟩ := hg.2.1
      have kl' : k < M'.length := (List.getElem?_eq_some_iff.mp hk').1
      have e1 : res M' (.own k) = .lst [.int a', .int s', .int c'] := by unfold res; dsimp only; rw [hk']
      walk_at "rd"
      simp only [e1, hk']
      walk_at "rd"
      have e2 : res (M'.set k (.lst [.int a', .int s', .int (c' + 1)])) (.own k) = .lst [.int a', .int s', .int (c' + 1)] := by unfold res; dsimp only; rw [List.getElem?_set_self kl']
      simp only [e2]
      walk_at "rd"
      have sd : Sm dr := sm_of (32 * i) (by have := Int.pow_pos (n := 2) (m := 32 * i) (by decide); omega) d1 (by omega)
      unfold P40 at hn
      refine ⟨⟨sd, sm_of 32 (by decide) (by decide)⟩, s', c' + 1, rfl, s0', s1', by omega, by unfold P40; omega, fun v v0 v1 => ?_⟩
      refine ⟨by omega, hg.trans (Gst.set kl' s0' s1' (by omega) (by omega)), _, _, rfl, by omega, ?_⟩
      unfold P31 at v1
      have e3 : (2 : Int) ^ (32 * (i + 1)) = 2 ^ (32 * i) * 4294967296 := by rw [Nat.mul_add, Int.pow_add]; rfl
      rw [e3]
      omega
def sp_cell : DSp := fun ds M Q _ => ∃ (ns : List Int) (i : Int), ds = [.scr ns, .int i] ∧ 0 ≤ i ∧ ∀ v, Q (.int v) M
theorem rd_l_cell_cf3b : ∀ ds M Q, ds.length = 2 → sp_cell ds M Q DX0 → t_l_cell_cf3b (dEnds M Q) (startD 2 ds) M := by
  rintro _ M Q - ⟨ns, i, rfl, i0, q⟩
  unfold t_l_cell_cf3b
  walk_at "rd"
  by_cases hi : i < (ns.length : Nat)
  · rw [if_pos hi]
    have e : i = (i.toNat : Nat) := by omega
    have hl : i.toNat < ns.length := by omega
    rw [e, atI_of _ hl, List.getElem?_eq_getElem hl]
    exact rtq (q _)
  · rw [if_neg hi]
    obtain ⟨xs, ex⟩ := cut_map ns none (some 1)
    unfold gSlL
    walk_at "rd"
    rw [ex]
    unfold gSum
    walk_at "rd"
    rw [intsD_map]
    exact ⟨(by decide : (1000003 : Int) ≠ 0), rtq (q _)⟩
def sp_generator : DSp := fun ds M Q _ => ∃ (ns : List Int) (i : Int), ds = [.scr ns, .int i] ∧ 0 ≤ i ∧ i < P31 ∧ ∀ M', M'.length = M.length + 1 → Gn M.length (1000 * i) M' → (∀ j, j < M.length → M'[j]? = M[j]?) → Q (.own M.length) M'
theorem rd_l_generator_b324 : ∀ ds M Q, ds.length = 2 → sp_generator ds M Q DX0 → t_l_generator_b324 sp_cell (dEnds M Q) (startD 3 ds) M := by
  rintro _ M Q - ⟨ns, i, rfl, i0, i1, q⟩
  unfold t_l_generator_b324
  walk_at "rd"
  refine ⟨ns, i, rfl, i0, fun v => ?_⟩
  dsimp only
  have cp : CPow 10 18 ∧ CPow 10 60 ∧ CPow (10 ^ Int.toNat 60) 10 := by refine ⟨?_, ?_, ?_⟩ <;> (unfold CPow; decide)
  have hi : Sm i := by unfold P31 at i1; exact sm_of 32 (by omega) (by omega)
  refine ⟨cp.1, cp.2.1, cp.2.2, ?_, (by decide : (2147483647 : Int) ≠ 0), ⟨Sm.of 20 (by decide), hi⟩, ?_⟩
  · have h1 : (0 : Int) < (10 ^ Int.toNat 60) ^ Int.toNat 10 := Int.pow_pos (Int.pow_pos (by decide))
    exact fun e => by rw [e] at h1; exact absurd h1 (by decide)
  · have g := fm_range (a := v) (b := 2147483647) (by decide)
    have hl : ∀ c : Own, (M ++ [c])[M.length]? = some c := fun c => by rw [List.getElem?_append_right (Nat.le_refl _), Nat.sub_self]; rfl
    refine rtqC (q _ (by simp) ⟨_, _, _, hl _, g.1, by unfold P31; omega, by omega, Int.le_refl _⟩ fun j hj => List.getElem?_append_left hj) (by simp) (by simp only [below]; exact decide_eq_true (by simp)) fun j c hc => ?_
    by_cases hj : j < M.length
    · rw [List.getElem?_append_left hj] at hc; exact .inl hc
    · have hj2 : j < M.length + 1 := by
        have := (List.getElem?_eq_some_iff.mp hc).1
        simpa using this
      have e : j = M.length := by omega
      subst e
      rw [hl] at hc
      cases hc
      exact .inr rfl
theorem rd_l_common_6be5 : ∀ ds M Q, ds.length = 2 → sp_gcd ds M Q DX0 → t_l_common_6be5 (dEnds M Q) (startD 4 ds) M := by
  rintro _ M Q - ⟨a, b, rfl, q⟩
  unfold t_l_common_6be5
  walk_at "rd"
  refine dwhile_of (fun n r M' => ∃ l h : Int, r = [some (.int a), some (.int b), some (.int l), some (.int h)] ∧ M' = M ∧ 0 ≤ l ∧ 0 ≤ h ∧ Int.gcd l h = Int.gcd a b ∧ n = h.toNat) _ ⟨_, _, rfl, rfl, ?_, ?_, gcd_abs a b, rfl⟩ ?_
  · split <;> omega
  · split <;> omega
  · rintro n r M' ⟨l, h, rfl, rfl, hl, hh, hg, rfl⟩
    walk_at "rd"
    split
    · rename_i h0
      have hp : 0 < h := by omega
      refine ⟨h0, _, ?_, h, l.fmod h, rfl, hh, ?_, (gcd_step hl hp).trans hg, rfl⟩
      · have := fm_range (a := l) hp
        omega
      · exact (fm_range (a := l) hp).1
    · rename_i h0
      have h0 : h = 0 := by omega
      subst h0
      rw [← hg, gcd_end hl] at q
      exact rtq q
end DL
namespace DL
open PySem PySem.Spec PyProof.Rows L2
local macro_rules | `(tactic| walk_at "rd") => `(tactic| simp only [startD, List.map, List.replicate, List.length_cons, List.length_nil, List.append_eq, List.append_nil, List.nil_append, List.cons_append, Nat.reduceSub, Nat.reduceAdd, List.getElem?_cons_zero, List.getElem?_cons_succ, List.set_cons_zero, List.set_cons_succ,
  dC, dVar, dOp, dTru, gTru, tru, dChain, dAnd, dOr, dNot, dAndV, dOrV, dNotV, dIf, dNeg, gNeg, dNil, dCons, dTup, dLst, dOwn, gIx, rBin, gAdd, gCmpI, dCall, dCallK, dSeq, dNext, dDrop, dRet, dRetN, dIfS, dName, dGNil, dGCons, dGTup, dSub, gSetL, dAsg, dPar, dPar3, dAug, gIpI, dSeqI, gSeqI, dRngI, gRng1, gRng2, dCB, gAbs, gInt, gMax, gMin, gGcd, gLen, lenD, gIsi, tyM, tyD, dBits, gBits, dMet, gAppend, dPart, dNoPart, dSl, dEnds, gIs, isB, dNever, dFor, dLc, wipeD, dYes,
  sizeLine_eq, Nat.reduceLeDiff, gEq_int, gNe_int, gEq_strs, gNe_strs, gIn_two, gRepr_bl, rs_lst, rs_tup, rs_scr, rs_int, atI_0, atI_1, atI_2, atI_3, atI_4, atI_5, ixN_30, ixN_31, ixN_32, gEq_bl, gNe_bl, decide_eq_true_eq, beq_iff_eq, Bool.not_eq_true', beq_eq_false_iff_ne, decide_eq_false_iff_not, Bool.not_true, Bool.not_false, if_true, if_false, Bool.false_eq_true, ite_true, ite_false, true_and, and_true, ne_eq, Bool.bne_false, Bool.bne_true, reduceCtorEq])
local macro_rules | `(tactic| walk_at "rh") => `(tactic| simp only [*, startD, List.map, List.replicate, List.length_cons, List.length_nil, List.append_eq, List.append_nil, List.nil_append, List.cons_append, Nat.reduceSub, Nat.reduceAdd, List.getElem?_cons_zero, List.getElem?_cons_succ, List.set_cons_zero, List.set_cons_succ,
  dC, dVar, dOp, dTru, gTru, tru, dChain, dAnd, dOr, dNot, dAndV, dOrV, dNotV, dIf, dNeg, gNeg, dNil, dCons, dTup, dLst, dOwn, gIx, rBin, gAdd, gCmpI, dCall, dCallK, dSeq, dNext, dDrop, dRet, dRetN, dIfS, dName, dGNil, dGCons, dGTup, dSub, gSetL, dAsg, dPar, dPar3, dAug, gIpI, dSeqI, gSeqI, dRngI, gRng1, gRng2, dCB, gAbs, gInt, gMax, gMin, gGcd, gLen, lenD, gIsi, tyM, tyD, dBits, gBits, dMet, gAppend, dPart, dNoPart, dSl, dEnds, gIs, isB, dNever, dFor, dLc, wipeD, dYes,
  sizeLine_eq, Nat.reduceLeDiff, gEq_int, gNe_int, gEq_strs, gNe_strs, gIn_two, gRepr_bl, rs_lst, rs_tup, rs_scr, rs_int, atI_0, atI_1, atI_2, atI_3, atI_4, atI_5, ixN_30, ixN_31, ixN_32, gEq_bl, gNe_bl, decide_eq_true_eq, beq_iff_eq, Bool.not_eq_true', beq_eq_false_iff_ne, decide_eq_false_iff_not, Bool.not_true, Bool.not_false, if_true, if_false, Bool.false_eq_true, ite_true, ite_false, true_and, and_true, ne_eq, Bool.bne_false, Bool.bne_true, reduceCtorEq])
local macro_rules | `(tactic| walk_at "kb") => `(tactic| simp only [kb_NoneType_list, kb_bool_list, kb_int_list, kb_str_list, kb_tuple_list, kb_list_list, kb_dict_list, kb_NoneType_int, kb_bool_int, kb_int_int, kb_str_int, kb_tuple_int, kb_list_int, kb_dict_int, kb_NoneType_bool, kb_bool_bool, kb_int_bool, kb_str_bool, kb_tuple_bool, kb_list_bool, kb_dict_bool, kb_NoneType_tuple, kb_bool_tuple, kb_int_tuple, kb_str_tuple, kb_tuple_tuple, kb_list_tuple, kb_dict_tuple, if_true, if_false, Bool.false_eq_true, ite_true, ite_false, Bool.not_true, Bool.not_false])
theorem atI_any {l : List D} {v : Int} (h0 : 0 ≤ v) (h1 : v < (l.length : Nat)) : ∃ d, d ∈ l ∧ atI l v = some d := by
  have e : v = (v.toNat : Nat) := by omega
  have hl : v.toNat < l.length := by omega
  refine ⟨l[v.toNat], List.getElem_mem hl, ?_⟩
  have h2 := atI_of _ hl
  rw [← e] at h2
  rw [h2]
  exact List.getElem?_eq_getElem hl
theorem fine_ty {n : Nat} {d : D} (M : Mem) (h : fine n d = true) : ∃ T, tyM M d = some T := by
  cases d <;> first | exact ⟨_, rfl⟩ | (simp [fine] at h)
theorem dSeq_open {a b : DTS} {E : DEnds} {r : Env} {M : Mem} (h : ∀ B : Env → Mem → Prop, b E = B → a { E with nx := B } r M) : dSeq a b E r M := h _ rfl
/-! ### the least form: scaled, its size -/
theorem str_self (z : Str) : (z == z) = true := by simp
theorem lit_cons {B : Nat} {d : D} {l : List D} (h : lit B d = true) (h2 : litAll B l = true) : litAll B (d :: l) = true := by
  simp only [litAll, h, h2, Bool.and_self]
end DL
namespace DL
open PySem PySem.Spec PyProof.Rows L2
local macro_rules | `(tactic| walk_at "rd") => `(tactic| simp only [startD, List.map, List.replicate, List.length_cons, List.length_nil, List.append_eq, List.append_nil, List.nil_append, List.cons_append, Nat.reduceSub, Nat.reduceAdd, List.getElem?_cons_zero, List.getElem?_cons_succ, List.set_cons_zero, List.set_cons_succ,
  dC, dVar, dOp, dTru, gTru, tru, dChain, dAnd, dOr, dNot, dAndV, dOrV, dNotV, dIf, dNeg, gNeg, dNil, dCons, dTup, dLst, dOwn, gIx, rBin, gAdd, gCmpI, dCall, dCallK, dSeq, dNext, dDrop, dRet, dRetN, dIfS, dName, dGNil, dGCons, dGTup, dSub, gSetL, dAsg, dPar, dPar3, dAug, gIpI, dSeqI, gSeqI, dRngI, gRng1, gRng2, dCB, gAbs, gInt, gMax, gMin, gGcd, gLen, lenD, gIsi, tyM, tyD, dBits, gBits, dMet, gAppend, dPart, dNoPart, dSl, dEnds, gIs, isB, dNever, dFor, dLc, wipeD, dYes,
  sizeLine_eq, Nat.reduceLeDiff, gEq_int, gNe_int, gEq_strs, gNe_strs, gIn_two, gRepr_bl, rs_lst, rs_tup, rs_scr, rs_int, atI_0, atI_1, atI_2, atI_3, atI_4, atI_5, ixN_30, ixN_31, ixN_32, gEq_bl, gNe_bl, decide_eq_true_eq, beq_iff_eq, Bool.not_eq_true', beq_eq_false_iff_ne, decide_eq_false_iff_not, Bool.not_true, Bool.not_false, if_true, if_false, Bool.false_eq_true, ite_true, ite_false, true_and, and_true, ne_eq, Bool.bne_false, Bool.bne_true, reduceCtorEq])
local macro_rules | `(tactic| walk_at "rh") => `(tactic| simp only [*, startD, List.map, List.replicate, List.length_cons, List.length_nil, List.append_eq, List.append_nil, List.nil_append, List.cons_append, Nat.reduceSub, Nat.reduceAdd, List.getElem?_cons_zero, List.getElem?_cons_succ, List.set_cons_zero, List.set_cons_succ,
  dC, dVar, dOp, dTru, gTru, tru, dChain, dAnd, dOr, dNot, dAndV, dOrV, dNotV, dIf, dNeg, gNeg, dNil, dCons, dTup, dLst, dOwn, gIx, rBin, gAdd, gCmpI, dCall, dCallK, dSeq, dNext, dDrop, dRet, dRetN, dIfS, dName, dGNil, dGCons, dGTup, dSub, gSetL, dAsg, dPar, dPar3, dAug, gIpI, dSeqI, gSeqI, dRngI, gRng1, gRng2, dCB, gAbs, gInt, gMax, gMin, gGcd, gLen, lenD, gIsi, tyM, tyD, dBits, gBits, dMet, gAppend, dPart, dNoPart, dSl, dEnds, gIs, isB, dNever, dFor, dLc, wipeD, dYes,
  sizeLine_eq, Nat.reduceLeDiff, gEq_int, gNe_int, gEq_strs, gNe_strs, gIn_two, gRepr_bl, rs_lst, rs_tup, rs_scr, rs_int, atI_0, atI_1, atI_2, atI_3, atI_4, atI_5, ixN_30, ixN_31, ixN_32, gEq_bl, gNe_bl, decide_eq_true_eq, beq_iff_eq, Bool.not_eq_true', beq_eq_false_iff_ne, decide_eq_false_iff_not, Bool.not_true, Bool.not_false, if_true, if_false, Bool.false_eq_true, ite_true, ite_false, true_and, and_true, ne_eq, Bool.bne_false, Bool.bne_true, reduceCtorEq])
local macro_rules | `(tactic| walk_at "kb") => `(tactic| simp only [kb_NoneType_list, kb_bool_list, kb_int_list, kb_str_list, kb_tuple_list, kb_list_list, kb_dict_list, kb_NoneType_int, kb_bool_int, kb_int_int, kb_str_int, kb_tuple_int, kb_list_int, kb_dict_int, kb_NoneType_bool, kb_bool_bool, kb_int_bool, kb_str_bool, kb_tuple_bool, kb_list_bool, kb_dict_bool, kb_NoneType_tuple, kb_bool_tuple, kb_int_tuple, kb_str_tuple, kb_tuple_tuple, kb_list_tuple, kb_dict_tuple, if_true, if_false, Bool.false_eq_true, ite_true, ite_false, Bool.not_true, Bool.not_false])
/-! ### bits -/
def Bi (n : Nat) (i : Int) : Prop := i.natAbs < 2 ^ n
theorem Bi.mono {n k : Nat} {i : Int} (h : Bi n i) (hk : n ≤ k := by decide) : Bi k i := Nat.lt_of_lt_of_le h (Nat.pow_le_pow_right (by decide) hk)
theorem Bi.mul {n k : Nat} {i j : Int} (h : Bi n i) (g : Bi k j) : Bi (n + k) (i * j) := by
  unfold Bi at *
  rw [Int.natAbs_mul, Nat.pow_add]
  exact Nat.mul_lt_mul'' h g
theorem Bi.add {n : Nat} {i j : Int} (h : Bi n i) (g : Bi n j) : Bi (n + 1) (i + j) := by
  unfold Bi at *
  rw [Nat.pow_succ]
  omega
theorem Bi.sub {n : Nat} {i j : Int} (h : Bi n i) (g : Bi n j) : Bi (n + 1) (i - j) := by
  unfold Bi at *
  rw [Nat.pow_succ]
  omega
theorem Bi.neg {n : Nat} {i : Int} (h : Bi n i) : Bi n (0 - i) := by
  unfold Bi at *
  omega
theorem Bi.sm {n : Nat} {i : Int} (h : Bi n i) (hn : n ≤ 400000 := by decide) : Sm i := Sm.of n h hn
theorem Bi.big {n : Nat} {i : Int} (h : Bi n i) (hn : n ≤ 4000 := by decide) : -BIG ≤ i ∧ i ≤ BIG := by
  have h1 := bign_ge hn
  unfold Bi at h
  unfold BIG
  omega
theorem Bi.of_dvd {n : Nat} {c a x : Int} (h : Bi n x) (hc : c ≠ 0) (e : x = c * a) : Bi n a := by
  unfold Bi at *
  rw [e, Int.natAbs_mul] at h
  exact Nat.lt_of_le_of_lt (Nat.le_mul_of_pos_left _ (by omega)) h
theorem Bi.of_abs {n : Nat} {i : Int} (k : Nat) (h : i.natAbs ≤ k) (hk : k < 2 ^ n := by decide) : Bi n i := Nat.lt_of_le_of_lt h hk
/-! ### normal forms -/
abbrev T3 (a b c : Int) : D := .tup [.int a, .int b, .int c]
/-- (a, b, c) in least terms, over the measure m -/
structure NF (m a b c : Int) : Prop where
  pos : 1 ≤ c
  cop : Int.gcd (Int.gcd a b : Int) c = 1
  pr : isSq m → b = 0
def nC (X Y b : Int) : Int := if b < 0 then 0 - (Int.gcd (Int.gcd X Y : Int) b : Int) else (Int.gcd (Int.gcd X Y : Int) b : Int)
def nf (X Y b : Int) : D := T3 (X.fdiv (nC X Y b)) (Y.fdiv (nC X Y b)) (b.fdiv (nC X Y b))
/-! ### sums, products, quotients -/
def Sz (n : Nat) (a b c : Int) : Prop := Bi n a ∧ Bi n b ∧ Bi n c
/-! ### the law's drawn root numbers -/
/-! ### sizes and values, for the laws -/
theorem NF.neg {m a b c : Int} (h : NF m a b c) : NF m (0 - a) (0 - b) c := by
  refine ⟨h.pos, ?_, fun q => by rw [h.pr q]; rfl⟩
  rw [Int.zero_sub, Int.zero_sub, Int.gcd_neg, Int.neg_gcd]
  exact h.cop
theorem Sz.neg {n : Nat} {a b c : Int} (h : Sz n a b c) : Sz n (0 - a) (0 - b) c := ⟨h.1.neg, h.2.1.neg, h.2.2⟩
theorem Sz.mono {n k : Nat} {a b c : Int} (h : Sz n a b c) (hk : n ≤ k := by decide) : Sz k a b c := ⟨h.1.mono hk, h.2.1.mono hk, h.2.2.mono hk⟩
end DL
namespace DL
open PySem PySem.Spec PyProof.Rows L2
local macro_rules | `(tactic| walk_at "rd") => `(tactic| simp only [startD, List.map, List.replicate, List.length_cons, List.length_nil, List.append_eq, List.append_nil, List.nil_append, List.cons_append, Nat.reduceSub, Nat.reduceAdd, List.getElem?_cons_zero, List.getElem?_cons_succ, List.set_cons_zero, List.set_cons_succ,
  dC, dVar, dOp, dTru, gTru, tru, dChain, dAnd, dOr, dNot, dAndV, dOrV, dNotV, dIf, dNeg, gNeg, dNil, dCons, dTup, dLst, dOwn, gIx, rBin, gAdd, gCmpI, dCall, dCallK, dSeq, dNext, dDrop, dRet, dRetN, dIfS, dName, dGNil, dGCons, dGTup, dSub, gSetL, dAsg, dPar, dPar3, dAug, gIpI, dSeqI, gSeqI, dRngI, gRng1, gRng2, dCB, gAbs, gInt, gMax, gMin, gGcd, gLen, lenD, gIsi, tyM, tyD, dBits, gBits, dMet, gAppend, dPart, dNoPart, dSl, dEnds, gIs, isB, dNever, dFor, dLc, wipeD, dYes,
  sizeLine_eq, Nat.reduceLeDiff, gEq_int, gNe_int, gEq_strs, gNe_strs, gIn_two, gRepr_bl, rs_lst, rs_tup, rs_scr, rs_int, atI_0, atI_1, atI_2, atI_3, atI_4, atI_5, ixN_30, ixN_31, ixN_32, gEq_bl, gNe_bl, decide_eq_true_eq, beq_iff_eq, Bool.not_eq_true', beq_eq_false_iff_ne, decide_eq_false_iff_not, Bool.not_true, Bool.not_false, if_true, if_false, Bool.false_eq_true, ite_true, ite_false, true_and, and_true, ne_eq, Bool.bne_false, Bool.bne_true, reduceCtorEq])
local macro_rules | `(tactic| walk_at "rh") => `(tactic| simp only [*, startD, List.map, List.replicate, List.length_cons, List.length_nil, List.append_eq, List.append_nil, List.nil_append, List.cons_append, Nat.reduceSub, Nat.reduceAdd, List.getElem?_cons_zero, List.getElem?_cons_succ, List.set_cons_zero, List.set_cons_succ,
  dC, dVar, dOp, dTru, gTru, tru, dChain, dAnd, dOr, dNot, dAndV, dOrV, dNotV, dIf, dNeg, gNeg, dNil, dCons, dTup, dLst, dOwn, gIx, rBin, gAdd, gCmpI, dCall, dCallK, dSeq, dNext, dDrop, dRet, dRetN, dIfS, dName, dGNil, dGCons, dGTup, dSub, gSetL, dAsg, dPar, dPar3, dAug, gIpI, dSeqI, gSeqI, dRngI, gRng1, gRng2, dCB, gAbs, gInt, gMax, gMin, gGcd, gLen, lenD, gIsi, tyM, tyD, dBits, gBits, dMet, gAppend, dPart, dNoPart, dSl, dEnds, gIs, isB, dNever, dFor, dLc, wipeD, dYes,
  sizeLine_eq, Nat.reduceLeDiff, gEq_int, gNe_int, gEq_strs, gNe_strs, gIn_two, gRepr_bl, rs_lst, rs_tup, rs_scr, rs_int, atI_0, atI_1, atI_2, atI_3, atI_4, atI_5, ixN_30, ixN_31, ixN_32, gEq_bl, gNe_bl, decide_eq_true_eq, beq_iff_eq, Bool.not_eq_true', beq_eq_false_iff_ne, decide_eq_false_iff_not, Bool.not_true, Bool.not_false, if_true, if_false, Bool.false_eq_true, ite_true, ite_false, true_and, and_true, ne_eq, Bool.bne_false, Bool.bne_true, reduceCtorEq])
local macro_rules | `(tactic| walk_at "kb") => `(tactic| simp only [kb_NoneType_list, kb_bool_list, kb_int_list, kb_str_list, kb_tuple_list, kb_list_list, kb_dict_list, kb_NoneType_int, kb_bool_int, kb_int_int, kb_str_int, kb_tuple_int, kb_list_int, kb_dict_int, kb_NoneType_bool, kb_bool_bool, kb_int_bool, kb_str_bool, kb_tuple_bool, kb_list_bool, kb_dict_bool, kb_NoneType_tuple, kb_bool_tuple, kb_int_tuple, kb_str_tuple, kb_tuple_tuple, kb_list_tuple, kb_dict_tuple, if_true, if_false, Bool.false_eq_true, ite_true, ite_false, Bool.not_true, Bool.not_false])
/-! ### the side of x + y root m -/
/-! ### the floor -/
end DL
namespace DL
open PySem PySem.Spec PyProof.Rows L2
local macro_rules | `(tactic| walk_at "rd") => `(tactic| simp only [startD, List.map, List.replicate, List.length_cons, List.length_nil, List.append_eq, List.append_nil, List.nil_append, List.cons_append, Nat.reduceSub, Nat.reduceAdd, List.getElem?_cons_zero, List.getElem?_cons_succ, List.set_cons_zero, List.set_cons_succ,
  dC, dVar, dOp, dTru, gTru, tru, dChain, dAnd, dOr, dNot, dAndV, dOrV, dNotV, dIf, dNeg, gNeg, dNil, dCons, dTup, dLst, dOwn, gIx, rBin, gAdd, gCmpI, dCall, dCallK, dSeq, dNext, dDrop, dRet, dRetN, dIfS, dName, dGNil, dGCons, dGTup, dSub, gSetL, dAsg, dPar, dPar3, dAug, gIpI, dSeqI, gSeqI, dRngI, gRng1, gRng2, dCB, gAbs, gInt, gMax, gMin, gGcd, gLen, lenD, gIsi, tyM, tyD, dBits, gBits, dMet, gAppend, dPart, dNoPart, dSl, dEnds, gIs, isB, dNever, dFor, dLc, wipeD, dYes,
  sizeLine_eq, Nat.reduceLeDiff, gEq_int, gNe_int, gEq_strs, gNe_strs, gIn_two, gRepr_bl, rs_lst, rs_tup, rs_scr, rs_int, atI_0, atI_1, atI_2, atI_3, atI_4, atI_5, ixN_30, ixN_31, ixN_32, gEq_bl, gNe_bl, decide_eq_true_eq, beq_iff_eq, Bool.not_eq_true', beq_eq_false_iff_ne, decide_eq_false_iff_not, Bool.not_true, Bool.not_false, if_true, if_false, Bool.false_eq_true, ite_true, ite_false, true_and, and_true, ne_eq, Bool.bne_false, Bool.bne_true, reduceCtorEq])
local macro_rules | `(tactic| walk_at "rh") => `(tactic| simp only [*, startD, List.map, List.replicate, List.length_cons, List.length_nil, List.append_eq, List.append_nil, List.nil_append, List.cons_append, Nat.reduceSub, Nat.reduceAdd, List.getElem?_cons_zero, List.getElem?_cons_succ, List.set_cons_zero, List.set_cons_succ,
  dC, dVar, dOp, dTru, gTru, tru, dChain, dAnd, dOr, dNot, dAndV, dOrV, dNotV, dIf, dNeg, gNeg, dNil, dCons, dTup, dLst, dOwn, gIx, rBin, gAdd, gCmpI, dCall, dCallK, dSeq, dNext, dDrop, dRet, dRetN, dIfS, dName, dGNil, dGCons, dGTup, dSub, gSetL, dAsg, dPar, dPar3, dAug, gIpI, dSeqI, gSeqI, dRngI, gRng1, gRng2, dCB, gAbs, gInt, gMax, gMin, gGcd, gLen, lenD, gIsi, tyM, tyD, dBits, gBits, dMet, gAppend, dPart, dNoPart, dSl, dEnds, gIs, isB, dNever, dFor, dLc, wipeD, dYes,
  sizeLine_eq, Nat.reduceLeDiff, gEq_int, gNe_int, gEq_strs, gNe_strs, gIn_two, gRepr_bl, rs_lst, rs_tup, rs_scr, rs_int, atI_0, atI_1, atI_2, atI_3, atI_4, atI_5, ixN_30, ixN_31, ixN_32, gEq_bl, gNe_bl, decide_eq_true_eq, beq_iff_eq, Bool.not_eq_true', beq_eq_false_iff_ne, decide_eq_false_iff_not, Bool.not_true, Bool.not_false, if_true, if_false, Bool.false_eq_true, ite_true, ite_false, true_and, and_true, ne_eq, Bool.bne_false, Bool.bne_true, reduceCtorEq])
local macro_rules | `(tactic| walk_at "kb") => `(tactic| simp only [kb_NoneType_list, kb_bool_list, kb_int_list, kb_str_list, kb_tuple_list, kb_list_list, kb_dict_list, kb_NoneType_int, kb_bool_int, kb_int_int, kb_str_int, kb_tuple_int, kb_list_int, kb_dict_int, kb_NoneType_bool, kb_bool_bool, kb_int_bool, kb_str_bool, kb_tuple_bool, kb_list_bool, kb_dict_bool, kb_NoneType_tuple, kb_bool_tuple, kb_int_tuple, kb_str_tuple, kb_tuple_tuple, kb_list_tuple, kb_dict_tuple, if_true, if_false, Bool.false_eq_true, ite_true, ite_false, Bool.not_true, Bool.not_false])
/-! ### cuttings -/
/-- a cutting: (a, b, c, e) -/
def isCut (a b c e : Int) : Bool := decide (1 ≤ b) && (decide (1 ≤ c) && (decide (c + e < b) && (decide (0 ≤ a) && (decide (a < (Int.gcd b c : Int)) && (Int.gcd (Int.gcd a (Int.gcd b c : Int) : Int) e : Int) == 1))))
def isCutD (d : D) : Bool := match d with
  | .tup [.int a, .int b, .int c, .int e] => isCut a b c e
  | _ => false
/-- d may be asked: no tuple, or of another length, or of plain data -/
def Askable (n : Nat) (M : Mem) (d : D) : Prop := (∃ T, tyM M d = some T) ∧ (∀ l, d = .tup l → l.length = n → ∀ e ∈ l, (fine 40 e = true ∧ ∃ T, tyM M e = some T))
theorem ask_fine {n : Nat} {d : D} (M : Mem) (h : fine 41 d = true) : Askable n M d := by
  refine ⟨fine_ty M h, ?_⟩
  rintro l rfl h3 e he
  have h' : fineAll 40 l = true := by simpa only [fine] using h
  have := fineAll_iff.mp h' e he
  exact ⟨this, fine_ty M this⟩
abbrev T4 (a b c e : Int) : D := .tup [.int a, .int b, .int c, .int e]
theorem len4 {l : List D} (h : l.length = 4) : ∃ a b c d, l = [a, b, c, d] := by
  match l, h with
  | [a, b, c, d], _ => exact ⟨a, b, c, d, rfl⟩
theorem isCutD_notup {d : D} (h : ∀ l, d ≠ .tup l) : isCutD d = false := by
  cases d <;> first | rfl | exact absurd rfl (h _)
theorem isCutD_len {l : List D} (h : l.length ≠ 4) : isCutD (.tup l) = false := by
  unfold isCutD
  split
  · rename_i e; cases e; exact absurd rfl h
  · rfl
theorem isCutD_bad {l : List D} (h : ∃ e ∈ l, isW e = false) : isCutD (.tup l) = false := by
  unfold isCutD
  split
  · rename_i e
    cases e
    obtain ⟨e, he, hw⟩ := h
    simp only [List.mem_cons, List.not_mem_nil, or_false] at he
    rcases he with rfl | rfl | rfl | rfl <;> cases hw
  · rfl
def sp_is_cutting : DSp := fun ds M Q _ => ∃ d, ds = [d] ∧ Askable 4 M d ∧ Q (.bl (isCutD d)) M
theorem rd_is_cutting_by : ∀ ds M Q, ds.length = 1 → sp_is_cutting ds M Q DX0 → t_is_cutting_by sp_is_whole sp_gcd (dEnds M Q) (startD 7 ds) M := by
  rintro _ M Q - ⟨d, rfl, ⟨⟨T, ht⟩, hr⟩, q⟩
  unfold t_is_cutting_by
  walk_at "rd"
  by_cases htup : ∃ l, d = .tup l
  · obtain ⟨l, rfl⟩ := htup
    walk_at "rd"
    walk_at "kb"
    by_cases h3 : l.length = 4
    · obtain ⟨da, db, dc, de, rfl⟩ := len4 h3
      have hr' := hr _ rfl rfl
      walk_at "rd"
      rw [if_neg (by decide)]
      refine lcW_pure (fun e => if isW e = true then none else some e) trivial (by rw [sizeLine_eq]; exact (by decide : (4 : Nat) ≤ 16777216)) (fun d hd Y N hy => ?_) ?_
      · walk_at "rd"
        obtain ⟨_, T', hT⟩ := hr' d hd
        refine ⟨d, T', rfl, hT, ?_⟩
        by_cases hw : isW d = true
        · simp only [hw, if_true] at hy ⊢
          exact hy
        · rw [Bool.not_eq_true] at hw
          simp only [hw, Bool.false_eq_true, if_false, Bool.not_false, if_true] at hy ⊢
          exact hy
      · refine gNe_nil' (n := 40) (bads_fine fun e he => (hr' e he).1) ?_
        show if (!(bads [da, db, dc, de]).isEmpty) = true then _ else _
        cases hb : (bads [da, db, dc, de]).isEmpty with
        | false =>
          rw [if_pos (by decide)]
          rw [isCutD_bad (bads_some hb)] at q
          exact rtq q
        | true =>
          rw [if_neg (by decide)]
          have hw := bads_nil hb
          obtain ⟨a, rfl⟩ := isW_iff.mp (hw da (by simp))
          obtain ⟨b, rfl⟩ := isW_iff.mp (hw db (by simp))
          obtain ⟨c, rfl⟩ := isW_iff.mp (hw dc (by simp))
          obtain ⟨e, rfl⟩ := isW_iff.mp (hw de (by simp))
          walk_at "rd"
          have fin : ∀ v, v = isCut a b c e → Rtq M Q (.bl v) M := by rintro _ rfl; exact rtq q
          by_cases h1 : b < 1
          · rw [if_pos h1]
            exact fin _ (by unfold isCut; rw [decide_eq_false (show ¬ 1 ≤ b by omega)]; rfl)
          · rw [if_neg h1]
            have e1 := decide_eq_true (show 1 ≤ b by omega)
            by_cases h2 : c < 1
            · rw [if_pos h2]
              exact fin _ (by unfold isCut; rw [e1, decide_eq_false (show ¬ 1 ≤ c by omega)]; rfl)
            · rw [if_neg h2]
              have e2 := decide_eq_true (show 1 ≤ c by omega)
              by_cases h3 : c + e < b
              · rw [if_neg (fun z => z h3)]
                have e3 := decide_eq_true h3
                refine ⟨b, c, rfl, ?_⟩
                dsimp only
                by_cases h4 : 0 ≤ a
                · rw [if_pos h4]
                  have e4 := decide_eq_true h4
                  by_cases h5 : a < (Int.gcd b c : Int)
                  · rw [if_pos h5]
                    have e5 := decide_eq_true h5
                    refine ⟨a, _, rfl, _, e, rfl, ?_⟩
                    dsimp only
                    rw [gEq_int]
                    exact fin _ (by unfold isCut; rw [e1, e2, e3, e4, e5]; rfl)
                  · rw [if_neg h5]
                    exact fin _ (by unfold isCut; rw [e1, e2, e3, e4, decide_eq_false h5]; rfl)
                · rw [if_neg h4, if_neg h4]
                  exact fin _ (by unfold isCut; rw [e1, e2, e3, decide_eq_false h4]; rfl)
              · rw [if_pos h3]
                exact fin _ (by unfold isCut; rw [e1, e2, decide_eq_false h3]; rfl)
    · have h3' : ¬ ((l.length : Nat) : Int) = 4 := by omega
      simp only [h3', not_false_eq_true, if_true]
      rw [isCutD_len h3] at q
      exact rtq q
  · have q' : Q (.bl false) M := by rwa [isCutD_notup fun l e => htup ⟨l, e⟩] at q
    cases d <;> first | exact absurd ⟨_, rfl⟩ htup | (cases ht; done) | skip
    all_goals walk_at "rd"
    case own k =>
      unfold tyM at ht
      dsimp only at ht
      split at ht
      · rename_i ds hk
        simp only [hk]
        walk_at "kb"
        exact rtq q'
      · cases ht
    all_goals walk_at "kb"
    all_goals exact rtq q'
def meas4 (b c e : Int) : Int := e * e + 4 * b * c
def sp_measure_by : DSp := fun ds M Q _ => ∃ a b c e : Int, ds = [T4 a b c e] ∧ Bi 1000 b ∧ Bi 1000 c ∧ Bi 1000 e ∧ Q (.int (meas4 b c e)) M
theorem rd_measure_by : ∀ ds M Q, ds.length = 1 → sp_measure_by ds M Q DX0 → t_measure_by (dEnds M Q) (startD 1 ds) M := by
  rintro _ M Q - ⟨a, b, c, e, rfl, hb, hc, he, q⟩
  unfold t_measure_by
  walk_at "rd"
  have h4 : Bi 3 4 := Bi.of_abs 4 (by decide)
  exact ⟨⟨he.sm, he.sm⟩, ⟨h4.sm, hb.sm⟩, ⟨(h4.mul hb).sm, hc.sm⟩, rtq q⟩
theorem cut_parts {a b c e : Int} (h : isCut a b c e = true) : 1 ≤ b ∧ 1 ≤ c ∧ c + e < b ∧ 0 ≤ a ∧ a < (Int.gcd b c : Int) ∧ (Int.gcd (Int.gcd a (Int.gcd b c : Int) : Int) e : Int) = 1 := by
  simpa only [isCut, Bool.and_eq_true, decide_eq_true_eq, beq_iff_eq] using h
/-- the measure of a cutting is one -/
theorem meas4_ok {a b c e : Int} (h : isCut a b c e = true) : isMeas (.int (meas4 b c e)) = true := by
  obtain ⟨h1, h2, h3, _⟩ := cut_parts h
  have hbc : b * 1 ≤ b * c := Int.mul_le_mul_of_nonneg_left h2 (by omega)
  have he : 0 ≤ e * e := by rcases (by omega : 0 ≤ e ∨ e ≤ 0) with h | h; exact Int.mul_nonneg h h; exact Int.mul_nonneg_of_nonpos_of_nonpos h h
  have hm : meas4 b c e = e * e + 4 * (b * c) := by unfold meas4; rw [Int.mul_assoc]
  have h5 : 5 ≤ e * e + 4 * (b * c) := by
    by_cases z : e = 0
    · omega
    · have : 0 < e * e := by
        rcases (by omega : 0 < e ∨ e < 0) with q | q
        · exact Int.mul_pos q q
        · exact Int.mul_pos_of_neg_of_neg q q
      omega
  have hs : e * e % 4 = 0 ∨ e * e % 4 = 1 := by
    rcases (by omega : e % 2 = 0 ∨ e % 2 = 1) with q | q
    · obtain ⟨t, rfl⟩ : ∃ t, e = 2 * t := ⟨e / 2, by omega⟩
      left
      have : 2 * t * (2 * t) = 4 * (t * t) := by grind
      omega
    · obtain ⟨t, rfl⟩ : ∃ t, e = 2 * t + 1 := ⟨e / 2, by omega⟩
      right
      have : (2 * t + 1) * (2 * t + 1) = 4 * (t * t + t) + 1 := by grind
      omega
  simp only [isMeas, hm, h5, decide_true, Bool.true_and, Bool.or_eq_true, beq_iff_eq]
  omega
theorem gcd4 (a b c e : Int) : (Int.gcd (Int.gcd a b : Int) (Int.gcd c e : Int) : Int) = (Int.gcd (Int.gcd a (Int.gcd b c : Int) : Int) e : Int) := by
  unfold Int.gcd
  simp only [Int.natAbs_natCast, Nat.gcd_assoc]
end DL
/-! MB: what a deed makes of a cutting; plain -/
namespace DL
/-- two ways to write the common divisor differ by a multiple of the other two -/
theorem bez_diff {m n g u v u' v' : Int} (hg : g ≠ 0) (hm : g ∣ m) (hn : g ∣ n) (h : u * m + v * n = g) (h' : u' * m + v' * n = g) : ∃ t, (u - u') * g = t * n ∧ (v - v') * g = -(t * m) := by
  -- t = u v' - u' v
  refine ⟨u * v' - u' * v, ?_, ?_⟩
  · have : (u - u') * g = u * (u' * m + v' * n) - u' * (u * m + v * n) := by rw [h, h']; grind
    rw [this]; grind
  · have : (v - v') * g = v * (u' * m + v' * n) - v' * (u * m + v * n) := by rw [h, h']; grind
    rw [this]; grind
theorem row_diff {p q x z x' z' : Int} (f1 : p * z - q * x = 1) (f1' : p * z' - q * x' = 1) : ∃ s, x - x' = s * p ∧ z - z' = s * q := by
  refine ⟨x * z' - x' * z, ?_, ?_⟩
  · have : x - x' = x * (p * z' - q * x') - x' * (p * z - q * x) := by rw [f1, f1']; omega
    rw [this]; grind
  · have : z - z' = z * (p * z' - q * x') - z' * (p * z - q * x) := by rw [f1, f1']; omega
    rw [this]; grind
/-- (a', w, g, e') is where the deed (p, q) leads from (a, b, c, e) -/
structure IsDone (a b c e p q a' w g e' : Int) : Prop where
  gc : g = (Int.gcd (p * b + q * a) (q * c) : Int)
  wi : w * g = c * (b - q * e - q * q * c)
  tu : e' = 0 - e - 2 * q * c
  lo : 0 ≤ a'
  hi : a' < (Int.gcd w g : Int)
  ex : ∃ u v x z : Int, p * z - q * x = 1 ∧ u * (p * b + q * a) + v * (q * c) = g ∧ (Int.gcd w g : Int) ∣ a' + (u * (x * b + z * a + e + q * c) + v * (z * c))
theorem isDone_unique {a b c e p q a1 w1 g1 e1 a2 w2 g2 e2 : Int} (hg : g1 ≠ 0) (h1 : IsDone a b c e p q a1 w1 g1 e1) (h2 : IsDone a b c e p q a2 w2 g2 e2) : a1 = a2 ∧ w1 = w2 ∧ g1 = g2 ∧ e1 = e2 := by
  have eg : g1 = g2 := h1.gc.trans h2.gc.symm
  subst eg
  have ew : w1 = w2 := Int.eq_of_mul_eq_mul_right hg (h1.wi.trans h2.wi.symm)
  subst ew
  refine ⟨?_, rfl, rfl, h1.tu.trans h2.tu.symm⟩
  obtain ⟨u, v, x, z, f1, f2, f3⟩ := h1.ex
  obtain ⟨u', v', x', z', f1', f2', f3'⟩ := h2.ex
  have dm : g1 ∣ p * b + q * a := by rw [h1.gc]; exact Int.gcd_dvd_left _ _
  have dn : g1 ∣ q * c := by rw [h1.gc]; exact Int.gcd_dvd_right _ _
  obtain ⟨t, t1, t2⟩ := bez_diff hg dm dn f2 f2'
  -- the second rows differ by a multiple of the first
  have hs := row_diff f1 f1'
  obtain ⟨s, s1, s2⟩ := hs
  have hw : w1 * g1 = (p * b + q * a) * (z' * c) - (q * c) * (x' * b + z' * a + e + q * c) := by
    rw [h1.wi]
    have : (p * b + q * a) * (z' * c) - (q * c) * (x' * b + z' * a + e + q * c) = c * (b * (p * z' - q * x') - q * e - q * q * c) := by grind
    rw [this, f1', Int.mul_one]
  -- the difference of the two rests
  have hd : ∃ k, (u * (x * b + z * a + e + q * c) + v * (z * c)) - (u' * (x' * b + z' * a + e + q * c) + v' * (z' * c)) = s * g1 + k * w1 := by
    refine ⟨-t, ?_⟩
    refine Int.eq_of_mul_eq_mul_right hg ?_
    have ex' : x = x' + s * p := by omega
    have ez' : z = z' + s * q := by omega
    have l1 : ((u * (x * b + z * a + e + q * c) + v * (z * c)) - (u' * (x' * b + z' * a + e + q * c) + v' * (z' * c))) = s * (u * (p * b + q * a) + v * (q * c)) + ((u - u') * (x' * b + z' * a + e + q * c) + (v - v') * (z' * c)) := by
      rw [ex', ez']; grind
    rw [l1, f2]
    have l2 : (s * g1 + ((u - u') * (x' * b + z' * a + e + q * c) + (v - v') * (z' * c))) * g1 = s * g1 * g1 + (((u - u') * g1) * (x' * b + z' * a + e + q * c) + ((v - v') * g1) * (z' * c)) := by grind
    rw [l2, t1, t2]
    have l3 : (s * g1 + -t * w1) * g1 = s * g1 * g1 + -t * (w1 * g1) := by grind
    rw [l3, hw]
    grind
  obtain ⟨k, hk⟩ := hd
  have dG : (Int.gcd w1 g1 : Int) ∣ a1 - a2 := by
    have d1 := Int.dvd_sub f3 f3'
    have d2 : (Int.gcd w1 g1 : Int) ∣ s * g1 + k * w1 := Int.dvd_add (Int.dvd_trans (Int.gcd_dvd_right _ _) (Int.dvd_mul_left _ _)) (Int.dvd_trans (Int.gcd_dvd_left _ _) (Int.dvd_mul_left _ _))
    have d3 := Int.dvd_sub d1 d2
    have e3 : a1 + (u * (x * b + z * a + e + q * c) + v * (z * c)) - (a2 + (u' * (x' * b + z' * a + e + q * c) + v' * (z' * c))) - (s * g1 + k * w1) = a1 - a2 := by rw [← hk]; omega
    rwa [e3] at d3
  obtain ⟨j, hj⟩ := dG
  have l1 := h1.lo
  have l2 := h2.lo
  have u1 := h1.hi
  have u2 := h2.hi
  generalize (Int.gcd w1 g1 : Int) = G at *
  by_cases hj0 : j = 0
  · subst hj0; omega
  · exfalso
    rcases (by omega : 1 ≤ j ∨ j ≤ -1) with q | q
    · have : G * 1 ≤ G * j := Int.mul_le_mul_of_nonneg_left q (by omega)
      omega
    · have : G * j ≤ G * (-1) := Int.mul_le_mul_of_nonneg_left q (by omega)
      omega
/-- a concave form is positive between two places where it is -/
theorem between_pos {b c e q s : Int} (hb : 0 < b) (hc : 0 < c) (hq : 0 < q) (hf : 0 < b - q * e - q * q * c) (s0 : 0 ≤ s) (s1 : s ≤ q * c) : 0 < c * b - s * e - s * s := by
  have hqc : 0 < q * c := Int.mul_pos hq hc
  have e1 : q * c * (c * b - s * e - s * s) = (q * c - s) * (c * b) + s * (c * (b - q * e - q * q * c)) + s * ((q * c - s) * (q * c)) := by grind
  have h1 : 0 < c * b := Int.mul_pos hc hb
  have h2 : 0 < c * (b - q * e - q * q * c) := Int.mul_pos hc hf
  have h3 : 0 ≤ s * ((q * c - s) * (q * c)) := Int.mul_nonneg s0 (Int.mul_nonneg (by omega) (by omega))
  have h4 : 0 < (q * c - s) * (c * b) + s * (c * (b - q * e - q * q * c)) := by
    by_cases z : s = 0
    · subst z
      have := Int.mul_pos hqc h1
      simp only [Int.sub_zero, Int.zero_mul, Int.add_zero]
      exact this
    · have h5 : 0 ≤ (q * c - s) * (c * b) := Int.mul_nonneg (by omega) (by omega)
      have h6 : 0 < s * (c * (b - q * e - q * q * c)) := Int.mul_pos (by omega) h2
      omega
  have h7 : 0 < q * c * (c * b - s * e - s * s) := by omega
  by_cases z : 0 < c * b - s * e - s * s
  · exact z
  · have : q * c * (c * b - s * e - s * s) ≤ 0 := Int.mul_nonpos_of_nonneg_of_nonpos (by omega) (by omega)
    omega
/-- where a deed leads, the side is less wide than it must be -/
theorem done_room {b c e q w g : Int} (hb : 0 < b) (hc : 0 < c) (hq : 0 < q) (hg : 0 < g) (hf : 0 < b - q * e - q * q * c) (hd : g ∣ q * c) (hw : w * g = c * (b - q * e - q * q * c)) : 0 < w ∧ g + (0 - e - 2 * q * c) < w := by
  have h2 : 0 < c * (b - q * e - q * q * c) := Int.mul_pos hc hf
  have hle : g ≤ q * c := Int.le_of_dvd (Int.mul_pos hq hc) hd
  have hp := between_pos (s := q * c - g) hb hc hq hf (by omega) (by omega)
  have e1 : c * b - (q * c - g) * e - (q * c - g) * (q * c - g) = w * g - g * (g + (0 - e - 2 * q * c)) := by rw [hw]; grind
  rw [e1] at hp
  refine ⟨?_, ?_⟩
  · by_cases z : 0 < w
    · exact z
    · have : w * g ≤ 0 := Int.mul_nonpos_of_nonpos_of_nonneg (by omega) (by omega)
      omega
  · by_cases z : g + (0 - e - 2 * q * c) < w
    · exact z
    · have h3 : g * w ≤ g * (g + (0 - e - 2 * q * c)) := Int.mul_le_mul_of_nonneg_left (by omega) (by omega)
      have h4 : g * w = w * g := Int.mul_comm _ _
      omega
/-- what divides all of the new cutting divides all of the old one -/
theorem done_dvd {a b c e p q a' w g e' d : Int} (hg : g ≠ 0) (h : IsDone a b c e p q a' w g e') (d1 : d ∣ a') (d2 : d ∣ w) (d3 : d ∣ g) (d4 : d ∣ e') : d ∣ a ∧ d ∣ b ∧ d ∣ c ∧ d ∣ e := by
  obtain ⟨u, v, x, z, f1, f2, f3⟩ := h.ex
  have dm : g ∣ p * b + q * a := by rw [h.gc]; exact Int.gcd_dvd_left _ _
  have dn : g ∣ q * c := by rw [h.gc]; exact Int.gcd_dvd_right _ _
  obtain ⟨m', hm⟩ := dm
  obtain ⟨n', hn⟩ := dn
  have hu : u * m' + v * n' = 1 := by
    have : g * (u * m' + v * n') = g * 1 := by
      have e1 : g * (u * m' + v * n') = u * (g * m') + v * (g * n') := by grind
      rw [e1, ← hm, ← hn, f2, Int.mul_one]
    exact Int.eq_of_mul_eq_mul_left hg this
  generalize hr3 : x * b + z * a + e + q * c = r3 at f3
  generalize hr4 : z * c = r4 at f3
  have hW : w = m' * r4 - n' * r3 := by
    refine Int.eq_of_mul_eq_mul_right hg ?_
    rw [h.wi]
    have e1 : (m' * r4 - n' * r3) * g = (g * m') * r4 - (g * n') * r3 := by grind
    rw [e1, ← hm, ← hn, ← hr3, ← hr4]
    have e2 : (p * b + q * a) * (z * c) - (q * c) * (x * b + z * a + e + q * c) = c * (b * (p * z - q * x) - q * e - q * q * c) := by grind
    rw [e2, f1, Int.mul_one]
  have dR : d ∣ u * r3 + v * r4 := by
    have h1 : d ∣ (Int.gcd w g : Int) := Int.dvd_coe_gcd d2 d3
    have h2 := Int.dvd_sub (Int.dvd_trans h1 f3) d1
    have e1 : a' + (u * r3 + v * r4) - a' = u * r3 + v * r4 := by omega
    rwa [e1] at h2
  generalize hR : u * r3 + v * r4 = R at dR
  have e3 : r3 = m' * R - v * w := by
    have : m' * R - v * w = (u * m' + v * n') * r3 := by rw [← hR, hW]; grind
    rw [this, hu, Int.one_mul]
  have e4 : r4 = n' * R + u * w := by
    have : n' * R + u * w = (u * m' + v * n') * r4 := by rw [← hR, hW]; grind
    rw [this, hu, Int.one_mul]
  have D3 : d ∣ r3 := by rw [e3]; exact Int.dvd_sub (Int.dvd_mul_of_dvd_right dR) (Int.dvd_mul_of_dvd_right d2)
  have D4 : d ∣ r4 := by rw [e4]; exact Int.dvd_add (Int.dvd_mul_of_dvd_right dR) (Int.dvd_mul_of_dvd_right d2)
  have Dm : d ∣ p * b + q * a := by rw [hm]; exact Int.dvd_mul_of_dvd_left d3
  have Dn : d ∣ q * c := by rw [hn]; exact Int.dvd_mul_of_dvd_left d3
  have De : d ∣ e := by
    have h1 : e = 0 - e' - 2 * (q * c) := by have := h.tu; have e1 : 2 * q * c = 2 * (q * c) := Int.mul_assoc _ _ _; omega
    rw [h1, Int.zero_sub]
    exact Int.dvd_sub (Int.dvd_neg.mpr d4) (Int.dvd_mul_of_dvd_right Dn)
  have Dc : d ∣ c := by
    have h1 : c = p * r4 - x * (q * c) := by
      have : p * r4 - x * (q * c) = c * (p * z - q * x) := by rw [← hr4]; grind
      rw [this, f1, Int.mul_one]
    rw [h1]
    exact Int.dvd_sub (Int.dvd_mul_of_dvd_right D4) (Int.dvd_mul_of_dvd_right Dn)
  have Dx : d ∣ x * b + z * a := by
    have h1 : x * b + z * a = r3 - e - q * c := by omega
    rw [h1]
    exact Int.dvd_sub (Int.dvd_sub D3 De) Dn
  refine ⟨?_, ?_, Dc, De⟩
  · have h1 : a = p * (x * b + z * a) - x * (p * b + q * a) := by
      have : p * (x * b + z * a) - x * (p * b + q * a) = a * (p * z - q * x) := by grind
      rw [this, f1, Int.mul_one]
    rw [h1]
    exact Int.dvd_sub (Int.dvd_mul_of_dvd_right Dx) (Int.dvd_mul_of_dvd_right Dm)
  · have h1 : b = z * (p * b + q * a) - q * (x * b + z * a) := by
      have : z * (p * b + q * a) - q * (x * b + z * a) = b * (p * z - q * x) := by grind
      rw [this, f1, Int.mul_one]
    rw [h1]
    exact Int.dvd_sub (Int.dvd_mul_of_dvd_right Dm) (Int.dvd_mul_of_dvd_right Dx)
end DL
namespace DL
open PySem PySem.Spec PyProof.Rows L2
local macro_rules | `(tactic| walk_at "rd") => `(tactic| simp only [startD, List.map, List.replicate, List.length_cons, List.length_nil, List.append_eq, List.append_nil, List.nil_append, List.cons_append, Nat.reduceSub, Nat.reduceAdd, List.getElem?_cons_zero, List.getElem?_cons_succ, List.set_cons_zero, List.set_cons_succ,
  dC, dVar, dOp, dTru, gTru, tru, dChain, dAnd, dOr, dNot, dAndV, dOrV, dNotV, dIf, dNeg, gNeg, dNil, dCons, dTup, dLst, dOwn, gIx, rBin, gAdd, gCmpI, dCall, dCallK, dSeq, dNext, dDrop, dRet, dRetN, dIfS, dName, dGNil, dGCons, dGTup, dSub, gSetL, dAsg, dPar, dPar3, dAug, gIpI, dSeqI, gSeqI, dRngI, gRng1, gRng2, dCB, gAbs, gInt, gMax, gMin, gGcd, gLen, lenD, gIsi, tyM, tyD, dBits, gBits, dMet, gAppend, dPart, dNoPart, dSl, dEnds, gIs, isB, dNever, dFor, dLc, wipeD, dYes,
  sizeLine_eq, Nat.reduceLeDiff, gEq_int, gNe_int, gEq_strs, gNe_strs, gIn_two, gRepr_bl, rs_lst, rs_tup, rs_scr, rs_int, atI_0, atI_1, atI_2, atI_3, atI_4, atI_5, ixN_30, ixN_31, ixN_32, gEq_bl, gNe_bl, decide_eq_true_eq, beq_iff_eq, Bool.not_eq_true', beq_eq_false_iff_ne, decide_eq_false_iff_not, Bool.not_true, Bool.not_false, if_true, if_false, Bool.false_eq_true, ite_true, ite_false, true_and, and_true, ne_eq, Bool.bne_false, Bool.bne_true, reduceCtorEq])
local macro_rules | `(tactic| walk_at "rh") => `(tactic| simp only [*, startD, List.map, List.replicate, List.length_cons, List.length_nil, List.append_eq, List.append_nil, List.nil_append, List.cons_append, Nat.reduceSub, Nat.reduceAdd, List.getElem?_cons_zero, List.getElem?_cons_succ, List.set_cons_zero, List.set_cons_succ,
  dC, dVar, dOp, dTru, gTru, tru, dChain, dAnd, dOr, dNot, dAndV, dOrV, dNotV, dIf, dNeg, gNeg, dNil, dCons, dTup, dLst, dOwn, gIx, rBin, gAdd, gCmpI, dCall, dCallK, dSeq, dNext, dDrop, dRet, dRetN, dIfS, dName, dGNil, dGCons, dGTup, dSub, gSetL, dAsg, dPar, dPar3, dAug, gIpI, dSeqI, gSeqI, dRngI, gRng1, gRng2, dCB, gAbs, gInt, gMax, gMin, gGcd, gLen, lenD, gIsi, tyM, tyD, dBits, gBits, dMet, gAppend, dPart, dNoPart, dSl, dEnds, gIs, isB, dNever, dFor, dLc, wipeD, dYes,
  sizeLine_eq, Nat.reduceLeDiff, gEq_int, gNe_int, gEq_strs, gNe_strs, gIn_two, gRepr_bl, rs_lst, rs_tup, rs_scr, rs_int, atI_0, atI_1, atI_2, atI_3, atI_4, atI_5, ixN_30, ixN_31, ixN_32, gEq_bl, gNe_bl, decide_eq_true_eq, beq_iff_eq, Bool.not_eq_true', beq_eq_false_iff_ne, decide_eq_false_iff_not, Bool.not_true, Bool.not_false, if_true, if_false, Bool.false_eq_true, ite_true, ite_false, true_and, and_true, ne_eq, Bool.bne_false, Bool.bne_true, reduceCtorEq])
local macro_rules | `(tactic| walk_at "kb") => `(tactic| simp only [kb_NoneType_list, kb_bool_list, kb_int_list, kb_str_list, kb_tuple_list, kb_list_list, kb_dict_list, kb_NoneType_int, kb_bool_int, kb_int_int, kb_str_int, kb_tuple_int, kb_list_int, kb_dict_int, kb_NoneType_bool, kb_bool_bool, kb_int_bool, kb_str_bool, kb_tuple_bool, kb_list_bool, kb_dict_bool, kb_NoneType_tuple, kb_bool_tuple, kb_int_tuple, kb_str_tuple, kb_tuple_tuple, kb_list_tuple, kb_dict_tuple, if_true, if_false, Bool.false_eq_true, ite_true, ite_false, Bool.not_true, Bool.not_false])
/-! ### deeds -/
/-- where a deed leads is a cutting of the same measure -/
theorem done_cut {a b c e p q a' w g e' : Int} (h : isCut a b c e = true) (hq : 1 ≤ q) (hf : 0 < b - q * e - q * q * c) (hd : IsDone a b c e p q a' w g e') : isCut a' w g e' = true ∧ meas4 w g e' = meas4 b c e := by
  obtain ⟨h1, h2, h3, h4, h5, h6⟩ := cut_parts h
  have hqc : 0 < q * c := Int.mul_pos (by omega) (by omega)
  have dn : g ∣ q * c := by rw [hd.gc]; exact Int.gcd_dvd_right _ _
  have hg : 0 < g := by
    have := Int.gcd_pos_of_ne_zero_right (p * b + q * a) (show q * c ≠ 0 by omega)
    rw [hd.gc]; omega
  obtain ⟨w0, room⟩ := done_room (by omega : 0 < b) (by omega : 0 < c) (by omega : 0 < q) hg hf dn hd.wi
  have hprim : (Int.gcd (Int.gcd a' (Int.gcd w g : Int) : Int) e' : Int) = 1 := by
    have d0 : (Int.gcd (Int.gcd a' (Int.gcd w g : Int) : Int) e' : Int) ∣ (Int.gcd a' (Int.gcd w g : Int) : Int) := Int.gcd_dvd_left _ _
    have d4 : (Int.gcd (Int.gcd a' (Int.gcd w g : Int) : Int) e' : Int) ∣ e' := Int.gcd_dvd_right _ _
    have d1 := Int.dvd_trans d0 (Int.gcd_dvd_left _ _)
    have d5 := Int.dvd_trans d0 (Int.gcd_dvd_right _ _)
    have d2 := Int.dvd_trans d5 (Int.gcd_dvd_left _ _)
    have d3 := Int.dvd_trans d5 (Int.gcd_dvd_right _ _)
    obtain ⟨k1, k2, k3, k4⟩ := done_dvd (by omega) hd d1 d2 d3 d4
    have k5 : (Int.gcd (Int.gcd a' (Int.gcd w g : Int) : Int) e' : Int) ∣ 1 := by
      rw [← h6]
      exact Int.dvd_coe_gcd (Int.dvd_coe_gcd k1 (Int.dvd_coe_gcd k2 k3)) k4
    have k6 := Int.le_of_dvd (by decide) k5
    have k7 : (Int.gcd (Int.gcd a' (Int.gcd w g : Int) : Int) e' : Int) ≠ 0 := by
      intro z
      rw [z] at k5
      exact absurd (Int.zero_dvd.mp k5) (by decide)
    omega
  refine ⟨?_, ?_⟩
  · unfold isCut
    rw [decide_eq_true (show 1 ≤ w by omega), decide_eq_true (show 1 ≤ g by omega), decide_eq_true (show g + e' < w by have := hd.tu; omega), decide_eq_true hd.lo, decide_eq_true hd.hi, hprim]
    rfl
  · unfold meas4
    rw [hd.tu]
    have e1 : 4 * w * g = 4 * (w * g) := Int.mul_assoc _ _ _
    rw [e1, hd.wi]
    grind
end DL
/-! MC: Euclid's rule with the factors; plain -/
namespace DL
theorem fmod_pos' {a b : Int} (h : 0 < b) : a.fmod b = a % b := Int.fmod_eq_emod_of_nonneg a (Int.le_of_lt h)
/-- the state of the rule: low = f m + t n, high = s m + h n, the sizes bounded -/
structure Euc (m n low high f s t h : Int) : Prop where
  e1 : low = f * m + t * n
  e2 : high = s * m + h * n
  l0 : 0 < low
  h0 : 0 ≤ high
  sg : (0 ≤ f ∧ s ≤ 0 ∧ f * high - s * low = n) ∨ (f ≤ 0 ∧ 0 ≤ s ∧ s * low - f * high = n)
  fb : -n ≤ f ∧ f ≤ n
  gc : (Int.gcd low high : Int) = Int.gcd m n
theorem Euc.sb {m n low high f s t h : Int} (E : Euc m n low high f s t h) : -n ≤ s ∧ s ≤ n := by
  have l0 := E.l0
  rcases E.sg with ⟨a, b, c⟩ | ⟨a, b, c⟩
  · have h1 : 0 ≤ f * high := Int.mul_nonneg a E.h0
    have h2 : (-s) * 1 ≤ (-s) * low := Int.mul_le_mul_of_nonneg_left l0 (by omega)
    have h3 : (-s) * low = -(s * low) := Int.neg_mul _ _
    omega
  · have h1 : 0 ≤ (-f) * high := Int.mul_nonneg (by omega) E.h0
    have h1' : (-f) * high = -(f * high) := Int.neg_mul _ _
    have h2 : s * 1 ≤ s * low := Int.mul_le_mul_of_nonneg_left l0 b
    omega
theorem Euc.step {m n low high f s t h : Int} (E : Euc m n low high f s t h) (hz : high ≠ 0) : Euc m n high (low - low / high * high) s (f - low / high * s) h (t - low / high * h) := by
  have h0 := E.h0
  have hp : 0 < high := by omega
  have k0 : 0 ≤ low / high := Int.ediv_nonneg (Int.le_of_lt E.l0) h0
  have r0 := Int.emod_nonneg low hz
  have rm : low - low / high * high = low % high := by
    have := Int.mul_ediv_add_emod low high
    have e : low / high * high = high * (low / high) := Int.mul_comm _ _
    omega
  refine ⟨E.e2, ?_, hp, by rw [rm]; exact r0, ?_, E.sb, ?_⟩
  · have e1 := E.e1
    have e2 := E.e2
    generalize low / high = k at *
    rw [e1, e2]
    grind
  · have sg := E.sg
    generalize low / high = k at *
    rcases sg with ⟨a, b, c⟩ | ⟨a, b, c⟩
    · right
      have : k * s ≤ 0 := Int.mul_nonpos_of_nonneg_of_nonpos k0 b
      refine ⟨b, by omega, ?_⟩
      rw [← c]; grind
    · left
      have : 0 ≤ k * s := Int.mul_nonneg k0 b
      refine ⟨b, by omega, ?_⟩
      rw [← c]; grind
  · rw [rm, ← E.gc, ← fmod_pos' hp]
    exact congrArg _ (gcd_step (Int.le_of_lt E.l0) hp)
theorem gcd_emod' (m n : Int) : (Int.gcd n (m % n) : Int) = Int.gcd m n := by
  have h := Int.mul_ediv_add_emod m n
  refine congrArg _ (Nat.dvd_antisymm ?_ ?_)
  · refine Int.natCast_dvd_natCast.mp (Int.dvd_coe_gcd ?_ (Int.gcd_dvd_left _ _))
    have h1 : (Int.gcd n (m % n) : Int) ∣ n * (m / n) + m % n := Int.dvd_add (Int.dvd_mul_of_dvd_left (Int.gcd_dvd_left _ _)) (Int.gcd_dvd_right _ _)
    rwa [h] at h1
  · refine Int.natCast_dvd_natCast.mp (Int.dvd_coe_gcd (Int.gcd_dvd_right _ _) ?_)
    have e : m % n = m - n * (m / n) := by omega
    rw [e]
    exact Int.dvd_sub (Int.gcd_dvd_left _ _) (Int.dvd_mul_of_dvd_left (Int.gcd_dvd_right _ _))
/-- behind the first turn -/
theorem Euc.first {m n : Int} (hn : 0 < n) : Euc m n n (m - m / n * n) 0 (1 - m / n * 0) 1 (0 - m / n * 1) := by
  have hm := Int.mul_ediv_add_emod m n
  have e : m / n * n = n * (m / n) := Int.mul_comm _ _
  have rm : m - m / n * n = m % n := by omega
  refine ⟨by omega, ?_, hn, by rw [rm]; exact Int.emod_nonneg _ (by omega), ?_, by omega, ?_⟩
  · rw [Int.mul_zero, Int.mul_one, Int.sub_zero, Int.one_mul, Int.zero_sub, Int.neg_mul]; omega
  · right
    rw [Int.mul_zero, Int.sub_zero, Int.one_mul, Int.zero_mul]
    omega
  · rw [rm]; exact gcd_emod' m n
/-- the other factors are bounded too -/
theorem Euc.tb {m n low high f s t h : Int} (hn : 0 < n) (E : Euc m n low high f s t h) (hl : low ≤ n) (hh : high ≤ n) : t.natAbs ≤ m.natAbs + 1 ∧ h.natAbs ≤ m.natAbs + 1 := by
  have key : ∀ x y z : Int, 0 ≤ x → x ≤ n → x = y * m + z * n → -n ≤ y → y ≤ n → z.natAbs ≤ m.natAbs + 1 := by
    intro x y z x0 x1 e y0 y1
    have h1 : z * n = x - y * m := by omega
    have h2 : z.natAbs * n.natAbs ≤ (m.natAbs + 1) * n.natAbs := by
      rw [← Int.natAbs_mul, h1]
      have h3 : (x - y * m).natAbs ≤ x.natAbs + (y * m).natAbs := by omega
      have h4 : (y * m).natAbs ≤ n.natAbs * m.natAbs := by rw [Int.natAbs_mul]; exact Nat.mul_le_mul_right _ (by omega)
      have h5 : (m.natAbs + 1) * n.natAbs = n.natAbs * m.natAbs + n.natAbs := by rw [Nat.add_mul, Nat.one_mul, Nat.mul_comm]
      omega
    exact Nat.le_of_mul_le_mul_right h2 (by omega)
  exact ⟨key low f t (Int.le_of_lt E.l0) hl E.e1 E.fb.1 E.fb.2, key high s h E.h0 hh E.e2 E.sb.1 E.sb.2⟩
end DL
namespace DL
open PySem PySem.Spec PyProof.Rows L2
local macro_rules | `(tactic| walk_at "rd") => `(tactic| simp only [startD, List.map, List.replicate, List.length_cons, List.length_nil, List.append_eq, List.append_nil, List.nil_append, List.cons_append, Nat.reduceSub, Nat.reduceAdd, List.getElem?_cons_zero, List.getElem?_cons_succ, List.set_cons_zero, List.set_cons_succ,
  dC, dVar, dOp, dTru, gTru, tru, dChain, dAnd, dOr, dNot, dAndV, dOrV, dNotV, dIf, dNeg, gNeg, dNil, dCons, dTup, dLst, dOwn, gIx, rBin, gAdd, gCmpI, dCall, dCallK, dSeq, dNext, dDrop, dRet, dRetN, dIfS, dName, dGNil, dGCons, dGTup, dSub, gSetL, dAsg, dPar, dPar3, dAug, gIpI, dSeqI, gSeqI, dRngI, gRng1, gRng2, dCB, gAbs, gInt, gMax, gMin, gGcd, gLen, lenD, gIsi, tyM, tyD, dBits, gBits, dMet, gAppend, dPart, dNoPart, dSl, dEnds, gIs, isB, dNever, dFor, dLc, wipeD, dYes,
  sizeLine_eq, Nat.reduceLeDiff, gEq_int, gNe_int, gEq_strs, gNe_strs, gIn_two, gRepr_bl, rs_lst, rs_tup, rs_scr, rs_int, atI_0, atI_1, atI_2, atI_3, atI_4, atI_5, ixN_30, ixN_31, ixN_32, gEq_bl, gNe_bl, decide_eq_true_eq, beq_iff_eq, Bool.not_eq_true', beq_eq_false_iff_ne, decide_eq_false_iff_not, Bool.not_true, Bool.not_false, if_true, if_false, Bool.false_eq_true, ite_true, ite_false, true_and, and_true, ne_eq, Bool.bne_false, Bool.bne_true, reduceCtorEq])
local macro_rules | `(tactic| walk_at "rh") => `(tactic| simp only [*, startD, List.map, List.replicate, List.length_cons, List.length_nil, List.append_eq, List.append_nil, List.nil_append, List.cons_append, Nat.reduceSub, Nat.reduceAdd, List.getElem?_cons_zero, List.getElem?_cons_succ, List.set_cons_zero, List.set_cons_succ,
  dC, dVar, dOp, dTru, gTru, tru, dChain, dAnd, dOr, dNot, dAndV, dOrV, dNotV, dIf, dNeg, gNeg, dNil, dCons, dTup, dLst, dOwn, gIx, rBin, gAdd, gCmpI, dCall, dCallK, dSeq, dNext, dDrop, dRet, dRetN, dIfS, dName, dGNil, dGCons, dGTup, dSub, gSetL, dAsg, dPar, dPar3, dAug, gIpI, dSeqI, gSeqI, dRngI, gRng1, gRng2, dCB, gAbs, gInt, gMax, gMin, gGcd, gLen, lenD, gIsi, tyM, tyD, dBits, gBits, dMet, gAppend, dPart, dNoPart, dSl, dEnds, gIs, isB, dNever, dFor, dLc, wipeD, dYes,
  sizeLine_eq, Nat.reduceLeDiff, gEq_int, gNe_int, gEq_strs, gNe_strs, gIn_two, gRepr_bl, rs_lst, rs_tup, rs_scr, rs_int, atI_0, atI_1, atI_2, atI_3, atI_4, atI_5, ixN_30, ixN_31, ixN_32, gEq_bl, gNe_bl, decide_eq_true_eq, beq_iff_eq, Bool.not_eq_true', beq_eq_false_iff_ne, decide_eq_false_iff_not, Bool.not_true, Bool.not_false, if_true, if_false, Bool.false_eq_true, ite_true, ite_false, true_and, and_true, ne_eq, Bool.bne_false, Bool.bne_true, reduceCtorEq])
local macro_rules | `(tactic| walk_at "kb") => `(tactic| simp only [kb_NoneType_list, kb_bool_list, kb_int_list, kb_str_list, kb_tuple_list, kb_list_list, kb_dict_list, kb_NoneType_int, kb_bool_int, kb_int_int, kb_str_int, kb_tuple_int, kb_list_int, kb_dict_int, kb_NoneType_bool, kb_bool_bool, kb_int_bool, kb_str_bool, kb_tuple_bool, kb_list_bool, kb_dict_bool, kb_NoneType_tuple, kb_bool_tuple, kb_int_tuple, kb_str_tuple, kb_tuple_tuple, kb_list_tuple, kb_dict_tuple, if_true, if_false, Bool.false_eq_true, ite_true, ite_false, Bool.not_true, Bool.not_false])
/-! ### the common divisor with its two factors -/
/-- ds = two ints, not both 0: any two factors will do -/
def sp_shared : DSp := fun ds M Q _ => ∃ m n : Int, ds = [.int m, .int n] ∧ 0 < n ∧ Bi 2000 m ∧ Bi 2000 n ∧ ∀ u v, u * m + v * n = (Int.gcd m n : Int) → Bi 4100 u → Bi 4100 v → Q (.tup [.int (Int.gcd m n), .int u, .int v]) M
theorem rd_shared : ∀ ds M Q, ds.length = 2 → sp_shared ds M Q DX0 → t_shared (dEnds M Q) (startD 9 ds) M := by
  rintro _ M Q - ⟨m, n, rfl, n0, bm, bn, q⟩
  unfold t_shared
  walk_at "rd"
  have sN : ∀ {x : Int}, Bi 4100 x → Sm x := fun h => h.sm
  have bound : ∀ {x : Int}, -n ≤ x → x ≤ n → Bi 4100 x := by
    intro x h1 h2
    have h3 : Bi 4100 n := bn.mono
    unfold Bi at h3 ⊢
    omega
  have bound2 : ∀ {x : Int}, x.natAbs ≤ m.natAbs + 1 → Bi 4100 x := by
    intro x h1
    have h3 : Bi 2001 m := bm.mono
    have h4 : Bi 2002 x := by
      unfold Bi at h3 bm ⊢
      rw [Nat.pow_succ 2 2001]
      have : 0 < 2 ^ 2001 := Nat.pow_pos (by decide)
      omega
    exact h4.mono
  refine dwhile_of (fun k r M' => ∃ low high f s t h : Int, ∃ tn, r = [some (.int m), some (.int n), some (.int low), some (.int high), some (.int f), some (.int s), some (.int t), some (.int h), tn] ∧ M' = M ∧ k = high.toNat ∧ ((low = m ∧ high = n ∧ f = 1 ∧ s = 0 ∧ t = 0 ∧ h = 1) ∨ (Euc m n low high f s t h ∧ low ≤ n ∧ high ≤ n))) _ ⟨m, n, 1, 0, 0, 1, none, rfl, rfl, rfl, .inl ⟨rfl, rfl, rfl, rfl, rfl, rfl⟩⟩ ?_
  rintro k r M' ⟨low, high, f, s, t, h, tn, rfl, rfl, rfl, hh⟩
  walk_at "rd"
  have hpos : high ≠ 0 → 0 < high := by
    intro z
    rcases hh with ⟨_, rfl, _⟩ | ⟨E, _⟩
    · exact n0
    · have := E.h0; omega
  have next : high ≠ 0 → (Euc m n high (low - low / high * high) s (f - low / high * s) h (t - low / high * h) ∧ high ≤ n ∧ low - low / high * high < high ∧ 0 ≤ low - low / high * high) := by
    intro z
    have hp := hpos z
    have rm : low - low / high * high = low % high := by
      have := Int.mul_ediv_add_emod low high
      have e : low / high * high = high * (low / high) := Int.mul_comm _ _
      omega
    have r1 := Int.emod_lt_of_pos low hp
    have r0 := Int.emod_nonneg low z
    rcases hh with ⟨rfl, rfl, rfl, rfl, rfl, rfl⟩ | ⟨E, h1, h2⟩
    · exact ⟨Euc.first n0, Int.le_refl _, by omega, by omega⟩
    · exact ⟨E.step z, h2, by omega, by omega⟩
  by_cases z : high = 0
  · subst z
    rw [if_neg (fun w => w rfl)]
    rcases hh with ⟨_, z, _⟩ | ⟨E, h1, h2⟩
    · omega
    · have eg : low = (Int.gcd m n : Int) := by
        have := E.gc
        rw [← this, gcd_end (Int.le_of_lt E.l0)]
      have l0 := E.l0
      rw [if_pos l0]
      rw [eg]
      have tb := E.tb n0 h1 h2
      exact rtq (q f t (by rw [← eg]; exact E.e1.symm) (bound E.fb.1 E.fb.2) (bound2 tb.1))
  · rw [if_pos z]
    have hp := hpos z
    obtain ⟨E, h1, h2, h3⟩ := next z
    have ef : low.fdiv high = low / high := fdiv_pos hp
    rw [ef]
    have bl : Bi 4100 low ∧ Bi 4100 high ∧ Bi 4100 s ∧ Bi 4100 h := by
      rcases hh with ⟨rfl, rfl, rfl, rfl, rfl, rfl⟩ | ⟨E, h1, h2⟩
      · exact ⟨bm.mono, bn.mono, Bi.of_abs 0 (by decide) (Nat.pow_pos (by decide)), bound2 (by omega)⟩
      · have tb := E.tb n0 h1 h2
        have l0 := E.l0
        have h0 := E.h0
        exact ⟨bound (by omega) h1, bound (by omega) h2, bound E.sb.1 E.sb.2, bound2 tb.2⟩
    obtain ⟨b1, b2, b3, b4⟩ := bl
    have bk : Bi 4100 (low / high) := Nat.lt_of_le_of_lt (Int.natAbs_ediv_le_natAbs _ _) b1
    refine ⟨⟨z, Nat.lt_of_lt_of_le (log2_of 4100 b2 (by decide)) (by decide)⟩, ⟨bk.sm, b2.sm⟩, ⟨bk.sm, b3.sm⟩, ⟨bk.sm, b4.sm⟩, _, ?_, _, _, _, _, _, _, _, rfl, rfl, .inr ⟨E, h1, by omega⟩⟩
    omega
end DL
namespace DL
open PySem PySem.Spec PyProof.Rows L2
local macro_rules | `(tactic| walk_at "rd") => `(tactic| simp only [startD, List.map, List.replicate, List.length_cons, List.length_nil, List.append_eq, List.append_nil, List.nil_append, List.cons_append, Nat.reduceSub, Nat.reduceAdd, List.getElem?_cons_zero, List.getElem?_cons_succ, List.set_cons_zero, List.set_cons_succ,
  dC, dVar, dOp, dTru, gTru, tru, dChain, dAnd, dOr, dNot, dAndV, dOrV, dNotV, dIf, dNeg, gNeg, dNil, dCons, dTup, dLst, dOwn, gIx, rBin, gAdd, gCmpI, dCall, dCallK, dSeq, dNext, dDrop, dRet, dRetN, dIfS, dName, dGNil, dGCons, dGTup, dSub, gSetL, dAsg, dPar, dPar3, dAug, gIpI, dSeqI, gSeqI, dRngI, gRng1, gRng2, dCB, gAbs, gInt, gMax, gMin, gGcd, gLen, lenD, gIsi, tyM, tyD, dBits, gBits, dMet, gAppend, dPart, dNoPart, dSl, dEnds, gIs, isB, dNever, dFor, dLc, wipeD, dYes,
  sizeLine_eq, Nat.reduceLeDiff, gEq_int, gNe_int, gEq_strs, gNe_strs, gIn_two, gRepr_bl, rs_lst, rs_tup, rs_scr, rs_int, atI_0, atI_1, atI_2, atI_3, atI_4, atI_5, ixN_30, ixN_31, ixN_32, gEq_bl, gNe_bl, decide_eq_true_eq, beq_iff_eq, Bool.not_eq_true', beq_eq_false_iff_ne, decide_eq_false_iff_not, Bool.not_true, Bool.not_false, if_true, if_false, Bool.false_eq_true, ite_true, ite_false, true_and, and_true, ne_eq, Bool.bne_false, Bool.bne_true, reduceCtorEq])
local macro_rules | `(tactic| walk_at "rh") => `(tactic| simp only [*, startD, List.map, List.replicate, List.length_cons, List.length_nil, List.append_eq, List.append_nil, List.nil_append, List.cons_append, Nat.reduceSub, Nat.reduceAdd, List.getElem?_cons_zero, List.getElem?_cons_succ, List.set_cons_zero, List.set_cons_succ,
  dC, dVar, dOp, dTru, gTru, tru, dChain, dAnd, dOr, dNot, dAndV, dOrV, dNotV, dIf, dNeg, gNeg, dNil, dCons, dTup, dLst, dOwn, gIx, rBin, gAdd, gCmpI, dCall, dCallK, dSeq, dNext, dDrop, dRet, dRetN, dIfS, dName, dGNil, dGCons, dGTup, dSub, gSetL, dAsg, dPar, dPar3, dAug, gIpI, dSeqI, gSeqI, dRngI, gRng1, gRng2, dCB, gAbs, gInt, gMax, gMin, gGcd, gLen, lenD, gIsi, tyM, tyD, dBits, gBits, dMet, gAppend, dPart, dNoPart, dSl, dEnds, gIs, isB, dNever, dFor, dLc, wipeD, dYes,
  sizeLine_eq, Nat.reduceLeDiff, gEq_int, gNe_int, gEq_strs, gNe_strs, gIn_two, gRepr_bl, rs_lst, rs_tup, rs_scr, rs_int, atI_0, atI_1, atI_2, atI_3, atI_4, atI_5, ixN_30, ixN_31, ixN_32, gEq_bl, gNe_bl, decide_eq_true_eq, beq_iff_eq, Bool.not_eq_true', beq_eq_false_iff_ne, decide_eq_false_iff_not, Bool.not_true, Bool.not_false, if_true, if_false, Bool.false_eq_true, ite_true, ite_false, true_and, and_true, ne_eq, Bool.bne_false, Bool.bne_true, reduceCtorEq])
local macro_rules | `(tactic| walk_at "kb") => `(tactic| simp only [kb_NoneType_list, kb_bool_list, kb_int_list, kb_str_list, kb_tuple_list, kb_list_list, kb_dict_list, kb_NoneType_int, kb_bool_int, kb_int_int, kb_str_int, kb_tuple_int, kb_list_int, kb_dict_int, kb_NoneType_bool, kb_bool_bool, kb_int_bool, kb_str_bool, kb_tuple_bool, kb_list_bool, kb_dict_bool, kb_NoneType_tuple, kb_bool_tuple, kb_int_tuple, kb_str_tuple, kb_tuple_tuple, kb_list_tuple, kb_dict_tuple, if_true, if_false, Bool.false_eq_true, ite_true, ite_false, Bool.not_true, Bool.not_false])
def sp_opposite_by : DSp := fun ds M Q _ => ∃ x k : Int, ds = [.int x, .int k] ∧ 0 < k ∧ Bi 1900 k ∧ ∀ r, 0 ≤ r → r < k → k ∣ r * x - (Int.gcd x k : Int) → Q (.int r) M
theorem rd_opposite_by : ∀ ds M Q, ds.length = 2 → sp_opposite_by ds M Q DX0 → t_opposite_by sp_shared (dEnds M Q) (startD 2 ds) M := by
  rintro _ M Q - ⟨x, k, rfl, k0, bk, q⟩
  unfold t_opposite_by
  walk_at "rd"
  have hx := fm_range (a := x) k0
  have bx : Bi 2000 (x.fmod k) := by
    have h3 : Bi 2000 k := bk.mono
    unfold Bi at h3 ⊢
    omega
  refine ⟨(show k ≠ 0 by omega), x.fmod k, k, rfl, k0, bx, bk.mono, fun u v e _ _ => ?_⟩
  walk_at "rd"
  refine ⟨(show k ≠ 0 by omega), rtq (q _ (fm_range k0).1 (fm_range k0).2 ?_)⟩
  have eg : (Int.gcd (x.fmod k) k : Int) = Int.gcd x k := by
    rw [fmod_pos k0, Int.gcd_comm, gcd_emod']
  rw [eg] at e
  rw [fmod_pos k0] at e ⊢
  have m1 := Int.mul_ediv_add_emod x k
  have m2 := Int.mul_ediv_add_emod u k
  generalize u / k = i at m2
  generalize u % k = r at m2 ⊢
  generalize x / k = j at m1
  generalize x % k = y at m1 e
  refine ⟨r * j - i * y - v, ?_⟩
  rw [← e, ← m1, ← m2]
  grind
/-- ds = a deed: any row that goes with it will do -/
def sp_beside : DSp := fun ds M Q _ => ∃ p q : Int, ds = [.tup [.int p, .int q]] ∧ 1 ≤ q ∧ Int.gcd p q = 1 ∧ Bi 1900 p ∧ Bi 1900 q ∧ ∀ x z, p * z - q * x = 1 → 0 ≤ z → z ≤ q → Q (.tup [.int x, .int z]) M
theorem rd_beside : ∀ ds M Q, ds.length = 1 → sp_beside ds M Q DX0 → t_beside sp_opposite_by (dEnds M Q) (startD 4 ds) M := by
  rintro _ M Q - ⟨p, q, rfl, q1, hg, bp, bq, h⟩
  unfold t_beside
  walk_at "rd"
  have fin : ∀ z, 0 ≤ z → z ≤ q → q ∣ p * z - 1 → CDiv (p * z - 1) q ∧ Rtq M Q (.tup [.int ((p * z - 1).fdiv q), .int z]) M := by
    intro z z0 z1 ⟨t, ht⟩
    refine ⟨⟨by omega, Nat.lt_of_lt_of_le (log2_of 1900 bq (by decide)) (by decide)⟩, ?_⟩
    have e : (p * z - 1).fdiv q = t := by rw [ht]; exact Int.mul_fdiv_cancel_left _ (by omega)
    rw [e]
    exact rtq (h t z (by omega) z0 z1)
  have bz : ∀ z : Int, 0 ≤ z → z ≤ q → Sm z := by
    intro z z0 z1
    have : Bi 1900 z := by unfold Bi at bq ⊢; omega
    exact this.sm
  by_cases hq : 1 < q
  · rw [if_pos hq]
    refine ⟨p, q, rfl, by omega, bq, fun r r0 r1 hd => ?_⟩
    rw [hg] at hd
    dsimp only
    refine ⟨⟨bp.sm, bz r r0 (by omega)⟩, fin r r0 (by omega) ?_⟩
    rw [Int.mul_comm p r]
    exact hd
  · rw [if_neg hq]
    have e : q = 1 := by omega
    subst e
    refine ⟨⟨bp.sm, bz 0 (by omega) (by omega)⟩, fin 0 (by omega) (by omega) ?_⟩
    exact Int.one_dvd _
theorem row_bound {p q x z : Int} (hq : 1 ≤ q) (h : p * z - q * x = 1) (z0 : 0 ≤ z) (z1 : z ≤ q) : x.natAbs ≤ p.natAbs + 1 := by
  have h1 : q * x = p * z - 1 := by omega
  have h2 : q.natAbs * x.natAbs ≤ q.natAbs * (p.natAbs + 1) := by
    rw [← Int.natAbs_mul, h1]
    have h3 : (p * z - 1).natAbs ≤ (p * z).natAbs + 1 := by omega
    have h4 : (p * z).natAbs ≤ q.natAbs * p.natAbs := by rw [Int.natAbs_mul, Nat.mul_comm]; exact Nat.mul_le_mul_right _ (by omega)
    have h5 : q.natAbs * (p.natAbs + 1) = q.natAbs * p.natAbs + q.natAbs := by rw [Nat.mul_add, Nat.mul_one]
    omega
  exact Nat.le_of_mul_le_mul_left h2 (by omega)
/-- the two rows of a deed's table -/
def sp_table_by : DSp := fun ds M Q _ => ∃ a b c e p q : Int, ds = [T4 a b c e, .tup [.int p, .int q]] ∧ 1 ≤ q ∧ Int.gcd p q = 1 ∧ (Bi 450 a ∧ Bi 450 b ∧ Bi 450 c ∧ Bi 450 e) ∧ Bi 450 p ∧ Bi 450 q ∧
  ∀ x z, p * z - q * x = 1 → 0 ≤ z → z ≤ q → Q (.tup [T4 (p * b + q * a) (q * c) (x * b + z * a + e + q * c) (z * c), .int x, .int z]) M
theorem rd_table_by : ∀ ds M Q, ds.length = 2 → sp_table_by ds M Q DX0 → t_table_by sp_beside (dEnds M Q) (startD 11 ds) M := by
  rintro _ M Q - ⟨a, b, c, e, p, q, rfl, q1, hg, ⟨ba, bb, bc, be⟩, bp, bq, h⟩
  unfold t_table_by
  walk_at "rd"
  refine ⟨p, q, rfl, q1, hg, bp.mono, bq.mono, fun x z hxz z0 z1 => ?_⟩
  have bx : Bi 451 x := by
    have := row_bound q1 hxz z0 z1
    unfold Bi at bp ⊢
    rw [Nat.pow_succ]
    have : 0 < 2 ^ 450 := Nat.pow_pos (by decide)
    omega
  have bz : Bi 450 z := by unfold Bi at bq ⊢; omega
  walk_at "rd"
  exact ⟨⟨bx.sm, bb.sm⟩, ⟨bz.sm, ba.sm⟩, ⟨bq.sm, bc.sm⟩, ⟨bp.sm, bb.sm⟩, ⟨bq.sm, ba.sm⟩, ⟨bq.sm, bc.sm⟩, ⟨bz.sm, bc.sm⟩, rtq (h x z hxz z0 z1)⟩
end DL
namespace DL
open PySem PySem.Spec PyProof.Rows L2
local macro_rules | `(tactic| walk_at "rd") => `(tactic| simp only [startD, List.map, List.replicate, List.length_cons, List.length_nil, List.append_eq, List.append_nil, List.nil_append, List.cons_append, Nat.reduceSub, Nat.reduceAdd, List.getElem?_cons_zero, List.getElem?_cons_succ, List.set_cons_zero, List.set_cons_succ,
  dC, dVar, dOp, dTru, gTru, tru, dChain, dAnd, dOr, dNot, dAndV, dOrV, dNotV, dIf, dNeg, gNeg, dNil, dCons, dTup, dLst, dOwn, gIx, rBin, gAdd, gCmpI, dCall, dCallK, dSeq, dNext, dDrop, dRet, dRetN, dIfS, dName, dGNil, dGCons, dGTup, dSub, gSetL, dAsg, dPar, dPar3, dAug, gIpI, dSeqI, gSeqI, dRngI, gRng1, gRng2, dCB, gAbs, gInt, gMax, gMin, gGcd, gLen, lenD, gIsi, tyM, tyD, dBits, gBits, dMet, gAppend, dPart, dNoPart, dSl, dEnds, gIs, isB, dNever, dFor, dLc, wipeD, dYes,
  sizeLine_eq, Nat.reduceLeDiff, gEq_int, gNe_int, gEq_strs, gNe_strs, gIn_two, gRepr_bl, rs_lst, rs_tup, rs_scr, rs_int, atI_0, atI_1, atI_2, atI_3, atI_4, atI_5, ixN_30, ixN_31, ixN_32, gEq_bl, gNe_bl, decide_eq_true_eq, beq_iff_eq, Bool.not_eq_true', beq_eq_false_iff_ne, decide_eq_false_iff_not, Bool.not_true, Bool.not_false, if_true, if_false, Bool.false_eq_true, ite_true, ite_false, true_and, and_true, ne_eq, Bool.bne_false, Bool.bne_true, reduceCtorEq])
local macro_rules | `(tactic| walk_at "rh") => `(tactic| simp only [*, startD, List.map, List.replicate, List.length_cons, List.length_nil, List.append_eq, List.append_nil, List.nil_append, List.cons_append, Nat.reduceSub, Nat.reduceAdd, List.getElem?_cons_zero, List.getElem?_cons_succ, List.set_cons_zero, List.set_cons_succ,
  dC, dVar, dOp, dTru, gTru, tru, dChain, dAnd, dOr, dNot, dAndV, dOrV, dNotV, dIf, dNeg, gNeg, dNil, dCons, dTup, dLst, dOwn, gIx, rBin, gAdd, gCmpI, dCall, dCallK, dSeq, dNext, dDrop, dRet, dRetN, dIfS, dName, dGNil, dGCons, dGTup, dSub, gSetL, dAsg, dPar, dPar3, dAug, gIpI, dSeqI, gSeqI, dRngI, gRng1, gRng2, dCB, gAbs, gInt, gMax, gMin, gGcd, gLen, lenD, gIsi, tyM, tyD, dBits, gBits, dMet, gAppend, dPart, dNoPart, dSl, dEnds, gIs, isB, dNever, dFor, dLc, wipeD, dYes,
  sizeLine_eq, Nat.reduceLeDiff, gEq_int, gNe_int, gEq_strs, gNe_strs, gIn_two, gRepr_bl, rs_lst, rs_tup, rs_scr, rs_int, atI_0, atI_1, atI_2, atI_3, atI_4, atI_5, ixN_30, ixN_31, ixN_32, gEq_bl, gNe_bl, decide_eq_true_eq, beq_iff_eq, Bool.not_eq_true', beq_eq_false_iff_ne, decide_eq_false_iff_not, Bool.not_true, Bool.not_false, if_true, if_false, Bool.false_eq_true, ite_true, ite_false, true_and, and_true, ne_eq, Bool.bne_false, Bool.bne_true, reduceCtorEq])
local macro_rules | `(tactic| walk_at "kb") => `(tactic| simp only [kb_NoneType_list, kb_bool_list, kb_int_list, kb_str_list, kb_tuple_list, kb_list_list, kb_dict_list, kb_NoneType_int, kb_bool_int, kb_int_int, kb_str_int, kb_tuple_int, kb_list_int, kb_dict_int, kb_NoneType_bool, kb_bool_bool, kb_int_bool, kb_str_bool, kb_tuple_bool, kb_list_bool, kb_dict_bool, kb_NoneType_tuple, kb_bool_tuple, kb_int_tuple, kb_str_tuple, kb_tuple_tuple, kb_list_tuple, kb_dict_tuple, if_true, if_false, Bool.false_eq_true, ite_true, ite_false, Bool.not_true, Bool.not_false])
/-! ### all that a deed makes -/
structure Full (a b c e p q a' w g e' x z f s t m n : Int) : Prop where
  dn : IsDone a b c e p q a' w g e'
  row : p * z - q * x = 1
  z0 : 0 ≤ z
  z1 : z ≤ q
  g0 : 0 < g
  im : p * b + q * a = g * m
  jn : q * c = g * n
  bz : f * (p * b + q * a) + s * (q * c) = g
  tr : -(f * (x * b + z * a + e + q * c) + s * (z * c)) = a' + t * g
theorem gcd_quot {w g G w' lot : Int} (hG : (Int.gcd w g : Int) = G) (h0 : 0 < G) (hw : w = G * w') (hg : g = G * lot) : (Int.gcd w' lot : Int) = 1 := by
  have h1 : G * (Int.gcd w' lot : Int) ∣ G := by
    have d1 : G * (Int.gcd w' lot : Int) ∣ w := by rw [hw]; exact Int.mul_dvd_mul_left _ (Int.gcd_dvd_left _ _)
    have d2 : G * (Int.gcd w' lot : Int) ∣ g := by rw [hg]; exact Int.mul_dvd_mul_left _ (Int.gcd_dvd_right _ _)
    have := Int.dvd_coe_gcd d1 d2
    rwa [hG] at this
  have h2 : G * (Int.gcd w' lot : Int) ∣ G * 1 := by rw [Int.mul_one]; exact h1
  have h3 : (Int.gcd w' lot : Int) ∣ 1 := Int.dvd_of_mul_dvd_mul_left (by omega) h2
  have h4 := Int.le_of_dvd (by decide) h3
  have h5 : (Int.gcd w' lot : Int) ≠ 0 := by
    intro z
    rw [z] at h3
    exact absurd (Int.zero_dvd.mp h3) (by decide)
  omega
/-- the turn by which the found rest becomes the told one -/
theorem turn_ok {w G w' lot found slant turn : Int} (hG : 0 < G) (hl : 0 < lot) (hw : w = G * w') (hs : slant = found % G)
    (ht : (lot = 1 ∧ turn = 0) ∨ ∃ r, lot ∣ r * w' - 1 ∧ turn = ((slant - found) / G * r) % lot) : ∃ t, found + turn * w = slant + t * (G * lot) := by
  have hm := Int.mul_ediv_add_emod found G
  rcases ht with ⟨rfl, rfl⟩ | ⟨r, ⟨y, hy⟩, rfl⟩
  · refine ⟨found / G, ?_⟩
    rw [hs, Int.mul_one, Int.zero_mul, Int.add_zero, Int.mul_comm (found / G) G]
    omega
  · have e1 : slant - found = G * (-(found / G)) := by rw [hs, Int.mul_neg]; omega
    have e2 : (slant - found) / G = -(found / G) := by rw [e1]; exact Int.mul_ediv_cancel_left _ (by omega)
    rw [e2]
    generalize found / G = k at *
    have e3 := Int.mul_ediv_add_emod (-k * r) lot
    generalize (-k * r) / lot = i at e3
    generalize (-k * r) % lot = tn at e3 ⊢
    have e4 : found = slant + G * k := by rw [hs]; omega
    refine ⟨-(k * y) - i * w', ?_⟩
    have e5 : r * w' = lot * y + 1 := by omega
    have e6 : tn = -k * r - lot * i := by omega
    rw [e4, hw, e6]
    have e7 : slant + G * k + (-k * r - lot * i) * (G * w') = slant + G * k - G * k * (r * w') - lot * i * G * w' := by grind
    rw [e7, e5]
    grind
theorem Bi.of_dvd' {n : Nat} {c x : Int} (h : Bi n x) (hx : x ≠ 0) (e : c ∣ x) : Bi n c := by
  unfold Bi at h ⊢
  have := Nat.le_of_dvd (by omega) (Int.natAbs_dvd_natAbs.mpr e)
  omega
def sp_full_by : DSp := fun ds M Q _ => ∃ a b c e p q : Int, ds = [T4 a b c e, .tup [.int p, .int q]] ∧ 1 ≤ q ∧ 1 ≤ c ∧ Int.gcd p q = 1 ∧ (Bi 450 a ∧ Bi 450 b ∧ Bi 450 c ∧ Bi 450 e) ∧ Bi 450 p ∧ Bi 450 q ∧
  ∀ a' w g e' x z f s t m n, Full a b c e p q a' w g e' x z f s t m n → Bi 4200 f → Bi 4200 s → Q (.tup [T4 a' w g e', .tup [.tup [.int f, .int s], .tup [.int (-n), .int m]], .int t, .int x, .int z]) M
theorem rd_full_by : ∀ ds M Q, ds.length = 2 → sp_full_by ds M Q DX0 → t_full_by sp_table_by sp_shared sp_opposite_by (dEnds M Q) (startD 18 ds) M := by
  rintro _ M Q - ⟨a, b, c, e, p, q, rfl, q1, c1, hg, ⟨ba, bb, bc, be⟩, bp, bq, h⟩
  unfold t_full_by
  refine dSeq_open fun B hB => ?_
  walk_at "rd"
  refine ⟨a, b, c, e, p, q, rfl, q1, hg, ⟨ba, bb, bc, be⟩, bp, bq, fun x z hxz z0 z1 => ?_⟩
  walk_at "rd"
  have bx : Bi 451 x := by
    have := row_bound q1 hxz z0 z1
    unfold Bi at bp ⊢
    rw [Nat.pow_succ]
    have : 0 < 2 ^ 450 := Nat.pow_pos (by decide)
    omega
  have bz : Bi 450 z := by unfold Bi at bq ⊢; omega
  have hwi : (p * b + q * a) * (z * c) - (q * c) * (x * b + z * a + e + q * c) = c * (b - q * e - q * q * c) := by
    have : (p * b + q * a) * (z * c) - (q * c) * (x * b + z * a + e + q * c) = c * (b * (p * z - q * x) - q * e - q * q * c) := by grind
    rw [this, hxz, Int.mul_one]
  have bi : Bi 901 (p * b + q * a) := (bp.mul bb).add (bq.mul ba)
  have bj : Bi 900 (q * c) := bq.mul bc
  have bk : Bi 904 (x * b + z * a + e + q * c) := by
    have h1 : Bi 902 (x * b + z * a) := (bx.mul bb).add ((bz.mul ba).mono)
    have h2 : Bi 903 (x * b + z * a + e) := h1.add be.mono
    exact h2.add bj.mono
  have bl : Bi 900 (z * c) := bz.mul bc
  have j0 : 0 < q * c := Int.mul_pos (by omega) (by omega)
  generalize hi : p * b + q * a = i at *
  generalize hj : q * c = j at *
  generalize hk : x * b + z * a + e + j = k at *
  generalize hl : z * c = l at *
  rw [← hB]
  clear hB B
  refine dSeq_open fun B hB => ?_
  walk_at "rd"
  refine ⟨i, j, rfl, j0, bi.mono, bj.mono, fun u v huv bu bv => ?_⟩
  walk_at "rd"
  have g0 : 0 < (Int.gcd i j : Int) := by
    have := Int.gcd_pos_of_ne_zero_right i (show j ≠ 0 by omega)
    omega
  have di : (Int.gcd i j : Int) ∣ i := Int.gcd_dvd_left _ _
  have dj : (Int.gcd i j : Int) ∣ j := Int.gcd_dvd_right _ _
  generalize hg' : (Int.gcd i j : Int) = g at *
  obtain ⟨m, hm⟩ := di
  obtain ⟨n, hn⟩ := dj
  have bg : Bi 900 g := bj.of_dvd' (by omega) ⟨n, hn⟩
  have bm : Bi 901 m := bi.of_dvd (by omega) hm
  have bn : Bi 900 n := bj.of_dvd (by omega) hn
  have cg : ∀ t : Int, CDiv t g := fun t => ⟨by omega, Nat.lt_of_lt_of_le (log2_of 900 bg (by decide)) (by decide)⟩
  have ew : i * l - j * k = g * (m * l - n * k) := by rw [hm, hn]; grind
  have fw : (i * l - j * k).fdiv g = m * l - n * k := by rw [ew]; exact Int.mul_fdiv_cancel_left _ (by omega)
  have fm : i.fdiv g = m := by rw [hm]; exact Int.mul_fdiv_cancel_left _ (by omega)
  have fn : j.fdiv g = n := by rw [hn]; exact Int.mul_fdiv_cancel_left _ (by omega)
  rw [← hB]
  clear hB B
  refine dSeq_open fun B hB => ?_
  walk_at "rd"
  refine ⟨⟨bi.sm, bl.sm⟩, ⟨bj.sm, bk.sm⟩, cg _, ?_⟩
  rw [fw]
  generalize hw : m * l - n * k = w at *
  have wg : w * g = c * (b - q * e - q * q * c) := by rw [← hwi, ew, Int.mul_comm]
  rw [← hB]
  clear hB B
  refine dSeq_open fun B hB => ?_
  walk_at "rd"
  refine ⟨⟨bu.sm, bk.sm⟩, ⟨bv.sm, bl.sm⟩, ?_⟩
  have G0 : 0 < (Int.gcd w g : Int) := by
    have := Int.gcd_pos_of_ne_zero_right w (show g ≠ 0 by omega)
    omega
  have dw : (Int.gcd w g : Int) ∣ w := Int.gcd_dvd_left _ _
  have dg : (Int.gcd w g : Int) ∣ g := Int.gcd_dvd_right _ _
  generalize hG : (Int.gcd w g : Int) = G at *
  obtain ⟨w', hw'⟩ := dw
  obtain ⟨lot, hlot⟩ := dg
  have l0 : 0 < lot := by
    by_cases zz : 0 < lot
    · exact zz
    · have : G * lot ≤ 0 := Int.mul_nonpos_of_nonneg_of_nonpos (by omega) (by omega)
      omega
  have bG : Bi 900 G := bg.of_dvd' (by omega) ⟨lot, hlot⟩
  have blot : Bi 900 lot := bg.of_dvd (by omega) hlot
  have cG : ∀ t : Int, CDiv t G := fun t => ⟨by omega, Nat.lt_of_lt_of_le (log2_of 900 bG (by decide)) (by decide)⟩
  have flot : g.fdiv G = lot := by rw [hlot]; exact Int.mul_fdiv_cancel_left _ (by omega)
  have fw' : w.fdiv G = w' := by rw [hw']; exact Int.mul_fdiv_cancel_left _ (by omega)
  have cop := gcd_quot hG G0 hw' hlot
  generalize hfd : -(u * k + v * l) = found at *
  have bfd : Bi 5010 found := by
    rw [← hfd]
    have h1 : Bi 5004 (u * k) := (bu.mul bk).mono
    have h2 : Bi 5004 (v * l) := (bv.mul bl).mono
    have := (h1.add h2).neg
    rw [Int.zero_sub] at this
    exact this.mono
  rw [← hB]
  clear hB B
  refine dSeq_open fun B hB => ?_
  walk_at "rd"
  refine ⟨(show G ≠ 0 by omega), cG _, ?_⟩
  rw [flot, fmod_pos G0]
  have s0 := Int.emod_nonneg found (show G ≠ 0 by omega)
  have s1 := Int.emod_lt_of_pos found G0
  generalize hs : found % G = slant at *
  have bs : Bi 900 slant := by unfold Bi at bG ⊢; omega
  rw [← hB]
  clear hB B
  refine dSeq_open fun B hB => ?_
  -- the turn
  have fin : ∀ turn : Int, 0 ≤ turn → turn < lot ∨ turn = 0 → ((lot = 1 ∧ turn = 0) ∨ ∃ r, lot ∣ r * w' - 1 ∧ turn = ((slant - found) / G * r) % lot) → B
      [some (T4 a b c e), some (.tup [.int p, .int q]), some (.int i), some (.int j), some (.int k), some (.int l), some (.int x), some (.int z), some (.int g), some (.int u), some (.int v), some (.int w), some (.int G), some (.int found), some (.int slant), some (.int lot), some (.int turn), none] M := by
    intro turn t0 t1 ht
    have bt : Bi 900 turn := by unfold Bi at blot ⊢; omega
    have btn : Bi 1800 (turn * n) := bt.mul bn
    have btm : Bi 1801 (turn * m) := bt.mul bm
    obtain ⟨t, ht'⟩ := turn_ok G0 l0 hw' hs.symm ht
    rw [← hlot] at ht'
    have bw : Bi 2000 w := by
      rw [← hw]
      exact Bi.mono (k := 2000) (((bm.mul bl).mono (k := 1804)).sub ((bn.mul bk).mono (k := 1804)))
    rw [← hB]
    clear hB B
    refine dSeq_open fun B hB => ?_
    walk_at "rd"
    refine ⟨cg _, ⟨bt.sm, (by rw [fn]; exact bn.sm)⟩, cg _, ⟨bt.sm, (by rw [fm]; exact bm.sm)⟩, ⟨bt.sm, bw.sm⟩, ?_⟩
    rw [fm, fn]
    rw [← hB]
    clear hB B
    refine dSeq_open fun B hB => ?_
    walk_at "rd"
    have b2 : Bi 3 2 := Bi.of_abs 2 (by decide)
    refine ⟨⟨b2.sm, bq.sm⟩, ⟨(b2.mul bq).sm, bc.sm⟩, ?_⟩
    rw [← hB]
    clear hB B
    walk_at "rd"
    refine ⟨cg _, cg _, cg _, ?_⟩
    rw [fm, fn]
    have et : (found + turn * w - slant).fdiv g = t := by
      have : found + turn * w - slant = g * t := by rw [ht', Int.mul_comm]; omega
      rw [this]; exact Int.mul_fdiv_cancel_left _ (by omega)
    rw [et]
    refine rtq (h slant w g (-e - 2 * q * c) x z (u + turn * n) (v - turn * m) t m n ⟨⟨?_, wg, ?_, ?_, ?_, u, v, x, z, hxz, ?_, ?_⟩, hxz, z0, z1, g0, ?_, ?_, ?_, ?_⟩ ?_ ?_)
    · rw [hi, hj, hg']
    · omega
    · exact s0
    · rw [hG]; exact s1
    · rw [hi, hj]; exact huv
    · rw [hG]
      have e1 : x * b + z * a + e + q * c = k := by rw [hj]; exact hk
      rw [e1, hl]
      have e2 := Int.mul_ediv_add_emod found G
      refine ⟨-(found / G), ?_⟩
      rw [Int.mul_neg]
      omega
    · rw [hi]; exact hm
    · rw [hj]; exact hn
    · rw [hi, hj]
      have : (u + turn * n) * i + (v - turn * m) * j = u * i + v * j + turn * (n * i - m * j) := by grind
      rw [this, huv]
      have : n * i - m * j = 0 := by rw [hm, hn]; grind
      rw [this, Int.mul_zero, Int.add_zero]
    · have e1 : x * b + z * a + e + q * c = k := by rw [hj]; exact hk
      rw [e1, hl]
      have : -((u + turn * n) * k + (v - turn * m) * l) = -(u * k + v * l) + turn * (m * l - n * k) := by grind
      rw [this, hfd, hw, ht']
    · exact ((bu.mono (k := 4100)).add (btn.mono (k := 4100))).mono
    · exact ((bv.mono (k := 4100)).sub (btm.mono (k := 4100))).mono
  walk_at "rd"
  by_cases hl1 : 1 < lot
  · rw [if_pos hl1]
    refine ⟨cG _, cG _, w', lot, by rw [fw'], l0, blot.mono, fun r r0 r1 hd => ?_⟩
    rw [cop] at hd
    dsimp only
    have e1 : (slant - found).fdiv G = (slant - found) / G := fdiv_pos G0
    rw [e1]
    have bq1 : Bi 5011 ((slant - found) / G) := Nat.lt_of_le_of_lt (Int.natAbs_ediv_le_natAbs _ _) ((bs.mono (k := 5010)).sub bfd)
    have br : Bi 900 r := by unfold Bi at blot ⊢; omega
    refine ⟨⟨bq1.sm, br.sm⟩, (show lot ≠ 0 by omega), ?_⟩
    rw [fmod_pos l0]
    exact fin _ (Int.emod_nonneg _ (by omega)) (.inl (Int.emod_lt_of_pos _ l0)) (.inr ⟨r, hd, rfl⟩)
  · rw [if_neg hl1]
    exact fin 0 (Int.le_refl _) (.inr rfl) (.inl ⟨by omega, rfl⟩)
end DL
/-! MD: deeds with q = 1 that lead nearer to the heart; columns led down; plain -/
namespace DL
theorem split_by (a : Nat) : ∀ N : Nat, 1 ≤ N → ∃ m n, N = m * n ∧ Nat.gcd m a = 1 ∧ ∀ d, d ∣ n → Nat.gcd d a = 1 → d = 1 := by
  intro N
  induction N using Nat.strongRecOn with
  | ind N ih =>
    intro hN
    by_cases h : Nat.gcd N a = 1
    · exact ⟨N, 1, by omega, h, fun d hd _ => Nat.dvd_one.mp hd⟩
    · have h0 : 0 < Nat.gcd N a := Nat.gcd_pos_of_pos_left _ hN
      obtain ⟨c, hc⟩ := Nat.gcd_dvd_left N a
      have c0 : 1 ≤ c := by
        by_cases z : c = 0
        · rw [z, Nat.mul_zero] at hc; omega
        · omega
      have lt : c < N := by
        have h2 : 2 ≤ Nat.gcd N a := by omega
        have : 2 * c ≤ Nat.gcd N a * c := Nat.mul_le_mul_right _ h2
        omega
      obtain ⟨m, n, e1, e2, e3⟩ := ih c lt c0
      refine ⟨m, Nat.gcd N a * n, ?_, e2, fun d hd hg => ?_⟩
      · rw [Nat.mul_left_comm, ← e1]; exact hc
      · have cp : Nat.Coprime d (Nat.gcd N a) := by
          have d1 : Nat.gcd d (Nat.gcd N a) ∣ Nat.gcd d a := Nat.dvd_gcd (Nat.gcd_dvd_left _ _) (Nat.dvd_trans (Nat.gcd_dvd_right _ _) (Nat.gcd_dvd_right _ _))
          rw [hg] at d1
          exact Nat.dvd_one.mp d1
        exact e3 d (Nat.Coprime.dvd_of_dvd_mul_left cp hd) hg
theorem pick_free {a b N : Nat} (hN : 1 ≤ N) (h : Nat.gcd (Nat.gcd a b) N = 1) : ∃ p, Nat.gcd (p * b + a) N = 1 := by
  obtain ⟨m, n, e1, e2, e3⟩ := split_by a N hN
  refine ⟨m, ?_⟩
  have dm : Nat.gcd (m * b + a) N ∣ m * b + a := Nat.gcd_dvd_left _ _
  have dN : Nat.gcd (m * b + a) N ∣ N := Nat.gcd_dvd_right _ _
  generalize Nat.gcd (m * b + a) N = d at dm dN
  have c1 : Nat.Coprime d m := by
    have d1 : Nat.gcd d m ∣ Nat.gcd m a := by
      refine Nat.dvd_gcd (Nat.gcd_dvd_right _ _) ?_
      have h1 : Nat.gcd d m ∣ m * b + a := Nat.dvd_trans (Nat.gcd_dvd_left _ _) dm
      exact (Nat.dvd_add_right (Nat.dvd_mul_right_of_dvd (Nat.gcd_dvd_right _ _) _)).mp h1
    rw [e2] at d1
    exact Nat.dvd_one.mp d1
  refine e3 d (Nat.Coprime.dvd_of_dvd_mul_left c1 (by rw [← e1]; exact dN)) ?_
  have d2 : Nat.gcd d a ∣ Nat.gcd (Nat.gcd a b) N := by
    refine Nat.dvd_gcd (Nat.dvd_gcd (Nat.gcd_dvd_right _ _) ?_) (Nat.dvd_trans (Nat.gcd_dvd_left _ _) dN)
    have h1 : Nat.gcd d a ∣ m * b := (Nat.dvd_add_left (Nat.gcd_dvd_right d a)).mp (Nat.dvd_trans (Nat.gcd_dvd_left _ _) dm)
    have c2 : Nat.Coprime (Nat.gcd d a) m := Nat.Coprime.coprime_dvd_left (Nat.gcd_dvd_left _ _) c1
    exact Nat.Coprime.dvd_of_dvd_mul_left c2 h1
  rw [h] at d2
  exact Nat.dvd_one.mp d2
theorem pick_freeI {a b N : Int} (ha : 0 ≤ a) (hb : 0 ≤ b) (hN : 1 ≤ N) (h : (Int.gcd (Int.gcd a b : Int) N : Int) = 1) : ∃ p : Nat, (Int.gcd ((p : Int) * b + a) N : Int) = 1 := by
  obtain ⟨A, rfl⟩ := Int.eq_ofNat_of_zero_le ha
  obtain ⟨B, rfl⟩ := Int.eq_ofNat_of_zero_le hb
  obtain ⟨C, rfl⟩ := Int.eq_ofNat_of_zero_le (show 0 ≤ N by omega)
  obtain ⟨p, hp⟩ := pick_free (a := A) (b := B) (N := C) (by omega) (by
    have h1 : Int.gcd (Int.gcd (A : Int) (B : Int) : Int) (C : Int) = 1 := by omega
    simpa [Int.gcd] using h1)
  refine ⟨p, ?_⟩
  have e1 : ((p : Int) * (B : Int) + (A : Int)) = ((p * B + A : Nat) : Int) := by rw [Int.natCast_add, Int.natCast_mul]
  rw [e1]
  show ((Nat.gcd (p * B + A) C : Nat) : Int) = 1
  rw [hp]; rfl
/-- what all but the last item of the new cutting share, behind a deed (p, 1) -/
theorem far_done {a b c e p a' w g e' : Int} (hc : 1 ≤ c) (h : IsDone a b c e p 1 a' w g e') : (Int.gcd (Int.gcd a' w : Int) g : Int) = (Int.gcd (p * b + a) (Int.gcd c (e - b) : Int) : Int) := by
  have hg : g ≠ 0 := by
    have := Int.gcd_pos_of_ne_zero_right (p * b + 1 * a) (show 1 * c ≠ 0 by omega)
    have := h.gc
    omega
  obtain ⟨u, v, x, z, f1, f2, f3⟩ := h.ex
  have dm : g ∣ p * b + 1 * a := by rw [h.gc]; exact Int.gcd_dvd_left _ _
  have dn : g ∣ 1 * c := by rw [h.gc]; exact Int.gcd_dvd_right _ _
  obtain ⟨m', hm⟩ := dm
  obtain ⟨n', hn⟩ := dn
  have hu : u * m' + v * n' = 1 := by
    have : g * (u * m' + v * n') = g * 1 := by
      have e1 : g * (u * m' + v * n') = u * (g * m') + v * (g * n') := by grind
      rw [e1, ← hm, ← hn, f2, Int.mul_one]
    exact Int.eq_of_mul_eq_mul_left hg this
  have hx : x = p * z - 1 := by omega
  have h3 : x * b + z * a + e + 1 * c = z * (p * b + 1 * a) + (e - b) + c := by rw [hx]; grind
  generalize hr3 : x * b + z * a + e + 1 * c = r3 at f3 h3
  generalize hr4 : z * c = r4 at f3
  have hW : w = m' * r4 - n' * r3 := by
    refine Int.eq_of_mul_eq_mul_right hg ?_
    rw [h.wi]
    have e1 : (m' * r4 - n' * r3) * g = (g * m') * r4 - (g * n') * r3 := by grind
    rw [e1, ← hm, ← hn, ← hr3, ← hr4]
    have e2 : (p * b + 1 * a) * (z * c) - (1 * c) * (x * b + z * a + e + 1 * c) = c * (b * (p * z - 1 * x) - 1 * e - 1 * 1 * c) := by grind
    rw [e2, f1, Int.mul_one, Int.mul_one]
  -- one way
  have way1 : ∀ d : Int, d ∣ a' → d ∣ w → d ∣ g → d ∣ p * b + a ∧ d ∣ c ∧ d ∣ e - b := by
    intro d d1 d2 d3
    have Dm : d ∣ p * b + 1 * a := by rw [hm]; exact Int.dvd_mul_of_dvd_left d3
    have Dn : d ∣ 1 * c := by rw [hn]; exact Int.dvd_mul_of_dvd_left d3
    have dR : d ∣ u * r3 + v * r4 := by
      have h1 : d ∣ (Int.gcd w g : Int) := Int.dvd_coe_gcd d2 d3
      have h2 := Int.dvd_sub (Int.dvd_trans h1 f3) d1
      have e1 : a' + (u * r3 + v * r4) - a' = u * r3 + v * r4 := by omega
      rwa [e1] at h2
    have D3 : d ∣ r3 := by
      have e3 : r3 = m' * (u * r3 + v * r4) - v * w := by
        have : m' * (u * r3 + v * r4) - v * w = (u * m' + v * n') * r3 := by rw [hW]; grind
        rw [this, hu, Int.one_mul]
      rw [e3]; exact Int.dvd_sub (Int.dvd_mul_of_dvd_right dR) (Int.dvd_mul_of_dvd_right d2)
    rw [Int.one_mul] at Dm Dn
    refine ⟨Dm, Dn, ?_⟩
    have e4 : e - b = r3 - z * (p * b + a) - c := by rw [h3, Int.one_mul]; omega
    rw [e4]
    exact Int.dvd_sub (Int.dvd_sub D3 (Int.dvd_mul_of_dvd_right Dm)) Dn
  have way2 : ∀ d : Int, d ∣ p * b + a → d ∣ c → d ∣ e - b → d ∣ a' ∧ d ∣ w ∧ d ∣ g := by
    intro d d1 d2 d3
    have dg : d ∣ g := by rw [h.gc, Int.one_mul, Int.one_mul]; exact Int.dvd_coe_gcd d1 d2
    have D3 : d ∣ r3 := by rw [h3, Int.one_mul]; exact Int.dvd_add (Int.dvd_add (Int.dvd_mul_of_dvd_right d1) d3) d2
    have D4 : d ∣ r4 := by rw [← hr4]; exact Int.dvd_mul_of_dvd_right d2
    have dw : d ∣ w := by rw [hW]; exact Int.dvd_sub (Int.dvd_mul_of_dvd_right D4) (Int.dvd_mul_of_dvd_right D3)
    refine ⟨?_, dw, dg⟩
    have h1 : d ∣ (Int.gcd w g : Int) := Int.dvd_coe_gcd dw dg
    have h2 := Int.dvd_sub (Int.dvd_trans h1 f3) (Int.dvd_add (Int.dvd_mul_of_dvd_right (b := u) D3) (Int.dvd_mul_of_dvd_right (b := v) D4))
    have e1 : a' + (u * r3 + v * r4) - (u * r3 + v * r4) = a' := by omega
    rwa [e1] at h2
  refine congrArg _ (Nat.dvd_antisymm ?_ ?_)
  · refine Int.natCast_dvd_natCast.mp ?_
    have d0 : (Int.gcd (Int.gcd a' w : Int) g : Int) ∣ (Int.gcd a' w : Int) := Int.gcd_dvd_left _ _
    obtain ⟨k1, k2, k3⟩ := way1 _ (Int.dvd_trans d0 (Int.gcd_dvd_left _ _)) (Int.dvd_trans d0 (Int.gcd_dvd_right _ _)) (Int.gcd_dvd_right _ _)
    exact Int.dvd_coe_gcd k1 (Int.dvd_coe_gcd k2 k3)
  · refine Int.natCast_dvd_natCast.mp ?_
    have d0 : (Int.gcd (p * b + a) (Int.gcd c (e - b) : Int) : Int) ∣ (Int.gcd c (e - b) : Int) := Int.gcd_dvd_right _ _
    obtain ⟨k1, k2, k3⟩ := way2 _ (Int.gcd_dvd_left _ _) (Int.dvd_trans d0 (Int.gcd_dvd_left _ _)) (Int.dvd_trans d0 (Int.gcd_dvd_right _ _))
    exact Int.dvd_coe_gcd (Int.dvd_coe_gcd k1 k2) k3
end DL
/-! ME: two columns led down; plain -/
namespace DL
/-- (o1, o2), (t1, t2) came of (i, k), (j, l) -/
structure Led (i k j l o1 o2 t1 t2 : Int) : Prop where
  ex : ∃ u v u' v' : Int, o1 = u * i + v * j ∧ o2 = u * k + v * l ∧ t1 = u' * i + v' * j ∧ t2 = u' * k + v' * l ∧ (u * v' - u' * v = 1 ∨ u * v' - u' * v = -1)
theorem Led.start (i k j l : Int) : Led i k j l i k j l := ⟨1, 0, 0, 1, by omega, by omega, by omega, by omega, .inl (by omega)⟩
theorem Led.step {i k j l o1 o2 t1 t2 : Int} (h : Led i k j l o1 o2 t1 t2) (T : Int) : Led i k j l t1 t2 (o1 - T * t1) (o2 - T * t2) := by
  obtain ⟨u, v, u', v', e1, e2, e3, e4, e5⟩ := h.ex
  refine ⟨u', v', u - T * u', v - T * v', e3, e4, ?_, ?_, ?_⟩
  · rw [e1, e3]; grind
  · rw [e2, e4]; grind
  · have : u' * (v - T * v') - (u - T * u') * v' = -(u * v' - u' * v) := by grind
    rw [this]
    omega
end DL
namespace DL
open PySem PySem.Spec PyProof.Rows L2
local macro_rules | `(tactic| walk_at "rd") => `(tactic| simp only [startD, List.map, List.replicate, List.length_cons, List.length_nil, List.append_eq, List.append_nil, List.nil_append, List.cons_append, Nat.reduceSub, Nat.reduceAdd, List.getElem?_cons_zero, List.getElem?_cons_succ, List.set_cons_zero, List.set_cons_succ,
  dC, dVar, dOp, dTru, gTru, tru, dChain, dAnd, dOr, dNot, dAndV, dOrV, dNotV, dIf, dNeg, gNeg, dNil, dCons, dTup, dLst, dOwn, gIx, rBin, gAdd, gCmpI, dCall, dCallK, dSeq, dNext, dDrop, dRet, dRetN, dIfS, dName, dGNil, dGCons, dGTup, dSub, gSetL, dAsg, dPar, dPar3, dAug, gIpI, dSeqI, gSeqI, dRngI, gRng1, gRng2, dCB, gAbs, gInt, gMax, gMin, gGcd, gLen, lenD, gIsi, tyM, tyD, dBits, gBits, dMet, gAppend, dPart, dNoPart, dSl, gSl_tup, gSl_lst, cut_1, dEnds, gIs, isB, dNever, dFor, dLc, wipeD, dYes,
  sizeLine_eq, Nat.reduceLeDiff, gEq_int, gNe_int, gEq_strs, gNe_strs, gIn_two, gRepr_bl, rs_lst, rs_tup, rs_scr, rs_int, atI_0, atI_1, atI_2, atI_3, atI_4, atI_5, ixN_30, ixN_31, ixN_32, gEq_bl, gNe_bl, decide_eq_true_eq, beq_iff_eq, Bool.not_eq_true', beq_eq_false_iff_ne, decide_eq_false_iff_not, Bool.not_true, Bool.not_false, if_true, if_false, Bool.false_eq_true, ite_true, ite_false, true_and, and_true, ne_eq, Bool.bne_false, Bool.bne_true, reduceCtorEq])
local macro_rules | `(tactic| walk_at "rh") => `(tactic| simp only [*, startD, List.map, List.replicate, List.length_cons, List.length_nil, List.append_eq, List.append_nil, List.nil_append, List.cons_append, Nat.reduceSub, Nat.reduceAdd, List.getElem?_cons_zero, List.getElem?_cons_succ, List.set_cons_zero, List.set_cons_succ,
  dC, dVar, dOp, dTru, gTru, tru, dChain, dAnd, dOr, dNot, dAndV, dOrV, dNotV, dIf, dNeg, gNeg, dNil, dCons, dTup, dLst, dOwn, gIx, rBin, gAdd, gCmpI, dCall, dCallK, dSeq, dNext, dDrop, dRet, dRetN, dIfS, dName, dGNil, dGCons, dGTup, dSub, gSetL, dAsg, dPar, dPar3, dAug, gIpI, dSeqI, gSeqI, dRngI, gRng1, gRng2, dCB, gAbs, gInt, gMax, gMin, gGcd, gLen, lenD, gIsi, tyM, tyD, dBits, gBits, dMet, gAppend, dPart, dNoPart, dSl, gSl_tup, gSl_lst, cut_1, dEnds, gIs, isB, dNever, dFor, dLc, wipeD, dYes,
  sizeLine_eq, Nat.reduceLeDiff, gEq_int, gNe_int, gEq_strs, gNe_strs, gIn_two, gRepr_bl, rs_lst, rs_tup, rs_scr, rs_int, atI_0, atI_1, atI_2, atI_3, atI_4, atI_5, ixN_30, ixN_31, ixN_32, gEq_bl, gNe_bl, decide_eq_true_eq, beq_iff_eq, Bool.not_eq_true', beq_eq_false_iff_ne, decide_eq_false_iff_not, Bool.not_true, Bool.not_false, if_true, if_false, Bool.false_eq_true, ite_true, ite_false, true_and, and_true, ne_eq, Bool.bne_false, Bool.bne_true, reduceCtorEq])
local macro_rules | `(tactic| walk_at "kb") => `(tactic| simp only [kb_NoneType_list, kb_bool_list, kb_int_list, kb_str_list, kb_tuple_list, kb_list_list, kb_dict_list, kb_NoneType_int, kb_bool_int, kb_int_int, kb_str_int, kb_tuple_int, kb_list_int, kb_dict_int, kb_NoneType_bool, kb_bool_bool, kb_int_bool, kb_str_bool, kb_tuple_bool, kb_list_bool, kb_dict_bool, kb_NoneType_tuple, kb_bool_tuple, kb_int_tuple, kb_str_tuple, kb_tuple_tuple, kb_list_tuple, kb_dict_tuple, if_true, if_false, Bool.false_eq_true, ite_true, ite_false, Bool.not_true, Bool.not_false])
/-! ### sizes of cuttings by their measure -/
theorem sq_nn (e : Int) : 0 ≤ e * e := by rcases (by omega : 0 ≤ e ∨ e ≤ 0) with h | h; exact Int.mul_nonneg h h; exact Int.mul_nonneg_of_nonpos_of_nonpos h h
theorem abs_le_sq (e : Int) : (e.natAbs : Int) ≤ e * e := by
  rcases (by omega : e = 0 ∨ 1 ≤ e ∨ e ≤ -1) with h | h | h
  · subst h; decide
  · have : e * 1 ≤ e * e := Int.mul_le_mul_of_nonneg_left h (by omega); omega
  · have : (-e) * 1 ≤ (-e) * (-e) := Int.mul_le_mul_of_nonneg_left (by omega) (by omega)
    rw [Int.neg_mul_neg] at this; omega
theorem cut_le {a b c e : Int} (h : isCut a b c e = true) : 0 ≤ a ∧ a < c ∧ a < b ∧ b ≤ meas4 b c e ∧ c ≤ meas4 b c e ∧ (e.natAbs : Int) ≤ meas4 b c e ∧ e * e < meas4 b c e := by
  obtain ⟨h1, h2, h3, h4, h5, _⟩ := cut_parts h
  have g1 : (Int.gcd b c : Int) ≤ c := Int.le_of_dvd (by omega) (Int.gcd_dvd_right _ _)
  have g2 : (Int.gcd b c : Int) ≤ b := Int.le_of_dvd (by omega) (Int.gcd_dvd_left _ _)
  have e1 : 4 * b * c = 4 * (b * c) := Int.mul_assoc _ _ _
  have hb : b * 1 ≤ b * c := Int.mul_le_mul_of_nonneg_left h2 (by omega)
  have hc : 1 * c ≤ b * c := Int.mul_le_mul_of_nonneg_right h1 (by omega)
  have he := abs_le_sq e
  have hs := sq_nn e
  unfold meas4
  refine ⟨h4, by omega, by omega, by omega, by omega, by omega, by omega⟩
def CutB (n : Nat) (a b c e : Int) : Prop := Bi n a ∧ Bi n b ∧ Bi n c ∧ Bi n e
theorem cut_bi {n : Nat} {a b c e : Int} (h : isCut a b c e = true) (hm : Bi n (meas4 b c e)) : CutB n a b c e := by
  obtain ⟨h1, h2, h3, h4, h5, h6, h7⟩ := cut_le h
  have h8 := (cut_parts h).1
  have h9 := (cut_parts h).2.1
  have hs := sq_nn e
  unfold CutB Bi at *
  omega
theorem CutB.mono {n k : Nat} {a b c e : Int} (h : CutB n a b c e) (hk : n ≤ k := by decide) : CutB k a b c e := ⟨h.1.mono hk, h.2.1.mono hk, h.2.2.1.mono hk, h.2.2.2.mono hk⟩
/-- a deed's numbers, but for the bound of the first -/
structure DeedQ (b c e p q : Int) : Prop where
  q1 : 1 ≤ q
  al : 0 < b - q * e - q * q * c
  p0 : 0 ≤ p
  cp : Int.gcd p q = 1
theorem deedq_one {a b c e p : Int} (h : isCut a b c e = true) (hp : 0 ≤ p) : DeedQ b c e p 1 := by
  obtain ⟨h1, h2, h3, h4, h5, _⟩ := cut_parts h
  refine ⟨by omega, by rw [Int.one_mul, Int.one_mul, Int.one_mul]; omega, hp, ?_⟩
  simp [Int.gcd]
def sp_done_by : DSp := fun ds M Q _ => ∃ a b c e p q : Int, ds = [T4 a b c e, .tup [.int p, .int q]] ∧ 1 ≤ q ∧ 1 ≤ c ∧ Int.gcd p q = 1 ∧ CutB 450 a b c e ∧ Bi 450 p ∧ Bi 450 q ∧
  ∀ a' w g e', IsDone a b c e p q a' w g e' → Q (T4 a' w g e') M
theorem rd_done_by : ∀ ds M Q, ds.length = 2 → sp_done_by ds M Q DX0 → t_done_by sp_full_by (dEnds M Q) (startD 2 ds) M := by
  rintro _ M Q - ⟨a, b, c, e, p, q, rfl, q1, c1, hg, hb, bp, bq, h⟩
  unfold t_done_by
  walk_at "rd"
  refine ⟨a, b, c, e, p, q, rfl, q1, c1, hg, hb, bp, bq, fun a' w g e' x z f s t m n hF _ _ => ?_⟩
  walk_at "rd"
  exact rtq (h a' w g e' hF.dn)
def farV (a b c : Int) : Int := if c = 1 then 0 else if (Int.gcd (Int.gcd a b : Int) c : Int) = 1 then 1 else 2
def sp_far_by : DSp := fun ds M Q _ => ∃ a b c e : Int, ds = [T4 a b c e] ∧ Q (.int (farV a b c)) M
theorem rd_far_by : ∀ ds M Q, ds.length = 1 → sp_far_by ds M Q DX0 → t_far_by sp_gcd (dEnds M Q) (startD 5 ds) M := by
  rintro _ M Q - ⟨a, b, c, e, rfl, q⟩
  unfold t_far_by
  walk_at "rd"
  unfold farV at q
  by_cases h1 : c = 1
  · rw [if_pos h1] at q ⊢
    exact rtq q
  · rw [if_neg h1] at q ⊢
    refine ⟨a, b, rfl, _, c, rfl, ?_⟩
    dsimp only
    rw [gEq_int]
    dsimp only
    by_cases h2 : (Int.gcd (Int.gcd a b : Int) c : Int) = 1
    · rw [if_pos h2] at q
      rw [if_pos (by simpa using h2)]
      exact rtq q
    · rw [if_neg h2] at q
      rw [if_neg (by simpa using h2)]
      exact rtq q
theorem farV_nn (a b c : Int) : 0 ≤ farV a b c ∧ farV a b c ≤ 2 := by
  unfold farV
  split
  · omega
  · split <;> omega
theorem gcd_per {a b c N p k : Int} (hN : N ∣ c) : (Int.gcd ((p + k * (c / (Int.gcd b c : Int))) * b + a) N : Int) = Int.gcd (p * b + a) N := by
  have d1 : (Int.gcd b c : Int) ∣ b := Int.gcd_dvd_left _ _
  have d2 : (Int.gcd b c : Int) ∣ c := Int.gcd_dvd_right _ _
  have key : N ∣ k * (c / (Int.gcd b c : Int)) * b := by
    obtain ⟨t, ht⟩ := d1
    have e1 : c / (Int.gcd b c : Int) * b = c * t := by
      have h1 : c / (Int.gcd b c : Int) * (Int.gcd b c : Int) = c := Int.ediv_mul_cancel d2
      generalize (Int.gcd b c : Int) = G at *
      generalize c / G = l at *
      rw [ht, ← h1]; grind
    rw [Int.mul_assoc, e1]
    exact Int.dvd_mul_of_dvd_right (Int.dvd_mul_of_dvd_left hN)
  have e2 : (p + k * (c / (Int.gcd b c : Int))) * b + a = (p * b + a) + k * (c / (Int.gcd b c : Int)) * b := by grind
  rw [e2]
  generalize k * (c / (Int.gcd b c : Int)) * b = T at key
  generalize p * b + a = S
  refine congrArg _ (Nat.dvd_antisymm ?_ ?_)
  · refine Int.natCast_dvd_natCast.mp (Int.dvd_coe_gcd ?_ (Int.gcd_dvd_right _ _))
    have h1 : (Int.gcd (S + T) N : Int) ∣ S + T := Int.gcd_dvd_left _ _
    have h2 : (Int.gcd (S + T) N : Int) ∣ T := Int.dvd_trans (Int.gcd_dvd_right _ _) key
    have h3 := Int.dvd_sub h1 h2
    have e3 : S + T - T = S := by omega
    rwa [e3] at h3
  · refine Int.natCast_dvd_natCast.mp (Int.dvd_coe_gcd ?_ (Int.gcd_dvd_right _ _))
    exact Int.dvd_add (Int.gcd_dvd_left _ _) (Int.dvd_trans (Int.gcd_dvd_right _ _) key)
theorem free_mod {a b c N : Int} (hc : 1 ≤ c) (hN : N ∣ c) {p : Int} (h : (Int.gcd (p * b + a) N : Int) = 1) : ∃ r : Int, 0 ≤ r ∧ r < c / (Int.gcd b c : Int) ∧ (Int.gcd (r * b + a) N : Int) = 1 := by
  have G0 : 0 < (Int.gcd b c : Int) := by
    have := Int.gcd_pos_of_ne_zero_right b (show c ≠ 0 by omega)
    omega
  have l0 : 0 < c / (Int.gcd b c : Int) := Int.ediv_pos_of_pos_of_dvd (by omega) (by omega) (Int.gcd_dvd_right _ _)
  refine ⟨p % (c / (Int.gcd b c : Int)), Int.emod_nonneg _ (by omega), Int.emod_lt_of_pos _ l0, ?_⟩
  have h1 := Int.mul_ediv_add_emod p (c / (Int.gcd b c : Int))
  have h2 := gcd_per (a := a) (b := b) (c := c) (N := N) (p := p % (c / (Int.gcd b c : Int))) (k := p / (c / (Int.gcd b c : Int))) hN
  have e : p % (c / (Int.gcd b c : Int)) + p / (c / (Int.gcd b c : Int)) * (c / (Int.gcd b c : Int)) = p := by rw [Int.mul_comm (p / _)]; omega
  rw [e, h] at h2
  exact h2.symm
theorem cut_a0 {a b c e : Int} (h : isCut a b c e = true) : (Int.gcd (Int.gcd a b : Int) (Int.gcd c (e - b) : Int) : Int) = 1 := by
  obtain ⟨_, _, _, _, _, h6⟩ := cut_parts h
  have d0 : (Int.gcd (Int.gcd a b : Int) (Int.gcd c (e - b) : Int) : Int) ∣ 1 := by
    rw [← h6]
    have d1 : (Int.gcd (Int.gcd a b : Int) (Int.gcd c (e - b) : Int) : Int) ∣ (Int.gcd a b : Int) := Int.gcd_dvd_left _ _
    have d2 : (Int.gcd (Int.gcd a b : Int) (Int.gcd c (e - b) : Int) : Int) ∣ (Int.gcd c (e - b) : Int) := Int.gcd_dvd_right _ _
    have da := Int.dvd_trans d1 (Int.gcd_dvd_left _ _)
    have db := Int.dvd_trans d1 (Int.gcd_dvd_right _ _)
    have dc := Int.dvd_trans d2 (Int.gcd_dvd_left _ _)
    have de := Int.dvd_trans d2 (Int.gcd_dvd_right _ _)
    refine Int.dvd_coe_gcd (Int.dvd_coe_gcd da (Int.dvd_coe_gcd db dc)) ?_
    have := Int.dvd_add de db
    have e1 : e - b + b = e := by omega
    rwa [e1] at this
  have h5 : (Int.gcd (Int.gcd a b : Int) (Int.gcd c (e - b) : Int) : Int) ≠ 0 := fun z => by
    rw [z] at d0
    exact absurd (Int.zero_dvd.mp d0) (by decide)
  have := Int.le_of_dvd (by decide) d0
  omega
/-- how far a deed (p, 1) leads nearer, at most by one -/
theorem nearer_le {a b c e p a' w g e' : Int} (hd : IsDone a b c e p 1 a' w g e') : farV a b c ≤ farV a' w g + 1 := by
  have n1 := farV_nn a' w g
  have n2 := farV_nn a b c
  by_cases h2 : farV a b c = 2
  · have hg : g ≠ 1 := by
      intro z
      unfold farV at h2
      by_cases h3 : c = 1
      · rw [if_pos h3] at h2; omega
      · rw [if_neg h3] at h2
        by_cases h4 : (Int.gcd (Int.gcd a b : Int) c : Int) = 1
        · rw [if_pos h4] at h2; omega
        · have d1 : (Int.gcd (Int.gcd a b : Int) c : Int) ∣ g := by
            rw [hd.gc, Int.one_mul, Int.one_mul]
            have d0 : (Int.gcd (Int.gcd a b : Int) c : Int) ∣ (Int.gcd a b : Int) := Int.gcd_dvd_left _ _
            exact Int.dvd_coe_gcd (Int.dvd_add (Int.dvd_mul_of_dvd_right (Int.dvd_trans d0 (Int.gcd_dvd_right _ _))) (Int.dvd_trans d0 (Int.gcd_dvd_left _ _))) (Int.gcd_dvd_right _ _)
          rw [z] at d1
          have := Int.le_of_dvd (by decide) d1
          have h5 : (Int.gcd (Int.gcd a b : Int) c : Int) ≠ 0 := fun z => by
            rw [z] at d1
            exact absurd (Int.zero_dvd.mp d1) (by decide)
          omega
    have : 1 ≤ farV a' w g := by
      unfold farV
      rw [if_neg hg]
      split <;> omega
    omega
  · omega
theorem nearer_ex {a b c e : Int} (h : isCut a b c e = true) (hc : c ≠ 1) : ∃ p : Int, 0 ≤ p ∧ p < c / (Int.gcd b c : Int) ∧ ∀ a' w g e', IsDone a b c e p 1 a' w g e' → farV a' w g + 1 ≤ farV a b c := by
  obtain ⟨h1, h2, h3, h4, h5, h6⟩ := cut_parts h
  by_cases hf : (Int.gcd (Int.gcd a b : Int) c : Int) = 1
  · obtain ⟨p, hp⟩ := pick_freeI h4 (by omega) h2 hf
    obtain ⟨r, r0, r1, r2⟩ := free_mod h2 (Int.dvd_refl c) hp
    refine ⟨r, r0, r1, fun a' w g e' hd => ?_⟩
    have hg : g = 1 := by rw [hd.gc, Int.one_mul, Int.one_mul]; exact r2
    have e1 : farV a' w g = 0 := by unfold farV; rw [if_pos hg]
    have e2 : farV a b c = 1 := by unfold farV; rw [if_neg hc, if_pos hf]
    omega
  · have hN : 1 ≤ (Int.gcd c (e - b) : Int) := by
      have := Int.gcd_pos_of_ne_zero_left (e - b) (show c ≠ 0 by omega)
      omega
    obtain ⟨p, hp⟩ := pick_freeI h4 (by omega) hN (cut_a0 h)
    obtain ⟨r, r0, r1, r2⟩ := free_mod h2 (Int.gcd_dvd_left c (e - b)) hp
    refine ⟨r, r0, r1, fun a' w g e' hd => ?_⟩
    have e1 := far_done h2 hd
    rw [r2] at e1
    have e2 : farV a b c = 2 := by unfold farV; rw [if_neg hc, if_neg hf]
    have e3 : farV a' w g ≤ 1 := by
      unfold farV
      by_cases z : g = 1
      · rw [if_pos z]; omega
      · rw [if_neg z, if_pos e1]; omega
    omega
theorem done_g {a b c e p q a' w g e' : Int} (hc : 1 ≤ c) (hq : 1 ≤ q) (h : IsDone a b c e p q a' w g e') : 0 < g := by
  have := Int.gcd_pos_of_ne_zero_right (p * b + q * a) (show q * c ≠ 0 by have := Int.mul_pos (show 0 < q by omega) (show 0 < c by omega); omega)
  have := h.gc
  omega
/-- p is the least that leads nearer -/
def IsNear (a b c e p : Int) : Prop := (∀ a' w g e', IsDone a b c e p 1 a' w g e' → farV a' w g + 1 = farV a b c) ∧ ∀ p', 0 ≤ p' → p' < p → ∀ a' w g e', IsDone a b c e p' 1 a' w g e' → farV a b c ≤ farV a' w g
def sp_nearer_by : DSp := fun ds M Q _ => ∃ a b c e : Int, ds = [T4 a b c e] ∧ isCut a b c e = true ∧ c ≠ 1 ∧ CutB 300 a b c e ∧
  ∀ p, 0 ≤ p → p < c / (Int.gcd b c : Int) → IsNear a b c e p → Q (.tup [.int p, .int 1]) M
theorem lot_le {b c : Int} (hc : 1 ≤ c) : 1 ≤ c / (Int.gcd b c : Int) ∧ c / (Int.gcd b c : Int) ≤ c := by
  have G0 : 0 < (Int.gcd b c : Int) := by
    have := Int.gcd_pos_of_ne_zero_right b (show c ≠ 0 by omega)
    omega
  exact ⟨Int.ediv_pos_of_pos_of_dvd (by omega) (by omega) (Int.gcd_dvd_right _ _), Int.ediv_le_self _ (by omega)⟩
theorem rd_nearer_by : ∀ ds M Q, ds.length = 1 → sp_nearer_by ds M Q DX0 → t_nearer_by sp_far_by sp_done_by (dEnds M Q) (startD 3 ds) M := by
  rintro _ M Q - ⟨a, b, c, e, rfl, hcut, hc, hb, q⟩
  unfold t_nearer_by
  obtain ⟨h1, h2, h3, h4, h5, h6⟩ := cut_parts hcut
  obtain ⟨p0, p00, p01, hp⟩ := nearer_ex hcut hc
  obtain ⟨l1, l2⟩ := lot_le (b := b) h2
  refine dSeq_open fun B hB => ?_
  walk_at "rd"
  refine ⟨a, b, c, e, rfl, ?_⟩
  rw [← hB]
  clear hB B
  refine dSeq_open fun B hB => ?_
  refine dwhile_of (fun m r M' => M' = M ∧ ∃ p : Int, r = [some (T4 a b c e), some (.int (farV a b c)), some (.int p)] ∧ 0 ≤ p ∧ p ≤ p0 ∧ m = (p0 - p).toNat ∧ ∀ p', 0 ≤ p' → p' < p → ∀ a' w g e', IsDone a b c e p' 1 a' w g e' → farV a b c ≤ farV a' w g) _ ⟨rfl, 0, rfl, Int.le_refl _, p00, rfl, fun p' h1 h2 => by omega⟩ ?_
  rintro m r M' ⟨rfl, p, rfl, z0, z1, rfl, hmin⟩
  walk_at "rd"
  refine ⟨a, b, c, e, p, 1, rfl, Int.le_refl _, h2, (deedq_one hcut z0).cp, hb.mono, ?_, Bi.of_abs 1 (by decide) (by decide), fun a' w g e' hd => ⟨a', w, g, e', rfl, ?_⟩⟩
  · have := hb.2.2.1
    unfold Bi at this ⊢
    have := Nat.pow_le_pow_right (show 0 < 2 by decide) (show 300 ≤ 450 by decide)
    omega
  have n1 := nearer_le hd
  dsimp only
  by_cases hlt : farV a b c ≤ farV a' w g
  · rw [if_pos hlt]
    have ne : p ≠ p0 := by
      rintro rfl
      have := hp _ _ _ _ hd
      omega
    refine ⟨(p0 - (p + 1)).toNat, by omega, rfl, p + 1, rfl, by omega, by omega, rfl, fun p' y1 y2 a2 w2 g2 e2 hd2 => ?_⟩
    by_cases z : p' = p
    · subst z
      have hg := done_g h2 (Int.le_refl 1) hd
      obtain ⟨rfl, rfl, rfl, rfl⟩ := isDone_unique (by omega) hd hd2
      exact hlt
    · exact hmin p' y1 (by omega) _ _ _ _ hd2
  · rw [if_neg hlt, ← hB]
    walk_at "rd"
    refine rtq (q p z0 (by omega) ⟨fun a2 w2 g2 e2 hd2 => ?_, hmin⟩)
    have hg : g ≠ 0 := by
      have := Int.gcd_pos_of_ne_zero_right (p * b + 1 * a) (show 1 * c ≠ 0 by omega)
      have := hd.gc
      omega
    obtain ⟨rfl, rfl, rfl, rfl⟩ := isDone_unique hg hd hd2
    omega
end DL
namespace DL
open PySem PySem.Spec PyProof.Rows L2
local macro_rules | `(tactic| walk_at "rd") => `(tactic| simp only [startD, List.map, List.replicate, List.length_cons, List.length_nil, List.append_eq, List.append_nil, List.nil_append, List.cons_append, Nat.reduceSub, Nat.reduceAdd, List.getElem?_cons_zero, List.getElem?_cons_succ, List.set_cons_zero, List.set_cons_succ,
  dC, dVar, dOp, dTru, gTru, tru, dChain, dAnd, dOr, dNot, dAndV, dOrV, dNotV, dIf, dNeg, gNeg, dNil, dCons, dTup, dLst, dOwn, gIx, rBin, gAdd, gCmpI, dCall, dCallK, dSeq, dNext, dDrop, dRet, dRetN, dIfS, dName, dGNil, dGCons, dGTup, dSub, gSetL, dAsg, dPar, dPar3, dAug, gIpI, dSeqI, gSeqI, dRngI, gRng1, gRng2, dCB, gAbs, gInt, gMax, gMin, gGcd, gLen, lenD, gIsi, tyM, tyD, dBits, gBits, dMet, gAppend, dPart, dNoPart, dSl, gSl_tup, gSl_lst, cut_1, dEnds, gIs, isB, dNever, dFor, dLc, wipeD, dYes,
  sizeLine_eq, Nat.reduceLeDiff, gEq_int, gNe_int, gEq_strs, gNe_strs, gIn_two, gRepr_bl, rs_lst, rs_tup, rs_scr, rs_int, atI_0, atI_1, atI_2, atI_3, atI_4, atI_5, ixN_30, ixN_31, ixN_32, gEq_bl, gNe_bl, decide_eq_true_eq, beq_iff_eq, Bool.not_eq_true', beq_eq_false_iff_ne, decide_eq_false_iff_not, Bool.not_true, Bool.not_false, if_true, if_false, Bool.false_eq_true, ite_true, ite_false, true_and, and_true, ne_eq, Bool.bne_false, Bool.bne_true, reduceCtorEq])
local macro_rules | `(tactic| walk_at "rh") => `(tactic| simp only [*, startD, List.map, List.replicate, List.length_cons, List.length_nil, List.append_eq, List.append_nil, List.nil_append, List.cons_append, Nat.reduceSub, Nat.reduceAdd, List.getElem?_cons_zero, List.getElem?_cons_succ, List.set_cons_zero, List.set_cons_succ,
  dC, dVar, dOp, dTru, gTru, tru, dChain, dAnd, dOr, dNot, dAndV, dOrV, dNotV, dIf, dNeg, gNeg, dNil, dCons, dTup, dLst, dOwn, gIx, rBin, gAdd, gCmpI, dCall, dCallK, dSeq, dNext, dDrop, dRet, dRetN, dIfS, dName, dGNil, dGCons, dGTup, dSub, gSetL, dAsg, dPar, dPar3, dAug, gIpI, dSeqI, gSeqI, dRngI, gRng1, gRng2, dCB, gAbs, gInt, gMax, gMin, gGcd, gLen, lenD, gIsi, tyM, tyD, dBits, gBits, dMet, gAppend, dPart, dNoPart, dSl, gSl_tup, gSl_lst, cut_1, dEnds, gIs, isB, dNever, dFor, dLc, wipeD, dYes,
  sizeLine_eq, Nat.reduceLeDiff, gEq_int, gNe_int, gEq_strs, gNe_strs, gIn_two, gRepr_bl, rs_lst, rs_tup, rs_scr, rs_int, atI_0, atI_1, atI_2, atI_3, atI_4, atI_5, ixN_30, ixN_31, ixN_32, gEq_bl, gNe_bl, decide_eq_true_eq, beq_iff_eq, Bool.not_eq_true', beq_eq_false_iff_ne, decide_eq_false_iff_not, Bool.not_true, Bool.not_false, if_true, if_false, Bool.false_eq_true, ite_true, ite_false, true_and, and_true, ne_eq, Bool.bne_false, Bool.bne_true, reduceCtorEq])
local macro_rules | `(tactic| walk_at "kb") => `(tactic| simp only [kb_NoneType_list, kb_bool_list, kb_int_list, kb_str_list, kb_tuple_list, kb_list_list, kb_dict_list, kb_NoneType_int, kb_bool_int, kb_int_int, kb_str_int, kb_tuple_int, kb_list_int, kb_dict_int, kb_NoneType_bool, kb_bool_bool, kb_int_bool, kb_str_bool, kb_tuple_bool, kb_list_bool, kb_dict_bool, kb_NoneType_tuple, kb_bool_tuple, kb_int_tuple, kb_str_tuple, kb_tuple_tuple, kb_list_tuple, kb_dict_tuple, if_true, if_false, Bool.false_eq_true, ite_true, ite_false, Bool.not_true, Bool.not_false])
/-! ### the way to the heart -/
/-- deeds (p, 1), one behind the other, from (a, b, c, e) to (a', b', c', e') -/
def HWay : List Int → Int → Int → Int → Int → Int → Int → Int → Int → Prop
  | [], a, b, c, e, a', b', c', e' => a' = a ∧ b' = b ∧ c' = c ∧ e' = e
  | p :: ps, a, b, c, e, a', b', c', e' => ∃ a1 w g e1, 0 ≤ p ∧ p < c / (Int.gcd b c : Int) ∧ IsDone a b c e p 1 a1 w g e1 ∧ HWay ps a1 w g e1 a' b' c' e' ∧ IsNear a b c e p
theorem HWay.snoc : ∀ {ps : List Int} {a b c e a1 b1 c1 e1 p a2 b2 c2 e2 : Int}, HWay ps a b c e a1 b1 c1 e1 → 0 ≤ p → p < c1 / (Int.gcd b1 c1 : Int) → IsDone a1 b1 c1 e1 p 1 a2 b2 c2 e2 → IsNear a1 b1 c1 e1 p → HWay (ps ++ [p]) a b c e a2 b2 c2 e2
  | [], _, _, _, _, _, _, _, _, _, _, _, _, _, ⟨rfl, rfl, rfl, rfl⟩, h0, h1, h2, h3 => ⟨_, _, _, _, h0, h1, h2, ⟨rfl, rfl, rfl, rfl⟩, h3⟩
  | _ :: _, _, _, _, _, _, _, _, _, _, _, _, _, _, ⟨_, _, _, _, k0, k1, k2, k3, k4⟩, h0, h1, h2, h3 => ⟨_, _, _, _, k0, k1, k2, HWay.snoc k3 h0 h1 h2 h3, k4⟩
def wd1 (ps : List Int) : List D := ps.map fun p => .tup [.int p, .int 1]
theorem farV_zero {a b c : Int} : farV a b c = 0 ↔ c = 1 := by
  unfold farV
  by_cases h : c = 1
  · simp [h]
  · rw [if_neg h]
    constructor
    · intro z; split at z <;> omega
    · intro z; exact absurd z h
theorem done_one {a b c e p a' w g e' : Int} (h : isCut a b c e = true) (hp : 0 ≤ p) (hd : IsDone a b c e p 1 a' w g e') : isCut a' w g e' = true ∧ meas4 w g e' = meas4 b c e :=
  done_cut h (Int.le_refl _) (deedq_one h hp).al hd
def sp_to_heart_by : DSp := fun ds M Q _ => ∃ a b c e : Int, ds = [T4 a b c e] ∧ isCut a b c e = true ∧ Bi 300 (meas4 b c e) ∧
  ∀ ps a' b' c' e', HWay ps a b c e a' b' c' e' → c' = 1 → (ps.length : Int) = farV a b c → isCut a' b' c' e' = true → meas4 b' c' e' = meas4 b c e → Q (.tup [.lst (wd1 ps), T4 a' b' c' e']) M
theorem below_wd1 {n : Nat} {ps : List Int} : belowAll n (wd1 ps) = true := by
  induction ps with
  | nil => rfl
  | cons p ps ih => exact (by show (true && belowAll n (wd1 ps)) = true; rw [ih]; rfl)
theorem rd_to_heart_by : ∀ ds M Q, ds.length = 1 → sp_to_heart_by ds M Q DX0 → t_to_heart_by sp_nearer_by sp_done_by (dEnds M Q) (startD 4 ds) M := by
  rintro _ M Q - ⟨a, b, c, e, rfl, hcut, hm, q⟩
  unfold t_to_heart_by
  have n0 := farV_nn a b c
  refine dSeq_open fun B hB => ?_
  walk_at "rd"
  rw [← hB]
  clear hB B
  refine dSeq_open fun B hB => ?_
  refine dwhile_of (fun m r M' => M' = M ∧ ∃ ps a1 b1 c1 e1 t, r = [some (T4 a b c e), some (T4 a1 b1 c1 e1), some (.lst (wd1 ps)), t] ∧ HWay ps a b c e a1 b1 c1 e1 ∧ isCut a1 b1 c1 e1 = true ∧ meas4 b1 c1 e1 = meas4 b c e ∧ (ps.length : Int) + farV a1 b1 c1 = farV a b c ∧ m = (farV a1 b1 c1).toNat) _
    ⟨rfl, [], a, b, c, e, none, rfl, ⟨rfl, rfl, rfl, rfl⟩, hcut, rfl, by simp, rfl⟩ ?_
  rintro m r M' ⟨rfl, ps, a1, b1, c1, e1, t, rfl, hw, hc1, hm1, hl, rfl⟩
  have n1 := farV_nn a1 b1 c1
  walk_at "rd"
  by_cases h1 : c1 = 1
  · rw [if_neg (fun z => z h1), ← hB]
    walk_at "rd"
    have hz := (farV_zero (a := a1) (b := b1)).mpr h1
    refine rtq (q ps a1 b1 c1 e1 hw h1 (by omega) hc1 hm1) ?_
    show (belowAll _ (wd1 ps) && _) = true
    rw [below_wd1]
    rfl
  · rw [if_pos h1]
    have hb1 := cut_bi hc1 (n := 300) (by rw [hm1]; exact hm)
    obtain ⟨k1, k2, k3, k4, k5, k6⟩ := cut_parts hc1
    refine ⟨a1, b1, c1, e1, rfl, hc1, h1, hb1, fun p p0 p1 hp => ?_⟩
    obtain ⟨l1, l2⟩ := lot_le (b := b1) k2
    have bp : Bi 450 p := by
      have := hb1.2.2.1
      unfold Bi at this ⊢
      have := Nat.pow_le_pow_right (show 0 < 2 by decide) (show 300 ≤ 450 by decide)
      omega
    refine ⟨a1, b1, c1, e1, p, 1, rfl, Int.le_refl _, k2, (deedq_one hc1 p0).cp, hb1.mono, bp, Bi.of_abs 1 (by decide) (by decide), fun a2 w2 g2 e2 hd => ?_⟩
    dsimp only
    have h2 := hp.1 _ _ _ _ hd
    have n2 := farV_nn a2 w2 g2
    obtain ⟨hc2, hm2⟩ := done_one hc1 p0 hd
    refine ⟨?_, ?_⟩
    · have : (wd1 ps).length = ps.length := List.length_map _
      rw [this]
      omega
    · have e1 : wd1 (ps ++ [p]) = wd1 ps ++ [.tup [.int p, .int 1]] := List.map_append
      exact ⟨(farV a2 w2 g2).toNat, by omega, rfl, ps ++ [p], a2, w2, g2, e2, some (.tup [.int p, .int 1]), by rw [e1], hw.snoc p0 p1 hd hp, hc2, hm2.trans hm1, by rw [List.length_append, List.length_singleton]; omega, rfl⟩
end DL
namespace DL
open PySem PySem.Spec PyProof.Rows L2
local macro_rules | `(tactic| walk_at "rd") => `(tactic| simp only [startD, List.map, List.replicate, List.length_cons, List.length_nil, List.append_eq, List.append_nil, List.nil_append, List.cons_append, Nat.reduceSub, Nat.reduceAdd, List.getElem?_cons_zero, List.getElem?_cons_succ, List.set_cons_zero, List.set_cons_succ,
  dC, dVar, dOp, dTru, gTru, tru, dChain, dAnd, dOr, dNot, dAndV, dOrV, dNotV, dIf, dNeg, gNeg, dNil, dCons, dTup, dLst, dOwn, gIx, rBin, gAdd, gCmpI, dCall, dCallK, dSeq, dNext, dDrop, dRet, dRetN, dIfS, dName, dGNil, dGCons, dGTup, dSub, gSetL, dAsg, dPar, dPar3, dAug, gIpI, dSeqI, gSeqI, dRngI, gRng1, gRng2, dCB, gAbs, gInt, gMax, gMin, gGcd, gLen, lenD, gIsi, tyM, tyD, dBits, gBits, dMet, gAppend, dPart, dNoPart, dSl, gSl_tup, gSl_lst, cut_1, dEnds, gIs, isB, dNever, dFor, dLc, wipeD, dYes,
  sizeLine_eq, Nat.reduceLeDiff, gEq_int, gNe_int, gEq_strs, gNe_strs, gIn_two, gRepr_bl, rs_lst, rs_tup, rs_scr, rs_int, atI_0, atI_1, atI_2, atI_3, atI_4, atI_5, ixN_30, ixN_31, ixN_32, gEq_bl, gNe_bl, decide_eq_true_eq, beq_iff_eq, Bool.not_eq_true', beq_eq_false_iff_ne, decide_eq_false_iff_not, Bool.not_true, Bool.not_false, if_true, if_false, Bool.false_eq_true, ite_true, ite_false, true_and, and_true, ne_eq, Bool.bne_false, Bool.bne_true, reduceCtorEq])
local macro_rules | `(tactic| walk_at "rh") => `(tactic| simp only [*, startD, List.map, List.replicate, List.length_cons, List.length_nil, List.append_eq, List.append_nil, List.nil_append, List.cons_append, Nat.reduceSub, Nat.reduceAdd, List.getElem?_cons_zero, List.getElem?_cons_succ, List.set_cons_zero, List.set_cons_succ,
  dC, dVar, dOp, dTru, gTru, tru, dChain, dAnd, dOr, dNot, dAndV, dOrV, dNotV, dIf, dNeg, gNeg, dNil, dCons, dTup, dLst, dOwn, gIx, rBin, gAdd, gCmpI, dCall, dCallK, dSeq, dNext, dDrop, dRet, dRetN, dIfS, dName, dGNil, dGCons, dGTup, dSub, gSetL, dAsg, dPar, dPar3, dAug, gIpI, dSeqI, gSeqI, dRngI, gRng1, gRng2, dCB, gAbs, gInt, gMax, gMin, gGcd, gLen, lenD, gIsi, tyM, tyD, dBits, gBits, dMet, gAppend, dPart, dNoPart, dSl, gSl_tup, gSl_lst, cut_1, dEnds, gIs, isB, dNever, dFor, dLc, wipeD, dYes,
  sizeLine_eq, Nat.reduceLeDiff, gEq_int, gNe_int, gEq_strs, gNe_strs, gIn_two, gRepr_bl, rs_lst, rs_tup, rs_scr, rs_int, atI_0, atI_1, atI_2, atI_3, atI_4, atI_5, ixN_30, ixN_31, ixN_32, gEq_bl, gNe_bl, decide_eq_true_eq, beq_iff_eq, Bool.not_eq_true', beq_eq_false_iff_ne, decide_eq_false_iff_not, Bool.not_true, Bool.not_false, if_true, if_false, Bool.false_eq_true, ite_true, ite_false, true_and, and_true, ne_eq, Bool.bne_false, Bool.bne_true, reduceCtorEq])
local macro_rules | `(tactic| walk_at "kb") => `(tactic| simp only [kb_NoneType_list, kb_bool_list, kb_int_list, kb_str_list, kb_tuple_list, kb_list_list, kb_dict_list, kb_NoneType_int, kb_bool_int, kb_int_int, kb_str_int, kb_tuple_int, kb_list_int, kb_dict_int, kb_NoneType_bool, kb_bool_bool, kb_int_bool, kb_str_bool, kb_tuple_bool, kb_list_bool, kb_dict_bool, kb_NoneType_tuple, kb_bool_tuple, kb_int_tuple, kb_str_tuple, kb_tuple_tuple, kb_list_tuple, kb_dict_tuple, if_true, if_false, Bool.false_eq_true, ite_true, ite_false, Bool.not_true, Bool.not_false])
/-! ### the law's own deeds -/
end DL
namespace DL
open PySem PySem.Spec PyProof.Rows L2
local macro_rules | `(tactic| walk_at "rd") => `(tactic| simp only [startD, List.map, List.replicate, List.length_cons, List.length_nil, List.append_eq, List.append_nil, List.nil_append, List.cons_append, Nat.reduceSub, Nat.reduceAdd, List.getElem?_cons_zero, List.getElem?_cons_succ, List.set_cons_zero, List.set_cons_succ,
  dC, dVar, dOp, dTru, gTru, tru, dChain, dAnd, dOr, dNot, dAndV, dOrV, dNotV, dIf, dNeg, gNeg, dNil, dCons, dTup, dLst, dOwn, gIx, rBin, gAdd, gCmpI, dCall, dCallK, dSeq, dNext, dDrop, dRet, dRetN, dIfS, dName, dGNil, dGCons, dGTup, dSub, gSetL, dAsg, dPar, dPar3, dAug, gIpI, dSeqI, gSeqI, dRngI, gRng1, gRng2, dCB, gAbs, gInt, gMax, gMin, gGcd, gLen, lenD, gIsi, tyM, tyD, dBits, gBits, dMet, gAppend, dPart, dNoPart, dSl, gSl_tup, gSl_lst, cut_1, dEnds, gIs, isB, dNever, dFor, dLc, wipeD, dYes,
  sizeLine_eq, Nat.reduceLeDiff, gEq_int, gNe_int, gEq_strs, gNe_strs, gIn_two, gRepr_bl, rs_lst, rs_tup, rs_scr, rs_int, atI_0, atI_1, atI_2, atI_3, atI_4, atI_5, ixN_30, ixN_31, ixN_32, gEq_bl, gNe_bl, decide_eq_true_eq, beq_iff_eq, Bool.not_eq_true', beq_eq_false_iff_ne, decide_eq_false_iff_not, Bool.not_true, Bool.not_false, if_true, if_false, Bool.false_eq_true, ite_true, ite_false, true_and, and_true, ne_eq, Bool.bne_false, Bool.bne_true, reduceCtorEq])
local macro_rules | `(tactic| walk_at "rh") => `(tactic| simp only [*, startD, List.map, List.replicate, List.length_cons, List.length_nil, List.append_eq, List.append_nil, List.nil_append, List.cons_append, Nat.reduceSub, Nat.reduceAdd, List.getElem?_cons_zero, List.getElem?_cons_succ, List.set_cons_zero, List.set_cons_succ,
  dC, dVar, dOp, dTru, gTru, tru, dChain, dAnd, dOr, dNot, dAndV, dOrV, dNotV, dIf, dNeg, gNeg, dNil, dCons, dTup, dLst, dOwn, gIx, rBin, gAdd, gCmpI, dCall, dCallK, dSeq, dNext, dDrop, dRet, dRetN, dIfS, dName, dGNil, dGCons, dGTup, dSub, gSetL, dAsg, dPar, dPar3, dAug, gIpI, dSeqI, gSeqI, dRngI, gRng1, gRng2, dCB, gAbs, gInt, gMax, gMin, gGcd, gLen, lenD, gIsi, tyM, tyD, dBits, gBits, dMet, gAppend, dPart, dNoPart, dSl, gSl_tup, gSl_lst, cut_1, dEnds, gIs, isB, dNever, dFor, dLc, wipeD, dYes,
  sizeLine_eq, Nat.reduceLeDiff, gEq_int, gNe_int, gEq_strs, gNe_strs, gIn_two, gRepr_bl, rs_lst, rs_tup, rs_scr, rs_int, atI_0, atI_1, atI_2, atI_3, atI_4, atI_5, ixN_30, ixN_31, ixN_32, gEq_bl, gNe_bl, decide_eq_true_eq, beq_iff_eq, Bool.not_eq_true', beq_eq_false_iff_ne, decide_eq_false_iff_not, Bool.not_true, Bool.not_false, if_true, if_false, Bool.false_eq_true, ite_true, ite_false, true_and, and_true, ne_eq, Bool.bne_false, Bool.bne_true, reduceCtorEq])
local macro_rules | `(tactic| walk_at "kb") => `(tactic| simp only [kb_NoneType_list, kb_bool_list, kb_int_list, kb_str_list, kb_tuple_list, kb_list_list, kb_dict_list, kb_NoneType_int, kb_bool_int, kb_int_int, kb_str_int, kb_tuple_int, kb_list_int, kb_dict_int, kb_NoneType_bool, kb_bool_bool, kb_int_bool, kb_str_bool, kb_tuple_bool, kb_list_bool, kb_dict_bool, kb_NoneType_tuple, kb_bool_tuple, kb_int_tuple, kb_str_tuple, kb_tuple_tuple, kb_list_tuple, kb_dict_tuple, if_true, if_false, Bool.false_eq_true, ite_true, ite_false, Bool.not_true, Bool.not_false])
/-! ### k63: drawn deeds, the heart's numbers -/
theorem lt900 {b : Int} (h : b < 10 ^ 60) : b < 2 ^ 900 := by
  have e : (2 : Int) ^ 900 = 2 ^ 200 * 2 ^ 700 := by rw [← Int.pow_add]
  have h1 : (0 : Int) < 2 ^ 700 := Int.pow_pos (by decide)
  have h2 : (10 : Int) ^ 60 < 2 ^ 200 := by decide
  have h3 : (2 : Int) ^ 200 * 1 ≤ 2 ^ 200 * 2 ^ 700 := Int.mul_le_mul_of_nonneg_left (by omega) (by decide)
  omega
/-- a deed: (p, q) is one of (a, b, c, e) -/
def isDeed (b c e p q : Int) : Bool := decide (1 ≤ q) && (decide (0 < b - q * e - q * q * c) && (decide (0 ≤ p) && (decide (p < q * (c / (Int.gcd b c : Int))) && (Int.gcd p q : Int) == 1)))
def sp_lmade : DSp := fun ds M Q _ => ∃ m n : Int, ds = [.int m, .int n] ∧ Bi 450 n ∧ Q (T4 0 ((m - n * n) / 4) 1 n) M
theorem rd_l_measured_5aba : ∀ ds M Q, ds.length = 1 → sp_measure_by ds M Q DX0 → t_l_measured_5aba (dEnds M Q) (startD 1 ds) M := rd_measure_by
/-- the heart's bounds -/
def hLow (m : Int) : Int := let r := if isq m * isq m < m then 0 - isq m else 1 - isq m; if (r - m) % 2 = 0 then r else r + 1
def hHigh (m : Int) : Int := let r := 0 - (if isq m * isq m < m then 0 - isq m else 1 - isq m) - 2; if (r - m) % 2 = 0 then r else r - 1
def sp_bounds_by : DSp := fun ds M Q _ => ∃ m : Int, ds = [.int m] ∧ 0 ≤ m ∧ m ≤ BIG ∧ Q (.tup [.int (hLow m), .int (hHigh m)]) M
theorem rd_bounds_by : ∀ ds M Q, ds.length = 1 → sp_bounds_by ds M Q DX0 → t_bounds_by sp_isq (dEnds M Q) (startD 4 ds) M := by
  rintro _ M Q - ⟨m, rfl, m0, mB, q⟩
  unfold t_bounds_by
  have h4 := isq_le_self m0
  have h3 := isq_nn m
  have sr : Sm (isq m) := sm_big (by have := big_pos; omega) (by omega)
  refine dSeq_open fun B hB => ?_
  walk_at "rd"
  refine ⟨m, rfl, m0, mB, ?_⟩
  rw [← hB]
  clear hB B
  unfold hLow hHigh at q
  dsimp only at q
  refine dSeq_open fun B hB => ?_
  walk_at "rd"
  refine ⟨⟨sr, sr⟩, ?_⟩
  have main : ∀ r : Int, (if isq m * isq m < m then 0 - isq m else 1 - isq m) = r → B [some (.int m), some (.int (isq m)), some (.int r), none] M := by
    intro r hr
    rw [hr] at q
    rw [← hB]
    clear hB B
    walk_at "rd"
    refine ⟨(by decide : (2 : Int) ≠ 0), ?_⟩
    rw [fmod_pos (show (0 : Int) < 2 by decide)]
    by_cases z : (r - m) % 2 = 0
    · rw [if_neg (fun w => w z)]
      rw [if_pos z] at q
      refine ⟨(by decide : (2 : Int) ≠ 0), ?_⟩
      rw [fmod_pos (show (0 : Int) < 2 by decide)]
      by_cases z2 : (0 - r - 2 - m) % 2 = 0
      · rw [if_neg (fun w => w z2)]
        rw [if_pos z2] at q
        exact rtq q
      · rw [if_pos z2]
        rw [if_neg z2] at q
        exact rtq q
    · rw [if_pos z]
      rw [if_neg z] at q
      refine ⟨(by decide : (2 : Int) ≠ 0), ?_⟩
      rw [fmod_pos (show (0 : Int) < 2 by decide)]
      by_cases z2 : (0 - r - 2 - m) % 2 = 0
      · rw [if_neg (fun w => w z2)]
        rw [if_pos z2] at q
        exact rtq q
      · rw [if_pos z2]
        rw [if_neg z2] at q
        exact rtq q
  by_cases hs : isq m * isq m < m
  · rw [if_pos hs]
    exact main _ (if_pos hs)
  · rw [if_neg hs]
    exact main _ (if_neg hs)
theorem meas_par {a b c e : Int} : (e - meas4 b c e) % 2 = 0 := by
  unfold meas4
  have e1 : 4 * b * c = 4 * (b * c) := Int.mul_assoc _ _ _
  rw [e1]
  rcases (by omega : e % 2 = 0 ∨ e % 2 = 1) with q | q
  · obtain ⟨t, rfl⟩ : ∃ t, e = 2 * t := ⟨e / 2, by omega⟩
    have : 2 * t * (2 * t) = 4 * (t * t) := by grind
    omega
  · obtain ⟨t, rfl⟩ : ∃ t, e = 2 * t + 1 := ⟨e / 2, by omega⟩
    have : (2 * t + 1) * (2 * t + 1) = 4 * (t * t + t) + 1 := by grind
    omega
end DL
namespace DL
open PySem PySem.Spec PyProof.Rows L2
local macro_rules | `(tactic| walk_at "rd") => `(tactic| simp only [startD, List.map, List.replicate, List.length_cons, List.length_nil, List.append_eq, List.append_nil, List.nil_append, List.cons_append, Nat.reduceSub, Nat.reduceAdd, List.getElem?_cons_zero, List.getElem?_cons_succ, List.set_cons_zero, List.set_cons_succ,
  dC, dVar, dOp, dTru, gTru, tru, dChain, dAnd, dOr, dNot, dAndV, dOrV, dNotV, dIf, dNeg, gNeg, dNil, dCons, dTup, dLst, dOwn, gIx, rBin, gAdd, gCmpI, dCall, dCallK, dSeq, dNext, dDrop, dRet, dRetN, dIfS, dName, dGNil, dGCons, dGTup, dSub, gSetL, dAsg, dPar, dPar3, dAug, gIpI, dSeqI, gSeqI, dRngI, gRng1, gRng2, dCB, gAbs, gInt, gMax, gMin, gGcd, gLen, lenD, gIsi, tyM, tyD, dBits, gBits, dMet, gAppend, dPart, dNoPart, dSl, gSl_tup, gSl_lst, cut_1, dEnds, gIs, isB, dNever, dFor, dLc, wipeD, dYes,
  sizeLine_eq, Nat.reduceLeDiff, gEq_int, gNe_int, gEq_strs, gNe_strs, gIn_two, gRepr_bl, rs_lst, rs_tup, rs_scr, rs_int, atI_0, atI_1, atI_2, atI_3, atI_4, atI_5, ixN_30, ixN_31, ixN_32, gEq_bl, gNe_bl, decide_eq_true_eq, beq_iff_eq, Bool.not_eq_true', beq_eq_false_iff_ne, decide_eq_false_iff_not, Bool.not_true, Bool.not_false, if_true, if_false, Bool.false_eq_true, ite_true, ite_false, true_and, and_true, ne_eq, Bool.bne_false, Bool.bne_true, reduceCtorEq])
local macro_rules | `(tactic| walk_at "rh") => `(tactic| simp only [*, startD, List.map, List.replicate, List.length_cons, List.length_nil, List.append_eq, List.append_nil, List.nil_append, List.cons_append, Nat.reduceSub, Nat.reduceAdd, List.getElem?_cons_zero, List.getElem?_cons_succ, List.set_cons_zero, List.set_cons_succ,
  dC, dVar, dOp, dTru, gTru, tru, dChain, dAnd, dOr, dNot, dAndV, dOrV, dNotV, dIf, dNeg, gNeg, dNil, dCons, dTup, dLst, dOwn, gIx, rBin, gAdd, gCmpI, dCall, dCallK, dSeq, dNext, dDrop, dRet, dRetN, dIfS, dName, dGNil, dGCons, dGTup, dSub, gSetL, dAsg, dPar, dPar3, dAug, gIpI, dSeqI, gSeqI, dRngI, gRng1, gRng2, dCB, gAbs, gInt, gMax, gMin, gGcd, gLen, lenD, gIsi, tyM, tyD, dBits, gBits, dMet, gAppend, dPart, dNoPart, dSl, gSl_tup, gSl_lst, cut_1, dEnds, gIs, isB, dNever, dFor, dLc, wipeD, dYes,
  sizeLine_eq, Nat.reduceLeDiff, gEq_int, gNe_int, gEq_strs, gNe_strs, gIn_two, gRepr_bl, rs_lst, rs_tup, rs_scr, rs_int, atI_0, atI_1, atI_2, atI_3, atI_4, atI_5, ixN_30, ixN_31, ixN_32, gEq_bl, gNe_bl, decide_eq_true_eq, beq_iff_eq, Bool.not_eq_true', beq_eq_false_iff_ne, decide_eq_false_iff_not, Bool.not_true, Bool.not_false, if_true, if_false, Bool.false_eq_true, ite_true, ite_false, true_and, and_true, ne_eq, Bool.bne_false, Bool.bne_true, reduceCtorEq])
local macro_rules | `(tactic| walk_at "kb") => `(tactic| simp only [kb_NoneType_list, kb_bool_list, kb_int_list, kb_str_list, kb_tuple_list, kb_list_list, kb_dict_list, kb_NoneType_int, kb_bool_int, kb_int_int, kb_str_int, kb_tuple_int, kb_list_int, kb_dict_int, kb_NoneType_bool, kb_bool_bool, kb_int_bool, kb_str_bool, kb_tuple_bool, kb_list_bool, kb_dict_bool, kb_NoneType_tuple, kb_bool_tuple, kb_int_tuple, kb_str_tuple, kb_tuple_tuple, kb_list_tuple, kb_dict_tuple, if_true, if_false, Bool.false_eq_true, ite_true, ite_false, Bool.not_true, Bool.not_false])
/-! ### all cuttings of a measure, as laws list them -/
def IsC (m : Int) (x : List Int) : Prop := ∃ a b c e, x = [a, b, c, e] ∧ isCut a b c e = true ∧ meas4 b c e = m
/-- l: cuttings of the measure m, among them all with P c e -/
def Cov (m : Int) (l : List (List Int)) (P : Int → Int → Prop) : Prop := (∀ x ∈ l, IsC m x) ∧ ∀ a b c e, isCut a b c e = true → meas4 b c e = m → P c e → [a, b, c, e] ∈ l
theorem Cov.app {m : Int} {l l2 : List (List Int)} {P P' : Int → Int → Prop} (h : Cov m l P) (g : Cov m l2 P') : Cov m (l ++ l2) fun c e => P c e ∨ P' c e :=
  ⟨fun x hx => (List.mem_append.mp hx).elim (h.1 x) (g.1 x), fun a b c e h1 h2 h3 => List.mem_append.mpr (h3.imp (h.2 a b c e h1 h2) (g.2 a b c e h1 h2))⟩
theorem Cov.nil {m : Int} : Cov m [] fun _ _ => False := ⟨fun x hx => (by cases hx), fun _ _ _ _ _ _ h => h.elim⟩
theorem meas_bc {b c e m : Int} : meas4 b c e = m ↔ 4 * (b * c) = m - e * e := by
  unfold meas4
  rw [Int.mul_assoc]
  omega
/-- sizes at measures to 1,000 -/
theorem isC_small {m a b c e : Int} (h : isCut a b c e = true) (hm : meas4 b c e = m) (h1 : m ≤ 1000) : 0 ≤ a ∧ 1 ≤ b ∧ 1 ≤ c ∧ a < c ∧ 4 * b ≤ m ∧ 4 * c ≤ m ∧ -31 ≤ e ∧ e ≤ 31 := by
  obtain ⟨k1, k2, k3, k4, k5, _⟩ := cut_parts h
  have k6 := (cut_le h).2.1
  have h3 := meas_bc.mp hm
  have hs := sq_nn e
  have hb : b * 1 ≤ b * c := Int.mul_le_mul_of_nonneg_left k2 (by omega)
  have hc : 1 * c ≤ b * c := Int.mul_le_mul_of_nonneg_right k1 (by omega)
  have he : e * e < 1000 := by omega
  refine ⟨k4, k1, k2, k6, by omega, by omega, ?_, ?_⟩
  · by_cases z : -31 ≤ e
    · exact z
    · have : 32 * 32 ≤ (-e) * (-e) := Int.mul_le_mul (by omega) (by omega) (by decide) (by omega)
      rw [Int.neg_mul_neg] at this
      omega
  · by_cases z : e ≤ 31
    · exact z
    · have : 32 * 32 ≤ e * e := Int.mul_le_mul (by omega) (by omega) (by decide) (by omega)
      omega
/-! ### k28's own lists -/
def sp_liscut1 : DSp := fun ds M Q _ => ∃ a b c e : Int, ds = [T4 a b c e] ∧ CutB 400 a b c e ∧ Q (.bl (isCut a b c e)) M
theorem rd_l_is_cutting_9b45 : ∀ ds M Q, ds.length = 1 → sp_liscut1 ds M Q DX0 → t_l_is_cutting_9b45 sp_gcd sp_measure_by (dEnds M Q) (startD 5 ds) M := by
  rintro _ M Q - ⟨a, b, c, e, rfl, ⟨ba, bb, bc, be⟩, q⟩
  unfold t_l_is_cutting_9b45
  walk_at "rd"
  have fin : ∀ v, v = isCut a b c e → Rtq M Q (.bl v) M := by rintro _ rfl; exact rtq q
  by_cases h1 : b < 1
  · rw [if_pos h1]
    exact fin _ (by unfold isCut; rw [decide_eq_false (show ¬ 1 ≤ b by omega)]; rfl)
  · rw [if_neg h1]
    have e1 := decide_eq_true (show 1 ≤ b by omega)
    by_cases h2 : c < 1
    · rw [if_pos h2]
      exact fin _ (by unfold isCut; rw [e1, decide_eq_false (show ¬ 1 ≤ c by omega)]; rfl)
    · rw [if_neg h2]
      have e2 := decide_eq_true (show 1 ≤ c by omega)
      by_cases h3 : c + e < b
      · rw [if_neg (show ¬ b ≤ c + e by omega)]
        have e3 := decide_eq_true h3
        by_cases h4 : 0 ≤ a
        · have e4 := decide_eq_true h4
          rw [if_pos h4]
          refine ⟨b, c, rfl, ?_⟩
          dsimp only
          by_cases h5 : a < (Int.gcd b c : Int)
          · have e5 := decide_eq_true h5
            rw [if_neg (fun z => z h5)]
            refine ⟨a, b, rfl, c, e, rfl, _, _, rfl, ?_⟩
            dsimp only
            rw [gEq_int, gcd4]
            dsimp only
            by_cases h6 : (Int.gcd (Int.gcd a (Int.gcd b c : Int) : Int) e : Int) = 1
            · have hc : isCut a b c e = true := by unfold isCut; rw [e1, e2, e3, e4, e5, h6]; rfl
              have := meas_ge (meas4_ok hc)
              rw [h6, if_pos (by rfl)]
              refine ⟨a, b, c, e, rfl, bb.mono, bc.mono, be.mono, ?_⟩
              exact fin _ (by rw [hc]; exact decide_eq_true (by omega))
            · have hf : ((Int.gcd (Int.gcd a (Int.gcd b c : Int) : Int) e : Int) == 1) = false := by simpa using h6
              rw [hf, if_neg (by decide)]
              exact fin _ (by unfold isCut; rw [e1, e2, e3, e4, e5, hf]; rfl)
          · rw [if_pos h5]
            exact fin _ (by unfold isCut; rw [e1, e2, e3, e4, decide_eq_false h5]; rfl)
        · rw [if_neg h4, if_pos h4]
          exact fin _ (by unfold isCut; rw [e1, e2, e3, decide_eq_false h4]; rfl)
      · rw [if_pos (by omega)]
        exact fin _ (by unfold isCut; rw [e1, e2, decide_eq_false h3]; rfl)
theorem below_tIs {n : Nat} : ∀ l : List (List Int), belowAll n (l.map tI) = true
  | [] => rfl
  | x :: l => by
    have h1 : ∀ y : List Int, belowAll n (y.map D.int) = true := by
      intro y
      induction y with
      | nil => rfl
      | cons a y ih => exact (by show (true && belowAll n (y.map D.int)) = true; rw [ih]; rfl)
    show (belowAll n (x.map D.int) && belowAll n (l.map tI)) = true
    rw [h1, below_tIs l]
    rfl
/-! every deed leads somewhere -/
theorem bez_ex : ∀ (k : Nat) (m n : Int), n.natAbs ≤ k → ∃ u v : Int, u * m + v * n = (Int.gcd m n : Int)
  | 0, m, n, h => by
    have : n = 0 := by omega
    subst this
    rw [Int.gcd_zero_right]
    rcases (by omega : 0 ≤ m ∨ m ≤ 0) with h | h
    · exact ⟨1, 0, by omega⟩
    · exact ⟨-1, 0, by omega⟩
  | k + 1, m, n, h => by
    by_cases z : n = 0
    · subst z
      exact bez_ex k m 0 (by simp)
    · have r0 := Int.emod_nonneg m z
      have r1 := Int.emod_lt m z
      obtain ⟨u, v, e⟩ := bez_ex k n (m % n) (by omega)
      have eg : (Int.gcd n (m % n) : Int) = Int.gcd m n := gcd_emod' m n
      rw [eg] at e
      have em := Int.mul_ediv_add_emod m n
      refine ⟨v, u - v * (m / n), ?_⟩
      have : v * m + (u - v * (m / n)) * n = u * n + v * (m - n * (m / n)) := by grind
      rw [this, ← e]
      have : m - n * (m / n) = m % n := by omega
      rw [this]
theorem done_ex {a b c e p q : Int} (hc : 1 ≤ c) (hq : 1 ≤ q) (cp : Int.gcd p q = 1) : ∃ a' w g e', IsDone a b c e p q a' w g e' := by
  obtain ⟨z, y, hz⟩ := bez_ex q.natAbs p q (Nat.le_refl _)
  rw [cp] at hz
  have row : p * z - q * (-y) = 1 := by
    have : p * z - q * (-y) = z * p + y * q := by grind
    rw [this]; exact hz
  obtain ⟨u, v, huv⟩ := bez_ex (q * c).natAbs (p * b + q * a) (q * c) (Nat.le_refl _)
  have j0 : 0 < q * c := Int.mul_pos (by omega) (by omega)
  have g0 : 0 < (Int.gcd (p * b + q * a) (q * c) : Int) := by
    have := Int.gcd_pos_of_ne_zero_right (p * b + q * a) (show q * c ≠ 0 by omega)
    omega
  have dg : (Int.gcd (p * b + q * a) (q * c) : Int) ∣ c * (b - q * e - q * q * c) := by
    have h1 : c * (b - q * e - q * q * c) = (p * b + q * a) * (z * c) - (q * c) * ((-y) * b + z * a + e + q * c) := by
      have : (p * b + q * a) * (z * c) - (q * c) * ((-y) * b + z * a + e + q * c) = c * (b * (p * z - q * (-y)) - q * e - q * q * c) := by grind
      rw [this, row, Int.mul_one]
    rw [h1]
    exact Int.dvd_sub (Int.dvd_mul_of_dvd_left (Int.gcd_dvd_left _ _)) (Int.dvd_mul_of_dvd_left (Int.gcd_dvd_right _ _))
  obtain ⟨w, hw⟩ := dg
  have G0 : 0 < (Int.gcd w (Int.gcd (p * b + q * a) (q * c) : Int) : Int) := by
    have := Int.gcd_pos_of_ne_zero_right w (show (Int.gcd (p * b + q * a) (q * c) : Int) ≠ 0 by omega)
    omega
  refine ⟨_, w, _, _, rfl, by rw [hw, Int.mul_comm], rfl, Int.emod_nonneg (0 - (u * ((-y) * b + z * a + e + q * c) + v * (z * c))) (by omega), Int.emod_lt_of_pos _ G0, u, v, -y, z, row, huv, ?_⟩
  have := Int.mul_ediv_add_emod (0 - (u * ((-y) * b + z * a + e + q * c) + v * (z * c))) (Int.gcd w (Int.gcd (p * b + q * a) (q * c) : Int) : Int)
  refine ⟨-((0 - (u * ((-y) * b + z * a + e + q * c) + v * (z * c))) / (Int.gcd w (Int.gcd (p * b + q * a) (q * c) : Int) : Int)), ?_⟩
  rw [Int.mul_neg]
  omega
/-! where a deed leads, as a function -/
theorem isDeed_parts {b c e p q : Int} (h : isDeed b c e p q = true) : DeedQ b c e p q ∧ p < q * (c / (Int.gcd b c : Int)) := by
  simp only [isDeed, Bool.and_eq_true, decide_eq_true_eq, beq_iff_eq] at h
  obtain ⟨h1, h2, h3, h4, h5⟩ := h
  exact ⟨⟨h1, h2, h3, by omega⟩, h4⟩
theorem isDeed_mk {b c e p q : Int} (h : DeedQ b c e p q) (h2 : p < q * (c / (Int.gcd b c : Int))) : isDeed b c e p q = true := by
  simp only [isDeed, Bool.and_eq_true, decide_eq_true_eq, beq_iff_eq]
  exact ⟨h.q1, h.al, h.p0, h2, by rw [h.cp]; rfl⟩
end DL
namespace DL
open PySem PySem.Spec PyProof.Rows L2
local macro_rules | `(tactic| walk_at "rd") => `(tactic| simp only [startD, List.map, List.replicate, List.length_cons, List.length_nil, List.append_eq, List.append_nil, List.nil_append, List.cons_append, Nat.reduceSub, Nat.reduceAdd, List.getElem?_cons_zero, List.getElem?_cons_succ, List.set_cons_zero, List.set_cons_succ,
  dC, dVar, dOp, dTru, gTru, tru, dChain, dAnd, dOr, dNot, dAndV, dOrV, dNotV, dIf, dNeg, gNeg, dNil, dCons, dTup, dLst, dOwn, gIx, rBin, gAdd, gCmpI, dCall, dCallK, dSeq, dNext, dDrop, dRet, dRetN, dIfS, dName, dGNil, dGCons, dGTup, dSub, gSetL, dAsg, dPar, dPar3, dAug, gIpI, dSeqI, gSeqI, dRngI, gRng1, gRng2, dCB, gAbs, gInt, gMax, gMin, gGcd, gLen, lenD, gIsi, tyM, tyD, dBits, gBits, dMet, gAppend, dPart, dNoPart, dSl, gSl_tup, gSl_lst, cut_1, dEnds, gIs, isB, dNever, dFor, dLc, wipeD, dYes,
  sizeLine_eq, Nat.reduceLeDiff, gEq_int, gNe_int, gEq_strs, gNe_strs, gIn_two, gRepr_bl, rs_lst, rs_tup, rs_scr, rs_int, atI_0, atI_1, atI_2, atI_3, atI_4, atI_5, ixN_30, ixN_31, ixN_32, gEq_bl, gNe_bl, decide_eq_true_eq, beq_iff_eq, Bool.not_eq_true', beq_eq_false_iff_ne, decide_eq_false_iff_not, Bool.not_true, Bool.not_false, if_true, if_false, Bool.false_eq_true, ite_true, ite_false, true_and, and_true, ne_eq, Bool.bne_false, Bool.bne_true, reduceCtorEq])
local macro_rules | `(tactic| walk_at "rh") => `(tactic| simp only [*, startD, List.map, List.replicate, List.length_cons, List.length_nil, List.append_eq, List.append_nil, List.nil_append, List.cons_append, Nat.reduceSub, Nat.reduceAdd, List.getElem?_cons_zero, List.getElem?_cons_succ, List.set_cons_zero, List.set_cons_succ,
  dC, dVar, dOp, dTru, gTru, tru, dChain, dAnd, dOr, dNot, dAndV, dOrV, dNotV, dIf, dNeg, gNeg, dNil, dCons, dTup, dLst, dOwn, gIx, rBin, gAdd, gCmpI, dCall, dCallK, dSeq, dNext, dDrop, dRet, dRetN, dIfS, dName, dGNil, dGCons, dGTup, dSub, gSetL, dAsg, dPar, dPar3, dAug, gIpI, dSeqI, gSeqI, dRngI, gRng1, gRng2, dCB, gAbs, gInt, gMax, gMin, gGcd, gLen, lenD, gIsi, tyM, tyD, dBits, gBits, dMet, gAppend, dPart, dNoPart, dSl, gSl_tup, gSl_lst, cut_1, dEnds, gIs, isB, dNever, dFor, dLc, wipeD, dYes,
  sizeLine_eq, Nat.reduceLeDiff, gEq_int, gNe_int, gEq_strs, gNe_strs, gIn_two, gRepr_bl, rs_lst, rs_tup, rs_scr, rs_int, atI_0, atI_1, atI_2, atI_3, atI_4, atI_5, ixN_30, ixN_31, ixN_32, gEq_bl, gNe_bl, decide_eq_true_eq, beq_iff_eq, Bool.not_eq_true', beq_eq_false_iff_ne, decide_eq_false_iff_not, Bool.not_true, Bool.not_false, if_true, if_false, Bool.false_eq_true, ite_true, ite_false, true_and, and_true, ne_eq, Bool.bne_false, Bool.bne_true, reduceCtorEq])
local macro_rules | `(tactic| walk_at "kb") => `(tactic| simp only [kb_NoneType_list, kb_bool_list, kb_int_list, kb_str_list, kb_tuple_list, kb_list_list, kb_dict_list, kb_NoneType_int, kb_bool_int, kb_int_int, kb_str_int, kb_tuple_int, kb_list_int, kb_dict_int, kb_NoneType_bool, kb_bool_bool, kb_int_bool, kb_str_bool, kb_tuple_bool, kb_list_bool, kb_dict_bool, kb_NoneType_tuple, kb_bool_tuple, kb_int_tuple, kb_str_tuple, kb_tuple_tuple, kb_list_tuple, kb_dict_tuple, if_true, if_false, Bool.false_eq_true, ite_true, ite_false, Bool.not_true, Bool.not_false])
/-! ### cells are only added -/
def Plus (M M' : Mem) : Prop := ∃ G, M' = M ++ G ∧ ∀ c ∈ G, ∀ n, belowO n c = true
theorem Plus.refl (M : Mem) : Plus M M := ⟨[], (List.append_nil M).symm, fun c h => (by cases h)⟩
theorem Plus.trans {M M' M'' : Mem} (h : Plus M M') (g : Plus M' M'') : Plus M M'' := by
  obtain ⟨G, rfl, h1⟩ := h
  obtain ⟨G', rfl, h2⟩ := g
  exact ⟨G ++ G', List.append_assoc _ _ _, fun c hc => (List.mem_append.mp hc).elim (h1 c) (h2 c)⟩
theorem Plus.add {M M' : Mem} {l : List D} (h : Plus M M') (hl : ∀ n, belowAll n l = true) : Plus M (M' ++ [.lst l]) :=
  h.trans ⟨[.lst l], rfl, fun c hc n => by rw [List.mem_singleton.mp hc]; exact hl n⟩
theorem Plus.get {M M' : Mem} (h : Plus M M') {i : Nat} (hi : i < M.length) : M'[i]? = M[i]? := by
  obtain ⟨G, rfl, _⟩ := h
  exact List.getElem?_append_left hi
theorem Plus.len {M M' : Mem} (h : Plus M M') : M.length ≤ M'.length := by
  obtain ⟨G, rfl, _⟩ := h
  rw [List.length_append]; omega
theorem Plus.rtq {M M' : Mem} {Q : DQ} {d : D} (h : Plus M M') (q : Q d M') (hb : below M'.length d = true := by rfl) : Rtq M Q d M' := by
  refine rtqC q h.len hb fun i c hc => ?_
  obtain ⟨G, rfl, h1⟩ := h
  by_cases hi : i < M.length
  · rw [List.getElem?_append_left hi] at hc
    exact .inl hc
  · rw [List.getElem?_append_right (by omega)] at hc
    exact .inr (h1 c (List.mem_of_getElem? hc) _)
/-- the new cells are let go -/
theorem Plus.drop {M M' : Mem} {Q : DQ} {d : D} (h : Plus M M') (q : Q d M) (hb : below M.length d = true := by rfl) : Rtq M Q d M' := by
  obtain ⟨G, rfl, _⟩ := h
  exact rtqG q hb
theorem Plus.set {M M' : Mem} {k : Nat} {l : List D} (h : Plus M M') (hk : M.length ≤ k) (hl : ∀ n, belowAll n l = true) : Plus M (M'.set k (.lst l)) := by
  obtain ⟨G, rfl, h1⟩ := h
  refine ⟨G.set (k - M.length) (.lst l), ?_, fun c hc n => ?_⟩
  · rw [List.set_append_right _ _ hk]
  · rcases List.mem_or_eq_of_mem_set hc with hc | rfl
    · exact h1 c hc n
    · exact hl n
/-! ### the way to the heart, as a list of the caller's -/
/-! ### k28 -/
theorem near_uniq {a b c e p p2 : Int} (h : isCut a b c e = true) (h1 : IsNear a b c e p) (h2 : IsNear a b c e p2) (k1 : 0 ≤ p) (k2 : 0 ≤ p2) : p = p2 := by
  have key : ∀ x y : Int, IsNear a b c e x → IsNear a b c e y → 0 ≤ x → x < y → False := by
    intro x y hx hy x0 xy
    obtain ⟨a', w, g, e', hd⟩ := done_ex (a := a) (b := b) (e := e) (p := x) (cut_parts h).2.1 (Int.le_refl 1) (deedq_one h x0).cp
    have := hx.1 _ _ _ _ hd
    have := hy.2 x x0 xy _ _ _ _ hd
    omega
  rcases (by omega : p = p2 ∨ p < p2 ∨ p2 < p) with z | z | z
  · exact z
  · exact (key p p2 h1 h2 k1 z).elim
  · exact (key p2 p h2 h1 k2 z).elim
theorem HWay.uniq : ∀ {ps ps2 : List Int} {a b c e a1 b1 c1 e1 a2 b2 c2 e2 : Int}, isCut a b c e = true → HWay ps a b c e a1 b1 c1 e1 → HWay ps2 a b c e a2 b2 c2 e2 → ps.length = ps2.length → ps = ps2
  | [], [], _, _, _, _, _, _, _, _, _, _, _, _, _, _, _, _ => rfl
  | [], _ :: _, _, _, _, _, _, _, _, _, _, _, _, _, _, _, _, h => by cases h
  | _ :: _, [], _, _, _, _, _, _, _, _, _, _, _, _, _, _, _, h => by cases h
  | p :: ps, p2 :: ps2, _, _, _, _, _, _, _, _, _, _, _, _, hc, ⟨x1, x2, x3, x4, u0, u1, u2, u3, u4⟩, ⟨y1, y2, y3, y4, v0, v1, v2, v3, v4⟩, h => by
    have ep := near_uniq hc u4 v4 u0 v0
    subst ep
    have hg := done_g (cut_parts hc).2.1 (Int.le_refl 1) u2
    obtain ⟨rfl, rfl, rfl, rfl⟩ := isDone_unique (by omega) u2 v2
    rw [HWay.uniq (done_one hc u0 u2).1 u3 v3 (by simpa using h)]
theorem hway_bi {n : Nat} : ∀ {ps : List Int} {a b c e a1 b1 c1 e1 : Int}, isCut a b c e = true → Bi n (meas4 b c e) → HWay ps a b c e a1 b1 c1 e1 → ∀ p ∈ ps, Bi n p
  | [], _, _, _, _, _, _, _, _, _, _, _, p, h => by cases h
  | q :: ps, _, b0, _, _, _, _, _, _, hc, hm, ⟨x1, x2, x3, x4, u0, u1, u2, u3, u4⟩, p, h => by
    obtain ⟨hc2, hm2⟩ := done_one hc u0 u2
    rcases List.mem_cons.mp h with rfl | h
    · have h1 := (cut_bi hc hm).2.2.1
      have h2 := lot_le (b := b0) (cut_parts hc).2.1
      unfold Bi at h1 ⊢
      omega
    · exact hway_bi hc2 (by rw [hm2]; exact hm) u3 p h
end DL
namespace DL
open PySem PySem.Spec PyProof.Rows L2
local macro_rules | `(tactic| walk_at "rd") => `(tactic| simp only [startD, List.map, List.replicate, List.length_cons, List.length_nil, List.append_eq, List.append_nil, List.nil_append, List.cons_append, Nat.reduceSub, Nat.reduceAdd, List.getElem?_cons_zero, List.getElem?_cons_succ, List.set_cons_zero, List.set_cons_succ,
  dC, dVar, dOp, dTru, gTru, tru, dChain, dAnd, dOr, dNot, dAndV, dOrV, dNotV, dIf, dNeg, gNeg, dNil, dCons, dTup, dLst, dOwn, gIx, rBin, gAdd, gCmpI, dCall, dCallK, dSeq, dNext, dDrop, dRet, dRetN, dIfS, dName, dGNil, dGCons, dGTup, dSub, gSetL, dAsg, dPar, dPar3, dAug, gIpI, dSeqI, gSeqI, dRngI, gRng1, gRng2, dCB, gAbs, gInt, gMax, gMin, gGcd, gLen, lenD, gIsi, tyM, tyD, dBits, gBits, dMet, gAppend, dPart, dNoPart, dSl, gSl_tup, gSl_lst, cut_1, dEnds, gIs, isB, dNever, dFor, dLc, wipeD, dYes,
  sizeLine_eq, Nat.reduceLeDiff, gEq_int, gNe_int, gEq_strs, gNe_strs, gIn_two, gRepr_bl, rs_lst, rs_tup, rs_scr, rs_int, atI_0, atI_1, atI_2, atI_3, atI_4, atI_5, ixN_30, ixN_31, ixN_32, gEq_bl, gNe_bl, decide_eq_true_eq, beq_iff_eq, Bool.not_eq_true', beq_eq_false_iff_ne, decide_eq_false_iff_not, Bool.not_true, Bool.not_false, if_true, if_false, Bool.false_eq_true, ite_true, ite_false, true_and, and_true, ne_eq, Bool.bne_false, Bool.bne_true, reduceCtorEq])
local macro_rules | `(tactic| walk_at "rh") => `(tactic| simp only [*, startD, List.map, List.replicate, List.length_cons, List.length_nil, List.append_eq, List.append_nil, List.nil_append, List.cons_append, Nat.reduceSub, Nat.reduceAdd, List.getElem?_cons_zero, List.getElem?_cons_succ, List.set_cons_zero, List.set_cons_succ,
  dC, dVar, dOp, dTru, gTru, tru, dChain, dAnd, dOr, dNot, dAndV, dOrV, dNotV, dIf, dNeg, gNeg, dNil, dCons, dTup, dLst, dOwn, gIx, rBin, gAdd, gCmpI, dCall, dCallK, dSeq, dNext, dDrop, dRet, dRetN, dIfS, dName, dGNil, dGCons, dGTup, dSub, gSetL, dAsg, dPar, dPar3, dAug, gIpI, dSeqI, gSeqI, dRngI, gRng1, gRng2, dCB, gAbs, gInt, gMax, gMin, gGcd, gLen, lenD, gIsi, tyM, tyD, dBits, gBits, dMet, gAppend, dPart, dNoPart, dSl, gSl_tup, gSl_lst, cut_1, dEnds, gIs, isB, dNever, dFor, dLc, wipeD, dYes,
  sizeLine_eq, Nat.reduceLeDiff, gEq_int, gNe_int, gEq_strs, gNe_strs, gIn_two, gRepr_bl, rs_lst, rs_tup, rs_scr, rs_int, atI_0, atI_1, atI_2, atI_3, atI_4, atI_5, ixN_30, ixN_31, ixN_32, gEq_bl, gNe_bl, decide_eq_true_eq, beq_iff_eq, Bool.not_eq_true', beq_eq_false_iff_ne, decide_eq_false_iff_not, Bool.not_true, Bool.not_false, if_true, if_false, Bool.false_eq_true, ite_true, ite_false, true_and, and_true, ne_eq, Bool.bne_false, Bool.bne_true, reduceCtorEq])
local macro_rules | `(tactic| walk_at "kb") => `(tactic| simp only [kb_NoneType_list, kb_bool_list, kb_int_list, kb_str_list, kb_tuple_list, kb_list_list, kb_dict_list, kb_NoneType_int, kb_bool_int, kb_int_int, kb_str_int, kb_tuple_int, kb_list_int, kb_dict_int, kb_NoneType_bool, kb_bool_bool, kb_int_bool, kb_str_bool, kb_tuple_bool, kb_list_bool, kb_dict_bool, kb_NoneType_tuple, kb_bool_tuple, kb_int_tuple, kb_str_tuple, kb_tuple_tuple, kb_list_tuple, kb_dict_tuple, if_true, if_false, Bool.false_eq_true, ite_true, ite_false, Bool.not_true, Bool.not_false])
/-! ### sorted lists of tuples of ints -/
abbrev LSorted (l : List (List Int)) : Prop := l.Pairwise fun x y => lexL y x = false
theorem sorted_uniq : ∀ {l1 l2 : List (List Int)}, l1.Perm l2 → LSorted l1 → LSorted l2 → l1 = l2
  | [], l2, h, _, _ => (List.Perm.eq_nil h.symm).symm
  | x :: l1, [], h, _, _ => absurd h.length_eq (by simp)
  | x :: l1, y :: l2, h, s1, s2 => by
    have h1 := List.pairwise_cons.mp s1
    have h2 := List.pairwise_cons.mp s2
    have e : x = y := by
      rcases List.mem_cons.mp (h.mem_iff.mp (List.mem_cons_self (a := x) (l := l1))) with e | hx
      · exact e
      · rcases List.mem_cons.mp (h.mem_iff.mpr (List.mem_cons_self (a := y) (l := l2))) with e | hy
        · exact e.symm
        · exact lexL_conn x y (h2.1 x hx) (h1.1 y hy)
    subst e
    rw [sorted_uniq h.cons_inv h1.2 h2.2]
theorem nodup_perm {α : Type} {l1 l2 : List α} (h1 : l1.Nodup) (h2 : l2.Nodup) (h : ∀ x, x ∈ l1 ↔ x ∈ l2) : l1.Perm l2 := (List.perm_ext_iff_of_nodup h1 h2).mpr h
theorem sorted_one {l1 l2 : List (List Int)} (h1 : l1.Nodup) (h2 : l2.Nodup) (h : ∀ x, x ∈ l1 ↔ x ∈ l2) (s1 : LSorted l1) (s2 : LSorted l2) : l1 = l2 := sorted_uniq (nodup_perm h1 h2 h) s1 s2
/-! ### all cuttings of a measure, each once -/
def CovX (m : Int) (l : List (List Int)) (P : Int → Int → Prop) : Prop := l.Nodup ∧ ∀ x, x ∈ l ↔ ∃ a b c e, x = [a, b, c, e] ∧ isCut a b c e = true ∧ meas4 b c e = m ∧ P c e
theorem CovX.nil {m : Int} {P : Int → Int → Prop} (h : ∀ a b c e, isCut a b c e = true → meas4 b c e = m → ¬ P c e) : CovX m [] P :=
  ⟨List.nodup_nil, fun x => ⟨fun h => (by cases h), by rintro ⟨a, b, c, e, rfl, h1, h2, h3⟩; exact (h a b c e h1 h2 h3).elim⟩⟩
theorem CovX.iff {m : Int} {l : List (List Int)} {P P' : Int → Int → Prop} (h : CovX m l P) (w : ∀ a b c e, isCut a b c e = true → meas4 b c e = m → (P' c e ↔ P c e)) : CovX m l P' := by
  refine ⟨h.1, fun x => (h.2 x).trans ?_⟩
  constructor
  · rintro ⟨a, b, c, e, rfl, h1, h2, h3⟩; exact ⟨a, b, c, e, rfl, h1, h2, (w a b c e h1 h2).mpr h3⟩
  · rintro ⟨a, b, c, e, rfl, h1, h2, h3⟩; exact ⟨a, b, c, e, rfl, h1, h2, (w a b c e h1 h2).mp h3⟩
theorem CovX.app {m : Int} {l l2 : List (List Int)} {P P' : Int → Int → Prop} (h : CovX m l P) (g : CovX m l2 P') (w : ∀ c e, P c e → P' c e → False) : CovX m (l ++ l2) fun c e => P c e ∨ P' c e := by
  refine ⟨List.nodup_append.mpr ⟨h.1, g.1, fun x hx y hy e => ?_⟩, fun x => ?_⟩
  · subst e
    obtain ⟨a, b, c, e, rfl, _, _, h3⟩ := (h.2 x).mp hx
    obtain ⟨a', b', c', e', h4, _, _, h5⟩ := (g.2 _).mp hy
    cases h4
    exact w c e h3 h5
  · rw [List.mem_append, h.2, g.2]
    constructor
    · rintro (⟨a, b, c, e, rfl, h1, h2, h3⟩ | ⟨a, b, c, e, rfl, h1, h2, h3⟩)
      · exact ⟨a, b, c, e, rfl, h1, h2, .inl h3⟩
      · exact ⟨a, b, c, e, rfl, h1, h2, .inr h3⟩
    · rintro ⟨a, b, c, e, rfl, h1, h2, h3 | h3⟩
      · exact .inl ⟨a, b, c, e, rfl, h1, h2, h3⟩
      · exact .inr ⟨a, b, c, e, rfl, h1, h2, h3⟩
/-- the whole of them, sorted -/
structure AllC (m : Int) (l : List (List Int)) : Prop where
  nd : l.Nodup
  mem : ∀ x, x ∈ l ↔ IsC m x
  srt : LSorted l
  len : l.length ≤ 10000000
theorem AllC.of {m : Int} {l l' : List (List Int)} {P : Int → Int → Prop} (h : CovX m l P) (w : ∀ a b c e, isCut a b c e = true → meas4 b c e = m → P c e) (hl : l.length ≤ 10000000) (pm : l'.Perm l) (sd : LSorted l') : AllC m l' := by
  refine ⟨(pm.nodup_iff).mpr h.1, fun x => ?_, sd, by rw [pm.length_eq]; exact hl⟩
  rw [pm.mem_iff, h.2]
  constructor
  · rintro ⟨a, b, c, e, rfl, h1, h2, _⟩; exact ⟨a, b, c, e, rfl, h1, h2⟩
  · rintro ⟨a, b, c, e, rfl, h1, h2⟩; exact ⟨a, b, c, e, rfl, h1, h2, w a b c e h1 h2⟩
theorem AllC.uniq {m : Int} {l l' : List (List Int)} (h : AllC m l) (g : AllC m l') : l = l' := sorted_one h.nd g.nd (fun x => (h.mem x).trans (g.mem x).symm) h.srt g.srt
/-! ### the functions of k13 to k16 -/
end DL
namespace DL
open PySem PySem.Spec PyProof.Rows L2
local macro_rules | `(tactic| walk_at "rd") => `(tactic| simp only [startD, List.map, List.replicate, List.length_cons, List.length_nil, List.append_eq, List.append_nil, List.nil_append, List.cons_append, Nat.reduceSub, Nat.reduceAdd, List.getElem?_cons_zero, List.getElem?_cons_succ, List.set_cons_zero, List.set_cons_succ,
  dC, dVar, dOp, dTru, gTru, tru, dChain, dAnd, dOr, dNot, dAndV, dOrV, dNotV, dIf, dNeg, gNeg, dNil, dCons, dTup, dLst, dOwn, gIx, rBin, gAdd, gCmpI, dCall, dCallK, dSeq, dNext, dDrop, dRet, dRetN, dIfS, dName, dGNil, dGCons, dGTup, dSub, gSetL, dAsg, dPar, dPar3, dAug, gIpI, dSeqI, gSeqI, dRngI, gRng1, gRng2, dCB, gAbs, gInt, gMax, gMin, gGcd, gLen, lenD, gIsi, tyM, tyD, dBits, gBits, dMet, gAppend, dPart, dNoPart, dSl, gSl_tup, gSl_lst, cut_1, dEnds, gIs, isB, dNever, dFor, dLc, wipeD, dYes,
  sizeLine_eq, Nat.reduceLeDiff, gEq_int, gNe_int, gEq_strs, gNe_strs, gIn_two, gRepr_bl, rs_lst, rs_tup, rs_scr, rs_int, atI_0, atI_1, atI_2, atI_3, atI_4, atI_5, ixN_30, ixN_31, ixN_32, gEq_bl, gNe_bl, decide_eq_true_eq, beq_iff_eq, Bool.not_eq_true', beq_eq_false_iff_ne, decide_eq_false_iff_not, Bool.not_true, Bool.not_false, if_true, if_false, Bool.false_eq_true, ite_true, ite_false, true_and, and_true, ne_eq, Bool.bne_false, Bool.bne_true, reduceCtorEq])
local macro_rules | `(tactic| walk_at "rh") => `(tactic| simp only [*, startD, List.map, List.replicate, List.length_cons, List.length_nil, List.append_eq, List.append_nil, List.nil_append, List.cons_append, Nat.reduceSub, Nat.reduceAdd, List.getElem?_cons_zero, List.getElem?_cons_succ, List.set_cons_zero, List.set_cons_succ,
  dC, dVar, dOp, dTru, gTru, tru, dChain, dAnd, dOr, dNot, dAndV, dOrV, dNotV, dIf, dNeg, gNeg, dNil, dCons, dTup, dLst, dOwn, gIx, rBin, gAdd, gCmpI, dCall, dCallK, dSeq, dNext, dDrop, dRet, dRetN, dIfS, dName, dGNil, dGCons, dGTup, dSub, gSetL, dAsg, dPar, dPar3, dAug, gIpI, dSeqI, gSeqI, dRngI, gRng1, gRng2, dCB, gAbs, gInt, gMax, gMin, gGcd, gLen, lenD, gIsi, tyM, tyD, dBits, gBits, dMet, gAppend, dPart, dNoPart, dSl, gSl_tup, gSl_lst, cut_1, dEnds, gIs, isB, dNever, dFor, dLc, wipeD, dYes,
  sizeLine_eq, Nat.reduceLeDiff, gEq_int, gNe_int, gEq_strs, gNe_strs, gIn_two, gRepr_bl, rs_lst, rs_tup, rs_scr, rs_int, atI_0, atI_1, atI_2, atI_3, atI_4, atI_5, ixN_30, ixN_31, ixN_32, gEq_bl, gNe_bl, decide_eq_true_eq, beq_iff_eq, Bool.not_eq_true', beq_eq_false_iff_ne, decide_eq_false_iff_not, Bool.not_true, Bool.not_false, if_true, if_false, Bool.false_eq_true, ite_true, ite_false, true_and, and_true, ne_eq, Bool.bne_false, Bool.bne_true, reduceCtorEq])
local macro_rules | `(tactic| walk_at "kb") => `(tactic| simp only [kb_NoneType_list, kb_bool_list, kb_int_list, kb_str_list, kb_tuple_list, kb_list_list, kb_dict_list, kb_NoneType_int, kb_bool_int, kb_int_int, kb_str_int, kb_tuple_int, kb_list_int, kb_dict_int, kb_NoneType_bool, kb_bool_bool, kb_int_bool, kb_str_bool, kb_tuple_bool, kb_list_bool, kb_dict_bool, kb_NoneType_tuple, kb_bool_tuple, kb_int_tuple, kb_str_tuple, kb_tuple_tuple, kb_list_tuple, kb_dict_tuple, if_true, if_false, Bool.false_eq_true, ite_true, ite_false, Bool.not_true, Bool.not_false])
/-! ### a drawn cutting of a small measure -/
/-! ### all deeds of a cutting -/
theorem allowed_mono {b c e q q' : Int} (hb : 1 ≤ b) (hc : 1 ≤ c) (h1 : 1 ≤ q) (h2 : q ≤ q') (h : 0 < b - q' * e - q' * q' * c) : 0 < b - q * e - q * q * c := by
  have e1 : q' * (b - q * e - q * q * c) = q * (b - q' * e - q' * q' * c) + (q' - q) * b + q * q' * (q' - q) * c := by grind
  have p1 : 0 < q * (b - q' * e - q' * q' * c) := Int.mul_pos (by omega) h
  have p2 : 0 ≤ (q' - q) * b := Int.mul_nonneg (by omega) (by omega)
  have p3 : 0 ≤ q * q' * (q' - q) * c := Int.mul_nonneg (Int.mul_nonneg (Int.mul_nonneg (by omega) (by omega)) (by omega)) (by omega)
  by_cases z : 0 < b - q * e - q * q * c
  · exact z
  · have : q' * (b - q * e - q * q * c) ≤ 0 := Int.mul_nonpos_of_nonneg_of_nonpos (by omega) (by omega)
    omega
def CovD (b c e : Int) (l : List (List Int)) (k : Int) : Prop := l.Nodup ∧ ∀ x, x ∈ l ↔ ∃ p q, x = [p, q] ∧ isDeed b c e p q = true ∧ q < k
/-- the deeds with a told second number -/
def rowD (N : Nat) (q : Int) : List (List Int) := (List.range N).filterMap fun (i : Nat) => if (Int.gcd (i : Int) q : Int) = 1 then some [(i : Int), q] else none
theorem rowD_mem {N : Nat} {q : Int} {x : List Int} : x ∈ rowD N q ↔ ∃ i : Nat, i < N ∧ (Int.gcd (i : Int) q : Int) = 1 ∧ x = [(i : Int), q] := by
  unfold rowD
  rw [List.mem_filterMap]
  constructor
  · rintro ⟨i, hi, h⟩
    by_cases hc : (Int.gcd (i : Int) q : Int) = 1
    · rw [if_pos hc] at h
      exact ⟨i, List.mem_range.mp hi, hc, (Option.some.inj h).symm⟩
    · rw [if_neg hc] at h; cases h
  · rintro ⟨i, hi, hc, rfl⟩
    exact ⟨i, List.mem_range.mpr hi, by rw [if_pos hc]⟩
theorem rowD_len {N : Nat} {q : Int} : (rowD N q).length ≤ N := Nat.le_trans (List.length_filterMap_le _ _) (by rw [List.length_range]; omega)
theorem rowD_nodup {N : Nat} {q : Int} : (rowD N q).Nodup := by
  unfold rowD
  refine List.Pairwise.filterMap _ (fun a a' (hne : a ≠ a') x hx y hy => ?_) List.nodup_range
  by_cases h1 : (Int.gcd (a : Int) q : Int) = 1
  · by_cases h2 : (Int.gcd (a' : Int) q : Int) = 1
    · rw [if_pos h1] at hx
      rw [if_pos h2] at hy
      cases hx; cases hy
      intro z
      have := List.cons.inj z
      omega
    · rw [if_neg h2] at hy; cases hy
  · rw [if_neg h1] at hx; cases hx
theorem CovD.step {b c e k : Int} {l : List (List Int)} (h : CovD b c e l k) (hk : 1 ≤ k) (ha : 0 < b - k * e - k * k * c) : CovD b c e (l ++ rowD (k * (c / (Int.gcd b c : Int))).toNat k) (k + 1) := by
  refine ⟨List.nodup_append.mpr ⟨h.1, rowD_nodup, fun x hx y hy z => ?_⟩, fun x => ?_⟩
  · subst z
    obtain ⟨p, q, rfl, _, h3⟩ := (h.2 x).mp hx
    obtain ⟨i, _, _, h4⟩ := rowD_mem.mp hy
    cases h4
    omega
  · rw [List.mem_append, h.2, rowD_mem]
    constructor
    · rintro (⟨p, q, rfl, h1, h2⟩ | ⟨i, h1, h2, rfl⟩)
      · exact ⟨p, q, rfl, h1, by omega⟩
      · exact ⟨i, k, rfl, isDeed_mk ⟨hk, ha, by omega, by omega⟩ (by omega), by omega⟩
    · rintro ⟨p, q, rfl, h1, h2⟩
      by_cases z : q < k
      · exact .inl ⟨p, q, rfl, h1, z⟩
      · have : q = k := by omega
        subst this
        obtain ⟨⟨q1, q2, q3, q4⟩, q5⟩ := isDeed_parts h1
        exact .inr ⟨p.toNat, by omega, by rw [Int.toNat_of_nonneg q3]; omega, by rw [Int.toNat_of_nonneg q3]⟩
structure AllD (b c e : Int) (l : List (List Int)) : Prop where
  nd : l.Nodup
  mem : ∀ x, x ∈ l ↔ ∃ p q, x = [p, q] ∧ isDeed b c e p q = true
  srt : LSorted l
  len : l.length ≤ 10000000
theorem AllD.uniq {b c e : Int} {l l' : List (List Int)} (h : AllD b c e l) (g : AllD b c e l') : l = l' := sorted_one h.nd g.nd (fun x => (h.mem x).trans (g.mem x).symm) h.srt g.srt
theorem AllD.of {b c e k : Int} {l l' : List (List Int)} (hb : 1 ≤ b) (hc : 1 ≤ c) (hk : 1 ≤ k) (h : CovD b c e l k) (hn : ¬ 0 < b - k * e - k * k * c) (hl : l.length ≤ 10000000) (pm : l'.Perm l) (sd : LSorted l') : AllD b c e l' := by
  refine ⟨(pm.nodup_iff).mpr h.1, fun x => ?_, sd, by rw [pm.length_eq]; exact hl⟩
  rw [pm.mem_iff, h.2]
  constructor
  · rintro ⟨p, q, rfl, h1, _⟩; exact ⟨p, q, rfl, h1⟩
  · rintro ⟨p, q, rfl, h1⟩
    refine ⟨p, q, rfl, h1, ?_⟩
    by_cases z : q < k
    · exact z
    · exact (hn (allowed_mono hb hc hk (by omega) (isDeed_parts h1).1.al)).elim
/-- sizes at measures to 600 -/
theorem cut600 {a b c e : Int} (h : isCut a b c e = true) (hm : meas4 b c e ≤ 600) : 0 ≤ a ∧ 1 ≤ b ∧ 1 ≤ c ∧ a < c ∧ b ≤ 150 ∧ c ≤ 150 ∧ -24 ≤ e ∧ e ≤ 24 := by
  obtain ⟨k1, k2, k3, k4, k5, k6, _⟩ := isC_small h rfl (by omega)
  have hs := (cut_le h).2.2.2.2.2.2
  refine ⟨k1, k2, k3, k4, by omega, by omega, ?_, ?_⟩
  · by_cases z : -24 ≤ e
    · exact z
    · have : 25 * 25 ≤ (-e) * (-e) := Int.mul_le_mul (by omega) (by omega) (by decide) (by omega)
      rw [Int.neg_mul_neg] at this
      omega
  · by_cases z : e ≤ 24
    · exact z
    · have : 25 * 25 ≤ e * e := Int.mul_le_mul (by omega) (by omega) (by decide) (by omega)
      omega
def sp_lallowed : DSp := fun ds M Q _ => ∃ a b c e q : Int, ds = [T4 a b c e, .int q] ∧ CutB 450 a b c e ∧ Bi 450 q ∧ Q (.bl (decide (0 < b - q * e - q * q * c))) M
theorem rd_l_allowed_c76c : ∀ ds M Q, ds.length = 2 → sp_lallowed ds M Q DX0 → t_l_allowed_c76c (dEnds M Q) (startD 6 ds) M := by
  rintro _ M Q - ⟨a, b, c, e, q, rfl, ⟨ba, bb, bc, be⟩, bq, h⟩
  unfold t_l_allowed_c76c
  walk_at "rd"
  exact ⟨⟨bq.sm, be.sm⟩, ⟨bq.sm, bq.sm⟩, ⟨(bq.mul bq).sm, bc.sm⟩, rtq h⟩
theorem rd_allowed_by : ∀ ds M Q, ds.length = 2 → sp_lallowed ds M Q DX0 → t_allowed_by (dEnds M Q) (startD 6 ds) M := rd_l_allowed_c76c
/-! ### deeds judged -/
def isDeedD (b c e : Int) (d : D) : Bool := match d with
  | .tup [.int p, .int q] => isDeed b c e p q
  | _ => false
theorem isDeedD_notup {b c e : Int} {d : D} (h : ∀ l, d ≠ .tup l) : isDeedD b c e d = false := by
  cases d <;> first | rfl | exact absurd rfl (h _)
theorem isDeedD_len {b c e : Int} {l : List D} (h : l.length ≠ 2) : isDeedD b c e (.tup l) = false := by
  unfold isDeedD
  split
  · rename_i z; cases z; exact absurd rfl h
  · rfl
theorem isDeedD_bad {b c e : Int} {l : List D} (h : ∃ x ∈ l, isW x = false) : isDeedD b c e (.tup l) = false := by
  unfold isDeedD
  split
  · rename_i z
    cases z
    obtain ⟨x, hx, hw⟩ := h
    simp only [List.mem_cons, List.not_mem_nil, or_false] at hx
    rcases hx with rfl | rfl <;> cases hw
  · rfl
theorem len2 {l : List D} (h : l.length = 2) : ∃ a b, l = [a, b] := by
  match l, h with
  | [a, b], _ => exact ⟨a, b, rfl⟩
def sp_round_of : DSp := fun ds M Q _ => ∃ a b c e : Int, ds = [T4 a b c e] ∧ 1 ≤ c ∧ Bi 1000 c ∧ Q (.int (c / (Int.gcd b c : Int))) M
theorem rd_round_of : ∀ ds M Q, ds.length = 1 → sp_round_of ds M Q DX0 → t_round_of (dEnds M Q) (startD 1 ds) M := by
  rintro _ M Q - ⟨a, b, c, e, rfl, c1, bc, q⟩
  unfold t_round_of
  walk_at "rd"
  have G0 : 0 < (Int.gcd b c : Int) := by
    have := Int.gcd_pos_of_ne_zero_right b (show c ≠ 0 by omega)
    omega
  have bG : Bi 1000 (Int.gcd b c : Int) := bc.of_dvd' (by omega) (Int.gcd_dvd_right _ _)
  rw [← fdiv_pos G0] at q
  exact ⟨⟨by omega, Nat.lt_of_lt_of_le (log2_of 1000 bG (by decide)) (by decide)⟩, rtq q⟩
def sp_is_deed_by : DSp := fun ds M Q _ => ∃ (a b c e : Int) (d : D), ds = [T4 a b c e, d] ∧ 1 ≤ c ∧ CutB 450 a b c e ∧ Askable 2 M d ∧ (∀ p q, d = .tup [.int p, .int q] → Bi 450 q) ∧ Q (.bl (isDeedD b c e d)) M
theorem rd_is_deed_by : ∀ ds M Q, ds.length = 2 → sp_is_deed_by ds M Q DX0 → t_is_deed_by sp_lallowed sp_round_of (dEnds M Q) (startD 5 ds) M := by
  rintro _ M Q - ⟨a, b, c, e, d, rfl, c1, cb, ⟨⟨T, ht⟩, hr⟩, hq, h⟩
  unfold t_is_deed_by
  by_cases htup : ∃ l, d = .tup l
  · obtain ⟨l, rfl⟩ := htup
    refine dSeq_open fun B hB => ?_
    walk_at "rd"
    walk_at "kb"
    by_cases h2 : l.length = 2
    · obtain ⟨dp, dq, rfl⟩ := len2 h2
      have hr' := hr _ rfl rfl
      rw [if_neg (by decide), if_neg (fun z => z rfl), ← hB]
      clear hB B
      refine dSeq_open fun B hB => ?_
      walk_at "rd"
      refine lcW_pure (fun e => if isW e = true then none else some e) trivial (by rw [sizeLine_eq]; exact (by decide : (2 : Nat) ≤ 16777216)) (fun x hx Y N hy => ?_) ?_
      · obtain ⟨_, T', hT⟩ := hr' x hx
        cases x <;> first | (cases hT; done) | skip
        all_goals walk_at "rd"
        case own k =>
          unfold tyM at hT
          dsimp only at hT
          split at hT
          · rename_i ds hk
            simp only [hk]
            walk_at "kb"
            exact hy
          · cases hT
        all_goals walk_at "kb"
        all_goals exact hy
      · refine gNe_nil' (n := 40) (bads_fine fun e he => (hr' e he).1) ?_
        show if (!(bads [dp, dq]).isEmpty) = true then _ else _
        cases hb : (bads [dp, dq]).isEmpty with
        | false =>
          rw [if_pos (by decide)]
          rw [isDeedD_bad (bads_some hb)] at h
          exact rtq h
        | true =>
          rw [if_neg (by decide), ← hB]
          clear hB B
          have hw := bads_nil hb
          obtain ⟨p, rfl⟩ := isW_iff.mp (hw dp (by simp))
          obtain ⟨q, rfl⟩ := isW_iff.mp (hw dq (by simp))
          have bq := hq p q rfl
          replace h : Q (.bl (isDeed b c e p q)) M := h
          have fin : ∀ v, v = isDeed b c e p q → Rtq M Q (.bl v) M := by rintro _ rfl; exact rtq h
          obtain ⟨l1, l2⟩ := lot_le (b := b) c1
          have bl : Bi 450 (c / (Int.gcd b c : Int)) := by have := cb.2.2.1; unfold Bi at this ⊢; omega
          walk_at "rd"
          by_cases h1 : q < 1
          · rw [if_pos h1]
            exact fin _ (by unfold isDeed; rw [decide_eq_false (show ¬ 1 ≤ q by omega)]; rfl)
          · rw [if_neg h1]
            have e1 := decide_eq_true (show 1 ≤ q by omega)
            refine ⟨a, b, c, e, q, rfl, cb, bq, ?_⟩
            dsimp only
            by_cases h2 : 0 < b - q * e - q * q * c
            · have e2 := decide_eq_true h2
              rw [e2, if_neg (by decide)]
              by_cases h3 : 0 ≤ p
              · have e3 := decide_eq_true h3
                rw [if_pos h3]
                refine ⟨a, b, c, e, rfl, c1, cb.2.2.1.mono, ?_⟩
                dsimp only
                refine ⟨⟨bq.sm, bl.sm⟩, ?_⟩
                by_cases h4 : p < q * (c / (Int.gcd b c : Int))
                · have e4 := decide_eq_true h4
                  rw [if_neg (fun z => z h4)]
                  exact fin _ (by unfold isDeed; rw [e1, e2, e3, e4]; rfl)
                · rw [if_pos h4]
                  exact fin _ (by unfold isDeed; rw [e1, e2, e3, decide_eq_false h4]; rfl)
              · rw [if_neg h3, if_pos h3]
                exact fin _ (by unfold isDeed; rw [e1, e2, decide_eq_false h3]; rfl)
            · have e2 := decide_eq_false h2
              rw [e2, if_pos (by decide)]
              exact fin _ (by unfold isDeed; rw [e1, e2]; rfl)
    · rw [if_neg (by decide), if_pos (by intro z; apply h2; omega)]
      rw [isDeedD_len h2] at h
      exact rtq h
  · have h' : Q (.bl false) M := by rwa [isDeedD_notup fun l z => htup ⟨l, z⟩] at h
    cases d <;> first | exact absurd ⟨_, rfl⟩ htup | (cases ht; done) | skip
    all_goals walk_at "rd"
    case own k =>
      unfold tyM at ht
      dsimp only at ht
      split at ht
      · rename_i ds hk
        simp only [hk]
        walk_at "kb"
        exact rtq h'
      · cases ht
    all_goals walk_at "kb"
    all_goals exact rtq h'
/-! ### columns led down -/
end DL
namespace DL
open PySem PySem.Spec PyProof.Rows L2
local macro_rules | `(tactic| walk_at "rd") => `(tactic| simp only [startD, List.map, List.replicate, List.length_cons, List.length_nil, List.append_eq, List.append_nil, List.nil_append, List.cons_append, Nat.reduceSub, Nat.reduceAdd, List.getElem?_cons_zero, List.getElem?_cons_succ, List.set_cons_zero, List.set_cons_succ,
  dC, dVar, dOp, dTru, gTru, tru, dChain, dAnd, dOr, dNot, dAndV, dOrV, dNotV, dIf, dNeg, gNeg, dNil, dCons, dTup, dLst, dOwn, gIx, rBin, gAdd, gCmpI, dCall, dCallK, dSeq, dNext, dDrop, dRet, dRetN, dIfS, dName, dGNil, dGCons, dGTup, dSub, gSetL, dAsg, dPar, dPar3, dAug, gIpI, dSeqI, gSeqI, dRngI, gRng1, gRng2, dCB, gAbs, gInt, gMax, gMin, gGcd, gLen, lenD, gIsi, tyM, tyD, dBits, gBits, dMet, gAppend, dPart, dNoPart, dSl, gSl_tup, gSl_lst, cut_1, dEnds, gIs, isB, dNever, dFor, dLc, wipeD, dYes,
  sizeLine_eq, Nat.reduceLeDiff, gEq_int, gNe_int, gEq_strs, gNe_strs, gIn_two, gRepr_bl, rs_lst, rs_tup, rs_scr, rs_int, atI_0, atI_1, atI_2, atI_3, atI_4, atI_5, ixN_30, ixN_31, ixN_32, gEq_bl, gNe_bl, decide_eq_true_eq, beq_iff_eq, Bool.not_eq_true', beq_eq_false_iff_ne, decide_eq_false_iff_not, Bool.not_true, Bool.not_false, if_true, if_false, Bool.false_eq_true, ite_true, ite_false, true_and, and_true, ne_eq, Bool.bne_false, Bool.bne_true, reduceCtorEq])
local macro_rules | `(tactic| walk_at "rh") => `(tactic| simp only [*, startD, List.map, List.replicate, List.length_cons, List.length_nil, List.append_eq, List.append_nil, List.nil_append, List.cons_append, Nat.reduceSub, Nat.reduceAdd, List.getElem?_cons_zero, List.getElem?_cons_succ, List.set_cons_zero, List.set_cons_succ,
  dC, dVar, dOp, dTru, gTru, tru, dChain, dAnd, dOr, dNot, dAndV, dOrV, dNotV, dIf, dNeg, gNeg, dNil, dCons, dTup, dLst, dOwn, gIx, rBin, gAdd, gCmpI, dCall, dCallK, dSeq, dNext, dDrop, dRet, dRetN, dIfS, dName, dGNil, dGCons, dGTup, dSub, gSetL, dAsg, dPar, dPar3, dAug, gIpI, dSeqI, gSeqI, dRngI, gRng1, gRng2, dCB, gAbs, gInt, gMax, gMin, gGcd, gLen, lenD, gIsi, tyM, tyD, dBits, gBits, dMet, gAppend, dPart, dNoPart, dSl, gSl_tup, gSl_lst, cut_1, dEnds, gIs, isB, dNever, dFor, dLc, wipeD, dYes,
  sizeLine_eq, Nat.reduceLeDiff, gEq_int, gNe_int, gEq_strs, gNe_strs, gIn_two, gRepr_bl, rs_lst, rs_tup, rs_scr, rs_int, atI_0, atI_1, atI_2, atI_3, atI_4, atI_5, ixN_30, ixN_31, ixN_32, gEq_bl, gNe_bl, decide_eq_true_eq, beq_iff_eq, Bool.not_eq_true', beq_eq_false_iff_ne, decide_eq_false_iff_not, Bool.not_true, Bool.not_false, if_true, if_false, Bool.false_eq_true, ite_true, ite_false, true_and, and_true, ne_eq, Bool.bne_false, Bool.bne_true, reduceCtorEq])
local macro_rules | `(tactic| walk_at "kb") => `(tactic| simp only [kb_NoneType_list, kb_bool_list, kb_int_list, kb_str_list, kb_tuple_list, kb_list_list, kb_dict_list, kb_NoneType_int, kb_bool_int, kb_int_int, kb_str_int, kb_tuple_int, kb_list_int, kb_dict_int, kb_NoneType_bool, kb_bool_bool, kb_int_bool, kb_str_bool, kb_tuple_bool, kb_list_bool, kb_dict_bool, kb_NoneType_tuple, kb_bool_tuple, kb_int_tuple, kb_str_tuple, kb_tuple_tuple, kb_list_tuple, kb_dict_tuple, if_true, if_false, Bool.false_eq_true, ite_true, ite_false, Bool.not_true, Bool.not_false])
/-! ### columns of a deed's table, led down -/
/-! ### x in l -/
end DL
/-! MF: the deed that leads back; plain -/
namespace DL
/-- (p1, q1) is the deed of (a', w, g, _) that undoes (p, q) at (a, b, c, e) -/
structure IsBack (a b c e p q a' w g p1 q1 : Int) : Prop where
  nq : q1 * g = q * c
  lo : 0 ≤ p1
  hi : p1 < q1 * (g / (Int.gcd w g : Int))
  ex : ∃ x z t : Int, p * z - q * x = 1 ∧ (-p1) * (p * b + q * a) + t * (q * c) = g ∧ g ∣ (-p1) * (x * b + z * a + e + q * c) + t * (z * c) + a'
theorem wide_of {a b c e p q w g x z : Int} (hw : w * g = c * (b - q * e - q * q * c)) (hr : p * z - q * x = 1) : (p * b + q * a) * (z * c) - (q * c) * (x * b + z * a + e + q * c) = w * g := by
  have h1 : (p * b + q * a) * (z * c) - (q * c) * (x * b + z * a + e + q * c) = c * (b * (p * z - q * x) - q * e - q * q * c) := by grind
  rw [h1, hr, Int.mul_one, hw]
theorem lot_mul {w g : Int} (hg : 0 < g) : ∃ w' lot : Int, w = (Int.gcd w g : Int) * w' ∧ g = (Int.gcd w g : Int) * lot ∧ g / (Int.gcd w g : Int) = lot ∧ 0 < lot ∧ lot * w = g * w' ∧ (Int.gcd w' lot : Int) = 1 := by
  have G0 : 0 < (Int.gcd w g : Int) := by
    have := Int.gcd_pos_of_ne_zero_right w (show g ≠ 0 by omega)
    omega
  obtain ⟨w', hw⟩ := Int.gcd_dvd_left w g
  obtain ⟨lot, hl⟩ := Int.gcd_dvd_right w g
  have e1 : g / (Int.gcd w g : Int) = lot := by
    have : g / (Int.gcd w g : Int) = ((Int.gcd w g : Int) * lot) / (Int.gcd w g : Int) := by rw [← hl]
    rw [this]; exact Int.mul_ediv_cancel_left _ (by omega)
  refine ⟨w', lot, hw, hl, e1, ?_, ?_, gcd_quot rfl G0 hw hl⟩
  · rw [← e1]; exact Int.ediv_pos_of_pos_of_dvd hg (by omega) (Int.gcd_dvd_right _ _)
  · generalize (Int.gcd w g : Int) = G at *
    subst hw
    rw [hl]; grind
/-- what the program's columns give -/
theorem back_of {a b c e p q a' w g x z f s t m n : Int} (hq : 1 ≤ q) (hc : 1 ≤ c) (hg : 0 < g) (hwi : w * g = c * (b - q * e - q * q * c)) (row : p * z - q * x = 1) (im : p * b + q * a = g * m) (jn : q * c = g * n)
    (bz : f * (p * b + q * a) + s * (q * c) = g) (tr : -(f * (x * b + z * a + e + q * c) + s * (z * c)) = a' + t * g) : IsBack a b c e p q a' w g ((-f) % (n * (g / (Int.gcd w g : Int)))) n := by
  obtain ⟨w', lot, e1, e2, e3, e4, e5, e6⟩ := lot_mul (w := w) hg
  have hn : 0 < n := by
    have h1 : 0 < q * c := Int.mul_pos (by omega) (by omega)
    rw [jn] at h1
    exact Int.pos_of_mul_pos_right h1 (by omega)
  have hN : 0 < n * lot := Int.mul_pos hn e4
  rw [e3]
  refine ⟨by rw [jn, Int.mul_comm], Int.emod_nonneg _ (by omega), by rw [e3]; exact Int.emod_lt_of_pos _ hN, x, z, s - ((-f) / (n * lot)) * m * lot, row, ?_, ?_⟩
  · have hd := Int.mul_ediv_add_emod (-f) (n * lot)
    generalize (-f) / (n * lot) = k at *
    have en : -((-f) % (n * lot)) = f + k * (n * lot) := by rw [Int.mul_comm k]; omega
    rw [en]
    have : (f + k * (n * lot)) * (p * b + q * a) + (s - k * m * lot) * (q * c) = (f * (p * b + q * a) + s * (q * c)) + k * lot * (n * (p * b + q * a) - m * (q * c)) := by grind
    rw [this, bz, im, jn]
    grind
  · have hd := Int.mul_ediv_add_emod (-f) (n * lot)
    generalize (-f) / (n * lot) = k at *
    have en : -((-f) % (n * lot)) = f + k * (n * lot) := by rw [Int.mul_comm k]; omega
    rw [en]
    have hwide := wide_of (a := a) hwi row
    have hn2 : m * (z * c) - n * (x * b + z * a + e + q * c) = w := by
      refine Int.eq_of_mul_eq_mul_right (show g ≠ 0 by omega) ?_
      have : (m * (z * c) - n * (x * b + z * a + e + q * c)) * g = (g * m) * (z * c) - (g * n) * (x * b + z * a + e + q * c) := by grind
      rw [this, ← im, ← jn, hwide]
    have : (f + k * (n * lot)) * (x * b + z * a + e + q * c) + (s - k * m * lot) * (z * c) + a' = (f * (x * b + z * a + e + q * c) + s * (z * c) + a') - k * lot * (m * (z * c) - n * (x * b + z * a + e + q * c)) := by grind
    rw [this, hn2]
    have h3 := tr
    have h4 : f * (x * b + z * a + e + q * c) + s * (z * c) + a' = g * (-t) := by rw [Int.mul_neg, Int.mul_comm g]; omega
    rw [h4, show k * lot * w = k * (lot * w) from Int.mul_assoc _ _ _, e5]
    exact Int.dvd_sub (Int.dvd_mul_right _ _) ⟨k * w', by grind⟩
theorem back_of_full {a b c e p q a' w g e' x z f s t m n : Int} (hq : 1 ≤ q) (hc : 1 ≤ c) (h : Full a b c e p q a' w g e' x z f s t m n) : IsBack a b c e p q a' w g ((-f) % (n * (g / (Int.gcd w g : Int)))) n :=
  back_of hq hc h.g0 h.dn.wi h.row h.im h.jn h.bz h.tr
end DL
namespace DL
open PySem PySem.Spec PyProof.Rows L2
local macro_rules | `(tactic| walk_at "rd") => `(tactic| simp only [startD, List.map, List.replicate, List.length_cons, List.length_nil, List.append_eq, List.append_nil, List.nil_append, List.cons_append, Nat.reduceSub, Nat.reduceAdd, List.getElem?_cons_zero, List.getElem?_cons_succ, List.set_cons_zero, List.set_cons_succ,
  dC, dVar, dOp, dTru, gTru, tru, dChain, dAnd, dOr, dNot, dAndV, dOrV, dNotV, dIf, dNeg, gNeg, dNil, dCons, dTup, dLst, dOwn, gIx, rBin, gAdd, gCmpI, dCall, dCallK, dSeq, dNext, dDrop, dRet, dRetN, dIfS, dName, dGNil, dGCons, dGTup, dSub, gSetL, dAsg, dPar, dPar3, dAug, gIpI, dSeqI, gSeqI, dRngI, gRng1, gRng2, dCB, gAbs, gInt, gMax, gMin, gGcd, gLen, lenD, gIsi, tyM, tyD, dBits, gBits, dMet, gAppend, dPart, dNoPart, dSl, gSl_tup, gSl_lst, cut_1, dEnds, gIs, isB, dNever, dFor, dLc, wipeD, dYes,
  sizeLine_eq, Nat.reduceLeDiff, gEq_int, gNe_int, gEq_strs, gNe_strs, gIn_two, gRepr_bl, rs_lst, rs_tup, rs_scr, rs_int, atI_0, atI_1, atI_2, atI_3, atI_4, atI_5, ixN_30, ixN_31, ixN_32, gEq_bl, gNe_bl, decide_eq_true_eq, beq_iff_eq, Bool.not_eq_true', beq_eq_false_iff_ne, decide_eq_false_iff_not, Bool.not_true, Bool.not_false, if_true, if_false, Bool.false_eq_true, ite_true, ite_false, true_and, and_true, ne_eq, Bool.bne_false, Bool.bne_true, reduceCtorEq])
local macro_rules | `(tactic| walk_at "rh") => `(tactic| simp only [*, startD, List.map, List.replicate, List.length_cons, List.length_nil, List.append_eq, List.append_nil, List.nil_append, List.cons_append, Nat.reduceSub, Nat.reduceAdd, List.getElem?_cons_zero, List.getElem?_cons_succ, List.set_cons_zero, List.set_cons_succ,
  dC, dVar, dOp, dTru, gTru, tru, dChain, dAnd, dOr, dNot, dAndV, dOrV, dNotV, dIf, dNeg, gNeg, dNil, dCons, dTup, dLst, dOwn, gIx, rBin, gAdd, gCmpI, dCall, dCallK, dSeq, dNext, dDrop, dRet, dRetN, dIfS, dName, dGNil, dGCons, dGTup, dSub, gSetL, dAsg, dPar, dPar3, dAug, gIpI, dSeqI, gSeqI, dRngI, gRng1, gRng2, dCB, gAbs, gInt, gMax, gMin, gGcd, gLen, lenD, gIsi, tyM, tyD, dBits, gBits, dMet, gAppend, dPart, dNoPart, dSl, gSl_tup, gSl_lst, cut_1, dEnds, gIs, isB, dNever, dFor, dLc, wipeD, dYes,
  sizeLine_eq, Nat.reduceLeDiff, gEq_int, gNe_int, gEq_strs, gNe_strs, gIn_two, gRepr_bl, rs_lst, rs_tup, rs_scr, rs_int, atI_0, atI_1, atI_2, atI_3, atI_4, atI_5, ixN_30, ixN_31, ixN_32, gEq_bl, gNe_bl, decide_eq_true_eq, beq_iff_eq, Bool.not_eq_true', beq_eq_false_iff_ne, decide_eq_false_iff_not, Bool.not_true, Bool.not_false, if_true, if_false, Bool.false_eq_true, ite_true, ite_false, true_and, and_true, ne_eq, Bool.bne_false, Bool.bne_true, reduceCtorEq])
local macro_rules | `(tactic| walk_at "kb") => `(tactic| simp only [kb_NoneType_list, kb_bool_list, kb_int_list, kb_str_list, kb_tuple_list, kb_list_list, kb_dict_list, kb_NoneType_int, kb_bool_int, kb_int_int, kb_str_int, kb_tuple_int, kb_list_int, kb_dict_int, kb_NoneType_bool, kb_bool_bool, kb_int_bool, kb_str_bool, kb_tuple_bool, kb_list_bool, kb_dict_bool, kb_NoneType_tuple, kb_bool_tuple, kb_int_tuple, kb_str_tuple, kb_tuple_tuple, kb_list_tuple, kb_dict_tuple, if_true, if_false, Bool.false_eq_true, ite_true, ite_false, Bool.not_true, Bool.not_false])
theorem toPy_tupE {l : List D} {p : PyData} (h : toPy (.tup l) = some p) : ∃ ps, toPyAll l = some ps ∧ p = .tuple ps := by
  unfold toPy at h
  cases hl : toPyAll l with
  | none => rw [hl] at h; cases h
  | some ps => rw [hl] at h; cases h; exact ⟨ps, rfl, rfl⟩
theorem toPy_lstE {l : List D} {p : PyData} (h : toPy (.lst l) = some p) : ∃ ps, toPyAll l = some ps ∧ p = .list ps := by
  unfold toPy at h
  cases hl : toPyAll l with
  | none => rw [hl] at h; cases h
  | some ps => rw [hl] at h; cases h; exact ⟨ps, rfl, rfl⟩
theorem toPyAll_cons {d : D} {ds : List D} {ps : List PyData} (h : toPyAll (d :: ds) = some ps) : ∃ p qs, toPy d = some p ∧ toPyAll ds = some qs ∧ ps = p :: qs := by
  unfold toPyAll at h
  cases h1 : toPy d with
  | none => rw [h1] at h; cases h
  | some p =>
    cases h2 : toPyAll ds with
    | none => rw [h1, h2] at h; cases h
    | some qs => rw [h1, h2] at h; cases h; exact ⟨p, qs, rfl, rfl, rfl⟩
theorem toPy_non {d : D}  {p : PyData} (h : toPy d = some p) (e : p = .none) : d = .non := by
  cases d with
  | non => subst e; first | (cases h; done) | (cases h; rfl)
  | bl b => subst e; first | (cases h; done) | (cases h; rfl)
  | int i => subst e; first | (cases h; done) | (cases h; rfl)
  | str x => subst e; first | (cases h; done) | (cases h; rfl)
  | dct0 => subst e; first | (cases h; done) | (cases h; rfl)
  | scr ns => subst e; first | (cases h; done) | (cases h; rfl)
  | own k => subst e; first | (cases h; done) | (cases h; rfl)
  | exc C d => subst e; first | (cases h; done) | (cases h; rfl)
  | glb x => subst e; first | (cases h; done) | (cases h; rfl)
  | val v => subst e; first | (cases h; done) | (cases h; rfl)
  | tup l => obtain ⟨ps, h1, h2⟩ := toPy_tupE h; subst e; first | (cases h2; done) | (cases h2; exact ⟨l, rfl, h1⟩)
  | lst l => obtain ⟨ps, h1, h2⟩ := toPy_lstE h; subst e; first | (cases h2; done) | (cases h2; exact ⟨l, rfl, h1⟩)
theorem toPy_bl {d : D} {b : Bool} {p : PyData} (h : toPy d = some p) (e : p = .bool b) : d = .bl b := by
  cases d with
  | non => subst e; first | (cases h; done) | (cases h; rfl)
  | bl b => subst e; first | (cases h; done) | (cases h; rfl)
  | int i => subst e; first | (cases h; done) | (cases h; rfl)
  | str x => subst e; first | (cases h; done) | (cases h; rfl)
  | dct0 => subst e; first | (cases h; done) | (cases h; rfl)
  | scr ns => subst e; first | (cases h; done) | (cases h; rfl)
  | own k => subst e; first | (cases h; done) | (cases h; rfl)
  | exc C d => subst e; first | (cases h; done) | (cases h; rfl)
  | glb x => subst e; first | (cases h; done) | (cases h; rfl)
  | val v => subst e; first | (cases h; done) | (cases h; rfl)
  | tup l => obtain ⟨ps, h1, h2⟩ := toPy_tupE h; subst e; first | (cases h2; done) | (cases h2; exact ⟨l, rfl, h1⟩)
  | lst l => obtain ⟨ps, h1, h2⟩ := toPy_lstE h; subst e; first | (cases h2; done) | (cases h2; exact ⟨l, rfl, h1⟩)
theorem toPy_int {d : D} {i : Int} {p : PyData} (h : toPy d = some p) (e : p = .int i) : d = .int i := by
  cases d with
  | non => subst e; first | (cases h; done) | (cases h; rfl)
  | bl b => subst e; first | (cases h; done) | (cases h; rfl)
  | int i => subst e; first | (cases h; done) | (cases h; rfl)
  | str x => subst e; first | (cases h; done) | (cases h; rfl)
  | dct0 => subst e; first | (cases h; done) | (cases h; rfl)
  | scr ns => subst e; first | (cases h; done) | (cases h; rfl)
  | own k => subst e; first | (cases h; done) | (cases h; rfl)
  | exc C d => subst e; first | (cases h; done) | (cases h; rfl)
  | glb x => subst e; first | (cases h; done) | (cases h; rfl)
  | val v => subst e; first | (cases h; done) | (cases h; rfl)
  | tup l => obtain ⟨ps, h1, h2⟩ := toPy_tupE h; subst e; first | (cases h2; done) | (cases h2; exact ⟨l, rfl, h1⟩)
  | lst l => obtain ⟨ps, h1, h2⟩ := toPy_lstE h; subst e; first | (cases h2; done) | (cases h2; exact ⟨l, rfl, h1⟩)
theorem toPy_str {d : D} {x : Str} {p : PyData} (h : toPy d = some p) (e : p = .str x) : d = .str x := by
  cases d with
  | non => subst e; first | (cases h; done) | (cases h; rfl)
  | bl b => subst e; first | (cases h; done) | (cases h; rfl)
  | int i => subst e; first | (cases h; done) | (cases h; rfl)
  | str x => subst e; first | (cases h; done) | (cases h; rfl)
  | dct0 => subst e; first | (cases h; done) | (cases h; rfl)
  | scr ns => subst e; first | (cases h; done) | (cases h; rfl)
  | own k => subst e; first | (cases h; done) | (cases h; rfl)
  | exc C d => subst e; first | (cases h; done) | (cases h; rfl)
  | glb x => subst e; first | (cases h; done) | (cases h; rfl)
  | val v => subst e; first | (cases h; done) | (cases h; rfl)
  | tup l => obtain ⟨ps, h1, h2⟩ := toPy_tupE h; subst e; first | (cases h2; done) | (cases h2; exact ⟨l, rfl, h1⟩)
  | lst l => obtain ⟨ps, h1, h2⟩ := toPy_lstE h; subst e; first | (cases h2; done) | (cases h2; exact ⟨l, rfl, h1⟩)
theorem toPy_list {d : D} {qs : List PyData} {p : PyData} (h : toPy d = some p) (e : p = .list qs) : ∃ l, d = .lst l ∧ toPyAll l = some qs := by
  cases d with
  | non => subst e; first | (cases h; done) | (cases h; rfl)
  | bl b => subst e; first | (cases h; done) | (cases h; rfl)
  | int i => subst e; first | (cases h; done) | (cases h; rfl)
  | str x => subst e; first | (cases h; done) | (cases h; rfl)
  | dct0 => subst e; first | (cases h; done) | (cases h; rfl)
  | scr ns => subst e; first | (cases h; done) | (cases h; rfl)
  | own k => subst e; first | (cases h; done) | (cases h; rfl)
  | exc C d => subst e; first | (cases h; done) | (cases h; rfl)
  | glb x => subst e; first | (cases h; done) | (cases h; rfl)
  | val v => subst e; first | (cases h; done) | (cases h; rfl)
  | tup l => obtain ⟨ps, h1, h2⟩ := toPy_tupE h; subst e; first | (cases h2; done) | (cases h2; exact ⟨l, rfl, h1⟩)
  | lst l => obtain ⟨ps, h1, h2⟩ := toPy_lstE h; subst e; first | (cases h2; done) | (cases h2; exact ⟨l, rfl, h1⟩)
theorem toPy_tuple {d : D} {qs : List PyData} {p : PyData} (h : toPy d = some p) (e : p = .tuple qs) : ∃ l, d = .tup l ∧ toPyAll l = some qs := by
  cases d with
  | non => subst e; first | (cases h; done) | (cases h; rfl)
  | bl b => subst e; first | (cases h; done) | (cases h; rfl)
  | int i => subst e; first | (cases h; done) | (cases h; rfl)
  | str x => subst e; first | (cases h; done) | (cases h; rfl)
  | dct0 => subst e; first | (cases h; done) | (cases h; rfl)
  | scr ns => subst e; first | (cases h; done) | (cases h; rfl)
  | own k => subst e; first | (cases h; done) | (cases h; rfl)
  | exc C d => subst e; first | (cases h; done) | (cases h; rfl)
  | glb x => subst e; first | (cases h; done) | (cases h; rfl)
  | val v => subst e; first | (cases h; done) | (cases h; rfl)
  | tup l => obtain ⟨ps, h1, h2⟩ := toPy_tupE h; subst e; first | (cases h2; done) | (cases h2; exact ⟨l, rfl, h1⟩)
  | lst l => obtain ⟨ps, h1, h2⟩ := toPy_lstE h; subst e; first | (cases h2; done) | (cases h2; exact ⟨l, rfl, h1⟩)
theorem toPy_dict {d : D} {qs : List (PyData × PyData)} {p : PyData} (h : toPy d = some p) (e : p = .dict qs) : d = .dct0 := by
  cases d with
  | non => subst e; first | (cases h; done) | (cases h; rfl)
  | bl b => subst e; first | (cases h; done) | (cases h; rfl)
  | int i => subst e; first | (cases h; done) | (cases h; rfl)
  | str x => subst e; first | (cases h; done) | (cases h; rfl)
  | dct0 => subst e; first | (cases h; done) | (cases h; rfl)
  | scr ns => subst e; first | (cases h; done) | (cases h; rfl)
  | own k => subst e; first | (cases h; done) | (cases h; rfl)
  | exc C d => subst e; first | (cases h; done) | (cases h; rfl)
  | glb x => subst e; first | (cases h; done) | (cases h; rfl)
  | val v => subst e; first | (cases h; done) | (cases h; rfl)
  | tup l => obtain ⟨ps, h1, h2⟩ := toPy_tupE h; subst e; first | (cases h2; done) | (cases h2; exact ⟨l, rfl, h1⟩)
  | lst l => obtain ⟨ps, h1, h2⟩ := toPy_lstE h; subst e; first | (cases h2; done) | (cases h2; exact ⟨l, rfl, h1⟩)
mutual
/-- data without truth values and dicts -/
def nb : PyData → Bool
  | .none => true
  | .int _ => true
  | .str _ => true
  | .list l => nbAll l
  | .tuple l => nbAll l
  | _ => false
def nbAll : List PyData → Bool
  | [] => true
  | d :: ds => nb d && nbAll ds
end
mutual
theorem eqv_iff : ∀ p q : PyData, nb p = true → nb q = true → (PyData.eqv p q = true ↔ p = q)
  | .none, .none, _, _ => by simp [PyData.eqv]
  | .none, .int _, _, _ => by simp [PyData.eqv]
  | .none, .str _, _, _ => by simp [PyData.eqv]
  | .none, .list _, _, _ => by simp [PyData.eqv]
  | .none, .tuple _, _, _ => by simp [PyData.eqv]
  | .int _, .none, _, _ => by simp [PyData.eqv]
  | .int _, .int _, _, _ => by simp [PyData.eqv]
  | .int _, .str _, _, _ => by simp [PyData.eqv]
  | .int _, .list _, _, _ => by simp [PyData.eqv]
  | .int _, .tuple _, _, _ => by simp [PyData.eqv]
  | .str _, .none, _, _ => by simp [PyData.eqv]
  | .str _, .int _, _, _ => by simp [PyData.eqv]
  | .str _, .str _, _, _ => by simp [PyData.eqv]
  | .str _, .list _, _, _ => by simp [PyData.eqv]
  | .str _, .tuple _, _, _ => by simp [PyData.eqv]
  | .list _, .none, _, _ => by simp [PyData.eqv]
  | .list _, .int _, _, _ => by simp [PyData.eqv]
  | .list _, .str _, _, _ => by simp [PyData.eqv]
  | .list xs, .list ys, h, g => by
    rw [PyData.eqv, eqv_iffAll xs ys (by simpa only [nb] using h) (by simpa only [nb] using g)]
    simp
  | .list _, .tuple _, _, _ => by simp [PyData.eqv]
  | .tuple _, .none, _, _ => by simp [PyData.eqv]
  | .tuple _, .int _, _, _ => by simp [PyData.eqv]
  | .tuple _, .str _, _, _ => by simp [PyData.eqv]
  | .tuple _, .list _, _, _ => by simp [PyData.eqv]
  | .tuple xs, .tuple ys, h, g => by
    rw [PyData.eqv, eqv_iffAll xs ys (by simpa only [nb] using h) (by simpa only [nb] using g)]
    simp
  | .bool _, _, h, _ => by simp [nb] at h
  | .dict _, _, h, _ => by simp [nb] at h
  | _, .bool _, _, h => by simp [nb] at h
  | _, .dict _, _, h => by simp [nb] at h
theorem eqv_iffAll : ∀ ps qs : List PyData, nbAll ps = true → nbAll qs = true → (PyData.eqvAll ps qs = true ↔ ps = qs)
  | [], [], _, _ => by simp [PyData.eqvAll]
  | [], _ :: _, _, _ => by simp [PyData.eqvAll]
  | _ :: _, [], _, _ => by simp [PyData.eqvAll]
  | p :: ps, q :: qs, h, g => by
    have h' : nb p = true ∧ nbAll ps = true := by simpa only [nbAll, Bool.and_eq_true] using h
    have g' : nb q = true ∧ nbAll qs = true := by simpa only [nbAll, Bool.and_eq_true] using g
    rw [PyData.eqvAll, Bool.and_eq_true, eqv_iff p q h'.1 g'.1, eqv_iffAll ps qs h'.2 g'.2]
    simp
end
mutual
/-- .. among our data -/
def nbD : D → Bool
  | .non => true
  | .int _ => true
  | .str _ => true
  | .tup l => nbDAll l
  | .lst l => nbDAll l
  | _ => false
def nbDAll : List D → Bool
  | [] => true
  | d :: ds => nbD d && nbDAll ds
end
mutual
theorem nb_py : ∀ (d : D) (p : PyData), nbD d = true → toPy d = some p → nb p = true
  | .non, _, _, h => by cases h; rfl
  | .int _, _, _, h => by cases h; rfl
  | .str _, _, _, h => by cases h; rfl
  | .tup l, p, g, h => by
    unfold toPy at h
    cases hl : toPyAll l with
    | none => rw [hl] at h; cases h
    | some ps =>
      rw [hl] at h
      cases h
      simp only [nb]
      exact nb_pyAll l ps (by simpa only [nbD] using g) hl
  | .lst l, p, g, h => by
    unfold toPy at h
    cases hl : toPyAll l with
    | none => rw [hl] at h; cases h
    | some ps =>
      rw [hl] at h
      cases h
      simp only [nb]
      exact nb_pyAll l ps (by simpa only [nbD] using g) hl
  | .bl _, _, g, _ => by simp [nbD] at g
  | .dct0, _, g, _ => by simp [nbD] at g
  | .scr _, _, g, _ => by simp [nbD] at g
  | .own _, _, g, _ => by simp [nbD] at g
  | .exc _ _, _, g, _ => by simp [nbD] at g
  | .glb _, _, g, _ => by simp [nbD] at g
  | .val _, _, g, _ => by simp [nbD] at g
theorem nb_pyAll : ∀ (ds : List D) (ps : List PyData), nbDAll ds = true → toPyAll ds = some ps → nbAll ps = true
  | [], _, _, h => by cases h; rfl
  | d :: ds, ps, g, h => by
    have g' : nbD d = true ∧ nbDAll ds = true := by simpa only [nbDAll, Bool.and_eq_true] using g
    unfold toPyAll at h
    cases h1 : toPy d with
    | none => rw [h1] at h; cases h
    | some p =>
      cases h2 : toPyAll ds with
      | none => rw [h1, h2] at h; cases h
      | some ps' =>
        rw [h1, h2] at h
        cases h
        simp only [nbAll, Bool.and_eq_true]
        exact ⟨nb_py d p g'.1 h1, nb_pyAll ds ps' g'.2 h2⟩
end
mutual
theorem toPy_inj : ∀ (d d' : D) (p : PyData), toPy d = some p → toPy d' = some p → d = d'
  | d, d', .none, h, h' => by
    rw [toPy_non h rfl, toPy_non h' rfl]
  | d, d', .bool b, h, h' => by rw [toPy_bl h rfl, toPy_bl h' rfl]
  | d, d', .int i, h, h' => by rw [toPy_int h rfl, toPy_int h' rfl]
  | d, d', .str x, h, h' => by rw [toPy_str h rfl, toPy_str h' rfl]
  | d, d', .list ps, h, h' => by
    obtain ⟨l, rfl, e⟩ := toPy_list h rfl
    obtain ⟨l', rfl, e'⟩ := toPy_list h' rfl
    rw [toPy_injAll l l' ps e e']
  | d, d', .tuple ps, h, h' => by
    obtain ⟨l, rfl, e⟩ := toPy_tuple h rfl
    obtain ⟨l', rfl, e'⟩ := toPy_tuple h' rfl
    rw [toPy_injAll l l' ps e e']
  | d, d', .dict ps, h, h' => by rw [toPy_dict h rfl, toPy_dict h' rfl]
theorem toPy_injAll : ∀ (l l' : List D) (ps : List PyData), toPyAll l = some ps → toPyAll l' = some ps → l = l'
  | [], [], _, _, _ => rfl
  | [], d :: ds, ps, h, h' => by
    cases h
    obtain ⟨p, ps, h1, h2, e⟩ := toPyAll_cons h'
    cases e
  | d :: ds, [], ps, h, h' => by
    cases h'
    obtain ⟨p, ps, h1, h2, e⟩ := toPyAll_cons h
    cases e
  | d :: ds, d' :: ds', ps, h, h' => by
    obtain ⟨p, qs, h1, h2, rfl⟩ := toPyAll_cons h
    obtain ⟨p', qs', h1', h2', e⟩ := toPyAll_cons h'
    cases e
    rw [toPy_inj d d' p h1 h1', toPy_injAll ds ds' qs h2 h2']
end
/-- one datum among others -/
theorem gIn_iff {n : Nat} {neg : Bool} {d e : D} {l : List D} {M : Mem} {Q : DQ} (hr : res M e = .lst l) (fd : fine n d = true) (hf : fineAll n l = true) (g : nbD d = true) (gl : nbDAll l = true) (q : ∀ b, (b = true ↔ d ∈ l) → Q (.bl (b != neg)) M) (hn : n ≤ 60 := by decide) : gIn neg d e M Q := by
  have fl : fine (n + 1) (.lst l) = true := by simp only [fine]; exact hf
  obtain ⟨p, hp, cp⟩ := cmpd_fine fd (by omega)
  obtain ⟨pl, hpl, cpl⟩ := cmpd_fine fl (by omega)
  unfold gIn
  rw [res_fine fd, hr, cp, cpl]
  have hpl' := hpl
  unfold toPy at hpl'
  cases hps : toPyAll l with
  | none => rw [hps] at hpl'; cases hpl'
  | some ps =>
    rw [hps] at hpl'
    cases hpl'
    refine q _ ?_
    have np := nb_py d p g hp
    clear hpl cpl fl hf cp hr q
    induction l generalizing ps with
    | nil => cases hps; simp
    | cons x l ih =>
      obtain ⟨p', qs, h1, h2, rfl⟩ := toPyAll_cons hps
      have gl' : nbD x = true ∧ nbDAll l = true := by simpa only [nbDAll, Bool.and_eq_true] using gl
      rw [List.any_cons, Bool.or_eq_true, List.mem_cons]
      refine or_congr ?_ (ih gl'.2 _ h2)
      rw [eqv_iff p' p (nb_py x p' gl'.1 h1) np]
      refine ⟨fun e => ?_, fun e => ?_⟩
      · subst e; exact toPy_inj d x _ hp h1
      · subst e; rw [hp] at h1; exact (Option.some.inj h1).symm
def sp_back_by : DSp := fun ds M Q _ => ∃ a b c e p q : Int, ds = [T4 a b c e, .tup [.int p, .int q]] ∧ 1 ≤ q ∧ 1 ≤ c ∧ Int.gcd p q = 1 ∧ CutB 450 a b c e ∧ Bi 450 p ∧ Bi 450 q ∧
  ∀ a' w g e' p1 q1, IsDone a b c e p q a' w g e' → IsBack a b c e p q a' w g p1 q1 → Q (.tup [.int p1, .int q1]) M
theorem rd_back_by : ∀ ds M Q, ds.length = 2 → sp_back_by ds M Q DX0 → t_back_by sp_full_by sp_round_of (dEnds M Q) (startD 6 ds) M := by
  rintro _ M Q - ⟨a, b, c, e, p, q, rfl, q1, c1, hg, ⟨ba, bb, bc, be⟩, bp, bq, h⟩
  unfold t_back_by
  refine dSeq_open fun B hB => ?_
  walk_at "rd"
  refine ⟨a, b, c, e, p, q, rfl, q1, c1, hg, ⟨ba, bb, bc, be⟩, bp, bq, fun a' w g e' x z f s t m n hF bf bs => ?_⟩
  walk_at "rd"
  rw [← hB]
  clear hB B
  have g0 := hF.g0
  walk_at "rd"
  have hgd : g ∣ q * c := ⟨n, hF.jn⟩
  have hqc : 0 < q * c := Int.mul_pos (by omega) (by omega)
  have bg : Bi 1000 g := ((bq.mul bc).of_dvd' (by omega) hgd).mono
  have bn : Bi 1000 n := ((bq.mul bc).of_dvd' (by omega) ⟨g, by rw [hF.jn, Int.mul_comm]⟩).mono
  have hn : 0 < n := by
    rw [hF.jn] at hqc
    exact Int.pos_of_mul_pos_right hqc (by omega)
  obtain ⟨l1, l2⟩ := lot_le (b := w) (show 1 ≤ g by omega)
  have bl : Bi 1000 (g / (Int.gcd w g : Int)) := by unfold Bi at bg ⊢; omega
  refine ⟨a', w, g, e', rfl, by omega, bg, ?_⟩
  dsimp only
  rw [Int.neg_neg]
  have hN : 0 < n * (g / (Int.gcd w g : Int)) := Int.mul_pos hn (by omega)
  refine ⟨⟨bn.sm, bl.sm⟩, Int.ne_of_gt hN, rtq ?_⟩
  rw [fmod_pos hN]
  exact h _ _ _ _ _ _ hF.dn (back_of_full q1 c1 hF)
end DL
/-! MG: how many numbers below n are free of n; plain -/
namespace DL
open Classical in
noncomputable def cnt (n : Nat) (P : Nat → Prop) : Nat := (List.range n).countP fun i => decide (P i)
open Classical in
theorem cnt_congr {n : Nat} {P Q : Nat → Prop} (h : ∀ i, i < n → (P i ↔ Q i)) : cnt n P = cnt n Q := by
  unfold cnt
  refine List.countP_congr fun i hi => ?_
  rw [decide_eq_true_iff, decide_eq_true_iff]
  exact h i (List.mem_range.mp hi)
/-- no divisor of n below k divides i -/
def Free (n k i : Nat) : Prop := ∀ d, 2 ≤ d → d < k → d ∣ n → ¬ d ∣ i
noncomputable def phi (n : Nat) : Nat := cnt n fun i => Nat.gcd i n = 1
theorem free_gcd {n k i : Nat} (hn : 1 ≤ n) (hk : n < k) : Free n k i ↔ Nat.gcd i n = 1 := by
  constructor
  · intro h
    have g0 : 0 < Nat.gcd i n := Nat.gcd_pos_of_pos_right _ (by omega)
    have g1 : Nat.gcd i n ≤ n := Nat.le_of_dvd (by omega) (Nat.gcd_dvd_right _ _)
    by_cases z : Nat.gcd i n = 1
    · exact z
    · exact (h (Nat.gcd i n) (by omega) (by omega) (Nat.gcd_dvd_right _ _) (Nat.gcd_dvd_left _ _)).elim
  · intro h d d2 _ dn di
    have := Nat.dvd_gcd di dn
    rw [h] at this
    have := Nat.le_of_dvd (by decide) this
    omega
/-- the state of the reckoning -/
structure Fst (n k left c : Nat) : Prop where
  l1 : 1 ≤ left
  ln : left ∣ n
  low : ∀ d, 2 ≤ d → d < k → ¬ d ∣ left
  up : ∀ d, d ∣ n → (∀ e, 2 ≤ e → e < k → ¬ e ∣ d) → d ∣ left
  ct : c = cnt n (Free n k)
theorem Fst.no {n k left c : Nat} (hk : 2 ≤ k) (h : Fst n k left c) (hd : ¬ k ∣ left) : Fst n (k + 1) left c := by
  refine ⟨h.l1, h.ln, fun d d2 d3 => ?_, fun d d1 d2 => h.up d d1 fun e e1 e2 => d2 e e1 (by omega), ?_⟩
  · by_cases z : d = k
    · subst z; exact hd
    · exact h.low d d2 (by omega)
  · rw [h.ct]
    refine cnt_congr fun i _ => ⟨fun f d d2 d3 dn di => ?_, fun f d d2 d3 => f d d2 (by omega)⟩
    by_cases z : d = k
    · subst z
      refine hd (h.up d dn fun e e2 e3 ed => ?_)
      exact f e e2 e3 (Nat.dvd_trans ed dn) (Nat.dvd_trans ed di)
    · exact f d d2 (by omega) dn di
open Classical in
theorem Fst.start {n : Nat} (hn : 1 ≤ n) : Fst n 2 n n := by
  refine ⟨hn, Nat.dvd_refl _, fun d d2 d3 => by omega, fun d h _ => h, ?_⟩
  unfold cnt
  rw [List.countP_eq_length.mpr, List.length_range]
  intro i _
  rw [decide_eq_true_iff]
  intro d d2 d3
  omega
theorem Fst.done {n k left c : Nat} (hn : 1 ≤ n) (hk : n < k) (h : Fst n k left c) : c = phi n := by
  rw [h.ct]
  exact cnt_congr fun i _ => free_gcd hn hk
end DL
namespace DL
open PySem PySem.Spec PyProof.Rows L2
local macro_rules | `(tactic| walk_at "rd") => `(tactic| simp only [startD, List.map, List.replicate, List.length_cons, List.length_nil, List.append_eq, List.append_nil, List.nil_append, List.cons_append, Nat.reduceSub, Nat.reduceAdd, List.getElem?_cons_zero, List.getElem?_cons_succ, List.set_cons_zero, List.set_cons_succ,
  dC, dVar, dOp, dTru, gTru, tru, dChain, dAnd, dOr, dNot, dAndV, dOrV, dNotV, dIf, dNeg, gNeg, dNil, dCons, dTup, dLst, dOwn, gIx, rBin, gAdd, gCmpI, dCall, dCallK, dSeq, dNext, dDrop, dRet, dRetN, dIfS, dName, dGNil, dGCons, dGTup, dSub, gSetL, dAsg, dPar, dPar3, dAug, gIpI, dSeqI, gSeqI, dRngI, gRng1, gRng2, dCB, gAbs, gInt, gMax, gMin, gGcd, gLen, lenD, gIsi, tyM, tyD, dBits, gBits, dMet, gAppend, dPart, dNoPart, dSl, gSl_tup, gSl_lst, cut_1, dEnds, gIs, isB, dNever, dFor, dLc, wipeD, dYes,
  sizeLine_eq, Nat.reduceLeDiff, gEq_int, gNe_int, gEq_strs, gNe_strs, gIn_two, gRepr_bl, rs_lst, rs_tup, rs_scr, rs_int, atI_0, atI_1, atI_2, atI_3, atI_4, atI_5, ixN_30, ixN_31, ixN_32, gEq_bl, gNe_bl, decide_eq_true_eq, beq_iff_eq, Bool.not_eq_true', beq_eq_false_iff_ne, decide_eq_false_iff_not, Bool.not_true, Bool.not_false, if_true, if_false, Bool.false_eq_true, ite_true, ite_false, true_and, and_true, ne_eq, Bool.bne_false, Bool.bne_true, reduceCtorEq])
local macro_rules | `(tactic| walk_at "rh") => `(tactic| simp only [*, startD, List.map, List.replicate, List.length_cons, List.length_nil, List.append_eq, List.append_nil, List.nil_append, List.cons_append, Nat.reduceSub, Nat.reduceAdd, List.getElem?_cons_zero, List.getElem?_cons_succ, List.set_cons_zero, List.set_cons_succ,
  dC, dVar, dOp, dTru, gTru, tru, dChain, dAnd, dOr, dNot, dAndV, dOrV, dNotV, dIf, dNeg, gNeg, dNil, dCons, dTup, dLst, dOwn, gIx, rBin, gAdd, gCmpI, dCall, dCallK, dSeq, dNext, dDrop, dRet, dRetN, dIfS, dName, dGNil, dGCons, dGTup, dSub, gSetL, dAsg, dPar, dPar3, dAug, gIpI, dSeqI, gSeqI, dRngI, gRng1, gRng2, dCB, gAbs, gInt, gMax, gMin, gGcd, gLen, lenD, gIsi, tyM, tyD, dBits, gBits, dMet, gAppend, dPart, dNoPart, dSl, gSl_tup, gSl_lst, cut_1, dEnds, gIs, isB, dNever, dFor, dLc, wipeD, dYes,
  sizeLine_eq, Nat.reduceLeDiff, gEq_int, gNe_int, gEq_strs, gNe_strs, gIn_two, gRepr_bl, rs_lst, rs_tup, rs_scr, rs_int, atI_0, atI_1, atI_2, atI_3, atI_4, atI_5, ixN_30, ixN_31, ixN_32, gEq_bl, gNe_bl, decide_eq_true_eq, beq_iff_eq, Bool.not_eq_true', beq_eq_false_iff_ne, decide_eq_false_iff_not, Bool.not_true, Bool.not_false, if_true, if_false, Bool.false_eq_true, ite_true, ite_false, true_and, and_true, ne_eq, Bool.bne_false, Bool.bne_true, reduceCtorEq])
local macro_rules | `(tactic| walk_at "kb") => `(tactic| simp only [kb_NoneType_list, kb_bool_list, kb_int_list, kb_str_list, kb_tuple_list, kb_list_list, kb_dict_list, kb_NoneType_int, kb_bool_int, kb_int_int, kb_str_int, kb_tuple_int, kb_list_int, kb_dict_int, kb_NoneType_bool, kb_bool_bool, kb_int_bool, kb_str_bool, kb_tuple_bool, kb_list_bool, kb_dict_bool, kb_NoneType_tuple, kb_bool_tuple, kb_int_tuple, kb_str_tuple, kb_tuple_tuple, kb_list_tuple, kb_dict_tuple, if_true, if_false, Bool.false_eq_true, ite_true, ite_false, Bool.not_true, Bool.not_false])
/-- how far the deeds reach at measures to 600 -/
theorem allowed_qc {a b c e q : Int} (h : isCut a b c e = true) (hm : meas4 b c e ≤ 600) (hq : 1 ≤ q) (hal : 0 < b - q * e - q * q * c) : 1 ≤ q * c ∧ q * c ≤ 24 ∧ q ≤ 24 := by
  obtain ⟨k1, k2, k3, k4, k5, k6, k7, k8⟩ := cut600 h hm
  have h1 : 1 * 1 ≤ q * c := Int.mul_le_mul hq k3 (by decide) (by omega)
  have h2 : q * 1 ≤ q * c := Int.mul_le_mul_of_nonneg_left k3 (by omega)
  have h3 : q * c ≤ 24 := by
    by_cases z : q * c ≤ 24
    · exact z
    · have e1 : 0 < c * (b - q * e - q * q * c) := Int.mul_pos (by omega) hal
      have e2 : c * (b - q * e - q * q * c) = b * c - (q * c) * e - (q * c) * (q * c) := by grind
      have e3 : (2 * (q * c) + e) * (2 * (q * c) + e) = e * e + 4 * ((q * c) * e + (q * c) * (q * c)) := by grind
      have e4 : 26 * 26 ≤ (2 * (q * c) + e) * (2 * (q * c) + e) := Int.mul_le_mul (by omega) (by omega) (by decide) (by omega)
      unfold meas4 at hm
      have e5 : 4 * b * c = 4 * (b * c) := Int.mul_assoc _ _ _
      omega
  omega
theorem CovD.count {b c e k : Int} {l l' : List (List Int)} (hb : 1 ≤ b) (hc : 1 ≤ c) (hk : 1 ≤ k) (h : CovD b c e l k) (hn : ¬ 0 < b - k * e - k * k * c) (g : AllD b c e l') : l'.length = l.length := by
  refine (List.perm_ext_iff_of_nodup g.nd h.1).mpr (fun x => ?_) |>.length_eq
  rw [g.mem, h.2]
  constructor
  · rintro ⟨p, q, rfl, h1⟩
    refine ⟨p, q, rfl, h1, ?_⟩
    by_cases z : q < k
    · exact z
    · exact (hn (allowed_mono hb hc hk (by omega) (isDeed_parts h1).1.al)).elim
  · rintro ⟨p, q, rfl, h1, _⟩; exact ⟨p, q, rfl, h1⟩
/-- a run through the deeds -/
theorem cov_run {a b c e : Int} (hcut : isCut a b c e = true) (hm : meas4 b c e ≤ 600) : ∀ (n k : Nat) (l : List (List Int)), 25 - k ≤ n → 1 ≤ k → k ≤ 25 → CovD b c e l k → l.length ≤ 24 * (k - 1) → ∃ (l' : List (List Int)) (k' : Nat), CovD b c e l' k' ∧ 1 ≤ k' ∧ ¬ 0 < b - (k' : Int) * e - k' * k' * c ∧ l'.length ≤ 600
  | n, k, l, hn, h1, h2, hc, hl => by
    by_cases hal : 0 < b - (k : Int) * e - k * k * c
    · obtain ⟨r1, r2, r3⟩ := allowed_qc hcut hm (by omega) hal
      obtain ⟨k1, k2, k3, _⟩ := cut600 hcut hm
      obtain ⟨l1, l2⟩ := lot_le (b := b) k3
      have hst := hc.step (by omega) hal
      have hr := rowD_len (N := ((k : Int) * (c / (Int.gcd b c : Int))).toNat) (q := (k : Int))
      have h3 : (k : Int) * (c / (Int.gcd b c : Int)) ≤ k * c := Int.mul_le_mul_of_nonneg_left l2 (by omega)
      match n, hn with
      | 0, hn => omega
      | n + 1, hn => exact cov_run hcut hm n (k + 1) _ (by omega) (by omega) (by omega) hst (by rw [List.length_append]; omega)
    · exact ⟨l, k, hc, h1, hal, by omega⟩
theorem AllD.small {a b c e : Int} {l : List (List Int)} (hcut : isCut a b c e = true) (hm : meas4 b c e ≤ 600) (h : AllD b c e l) : l.length ≤ 600 := by
  obtain ⟨k1, k2, k3, _⟩ := cut600 hcut hm
  obtain ⟨l', k', h1, h2, h3, h4⟩ := cov_run hcut hm 25 1 [] (by decide) (Nat.le_refl _) (by decide) ⟨List.nodup_nil, fun x => ⟨fun h => (by cases h), by
    rintro ⟨p, q, rfl, h1, h2⟩
    have := (isDeed_parts h1).1.q1
    omega⟩⟩ (Nat.zero_le _)
  rw [h1.count k2 k3 (by omega) h3 h]
  exact h4
end DL
/-! MH: mirrored cuttings, mirrored deeds; plain -/
namespace DL
end DL
namespace DL
open PySem PySem.Spec PyProof.Rows L2
local macro_rules | `(tactic| walk_at "rd") => `(tactic| simp only [startD, List.map, List.replicate, List.length_cons, List.length_nil, List.append_eq, List.append_nil, List.nil_append, List.cons_append, Nat.reduceSub, Nat.reduceAdd, List.getElem?_cons_zero, List.getElem?_cons_succ, List.set_cons_zero, List.set_cons_succ,
  dC, dVar, dOp, dTru, gTru, tru, dChain, dAnd, dOr, dNot, dAndV, dOrV, dNotV, dIf, dNeg, gNeg, dNil, dCons, dTup, dLst, dOwn, gIx, rBin, gAdd, gCmpI, dCall, dCallK, dSeq, dNext, dDrop, dRet, dRetN, dIfS, dName, dGNil, dGCons, dGTup, dSub, gSetL, dAsg, dPar, dPar3, dAug, gIpI, dSeqI, gSeqI, dRngI, gRng1, gRng2, dCB, gAbs, gInt, gMax, gMin, gGcd, gLen, lenD, gIsi, tyM, tyD, dBits, gBits, dMet, gAppend, dPart, dNoPart, dSl, gSl_tup, gSl_lst, cut_1, dEnds, gIs, isB, dNever, dFor, dLc, wipeD, dYes,
  sizeLine_eq, Nat.reduceLeDiff, gEq_int, gNe_int, gEq_strs, gNe_strs, gIn_two, gRepr_bl, rs_lst, rs_tup, rs_scr, rs_int, atI_0, atI_1, atI_2, atI_3, atI_4, atI_5, ixN_30, ixN_31, ixN_32, gEq_bl, gNe_bl, decide_eq_true_eq, beq_iff_eq, Bool.not_eq_true', beq_eq_false_iff_ne, decide_eq_false_iff_not, Bool.not_true, Bool.not_false, if_true, if_false, Bool.false_eq_true, ite_true, ite_false, true_and, and_true, ne_eq, Bool.bne_false, Bool.bne_true, reduceCtorEq])
local macro_rules | `(tactic| walk_at "rh") => `(tactic| simp only [*, startD, List.map, List.replicate, List.length_cons, List.length_nil, List.append_eq, List.append_nil, List.nil_append, List.cons_append, Nat.reduceSub, Nat.reduceAdd, List.getElem?_cons_zero, List.getElem?_cons_succ, List.set_cons_zero, List.set_cons_succ,
  dC, dVar, dOp, dTru, gTru, tru, dChain, dAnd, dOr, dNot, dAndV, dOrV, dNotV, dIf, dNeg, gNeg, dNil, dCons, dTup, dLst, dOwn, gIx, rBin, gAdd, gCmpI, dCall, dCallK, dSeq, dNext, dDrop, dRet, dRetN, dIfS, dName, dGNil, dGCons, dGTup, dSub, gSetL, dAsg, dPar, dPar3, dAug, gIpI, dSeqI, gSeqI, dRngI, gRng1, gRng2, dCB, gAbs, gInt, gMax, gMin, gGcd, gLen, lenD, gIsi, tyM, tyD, dBits, gBits, dMet, gAppend, dPart, dNoPart, dSl, gSl_tup, gSl_lst, cut_1, dEnds, gIs, isB, dNever, dFor, dLc, wipeD, dYes,
  sizeLine_eq, Nat.reduceLeDiff, gEq_int, gNe_int, gEq_strs, gNe_strs, gIn_two, gRepr_bl, rs_lst, rs_tup, rs_scr, rs_int, atI_0, atI_1, atI_2, atI_3, atI_4, atI_5, ixN_30, ixN_31, ixN_32, gEq_bl, gNe_bl, decide_eq_true_eq, beq_iff_eq, Bool.not_eq_true', beq_eq_false_iff_ne, decide_eq_false_iff_not, Bool.not_true, Bool.not_false, if_true, if_false, Bool.false_eq_true, ite_true, ite_false, true_and, and_true, ne_eq, Bool.bne_false, Bool.bne_true, reduceCtorEq])
local macro_rules | `(tactic| walk_at "kb") => `(tactic| simp only [kb_NoneType_list, kb_bool_list, kb_int_list, kb_str_list, kb_tuple_list, kb_list_list, kb_dict_list, kb_NoneType_int, kb_bool_int, kb_int_int, kb_str_int, kb_tuple_int, kb_list_int, kb_dict_int, kb_NoneType_bool, kb_bool_bool, kb_int_bool, kb_str_bool, kb_tuple_bool, kb_list_bool, kb_dict_bool, kb_NoneType_tuple, kb_bool_tuple, kb_int_tuple, kb_str_tuple, kb_tuple_tuple, kb_list_tuple, kb_dict_tuple, if_true, if_false, Bool.false_eq_true, ite_true, ite_false, Bool.not_true, Bool.not_false])
/-! calls whose answers are known -/
end DL
namespace DL
open PySem PySem.Spec PyProof.Rows L2
local macro_rules | `(tactic| walk_at "rd") => `(tactic| simp only [startD, List.map, List.replicate, List.length_cons, List.length_nil, List.append_eq, List.append_nil, List.nil_append, List.cons_append, Nat.reduceSub, Nat.reduceAdd, List.getElem?_cons_zero, List.getElem?_cons_succ, List.set_cons_zero, List.set_cons_succ,
  dC, dVar, dOp, dTru, gTru, tru, dChain, dAnd, dOr, dNot, dAndV, dOrV, dNotV, dIf, dNeg, gNeg, dNil, dCons, dTup, dLst, dOwn, gIx, rBin, gAdd, gCmpI, dCall, dCallK, dSeq, dNext, dDrop, dRet, dRetN, dIfS, dName, dGNil, dGCons, dGTup, dSub, gSetL, dAsg, dPar, dPar3, dAug, gIpI, dSeqI, gSeqI, dRngI, gRng1, gRng2, dCB, gAbs, gInt, gMax, gMin, gGcd, gLen, lenD, gIsi, tyM, tyD, dBits, gBits, dMet, gAppend, dPart, dNoPart, dSl, gSl_tup, gSl_lst, cut_1, dEnds, gIs, isB, dNever, dFor, dLc, wipeD, dYes,
  sizeLine_eq, Nat.reduceLeDiff, gEq_int, gNe_int, gEq_strs, gNe_strs, gIn_two, gRepr_bl, rs_lst, rs_tup, rs_scr, rs_int, atI_0, atI_1, atI_2, atI_3, atI_4, atI_5, ixN_30, ixN_31, ixN_32, gEq_bl, gNe_bl, decide_eq_true_eq, beq_iff_eq, Bool.not_eq_true', beq_eq_false_iff_ne, decide_eq_false_iff_not, Bool.not_true, Bool.not_false, if_true, if_false, Bool.false_eq_true, ite_true, ite_false, true_and, and_true, ne_eq, Bool.bne_false, Bool.bne_true, reduceCtorEq])
local macro_rules | `(tactic| walk_at "rh") => `(tactic| simp only [*, startD, List.map, List.replicate, List.length_cons, List.length_nil, List.append_eq, List.append_nil, List.nil_append, List.cons_append, Nat.reduceSub, Nat.reduceAdd, List.getElem?_cons_zero, List.getElem?_cons_succ, List.set_cons_zero, List.set_cons_succ,
  dC, dVar, dOp, dTru, gTru, tru, dChain, dAnd, dOr, dNot, dAndV, dOrV, dNotV, dIf, dNeg, gNeg, dNil, dCons, dTup, dLst, dOwn, gIx, rBin, gAdd, gCmpI, dCall, dCallK, dSeq, dNext, dDrop, dRet, dRetN, dIfS, dName, dGNil, dGCons, dGTup, dSub, gSetL, dAsg, dPar, dPar3, dAug, gIpI, dSeqI, gSeqI, dRngI, gRng1, gRng2, dCB, gAbs, gInt, gMax, gMin, gGcd, gLen, lenD, gIsi, tyM, tyD, dBits, gBits, dMet, gAppend, dPart, dNoPart, dSl, gSl_tup, gSl_lst, cut_1, dEnds, gIs, isB, dNever, dFor, dLc, wipeD, dYes,
  sizeLine_eq, Nat.reduceLeDiff, gEq_int, gNe_int, gEq_strs, gNe_strs, gIn_two, gRepr_bl, rs_lst, rs_tup, rs_scr, rs_int, atI_0, atI_1, atI_2, atI_3, atI_4, atI_5, ixN_30, ixN_31, ixN_32, gEq_bl, gNe_bl, decide_eq_true_eq, beq_iff_eq, Bool.not_eq_true', beq_eq_false_iff_ne, decide_eq_false_iff_not, Bool.not_true, Bool.not_false, if_true, if_false, Bool.false_eq_true, ite_true, ite_false, true_and, and_true, ne_eq, Bool.bne_false, Bool.bne_true, reduceCtorEq])
local macro_rules | `(tactic| walk_at "kb") => `(tactic| simp only [kb_NoneType_list, kb_bool_list, kb_int_list, kb_str_list, kb_tuple_list, kb_list_list, kb_dict_list, kb_NoneType_int, kb_bool_int, kb_int_int, kb_str_int, kb_tuple_int, kb_list_int, kb_dict_int, kb_NoneType_bool, kb_bool_bool, kb_int_bool, kb_str_bool, kb_tuple_bool, kb_list_bool, kb_dict_bool, kb_NoneType_tuple, kb_bool_tuple, kb_int_tuple, kb_str_tuple, kb_tuple_tuple, kb_list_tuple, kb_dict_tuple, if_true, if_false, Bool.false_eq_true, ite_true, ite_false, Bool.not_true, Bool.not_false])
/-! ### the sides of cuttings -/
/-! ### what the first numbers may be -/
/-! ### all turns -/
structure TurnsOK (m : Int) (l : List Int) : Prop where
  nd : l.Nodup
  bd : ∀ e ∈ l, -128 ≤ e ∧ e ≤ 128
  all : ∀ e : Int, e * e < m → (m - e) % 2 = 0 → e ∈ l
  len : l.length ≤ 260
theorem CovX.start {m : Int} {T : List Int} : CovX m [] fun _ e' => e' ∈ T.take 0 := CovX.nil fun a b c e _ _ h => by rw [List.take_zero] at h; cases h
theorem CovX.all {m : Int} {l : List (List Int)} {T : List Int} (h : CovX m l fun _ e' => e' ∈ T) (hT : TurnsOK m T) : CovX m l fun _ _ => True :=
  h.iff fun a b c e h1 h2 => ⟨fun _ => by
    obtain ⟨k1, k2, _⟩ := cut_parts h1
    have h3 := meas_bc.mp h2
    have h4 : 1 * 1 ≤ b * c := Int.mul_le_mul k1 k2 (by decide) (by omega)
    have h5 : (e - m) % 2 = 0 := by rw [← h2]; exact meas_par (a := a)
    exact hT.all e (by omega) (by omega), fun _ => trivial⟩
theorem CovX.len {m : Int} {l l' : List (List Int)} (h : CovX m l fun _ _ => True) (g : AllC m l') : l'.length = l.length := by
  refine ((List.perm_ext_iff_of_nodup g.nd h.1).mpr fun x => ?_).length_eq
  rw [g.mem, h.2]
  constructor
  · rintro ⟨a, b, c, e, rfl, h1, h2⟩; exact ⟨a, b, c, e, rfl, h1, h2, trivial⟩
  · rintro ⟨a, b, c, e, rfl, h1, h2, _⟩; exact ⟨a, b, c, e, rfl, h1, h2⟩
/-! ### how many cuttings there are -/
theorem CovX.same {m : Int} {l l' : List (List Int)} {P : Int → Int → Prop} (h : CovX m l P) (g : CovX m l' P) : l.length = l'.length :=
  ((List.perm_ext_iff_of_nodup h.1 g.1).mpr fun x => (h.2 x).trans (g.2 x).symm).length_eq
end DL
/-! MI: how many cuttings have a told last number; plain -/
namespace DL
end DL
namespace DL
open PySem PySem.Spec PyProof.Rows L2
local macro_rules | `(tactic| walk_at "rd") => `(tactic| simp only [startD, List.map, List.replicate, List.length_cons, List.length_nil, List.append_eq, List.append_nil, List.nil_append, List.cons_append, Nat.reduceSub, Nat.reduceAdd, List.getElem?_cons_zero, List.getElem?_cons_succ, List.set_cons_zero, List.set_cons_succ,
  dC, dVar, dOp, dTru, gTru, tru, dChain, dAnd, dOr, dNot, dAndV, dOrV, dNotV, dIf, dNeg, gNeg, dNil, dCons, dTup, dLst, dOwn, gIx, rBin, gAdd, gCmpI, dCall, dCallK, dSeq, dNext, dDrop, dRet, dRetN, dIfS, dName, dGNil, dGCons, dGTup, dSub, gSetL, dAsg, dPar, dPar3, dAug, gIpI, dSeqI, gSeqI, dRngI, gRng1, gRng2, dCB, gAbs, gInt, gMax, gMin, gGcd, gLen, lenD, gIsi, tyM, tyD, dBits, gBits, dMet, gAppend, dPart, dNoPart, dSl, gSl_tup, gSl_lst, cut_1, dEnds, gIs, isB, dNever, dFor, dLc, wipeD, dYes,
  sizeLine_eq, Nat.reduceLeDiff, gEq_int, gNe_int, gEq_strs, gNe_strs, gIn_two, gRepr_bl, rs_lst, rs_tup, rs_scr, rs_int, atI_0, atI_1, atI_2, atI_3, atI_4, atI_5, ixN_30, ixN_31, ixN_32, gEq_bl, gNe_bl, decide_eq_true_eq, beq_iff_eq, Bool.not_eq_true', beq_eq_false_iff_ne, decide_eq_false_iff_not, Bool.not_true, Bool.not_false, if_true, if_false, Bool.false_eq_true, ite_true, ite_false, true_and, and_true, ne_eq, Bool.bne_false, Bool.bne_true, reduceCtorEq])
local macro_rules | `(tactic| walk_at "rh") => `(tactic| simp only [*, startD, List.map, List.replicate, List.length_cons, List.length_nil, List.append_eq, List.append_nil, List.nil_append, List.cons_append, Nat.reduceSub, Nat.reduceAdd, List.getElem?_cons_zero, List.getElem?_cons_succ, List.set_cons_zero, List.set_cons_succ,
  dC, dVar, dOp, dTru, gTru, tru, dChain, dAnd, dOr, dNot, dAndV, dOrV, dNotV, dIf, dNeg, gNeg, dNil, dCons, dTup, dLst, dOwn, gIx, rBin, gAdd, gCmpI, dCall, dCallK, dSeq, dNext, dDrop, dRet, dRetN, dIfS, dName, dGNil, dGCons, dGTup, dSub, gSetL, dAsg, dPar, dPar3, dAug, gIpI, dSeqI, gSeqI, dRngI, gRng1, gRng2, dCB, gAbs, gInt, gMax, gMin, gGcd, gLen, lenD, gIsi, tyM, tyD, dBits, gBits, dMet, gAppend, dPart, dNoPart, dSl, gSl_tup, gSl_lst, cut_1, dEnds, gIs, isB, dNever, dFor, dLc, wipeD, dYes,
  sizeLine_eq, Nat.reduceLeDiff, gEq_int, gNe_int, gEq_strs, gNe_strs, gIn_two, gRepr_bl, rs_lst, rs_tup, rs_scr, rs_int, atI_0, atI_1, atI_2, atI_3, atI_4, atI_5, ixN_30, ixN_31, ixN_32, gEq_bl, gNe_bl, decide_eq_true_eq, beq_iff_eq, Bool.not_eq_true', beq_eq_false_iff_ne, decide_eq_false_iff_not, Bool.not_true, Bool.not_false, if_true, if_false, Bool.false_eq_true, ite_true, ite_false, true_and, and_true, ne_eq, Bool.bne_false, Bool.bne_true, reduceCtorEq])
local macro_rules | `(tactic| walk_at "kb") => `(tactic| simp only [kb_NoneType_list, kb_bool_list, kb_int_list, kb_str_list, kb_tuple_list, kb_list_list, kb_dict_list, kb_NoneType_int, kb_bool_int, kb_int_int, kb_str_int, kb_tuple_int, kb_list_int, kb_dict_int, kb_NoneType_bool, kb_bool_bool, kb_int_bool, kb_str_bool, kb_tuple_bool, kb_list_bool, kb_dict_bool, kb_NoneType_tuple, kb_bool_tuple, kb_int_tuple, kb_str_tuple, kb_tuple_tuple, kb_list_tuple, kb_dict_tuple, if_true, if_false, Bool.false_eq_true, ite_true, ite_false, Bool.not_true, Bool.not_false])
end DL
namespace DL
open PySem PySem.Spec PyProof.Rows L2
local macro_rules | `(tactic| walk_at "rd") => `(tactic| simp only [startD, List.map, List.replicate, List.length_cons, List.length_nil, List.append_eq, List.append_nil, List.nil_append, List.cons_append, Nat.reduceSub, Nat.reduceAdd, List.getElem?_cons_zero, List.getElem?_cons_succ, List.set_cons_zero, List.set_cons_succ,
  dC, dVar, dOp, dTru, gTru, tru, dChain, dAnd, dOr, dNot, dAndV, dOrV, dNotV, dIf, dNeg, gNeg, dNil, dCons, dTup, dLst, dOwn, gIx, rBin, gAdd, gCmpI, dCall, dCallK, dSeq, dNext, dDrop, dRet, dRetN, dIfS, dName, dGNil, dGCons, dGTup, dSub, gSetL, dAsg, dPar, dPar3, dAug, gIpI, dSeqI, gSeqI, dRngI, gRng1, gRng2, dCB, gAbs, gInt, gMax, gMin, gGcd, gLen, lenD, gIsi, tyM, tyD, dBits, gBits, dMet, gAppend, dPart, dNoPart, dSl, gSl_tup, gSl_lst, cut_1, dEnds, gIs, isB, dNever, dCallX, dRaise, dTry, dFld, dCallV, gLRng, gFrz, dFrz, dFor, dLc, wipeD, dYes,
  sizeLine_eq, Nat.reduceLeDiff, gEq_int, gNe_int, gEq_strs, gNe_strs, gIn_two, gRepr_bl, rs_lst, rs_tup, rs_scr, rs_int, atI_0, atI_1, atI_2, atI_3, atI_4, atI_5, ixN_30, ixN_31, ixN_32, gEq_bl, gNe_bl, decide_eq_true_eq, beq_iff_eq, Bool.not_eq_true', beq_eq_false_iff_ne, decide_eq_false_iff_not, Bool.not_true, Bool.not_false, if_true, if_false, Bool.false_eq_true, ite_true, ite_false, true_and, and_true, ne_eq, Bool.bne_false, Bool.bne_true, reduceCtorEq])
local macro_rules | `(tactic| walk_at "rh") => `(tactic| simp only [*, startD, List.map, List.replicate, List.length_cons, List.length_nil, List.append_eq, List.append_nil, List.nil_append, List.cons_append, Nat.reduceSub, Nat.reduceAdd, List.getElem?_cons_zero, List.getElem?_cons_succ, List.set_cons_zero, List.set_cons_succ,
  dC, dVar, dOp, dTru, gTru, tru, dChain, dAnd, dOr, dNot, dAndV, dOrV, dNotV, dIf, dNeg, gNeg, dNil, dCons, dTup, dLst, dOwn, gIx, rBin, gAdd, gCmpI, dCall, dCallK, dSeq, dNext, dDrop, dRet, dRetN, dIfS, dName, dGNil, dGCons, dGTup, dSub, gSetL, dAsg, dPar, dPar3, dAug, gIpI, dSeqI, gSeqI, dRngI, gRng1, gRng2, dCB, gAbs, gInt, gMax, gMin, gGcd, gLen, lenD, gIsi, tyM, tyD, dBits, gBits, dMet, gAppend, dPart, dNoPart, dSl, gSl_tup, gSl_lst, cut_1, dEnds, gIs, isB, dNever, dCallX, dRaise, dTry, dFld, dCallV, gLRng, gFrz, dFrz, dFor, dLc, wipeD, dYes,
  sizeLine_eq, Nat.reduceLeDiff, gEq_int, gNe_int, gEq_strs, gNe_strs, gIn_two, gRepr_bl, rs_lst, rs_tup, rs_scr, rs_int, atI_0, atI_1, atI_2, atI_3, atI_4, atI_5, ixN_30, ixN_31, ixN_32, gEq_bl, gNe_bl, decide_eq_true_eq, beq_iff_eq, Bool.not_eq_true', beq_eq_false_iff_ne, decide_eq_false_iff_not, Bool.not_true, Bool.not_false, if_true, if_false, Bool.false_eq_true, ite_true, ite_false, true_and, and_true, ne_eq, Bool.bne_false, Bool.bne_true, reduceCtorEq])
local macro_rules | `(tactic| walk_at "kb") => `(tactic| simp only [kb_NoneType_list, kb_bool_list, kb_int_list, kb_str_list, kb_tuple_list, kb_list_list, kb_dict_list, kb_NoneType_int, kb_bool_int, kb_int_int, kb_str_int, kb_tuple_int, kb_list_int, kb_dict_int, kb_NoneType_bool, kb_bool_bool, kb_int_bool, kb_str_bool, kb_tuple_bool, kb_list_bool, kb_dict_bool, kb_NoneType_tuple, kb_bool_tuple, kb_int_tuple, kb_str_tuple, kb_tuple_tuple, kb_list_tuple, kb_dict_tuple, if_true, if_false, Bool.false_eq_true, ite_true, ite_false, Bool.not_true, Bool.not_false])
/-! RdZ: the checks with their errors -/
theorem belowAll_mem {n : Nat} : ∀ {l : List D} {d : D}, belowAll n l = true → d ∈ l → below n d = true
  | [], _, _, h => by simp at h
  | x :: l, d, h, hd => by
    simp only [belowAll, Bool.and_eq_true] at h
    rcases List.mem_cons.mp hd with e | e
    · rw [e]; exact h.1
    · exact belowAll_mem h.2 e
def sp_check_measure_x : DSp := fun ds M Q E => ∃ d T, ds = [d] ∧ tyM M d = some T ∧ (isMeas d = true → Q .non M) ∧ (isMeas d = false → E "InvalidMeasure" d M)
theorem rd_check_measure_x : ∀ ds M Q E, ds.length = 1 → belowAll M.length ds = true → sp_check_measure_x ds M Q E → t_check_measure_x sp_is_measure (dOut M E) (dEnds M Q) (startD 1 ds) M := by
  rintro _ M Q E - hb ⟨d, T, rfl, ht, q, q2⟩
  unfold t_check_measure_x
  walk_at "rd"
  refine ⟨d, T, rfl, ht, ?_⟩
  cases h : isMeas d with
  | true => walk_at "rd"; exact rtq (q h)
  | false => walk_at "rd"; exact ⟨d, rfl, rtx (belowAll_mem hb (by simp)) (q2 h)⟩
/-- a whole number within bounds, each of which may be None -/
def numOk (d lo hi : D) : Bool := match d with
  | .int i => (match lo with | .int l => decide (l ≤ i) | _ => true) && (match hi with | .int h => decide (i ≤ h) | _ => true)
  | _ => false
def sp_check_number_x : DSp := fun ds M Q E => ∃ d lo hi T, ds = [d, lo, hi] ∧ tyM M d = some T ∧ (lo = .non ∨ ∃ l, lo = .int l) ∧ (hi = .non ∨ ∃ l, hi = .int l) ∧ (numOk d lo hi = true → Q .non M) ∧ (numOk d lo hi = false → E "InvalidNumber" d M)
theorem rd_check_number_x : ∀ ds M Q E, ds.length = 3 → belowAll M.length ds = true → sp_check_number_x ds M Q E → t_check_number_x sp_is_whole (dOut M E) (dEnds M Q) (startD 3 ds) M := by
  rintro _ M Q E - hb ⟨d, lo, hi, T, rfl, ht, h1, h2, q, q2⟩
  unfold t_check_number_x
  have hbd : below M.length d = true := belowAll_mem hb (by simp)
  walk_at "rd"
  refine ⟨d, T, rfl, ht, ?_⟩
  have bad : numOk d lo hi = false → (∃ x, [d] = [x] ∧ dOut M E [some d, some lo, some hi] "InvalidNumber" x M) := fun z => ⟨d, rfl, rtx hbd (q2 z)⟩
  cases hw : isW d with
  | false =>
    walk_at "rd"
    refine bad ?_
    cases d <;> first | rfl | cases hw
  | true =>
    cases d <;> first | cases hw | skip
    rename_i i
    rcases h1 with rfl | ⟨l, rfl⟩ <;> rcases h2 with rfl | ⟨l', rfl⟩
    · walk_at "rd"
      exact rtq (q rfl)
    · walk_at "rd"
      by_cases z : l' < i
      · rw [if_pos z]
        exact bad (by simp [numOk]; omega)
      · rw [if_neg z]
        exact rtq (q (by simp [numOk]; omega))
    · walk_at "rd"
      by_cases z : i < l
      · simp only [z, if_true]
        exact bad (by simp [numOk]; omega)
      · simp only [z, if_false]
        exact rtq (q (by simp [numOk]; omega))
    · walk_at "rd"
      by_cases z : i < l
      · simp only [z, if_true]
        exact bad (by simp [numOk]; omega)
      · simp only [z, if_false]
        by_cases z2 : l' < i
        · rw [if_pos z2]
          exact bad (by simp [numOk]; omega)
        · rw [if_neg z2]
          exact rtq (q (by simp [numOk]; omega))
/-! ### the heart's numbers -/
/-- e is one of the heart of m -/
def fits (m e : Int) : Bool := (e - m) % 2 == 0 && (decide (e * e < m) && decide ((e + 2) * (e + 2) < m))
theorem sq_lt_iff {m e : Int} (hm : 0 < m) : e * e < m ↔ (if isq m * isq m < m then 0 - isq m else 1 - isq m) ≤ e ∧ e ≤ -(if isq m * isq m < m then 0 - isq m else 1 - isq m) := by
  have r0 := isq_nn m
  have r1 := isq_le (Int.le_of_lt hm)
  have r2 := isq_lt (Int.le_of_lt hm)
  generalize isq m = r at *
  by_cases h : r * r < m
  · rw [if_pos h]
    constructor
    · intro h2
      have : e < r + 1 := Classical.byContradiction fun z => by
        have := Int.mul_le_mul (show r + 1 ≤ e by omega) (show r + 1 ≤ e by omega) (by omega) (by omega)
        omega
      have : -e < r + 1 := Classical.byContradiction fun z => by
        have := Int.mul_le_mul (show r + 1 ≤ -e by omega) (show r + 1 ≤ -e by omega) (by omega) (by omega)
        rw [Int.neg_mul_neg] at this
        omega
      omega
    · rintro ⟨h1, h2⟩
      by_cases he : 0 ≤ e
      · have := Int.mul_le_mul (show e ≤ r by omega) (show e ≤ r by omega) he r0
        omega
      · have := Int.mul_le_mul (show -e ≤ r by omega) (show -e ≤ r by omega) (by omega) r0
        rw [Int.neg_mul_neg] at this
        omega
  · rw [if_neg h]
    have hr : r * r = m := by omega
    constructor
    · intro h2
      have : e < r := Classical.byContradiction fun z => by
        have := Int.mul_le_mul (show r ≤ e by omega) (show r ≤ e by omega) (by omega) (by omega)
        omega
      have : -e < r := Classical.byContradiction fun z => by
        have := Int.mul_le_mul (show r ≤ -e by omega) (show r ≤ -e by omega) (by omega) (by omega)
        rw [Int.neg_mul_neg] at this
        omega
      omega
    · rintro ⟨h1, h2⟩
      have hr1 : 0 < r := by
        rcases Int.lt_or_eq_of_le r0 with z | z
        · exact z
        · rw [← z] at hr; omega
      by_cases he : 0 ≤ e
      · have h3 := Int.mul_le_mul (show e ≤ r - 1 by omega) (show e ≤ r - 1 by omega) he (by omega)
        have h4 : (r - 1) * (r - 1) = r * r - 2 * r + 1 := by grind
        omega
      · have h3 := Int.mul_le_mul (show -e ≤ r - 1 by omega) (show -e ≤ r - 1 by omega) (by omega) (by omega)
        rw [Int.neg_mul_neg] at h3
        have h4 : (r - 1) * (r - 1) = r * r - 2 * r + 1 := by grind
        omega
theorem fits_iff {m e : Int} (hm : 0 < m) : fits m e = true ↔ (e - m) % 2 = 0 ∧ hLow m ≤ e ∧ e ≤ hHigh m := by
  unfold fits
  simp only [Bool.and_eq_true, beq_iff_eq, decide_eq_true_eq]
  have a1 := sq_lt_iff (e := e) hm
  have a2 := sq_lt_iff (e := e + 2) hm
  unfold hLow hHigh
  dsimp only
  generalize (if isq m * isq m < m then 0 - isq m else 1 - isq m) = L at *
  rw [a1, a2]
  clear a1 a2
  constructor
  · rintro ⟨h0, ⟨h1, h2⟩, h3, h4⟩
    refine ⟨h0, ?_, ?_⟩
    · split <;> omega
    · split <;> omega
  · rintro ⟨h0, h1, h2⟩
    refine ⟨h0, ?_⟩
    split at h1 <;> split at h2 <;> omega
theorem hLow_par (m : Int) : (hLow m - m) % 2 = 0 := by
  unfold hLow
  dsimp only
  split <;> omega
theorem hHigh_par (m : Int) : (hHigh m - m) % 2 = 0 := by
  unfold hHigh
  dsimp only
  split <;> omega
/-- how many they are -/
def hMany (m : Int) : Int := (hHigh m - hLow m) / 2 + 1
theorem heart_some {m : Int} (h : isMeas (.int m) = true) : hLow m ≤ hHigh m := by
  have h5 : 5 ≤ m ∧ (m % 4 = 0 ∨ m % 4 = 1) := by
    simpa [isMeas] using h
  have hm : 0 < m := by omega
  rcases h5.2 with e | e
  · have : fits m (-2) = true := by
      unfold fits
      simp only [Bool.and_eq_true, beq_iff_eq, decide_eq_true_eq]
      omega
    have := (fits_iff hm).mp this
    omega
  · have : fits m (-1) = true := by
      unfold fits
      simp only [Bool.and_eq_true, beq_iff_eq, decide_eq_true_eq]
      omega
    have := (fits_iff hm).mp this
    omega
/-! ### the heart's functions -/
def isHeartD (d : D) : Bool := match d with
  | .tup [.int a, .int b, .int c, .int e] => isCut a b c e && c == 1
  | _ => false
def sp_is_heartG : DSp := fun ds M Q _ => ∃ d, ds = [d] ∧ Askable 4 M d ∧ Q (.bl (isHeartD d)) M
theorem isHeartD_cut {d : D} (h : isCutD d = false) : isHeartD d = false := by
  unfold isHeartD
  split
  · rename_i a b c e
    rw [show isCut a b c e = false from h]; rfl
  · rfl
theorem isCutD_T4 {d : D} (h : isCutD d = true) : ∃ a b c e : Int, d = T4 a b c e ∧ isCut a b c e = true := by
  unfold isCutD at h
  split at h
  · rename_i a b c e; exact ⟨a, b, c, e, rfl, h⟩
  · cases h
theorem rd_is_heartG : ∀ ds M Q, ds.length = 1 → sp_is_heartG ds M Q DX0 → t_is_heart sp_is_cutting (dEnds M Q) (startD 1 ds) M := by
  rintro _ M Q - ⟨d, rfl, ha, q⟩
  unfold t_is_heart
  walk_at "rd"
  refine ⟨_, rfl, ha, ?_⟩
  cases h : isCutD d with
  | false =>
    rw [isHeartD_cut h] at q
    walk_at "rd"
    exact rtq q
  | true =>
    obtain ⟨a, b, c, e, rfl, hc⟩ := isCutD_T4 h
    replace q : Q (.bl (isCut a b c e && c == 1)) M := q
    rw [hc, Bool.true_and] at q
    walk_at "rd"
    exact rtq q
theorem bi_low {n : Nat} {m : Int} (hm : 5 ≤ m) (h : Bi n m) : Bi n (hLow m) ∧ Bi n (hHigh m) ∧ hLow m < 0 := by
  have r0 := isq_nn m
  have r1 := isq_le (Int.le_trans (by decide) hm)
  have r3 : isq m * 2 ≤ m ∨ isq m ≤ 2 := by
    by_cases z : isq m ≤ 2
    · exact .inr z
    · left
      have h1 : isq m * 2 ≤ isq m * isq m := Int.mul_le_mul_of_nonneg_left (by omega) r0
      omega
  have hl : isq m + 2 ≤ m := by omega
  have lo : -(isq m) ≤ hLow m ∧ hLow m ≤ 2 - isq m := by
    unfold hLow
    dsimp only
    split <;> split <;> omega
  have hi : isq m - 4 ≤ hHigh m ∧ hHigh m ≤ isq m - 2 := by
    unfold hHigh
    dsimp only
    split <;> split <;> omega
  have r4 : 2 ≤ isq m := by
    have r2 := isq_lt (Int.le_trans (by decide) hm)
    refine Classical.byContradiction fun z => ?_
    have z1 : isq m = 0 ∨ isq m = 1 := by omega
    rcases z1 with z1 | z1 <;> rw [z1] at r2 <;> omega
  unfold Bi at *
  refine ⟨by omega, by omega, ?_⟩
  by_cases z : isq m = 2
  · unfold hLow
    dsimp only
    rw [z]
    by_cases w : (2 : Int) * 2 < m
    · rw [if_pos w]
      split <;> omega
    · omega
  · omega
def sp_heart_by : DSp := sp_lmade
theorem rd_heart_by : ∀ ds M Q, ds.length = 2 → sp_heart_by ds M Q DX0 → t_heart_by (dEnds M Q) (startD 2 ds) M := by
  rintro _ M Q - ⟨m, n, rfl, bn, q⟩
  unfold t_heart_by
  walk_at "rd"
  rw [fdiv_pos (show (0 : Int) < 4 by decide)]
  exact ⟨⟨bn.sm, bn.sm⟩, ⟨by decide, by decide⟩, rtq q⟩
/-- a measure that may be asked, if it is a number -/
def Fit (d : D) : Prop := ∀ m, d = .int m → Bi 300 m
def sp_how_many_heart_x : DSp := fun ds M Q E => ∃ d T, ds = [d] ∧ tyM M d = some T ∧ Fit d ∧ (∀ m, d = .int m → isMeas d = true → Q (.int (hMany m)) M) ∧ (isMeas d = false → E "InvalidMeasure" d M)
theorem isMeas_int {d : D} (h : isMeas d = true) : ∃ m, d = .int m ∧ 5 ≤ m ∧ (m % 4 = 0 ∨ m % 4 = 1) := by
  unfold isMeas at h
  split at h
  · rename_i i; exact ⟨i, rfl, by simpa using h⟩
  · cases h
theorem fit_big {m : Int} (h : Bi 300 m) (h5 : 5 ≤ m) : 0 ≤ m ∧ m ≤ BIG := ⟨by omega, (h.big).2⟩
theorem rd_how_many_heart_x : ∀ ds M Q E, ds.length = 1 → belowAll M.length ds = true → sp_how_many_heart_x ds M Q E → t_how_many_heart_x sp_check_measure_x sp_bounds_by (dOut M E) (dEnds M Q) (startD 3 ds) M := by
  rintro _ M Q E - hb ⟨d, T, rfl, ht, hf, q, q2⟩
  unfold t_how_many_heart_x
  have hbd : below M.length d = true := belowAll_mem hb (by simp)
  refine dSeq_open fun B hB => ?_
  walk_at "rd"
  refine ⟨d, T, rfl, ht, fun h => ?_, fun h => rtx hbd (q2 h)⟩
  obtain ⟨m, rfl, h5, h6⟩ := isMeas_int h
  rw [← hB]
  clear hB B
  refine dSeq_open fun B hB => ?_
  walk_at "rd"
  refine ⟨m, rfl, (fit_big (hf m rfl) h5).1, (fit_big (hf m rfl) h5).2, rfl, ?_⟩
  rw [← hB]
  clear hB B
  walk_at "rd"
  rw [fdiv_pos (show (0 : Int) < 2 by decide)]
  exact ⟨⟨by decide, by decide⟩, rtq (q m rfl h)⟩
/-- the heart's cutting with the number i -/
def heartT (m i : Int) : D := T4 0 ((m - (hLow m + 2 * i) * (hLow m + 2 * i)) / 4) 1 (hLow m + 2 * i)
def sp_heart_numbered_x : DSp := fun ds M Q E => ∃ d n T T', ds = [d, n] ∧ tyM M d = some T ∧ tyM M n = some T' ∧ Fit d ∧ (isMeas d = false → E "InvalidMeasure" d M) ∧
  ∀ m, d = .int m → isMeas d = true → (numOk n (.int 0) (.int (hMany m - 1)) = false → E "InvalidNumber" n M) ∧ (∀ i, n = .int i → 0 ≤ i → i < hMany m → Q (heartT m i) M)
theorem rd_heart_numbered_x : ∀ ds M Q E, ds.length = 2 → belowAll M.length ds = true → sp_heart_numbered_x ds M Q E → t_heart_numbered_x sp_check_measure_x sp_bounds_by sp_check_number_x sp_heart_by (dOut M E) (dEnds M Q) (startD 4 ds) M := by
  rintro _ M Q E - hb ⟨d, n, T, T', rfl, ht, ht', hf, q1, q⟩
  unfold t_heart_numbered_x
  have hbd : below M.length d = true := belowAll_mem hb (by simp)
  have hbn : below M.length n = true := belowAll_mem hb (by simp)
  refine dSeq_open fun B hB => ?_
  walk_at "rd"
  refine ⟨d, T, rfl, ht, fun h => ?_, fun h => rtx hbd (q1 h)⟩
  obtain ⟨m, rfl, h5, h6⟩ := isMeas_int h
  obtain ⟨qe, qv⟩ := q m rfl h
  have hm := hf m rfl
  obtain ⟨bl, bh, l0⟩ := bi_low h5 hm
  rw [← hB]
  clear hB B
  refine dSeq_open fun B hB => ?_
  walk_at "rd"
  refine ⟨m, rfl, (fit_big hm h5).1, (fit_big hm h5).2, rfl, ?_⟩
  rw [← hB]
  clear hB B
  refine dSeq_open fun B hB => ?_
  walk_at "rd"
  rw [fdiv_pos (show (0 : Int) < 2 by decide)]
  have e1 : (hHigh m - hLow m) / 2 = hMany m - 1 := by unfold hMany; omega
  rw [e1]
  refine ⟨⟨by decide, by decide⟩, n, .int 0, .int (hMany m - 1), T', rfl, ht', .inr ⟨_, rfl⟩, .inr ⟨_, rfl⟩, fun h2 => ?_, fun h2 => rtx hbn (qe h2)⟩
  have hi : ∃ i, n = .int i ∧ 0 ≤ i ∧ i < hMany m := by
    unfold numOk at h2
    split at h2
    · rename_i i
      simp only [Bool.and_eq_true, decide_eq_true_eq] at h2
      exact ⟨i, rfl, h2.1, by omega⟩
    · cases h2
  obtain ⟨i, rfl, i0, i1⟩ := hi
  rw [← hB]
  clear hB B
  have hhi : hLow m + 2 * i ≤ hHigh m := by unfold hMany at i1; omega
  have bi : Bi 301 i := by
    unfold Bi at *
    have : (2 : Nat) ^ 301 = 2 * 2 ^ 300 := by decide
    omega
  walk_at "rd"
  refine ⟨⟨(Bi.of_abs 2 (n := 4) (by decide) (by decide)).sm, bi.sm⟩, m, _, rfl, ?_, rtq (qv i rfl i0 i1)⟩
  unfold Bi at *
  have : (2 : Nat) ^ 450 = 2 ^ 150 * 2 ^ 300 := by rw [← Nat.pow_add]
  have : 2 ^ 300 ≤ (2 : Nat) ^ 450 := Nat.pow_le_pow_right (by decide) (by decide)
  omega
def sp_heart_number_x : DSp := fun ds M Q E => ∃ d, ds = [d] ∧ Askable 4 M d ∧ (isHeartD d = false → E "InvalidCutting" d M) ∧
  ∀ a b c e, d = T4 a b c e → isHeartD d = true → (Bi 450 b ∧ Bi 450 c ∧ Bi 450 e) ∧ 0 ≤ meas4 b c e ∧ meas4 b c e ≤ BIG ∧ Q (.int ((e - hLow (meas4 b c e)) / 2)) M
theorem rd_heart_number_x : ∀ ds M Q E, ds.length = 1 → belowAll M.length ds = true → sp_heart_number_x ds M Q E → t_heart_number_x sp_is_heartG sp_bounds_by sp_measure_by (dOut M E) (dEnds M Q) (startD 1 ds) M := by
  rintro _ M Q E - hb ⟨d, rfl, ha, qe, q⟩
  unfold t_heart_number_x
  have hbd : below M.length d = true := belowAll_mem hb (by simp)
  refine dSeq_open fun B hB => ?_
  walk_at "rd"
  refine ⟨d, rfl, ha, ?_⟩
  cases h : isHeartD d with
  | false => walk_at "rd"; exact ⟨d, rfl, rtx hbd (qe h)⟩
  | true =>
    have hc : isCutD d = true := by
      cases z : isCutD d with
      | true => rfl
      | false => rw [isHeartD_cut z] at h; cases h
    obtain ⟨a, b, c, e, rfl, hcut⟩ := isCutD_T4 hc
    obtain ⟨⟨bb, bc, be⟩, m0, m1, q⟩ := q a b c e rfl h
    walk_at "rd"
    rw [← hB]
    clear hB B
    walk_at "rd"
    refine ⟨a, b, c, e, rfl, bb.mono, bc.mono, be.mono, _, rfl, m0, m1, ?_⟩
    walk_at "rd"
    rw [fdiv_pos (show (0 : Int) < 2 by decide)]
    exact ⟨⟨by decide, by decide⟩, rtq q⟩
end DL
namespace DL
open PySem PySem.Spec PyProof.Rows L2
local macro_rules | `(tactic| walk_at "rd") => `(tactic| simp only [startD, List.map, List.replicate, List.length_cons, List.length_nil, List.append_eq, List.append_nil, List.nil_append, List.cons_append, Nat.reduceSub, Nat.reduceAdd, List.getElem?_cons_zero, List.getElem?_cons_succ, List.set_cons_zero, List.set_cons_succ,
  dC, dVar, dOp, dTru, gTru, tru, dChain, dAnd, dOr, dNot, dAndV, dOrV, dNotV, dIf, dNeg, gNeg, dNil, dCons, dTup, dLst, dOwn, gIx, rBin, gAdd, gCmpI, dCall, dCallK, dSeq, dNext, dDrop, dRet, dRetN, dIfS, dName, dGNil, dGCons, dGTup, dSub, gSetL, dAsg, dPar, dPar3, dAug, gIpI, dSeqI, gSeqI, dRngI, gRng1, gRng2, dCB, gAbs, gInt, gMax, gMin, gGcd, gLen, lenD, gIsi, tyM, tyD, dBits, gBits, dMet, gAppend, dPart, dNoPart, dSl, gSl_tup, gSl_lst, cut_1, dEnds, gIs, isB, dNever, dCallX, dRaise, dTry, dFld, dCallV, gLRng, gFrz, dFrz, dFor, dLc, wipeD, dYes,
  sizeLine_eq, Nat.reduceLeDiff, gEq_int, gNe_int, gEq_strs, gNe_strs, gIn_two, gRepr_bl, rs_lst, rs_tup, rs_scr, rs_int, atI_0, atI_1, atI_2, atI_3, atI_4, atI_5, ixN_30, ixN_31, ixN_32, gEq_bl, gNe_bl, decide_eq_true_eq, beq_iff_eq, Bool.not_eq_true', beq_eq_false_iff_ne, decide_eq_false_iff_not, Bool.not_true, Bool.not_false, if_true, if_false, Bool.false_eq_true, ite_true, ite_false, true_and, and_true, ne_eq, Bool.bne_false, Bool.bne_true, reduceCtorEq])
local macro_rules | `(tactic| walk_at "rh") => `(tactic| simp only [*, startD, List.map, List.replicate, List.length_cons, List.length_nil, List.append_eq, List.append_nil, List.nil_append, List.cons_append, Nat.reduceSub, Nat.reduceAdd, List.getElem?_cons_zero, List.getElem?_cons_succ, List.set_cons_zero, List.set_cons_succ,
  dC, dVar, dOp, dTru, gTru, tru, dChain, dAnd, dOr, dNot, dAndV, dOrV, dNotV, dIf, dNeg, gNeg, dNil, dCons, dTup, dLst, dOwn, gIx, rBin, gAdd, gCmpI, dCall, dCallK, dSeq, dNext, dDrop, dRet, dRetN, dIfS, dName, dGNil, dGCons, dGTup, dSub, gSetL, dAsg, dPar, dPar3, dAug, gIpI, dSeqI, gSeqI, dRngI, gRng1, gRng2, dCB, gAbs, gInt, gMax, gMin, gGcd, gLen, lenD, gIsi, tyM, tyD, dBits, gBits, dMet, gAppend, dPart, dNoPart, dSl, gSl_tup, gSl_lst, cut_1, dEnds, gIs, isB, dNever, dCallX, dRaise, dTry, dFld, dCallV, gLRng, gFrz, dFrz, dFor, dLc, wipeD, dYes,
  sizeLine_eq, Nat.reduceLeDiff, gEq_int, gNe_int, gEq_strs, gNe_strs, gIn_two, gRepr_bl, rs_lst, rs_tup, rs_scr, rs_int, atI_0, atI_1, atI_2, atI_3, atI_4, atI_5, ixN_30, ixN_31, ixN_32, gEq_bl, gNe_bl, decide_eq_true_eq, beq_iff_eq, Bool.not_eq_true', beq_eq_false_iff_ne, decide_eq_false_iff_not, Bool.not_true, Bool.not_false, if_true, if_false, Bool.false_eq_true, ite_true, ite_false, true_and, and_true, ne_eq, Bool.bne_false, Bool.bne_true, reduceCtorEq])
local macro_rules | `(tactic| walk_at "kb") => `(tactic| simp only [kb_NoneType_list, kb_bool_list, kb_int_list, kb_str_list, kb_tuple_list, kb_list_list, kb_dict_list, kb_NoneType_int, kb_bool_int, kb_int_int, kb_str_int, kb_tuple_int, kb_list_int, kb_dict_int, kb_NoneType_bool, kb_bool_bool, kb_int_bool, kb_str_bool, kb_tuple_bool, kb_list_bool, kb_dict_bool, kb_NoneType_tuple, kb_bool_tuple, kb_int_tuple, kb_str_tuple, kb_tuple_tuple, kb_list_tuple, kb_dict_tuple, if_true, if_false, Bool.false_eq_true, ite_true, ite_false, Bool.not_true, Bool.not_false])
/-! RdDD: data that is shown, dicts among them (X_k11 has its own copy) -/
abbrev er (x : Str) (d : D) : Option (Str × D) := some (x, d)
theorem gReprZ_res {d : D} {M : Mem} {Q : DQ} {z : Str} (h : shwnZ (resD M d) = some z) (q : Q (.str z) M) : gReprZ [d] M Q := by
  unfold gReprZ
  dsimp only
  rw [h]
  exact q
/-! ### data that is shown -/
structure Sh (d : D) : Prop where
  f : fine 10 d = true
  l : lit 200 d = true
  w : wt 200 d ≤ 10000
mutual
theorem resD_fine (M : Mem) : ∀ (n : Nat) (d : D), fine n d = true → resD M d = d
  | _, .non, _ => rfl
  | _, .bl _, _ => rfl
  | _, .int _, _ => rfl
  | _, .str _, _ => rfl
  | 0, .tup l, h => by simp [fine] at h
  | 0, .lst l, h => by simp [fine] at h
  | n + 1, .tup l, h => by unfold resD; rw [resDA_fine M n l (by simpa only [fine] using h)]
  | n + 1, .lst l, h => by unfold resD; rw [resDA_fine M n l (by simpa only [fine] using h)]
  | _, .dct0, h => rfl
  | _, .scr _, h => by simp [fine] at h
  | _, .own _, h => by simp [fine] at h
  | _, .exc _ _, h => by simp [fine] at h
  | _, .glb _, h => by simp [fine] at h
  | _, .val _, h => by simp [fine] at h
theorem resDA_fine (M : Mem) : ∀ (n : Nat) (ds : List D), fineAll n ds = true → resDA M ds = ds
  | _, [], _ => rfl
  | n, d :: ds, h => by
    have h' : fine n d = true ∧ fineAll n ds = true := by simpa only [fineAll, Bool.and_eq_true] using h
    unfold resDA
    rw [resD_fine M n d h'.1, resDA_fine M n ds h'.2]
end
mutual
theorem fine_mono : ∀ (n k : Nat) (d : D), n ≤ k → fine n d = true → fine k d = true
  | _, _, .non, _, _ => rfl
  | _, _, .bl _, _, _ => rfl
  | _, _, .int _, _, _ => rfl
  | _, _, .str _, _, h => by simpa only [fine] using h
  | 0, _, .tup l, _, h => by simp [fine] at h
  | 0, _, .lst l, _, h => by simp [fine] at h
  | n + 1, 0, .tup l, hn, _ => by omega
  | n + 1, 0, .lst l, hn, _ => by omega
  | n + 1, k + 1, .tup l, hn, h => by simp only [fine] at h ⊢; exact fineA_mono n k l (by omega) h
  | n + 1, k + 1, .lst l, hn, h => by simp only [fine] at h ⊢; exact fineA_mono n k l (by omega) h
  | _, _, .dct0, _, h => by simp [fine] at h
  | _, _, .scr _, _, h => by simp [fine] at h
  | _, _, .own _, _, h => by simp [fine] at h
  | _, _, .exc _ _, _, h => by simp [fine] at h
  | _, _, .glb _, _, h => by simp [fine] at h
  | _, _, .val _, _, h => by simp [fine] at h
theorem fineA_mono : ∀ (n k : Nat) (ds : List D), n ≤ k → fineAll n ds = true → fineAll k ds = true
  | _, _, [], _, _ => rfl
  | n, k, d :: ds, hn, h => by
    have h' : fine n d = true ∧ fineAll n ds = true := by simpa only [fineAll, Bool.and_eq_true] using h
    simp only [fineAll, fine_mono n k d hn h'.1, fineA_mono n k ds hn h'.2, Bool.and_self]
end
theorem fine_up {d : D} (h : fine 10 d = true) : fine 41 d = true := fine_mono 10 41 d (by decide) h
theorem Sh.shown {d : D} (h : Sh d) (M : Mem) : ∃ z, shwnZ (resD M d) = some z := by
  rw [resD_fine M 10 d h.f]
  obtain ⟨z, hz⟩ := shw_of 200 10 h.f h.l (by have := h.w; omega)
  exact ⟨z, shwnZ_of hz⟩
theorem Sh.two {x y : D} (h : Sh x) (g : Sh y) (M : Mem) : ∃ z, shwnZ (resD M (.lst [x, y])) = some z := by
  have f2 : fine 11 (.lst [x, y]) = true := by simp only [fine, fineAll, h.f, g.f, Bool.and_self]
  rw [resD_fine M 11 _ f2]
  obtain ⟨z, hz⟩ := shw_of 200 11 f2 (by simp only [lit, litAll, h.l, g.l, Bool.and_self]) (by have h1 := h.w; have h2 := g.w; simp only [wt, wtAll]; omega)
  exact ⟨z, shwnZ_of hz⟩
theorem gMulL_ok {l : List D} {n : Nat} {M : Mem} {Q : DQ} (h : l.length * n ≤ 1000) (hn : n ≤ 1000) (q : Q (.lst (List.flatten (List.replicate n l))) M) : gMulL (.lst l) (.int (n : Int)) M Q := ⟨⟨by omega, by omega, by rw [sizeLine_eq, Int.toNat_natCast]; omega⟩, q⟩
end DL
namespace DL
open PySem PySem.Spec PyProof.Rows L2
local macro_rules | `(tactic| walk_at "rd") => `(tactic| simp only [startD, List.map, List.replicate, List.length_cons, List.length_nil, List.append_eq, List.append_nil, List.nil_append, List.cons_append, Nat.reduceSub, Nat.reduceAdd, List.getElem?_cons_zero, List.getElem?_cons_succ, List.set_cons_zero, List.set_cons_succ,
  dC, dVar, dOp, dTru, gTru, tru, dChain, dAnd, dOr, dNot, dAndV, dOrV, dNotV, dIf, dNeg, gNeg, dNil, dCons, dTup, dLst, dOwn, gIx, rBin, gAdd, gCmpI, dCall, dCallK, dSeq, dNext, dDrop, dRet, dRetN, dIfS, dName, dGNil, dGCons, dGTup, dSub, gSetL, dAsg, dPar, dPar3, dAug, gIpI, dSeqI, gSeqI, dRngI, gRng1, gRng2, dCB, gAbs, gInt, gMax, gMin, gGcd, gLen, lenD, gIsi, tyM, tyD, dBits, gBits, dMet, gAppend, dPart, dNoPart, dSl, gSl_tup, gSl_lst, cut_1, dEnds, gIs, isB, dNever, dFor, dLc, wipeD, dYes,
  sizeLine_eq, Nat.reduceLeDiff, gEq_int, gNe_int, gEq_strs, gNe_strs, gIn_two, gRepr_bl, rs_lst, rs_tup, rs_scr, rs_int, atI_0, atI_1, atI_2, atI_3, atI_4, atI_5, ixN_30, ixN_31, ixN_32, gEq_bl, gNe_bl, decide_eq_true_eq, beq_iff_eq, Bool.not_eq_true', beq_eq_false_iff_ne, decide_eq_false_iff_not, Bool.not_true, Bool.not_false, if_true, if_false, Bool.false_eq_true, ite_true, ite_false, true_and, and_true, ne_eq, Bool.bne_false, Bool.bne_true, reduceCtorEq])
local macro_rules | `(tactic| walk_at "rh") => `(tactic| simp only [*, startD, List.map, List.replicate, List.length_cons, List.length_nil, List.append_eq, List.append_nil, List.nil_append, List.cons_append, Nat.reduceSub, Nat.reduceAdd, List.getElem?_cons_zero, List.getElem?_cons_succ, List.set_cons_zero, List.set_cons_succ,
  dC, dVar, dOp, dTru, gTru, tru, dChain, dAnd, dOr, dNot, dAndV, dOrV, dNotV, dIf, dNeg, gNeg, dNil, dCons, dTup, dLst, dOwn, gIx, rBin, gAdd, gCmpI, dCall, dCallK, dSeq, dNext, dDrop, dRet, dRetN, dIfS, dName, dGNil, dGCons, dGTup, dSub, gSetL, dAsg, dPar, dPar3, dAug, gIpI, dSeqI, gSeqI, dRngI, gRng1, gRng2, dCB, gAbs, gInt, gMax, gMin, gGcd, gLen, lenD, gIsi, tyM, tyD, dBits, gBits, dMet, gAppend, dPart, dNoPart, dSl, gSl_tup, gSl_lst, cut_1, dEnds, gIs, isB, dNever, dFor, dLc, wipeD, dYes,
  sizeLine_eq, Nat.reduceLeDiff, gEq_int, gNe_int, gEq_strs, gNe_strs, gIn_two, gRepr_bl, rs_lst, rs_tup, rs_scr, rs_int, atI_0, atI_1, atI_2, atI_3, atI_4, atI_5, ixN_30, ixN_31, ixN_32, gEq_bl, gNe_bl, decide_eq_true_eq, beq_iff_eq, Bool.not_eq_true', beq_eq_false_iff_ne, decide_eq_false_iff_not, Bool.not_true, Bool.not_false, if_true, if_false, Bool.false_eq_true, ite_true, ite_false, true_and, and_true, ne_eq, Bool.bne_false, Bool.bne_true, reduceCtorEq])
local macro_rules | `(tactic| walk_at "kb") => `(tactic| simp only [kb_NoneType_list, kb_bool_list, kb_int_list, kb_str_list, kb_tuple_list, kb_list_list, kb_dict_list, kb_NoneType_int, kb_bool_int, kb_int_int, kb_str_int, kb_tuple_int, kb_list_int, kb_dict_int, kb_NoneType_bool, kb_bool_bool, kb_int_bool, kb_str_bool, kb_tuple_bool, kb_list_bool, kb_dict_bool, kb_NoneType_tuple, kb_bool_tuple, kb_int_tuple, kb_str_tuple, kb_tuple_tuple, kb_list_tuple, kb_dict_tuple, if_true, if_false, Bool.false_eq_true, ite_true, ite_false, Bool.not_true, Bool.not_false])
/-! ### k08's own lists -/
end DL
namespace DL
open PySem PySem.Spec PyProof.Rows L2
local macro_rules | `(tactic| walk_at "rd") => `(tactic| simp only [startD, List.map, List.replicate, List.length_cons, List.length_nil, List.append_eq, List.append_nil, List.nil_append, List.cons_append, Nat.reduceSub, Nat.reduceAdd, List.getElem?_cons_zero, List.getElem?_cons_succ, List.set_cons_zero, List.set_cons_succ,
  dC, dVar, dOp, dTru, gTru, tru, dChain, dAnd, dOr, dNot, dAndV, dOrV, dNotV, dIf, dNeg, gNeg, dNil, dCons, dTup, dLst, dOwn, gIx, rBin, gAdd, gCmpI, dCall, dCallK, dSeq, dNext, dDrop, dRet, dRetN, dIfS, dName, dGNil, dGCons, dGTup, dSub, gSetL, dAsg, dPar, dPar3, dAug, gIpI, dSeqI, gSeqI, dRngI, gRng1, gRng2, dCB, gAbs, gInt, gMax, gMin, gGcd, gLen, lenD, gIsi, tyM, tyD, dBits, gBits, dMet, gAppend, dPart, dNoPart, dSl, gSl_tup, gSl_lst, cut_1, dEnds, gIs, isB, dNever, dCallX, dRaise, dTry, dFld, dCallV, gLRng, gFrz, dFrz, dFor, dLc, wipeD, dYes,
  sizeLine_eq, Nat.reduceLeDiff, gEq_int, gNe_int, gEq_strs, gNe_strs, gIn_two, gRepr_bl, rs_lst, rs_tup, rs_scr, rs_int, atI_0, atI_1, atI_2, atI_3, atI_4, atI_5, ixN_30, ixN_31, ixN_32, gEq_bl, gNe_bl, decide_eq_true_eq, beq_iff_eq, Bool.not_eq_true', beq_eq_false_iff_ne, decide_eq_false_iff_not, Bool.not_true, Bool.not_false, if_true, if_false, Bool.false_eq_true, ite_true, ite_false, true_and, and_true, ne_eq, Bool.bne_false, Bool.bne_true, reduceCtorEq])
local macro_rules | `(tactic| walk_at "rh") => `(tactic| simp only [*, startD, List.map, List.replicate, List.length_cons, List.length_nil, List.append_eq, List.append_nil, List.nil_append, List.cons_append, Nat.reduceSub, Nat.reduceAdd, List.getElem?_cons_zero, List.getElem?_cons_succ, List.set_cons_zero, List.set_cons_succ,
  dC, dVar, dOp, dTru, gTru, tru, dChain, dAnd, dOr, dNot, dAndV, dOrV, dNotV, dIf, dNeg, gNeg, dNil, dCons, dTup, dLst, dOwn, gIx, rBin, gAdd, gCmpI, dCall, dCallK, dSeq, dNext, dDrop, dRet, dRetN, dIfS, dName, dGNil, dGCons, dGTup, dSub, gSetL, dAsg, dPar, dPar3, dAug, gIpI, dSeqI, gSeqI, dRngI, gRng1, gRng2, dCB, gAbs, gInt, gMax, gMin, gGcd, gLen, lenD, gIsi, tyM, tyD, dBits, gBits, dMet, gAppend, dPart, dNoPart, dSl, gSl_tup, gSl_lst, cut_1, dEnds, gIs, isB, dNever, dCallX, dRaise, dTry, dFld, dCallV, gLRng, gFrz, dFrz, dFor, dLc, wipeD, dYes,
  sizeLine_eq, Nat.reduceLeDiff, gEq_int, gNe_int, gEq_strs, gNe_strs, gIn_two, gRepr_bl, rs_lst, rs_tup, rs_scr, rs_int, atI_0, atI_1, atI_2, atI_3, atI_4, atI_5, ixN_30, ixN_31, ixN_32, gEq_bl, gNe_bl, decide_eq_true_eq, beq_iff_eq, Bool.not_eq_true', beq_eq_false_iff_ne, decide_eq_false_iff_not, Bool.not_true, Bool.not_false, if_true, if_false, Bool.false_eq_true, ite_true, ite_false, true_and, and_true, ne_eq, Bool.bne_false, Bool.bne_true, reduceCtorEq])
local macro_rules | `(tactic| walk_at "kb") => `(tactic| simp only [kb_NoneType_list, kb_bool_list, kb_int_list, kb_str_list, kb_tuple_list, kb_list_list, kb_dict_list, kb_NoneType_int, kb_bool_int, kb_int_int, kb_str_int, kb_tuple_int, kb_list_int, kb_dict_int, kb_NoneType_bool, kb_bool_bool, kb_int_bool, kb_str_bool, kb_tuple_bool, kb_list_bool, kb_dict_bool, kb_NoneType_tuple, kb_bool_tuple, kb_int_tuple, kb_str_tuple, kb_tuple_tuple, kb_list_tuple, kb_dict_tuple, if_true, if_false, Bool.false_eq_true, ite_true, ite_false, Bool.not_true, Bool.not_false])
/-! RdCC: cuttings with their errors, numbered -/
def sp_check_cutting_x : DSp := fun ds M Q E => ∃ d, ds = [d] ∧ Askable 4 M d ∧ (isCutD d = true → Q .non M) ∧ (isCutD d = false → E "InvalidCutting" d M)
theorem rd_check_cutting_x : ∀ ds M Q E, ds.length = 1 → belowAll M.length ds = true → sp_check_cutting_x ds M Q E → t_check_cutting_x sp_is_cutting (dOut M E) (dEnds M Q) (startD 1 ds) M := by
  rintro _ M Q E - hb ⟨d, rfl, ha, q, q2⟩
  unfold t_check_cutting_x
  walk_at "rd"
  refine ⟨d, rfl, ha, ?_⟩
  cases h : isCutD d with
  | true => walk_at "rd"; exact rtq (q h)
  | false => walk_at "rd"; exact ⟨d, rfl, rtx (belowAll_mem hb (by simp)) (q2 h)⟩
/-! ### places in a list of tuples of whole numbers -/
/-! ### the functions -/
theorem AllC.at {m a b c e : Int} {l : List (List Int)} (h : AllC m l) (hc : isCut a b c e = true) (hm : meas4 b c e = m) : ∃ j : Nat, l[j]? = some [a, b, c, e] :=
  List.mem_iff_getElem?.mp ((h.mem _).mpr ⟨a, b, c, e, rfl, hc, hm⟩)
end DL
namespace DL
open PySem PySem.Spec PyProof.Rows L2
local macro_rules | `(tactic| walk_at "rd") => `(tactic| simp only [startD, List.map, List.replicate, List.length_cons, List.length_nil, List.append_eq, List.append_nil, List.nil_append, List.cons_append, Nat.reduceSub, Nat.reduceAdd, List.getElem?_cons_zero, List.getElem?_cons_succ, List.set_cons_zero, List.set_cons_succ,
  dC, dVar, dOp, dTru, gTru, tru, dChain, dAnd, dOr, dNot, dAndV, dOrV, dNotV, dIf, dNeg, gNeg, dNil, dCons, dTup, dLst, dOwn, gIx, rBin, gAdd, gCmpI, dCall, dCallK, dSeq, dNext, dDrop, dRet, dRetN, dIfS, dName, dGNil, dGCons, dGTup, dSub, gSetL, dAsg, dPar, dPar3, dAug, gIpI, dSeqI, gSeqI, dRngI, gRng1, gRng2, dCB, gAbs, gInt, gMax, gMin, gGcd, gLen, lenD, gIsi, tyM, tyD, dBits, gBits, dMet, gAppend, dPart, dNoPart, dSl, gSl_tup, gSl_lst, cut_1, dEnds, gIs, isB, dNever, dCallX, dRaise, dTry, dFld, dCallV, gLRng, gFrz, dFrz, dFor, dLc, wipeD, dYes,
  sizeLine_eq, Nat.reduceLeDiff, gEq_int, gNe_int, gEq_strs, gNe_strs, gIn_two, gRepr_bl, rs_lst, rs_tup, rs_scr, rs_int, atI_0, atI_1, atI_2, atI_3, atI_4, atI_5, ixN_30, ixN_31, ixN_32, gEq_bl, gNe_bl, decide_eq_true_eq, beq_iff_eq, Bool.not_eq_true', beq_eq_false_iff_ne, decide_eq_false_iff_not, Bool.not_true, Bool.not_false, if_true, if_false, Bool.false_eq_true, ite_true, ite_false, true_and, and_true, ne_eq, Bool.bne_false, Bool.bne_true, reduceCtorEq])
local macro_rules | `(tactic| walk_at "rh") => `(tactic| simp only [*, startD, List.map, List.replicate, List.length_cons, List.length_nil, List.append_eq, List.append_nil, List.nil_append, List.cons_append, Nat.reduceSub, Nat.reduceAdd, List.getElem?_cons_zero, List.getElem?_cons_succ, List.set_cons_zero, List.set_cons_succ,
  dC, dVar, dOp, dTru, gTru, tru, dChain, dAnd, dOr, dNot, dAndV, dOrV, dNotV, dIf, dNeg, gNeg, dNil, dCons, dTup, dLst, dOwn, gIx, rBin, gAdd, gCmpI, dCall, dCallK, dSeq, dNext, dDrop, dRet, dRetN, dIfS, dName, dGNil, dGCons, dGTup, dSub, gSetL, dAsg, dPar, dPar3, dAug, gIpI, dSeqI, gSeqI, dRngI, gRng1, gRng2, dCB, gAbs, gInt, gMax, gMin, gGcd, gLen, lenD, gIsi, tyM, tyD, dBits, gBits, dMet, gAppend, dPart, dNoPart, dSl, gSl_tup, gSl_lst, cut_1, dEnds, gIs, isB, dNever, dCallX, dRaise, dTry, dFld, dCallV, gLRng, gFrz, dFrz, dFor, dLc, wipeD, dYes,
  sizeLine_eq, Nat.reduceLeDiff, gEq_int, gNe_int, gEq_strs, gNe_strs, gIn_two, gRepr_bl, rs_lst, rs_tup, rs_scr, rs_int, atI_0, atI_1, atI_2, atI_3, atI_4, atI_5, ixN_30, ixN_31, ixN_32, gEq_bl, gNe_bl, decide_eq_true_eq, beq_iff_eq, Bool.not_eq_true', beq_eq_false_iff_ne, decide_eq_false_iff_not, Bool.not_true, Bool.not_false, if_true, if_false, Bool.false_eq_true, ite_true, ite_false, true_and, and_true, ne_eq, Bool.bne_false, Bool.bne_true, reduceCtorEq])
local macro_rules | `(tactic| walk_at "kb") => `(tactic| simp only [kb_NoneType_list, kb_bool_list, kb_int_list, kb_str_list, kb_tuple_list, kb_list_list, kb_dict_list, kb_NoneType_int, kb_bool_int, kb_int_int, kb_str_int, kb_tuple_int, kb_list_int, kb_dict_int, kb_NoneType_bool, kb_bool_bool, kb_int_bool, kb_str_bool, kb_tuple_bool, kb_list_bool, kb_dict_bool, kb_NoneType_tuple, kb_bool_tuple, kb_int_tuple, kb_str_tuple, kb_tuple_tuple, kb_list_tuple, kb_dict_tuple, if_true, if_false, Bool.false_eq_true, ite_true, ite_false, Bool.not_true, Bool.not_false])
/-! ### lists of whole numbers -/
/-- lo, lo + 2, .. -/
def evens (lo : Int) (n : Nat) : List Int := (List.range n).map fun i => lo + 2 * (i : Nat)
theorem evens_mem {lo x : Int} {n : Nat} : x ∈ evens lo n ↔ lo ≤ x ∧ x < lo + 2 * n ∧ (x - lo) % 2 = 0 := by
  unfold evens
  simp only [List.mem_map, List.mem_range]
  constructor
  · rintro ⟨i, hi, rfl⟩; omega
  · rintro ⟨h1, h2, h3⟩
    exact ⟨((x - lo) / 2).toNat, by omega, by omega⟩
theorem filterMap_int {p : Int → Bool} {f : D → Option D} (h : ∀ i, f (.int i) = if p i = true then some (.int i) else none) : ∀ l : List Int, (l.map D.int).filterMap f = (l.filter p).map D.int
  | [] => rfl
  | i :: l => by
    rw [List.map_cons, List.filterMap_cons, h, List.filter_cons]
    cases p i with
    | true => simp only [if_true, List.map_cons, filterMap_int h l]
    | false => simp only [Bool.false_eq_true, if_false, filterMap_int h l]
/-- the heart's numbers -/
def heartI (m : Int) : List Int := evens (hLow m) (hMany m).toNat
theorem filterMap_ints {g : Int → D} {f : D → Option D} (h : ∀ i, f (.int i) = some (g i)) : ∀ l : List Int, (l.map D.int).filterMap f = l.map g
  | [] => rfl
  | i :: l => by rw [List.map_cons, List.filterMap_cons, h, List.map_cons, filterMap_ints h l]
end DL
namespace DL
open PySem PySem.Spec PyProof.Rows L2
local macro_rules | `(tactic| walk_at "rd") => `(tactic| simp only [startD, List.map, List.replicate, List.length_cons, List.length_nil, List.append_eq, List.append_nil, List.nil_append, List.cons_append, Nat.reduceSub, Nat.reduceAdd, List.getElem?_cons_zero, List.getElem?_cons_succ, List.set_cons_zero, List.set_cons_succ,
  dC, dVar, dOp, dTru, gTru, tru, dChain, dAnd, dOr, dNot, dAndV, dOrV, dNotV, dIf, dNeg, gNeg, dNil, dCons, dTup, dLst, dOwn, gIx, rBin, gAdd, gCmpI, dCall, dCallK, dSeq, dNext, dDrop, dRet, dRetN, dIfS, dName, dGNil, dGCons, dGTup, dSub, gSetL, dAsg, dPar, dPar3, dAug, gIpI, dSeqI, gSeqI, dRngI, gRng1, gRng2, dCB, gAbs, gInt, gMax, gMin, gGcd, gLen, lenD, gIsi, tyM, tyD, dBits, gBits, dMet, gAppend, dPart, dNoPart, dSl, gSl_tup, gSl_lst, cut_1, dEnds, gIs, isB, dNever, dCallX, dRaise, dTry, dFld, dCallV, gLRng, gFrz, dFrz, dFor, dLc, wipeD, dYes,
  sizeLine_eq, Nat.reduceLeDiff, gEq_int, gNe_int, gEq_strs, gNe_strs, gIn_two, gRepr_bl, rs_lst, rs_tup, rs_scr, rs_int, atI_0, atI_1, atI_2, atI_3, atI_4, atI_5, ixN_30, ixN_31, ixN_32, gEq_bl, gNe_bl, decide_eq_true_eq, beq_iff_eq, Bool.not_eq_true', beq_eq_false_iff_ne, decide_eq_false_iff_not, Bool.not_true, Bool.not_false, if_true, if_false, Bool.false_eq_true, ite_true, ite_false, true_and, and_true, ne_eq, Bool.bne_false, Bool.bne_true, reduceCtorEq])
local macro_rules | `(tactic| walk_at "rh") => `(tactic| simp only [*, startD, List.map, List.replicate, List.length_cons, List.length_nil, List.append_eq, List.append_nil, List.nil_append, List.cons_append, Nat.reduceSub, Nat.reduceAdd, List.getElem?_cons_zero, List.getElem?_cons_succ, List.set_cons_zero, List.set_cons_succ,
  dC, dVar, dOp, dTru, gTru, tru, dChain, dAnd, dOr, dNot, dAndV, dOrV, dNotV, dIf, dNeg, gNeg, dNil, dCons, dTup, dLst, dOwn, gIx, rBin, gAdd, gCmpI, dCall, dCallK, dSeq, dNext, dDrop, dRet, dRetN, dIfS, dName, dGNil, dGCons, dGTup, dSub, gSetL, dAsg, dPar, dPar3, dAug, gIpI, dSeqI, gSeqI, dRngI, gRng1, gRng2, dCB, gAbs, gInt, gMax, gMin, gGcd, gLen, lenD, gIsi, tyM, tyD, dBits, gBits, dMet, gAppend, dPart, dNoPart, dSl, gSl_tup, gSl_lst, cut_1, dEnds, gIs, isB, dNever, dCallX, dRaise, dTry, dFld, dCallV, gLRng, gFrz, dFrz, dFor, dLc, wipeD, dYes,
  sizeLine_eq, Nat.reduceLeDiff, gEq_int, gNe_int, gEq_strs, gNe_strs, gIn_two, gRepr_bl, rs_lst, rs_tup, rs_scr, rs_int, atI_0, atI_1, atI_2, atI_3, atI_4, atI_5, ixN_30, ixN_31, ixN_32, gEq_bl, gNe_bl, decide_eq_true_eq, beq_iff_eq, Bool.not_eq_true', beq_eq_false_iff_ne, decide_eq_false_iff_not, Bool.not_true, Bool.not_false, if_true, if_false, Bool.false_eq_true, ite_true, ite_false, true_and, and_true, ne_eq, Bool.bne_false, Bool.bne_true, reduceCtorEq])
local macro_rules | `(tactic| walk_at "kb") => `(tactic| simp only [kb_NoneType_list, kb_bool_list, kb_int_list, kb_str_list, kb_tuple_list, kb_list_list, kb_dict_list, kb_NoneType_int, kb_bool_int, kb_int_int, kb_str_int, kb_tuple_int, kb_list_int, kb_dict_int, kb_NoneType_bool, kb_bool_bool, kb_int_bool, kb_str_bool, kb_tuple_bool, kb_list_bool, kb_dict_bool, kb_NoneType_tuple, kb_bool_tuple, kb_int_tuple, kb_str_tuple, kb_tuple_tuple, kb_list_tuple, kb_dict_tuple, if_true, if_false, Bool.false_eq_true, ite_true, ite_false, Bool.not_true, Bool.not_false])
/-! ### steps within the heart; plain -/
def stepP (m e x : Int) : Bool := decide (2 ≤ 0 - e - x) && ((Int.gcd ((0 - e - x) / 2) ((m - e * e) / 4) : Int) == 1)
def stepN (m e : Int) : Int := (0 - e - 2 - hLow m) / 2 + 1
def stepI (m e : Int) : List Int := (evens (hLow m) (stepN m e).toNat).filter (stepP m e)
def heartC (m x : Int) : List Int := [0, (m - x * x) / 4, 1, x]
def stepL (m e : Int) : List (List Int) := (stepI m e).map (heartC m)
theorem hHigh_eq (m : Int) : hHigh m = -hLow m - 2 := by
  unfold hHigh hLow
  dsimp only
  split <;> split <;> omega
theorem heart_iff {m e : Int} (hm : isMeas (.int m) = true) : e ∈ heartI m ↔ fits m e = true := by
  obtain ⟨m', z, h5, h6⟩ := isMeas_int hm
  cases z
  have hs := heart_some hm
  have hl := hLow_par m
  have hh := hHigh_par m
  rw [fits_iff (by omega), heartI, evens_mem]
  unfold hMany
  omega
/-! ### the readings -/
def sp_stepP : DSp := fun ds M Q _ => ∃ m e x : Int, ds = [.int m, .int e, .int x] ∧ Bi 400 e ∧ Q (.bl (stepP m e x)) M
theorem rd_l_steps_3e4d : ∀ ds M Q, ds.length = 3 → sp_stepP ds M Q DX0 → t_l_steps_3e4d sp_gcd (dEnds M Q) (startD 4 ds) M := by
  rintro _ M Q - ⟨m, e, x, rfl, be, q⟩
  unfold t_l_steps_3e4d
  refine dSeq_open fun B hB => ?_
  walk_at "rd"
  rw [← hB]
  clear hB B
  unfold stepP at q
  walk_at "rd"
  by_cases h : 2 ≤ 0 - e - x
  · rw [decide_eq_true h, Bool.true_and] at q
    rw [if_pos h]
    refine ⟨⟨by decide, by decide⟩, ⟨be.sm, be.sm⟩, ⟨by decide, by decide⟩, _, _, rfl, ?_⟩
    rw [fdiv_pos (show (0 : Int) < 2 by decide), fdiv_pos (show (0 : Int) < 4 by decide)]
    dsimp only
    rw [gEq_int]
    exact rtq q
  · rw [decide_eq_false h, Bool.false_and] at q
    rw [if_neg h, decide_eq_false h]
    exact rtq q
theorem rd_is_step_by : ∀ ds M Q, ds.length = 3 → sp_stepP ds M Q DX0 → t_is_step_by sp_gcd (dEnds M Q) (startD 4 ds) M := rd_l_steps_3e4d
theorem rgC2 {i j : Int} {n : Nat} (ha : -(2 ^ 61) ≤ i) (ha' : i < 2 ^ 61) (hb : -(2 ^ 61) ≤ j) (hb' : j < 2 ^ 61) (hn : (n : Int) = if i < j then (j - i - 1) / 2 + 1 else 0) : RgC i j 2 n := by
  have e : Builtin.Range.rangeSize i j 2 = (n : Int) := by
    rw [hn]
    unfold Builtin.Range.rangeSize
    simp only [show (2 : Int) > 0 by decide, if_true]
  refine ⟨by decide, by decide, ?_, e⟩
  unfold Builtin.Range.small
  rw [e]
  simp only [Builtin.Range.rangeFitsLong, Bool.and_eq_true, Bool.or_eq_true, decide_eq_true_eq, beq_iff_eq, show (2 : Int) > 0 by decide, if_true]
  by_cases z : i < j
  · rw [if_pos z] at hn
    omega
  · rw [if_neg z] at hn
    omega
theorem rngC_evens (lo : Int) (n : Nat) : rngC lo 2 n = (evens lo n).map D.int := by
  unfold rngC evens
  rw [List.map_map]
  refine List.map_congr_left fun i _ => ?_
  show D.int (lo + (i : Int) * 2) = D.int (lo + 2 * (i : Int))
  rw [Int.mul_comm]
theorem stepL_tI (m e : Int) : (stepL m e).map tI = (stepI m e).map fun x => T4 0 ((m - x * x) / 4) 1 x := by
  unfold stepL
  rw [List.map_map]; rfl
theorem evens_len (lo : Int) (n : Nat) : (evens lo n).length = n := by unfold evens; rw [List.length_map, List.length_range]
theorem stepI_len (m e : Int) : (stepI m e).length ≤ (stepN m e).toNat := by
  unfold stepI
  refine Nat.le_trans (List.length_filter_le _ _) ?_
  rw [evens_len]
  exact Nat.le_refl _
theorem stepI_mem {m e x : Int} (h : x ∈ stepI m e) : hLow m ≤ x ∧ x ≤ 0 - e - 2 := by
  unfold stepI at h
  rw [List.mem_filter, evens_mem] at h
  obtain ⟨h1, h2⟩ := h
  unfold stepP at h2
  simp only [Bool.and_eq_true, decide_eq_true_eq] at h2
  omega
theorem isq_low {m : Int} (h : 0 ≤ m) (hm : m ≤ 10 ^ 30) : isq m ≤ 10 ^ 15 := by
  have h1 := isq_le h
  have h0 := isq_nn m
  by_cases z : isq m ≤ 10 ^ 15
  · exact z
  · have : (10 ^ 15 + 1) * (10 ^ 15 + 1) ≤ isq m * isq m := Int.mul_le_mul (by omega) (by omega) (by decide) (by omega)
    omega
theorem low_bd {m : Int} (h : 0 ≤ m) (hm : m ≤ 10 ^ 30) : -(10 ^ 15) ≤ hLow m := by
  have h1 := isq_low h hm
  unfold hLow
  dsimp only
  split <;> split <;> omega
theorem cut_fits {b e m : Int} (hc : isCut 0 b 1 e = true) (hme : meas4 b 1 e = m) : fits m e = true := by
  obtain ⟨k1, k2, k3, _⟩ := cut_parts hc
  have h3 := meas_bc.mp hme
  have hm := meas4_ok hc
  rw [hme] at hm
  have e2 : (e + 2) * (e + 2) = e * e + 4 * e + 4 := by grind
  have hp := meas_par (a := 0) (b := b) (c := 1) (e := e)
  rw [hme] at hp
  unfold fits
  simp only [Bool.and_eq_true, beq_iff_eq, decide_eq_true_eq]
  rw [e2]
  omega
theorem heart_bd {m e : Int} (hm : isMeas (.int m) = true) (hf : fits m e = true) : hLow m ≤ e ∧ e ≤ -hLow m - 2 ∧ (e - hLow m) % 2 = 0 := by
  have h := (heart_iff hm).mpr hf
  have hs := heart_some hm
  have hl := hLow_par m
  have hh := hHigh_eq m
  rw [heartI, evens_mem] at h
  unfold hMany at h
  omega
theorem fineA_ints {n : Nat} (l : List Int) : fineAll n (l.map D.int) = true := by
  rw [fineAll_iff]
  intro d hd
  obtain ⟨e, _, rfl⟩ := List.mem_map.mp hd
  cases n <;> rfl
/-! ### a few deeds of one number -/
/-! ### small measures -/
/-! ### great measures -/
/-! ### too many -/
end DL
namespace DL
open PySem PySem.Spec PyProof.Rows L2
local macro_rules | `(tactic| walk_at "rd") => `(tactic| simp only [startD, List.map, List.replicate, List.length_cons, List.length_nil, List.append_eq, List.append_nil, List.nil_append, List.cons_append, Nat.reduceSub, Nat.reduceAdd, List.getElem?_cons_zero, List.getElem?_cons_succ, List.set_cons_zero, List.set_cons_succ,
  dC, dVar, dOp, dTru, gTru, tru, dChain, dAnd, dOr, dNot, dAndV, dOrV, dNotV, dIf, dNeg, gNeg, dNil, dCons, dTup, dLst, dOwn, gIx, rBin, gAdd, gCmpI, dCall, dCallK, dSeq, dNext, dDrop, dRet, dRetN, dIfS, dName, dGNil, dGCons, dGTup, dSub, gSetL, dAsg, dPar, dPar3, dAug, gIpI, dSeqI, gSeqI, dRngI, gRng1, gRng2, dCB, gAbs, gInt, gMax, gMin, gGcd, gLen, lenD, gIsi, tyM, tyD, dBits, gBits, dMet, gAppend, dPart, dNoPart, dSl, gSl_tup, gSl_lst, cut_1, dEnds, gIs, isB, dNever, dCallX, dRaise, dTry, dFld, dCallV, gLRng, gFrz, dFrz, dFor, dLc, wipeD, dYes,
  sizeLine_eq, Nat.reduceLeDiff, gEq_int, gNe_int, gEq_strs, gNe_strs, gIn_two, gRepr_bl, rs_lst, rs_tup, rs_scr, rs_int, atI_0, atI_1, atI_2, atI_3, atI_4, atI_5, ixN_30, ixN_31, ixN_32, gEq_bl, gNe_bl, decide_eq_true_eq, beq_iff_eq, Bool.not_eq_true', beq_eq_false_iff_ne, decide_eq_false_iff_not, Bool.not_true, Bool.not_false, if_true, if_false, Bool.false_eq_true, ite_true, ite_false, true_and, and_true, ne_eq, Bool.bne_false, Bool.bne_true, reduceCtorEq])
local macro_rules | `(tactic| walk_at "rh") => `(tactic| simp only [*, startD, List.map, List.replicate, List.length_cons, List.length_nil, List.append_eq, List.append_nil, List.nil_append, List.cons_append, Nat.reduceSub, Nat.reduceAdd, List.getElem?_cons_zero, List.getElem?_cons_succ, List.set_cons_zero, List.set_cons_succ,
  dC, dVar, dOp, dTru, gTru, tru, dChain, dAnd, dOr, dNot, dAndV, dOrV, dNotV, dIf, dNeg, gNeg, dNil, dCons, dTup, dLst, dOwn, gIx, rBin, gAdd, gCmpI, dCall, dCallK, dSeq, dNext, dDrop, dRet, dRetN, dIfS, dName, dGNil, dGCons, dGTup, dSub, gSetL, dAsg, dPar, dPar3, dAug, gIpI, dSeqI, gSeqI, dRngI, gRng1, gRng2, dCB, gAbs, gInt, gMax, gMin, gGcd, gLen, lenD, gIsi, tyM, tyD, dBits, gBits, dMet, gAppend, dPart, dNoPart, dSl, gSl_tup, gSl_lst, cut_1, dEnds, gIs, isB, dNever, dCallX, dRaise, dTry, dFld, dCallV, gLRng, gFrz, dFrz, dFor, dLc, wipeD, dYes,
  sizeLine_eq, Nat.reduceLeDiff, gEq_int, gNe_int, gEq_strs, gNe_strs, gIn_two, gRepr_bl, rs_lst, rs_tup, rs_scr, rs_int, atI_0, atI_1, atI_2, atI_3, atI_4, atI_5, ixN_30, ixN_31, ixN_32, gEq_bl, gNe_bl, decide_eq_true_eq, beq_iff_eq, Bool.not_eq_true', beq_eq_false_iff_ne, decide_eq_false_iff_not, Bool.not_true, Bool.not_false, if_true, if_false, Bool.false_eq_true, ite_true, ite_false, true_and, and_true, ne_eq, Bool.bne_false, Bool.bne_true, reduceCtorEq])
local macro_rules | `(tactic| walk_at "kb") => `(tactic| simp only [kb_NoneType_list, kb_bool_list, kb_int_list, kb_str_list, kb_tuple_list, kb_list_list, kb_dict_list, kb_NoneType_int, kb_bool_int, kb_int_int, kb_str_int, kb_tuple_int, kb_list_int, kb_dict_int, kb_NoneType_bool, kb_bool_bool, kb_int_bool, kb_str_bool, kb_tuple_bool, kb_list_bool, kb_dict_bool, kb_NoneType_tuple, kb_bool_tuple, kb_int_tuple, kb_str_tuple, kb_tuple_tuple, kb_list_tuple, kb_dict_tuple, if_true, if_false, Bool.false_eq_true, ite_true, ite_false, Bool.not_true, Bool.not_false])
/-! ### hearts, roads: with their errors -/
/-- any answer that shows no owned list -/
def AnyP (M : Mem) (Q : DQ) : Prop := ∀ d : D, (∀ n, below n d = true) → Q d M
theorem rd_searched_by_n : ∀ ds M Q, ds.length = 2 → spNever ds M Q DX0 → t_searched_by_n (dEnds M Q) (startD 9 ds) M := fun _ _ _ _ h => h.elim
theorem rd_walked_by_n : ∀ ds M Q, ds.length = 2 → spNever ds M Q DX0 → t_walked_by_n (dEnds M Q) (startD 7 ds) M := fun _ _ _ _ h => h.elim
theorem rd_line_down_n : ∀ ds M Q, ds.length = 2 → spNever ds M Q DX0 → t_line_down_n (dEnds M Q) (startD 4 ds) M := fun _ _ _ _ h => h.elim
theorem rd_between_by_n : ∀ ds M Q, ds.length = 3 → spNever ds M Q DX0 → t_between_by_n (dEnds M Q) (startD 5 ds) M := fun _ _ _ _ h => h.elim
/-! ### the lots of the heart's numbers -/
theorem count_split {α : Type} (F : List α) (p : α → Bool) : (F.filter p).length + (F.filter fun x => !p x).length = F.length := by
  induction F with
  | nil => rfl
  | cons x F ih =>
    rw [List.filter_cons, List.filter_cons]
    cases h : p x <;> simp [List.length_cons] <;> omega
def LI (l : List Int) : D := .lst (l.map D.int)
theorem below_LI {n : Nat} (l : List Int) : below n (LI l) = true := by
  simp only [LI, below]
  induction l with
  | nil => rfl
  | cons i l ih => simp only [List.map_cons, belowAll, below, ih, Bool.and_self]
/-- what stands in a lot, one number after another -/
def newIn (m : Int) (left lot : List Int) (e : Int) : List Int := left.filter fun x => !(lot.contains x) && stepP m e x
inductive GrowR (m : Int) (left : List Int) : List Int → Nat → List Int → Prop
  | done {lot : List Int} {at' : Nat} : lot.length ≤ at' → GrowR m left lot at' lot
  | step {lot lot' : List Int} {at' : Nat} {e : Int} : lot[at']? = some e → GrowR m left (lot ++ newIn m left lot e) (at' + 1) lot' → GrowR m left lot at' lot'
inductive LotsR (m : Int) : List Int → List (List Int) → Prop
  | nil : LotsR m [] []
  | cons {x : Int} {left lot srt : List Int} {ls : List (List Int)} : GrowR m (x :: left) [x] 0 lot → srt.Perm lot → srt.Pairwise (· ≤ ·) → LotsR m ((x :: left).filter fun y => !(lot.contains y)) ls → LotsR m (x :: left) (srt :: ls)
theorem gIn_ints {neg : Bool} {x : Int} {l : List Int} {M : Mem} {Q : DQ} (q : Q (.bl (l.contains x != neg)) M) : gIn neg (.int x) (.lst (l.map D.int)) M Q := by
  have nb : ∀ l : List Int, nbDAll (l.map D.int) = true := fun l => by
    induction l with
    | nil => rfl
    | cons i l ih => simp only [List.map_cons, nbDAll, nbD, ih, Bool.and_self]
  refine gIn_iff (n := 1) rfl rfl (fineA_ints l) rfl (nb l) fun b hb => ?_
  have : b = l.contains x := by
    rw [Bool.eq_iff_iff, hb, List.contains_iff_mem]
    constructor
    · intro h
      obtain ⟨y, hy, e⟩ := List.mem_map.mp h
      cases e
      exact hy
    · intro h
      exact List.mem_map.mpr ⟨x, h, rfl⟩
  rw [this]
  exact q
def InR (l : List Int) : Prop := ∀ x ∈ l, -(10 ^ 16) ≤ x ∧ x ≤ 10 ^ 16
theorem InR.filter {l : List Int} (h : InR l) (p : Int → Bool) : InR (l.filter p) := fun x hx => h x (List.mem_filter.mp hx).1
def heart0 (m : Int) : List Int := evens (hLow m) (hMany m).toNat
def spLotsBy : DSp := fun ds M Q _ => ∃ m : Int, ds = [.int m] ∧ isMeas (.int m) = true ∧ m ≤ 10 ^ 30 ∧ hMany m ≤ 100 ∧ ∀ ls : List (List Int), LotsR m (heart0 m) ls → ls.length ≤ 101 → (∀ l ∈ ls, l.length ≤ 101 ∧ InR l) → Q (.lst (ls.map LI)) M
theorem rd_lots_by : ∀ ds M Q, ds.length = 1 → spLotsBy ds M Q DX0 → t_lots_by sp_bounds_by sp_stepP (dEnds M Q) (startD 8 ds) M := by
  rintro _ M Q - ⟨m, rfl, hm, hm30, hmn, q⟩
  have m5 := meas_ge hm
  have lb := low_bd (by omega) hm30
  have bm : Bi 300 m := Bi.of_abs (10 ^ 30) (by omega) (by decide +kernel)
  have hbig := fit_big bm m5
  have hh := hHigh_eq m
  have hs := heart_some hm
  unfold t_lots_by
  refine dSeq_open fun B hB => ?_
  walk_at "rd"
  refine ⟨m, rfl, hbig.1, hbig.2, ?_⟩
  walk_at "rd"
  rw [← hB]
  clear hB B
  refine dSeq_open fun B hB => ?_
  walk_at "rd"
  refine ⟨(hMany m).toNat, rgC2 (by omega) (by omega) (by omega) (by omega) (by unfold hMany; split <;> omega), by omega, ?_⟩
  rw [rngC_evens]
  unfold ownQ
  rw [if_neg (by decide)]
  walk_at "rd"
  rw [← hB]
  clear hB B
  have hev : InR (evens (hLow m) (hMany m).toNat) := fun x hx => by
    have := evens_mem.mp hx
    unfold hMany at this
    omega
  have hel := evens_len (hLow m) (hMany m).toNat
  have q : ∀ ls : List (List Int), LotsR m (evens (hLow m) (hMany m).toNat) ls → ls.length ≤ 101 → (∀ l ∈ ls, l.length ≤ 101 ∧ InR l) → Q (.lst (ls.map LI)) M := q
  generalize evens (hLow m) (hMany m).toNat = left0 at *
  refine dSeq_open fun B hB => ?_
  have mK : ∀ x : Own, (M ++ [x])[M.length]? = some x := fun x => by rw [List.getElem?_append_right (Nat.le_refl _), Nat.sub_self]; rfl
  refine dwhile_of (fun n r M' => ∃ (left : List Int) (ls : List (List Int)) (t5 t6 : Option D), r = [some (.int m), some (.int (hLow m)), some (.int (hHigh m)), some (.lst (left.map D.int)), some (.own M.length), t5, t6, none] ∧
    M' = M ++ [.lst (ls.map LI)] ∧ InR left ∧ (∀ l ∈ ls, l.length ≤ 101 ∧ InR l) ∧ ls.length + left.length ≤ 100 ∧ (∀ rest, LotsR m left rest → LotsR m left0 (ls ++ rest)) ∧ n = left.length + 1) _
    ⟨left0, [], none, none, rfl, rfl, hev, fun l h => (by cases h), by rw [hel]; simp; omega, fun rest h => h, rfl⟩ ?_
  rintro _ r M' ⟨left, ls, t5, t6, rfl, rfl, hl, hls, hlen, hR, rfl⟩
  walk_at "rd"
  refine gNe_nil' (n := 1) (fineA_ints left) ?_
  cases left with
  | nil =>
    dsimp only
    rw [if_neg (by exact Bool.false_ne_true), ← hB]
    walk_at "rd"
    have hq := q ls (by have := hR [] .nil; rwa [List.append_nil] at this) (by omega) hls
    rw [mK]
    dsimp only
    have hset : List.set (M ++ [Own.lst (ls.map LI)]) M.length Own.dead = M ++ [Own.dead] := by
      rw [List.set_append_right _ _ (Nat.le_refl _), Nat.sub_self]
      rfl
    rw [hset]
    refine rtqG hq ?_
    have : ∀ ls : List (List Int), belowAll M.length (ls.map LI) = true := fun ls => by
      induction ls with
      | nil => rfl
      | cons l ls ih => simp only [List.map_cons, belowAll, below_LI, ih, Bool.and_self]
    simp only [below, this]
  | cons x left =>
    dsimp only
    rw [if_pos (by rfl), show atI (List.map D.int (x :: left)) 0 = some (.int x) from atI_0]
    dsimp only
    refine dwhile_of (fun n r M' => M' = M ++ [.lst (ls.map LI)] ∧ ∃ (lot : List Int) (at' : Nat), r = [some (.int m), some (.int (hLow m)), some (.int (hHigh m)), some (.lst ((x :: left).map D.int)), some (.own M.length), some (.lst (lot.map D.int)), some (.int at'), none] ∧
      InR lot ∧ lot.length + ((x :: left).filter fun y => !(lot.contains y)).length ≤ 101 ∧ at' ≤ lot.length ∧ x ∈ lot ∧ (∀ lot', GrowR m (x :: left) lot at' lot' → GrowR m (x :: left) [x] 0 lot') ∧
      n = ((x :: left).filter fun y => !(lot.contains y)).length + lot.length - at' + 1) _ ⟨rfl, [x], 0, rfl, fun y hy => hl y (by simp at hy; subst hy; exact List.mem_cons_self), ?_, Nat.zero_le _, List.mem_cons_self, fun _ h => h, rfl⟩ ?_
    · have := List.length_filter_le (fun y => !([x].contains y)) (x :: left)
      simp only [List.length_cons, List.length_nil] at this hlen ⊢
      omega
    rintro _ r M' ⟨rfl, lot, at', rfl, hlo, hsz, hat, hx, hG, rfl⟩
    walk_at "rd"
    rw [List.length_map]
    by_cases hlt : at' < lot.length
    · rw [if_pos (by omega)]
      obtain ⟨e, he⟩ : ∃ e, lot[at']? = some e := ⟨lot[at'], List.getElem?_eq_getElem hlt⟩
      have hei : atI (lot.map D.int) (at' : Int) = some (.int e) := by
        rw [atI_of _ (by rw [List.length_map]; exact hlt), List.getElem?_map, he]
        rfl
      have be : Bi 400 e := Bi.of_abs (10 ^ 16) (by have := hlo e (List.mem_of_getElem? he); omega) (by decide +kernel)
      show lcW false (List.map D.int (x :: left)) _ _ _ _ _ _ _
      refine lcW_pure (fun d => match d with | .int y => if (!(lot.contains y) && stepP m e y) = true then some (.int y) else none | _ => none) trivial (by rw [List.length_map, sizeLine_eq]; have := hlen; simp only [List.length_cons] at this ⊢; omega) (fun d hd Y N' hy => ?_) ?_
      · obtain ⟨y, hyl, rfl⟩ := List.mem_map.mp hd
        walk_at "rd"
        refine gIn_ints ?_
        dsimp only at hy ⊢
        cases hc : lot.contains y with
        | true =>
          rw [hc, Bool.not_true, Bool.false_and, if_neg Bool.false_ne_true] at hy
          rw [if_neg (by decide)]
          exact hy
        | false =>
          rw [hc, Bool.not_false, Bool.true_and] at hy
          rw [if_pos (by decide), hei]
          dsimp only
          refine ⟨m, e, y, rfl, be, ?_⟩
          dsimp only
          cases hst : stepP m e y with
          | true =>
            rw [hst, if_pos rfl] at hy
            rw [if_pos rfl]
            exact hy
          | false =>
            rw [hst, if_neg Bool.false_ne_true] at hy
            rw [if_neg (by decide)]
            exact hy
      rw [filterMap_int (p := fun y => !(lot.contains y) && stepP m e y) (f := fun d => match d with | .int y => if (!(lot.contains y) && stepP m e y) = true then some (.int y) else none | _ => none) (fun i => rfl)]
      dsimp only
      have hF : ((x :: left).filter fun y => !((lot ++ newIn m (x :: left) lot e).contains y)) = ((x :: left).filter fun y => !(lot.contains y)).filter fun y => !(stepP m e y) := by
        rw [List.filter_filter]
        refine List.filter_congr fun y hy => ?_
        rw [Bool.eq_iff_iff]
        simp only [Bool.not_eq_true', Bool.and_eq_true, Bool.eq_false_iff, ne_eq, List.contains_iff_mem, List.mem_append, newIn, List.mem_filter, not_or, not_and]
        constructor
        · rintro ⟨h1, h2⟩
          exact ⟨h2 hy (by simpa using h1), h1⟩
        · rintro ⟨h1, h2⟩
          exact ⟨h2, fun _ _ => h1⟩
      have hN : newIn m (x :: left) lot e = ((x :: left).filter fun y => !(lot.contains y)).filter fun y => stepP m e y := by
        unfold newIn
        rw [List.filter_filter]
        exact List.filter_congr fun y hy => Bool.and_comm _ _
      have hcs := count_split ((x :: left).filter fun y => !(lot.contains y)) fun y => stepP m e y
      rw [← hN, ← hF] at hcs
      refine ⟨by rw [List.length_map, List.length_map]; have : (newIn m (x :: left) lot e).length ≤ 101 := by omega
                 show lot.length + (newIn m (x :: left) lot e).length ≤ 16777216
                 omega, ?_⟩
      refine ⟨((x :: left).filter fun y => !((lot ++ newIn m (x :: left) lot e).contains y)).length + (lot ++ newIn m (x :: left) lot e).length - (at' + 1) + 1, by rw [List.length_append]; omega, rfl, lot ++ newIn m (x :: left) lot e, at' + 1, by rw [List.map_append]; rfl, ?_, by rw [List.length_append]; omega, by rw [List.length_append]; omega, List.mem_append_left _ hx, fun lot' h => hG lot' (.step he h), rfl⟩
      intro y hy
      rcases List.mem_append.mp hy with h | h
      · exact hlo y h
      · exact hl y (List.mem_filter.mp h).1
    · rw [if_neg (by omega)]
      have hdone := hG lot (.done (by omega))
      show lcW false (List.map D.int (x :: left)) _ _ _ _ _ _ _
      refine lcW_pure (fun d => match d with | .int y => if (!(lot.contains y)) = true then some (.int y) else none | _ => none) trivial (by rw [List.length_map, sizeLine_eq]; have := hlen; simp only [List.length_cons] at this ⊢; omega) (fun d hd Y N' hy => ?_) ?_
      · obtain ⟨y, hyl, rfl⟩ := List.mem_map.mp hd
        walk_at "rd"
        refine gIn_ints ?_
        dsimp only at hy ⊢
        cases hc : lot.contains y with
        | true =>
          rw [hc, Bool.not_true, if_neg Bool.false_ne_true] at hy
          rw [if_neg (by decide)]
          exact hy
        | false =>
          rw [hc, Bool.not_false, if_pos rfl] at hy
          rw [if_pos (by decide)]
          exact hy
      rw [filterMap_int (p := fun y => !(lot.contains y)) (f := fun d => match d with | .int y => if (!(lot.contains y)) = true then some (.int y) else none | _ => none) (fun i => rfl)]
      refine ⟨⟨_, _, rfl, mK _⟩, .inl ⟨lot, rfl, fun srt pm sd => ?_⟩⟩
      unfold ownOr
      rw [if_neg (by decide)]
      dsimp only
      rw [mK]
      dsimp only
      have hfl : ((x :: left).filter fun y => !(lot.contains y)).length ≤ left.length := by
        rw [List.filter_cons, if_neg (by simp [hx])]
        exact List.length_filter_le _ _
      simp only [List.length_cons] at hlen
      refine ⟨by rw [List.length_map]; omega, ((x :: left).filter fun y => !(lot.contains y)).length + 1, by omega, _, ls ++ [srt], _, _, rfl, ?_, hl.filter _, fun l hlm => ?_, by rw [List.length_append]; simp only [List.length_singleton]; omega, fun rest h => ?_, rfl⟩
      · rw [List.set_append_right _ _ (Nat.le_refl _), Nat.sub_self, List.map_append]
        rfl
      · rcases List.mem_append.mp hlm with h | h
        · exact hls l h
        · cases List.mem_singleton.mp h
          exact ⟨by rw [pm.length_eq]; omega, fun y hy => hlo y (pm.mem_iff.mp hy)⟩
      · rw [List.append_assoc]
        exact hR _ (.cons hdone pm sd h)
/-- lots: of measures alone, of at most 100 cuttings -/
def sp_heart_lots_x : DSp := fun ds M Q E => ∃ d T, ds = [d] ∧ tyM M d = some T ∧ (isMeas d = false → E "InvalidMeasure" d M) ∧ ∀ m, d = .int m → isMeas d = true → m ≤ 10 ^ 30 ∧ (100 < hMany m → E "TooMany" (.int (hMany m)) M) ∧
  (hMany m ≤ 100 → ∀ ls : List (List Int), LotsR m (heart0 m) ls → Q (.lst (ls.map fun l => .lst (l.map fun x => T4 0 ((m - x * x) / 4) 1 x))) M)
theorem filterMap_LI {g : List Int → D} {f : D → Option D} (h : ∀ l, f (LI l) = some (g l)) : ∀ ls : List (List Int), (ls.map LI).filterMap f = ls.map g
  | [] => rfl
  | l :: ls => by rw [List.map_cons, List.filterMap_cons, h, List.map_cons, filterMap_LI h ls]
theorem rd_heart_lots_x : ∀ ds M Q E, ds.length = 1 → belowAll M.length ds = true → sp_heart_lots_x ds M Q E → t_heart_lots_x sp_check_measure_x sp_bounds_by spLotsBy sp_heart_by (dOut M E) (dEnds M Q) (startD 5 ds) M := by
  rintro _ M Q E - hb ⟨d, T, rfl, ht, qe, qg⟩
  unfold t_heart_lots_x
  refine dSeq_open fun B hB => ?_
  walk_at "rd"
  refine ⟨d, T, rfl, ht, fun h => ?_, fun h => rtx (belowAll_mem hb (by simp)) (qe h)⟩
  obtain ⟨m, rfl, m5, _⟩ := isMeas_int h
  obtain ⟨hm30, q1, q2⟩ := qg m rfl h
  have bm : Bi 300 m := Bi.of_abs (10 ^ 30) (by omega) (by decide +kernel)
  have hbig := fit_big bm m5
  rw [← hB]
  clear hB B
  refine dSeq_open fun B hB => ?_
  walk_at "rd"
  refine ⟨m, rfl, hbig.1, hbig.2, ?_⟩
  walk_at "rd"
  rw [← hB]
  clear hB B
  refine dSeq_open fun B hB => ?_
  walk_at "rd"
  rw [fdiv_pos (show (0 : Int) < 2 by decide)]
  refine ⟨⟨by decide, by decide⟩, ?_⟩
  rw [show (hHigh m - hLow m) / 2 + 1 = hMany m from rfl]
  by_cases hN : 100 < hMany m
  · rw [if_pos hN]
    exact ⟨⟨by decide, by decide⟩, _, rfl, rtx rfl (q1 hN)⟩
  rw [if_neg hN, ← hB]
  clear hB B
  walk_at "rd"
  refine ⟨m, rfl, h, hm30, by omega, fun ls hls hn hl => ?_⟩
  dsimp only
  refine lcW_pure (fun d => match d with | .lst l => some (.lst (l.filterMap fun d => match d with | .int x => some (T4 0 ((m - x * x) / 4) 1 x) | _ => none)) | _ => none) trivial (by rw [List.length_map, sizeLine_eq]; omega) (fun d hd Y N' hy => ?_) ?_
  · obtain ⟨l, hlm, rfl⟩ := List.mem_map.mp hd
    have hl2 := hl l hlm
    unfold LI at hy ⊢
    walk_at "rd"
    refine lcW_pure (fun d => match d with | .int x => some (T4 0 ((m - x * x) / 4) 1 x) | _ => none) trivial (by rw [List.length_map, sizeLine_eq]; omega) (fun d hd Y N' hy => ?_) hy
    obtain ⟨x, hx, rfl⟩ := List.mem_map.mp hd
    have hb := hl2.2 x hx
    walk_at "rd"
    exact ⟨m, x, rfl, Bi.of_abs (10 ^ 16) (by omega) (by decide +kernel), hy⟩
  · rw [filterMap_LI (g := fun l => .lst (l.map fun x => T4 0 ((m - x * x) / 4) 1 x)) (fun l => by
      unfold LI
      dsimp only
      rw [filterMap_ints (g := fun x => T4 0 ((m - x * x) / 4) 1 x) (fun i => rfl)])]
    refine rtq (q2 (by omega) ls hls) ?_
    have b1 : ∀ l : List Int, belowAll M.length (l.map fun x => T4 0 ((m - x * x) / 4) 1 x) = true := fun l => by
      induction l with
      | nil => rfl
      | cons x l ih => simp only [List.map_cons, belowAll, below, ih, Bool.and_self]
    have b2 : ∀ ls : List (List Int), belowAll M.length (ls.map fun l => D.lst (l.map fun x => T4 0 ((m - x * x) / 4) 1 x)) = true := fun ls => by
      induction ls with
      | nil => rfl
      | cons l ls ih => simp only [List.map_cons, belowAll, below, b1, ih, Bool.and_self]
    simp only [below, b2]
/-! ### steps, distances, words -/
def sp_heart_steps_x : DSp := fun ds M Q E => ∃ d, ds = [d] ∧ Askable 4 M d ∧ (isHeartD d = false → E "InvalidCutting" d M) ∧ ∀ a b c e, d = T4 a b c e → isHeartD d = true → meas4 b c e ≤ 1000 ∧ AnyP M Q
theorem rd_heart_steps_x : ∀ ds M Q E, ds.length = 1 → belowAll M.length ds = true → sp_heart_steps_x ds M Q E → t_heart_steps_x sp_is_heartG sp_measure_by sp_bounds_by sp_stepP sp_heart_by (dOut M E) (dEnds M Q) (startD 6 ds) M := by
  rintro _ M Q E - hb ⟨d, rfl, ha, qe, qg⟩
  unfold t_heart_steps_x
  refine dSeq_open fun B hB => ?_
  walk_at "rd"
  refine ⟨_, rfl, ha, ?_⟩
  cases hd : isHeartD d with
  | false =>
    dsimp only
    rw [if_pos rfl]
    exact ⟨_, rfl, rtx (belowAll_mem hb (by simp)) (qe hd)⟩
  | true =>
  dsimp only
  rw [if_neg (by decide), ← hB]
  clear hB B
  obtain ⟨b, e, rfl, hc⟩ : ∃ b e, d = T4 0 b 1 e ∧ isCut 0 b 1 e = true := by
    unfold isHeartD at hd
    split at hd
    · rename_i a b c e
      simp only [Bool.and_eq_true, beq_iff_eq] at hd
      obtain ⟨h1, rfl⟩ := hd
      obtain ⟨_, _, _, k4, k5, _⟩ := cut_parts h1
      have h2 : a = 0 := by
        have : (Int.gcd b 1 : Int) = 1 := by rw [Int.gcd_one_right]; rfl
        omega
      exact ⟨b, e, by rw [h2], by rw [h2] at h1; exact h1⟩
    · cases hd
  obtain ⟨hm1000, q⟩ := qg _ _ _ _ rfl hd
  obtain ⟨m, hme⟩ : ∃ m, meas4 b 1 e = m := ⟨_, rfl⟩
  rw [hme] at hm1000
  have hm : isMeas (.int m) = true := by rw [← hme]; exact meas4_ok hc
  have m5 := meas_ge hm
  have hf := cut_fits hc hme
  obtain ⟨f1, f2, f3⟩ := heart_bd hm hf
  have hm30 : m ≤ 10 ^ 30 := by omega
  have lb := low_bd (by omega) hm30
  have bm : Bi 300 m := Bi.of_abs (10 ^ 30) (by omega) (by decide +kernel)
  obtain ⟨_, bb, bc, be⟩ := cut_bi hc (by rw [hme]; exact bm)
  have hbig := fit_big bm m5
  have i2 : isq m ≤ 1000 := by have := isq_le_self (n := m) (by omega); omega
  have i0 := isq_nn m
  have lo2 : -1100 ≤ hLow m := by unfold hLow; dsimp only; split <;> split <;> omega
  refine dSeq_open fun B hB => ?_
  walk_at "rd"
  refine ⟨0, b, 1, e, rfl, bb.mono, bc.mono, be.mono, ?_⟩
  rw [hme, ← hB]
  clear hB B
  refine dSeq_open fun B hB => ?_
  walk_at "rd"
  refine ⟨m, rfl, hbig.1, hbig.2, ?_⟩
  walk_at "rd"
  rw [← hB]
  clear hB B
  refine dSeq_open fun B hB => ?_
  walk_at "rd"
  rw [fdiv_pos (show (0 : Int) < 2 by decide)]
  refine ⟨⟨by decide, by decide⟩, ?_⟩
  rw [show (0 - e - 2 - hLow m) / 2 + 1 = stepN m e from rfl, ← hB]
  clear hB B
  refine dSeq_open fun B hB => ?_
  walk_at "rd"
  have hN5 : stepN m e ≤ 5000 := by unfold stepN; omega
  rw [if_neg (by omega), ← hB]
  clear hB B
  refine dSeq_open fun B hB => ?_
  walk_at "rd"
  refine ⟨(stepN m e).toNat, rgC2 (by omega) (by omega) (by omega) (by omega) (by unfold stepN; split <;> omega), ?_⟩
  rw [rngC_evens]
  refine lcW_pure (fun d => match d with | .int x => if stepP m e x = true then some (.int x) else none | _ => none) trivial (by rw [List.length_map, evens_len, sizeLine_eq]; omega) (fun d hd Y N' hy => ?_) ?_
  · obtain ⟨x, hx, rfl⟩ := List.mem_map.mp hd
    walk_at "rd"
    refine ⟨m, e, x, rfl, be.mono, ?_⟩
    dsimp only at hy ⊢
    cases hs : stepP m e x with
    | true =>
      rw [hs, if_pos rfl] at hy
      rw [if_pos rfl]
      exact hy
    | false =>
      rw [hs, if_neg (by decide)] at hy
      rw [if_neg (by decide)]
      exact hy
  rw [filterMap_int (p := stepP m e) (f := fun d => match d with | .int x => if stepP m e x = true then some (.int x) else none | _ => none) (fun i => rfl)]
  show B [some (T4 0 b 1 e), some (D.int m), some (D.int (hLow m)), some (D.int (stepN m e)), some (.lst ((stepI m e).map D.int)), none] M
  rw [← hB]
  clear hB B
  walk_at "rd"
  have hlen := stepI_len m e
  refine lcW_pure (fun d => match d with | .int x => some (T4 0 ((m - x * x) / 4) 1 x) | _ => none) trivial (by rw [List.length_map, sizeLine_eq]; omega) (fun d hd Y N' hy => ?_) ?_
  · obtain ⟨x, hx, rfl⟩ := List.mem_map.mp hd
    have hb := stepI_mem hx
    walk_at "rd"
    exact ⟨m, x, rfl, Bi.of_abs (10 ^ 16) (by omega) (by decide +kernel), hy⟩
  · rw [filterMap_ints (g := fun x => T4 0 ((m - x * x) / 4) 1 x) (fun i => rfl), ← stepL_tI]
    have bl : ∀ n, below n (.lst ((stepL m e).map tI)) = true := fun n => below_tIs _
    exact rtq (q _ bl) (bl _)
def sp_heart_distance_x : DSp := fun ds M Q E => ∃ d, ds = [d] ∧ Askable 4 M d ∧ (isCutD d = false → E "InvalidCutting" d M) ∧ (isCutD d = true → AnyP M Q)
theorem rd_heart_distance_x : ∀ ds M Q E, ds.length = 1 → belowAll M.length ds = true → sp_heart_distance_x ds M Q E → t_heart_distance_x sp_check_cutting_x sp_far_by (dOut M E) (dEnds M Q) (startD 1 ds) M := by
  rintro _ M Q E - hb ⟨d, rfl, ha, qe, qg⟩
  unfold t_heart_distance_x
  refine dSeq_open fun B hB => ?_
  walk_at "rd"
  refine ⟨d, rfl, ha, fun h => ?_, fun h => rtx (belowAll_mem hb (by simp)) (qe h)⟩
  obtain ⟨a, b, c, e, rfl, hc⟩ := isCutD_T4 h
  rw [← hB]
  clear hB B
  walk_at "rd"
  exact ⟨a, b, c, e, rfl, rtq (qg h _ fun n => rfl)⟩
def sp_word_to_heart_x : DSp := fun ds M Q E => ∃ d, ds = [d] ∧ Askable 4 M d ∧ (isCutD d = false → E "InvalidCutting" d M) ∧ ∀ a b c e, d = T4 a b c e → isCutD d = true → Bi 300 (meas4 b c e) ∧ AnyP M Q
theorem rd_word_to_heart_x : ∀ ds M Q E, ds.length = 1 → belowAll M.length ds = true → sp_word_to_heart_x ds M Q E → t_word_to_heart_x sp_check_cutting_x sp_to_heart_by (dOut M E) (dEnds M Q) (startD 1 ds) M := by
  rintro _ M Q E - hb ⟨d, rfl, ha, qe, qg⟩
  unfold t_word_to_heart_x
  refine dSeq_open fun B hB => ?_
  walk_at "rd"
  refine ⟨d, rfl, ha, fun h => ?_, fun h => rtx (belowAll_mem hb (by simp)) (qe h)⟩
  obtain ⟨a, b, c, e, rfl, hc⟩ := isCutD_T4 h
  obtain ⟨bm, q⟩ := qg _ _ _ _ rfl h
  rw [← hB]
  clear hB B
  walk_at "rd"
  refine ⟨a, b, c, e, rfl, hc, bm, fun ps a' b' c' e' _ _ _ _ _ => ?_⟩
  show match atI [D.lst (wd1 ps), T4 a' b' c' e'] 0 with | some d => Rtq M Q d M | none => False
  rw [atI_0]
  dsimp only
  have bw : ∀ n, below n (.lst (wd1 ps)) = true := fun n => below_wd1
  exact rtq (q _ bw) (bw _)
/-! ### roads -/
def TwoG (x y : D) (M : Mem) (E : DX) (good : Prop) : Prop := Askable 4 M x ∧ Askable 4 M y ∧ (isCutD x = false → E "InvalidCutting" x M) ∧ (isCutD x = true → isCutD y = false → E "InvalidCutting" y M) ∧
  ∀ a b c e a' b' c' e', x = T4 a b c e → y = T4 a' b' c' e' → isCut a b c e = true → isCut a' b' c' e' = true → (Bi 300 (meas4 b c e) ∧ Bi 300 (meas4 b' c' e')) ∧ (meas4 b c e ≠ meas4 b' c' e' → E "Unlike" y M) ∧ (meas4 b c e = meas4 b' c' e' → good)
def sp_check_two_x : DSp := fun ds M Q E => ∃ x y, ds = [x, y] ∧ TwoG x y M E (Q .non M)
theorem rd_check_two_x : ∀ ds M Q E, ds.length = 2 → belowAll M.length ds = true → sp_check_two_x ds M Q E → t_check_two_x sp_check_cutting_x sp_measure_by (dOut M E) (dEnds M Q) (startD 2 ds) M := by
  rintro _ M Q E - hb ⟨x, y, rfl, ax, ay, q1, q2, q3⟩
  unfold t_check_two_x
  refine dSeq_open fun B hB => ?_
  walk_at "rd"
  refine ⟨x, rfl, ax, fun h => ?_, fun h => rtx (belowAll_mem hb (by simp)) (q1 h)⟩
  rw [← hB]
  clear hB B
  refine dSeq_open fun B hB => ?_
  walk_at "rd"
  refine ⟨y, rfl, ay, fun h' => ?_, fun h' => rtx (belowAll_mem hb (by simp)) (q2 h h')⟩
  obtain ⟨a, b, c, e, rfl, hc⟩ := isCutD_T4 h
  obtain ⟨a', b', c', e', rfl, hc'⟩ := isCutD_T4 h'
  obtain ⟨⟨b1, b2⟩, q4, q5⟩ := q3 _ _ _ _ _ _ _ _ rfl rfl hc hc'
  obtain ⟨_, bb, bc, be⟩ := cut_bi hc b1
  obtain ⟨_, bb', bc', be'⟩ := cut_bi hc' b2
  rw [← hB]
  clear hB B
  walk_at "rd"
  refine ⟨a, b, c, e, rfl, bb.mono, bc.mono, be.mono, ?_⟩
  refine ⟨a', b', c', e', rfl, bb'.mono, bc'.mono, be'.mono, ?_⟩
  dsimp only
  rw [gNe_int]
  dsimp only
  by_cases hm : meas4 b c e = meas4 b' c' e'
  · rw [if_neg (by simp [hm])]
    exact rtq (q5 hm)
  · rw [if_pos (by simp [hm])]
    exact ⟨_, rfl, rtx rfl (q4 hm)⟩
theorem HWay.fin : ∀ {ps : List Int} {a b c e a1 b1 c1 e1 a2 b2 c2 e2 : Int}, isCut a b c e = true → HWay ps a b c e a1 b1 c1 e1 → HWay ps a b c e a2 b2 c2 e2 → a1 = a2 ∧ b1 = b2 ∧ c1 = c2 ∧ e1 = e2
  | [], _, _, _, _, _, _, _, _, _, _, _, _, _, ⟨rfl, rfl, rfl, rfl⟩, ⟨rfl, rfl, rfl, rfl⟩ => ⟨rfl, rfl, rfl, rfl⟩
  | p :: ps, a, b, c, e, _, _, _, _, _, _, _, _, hc, ⟨x1, w1, g1, y1, u0, u1, u2, u3, u4⟩, ⟨x2, w2, g2, y2, v0, v1, v2, v3, v4⟩ => by
    have hg := done_g (cut_parts hc).2.1 (by decide) u2
    obtain ⟨rfl, rfl, rfl, rfl⟩ := isDone_unique (by omega) u2 v2
    exact HWay.fin (done_one hc u0 u2).1 u3 v3
theorem hway_nn : ∀ {ps : List Int} {a b c e a1 b1 c1 e1 : Int}, HWay ps a b c e a1 b1 c1 e1 → ∀ p ∈ ps, 0 ≤ p
  | [], _, _, _, _, _, _, _, _, _ => fun p hp => by cases hp
  | p :: ps, _, _, _, _, _, _, _, _, ⟨_, _, _, _, u0, _, _, u3, _⟩ => fun q hq => by
    rcases List.mem_cons.mp hq with rfl | h
    · exact u0
    · exact hway_nn u3 q h
def sp_parted_by : DSp := fun ds M Q _ => ∃ a b c e : Int, ds = [T4 a b c e, T4 a b c e] ∧ CutB 450 a b c e ∧ Q (.bl false) M
theorem rd_parted_by : ∀ ds M Q, ds.length = 2 → sp_parted_by ds M Q DX0 → t_parted_by sp_measure_by (dEnds M Q) (startD 3 ds) M := by
  rintro _ M Q - ⟨a, b, c, e, rfl, ⟨_, bb, bc, be⟩, q⟩
  unfold t_parted_by
  refine dSeq_open fun B hB => ?_
  walk_at "rd"
  refine ⟨a, b, c, e, rfl, bb.mono, bc.mono, be.mono, ?_⟩
  rw [← hB]
  clear hB B
  generalize meas4 b c e = m
  walk_at "rd"
  refine ⟨(by decide : (8 : Int) ≠ 0), ?_⟩
  rw [fmod_pos (by decide), fmod_pos (by decide)]
  have e0 : (e - e) % 4 = 0 := by omega
  by_cases h8 : m % 8 = 1
  · rw [if_pos h8]
    by_cases h9 : m = 9
    · rw [if_neg (by simp [h9])]
      simp only [h9]
      exact rtq q
    · rw [if_pos (by simp [h9])]
      refine ⟨(by decide : (4 : Int) ≠ 0), ?_⟩
      simp only [e0]
      exact rtq q
  · rw [if_neg h8]
    have : (m % 8 == 1) = false := by simpa using h8
    simp only [this]
    exact rtq q
def sp_numbers_by : DSp := fun ds M Q _ => ∃ a b c e : Int, ds = [T4 a b c e, T4 a b c e] ∧ CutB 450 a b c e ∧ Q (.lst [.int e]) M
theorem rd_numbers_by : ∀ ds M Q, ds.length = 2 → sp_numbers_by ds M Q DX0 → t_numbers_by sp_measure_by spNever spNever spNever (dEnds M Q) (startD 7 ds) M := by
  rintro _ M Q - ⟨a, b, c, e, rfl, ⟨_, bb, bc, be⟩, q⟩
  unfold t_numbers_by
  refine dSeq_open fun B hB => ?_
  walk_at "rd"
  refine ⟨a, b, c, e, rfl, bb.mono, bc.mono, be.mono, ?_⟩
  rw [← hB]
  clear hB B
  refine dSeq_open fun B hB => ?_
  walk_at "rd"
  exact rtq q
theorem rd_step_deed_by : ∀ ds M Q, ds.length = 2 → spNever ds M Q DX0 → t_step_deed_by (dEnds M Q) (startD 3 ds) M := fun _ _ _ _ h => h.elim
def tI2 (l : List (Int × Int)) : List D := l.map fun p => .tup [.int p.1, .int p.2]
theorem below_tI2 {n : Nat} (l : List (Int × Int)) : below n (.lst (tI2 l)) = true := by
  simp only [below]
  induction l with
  | nil => rfl
  | cons p l ih => simp only [tI2, List.map_cons, belowAll, below, Bool.and_self, Bool.true_and] at ih ⊢; exact ih
/-- the word back of a word to the heart -/
def sp_turned_by : DSp := fun ds M Q _ => ∃ (a b c e : Int) (ps : List Int), ds = [T4 a b c e, .lst (wd1 ps)] ∧ isCut a b c e = true ∧ Bi 300 (meas4 b c e) ∧ (∀ p ∈ ps, 0 ≤ p ∧ Bi 450 p) ∧ ps.length ≤ 10 ∧ ∀ l : List (Int × Int), l.length = ps.length → Q (.lst (tI2 l)) M
theorem rd_turned_by : ∀ ds M Q, ds.length = 2 → sp_turned_by ds M Q DX0 → t_turned_by sp_back_by sp_done_by (dEnds M Q) (startD 5 ds) M := by
  rintro _ M Q - ⟨a, b, c, e, ps, rfl, hc, hm, hps, hl, q⟩
  unfold t_turned_by
  refine dSeq_open fun B hB => ?_
  walk_at "rd"
  rw [← hB]
  clear hB B
  refine dSeq_open fun B hB => ?_
  walk_at "rd"
  refine ⟨fun i r M' => M' = M ∧ i ≤ ps.length ∧ ∃ (a1 b1 c1 e1 : Int) (l : List (Int × Int)) (t : Option D), r = [some (T4 a b c e), some (.lst (wd1 ps)), some (T4 a1 b1 c1 e1), some (.lst (tI2 l)), t] ∧ isCut a1 b1 c1 e1 = true ∧ meas4 b1 c1 e1 = meas4 b c e ∧ l.length = i,
    ⟨rfl, Nat.zero_le _, a, b, c, e, [], none, rfl, hc, rfl, rfl⟩, ?_⟩
  rintro i r M' ⟨rfl, hi, a1, b1, c1, e1, l, t, rfl, hc1, hm1, hli⟩
  have hwl : (wd1 ps).length = ps.length := List.length_map _
  refine ⟨trivial, fun hlast => ?_, fun d hd => ?_⟩
  · rw [hwl] at hlast
    dsimp only
    rw [← hB]
    clear hB B
    walk_at "rd"
    exact rtq (q l (by omega)) (below_tI2 l)
  · have hlt : i < ps.length := by
      have := (List.getElem?_eq_some_iff.mp hd).1
      rwa [hwl] at this
    obtain ⟨p, hp, rfl⟩ := List.mem_map.mp (List.mem_of_getElem? hd)
    obtain ⟨p0, bp⟩ := hps p hp
    have hb1 := cut_bi hc1 (n := 300) (by rw [hm1]; exact hm)
    obtain ⟨k1, k2, _⟩ := cut_parts hc1
    simp only [dName, List.set_cons_zero, List.set_cons_succ]
    clear hB
    refine dSeq_open fun B1 hB => ?_
    walk_at "rd"
    refine ⟨a1, b1, c1, e1, p, 1, rfl, Int.le_refl _, k2, (deedq_one hc1 p0).cp, hb1.mono, bp, Bi.of_abs 1 (by decide) (by decide), fun a2 w2 g2 e2 p1 q1 _ _ => ?_⟩
    dsimp only
    refine ⟨by show 1 + (tI2 l).length ≤ 16777216; have : (tI2 l).length = l.length := List.length_map _; omega, ?_⟩
    rw [← hB]
    clear hB B1
    walk_at "rd"
    refine ⟨a1, b1, c1, e1, p, 1, rfl, Int.le_refl _, k2, (deedq_one hc1 p0).cp, hb1.mono, bp, Bi.of_abs 1 (by decide) (by decide), fun a3 w3 g3 e3 hd3 => ?_⟩
    obtain ⟨hc2, hm2⟩ := done_one hc1 p0 hd3
    exact ⟨rfl, by omega, a3, w3, g3, e3, (p1, q1) :: l, _, rfl, hc2, hm2.trans hm1, by rw [List.length_cons]; omega⟩
/-- a road from a cutting to itself -/
def sp_road_by : DSp := fun ds M Q _ => ∃ a b c e : Int, ds = [T4 a b c e, T4 a b c e] ∧ isCut a b c e = true ∧ Bi 300 (meas4 b c e) ∧ AnyP M Q
theorem rd_road_by : ∀ ds M Q, ds.length = 2 → sp_road_by ds M Q DX0 → t_road_by sp_to_heart_by sp_parted_by sp_numbers_by spNever spNever sp_turned_by (dEnds M Q) (startD 9 ds) M := by
  rintro _ M Q - ⟨a, b, c, e, rfl, hc, hm, q⟩
  unfold t_road_by
  refine dSeq_open fun B hB => ?_
  walk_at "rd"
  refine ⟨a, b, c, e, rfl, hc, hm, fun ps a1 b1 c1 e1 hw _ hl1 hc1 hm1 => ?_⟩
  refine ⟨a, b, c, e, rfl, hc, hm, fun ps2 a2 b2 c2 e2 hw2 _ hl2 hc2 hm2 => ?_⟩
  have hps : ps = ps2 := HWay.uniq hc hw hw2 (by omega)
  subst hps
  obtain ⟨rfl, rfl, rfl, rfl⟩ := HWay.fin hc hw hw2
  have n0 := farV_nn a b c
  have hb := (cut_bi hc1 (n := 300) (by rw [hm1]; exact hm)).mono (k := 450)
  walk_at "rd"
  rw [← hB]
  clear hB B
  refine dSeq_open fun B hB => ?_
  walk_at "rd"
  refine ⟨_, _, _, _, rfl, hb, ?_⟩
  dsimp only
  rw [if_neg (by decide), ← hB]
  clear hB B
  refine dSeq_open fun B hB => ?_
  walk_at "rd"
  refine ⟨_, _, _, _, rfl, hb, ?_⟩
  rw [← hB]
  clear hB B
  refine dSeq_open fun B hB => ?_
  walk_at "rd"
  rw [← hB]
  clear hB B
  refine dSeq_open fun B hB => ?_
  walk_at "rd"
  refine ⟨by unfold Rg; decide, ?_⟩
  refine lcW_pure (fun _ => none) trivial (by decide +kernel) (fun d hd Y N' hy => by cases hd) ?_
  show B [some (T4 a b c e), some (T4 a b c e), some (D.lst (wd1 ps)), some (T4 a1 b1 c1 e1), some (D.lst (wd1 ps)), some (T4 a1 b1 c1 e1), some (D.lst [D.int e1]), some (.lst []), none] M
  rw [← hB]
  clear hB B
  walk_at "rd"
  have hwl : (wd1 ps).length = ps.length := List.length_map _
  refine ⟨by show (wd1 ps).length + 0 ≤ 16777216; omega, a, b, c, e, ps, rfl, hc, hm, fun p hp => ⟨hway_nn hw p hp, (hway_bi hc hm hw p hp).mono⟩, by omega, fun l hl => ?_⟩
  have hll : (tI2 l).length = l.length := List.length_map _
  have hbl : ∀ n, below n (.lst (wd1 ps ++ tI2 l)) = true := fun n => by
    have h1 : belowAll n (wd1 ps) = true := below_wd1
    have h2 := below_tI2 (n := n) l
    simp only [below] at h2 ⊢
    have : ∀ l1 l2 : List D, belowAll n l1 = true → belowAll n l2 = true → belowAll n (l1 ++ l2) = true := fun l1 l2 a b => by
      induction l1 with
      | nil => exact b
      | cons x l1 ih =>
        simp only [belowAll, Bool.and_eq_true] at a
        simp only [List.cons_append, belowAll, a.1, ih a.2, Bool.and_self]
    exact this _ _ h1 h2
  refine ⟨by omega, ?_⟩
  exact rtq (q _ hbl) (hbl _)
def sp_road_x : DSp := fun ds M Q E => ∃ x y, ds = [x, y] ∧ TwoG x y M E (x = y ∧ AnyP M Q)
theorem rd_road_x : ∀ ds M Q E, ds.length = 2 → belowAll M.length ds = true → sp_road_x ds M Q E → t_road_x sp_check_two_x sp_road_by (dOut M E) (dEnds M Q) (startD 2 ds) M := by
  rintro _ M Q E - hb ⟨x, y, rfl, ax, ay, q1, q2, q3⟩
  unfold t_road_x
  refine dSeq_open fun B hB => ?_
  walk_at "rd"
  refine ⟨x, y, rfl, ax, ay, fun h => rtx (belowAll_mem hb (by simp)) (q1 h), fun h h' => rtx (belowAll_mem hb (by simp)) (q2 h h'), fun a b c e a' b' c' e' e1 e2 h1 h2 => ?_⟩
  obtain ⟨bb, q4, q5⟩ := q3 _ _ _ _ _ _ _ _ e1 e2 h1 h2
  refine ⟨bb, fun h => rtx (belowAll_mem hb (by simp)) (q4 h), fun h => ?_⟩
  obtain ⟨rfl, q⟩ := q5 h
  subst e1
  rw [← hB]
  clear hB B
  walk_at "rd"
  exact ⟨a, b, c, e, rfl, h1, bb.1, fun d hd => rtq (q d hd) (hd _)⟩
def sp_is_road_by : DSp := fun ds M Q _ => ∃ a b c e : Int, ds = [T4 a b c e, T4 a b c e, .non] ∧ AnyP M Q
theorem rd_is_road_by : ∀ ds M Q, ds.length = 3 → sp_is_road_by ds M Q DX0 → t_is_road_by sp_is_deed_by sp_done_by (dEnds M Q) (startD 5 ds) M := by
  rintro _ M Q - ⟨a, b, c, e, rfl, q⟩
  unfold t_is_road_by
  refine dSeq_open fun B hB => ?_
  walk_at "rd"
  rw [show kitB "NoneType" "list" = some false from rfl]
  dsimp only
  rw [if_pos rfl]
  exact rtq (q _ fun n => rfl)
def sp_is_road_x : DSp := fun ds M Q E => ∃ x y v, ds = [x, y, v] ∧ TwoG x y M E (x = y ∧ v = .non ∧ AnyP M Q)
theorem rd_is_road_x : ∀ ds M Q E, ds.length = 3 → belowAll M.length ds = true → sp_is_road_x ds M Q E → t_is_road_x sp_check_two_x sp_is_road_by (dOut M E) (dEnds M Q) (startD 3 ds) M := by
  rintro _ M Q E - hb ⟨x, y, v, rfl, ax, ay, q1, q2, q3⟩
  unfold t_is_road_x
  refine dSeq_open fun B hB => ?_
  walk_at "rd"
  refine ⟨x, y, rfl, ax, ay, fun h => rtx (belowAll_mem hb (by simp)) (q1 h), fun h h' => rtx (belowAll_mem hb (by simp)) (q2 h h'), fun a b c e a' b' c' e' e1 e2 h1 h2 => ?_⟩
  obtain ⟨bb, q4, q5⟩ := q3 _ _ _ _ _ _ _ _ e1 e2 h1 h2
  refine ⟨bb, fun h => rtx (belowAll_mem hb (by simp)) (q4 h), fun h => ?_⟩
  obtain ⟨rfl, rfl, q⟩ := q5 h
  subst e1
  rw [← hB]
  clear hB B
  walk_at "rd"
  exact ⟨a, b, c, e, rfl, fun d hd => rtq (q d hd) (hd _)⟩
end DL
namespace DL
open PySem PySem.Spec PyProof.Rows L2
local macro_rules | `(tactic| walk_at "rd") => `(tactic| simp only [startD, List.map, List.replicate, List.length_cons, List.length_nil, List.append_eq, List.append_nil, List.nil_append, List.cons_append, Nat.reduceSub, Nat.reduceAdd, List.getElem?_cons_zero, List.getElem?_cons_succ, List.set_cons_zero, List.set_cons_succ,
  dC, dVar, dOp, dTru, gTru, tru, dChain, dAnd, dOr, dNot, dAndV, dOrV, dNotV, dIf, dNeg, gNeg, dNil, dCons, dTup, dLst, dOwn, gIx, rBin, gAdd, gCmpI, dCall, dCallK, dSeq, dNext, dDrop, dRet, dRetN, dIfS, dName, dGNil, dGCons, dGTup, dSub, gSetL, dAsg, dPar, dPar3, dAug, gIpI, dSeqI, gSeqI, dRngI, gRng1, gRng2, dCB, gAbs, gInt, gMax, gMin, gGcd, gLen, lenD, gIsi, tyM, tyD, dBits, gBits, dMet, gAppend, dPart, dNoPart, dSl, gSl_tup, gSl_lst, cut_1, dEnds, gIs, isB, dNever, dFor, dLc, wipeD, dYes,
  sizeLine_eq, Nat.reduceLeDiff, gEq_int, gNe_int, gEq_strs, gNe_strs, gIn_two, gRepr_bl, rs_lst, rs_tup, rs_scr, rs_int, atI_0, atI_1, atI_2, atI_3, atI_4, atI_5, ixN_30, ixN_31, ixN_32, gEq_bl, gNe_bl, decide_eq_true_eq, beq_iff_eq, Bool.not_eq_true', beq_eq_false_iff_ne, decide_eq_false_iff_not, Bool.not_true, Bool.not_false, if_true, if_false, Bool.false_eq_true, ite_true, ite_false, true_and, and_true, ne_eq, Bool.bne_false, Bool.bne_true, reduceCtorEq])
local macro_rules | `(tactic| walk_at "rh") => `(tactic| simp only [*, startD, List.map, List.replicate, List.length_cons, List.length_nil, List.append_eq, List.append_nil, List.nil_append, List.cons_append, Nat.reduceSub, Nat.reduceAdd, List.getElem?_cons_zero, List.getElem?_cons_succ, List.set_cons_zero, List.set_cons_succ,
  dC, dVar, dOp, dTru, gTru, tru, dChain, dAnd, dOr, dNot, dAndV, dOrV, dNotV, dIf, dNeg, gNeg, dNil, dCons, dTup, dLst, dOwn, gIx, rBin, gAdd, gCmpI, dCall, dCallK, dSeq, dNext, dDrop, dRet, dRetN, dIfS, dName, dGNil, dGCons, dGTup, dSub, gSetL, dAsg, dPar, dPar3, dAug, gIpI, dSeqI, gSeqI, dRngI, gRng1, gRng2, dCB, gAbs, gInt, gMax, gMin, gGcd, gLen, lenD, gIsi, tyM, tyD, dBits, gBits, dMet, gAppend, dPart, dNoPart, dSl, gSl_tup, gSl_lst, cut_1, dEnds, gIs, isB, dNever, dFor, dLc, wipeD, dYes,
  sizeLine_eq, Nat.reduceLeDiff, gEq_int, gNe_int, gEq_strs, gNe_strs, gIn_two, gRepr_bl, rs_lst, rs_tup, rs_scr, rs_int, atI_0, atI_1, atI_2, atI_3, atI_4, atI_5, ixN_30, ixN_31, ixN_32, gEq_bl, gNe_bl, decide_eq_true_eq, beq_iff_eq, Bool.not_eq_true', beq_eq_false_iff_ne, decide_eq_false_iff_not, Bool.not_true, Bool.not_false, if_true, if_false, Bool.false_eq_true, ite_true, ite_false, true_and, and_true, ne_eq, Bool.bne_false, Bool.bne_true, reduceCtorEq])
local macro_rules | `(tactic| walk_at "kb") => `(tactic| simp only [kb_NoneType_list, kb_bool_list, kb_int_list, kb_str_list, kb_tuple_list, kb_list_list, kb_dict_list, kb_NoneType_int, kb_bool_int, kb_int_int, kb_str_int, kb_tuple_int, kb_list_int, kb_dict_int, kb_NoneType_bool, kb_bool_bool, kb_int_bool, kb_str_bool, kb_tuple_bool, kb_list_bool, kb_dict_bool, kb_NoneType_tuple, kb_bool_tuple, kb_int_tuple, kb_str_tuple, kb_tuple_tuple, kb_list_tuple, kb_dict_tuple, if_true, if_false, Bool.false_eq_true, ite_true, ite_false, Bool.not_true, Bool.not_false])
theorem meas_bi {n : Nat} {b c e : Int} (hb : Bi n b) (hc : Bi n c) (he : Bi n e) : Bi (2 * n + 4) (meas4 b c e) := by
  have h1 : Bi (3 + n + n) (4 * b * c) := ((Bi.of_abs 4 (by decide) : Bi 3 4).mul hb).mul hc
  have h2 : Bi (n + n) (e * e) := he.mul he
  unfold meas4
  have h3 : Bi (3 + n + n) (e * e) := h2.mono (by omega)
  have h4 := h3.add h1
  exact h4.mono (by omega)
theorem cut_plain {b e : Int} (hb : 1 ≤ b) (h : 1 + e < b) : isCut 0 b 1 e = true := by
  have g1 : (Int.gcd b 1 : Int) = 1 := by simp [Int.gcd]
  unfold isCut
  rw [g1, decide_eq_true hb, decide_eq_true h]
  simp [Int.gcd]
def sp_lgreat28 : DSp := fun ds M Q _ => ∃ (k : Nat) (f n : Int), ds = [.own k, .int f] ∧ 0 < f ∧ f ≤ 14 ∧ Gn k n M ∧ n ≤ P40 - 2000 ∧
  ∀ a b c e M', isCut a b c e = true → Bi 250 (meas4 b c e) → Gst k (n + 400) M M' → Q (T4 a b c e) M'
theorem rd_l_great_5836 : ∀ ds M Q, ds.length = 2 → sp_lgreat28 ds M Q DX0 → t_l_great_5836 sp_random sp_gcd sp_liscut1 (dEnds M Q) (startD 10 ds) M := by
  rintro _ M Q - ⟨k, f, n, rfl, f0, f1, hg, hn, h⟩
  unfold t_l_great_5836
  refine dSeq_open fun B hB => ?_
  walk_at "rd"
  rw [← hB]
  clear hB B
  refine dSeq_open fun B hB => ?_
  walk_at "rd"
  refine ⟨k, f, n, rfl, f0, lt900 (by omega), hg, by omega, fun v M1 v0 v1 g1 => ?_⟩
  dsimp only
  refine ⟨⟨by omega, by omega⟩, ?_⟩
  refine ⟨fun i r M' => M' = M1 ∧ i ≤ v.toNat ∧ ∃ (bd : Int) (t : Option D), r = [some (.own k), some (.int f), some (.int bd), t, none, none, none, none, none, none] ∧ 3 ≤ bd ∧ bd ≤ 3 * 10 ^ i, ⟨rfl, by omega, 3, _, rfl, by omega, by omega⟩, ?_⟩
  rintro i r M' ⟨rfl, hi, bd, t, rfl, b3, b4⟩
  have h13 : (10 : Nat) ^ i ≤ 10 ^ 13 := Nat.pow_le_pow_right (by decide) (by omega)
  have h13' : ((10 ^ i : Nat) : Int) = (10 : Int) ^ i := by rw [Int.natCast_pow]; rfl
  have hbd : bd ≤ 3 * 10 ^ 13 := by omega
  refine ⟨trivial, fun hl => ?_, fun d hd => ?_⟩
  · dsimp only
    rw [← hB]
    clear hB B
    refine dSeq_open fun B hB => ?_
    walk_at "rd"
    refine ⟨k, 6, _, rfl, by decide, lt900 (by decide), g1.2.1, by omega, fun v2 M2 v20 v21 g2 => ?_⟩
    obtain ⟨d1, hd1, ed1⟩ := atI_any (l := [D.int 1, .int 1, .int 2, .int 3, .int 6, .int 12]) v20 (by simpa using v21)
    walk_at "rd"
    rw [ed1]
    dsimp only
    obtain ⟨y, rfl, y1, y2⟩ : ∃ y : Int, d1 = .int y ∧ 1 ≤ y ∧ y ≤ 12 := by
      simp only [List.mem_cons, List.not_mem_nil, or_false] at hd1
      rcases hd1 with rfl | rfl | rfl | rfl | rfl | rfl <;> exact ⟨_, rfl, by decide, by decide⟩
    rw [← hB]
    clear hB B
    refine dSeq_open fun B hB => ?_
    walk_at "rd"
    refine ⟨k, bd, _, rfl, by omega, lt900 (by omega), g2.2.1, by omega, fun v3 M3 v30 v31 g3 => ?_⟩
    dsimp only
    have by1 : Bi 6 y := Bi.of_abs 30 (by omega) (by decide)
    have bv : Bi 50 (1 + v3) := Bi.of_abs (10 ^ 14) (by omega) (by decide)
    have w1 : 1 ≤ y * (1 + v3) := by
      have : 1 * 1 ≤ y * (1 + v3) := Int.mul_le_mul y1 (by omega) (by decide) (by omega)
      omega
    have w2 : y * (1 + v3) ≤ 12 * (1 + 3 * 10 ^ 13) := Int.mul_le_mul y2 (by omega) (by omega) (by decide)
    refine ⟨⟨by1.sm, bv.sm⟩, ⟨(Bi.of_abs 2 (by decide) : Bi 3 2).sm, (Bi.of_abs (10 ^ 14) (by omega) (by decide) : Bi 50 bd).sm⟩, k, _, _, rfl, by omega, lt900 (by omega), g3.2.1, by omega, fun v4 M4 v40 v41 g4 => ?_⟩
    generalize y * (1 + v3) = c at *
    dsimp only
    generalize he : v4 - bd = e
    rw [← hB]
    clear hB B
    refine dSeq_open fun B hB => ?_
    walk_at "rd"
    obtain ⟨least, hle, l1, l2, l3⟩ : ∃ least : Int, (if c + e + 1 > 1 then c + e + 1 else 1) = least ∧ 1 ≤ least ∧ c + e + 1 ≤ least ∧ least ≤ 5 * 10 ^ 14 := by
      refine ⟨_, rfl, ?_, ?_, ?_⟩ <;> split <;> omega
    rw [hle, ← hB]
    clear hB B
    refine dSeq_open fun B hB => ?_
    walk_at "rd"
    refine ⟨k, bd, _, rfl, by omega, lt900 (by omega), g4.2.1, by omega, fun v5 M5 v50 v51 g5 => ?_⟩
    dsimp only
    rw [← hB]
    clear hB B
    refine dSeq_open fun B hB => ?_
    walk_at "rd"
    refine ⟨(show y ≠ 0 by omega), ?_⟩
    rw [fmod_pos (show 0 < y by omega)]
    have m0 := Int.emod_nonneg (least + v5) (show y ≠ 0 by omega)
    have m1 := Int.emod_lt_of_pos (least + v5) (show 0 < y by omega)
    generalize hb : least + v5 + y - (least + v5) % y = b
    have b1 : 1 ≤ b := by omega
    have b2 : b ≤ 10 ^ 15 := by omega
    have b5 : c + e < b := by omega
    have gc1 : 0 < (Int.gcd b c : Int) := by
      have := Int.gcd_pos_of_ne_zero_left c (show b ≠ 0 by omega)
      omega
    have gc2 : (Int.gcd b c : Int) ≤ b := Int.le_of_dvd (by omega) (Int.gcd_dvd_left _ _)
    rw [← hB]
    clear hB B
    refine dSeq_open fun B hB => ?_
    walk_at "rd"
    refine ⟨b, c, rfl, k, _, _, rfl, gc1, lt900 (by omega), g5.2.1, by omega, fun v6 M6 v60 v61 g6 => ?_⟩
    dsimp only
    rw [← hB]
    clear hB B
    have g7 := (g1.trans (g2.trans (g3.trans (g4.trans (g5.trans g6))))).le (m := n + 400) (by omega)
    have Bb : Bi 60 b := Bi.of_abs (10 ^ 16) (by omega) (by decide)
    have Bc : Bi 60 c := Bi.of_abs (10 ^ 16) (by omega) (by decide)
    have Be : Bi 60 e := Bi.of_abs (10 ^ 16) (by omega) (by decide)
    have Bv : Bi 60 v6 := Bi.of_abs (10 ^ 16) (by omega) (by decide)
    walk_at "rd"
    refine ⟨v6, b, c, e, rfl, ⟨Bv.mono, Bb.mono, Bc.mono, Be.mono⟩, ?_⟩
    dsimp only
    cases hcut : isCut v6 b c e with
    | true =>
      rw [if_pos rfl]
      exact g7.rtq (h v6 b c e M6 hcut ((meas_bi Bb Bc Be).mono) g7)
    | false =>
      rw [if_neg (by decide)]
      have B1 : Bi 60 1 := Bi.of_abs 1 (by decide) (by decide)
      by_cases hlt : 1 + e < b
      · rw [if_pos hlt]
        exact g7.rtq (h 0 b 1 e M6 (cut_plain b1 hlt) ((meas_bi Bb B1 Be).mono) g7)
      · rw [if_neg hlt]
        have Bn : Bi 60 (0 - b) := Bb.neg
        exact g7.rtq (h 0 b 1 (0 - b) M6 (cut_plain b1 (by omega)) ((meas_bi Bb B1 Bn).mono) g7)
  · obtain ⟨hi2, rfl⟩ := rng_get.mp hd
    have e3 : (10 : Int) ^ (i + 1) = 10 ^ i * 10 := Int.pow_succ 10 i
    have hp : (0 : Int) < 10 ^ i := Int.pow_pos (by decide)
    walk_at "rd"
    refine ⟨⟨(Bi.of_abs 10 (by decide) : Bi 5 10).sm, (Bi.of_abs (10 ^ 14) (by omega) (by decide) : Bi 50 bd).sm⟩, ?_⟩
    first | exact ⟨rfl, by omega, _, _, rfl, by omega, by rw [e3]; omega⟩ | exact ⟨by omega, _, _, rfl, by omega, by rw [e3]; omega⟩
end DL
namespace DL
open PySem PySem.Spec PyProof.Rows L2
local macro_rules | `(tactic| walk_at "rd") => `(tactic| simp only [startD, List.map, List.replicate, List.length_cons, List.length_nil, List.append_eq, List.append_nil, List.nil_append, List.cons_append, Nat.reduceSub, Nat.reduceAdd, List.getElem?_cons_zero, List.getElem?_cons_succ, List.set_cons_zero, List.set_cons_succ,
  dC, dVar, dOp, dTru, gTru, tru, dChain, dAnd, dOr, dNot, dAndV, dOrV, dNotV, dIf, dNeg, gNeg, dNil, dCons, dTup, dLst, dOwn, gIx, rBin, gAdd, gCmpI, dCall, dCallK, dSeq, dNext, dDrop, dRet, dRetN, dIfS, dName, dGNil, dGCons, dGTup, dSub, gSetL, dAsg, dPar, dPar3, dAug, gIpI, dSeqI, gSeqI, dRngI, gRng1, gRng2, dCB, gAbs, gInt, gMax, gMin, gGcd, gLen, lenD, gIsi, tyM, tyD, dBits, gBits, dMet, gAppend, dPart, dNoPart, dSl, gSl_tup, gSl_lst, cut_1, dEnds, gIs, isB, dNever, dCallX, dRaise, dTry, dFld, dCallV, gLRng, gFrz, dFrz, dFor, dLc, wipeD, dYes,
  sizeLine_eq, Nat.reduceLeDiff, gEq_int, gNe_int, gEq_strs, gNe_strs, gIn_two, gRepr_bl, rs_lst, rs_tup, rs_scr, rs_int, atI_0, atI_1, atI_2, atI_3, atI_4, atI_5, ixN_30, ixN_31, ixN_32, gEq_bl, gNe_bl, decide_eq_true_eq, beq_iff_eq, Bool.not_eq_true', beq_eq_false_iff_ne, decide_eq_false_iff_not, Bool.not_true, Bool.not_false, if_true, if_false, Bool.false_eq_true, ite_true, ite_false, true_and, and_true, ne_eq, Bool.bne_false, Bool.bne_true, reduceCtorEq])
local macro_rules | `(tactic| walk_at "rh") => `(tactic| simp only [*, startD, List.map, List.replicate, List.length_cons, List.length_nil, List.append_eq, List.append_nil, List.nil_append, List.cons_append, Nat.reduceSub, Nat.reduceAdd, List.getElem?_cons_zero, List.getElem?_cons_succ, List.set_cons_zero, List.set_cons_succ,
  dC, dVar, dOp, dTru, gTru, tru, dChain, dAnd, dOr, dNot, dAndV, dOrV, dNotV, dIf, dNeg, gNeg, dNil, dCons, dTup, dLst, dOwn, gIx, rBin, gAdd, gCmpI, dCall, dCallK, dSeq, dNext, dDrop, dRet, dRetN, dIfS, dName, dGNil, dGCons, dGTup, dSub, gSetL, dAsg, dPar, dPar3, dAug, gIpI, dSeqI, gSeqI, dRngI, gRng1, gRng2, dCB, gAbs, gInt, gMax, gMin, gGcd, gLen, lenD, gIsi, tyM, tyD, dBits, gBits, dMet, gAppend, dPart, dNoPart, dSl, gSl_tup, gSl_lst, cut_1, dEnds, gIs, isB, dNever, dCallX, dRaise, dTry, dFld, dCallV, gLRng, gFrz, dFrz, dFor, dLc, wipeD, dYes,
  sizeLine_eq, Nat.reduceLeDiff, gEq_int, gNe_int, gEq_strs, gNe_strs, gIn_two, gRepr_bl, rs_lst, rs_tup, rs_scr, rs_int, atI_0, atI_1, atI_2, atI_3, atI_4, atI_5, ixN_30, ixN_31, ixN_32, gEq_bl, gNe_bl, decide_eq_true_eq, beq_iff_eq, Bool.not_eq_true', beq_eq_false_iff_ne, decide_eq_false_iff_not, Bool.not_true, Bool.not_false, if_true, if_false, Bool.false_eq_true, ite_true, ite_false, true_and, and_true, ne_eq, Bool.bne_false, Bool.bne_true, reduceCtorEq])
local macro_rules | `(tactic| walk_at "kb") => `(tactic| simp only [kb_NoneType_list, kb_bool_list, kb_int_list, kb_str_list, kb_tuple_list, kb_list_list, kb_dict_list, kb_NoneType_int, kb_bool_int, kb_int_int, kb_str_int, kb_tuple_int, kb_list_int, kb_dict_int, kb_NoneType_bool, kb_bool_bool, kb_int_bool, kb_str_bool, kb_tuple_bool, kb_list_bool, kb_dict_bool, kb_NoneType_tuple, kb_bool_tuple, kb_int_tuple, kb_str_tuple, kb_tuple_tuple, kb_list_tuple, kb_dict_tuple, if_true, if_false, Bool.false_eq_true, ite_true, ite_false, Bool.not_true, Bool.not_false])
/-! ### what is asked -/
def Outc3 (out : Option (Str × D)) (M : Mem) (Q : DQ) (E : DX) : Prop := match out with
  | some (z, d) => E z d M
  | none => AnyP M Q
def TwoV (x y : D) (M : Mem) (out : Option (Str × D)) (good : Prop) : Prop := Askable 4 M x ∧ Askable 4 M y ∧ ((isCutD x = false ∧ out = er "InvalidCutting" x) ∨ (isCutD x = true ∧ isCutD y = false ∧ out = er "InvalidCutting" y) ∨
  ∃ a b c e a' b' c' e', x = T4 a b c e ∧ y = T4 a' b' c' e' ∧ isCut a b c e = true ∧ isCut a' b' c' e' = true ∧ Bi 300 (meas4 b c e) ∧ Bi 300 (meas4 b' c' e') ∧ ((meas4 b c e ≠ meas4 b' c' e' ∧ out = er "Unlike" y) ∨ (x = y ∧ out = none ∧ good)))
theorem twoG {x y : D} {M : Mem} {out : Option (Str × D)} {P G : Prop} {E : DX} {Q : DQ} (h : TwoV x y M out P) (hq : Outc3 out M Q E) (g : x = y → out = none → P → G) : TwoG x y M E G := by
  obtain ⟨ax, ay, ⟨h1, rfl⟩ | ⟨h1, h2, rfl⟩ | ⟨a, b, c, e, a', b', c', e', rfl, rfl, h1, h2, b1, b2, h3⟩⟩ := h
  · exact ⟨ax, ay, fun _ => hq, fun z => (by rw [h1] at z; cases z), fun a b c e a' b' c' e' e1 e2 k1 k2 => (by subst e1; rw [show isCutD (T4 a b c e) = isCut a b c e from rfl, k1] at h1; cases h1)⟩
  · exact ⟨ax, ay, fun z => (by rw [h1] at z; cases z), fun _ _ => hq, fun a b c e a' b' c' e' e1 e2 k1 k2 => (by subst e2; rw [show isCutD (T4 a' b' c' e') = isCut a' b' c' e' from rfl, k2] at h2; cases h2)⟩
  · refine ⟨ax, ay, fun z => (by rw [show isCutD (T4 a b c e) = isCut a b c e from rfl, h1] at z; cases z), fun _ z => (by rw [show isCutD (T4 a' b' c' e') = isCut a' b' c' e' from rfl, h2] at z; cases z), fun _ _ _ _ _ _ _ _ e1 e2 _ _ => ?_⟩
    cases e1
    cases e2
    rcases h3 with ⟨h3, rfl⟩ | ⟨h3, h4, h5⟩
    · exact ⟨⟨b1, b2⟩, fun _ => hq, fun z => absurd z h3⟩
    · refine ⟨⟨b1, b2⟩, fun z => ?_, fun _ => g h3 h4 h5⟩
      cases h3
      exact absurd rfl z
def Asks3 (w : Int) (g : List D) (M : Mem) (out : Option (Str × D)) : Prop :=
  (w = 0 ∧ ∃ d gs, g = d :: gs ∧ (∃ T, tyM M d = some T) ∧ Fit d ∧ ((isMeas d = false ∧ out = er "InvalidMeasure" d) ∨ (isMeas d = true ∧ out = none))) ∨
  (w = 1 ∧ ∃ d gs, g = d :: gs ∧ (∃ T, tyM M d = some T) ∧ ((isMeas d = false ∧ out = er "InvalidMeasure" d) ∨ ∃ m, d = .int m ∧ isMeas d = true ∧ m ≤ 10 ^ 30 ∧ ((100 < hMany m ∧ out = er "TooMany" (.int (hMany m))) ∨ (hMany m ≤ 100 ∧ out = none)))) ∨
  (w = 2 ∧ ∃ d gs, g = d :: gs ∧ Askable 4 M d ∧ ((isHeartD d = false ∧ out = er "InvalidCutting" d) ∨ ∃ a b c e, d = T4 a b c e ∧ isHeartD d = true ∧ (Bi 450 b ∧ Bi 450 c ∧ Bi 450 e) ∧ 0 ≤ meas4 b c e ∧ meas4 b c e ≤ BIG ∧ out = none)) ∨
  (w = 3 ∧ ∃ d gs, g = d :: gs ∧ Askable 4 M d ∧ ((isHeartD d = false ∧ out = er "InvalidCutting" d) ∨ ∃ a b c e, d = T4 a b c e ∧ isHeartD d = true ∧ meas4 b c e ≤ 1000 ∧ out = none)) ∨
  (w = 4 ∧ ∃ d gs, g = d :: gs ∧ Askable 4 M d ∧ ((isCutD d = false ∧ out = er "InvalidCutting" d) ∨ (isCutD d = true ∧ out = none))) ∨
  (w = 5 ∧ ∃ d gs, g = d :: gs ∧ Askable 4 M d ∧ ((isCutD d = false ∧ out = er "InvalidCutting" d) ∨ ∃ a b c e, d = T4 a b c e ∧ isCutD d = true ∧ Bi 300 (meas4 b c e) ∧ out = none)) ∨
  (w = 6 ∧ ∃ d n gs, g = d :: n :: gs ∧ (∃ T, tyM M d = some T) ∧ (∃ T, tyM M n = some T) ∧ Fit d ∧ ((isMeas d = false ∧ out = er "InvalidMeasure" d) ∨ ∃ m, d = .int m ∧ isMeas d = true ∧ ((numOk n (.int 0) (.int (hMany m - 1)) = false ∧ out = er "InvalidNumber" n) ∨ ∃ i, n = .int i ∧ 0 ≤ i ∧ i < hMany m ∧ out = none))) ∨
  (w = 7 ∧ ∃ x y gs, g = x :: y :: gs ∧ TwoV x y M out True) ∨
  (w = 8 ∧ ∃ x y v gs, g = x :: y :: v :: gs ∧ TwoV x y M out (v = .non))
theorem below_heartT (n : Nat) (m i : Int) : below n (heartT m i) = true := rfl
def sp_asked33 : DSp := fun ds M Q E => ∃ (w : Int) (g : List D) (out : Option (Str × D)), ds = [.int w, .lst g] ∧ Asks3 w g M out ∧ (∀ z d, out = some (z, d) → below M.length d = true) ∧ Outc3 out M Q E
theorem rd_l_asked_0403_x : ∀ ds M Q E, ds.length = 2 → belowAll M.length ds = true → sp_asked33 ds M Q E → t_l_asked_0403_x sp_how_many_heart_x sp_heart_lots_x sp_heart_number_x sp_heart_steps_x sp_heart_distance_x sp_word_to_heart_x sp_heart_numbered_x sp_road_x sp_is_road_x (dOut M E) (dEnds M Q) (startD 2 ds) M := by
  rintro _ M Q E - hb ⟨w, g, out, rfl, ha, hbd, hq⟩
  have hq2 : ∀ env : Env, Outc3 out M (Rtq M Q) fun y dv M2 => dOut M E env y dv M2 := fun env => by
    cases out with
    | none => exact fun d hd => rtq (hq d hd) (hd _)
    | some zd => exact rtx (r := env) (hbd _ _ rfl) hq
  unfold t_l_asked_0403_x
  refine dSeq_open fun B hB => ?_
  have skip : ¬ w < 6 → B [some (.int w), some (.lst g)] M → (dIfS (dTru (dOp (gCmpI fun i j => decide (i < j)) (dVar 0) (dC (.int 6)))) (fun _ _ _ => False) dNext) { nx := B, rt := Rtq M Q } [some (.int w), some (.lst g)] M := fun h hb => by
    walk_at "rd"
    rw [if_neg h]
    exact hb
  rcases ha with ⟨rfl, d, gs, rfl, ⟨T, ht⟩, hf, h⟩ | ⟨rfl, d, gs, rfl, ⟨T, ht⟩, h⟩ | ⟨rfl, d, gs, rfl, hk, h⟩ | ⟨rfl, d, gs, rfl, hk, h⟩ | ⟨rfl, d, gs, rfl, hk, h⟩ | ⟨rfl, d, gs, rfl, hk, h⟩ | ⟨rfl, d, n, gs, rfl, ⟨T, ht⟩, ⟨T', ht'⟩, hf, h⟩ | ⟨rfl, x, y, gs, rfl, h⟩ | ⟨rfl, x, y, v, gs, rfl, h⟩
  · walk_at "rd"
    rw [if_pos (by decide)]
    refine ⟨1, _, .head _, rfl, d, T, rfl, ht, hf, fun m e hm => ?_, fun hm => ?_⟩
    · rcases h with ⟨h1, _⟩ | ⟨_, rfl⟩
      · rw [hm] at h1; cases h1
      · exact hq2 [] _ fun _ => rfl
    · rcases h with ⟨_, rfl⟩ | ⟨h1, _⟩
      · exact hq2 []
      · rw [hm] at h1; cases h1
  · walk_at "rd"
    rw [if_pos (by decide)]
    refine ⟨1, _, .tail _ (.head _), rfl, d, T, rfl, ht, fun hm => ?_, fun m e hm => ?_⟩
    · rcases h with ⟨_, rfl⟩ | ⟨m, _, h1, _⟩
      · exact hq2 []
      · rw [hm] at h1; cases h1
    · subst e
      rcases h with ⟨h1, _⟩ | ⟨_, e, _, h30, h⟩
      · rw [hm] at h1; cases h1
      · cases e
        refine ⟨h30, fun hN => ?_, fun hN ls hls => ?_⟩
        · rcases h with ⟨_, rfl⟩ | ⟨h1, _⟩
          · exact hq2 []
          · omega
        · rcases h with ⟨h1, _⟩ | ⟨_, rfl⟩
          · omega
          · refine hq2 [] _ fun n => ?_
            have b1 : ∀ l : List Int, belowAll n (l.map fun x => T4 0 ((m - x * x) / 4) 1 x) = true := fun l => by
              induction l with
              | nil => rfl
              | cons x l ih => simp only [List.map_cons, belowAll, below, ih, Bool.and_self]
            have b2 : ∀ ls : List (List Int), belowAll n (ls.map fun l => D.lst (l.map fun x => T4 0 ((m - x * x) / 4) 1 x)) = true := fun ls => by
              induction ls with
              | nil => rfl
              | cons l ls ih => simp only [List.map_cons, belowAll, below, b1, ih, Bool.and_self]
            simp only [below, b2]
  · walk_at "rd"
    rw [if_pos (by decide)]
    refine ⟨1, _, .tail _ (.tail _ (.head _)), rfl, d, rfl, hk, fun hm => ?_, fun a b c e e1 hm => ?_⟩
    · rcases h with ⟨_, rfl⟩ | ⟨_, _, _, _, _, h1, _⟩
      · exact hq2 []
      · rw [hm] at h1; cases h1
    · rcases h with ⟨h1, _⟩ | ⟨_, _, _, _, e2, _, hb, h0, hB', rfl⟩
      · rw [hm] at h1; cases h1
      · subst e1
        cases e2
        exact ⟨hb, h0, hB', hq2 [] _ fun _ => rfl⟩
  · walk_at "rd"
    rw [if_pos (by decide)]
    refine ⟨1, _, .tail _ (.tail _ (.tail _ (.head _))), rfl, d, rfl, hk, fun hm => ?_, fun a b c e e1 hm => ?_⟩
    · rcases h with ⟨_, rfl⟩ | ⟨_, _, _, _, _, h1, _⟩
      · exact hq2 []
      · rw [hm] at h1; cases h1
    · rcases h with ⟨h1, _⟩ | ⟨_, _, _, _, e2, _, h0, rfl⟩
      · rw [hm] at h1; cases h1
      · subst e1
        cases e2
        exact ⟨h0, hq2 []⟩
  · walk_at "rd"
    rw [if_pos (by decide)]
    refine ⟨1, _, .tail _ (.tail _ (.tail _ (.tail _ (.head _)))), rfl, d, rfl, hk, fun hm => ?_, fun hm => ?_⟩
    · rcases h with ⟨_, rfl⟩ | ⟨h1, _⟩
      · exact hq2 []
      · rw [hm] at h1; cases h1
    · rcases h with ⟨h1, _⟩ | ⟨_, rfl⟩
      · rw [hm] at h1; cases h1
      · exact hq2 []
  · walk_at "rd"
    rw [if_pos (by decide)]
    refine ⟨1, _, .tail _ (.tail _ (.tail _ (.tail _ (.tail _ (.head _))))), rfl, d, rfl, hk, fun hm => ?_, fun a b c e e1 hm => ?_⟩
    · rcases h with ⟨_, rfl⟩ | ⟨_, _, _, _, _, h1, _⟩
      · exact hq2 []
      · rw [hm] at h1; cases h1
    · rcases h with ⟨h1, _⟩ | ⟨_, _, _, _, e2, _, h0, rfl⟩
      · rw [hm] at h1; cases h1
      · subst e1
        cases e2
        exact ⟨h0, hq2 []⟩
  all_goals
    walk_at "rd"
    rw [if_neg (by decide), ← hB]
    clear hB B skip
    refine dSeq_open fun B hB => ?_
    walk_at "rd"
  · rw [if_pos (by decide)]
    refine ⟨2, _, .head _, rfl, d, n, T, T', rfl, ht, ht', hf, fun hm => ?_, fun m e hm => ⟨fun hn => ?_, fun i e2 i0 i1 => ?_⟩⟩
    · rcases h with ⟨_, rfl⟩ | ⟨_, _, h1, _⟩
      · exact hq2 []
      · rw [hm] at h1; cases h1
    · rcases h with ⟨h1, _⟩ | ⟨_, e3, _, h⟩
      · rw [hm] at h1; cases h1
      · subst e
        cases e3
        rcases h with ⟨_, rfl⟩ | ⟨i, rfl, i0, i1, _⟩
        · exact hq2 []
        · rw [show numOk (.int i) (.int 0) (.int (hMany m - 1)) = true by simp [numOk]; omega] at hn
          cases hn
    · rcases h with ⟨h1, _⟩ | ⟨_, e3, _, h⟩
      · rw [hm] at h1; cases h1
      · subst e
        cases e3
        subst e2
        rcases h with ⟨hn, _⟩ | ⟨_, _, _, _, rfl⟩
        · rw [show numOk (.int i) (.int 0) (.int (hMany m - 1)) = true by simp [numOk]; omega] at hn
          cases hn
        · exact hq2 [] _ fun n => below_heartT n m i
  · rw [if_pos (by decide)]
    exact ⟨2, _, .tail _ (.head _), rfl, x, y, rfl, twoG h (hq2 _) fun h1 h2 _ => ⟨h1, by subst h2; exact hq2 []⟩⟩
  · rw [if_neg (by decide), ← hB]
    clear hB B
    walk_at "rd"
    exact ⟨x, y, v, rfl, twoG h (hq2 _) fun h1 h2 h3 => ⟨h1, h3, by subst h2; exact hq2 []⟩⟩
/-! ### what is told -/
def kind3 (z : Str) : Str := if z = "InvalidMeasure" then "measure" else if z = "InvalidNumber" then "number" else if z = "InvalidCutting" then "cutting" else if z = "Unlike" then "unlike" else "many"
def told3 : Option (Str × D) → D
  | none => .lst [.str "let"]
  | some (z, d) => .lst [.str (kind3 z), d]
theorem asks3_cls {w : Int} {g : List D} {M : Mem} {z : Str} {d : D} (h : Asks3 w g M (some (z, d))) : z = "InvalidMeasure" ∨ z = "InvalidNumber" ∨ z = "InvalidCutting" ∨ z = "Unlike" ∨ z = "TooMany" := by
  unfold Asks3 TwoV at h
  rcases h with ⟨_, _, _, _, _, _, ⟨_, h⟩ | ⟨_, h⟩⟩ | ⟨_, _, _, _, _, ⟨_, h⟩ | ⟨_, _, _, _, ⟨_, h⟩ | ⟨_, h⟩⟩⟩ | ⟨_, _, _, _, _, ⟨_, h⟩ | ⟨_, _, _, _, _, _, _, _, _, h⟩⟩ | ⟨_, _, _, _, _, ⟨_, h⟩ | ⟨_, _, _, _, _, _, _, h⟩⟩ |
    ⟨_, _, _, _, _, ⟨_, h⟩ | ⟨_, h⟩⟩ | ⟨_, _, _, _, _, ⟨_, h⟩ | ⟨_, _, _, _, _, _, _, h⟩⟩ | ⟨_, _, _, _, _, _, _, _, ⟨_, h⟩ | ⟨_, _, _, ⟨_, h⟩ | ⟨_, _, _, _, h⟩⟩⟩ |
    ⟨_, _, _, _, _, _, _, ⟨_, h⟩ | ⟨_, _, h⟩ | ⟨_, _, _, _, _, _, _, _, _, _, _, _, _, _, ⟨_, h⟩ | ⟨_, h, _⟩⟩⟩ | ⟨_, _, _, _, _, _, _, _, ⟨_, h⟩ | ⟨_, _, h⟩ | ⟨_, _, _, _, _, _, _, _, _, _, _, _, _, _, ⟨_, h⟩ | ⟨_, h, _⟩⟩⟩
  all_goals first
    | (cases h; simp; done)
    | (cases h; done)
theorem count5 (b1 b2 b3 b4 b5 : Bool) (M : Mem) (Q : DQ) (q : Q (.int (([b1, b2, b3, b4, b5].countP fun b => b : Nat) : Int)) M) : gCount (.lst [.bl b1, .bl b2, .bl b3, .bl b4, .bl b5]) [.bl true] M Q :=
  ⟨_, [.bool b1, .bool b2, .bool b3, .bool b4, .bool b5], .bool true, rfl, rfl, rfl, rfl, rfl, by cases b1 <;> cases b2 <;> cases b3 <;> cases b4 <;> cases b5 <;> exact q⟩
def sp_told33 : DSp := fun ds M Q _ => ∃ (w : Int) (g : List D) (out : Option (Str × D)), ds = [.int w, .lst g] ∧ Asks3 w g M out ∧ (∀ z d, out = some (z, d) → below M.length d = true) ∧ Q (told3 out) M
theorem rd_l_told_db71 : ∀ ds M Q, ds.length = 2 → sp_told33 ds M Q DX0 → t_l_told_db71 sp_asked33 (dEnds M Q) (startD 5 ds) M := by
  rintro _ M Q - ⟨w, g, out, rfl, ha, hbd, q⟩
  unfold t_l_told_db71
  refine dSeq_open fun B hB => ?_
  walk_at "rd"
  rw [← hB]
  clear hB B
  refine dSeq_open fun B hB => ?_
  walk_at "rd"
  refine ⟨w, g, out, rfl, ha, hbd, ?_⟩
  cases out with
  | none =>
    intro d _
    show B _ _
    rw [← hB]
    clear hB B
    refine dSeq_open fun B hB => ?_
    walk_at "rd"
    exact rtq q
  | some zd =>
    obtain ⟨z, d⟩ := zd
    have hz := asks3_cls ha
    have hb := hbd z d rfl
    have hbt : below M.length (told3 (some (z, d))) = true := by simp only [told3, below, belowAll, hb, Bool.and_self]
    show XA.under z "SheetError" = true ∧ _
    refine ⟨by rcases hz with rfl | rfl | rfl | rfl | rfl <;> rfl, ?_⟩
    rw [← hB]
    clear hB B
    refine dSeq_open fun B hB => ?_
    walk_at "rd"
    rw [← hB]
    clear hB B
    refine dSeq_open fun B hB => ?_
    walk_at "rd"
    refine ⟨by decide, ⟨by decide, ⟨by decide, ?_⟩⟩⟩
    dsimp only
    rw [← hB]
    clear hB B
    refine dSeq_open fun B hB => ?_
    walk_at "rd"
    refine ⟨by decide, ⟨by decide, ?_⟩⟩
    dsimp only
    have hk : ∃ (b1 b2 b3 b4 b5 : Bool) (j : Nat), XA.under z "InvalidMeasure" = b1 ∧ XA.under z "InvalidNumber" = b2 ∧ XA.under z "InvalidCutting" = b3 ∧ XA.under z "Unlike" = b4 ∧ XA.under z "TooMany" = b5 ∧ ([b1, b2, b3, b4, b5].countP fun b => b) = 1 ∧
        (∀ (M : Mem) (Q : DQ), Q (.int (j : Nat)) M → gIndex (.lst [.bl b1, .bl b2, .bl b3, .bl b4, .bl b5]) [.bl true] M Q) ∧ atI [D.str "measure", D.str "number", D.str "cutting", D.str "unlike", D.str "many"] (j : Int) = some (.str (kind3 z)) := by
      rcases hz with rfl | rfl | rfl | rfl | rfl
      · exact ⟨true, false, false, false, false, 0, rfl, rfl, rfl, rfl, rfl, rfl, fun M Q q => ⟨_, [.bool true, .bool false, .bool false, .bool false, .bool false], .bool true, 0, .bool true, rfl, rfl, rfl, rfl, rfl, rfl, rfl, fun m z' hm => by omega, q⟩, rfl⟩
      · exact ⟨false, true, false, false, false, 1, rfl, rfl, rfl, rfl, rfl, rfl, fun M Q q => ⟨_, [.bool false, .bool true, .bool false, .bool false, .bool false], .bool true, 1, .bool true, rfl, rfl, rfl, rfl, rfl, rfl, rfl, fun m z' hm hz => by
          have : m = 0 := by omega
          subst this; cases hz; rfl, q⟩, rfl⟩
      · exact ⟨false, false, true, false, false, 2, rfl, rfl, rfl, rfl, rfl, rfl, fun M Q q => ⟨_, [.bool false, .bool false, .bool true, .bool false, .bool false], .bool true, 2, .bool true, rfl, rfl, rfl, rfl, rfl, rfl, rfl, fun m z' hm hz => by
          rcases (by omega : m = 0 ∨ m = 1) with rfl | rfl <;> (cases hz; rfl), q⟩, rfl⟩
      · exact ⟨false, false, false, true, false, 3, rfl, rfl, rfl, rfl, rfl, rfl, fun M Q q => ⟨_, [.bool false, .bool false, .bool false, .bool true, .bool false], .bool true, 3, .bool true, rfl, rfl, rfl, rfl, rfl, rfl, rfl, fun m z' hm hz => by
          rcases (by omega : m = 0 ∨ m = 1 ∨ m = 2) with rfl | rfl | rfl <;> (cases hz; rfl), q⟩, rfl⟩
      · exact ⟨false, false, false, false, true, 4, rfl, rfl, rfl, rfl, rfl, rfl, fun M Q q => ⟨_, [.bool false, .bool false, .bool false, .bool false, .bool true], .bool true, 4, .bool true, rfl, rfl, rfl, rfl, rfl, rfl, rfl, fun m z' hm hz => by
          rcases (by omega : m = 0 ∨ m = 1 ∨ m = 2 ∨ m = 3) with rfl | rfl | rfl | rfl <;> (cases hz; rfl), q⟩, rfl⟩
    obtain ⟨b1, b2, b3, b4, b5, j, e1, e2, e3, e4, e5, hc, hi, hat⟩ := hk
    rw [e1, e2, e3, e4, e5, ← hB]
    clear hB B
    refine dSeq_open fun B hB => ?_
    unfold dMeth
    walk_at "rd"
    refine ⟨⟨_, rfl⟩, count5 _ _ _ _ _ _ _ ?_⟩
    rw [hc]
    refine gNe_same (n := 3) (d := .int 1) rfl ?_
    dsimp only
    rw [if_neg (by decide)]
    refine ⟨rfl, ?_⟩
    dsimp only
    rw [if_neg (by decide), ← hB]
    clear hB B
    unfold dMeth
    walk_at "rd"
    refine ⟨⟨_, rfl⟩, hi _ _ ?_⟩
    dsimp only
    rw [hat]
    dsimp only
    exact rtq q hbt
theorem gMulL3 {b : D} {M : Mem} {Q : DQ} (q : Q (.lst [b, b, b]) M) : gMulL (.lst [b]) (.int 3) M Q := ⟨⟨by decide, by decide, by rw [sizeLine_eq]; show 1 * 3 ≤ _; decide⟩, q⟩
/-! ### all refused -/
def sp_allref3 : DSp := fun ds M Q _ => ∃ (doors : List Int) (given : List D) (z : Str) (odd : D), ds = [.lst (doors.map D.int), .lst given, .str (kind3 z), odd] ∧ given.length ≤ 10 ∧ doors.length ≤ 10 ∧
  (∀ w ∈ doors, ∀ b ∈ [D.non, odd, D.int 0], Asks3 w (given ++ [odd] ++ [b, b, b]) M (er z odd)) ∧ (∃ s, shwnZ (resD M odd) = some s) ∧ (∃ s, shwnZ (resD M (.lst [.str (kind3 z), odd])) = some s) ∧ below M.length odd = true ∧ Q (.bl true) M
theorem rd_l_all_refused_8142 : ∀ ds M Q, ds.length = 4 → sp_allref3 ds M Q DX0 → t_l_all_refused_8142 sp_told33 (dEnds M Q) (startD 7 ds) M := by
  rintro _ M Q - ⟨doors, given, z, odd, rfl, hg, hdl, hask, ⟨s1, h1⟩, ⟨s2, h2⟩, hbo, q⟩
  unfold t_l_all_refused_8142
  refine dSeq_open fun B hB => ?_
  walk_at "rd"
  refine ⟨fun i r M' => M' = M ∧ ∃ t4 t5 t6 : Option D, r = [some (.lst (doors.map D.int)), some (.lst given), some (.str (kind3 z)), some odd, t4, t5, t6], ⟨rfl, none, none, none, rfl⟩, ?_⟩
  rintro i r M' ⟨rfl, t4, t5, t6, rfl⟩
  refine ⟨trivial, fun hli => ?_, fun b hd => ?_⟩
  · dsimp only
    rw [← hB]
    walk_at "rd"
    exact rtq q
  · walk_at "rd"
    refine ⟨fun i r M2 => M2 = M' ∧ ∃ t5 t6 : Option D, r = [some (.lst (doors.map D.int)), some (.lst given), some (.str (kind3 z)), some odd, some b, t5, t6], ⟨rfl, _, _, rfl⟩, ?_⟩
    rintro i2 r M2 ⟨rfl, t5, t6, rfl⟩
    refine ⟨trivial, fun hli => ?_, fun w hw => ?_⟩
    · exact ⟨rfl, _, _, _, rfl⟩
    · obtain ⟨w, hwm, rfl⟩ := List.mem_map.mp (List.mem_of_getElem? hw)
      refine dSeq_open fun B1 hB1 => ?_
      walk_at "rd"
      refine gReprZ_res h1 ?_
      rw [← hB1]
      clear hB1 B1
      walk_at "rd"
      refine ⟨by omega, gMulL3 ?_⟩
      dsimp only
      refine ⟨by rw [List.length_append, List.length_singleton]; simp only [List.length_cons, List.length_nil]; omega, ?_⟩
      refine ⟨w, given ++ [odd] ++ [b, b, b], er z odd, rfl, hask w hwm b (List.mem_of_getElem? hd), fun z' d' e => (by cases e; exact hbo), ?_⟩
      dsimp only [told3]
      refine gReprZ_res h2 (gReprZ_res h2 ?_)
      rw [gNe_strs, str_self]
      dsimp only
      rw [if_neg (by decide)]
      refine gReprZ_res h1 ?_
      rw [gNe_strs, str_self]
      dsimp only
      rw [if_neg (by decide)]
      exact ⟨rfl, _, _, rfl⟩
/-! ### wrong cuttings -/
structure Sh3 (d : D) : Prop where
  f : fine 10 d = true
  l : lit 300 d = true
  w : wt 300 d ≤ 10000
theorem Sh3.shown {d : D} (h : Sh3 d) (M : Mem) : ∃ z, shwnZ (resD M d) = some z := by
  rw [resD_fine M 10 d h.f]
  obtain ⟨z, hz⟩ := shw_of 300 10 h.f h.l (by have := h.w; omega)
  exact ⟨z, shwnZ_of hz⟩
theorem Sh3.two {x y : D} (h : Sh3 x) (g : Sh3 y) (M : Mem) : ∃ z, shwnZ (resD M (.lst [x, y])) = some z := by
  have f2 : fine 11 (.lst [x, y]) = true := by simp only [fine, fineAll, h.f, g.f, Bool.and_self]
  rw [resD_fine M 11 _ f2]
  obtain ⟨z, hz⟩ := shw_of 300 11 f2 (by simp only [lit, litAll, h.l, g.l, Bool.and_self]) (by have h1 := h.w; have h2 := g.w; simp only [wt, wtAll]; omega)
  exact ⟨z, shwnZ_of hz⟩
theorem lit3 {i : Int} (h : Bi 260 i) : lit 300 (.int i) = true := decide_eq_true (Nat.lt_of_lt_of_le (log2_of 260 h (by decide)) (by decide))
structure RC (d : D) : Prop where
  no : isCutD d = false
  sh : Sh3 d ∨ d = .dct0
  bl : ∀ n, below n d = true
def sp_wrong3 : DSp := fun ds M Q _ => ∃ a b c e : Int, ds = [T4 a b c e] ∧ isCut a b c e = true ∧ CutB 250 a b c e ∧ ∀ l, (∀ d ∈ l, RC d) → Q (.lst l) M
theorem rd_l_wrong_cuttings_2ff2 : ∀ ds M Q, ds.length = 1 → sp_wrong3 ds M Q DX0 → t_l_wrong_cuttings_2ff2 sp_gcd (dEnds M Q) (startD 6 ds) M := by
  rintro _ M Q - ⟨a, b, c, e, rfl, hc, ⟨ba, bb, bc, be⟩, q⟩
  obtain ⟨k1, k2, k3, k4, k5, k6⟩ := cut_parts hc
  unfold t_l_wrong_cuttings_2ff2
  have la : lit 300 (.int a) = true := lit3 ba.mono
  have lb : lit 300 (.int b) = true := lit3 bb.mono
  have lc : lit 300 (.int c) = true := lit3 bc.mono
  have le : lit 300 (.int e) = true := lit3 be.mono
  have lbc : lit 300 (.int (b - c)) = true := lit3 (bb.sub bc).mono
  have G0 : (Int.gcd b c : Int) ≤ c := Int.le_of_dvd (by omega) (Int.gcd_dvd_right b c)
  have Gp : 0 ≤ (Int.gcd b c : Int) := Int.natCast_nonneg _
  have lg : lit 300 (.int (Int.gcd b c : Int)) = true := lit3 (by unfold Bi at bc ⊢; have := Nat.pow_le_pow_right (show 0 < 2 by decide) (show 250 ≤ 260 by decide); omega)
  refine dSeq_open fun B hB => ?_
  walk_at "rd"
  rw [← hB]
  clear hB B
  refine dSeq_open fun B hB => ?_
  walk_at "rd"
  have nc : ∀ x y z w : Int, (y < 1 ∨ z < 1 ∨ ¬ z + w < y ∨ x < 0 ∨ (Int.gcd y z : Int) ≤ x) → isCutD (T4 x y z w) = false := fun x y z w h => by
    show isCut x y z w = false
    refine Bool.eq_false_iff.mpr fun hc => ?_
    obtain ⟨j1, j2, j3, j4, j5, _⟩ := cut_parts hc
    omega
  have sh : ∀ d, fine 10 d = true → lit 300 d = true → wt 300 d ≤ 10000 → Sh3 d ∨ d = .dct0 := fun d h1 h2 h3 => .inl ⟨h1, h2, h3⟩
  have h1 : ∀ d ∈ [D.non, D.int 0, D.str (Str.ofString "c"), D.lst [], D.tup [], D.dct0, D.bl true,
            D.lst [D.int a, D.int b, D.int c, D.int e], D.tup [D.int a, D.int b, D.int c],
            D.tup [D.int a, D.int b, D.int c, D.int e, D.int 0], D.tup [D.int a, D.int 0, D.int c, D.int e],
            D.tup [D.int a, D.int b, D.int 0, D.int e], D.tup [D.int a, D.int b, D.int c, D.int (b - c)],
            D.tup [D.int a, D.int b, D.int (-1), D.int e], D.tup [D.int 0, D.int (-3), D.int 1, D.int (-9)]], RC d := fun d hd => by
    simp only [List.mem_cons, List.not_mem_nil, or_false] at hd
    rcases hd with rfl | rfl | rfl | rfl | rfl | rfl | rfl | rfl | rfl | rfl | rfl | rfl | rfl | rfl | rfl
    all_goals
      refine ⟨?_, ?_, fun n => rfl⟩
      · first | rfl | exact nc _ _ _ _ (by omega)
      · first
        | exact .inr rfl
        | (refine sh _ ?_ ?_ ?_
           · first | rfl | decide +kernel
           · repeat' (first | exact la | exact lb | exact lc | exact le | exact lbc | exact lg | exact rfl | apply lit_cons)
           · first | exact Nat.le_of_ble_eq_true rfl | decide +kernel)
  generalize hw1 : [D.non, D.int 0, D.str (Str.ofString "c"), D.lst [], D.tup [], D.dct0, D.bl true,
            D.lst [D.int a, D.int b, D.int c, D.int e], D.tup [D.int a, D.int b, D.int c],
            D.tup [D.int a, D.int b, D.int c, D.int e, D.int 0], D.tup [D.int a, D.int 0, D.int c, D.int e],
            D.tup [D.int a, D.int b, D.int 0, D.int e], D.tup [D.int a, D.int b, D.int c, D.int (b - c)],
            D.tup [D.int a, D.int b, D.int (-1), D.int e], D.tup [D.int 0, D.int (-3), D.int 1, D.int (-9)]] = w1 at *
  have l1 : w1.length = 15 := by rw [← hw1]; rfl
  clear hw1
  rw [← hB]
  clear hB B
  refine dSeq_open fun B hB => ?_
  walk_at "rd"
  refine ⟨b, c, rfl, ?_⟩
  dsimp only
  have bel : ∀ l : List D, (∀ d ∈ l, RC d) → below M.length (.lst l) = true := fun l h => by
    simp only [below]
    have : ∀ l : List D, (∀ d ∈ l, RC d) → belowAll M.length l = true := fun l h => by
      induction l with
      | nil => rfl
      | cons x l ih => simp only [belowAll, (h x List.mem_cons_self).bl _, ih fun d hd => h d (List.mem_cons_of_mem _ hd), Bool.and_self]
    exact this l h
  have h2 : ∀ d ∈ w1 ++ [D.tup [D.int ↑(b.gcd c), D.int b, D.int c, D.int e], D.tup [D.int (-1), D.int b, D.int c, D.int e],
                D.tup [D.bl true, D.int 2, D.int 2, D.int (-1)], D.tup [D.int 0, D.bl true, D.int 1, D.int (-1)],
                D.tup [D.int 0, D.int 1, D.bl true, D.int (-1)], D.tup [D.bl false, D.int 1, D.int 1, D.int (-1)],
                D.tup [D.int 0, D.int 1, D.int 1, D.non],
                D.tup [D.int 0, D.str (Str.ofString "1"), D.int 1, D.int (-1)]], RC d := fun d hd => by
    rcases List.mem_append.mp hd with hd | hd
    · exact h1 d hd
    simp only [List.mem_cons, List.not_mem_nil, or_false] at hd
    rcases hd with rfl | rfl | rfl | rfl | rfl | rfl | rfl | rfl
    all_goals
      refine ⟨?_, ?_, fun n => rfl⟩
      · first | rfl | exact nc _ _ _ _ (by omega) | decide +kernel
      · refine sh _ ?_ ?_ ?_
        · first | rfl | decide +kernel
        · repeat' (first | exact la | exact lb | exact lc | exact le | exact lbc | exact lg | exact rfl | apply lit_cons)
        · first | exact Nat.le_of_ble_eq_true rfl | decide +kernel
  refine ⟨by omega, ?_⟩
  generalize hw2 : w1 ++ [D.tup [D.int ↑(b.gcd c), D.int b, D.int c, D.int e], D.tup [D.int (-1), D.int b, D.int c, D.int e],
                D.tup [D.bl true, D.int 2, D.int 2, D.int (-1)], D.tup [D.int 0, D.bl true, D.int 1, D.int (-1)],
                D.tup [D.int 0, D.int 1, D.bl true, D.int (-1)], D.tup [D.bl false, D.int 1, D.int 1, D.int (-1)],
                D.tup [D.int 0, D.int 1, D.int 1, D.non],
                D.tup [D.int 0, D.str (Str.ofString "1"), D.int 1, D.int (-1)]] = w2 at *
  have l2 : w2.length = 23 := by rw [← hw2, List.length_append, l1]; rfl
  clear hw2
  rw [← hB]
  clear hB B
  refine dSeq_open fun B hB => ?_
  walk_at "rd"
  have h3 : ∀ d ∈ w2 ++ [D.tup [D.int 0, D.int 2, D.int 1, D.bl false], D.tup [D.int 0, D.int 5, D.int 1, D.bl true],
                D.tup [D.int 0, D.non, D.int 1, D.int (-1)], D.tup [D.int 0, D.int 5, D.lst [D.int 1], D.int (-1)]], RC d := fun d hd => by
    rcases List.mem_append.mp hd with hd | hd
    · exact h2 d hd
    simp only [List.mem_cons, List.not_mem_nil, or_false] at hd
    rcases hd with rfl | rfl | rfl | rfl
    all_goals
      refine ⟨?_, ?_, fun n => rfl⟩
      · first | rfl | decide +kernel
      · refine sh _ ?_ ?_ ?_
        · first | rfl | decide +kernel
        · first | rfl | decide +kernel
        · first | exact Nat.le_of_ble_eq_true rfl | decide +kernel
  refine ⟨by omega, ?_⟩
  generalize hw3 : w2 ++ [D.tup [D.int 0, D.int 2, D.int 1, D.bl false], D.tup [D.int 0, D.int 5, D.int 1, D.bl true],
                D.tup [D.int 0, D.non, D.int 1, D.int (-1)], D.tup [D.int 0, D.int 5, D.lst [D.int 1], D.int (-1)]] = w3 at *
  have l3 : w3.length = 27 := by rw [← hw3, List.length_append, l2]; rfl
  clear hw3
  rw [← hB]
  clear hB B
  walk_at "rd"
  have h4 : ∀ d ∈ w3 ++ [D.tup [D.int 0, D.int 4, D.int 2, D.int (-2)], D.tup [D.int 0, D.int 2, D.int 2, D.int (-2)], D.tup [D.int 0, D.int 1, D.int 1, D.int 0], D.tup [D.lst [D.int 0], D.int 1, D.int 1, D.int (-1)], D.tup [D.int 0, D.int 3, D.int 3, D.int (-3)]], RC d := fun d hd => by
    rcases List.mem_append.mp hd with hd | hd
    · exact h3 d hd
    simp only [List.mem_cons, List.not_mem_nil, or_false] at hd
    rcases hd with rfl | rfl | rfl | rfl | rfl
    all_goals
      refine ⟨?_, ?_, fun n => rfl⟩
      · first | rfl | decide +kernel
      · refine sh _ ?_ ?_ ?_
        · first | rfl | decide +kernel
        · first | rfl | decide +kernel
        · first | exact Nat.le_of_ble_eq_true rfl | decide +kernel
  exact ⟨by omega, rtq (q _ h4) (bel _ h4)⟩
/-! ### the law -/
theorem gNeD_ok {x y d : D} {M : Mem} {Q : DQ} (hx : resD M x = d) (hy : resD M y = d) (e : eqB d d = some true) (q : Q (.bl false) M) : gNeD x y M Q := by
  unfold gNeD
  rw [hx, hy, e]
  exact q
theorem gEqD_ok {x y d : D} {M : Mem} {Q : DQ} (hx : resD M x = d) (hy : resD M y = d) (e : eqB d d = some true) (q : Q (.bl true) M) : gEqD x y M Q := by
  unfold gEqD
  rw [hx, hy, e]
  exact q
theorem ty_sh3 {odd : D} {M : Mem} (h : Sh3 odd ∨ odd = .dct0) : ∃ T, tyM M odd = some T := by
  rcases h with h | rfl
  · exact fine_ty M (fine_up h.f)
  · exact ⟨_, rfl⟩
theorem ask_sh3 {n : Nat} {odd : D} {M : Mem} (h : Sh3 odd ∨ odd = .dct0) : Askable n M odd := by
  rcases h with h | rfl
  · exact ask_fine M (fine_up h.f)
  · exact ⟨⟨_, rfl⟩, fun l e => by cases e⟩
theorem rd_l_law_a8bd : ∀ ds M Q, ds.length = 1 → spLaw ds M Q DX0 → t_l_law_a8bd sp_generator sp_lgreat28 sp_measure_by sp_allref3 sp_wrong3 sp_is_heartG sp_told33 (dEnds M Q) (startD 12 ds) M := by
  rintro _ M Q - ⟨rfl, ⟨ns, rfl⟩, q⟩
  unfold t_l_law_a8bd
  have fin : ∀ M2, Rtq [] Q (.bl true) M2 := fun M2 => ⟨[], M2, rfl, Nat.zero_le _, rfl, fun i c h => by simp at h, q⟩
  refine dSeq_open fun B hB => ?_
  walk_at "rd"
  refine ⟨ns, _, rfl, by decide, by unfold P31; decide, fun M1 ml hg hold => ?_⟩
  rw [← hB]
  clear hB B
  refine dSeq_open fun B hB => ?_
  walk_at "rd"
  refine ⟨0, 3, _, rfl, by decide, by decide, hg, by unfold P40; decide, fun a b c e M2 hc hm g2 => ?_⟩
  dsimp only
  rw [← hB]
  clear hB B
  have hcb := cut_bi hc hm
  obtain ⟨k1, k2, k3, k4, k5, k6⟩ := cut_parts hc
  refine dSeq_open fun B hB => ?_
  walk_at "rd"
  refine ⟨a, b, c, e, rfl, hcb.2.1.mono, hcb.2.2.1.mono, hcb.2.2.2.mono, ?_⟩
  rw [← hB]
  clear hB B
  have shw : ∀ (z : Str) (d : D), (Sh3 d ∨ d = .dct0) → (z = "InvalidMeasure" ∨ z = "InvalidNumber" ∨ z = "InvalidCutting" ∨ z = "Unlike") → ∀ M : Mem, (∃ s, shwnZ (resD M d) = some s) ∧ (∃ s, shwnZ (resD M (.lst [.str (kind3 z), d])) = some s) := fun z d h hz M => by
    have hk : Sh3 (.str (kind3 z)) := by rcases hz with rfl | rfl | rfl | rfl <;> exact ⟨by decide +kernel, rfl, by decide +kernel⟩
    rcases h with h | rfl
    · exact ⟨h.shown M, hk.two h M⟩
    · refine ⟨(show ∃ z, shwnZ D.dct0 = some z from shwZ_of 200 rfl rfl (Nat.le_of_ble_eq_true rfl)), ?_⟩
      rcases hz with rfl | rfl | rfl | rfl
      · exact (show ∃ s, shwnZ (D.lst [.str (kind3 "InvalidMeasure"), .dct0]) = some s from shwZ_of 200 (by decide +kernel) rfl (by decide +kernel))
      · exact (show ∃ s, shwnZ (D.lst [.str (kind3 "InvalidNumber"), .dct0]) = some s from shwZ_of 200 (by decide +kernel) rfl (by decide +kernel))
      · exact (show ∃ s, shwnZ (D.lst [.str (kind3 "InvalidCutting"), .dct0]) = some s from shwZ_of 200 (by decide +kernel) rfl (by decide +kernel))
      · exact (show ∃ s, shwnZ (D.lst [.str (kind3 "Unlike"), .dct0]) = some s from shwZ_of 200 (by decide +kernel) rfl (by decide +kernel))
  refine dSeq_open fun B hB => ?_
  walk_at "rd"
  have hA : ∀ d ∈ [D.non, D.int 0, D.int 4, D.int 6, D.int 7, D.int (-3), D.bl true, D.str (PySem.Str.ofString "5"), D.lst [D.int 5], D.tup [D.int 5], D.dct0], (Sh3 d ∨ d = .dct0) ∧ isMeas d = false ∧ Fit d ∧ (∀ n, below n d = true) := fun d hd => by
    simp only [List.mem_cons, List.not_mem_nil, or_false] at hd
    rcases hd with rfl | rfl | rfl | rfl | rfl | rfl | rfl | rfl | rfl | rfl | rfl
    all_goals
      refine ⟨?_, by decide, fun m e => ?_, fun n => rfl⟩
      · first
        | exact .inr rfl
        | (refine .inl ⟨?_, ?_, ?_⟩
           · first | rfl | decide +kernel
           · first | rfl | decide +kernel
           · first | exact Nat.le_of_ble_eq_true rfl | decide +kernel)
      · first | (cases e; done) | (cases e; exact Bi.of_abs 100 (by decide) (by decide))
  generalize [D.non, D.int 0, D.int 4, D.int 6, D.int 7, D.int (-3), D.bl true, D.str (PySem.Str.ofString "5"), D.lst [D.int 5], D.tup [D.int 5], D.dct0] = ws at *
  refine ⟨fun i r M' => M' = M2 ∧ ∃ t4 : Option D, r = [some (.scr ns), some (.own 0), some (T4 a b c e), some (.int (meas4 b c e)), t4, none, none, none, none, none, none, none], ⟨rfl, none, rfl⟩, ?_⟩
  rintro i r M' ⟨rfl, t4, rfl⟩
  refine ⟨trivial, fun hli => ?_, fun d hd => ?_⟩
  rotate_left
  · obtain ⟨h1, h2, h3, h4⟩ := hA d (List.mem_of_getElem? hd)
    have sw := fun M => shw _ d h1 (.inl rfl) M
    walk_at "rd"
    refine ⟨[0, 1, 6], [], "InvalidMeasure", d, rfl, by decide, by decide, fun w hw b' hb' => ?_, (sw _).1, (sw _).2, h4 _, ?_⟩
    · have tb : ∃ T, tyM M' b' = some T := by
        simp only [List.mem_cons, List.not_mem_nil, or_false] at hb'
        rcases hb' with rfl | rfl | rfl
        · exact ⟨_, rfl⟩
        · exact ty_sh3 h1
        · exact ⟨_, rfl⟩
      simp only [List.mem_cons, List.not_mem_nil, or_false] at hw
      unfold Asks3
      rcases hw with rfl | rfl | rfl
      · exact .inl ⟨rfl, d, [b', b', b'], rfl, ty_sh3 h1, h3, .inl ⟨h2, rfl⟩⟩
      · exact .inr (.inl ⟨rfl, d, [b', b', b'], rfl, ty_sh3 h1, .inl ⟨h2, rfl⟩⟩)
      · exact .inr (.inr (.inr (.inr (.inr (.inr (.inl ⟨rfl, d, b', [b', b'], rfl, ty_sh3 h1, tb, h3, .inl ⟨h2, rfl⟩⟩))))))
    · dsimp only
      rw [if_neg (by decide)]
      exact ⟨rfl, _, rfl⟩
  dsimp only
  rw [← hB]
  clear hB B hli hA i
  refine dSeq_open fun B hB => ?_
  walk_at "rd"
  refine ⟨⟨by decide, by decide⟩, ?_⟩
  have hm5 : hMany 5 = 1 := by decide +kernel
  have hA : ∀ d ∈ [D.non, D.int (-1), D.bl true, D.bl false, D.str (Str.ofString "0"), D.lst [D.int 0], D.tup [D.int 0], D.int 1, D.int (10 ^ Int.toNat 29)], (Sh3 d ∨ d = .dct0) ∧ numOk d (.int 0) (.int (hMany 5 - 1)) = false ∧ (∀ n, below n d = true) := fun d hd => by
    rw [hm5]
    simp only [List.mem_cons, List.not_mem_nil, or_false] at hd
    rcases hd with rfl | rfl | rfl | rfl | rfl | rfl | rfl | rfl | rfl
    all_goals
      refine ⟨?_, by decide +kernel, fun n => rfl⟩
      refine .inl ⟨?_, ?_, ?_⟩
      · first | rfl | decide +kernel
      · first | rfl | decide +kernel
      · first | exact Nat.le_of_ble_eq_true rfl | decide +kernel
  generalize [D.non, D.int (-1), D.bl true, D.bl false, D.str (Str.ofString "0"), D.lst [D.int 0], D.tup [D.int 0], D.int 1, D.int (10 ^ Int.toNat 29)] = ws2 at *
  have fit5 : Fit (.int 5) := fun m e => by cases e; exact Bi.of_abs 100 (by decide) (by decide)
  refine ⟨fun i r M'' => M'' = M' ∧ ∃ t4 : Option D, r = [some (.scr ns), some (.own 0), some (T4 a b c e), some (.int (meas4 b c e)), t4, none, none, none, none, none, none, none], ⟨rfl, t4, rfl⟩, ?_⟩
  rintro i r M'' ⟨rfl, t4, rfl⟩
  refine ⟨trivial, fun hli => ?_, fun d hd => ?_⟩
  rotate_left
  · obtain ⟨h1, h2, h4⟩ := hA d (List.mem_of_getElem? hd)
    have sw := fun M => shw _ d h1 (.inr (.inl rfl)) M
    walk_at "rd"
    refine ⟨[6], [.int 5], "InvalidNumber", d, rfl, by decide, by decide, fun w hw b' hb' => ?_, (sw _).1, (sw _).2, h4 _, ?_⟩
    · simp only [List.mem_cons, List.not_mem_nil, or_false] at hw
      subst hw
      unfold Asks3
      exact .inr (.inr (.inr (.inr (.inr (.inr (.inl ⟨rfl, .int 5, d, [b', b', b'], rfl, ⟨_, rfl⟩, ty_sh3 h1, fit5, .inr ⟨5, rfl, by decide, .inl ⟨h2, rfl⟩⟩⟩))))))
    · dsimp only
      rw [if_neg (by decide)]
      exact ⟨rfl, _, rfl⟩
  dsimp only
  rw [← hB]
  clear hB B hli hA i
  refine dSeq_open fun B hB => ?_
  walk_at "rd"
  have bim : ∀ {n : Nat}, Bi 250 (meas4 b c e) → Bi 300 (meas4 b c e) := fun h => h.mono
  have hm3 : Bi 300 (meas4 b c e) := hm.mono
  refine ⟨a, b, c, e, rfl, hc, hcb, fun wr hwr => ?_⟩
  dsimp only
  have askC : ∀ M : Mem, Askable 4 M (T4 a b c e) := fun M => ask_fine M rfl
  refine ⟨fun i r M1 => M1 = M'' ∧ ∃ t4 : Option D, r = [some (.scr ns), some (.own 0), some (T4 a b c e), some (.int (meas4 b c e)), t4, none, none, none, none, none, none, none], ⟨rfl, t4, rfl⟩, ?_⟩
  rintro i r M3 ⟨rfl, t4, rfl⟩
  refine ⟨trivial, fun hli => ?_, fun d hd => ?_⟩
  rotate_left
  · have hw := hwr d (List.mem_of_getElem? hd)
    have sw := fun M => shw _ d hw.sh (.inr (.inr (.inl rfl))) M
    have ad : ∀ n, Askable n M3 d := fun n => ask_sh3 hw.sh
    have ab : ∀ b' ∈ [D.non, d, D.int 0], Askable 4 M3 b' := fun b' hb' => by
      simp only [List.mem_cons, List.not_mem_nil, or_false] at hb'
      rcases hb' with rfl | rfl | rfl
      · exact ask_fine _ rfl
      · exact ad _
      · exact ask_fine _ rfl
    walk_at "rd"
    refine ⟨[2, 3, 4, 5, 7, 8], [], "InvalidCutting", d, rfl, by decide, by decide, fun w hw1 b' hb' => ?_, (sw _).1, (sw _).2, hw.bl _, ?_⟩
    · simp only [List.mem_cons, List.not_mem_nil, or_false] at hw1
      unfold Asks3
      rcases hw1 with rfl | rfl | rfl | rfl | rfl | rfl
      · exact .inr (.inr (.inl ⟨rfl, d, [b', b', b'], rfl, ad _, .inl ⟨isHeartD_cut hw.no, rfl⟩⟩))
      · exact .inr (.inr (.inr (.inl ⟨rfl, d, [b', b', b'], rfl, ad _, .inl ⟨isHeartD_cut hw.no, rfl⟩⟩)))
      · exact .inr (.inr (.inr (.inr (.inl ⟨rfl, d, [b', b', b'], rfl, ad _, .inl ⟨hw.no, rfl⟩⟩))))
      · exact .inr (.inr (.inr (.inr (.inr (.inl ⟨rfl, d, [b', b', b'], rfl, ad _, .inl ⟨hw.no, rfl⟩⟩)))))
      · exact .inr (.inr (.inr (.inr (.inr (.inr (.inr (.inl ⟨rfl, d, b', [b', b'], rfl, ad _, ab b' hb', .inl ⟨hw.no, rfl⟩⟩)))))))
      · exact .inr (.inr (.inr (.inr (.inr (.inr (.inr (.inr ⟨rfl, d, b', b', [b'], rfl, ad _, ab b' hb', .inl ⟨hw.no, rfl⟩⟩)))))))
    · dsimp only
      rw [if_neg (by decide)]
      refine ⟨[7, 8], [T4 a b c e], "InvalidCutting", d, rfl, Nat.le_of_ble_eq_true rfl, by decide, fun w hw1 b' hb' => ?_, (sw _).1, (sw _).2, hw.bl _, ?_⟩
      · simp only [List.mem_cons, List.not_mem_nil, or_false] at hw1
        unfold Asks3
        rcases hw1 with rfl | rfl
        · exact .inr (.inr (.inr (.inr (.inr (.inr (.inr (.inl ⟨rfl, T4 a b c e, d, [b', b', b'], rfl, askC _, ad _, .inr (.inl ⟨hc, hw.no, rfl⟩)⟩)))))))
        · exact .inr (.inr (.inr (.inr (.inr (.inr (.inr (.inr ⟨rfl, T4 a b c e, d, b', [b', b'], rfl, askC _, ad _, .inr (.inl ⟨hc, hw.no, rfl⟩)⟩)))))))
      · dsimp only
        rw [if_neg (by decide)]
        refine ⟨d, rfl, ad _, ?_⟩
        rw [isHeartD_cut hw.no]
        dsimp only
        rw [if_neg (by decide)]
        exact ⟨rfl, _, rfl⟩
  dsimp only
  rw [← hB]
  clear hB B hli hwr i
  refine dSeq_open fun B hB => ?_
  walk_at "rd"
  have hA : ∀ d ∈ [D.tup [D.int 0, D.int 2, D.int 2, D.int (-1)], D.tup [D.int 1, D.int 2, D.int 2, D.int (-1)], D.tup [D.int 0, D.int 1, D.int 2, D.int (-3)]], Sh3 d ∧ isHeartD d = false ∧ (∀ n, below n d = true) := fun d hd => by
    simp only [List.mem_cons, List.not_mem_nil, or_false] at hd
    rcases hd with rfl | rfl | rfl
    all_goals
      refine ⟨?_, by decide +kernel, fun n => rfl⟩
      refine ⟨?_, ?_, ?_⟩
      · first | rfl | decide +kernel
      · first | rfl | decide +kernel
      · first | exact Nat.le_of_ble_eq_true rfl | decide +kernel
  generalize [D.tup [D.int 0, D.int 2, D.int 2, D.int (-1)], D.tup [D.int 1, D.int 2, D.int 2, D.int (-1)], D.tup [D.int 0, D.int 1, D.int 2, D.int (-3)]] = ws4 at *
  refine ⟨fun i r M1 => M1 = M3 ∧ ∃ t4 : Option D, r = [some (.scr ns), some (.own 0), some (T4 a b c e), some (.int (meas4 b c e)), t4, none, none, none, none, none, none, none], ⟨rfl, t4, rfl⟩, ?_⟩
  rintro i r M4 ⟨rfl, t4, rfl⟩
  refine ⟨trivial, fun hli => ?_, fun d hd => ?_⟩
  rotate_left
  · obtain ⟨h1, h2, h4⟩ := hA d (List.mem_of_getElem? hd)
    have sw := fun M => shw _ d (.inl h1) (.inr (.inr (.inl rfl))) M
    walk_at "rd"
    refine ⟨[2, 3], [], "InvalidCutting", d, rfl, by decide, by decide, fun w hw b' hb' => ?_, (sw _).1, (sw _).2, h4 _, ?_⟩
    · simp only [List.mem_cons, List.not_mem_nil, or_false] at hw
      unfold Asks3
      rcases hw with rfl | rfl
      · exact .inr (.inr (.inl ⟨rfl, d, [b', b', b'], rfl, ask_sh3 (.inl h1), .inl ⟨h2, rfl⟩⟩))
      · exact .inr (.inr (.inr (.inl ⟨rfl, d, [b', b', b'], rfl, ask_sh3 (.inl h1), .inl ⟨h2, rfl⟩⟩)))
    · dsimp only
      rw [if_neg (by decide)]
      exact ⟨rfl, _, rfl⟩
  dsimp only
  rw [← hB]
  clear hB B hli hA i
  -- another measure, a near one
  obtain ⟨un, hun, huc, hum, hush⟩ : ∃ u : List Int, (∀ (B : Env → Mem → Prop) (en : D → Env) M, B (en (tI u)) M → (if (!(meas4 b c e == 5)) = true then B (en (T4 0 1 1 (-1))) M else B (en (T4 0 2 1 (-3))) M)) ∧ (∃ a' b' c' e', tI u = T4 a' b' c' e' ∧ isCut a' b' c' e' = true ∧ Bi 300 (meas4 b' c' e') ∧ meas4 b c e ≠ meas4 b' c' e') ∧ (∀ n, below n (tI u) = true) ∧ Sh3 (tI u) := by
    by_cases h5 : meas4 b c e = 5
    · exact ⟨[0, 2, 1, -3], fun B en M h => by rw [if_neg (by simp [h5])]; exact h, ⟨0, 2, 1, -3, rfl, by decide +kernel, Bi.of_abs 100 (by decide) (by decide), by rw [h5]; decide⟩, fun n => rfl, ⟨rfl, rfl, Nat.le_of_ble_eq_true rfl⟩⟩
    · exact ⟨[0, 1, 1, -1], fun B en M h => by rw [if_pos (by simp [h5])]; exact h, ⟨0, 1, 1, -1, rfl, by decide +kernel, Bi.of_abs 100 (by decide) (by decide), h5⟩, fun n => rfl, ⟨rfl, rfl, Nat.le_of_ble_eq_true rfl⟩⟩
  refine dSeq_open fun B hB => ?_
  walk_at "rd"
  refine hun B (fun d => [some (.scr ns), some (.own 0), some (T4 a b c e), some (.int (meas4 b c e)), t4, some d, none, none, none, none, none, none]) _ ?_
  rw [← hB]
  clear hB B hun
  have bbc : Bi 250 (b * c) := by
    have h1 : 0 ≤ b * c := Int.mul_nonneg (by omega) (by omega)
    have h2 : 0 ≤ e * e := by rcases (by omega : 0 ≤ e ∨ e ≤ 0) with h | h; exact Int.mul_nonneg h h; exact Int.mul_nonneg_of_nonpos_of_nonpos h h
    have h3 : meas4 b c e = e * e + 4 * (b * c) := by unfold meas4; grind
    unfold Bi at hm ⊢
    omega
  obtain ⟨nr, hnr⟩ : ∃ x : Int, b * c + 1 = x := ⟨_, rfl⟩
  have bn : Bi 252 nr := by rw [← hnr]; exact (bbc.add (Bi.of_abs 1 (by decide) : Bi 250 1)).mono
  have hb1 : b * 1 ≤ b * c := Int.mul_le_mul_of_nonneg_left k2 (by omega)
  have nearC : isCut 0 nr 1 e = true := by
    simp only [isCut, Bool.and_eq_true, decide_eq_true_eq, beq_iff_eq]
    rw [show (Int.gcd nr 1 : Int) = 1 by rw [Int.gcd_one_right]; rfl]
    refine ⟨by omega, by decide, by omega, by decide, by decide, by simp [Int.gcd]⟩
  have nearM : meas4 nr 1 e = meas4 b c e + 4 := by unfold meas4; rw [← hnr]; grind
  have nearS : Sh3 (T4 0 nr 1 e) := ⟨rfl, by repeat' (first | exact lit3 bn.mono | exact lit3 hcb.2.2.2.mono | exact rfl | apply lit_cons), Nat.le_of_ble_eq_true rfl⟩
  refine dSeq_open fun B hB => ?_
  walk_at "rd"
  refine ⟨⟨hcb.2.1.sm, hcb.2.2.1.sm⟩, ?_⟩
  rw [hnr, ← hB]
  clear hB B
  have two : ∀ (u : D) (M : Mem), Sh3 u → (∃ a' b' c' e', u = T4 a' b' c' e' ∧ isCut a' b' c' e' = true ∧ Bi 300 (meas4 b' c' e') ∧ meas4 b c e ≠ meas4 b' c' e') → ∀ P, TwoV (T4 a b c e) u M (er "Unlike" u) P := fun u M hs ⟨a', b', c', e', h1, h2, h3, h4⟩ P =>
    ⟨askC _, ask_sh3 (.inl hs), .inr (.inr ⟨a, b, c, e, a', b', c', e', rfl, h1, hc, h2, hm3, h3, .inl ⟨h4, rfl⟩⟩)⟩
  refine dSeq_open fun B hB => ?_
  walk_at "rd"
  have swu := fun M => shw _ (tI un) (.inl hush) (.inr (.inr (.inr rfl))) M
  have swn := fun M => shw _ (T4 0 nr 1 e) (.inl nearS) (.inr (.inr (.inr rfl))) M
  refine ⟨[7, 8], [T4 a b c e], "Unlike", tI un, rfl, Nat.le_of_ble_eq_true rfl, by decide, fun w hw1 b' hb' => ?_, (swu _).1, (swu _).2, hum _, ?_⟩
  · simp only [List.mem_cons, List.not_mem_nil, or_false] at hw1
    unfold Asks3
    rcases hw1 with rfl | rfl
    · exact .inr (.inr (.inr (.inr (.inr (.inr (.inr (.inl ⟨rfl, T4 a b c e, tI un, [b', b', b'], rfl, two _ _ hush huc _⟩)))))))
    · exact .inr (.inr (.inr (.inr (.inr (.inr (.inr (.inr ⟨rfl, T4 a b c e, tI un, b', [b', b'], rfl, two _ _ hush huc _⟩)))))))
  dsimp only
  rw [if_neg (by decide)]
  have hnc : ∃ a' b' c' e', T4 0 nr 1 e = T4 a' b' c' e' ∧ isCut a' b' c' e' = true ∧ Bi 300 (meas4 b' c' e') ∧ meas4 b c e ≠ meas4 b' c' e' := ⟨0, nr, 1, e, rfl, nearC, by rw [nearM]; exact (hm.add (Bi.of_abs 4 (by decide) : Bi 250 4)).mono, by omega⟩
  refine ⟨[7, 8], [T4 a b c e], "Unlike", T4 0 nr 1 e, rfl, Nat.le_of_ble_eq_true rfl, by decide, fun w hw1 b' hb' => ?_, (swn _).1, (swn _).2, rfl, ?_⟩
  · simp only [List.mem_cons, List.not_mem_nil, or_false] at hw1
    unfold Asks3
    rcases hw1 with rfl | rfl
    · exact .inr (.inr (.inr (.inr (.inr (.inr (.inr (.inl ⟨rfl, T4 a b c e, _, [b', b', b'], rfl, two _ _ nearS hnc _⟩)))))))
    · exact .inr (.inr (.inr (.inr (.inr (.inr (.inr (.inr ⟨rfl, T4 a b c e, _, b', [b', b'], rfl, two _ _ nearS hnc _⟩)))))))
  dsimp only
  rw [if_neg (by decide), ← hB]
  clear hB B
  refine dSeq_open fun B hB => ?_
  walk_at "rd"
  rw [← hB]
  clear hB B
  refine dSeq_open fun B hB => ?_
  walk_at "rd"
  have mK : ∀ x : Own, (M4 ++ [x])[M4.length]? = some x := fun x => by rw [List.getElem?_append_right (Nat.le_refl _), Nat.sub_self]; rfl
  generalize hK : M4.length = k0 at *
  have hn : (D.own k0 |> below (k0 + 1)) = true := by show decide (k0 < k0 + 1) = true; exact decide_eq_true (by omega)
  have ht : ∃ T, tyM (M4 ++ [Own.lst [D.int 5]]) (.own k0) = some T := ⟨"list", by unfold tyM; dsimp only; rw [mK]⟩
  have hko : Askable 4 (M4 ++ [Own.lst [D.int 5]]) (.own k0) := ⟨ht, fun l e => by cases e⟩
  have fito : Fit (.own k0) := fun m e => by cases e
  refine ⟨(by unfold Rg; decide), lcW_pure (fun d => match d with | .int w => if w = 0 ∨ w = 1 ∨ w = 6 then some (.lst [.str "measure", .own k0]) else some (.lst [.str "cutting", .own k0]) | _ => none) trivial (by decide +kernel) (fun d hd Y N' hy => ?_) ?_⟩
  · obtain ⟨w, hw⟩ := List.getElem?_of_mem hd
    obtain ⟨w0, rfl⟩ := rng_get.mp hw
    have w0 : w < 9 := w0
    have key : ∀ (v : Int) (z : Str), v = 0 + (w : Nat) → (if v = 0 ∨ v = 1 ∨ v = 6 then z = "InvalidMeasure" else z = "InvalidCutting") → Asks3 v [.own k0, .own k0, .own k0] (M4 ++ [Own.lst [D.int 5]]) (er z (.own k0)) := fun v z hv hz => by
      unfold Asks3
      rcases (by omega : v = 0 ∨ v = 1 ∨ v = 2 ∨ v = 3 ∨ v = 4 ∨ v = 5 ∨ v = 6 ∨ v = 7 ∨ v = 8) with h | h | h | h | h | h | h | h | h
      all_goals
        subst h
        first
        | rw [if_pos (by decide)] at hz
        | rw [if_neg (by decide)] at hz
        subst hz
      · exact .inl ⟨rfl, _, [_, _], rfl, ht, fito, .inl ⟨rfl, rfl⟩⟩
      · exact .inr (.inl ⟨rfl, _, [_, _], rfl, ht, .inl ⟨rfl, rfl⟩⟩)
      · exact .inr (.inr (.inl ⟨rfl, _, [_, _], rfl, hko, .inl ⟨rfl, rfl⟩⟩))
      · exact .inr (.inr (.inr (.inl ⟨rfl, _, [_, _], rfl, hko, .inl ⟨rfl, rfl⟩⟩)))
      · exact .inr (.inr (.inr (.inr (.inl ⟨rfl, _, [_, _], rfl, hko, .inl ⟨rfl, rfl⟩⟩))))
      · exact .inr (.inr (.inr (.inr (.inr (.inl ⟨rfl, _, [_, _], rfl, hko, .inl ⟨rfl, rfl⟩⟩)))))
      · exact .inr (.inr (.inr (.inr (.inr (.inr (.inl ⟨rfl, _, _, [_], rfl, ht, ht, fito, .inl ⟨rfl, rfl⟩⟩))))))
      · exact .inr (.inr (.inr (.inr (.inr (.inr (.inr (.inl ⟨rfl, _, _, [_], rfl, hko, hko, .inl ⟨rfl, rfl⟩⟩)))))))
      · exact .inr (.inr (.inr (.inr (.inr (.inr (.inr (.inr ⟨rfl, _, _, _, [], rfl, hko, hko, .inl ⟨rfl, rfl⟩⟩)))))))
    have bo : ∀ (z : Str) (z' : Str) (d : D), er z (.own k0) = some (z', d) → below (M4 ++ [Own.lst [D.int 5]]).length d = true := fun z z' d e => by
      cases e
      rw [List.length_append, hK]
      exact hn
    walk_at "rd"
    dsimp only at hy
    by_cases h6 : (0 : Int) + (w : Nat) = 0 ∨ (0 : Int) + (w : Nat) = 1 ∨ (0 : Int) + (w : Nat) = 6
    · rw [if_pos h6] at hy
      exact ⟨_, [.own k0, .own k0, .own k0], er "InvalidMeasure" (.own k0), rfl, key _ _ rfl (by rw [if_pos h6]), bo _, hy⟩
    · rw [if_neg h6] at hy
      exact ⟨_, [.own k0, .own k0, .own k0], er "InvalidCutting" (.own k0), rfl, key _ _ rfl (by rw [if_neg h6]), bo _, hy⟩
  have hfm : (rng 0 (Int.toNat 9)).filterMap (fun d => match d with | .int w => if w = 0 ∨ w = 1 ∨ w = 6 then some (D.lst [.str "measure", .own k0]) else some (.lst [.str "cutting", .own k0]) | _ => none) =
    [.lst [.str "measure", .own k0], .lst [.str "measure", .own k0], .lst [.str "cutting", .own k0], .lst [.str "cutting", .own k0], .lst [.str "cutting", .own k0], .lst [.str "cutting", .own k0], .lst [.str "measure", .own k0], .lst [.str "cutting", .own k0], .lst [.str "cutting", .own k0]] := rfl
  rw [hfm, ← hB]
  clear hB B hfm
  refine dSeq_open fun B hB => ?_
  walk_at "rd"
  rw [mK]
  dsimp only
  refine ⟨⟨k0, _, rfl, mK _⟩, by decide, ?_⟩
  have hset : List.set (M4 ++ [Own.lst [D.int 5]]) k0 (Own.lst ([D.int 5] ++ [D.int 7])) = M4 ++ [Own.lst [D.int 5, D.int 7]] := by
    rw [← hK, List.set_append_right _ _ (Nat.le_refl _), Nat.sub_self]
    rfl
  rw [hset, ← hB]
  clear hB B hset
  refine dSeq_open fun B hB => ?_
  walk_at "rd"
  refine lcW_pure (fun _ => some (.own k0)) trivial (by rw [sizeLine_eq]; exact Nat.le_of_ble_eq_true rfl) (fun d hd Y N' hy => ?_) ?_
  · have hd' : d = .lst [.str "measure", .own k0] ∨ d = .lst [.str "cutting", .own k0] := by
      simp only [List.mem_cons, List.not_mem_nil, or_false] at hd
      rcases hd with h | h | h | h | h | h | h | h | h <;> first | exact .inl h | exact .inr h
    rcases hd' with rfl | rfl
    · walk_at "rd"
      exact hy
    · walk_at "rd"
      exact hy
  show gMulL (D.lst [D.lst [D.int 5, D.int 7]]) (D.int ((9 : Nat) : Int)) _ _
  refine gMulL_ok (by decide) (by decide) ?_
  have cl : cellL (M4 ++ [Own.lst [D.int 5, D.int 7]]) k0 = some [D.int 5, D.int 7] := by unfold cellL; rw [mK]
  refine gNeD_ok (d := .lst (List.replicate 9 (.lst [.int 5, .int 7]))) (by
    show resD _ (D.lst (List.replicate 9 (.own k0))) = _
    simp only [List.replicate, resD, resDA, cl]) (by rfl) (by decide +kernel) ?_
  dsimp only
  rw [if_neg (by decide)]
  have h19 : hMany 400000001 = 19999 := by decide +kernel
  refine ⟨1, [.int 400000001], er "TooMany" (.int 19999), rfl, .inr (.inl ⟨rfl, .int 400000001, [], rfl, ⟨_, rfl⟩, .inr ⟨400000001, rfl, by decide, by decide, .inl ⟨by rw [h19]; decide, by rw [h19]⟩⟩⟩), fun z d e => (by cases e; rfl), ?_⟩
  refine gNeD_ok (d := .lst [.str "many", .int 19999]) rfl rfl (by decide +kernel) ?_
  dsimp only
  rw [if_neg (by decide), ← hB]
  clear hB B
  refine dSeq_open fun B hB => ?_
  clear hn ht hko cl mK hK
  generalize (M4 ++ [Own.lst [D.int 5, D.int 7]]) = M6
  walk_at "rd"
  generalize [D.lst [D.str (Str.ofString "measure"), D.own k0], D.lst [D.str (Str.ofString "measure"), D.own k0], D.lst [D.str (Str.ofString "cutting"), D.own k0], D.lst [D.str (Str.ofString "cutting"), D.own k0], D.lst [D.str (Str.ofString "cutting"), D.own k0], D.lst [D.str (Str.ofString "cutting"), D.own k0], D.lst [D.str (Str.ofString "measure"), D.own k0], D.lst [D.str (Str.ofString "cutting"), D.own k0], D.lst [D.str (Str.ofString "cutting"), D.own k0]] = tl
  have nb : ∀ (z : Str) (d : D), (none : Option (Str × D)) = some (z, d) → below M6.length d = true := fun z d e => by cases e
  have h17 : hMany 17 = 3 := by decide +kernel
  have f17 : Fit (.int 17) := fun m e => by cases e; exact Bi.of_abs 100 (by decide) (by decide)
  have hh : isHeartD (T4 0 4 1 1) = true := by decide +kernel
  refine lcW_pure (fun _ => some (.lst [.str "let"])) trivial (by decide +kernel) (fun d hd Y N' hy => ?_) ?_
  · simp only [List.mem_cons, List.not_mem_nil, or_false] at hd
    rcases hd with rfl | rfl
    · walk_at "rd"
      exact ⟨0, [.int 17], none, rfl, .inl ⟨rfl, _, [], rfl, ⟨_, rfl⟩, f17, .inr ⟨by decide, rfl⟩⟩, nb, hy⟩
    · walk_at "rd"
      exact ⟨1, [.int 17], none, rfl, .inr (.inl ⟨rfl, _, [], rfl, ⟨_, rfl⟩, .inr ⟨17, rfl, by decide, by decide, .inr ⟨by rw [h17]; decide, rfl⟩⟩⟩), nb, hy⟩
  refine lcW_pure (fun _ => some (.lst [.str "let"])) trivial (by decide +kernel) (fun d hd Y N' hy => ?_) ?_
  · simp only [List.mem_cons, List.not_mem_nil, or_false] at hd
    rcases hd with rfl | rfl
    · walk_at "rd"
      exact ⟨2, [T4 0 4 1 1], none, rfl, .inr (.inr (.inl ⟨rfl, _, [], rfl, ask_fine _ rfl, .inr ⟨0, 4, 1, 1, rfl, hh, ⟨Bi.of_abs 100 (by decide) (by decide), Bi.of_abs 100 (by decide) (by decide), Bi.of_abs 100 (by decide) (by decide)⟩, by decide, (Bi.of_abs (n := 300) 100 (by decide) (by decide)).big.2, rfl⟩⟩)), nb, hy⟩
    · walk_at "rd"
      exact ⟨3, [T4 0 4 1 1], none, rfl, .inr (.inr (.inr (.inl ⟨rfl, _, [], rfl, ask_fine _ rfl, .inr ⟨0, 4, 1, 1, rfl, hh, by decide, rfl⟩⟩))), nb, hy⟩
  refine ⟨by decide, ?_⟩
  refine lcW_pure (fun _ => some (.lst [.str "let"])) trivial (by decide +kernel) (fun d hd Y N' hy => ?_) ?_
  · simp only [List.mem_cons, List.not_mem_nil, or_false] at hd
    rcases hd with rfl | rfl
    · walk_at "rd"
      exact ⟨4, [T4 a b c e], none, rfl, .inr (.inr (.inr (.inr (.inl ⟨rfl, _, [], rfl, askC _, .inr ⟨hc, rfl⟩⟩)))), nb, hy⟩
    · walk_at "rd"
      exact ⟨5, [T4 a b c e], none, rfl, .inr (.inr (.inr (.inr (.inr (.inl ⟨rfl, _, [], rfl, askC _, .inr ⟨a, b, c, e, rfl, hc, hm3, rfl⟩⟩))))), nb, hy⟩
  refine ⟨by decide, ?_⟩
  rw [← hB]
  clear hB B
  walk_at "rd"
  have fit5' : Fit (.int 5) := fit5
  refine ⟨6, [.int 5, .int 0], none, rfl, .inr (.inr (.inr (.inr (.inr (.inr (.inl ⟨rfl, _, _, [], rfl, ⟨_, rfl⟩, ⟨_, rfl⟩, fit5, .inr ⟨5, rfl, by decide, .inr ⟨0, rfl, by decide, by rw [hm5]; decide, rfl⟩⟩⟩)))))), nb, ?_⟩
  dsimp only
  refine ⟨7, [T4 a b c e, T4 a b c e], none, rfl, .inr (.inr (.inr (.inr (.inr (.inr (.inr (.inl ⟨rfl, _, _, [], rfl, askC _, askC _, .inr (.inr ⟨a, b, c, e, a, b, c, e, rfl, rfl, hc, hc, hm3, hm3, .inr ⟨rfl, rfl, trivial⟩⟩)⟩))))))), nb, ?_⟩
  dsimp only
  refine ⟨8, [T4 a b c e, T4 a b c e, .non], none, rfl, .inr (.inr (.inr (.inr (.inr (.inr (.inr (.inr ⟨rfl, _, _, _, [], rfl, askC _, askC _, .inr (.inr ⟨a, b, c, e, a, b, c, e, rfl, rfl, hc, hc, hm3, hm3, .inr ⟨rfl, rfl, rfl⟩⟩)⟩))))))), nb, ?_⟩
  dsimp only
  refine ⟨by decide, ?_⟩
  show gMulL (D.lst [D.lst [D.str (Str.ofString "let")]]) (D.int ((9 : Nat) : Int)) _ _
  refine gMulL_ok (by decide) (by decide) ?_
  exact gEqD_ok (d := .lst (List.replicate 9 (.lst [.str "let"]))) rfl rfl (by decide +kernel) (fin _)
end DL
namespace C_k33
open PySem PySem.Spec PyProof.Rows L2 DL
theorem law_ok {P : Program} {w : World} {K : PySem.W.Frag} {mg : Str → Option Value} {base : Heap} (T : Txt P K mg base) : Def P w K mg base CX0 14 "law" s_l_law_a8bd ["_law_script"] spLaw := by
  have D_l_cell_cf3b := ok_l_cell_cf3b (P := P) (w := w) T  rd_l_cell_cf3b
  have D_l_generator_b324 := ok_l_generator_b324 (P := P) (w := w) T D_l_cell_cf3b rd_l_generator_b324
  have D_l_hash_9cde := ok_l_hash_9cde (P := P) (w := w) T  rd_l_hash_9cde
  have D_l_random_7821 := ok_l_random_7821 (P := P) (w := w) T D_l_hash_9cde rd_l_random_7821
  have D_l_common_6be5 := ok_l_common_6be5 (P := P) (w := w) T  rd_l_common_6be5
  have D_l_measured_5aba := ok_l_measured_5aba (P := P) (w := w) T  rd_l_measured_5aba
  have D_l_is_cutting_9b45 := ok_l_is_cutting_9b45 (P := P) (w := w) T D_l_common_6be5 D_l_measured_5aba rd_l_is_cutting_9b45
  have D_l_great_5836 := ok_l_great_5836 (P := P) (w := w) T D_l_random_7821 D_l_common_6be5 D_l_is_cutting_9b45 rd_l_great_5836
  have D_is_whole := ok_is_whole (P := P) (w := w) T  rd_is_whole
  have D_is_between := ok_is_between (P := P) (w := w) T D_is_whole rd_is_between
  have D_is_measure_by := ok_is_measure_by (P := P) (w := w) T D_is_between rd_is_measure_by
  have D_check_measure_x := ok_check_measure_x (P := P) (w := w) T D_is_measure_by rd_check_measure_x
  have D_root_floor_by := ok_root_floor_by (P := P) (w := w) T  rd_root_floor_by
  have D_bounds_by := ok_bounds_by (P := P) (w := w) T D_root_floor_by rd_bounds_by
  have D_how_many_heart_x := ok_how_many_heart_x (P := P) (w := w) T D_check_measure_x D_bounds_by rd_how_many_heart_x
  have D_common_by := ok_common_by (P := P) (w := w) T  rd_common_by
  have D_is_step_by := ok_is_step_by (P := P) (w := w) T D_common_by rd_is_step_by
  have D_lots_by := ok_lots_by (P := P) (w := w) T D_bounds_by D_is_step_by rd_lots_by
  have D_heart_by := ok_heart_by (P := P) (w := w) T  rd_heart_by
  have D_heart_lots_x := ok_heart_lots_x (P := P) (w := w) T D_check_measure_x D_bounds_by D_lots_by D_heart_by rd_heart_lots_x
  have D_is_cutting_by := ok_is_cutting_by (P := P) (w := w) T D_is_whole D_common_by rd_is_cutting_by
  have D_is_heart := ok_is_heart (P := P) (w := w) T D_is_cutting_by rd_is_heartG
  have D_measure_by := ok_measure_by (P := P) (w := w) T  rd_measure_by
  have D_heart_number_x := ok_heart_number_x (P := P) (w := w) T D_is_heart D_bounds_by D_measure_by rd_heart_number_x
  have D_heart_steps_x := ok_heart_steps_x (P := P) (w := w) T D_is_heart D_measure_by D_bounds_by D_is_step_by D_heart_by rd_heart_steps_x
  have D_check_cutting_x := ok_check_cutting_x (P := P) (w := w) T D_is_cutting_by rd_check_cutting_x
  have D_far_by := ok_far_by (P := P) (w := w) T D_common_by rd_far_by
  have D_heart_distance_x := ok_heart_distance_x (P := P) (w := w) T D_check_cutting_x D_far_by rd_heart_distance_x
  have D_shared := ok_shared (P := P) (w := w) T  rd_shared
  have D_opposite_by := ok_opposite_by (P := P) (w := w) T D_shared rd_opposite_by
  have D_beside := ok_beside (P := P) (w := w) T D_opposite_by rd_beside
  have D_table_by := ok_table_by (P := P) (w := w) T D_beside rd_table_by
  have D_full_by := ok_full_by (P := P) (w := w) T D_table_by D_shared D_opposite_by rd_full_by
  have D_done_by := ok_done_by (P := P) (w := w) T D_full_by rd_done_by
  have D_nearer_by := ok_nearer_by (P := P) (w := w) T D_far_by D_done_by rd_nearer_by
  have D_to_heart_by := ok_to_heart_by (P := P) (w := w) T D_nearer_by D_done_by rd_to_heart_by
  have D_word_to_heart_x := ok_word_to_heart_x (P := P) (w := w) T D_check_cutting_x D_to_heart_by rd_word_to_heart_x
  have D_check_number_x := ok_check_number_x (P := P) (w := w) T D_is_whole rd_check_number_x
  have D_heart_numbered_x := ok_heart_numbered_x (P := P) (w := w) T D_check_measure_x D_bounds_by D_check_number_x D_heart_by rd_heart_numbered_x
  have D_check_two_x := ok_check_two_x (P := P) (w := w) T D_check_cutting_x D_measure_by rd_check_two_x
  have D_parted_by := ok_parted_by (P := P) (w := w) T D_measure_by rd_parted_by
  have D_searched_by_n := ok_searched_by_n (P := P) (w := w) T  rd_searched_by_n
  have D_line_down_n := ok_line_down_n (P := P) (w := w) T  rd_line_down_n
  have D_between_by_n := ok_between_by_n (P := P) (w := w) T  rd_between_by_n
  have D_numbers_by := ok_numbers_by (P := P) (w := w) T D_measure_by D_searched_by_n D_line_down_n D_between_by_n rd_numbers_by
  have D_walked_by_n := ok_walked_by_n (P := P) (w := w) T  rd_walked_by_n
  have D_step_deed_by := ok_step_deed_by (P := P) (w := w) T  rd_step_deed_by
  have D_round_of := ok_round_of (P := P) (w := w) T  rd_round_of
  have D_back_by := ok_back_by (P := P) (w := w) T D_full_by D_round_of rd_back_by
  have D_turned_by := ok_turned_by (P := P) (w := w) T D_back_by D_done_by rd_turned_by
  have D_road_by := ok_road_by (P := P) (w := w) T D_to_heart_by D_parted_by D_numbers_by D_walked_by_n D_step_deed_by D_turned_by rd_road_by
  have D_road_x := ok_road_x (P := P) (w := w) T D_check_two_x D_road_by rd_road_x
  have D_allowed_by := ok_allowed_by (P := P) (w := w) T  rd_allowed_by
  have D_is_deed_by := ok_is_deed_by (P := P) (w := w) T D_allowed_by D_round_of rd_is_deed_by
  have D_is_road_by := ok_is_road_by (P := P) (w := w) T D_is_deed_by D_done_by rd_is_road_by
  have D_is_road_x := ok_is_road_x (P := P) (w := w) T D_check_two_x D_is_road_by rd_is_road_x
  have D_l_asked_0403_x := ok_l_asked_0403_x (P := P) (w := w) T D_how_many_heart_x D_heart_lots_x D_heart_number_x D_heart_steps_x D_heart_distance_x D_word_to_heart_x D_heart_numbered_x D_road_x D_is_road_x rd_l_asked_0403_x
  have D_l_told_db71 := ok_l_told_db71 (P := P) (w := w) T D_l_asked_0403_x rd_l_told_db71
  have D_l_all_refused_8142 := ok_l_all_refused_8142 (P := P) (w := w) T D_l_told_db71 rd_l_all_refused_8142
  have D_l_wrong_cuttings_2ff2 := ok_l_wrong_cuttings_2ff2 (P := P) (w := w) T D_l_common_6be5 rd_l_wrong_cuttings_2ff2
  exact ok_l_law_a8bd T D_l_generator_b324 D_l_great_5836 D_l_measured_5aba D_l_all_refused_8142 D_l_wrong_cuttings_2ff2 D_is_heart D_l_told_db71 rd_l_law_a8bd
end C_k33
/-! XH: what super().__init__ means, from the class's own line -/
namespace XA
open PySem PySem.W PySem.Calls PyProof.Rows PySem.HandSPX
theorem sup_of {K : Frag} {x : Str} {C S N : Addr} {q : Str} {bs : List Value} {sn : List Str} {sub : List Value} {ab : Bool} {col : Option Bool} {dd : Option Addr} {k0 k1 k2 k3 k5 : Option Value} {n : String}
    (lk : K.lookup C = some (excClassObj x q C N bs [.ref S, .type "ValueError", .type "Exception", .type "BaseException", .type "object"] true sn sub ab col dd k0 k1 k2 k3 k5 n))
    (sp : ks_superIn K C C "__init__" = some (some (.builtin "ValueError.__init__"))) : alongIn K "__init__" [.ref S, .type "ValueError", .type "Exception", .type "BaseException", .type "object"] = some (some (.builtin "ValueError.__init__")) := by
  have h1 : ∃ cd, PySem.W.clsIn K C = some cd ∧ cd.mro = .ref C :: [.ref S, .type "ValueError", .type "Exception", .type "BaseException", .type "object"] := ⟨_, by unfold PySem.W.clsIn; rw [lk], rfl⟩
  obtain ⟨cd, h1, h2⟩ := h1
  unfold ks_superIn at sp
  rw [h1, Option.bind_some, h2] at sp
  simpa using sp
end XA
namespace C_k33
open PySem PySem.Spec PyProof.Rows L2 DL
theorem all_mk {K : PySem.W.Frag} {h : Heap} {mg : Str → Option Value} (X : K.In h) (G : h.Ns mainGlobals mg)
    (n_ValueError : PySem.W.nsIn K mainGlobals "ValueError" = some none)
    (n_abs : PySem.W.nsIn K mainGlobals "abs" = some none)
    (n_bool : PySem.W.nsIn K mainGlobals "bool" = some none)
    (n_int : PySem.W.nsIn K mainGlobals "int" = some none)
    (n_isinstance : PySem.W.nsIn K mainGlobals "isinstance" = some none)
    (n_len : PySem.W.nsIn K mainGlobals "len" = some none)
    (n_list : PySem.W.nsIn K mainGlobals "list" = some none)
    (n_max : PySem.W.nsIn K mainGlobals "max" = some none)
    (n_range : PySem.W.nsIn K mainGlobals "range" = some none)
    (n_repr : PySem.W.nsIn K mainGlobals "repr" = some none)
    (n_sorted : PySem.W.nsIn K mainGlobals "sorted" = some none)
    (n_sum : PySem.W.nsIn K mainGlobals "sum" = some none)
    (n_tuple : PySem.W.nsIn K mainGlobals "tuple" = some none)
    (g_gcd : PySem.W.nsIn K mainGlobals "gcd" = some (some (.builtin "math.gcd")))
    {tk_LEAST : Tok} (c_LEAST : PySem.W.nsIn K mainGlobals "LEAST" = some (some (.int 5 tk_LEAST)))
    {tk_MOST_LISTED : Tok} (c_MOST_LISTED : PySem.W.nsIn K mainGlobals "MOST_LISTED" = some (some (.int 5000 tk_MOST_LISTED)))
    {tk_MOST_SEARCHED : Tok} (c_MOST_SEARCHED : PySem.W.nsIn K mainGlobals "MOST_SEARCHED" = some (some (.int 2000 tk_MOST_SEARCHED)))
    {tk_MOST_SIGNS : Tok} (c_MOST_SIGNS : PySem.W.nsIn K mainGlobals "MOST_SIGNS" = some (some (.int 1000 tk_MOST_SIGNS)))
    {cS nS : Addr} {qS : Str} {bS : List Value} {snS : List Str} {suS : List Value} {abS : Bool} {coS : Option Bool} {ddS : Option Addr} {k0S k1S k2S k3S k5S : Option Value}
    (ns_S : PySem.W.nsIn K mainGlobals "SheetError" = some (some (.ref cS))) (lk_S : K.lookup cS = some (excClassObj "SheetError" qS cS nS bS [.type "ValueError", .type "Exception", .type "BaseException", .type "object"] true snS suS abS coS ddS k0S k1S k2S k3S k5S "ValueError.__new__"))
    (gs_S : PySem.W.specialIn K (.builtin "object.__class__") "__get__" = some (some (.builtin "getset_descriptor.__get__"))) (tk_S : PySem.W.takesIn K (.builtin "object.__class__") = some true)
    (any_S : PySem.W.nsIn K PySem.cStatics "thirdparty.any" = some none) (msup_S : PySem.W.nsIn K mainGlobals "super" = some none)
    {c_InvalidMeasure f_InvalidMeasure n_InvalidMeasure cda_InvalidMeasure cc_InvalidMeasure td_InvalidMeasure : Addr} {q_InvalidMeasure : Str} {b_InvalidMeasure : List Value} {sn_InvalidMeasure : List Str} {su_InvalidMeasure : List Value} {ab_InvalidMeasure : Bool} {co_InvalidMeasure : Option Bool} {dd_InvalidMeasure : Option Addr} {k0_InvalidMeasure k1_InvalidMeasure k2_InvalidMeasure k3_InvalidMeasure k5_InvalidMeasure : Option Value} {od_InvalidMeasure an_InvalidMeasure : Option Addr} {kV_InvalidMeasure dc_InvalidMeasure pm_InvalidMeasure ct_InvalidMeasure : Value} {osl_InvalidMeasure : Array (Option Value)} {c1_InvalidMeasure c2_InvalidMeasure c3_InvalidMeasure : Value} {d1_InvalidMeasure d2_InvalidMeasure d3_InvalidMeasure : Option Addr} {sl1_InvalidMeasure sl2_InvalidMeasure sl3_InvalidMeasure : Array (Option Value)} {tn_InvalidMeasure : Nat} {vs_InvalidMeasure : Array Value} {fi_InvalidMeasure : Str} {tf_InvalidMeasure : Tok}
    (ns_InvalidMeasure : PySem.W.nsIn K mainGlobals "InvalidMeasure" = some (some (.ref c_InvalidMeasure))) (lk_InvalidMeasure : K.lookup c_InvalidMeasure = some (excClassObj "InvalidMeasure" q_InvalidMeasure c_InvalidMeasure n_InvalidMeasure b_InvalidMeasure [.ref cS, .type "ValueError", .type "Exception", .type "BaseException", .type "object"] true sn_InvalidMeasure su_InvalidMeasure ab_InvalidMeasure co_InvalidMeasure dd_InvalidMeasure k0_InvalidMeasure k1_InvalidMeasure k2_InvalidMeasure k3_InvalidMeasure k5_InvalidMeasure "ValueError.__new__"))
    (sa_InvalidMeasure : PySem.W.findIn K (.ref c_InvalidMeasure) "__setattr__" = some (some (.builtin "object.__setattr__"))) (ga_InvalidMeasure : PySem.W.findIn K (.ref c_InvalidMeasure) "__getattribute__" = some (some (.builtin "BaseException.__getattribute__"))) (gg_InvalidMeasure : PySem.W.findIn K (.ref c_InvalidMeasure) "__getattr__" = some none)
    (nv_InvalidMeasure : PySem.W.findIn K (.ref c_InvalidMeasure) "value" = some none) (kp_InvalidMeasure : PySem.W.keepIn K (.ref c_InvalidMeasure) = true) (hc_InvalidMeasure : PySem.W.findIn K (.ref c_InvalidMeasure) "__class__" = some (some (.builtin "object.__class__"))) (iC_InvalidMeasure : PySem.W.findIn K (.ref c_InvalidMeasure) "__init__" = some (some (.ref f_InvalidMeasure))) (sp_InvalidMeasure : PySem.W.ks_superIn K c_InvalidMeasure c_InvalidMeasure "__init__" = some (some (.builtin "ValueError.__init__")))
    (lf_InvalidMeasure : K.lookup f_InvalidMeasure = some ⟨.type "function", od_InvalidMeasure, .func (PySem.W.fnX "__init__" "InvalidMeasure.__init__" (defArgs k_InvalidMeasure) (defBody k_InvalidMeasure) (defScope k_InvalidMeasure) [("__class__", cc_InvalidMeasure)] (.ref td_InvalidMeasure) kV_InvalidMeasure dc_InvalidMeasure pm_InvalidMeasure an_InvalidMeasure (.ref cda_InvalidMeasure) ct_InvalidMeasure), osl_InvalidMeasure⟩) (cd_InvalidMeasure : PySem.W.codeIn K (.ref cda_InvalidMeasure) "InvalidMeasure.__init__" = true)
    (lc_InvalidMeasure : K.lookup cc_InvalidMeasure = some ⟨c1_InvalidMeasure, d1_InvalidMeasure, .cell (some (.ref c_InvalidMeasure)), sl1_InvalidMeasure⟩) (lt_InvalidMeasure : K.lookup td_InvalidMeasure = some ⟨c2_InvalidMeasure, d2_InvalidMeasure, .seq #[.none] tn_InvalidMeasure, sl2_InvalidMeasure⟩) (lv_InvalidMeasure : K.lookup cda_InvalidMeasure = some ⟨c3_InvalidMeasure, d3_InvalidMeasure, .fields vs_InvalidMeasure, sl3_InvalidMeasure⟩) (hv_InvalidMeasure : vs_InvalidMeasure[2]? = some (.str fi_InvalidMeasure tf_InvalidMeasure)) (hf_InvalidMeasure : (((PySem.Challenge.pw_slitsheets_k33_hearts_and_roads_refused : Program).main.file : Str) == fi_InvalidMeasure) = true)
    {c_InvalidNumber f_InvalidNumber n_InvalidNumber cda_InvalidNumber cc_InvalidNumber td_InvalidNumber : Addr} {q_InvalidNumber : Str} {b_InvalidNumber : List Value} {sn_InvalidNumber : List Str} {su_InvalidNumber : List Value} {ab_InvalidNumber : Bool} {co_InvalidNumber : Option Bool} {dd_InvalidNumber : Option Addr} {k0_InvalidNumber k1_InvalidNumber k2_InvalidNumber k3_InvalidNumber k5_InvalidNumber : Option Value} {od_InvalidNumber an_InvalidNumber : Option Addr} {kV_InvalidNumber dc_InvalidNumber pm_InvalidNumber ct_InvalidNumber : Value} {osl_InvalidNumber : Array (Option Value)} {c1_InvalidNumber c2_InvalidNumber c3_InvalidNumber : Value} {d1_InvalidNumber d2_InvalidNumber d3_InvalidNumber : Option Addr} {sl1_InvalidNumber sl2_InvalidNumber sl3_InvalidNumber : Array (Option Value)} {tn_InvalidNumber : Nat} {vs_InvalidNumber : Array Value} {fi_InvalidNumber : Str} {tf_InvalidNumber : Tok}
    (ns_InvalidNumber : PySem.W.nsIn K mainGlobals "InvalidNumber" = some (some (.ref c_InvalidNumber))) (lk_InvalidNumber : K.lookup c_InvalidNumber = some (excClassObj "InvalidNumber" q_InvalidNumber c_InvalidNumber n_InvalidNumber b_InvalidNumber [.ref cS, .type "ValueError", .type "Exception", .type "BaseException", .type "object"] true sn_InvalidNumber su_InvalidNumber ab_InvalidNumber co_InvalidNumber dd_InvalidNumber k0_InvalidNumber k1_InvalidNumber k2_InvalidNumber k3_InvalidNumber k5_InvalidNumber "ValueError.__new__"))
    (sa_InvalidNumber : PySem.W.findIn K (.ref c_InvalidNumber) "__setattr__" = some (some (.builtin "object.__setattr__"))) (ga_InvalidNumber : PySem.W.findIn K (.ref c_InvalidNumber) "__getattribute__" = some (some (.builtin "BaseException.__getattribute__"))) (gg_InvalidNumber : PySem.W.findIn K (.ref c_InvalidNumber) "__getattr__" = some none)
    (nv_InvalidNumber : PySem.W.findIn K (.ref c_InvalidNumber) "value" = some none) (kp_InvalidNumber : PySem.W.keepIn K (.ref c_InvalidNumber) = true) (hc_InvalidNumber : PySem.W.findIn K (.ref c_InvalidNumber) "__class__" = some (some (.builtin "object.__class__"))) (iC_InvalidNumber : PySem.W.findIn K (.ref c_InvalidNumber) "__init__" = some (some (.ref f_InvalidNumber))) (sp_InvalidNumber : PySem.W.ks_superIn K c_InvalidNumber c_InvalidNumber "__init__" = some (some (.builtin "ValueError.__init__")))
    (lf_InvalidNumber : K.lookup f_InvalidNumber = some ⟨.type "function", od_InvalidNumber, .func (PySem.W.fnX "__init__" "InvalidNumber.__init__" (defArgs k_InvalidNumber) (defBody k_InvalidNumber) (defScope k_InvalidNumber) [("__class__", cc_InvalidNumber)] (.ref td_InvalidNumber) kV_InvalidNumber dc_InvalidNumber pm_InvalidNumber an_InvalidNumber (.ref cda_InvalidNumber) ct_InvalidNumber), osl_InvalidNumber⟩) (cd_InvalidNumber : PySem.W.codeIn K (.ref cda_InvalidNumber) "InvalidNumber.__init__" = true)
    (lc_InvalidNumber : K.lookup cc_InvalidNumber = some ⟨c1_InvalidNumber, d1_InvalidNumber, .cell (some (.ref c_InvalidNumber)), sl1_InvalidNumber⟩) (lt_InvalidNumber : K.lookup td_InvalidNumber = some ⟨c2_InvalidNumber, d2_InvalidNumber, .seq #[.none] tn_InvalidNumber, sl2_InvalidNumber⟩) (lv_InvalidNumber : K.lookup cda_InvalidNumber = some ⟨c3_InvalidNumber, d3_InvalidNumber, .fields vs_InvalidNumber, sl3_InvalidNumber⟩) (hv_InvalidNumber : vs_InvalidNumber[2]? = some (.str fi_InvalidNumber tf_InvalidNumber)) (hf_InvalidNumber : (((PySem.Challenge.pw_slitsheets_k33_hearts_and_roads_refused : Program).main.file : Str) == fi_InvalidNumber) = true)
    {c_InvalidCutting f_InvalidCutting n_InvalidCutting cda_InvalidCutting cc_InvalidCutting td_InvalidCutting : Addr} {q_InvalidCutting : Str} {b_InvalidCutting : List Value} {sn_InvalidCutting : List Str} {su_InvalidCutting : List Value} {ab_InvalidCutting : Bool} {co_InvalidCutting : Option Bool} {dd_InvalidCutting : Option Addr} {k0_InvalidCutting k1_InvalidCutting k2_InvalidCutting k3_InvalidCutting k5_InvalidCutting : Option Value} {od_InvalidCutting an_InvalidCutting : Option Addr} {kV_InvalidCutting dc_InvalidCutting pm_InvalidCutting ct_InvalidCutting : Value} {osl_InvalidCutting : Array (Option Value)} {c1_InvalidCutting c2_InvalidCutting c3_InvalidCutting : Value} {d1_InvalidCutting d2_InvalidCutting d3_InvalidCutting : Option Addr} {sl1_InvalidCutting sl2_InvalidCutting sl3_InvalidCutting : Array (Option Value)} {tn_InvalidCutting : Nat} {vs_InvalidCutting : Array Value} {fi_InvalidCutting : Str} {tf_InvalidCutting : Tok}
    (ns_InvalidCutting : PySem.W.nsIn K mainGlobals "InvalidCutting" = some (some (.ref c_InvalidCutting))) (lk_InvalidCutting : K.lookup c_InvalidCutting = some (excClassObj "InvalidCutting" q_InvalidCutting c_InvalidCutting n_InvalidCutting b_InvalidCutting [.ref cS, .type "ValueError", .type "Exception", .type "BaseException", .type "object"] true sn_InvalidCutting su_InvalidCutting ab_InvalidCutting co_InvalidCutting dd_InvalidCutting k0_InvalidCutting k1_InvalidCutting k2_InvalidCutting k3_InvalidCutting k5_InvalidCutting "ValueError.__new__"))
    (sa_InvalidCutting : PySem.W.findIn K (.ref c_InvalidCutting) "__setattr__" = some (some (.builtin "object.__setattr__"))) (ga_InvalidCutting : PySem.W.findIn K (.ref c_InvalidCutting) "__getattribute__" = some (some (.builtin "BaseException.__getattribute__"))) (gg_InvalidCutting : PySem.W.findIn K (.ref c_InvalidCutting) "__getattr__" = some none)
    (nv_InvalidCutting : PySem.W.findIn K (.ref c_InvalidCutting) "value" = some none) (kp_InvalidCutting : PySem.W.keepIn K (.ref c_InvalidCutting) = true) (hc_InvalidCutting : PySem.W.findIn K (.ref c_InvalidCutting) "__class__" = some (some (.builtin "object.__class__"))) (iC_InvalidCutting : PySem.W.findIn K (.ref c_InvalidCutting) "__init__" = some (some (.ref f_InvalidCutting))) (sp_InvalidCutting : PySem.W.ks_superIn K c_InvalidCutting c_InvalidCutting "__init__" = some (some (.builtin "ValueError.__init__")))
    (lf_InvalidCutting : K.lookup f_InvalidCutting = some ⟨.type "function", od_InvalidCutting, .func (PySem.W.fnX "__init__" "InvalidCutting.__init__" (defArgs k_InvalidCutting) (defBody k_InvalidCutting) (defScope k_InvalidCutting) [("__class__", cc_InvalidCutting)] (.ref td_InvalidCutting) kV_InvalidCutting dc_InvalidCutting pm_InvalidCutting an_InvalidCutting (.ref cda_InvalidCutting) ct_InvalidCutting), osl_InvalidCutting⟩) (cd_InvalidCutting : PySem.W.codeIn K (.ref cda_InvalidCutting) "InvalidCutting.__init__" = true)
    (lc_InvalidCutting : K.lookup cc_InvalidCutting = some ⟨c1_InvalidCutting, d1_InvalidCutting, .cell (some (.ref c_InvalidCutting)), sl1_InvalidCutting⟩) (lt_InvalidCutting : K.lookup td_InvalidCutting = some ⟨c2_InvalidCutting, d2_InvalidCutting, .seq #[.none] tn_InvalidCutting, sl2_InvalidCutting⟩) (lv_InvalidCutting : K.lookup cda_InvalidCutting = some ⟨c3_InvalidCutting, d3_InvalidCutting, .fields vs_InvalidCutting, sl3_InvalidCutting⟩) (hv_InvalidCutting : vs_InvalidCutting[2]? = some (.str fi_InvalidCutting tf_InvalidCutting)) (hf_InvalidCutting : (((PySem.Challenge.pw_slitsheets_k33_hearts_and_roads_refused : Program).main.file : Str) == fi_InvalidCutting) = true)
    {c_Unlike f_Unlike n_Unlike cda_Unlike cc_Unlike td_Unlike : Addr} {q_Unlike : Str} {b_Unlike : List Value} {sn_Unlike : List Str} {su_Unlike : List Value} {ab_Unlike : Bool} {co_Unlike : Option Bool} {dd_Unlike : Option Addr} {k0_Unlike k1_Unlike k2_Unlike k3_Unlike k5_Unlike : Option Value} {od_Unlike an_Unlike : Option Addr} {kV_Unlike dc_Unlike pm_Unlike ct_Unlike : Value} {osl_Unlike : Array (Option Value)} {c1_Unlike c2_Unlike c3_Unlike : Value} {d1_Unlike d2_Unlike d3_Unlike : Option Addr} {sl1_Unlike sl2_Unlike sl3_Unlike : Array (Option Value)} {tn_Unlike : Nat} {vs_Unlike : Array Value} {fi_Unlike : Str} {tf_Unlike : Tok}
    (ns_Unlike : PySem.W.nsIn K mainGlobals "Unlike" = some (some (.ref c_Unlike))) (lk_Unlike : K.lookup c_Unlike = some (excClassObj "Unlike" q_Unlike c_Unlike n_Unlike b_Unlike [.ref cS, .type "ValueError", .type "Exception", .type "BaseException", .type "object"] true sn_Unlike su_Unlike ab_Unlike co_Unlike dd_Unlike k0_Unlike k1_Unlike k2_Unlike k3_Unlike k5_Unlike "ValueError.__new__"))
    (sa_Unlike : PySem.W.findIn K (.ref c_Unlike) "__setattr__" = some (some (.builtin "object.__setattr__"))) (ga_Unlike : PySem.W.findIn K (.ref c_Unlike) "__getattribute__" = some (some (.builtin "BaseException.__getattribute__"))) (gg_Unlike : PySem.W.findIn K (.ref c_Unlike) "__getattr__" = some none)
    (nv_Unlike : PySem.W.findIn K (.ref c_Unlike) "value" = some none) (kp_Unlike : PySem.W.keepIn K (.ref c_Unlike) = true) (hc_Unlike : PySem.W.findIn K (.ref c_Unlike) "__class__" = some (some (.builtin "object.__class__"))) (iC_Unlike : PySem.W.findIn K (.ref c_Unlike) "__init__" = some (some (.ref f_Unlike))) (sp_Unlike : PySem.W.ks_superIn K c_Unlike c_Unlike "__init__" = some (some (.builtin "ValueError.__init__")))
    (lf_Unlike : K.lookup f_Unlike = some ⟨.type "function", od_Unlike, .func (PySem.W.fnX "__init__" "Unlike.__init__" (defArgs k_Unlike) (defBody k_Unlike) (defScope k_Unlike) [("__class__", cc_Unlike)] (.ref td_Unlike) kV_Unlike dc_Unlike pm_Unlike an_Unlike (.ref cda_Unlike) ct_Unlike), osl_Unlike⟩) (cd_Unlike : PySem.W.codeIn K (.ref cda_Unlike) "Unlike.__init__" = true)
    (lc_Unlike : K.lookup cc_Unlike = some ⟨c1_Unlike, d1_Unlike, .cell (some (.ref c_Unlike)), sl1_Unlike⟩) (lt_Unlike : K.lookup td_Unlike = some ⟨c2_Unlike, d2_Unlike, .seq #[.none] tn_Unlike, sl2_Unlike⟩) (lv_Unlike : K.lookup cda_Unlike = some ⟨c3_Unlike, d3_Unlike, .fields vs_Unlike, sl3_Unlike⟩) (hv_Unlike : vs_Unlike[2]? = some (.str fi_Unlike tf_Unlike)) (hf_Unlike : (((PySem.Challenge.pw_slitsheets_k33_hearts_and_roads_refused : Program).main.file : Str) == fi_Unlike) = true)
    {c_TooMany f_TooMany n_TooMany cda_TooMany cc_TooMany td_TooMany : Addr} {q_TooMany : Str} {b_TooMany : List Value} {sn_TooMany : List Str} {su_TooMany : List Value} {ab_TooMany : Bool} {co_TooMany : Option Bool} {dd_TooMany : Option Addr} {k0_TooMany k1_TooMany k2_TooMany k3_TooMany k5_TooMany : Option Value} {od_TooMany an_TooMany : Option Addr} {kV_TooMany dc_TooMany pm_TooMany ct_TooMany : Value} {osl_TooMany : Array (Option Value)} {c1_TooMany c2_TooMany c3_TooMany : Value} {d1_TooMany d2_TooMany d3_TooMany : Option Addr} {sl1_TooMany sl2_TooMany sl3_TooMany : Array (Option Value)} {tn_TooMany : Nat} {vs_TooMany : Array Value} {fi_TooMany : Str} {tf_TooMany : Tok}
    (ns_TooMany : PySem.W.nsIn K mainGlobals "TooMany" = some (some (.ref c_TooMany))) (lk_TooMany : K.lookup c_TooMany = some (excClassObj "TooMany" q_TooMany c_TooMany n_TooMany b_TooMany [.ref cS, .type "ValueError", .type "Exception", .type "BaseException", .type "object"] true sn_TooMany su_TooMany ab_TooMany co_TooMany dd_TooMany k0_TooMany k1_TooMany k2_TooMany k3_TooMany k5_TooMany "ValueError.__new__"))
    (sa_TooMany : PySem.W.findIn K (.ref c_TooMany) "__setattr__" = some (some (.builtin "object.__setattr__"))) (ga_TooMany : PySem.W.findIn K (.ref c_TooMany) "__getattribute__" = some (some (.builtin "BaseException.__getattribute__"))) (gg_TooMany : PySem.W.findIn K (.ref c_TooMany) "__getattr__" = some none)
    (nv_TooMany : PySem.W.findIn K (.ref c_TooMany) "value" = some none) (kp_TooMany : PySem.W.keepIn K (.ref c_TooMany) = true) (hc_TooMany : PySem.W.findIn K (.ref c_TooMany) "__class__" = some (some (.builtin "object.__class__"))) (iC_TooMany : PySem.W.findIn K (.ref c_TooMany) "__init__" = some (some (.ref f_TooMany))) (sp_TooMany : PySem.W.ks_superIn K c_TooMany c_TooMany "__init__" = some (some (.builtin "ValueError.__init__")))
    (lf_TooMany : K.lookup f_TooMany = some ⟨.type "function", od_TooMany, .func (PySem.W.fnX "__init__" "TooMany.__init__" (defArgs k_TooMany) (defBody k_TooMany) (defScope k_TooMany) [("__class__", cc_TooMany)] (.ref td_TooMany) kV_TooMany dc_TooMany pm_TooMany an_TooMany (.ref cda_TooMany) ct_TooMany), osl_TooMany⟩) (cd_TooMany : PySem.W.codeIn K (.ref cda_TooMany) "TooMany.__init__" = true)
    (lc_TooMany : K.lookup cc_TooMany = some ⟨c1_TooMany, d1_TooMany, .cell (some (.ref c_TooMany)), sl1_TooMany⟩) (lt_TooMany : K.lookup td_TooMany = some ⟨c2_TooMany, d2_TooMany, .seq #[.none] tn_TooMany, sl2_TooMany⟩) (lv_TooMany : K.lookup cda_TooMany = some ⟨c3_TooMany, d3_TooMany, .fields vs_TooMany, sl3_TooMany⟩) (hv_TooMany : vs_TooMany[2]? = some (.str fi_TooMany tf_TooMany)) (hf_TooMany : (((PySem.Challenge.pw_slitsheets_k33_hearts_and_roads_refused : Program).main.file : Str) == fi_TooMany) = true)
    {va_heart_distance : Addr} (vn_heart_distance : PySem.W.nsIn K mainGlobals "heart_distance" = some (some (.ref va_heart_distance)))
    {va_heart_lots : Addr} (vn_heart_lots : PySem.W.nsIn K mainGlobals "heart_lots" = some (some (.ref va_heart_lots)))
    {va_heart_number : Addr} (vn_heart_number : PySem.W.nsIn K mainGlobals "heart_number" = some (some (.ref va_heart_number)))
    {va_heart_numbered : Addr} (vn_heart_numbered : PySem.W.nsIn K mainGlobals "heart_numbered" = some (some (.ref va_heart_numbered)))
    {va_heart_steps : Addr} (vn_heart_steps : PySem.W.nsIn K mainGlobals "heart_steps" = some (some (.ref va_heart_steps)))
    {va_how_many_heart : Addr} (vn_how_many_heart : PySem.W.nsIn K mainGlobals "how_many_heart" = some (some (.ref va_how_many_heart)))
    {va_road : Addr} (vn_road : PySem.W.nsIn K mainGlobals "road" = some (some (.ref va_road)))
    {va_word_to_heart : Addr} (vn_word_to_heart : PySem.W.nsIn K mainGlobals "word_to_heart" = some (some (.ref va_word_to_heart)))
    {f_l_cell_cf3b : Addr} {oc_l_cell_cf3b kV_l_cell_cf3b dc_l_cell_cf3b pm_l_cell_cf3b cd_l_cell_cf3b ct_l_cell_cf3b : Value} {od_l_cell_cf3b an_l_cell_cf3b : Option Addr} {sl_l_cell_cf3b : Array (Option Value)}
    (a_l_cell_cf3b : PySem.W.nsIn K mainGlobals "_law_cell" = some (some (.ref f_l_cell_cf3b))) (l_l_cell_cf3b : K.lookup f_l_cell_cf3b = some ⟨oc_l_cell_cf3b, od_l_cell_cf3b, .func (PySem.W.fnOf "_law_cell" "_law_cell" (defArgs s_l_cell_cf3b) (defBody s_l_cell_cf3b) (defScope s_l_cell_cf3b) .none kV_l_cell_cf3b dc_l_cell_cf3b pm_l_cell_cf3b an_l_cell_cf3b cd_l_cell_cf3b ct_l_cell_cf3b), sl_l_cell_cf3b⟩) (e_l_cell_cf3b : PySem.W.codeIn K cd_l_cell_cf3b "_law_cell" = true) (k_l_cell_cf3b : PySem.W.keepIn K (.ref f_l_cell_cf3b) = true)
    {f_l_generator_b324 : Addr} {oc_l_generator_b324 kV_l_generator_b324 dc_l_generator_b324 pm_l_generator_b324 cd_l_generator_b324 ct_l_generator_b324 : Value} {od_l_generator_b324 an_l_generator_b324 : Option Addr} {sl_l_generator_b324 : Array (Option Value)}
    (a_l_generator_b324 : PySem.W.nsIn K mainGlobals "_law_generator" = some (some (.ref f_l_generator_b324))) (l_l_generator_b324 : K.lookup f_l_generator_b324 = some ⟨oc_l_generator_b324, od_l_generator_b324, .func (PySem.W.fnOf "_law_generator" "_law_generator" (defArgs s_l_generator_b324) (defBody s_l_generator_b324) (defScope s_l_generator_b324) .none kV_l_generator_b324 dc_l_generator_b324 pm_l_generator_b324 an_l_generator_b324 cd_l_generator_b324 ct_l_generator_b324), sl_l_generator_b324⟩) (e_l_generator_b324 : PySem.W.codeIn K cd_l_generator_b324 "_law_generator" = true) (k_l_generator_b324 : PySem.W.keepIn K (.ref f_l_generator_b324) = true)
    {f_l_hash_9cde : Addr} {oc_l_hash_9cde kV_l_hash_9cde dc_l_hash_9cde pm_l_hash_9cde cd_l_hash_9cde ct_l_hash_9cde : Value} {od_l_hash_9cde an_l_hash_9cde : Option Addr} {sl_l_hash_9cde : Array (Option Value)}
    (a_l_hash_9cde : PySem.W.nsIn K mainGlobals "_law_hash" = some (some (.ref f_l_hash_9cde))) (l_l_hash_9cde : K.lookup f_l_hash_9cde = some ⟨oc_l_hash_9cde, od_l_hash_9cde, .func (PySem.W.fnOf "_law_hash" "_law_hash" (defArgs s_l_hash_9cde) (defBody s_l_hash_9cde) (defScope s_l_hash_9cde) .none kV_l_hash_9cde dc_l_hash_9cde pm_l_hash_9cde an_l_hash_9cde cd_l_hash_9cde ct_l_hash_9cde), sl_l_hash_9cde⟩) (e_l_hash_9cde : PySem.W.codeIn K cd_l_hash_9cde "_law_hash" = true) (k_l_hash_9cde : PySem.W.keepIn K (.ref f_l_hash_9cde) = true)
    {f_l_random_7821 : Addr} {oc_l_random_7821 kV_l_random_7821 dc_l_random_7821 pm_l_random_7821 cd_l_random_7821 ct_l_random_7821 : Value} {od_l_random_7821 an_l_random_7821 : Option Addr} {sl_l_random_7821 : Array (Option Value)}
    (a_l_random_7821 : PySem.W.nsIn K mainGlobals "_law_random" = some (some (.ref f_l_random_7821))) (l_l_random_7821 : K.lookup f_l_random_7821 = some ⟨oc_l_random_7821, od_l_random_7821, .func (PySem.W.fnOf "_law_random" "_law_random" (defArgs s_l_random_7821) (defBody s_l_random_7821) (defScope s_l_random_7821) .none kV_l_random_7821 dc_l_random_7821 pm_l_random_7821 an_l_random_7821 cd_l_random_7821 ct_l_random_7821), sl_l_random_7821⟩) (e_l_random_7821 : PySem.W.codeIn K cd_l_random_7821 "_law_random" = true) (k_l_random_7821 : PySem.W.keepIn K (.ref f_l_random_7821) = true)
    {f_l_common_6be5 : Addr} {oc_l_common_6be5 kV_l_common_6be5 dc_l_common_6be5 pm_l_common_6be5 cd_l_common_6be5 ct_l_common_6be5 : Value} {od_l_common_6be5 an_l_common_6be5 : Option Addr} {sl_l_common_6be5 : Array (Option Value)}
    (a_l_common_6be5 : PySem.W.nsIn K mainGlobals "_law_common" = some (some (.ref f_l_common_6be5))) (l_l_common_6be5 : K.lookup f_l_common_6be5 = some ⟨oc_l_common_6be5, od_l_common_6be5, .func (PySem.W.fnOf "_law_common" "_law_common" (defArgs s_l_common_6be5) (defBody s_l_common_6be5) (defScope s_l_common_6be5) .none kV_l_common_6be5 dc_l_common_6be5 pm_l_common_6be5 an_l_common_6be5 cd_l_common_6be5 ct_l_common_6be5), sl_l_common_6be5⟩) (e_l_common_6be5 : PySem.W.codeIn K cd_l_common_6be5 "_law_common" = true) (k_l_common_6be5 : PySem.W.keepIn K (.ref f_l_common_6be5) = true)
    {f_l_measured_5aba : Addr} {oc_l_measured_5aba kV_l_measured_5aba dc_l_measured_5aba pm_l_measured_5aba cd_l_measured_5aba ct_l_measured_5aba : Value} {od_l_measured_5aba an_l_measured_5aba : Option Addr} {sl_l_measured_5aba : Array (Option Value)}
    (a_l_measured_5aba : PySem.W.nsIn K mainGlobals "_law_measured" = some (some (.ref f_l_measured_5aba))) (l_l_measured_5aba : K.lookup f_l_measured_5aba = some ⟨oc_l_measured_5aba, od_l_measured_5aba, .func (PySem.W.fnOf "_law_measured" "_law_measured" (defArgs s_l_measured_5aba) (defBody s_l_measured_5aba) (defScope s_l_measured_5aba) .none kV_l_measured_5aba dc_l_measured_5aba pm_l_measured_5aba an_l_measured_5aba cd_l_measured_5aba ct_l_measured_5aba), sl_l_measured_5aba⟩) (e_l_measured_5aba : PySem.W.codeIn K cd_l_measured_5aba "_law_measured" = true) (k_l_measured_5aba : PySem.W.keepIn K (.ref f_l_measured_5aba) = true)
    {f_l_is_cutting_9b45 : Addr} {oc_l_is_cutting_9b45 kV_l_is_cutting_9b45 dc_l_is_cutting_9b45 pm_l_is_cutting_9b45 cd_l_is_cutting_9b45 ct_l_is_cutting_9b45 : Value} {od_l_is_cutting_9b45 an_l_is_cutting_9b45 : Option Addr} {sl_l_is_cutting_9b45 : Array (Option Value)}
    (a_l_is_cutting_9b45 : PySem.W.nsIn K mainGlobals "_law_is_cutting" = some (some (.ref f_l_is_cutting_9b45))) (l_l_is_cutting_9b45 : K.lookup f_l_is_cutting_9b45 = some ⟨oc_l_is_cutting_9b45, od_l_is_cutting_9b45, .func (PySem.W.fnOf "_law_is_cutting" "_law_is_cutting" (defArgs s_l_is_cutting_9b45) (defBody s_l_is_cutting_9b45) (defScope s_l_is_cutting_9b45) .none kV_l_is_cutting_9b45 dc_l_is_cutting_9b45 pm_l_is_cutting_9b45 an_l_is_cutting_9b45 cd_l_is_cutting_9b45 ct_l_is_cutting_9b45), sl_l_is_cutting_9b45⟩) (e_l_is_cutting_9b45 : PySem.W.codeIn K cd_l_is_cutting_9b45 "_law_is_cutting" = true) (k_l_is_cutting_9b45 : PySem.W.keepIn K (.ref f_l_is_cutting_9b45) = true)
    {f_l_great_5836 : Addr} {oc_l_great_5836 kV_l_great_5836 dc_l_great_5836 pm_l_great_5836 cd_l_great_5836 ct_l_great_5836 : Value} {od_l_great_5836 an_l_great_5836 : Option Addr} {sl_l_great_5836 : Array (Option Value)}
    (a_l_great_5836 : PySem.W.nsIn K mainGlobals "_law_great" = some (some (.ref f_l_great_5836))) (l_l_great_5836 : K.lookup f_l_great_5836 = some ⟨oc_l_great_5836, od_l_great_5836, .func (PySem.W.fnOf "_law_great" "_law_great" (defArgs s_l_great_5836) (defBody s_l_great_5836) (defScope s_l_great_5836) .none kV_l_great_5836 dc_l_great_5836 pm_l_great_5836 an_l_great_5836 cd_l_great_5836 ct_l_great_5836), sl_l_great_5836⟩) (e_l_great_5836 : PySem.W.codeIn K cd_l_great_5836 "_law_great" = true) (k_l_great_5836 : PySem.W.keepIn K (.ref f_l_great_5836) = true)
    {f_is_whole : Addr} {oc_is_whole kV_is_whole dc_is_whole pm_is_whole cd_is_whole ct_is_whole : Value} {od_is_whole an_is_whole : Option Addr} {sl_is_whole : Array (Option Value)}
    (a_is_whole : PySem.W.nsIn K mainGlobals "is_whole" = some (some (.ref f_is_whole))) (l_is_whole : K.lookup f_is_whole = some ⟨oc_is_whole, od_is_whole, .func (PySem.W.fnOf "is_whole" "is_whole" (defArgs s_is_whole) (defBody s_is_whole) (defScope s_is_whole) .none kV_is_whole dc_is_whole pm_is_whole an_is_whole cd_is_whole ct_is_whole), sl_is_whole⟩) (e_is_whole : PySem.W.codeIn K cd_is_whole "is_whole" = true) (k_is_whole : PySem.W.keepIn K (.ref f_is_whole) = true)
    {f_is_between : Addr} {oc_is_between kV_is_between dc_is_between pm_is_between cd_is_between ct_is_between : Value} {od_is_between an_is_between : Option Addr} {sl_is_between : Array (Option Value)}
    (a_is_between : PySem.W.nsIn K mainGlobals "is_between" = some (some (.ref f_is_between))) (l_is_between : K.lookup f_is_between = some ⟨oc_is_between, od_is_between, .func (PySem.W.fnOf "is_between" "is_between" (defArgs s_is_between) (defBody s_is_between) (defScope s_is_between) .none kV_is_between dc_is_between pm_is_between an_is_between cd_is_between ct_is_between), sl_is_between⟩) (e_is_between : PySem.W.codeIn K cd_is_between "is_between" = true) (k_is_between : PySem.W.keepIn K (.ref f_is_between) = true)
    {f_is_measure_by : Addr} {oc_is_measure_by kV_is_measure_by dc_is_measure_by pm_is_measure_by cd_is_measure_by ct_is_measure_by : Value} {od_is_measure_by an_is_measure_by : Option Addr} {sl_is_measure_by : Array (Option Value)}
    (a_is_measure_by : PySem.W.nsIn K mainGlobals "is_measure_by" = some (some (.ref f_is_measure_by))) (l_is_measure_by : K.lookup f_is_measure_by = some ⟨oc_is_measure_by, od_is_measure_by, .func (PySem.W.fnOf "is_measure_by" "is_measure_by" (defArgs s_is_measure_by) (defBody s_is_measure_by) (defScope s_is_measure_by) .none kV_is_measure_by dc_is_measure_by pm_is_measure_by an_is_measure_by cd_is_measure_by ct_is_measure_by), sl_is_measure_by⟩) (e_is_measure_by : PySem.W.codeIn K cd_is_measure_by "is_measure_by" = true) (k_is_measure_by : PySem.W.keepIn K (.ref f_is_measure_by) = true)
    {f_check_measure_x : Addr} {oc_check_measure_x kV_check_measure_x dc_check_measure_x pm_check_measure_x cd_check_measure_x ct_check_measure_x : Value} {od_check_measure_x an_check_measure_x : Option Addr} {sl_check_measure_x : Array (Option Value)}
    (a_check_measure_x : PySem.W.nsIn K mainGlobals "check_measure" = some (some (.ref f_check_measure_x))) (l_check_measure_x : K.lookup f_check_measure_x = some ⟨oc_check_measure_x, od_check_measure_x, .func (PySem.W.fnOf "check_measure" "check_measure" (defArgs s_check_measure_x) (defBody s_check_measure_x) (defScope s_check_measure_x) .none kV_check_measure_x dc_check_measure_x pm_check_measure_x an_check_measure_x cd_check_measure_x ct_check_measure_x), sl_check_measure_x⟩) (e_check_measure_x : PySem.W.codeIn K cd_check_measure_x "check_measure" = true) (k_check_measure_x : PySem.W.keepIn K (.ref f_check_measure_x) = true)
    {f_root_floor_by : Addr} {oc_root_floor_by kV_root_floor_by dc_root_floor_by pm_root_floor_by cd_root_floor_by ct_root_floor_by : Value} {od_root_floor_by an_root_floor_by : Option Addr} {sl_root_floor_by : Array (Option Value)}
    (a_root_floor_by : PySem.W.nsIn K mainGlobals "root_floor_by" = some (some (.ref f_root_floor_by))) (l_root_floor_by : K.lookup f_root_floor_by = some ⟨oc_root_floor_by, od_root_floor_by, .func (PySem.W.fnOf "root_floor_by" "root_floor_by" (defArgs s_root_floor_by) (defBody s_root_floor_by) (defScope s_root_floor_by) .none kV_root_floor_by dc_root_floor_by pm_root_floor_by an_root_floor_by cd_root_floor_by ct_root_floor_by), sl_root_floor_by⟩) (e_root_floor_by : PySem.W.codeIn K cd_root_floor_by "root_floor_by" = true) (k_root_floor_by : PySem.W.keepIn K (.ref f_root_floor_by) = true)
    {f_bounds_by : Addr} {oc_bounds_by kV_bounds_by dc_bounds_by pm_bounds_by cd_bounds_by ct_bounds_by : Value} {od_bounds_by an_bounds_by : Option Addr} {sl_bounds_by : Array (Option Value)}
    (a_bounds_by : PySem.W.nsIn K mainGlobals "bounds_by" = some (some (.ref f_bounds_by))) (l_bounds_by : K.lookup f_bounds_by = some ⟨oc_bounds_by, od_bounds_by, .func (PySem.W.fnOf "bounds_by" "bounds_by" (defArgs s_bounds_by) (defBody s_bounds_by) (defScope s_bounds_by) .none kV_bounds_by dc_bounds_by pm_bounds_by an_bounds_by cd_bounds_by ct_bounds_by), sl_bounds_by⟩) (e_bounds_by : PySem.W.codeIn K cd_bounds_by "bounds_by" = true) (k_bounds_by : PySem.W.keepIn K (.ref f_bounds_by) = true)
    {f_how_many_heart_x : Addr} {oc_how_many_heart_x kV_how_many_heart_x dc_how_many_heart_x pm_how_many_heart_x cd_how_many_heart_x ct_how_many_heart_x : Value} {od_how_many_heart_x an_how_many_heart_x : Option Addr} {sl_how_many_heart_x : Array (Option Value)}
    (a_how_many_heart_x : PySem.W.nsIn K mainGlobals "how_many_heart" = some (some (.ref f_how_many_heart_x))) (l_how_many_heart_x : K.lookup f_how_many_heart_x = some ⟨oc_how_many_heart_x, od_how_many_heart_x, .func (PySem.W.fnOf "how_many_heart" "how_many_heart" (defArgs s_how_many_heart_x) (defBody s_how_many_heart_x) (defScope s_how_many_heart_x) .none kV_how_many_heart_x dc_how_many_heart_x pm_how_many_heart_x an_how_many_heart_x cd_how_many_heart_x ct_how_many_heart_x), sl_how_many_heart_x⟩) (e_how_many_heart_x : PySem.W.codeIn K cd_how_many_heart_x "how_many_heart" = true) (k_how_many_heart_x : PySem.W.keepIn K (.ref f_how_many_heart_x) = true)
    {f_common_by : Addr} {oc_common_by kV_common_by dc_common_by pm_common_by cd_common_by ct_common_by : Value} {od_common_by an_common_by : Option Addr} {sl_common_by : Array (Option Value)}
    (a_common_by : PySem.W.nsIn K mainGlobals "common_by" = some (some (.ref f_common_by))) (l_common_by : K.lookup f_common_by = some ⟨oc_common_by, od_common_by, .func (PySem.W.fnOf "common_by" "common_by" (defArgs s_common_by) (defBody s_common_by) (defScope s_common_by) .none kV_common_by dc_common_by pm_common_by an_common_by cd_common_by ct_common_by), sl_common_by⟩) (e_common_by : PySem.W.codeIn K cd_common_by "common_by" = true) (k_common_by : PySem.W.keepIn K (.ref f_common_by) = true)
    {f_is_step_by : Addr} {oc_is_step_by kV_is_step_by dc_is_step_by pm_is_step_by cd_is_step_by ct_is_step_by : Value} {od_is_step_by an_is_step_by : Option Addr} {sl_is_step_by : Array (Option Value)}
    (a_is_step_by : PySem.W.nsIn K mainGlobals "is_step_by" = some (some (.ref f_is_step_by))) (l_is_step_by : K.lookup f_is_step_by = some ⟨oc_is_step_by, od_is_step_by, .func (PySem.W.fnOf "is_step_by" "is_step_by" (defArgs s_is_step_by) (defBody s_is_step_by) (defScope s_is_step_by) .none kV_is_step_by dc_is_step_by pm_is_step_by an_is_step_by cd_is_step_by ct_is_step_by), sl_is_step_by⟩) (e_is_step_by : PySem.W.codeIn K cd_is_step_by "is_step_by" = true) (k_is_step_by : PySem.W.keepIn K (.ref f_is_step_by) = true)
    {f_lots_by : Addr} {oc_lots_by kV_lots_by dc_lots_by pm_lots_by cd_lots_by ct_lots_by : Value} {od_lots_by an_lots_by : Option Addr} {sl_lots_by : Array (Option Value)}
    (a_lots_by : PySem.W.nsIn K mainGlobals "lots_by" = some (some (.ref f_lots_by))) (l_lots_by : K.lookup f_lots_by = some ⟨oc_lots_by, od_lots_by, .func (PySem.W.fnOf "lots_by" "lots_by" (defArgs s_lots_by) (defBody s_lots_by) (defScope s_lots_by) .none kV_lots_by dc_lots_by pm_lots_by an_lots_by cd_lots_by ct_lots_by), sl_lots_by⟩) (e_lots_by : PySem.W.codeIn K cd_lots_by "lots_by" = true) (k_lots_by : PySem.W.keepIn K (.ref f_lots_by) = true)
    {f_heart_by : Addr} {oc_heart_by kV_heart_by dc_heart_by pm_heart_by cd_heart_by ct_heart_by : Value} {od_heart_by an_heart_by : Option Addr} {sl_heart_by : Array (Option Value)}
    (a_heart_by : PySem.W.nsIn K mainGlobals "heart_by" = some (some (.ref f_heart_by))) (l_heart_by : K.lookup f_heart_by = some ⟨oc_heart_by, od_heart_by, .func (PySem.W.fnOf "heart_by" "heart_by" (defArgs s_heart_by) (defBody s_heart_by) (defScope s_heart_by) .none kV_heart_by dc_heart_by pm_heart_by an_heart_by cd_heart_by ct_heart_by), sl_heart_by⟩) (e_heart_by : PySem.W.codeIn K cd_heart_by "heart_by" = true) (k_heart_by : PySem.W.keepIn K (.ref f_heart_by) = true)
    {f_heart_lots_x : Addr} {oc_heart_lots_x kV_heart_lots_x dc_heart_lots_x pm_heart_lots_x cd_heart_lots_x ct_heart_lots_x : Value} {od_heart_lots_x an_heart_lots_x : Option Addr} {sl_heart_lots_x : Array (Option Value)}
    (a_heart_lots_x : PySem.W.nsIn K mainGlobals "heart_lots" = some (some (.ref f_heart_lots_x))) (l_heart_lots_x : K.lookup f_heart_lots_x = some ⟨oc_heart_lots_x, od_heart_lots_x, .func (PySem.W.fnOf "heart_lots" "heart_lots" (defArgs s_heart_lots_x) (defBody s_heart_lots_x) (defScope s_heart_lots_x) .none kV_heart_lots_x dc_heart_lots_x pm_heart_lots_x an_heart_lots_x cd_heart_lots_x ct_heart_lots_x), sl_heart_lots_x⟩) (e_heart_lots_x : PySem.W.codeIn K cd_heart_lots_x "heart_lots" = true) (k_heart_lots_x : PySem.W.keepIn K (.ref f_heart_lots_x) = true)
    {f_is_cutting_by : Addr} {oc_is_cutting_by kV_is_cutting_by dc_is_cutting_by pm_is_cutting_by cd_is_cutting_by ct_is_cutting_by : Value} {od_is_cutting_by an_is_cutting_by : Option Addr} {sl_is_cutting_by : Array (Option Value)}
    (a_is_cutting_by : PySem.W.nsIn K mainGlobals "is_cutting_by" = some (some (.ref f_is_cutting_by))) (l_is_cutting_by : K.lookup f_is_cutting_by = some ⟨oc_is_cutting_by, od_is_cutting_by, .func (PySem.W.fnOf "is_cutting_by" "is_cutting_by" (defArgs s_is_cutting_by) (defBody s_is_cutting_by) (defScope s_is_cutting_by) .none kV_is_cutting_by dc_is_cutting_by pm_is_cutting_by an_is_cutting_by cd_is_cutting_by ct_is_cutting_by), sl_is_cutting_by⟩) (e_is_cutting_by : PySem.W.codeIn K cd_is_cutting_by "is_cutting_by" = true) (k_is_cutting_by : PySem.W.keepIn K (.ref f_is_cutting_by) = true)
    {f_is_heart : Addr} {oc_is_heart kV_is_heart dc_is_heart pm_is_heart cd_is_heart ct_is_heart : Value} {od_is_heart an_is_heart : Option Addr} {sl_is_heart : Array (Option Value)}
    (a_is_heart : PySem.W.nsIn K mainGlobals "is_heart" = some (some (.ref f_is_heart))) (l_is_heart : K.lookup f_is_heart = some ⟨oc_is_heart, od_is_heart, .func (PySem.W.fnOf "is_heart" "is_heart" (defArgs s_is_heart) (defBody s_is_heart) (defScope s_is_heart) .none kV_is_heart dc_is_heart pm_is_heart an_is_heart cd_is_heart ct_is_heart), sl_is_heart⟩) (e_is_heart : PySem.W.codeIn K cd_is_heart "is_heart" = true) (k_is_heart : PySem.W.keepIn K (.ref f_is_heart) = true)
    {f_measure_by : Addr} {oc_measure_by kV_measure_by dc_measure_by pm_measure_by cd_measure_by ct_measure_by : Value} {od_measure_by an_measure_by : Option Addr} {sl_measure_by : Array (Option Value)}
    (a_measure_by : PySem.W.nsIn K mainGlobals "measure_by" = some (some (.ref f_measure_by))) (l_measure_by : K.lookup f_measure_by = some ⟨oc_measure_by, od_measure_by, .func (PySem.W.fnOf "measure_by" "measure_by" (defArgs s_measure_by) (defBody s_measure_by) (defScope s_measure_by) .none kV_measure_by dc_measure_by pm_measure_by an_measure_by cd_measure_by ct_measure_by), sl_measure_by⟩) (e_measure_by : PySem.W.codeIn K cd_measure_by "measure_by" = true) (k_measure_by : PySem.W.keepIn K (.ref f_measure_by) = true)
    {f_heart_number_x : Addr} {oc_heart_number_x kV_heart_number_x dc_heart_number_x pm_heart_number_x cd_heart_number_x ct_heart_number_x : Value} {od_heart_number_x an_heart_number_x : Option Addr} {sl_heart_number_x : Array (Option Value)}
    (a_heart_number_x : PySem.W.nsIn K mainGlobals "heart_number" = some (some (.ref f_heart_number_x))) (l_heart_number_x : K.lookup f_heart_number_x = some ⟨oc_heart_number_x, od_heart_number_x, .func (PySem.W.fnOf "heart_number" "heart_number" (defArgs s_heart_number_x) (defBody s_heart_number_x) (defScope s_heart_number_x) .none kV_heart_number_x dc_heart_number_x pm_heart_number_x an_heart_number_x cd_heart_number_x ct_heart_number_x), sl_heart_number_x⟩) (e_heart_number_x : PySem.W.codeIn K cd_heart_number_x "heart_number" = true) (k_heart_number_x : PySem.W.keepIn K (.ref f_heart_number_x) = true)
    {f_heart_steps_x : Addr} {oc_heart_steps_x kV_heart_steps_x dc_heart_steps_x pm_heart_steps_x cd_heart_steps_x ct_heart_steps_x : Value} {od_heart_steps_x an_heart_steps_x : Option Addr} {sl_heart_steps_x : Array (Option Value)}
    (a_heart_steps_x : PySem.W.nsIn K mainGlobals "heart_steps" = some (some (.ref f_heart_steps_x))) (l_heart_steps_x : K.lookup f_heart_steps_x = some ⟨oc_heart_steps_x, od_heart_steps_x, .func (PySem.W.fnOf "heart_steps" "heart_steps" (defArgs s_heart_steps_x) (defBody s_heart_steps_x) (defScope s_heart_steps_x) .none kV_heart_steps_x dc_heart_steps_x pm_heart_steps_x an_heart_steps_x cd_heart_steps_x ct_heart_steps_x), sl_heart_steps_x⟩) (e_heart_steps_x : PySem.W.codeIn K cd_heart_steps_x "heart_steps" = true) (k_heart_steps_x : PySem.W.keepIn K (.ref f_heart_steps_x) = true)
    {f_check_cutting_x : Addr} {oc_check_cutting_x kV_check_cutting_x dc_check_cutting_x pm_check_cutting_x cd_check_cutting_x ct_check_cutting_x : Value} {od_check_cutting_x an_check_cutting_x : Option Addr} {sl_check_cutting_x : Array (Option Value)}
    (a_check_cutting_x : PySem.W.nsIn K mainGlobals "check_cutting" = some (some (.ref f_check_cutting_x))) (l_check_cutting_x : K.lookup f_check_cutting_x = some ⟨oc_check_cutting_x, od_check_cutting_x, .func (PySem.W.fnOf "check_cutting" "check_cutting" (defArgs s_check_cutting_x) (defBody s_check_cutting_x) (defScope s_check_cutting_x) .none kV_check_cutting_x dc_check_cutting_x pm_check_cutting_x an_check_cutting_x cd_check_cutting_x ct_check_cutting_x), sl_check_cutting_x⟩) (e_check_cutting_x : PySem.W.codeIn K cd_check_cutting_x "check_cutting" = true) (k_check_cutting_x : PySem.W.keepIn K (.ref f_check_cutting_x) = true)
    {f_far_by : Addr} {oc_far_by kV_far_by dc_far_by pm_far_by cd_far_by ct_far_by : Value} {od_far_by an_far_by : Option Addr} {sl_far_by : Array (Option Value)}
    (a_far_by : PySem.W.nsIn K mainGlobals "far_by" = some (some (.ref f_far_by))) (l_far_by : K.lookup f_far_by = some ⟨oc_far_by, od_far_by, .func (PySem.W.fnOf "far_by" "far_by" (defArgs s_far_by) (defBody s_far_by) (defScope s_far_by) .none kV_far_by dc_far_by pm_far_by an_far_by cd_far_by ct_far_by), sl_far_by⟩) (e_far_by : PySem.W.codeIn K cd_far_by "far_by" = true) (k_far_by : PySem.W.keepIn K (.ref f_far_by) = true)
    {f_heart_distance_x : Addr} {oc_heart_distance_x kV_heart_distance_x dc_heart_distance_x pm_heart_distance_x cd_heart_distance_x ct_heart_distance_x : Value} {od_heart_distance_x an_heart_distance_x : Option Addr} {sl_heart_distance_x : Array (Option Value)}
    (a_heart_distance_x : PySem.W.nsIn K mainGlobals "heart_distance" = some (some (.ref f_heart_distance_x))) (l_heart_distance_x : K.lookup f_heart_distance_x = some ⟨oc_heart_distance_x, od_heart_distance_x, .func (PySem.W.fnOf "heart_distance" "heart_distance" (defArgs s_heart_distance_x) (defBody s_heart_distance_x) (defScope s_heart_distance_x) .none kV_heart_distance_x dc_heart_distance_x pm_heart_distance_x an_heart_distance_x cd_heart_distance_x ct_heart_distance_x), sl_heart_distance_x⟩) (e_heart_distance_x : PySem.W.codeIn K cd_heart_distance_x "heart_distance" = true) (k_heart_distance_x : PySem.W.keepIn K (.ref f_heart_distance_x) = true)
    {f_shared : Addr} {oc_shared kV_shared dc_shared pm_shared cd_shared ct_shared : Value} {od_shared an_shared : Option Addr} {sl_shared : Array (Option Value)}
    (a_shared : PySem.W.nsIn K mainGlobals "shared" = some (some (.ref f_shared))) (l_shared : K.lookup f_shared = some ⟨oc_shared, od_shared, .func (PySem.W.fnOf "shared" "shared" (defArgs s_shared) (defBody s_shared) (defScope s_shared) .none kV_shared dc_shared pm_shared an_shared cd_shared ct_shared), sl_shared⟩) (e_shared : PySem.W.codeIn K cd_shared "shared" = true) (k_shared : PySem.W.keepIn K (.ref f_shared) = true)
    {f_opposite_by : Addr} {oc_opposite_by kV_opposite_by dc_opposite_by pm_opposite_by cd_opposite_by ct_opposite_by : Value} {od_opposite_by an_opposite_by : Option Addr} {sl_opposite_by : Array (Option Value)}
    (a_opposite_by : PySem.W.nsIn K mainGlobals "opposite_by" = some (some (.ref f_opposite_by))) (l_opposite_by : K.lookup f_opposite_by = some ⟨oc_opposite_by, od_opposite_by, .func (PySem.W.fnOf "opposite_by" "opposite_by" (defArgs s_opposite_by) (defBody s_opposite_by) (defScope s_opposite_by) .none kV_opposite_by dc_opposite_by pm_opposite_by an_opposite_by cd_opposite_by ct_opposite_by), sl_opposite_by⟩) (e_opposite_by : PySem.W.codeIn K cd_opposite_by "opposite_by" = true) (k_opposite_by : PySem.W.keepIn K (.ref f_opposite_by) = true)
    {f_beside : Addr} {oc_beside kV_beside dc_beside pm_beside cd_beside ct_beside : Value} {od_beside an_beside : Option Addr} {sl_beside : Array (Option Value)}
    (a_beside : PySem.W.nsIn K mainGlobals "beside" = some (some (.ref f_beside))) (l_beside : K.lookup f_beside = some ⟨oc_beside, od_beside, .func (PySem.W.fnOf "beside" "beside" (defArgs s_beside) (defBody s_beside) (defScope s_beside) .none kV_beside dc_beside pm_beside an_beside cd_beside ct_beside), sl_beside⟩) (e_beside : PySem.W.codeIn K cd_beside "beside" = true) (k_beside : PySem.W.keepIn K (.ref f_beside) = true)
    {f_table_by : Addr} {oc_table_by kV_table_by dc_table_by pm_table_by cd_table_by ct_table_by : Value} {od_table_by an_table_by : Option Addr} {sl_table_by : Array (Option Value)}
    (a_table_by : PySem.W.nsIn K mainGlobals "table_by" = some (some (.ref f_table_by))) (l_table_by : K.lookup f_table_by = some ⟨oc_table_by, od_table_by, .func (PySem.W.fnOf "table_by" "table_by" (defArgs s_table_by) (defBody s_table_by) (defScope s_table_by) .none kV_table_by dc_table_by pm_table_by an_table_by cd_table_by ct_table_by), sl_table_by⟩) (e_table_by : PySem.W.codeIn K cd_table_by "table_by" = true) (k_table_by : PySem.W.keepIn K (.ref f_table_by) = true)
    {f_full_by : Addr} {oc_full_by kV_full_by dc_full_by pm_full_by cd_full_by ct_full_by : Value} {od_full_by an_full_by : Option Addr} {sl_full_by : Array (Option Value)}
    (a_full_by : PySem.W.nsIn K mainGlobals "full_by" = some (some (.ref f_full_by))) (l_full_by : K.lookup f_full_by = some ⟨oc_full_by, od_full_by, .func (PySem.W.fnOf "full_by" "full_by" (defArgs s_full_by) (defBody s_full_by) (defScope s_full_by) .none kV_full_by dc_full_by pm_full_by an_full_by cd_full_by ct_full_by), sl_full_by⟩) (e_full_by : PySem.W.codeIn K cd_full_by "full_by" = true) (k_full_by : PySem.W.keepIn K (.ref f_full_by) = true)
    {f_done_by : Addr} {oc_done_by kV_done_by dc_done_by pm_done_by cd_done_by ct_done_by : Value} {od_done_by an_done_by : Option Addr} {sl_done_by : Array (Option Value)}
    (a_done_by : PySem.W.nsIn K mainGlobals "done_by" = some (some (.ref f_done_by))) (l_done_by : K.lookup f_done_by = some ⟨oc_done_by, od_done_by, .func (PySem.W.fnOf "done_by" "done_by" (defArgs s_done_by) (defBody s_done_by) (defScope s_done_by) .none kV_done_by dc_done_by pm_done_by an_done_by cd_done_by ct_done_by), sl_done_by⟩) (e_done_by : PySem.W.codeIn K cd_done_by "done_by" = true) (k_done_by : PySem.W.keepIn K (.ref f_done_by) = true)
    {f_nearer_by : Addr} {oc_nearer_by kV_nearer_by dc_nearer_by pm_nearer_by cd_nearer_by ct_nearer_by : Value} {od_nearer_by an_nearer_by : Option Addr} {sl_nearer_by : Array (Option Value)}
    (a_nearer_by : PySem.W.nsIn K mainGlobals "nearer_by" = some (some (.ref f_nearer_by))) (l_nearer_by : K.lookup f_nearer_by = some ⟨oc_nearer_by, od_nearer_by, .func (PySem.W.fnOf "nearer_by" "nearer_by" (defArgs s_nearer_by) (defBody s_nearer_by) (defScope s_nearer_by) .none kV_nearer_by dc_nearer_by pm_nearer_by an_nearer_by cd_nearer_by ct_nearer_by), sl_nearer_by⟩) (e_nearer_by : PySem.W.codeIn K cd_nearer_by "nearer_by" = true) (k_nearer_by : PySem.W.keepIn K (.ref f_nearer_by) = true)
    {f_to_heart_by : Addr} {oc_to_heart_by kV_to_heart_by dc_to_heart_by pm_to_heart_by cd_to_heart_by ct_to_heart_by : Value} {od_to_heart_by an_to_heart_by : Option Addr} {sl_to_heart_by : Array (Option Value)}
    (a_to_heart_by : PySem.W.nsIn K mainGlobals "to_heart_by" = some (some (.ref f_to_heart_by))) (l_to_heart_by : K.lookup f_to_heart_by = some ⟨oc_to_heart_by, od_to_heart_by, .func (PySem.W.fnOf "to_heart_by" "to_heart_by" (defArgs s_to_heart_by) (defBody s_to_heart_by) (defScope s_to_heart_by) .none kV_to_heart_by dc_to_heart_by pm_to_heart_by an_to_heart_by cd_to_heart_by ct_to_heart_by), sl_to_heart_by⟩) (e_to_heart_by : PySem.W.codeIn K cd_to_heart_by "to_heart_by" = true) (k_to_heart_by : PySem.W.keepIn K (.ref f_to_heart_by) = true)
    {f_word_to_heart_x : Addr} {oc_word_to_heart_x kV_word_to_heart_x dc_word_to_heart_x pm_word_to_heart_x cd_word_to_heart_x ct_word_to_heart_x : Value} {od_word_to_heart_x an_word_to_heart_x : Option Addr} {sl_word_to_heart_x : Array (Option Value)}
    (a_word_to_heart_x : PySem.W.nsIn K mainGlobals "word_to_heart" = some (some (.ref f_word_to_heart_x))) (l_word_to_heart_x : K.lookup f_word_to_heart_x = some ⟨oc_word_to_heart_x, od_word_to_heart_x, .func (PySem.W.fnOf "word_to_heart" "word_to_heart" (defArgs s_word_to_heart_x) (defBody s_word_to_heart_x) (defScope s_word_to_heart_x) .none kV_word_to_heart_x dc_word_to_heart_x pm_word_to_heart_x an_word_to_heart_x cd_word_to_heart_x ct_word_to_heart_x), sl_word_to_heart_x⟩) (e_word_to_heart_x : PySem.W.codeIn K cd_word_to_heart_x "word_to_heart" = true) (k_word_to_heart_x : PySem.W.keepIn K (.ref f_word_to_heart_x) = true)
    {f_check_number_x : Addr} {oc_check_number_x kV_check_number_x dc_check_number_x pm_check_number_x cd_check_number_x ct_check_number_x : Value} {od_check_number_x an_check_number_x : Option Addr} {sl_check_number_x : Array (Option Value)}
    (a_check_number_x : PySem.W.nsIn K mainGlobals "check_number" = some (some (.ref f_check_number_x))) (l_check_number_x : K.lookup f_check_number_x = some ⟨oc_check_number_x, od_check_number_x, .func (PySem.W.fnOf "check_number" "check_number" (defArgs s_check_number_x) (defBody s_check_number_x) (defScope s_check_number_x) .none kV_check_number_x dc_check_number_x pm_check_number_x an_check_number_x cd_check_number_x ct_check_number_x), sl_check_number_x⟩) (e_check_number_x : PySem.W.codeIn K cd_check_number_x "check_number" = true) (k_check_number_x : PySem.W.keepIn K (.ref f_check_number_x) = true)
    {f_heart_numbered_x : Addr} {oc_heart_numbered_x kV_heart_numbered_x dc_heart_numbered_x pm_heart_numbered_x cd_heart_numbered_x ct_heart_numbered_x : Value} {od_heart_numbered_x an_heart_numbered_x : Option Addr} {sl_heart_numbered_x : Array (Option Value)}
    (a_heart_numbered_x : PySem.W.nsIn K mainGlobals "heart_numbered" = some (some (.ref f_heart_numbered_x))) (l_heart_numbered_x : K.lookup f_heart_numbered_x = some ⟨oc_heart_numbered_x, od_heart_numbered_x, .func (PySem.W.fnOf "heart_numbered" "heart_numbered" (defArgs s_heart_numbered_x) (defBody s_heart_numbered_x) (defScope s_heart_numbered_x) .none kV_heart_numbered_x dc_heart_numbered_x pm_heart_numbered_x an_heart_numbered_x cd_heart_numbered_x ct_heart_numbered_x), sl_heart_numbered_x⟩) (e_heart_numbered_x : PySem.W.codeIn K cd_heart_numbered_x "heart_numbered" = true) (k_heart_numbered_x : PySem.W.keepIn K (.ref f_heart_numbered_x) = true)
    {f_check_two_x : Addr} {oc_check_two_x kV_check_two_x dc_check_two_x pm_check_two_x cd_check_two_x ct_check_two_x : Value} {od_check_two_x an_check_two_x : Option Addr} {sl_check_two_x : Array (Option Value)}
    (a_check_two_x : PySem.W.nsIn K mainGlobals "check_two" = some (some (.ref f_check_two_x))) (l_check_two_x : K.lookup f_check_two_x = some ⟨oc_check_two_x, od_check_two_x, .func (PySem.W.fnOf "check_two" "check_two" (defArgs s_check_two_x) (defBody s_check_two_x) (defScope s_check_two_x) .none kV_check_two_x dc_check_two_x pm_check_two_x an_check_two_x cd_check_two_x ct_check_two_x), sl_check_two_x⟩) (e_check_two_x : PySem.W.codeIn K cd_check_two_x "check_two" = true) (k_check_two_x : PySem.W.keepIn K (.ref f_check_two_x) = true)
    {f_parted_by : Addr} {oc_parted_by kV_parted_by dc_parted_by pm_parted_by cd_parted_by ct_parted_by : Value} {od_parted_by an_parted_by : Option Addr} {sl_parted_by : Array (Option Value)}
    (a_parted_by : PySem.W.nsIn K mainGlobals "parted_by" = some (some (.ref f_parted_by))) (l_parted_by : K.lookup f_parted_by = some ⟨oc_parted_by, od_parted_by, .func (PySem.W.fnOf "parted_by" "parted_by" (defArgs s_parted_by) (defBody s_parted_by) (defScope s_parted_by) .none kV_parted_by dc_parted_by pm_parted_by an_parted_by cd_parted_by ct_parted_by), sl_parted_by⟩) (e_parted_by : PySem.W.codeIn K cd_parted_by "parted_by" = true) (k_parted_by : PySem.W.keepIn K (.ref f_parted_by) = true)
    {f_searched_by_n : Addr} {oc_searched_by_n kV_searched_by_n dc_searched_by_n pm_searched_by_n cd_searched_by_n ct_searched_by_n : Value} {od_searched_by_n an_searched_by_n : Option Addr} {sl_searched_by_n : Array (Option Value)}
    (a_searched_by_n : PySem.W.nsIn K mainGlobals "searched_by" = some (some (.ref f_searched_by_n))) (l_searched_by_n : K.lookup f_searched_by_n = some ⟨oc_searched_by_n, od_searched_by_n, .func (PySem.W.fnOf "searched_by" "searched_by" (defArgs s_searched_by_n) (defBody s_searched_by_n) (defScope s_searched_by_n) .none kV_searched_by_n dc_searched_by_n pm_searched_by_n an_searched_by_n cd_searched_by_n ct_searched_by_n), sl_searched_by_n⟩) (e_searched_by_n : PySem.W.codeIn K cd_searched_by_n "searched_by" = true) (k_searched_by_n : PySem.W.keepIn K (.ref f_searched_by_n) = true)
    {f_line_down_n : Addr} {oc_line_down_n kV_line_down_n dc_line_down_n pm_line_down_n cd_line_down_n ct_line_down_n : Value} {od_line_down_n an_line_down_n : Option Addr} {sl_line_down_n : Array (Option Value)}
    (a_line_down_n : PySem.W.nsIn K mainGlobals "line_down" = some (some (.ref f_line_down_n))) (l_line_down_n : K.lookup f_line_down_n = some ⟨oc_line_down_n, od_line_down_n, .func (PySem.W.fnOf "line_down" "line_down" (defArgs s_line_down_n) (defBody s_line_down_n) (defScope s_line_down_n) .none kV_line_down_n dc_line_down_n pm_line_down_n an_line_down_n cd_line_down_n ct_line_down_n), sl_line_down_n⟩) (e_line_down_n : PySem.W.codeIn K cd_line_down_n "line_down" = true) (k_line_down_n : PySem.W.keepIn K (.ref f_line_down_n) = true)
    {f_between_by_n : Addr} {oc_between_by_n kV_between_by_n dc_between_by_n pm_between_by_n cd_between_by_n ct_between_by_n : Value} {od_between_by_n an_between_by_n : Option Addr} {sl_between_by_n : Array (Option Value)}
    (a_between_by_n : PySem.W.nsIn K mainGlobals "between_by" = some (some (.ref f_between_by_n))) (l_between_by_n : K.lookup f_between_by_n = some ⟨oc_between_by_n, od_between_by_n, .func (PySem.W.fnOf "between_by" "between_by" (defArgs s_between_by_n) (defBody s_between_by_n) (defScope s_between_by_n) .none kV_between_by_n dc_between_by_n pm_between_by_n an_between_by_n cd_between_by_n ct_between_by_n), sl_between_by_n⟩) (e_between_by_n : PySem.W.codeIn K cd_between_by_n "between_by" = true) (k_between_by_n : PySem.W.keepIn K (.ref f_between_by_n) = true)
    {f_numbers_by : Addr} {oc_numbers_by kV_numbers_by dc_numbers_by pm_numbers_by cd_numbers_by ct_numbers_by : Value} {od_numbers_by an_numbers_by : Option Addr} {sl_numbers_by : Array (Option Value)}
    (a_numbers_by : PySem.W.nsIn K mainGlobals "numbers_by" = some (some (.ref f_numbers_by))) (l_numbers_by : K.lookup f_numbers_by = some ⟨oc_numbers_by, od_numbers_by, .func (PySem.W.fnOf "numbers_by" "numbers_by" (defArgs s_numbers_by) (defBody s_numbers_by) (defScope s_numbers_by) .none kV_numbers_by dc_numbers_by pm_numbers_by an_numbers_by cd_numbers_by ct_numbers_by), sl_numbers_by⟩) (e_numbers_by : PySem.W.codeIn K cd_numbers_by "numbers_by" = true) (k_numbers_by : PySem.W.keepIn K (.ref f_numbers_by) = true)
    {f_walked_by_n : Addr} {oc_walked_by_n kV_walked_by_n dc_walked_by_n pm_walked_by_n cd_walked_by_n ct_walked_by_n : Value} {od_walked_by_n an_walked_by_n : Option Addr} {sl_walked_by_n : Array (Option Value)}
    (a_walked_by_n : PySem.W.nsIn K mainGlobals "walked_by" = some (some (.ref f_walked_by_n))) (l_walked_by_n : K.lookup f_walked_by_n = some ⟨oc_walked_by_n, od_walked_by_n, .func (PySem.W.fnOf "walked_by" "walked_by" (defArgs s_walked_by_n) (defBody s_walked_by_n) (defScope s_walked_by_n) .none kV_walked_by_n dc_walked_by_n pm_walked_by_n an_walked_by_n cd_walked_by_n ct_walked_by_n), sl_walked_by_n⟩) (e_walked_by_n : PySem.W.codeIn K cd_walked_by_n "walked_by" = true) (k_walked_by_n : PySem.W.keepIn K (.ref f_walked_by_n) = true)
    {f_step_deed_by : Addr} {oc_step_deed_by kV_step_deed_by dc_step_deed_by pm_step_deed_by cd_step_deed_by ct_step_deed_by : Value} {od_step_deed_by an_step_deed_by : Option Addr} {sl_step_deed_by : Array (Option Value)}
    (a_step_deed_by : PySem.W.nsIn K mainGlobals "step_deed_by" = some (some (.ref f_step_deed_by))) (l_step_deed_by : K.lookup f_step_deed_by = some ⟨oc_step_deed_by, od_step_deed_by, .func (PySem.W.fnOf "step_deed_by" "step_deed_by" (defArgs s_step_deed_by) (defBody s_step_deed_by) (defScope s_step_deed_by) .none kV_step_deed_by dc_step_deed_by pm_step_deed_by an_step_deed_by cd_step_deed_by ct_step_deed_by), sl_step_deed_by⟩) (e_step_deed_by : PySem.W.codeIn K cd_step_deed_by "step_deed_by" = true) (k_step_deed_by : PySem.W.keepIn K (.ref f_step_deed_by) = true)
    {f_round_of : Addr} {oc_round_of kV_round_of dc_round_of pm_round_of cd_round_of ct_round_of : Value} {od_round_of an_round_of : Option Addr} {sl_round_of : Array (Option Value)}
    (a_round_of : PySem.W.nsIn K mainGlobals "round_of" = some (some (.ref f_round_of))) (l_round_of : K.lookup f_round_of = some ⟨oc_round_of, od_round_of, .func (PySem.W.fnOf "round_of" "round_of" (defArgs s_round_of) (defBody s_round_of) (defScope s_round_of) .none kV_round_of dc_round_of pm_round_of an_round_of cd_round_of ct_round_of), sl_round_of⟩) (e_round_of : PySem.W.codeIn K cd_round_of "round_of" = true) (k_round_of : PySem.W.keepIn K (.ref f_round_of) = true)
    {f_back_by : Addr} {oc_back_by kV_back_by dc_back_by pm_back_by cd_back_by ct_back_by : Value} {od_back_by an_back_by : Option Addr} {sl_back_by : Array (Option Value)}
    (a_back_by : PySem.W.nsIn K mainGlobals "back_by" = some (some (.ref f_back_by))) (l_back_by : K.lookup f_back_by = some ⟨oc_back_by, od_back_by, .func (PySem.W.fnOf "back_by" "back_by" (defArgs s_back_by) (defBody s_back_by) (defScope s_back_by) .none kV_back_by dc_back_by pm_back_by an_back_by cd_back_by ct_back_by), sl_back_by⟩) (e_back_by : PySem.W.codeIn K cd_back_by "back_by" = true) (k_back_by : PySem.W.keepIn K (.ref f_back_by) = true)
    {f_turned_by : Addr} {oc_turned_by kV_turned_by dc_turned_by pm_turned_by cd_turned_by ct_turned_by : Value} {od_turned_by an_turned_by : Option Addr} {sl_turned_by : Array (Option Value)}
    (a_turned_by : PySem.W.nsIn K mainGlobals "turned_by" = some (some (.ref f_turned_by))) (l_turned_by : K.lookup f_turned_by = some ⟨oc_turned_by, od_turned_by, .func (PySem.W.fnOf "turned_by" "turned_by" (defArgs s_turned_by) (defBody s_turned_by) (defScope s_turned_by) .none kV_turned_by dc_turned_by pm_turned_by an_turned_by cd_turned_by ct_turned_by), sl_turned_by⟩) (e_turned_by : PySem.W.codeIn K cd_turned_by "turned_by" = true) (k_turned_by : PySem.W.keepIn K (.ref f_turned_by) = true)
    {f_road_by : Addr} {oc_road_by kV_road_by dc_road_by pm_road_by cd_road_by ct_road_by : Value} {od_road_by an_road_by : Option Addr} {sl_road_by : Array (Option Value)}
    (a_road_by : PySem.W.nsIn K mainGlobals "road_by" = some (some (.ref f_road_by))) (l_road_by : K.lookup f_road_by = some ⟨oc_road_by, od_road_by, .func (PySem.W.fnOf "road_by" "road_by" (defArgs s_road_by) (defBody s_road_by) (defScope s_road_by) .none kV_road_by dc_road_by pm_road_by an_road_by cd_road_by ct_road_by), sl_road_by⟩) (e_road_by : PySem.W.codeIn K cd_road_by "road_by" = true) (k_road_by : PySem.W.keepIn K (.ref f_road_by) = true)
    {f_road_x : Addr} {oc_road_x kV_road_x dc_road_x pm_road_x cd_road_x ct_road_x : Value} {od_road_x an_road_x : Option Addr} {sl_road_x : Array (Option Value)}
    (a_road_x : PySem.W.nsIn K mainGlobals "road" = some (some (.ref f_road_x))) (l_road_x : K.lookup f_road_x = some ⟨oc_road_x, od_road_x, .func (PySem.W.fnOf "road" "road" (defArgs s_road_x) (defBody s_road_x) (defScope s_road_x) .none kV_road_x dc_road_x pm_road_x an_road_x cd_road_x ct_road_x), sl_road_x⟩) (e_road_x : PySem.W.codeIn K cd_road_x "road" = true) (k_road_x : PySem.W.keepIn K (.ref f_road_x) = true)
    {f_allowed_by : Addr} {oc_allowed_by kV_allowed_by dc_allowed_by pm_allowed_by cd_allowed_by ct_allowed_by : Value} {od_allowed_by an_allowed_by : Option Addr} {sl_allowed_by : Array (Option Value)}
    (a_allowed_by : PySem.W.nsIn K mainGlobals "allowed_by" = some (some (.ref f_allowed_by))) (l_allowed_by : K.lookup f_allowed_by = some ⟨oc_allowed_by, od_allowed_by, .func (PySem.W.fnOf "allowed_by" "allowed_by" (defArgs s_allowed_by) (defBody s_allowed_by) (defScope s_allowed_by) .none kV_allowed_by dc_allowed_by pm_allowed_by an_allowed_by cd_allowed_by ct_allowed_by), sl_allowed_by⟩) (e_allowed_by : PySem.W.codeIn K cd_allowed_by "allowed_by" = true) (k_allowed_by : PySem.W.keepIn K (.ref f_allowed_by) = true)
    {f_is_deed_by : Addr} {oc_is_deed_by kV_is_deed_by dc_is_deed_by pm_is_deed_by cd_is_deed_by ct_is_deed_by : Value} {od_is_deed_by an_is_deed_by : Option Addr} {sl_is_deed_by : Array (Option Value)}
    (a_is_deed_by : PySem.W.nsIn K mainGlobals "is_deed_by" = some (some (.ref f_is_deed_by))) (l_is_deed_by : K.lookup f_is_deed_by = some ⟨oc_is_deed_by, od_is_deed_by, .func (PySem.W.fnOf "is_deed_by" "is_deed_by" (defArgs s_is_deed_by) (defBody s_is_deed_by) (defScope s_is_deed_by) .none kV_is_deed_by dc_is_deed_by pm_is_deed_by an_is_deed_by cd_is_deed_by ct_is_deed_by), sl_is_deed_by⟩) (e_is_deed_by : PySem.W.codeIn K cd_is_deed_by "is_deed_by" = true) (k_is_deed_by : PySem.W.keepIn K (.ref f_is_deed_by) = true)
    {f_is_road_by : Addr} {oc_is_road_by kV_is_road_by dc_is_road_by pm_is_road_by cd_is_road_by ct_is_road_by : Value} {od_is_road_by an_is_road_by : Option Addr} {sl_is_road_by : Array (Option Value)}
    (a_is_road_by : PySem.W.nsIn K mainGlobals "is_road_by" = some (some (.ref f_is_road_by))) (l_is_road_by : K.lookup f_is_road_by = some ⟨oc_is_road_by, od_is_road_by, .func (PySem.W.fnOf "is_road_by" "is_road_by" (defArgs s_is_road_by) (defBody s_is_road_by) (defScope s_is_road_by) .none kV_is_road_by dc_is_road_by pm_is_road_by an_is_road_by cd_is_road_by ct_is_road_by), sl_is_road_by⟩) (e_is_road_by : PySem.W.codeIn K cd_is_road_by "is_road_by" = true) (k_is_road_by : PySem.W.keepIn K (.ref f_is_road_by) = true)
    {f_is_road_x : Addr} {oc_is_road_x kV_is_road_x dc_is_road_x pm_is_road_x cd_is_road_x ct_is_road_x : Value} {od_is_road_x an_is_road_x : Option Addr} {sl_is_road_x : Array (Option Value)}
    (a_is_road_x : PySem.W.nsIn K mainGlobals "is_road" = some (some (.ref f_is_road_x))) (l_is_road_x : K.lookup f_is_road_x = some ⟨oc_is_road_x, od_is_road_x, .func (PySem.W.fnOf "is_road" "is_road" (defArgs s_is_road_x) (defBody s_is_road_x) (defScope s_is_road_x) .none kV_is_road_x dc_is_road_x pm_is_road_x an_is_road_x cd_is_road_x ct_is_road_x), sl_is_road_x⟩) (e_is_road_x : PySem.W.codeIn K cd_is_road_x "is_road" = true) (k_is_road_x : PySem.W.keepIn K (.ref f_is_road_x) = true)
    {f_l_asked_0403_x : Addr} {oc_l_asked_0403_x kV_l_asked_0403_x dc_l_asked_0403_x pm_l_asked_0403_x cd_l_asked_0403_x ct_l_asked_0403_x : Value} {od_l_asked_0403_x an_l_asked_0403_x : Option Addr} {sl_l_asked_0403_x : Array (Option Value)}
    (a_l_asked_0403_x : PySem.W.nsIn K mainGlobals "_law_asked" = some (some (.ref f_l_asked_0403_x))) (l_l_asked_0403_x : K.lookup f_l_asked_0403_x = some ⟨oc_l_asked_0403_x, od_l_asked_0403_x, .func (PySem.W.fnOf "_law_asked" "_law_asked" (defArgs s_l_asked_0403_x) (defBody s_l_asked_0403_x) (defScope s_l_asked_0403_x) .none kV_l_asked_0403_x dc_l_asked_0403_x pm_l_asked_0403_x an_l_asked_0403_x cd_l_asked_0403_x ct_l_asked_0403_x), sl_l_asked_0403_x⟩) (e_l_asked_0403_x : PySem.W.codeIn K cd_l_asked_0403_x "_law_asked" = true) (k_l_asked_0403_x : PySem.W.keepIn K (.ref f_l_asked_0403_x) = true)
    {f_l_told_db71 : Addr} {oc_l_told_db71 kV_l_told_db71 dc_l_told_db71 pm_l_told_db71 cd_l_told_db71 ct_l_told_db71 : Value} {od_l_told_db71 an_l_told_db71 : Option Addr} {sl_l_told_db71 : Array (Option Value)}
    (a_l_told_db71 : PySem.W.nsIn K mainGlobals "_law_told" = some (some (.ref f_l_told_db71))) (l_l_told_db71 : K.lookup f_l_told_db71 = some ⟨oc_l_told_db71, od_l_told_db71, .func (PySem.W.fnOf "_law_told" "_law_told" (defArgs s_l_told_db71) (defBody s_l_told_db71) (defScope s_l_told_db71) .none kV_l_told_db71 dc_l_told_db71 pm_l_told_db71 an_l_told_db71 cd_l_told_db71 ct_l_told_db71), sl_l_told_db71⟩) (e_l_told_db71 : PySem.W.codeIn K cd_l_told_db71 "_law_told" = true) (k_l_told_db71 : PySem.W.keepIn K (.ref f_l_told_db71) = true)
    {f_l_all_refused_8142 : Addr} {oc_l_all_refused_8142 kV_l_all_refused_8142 dc_l_all_refused_8142 pm_l_all_refused_8142 cd_l_all_refused_8142 ct_l_all_refused_8142 : Value} {od_l_all_refused_8142 an_l_all_refused_8142 : Option Addr} {sl_l_all_refused_8142 : Array (Option Value)}
    (a_l_all_refused_8142 : PySem.W.nsIn K mainGlobals "_law_all_refused" = some (some (.ref f_l_all_refused_8142))) (l_l_all_refused_8142 : K.lookup f_l_all_refused_8142 = some ⟨oc_l_all_refused_8142, od_l_all_refused_8142, .func (PySem.W.fnOf "_law_all_refused" "_law_all_refused" (defArgs s_l_all_refused_8142) (defBody s_l_all_refused_8142) (defScope s_l_all_refused_8142) .none kV_l_all_refused_8142 dc_l_all_refused_8142 pm_l_all_refused_8142 an_l_all_refused_8142 cd_l_all_refused_8142 ct_l_all_refused_8142), sl_l_all_refused_8142⟩) (e_l_all_refused_8142 : PySem.W.codeIn K cd_l_all_refused_8142 "_law_all_refused" = true) (k_l_all_refused_8142 : PySem.W.keepIn K (.ref f_l_all_refused_8142) = true)
    {f_l_wrong_cuttings_2ff2 : Addr} {oc_l_wrong_cuttings_2ff2 kV_l_wrong_cuttings_2ff2 dc_l_wrong_cuttings_2ff2 pm_l_wrong_cuttings_2ff2 cd_l_wrong_cuttings_2ff2 ct_l_wrong_cuttings_2ff2 : Value} {od_l_wrong_cuttings_2ff2 an_l_wrong_cuttings_2ff2 : Option Addr} {sl_l_wrong_cuttings_2ff2 : Array (Option Value)}
    (a_l_wrong_cuttings_2ff2 : PySem.W.nsIn K mainGlobals "_law_wrong_cuttings" = some (some (.ref f_l_wrong_cuttings_2ff2))) (l_l_wrong_cuttings_2ff2 : K.lookup f_l_wrong_cuttings_2ff2 = some ⟨oc_l_wrong_cuttings_2ff2, od_l_wrong_cuttings_2ff2, .func (PySem.W.fnOf "_law_wrong_cuttings" "_law_wrong_cuttings" (defArgs s_l_wrong_cuttings_2ff2) (defBody s_l_wrong_cuttings_2ff2) (defScope s_l_wrong_cuttings_2ff2) .none kV_l_wrong_cuttings_2ff2 dc_l_wrong_cuttings_2ff2 pm_l_wrong_cuttings_2ff2 an_l_wrong_cuttings_2ff2 cd_l_wrong_cuttings_2ff2 ct_l_wrong_cuttings_2ff2), sl_l_wrong_cuttings_2ff2⟩) (e_l_wrong_cuttings_2ff2 : PySem.W.codeIn K cd_l_wrong_cuttings_2ff2 "_law_wrong_cuttings" = true) (k_l_wrong_cuttings_2ff2 : PySem.W.keepIn K (.ref f_l_wrong_cuttings_2ff2) = true)
    {f_l_law_a8bd : Addr} {oc_l_law_a8bd kV_l_law_a8bd dc_l_law_a8bd pm_l_law_a8bd cd_l_law_a8bd ct_l_law_a8bd : Value} {od_l_law_a8bd an_l_law_a8bd : Option Addr} {sl_l_law_a8bd : Array (Option Value)}
    (a_l_law_a8bd : PySem.W.nsIn K mainGlobals "law" = some (some (.ref f_l_law_a8bd))) (l_l_law_a8bd : K.lookup f_l_law_a8bd = some ⟨oc_l_law_a8bd, od_l_law_a8bd, .func (PySem.W.fnOf "law" "law" (defArgs s_l_law_a8bd) (defBody s_l_law_a8bd) (defScope s_l_law_a8bd) .none kV_l_law_a8bd dc_l_law_a8bd pm_l_law_a8bd an_l_law_a8bd cd_l_law_a8bd ct_l_law_a8bd), sl_l_law_a8bd⟩) (e_l_law_a8bd : PySem.W.codeIn K cd_l_law_a8bd "law" = true) (k_l_law_a8bd : PySem.W.keepIn K (.ref f_l_law_a8bd) = true)
    (base : Heap) (Xb : K.In base) : Txt PySem.Challenge.pw_slitsheets_k33_hearts_and_roads_refused K mg base where
  s_SheetError := ⟨_, XA.shC_mk ns_S lk_S, PySem.W.mg_of X G ns_S⟩
  e_InvalidMeasure := XA.erM_mk X G (XA.shC_mk ns_S lk_S) it_InvalidMeasure (by decide) ns_InvalidMeasure lk_InvalidMeasure sa_InvalidMeasure ga_InvalidMeasure gg_InvalidMeasure nv_InvalidMeasure kp_InvalidMeasure hc_InvalidMeasure gs_S tk_S iC_InvalidMeasure (XA.sup_of lk_InvalidMeasure sp_InvalidMeasure) any_S msup_S lf_InvalidMeasure cd_InvalidMeasure lc_InvalidMeasure lt_InvalidMeasure lv_InvalidMeasure hv_InvalidMeasure hf_InvalidMeasure (by decide +kernel)
  e_InvalidNumber := XA.erM_mk X G (XA.shC_mk ns_S lk_S) it_InvalidNumber (by decide) ns_InvalidNumber lk_InvalidNumber sa_InvalidNumber ga_InvalidNumber gg_InvalidNumber nv_InvalidNumber kp_InvalidNumber hc_InvalidNumber gs_S tk_S iC_InvalidNumber (XA.sup_of lk_InvalidNumber sp_InvalidNumber) any_S msup_S lf_InvalidNumber cd_InvalidNumber lc_InvalidNumber lt_InvalidNumber lv_InvalidNumber hv_InvalidNumber hf_InvalidNumber (by decide +kernel)
  e_InvalidCutting := XA.erM_mk X G (XA.shC_mk ns_S lk_S) it_InvalidCutting (by decide) ns_InvalidCutting lk_InvalidCutting sa_InvalidCutting ga_InvalidCutting gg_InvalidCutting nv_InvalidCutting kp_InvalidCutting hc_InvalidCutting gs_S tk_S iC_InvalidCutting (XA.sup_of lk_InvalidCutting sp_InvalidCutting) any_S msup_S lf_InvalidCutting cd_InvalidCutting lc_InvalidCutting lt_InvalidCutting lv_InvalidCutting hv_InvalidCutting hf_InvalidCutting (by decide +kernel)
  e_Unlike := XA.erM_mk X G (XA.shC_mk ns_S lk_S) it_Unlike (by decide) ns_Unlike lk_Unlike sa_Unlike ga_Unlike gg_Unlike nv_Unlike kp_Unlike hc_Unlike gs_S tk_S iC_Unlike (XA.sup_of lk_Unlike sp_Unlike) any_S msup_S lf_Unlike cd_Unlike lc_Unlike lt_Unlike lv_Unlike hv_Unlike hf_Unlike (by decide +kernel)
  e_TooMany := XA.erM_mk X G (XA.shC_mk ns_S lk_S) it_TooMany (by decide) ns_TooMany lk_TooMany sa_TooMany ga_TooMany gg_TooMany nv_TooMany kp_TooMany hc_TooMany gs_S tk_S iC_TooMany (XA.sup_of lk_TooMany sp_TooMany) any_S msup_S lf_TooMany cd_TooMany lc_TooMany lt_TooMany lv_TooMany hv_TooMany hf_TooMany (by decide +kernel)
  v_heart_distance := ⟨_, vn_heart_distance, PySem.W.mg_of X G vn_heart_distance⟩
  v_heart_lots := ⟨_, vn_heart_lots, PySem.W.mg_of X G vn_heart_lots⟩
  v_heart_number := ⟨_, vn_heart_number, PySem.W.mg_of X G vn_heart_number⟩
  v_heart_numbered := ⟨_, vn_heart_numbered, PySem.W.mg_of X G vn_heart_numbered⟩
  v_heart_steps := ⟨_, vn_heart_steps, PySem.W.mg_of X G vn_heart_steps⟩
  v_how_many_heart := ⟨_, vn_how_many_heart, PySem.W.mg_of X G vn_how_many_heart⟩
  v_road := ⟨_, vn_road, PySem.W.mg_of X G vn_road⟩
  v_word_to_heart := ⟨_, vn_word_to_heart, PySem.W.mg_of X G vn_word_to_heart⟩
  n_ValueError := PySem.W.mg_none_of X G n_ValueError
  n_abs := PySem.W.mg_none_of X G n_abs
  n_bool := PySem.W.mg_none_of X G n_bool
  n_int := PySem.W.mg_none_of X G n_int
  n_isinstance := PySem.W.mg_none_of X G n_isinstance
  n_len := PySem.W.mg_none_of X G n_len
  n_list := PySem.W.mg_none_of X G n_list
  n_max := PySem.W.mg_none_of X G n_max
  n_range := PySem.W.mg_none_of X G n_range
  n_repr := PySem.W.mg_none_of X G n_repr
  n_sorted := PySem.W.mg_none_of X G n_sorted
  n_sum := PySem.W.mg_none_of X G n_sum
  n_tuple := PySem.W.mg_none_of X G n_tuple
  g_gcd := PySem.W.mg_of X G g_gcd
  c_LEAST := ⟨_, PySem.W.mg_of X G c_LEAST⟩
  c_MOST_LISTED := ⟨_, PySem.W.mg_of X G c_MOST_LISTED⟩
  c_MOST_SEARCHED := ⟨_, PySem.W.mg_of X G c_MOST_SEARCHED⟩
  c_MOST_SIGNS := ⟨_, PySem.W.mg_of X G c_MOST_SIGNS⟩
  h_l_cell_cf3b := here_of (st := s_l_cell_cf3b) X G a_l_cell_cf3b l_l_cell_cf3b e_l_cell_cf3b k_l_cell_cf3b fun _ _ _ _ _ _ us hl => match us, hl with | [_, _], _ => rfl
  h_l_generator_b324 := here_of (st := s_l_generator_b324) X G a_l_generator_b324 l_l_generator_b324 e_l_generator_b324 k_l_generator_b324 fun _ _ _ _ _ _ us hl => match us, hl with | [_, _], _ => rfl
  h_l_hash_9cde := here_of (st := s_l_hash_9cde) X G a_l_hash_9cde l_l_hash_9cde e_l_hash_9cde k_l_hash_9cde fun _ _ _ _ _ _ us hl => match us, hl with | [_, _], _ => rfl
  h_l_random_7821 := here_of (st := s_l_random_7821) X G a_l_random_7821 l_l_random_7821 e_l_random_7821 k_l_random_7821 fun _ _ _ _ _ _ us hl => match us, hl with | [_, _], _ => rfl
  h_l_common_6be5 := here_of (st := s_l_common_6be5) X G a_l_common_6be5 l_l_common_6be5 e_l_common_6be5 k_l_common_6be5 fun _ _ _ _ _ _ us hl => match us, hl with | [_, _], _ => rfl
  h_l_measured_5aba := here_of (st := s_l_measured_5aba) X G a_l_measured_5aba l_l_measured_5aba e_l_measured_5aba k_l_measured_5aba fun _ _ _ _ _ _ us hl => match us, hl with | [_], _ => rfl
  h_l_is_cutting_9b45 := here_of (st := s_l_is_cutting_9b45) X G a_l_is_cutting_9b45 l_l_is_cutting_9b45 e_l_is_cutting_9b45 k_l_is_cutting_9b45 fun _ _ _ _ _ _ us hl => match us, hl with | [_], _ => rfl
  h_l_great_5836 := here_of (st := s_l_great_5836) X G a_l_great_5836 l_l_great_5836 e_l_great_5836 k_l_great_5836 fun _ _ _ _ _ _ us hl => match us, hl with | [_, _], _ => rfl
  h_is_whole := here_of (st := s_is_whole) X G a_is_whole l_is_whole e_is_whole k_is_whole fun _ _ _ _ _ _ us hl => match us, hl with | [_], _ => rfl
  h_is_between := here_of (st := s_is_between) X G a_is_between l_is_between e_is_between k_is_between fun _ _ _ _ _ _ us hl => match us, hl with | [_, _, _], _ => rfl
  h_is_measure_by := here_of (st := s_is_measure_by) X G a_is_measure_by l_is_measure_by e_is_measure_by k_is_measure_by fun _ _ _ _ _ _ us hl => match us, hl with | [_], _ => rfl
  h_check_measure_x := here_of (st := s_check_measure_x) X G a_check_measure_x l_check_measure_x e_check_measure_x k_check_measure_x fun _ _ _ _ _ _ us hl => match us, hl with | [_], _ => rfl
  h_root_floor_by := here_of (st := s_root_floor_by) X G a_root_floor_by l_root_floor_by e_root_floor_by k_root_floor_by fun _ _ _ _ _ _ us hl => match us, hl with | [_], _ => rfl
  h_bounds_by := here_of (st := s_bounds_by) X G a_bounds_by l_bounds_by e_bounds_by k_bounds_by fun _ _ _ _ _ _ us hl => match us, hl with | [_], _ => rfl
  h_how_many_heart_x := here_of (st := s_how_many_heart_x) X G a_how_many_heart_x l_how_many_heart_x e_how_many_heart_x k_how_many_heart_x fun _ _ _ _ _ _ us hl => match us, hl with | [_], _ => rfl
  h_common_by := here_of (st := s_common_by) X G a_common_by l_common_by e_common_by k_common_by fun _ _ _ _ _ _ us hl => match us, hl with | [_, _], _ => rfl
  h_is_step_by := here_of (st := s_is_step_by) X G a_is_step_by l_is_step_by e_is_step_by k_is_step_by fun _ _ _ _ _ _ us hl => match us, hl with | [_, _, _], _ => rfl
  h_lots_by := here_of (st := s_lots_by) X G a_lots_by l_lots_by e_lots_by k_lots_by fun _ _ _ _ _ _ us hl => match us, hl with | [_], _ => rfl
  h_heart_by := here_of (st := s_heart_by) X G a_heart_by l_heart_by e_heart_by k_heart_by fun _ _ _ _ _ _ us hl => match us, hl with | [_, _], _ => rfl
  h_heart_lots_x := here_of (st := s_heart_lots_x) X G a_heart_lots_x l_heart_lots_x e_heart_lots_x k_heart_lots_x fun _ _ _ _ _ _ us hl => match us, hl with | [_], _ => rfl
  h_is_cutting_by := here_of (st := s_is_cutting_by) X G a_is_cutting_by l_is_cutting_by e_is_cutting_by k_is_cutting_by fun _ _ _ _ _ _ us hl => match us, hl with | [_], _ => rfl
  h_is_heart := here_of (st := s_is_heart) X G a_is_heart l_is_heart e_is_heart k_is_heart fun _ _ _ _ _ _ us hl => match us, hl with | [_], _ => rfl
  h_measure_by := here_of (st := s_measure_by) X G a_measure_by l_measure_by e_measure_by k_measure_by fun _ _ _ _ _ _ us hl => match us, hl with | [_], _ => rfl
  h_heart_number_x := here_of (st := s_heart_number_x) X G a_heart_number_x l_heart_number_x e_heart_number_x k_heart_number_x fun _ _ _ _ _ _ us hl => match us, hl with | [_], _ => rfl
  h_heart_steps_x := here_of (st := s_heart_steps_x) X G a_heart_steps_x l_heart_steps_x e_heart_steps_x k_heart_steps_x fun _ _ _ _ _ _ us hl => match us, hl with | [_], _ => rfl
  h_check_cutting_x := here_of (st := s_check_cutting_x) X G a_check_cutting_x l_check_cutting_x e_check_cutting_x k_check_cutting_x fun _ _ _ _ _ _ us hl => match us, hl with | [_], _ => rfl
  h_far_by := here_of (st := s_far_by) X G a_far_by l_far_by e_far_by k_far_by fun _ _ _ _ _ _ us hl => match us, hl with | [_], _ => rfl
  h_heart_distance_x := here_of (st := s_heart_distance_x) X G a_heart_distance_x l_heart_distance_x e_heart_distance_x k_heart_distance_x fun _ _ _ _ _ _ us hl => match us, hl with | [_], _ => rfl
  h_shared := here_of (st := s_shared) X G a_shared l_shared e_shared k_shared fun _ _ _ _ _ _ us hl => match us, hl with | [_, _], _ => rfl
  h_opposite_by := here_of (st := s_opposite_by) X G a_opposite_by l_opposite_by e_opposite_by k_opposite_by fun _ _ _ _ _ _ us hl => match us, hl with | [_, _], _ => rfl
  h_beside := here_of (st := s_beside) X G a_beside l_beside e_beside k_beside fun _ _ _ _ _ _ us hl => match us, hl with | [_], _ => rfl
  h_table_by := here_of (st := s_table_by) X G a_table_by l_table_by e_table_by k_table_by fun _ _ _ _ _ _ us hl => match us, hl with | [_, _], _ => rfl
  h_full_by := here_of (st := s_full_by) X G a_full_by l_full_by e_full_by k_full_by fun _ _ _ _ _ _ us hl => match us, hl with | [_, _], _ => rfl
  h_done_by := here_of (st := s_done_by) X G a_done_by l_done_by e_done_by k_done_by fun _ _ _ _ _ _ us hl => match us, hl with | [_, _], _ => rfl
  h_nearer_by := here_of (st := s_nearer_by) X G a_nearer_by l_nearer_by e_nearer_by k_nearer_by fun _ _ _ _ _ _ us hl => match us, hl with | [_], _ => rfl
  h_to_heart_by := here_of (st := s_to_heart_by) X G a_to_heart_by l_to_heart_by e_to_heart_by k_to_heart_by fun _ _ _ _ _ _ us hl => match us, hl with | [_], _ => rfl
  h_word_to_heart_x := here_of (st := s_word_to_heart_x) X G a_word_to_heart_x l_word_to_heart_x e_word_to_heart_x k_word_to_heart_x fun _ _ _ _ _ _ us hl => match us, hl with | [_], _ => rfl
  h_check_number_x := here_of (st := s_check_number_x) X G a_check_number_x l_check_number_x e_check_number_x k_check_number_x fun _ _ _ _ _ _ us hl => match us, hl with | [_, _, _], _ => rfl
  h_heart_numbered_x := here_of (st := s_heart_numbered_x) X G a_heart_numbered_x l_heart_numbered_x e_heart_numbered_x k_heart_numbered_x fun _ _ _ _ _ _ us hl => match us, hl with | [_, _], _ => rfl
  h_check_two_x := here_of (st := s_check_two_x) X G a_check_two_x l_check_two_x e_check_two_x k_check_two_x fun _ _ _ _ _ _ us hl => match us, hl with | [_, _], _ => rfl
  h_parted_by := here_of (st := s_parted_by) X G a_parted_by l_parted_by e_parted_by k_parted_by fun _ _ _ _ _ _ us hl => match us, hl with | [_, _], _ => rfl
  h_searched_by_n := here_of (st := s_searched_by_n) X G a_searched_by_n l_searched_by_n e_searched_by_n k_searched_by_n fun _ _ _ _ _ _ us hl => match us, hl with | [_, _], _ => rfl
  h_line_down_n := here_of (st := s_line_down_n) X G a_line_down_n l_line_down_n e_line_down_n k_line_down_n fun _ _ _ _ _ _ us hl => match us, hl with | [_, _], _ => rfl
  h_between_by_n := here_of (st := s_between_by_n) X G a_between_by_n l_between_by_n e_between_by_n k_between_by_n fun _ _ _ _ _ _ us hl => match us, hl with | [_, _, _], _ => rfl
  h_numbers_by := here_of (st := s_numbers_by) X G a_numbers_by l_numbers_by e_numbers_by k_numbers_by fun _ _ _ _ _ _ us hl => match us, hl with | [_, _], _ => rfl
  h_walked_by_n := here_of (st := s_walked_by_n) X G a_walked_by_n l_walked_by_n e_walked_by_n k_walked_by_n fun _ _ _ _ _ _ us hl => match us, hl with | [_, _], _ => rfl
  h_step_deed_by := here_of (st := s_step_deed_by) X G a_step_deed_by l_step_deed_by e_step_deed_by k_step_deed_by fun _ _ _ _ _ _ us hl => match us, hl with | [_, _], _ => rfl
  h_round_of := here_of (st := s_round_of) X G a_round_of l_round_of e_round_of k_round_of fun _ _ _ _ _ _ us hl => match us, hl with | [_], _ => rfl
  h_back_by := here_of (st := s_back_by) X G a_back_by l_back_by e_back_by k_back_by fun _ _ _ _ _ _ us hl => match us, hl with | [_, _], _ => rfl
  h_turned_by := here_of (st := s_turned_by) X G a_turned_by l_turned_by e_turned_by k_turned_by fun _ _ _ _ _ _ us hl => match us, hl with | [_, _], _ => rfl
  h_road_by := here_of (st := s_road_by) X G a_road_by l_road_by e_road_by k_road_by fun _ _ _ _ _ _ us hl => match us, hl with | [_, _], _ => rfl
  h_road_x := here_of (st := s_road_x) X G a_road_x l_road_x e_road_x k_road_x fun _ _ _ _ _ _ us hl => match us, hl with | [_, _], _ => rfl
  h_allowed_by := here_of (st := s_allowed_by) X G a_allowed_by l_allowed_by e_allowed_by k_allowed_by fun _ _ _ _ _ _ us hl => match us, hl with | [_, _], _ => rfl
  h_is_deed_by := here_of (st := s_is_deed_by) X G a_is_deed_by l_is_deed_by e_is_deed_by k_is_deed_by fun _ _ _ _ _ _ us hl => match us, hl with | [_, _], _ => rfl
  h_is_road_by := here_of (st := s_is_road_by) X G a_is_road_by l_is_road_by e_is_road_by k_is_road_by fun _ _ _ _ _ _ us hl => match us, hl with | [_, _, _], _ => rfl
  h_is_road_x := here_of (st := s_is_road_x) X G a_is_road_x l_is_road_x e_is_road_x k_is_road_x fun _ _ _ _ _ _ us hl => match us, hl with | [_, _, _], _ => rfl
  h_l_asked_0403_x := here_of (st := s_l_asked_0403_x) X G a_l_asked_0403_x l_l_asked_0403_x e_l_asked_0403_x k_l_asked_0403_x fun _ _ _ _ _ _ us hl => match us, hl with | [_, _], _ => rfl
  h_l_told_db71 := here_of (st := s_l_told_db71) X G a_l_told_db71 l_l_told_db71 e_l_told_db71 k_l_told_db71 fun _ _ _ _ _ _ us hl => match us, hl with | [_, _], _ => rfl
  h_l_all_refused_8142 := here_of (st := s_l_all_refused_8142) X G a_l_all_refused_8142 l_l_all_refused_8142 e_l_all_refused_8142 k_l_all_refused_8142 fun _ _ _ _ _ _ us hl => match us, hl with | [_, _, _, _], _ => rfl
  h_l_wrong_cuttings_2ff2 := here_of (st := s_l_wrong_cuttings_2ff2) X G a_l_wrong_cuttings_2ff2 l_l_wrong_cuttings_2ff2 e_l_wrong_cuttings_2ff2 k_l_wrong_cuttings_2ff2 fun _ _ _ _ _ _ us hl => match us, hl with | [_], _ => rfl
  h_l_law_a8bd := here_of (st := s_l_law_a8bd) X G a_l_law_a8bd l_l_law_a8bd e_l_law_a8bd k_l_law_a8bd fun _ _ _ _ _ _ us hl => match us, hl with | [_], _ => rfl
end C_k33
open PySem PySem.W PyProof.Rows
set_option maxHeartbeats 0 in
theorem PySem.Challenge.cw_slitsheets_k33_hearts_and_roads_refused_holds : PySem.Challenge.rw_slitsheets_k33_hearts_and_roads_refused.Holds := by
  w_on; o_law; k_head; (case hw => w_witness2)
  k_fill
  refine DL.walkD (l := PySem.Challenge.rw_slitsheets_k33_hearts_and_roads_refused) (n := 63) (k := 14) (x := "_law_script") (st := C_k33.s_l_law_a8bd) rfl (by decide) rfl ⟨rfl, by decide, by decide⟩ (fun w h Y => PySem.W.kIn_of Y) ?F (fun _ _ _ _ _ _ _ => rfl)
  case F =>
    intro w mg h KX G base Xb Gb
    refine' C_k33.law_ok (C_k33.all_mk KX G ?n_ValueError ?n_abs ?n_bool ?n_int ?n_isinstance ?n_len ?n_list ?n_max ?n_range ?n_repr ?n_sorted ?n_sum ?n_tuple ?g_gcd ?c_LEAST ?c_MOST_LISTED ?c_MOST_SEARCHED ?c_MOST_SIGNS ?ns_S ?lk_S ?gs_S ?tk_S ?any_S ?msup_S ?ns_InvalidMeasure ?lk_InvalidMeasure ?sa_InvalidMeasure ?ga_InvalidMeasure ?gg_InvalidMeasure ?nv_InvalidMeasure ?kp_InvalidMeasure ?hc_InvalidMeasure ?iC_InvalidMeasure ?sp_InvalidMeasure ?lf_InvalidMeasure ?cd_InvalidMeasure ?lc_InvalidMeasure ?lt_InvalidMeasure ?lv_InvalidMeasure ?hv_InvalidMeasure ?hf_InvalidMeasure ?ns_InvalidNumber ?lk_InvalidNumber ?sa_InvalidNumber ?ga_InvalidNumber ?gg_InvalidNumber ?nv_InvalidNumber ?kp_InvalidNumber ?hc_InvalidNumber ?iC_InvalidNumber ?sp_InvalidNumber ?lf_InvalidNumber ?cd_InvalidNumber ?lc_InvalidNumber ?lt_InvalidNumber ?lv_InvalidNumber ?hv_InvalidNumber ?hf_InvalidNumber ?ns_InvalidCutting ?lk_InvalidCutting ?sa_InvalidCutting ?ga_InvalidCutting ?gg_InvalidCutting ?nv_InvalidCutting ?kp_InvalidCutting ?hc_InvalidCutting ?iC_InvalidCutting ?sp_InvalidCutting ?lf_InvalidCutting ?cd_InvalidCutting ?lc_InvalidCutting ?lt_InvalidCutting ?lv_InvalidCutting ?hv_InvalidCutting ?hf_InvalidCutting ?ns_Unlike ?lk_Unlike ?sa_Unlike ?ga_Unlike ?gg_Unlike ?nv_Unlike ?kp_Unlike ?hc_Unlike ?iC_Unlike ?sp_Unlike ?lf_Unlike ?cd_Unlike ?lc_Unlike ?lt_Unlike ?lv_Unlike ?hv_Unlike ?hf_Unlike ?ns_TooMany ?lk_TooMany ?sa_TooMany ?ga_TooMany ?gg_TooMany ?nv_TooMany ?kp_TooMany ?hc_TooMany ?iC_TooMany ?sp_TooMany ?lf_TooMany ?cd_TooMany ?lc_TooMany ?lt_TooMany ?lv_TooMany ?hv_TooMany ?hf_TooMany ?vn_heart_distance ?vn_heart_lots ?vn_heart_number ?vn_heart_numbered ?vn_heart_steps ?vn_how_many_heart ?vn_road ?vn_word_to_heart ?a_l_cell_cf3b ?l_l_cell_cf3b ?e_l_cell_cf3b ?k_l_cell_cf3b ?a_l_generator_b324 ?l_l_generator_b324 ?e_l_generator_b324 ?k_l_generator_b324 ?a_l_hash_9cde ?l_l_hash_9cde ?e_l_hash_9cde ?k_l_hash_9cde ?a_l_random_7821 ?l_l_random_7821 ?e_l_random_7821 ?k_l_random_7821 ?a_l_common_6be5 ?l_l_common_6be5 ?e_l_common_6be5 ?k_l_common_6be5 ?a_l_measured_5aba ?l_l_measured_5aba ?e_l_measured_5aba ?k_l_measured_5aba ?a_l_is_cutting_9b45 ?l_l_is_cutting_9b45 ?e_l_is_cutting_9b45 ?k_l_is_cutting_9b45 ?a_l_great_5836 ?l_l_great_5836 ?e_l_great_5836 ?k_l_great_5836 ?a_is_whole ?l_is_whole ?e_is_whole ?k_is_whole ?a_is_between ?l_is_between ?e_is_between ?k_is_between ?a_is_measure_by ?l_is_measure_by ?e_is_measure_by ?k_is_measure_by ?a_check_measure_x ?l_check_measure_x ?e_check_measure_x ?k_check_measure_x ?a_root_floor_by ?l_root_floor_by ?e_root_floor_by ?k_root_floor_by ?a_bounds_by ?l_bounds_by ?e_bounds_by ?k_bounds_by ?a_how_many_heart_x ?l_how_many_heart_x ?e_how_many_heart_x ?k_how_many_heart_x ?a_common_by ?l_common_by ?e_common_by ?k_common_by ?a_is_step_by ?l_is_step_by ?e_is_step_by ?k_is_step_by ?a_lots_by ?l_lots_by ?e_lots_by ?k_lots_by ?a_heart_by ?l_heart_by ?e_heart_by ?k_heart_by ?a_heart_lots_x ?l_heart_lots_x ?e_heart_lots_x ?k_heart_lots_x ?a_is_cutting_by ?l_is_cutting_by ?e_is_cutting_by ?k_is_cutting_by ?a_is_heart ?l_is_heart ?e_is_heart ?k_is_heart ?a_measure_by ?l_measure_by ?e_measure_by ?k_measure_by ?a_heart_number_x ?l_heart_number_x ?e_heart_number_x ?k_heart_number_x ?a_heart_steps_x ?l_heart_steps_x ?e_heart_steps_x ?k_heart_steps_x ?a_check_cutting_x ?l_check_cutting_x ?e_check_cutting_x ?k_check_cutting_x ?a_far_by ?l_far_by ?e_far_by ?k_far_by ?a_heart_distance_x ?l_heart_distance_x ?e_heart_distance_x ?k_heart_distance_x ?a_shared ?l_shared ?e_shared ?k_shared ?a_opposite_by ?l_opposite_by ?e_opposite_by ?k_opposite_by ?a_beside ?l_beside ?e_beside ?k_beside ?a_table_by ?l_table_by ?e_table_by ?k_table_by ?a_full_by ?l_full_by ?e_full_by ?k_full_by ?a_done_by ?l_done_by ?e_done_by ?k_done_by ?a_nearer_by ?l_nearer_by ?e_nearer_by ?k_nearer_by ?a_to_heart_by ?l_to_heart_by ?e_to_heart_by ?k_to_heart_by ?a_word_to_heart_x ?l_word_to_heart_x ?e_word_to_heart_x ?k_word_to_heart_x ?a_check_number_x ?l_check_number_x ?e_check_number_x ?k_check_number_x ?a_heart_numbered_x ?l_heart_numbered_x ?e_heart_numbered_x ?k_heart_numbered_x ?a_check_two_x ?l_check_two_x ?e_check_two_x ?k_check_two_x ?a_parted_by ?l_parted_by ?e_parted_by ?k_parted_by ?a_searched_by_n ?l_searched_by_n ?e_searched_by_n ?k_searched_by_n ?a_line_down_n ?l_line_down_n ?e_line_down_n ?k_line_down_n ?a_between_by_n ?l_between_by_n ?e_between_by_n ?k_between_by_n ?a_numbers_by ?l_numbers_by ?e_numbers_by ?k_numbers_by ?a_walked_by_n ?l_walked_by_n ?e_walked_by_n ?k_walked_by_n ?a_step_deed_by ?l_step_deed_by ?e_step_deed_by ?k_step_deed_by ?a_round_of ?l_round_of ?e_round_of ?k_round_of ?a_back_by ?l_back_by ?e_back_by ?k_back_by ?a_turned_by ?l_turned_by ?e_turned_by ?k_turned_by ?a_road_by ?l_road_by ?e_road_by ?k_road_by ?a_road_x ?l_road_x ?e_road_x ?k_road_x ?a_allowed_by ?l_allowed_by ?e_allowed_by ?k_allowed_by ?a_is_deed_by ?l_is_deed_by ?e_is_deed_by ?k_is_deed_by ?a_is_road_by ?l_is_road_by ?e_is_road_by ?k_is_road_by ?a_is_road_x ?l_is_road_x ?e_is_road_x ?k_is_road_x ?a_l_asked_0403_x ?l_l_asked_0403_x ?e_l_asked_0403_x ?k_l_asked_0403_x ?a_l_told_db71 ?l_l_told_db71 ?e_l_told_db71 ?k_l_told_db71 ?a_l_all_refused_8142 ?l_l_all_refused_8142 ?e_l_all_refused_8142 ?k_l_all_refused_8142 ?a_l_wrong_cuttings_2ff2 ?l_l_wrong_cuttings_2ff2 ?e_l_wrong_cuttings_2ff2 ?k_l_wrong_cuttings_2ff2 ?a_l_law_a8bd ?l_l_law_a8bd ?e_l_law_a8bd ?k_l_law_a8bd base Xb)
    (case n_ValueError => k_is)
    (case n_abs => k_is)
    (case n_bool => k_is)
    (case n_int => k_is)
    (case n_isinstance => k_is)
    (case n_len => k_is)
    (case n_list => k_is)
    (case n_max => k_is)
    (case n_range => k_is)
    (case n_repr => k_is)
    (case n_sorted => k_is)
    (case n_sum => k_is)
    (case n_tuple => k_is)
    (case g_gcd => k_is)
    (case c_LEAST => k_is)
    (case c_MOST_LISTED => k_is)
    (case c_MOST_SEARCHED => k_is)
    (case c_MOST_SIGNS => k_is)
    (case ns_S => k_is)
    (case lk_S => k_is)
    (case gs_S => k_is)
    (case tk_S => k_is)
    (case any_S => k_is)
    (case msup_S => k_is)
    (case ns_InvalidMeasure => k_is)
    (case lk_InvalidMeasure => k_is)
    (case sa_InvalidMeasure => k_is)
    (case ga_InvalidMeasure => k_is)
    (case gg_InvalidMeasure => k_is)
    (case nv_InvalidMeasure => k_is)
    (case kp_InvalidMeasure => k_is)
    (case hc_InvalidMeasure => k_is)
    (case iC_InvalidMeasure => k_is)
    (case sp_InvalidMeasure => ks_is)
    (case lf_InvalidMeasure => k_is)
    (case cd_InvalidMeasure => k_is)
    (case lc_InvalidMeasure => k_is)
    (case lt_InvalidMeasure => k_is)
    (case lv_InvalidMeasure => k_is)
    (case hv_InvalidMeasure => first | rfl | decide +kernel)
    (case hf_InvalidMeasure => first | rfl | decide +kernel)
    (case ns_InvalidNumber => k_is)
    (case lk_InvalidNumber => k_is)
    (case sa_InvalidNumber => k_is)
    (case ga_InvalidNumber => k_is)
    (case gg_InvalidNumber => k_is)
    (case nv_InvalidNumber => k_is)
    (case kp_InvalidNumber => k_is)
    (case hc_InvalidNumber => k_is)
    (case iC_InvalidNumber => k_is)
    (case sp_InvalidNumber => ks_is)
    (case lf_InvalidNumber => k_is)
    (case cd_InvalidNumber => k_is)
    (case lc_InvalidNumber => k_is)
    (case lt_InvalidNumber => k_is)
    (case lv_InvalidNumber => k_is)
    (case hv_InvalidNumber => first | rfl | decide +kernel)
    (case hf_InvalidNumber => first | rfl | decide +kernel)
    (case ns_InvalidCutting => k_is)
    (case lk_InvalidCutting => k_is)
    (case sa_InvalidCutting => k_is)
    (case ga_InvalidCutting => k_is)
    (case gg_InvalidCutting => k_is)
    (case nv_InvalidCutting => k_is)
    (case kp_InvalidCutting => k_is)
    (case hc_InvalidCutting => k_is)
    (case iC_InvalidCutting => k_is)
    (case sp_InvalidCutting => ks_is)
    (case lf_InvalidCutting => k_is)
    (case cd_InvalidCutting => k_is)
    (case lc_InvalidCutting => k_is)
    (case lt_InvalidCutting => k_is)
    (case lv_InvalidCutting => k_is)
    (case hv_InvalidCutting => first | rfl | decide +kernel)
    (case hf_InvalidCutting => first | rfl | decide +kernel)
    (case ns_Unlike => k_is)
    (case lk_Unlike => k_is)
    (case sa_Unlike => k_is)
    (case ga_Unlike => k_is)
    (case gg_Unlike => k_is)
    (case nv_Unlike => k_is)
    (case kp_Unlike => k_is)
    (case hc_Unlike => k_is)
    (case iC_Unlike => k_is)
    (case sp_Unlike => ks_is)
    (case lf_Unlike => k_is)
    (case cd_Unlike => k_is)
    (case lc_Unlike => k_is)
    (case lt_Unlike => k_is)
    (case lv_Unlike => k_is)
    (case hv_Unlike => first | rfl | decide +kernel)
    (case hf_Unlike => first | rfl | decide +kernel)
    (case ns_TooMany => k_is)
    (case lk_TooMany => k_is)
    (case sa_TooMany => k_is)
    (case ga_TooMany => k_is)
    (case gg_TooMany => k_is)
    (case nv_TooMany => k_is)
    (case kp_TooMany => k_is)
    (case hc_TooMany => k_is)
    (case iC_TooMany => k_is)
    (case sp_TooMany => ks_is)
    (case lf_TooMany => k_is)
    (case cd_TooMany => k_is)
    (case lc_TooMany => k_is)
    (case lt_TooMany => k_is)
    (case lv_TooMany => k_is)
    (case hv_TooMany => first | rfl | decide +kernel)
    (case hf_TooMany => first | rfl | decide +kernel)
    (case vn_heart_distance => k_is)
    (case vn_heart_lots => k_is)
    (case vn_heart_number => k_is)
    (case vn_heart_numbered => k_is)
    (case vn_heart_steps => k_is)
    (case vn_how_many_heart => k_is)
    (case vn_road => k_is)
    (case vn_word_to_heart => k_is)
    (case a_l_cell_cf3b => k_is)
    (case l_l_cell_cf3b => k_is)
    (case e_l_cell_cf3b => k_is)
    (case k_l_cell_cf3b => k_is)
    (case a_l_generator_b324 => k_is)
    (case l_l_generator_b324 => k_is)
    (case e_l_generator_b324 => k_is)
    (case k_l_generator_b324 => k_is)
    (case a_l_hash_9cde => k_is)
    (case l_l_hash_9cde => k_is)
    (case e_l_hash_9cde => k_is)
    (case k_l_hash_9cde => k_is)
    (case a_l_random_7821 => k_is)
    (case l_l_random_7821 => k_is)
    (case e_l_random_7821 => k_is)
    (case k_l_random_7821 => k_is)
    (case a_l_common_6be5 => k_is)
    (case l_l_common_6be5 => k_is)
    (case e_l_common_6be5 => k_is)
    (case k_l_common_6be5 => k_is)
    (case a_l_measured_5aba => k_is)
    (case l_l_measured_5aba => k_is)
    (case e_l_measured_5aba => k_is)
    (case k_l_measured_5aba => k_is)
    (case a_l_is_cutting_9b45 => k_is)
    (case l_l_is_cutting_9b45 => k_is)
    (case e_l_is_cutting_9b45 => k_is)
    (case k_l_is_cutting_9b45 => k_is)
    (case a_l_great_5836 => k_is)
    (case l_l_great_5836 => k_is)
    (case e_l_great_5836 => k_is)
    (case k_l_great_5836 => k_is)
    (case a_is_whole => k_is)
    (case l_is_whole => k_is)
    (case e_is_whole => k_is)
    (case k_is_whole => k_is)
    (case a_is_between => k_is)
    (case l_is_between => k_is)
    (case e_is_between => k_is)
    (case k_is_between => k_is)
    (case a_is_measure_by => k_is)
    (case l_is_measure_by => k_is)
    (case e_is_measure_by => k_is)
    (case k_is_measure_by => k_is)
    (case a_check_measure_x => k_is)
    (case l_check_measure_x => k_is)
    (case e_check_measure_x => k_is)
    (case k_check_measure_x => k_is)
    (case a_root_floor_by => k_is)
    (case l_root_floor_by => k_is)
    (case e_root_floor_by => k_is)
    (case k_root_floor_by => k_is)
    (case a_bounds_by => k_is)
    (case l_bounds_by => k_is)
    (case e_bounds_by => k_is)
    (case k_bounds_by => k_is)
    (case a_how_many_heart_x => k_is)
    (case l_how_many_heart_x => k_is)
    (case e_how_many_heart_x => k_is)
    (case k_how_many_heart_x => k_is)
    (case a_common_by => k_is)
    (case l_common_by => k_is)
    (case e_common_by => k_is)
    (case k_common_by => k_is)
    (case a_is_step_by => k_is)
    (case l_is_step_by => k_is)
    (case e_is_step_by => k_is)
    (case k_is_step_by => k_is)
    (case a_lots_by => k_is)
    (case l_lots_by => k_is)
    (case e_lots_by => k_is)
    (case k_lots_by => k_is)
    (case a_heart_by => k_is)
    (case l_heart_by => k_is)
    (case e_heart_by => k_is)
    (case k_heart_by => k_is)
    (case a_heart_lots_x => k_is)
    (case l_heart_lots_x => k_is)
    (case e_heart_lots_x => k_is)
    (case k_heart_lots_x => k_is)
    (case a_is_cutting_by => k_is)
    (case l_is_cutting_by => k_is)
    (case e_is_cutting_by => k_is)
    (case k_is_cutting_by => k_is)
    (case a_is_heart => k_is)
    (case l_is_heart => k_is)
    (case e_is_heart => k_is)
    (case k_is_heart => k_is)
    (case a_measure_by => k_is)
    (case l_measure_by => k_is)
    (case e_measure_by => k_is)
    (case k_measure_by => k_is)
    (case a_heart_number_x => k_is)
    (case l_heart_number_x => k_is)
    (case e_heart_number_x => k_is)
    (case k_heart_number_x => k_is)
    (case a_heart_steps_x => k_is)
    (case l_heart_steps_x => k_is)
    (case e_heart_steps_x => k_is)
    (case k_heart_steps_x => k_is)
    (case a_check_cutting_x => k_is)
    (case l_check_cutting_x => k_is)
    (case e_check_cutting_x => k_is)
    (case k_check_cutting_x => k_is)
    (case a_far_by => k_is)
    (case l_far_by => k_is)
    (case e_far_by => k_is)
    (case k_far_by => k_is)
    (case a_heart_distance_x => k_is)
    (case l_heart_distance_x => k_is)
    (case e_heart_distance_x => k_is)
    (case k_heart_distance_x => k_is)
    (case a_shared => k_is)
    (case l_shared => k_is)
    (case e_shared => k_is)
    (case k_shared => k_is)
    (case a_opposite_by => k_is)
    (case l_opposite_by => k_is)
    (case e_opposite_by => k_is)
    (case k_opposite_by => k_is)
    (case a_beside => k_is)
    (case l_beside => k_is)
    (case e_beside => k_is)
    (case k_beside => k_is)
    (case a_table_by => k_is)
    (case l_table_by => k_is)
    (case e_table_by => k_is)
    (case k_table_by => k_is)
    (case a_full_by => k_is)
    (case l_full_by => k_is)
    (case e_full_by => k_is)
    (case k_full_by => k_is)
    (case a_done_by => k_is)
    (case l_done_by => k_is)
    (case e_done_by => k_is)
    (case k_done_by => k_is)
    (case a_nearer_by => k_is)
    (case l_nearer_by => k_is)
    (case e_nearer_by => k_is)
    (case k_nearer_by => k_is)
    (case a_to_heart_by => k_is)
    (case l_to_heart_by => k_is)
    (case e_to_heart_by => k_is)
    (case k_to_heart_by => k_is)
    (case a_word_to_heart_x => k_is)
    (case l_word_to_heart_x => k_is)
    (case e_word_to_heart_x => k_is)
    (case k_word_to_heart_x => k_is)
    (case a_check_number_x => k_is)
    (case l_check_number_x => k_is)
    (case e_check_number_x => k_is)
    (case k_check_number_x => k_is)
    (case a_heart_numbered_x => k_is)
    (case l_heart_numbered_x => k_is)
    (case e_heart_numbered_x => k_is)
    (case k_heart_numbered_x => k_is)
    (case a_check_two_x => k_is)
    (case l_check_two_x => k_is)
    (case e_check_two_x => k_is)
    (case k_check_two_x => k_is)
    (case a_parted_by => k_is)
    (case l_parted_by => k_is)
    (case e_parted_by => k_is)
    (case k_parted_by => k_is)
    (case a_searched_by_n => k_is)
    (case l_searched_by_n => k_is)
    (case e_searched_by_n => k_is)
    (case k_searched_by_n => k_is)
    (case a_line_down_n => k_is)
    (case l_line_down_n => k_is)
    (case e_line_down_n => k_is)
    (case k_line_down_n => k_is)
    (case a_between_by_n => k_is)
    (case l_between_by_n => k_is)
    (case e_between_by_n => k_is)
    (case k_between_by_n => k_is)
    (case a_numbers_by => k_is)
    (case l_numbers_by => k_is)
    (case e_numbers_by => k_is)
    (case k_numbers_by => k_is)
    (case a_walked_by_n => k_is)
    (case l_walked_by_n => k_is)
    (case e_walked_by_n => k_is)
    (case k_walked_by_n => k_is)
    (case a_step_deed_by => k_is)
    (case l_step_deed_by => k_is)
    (case e_step_deed_by => k_is)
    (case k_step_deed_by => k_is)
    (case a_round_of => k_is)
    (case l_round_of => k_is)
    (case e_round_of => k_is)
    (case k_round_of => k_is)
    (case a_back_by => k_is)
    (case l_back_by => k_is)
    (case e_back_by => k_is)
    (case k_back_by => k_is)
    (case a_turned_by => k_is)
    (case l_turned_by => k_is)
    (case e_turned_by => k_is)
    (case k_turned_by => k_is)
    (case a_road_by => k_is)
    (case l_road_by => k_is)
    (case e_road_by => k_is)
    (case k_road_by => k_is)
    (case a_road_x => k_is)
    (case l_road_x => k_is)
    (case e_road_x => k_is)
    (case k_road_x => k_is)
    (case a_allowed_by => k_is)
    (case l_allowed_by => k_is)
    (case e_allowed_by => k_is)
    (case k_allowed_by => k_is)
    (case a_is_deed_by => k_is)
    (case l_is_deed_by => k_is)
    (case e_is_deed_by => k_is)
    (case k_is_deed_by => k_is)
    (case a_is_road_by => k_is)
    (case l_is_road_by => k_is)
    (case e_is_road_by => k_is)
    (case k_is_road_by => k_is)
    (case a_is_road_x => k_is)
    (case l_is_road_x => k_is)
    (case e_is_road_x => k_is)
    (case k_is_road_x => k_is)
    (case a_l_asked_0403_x => k_is)
    (case l_l_asked_0403_x => k_is)
    (case e_l_asked_0403_x => k_is)
    (case k_l_asked_0403_x => k_is)
    (case a_l_told_db71 => k_is)
    (case l_l_told_db71 => k_is)
    (case e_l_told_db71 => k_is)
    (case k_l_told_db71 => k_is)
    (case a_l_all_refused_8142 => k_is)
    (case l_l_all_refused_8142 => k_is)
    (case e_l_all_refused_8142 => k_is)
    (case k_l_all_refused_8142 => k_is)
    (case a_l_wrong_cuttings_2ff2 => k_is)
    (case l_l_wrong_cuttings_2ff2 => k_is)
    (case e_l_wrong_cuttings_2ff2 => k_is)
    (case k_l_wrong_cuttings_2ff2 => k_is)
    (case a_l_law_a8bd => k_is)
    (case l_l_law_a8bd => k_is)
    (case e_l_law_a8bd => k_is)
    (case k_l_law_a8bd => k_is)
