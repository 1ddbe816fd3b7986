import PyProof.Rows.All
import Wide.All
import OpenK.AllK
import Wide.FinOn
import HandS.ForMost
import HandS.Exc
import HandS.ExcInit
import HandS.ExcField
import HandS.ExcIs
import KE.KExcSuper
import KE.KSuper
import HandS.Wide
import HandS.Flow
import HandS.Style
import HandS.Deep
import HandS.TupAny
import HandS.NoneIn
import HandS.IsInst
import HandS.WideBits
import HandS.Gcd
import HandS.Conv
import HandS.Zip
import HandS.SortRule
import HandS.SortInts
import KE.KSortTupAny
import HandS.TupSets
import KE.KSetDisp
import HandS.SetIn
import KE.KExcIs
import HandS.Iter
import KE.DataFind
import PyProof.ReprRoads
import PyProof.NeKinds
import PyProof.FactsAll.dict_2
import PyProof.FactsAll.subtypes_1
import HandS.Star
import KE.GoesEnumKw
import KE.RegKSuper
import PySem.Challenge.RW_slitsheets_k43_tables_that_keep_crossing
set_option Elab.async false
set_option linter.all false
set_option maxRecDepth 100000
set_option maxHeartbeats 4000000
/-! XA: the package's own errors: their classes, and how one is made -/
namespace XA
open PySem PySem.W PySem.Calls PyProof.Rows PySem.HandSPX
/-- the __init__ that stands in a class -/
def initOf : Stmt → Stmt
  | .ClassDef _ _ _ (f :: _) _ _ _ _ _ _ _ => f
  | s => s
/-- the text of __init__(self, value=None): super().__init__(); self.value = value -/
structure InitTxt (A : Arguments) (B : List Stmt) (S : Scope) : Prop where
  ar : ∃ p1 p2 c, A = { posonlyargs := [], args := [{ arg := "self", annotation := none, pos := p1 }, { arg := "value", annotation := none, pos := p2 }], vararg := none, kwonlyargs := [], kw_defaults := [], kwarg := none, defaults := [c] }
  bd : ∃ p0 p1 p2 p3 p4 q1 q2 q3 q4, B = [.Expr (.Call (.Attribute (.Call (.Name "super" p0) [] [] p1) "__init__" p2) [] [] p3) p4, .Assign [.Attribute (.Name "self" q1) "value" q2] (.Name "value" q3) q4] ∧
    (∃ pl : Sem Bool, ∀ env : Env, eval (.Call (.Attribute (.Call (.Name "super" p0) [] [] p1) "__init__" p2) [] [] p3) env = (do
      let ov ← attributeBase (.Call (.Name "super" p0) [] [] p1) "__init__" env (eval (.Call (.Name "super" p0) [] [] p1) env)
      standAt p2.atName
      let (f, first) ← holding [ov] (getMethod ov "__init__" pl)
      callWith p3 f first (backTo p3 (starEach [] env)) [])) ∧
    ∀ env : Env, swapsWith (.Call (.Attribute (.Call (.Name "super" p0) [] [] p1) "__init__" p2) [] [] p3) none p4.line env = pure false
  sc : S = { kind := .function, names := [(PySem.Str.ofString "self", .local), (PySem.Str.ofString "value", .local), (PySem.Str.ofString "__class__", .free), (PySem.Str.ofString "super", .globalImplicit)], isGenerator := false, isCoroutine := false, more := [] }
def sheetTail : List Value := [.type "ValueError", .type "Exception", .type "BaseException", .type "object"]
def errTail (S : Addr) : List Value := .ref S :: sheetTail
/-- the common class of the errors stands at S -/
structure ShC (K : Frag) (S : Addr) : Prop where
  ns : nsIn K mainGlobals "SheetError" = some (some (.ref S))
  cls : ∃ q N bs sn sub ab col dd k0 k1 k2 k3 k5, K.lookup S = some (excClassObj "SheetError" q S N bs sheetTail true sn sub ab col dd k0 k1 k2 k3 k5 "ValueError.__new__")
/-- the error class x stands at C -/
structure ErC (K : Frag) (x : Str) (C S : Addr) : Prop where
  ns : nsIn K mainGlobals x = some (some (.ref C))
  sh : ShC K S
  ne : x ≠ "SheetError"
  cls : ∃ q N bs sn sub ab col dd k0 k1 k2 k3 k5, K.lookup C = some (excClassObj x q C N bs (errTail S) true sn sub ab col dd k0 k1 k2 k3 k5 "ValueError.__new__")
  sa : findIn K (.ref C) "__setattr__" = some (some (.builtin "object.__setattr__"))
  ga : findIn K (.ref C) "__getattribute__" = some (some (.builtin "BaseException.__getattribute__"))
  gg : findIn K (.ref C) "__getattr__" = some none
  nv : findIn K (.ref C) "value" = some none
  kp : keepIn K (.ref C) = true
  hc : findIn K (.ref C) "__class__" = some (some (.builtin "object.__class__"))
  gs : specialIn K (.builtin "object.__class__") "__get__" = some (some (.builtin "getset_descriptor.__get__"))
  tk : takesIn K (.builtin "object.__class__") = some true
/-- .. and may be raised: its __init__ -/
structure ErM (P : Program) (K : Frag) (mg : Str → Option Value) (x : Str) (C S fI : Addr) : Prop where
  er : ErC K x C S
  gC : mg x = some (.ref C)
  iC : findIn K (.ref C) "__init__" = some (some (.ref fI))
  sup : alongIn K "__init__" (errTail S) = some (some (.builtin "ValueError.__init__"))
  any : nsIn K cStatics "thirdparty.any" = some none
  msup : mg "super" = none
  fn : ∃ (oc : Value) (od : Option Addr) (A : Arguments) (B : List Stmt) (Sc : Scope) (q : Str) (dV kV doc pm : Value) (an : Option Addr) (cda cc : Addr) (ct : Value) (osl : Array (Option Value)), InitTxt A B Sc ∧ oc = .type "function" ∧
    K.lookup fI = some ⟨oc, od, .func (fnX "__init__" q A B Sc [("__class__", cc)] dV kV doc pm an (.ref cda) ct), osl⟩ ∧ codeIn K (.ref cda) q = true ∧
    (∃ c d sl, K.lookup cc = some ⟨c, d, .cell (some (.ref C)), sl⟩) ∧ (∃ td c d n sl, dV = .ref td ∧ K.lookup td = some ⟨c, d, .seq #[.none] n, sl⟩) ∧ (∃ c d vs sl file tf, K.lookup cda = some ⟨c, d, .fields vs, sl⟩ ∧ vs[2]? = some (.str file tf) ∧ ((P.main.file : Str) == file) = true)
  top : (P.main.scope.names.lookup ("super" : Str)).isSome = false
theorem refs_err (S : Addr) : refsVE (errTail S) = true := by show refsVE sheetTail = true; decide
section
variable {K : Frag} {x y : Str} {C D S S' : Addr}
theorem ErC.clsIn (T : ErC K x C S) : ∃ cd, PySem.W.clsIn K C = some cd ∧ cd.mro = .ref C :: errTail S ∧ cd.hasDict = true ∧ cd.name = x := by
  obtain ⟨q, N, bs, sn, sub, ab, col, dd, k0, k1, k2, k3, k5, h⟩ := T.cls
  exact ⟨_, by unfold PySem.W.clsIn; rw [h], rfl, rfl, rfl⟩
theorem ShC.clsIn (T : ShC K S) : ∃ cd, PySem.W.clsIn K S = some cd ∧ cd.mro = .ref S :: sheetTail ∧ cd.name = "SheetError" := by
  obtain ⟨q, N, bs, sn, sub, ab, col, dd, k0, k1, k2, k3, k5, h⟩ := T.cls
  exact ⟨_, by unfold PySem.W.clsIn; rw [h], rfl, rfl⟩
theorem ErC.ty (T : ErC K x C S) : typeIn K (.ref C) = some (.type "type") := by
  obtain ⟨q, N, bs, sn, sub, ab, col, dd, k0, k1, k2, k3, k5, h⟩ := T.cls
  show (K.lookup C).map (·.cls) = _
  rw [h]; rfl
theorem ShC.ty (T : ShC K S) : typeIn K (.ref S) = some (.type "type") := by
  obtain ⟨q, N, bs, sn, sub, ab, col, dd, k0, k1, k2, k3, k5, h⟩ := T.cls
  show (K.lookup S).map (·.cls) = _
  rw [h]; rfl
theorem ErC.sub (T : ErC K x C S) (b : Value) : subIn K (.ref C) b = some ((Value.ref C :: errTail S).contains b) := by
  obtain ⟨cd, h, hm, _⟩ := T.clsIn
  show mroIn K C b = _
  unfold mroIn
  rw [h, Option.bind_some, hm]; rfl
theorem ShC.sub (T : ShC K S) (b : Value) : subIn K (.ref S) b = some ((Value.ref S :: sheetTail).contains b) := by
  obtain ⟨cd, h, hm, _⟩ := T.clsIn
  show mroIn K S b = _
  unfold mroIn
  rw [h, Option.bind_some, hm]; rfl
theorem ErC.subT (T : ErC K x C S) (n : String) (h : sheetTail.contains (.type n) = true) : subIn K (.ref C) (.type n) = some true := by
  rw [T.sub]; show some (Value.type n == Value.ref C || (Value.type n == Value.ref S || sheetTail.contains (.type n))) = _
  rw [h, Bool.or_true, Bool.or_true]
theorem ErC.uniq (T : ErC K x C S) (T' : ErC K x D S') : C = D := by
  have := T.ns.symm.trans T'.ns
  exact Value.ref.inj (Option.some.inj (Option.some.inj this))
theorem ShC.uniq (T : ShC K S) (T' : ShC K S') : S = S' := by
  have := T.ns.symm.trans T'.ns
  exact Value.ref.inj (Option.some.inj (Option.some.inj this))
theorem ErC.apart (T : ErC K x C S) (T' : ErC K y D S') (h : x ≠ y) : C ≠ D := fun e => by
  obtain ⟨cd, h1, _, _, h2⟩ := T.clsIn
  obtain ⟨cd', h1', _, _, h2'⟩ := T'.clsIn
  rw [e, h1'] at h1
  cases h1
  exact h (h2.symm.trans h2')
theorem ErC.notS (T : ErC K x C S) : C ≠ S := fun e => by
  obtain ⟨cd, h1, _, _, h2⟩ := T.clsIn
  obtain ⟨cd', h1', _, h2'⟩ := T.sh.clsIn
  rw [e, h1'] at h1
  cases h1
  exact T.ne (h2.symm.trans h2')
/-- is an error of the class x one of the class y -/
def under (x y : Str) : Bool := x == y || y == "SheetError"
theorem ErC.subE (T : ErC K x C S) (T' : ErC K y D S') : subIn K (.ref C) (.ref D) = some (under x y) := by
  have eS := T.sh.uniq T'.sh
  subst eS
  rw [T.sub]
  show some (Value.ref D == Value.ref C || (Value.ref D == Value.ref S || sheetTail.contains (.ref D))) = _
  have h3 : sheetTail.contains (Value.ref D) = false := by simp [sheetTail]
  have h2 : (Value.ref D == Value.ref S) = false := by simp [T'.notS]
  have hy : (y == ("SheetError" : Str)) = false := by simp [T'.ne]
  unfold under
  rw [h3, h2, hy, Bool.or_false, Bool.or_false, Bool.or_false]
  by_cases h : x = y
  · subst h
    have := T.uniq T'
    subst this
    simp
  · have := T.apart T' h
    rw [beq_eq_false_iff_ne.mpr h, beq_eq_false_iff_ne.mpr fun z => this (Value.ref.inj z).symm]
theorem ErC.subS (T : ErC K x C S) (T' : ShC K S') : subIn K (.ref C) (.ref S') = some true := by
  have eS := T.sh.uniq T'
  subst eS
  rw [T.sub]
  show some (Value.ref S == Value.ref C || (Value.ref S == Value.ref S || sheetTail.contains (.ref S))) = _
  simp
/-- a class of errors, with its name: one of them, or their common one -/
def AnyC (K : Frag) (y : Str) (D : Addr) : Prop := (∃ S, ErC K y D S) ∨ (y = "SheetError" ∧ ShC K D)
theorem ErC.subA (T : ErC K x C S) (A : AnyC K y D) : subIn K (.ref C) (.ref D) = some (under x y) := by
  rcases A with ⟨S', T'⟩ | ⟨rfl, T'⟩
  · exact T.subE T'
  · rw [T.subS T']; simp [under]
theorem AnyC.ns (A : AnyC K y D) : nsIn K mainGlobals y = some (some (.ref D)) := by
  rcases A with ⟨S', T'⟩ | ⟨rfl, T'⟩
  · exact T'.ns
  · exact T'.ns
theorem AnyC.ty (A : AnyC K y D) : typeIn K (.ref D) = some (.type "type") := by
  rcases A with ⟨S', T'⟩ | ⟨rfl, T'⟩
  · exact T'.ty
  · exact T'.ty
theorem AnyC.isC (A : AnyC K y D) : (PySem.W.clsIn K D).isSome = true := by
  rcases A with ⟨S', T'⟩ | ⟨rfl, T'⟩
  · obtain ⟨cd, h, _⟩ := T'.clsIn; rw [h]; rfl
  · obtain ⟨cd, h, _⟩ := T'.clsIn; rw [h]; rfl
theorem AnyC.base (A : AnyC K y D) : subIn K (.ref D) (.type "BaseException") = some true := by
  rcases A with ⟨S', T'⟩ | ⟨rfl, T'⟩
  · exact T'.subT "BaseException" (by decide)
  · rw [T'.sub]; show some (Value.type "BaseException" == Value.ref D || sheetTail.contains (.type "BaseException")) = _
    rw [show sheetTail.contains (.type "BaseException") = true by decide, Bool.or_true]
theorem ErC.kit (T : ErC K x C S) (A : AnyC K y D) : kitOne K (.ref C) (.ref D) = some (under x y) := by
  unfold kitOne
  split
  · rename_i h
    have : C = D := Value.ref.inj (beq_iff_eq.mp h)
    subst this
    rcases A with ⟨S', T'⟩ | ⟨rfl, T'⟩
    · have : x = y := Classical.byContradiction fun n => T.apart T' n rfl
      rw [this]; simp [under]
    · simp [under]
  · unfold kitCls
    dsimp only
    rw [if_pos (by rw [A.isC, A.ty]; rfl)]
    exact T.subA A
theorem ErC.exm (T : ErC K x C S) (A : AnyC K y D) : exmOne K (.ref C) (.ref D) = some (under x y) := by
  unfold exmOne
  rw [if_pos (by rw [A.base]; rfl)]
  unfold kitCls
  dsimp only
  rw [if_pos (by rw [A.isC, A.ty]; rfl)]
  exact T.subA A
theorem ErC.kitV (T : ErC K x C S) : kitOne K (.ref C) (.type "ValueError") = some true := by
  unfold kitOne
  rw [if_neg (by simp)]
  unfold kitCls
  dsimp only
  rw [if_pos (by decide +kernel)]
  exact T.subT _ (by decide)
theorem ErC.excC (T : ErC K x C S) : L2.ExcC K C := ⟨T.ga, T.gg, T.subT _ (by decide), by obtain ⟨cd, h, _, hd, _⟩ := T.clsIn; unfold hasDictIn; rw [h]; exact hd, T.hc, T.gs, T.tk, by
  have := T.subT "object" (by decide)
  exact this⟩
theorem ErC.xfC (T : ErC K x C S) : L2.XfC K C := ⟨T.ga, T.gg, T.subT _ (by decide), T.excC.hd⟩
end
/-! ### an error is made -/
/-- what __init__ leaves of a fresh error at x -/
structure InitEnd (h h' : Heap) (x C dx t1 : Addr) (v : Value) : Prop where
  keep : ∀ b o, b ≠ x → h.get? b = some o → h'.get? b = some o
  obj : h'.get? x = some (excO C t1 |> fun o => { o with dict := some dx })
  dbig : h.objs.size ≤ dx
  dne : dx ≠ x
  ns : h'.Ns1 dx (fun y => if y = "value" then some v else none)
/-- a made error -/
structure Made (h h' : Heap) (e C d : Addr) (v : Value) : Prop where
  keep : ∀ b o, h.get? b = some o → h'.get? b = some o
  new : h.objs.size ≤ e
  obj : ∃ oe vs, h'.get? e = some oe ∧ oe.cls = .ref C ∧ oe.dict = some d ∧ oe.data = .fields vs ∧ vs[1]? = some .none
  dbig : h.objs.size ≤ d
  dne : d ≠ e
  ns : h'.Ns1 d (fun y => if y = "value" then some v else none)
section
variable {prog : Program} {w : World} {A : Around} {E : Value → Shared → Prop} {K : Frag} {mg mb : Str → Option Value} {C S fI : Addr} {x : Str}
theorem init_walk (T : ErM prog K mg x C S fI) {R : Result → Shared → Prop} {s : Shared} {e t0 : Addr} {v : Value} (X : K.In s.heap) (hlim : s.heap.NoLimit) (hg : s.heap.Ns mainGlobals mg) (hb : s.heap.Ns builtinsNs mb) (hbb : ∀ y : Str, y ≠ "__name__" → mb y = bootBuiltins y)
    (hx : s.heap.get? e = some (excO C t0)) (hnx : K.lookup e = none) (hroom : A.depth < recursionLimit)
    (hq : ∀ h' tk dx t1, InitEnd s.heap h' e C dx t1 v → R (.ok (.ret .none)) { s with heap := h', toks := tk }) :
    codeAny (model prog w) A (.call (.ref fI) ⟨[.ref e, v], []⟩) R s := by
  obtain ⟨oc, od, Ar, Bd, Sc, q, dV, kV, doc, pm, an, cda, cc, ct, osl, IT, hoc, ho, hcd, ⟨cl, cld, csl, hcell⟩, ⟨td, tc, tdd, tn, tsl, rfl, htd⟩, ⟨c1, d1, vs1, sl1, file, tf, hcode, hvs, hfile⟩⟩ := T.fn
  obtain ⟨⟨p1, p2, dd0, rfl⟩, ⟨b0, b1, b2, b3, b4, b5, b6, b7, b8, rfl, ⟨pl, hev⟩, hsw⟩, rfl⟩ := IT
  have hcl := T.er.clsIn
  obtain ⟨cd, hcd1, hmro, hhd, _⟩ := hcl
  have hb5 : ∀ x ∈ ([(PySem.Str.ofString "self", NameKind.local), (PySem.Str.ofString "value", .local), (PySem.Str.ofString "__class__", .free), (PySem.Str.ofString "super", .globalImplicit)] : List (Str × NameKind)), x.2 ≠ .cell := by decide
  refine ks_codeAny_call_defAt (binds := [("self", .ref e), ("value", v)]) hroom (X _ _ ho) rfl hlim (codeRec_of X hcd) rfl (BindsTo.of_defaults (T := td) rfl (X _ _ htd) rfl (by first | rfl | with_unfolding_all rfl) (by first | rfl | with_unfolding_all rfl)) hb5 (locs rfl) (fun h₁ hn k => ?_)
  have X₁ : K.In h₁ := X.keeps k
  have hx₁ := k _ _ hx
  have hxL : s.heap.objs.size ≠ e := Nat.ne_of_gt (Heap.lt_size hx)
  show _root_.PySem.wpAt _ (A.deeper (ksEnv q { kind := .function, names := [(PySem.Str.ofString "self", .local), (PySem.Str.ofString "value", .local), (PySem.Str.ofString "__class__", .free), (PySem.Str.ofString "super", .globalImplicit)], isGenerator := false, isCoroutine := false, more := [] } s.heap.objs.size fI (.ref cda) cc)) (.func _ (ksEnv q { kind := .function, names := [(PySem.Str.ofString "self", .local), (PySem.Str.ofString "value", .local), (PySem.Str.ofString "__class__", .free), (PySem.Str.ofString "super", .globalImplicit)], isGenerator := false, isCoroutine := false, more := [] } s.heap.objs.size fI (.ref cda) cc)) (execs _ (ksEnv q { kind := .function, names := [(PySem.Str.ofString "self", .local), (PySem.Str.ofString "value", .local), (PySem.Str.ofString "__class__", .free), (PySem.Str.ofString "super", .globalImplicit)], isGenerator := false, isCoroutine := false, more := [] } s.heap.objs.size fI (.ref cda) cc)) _ _ _
  refine ks_wpAt_execs_cons (ks_wpAt_Expr_any (ks_wpAt_MethodCall (pl := pl) ?_ (hev _)) rfl (hsw _))
  refine ks_wpAt_super_base (f := fI) (cc := cda) (by first | rfl | with_unfolding_all rfl) (by first | rfl | with_unfolding_all rfl) (by decide) rfl (X₁ _ _ ho) rfl rfl rfl (X₁ _ _ hcode) rfl hvs hfile T.top ?_
  refine ks_loadName_global rfl (by first | rfl | with_unfolding_all rfl) (loadGlobal_builtin (hg.keeps k) T.msup (hb.keeps k) ((hbb _ (by decide +kernel)).trans PyProof.Rows.Boot.«super») ⟨rfl, ?_⟩)
  refine wpAny_loadName_free rfl (by first | rfl | with_unfolding_all rfl) rfl ⟨_, X₁ _ _ hcell, rfl⟩ ?_
  refine wpAny_loadName_local rfl (by first | rfl | with_unfolding_all rfl) hn (v := .ref e) (by first | rfl | with_unfolding_all rfl | kernel_rfl) ?_
  obtain ⟨oC, hoC, hoC2⟩ : ∃ oC, h₁.get? C = some oC ∧ oC.data = .cls cd := by
    unfold PySem.W.clsIn at hcd1
    split at hcd1
    · rename_i ho'
      cases hcd1
      exact ⟨_, X₁ _ _ ho', rfl⟩
    · cases hcd1
  have hCe : e ≠ C := fun z => by
    rw [z, hoC] at hx₁
    cases hx₁
    cases hoC2
  have hsubC : mroIn K C (.ref C) = some true := by
    have := T.er.sub (.ref C)
    rw [show (Value.ref C :: errTail S).contains (.ref C) = true by simp] at this
    exact this
  refine ks_wpAny_isType_cls hoC hoC2 ⟨rfl, ?_⟩
  refine ks_wpAny_call_super hoC hoC2 hx₁ rfl (fun c z => by cases z) (looks_mroIn X₁ hsubC) (fun h2 hso k2 => ?_)
  have X₂ : K.In h2 := X₁.keeps k2
  have hx₂ := k2 _ _ hx₁
  have hI : Looks (model prog w) h2 (isInstance (.ref e) (.type "ValueError")) true := by
    have I : InstAt h2 e (excO C t0) C none := ⟨hx₂, rfl, rfl, trivial⟩
    exact I.type.andThen (looks_subIn X₂ (T.er.subT "ValueError" (by decide)))
  refine kxs_getMethod kxs_ValueError hso (looks_opaque X₂ T.any) (l₀ := cd.mro) (fun A Q E s k q => wpAny_bind ((looks_clsIn X₂ hcd1) A _ E s k (wpAny_pure q))) rfl X₂ (by rw [hmro]; simpa using T.sup) hI hCe (by decide) ?_
  refine kxs_callWith (i := "ValueError.__init__") (x := e) rfl (evalArgs_empty ⟨Heap.get?_push_at rfl rfl, ?_⟩)
  have hu : (h2.push (kxs_mw "ValueError.__init__" e)).get? h2.objs.size = some (kxs_mw "ValueError.__init__" e) := Heap.get?_push_at rfl rfl
  have k3 : ∀ b o, h2.get? b = some o → (h2.push (kxs_mw "ValueError.__init__" e)).get? b = some o := fun b o z => Heap.get?_push_of_some _ z
  obtain ⟨qn, N, bs, sn, sub, ab, col, dd, m0, m1, m2, m3, m5, hCl⟩ := T.er.cls
  refine wpAny_call (codeAny_of_tree ?_)
  show wpAny _ _ (callAny (.ref h2.objs.size) ⟨[], []⟩) _ _ _
  simp only [callAny]
  refine wpAny_bind (wpAny_load hu ?_)
  refine KFB.if_so (by simp only [kxs_mw]; decide) ?_
  simp only [kxs_mw]
  refine wpAny_bind (check_bound_init F.excBase_ValueError.toExcCallFacts (k3 _ _ (X₂ _ _ hCl)) (k3 _ _ hx₂) rfl ?_)
  refine wpAny_bind (wpAny_pure (wpAny_pure ?_))
  refine ⟨plainId_quiet F.excBase_ValueError.init.plain _, codeAny_builtin F.excBase_ValueError.initEntry ?_⟩
  refine exc_init_tree (cls := .ref C) (t0 := t0) (dv := none) (c2 := .none) (c3 := .none) (b4 := .bool false) (k3 _ _ hx₂) (by rw [sizeLine_eq]; decide) (fun h4 k4 hx4 htup => ?_)
  show _root_.PySem.wpAt _ _ _ (execs _ _) _ _ _
  have kk : ∀ b o, b ≠ e → s.heap.get? b = some o → h4.get? b = some o := fun b o hb z => k4 b o hb (k3 _ _ (k2 _ _ (k _ _ z)))
  have X4 : K.In h4 := fun a o z => kk a o (fun y => by rw [y, hnx] at z; cases z) (X a o z)
  have hn4 : h4.Ns s.heap.objs.size (fun y => ([("self", Value.ref e), ("value", v)] : List (Str × Value)).reverse.lookup y) := by
    obtain ⟨oL, es, ep, z, r⟩ := hn
    exact ⟨oL, es, ep, k4 _ _ hxL (k3 _ _ (k2 _ _ z)), r⟩
  have hz4 : s.heap.objs.size ≤ h4.objs.size := Nat.le_of_lt hn4.lt
  refine wpAt_of_wpAny (wpAny_execs_cons (plainObj_wpAny_Assign_Attribute ?_))
  refine wpAny_Name (wpAny_loadName_local rfl (by first | rfl | with_unfolding_all rfl) hn4 (v := v) rfl ?_) (by decide)
  refine wpAny_Name (wpAny_loadName_local rfl (by first | rfl | with_unfolding_all rfl) hn4 (v := .ref e) rfl ?_) (by decide)
  refine set_plain X4 (od := none) ⟨hx4, rfl, rfl, trivial⟩ T.er.sa ?_
  refine exc_osa X4 hx4 hcd1 (by rw [hmro]; exact refs_err S) hhd T.er.nv (fun h5 tk5 dx k5 dn dne hx5 hn5 => ?_)
  refine wpAny_execs_nil ?_
  exact hq h5 tk5 dx _ ⟨fun b o hb z => k5 b o hb (kk b o hb z), hx5, Nat.le_trans hz4 dn, dne, hn5⟩
end
end XA
/-! XB: errors over the hand layer: one is made and raised; a try whose error stays known behind it -/
namespace XA
open PySem PySem.W PySem.Calls PyProof.Rows PySem.HandSPX
section
variable {prog : Program} {w : World} {A : Around} {E : Value → Shared → Prop} {K : Frag} {mg mb : Str → Option Value} {C S fI : Addr} {x : Str}
theorem err_made (T : ErM prog K mg x C S fI) {R : Result → Shared → Prop} {s : Shared} {v : Value} (tI : typeIn K (.ref fI) = some (.type "function")) (X : K.In s.heap) (hlim : s.heap.NoLimit) (hg : s.heap.Ns mainGlobals mg) (hb : s.heap.Ns builtinsNs mb) (hbb : ∀ y : Str, y ≠ "__name__" → mb y = bootBuiltins y)
    (hroom : A.depth + 1 < recursionLimit) (hq : ∀ h' tk e d, Made s.heap h' e C d v → R (.ok (.ret (.ref e))) { s with heap := h', toks := tk }) :
    codeAny (model prog w) A (.call (.ref C) ⟨[v], []⟩) R s := by
  obtain ⟨qn, N, bs, sn, sub, ab, col, dd, m0, m1, m2, m3, m5, hCl⟩ := T.er.cls
  obtain ⟨hp, g, dr, tk, os⟩ := s
  have hz1 : [v].length ≤ sizeLine := by rw [sizeLine_eq]; exact (by decide : 1 ≤ 16777216)
  have k : ∀ b o, hp.get? b = some o → ((hp.push (kdv_tup [v])).push (excO C hp.objs.size)).get? b = some o := fun b o z => Heap.get?_push_of_some _ (Heap.get?_push_of_some _ z)
  have hget : ((hp.push (kdv_tup [v])).push (excO C hp.objs.size)).get? (hp.objs.size + 1) = some (excO C hp.objs.size) := by heap_get
  have hnx : K.lookup (hp.objs.size + 1) = none := by
    cases z : K.lookup (hp.objs.size + 1) with
    | none => rfl
    | some o =>
      have y : hp.get? (hp.objs.size + 1) = some o := X _ _ z
      exact absurd (Nat.lt_of_succ_lt (Heap.lt_size y)) (Nat.lt_irrefl _)
  refine call_own F.excBase_ValueError (fun Y => refsVE_contains Y (errTail S) (refs_err S)) (X _ _ hCl) (looks_findIn X T.iC) (fun self => bind_fn X self tI) hz1 ?_
  refine init_walk (s := ⟨(hp.push (kdv_tup [v])).push (excO C hp.objs.size), g, dr, tk, os⟩) T (X.keeps k) (hlim.keeps k) (hg.keeps k) (hb.keeps k) hbb hget hnx hroom fun h' tk' dx t1 ⟨k', hx, dn, dne, hns⟩ => ?_
  have old : ∀ b o, hp.get? b = some o → h'.get? b = some o := fun b o z => k' b o (Nat.ne_of_lt (Nat.lt_succ_of_lt (Heap.lt_size z))) (k b o z)
  have z : hp.objs.size + 1 + 1 ≤ dx := by
    have q := dn
    rw [Heap.size_push, Heap.size_push] at q
    exact q
  exact ⟨rfl, hq h' tk' (hp.objs.size + 1) dx ⟨old, Nat.le_succ _, ⟨_, _, hx, rfl, rfl, rfl, rfl⟩, Nat.le_trans (Nat.le_trans (Nat.le_succ _) (Nat.le_succ _)) z, dne, hns⟩⟩
end
theorem fnTy {P : Program} {K : Frag} {mg : Str → Option Value} {x : Str} {C S fI : Addr} (T : ErM P K mg x C S fI) : typeIn K (.ref fI) = some (.type "function") := by
  obtain ⟨oc, od, Ar, Bd, Sc, q, dV, kV, doc, pm, an, cda, cc, ct, osl, IT, hoc, ho, _⟩ := T.fn
  show (K.lookup fI).map (·.cls) = _
  rw [ho, hoc]; rfl
end XA
namespace L2
open PySem PySem.Spec PyProof.Rows XA
theorem relO_one {f0 : Str} {v : V} {u : Value} (r : RelV v u) (f : Str) : RelO (List.lookup f [(f0, v)]) (if f = f0 then some u else none) := by
  by_cases hw : f = f0
  · subst hw
    rw [if_pos rfl, show List.lookup f [(f, v)] = some v by simp [List.lookup]]
    exact r
  · rw [if_neg hw, show List.lookup f [(f0, v)] = none by simp [List.lookup, beq_eq_false_iff_ne.mpr hw]]
    trivial
section
variable {X : Cx} {x : Str} {C S fI : Addr}
/-- x(e) -/
def tMkE (C : Addr) (ta : TA) : St → Hp → XK → Prop := fun σ H Q => ta σ H fun vs H1 => ∃ v, vs = [v] ∧ ∀ d, H1 d = none → Q (.ref C) (some d) (upd H1 d (.xd [(("value" : Str), v)]))
theorem pmk_err {a : Expr} {ta : TA} {p pos : Pos} {k : Nat} (T : XA.ErM X.prog X.K X.mg x C S fI) (hr : Room k X.A) (ha : PA X [a] ta) (hg : Gl X x)
    (he : starEach (a :: []) X.env = (false, eval a X.env) :: starEach [] X.env := by rfl) (hpl : (backTo pos (starEach [] X.env)).any (·.1) = false := by rfl) (hdb : (x == ("__debug__" : Str)) = false := by decide) :
    PMk X (.Call (.Name x p) [a] [] pos) (tMkE C ta) := by
  intro pins s σ H Q I h
  refine wpAny_Call_Name_kw (ld_glob I hg T.gC ?_ hdb)
  refine PySem.W.callWith_K (h₀ := X.base) I.ok.mod.kin T.er.kp (thn (ha.run pos pins s σ H _ I h) fun us s1 ⟨vs, H1, I1, r1, v, ev, q1⟩ => ?_) he hpl
  subst ev
  refine ⟨I1.kIn, ?_⟩
  cases r1 with
  | @cons _ v' _ us' rv rn =>
    cases rn
    show wpAny _ _ (call (.ref C) [v']) _ _ _
    have hlim := I1.nolimit
    obtain ⟨mb, hb1, hb2⟩ := I1.mod.blt
    have hgl := I1.mod.glob.keeps I1.bk
    have hbl := hb1.keeps I1.bk
    obtain ⟨hp, g, dr, tk, os⟩ := s1
    refine wpAny_call (err_made T (fnTy T) I1.kIn hlim hgl hbl hb2 (by have := hr.dp; omega) fun h' tk' e d M => ?_)
    show MkP X pins σ Q (.ref e) ⟨h', g, dr, tk', os⟩
    obtain ⟨oe, fv, hoe, hc, hd, hdat, h1⟩ := M.obj
    have hns := M.ns
    obtain ⟨G', g1, g2⟩ := restrict h' fun b => decide (b ≠ e)
    have gk : ∀ b, b ≠ e → G'.get? b = h'.get? b := fun b hb => g1 b (decide_eq_true hb)
    have ge : G'.get? e = none := g2 e (by simp)
    have old : ∀ b o, hp.get? b = some o → G'.get? b = some o := fun b o q => (gk b (Nat.ne_of_lt (Nat.lt_of_lt_of_le (Heap.lt_size q) M.new))).trans (M.keep b o q)
    have ob : ObjOk X.prog X.w (upd H1 d (.xd [(("value" : Str), v)])) G' d (.xd [(("value" : Str), v)]) :=
      ⟨_, hns.at (fun o q => (gk d M.dne).trans q), fun f => relO_one rv f⟩
    have J : Inv X pins σ (upd H1 d (.xd [(("value" : Str), v)])) ⟨G', g, dr, tk', os⟩ := I1.laid (t' := tk') old M.dbig ob
    refine ⟨e, oe, fv, ⟨G', g, dr, tk', os⟩, _, .ref C, some d, rfl, J, fun b o q => ?_, ge, hoe, ⟨hc, hd⟩, hdat, h1, ?_, rfl, I1.bare, raises_own (T.er.subT "BaseException" (by decide)) T.er.ty, q1 d (I1.hok.fresh M.dbig)⟩
    · by_cases hb : b = e
      · have q' : G'.get? b = some o := q
        rw [hb, ge] at q'; cases q'
      · exact (gk b hb).symm.trans q
    · rw [upd_ne (Ne.symm M.dne)]
      exact I1.hok.fresh M.new
end
/-! ### try: the error is tracked from the suite on -/
/-- at a: an error of the class at C with its own dict at dd -/
def ErAt (a C dd : Addr) (h : Heap) : Prop := ∃ vs sl, h.get? a = some { cls := .ref C, dict := some dd, data := .fields vs, slots := sl }
def erO (a C dd : Addr) : HO := .ext (ErAt a C dd)
section
variable {X : Cx} {pins : List (Addr × Obj)} {σ : St} {H : Hp} {sI s' : Shared} {B : Heap}
theorem adopt {a C dd : Addr} (I : Inv X pins σ H sI) (nb : ∀ b o, sI.heap.get? b = some o → b ∉ frs X.stack → B.get? b = some o) (st : B.StaysIn s'.heap) (up : sI.heap.UpToSlots s'.heap) (os : s'.os = sI.os) (ag : AllBare s'.gens)
    (nB : B.get? a = none) (nF : a ∉ frs X.stack) (na : H a = none) (ha : ErAt a C dd s'.heap) : Inv X pins σ (upd H a (erO a C dd)) s' := by
  have nI : sI.heap.get? a = none := by
    cases z : sI.heap.get? a with
    | none => rfl
    | some o => rw [nb a o z nF] at nB; cases nB
  have ne : ∀ {b : Addr} {o : Obj}, sI.heap.get? b = some o → b ≠ a := fun {b o} z y => by rw [y, nI] at z; cases z
  have nf : ∀ b ∈ frs X.stack, ∀ o, sI.heap.get? b = some o → ∃ sl, s'.heap.get? b = some { o with slots := sl } := fun b hb o e => by
    obtain ⟨_, o', e', hd⟩ := I.stack.mem hb
    rw [e] at e'
    cases e'
    exact up b o e hd
  have hok0 : HOk X.prog X.w H s'.heap := (I.inGround nb).kept st
  have hok : HOk X.prog X.w (upd H a (erO a C dd)) s'.heap := fun b o q => by
    by_cases hb : b = a
    · subst hb
      rw [upd_same] at q
      cases q
      obtain ⟨vs, sl, hv⟩ := ha
      exact ⟨⟨vs, sl, hv⟩, ⟨_, hv⟩, fun h1 h2 z kk => by
        obtain ⟨vs', sl', z'⟩ := z
        exact ⟨vs', sl', kk _ z'⟩⟩
    · rw [upd_ne hb] at q
      refine (hok0 b o q).stay (fun c v _ z => z) (fun c hc => ?_) fun c xs hc => ?_
      · rw [upd_ne (fun z => by rw [z, na] at hc; cases hc)]; exact hc
      · rw [upd_ne (fun z => by rw [z, na] at hc; cases hc)]; exact hc
  have no : ∀ {b : Addr} {o : HO}, H b = some o → upd H a (erO a C dd) b = some o := fun {b o} z => by
    rw [upd_ne (fun y => by rw [y, na] at z; cases z)]; exact z
  have J := I.call (ch := []) (h' := s'.heap) (g' := s'.gens) (t' := s'.toks) (d' := s'.drawn) (H' := upd H a (erO a C dd))
    ⟨fun b o e _ hb _ => st b o (nb b o e hb), fun b o e _ hb _ => nf b hb o e, fun b o e n _ => by rw [upd_ne (ne e)]; exact n, fun b o e _ => by
      by_cases hb : b ∈ frs X.stack
      · obtain ⟨sl, q⟩ := nf b hb o e
        exact ⟨_, q⟩
      · exact ⟨o, st b o (nb b o e hb)⟩, fun _ _ e => no e, fun _ _ _ e => no e, fun b ps e => ⟨#[], by rw [no e]; simp⟩⟩
    hok ag (fun _ z => nomatch z)
  obtain ⟨a1, a2, a3, a4, a5⟩ := s'
  have e5 : a5 = sI.os := os
  subst e5
  exact J
end
/-- the context of a suite, the error being tracked -/
abbrev sui (X : Cx) (a : Addr) (pn : List (Addr × Obj)) : Cx := X.suite a pn
section
variable {X : Cx} {pins : List (Addr × Obj)} {σ : St} {H : Hp} {s : Shared} {a : Addr}
theorem toSui (I : Inv X pins σ H s) : Inv (sui X a (X.pn ++ pins)) [] σ H s :=
  ⟨I.ok.suite _ _, I.os, I.bare, I.base, I.loc, I.cell, I.free, I.freeC, fun p hp => I.pin p (by rw [List.append_nil] at hp; exact hp), I.hok, I.len⟩
theorem ofSui {pn' : List (Addr × Obj)} (I : Inv (sui X a (X.pn ++ pins)) pn' σ H s) (ok : X.Ok) : Inv X pins σ H s :=
  ⟨ok, I.os, I.bare, I.base, I.loc, I.cell, I.free, I.freeC, fun p hp => I.pin p (List.mem_append_left _ hp), I.hok, I.len⟩
end
/-- what 'except c as n' wishes of an error of the body, slot i being n's -/
def wSui (K : PySem.W.Frag) (c : Value) (i : Nat) (ts : TS) (Wout : WX) (D : Ends) : WX := fun cls d σ H => ∃ (C dd : Addr), cls = .ref C ∧ d = some dd ∧
  ∃ b, PySem.W.exmOne K cls c = some b ∧ (b = true → ∀ a, H a = none → ts { nx := fun σ' H' => D.nx (σ'.set i none) H', rt := D.rt, bk := fun σ' H' => D.bk (σ'.set i none) H', ct := fun σ' H' => D.ct (σ'.set i none) H' } (σ.set i (some (.ref a))) (upd H a (erO a C dd))) ∧ (b = false → Wout cls d σ H)
section
variable {X : Cx} {x n : Str} {c : Value} {i : Nat} {body suite : List Stmt} {b₀ : Stmt} {np pos pos' : Pos} {tb : WX → TS} {ts : TS} {Wout : WX}
theorem ps_try_sui (hs : X.stack = X.env :: X.outer) (hf : X.env.frame = some X.env.locals) (hN : X.N.Nodup) (hi : X.N[i]? = some n) (hln : X.env.kindOf n = some .local) (hc : Names X x c) (tk : Takes X Wout)
    (hb : ∀ (W : WX) (pn : List (Addr × Obj)) (xe : Value → Shared → Prop), Takes (X.tr pn xe) W → PassesOwn (model X.prog X.w) X.A X.env xe → PSs (X.tr pn xe) body (tb W))
    (hsu : ∀ (a : Addr) (pn : List (Addr × Obj)), PSs (sui X a pn) (b₀ :: suite) ts) :
    PS X (.Try body [.ExceptHandler (some (.Name x np)) (some n) (b₀ :: suite) pos'] [] [] pos) (fun D σ H => tb (wSui X.K c i ts Wout D) D σ H) := by
  refine ⟨fun pins s σ H D I h => ?_⟩
  have okX := I.ok
  have hfr : X.A.frames = some (X.env :: X.outer) := by rw [okX.frames, hs]
  refine wpAny_Try_except ?_
  refine wpAny_mono ((hb (wSui X.K c i ts Wout D) (X.pn ++ pins) (fun e s₁ => wpAny (model X.prog X.w) X.A (noteFrame e X.env) (fun _ s₂ => wpAny (model X.prog X.w) X.A (setFlight e none) (fun _ s₃ =>
    wpAny (model X.prog X.w) X.A (handleBy e X.env [.ExceptHandler (some (.Name x np)) (some n) (b₀ :: suite) pos']) (SP X pins D) X.xe s₃) X.xe s₂) X.xe s₁) (fun u s1 xx => ?_) PassesOwn.looking).run [] s σ H D (I.toTry _) h)
    (fun fl s1 hsp => ?_) (fun _ _ y => y)
  · obtain ⟨a, B, sI, pins1, σ1, H1, cls, d, rfl, J0, nb, up, sky, na, os, ag, C, dd, rfl, rfl, b, hb1, hyes, hno⟩ := xx
    have J : Inv X pins σ1 H1 sI := J0.ofTry okX
    have skyX : Sky B (X.env :: X.outer) a (Zc (.ref C) (some dd)) X.env.locals s1.heap := by rw [← hs]; exact sky
    refine Sky.land Zc.steady hfr hf skyX fun h3 fly3 up3 => ?_
    have J3 : Inv X pins σ1 H1 { s1 with heap := h3 } := J.landed nb fly3.1 (up.trans up3) os ag
    obtain ⟨oe3, vs3, he3, hz3, hd3⟩ := fly3.there
    have nFr : a ∉ frs (X.env :: X.outer) := fun hm => by
      obtain ⟨_, o', e', hnf⟩ := fly3.2.2.1.mem hm
      rw [he3] at e'
      cases e'
      exact hnf _ hd3
    refine wpAny_handleBy_cons (codeAny_handlers_test ?_) (by intro z; cases z)
    have LT : PySem.W.Looks (model X.prog X.w) h3 (typeOf (.ref a)) (.ref C) := fun A Q E s k q => wpAny_typeOf_ref (k _ _ he3) (by rw [hz3.1]; exact q)
    have LM := PySem.W.exm_one (M := model X.prog X.w) J3.kIn LT hb1
    have test : ∀ {Q : Value → Shared → Prop} {E : Value → Shared → Prop}, Q c { s1 with heap := h3 } → wpAny (model X.prog X.w) (X.A.mark (some (.ref a))) (eval (.Name x np) X.env) Q E { s1 with heap := h3 } := fun {Q E} q => by
      have S3 := toSui (a := a) J3
      obtain ⟨g1, g2, m1 | ⟨m1, m2, m3⟩⟩ := hc
      · exact ld_glob (X := sui X a (X.pn ++ pins)) S3 g1 m1 q g2
      · exact ld_blt (X := sui X a (X.pn ++ pins)) S3 g1 m1 m2 q m3 g2
    refine test (LM.here ?_)
    cases b with
    | true =>
      refine codeAny_handlers_suite_as (HandSPX.lands_againZ fly3 fun h4 fly4 up4 => ?_)
      obtain ⟨oe4, vs4, he4, hz4, hd4⟩ := fly4.there
      have hat : ErAt a C dd h4 := by
        obtain ⟨z1, z2⟩ := hz4
        obtain ⟨q1, q2, q3, q4⟩ := oe4
        dsimp only at z1 z2 hd4
        subst z1 z2 hd4
        exact ⟨_, _, he4⟩
      have J4 : Inv X pins σ1 (upd H1 a (erO a C dd)) { s1 with heap := h4 } := adopt J nb fly4.1 ((up.trans up3).trans up4) os ag fly4.2.1 (by rw [hs]; exact nFr) na hat
      refine store_ok (X := sui X a (X.pn ++ pins)) (v := .ref a) (toSui (a := a) J4) hN hi (.inl hln) rfl (fun s5 S5 => ?_) (.inr hln)
      refine wpAny_mono ((hsu a (X.pn ++ pins)).run [] s5 _ _ _ S5 (hyes rfl a na)) (fun fl s6 hsp => ?_) (fun _ _ z => False.elim z)
      have away : ∀ {σ6 : St} {H6 : Hp} {Q : Shared → Prop}, Inv (sui X a (X.pn ++ pins)) [] σ6 H6 s6 → (∀ s7, Inv X pins (σ6.set i none) H6 s7 → Q s7) →
          wpAny (model X.prog X.w) X.A (do bindName X.env n .none; unbindBehindTheSuite X.env n pos') (fun _ s7 => Q s7) X.xe s6 := fun {σ6 H6 Q} S6 q => gone_ok (ofSui S6 okX) hN hi hln q
      match fl, hsp with
      | .next, ⟨σ6, H6, S6, q6⟩ => exact away S6 fun s7 J7 => ⟨_, _, J7, q6⟩
      | .brk, ⟨σ6, H6, S6, q6⟩ => exact away S6 fun s7 J7 => ⟨_, _, J7, q6⟩
      | .cont, ⟨σ6, H6, S6, q6⟩ => exact away S6 fun s7 J7 => ⟨_, _, J7, q6⟩
      | .ret u, ⟨v6, σ6, H6, S6, r6, q6⟩ => exact away S6 fun s7 J7 => ⟨_, _, _, J7, r6, q6⟩
    | false =>
      show wpAny _ X.A (handleBy (.ref a) X.env []) _ _ _
      refine wpAny_handleBy_nil ?_
      obtain ⟨k1, k2, k3, oe, vs, T, oT, ts', he, hz, hd, h1, hr⟩ := id fly3
      unfold PySem.passOn
      refine wpAny_bind (wpAny_field he hd h1 ?_)
      rw [if_neg (show ¬ ((Value.ref T == Value.none) = true) from by simp)]
      have onward : wpAny (model X.prog X.w) X.A (setFlight (.ref a) X.env.frame) (fun _ s4 => wpAny (model X.prog X.w) X.A (throw (.ref a) : Sem Flow) (SP X pins D) X.xe s4) X.xe { s1 with heap := h3 } := by
        rw [hf]
        refine HandSPX.setFlight_upZ fly3 fun h4 hh4 up4 => wpAny_throw (tk _ _ ⟨a, B, sI, pins, σ1, H1, .ref C, some dd, rfl, J, nb, (up.trans up3).trans up4, .inr (.inr (by rw [hs]; exact hh4)), na, os, ag, hno rfl⟩)
      first
        | exact wpAny_bind (wpAny_pure (wpAny_bind onward))
        | exact wpAny_bind onward
  · match fl, hsp with
    | .next, ⟨σ', H', J', q⟩ => exact wpAny_execs_nil ⟨σ', H', J'.ofTry okX, q⟩
    | .brk, ⟨σ', H', J', q⟩ => exact ⟨σ', H', J'.ofTry okX, q⟩
    | .cont, ⟨σ', H', J', q⟩ => exact ⟨σ', H', J'.ofTry okX, q⟩
    | .ret u, ⟨v, σ', H', J', r, q⟩ => exact ⟨v, σ', H', J'.ofTry okX, r, q⟩
end
end L2
namespace XA
open PySem PySem.W PySem.Calls PyProof.Rows PySem.HandSPX
/-- the common class -/
theorem shC_mk {K : Frag} {S N : Addr} {q : Str} {bs : List Value} {sn : List Str} {sub : List Value} {ab : Bool} {col : Option Bool} {dd : Option Addr} {k0 k1 k2 k3 k5 : Option Value} (ns : nsIn K mainGlobals "SheetError" = some (some (.ref S)))
    (lk : K.lookup S = some (excClassObj "SheetError" q S N bs [.type "ValueError", .type "Exception", .type "BaseException", .type "object"] true sn sub ab col dd k0 k1 k2 k3 k5 "ValueError.__new__")) : ShC K S :=
  ⟨ns, ⟨q, N, bs, sn, sub, ab, col, dd, k0, k1, k2, k3, k5, lk⟩⟩
/-- an error's class, from what the top has left -/
theorem erM_mk {P : Program} {K : Frag} {h : Heap} {mg : Str → Option Value} {x : Str} {C S fI N cda cc td : Addr} {q qf : Str} {bs : List Value} {sn : List Str} {sub : List Value} {ab : Bool} {col : Option Bool} {dd : Option Addr} {k0 k1 k2 k3 k5 : Option Value}
    {A : Arguments} {B : List Stmt} {Sc : Scope} {od an : Option Addr} {kV doc pm ct : Value} {osl : Array (Option Value)} {c1 c2 c3 : Value} {d1 d2 d3 : Option Addr} {sl1 sl2 sl3 : Array (Option Value)} {n : Nat} {vs : Array Value} {file : Str} {tf : Tok}
    (X : K.In h) (G : h.Ns mainGlobals mg) (sh : ShC K S) (it : InitTxt A B Sc) (ne : x ≠ "SheetError")
    (ns : nsIn K mainGlobals x = some (some (.ref C)))
    (lk : K.lookup C = some (excClassObj x q C N bs [.ref S, .type "ValueError", .type "Exception", .type "BaseException", .type "object"] true sn sub ab col dd k0 k1 k2 k3 k5 "ValueError.__new__"))
    (sa : findIn K (.ref C) "__setattr__" = some (some (.builtin "object.__setattr__"))) (ga : findIn K (.ref C) "__getattribute__" = some (some (.builtin "BaseException.__getattribute__"))) (gg : findIn K (.ref C) "__getattr__" = some none)
    (nv : findIn K (.ref C) "value" = some none) (kp : keepIn K (.ref C) = true) (hc : findIn K (.ref C) "__class__" = some (some (.builtin "object.__class__")))
    (gs : specialIn K (.builtin "object.__class__") "__get__" = some (some (.builtin "getset_descriptor.__get__"))) (tk : takesIn K (.builtin "object.__class__") = some true)
    (iC : findIn K (.ref C) "__init__" = some (some (.ref fI))) (sup : alongIn K "__init__" [.ref S, .type "ValueError", .type "Exception", .type "BaseException", .type "object"] = some (some (.builtin "ValueError.__init__")))
    (any : nsIn K cStatics "thirdparty.any" = some none) (msup : nsIn K mainGlobals "super" = some none)
    (lf : K.lookup fI = some ⟨.type "function", od, .func (fnX "__init__" qf A B Sc [("__class__", cc)] (.ref td) kV doc pm an (.ref cda) ct), osl⟩) (cd : codeIn K (.ref cda) qf = true)
    (lc : K.lookup cc = some ⟨c1, d1, .cell (some (.ref C)), sl1⟩) (lt : K.lookup td = some ⟨c2, d2, .seq #[.none] n, sl2⟩) (lv : K.lookup cda = some ⟨c3, d3, .fields vs, sl3⟩) (hv : vs[2]? = some (.str file tf)) (hf : ((P.main.file : Str) == file) = true)
    (top : (P.main.scope.names.lookup ("super" : Str)).isSome = false) : ∃ C S fI, ErM P K mg x C S fI :=
  ⟨C, S, fI, ⟨⟨ns, sh, ne, ⟨q, N, bs, sn, sub, ab, col, dd, k0, k1, k2, k3, k5, lk⟩, sa, ga, gg, nv, kp, hc, gs, tk⟩, mg_of X G ns, iC, sup, any, mg_none_of X G msup,
    ⟨_, od, A, B, Sc, qf, _, kV, doc, pm, an, cda, cc, ct, osl, it, rfl, lf, cd, ⟨c1, d1, sl1, lc⟩, ⟨td, c2, d2, n, sl2, rfl, lt⟩, ⟨c3, d3, vs, sl3, file, tf, lv, hv, hf⟩⟩, top⟩⟩
end XA
/-! DL1: data D, what represents it, the state of a def as plain data, the judgements -/
namespace DL
open PySem PySem.Spec PyProof.Rows L2
inductive D where
  | non
  | bl (b : Bool)
  | int (i : Int)
  | str (x : Str)
  | tup (l : List D)
  | lst (l : List D)
  | dct0
  | scr (ns : List Int)
  | own (k : Nat)
  | exc (x : Str) (d : D)
  | glb (x : Str)
  | val (v : V)
abbrev St := L2.St
abbrev Env := List (Option D)
inductive Own where
  | lst (ds : List D)
  | dead
abbrev Mem := List Own
/-- where the owned cells stand; the lists that are being made out of sight -/
structure Ph where
  cells : List Addr
  hid : List (Addr × HO)
abbrev Ph.add (ph : Ph) (p : Addr) : Ph := { ph with cells := ph.cells ++ [p] }
abbrev Ph.cut (ph : Ph) (n : Nat) : Ph := { ph with cells := ph.cells.take n }
abbrev fVal : Str := "value"
/-- a tuple that stands still: one that was made, or one of the module's -/
def TupK (K : PySem.W.Frag) (S : Hp) (a : Addr) (xs : List V) : Prop := S a = some (.tup xs) ∨
  ∃ (o : Obj) (its : Array Value) (n : Nat), K.lookup a = some o ∧ o.cls = .type "tuple" ∧ o.data = .seq its n ∧ its.size ≤ sizeLine ∧ Vals xs its.toList
theorem TupK.ext {K : PySem.W.Frag} {S S' : Hp} {a : Addr} {xs : List V} (h : TupK K S a xs) (s : Same S S') : TupK K S' a xs := h.imp (fun z => s _ _ z) fun z => z
theorem TupK.sq {K : PySem.W.Frag} {S H : Hp} {a : Addr} {xs : List V} (h : TupK K S a xs) (s : Same S H) : SqT K H a xs := h.elim (fun z => SqT.of (s _ _ z)) .inr
mutual
inductive Rep (K : PySem.W.Frag) (ph : Ph) (S : Hp) : V → D → Prop
  | non : Rep K ph S .non .non
  | bl (b : Bool) : Rep K ph S (.bl b) (.bl b)
  | int (i : Int) : Rep K ph S (.int i) (.int i)
  | str (x : Str) : Rep K ph S (.str x) (.str x)
  | tup {a : Addr} {xs : List V} {ds : List D} : TupK K S a xs → RepAll K ph S xs ds → Rep K ph S (.ref a) (.tup ds)
  | lst {a : Addr} {xs : List V} {ds : List D} : S a = some (.lst xs) → RepAll K ph S xs ds → Rep K ph S (.ref a) (.lst ds)
  | scr {a : Addr} {ns : List Int} : SqL K S a (ns.map V.int) → Rep K ph S (.ref a) (.scr ns)
  | dct0 {a : Addr} : S a = some (.dK []) → Rep K ph S (.ref a) .dct0
  | own {a : Addr} {k : Nat} : ph.cells[k]? = some a → Rep K ph S (.ref a) (.own k)
  | exc {a C T dd : Addr} {x : Str} {v : V} {d : D} : XA.ErC K x C T → S a = some (erO a C dd) → S dd = some (.xd [(fVal, v)]) → Rep K ph S v d → Rep K ph S (.ref a) (.exc x d)
  | glb {a : Addr} {x : Str} : PySem.W.nsIn K mainGlobals x = some (some (.ref a)) → Rep K ph S (.ref a) (.glb x)
  | val (v : V) : Rep K ph S v (.val v)
inductive RepAll (K : PySem.W.Frag) (ph : Ph) (S : Hp) : List V → List D → Prop
  | nil : RepAll K ph S [] []
  | cons {v : V} {vs : List V} {d : D} {ds : List D} : Rep K ph S v d → RepAll K ph S vs ds → RepAll K ph S (v :: vs) (d :: ds)
end
structure Ext (ph : Ph) (S : Hp) (ph' : Ph) (S' : Hp) : Prop where
  pre : ∀ (k : Nat) (a : Addr), ph.cells[k]? = some a → ph'.cells[k]? = some a
  same : Same S S'
  hid : ph'.hid = ph.hid
theorem Ext.refl {ph : Ph} {S : Hp} : Ext ph S ph S := ⟨fun _ _ h => h, fun _ _ h => h, rfl⟩
theorem Ext.trans {ph ph1 ph2 : Ph} {S S1 S2 : Hp} (a : Ext ph S ph1 S1) (b : Ext ph1 S1 ph2 S2) : Ext ph S ph2 S2 :=
  ⟨fun k x h => b.pre k x (a.pre k x h), a.same.trans b.same, b.hid.trans a.hid⟩
section
variable {K : PySem.W.Frag} {ph ph' : Ph} {S S' : Hp}
mutual
theorem Rep.ext (x : Ext ph S ph' S') : ∀ (d : D) (v : V), Rep K ph S v d → Rep K ph' S' v d
  | .non, _, h => by cases h; exact .non
  | .bl _, _, h => by cases h; exact .bl _
  | .int _, _, h => by cases h; exact .int _
  | .str _, _, h => by cases h; exact .str _
  | .tup ds, _, h => by
    cases h with
    | tup h1 h2 => exact .tup (h1.ext x.same) (RepAll.ext x ds _ h2)
  | .lst ds, _, h => by
    cases h with
    | lst h1 h2 => exact .lst (x.same _ _ h1) (RepAll.ext x ds _ h2)
  | .dct0, _, h => by
    cases h with
    | dct0 h1 => exact .dct0 (x.same _ _ h1)
  | .scr ns, _, h => by
    cases h with
    | scr h1 => exact .scr (x.same.seq h1)
  | .own k, _, h => by
    cases h with
    | own h1 => exact .own (x.pre _ _ h1)
  | .glb _, _, h => by
    cases h with
    | glb h1 => exact .glb h1
  | .exc C d, _, h => by
    cases h with
    | exc h0 h1 h2 h3 => exact .exc h0 (x.same _ _ h1) (x.same _ _ h2) (Rep.ext x d _ h3)
  | .val v, _, h => by cases h; exact .val _
theorem RepAll.ext (x : Ext ph S ph' S') : ∀ (ds : List D) (vs : List V), RepAll K ph S vs ds → RepAll K ph' S' vs ds
  | [], _, h => by cases h; exact .nil
  | d :: ds, _, h => by
    cases h with
    | cons h1 h2 => exact .cons (Rep.ext x d _ h1) (RepAll.ext x ds _ h2)
end
theorem Rep.up {d : D} {v : V} (h : Rep K ph S v d) (x : Ext ph S ph' S') : Rep K ph' S' v d := Rep.ext x d v h
theorem RepAll.up {ds : List D} {vs : List V} (h : RepAll K ph S vs ds) (x : Ext ph S ph' S') : RepAll K ph' S' vs ds := RepAll.ext x ds vs h
theorem RepAll.len : ∀ {vs : List V} {ds : List D}, RepAll K ph S vs ds → vs.length = ds.length
  | _, _, .nil => rfl
  | _, _, .cons _ t => by rw [List.length_cons, List.length_cons, RepAll.len t]
theorem RepAll.get : ∀ {vs : List V} {ds : List D} {i : Nat} {d : D}, RepAll K ph S vs ds → ds[i]? = some d → ∃ v, vs[i]? = some v ∧ Rep K ph S v d
  | _, _, _, _, .nil, e => by simp at e
  | _, _, 0, _, .cons r _, e => by simp at e; subst e; exact ⟨_, rfl, r⟩
  | _, _, i + 1, _, .cons _ t, e => by
    obtain ⟨v, e1, r⟩ := RepAll.get (i := i) t (by simpa using e)
    exact ⟨v, by simpa using e1, r⟩
theorem RepAll.app : ∀ {vs ws : List V} {ds es : List D}, RepAll K ph S vs ds → RepAll K ph S ws es → RepAll K ph S (vs ++ ws) (ds ++ es)
  | _, _, _, _, .nil, q => q
  | _, _, _, _, .cons r t, q => .cons r (RepAll.app t q)
theorem RepAll.take : ∀ {vs : List V} {ds : List D} (n : Nat), RepAll K ph S vs ds → RepAll K ph S (vs.take n) (ds.take n)
  | _, _, 0, _ => .nil
  | _, _, _ + 1, .nil => .nil
  | _, _, n + 1, .cons r t => .cons r (RepAll.take n t)
theorem RepAll.drop : ∀ {vs : List V} {ds : List D} (n : Nat), RepAll K ph S vs ds → RepAll K ph S (vs.drop n) (ds.drop n)
  | _, _, 0, r => r
  | _, _, _ + 1, .nil => .nil
  | _, _, n + 1, .cons r t => RepAll.drop n t
theorem RepAll.set {v : V} {d : D} (r : Rep K ph S v d) : ∀ {vs : List V} {ds : List D} (i : Nat), RepAll K ph S vs ds → RepAll K ph S (vs.set i v) (ds.set i d)
  | _, _, _, .nil => .nil
  | _, _, 0, .cons _ t => .cons r t
  | _, _, i + 1, .cons q t => .cons q (RepAll.set r i t)
theorem RepAll.rep {v : V} {d : D} (r : Rep K ph S v d) : ∀ n : Nat, RepAll K ph S (List.replicate n v) (List.replicate n d)
  | 0 => .nil
  | n + 1 => .cons r (RepAll.rep r n)
theorem RepAll.ints : ∀ ns : List Int, RepAll K ph S (ns.map V.int) (ns.map D.int)
  | [] => .nil
  | n :: ns => .cons (.int n) (RepAll.ints ns)
end
/-- the state (σ, H) is told by the names' data ρ and the owned cells M -/
structure Sat (K : PySem.W.Frag) (ph : Ph) (S : Hp) (r : Env) (M : Mem) (σ : St) (H : Hp) : Prop where
  sub : Same S H
  len : ph.cells.length = M.length
  nd : ph.cells.Nodup
  trk : ∀ (k : Nat) (a : Addr), ph.cells[k]? = some a → ∃ o, H a = some o
  cell : ∀ (k : Nat) (ds : List D), M[k]? = some (.lst ds) → ∃ a xs, ph.cells[k]? = some a ∧ S a = none ∧ H a = some (.lst xs) ∧ RepAll K ph S xs ds
  hid : ∀ p ∈ ph.hid, H p.1 = some p.2 ∧ S p.1 = none ∧ p.1 ∉ ph.cells
  hnd : (ph.hid.map (·.1)).Nodup
  el : r.length = σ.length
  env : ∀ (i : Nat) (d : D), r[i]? = some (some d) → ∃ v, σ[i]? = some (some v) ∧ Rep K ph S v d
abbrev DQ := D → Mem → Prop
abbrev DTE := Env → Mem → DQ → Prop
abbrev DTT := Env → Mem → (Bool → Mem → Prop) → Prop
abbrev DTA := Env → Mem → (List D → Mem → Prop) → Prop
structure DEnds where
  nx : Env → Mem → Prop
  rt : DQ
  bk : Env → Mem → Prop := fun _ _ => False
  ct : Env → Mem → Prop := fun _ _ => False
abbrev DTS := DEnds → Env → Mem → Prop
/-- behind a piece, from (ph, S): the state as it is then, and what is wanted of it -/
def Aft (K : PySem.W.Frag) (ph : Ph) (S : Hp) (r : Env) (σ : St) (H : Hp) (Q : Ph → Hp → Mem → Prop) : Prop :=
  ∃ ph' S' M, Ext ph S ph' S' ∧ Sat K ph' S' r M σ H ∧ Q ph' S' M
def post (K : PySem.W.Frag) (ph : Ph) (S : Hp) (r : Env) (σ : St) (Q : DQ) : VK := fun v H => Aft K ph S r σ H fun ph' S' M => ∃ d, Rep K ph' S' v d ∧ Q d M
def postT (K : PySem.W.Frag) (ph : Ph) (S : Hp) (r : Env) (σ : St) (Q : Bool → Mem → Prop) : Bool → Hp → Prop := fun b H => Aft K ph S r σ H fun _ _ M => Q b M
def postA (K : PySem.W.Frag) (ph : Ph) (S : Hp) (r : Env) (σ : St) (Q : List D → Mem → Prop) : List V → Hp → Prop := fun vs H => Aft K ph S r σ H fun ph' S' M => ∃ ds, RepAll K ph' S' vs ds ∧ Q ds M
def postN (K : PySem.W.Frag) (ph : Ph) (S : Hp) (Q : Env → Mem → Prop) : St → Hp → Prop := fun σ H => ∃ r, Aft K ph S r σ H fun _ _ M => Q r M
/-- behind a return the names are gone -/
def postR (K : PySem.W.Frag) (ph : Ph) (S : Hp) (Q : DQ) : VK := fun v H => ∃ r σ, post K ph S r σ Q v H
structure DE (X : Cx) (e : Expr) (t : DTE) : Prop where
  pe : PE X e (fun σ H Q => ∃ ph S r M Q0, Sat X.K ph S r M σ H ∧ t r M Q0 ∧ ∀ v H', post X.K ph S r σ Q0 v H' → Q v H')
structure DT (X : Cx) (e : Expr) (t : DTT) : Prop where
  pt : PT X e (fun σ H Q => ∃ ph S r M Q0, Sat X.K ph S r M σ H ∧ t r M Q0 ∧ ∀ b H', postT X.K ph S r σ Q0 b H' → Q b H')
structure DW (X : Cx) (e : Expr) (t : DTT) : Prop where
  pw : PW X e (fun σ H Q => ∃ ph S r M Q0, Sat X.K ph S r M σ H ∧ t r M Q0 ∧ ∀ b H', postT X.K ph S r σ Q0 b H' → Q b H')
structure DA (X : Cx) (es : List Expr) (t : DTA) : Prop where
  pa : PA X es (fun σ H Q => ∃ ph S r M Q0, Sat X.K ph S r M σ H ∧ t r M Q0 ∧ ∀ vs H', postA X.K ph S r σ Q0 vs H' → Q vs H')
def lfS (K : PySem.W.Frag) (t : DTS) : TS := fun E σ H => ∃ ph S r M E0, Sat K ph S r M σ H ∧ t E0 r M ∧ (∀ σ' H', postN K ph S E0.nx σ' H' → E.nx σ' H') ∧ (∀ v H', postR K ph S E0.rt v H' → E.rt v H') ∧ (∀ σ' H', postN K ph S E0.bk σ' H' → E.bk σ' H') ∧ (∀ σ' H', postN K ph S E0.ct σ' H' → E.ct σ' H')
structure DS (X : Cx) (st : Stmt) (t : DTS) : Prop where
  ps : PS X st (lfS X.K t)
structure DSs (X : Cx) (sts : List Stmt) (t : DTS) : Prop where
  pss : PSs X sts (lfS X.K t)
/-! ### weakening the hand layer's judgements -/
section
variable {X : Cx}
theorem PE.weak {e : Expr} {t t' : TE} (h : PE X e t) (w : ∀ σ H Q, t' σ H Q → t σ H Q) : PE X e t' := ⟨fun pins s σ H Q I q => h.run pins s σ H Q I (w _ _ _ q)⟩
theorem PT.weak {e : Expr} {t t' : TT} (h : PT X e t) (w : ∀ σ H Q, t' σ H Q → t σ H Q) : PT X e t' := ⟨fun pins s σ H Q I q => h.run pins s σ H Q I (w _ _ _ q)⟩
theorem PW.weak {e : Expr} {t t' : TT} (h : PW X e t) (w : ∀ σ H Q, t' σ H Q → t σ H Q) : PW X e t' := ⟨fun wh pins s σ H Q I q => h.run wh pins s σ H Q I (w _ _ _ q)⟩
theorem PA.weak {e : List Expr} {t t' : TA} (h : PA X e t) (w : ∀ σ H Q, t' σ H Q → t σ H Q) : PA X e t' := ⟨fun pos pins s σ H Q I q => h.run pos pins s σ H Q I (w _ _ _ q)⟩
theorem PS.weak {e : Stmt} {t t' : TS} (h : PS X e t) (w : ∀ E σ H, t' E σ H → t E σ H) : PS X e t' := ⟨fun pins s σ H Q I q => h.run pins s σ H Q I (w _ _ _ q)⟩
theorem PSs.weak {e : List Stmt} {t t' : TS} (h : PSs X e t) (w : ∀ E σ H, t' E σ H → t E σ H) : PSs X e t' := ⟨fun pins s σ H Q I q => h.run pins s σ H Q I (w _ _ _ q)⟩
/-- from a rule of the hand layer -/
theorem DE.of {e : Expr} {t' : TE} {t : DTE} (h : PE X e t') (w : ∀ ph S r M σ H Q, Sat X.K ph S r M σ H → t r M Q → ∀ Q', (∀ v H', post X.K ph S r σ Q v H' → Q' v H') → t' σ H Q') : DE X e t :=
  ⟨PE.weak h fun σ H Q ⟨ph, S, r, M, Q0, hs, ht, hq⟩ => w ph S r M σ H Q0 hs ht Q hq⟩
theorem DT.of {e : Expr} {t' : TT} {t : DTT} (h : PT X e t') (w : ∀ ph S r M σ H Q, Sat X.K ph S r M σ H → t r M Q → ∀ Q', (∀ v H', postT X.K ph S r σ Q v H' → Q' v H') → t' σ H Q') : DT X e t :=
  ⟨PT.weak h fun σ H Q ⟨ph, S, r, M, Q0, hs, ht, hq⟩ => w ph S r M σ H Q0 hs ht Q hq⟩
theorem DW.of {e : Expr} {t' : TT} {t : DTT} (h : PW X e t') (w : ∀ ph S r M σ H Q, Sat X.K ph S r M σ H → t r M Q → ∀ Q', (∀ v H', postT X.K ph S r σ Q v H' → Q' v H') → t' σ H Q') : DW X e t :=
  ⟨PW.weak h fun σ H Q ⟨ph, S, r, M, Q0, hs, ht, hq⟩ => w ph S r M σ H Q0 hs ht Q hq⟩
theorem DA.of {e : List Expr} {t' : TA} {t : DTA} (h : PA X e t') (w : ∀ ph S r M σ H Q, Sat X.K ph S r M σ H → t r M Q → ∀ Q', (∀ v H', postA X.K ph S r σ Q v H' → Q' v H') → t' σ H Q') : DA X e t :=
  ⟨PA.weak h fun σ H Q ⟨ph, S, r, M, Q0, hs, ht, hq⟩ => w ph S r M σ H Q0 hs ht Q hq⟩
/-- the end of a reading: this value, this state -/
theorem Aft.here {K : PySem.W.Frag} {ph : Ph} {S : Hp} {r : Env} {σ : St} {H : Hp} {M : Mem} {Q : Ph → Hp → Mem → Prop} (h : Sat K ph S r M σ H) (q : Q ph S M) : Aft K ph S r σ H Q := ⟨ph, S, M, .refl, h, q⟩
theorem Aft.up {K : PySem.W.Frag} {ph ph1 : Ph} {S S1 : Hp} {r : Env} {σ : St} {H : Hp} {Q : Ph → Hp → Mem → Prop} (x : Ext ph S ph1 S1) (h : Aft K ph1 S1 r σ H Q) : Aft K ph S r σ H Q :=
  let ⟨ph', S', M, x', hs, q⟩ := h
  ⟨ph', S', M, x.trans x', hs, q⟩
/-! ### the simplest expressions -/
def dC (d : D) : DTE := fun _ M Q => Q d M
theorem de_c {e : Expr} {v : V} {d : D} (h : PE X e (tC v)) (hr : ∀ ph S, Rep X.K ph S v d) : DE X e (dC d) :=
  DE.of h fun ph S r M σ H Q hs ht Q' hq => hq _ _ (Aft.here hs ⟨d, hr _ _, ht⟩)
theorem de_int {i j pos} : DE X (.Constant (.int i) j pos) (dC (.int i)) := de_c pe_int fun _ _ => .int _
theorem de_bl {b j pos} : DE X (.Constant (.bool b) j pos) (dC (.bl b)) := de_c pe_bl fun _ _ => .bl _
theorem de_non {j pos} : DE X (.Constant .none j pos) (dC .non) := de_c pe_non fun _ _ => .non
def dVar (i : Nat) : DTE := fun r M Q => match r[i]? with
  | some (some d) => Q d M
  | _ => False
theorem de_var {e : Expr} (i : Nat) (h : PE X e (tVar i)) : DE X e (dVar i) :=
  DE.of h fun ph S r M σ H Q hs ht Q' hq => by
    unfold dVar at ht
    split at ht
    · rename_i d e
      obtain ⟨v, e1, rv⟩ := hs.env i d e
      exact ⟨v, e1, hq _ _ (Aft.here hs ⟨d, rv, ht⟩)⟩
    · exact ht.elim
/-- the name in slot i -/
theorem dv (i : Nat) {x : Str} {pos : Pos} (hN : X.N[i]? = some x := by rfl) (hv : Vis X.env.scope x := by first | exact Or.inl rfl | exact Or.inr (Or.inl rfl) | exact Or.inr (Or.inr rfl)) (hd : (x == ("__debug__" : Str)) = false := by decide)
    (hcd : (x == ("__classdict__" : Str)) = false := by decide) : DE X (.Name x pos) (dVar i) := de_var i (pe_var hN hv hd hcd)
end
end DL
/-! DL2: heaps that change; data as PyData; operators -/
namespace DL
open PySem PySem.Spec PyProof.Rows L2
mutual
def toPy : D → Option PyData
  | .non => some .none
  | .bl b => some (.bool b)
  | .int i => some (.int i)
  | .str x => some (.str x)
  | .tup l => match toPyAll l with
    | some ps => some (.tuple ps)
    | none => none
  | .lst l => match toPyAll l with
    | some ps => some (.list ps)
    | none => none
  | .dct0 => some (.dict [])
  | .scr _ => none
  | .own _ => none
  | .exc _ _ => none
  | .glb _ => none
  | .val _ => none
def toPyAll : List D → Option (List PyData)
  | [] => some []
  | d :: ds => match toPy d, toPyAll ds with
    | some p, some ps => some (p :: ps)
    | _, _ => none
end
section
variable {K : PySem.W.Frag} {ph ph' : Ph} {S S' : Hp} {r : Env} {M : Mem} {σ : St} {H : Hp} {p : Addr}
mutual
theorem Rep.hidP {c : List Addr} {l l' : List (Addr × HO)} : ∀ (d : D) (v : V), Rep K ⟨c, l⟩ S v d → Rep K ⟨c, l'⟩ S v d
  | .non, _, h => by cases h; exact .non
  | .bl _, _, h => by cases h; exact .bl _
  | .int _, _, h => by cases h; exact .int _
  | .str _, _, h => by cases h; exact .str _
  | .tup ds, _, h => by
    cases h with
    | tup h1 h2 => exact .tup h1 (RepAll.hidP ds _ h2)
  | .lst ds, _, h => by
    cases h with
    | lst h1 h2 => exact .lst h1 (RepAll.hidP ds _ h2)
  | .dct0, _, h => by
    cases h with
    | dct0 h1 => exact .dct0 h1
  | .scr ns, _, h => by
    cases h with
    | scr h1 => exact .scr h1
  | .own k, _, h => by
    cases h with
    | own h1 => exact .own h1
  | .glb _, _, h => by
    cases h with
    | glb h1 => exact .glb h1
  | .exc C d, _, h => by
    cases h with
    | exc h0 h1 h2 h3 => exact .exc h0 h1 h2 (Rep.hidP d _ h3)
  | .val v, _, h => by cases h; exact .val _
theorem RepAll.hidP {c : List Addr} {l l' : List (Addr × HO)} : ∀ (ds : List D) (vs : List V), RepAll K ⟨c, l⟩ S vs ds → RepAll K ⟨c, l'⟩ S vs ds
  | [], _, h => by cases h; exact .nil
  | d :: ds, _, h => by
    cases h with
    | cons h1 h2 => exact .cons (Rep.hidP d _ h1) (RepAll.hidP ds _ h2)
end
theorem Rep.hid {c : List Addr} {l l' : List (Addr × HO)} {d : D} {v : V} (h : Rep K ⟨c, l⟩ S v d) : Rep K ⟨c, l'⟩ S v d := Rep.hidP d v h
theorem RepAll.hid {c : List Addr} {l l' : List (Addr × HO)} {d : List D} {v : List V} (h : RepAll K ⟨c, l⟩ S v d) : RepAll K ⟨c, l'⟩ S v d := RepAll.hidP d v h
theorem Sat.read {d : D} {v : V} (h : Sat K ph S r M σ H) (q : Rep K ph S v d) : Rep K ph H v d := q.up ⟨fun _ _ e => e, h.sub, rfl⟩
theorem Sat.readAll {d : List D} {v : List V} (h : Sat K ph S r M σ H) (q : RepAll K ph S v d) : RepAll K ph H v d := q.up ⟨fun _ _ e => e, h.sub, rfl⟩
theorem Sat.noS (h : Sat K ph S r M σ H) (hp : H p = none) : S p = none := h.sub.free hp
theorem Sat.notin (h : Sat K ph S r M σ H) (hp : H p = none) : ∀ (k : Nat), ph.cells[k]? ≠ some p := fun k e => by
  obtain ⟨o, ho⟩ := h.trk k p e
  rw [hp] at ho; cases ho
theorem sameUpd {p : Addr} {o : HO} (h : H p = none) : Same H (upd H p o) := fun b x e => by
  rw [upd_ne (ne_of_none e h)]
  exact e
/-- a new object that is only read -/
theorem Sat.frz (h : Sat K ph S r M σ H) (hp : H p = none) (o : HO) : Ext ph S ph (upd S p o) ∧ Sat K ph (upd S p o) r M σ (upd H p o) := by
  have x : Ext ph S ph (upd S p o) := ⟨fun _ _ e => e, sameUpd (h.noS hp), rfl⟩
  refine ⟨x, fun b y e => ?_, h.len, h.nd, fun k a e => ?_, fun k ds e => ?_, fun q hq => ?_, h.hnd, h.el, fun i d e => ?_⟩
  · by_cases hb : b = p
    · rw [hb, upd_same] at e ⊢
      exact e
    · rw [upd_ne hb] at e ⊢
      exact h.sub b y e
  · obtain ⟨u, hu⟩ := h.trk k a e
    exact ⟨u, sameUpd hp _ _ hu⟩
  · obtain ⟨a, xs, h1, h2, h3, h4⟩ := h.cell k ds e
    have ne : a ≠ p := fun z => by rw [z, hp] at h3; cases h3
    refine ⟨a, xs, h1, ?_, ?_, h4.up x⟩
    · rw [upd_ne ne]; exact h2
    · rw [upd_ne ne]; exact h3
  · obtain ⟨h1, h2, h3⟩ := h.hid q hq
    have ne : q.1 ≠ p := fun z => by rw [z, hp] at h1; cases h1
    exact ⟨by rw [upd_ne ne]; exact h1, by rw [upd_ne ne]; exact h2, h3⟩
  · obtain ⟨v, e1, q⟩ := h.env i d e
    exact ⟨v, e1, q.up x⟩
/-- a new list that may be changed -/
theorem Sat.new (h : Sat K ph S r M σ H) (hp : H p = none) {xs : List V} {ds : List D} (hr : RepAll K ph S xs ds) :
    Ext ph S (ph.add p) S ∧ Sat K (ph.add p) S r (M ++ [.lst ds]) σ (upd H p (.lst xs)) ∧ (ph.add p).cells[M.length]? = some p := by
  have x : Ext ph S (ph.add p) S := ⟨fun k a e => by
    rw [List.getElem?_append_left (List.getElem?_eq_some_iff.mp e).1]; exact e, fun _ _ e => e, rfl⟩
  have here : (ph.add p).cells[M.length]? = some p := by
    rw [← h.len, List.getElem?_append_right (Nat.le_refl _), Nat.sub_self]; rfl
  have old : ∀ (k : Nat) (a : Addr), (ph.add p).cells[k]? = some a → ph.cells[k]? = some a ∨ (k = ph.cells.length ∧ a = p) := fun k a e => by
    by_cases hk : k < ph.cells.length
    · rw [List.getElem?_append_left hk] at e
      exact .inl e
    · rw [List.getElem?_append_right (by omega)] at e
      cases hk' : k - ph.cells.length with
      | zero =>
        rw [hk'] at e
        exact .inr ⟨by omega, (Option.some.inj e).symm⟩
      | succ n => rw [hk'] at e; simp at e
  refine ⟨x, ⟨fun b y e => sameUpd hp _ _ (h.sub b y e), by rw [List.length_append, List.length_append, h.len]; rfl, ?_, fun k a e => ?_, fun k es e => ?_, fun q hq => ?_, h.hnd, h.el, fun i d e => ?_⟩, here⟩
  · rw [List.nodup_append]
    refine ⟨h.nd, by simp, fun a ha b hb z => ?_⟩
    have hb' : b = p := by simpa using hb
    obtain ⟨k, hk⟩ := List.mem_iff_getElem?.mp ha
    exact h.notin hp k (by rw [hk, z, hb'])
  · rcases old k a e with q | ⟨_, q⟩
    · obtain ⟨u, hu⟩ := h.trk k a q
      exact ⟨u, sameUpd hp _ _ hu⟩
    · exact ⟨_, by rw [q, upd_same]⟩
  · by_cases hk : k < M.length
    · rw [List.getElem?_append_left hk] at e
      obtain ⟨a, ys, h1, h2, h3, h4⟩ := h.cell k es e
      exact ⟨a, ys, x.pre _ _ h1, h2, sameUpd hp _ _ h3, h4.up x⟩
    · rw [List.getElem?_append_right (by omega)] at e
      cases hk' : k - M.length with
      | succ n => rw [hk'] at e; simp at e
      | zero =>
        rw [hk'] at e
        have e' : ds = es := by simpa using e
        have k' : k = M.length := by omega
        subst e'
        subst k'
        exact ⟨p, xs, here, h.noS hp, upd_same, hr.up x⟩
  · obtain ⟨h1, h2, h3⟩ := h.hid q hq
    have ne : q.1 ≠ p := fun z => by rw [z, hp] at h1; cases h1
    exact ⟨by rw [upd_ne ne]; exact h1, h2, fun z => (List.mem_append.mp z).elim h3 fun z => ne (by simpa using z)⟩
  · obtain ⟨v, e1, q⟩ := h.env i d e
    exact ⟨v, e1, q.up x⟩
theorem nd_ix {l : List Addr} (hN : l.Nodup) {i j : Nat} {x : Addr} (a : l[i]? = some x) (b : l[j]? = some x) : i = j := by
  obtain ⟨h1, e1⟩ := List.getElem?_eq_some_iff.mp a
  obtain ⟨h2, e2⟩ := List.getElem?_eq_some_iff.mp b
  exact (List.getElem_inj hN).mp (e1.trans e2.symm)
/-- an owned list is changed -/
theorem Sat.put (h : Sat K ph S r M σ H) {k : Nat} {ds es : List D} {xs : List V} (hk : M[k]? = some (.lst ds)) {a : Addr} (ha : ph.cells[k]? = some a) (hr : RepAll K ph S xs es) :
    Sat K ph S r (M.set k (.lst es)) σ (upd H a (.lst xs)) := by
  obtain ⟨a', ys, h1, h2, h3, h4⟩ := h.cell k ds hk
  rw [ha] at h1
  cases h1
  have kl : k < M.length := (List.getElem?_eq_some_iff.mp hk).1
  refine ⟨fun b y e => ?_, by rw [List.length_set]; exact h.len, h.nd, fun j b e => ?_, fun j fs e => ?_, fun q hq => ?_, h.hnd, h.el, h.env⟩
  · rw [upd_ne (fun z => by rw [z, h2] at e; cases e)]
    exact h.sub b y e
  · by_cases hb : b = a
    · exact ⟨_, by rw [hb, upd_same]⟩
    · rw [upd_ne hb]; exact h.trk j b e
  · by_cases hj : j = k
    · subst hj
      rw [List.getElem?_set_self kl] at e
      cases e
      exact ⟨a, xs, ha, h2, upd_same, hr⟩
    · rw [List.getElem?_set_ne (Ne.symm hj)] at e
      obtain ⟨b, zs, q1, q2, q3, q4⟩ := h.cell j fs e
      have nb : b ≠ a := fun z => by rw [z] at q1; exact hj (nd_ix h.nd q1 ha)
      exact ⟨b, zs, q1, q2, by rw [upd_ne nb]; exact q3, q4⟩
  · obtain ⟨h1, h2, h3⟩ := h.hid q hq
    have ne : q.1 ≠ a := fun z => h3 (by rw [z]; exact List.mem_of_getElem? ha)
    exact ⟨by rw [upd_ne ne]; exact h1, h2, h3⟩
/-- an owned list is changed no more -/
theorem Sat.freeze (h : Sat K ph S r M σ H) {k : Nat} {ds : List D} (hk : M[k]? = some (.lst ds)) :
    ∃ a xs, ph.cells[k]? = some a ∧ Ext ph S ph (upd S a (.lst xs)) ∧ Sat K ph (upd S a (.lst xs)) r (M.set k .dead) σ H ∧ Rep K ph (upd S a (.lst xs)) (.ref a) (.lst ds) := by
  obtain ⟨a, xs, h1, h2, h3, h4⟩ := h.cell k ds hk
  have x : Ext ph S ph (upd S a (.lst xs)) := ⟨fun _ _ e => e, sameUpd h2, rfl⟩
  refine ⟨a, xs, h1, x, ⟨fun b y e => ?_, by rw [List.length_set]; exact h.len, h.nd, h.trk, fun j fs e => ?_, fun q hq => ?_, h.hnd, h.el, fun i d e => ?_⟩, .lst upd_same (h4.up x)⟩
  · by_cases hb : b = a
    · rw [hb, upd_same] at e
      rw [hb, ← e]; exact h3
    · rw [upd_ne hb] at e
      exact h.sub b y e
  · have kl : k < M.length := (List.getElem?_eq_some_iff.mp hk).1
    by_cases hj : j = k
    · subst hj
      rw [List.getElem?_set_self kl] at e
      cases e
    · rw [List.getElem?_set_ne (Ne.symm hj)] at e
      obtain ⟨b, zs, q1, q2, q3, q4⟩ := h.cell j fs e
      have nb : b ≠ a := fun z => by rw [z] at q1; exact hj (nd_ix h.nd q1 h1)
      exact ⟨b, zs, q1, by rw [upd_ne nb]; exact q2, q3, q4.up x⟩
  · obtain ⟨g1, g2, g3⟩ := h.hid q hq
    have ne : q.1 ≠ a := fun z => g3 (by rw [z]; exact List.mem_of_getElem? h1)
    exact ⟨g1, by rw [upd_ne ne]; exact g2, g3⟩
  · obtain ⟨v, e1, q⟩ := h.env i d e
    exact ⟨v, e1, q.up x⟩
/-- the names change -/
theorem Sat.setN (h : Sat K ph S r M σ H) {i : Nat} {d : D} {v : V} (q : Rep K ph S v d) : Sat K ph S (r.set i (some d)) M (σ.set i (some v)) H := by
  refine ⟨h.sub, h.len, h.nd, h.trk, h.cell, h.hid, h.hnd, by rw [List.length_set, List.length_set]; exact h.el, fun j e hj => ?_⟩
  by_cases hi : j = i
  · subst hi
    have jl : j < r.length := by
      have := (List.getElem?_eq_some_iff.mp hj).1
      rwa [List.length_set] at this
    rw [List.getElem?_set_self jl] at hj
    cases hj
    exact ⟨v, by rw [List.getElem?_set_self (by rw [← h.el]; exact jl)], q⟩
  · rw [List.getElem?_set_ne (Ne.symm hi)] at hj
    rw [List.getElem?_set_ne (Ne.symm hi)]
    exact h.env j e hj
/-- a new list, out of sight while it is made -/
theorem Sat.hide (h : Sat K ph S r M σ H) (hp : H p = none) (o : HO) : Sat K { ph with hid := (p, o) :: ph.hid } S r M σ (upd H p o) := by
  refine ⟨fun b y e => sameUpd hp _ _ (h.sub b y e), h.len, h.nd, fun k a e => ?_, fun k ds e => ?_, fun q hq => ?_, ?_, h.el, fun i d e => ?_⟩
  · obtain ⟨u, hu⟩ := h.trk k a e
    exact ⟨u, sameUpd hp _ _ hu⟩
  · obtain ⟨a, xs, h1, h2, h3, h4⟩ := h.cell k ds e
    exact ⟨a, xs, h1, h2, sameUpd hp _ _ h3, RepAll.hid h4⟩
  · rcases List.mem_cons.mp hq with e | hq
    · rw [e]
      exact ⟨upd_same, h.noS hp, fun z => by
        obtain ⟨k, hk⟩ := List.mem_iff_getElem?.mp z
        exact h.notin hp k hk⟩
    · obtain ⟨h1, h2, h3⟩ := h.hid q hq
      exact ⟨sameUpd hp _ _ h1, h2, h3⟩
  · refine List.nodup_cons.mpr ⟨fun z => ?_, h.hnd⟩
    obtain ⟨q, hq, e⟩ := List.mem_map.mp z
    obtain ⟨h1, _, _⟩ := h.hid q hq
    have e' : q.1 = p := e
    rw [e', hp] at h1; cases h1
  · obtain ⟨v, e1, q⟩ := h.env i d e
    exact ⟨v, e1, Rep.hid q⟩
theorem hid_ne {p : Addr} {o : HO} {l : List (Addr × HO)} (h : ((p, o) :: l).map (·.1) |>.Nodup) : ∀ q ∈ l, q.1 ≠ p := fun q hq e =>
  (List.nodup_cons.mp h).1 (List.mem_map.mpr ⟨q, hq, e⟩)
/-- the hidden list changes -/
theorem Sat.hset {o o' : HO} {l : List (Addr × HO)} {c : List Addr} (h : Sat K ⟨c, (p, o) :: l⟩ S r M σ H) : Sat K ⟨c, (p, o') :: l⟩ S r M σ (upd H p o') := by
  obtain ⟨g1, g2, g3⟩ := h.hid _ List.mem_cons_self
  have nS : ∀ b y, S b = some y → b ≠ p := fun b y e z => by rw [z, g2] at e; cases e
  have nc : ∀ (k : Nat) (a : Addr), c[k]? = some a → a ≠ p := fun k a e z => g3 (by rw [← z]; exact List.mem_of_getElem? e)
  refine ⟨fun b y e => by rw [upd_ne (nS b y e)]; exact h.sub b y e, h.len, h.nd, fun k a e => ?_, fun k ds e => ?_, fun q hq => ?_, h.hnd, h.el, fun i d e => ?_⟩
  · obtain ⟨u, hu⟩ := h.trk k a e
    exact ⟨u, by rw [upd_ne (nc k a e)]; exact hu⟩
  · obtain ⟨a, xs, h1, h2, h3, h4⟩ := h.cell k ds e
    exact ⟨a, xs, h1, h2, by rw [upd_ne (nc k a h1)]; exact h3, RepAll.hid h4⟩
  · rcases List.mem_cons.mp hq with e | hq
    · rw [e]
      exact ⟨upd_same, g2, g3⟩
    · obtain ⟨h1, h2, h3⟩ := h.hid q (List.mem_cons_of_mem _ hq)
      exact ⟨by rw [upd_ne (hid_ne h.hnd q hq)]; exact h1, h2, h3⟩
  · obtain ⟨v, e1, q⟩ := h.env i d e
    exact ⟨v, e1, Rep.hid q⟩
/-- the hidden list is done: it is only read from now on -/
theorem Sat.hfrz {o : HO} {l : List (Addr × HO)} {c : List Addr} (h : Sat K ⟨c, (p, o) :: l⟩ S r M σ H) : Ext ⟨c, l⟩ S ⟨c, l⟩ (upd S p o) ∧ Sat K ⟨c, l⟩ (upd S p o) r M σ H := by
  obtain ⟨g1, g2, g3⟩ := h.hid _ List.mem_cons_self
  have x : Ext ⟨c, l⟩ S ⟨c, l⟩ (upd S p o) := ⟨fun _ _ e => e, sameUpd g2, rfl⟩
  refine ⟨x, fun b y e => ?_, h.len, h.nd, h.trk, fun k ds e => ?_, fun q hq => ?_, (List.nodup_cons.mp h.hnd).2, h.el, fun i d e => ?_⟩
  · by_cases hb : b = p
    · rw [hb, upd_same] at e
      rw [hb, ← e]; exact g1
    · rw [upd_ne hb] at e
      exact h.sub b y e
  · obtain ⟨a, xs, h1, h2, h3, h4⟩ := h.cell k ds e
    have ne : a ≠ p := fun z => g3 (by rw [← z]; exact List.mem_of_getElem? h1)
    exact ⟨a, xs, h1, by rw [upd_ne ne]; exact h2, h3, (RepAll.hid h4).up x⟩
  · obtain ⟨h1, h2, h3⟩ := h.hid q (List.mem_cons_of_mem _ hq)
    exact ⟨h1, by rw [upd_ne (hid_ne h.hnd q hq)]; exact h2, h3⟩
  · obtain ⟨v, e1, q⟩ := h.env i d e
    exact ⟨v, e1, (Rep.hid q).up x⟩
/-- .. or it is owned from now on -/
theorem Sat.hown {xs : List V} {ds : List D} {l : List (Addr × HO)} {c : List Addr} (h : Sat K ⟨c, (p, .lst xs) :: l⟩ S r M σ H) (q : RepAll K ⟨c, l⟩ S xs ds) :
    Ext ⟨c, l⟩ S ⟨c ++ [p], l⟩ S ∧ Sat K ⟨c ++ [p], l⟩ S r (M ++ [.lst ds]) σ H ∧ (c ++ [p])[M.length]? = some p := by
  obtain ⟨g1, g2, g3⟩ := h.hid _ List.mem_cons_self
  have hl : c.length = M.length := h.len
  have x : Ext ⟨c, l⟩ S ⟨c ++ [p], l⟩ S := ⟨fun k a e => by
    show (c ++ [p])[k]? = _
    rw [List.getElem?_append_left (List.getElem?_eq_some_iff.mp e).1]; exact e, fun _ _ e => e, rfl⟩
  have here : (c ++ [p])[M.length]? = some p := by rw [← hl, List.getElem?_append_right (Nat.le_refl _), Nat.sub_self]; rfl
  have old : ∀ (k : Nat) (a : Addr), (c ++ [p])[k]? = some a → c[k]? = some a ∨ a = p := fun k a e => by
    by_cases hk : k < c.length
    · rw [List.getElem?_append_left hk] at e
      exact .inl e
    · rw [List.getElem?_append_right (by omega)] at e
      cases hk' : k - c.length with
      | zero => rw [hk'] at e; exact .inr (Option.some.inj e).symm
      | succ n => rw [hk'] at e; simp at e
  refine ⟨x, ⟨h.sub, ?_, ?_, fun k a e => ?_, fun k es e => ?_, fun q hq => ?_, (List.nodup_cons.mp h.hnd).2, h.el, fun i d e => ?_⟩, here⟩
  · show (c ++ [p]).length = _
    rw [List.length_append, List.length_append, hl]; rfl
  · show (c ++ [p]).Nodup
    rw [List.nodup_append]
    exact ⟨h.nd, by simp, fun a ha b hb z => g3 (by rw [show b = p by simpa using hb] at z; rw [← z]; exact ha)⟩
  · rcases old k a e with z | z
    · exact h.trk k a z
    · exact ⟨_, by rw [z]; exact g1⟩
  · by_cases hk : k < M.length
    · rw [List.getElem?_append_left hk] at e
      obtain ⟨a, ys, h1, h2, h3, h4⟩ := h.cell k es e
      exact ⟨a, ys, x.pre _ _ h1, h2, h3, (RepAll.hid h4).up x⟩
    · rw [List.getElem?_append_right (by omega)] at e
      cases hk' : k - M.length with
      | succ n => rw [hk'] at e; simp at e
      | zero =>
        rw [hk'] at e
        have e' : ds = es := by simpa using e
        have k' : k = M.length := by omega
        subst e'
        subst k'
        exact ⟨p, xs, here, g2, g1, q.up x⟩
  · obtain ⟨h1, h2, h3⟩ := h.hid q (List.mem_cons_of_mem _ hq)
    exact ⟨h1, h2, fun z => by
      rcases List.mem_append.mp z with z | z
      · exact h3 z
      · exact hid_ne h.hnd q hq (by simpa using z)⟩
  · obtain ⟨v, e1, q⟩ := h.env i d e
    exact ⟨v, e1, (Rep.hid q).up x⟩
/-! ### data as the library's data -/
variable {X : Cx} {pins : List (Addr × Obj)} {s : Shared}
mutual
theorem Rep.reads (I : Inv X pins σ H s) : ∀ (d : D) (v : V) (u : Value) (p : PyData), Rep X.K ph H v d → RelV v u → toPy d = some p → ∃ as, Reads s.heap u p as ∧ ∀ a ∈ as, H a ≠ none
  | .non, _, _, _, h, rv, e => by cases h; cases rv; cases e; exact ⟨_, .none, fun _ z => nomatch z⟩
  | .bl _, _, _, _, h, rv, e => by cases h; cases rv; cases e; exact ⟨_, .bool _, fun _ z => nomatch z⟩
  | .int _, _, _, _, h, rv, e => by cases h; obtain ⟨t, rfl⟩ := rv; cases e; exact ⟨_, .int _ _, fun _ z => nomatch z⟩
  | .str _, _, _, _, h, rv, e => by cases h; obtain ⟨t, rfl⟩ := rv; cases e; exact ⟨_, .str _ _, fun _ z => nomatch z⟩
  | .tup ds, _, _, _, h, rv, e => by
    cases h with
    | tup h1 h2 =>
      cases rv
      simp only [toPy] at e
      split at e
      · rename_i ps ep
        cases e
        obtain ⟨its, rx, ⟨o, ho, hc, n, hd⟩, _⟩ := I.tuple (h1.sq fun _ _ z => z)
        obtain ⟨as, q, qa⟩ := RepAll.reads I ds _ its ps h2 rx ep
        exact ⟨_, .tuple ho hc hd q, qa⟩
      · cases e
  | .lst ds, _, _, _, h, rv, e => by
    cases h with
    | lst h1 h2 =>
      cases rv
      simp only [toPy] at e
      split at e
      · rename_i ps ep
        cases e
        obtain ⟨its, rx, ⟨o, n, ho, hc, _, hd⟩, _⟩ := I.list (SqL.of h1)
        obtain ⟨as, q, qa⟩ := RepAll.reads I ds _ its ps h2 rx ep
        refine ⟨_, .list ho hc hd q, fun a ha => ?_⟩
        rcases List.mem_cons.mp ha with e | ha
        · rw [e, h1]; exact fun z => nomatch z
        · exact qa a ha
      · cases e
  | .dct0, _, _, _, h, rv, e => by
    cases h with
    | dct0 h1 =>
      cases rv
      cases e
      obtain ⟨_, _, vs, hk, o, es, ep, ho, hx, hd, _, he, _⟩ := I.hok _ _ h1
      cases hk
      have e0 : es = #[] := by
        cases es with
        | mk l =>
          cases l with
          | nil => rfl
          | cons x l => exact nomatch he
      subst e0
      refine ⟨_, .dict ho hx.1 hd .nil .nil, fun a ha => ?_⟩
      simp at ha
      rw [ha, h1]; exact fun z => nomatch z
  | .scr ns, _, _, _, _, _, e => by cases e
  | .own _, _, _, _, _, _, e => by cases e
  | .exc _ _, _, _, _, _, _, e => by cases e
  | .glb _, _, _, _, _, _, e => by cases e
  | .val _, _, _, _, _, _, e => by cases e
theorem RepAll.reads (I : Inv X pins σ H s) : ∀ (ds : List D) (vs : List V) (us : List Value) (ps : List PyData), RepAll X.K ph H vs ds → Vals vs us → toPyAll ds = some ps → ∃ as, ReadsAll s.heap us ps as ∧ ∀ a ∈ as, H a ≠ none
  | [], _, _, _, h, rv, e => by cases h; cases rv; cases e; exact ⟨_, .nil, fun _ z => nomatch z⟩
  | d :: ds, _, _, _, h, rv, e => by
    cases h with
    | cons h1 h2 =>
      cases rv with
      | cons r1 r2 =>
        simp only [toPyAll] at e
        split at e
        · rename_i p ps ep eps
          cases e
          obtain ⟨as, q1, a1⟩ := Rep.reads I d _ _ p h1 r1 ep
          obtain ⟨bs, q2, a2⟩ := RepAll.reads I ds _ _ ps h2 r2 eps
          refine ⟨_, .cons q1 q2, fun a ha => ?_⟩
          rcases List.mem_append.mp ha with ha | ha
          · exact a1 a ha
          · exact a2 a ha
        · cases e
end
end
end DL
/-! DL3: operators, comparisons, truth, displays -/
namespace DL
open PySem PySem.Spec PyProof.Rows L2
variable {X : Cx}
/-! ### two values -/
abbrev G2 := D → D → Mem → DQ → Prop
def OpD (X : Cx) (f : Value → Value → Sem Value) (g : G2) : Prop :=
  ∀ (pins : List (Addr × Obj)) (s : Shared) (σ : St) (H : Hp) (ph : Ph) (S : Hp) (r : Env) (M : Mem) (x y : V) (dx dy : D) (v u : Value) (Q : DQ),
    Inv X pins σ H s → Sat X.K ph S r M σ H → RelV x v → RelV y u → Rep X.K ph S x dx → Rep X.K ph S y dy → g dx dy M Q →
    wpAny (model X.prog X.w) X.A (f v u) (EP X pins σ (post X.K ph S r σ Q)) X.xe s
theorem OpD.of {f : Value → Value → Sem Value} {r2 : R2} {g : G2} (h : OpR X f r2)
    (w : ∀ (σ : St) (H : Hp) (ph : Ph) (S : Hp) (r : Env) (M : Mem) (x y : V) (dx dy : D) (Q : DQ), Sat X.K ph S r M σ H → Rep X.K ph S x dx → Rep X.K ph S y dy → g dx dy M Q → r2 x y H (post X.K ph S r σ Q)) : OpD X f g :=
  fun pins s σ H ph S r M x y dx dy v u Q I hs rx ry qx qy hg => h pins s σ H x y v u _ I rx ry (w σ H ph S r M x y dx dy Q hs qx qy hg)
theorem binD {a b : Expr} {ta tb : DTE} (ha : DE X a ta) (hb : DE X b tb) {pins : List (Addr × Obj)} {s : Shared} {σ : St} {H : Hp} {ph : Ph} {S : Hp} {r : Env} {M : Mem} {g : D → D → Mem → Prop}
    (I : Inv X pins σ H s) (hs : Sat X.K ph S r M σ H) (h : ta r M fun x M1 => tb r M1 fun y M2 => g x y M2) {α : Type} {Q : α → Shared → Prop} {f : Value → Value → Sem α}
    (hf : ∀ v u s2 x y dx dy H2 ph2 S2 M2, Ext ph S ph2 S2 → Inv X pins σ H2 s2 → Sat X.K ph2 S2 r M2 σ H2 → RelV x v → RelV y u → Rep X.K ph2 S2 x dx → Rep X.K ph2 S2 y dy → g dx dy M2 → wpAny (model X.prog X.w) X.A (f v u) Q X.xe s2) :
    wpAny (model X.prog X.w) X.A (eval a X.env) (fun v s1 => wpAny (model X.prog X.w) X.A (eval b X.env) (fun u s2 => wpAny (model X.prog X.w) X.A (f v u) Q X.xe s2) X.xe s1) X.xe s := by
  refine thn (ha.pe.run pins s σ H _ I ⟨ph, S, r, M, _, hs, h, fun _ _ q => q⟩) fun v s1 ⟨x, H1, I1, r1, ph1, S1, M1, x1, hs1, dx, q1, h1⟩ => ?_
  refine thn (hb.pe.run pins s1 σ H1 _ I1 ⟨ph1, S1, r, M1, _, hs1, h1, fun _ _ q => q⟩) fun u s2 ⟨y, H2, I2, r2, ph2, S2, M2, x2, hs2, dy, q2, h2⟩ => ?_
  exact hf v u s2 x y dx dy H2 ph2 S2 M2 (x1.trans x2) I2 hs2 r1 r2 (q1.up x2) q2 h2
def dOp (g : G2) (ta tb : DTE) : DTE := fun r M Q => ta r M fun x M1 => tb r M1 fun y M2 => g x y M2 Q
theorem EP.up {pins : List (Addr × Obj)} {σ : St} {ph ph1 : Ph} {S S1 : Hp} {r : Env} {Q : DQ} {u : Value} {s : Shared} (x : Ext ph S ph1 S1) (h : EP X pins σ (post X.K ph1 S1 r σ Q) u s) {Q' : VK} (w : ∀ v H', post X.K ph S r σ Q v H' → Q' v H') : EP X pins σ Q' u s :=
  let ⟨v, H', I, rv, q⟩ := h
  ⟨v, H', I, rv, w _ _ (Aft.up x q)⟩
theorem de_op {a b : Expr} {ta tb : DTE} {op : Operator} {g : G2} {pos : Pos} (ho : OpD X (binaryOp op) g) (ha : DE X a ta) (hb : DE X b tb) : DE X (.BinOp a op b pos) (dOp g ta tb) :=
  ⟨⟨fun pins s σ H Q I ⟨ph, S, r, M, Q0, hs, ht, hq⟩ => wpAny_BinOp (binD ha hb I hs ht fun v u s2 x y dx dy H2 ph2 S2 M2 x2 I2 hs2 rx ry qx qy h =>
    thn (ho pins s2 σ H2 ph2 S2 r M2 x y dx dy v u Q0 I2 hs2 rx ry qx qy h) fun _ _ q => EP.up x2 q hq)⟩⟩
theorem de_cmp {a b : Expr} {ta tb : DTE} {op : CmpOp} {g : G2} {pos : Pos} (ho : OpD X (compareOp op) g) (ha : DE X a ta) (hb : DE X b tb) (hm : behindInMarks op b = false) : DE X (.Compare a [op] [b] pos) (dOp g ta tb) :=
  ⟨⟨fun pins s σ H Q I ⟨ph, S, r, M, Q0, hs, ht, hq⟩ => wpAny_Compare1 (binD ha hb I hs ht fun v u s2 x y dx dy H2 ph2 S2 M2 x2 I2 hs2 rx ry qx qy h =>
    thn (ho pins s2 σ H2 ph2 S2 r M2 x y dx dy v u Q0 I2 hs2 rx ry qx qy h) fun _ _ q => EP.up x2 q hq) hm⟩⟩
/-! ### arithmetic -/
/-- of moderate size -/
def Sm (i : Int) : Prop := i.natAbs.log2 < 400000
theorem Sm.of {i : Int} (n : Nat) (h : i.natAbs < 2 ^ n) (hn : n ≤ 400000 := by decide) : Sm i := by
  unfold Sm
  by_cases h0 : i.natAbs = 0
  · rw [h0]; decide
  · exact Nat.lt_of_lt_of_le ((Nat.log2_lt h0).mpr h) hn
def rBin (C : Int → Int → Prop) (f : Int → Int → Int) : G2 := fun x y M Q => match x, y with
  | .int i, .int j => C i j ∧ Q (.int (f i j)) M
  | _, _ => False
theorem opd_int {F : Value → Value → Sem Value} {C : Int → Int → Prop} {f : Int → Int → Int} (h : OpR X F (rI C fun i j => .int (f i j))) : OpD X F (rBin C f) :=
  OpD.of h fun σ H ph S r M x y dx dy Q hs rx ry hg => by
    cases dx <;> cases dy <;> first | exact hg.elim | skip
    cases rx; cases ry
    exact ⟨_, _, rfl, rfl, hg.1, Aft.here hs ⟨_, .int _, hg.2⟩⟩
theorem opd_sub : OpD X (binaryOp .Sub) (rBin (fun _ _ => True) fun i j => i - j) := opd_int (fun pins s σ H x y v u Q I r1 r2 ⟨i, j, e1, e2, _, q⟩ => op_sub pins s σ H x y v u Q I r1 r2 ⟨i, j, e1, e2, q⟩)
def CMul (i j : Int) : Prop := Sm i ∧ Sm j
def CDiv (_ j : Int) : Prop := j ≠ 0 ∧ j.natAbs.log2 < 9000
def CMod (_ j : Int) : Prop := j ≠ 0
def CPow (a n : Int) : Prop := 0 ≤ n ∧ (Builtin.Int.intBits a : Int) * n ≤ 2 ^ 27
theorem opd_mulI : OpD X (binaryOp .Mult) (rBin CMul fun i j => i * j) := opd_int (fun pins s σ H x y v u Q I r1 r2 ⟨i, j, e1, e2, c, q⟩ => op_mulW pins s σ H x y v u Q I r1 r2 ⟨i, j, e1, e2, by have h1 := c.1; have h2 := c.2; unfold Sm at h1 h2; unfold L2.CMulW; omega, q⟩)
theorem op_fdivG : OpR X (binaryOp .FloorDiv) (rI CDiv fun i j => .int (i.fdiv j)) := opI fun i j _ _ _ _ _ hc q => floordiv_int hc.1 q (.inl (PyProof.noPylong_of_log2 hc.2))
theorem opd_fdiv : OpD X (binaryOp .FloorDiv) (rBin CDiv fun i j => i.fdiv j) := opd_int op_fdivG
theorem opd_mod : OpD X (binaryOp .Mod) (rBin CMod fun i j => i.fmod j) := opd_int op_modN
theorem op_powG : OpR X (binaryOp .Pow) (rI CPow fun i j => .int (i ^ j.toNat)) := opI fun i j _ _ _ _ _ hc q => pow_int hc.1 hc.2 q
theorem opd_pow : OpD X (binaryOp .Pow) (rBin CPow fun i j => i ^ j.toNat) := opd_int op_powG
/-- x + y -/
def gAdd : G2 := fun x y M Q => match x, y with
  | .int i, .int j => Q (.int (i + j)) M
  | .str a, .str b => a.length + b.length ≤ sizeLine ∧ Q (.str (a ++ b)) M
  | .lst a, .lst b => a.length + b.length ≤ sizeLine ∧ Q (.lst (a ++ b)) M
  | .tup a, .tup b => a.length + b.length ≤ sizeLine ∧ Q (.tup (a ++ b)) M
  | .own k, .lst b => match M[k]? with
    | some (.lst a) => a.length + b.length ≤ sizeLine ∧ Q (.lst (a ++ b)) M
    | _ => False
  | .lst b, .own k => match M[k]? with
    | some (.lst a) => b.length + a.length ≤ sizeLine ∧ Q (.lst (b ++ a)) M
    | _ => False
  | _, _ => False
theorem Aft.frz {K : PySem.W.Frag} {ph : Ph} {S : Hp} {r : Env} {σ : St} {H : Hp} {M : Mem} {p : Addr} {o : HO} {Q : Ph → Hp → Mem → Prop} (h : Sat K ph S r M σ H) (hp : H p = none) (q : Ext ph S ph (upd S p o) → Q ph (upd S p o) M) : Aft K ph S r σ (upd H p o) Q :=
  let ⟨x, hs⟩ := h.frz hp o
  ⟨ph, _, M, x, hs, q x⟩
theorem opd_add : OpD X (binaryOp .Add) gAdd := by
  intro pins s σ H ph S r M x y dx dy v u Q I hs rx ry qx qy hg
  cases dx <;> cases dy <;> first | exact hg.elim | skip
  · cases qx; cases qy
    exact op_add pins s σ H _ _ v u _ I rx ry ⟨_, _, rfl, rfl, Aft.here hs ⟨_, .int _, hg⟩⟩
  · cases qx; cases qy
    exact op_add_str pins s σ H _ _ v u _ I rx ry ⟨_, _, rfl, rfl, hg.1, Aft.here hs ⟨_, .str _, hg.2⟩⟩
  · cases qx with
    | tup h1 h2 =>
      cases qy with
      | tup h3 h4 =>
        obtain ⟨hz, q⟩ := hg
        rename_i xs _ ys
        have e1 := h2.len
        have e2 := h4.len
        refine op_catA pins s σ H _ _ v u _ I rx ry ⟨_, _, xs, ys, rfl, rfl, h1.sq hs.sub, h3.sq hs.sub, by omega, fun z => ?_, fun _ z => ?_, fun _ _ p hp => Aft.frz hs hp fun x => ⟨_, .tup (.inl upd_same) ((h2.app h4).up x), q⟩⟩
        · refine Aft.here hs ⟨_, .tup h3 ?_, q⟩
          rw [z] at h2
          cases h2
          exact h4
        · refine Aft.here hs ⟨_, .tup h1 ?_, q⟩
          rw [z] at h4
          cases h4
          rw [List.append_nil]; exact h2
  · cases qx with
    | lst h1 h2 =>
      cases qy with
      | lst h3 h4 =>
        have e1 := h2.len
        have e2 := h4.len
        exact op_cat pins s σ H _ _ v u _ I rx ry ⟨_, _, _, _, rfl, rfl, hs.sub _ _ h1, hs.sub _ _ h3, by have := hg.1; omega, fun p hp => Aft.frz hs hp fun x => ⟨_, .lst upd_same ((h2.app h4).up x), hg.2⟩⟩
  · cases qx with
    | lst h1 h2 =>
      cases qy with
      | own h3 =>
        rename_i b k _ _ _
        simp only [gAdd] at hg
        split at hg
        · rename_i a hk
          obtain ⟨a1, xs1, c1, c2, c3, c4⟩ := hs.cell k a hk
          rw [h3] at c1; cases c1
          have e1 := h2.len
          have e2 := c4.len
          exact op_cat pins s σ H _ _ v u _ I rx ry ⟨_, _, _, _, rfl, rfl, hs.sub _ _ h1, c3, by have := hg.1; omega, fun p hp => Aft.frz hs hp fun x => ⟨_, .lst upd_same ((h2.app c4).up x), hg.2⟩⟩
        · exact hg.elim
  · cases qx with
    | own h3 =>
      cases qy with
      | lst h1 h2 =>
        rename_i k b _ _ _
        simp only [gAdd] at hg
        split at hg
        · rename_i a hk
          obtain ⟨a1, xs1, c1, c2, c3, c4⟩ := hs.cell k a hk
          rw [h3] at c1; cases c1
          have e1 := h2.len
          have e2 := c4.len
          exact op_cat pins s σ H _ _ v u _ I rx ry ⟨_, _, _, _, rfl, rfl, c3, hs.sub _ _ h1, by have := hg.1; omega, fun p hp => Aft.frz hs hp fun x => ⟨_, .lst upd_same ((c4.app h2).up x), hg.2⟩⟩
        · exact hg.elim
/-! ### comparisons -/
def gCmpI (p : Int → Int → Bool) : G2 := fun x y M Q => match x, y with
  | .int i, .int j => Q (.bl (p i j)) M
  | _, _ => False
theorem opd_cmpI {F : Value → Value → Sem Value} {p : Int → Int → Bool} (h : OpR X F (rI0 fun i j => .bl (p i j))) : OpD X F (gCmpI p) :=
  OpD.of h fun σ H ph S r M x y dx dy Q hs rx ry hg => by
    cases dx <;> cases dy <;> first | exact hg.elim | skip
    cases rx; cases ry
    exact ⟨_, _, rfl, rfl, Aft.here hs ⟨_, .bl _, hg⟩⟩
theorem opd_lt : OpD X (compareOp .Lt) (gCmpI fun i j => decide (i < j)) := opd_cmpI op_lt
theorem opd_gt : OpD X (compareOp .Gt) (gCmpI fun i j => decide (j < i)) := opd_cmpI op_gt
/-- an owned list as it stands -/
def res (M : Mem) : D → D
  | .own k => match M[k]? with
    | some (.lst ds) => .lst ds
    | _ => .own k
  | d => d
theorem Rep.res {K : PySem.W.Frag} {ph : Ph} {S : Hp} {r : Env} {M : Mem} {σ : St} {H : Hp} {v : V} {d : D} (hs : Sat K ph S r M σ H) (q : Rep K ph S v d) : Rep K ph H v (res M d) := by
  cases d <;> first | exact hs.read q | skip
  rename_i k
  unfold DL.res
  dsimp only
  split
  · rename_i ds hk
    cases q with
    | own h =>
      obtain ⟨a, xs, c1, c2, c3, c4⟩ := hs.cell k ds hk
      rw [h] at c1; cases c1
      exact .lst c3 (hs.readAll c4)
  · exact hs.read q
/-- data that may be compared -/
def cmpd (d : D) : Option PyData := match toPy d with
  | some p => if SeqAt.shaped p = true then some p else none
  | none => none
theorem cmpd_some {d : D} {p : PyData} (h : cmpd d = some p) : toPy d = some p ∧ SeqAt.shaped p = true := by
  unfold cmpd at h
  split at h
  · rename_i p' e
    by_cases hs : SeqAt.shaped p' = true
    · rw [if_pos hs] at h; cases h; exact ⟨e, hs⟩
    · rw [if_neg hs] at h; cases h
  · cases h
/-- x == y of two data read; none: not covered -/
def eqB (x y : D) : Option Bool := match x, y with
  | .str a, .str b => some (a == b)
  | x, y => match cmpd x, cmpd y with
    | some p, some q => some (PyData.eqv p q)
    | _, _ => none
theorem eqB_of {x y : D} {b : Bool} (h : eqB x y = some b) : (∃ p q, x = .str p ∧ y = .str q ∧ b = (p == q)) ∨ ∃ p q, cmpd x = some p ∧ cmpd y = some q ∧ b = PyData.eqv p q := by
  unfold eqB at h
  split at h
  · exact .inl ⟨_, _, rfl, rfl, (Option.some.inj h).symm⟩
  · split at h
    · rename_i e1 e2; exact .inr ⟨_, _, e1, e2, (Option.some.inj h).symm⟩
    · cases h
def gEq : G2 := fun x y M Q => match eqB (res M x) (res M y) with
  | some b => Q (.bl b) M
  | none => False
def gNe : G2 := fun x y M Q => match eqB (res M x) (res M y) with
  | some b => Q (.bl (!b)) M
  | none => False
theorem res_str {M : Mem} {d : D} {z : Str} (h : res M d = .str z) : d = .str z := by
  cases d <;> first | exact h | skip
  rename_i k
  unfold res at h
  dsimp only at h
  split at h <;> cases h
theorem opd_eq (hu : X.A.units + 64 < cLine) : OpD X (compareOp .Eq) gEq := by
  intro pins s σ H ph S r M x y dx dy v u Q I hs rx ry qx qy hg
  unfold gEq at hg
  split at hg
  · rename_i b e
    rcases eqB_of e with ⟨p, q, e1, e2, rfl⟩ | ⟨p, q, e1, e2, rfl⟩
    · cases res_str e1; cases res_str e2
      cases qx; cases qy
      obtain ⟨_, rfl⟩ := rx
      obtain ⟨_, rfl⟩ := ry
      exact PyProof.Rows.eq_str ⟨.bl _, H, I, rfl, Aft.here hs ⟨_, .bl _, hg⟩⟩
    · obtain ⟨as, h1, _⟩ := Rep.reads I _ _ _ _ (Rep.res hs qx) rx (cmpd_some e1).1
      obtain ⟨bs, h2, _⟩ := Rep.reads I _ _ _ _ (Rep.res hs qy) ry (cmpd_some e2).1
      exact SeqAt.compareEq_shaped h1 h2 (cmpd_some e1).2 (cmpd_some e2).2 hu ⟨.bl _, H, I, rfl, Aft.here hs ⟨_, .bl _, hg⟩⟩
  · exact hg.elim
theorem opd_ne (hu : X.A.units + 64 < cLine) : OpD X (compareOp .NotEq) gNe := by
  intro pins s σ H ph S r M x y dx dy v u Q I hs rx ry qx qy hg
  unfold gNe at hg
  split at hg
  · rename_i b e
    rcases eqB_of e with ⟨p, q, e1, e2, rfl⟩ | ⟨p, q, e1, e2, rfl⟩
    · cases res_str e1; cases res_str e2
      cases qx; cases qy
      obtain ⟨_, rfl⟩ := rx
      obtain ⟨_, rfl⟩ := ry
      exact PyProof.Rows.ne_str ⟨.bl _, H, I, rfl, Aft.here hs ⟨_, .bl _, hg⟩⟩
    · obtain ⟨as, h1, _⟩ := Rep.reads I _ _ _ _ (Rep.res hs qx) rx (cmpd_some e1).1
      obtain ⟨bs, h2, _⟩ := Rep.reads I _ _ _ _ (Rep.res hs qy) ry (cmpd_some e2).1
      exact SeqAt.compareNe_shaped h1 h2 (cmpd_some e1).2 (cmpd_some e2).2 hu ⟨.bl _, H, I, rfl, Aft.here hs ⟨_, .bl _, hg⟩⟩
  · exact hg.elim
/-- x in y, y a list -/
def gIn (neg : Bool) : G2 := fun x y M Q => match cmpd (res M x), cmpd (res M y) with
  | some p, some (.list ps) => Q (.bl ((ps.any fun z => PyData.eqv z p) != neg)) M
  | _, _ => False
end DL
/-! DL4: is, truth, chains, and/or/not, displays, subscripts, argument lists -/
namespace DL
open PySem PySem.Spec PyProof.Rows L2
variable {X : Cx}
/-! ### is -/
/-- x is y, y written None, True or False -/
def isB (x y : D) : Option Bool := match x, y with
  | .non, .non => some true
  | .bl b, .non => some false
  | .int _, .non => some false
  | .str _, .non => some false
  | .tup _, .non => some false
  | .lst _, .non => some false
  | .own _, .non => some false
  | .dct0, .non => some false
  | .exc _ _, .non => some false
  | .bl a, .bl b => some (decide (a = b))
  | .non, .bl _ => some false
  | .int _, .bl _ => some false
  | .str _, .bl _ => some false
  | .tup _, .bl _ => some false
  | .lst _, .bl _ => some false
  | .own _, .bl _ => some false
  | .dct0, .bl _ => some false
  | _, _ => none
def gIs (neg : Bool) : G2 := fun x y M Q => match isB x y with
  | some b => Q (.bl (b != neg)) M
  | none => False
theorem opd_is : OpD X (compareOp .Is) (gIs false) := by
  intro pins s σ H ph S r M x y dx dy v u Q I hs rx ry qx qy hg
  have fin : ∀ b : Bool, Q (.bl (b != false)) M → EP X pins σ (post X.K ph S r σ Q) (.bool b) s := fun b q => ⟨.bl b, H, I, rfl, Aft.here hs ⟨_, .bl _, by rwa [Bool.bne_false] at q⟩⟩
  cases dy <;> cases dx <;> first | exact hg.elim | skip
  all_goals cases qx <;> cases qy
  all_goals (first | (obtain ⟨t, rfl⟩ := rx) | cases rx)
  all_goals cases ry
  all_goals first
    | exact wpAny_is_other rfl (fun z => nomatch z) (fin false hg)
    | exact wpAny_is_self rfl (fin true hg)
    | skip
  rename_i b c
  by_cases e : c = b
  · subst e
    exact wpAny_is_self rfl (fin true (by simpa [gIs, isB] using hg))
  · exact wpAny_is_other rfl (fun z => e (Value.bool.inj z)) (fin false (by simpa [gIs, isB, e] using hg))
/-! ### truth -/
def tru (M : Mem) : D → Option Bool
  | .non => some false
  | .bl b => some b
  | .int i => some (i != 0)
  | .str x => if x.length ≤ sizeLine then some ((x.length : Int) != 0) else none
  | .tup l => some (!l.isEmpty)
  | .lst l => some (!l.isEmpty)
  | .own k => match M[k]? with
    | some (.lst l) => some (!l.isEmpty)
    | _ => none
  | .dct0 => some false
  | _ => none
theorem isEmp {K : PySem.W.Frag} {ph : Ph} {S : Hp} {xs : List V} {ds : List D} (h : RepAll K ph S xs ds) : (!ds.isEmpty) = !xs.isEmpty := by cases h <;> rfl
theorem tru_V {K : PySem.W.Frag} {ph : Ph} {S : Hp} {r : Env} {M : Mem} {σ : St} {H : Hp} {x : V} {d : D} {k : Bool} (hs : Sat K ph S r M σ H) (q : Rep K ph S x d) (h : tru M d = some k) : TruV K x H k := by
  cases d with
  | non => cases q; exact (Option.some.inj h).symm
  | bl b => cases q; exact (Option.some.inj h).symm
  | int i => cases q; exact (Option.some.inj h).symm
  | str z =>
    cases q
    have h' : (if z.length ≤ sizeLine then some ((z.length : Int) != 0) else none) = some k := h
    by_cases hz : z.length ≤ sizeLine
    · rw [if_pos hz] at h'
      exact ⟨hz, (Option.some.inj h').symm⟩
    · rw [if_neg hz] at h'; cases h'
  | tup l =>
    cases q with
    | tup h1 h2 => exact .inr (.inl ⟨_, h1.sq hs.sub, by rw [← isEmp h2]; exact (Option.some.inj h).symm⟩)
  | lst l =>
    cases q with
    | lst h1 h2 => exact .inl ⟨_, SqL.of (hs.sub _ _ h1), by rw [← isEmp h2]; exact (Option.some.inj h).symm⟩
  | dct0 =>
    cases q with
    | dct0 h1 => exact .inr (.inr ⟨_, hs.sub _ _ h1, (Option.some.inj h).symm⟩)
  | own j =>
    cases q with
    | own h1 =>
      unfold tru at h
      dsimp only at h
      split at h
      · rename_i l hk
        obtain ⟨a, xs, c1, c2, c3, c4⟩ := hs.cell j l hk
        rw [h1] at c1; cases c1
        exact .inl ⟨_, SqL.of c3, by rw [← isEmp c4]; exact (Option.some.inj h).symm⟩
      · cases h
  | scr ns => cases h
  | exc C d => cases h
  | glb x => cases h
  | val v => cases h
/-- what d's truth is -/
def gTru (d : D) (M : Mem) (Q : Bool → Prop) : Prop := match tru M d with
  | some b => Q b
  | none => False
def dTru (t : DTE) : DTT := fun r M Q => t r M fun d M1 => gTru d M1 fun b => Q b M1
theorem gTru_some {d : D} {M : Mem} {Q : Bool → Prop} (h : gTru d M Q) : ∃ b, tru M d = some b ∧ Q b := by
  unfold gTru at h
  split at h
  · rename_i b e; exact ⟨b, e, h⟩
  · exact h.elim
/-- an expression as a test -/
theorem dt_tru {e : Expr} {t : DTE} (h : DE X e t) (he : ∀ whole, isTrue e X.env whole = (do let v ← whole; standAt e.pos; holding [v] (truthy v)) := by intro _; rfl) : DT X e (dTru t) :=
  DT.of (pt_truth h.pe he) fun ph S r M σ H Q hs ht Q' hq => ⟨ph, S, r, M, _, hs, ht, fun v H1 h1 => by
    obtain ⟨ph1, S1, M1, x1, hs1, d, q1, g1⟩ := h1
    obtain ⟨b, eb, qb⟩ := gTru_some g1
    exact ⟨b, tru_V hs1 q1 eb, hq _ _ ⟨ph1, S1, M1, x1, hs1, qb⟩⟩⟩
/-- a comparison as a test -/
theorem dt_cmp {a b : Expr} {ta tb : DTE} {op : CmpOp} {g : G2} {pos : Pos} (ho : OpD X (compareOp op) g) (ha : DE X a ta) (hb : DE X b tb) (hm : behindInMarks op b = false) : DT X (.Compare a [op] [b] pos) (dTru (dOp g ta tb)) :=
  ⟨⟨fun pins s σ H Q I ⟨ph, S, r, M, Q0, hs, ht, hq⟩ => wpAny_isTrue_Compare1 (binD ha hb I hs ht fun v u s2 x y dx dy H2 ph2 S2 M2 x2 I2 hs2 rx ry qx qy h =>
    thn (ho pins s2 σ H2 ph2 S2 r M2 x y dx dy v u _ I2 hs2 rx ry qx qy h) fun c s3 ⟨z, H3, I3, r3, ph3, S3, M3, x3, hs3, d, q3, g3⟩ => by
      obtain ⟨k, ek, qk⟩ := gTru_some g3
      exact tru_ok pins s3 σ H3 z c Q I3 r3 ⟨k, tru_V hs3 q3 ek, hq _ _ ⟨ph3, S3, M3, x2.trans x3, hs3, qk⟩⟩) hm⟩⟩
/-! ### a < b < c -/
def dChain (g g' : G2) (ta tb tc : DTE) : DTE := fun r M Q => ta r M fun x M1 => tb r M1 fun y M2 => g x y M2 fun z M3 => gTru z M3 fun k => if k = true then tc r M3 fun w M4 => g' y w M4 Q else Q z M3
/-! ### and, or, not -/
def dAnd (t u : DTT) : DTT := fun r M Q => t r M fun c M1 => if c = true then u r M1 Q else Q false M1
def dOr (t u : DTT) : DTT := fun r M Q => t r M fun c M1 => if c = true then Q true M1 else u r M1 Q
def dNot (t : DTT) : DTT := fun r M Q => t r M fun c M1 => Q (!c) M1
variable {a b : Expr} {rest : List Expr} {pos : Pos}
theorem DW.dt {e : Expr} {t : DTT} (h : DW X e t) : DT X e t := ⟨h.pw.pt⟩
theorem dw_or1 {t : DTT} (h : DT X a t) : DW X (.BoolOp .Or [a] pos) t := ⟨pw_or1 h.pt⟩
theorem dw_or {t u : DTT} (h : DT X a t) (h2 : DW X (.BoolOp .Or (b :: rest) pos) u) : DW X (.BoolOp .Or (a :: b :: rest) pos) (dOr t u) :=
  DW.of (pw_or h.pt h2.pw) fun ph S r M σ H Q hs ht Q' hq => ⟨ph, S, r, M, _, hs, ht, fun c H1 ⟨ph1, S1, M1, x1, hs1, h1⟩ => by
    cases c with
    | false => exact ⟨ph1, S1, r, M1, _, hs1, h1, fun c' H2 h2 => hq _ _ (Aft.up x1 h2)⟩
    | true => exact hq _ _ ⟨ph1, S1, M1, x1, hs1, h1⟩⟩
theorem dt_not {t : DTT} (h : DT X a t) : DT X (.UnaryOp .Not a pos) (dNot t) :=
  DT.of (pt_not h.pt) fun ph S r M σ H Q hs ht Q' hq => ⟨ph, S, r, M, _, hs, ht, fun c H1 h1 => hq _ _ h1⟩
/-- as values -/
def dAndV (t u : DTE) : DTE := fun r M Q => t r M fun d M1 => gTru d M1 fun c => if c = true then u r M1 Q else Q d M1
def dOrV (t u : DTE) : DTE := fun r M Q => t r M fun d M1 => gTru d M1 fun c => if c = true then Q d M1 else u r M1 Q
def dNotV (t : DTE) : DTE := fun r M Q => t r M fun d M1 => gTru d M1 fun c => Q (.bl (!c)) M1
theorem de_one {op} {t : DTE} (h : DE X a t) : DE X (.BoolOp op [a] pos) t := ⟨pe_one h.pe⟩
theorem de_and {t u : DTE} (h : DE X a t) (h2 : DE X (.BoolOp .And (b :: rest) pos) u) : DE X (.BoolOp .And (a :: b :: rest) pos) (dAndV t u) :=
  DE.of (pe_andT h.pe h2.pe) fun ph S r M σ H Q hs ht Q' hq => ⟨ph, S, r, M, _, hs, ht, fun v H1 ⟨ph1, S1, M1, x1, hs1, d, q1, g1⟩ => by
    obtain ⟨c, ec, qc⟩ := gTru_some g1
    refine ⟨c, tru_V hs1 q1 ec, ?_⟩
    cases c with
    | true => exact ⟨ph1, S1, r, M1, _, hs1, qc, fun c' H2 h2 => hq _ _ (Aft.up x1 h2)⟩
    | false => exact hq _ _ ⟨ph1, S1, M1, x1, hs1, _, q1, qc⟩⟩
theorem de_not {t : DTE} (h : DE X a t) : DE X (.UnaryOp .Not a pos) (dNotV t) :=
  DE.of (pe_notT h.pe) fun ph S r M σ H Q hs ht Q' hq => ⟨ph, S, r, M, _, hs, ht, fun v H1 ⟨ph1, S1, M1, x1, hs1, d, q1, g1⟩ => by
    obtain ⟨c, ec, qc⟩ := gTru_some g1
    exact ⟨c, tru_V hs1 q1 ec, hq _ _ ⟨ph1, S1, M1, x1, hs1, _, .bl _, qc⟩⟩⟩
/-- a if t else b -/
def dIf (t : DTT) (u w : DTE) : DTE := fun r M Q => t r M fun c M1 => if c = true then u r M1 Q else w r M1 Q
theorem de_if {c : Expr} {t : DTT} {u w : DTE} (h : DT X c t) (h1 : DE X a u) (h2 : DE X b w) : DE X (.IfExp c a b pos) (dIf t u w) :=
  DE.of (pe_ifExp h.pt h1.pe h2.pe) fun ph S r M σ H Q hs ht Q' hq => ⟨ph, S, r, M, _, hs, ht, fun c H1 ⟨ph1, S1, M1, x1, hs1, g1⟩ => by
    cases c with
    | true => exact ⟨ph1, S1, r, M1, _, hs1, g1, fun c' H2 h2 => hq _ _ (Aft.up x1 h2)⟩
    | false => exact ⟨ph1, S1, r, M1, _, hs1, g1, fun c' H2 h2 => hq _ _ (Aft.up x1 h2)⟩⟩
/-- -a -/
def gNeg (d : D) (M : Mem) (Q : DQ) : Prop := match d with
  | .int i => Q (.int (-i)) M
  | _ => False
def dNeg (t : DTE) : DTE := fun r M Q => t r M fun d M1 => gNeg d M1 Q
theorem de_neg {t : DTE} (h : DE X a t) : DE X (.UnaryOp .USub a pos) (dNeg t) :=
  DE.of (pe_un un_neg h.pe) fun ph S r M σ H Q hs ht Q' hq => ⟨ph, S, r, M, _, hs, ht, fun v H1 ⟨ph1, S1, M1, x1, hs1, d, q1, g1⟩ => by
    cases d <;> first | exact g1.elim | skip
    cases q1
    exact ⟨_, rfl, hq _ _ ⟨ph1, S1, M1, x1, hs1, _, .int _, g1⟩⟩⟩
/-! ### argument lists, displays -/
def dNil : DTA := fun _ M Q => Q [] M
def dCons (t : DTE) (u : DTA) : DTA := fun r M Q => t r M fun d M1 => u r M1 fun ds M2 => Q (d :: ds) M2
theorem da_nil : DA X [] dNil := DA.of pa_nil fun ph S r M σ H Q hs ht Q' hq => hq _ _ (Aft.here hs ⟨_, .nil, ht⟩)
theorem da_cons {e : Expr} {es : List Expr} {t : DTE} {u : DTA} (h : DE X e t) (h2 : DA X es u) (hs : starEach (e :: es) X.env = (false, eval e X.env) :: starEach es X.env := by rfl) : DA X (e :: es) (dCons t u) :=
  DA.of (pa_cons h.pe h2.pa hs) fun ph S r M σ H Q hs ht Q' hq => ⟨ph, S, r, M, _, hs, ht, fun v H1 ⟨ph1, S1, M1, x1, hs1, d, q1, g1⟩ =>
    ⟨ph1, S1, r, M1, _, hs1, g1, fun vs H2 ⟨ph2, S2, M2, x2, hs2, ds, q2, g2⟩ => hq _ _ ⟨ph2, S2, M2, x1.trans x2, hs2, _, .cons (q1.up x2) q2, g2⟩⟩⟩
def dTup (t : DTA) : DTE := fun r M Q => t r M fun ds M1 => ds.length ≤ sizeLine ∧ Q (.tup ds) M1
def dLst (t : DTA) : DTE := fun r M Q => t r M fun ds M1 => ds.length ≤ sizeLine ∧ Q (.lst ds) M1
/-- a list that will be changed -/
def dOwn (t : DTA) : DTE := fun r M Q => t r M fun ds M1 => ds.length ≤ sizeLine ∧ Q (.own M1.length) (M1 ++ [.lst ds])
theorem de_tup {es : List Expr} {x1} {t : DTA} (h : DA X es t) : DE X (.Tuple es x1 pos) (dTup t) :=
  DE.of (pe_tup h.pa) fun ph S r M σ H Q hs ht Q' hq => ⟨ph, S, r, M, _, hs, ht, fun vs H1 ⟨ph1, S1, M1, x1, hs1, ds, q1, hz, g1⟩ =>
    ⟨by rw [q1.len]; exact hz, fun p hp => hq _ _ (Aft.up x1 (Aft.frz hs1 hp fun x => ⟨_, .tup (.inl upd_same) (q1.up x), g1⟩))⟩⟩
theorem de_lst {es : List Expr} {t : DTA} (h : DA X es t) : DE X (.List es pos) (dLst t) :=
  DE.of (pe_lst h.pa) fun ph S r M σ H Q hs ht Q' hq => ⟨ph, S, r, M, _, hs, ht, fun vs H1 ⟨ph1, S1, M1, x1, hs1, ds, q1, hz, g1⟩ =>
    ⟨by rw [q1.len]; exact hz, fun p hp => hq _ _ (Aft.up x1 (Aft.frz hs1 hp fun x => ⟨_, .lst upd_same (q1.up x), g1⟩))⟩⟩
theorem Aft.own {K : PySem.W.Frag} {ph : Ph} {S : Hp} {r : Env} {σ : St} {H : Hp} {M : Mem} {p : Addr} {xs : List V} {ds : List D} {Q : DQ} (h : Sat K ph S r M σ H) (hp : H p = none) (hr : RepAll K ph S xs ds) (q : Q (.own M.length) (M ++ [.lst ds])) :
    post K ph S r σ Q (.ref p) (upd H p (.lst xs)) :=
  let ⟨x, hs, e⟩ := h.new hp hr
  ⟨_, _, _, x, hs, _, .own e, q⟩
theorem de_own {es : List Expr} {t : DTA} (h : DA X es t) : DE X (.List es pos) (dOwn t) :=
  DE.of (pe_lst h.pa) fun ph S r M σ H Q hs ht Q' hq => ⟨ph, S, r, M, _, hs, ht, fun vs H1 ⟨ph1, S1, M1, x1, hs1, ds, q1, hz, g1⟩ =>
    ⟨by rw [q1.len]; exact hz, fun p hp => hq _ _ (Aft.up x1 (Aft.own hs1 hp q1 g1))⟩⟩
/-! ### subscripts -/
/-- d's item at i, for every kind of sequence -/
def gIx : G2 := fun x y M Q => match res M x, y with
  | .lst l, .int i => match atI l i with
    | some d => Q d M
    | none => False
  | .tup l, .int i => match atI l i with
    | some d => Q d M
    | none => False
  | .scr ns, .int i => match atI ns i with
    | some n => Q (.int n) M
    | none => False
  | _, _ => False
theorem atI_rep {K : PySem.W.Frag} {ph : Ph} {S : Hp} {vs : List V} {ds : List D} {i : Int} {d : D} (h : RepAll K ph S vs ds) (e : atI ds i = some d) : ∃ v, atI vs i = some v ∧ Rep K ph S v d := by
  unfold atI at e ⊢
  rw [h.len]
  cases q : ixN ds.length i with
  | none => rw [q] at e; cases e
  | some j =>
    rw [q] at e
    exact h.get e
theorem atI_map {α β : Type} {f : α → β} {l : List α} {i : Int} {x : α} (e : atI l i = some x) : atI (l.map f) i = some (f x) := by
  unfold atI at e ⊢
  rw [List.length_map]
  cases q : ixN l.length i with
  | none => rw [q] at e; cases e
  | some j =>
    rw [q] at e
    show (l.map f)[j]? = _
    rw [List.getElem?_map]
    rw [show l[j]? = some x from e]
    rfl
/-- an owned list's items represent over S -/
theorem res_lst {K : PySem.W.Frag} {ph : Ph} {S : Hp} {r : Env} {M : Mem} {σ : St} {H : Hp} {v : V} {d : D} {l : List D} (hs : Sat K ph S r M σ H) (q : Rep K ph S v d) (e : res M d = .lst l) : ∃ a xs, v = .ref a ∧ H a = some (.lst xs) ∧ RepAll K ph S xs l := by
  cases d <;> first | (unfold res at e; cases e; done) | skip
  · cases e
    cases q with
    | lst h1 h2 => exact ⟨_, _, rfl, hs.sub _ _ h1, h2⟩
  · rename_i k
    unfold res at e
    dsimp only at e
    split at e
    · rename_i ds hk
      cases e
      cases q with
      | own h =>
        obtain ⟨a, xs, c1, c2, c3, c4⟩ := hs.cell k _ hk
        rw [h] at c1; cases c1
        exact ⟨_, _, rfl, c3, c4⟩
    · cases e
theorem res_tup {M : Mem} {d : D} {l : List D} (e : res M d = .tup l) : d = .tup l := by
  cases d <;> first | exact e | skip
  unfold res at e
  dsimp only at e
  split at e <;> cases e
theorem res_scr {M : Mem} {d : D} {l : List Int} (e : res M d = .scr l) : d = .scr l := by
  cases d <;> first | exact e | skip
  unfold res at e
  dsimp only at e
  split at e <;> cases e
theorem de_ix {ta tb : DTE} (ha : DE X a ta) (hb : DE X b tb) (hs : PlainIx b := by exact fun _ _ => rfl) : DE X (.Subscript a b pos) (dOp gIx ta tb) :=
  DE.of (pe_ix (ix_list.or ix_tup) ha.pe hb.pe hs) fun ph S r M σ H Q hs ht Q' hq => ⟨ph, S, r, M, _, hs, ht, fun v H1 ⟨ph1, S1, M1, x1, hs1, d, q1, g1⟩ =>
    ⟨ph1, S1, r, M1, _, hs1, g1, fun u H2 ⟨ph2, S2, M2, x2, hs2, e, q2, g2⟩ => by
      have q1' := q1.up x2
      have xx := x1.trans x2
      replace g2 : gIx d e M2 Q := g2
      unfold gIx at g2
      split at g2
      · rename_i l i er
        cases q2
        split at g2
        · rename_i d' ei
          obtain ⟨p, xs, rfl, hp, hx⟩ := res_lst hs2 q1' er
          obtain ⟨w, ew, qw⟩ := atI_rep hx ei
          exact .inl ⟨p, xs, i, w, rfl, rfl, SqL.of hp, ew, hq _ _ ⟨ph2, S2, M2, xx, hs2, _, qw, g2⟩⟩
        · exact g2.elim
      · rename_i l i er
        cases q2
        split at g2
        · rename_i d' ei
          cases res_tup er
          cases q1' with
          | tup h1 h2 =>
            obtain ⟨w, ew, qw⟩ := atI_rep h2 ei
            exact .inr ⟨_, _, i, w, rfl, rfl, h1.sq hs2.sub, ew, hq _ _ ⟨ph2, S2, M2, xx, hs2, _, qw, g2⟩⟩
        · exact g2.elim
      · rename_i ns i er
        cases q2
        split at g2
        · rename_i n ei
          cases res_scr er
          cases q1' with
          | scr h1 => exact .inl ⟨_, _, i, _, rfl, rfl, hs2.sub.seq h1, atI_map ei, hq _ _ ⟨ph2, S2, M2, xx, hs2, _, .int _, g2⟩⟩
        · exact g2.elim
      · exact g2.elim⟩⟩
end DL
/-! DL5: defs and their calls -/
namespace DL
open PySem PySem.Spec PyProof.Rows L2
/-! ### a def's promise over the hand layer, where no guard runs -/
structure FnG (P : Program) (w : World) (K : PySem.W.Frag) (mg : Str → Option Value) (base : Heap) (CX : CXT) (k : Nat) (f : Addr) (fd : FuncData) (ps : List Str) (sp : Sp) : Prop where
  len : ∀ vs H Q E, sp vs H Q E → vs.length = ps.length
  run : ∀ (A : Around) (outer : List PySem.Env) (s : Shared) (H : Hp) (args : Args) (us : List Value) (vs : List V) (Q : VK) (E : XK), Room k A → A.guards = some [] → Env0 P w K mg base A outer s H → BindsTo s fd args (ps.zip us) → Vals vs us → sp vs H Q E →
    codeAny (model P w) A (.call (.ref f) args) (CR CX outer P w H s Q E) s
theorem FnG.mono {P : Program} {w : World} {K : PySem.W.Frag} {mg : Str → Option Value} {base : Heap} {CX : CXT} {j k : Nat} {f : Addr} {fd : FuncData} {ps : List Str} {sp : Sp} (F : FnG P w K mg base CX j f fd ps sp) (h : j ≤ k) :
    FnG P w K mg base CX k f fd ps sp := ⟨F.len, fun A outer s H args us vs Q E hr => F.run A outer s H args us vs Q E (hr.mono h)⟩
section
variable {X : Cx} {CX : CXT} {k : Nat} {f : Addr} {fd : FuncData} {ps : List Str} {sp : Sp} {dvs : List V} {ds : List Value} {E : XK} {x : Str} {p pos : Pos} {e : Expr} {es : List Expr} {t : TA}
theorem run_fnG {pins : List (Addr × Obj)} {σ : St} {H : Hp} {s : Shared} {Q : VK} {us : List Value} {vs : List V} (F : FnG X.prog X.w X.K X.mg X.base CX k f fd ps sp) (hr : Room k X.A) (gd : X.A.guards = some []) (hb : Binds X.K fd ps ds) (hd : Vals dvs ds) (hx : Passes CX X E)
    (I : Inv X pins σ H s) (r : Vals vs us) (h : sp (vs ++ dvs) H Q E) : wpAny (model X.prog X.w) X.A (call (.ref f) us) (EP X pins σ Q) X.xe s := by
  have r2 : Vals (vs ++ dvs) (us ++ ds) := r.append hd
  have hl : (us ++ ds).length = ps.length := by rw [← r2.length]; exact F.len _ _ _ _ h
  refine wpAny_call (codeAny_mono (F.run X.A X.stack s H ⟨us, []⟩ (us ++ ds) (vs ++ dvs) Q E hr gd I.env0 (hb s us I.kIn hl) r2 h) fun r s' hq => ?_)
  match r, hq with
  | .error e, hq => exact hx pins σ H s e s' I hq
  | .ok (.ret u), hq => exact I.after hq
  | .ok .next, hq => exact False.elim hq
  | .ok .brk, hq => exact False.elim hq
  | .ok .cont, hq => exact False.elim hq
theorem pe_callG (F : FnG X.prog X.w X.K X.mg X.base CX k f fd ps sp) (hr : Room k X.A) (gd : X.A.guards = some []) (hg : Gl X x) (hm : X.mg x = some (.ref f)) (hk : PySem.W.keepIn X.K (.ref f) = true) (hb : Binds X.K fd ps ds) (hd : Vals dvs ds) (hx : Passes CX X E)
    (ha : PA X (e :: es) t) (hdb : (x == ("__debug__" : Str)) = false := by decide) (he : starEach (e :: es) X.env = (false, eval e X.env) :: starEach es X.env := by rfl) (hpl : (backTo pos (starEach es X.env)).any (·.1) = false := by rfl) :
    PE X (.Call (.Name x p) (e :: es) [] pos) (tCall sp dvs E t) :=
  ⟨fun pins s σ H Q I h => wpAny_Call_Name_kw (ld_glob I hg hm (PySem.W.callWith_K (h₀ := X.base) I.ok.mod.kin hk (thn (ha.run pos pins s σ H _ I h) fun us s1 ⟨vs, H1, I1, r, q⟩ => ⟨I1.kIn, run_fnG F hr gd hb hd hx I1 r q⟩) he hpl) hdb)⟩
theorem pe_callG0 (F : FnG X.prog X.w X.K X.mg X.base CX k f fd ps sp) (hr : Room k X.A) (gd : X.A.guards = some []) (hg : Gl X x) (hm : X.mg x = some (.ref f)) (hk : PySem.W.keepIn X.K (.ref f) = true) (hb : Binds X.K fd ps ds) (hd : Vals dvs ds) (hx : Passes CX X E)
    (hdb : (x == ("__debug__" : Str)) = false := by decide) : PE X (.Call (.Name x p) [] [] pos) (tCall sp dvs E tNil) :=
  ⟨fun pins s σ H Q I h => wpAny_Call_Name_kw (ld_glob I hg hm (PySem.W.callWith_K0 I.kIn hk (run_fnG (us := []) F hr gd hb hd hx I .nil h)) hdb)⟩
end
/-- a def by its body -/
theorem fnG_of {CX : CXT} {P : Program} {w : World} {K : PySem.W.Frag} {mg : Str → Option Value} {base : Heap} {k : Nat} {f : Addr} {name qual : Str} {params : Arguments} {body : List Stmt} {scope : Scope} {dV kV doc pm cdv ct oc : Value} {an od : Option Addr}
    {osl : Array (Option Value)} {N ps : List Str} {sp : Sp} (lk : K.lookup f = some ⟨oc, od, .func (PySem.W.fnOf name qual params body scope dV kV doc pm an cdv ct), osl⟩) (hcd : PySem.W.codeIn K cdv qual = true) (S : FnScope N ps scope)
    (len : ∀ vs H Q E, sp vs H Q E → vs.length = ps.length)
    (hbody : ∀ (A : Around) (outer : List PySem.Env) (s : Shared) (H : Hp) (vs : List V) (Q : VK) (E : XK), Room k (A.deeper (envOfC qual scope s.heap.objs.size f cdv)) → A.guards = some [] → sp vs H Q E →
      ∃ t, PSs (cxOf CX P w K mg base N qual scope f cdv A outer s H E) body t ∧ t { nx := fun _ H' => Q .non H', rt := Q } (start N vs) H) :
    FnG P w K mg base CX (k + 1) f (PySem.W.fnOf name qual params body scope dV kV doc pm an cdv ct) ps sp := by
  refine ⟨len, fun A outer s H args us vs Q E hr gd e0 hb r hsp => ?_⟩
  have hl := len _ _ _ _ hsp
  have KX : K.In s.heap := e0.mod.kin.keeps fun b o e => (e0.bs b o e).1
  have lim : s.heap.NoLimit := e0.mod.nolimit.keeps fun b o e => (e0.bs b o e).1
  refine codeAny_call_function hr.depth (KX _ _ lk) rfl S.co S.gen rfl (PySem.W.codeRec_of KX hcd) (hb _ _ _ _ ?_)
  refine wpAny_newFunctionEnv_cells S.kind (fun y hy => ?_) fun env he s1 x => ?_
  · rcases S.par y.1 (List.of_mem_zip (a := y.1) (b := y.2) hy).1 with q | q
    · exact .inl q
    · exact .inr ⟨q, PySem.W.cellsFrom_some _ _ _ (.inl q)⟩
  subst he
  refine ⟨lim.keeps x.toInCall.keep, codeAny_func ?_⟩
  obtain ⟨t, ht, hq⟩ := hbody A outer s H vs Q E (hr.deeper _) gd hsp
  have I : Inv (cxOf CX P w K mg base N qual scope f cdv A outer s H E) [] (start N vs) H s1 := inv_start S hr.hd e0 hl r x
  refine wpAny_mono (ht.run [] s1 (start N vs) H _ I hq) (fun fl s' hs => ?_) fun e s' hs => hs
  match fl, hs with
  | .ret u, ⟨v, σ', H', J, rv, q⟩ => exact ⟨v, H', J.os, J.bare, J.base, J.hok, rv, q⟩
  | .next, ⟨σ', H', J, q⟩ => exact ⟨V.non, H', J.os, J.bare, J.base, J.hok, rfl, q⟩
  | .brk, ⟨_, _, _, q⟩ => exact False.elim q
  | .cont, ⟨_, _, _, q⟩ => exact False.elim q
/-! ### a def's promise over data -/
/-- what is wanted of an exception: its class, its value, the cells -/
abbrev DX := Str → D → Mem → Prop
abbrev DSp := List D → Mem → DQ → DX → Prop
def DX0 : DX := fun _ _ _ => False
def postM (K : PySem.W.Frag) (ph : Ph) (S : Hp) (Q : DQ) : VK := post K ph S [] [] Q
def postX (K : PySem.W.Frag) (ph : Ph) (S : Hp) (E : DX) : XK := fun cls d H => ∃ (x : Str) (C T dd : Addr) (v : V) (dv : D), XA.ErC K x C T ∧ cls = .ref C ∧ d = some dd ∧
  Aft K ph S [] [] H fun ph' S' M => S' dd = some (.xd [(fVal, v)]) ∧ Rep K ph' S' v dv ∧ E x dv M
def lfSp (K : PySem.W.Frag) (n : Nat) (sp : DSp) : Sp := fun vs H Q E => ∃ ph S M ds Q0 E0, ds.length = n ∧ Sat K ph S [] M [] H ∧ RepAll K ph S vs ds ∧ sp ds M Q0 E0 ∧ (∀ v H', postM K ph S Q0 v H' → Q v H') ∧ (∀ cls d H', postX K ph S E0 cls d H' → E cls d H')
abbrev FnD (P : Program) (w : World) (K : PySem.W.Frag) (mg : Str → Option Value) (base : Heap) (CX : CXT) (k : Nat) (f : Addr) (fd : FuncData) (ps : List Str) (sp : DSp) : Prop :=
  FnG P w K mg base CX k f fd ps (lfSp K ps.length sp)
theorem Sat.drop {K : PySem.W.Frag} {ph : Ph} {S : Hp} {r : Env} {M : Mem} {σ : St} {H : Hp} (h : Sat K ph S r M σ H) : Sat K ph S [] M [] H :=
  ⟨h.sub, h.len, h.nd, h.trk, h.cell, h.hid, h.hnd, rfl, fun i d e => by simp at e⟩
/-- behind a call the names are as they were -/
theorem Sat.back {K : PySem.W.Frag} {ph ph' : Ph} {S S' : Hp} {r : Env} {M M' : Mem} {σ : St} {H H' : Hp} (h : Sat K ph S r M σ H) (x : Ext ph S ph' S') (h' : Sat K ph' S' [] M' [] H') : Sat K ph' S' r M' σ H' :=
  ⟨h'.sub, h'.len, h'.nd, h'.trk, h'.cell, h'.hid, h'.hnd, h.el, fun i d e => let ⟨v, e1, q⟩ := h.env i d e; ⟨v, e1, q.up x⟩⟩
section
variable {X : Cx} {CX : CXT} {k : Nat} {f : Addr} {fd : FuncData} {ps : List Str} {sp : DSp} {x : Str} {p pos : Pos} {e : Expr} {es : List Expr} {t : DTA}
/-- f(..), then the defaults -/
def dCall (n : Nat) (sp : DSp) (dvs : List D) (E : DX) (t : DTA) : DTE := fun r M Q => t r M fun ds M1 => (ds ++ dvs).length = n ∧ sp (ds ++ dvs) M1 Q E
/-- a value that is the same everywhere -/
def Cst (K : PySem.W.Frag) (v : V) (d : D) : Prop := ∀ ph S, Rep K ph S v d
inductive Csts (K : PySem.W.Frag) : List V → List D → Prop
  | nil : Csts K [] []
  | cons {v : V} {d : D} {vs : List V} {ds : List D} : Cst K v d → Csts K vs ds → Csts K (v :: vs) (d :: ds)
theorem Csts.rep {K : PySem.W.Frag} {ph : Ph} {S : Hp} : ∀ {vs : List V} {ds : List D}, Csts K vs ds → RepAll K ph S vs ds
  | _, _, .nil => .nil
  | _, _, .cons h t => .cons (h _ _) t.rep
theorem lf_call {t' : TA} {dvs : List V} {dds : List D} {E' : XK} {E : DX} (hE : ∀ ph S cls d H', postX X.K ph S E cls d H' → E' cls d H') (hc : Csts X.K dvs dds) {ph : Ph} {S : Hp} {r : Env} {M : Mem} {σ : St} {H : Hp} {Q : DQ} {Q' : VK} (hs : Sat X.K ph S r M σ H) (ht : dCall ps.length sp dds E t r M Q) (hq : ∀ v H', post X.K ph S r σ Q v H' → Q' v H')
    (w : ∀ Q1 : List V → Hp → Prop, (∀ vs H', postA X.K ph S r σ (fun ds M1 => (ds ++ dds).length = ps.length ∧ sp (ds ++ dds) M1 Q E) vs H' → Q1 vs H') → t' σ H Q1) : tCall (lfSp X.K ps.length sp) dvs E' t' σ H Q' :=
  w _ fun vs H1 ⟨ph1, S1, M1, x1, hs1, ds, q1, hl, h1⟩ => ⟨ph1, S1, M1, ds ++ dds, Q, E, hl, hs1.drop, q1.app hc.rep, h1, fun v H2 ⟨ph2, S2, M2, x2, hs2, d, q2, h2⟩ => hq _ _ ⟨ph2, S2, M2, x1.trans x2, hs1.back x2 hs2, d, q2, h2⟩, fun cls d H2 h2 => hE _ _ _ _ _ h2⟩
theorem de_callX {dvs : List V} {dds : List D} {ds : List Value} {E' : XK} {E : DX} (F : FnD X.prog X.w X.K X.mg X.base CX k f fd ps sp) (hr : Room k X.A) (gd : X.A.guards = some []) (hm : X.mg x = some (.ref f)) (hk : PySem.W.keepIn X.K (.ref f) = true) (hb : Binds X.K fd ps ds) (hd : Vals dvs ds) (hc : Csts X.K dvs dds) (hx : Passes CX X E') (hE : ∀ ph S cls d H', postX X.K ph S E cls d H' → E' cls d H')
    (ha : DA X (e :: es) t) (hg : Gl X x := by rfl) (hdb : (x == ("__debug__" : Str)) = false := by decide) (he : starEach (e :: es) X.env = (false, eval e X.env) :: starEach es X.env := by rfl) (hpl : (backTo pos (starEach es X.env)).any (·.1) = false := by rfl) :
    DE X (.Call (.Name x p) (e :: es) [] pos) (dCall ps.length sp dds E t) :=
  DE.of (pe_callG F hr gd hg hm hk hb hd hx ha.pa hdb he hpl) fun ph S r M σ H Q hs ht Q' hq => lf_call hE hc hs ht hq fun Q1 hQ1 => ⟨ph, S, r, M, _, hs, ht, hQ1⟩
theorem de_call0X {dvs : List V} {dds : List D} {ds : List Value} {E' : XK} {E : DX} (F : FnD X.prog X.w X.K X.mg X.base CX k f fd ps sp) (hr : Room k X.A) (gd : X.A.guards = some []) (hm : X.mg x = some (.ref f)) (hk : PySem.W.keepIn X.K (.ref f) = true) (hb : Binds X.K fd ps ds) (hd : Vals dvs ds) (hc : Csts X.K dvs dds) (hx : Passes CX X E') (hE : ∀ ph S cls d H', postX X.K ph S E cls d H' → E' cls d H')
    (hg : Gl X x := by rfl) (hdb : (x == ("__debug__" : Str)) = false := by decide) : DE X (.Call (.Name x p) [] [] pos) (dCall ps.length sp dds E dNil) :=
  DE.of (pe_callG0 F hr gd hg hm hk hb hd hx hdb) fun ph S r M σ H Q hs ht Q' hq => lf_call hE hc hs ht hq fun Q1 hQ1 => hQ1 _ _ (Aft.here hs ⟨_, .nil, ht⟩)
theorem pX0 : ∀ ph S cls d H', postX X.K ph S DX0 cls d H' → E0 cls d H' := fun _ _ _ _ _ ⟨_, _, _, _, _, _, _, _, _, _, _, _, _, _, _, _, z⟩ => z
/-- what is told of a def of the module, for its callers -/
structure Def (P : Program) (w : World) (K : PySem.W.Frag) (mg : Str → Option Value) (base : Heap) (CX : CXT) (k : Nat) (x : Str) (st : Stmt) (ps : List Str) (sp : DSp) : Prop where
  ex : ∃ (f : Addr) (fd : FuncData), FnD P w K mg base CX k f fd ps sp ∧ mg x = some (.ref f) ∧ PySem.W.keepIn K (.ref f) = true ∧ Binds K fd ps [] ∧ Fun K x x st f fd
/-- a call of a def from which nothing is raised -/
theorem dcall {n : Nat} {st : Stmt} {P : Program} {w : World} {K : PySem.W.Frag} {mg : Str → Option Value} {base : Heap} (F : Def P w K mg base CX0 k x st ps sp) {j : Nat} (hr : Room j X.A) (gd : X.A.guards = some []) (ha : DA X (e :: es) t) (hj : k ≤ j := by decide) (hn : ps.length = n := by rfl)
    (h1 : P = X.prog := by rfl) (h2 : w = X.w := by rfl) (h3 : K = X.K := by rfl) (h4 : mg = X.mg := by rfl) (h5 : base = X.base := by rfl) (hg : Gl X x := by rfl) (hdb : (x == ("__debug__" : Str)) = false := by decide) (he : starEach (e :: es) X.env = (false, eval e X.env) :: starEach es X.env := by rfl)
    (hpl : (backTo pos (starEach es X.env)).any (·.1) = false := by rfl) : DE X (.Call (.Name x p) (e :: es) [] pos) (dCall n sp [] DX0 t) := by
  subst h1 h2 h3 h4 h5 hn
  obtain ⟨f, fd, h1, h2, h3, h4, _⟩ := F.ex
  exact de_callX h1 (hr.mono hj) gd h2 h3 h4 .nil .nil pass0 pX0 ha hg hdb he hpl
theorem dcall0 {n : Nat} {st : Stmt} {P : Program} {w : World} {K : PySem.W.Frag} {mg : Str → Option Value} {base : Heap} (F : Def P w K mg base CX0 k x st ps sp) {j : Nat} (hr : Room j X.A) (gd : X.A.guards = some []) (hj : k ≤ j := by decide) (hn : ps.length = n := by rfl)
    (h1 : P = X.prog := by rfl) (h2 : w = X.w := by rfl) (h3 : K = X.K := by rfl) (h4 : mg = X.mg := by rfl) (h5 : base = X.base := by rfl) (hg : Gl X x := by rfl) (hdb : (x == ("__debug__" : Str)) = false := by decide) :
    DE X (.Call (.Name x p) [] [] pos) (dCall n sp [] DX0 dNil) := by
  subst h1 h2 h3 h4 h5 hn
  obtain ⟨f, fd, h1, h2, h3, h4, _⟩ := F.ex
  exact de_call0X h1 (hr.mono hj) gd h2 h3 h4 .nil .nil pass0 pX0 hg hdb
end
/-! ### at the end of a def: the cells that it made are left behind -/
mutual
def below (n : Nat) : D → Bool
  | .tup l => belowAll n l
  | .lst l => belowAll n l
  | .own k => decide (k < n)
  | .exc _ d => below n d
  | _ => true
def belowAll (n : Nat) : List D → Bool
  | [] => true
  | d :: ds => below n d && belowAll n ds
end
def belowO (n : Nat) : Own → Bool
  | .lst l => belowAll n l
  | .dead => true
section
variable {K : PySem.W.Frag} {ph : Ph} {S : Hp} {n : Nat}
mutual
theorem Rep.take : ∀ (d : D) (v : V), below n d = true → Rep K ph S v d → Rep K (ph.cut n) S v d
  | .non, _, _, h => by cases h; exact .non
  | .bl _, _, _, h => by cases h; exact .bl _
  | .int _, _, _, h => by cases h; exact .int _
  | .str _, _, _, h => by cases h; exact .str _
  | .tup ds, _, e, h => by
    cases h with
    | tup h1 h2 => exact .tup h1 (RepAll.takeP ds _ (by simpa only [below] using e) h2)
  | .lst ds, _, e, h => by
    cases h with
    | lst h1 h2 => exact .lst h1 (RepAll.takeP ds _ (by simpa only [below] using e) h2)
  | .dct0, _, _, h => by
    cases h with
    | dct0 h1 => exact .dct0 h1
  | .scr ns, _, _, h => by
    cases h with
    | scr h1 => exact .scr h1
  | .own k, _, e, h => by
    cases h with
    | own h1 =>
      have e' : k < n := of_decide_eq_true (by simpa only [below] using e)
      exact .own (by show (ph.cells.take n)[k]? = _; rw [List.getElem?_take_of_lt e']; exact h1)
  | .glb _, _, _, h => by
    cases h with
    | glb h1 => exact .glb h1
  | .exc C d, _, e, h => by
    cases h with
    | exc h0 h1 h2 h3 => exact .exc h0 h1 h2 (Rep.take d _ (by simpa only [below] using e) h3)
  | .val v, _, _, h => by cases h; exact .val _
theorem RepAll.takeP : ∀ (ds : List D) (vs : List V), belowAll n ds = true → RepAll K ph S vs ds → RepAll K (ph.cut n) S vs ds
  | [], _, _, h => by cases h; exact .nil
  | d :: ds, _, e, h => by
    have e' : below n d = true ∧ belowAll n ds = true := by simpa only [belowAll, Bool.and_eq_true] using e
    cases h with
    | cons h1 h2 => exact .cons (Rep.take d _ e'.1 h1) (RepAll.takeP ds _ e'.2 h2)
end
mutual
theorem Rep.belowP : ∀ (d : D) (v : V), Rep K ph S v d → below ph.cells.length d = true
  | .non, _, _ => by simp only [below]
  | .bl _, _, _ => by simp only [below]
  | .int _, _, _ => by simp only [below]
  | .str _, _, _ => by simp only [below]
  | .tup ds, _, h => by
    cases h with
    | tup h1 h2 => simp only [below]; exact RepAll.belowP ds _ h2
  | .lst ds, _, h => by
    cases h with
    | lst h1 h2 => simp only [below]; exact RepAll.belowP ds _ h2
  | .dct0, _, _ => by simp only [below]
  | .scr ns, _, _ => by simp only [below]
  | .own k, _, h => by
    cases h with
    | own h1 => simp only [below]; exact decide_eq_true (List.getElem?_eq_some_iff.mp h1).1
  | .glb _, _, _ => by simp only [below]
  | .exc C d, _, h => by
    cases h with
    | exc h0 h1 h2 h3 => simp only [below]; exact Rep.belowP d _ h3
  | .val v, _, _ => by simp only [below]
theorem RepAll.belowP : ∀ (ds : List D) (vs : List V), RepAll K ph S vs ds → belowAll ph.cells.length ds = true
  | [], _, _ => by simp only [belowAll]
  | d :: ds, _, h => by
    cases h with
    | cons h1 h2 => simp only [belowAll, Bool.and_eq_true]; exact ⟨Rep.belowP d _ h1, RepAll.belowP ds _ h2⟩
end
end
mutual
theorem below.mono {m n : Nat} (hmn : m ≤ n) : ∀ d : D, below m d = true → below n d = true
  | .non, _ => by simp only [below]
  | .bl _, _ => by simp only [below]
  | .int _, _ => by simp only [below]
  | .str _, _ => by simp only [below]
  | .tup ds, h => by
    simp only [below] at h ⊢
    exact belowAll.mono hmn ds h
  | .lst ds, h => by
    simp only [below] at h ⊢
    exact belowAll.mono hmn ds h
  | .dct0, _ => by simp only [below]
  | .scr _, _ => by simp only [below]
  | .own k, h => by
    simp only [below] at h ⊢
    have := of_decide_eq_true h
    exact decide_eq_true (by omega)
  | .glb _, _ => by simp only [below]
  | .exc _ d, h => by
    simp only [below] at h ⊢
    exact below.mono hmn d h
  | .val _, _ => by simp only [below]
theorem belowAll.mono {m n : Nat} (hmn : m ≤ n) : ∀ ds : List D, belowAll m ds = true → belowAll n ds = true
  | [], _ => by simp only [belowAll]
  | d :: ds, h => by
    simp only [belowAll, Bool.and_eq_true] at h ⊢
    exact ⟨below.mono hmn d h.1, belowAll.mono hmn ds h.2⟩
end
/-- d and the cells M1 are what stays of M': all else was made by the def -/
def Rtq (M : Mem) (Q : DQ) : DQ := fun d M' => ∃ M1 G, M' = M1 ++ G ∧ M.length ≤ M1.length ∧ below M1.length d = true ∧ (∀ (i : Nat) (c : Own), M1[i]? = some c → M[i]? = some c ∨ belowO M1.length c = true) ∧ Q d M1
theorem Sat.leave {K : PySem.W.Frag} {ph ph1 : Ph} {S S1 : Hp} {r : Env} {M M1 G : Mem} {σ : St} {H H1 : Hp} (h0 : Sat K ph S [] M [] H) (x : Ext ph S ph1 S1) (h : Sat K ph1 S1 r (M1 ++ G) σ H1) (hl : M.length ≤ M1.length) (hc : ∀ (i : Nat) (c : Own), M1[i]? = some c → M[i]? = some c ∨ belowO M1.length c = true) :
    Ext ph S (ph1.cut M1.length) S1 ∧ Sat K (ph1.cut M1.length) S1 [] M1 [] H1 := by
  have hpl : M1.length ≤ ph1.cells.length := by have := h.len; rw [List.length_append] at this; omega
  have up : ∀ (k : Nat) (a : Addr), k < M1.length → ph1.cells[k]? = some a → (ph1.cut M1.length).cells[k]? = some a := fun k a hk e => by show (ph1.cells.take M1.length)[k]? = _; rw [List.getElem?_take_of_lt hk]; exact e
  have dn : ∀ (k : Nat) (a : Addr), (ph1.cut M1.length).cells[k]? = some a → ph1.cells[k]? = some a := fun k a e => by
    replace e : (ph1.cells.take M1.length)[k]? = some a := e
    have hk : k < M1.length := by
      have := (List.getElem?_eq_some_iff.mp e).1
      rw [List.length_take] at this; omega
    rw [List.getElem?_take_of_lt hk] at e; exact e
  refine ⟨⟨fun k a e => up k a ?_ (x.pre k a e), x.same, x.hid⟩, h.sub, ?_, h.nd.sublist (List.take_sublist _ _), fun k a e => h.trk k a (dn k a e), fun k ds e => ?_, fun q hq => ?_, h.hnd, rfl, fun i d e => by simp at e⟩
  · refine Nat.lt_of_lt_of_le ?_ hl
    rw [← h0.len]; exact (List.getElem?_eq_some_iff.mp e).1
  · show (ph1.cells.take M1.length).length = _
    rw [List.length_take]; omega
  · have kl : k < M1.length := (List.getElem?_eq_some_iff.mp e).1
    obtain ⟨a, xs, c1, c2, c3, c4⟩ := h.cell k ds (by rw [List.getElem?_append_left kl]; exact e)
    refine ⟨a, xs, up k a (by omega) c1, c2, c3, RepAll.takeP ds xs ?_ c4⟩
    rcases hc k _ e with q | q
    · obtain ⟨_, _, _, _, _, b4⟩ := h0.cell k ds q
      refine belowAll.mono hl _ ?_
      rw [← h0.len]; exact RepAll.belowP _ _ b4
    · simpa only [belowO] using q
  · obtain ⟨h1, h2, h3⟩ := h.hid q hq
    exact ⟨h1, h2, fun z => h3 (List.mem_of_mem_take z)⟩
theorem Rtq.out {K : PySem.W.Frag} {ph : Ph} {S : Hp} {M : Mem} {H : Hp} {Q : DQ} (h0 : Sat K ph S [] M [] H) {v : V} {H1 : Hp} (h : postR K ph S (Rtq M Q) v H1) : postM K ph S Q v H1 := by
  obtain ⟨r, σ, ph1, S1, M', x, hs, d, q, M1, G, rfl, hl, hb, hc, hq⟩ := h
  obtain ⟨x2, hs2⟩ := Sat.leave h0 x hs hl hc
  exact ⟨_, _, _, x2, hs2, d, Rep.take d v hb q, hq⟩
/-- the names at the entry -/
def startD (n : Nat) (ds : List D) : Env := ds.map some ++ List.replicate (n - ds.length) none
theorem Sat.start {K : PySem.W.Frag} {ph : Ph} {S : Hp} {M : Mem} {H : Hp} {vs : List V} {ds : List D} (h : Sat K ph S [] M [] H) (q : RepAll K ph S vs ds) (N : List Str) : Sat K ph S (startD N.length ds) M (L2.start N vs) H := by
  refine ⟨h.sub, h.len, h.nd, h.trk, h.cell, h.hid, h.hnd, ?_, fun i d e => ?_⟩
  · unfold startD L2.start
    rw [List.length_append, List.length_append, List.length_map, List.length_map, List.length_replicate, List.length_replicate, q.len]
  · unfold startD at e
    by_cases hi : i < ds.length
    · rw [List.getElem?_append_left (by rw [List.length_map]; exact hi), List.getElem?_map] at e
      cases e' : ds[i]? with
      | none => rw [e'] at e; cases e
      | some d' =>
        rw [e'] at e
        have e2 : d' = d := by simpa using e
        subst e2
        obtain ⟨v, ev, qv⟩ := q.get e'
        refine ⟨v, ?_, qv⟩
        unfold L2.start
        rw [List.getElem?_append_left (by rw [List.length_map, q.len]; exact hi), List.getElem?_map, ev]
        rfl
    · rw [List.getElem?_append_right (by rw [List.length_map]; omega), List.getElem?_replicate] at e
      split at e <;> cases e
/-- what the body's end is for the def -/
def dEnds (M : Mem) (Q : DQ) : DEnds := { nx := fun _ M' => Rtq M Q .non M', rt := Rtq M Q }
section
variable {P : Program} {w : World} {K : PySem.W.Frag} {mg : Str → Option Value} {base : Heap}
/-- THE RULE: a def from which nothing is raised, by its body; its end leaves its own cells behind -/
theorem Fun.okD {x qual : Str} {st : Stmt} {f : Addr} {fd : FuncData} {N ps : List Str} {k : Nat} {sp : DSp} {t : DTS} (F : Fun K x qual st f fd) (S : FnScope N ps (defScope st))
    (hder : ∀ (cdv : Value) (A : Around) (outer : List PySem.Env) (s : Shared) (H : Hp) (E : XK), Room k (A.deeper (envOfC qual (defScope st) s.heap.objs.size f cdv)) → (A.deeper (envOfC qual (defScope st) s.heap.objs.size f cdv)).guards = some [] →
      DSs (cxOf CX0 P w K mg base N qual (defScope st) f cdv A outer s H E).nox (defBody st) t)
    (hread : ∀ ds M Q, ds.length = ps.length → sp ds M Q DX0 → t (dEnds M Q) (startD N.length ds) M)
    (hX : ∀ ds M Q E, sp ds M Q E → sp ds M Q DX0 := by exact fun _ _ _ _ h => h) : FnD P w K mg base CX0 (k + 1) f fd ps sp := by
  obtain ⟨oc, od, kV, doc, pm, an, cdv, ct, osl, rfl, lk, hcd⟩ := F.ex
  refine fnG_of lk hcd S (fun vs H Q E h => ?_) fun A outer s H vs Q E hr gd hsp => ?_
  · obtain ⟨_, _, _, _, _, _, hl, _, q, _⟩ := h
    rw [q.len]; exact hl
  · obtain ⟨ph, S0, M, ds, Q0, E0, hl, hs, hq, h, h1, h2⟩ := hsp
    refine ⟨_, (hder cdv A outer s H E hr gd).pss.nox, ph, S0, startD N.length ds, M, dEnds M Q0, hs.start hq N, hread ds M Q0 hl (hX _ _ _ _ h), ?_, ?_, ?_, ?_⟩
    · rintro σ' H' ⟨r, ph1, S1, M1, x, hs1, z⟩
      exact h1 _ _ (Rtq.out hs ⟨r, σ', ph1, S1, M1, x, hs1, .non, .non, z⟩)
    · exact fun v H' z => h1 _ _ (Rtq.out hs z)
    · rintro σ' H' ⟨r, ph1, S1, M1, x, hs1, z⟩
      exact z.elim
    · rintro σ' H' ⟨r, ph1, S1, M1, x, hs1, z⟩
      exact z.elim
end
end DL
/-! DL6: statements, loops, comprehensions -/
namespace DL
open PySem PySem.Spec PyProof.Rows L2
variable {X : Cx}
theorem DS.of {st : Stmt} {t' : TS} {t : DTS} (h : PS X st t') (w : ∀ ph S r M σ H E, Sat X.K ph S r M σ H → t E r M → ∀ E', (∀ σ' H', postN X.K ph S E.nx σ' H' → E'.nx σ' H') → (∀ v H', postR X.K ph S E.rt v H' → E'.rt v H') → (∀ σ' H', postN X.K ph S E.bk σ' H' → E'.bk σ' H') → (∀ σ' H', postN X.K ph S E.ct σ' H' → E'.ct σ' H') → t' E' σ H) : DS X st t :=
  ⟨PS.weak h fun E σ H ⟨ph, S, r, M, E0, hs, ht, h1, h2, h3, h4⟩ => w ph S r M σ H E0 hs ht E h1 h2 h3 h4⟩
theorem postN.up {K : PySem.W.Frag} {ph ph1 : Ph} {S S1 : Hp} {Q : Env → Mem → Prop} {σ : St} {H : Hp} (x : Ext ph S ph1 S1) (h : postN K ph1 S1 Q σ H) : postN K ph S Q σ H := let ⟨r, q⟩ := h; ⟨r, Aft.up x q⟩
theorem postR.up {K : PySem.W.Frag} {ph ph1 : Ph} {S S1 : Hp} {Q : DQ} {v : V} {H : Hp} (x : Ext ph S ph1 S1) (h : postR K ph1 S1 Q v H) : postR K ph S Q v H := let ⟨r, σ, q⟩ := h; ⟨r, σ, Aft.up x q⟩
/-! ### blocks -/
def dNext : DTS := fun E r M => E.nx r M
def dSeq (t u : DTS) : DTS := fun E r M => t { E with nx := u E } r M
theorem dss_nil : DSs X [] dNext := ⟨PSs.weak pss_nil fun E σ H ⟨ph, S, r, M, E0, hs, ht, h1, _, _, _⟩ => h1 _ _ ⟨r, Aft.here hs ht⟩⟩
theorem lf_on {ph ph1 : Ph} {S S1 : Hp} {r : Env} {M : Mem} {σ : St} {H : Hp} {t : DTS} {E : DEnds} {E' : Ends} (x : Ext ph S ph1 S1) (hs : Sat X.K ph1 S1 r M σ H) (ht : t E r M)
    (h1 : ∀ σ' H', postN X.K ph S E.nx σ' H' → E'.nx σ' H') (h2 : ∀ v H', postR X.K ph S E.rt v H' → E'.rt v H') (h3 : ∀ σ' H', postN X.K ph S E.bk σ' H' → E'.bk σ' H') (h4 : ∀ σ' H', postN X.K ph S E.ct σ' H' → E'.ct σ' H') : lfS X.K t E' σ H :=
  ⟨ph1, S1, r, M, E, hs, ht, fun _ _ z => h1 _ _ (z.up x), fun _ _ z => h2 _ _ (z.up x), fun _ _ z => h3 _ _ (z.up x), fun _ _ z => h4 _ _ (z.up x)⟩
theorem dss_cons {st : Stmt} {rest : List Stmt} {t u : DTS} (h : DS X st t) (h' : DSs X rest u) : DSs X (st :: rest) (dSeq t u) :=
  ⟨PSs.weak (pss_cons h.ps h'.pss) fun E σ H ⟨ph, S, r, M, E0, hs, ht, h1, h2, h3, h4⟩ =>
    ⟨ph, S, r, M, { E0 with nx := u E0 }, hs, ht, fun σ' H' ⟨r1, ph1, S1, M1, x, hs1, z⟩ => lf_on x hs1 z h1 h2 h3 h4, h2, h3, h4⟩⟩
theorem dss_one {st : Stmt} {t : DTS} (h : DS X st t) : DSs X [st] t := ⟨pss_one h.ps⟩
def dNever : DTS := fun _ _ _ => False
section
variable {pos : Pos}
/-- an expression whose value is dropped -/
def dDrop (t : DTE) : DTS := fun E r M => t r M fun _ M1 => E.nx r M1
theorem ds_expr {e : Expr} {t : DTE} (he : DE X e t) (hs : swapsWith e none pos.line X.env = pure false := by rfl) : DS X (.Expr e pos) (dDrop t) :=
  DS.of (ps_expr he.pe hs) fun ph S r M σ H E hs ht E' h1 _ _ _ => ⟨ph, S, r, M, _, hs, ht, fun v H' ⟨ph1, S1, M1, x, hs1, d, _, z⟩ => h1 _ _ ⟨r, ph1, S1, M1, x, hs1, z⟩⟩
def dRet (t : DTE) : DTS := fun E r M => t r M E.rt
theorem ds_ret {e : Expr} {t : DTE} (he : DE X e t) : DS X (.Return (some e) pos) (dRet t) :=
  DS.of (ps_ret he.pe) fun ph S r M σ H E hs ht E' _ h2 _ _ => ⟨ph, S, r, M, _, hs, ht, fun v H' z => h2 _ _ ⟨r, σ, z⟩⟩
def dRetN : DTS := fun E _ M => E.rt .non M
def dIfS (c : DTT) (t u : DTS) : DTS := fun E r M => c r M fun b M1 => if b = true then t E r M1 else u E r M1
theorem ds_if {c : Expr} {a b : List Stmt} {tc : DTT} {t u : DTS} (hc : DT X c tc) (ha : DSs X a t) (hb : DSs X b u) : DS X (.If c a b pos) (dIfS tc t u) :=
  DS.of (ps_if hc.pt ha.pss hb.pss) fun ph S r M σ H E hs ht E' h1 h2 h3 h4 => ⟨ph, S, r, M, _, hs, ht, fun k H1 ⟨ph1, S1, M1, x, hs1, z⟩ => by
    cases k with
    | true => exact lf_on x hs1 z h1 h2 h3 h4
    | false => exact lf_on x hs1 z h1 h2 h3 h4⟩
end
/-! ### targets -/
abbrev DTG := D → Env → Mem → (Env → Mem → Prop) → Prop
structure DG (X : Cx) (target : Expr) (g : DTG) : Prop where
  pg : PG X target (fun v σ H Q => ∃ ph S r M d Q0, Sat X.K ph S r M σ H ∧ Rep X.K ph S v d ∧ g d r M Q0 ∧ ∀ σ' H', postN X.K ph S Q0 σ' H' → Q σ' H')
def dName (i : Nat) : DTG := fun d r M Q => Q (r.set i (some d)) M
theorem dg_name {i : Nat} {x : Str} {pos : Pos} (hN : X.N.Nodup) (hi : X.N[i]? = some x := by rfl) (hx : Loc X.env.scope x := by first | exact Or.inl rfl | exact Or.inr rfl) (hf : X.fn x = true ∨ X.env.scope.names.lookup x = some .local := by first | exact .inl rfl | exact .inr rfl | assumption) : DG X (.Name x pos) (dName i) :=
  ⟨⟨fun pins s σ H v u Q I rv ⟨ph, S, r, M, d, Q0, hs, q, hg, h1⟩ => (pg_name hN hi hx hf).run pins s σ H v u Q I rv (h1 _ _ ⟨_, Aft.here (hs.setN q) hg⟩)⟩⟩
abbrev DTGs := List D → Env → Mem → (Env → Mem → Prop) → Prop
structure DGs (X : Cx) (ts : List Expr) (g : DTGs) : Prop where
  pgs : PGs X ts (fun vs σ H Q => ∃ ph S r M ds Q0, Sat X.K ph S r M σ H ∧ RepAll X.K ph S vs ds ∧ g ds r M Q0 ∧ ∀ σ' H', postN X.K ph S Q0 σ' H' → Q σ' H')
def dGNil : DTGs := fun ds r M Q => match ds with
  | [] => Q r M
  | _ => False
def dGCons (g : DTG) (u : DTGs) : DTGs := fun ds r M Q => match ds with
  | d :: rest => g d r M fun r1 M1 => u rest r1 M1 Q
  | _ => False
theorem dgs_nil : DGs X [] dGNil := ⟨⟨fun pins s σ H vs us Q I rv ⟨ph, S, r, M, ds, Q0, hs, q, hg, h1⟩ => pgs_nil.run pins s σ H vs us Q I rv (by
  cases ds with
  | cons d ds => exact hg.elim
  | nil =>
    cases q
    exact ⟨rfl, h1 _ _ ⟨r, Aft.here hs hg⟩⟩)⟩⟩
theorem dgs_cons {e : Expr} {es : List Expr} {g : DTG} {u : DTGs} (h : DG X e g) (h' : DGs X es u) (hst : (assignEach (e :: es) X.env).map (·.2) = assign e X.env :: (assignEach es X.env).map (·.2) := by rfl) : DGs X (e :: es) (dGCons g u) :=
  ⟨⟨fun pins s σ H vs us Q I rv ⟨ph, S, r, M, ds, Q0, hs, q, hg, h1⟩ => (pgs_cons h.pg h'.pgs hst).run pins s σ H vs us Q I rv (by
    cases ds with
    | nil => exact hg.elim
    | cons d ds =>
      cases q with
      | cons q1 q2 => exact ⟨_, _, rfl, ph, S, r, M, d, _, hs, q1, hg, fun σ1 H1 ⟨r1, ph1, S1, M1, x1, hs1, z⟩ => ⟨ph1, S1, r1, M1, ds, Q0, hs1, q2.up x1, z, fun σ2 H2 z2 => h1 _ _ (z2.up x1)⟩⟩)⟩⟩
/-- (a, b, ..) = a tuple, or a list -/
def dGTup (n : Nat) (u : DTGs) : DTG := fun d r M Q => match res M d with
  | .tup ds => ds.length = n ∧ u ds r M Q
  | .lst ds => ds.length = n ∧ u ds r M Q
  | _ => False
theorem dg_tup {es : List Expr} {k : Nat} {u : DTGs} {n : Nat} {pos : Pos} (hc : X.calm = true) (h : DGs X es u) (hn : (assignEach es X.env).length = n := by rfl) (hst : (assignEach es X.env).findIdx? (·.1) = none := by rfl) : DG X (.Tuple es k pos) (dGTup n u) :=
  ⟨⟨fun pins s σ H v u' Q I rv ⟨ph, S, r, M, d, Q0, hs, q, hg, h1⟩ => by
    unfold dGTup at hg
    split at hg
    · rename_i ds e
      have e' := res_tup e
      subst e'
      refine (pg_tup hc h.pgs hn hst).run pins s σ H v u' Q I rv ?_
      cases q with
      | tup q1 q2 => exact ⟨_, _, rfl, q1.sq hs.sub, by rw [q2.len]; exact hg.1, ph, S, r, M, _, Q0, hs, q2, hg.2, h1⟩
    · rename_i ds e
      obtain ⟨a, xs, e1, e2, q2⟩ := res_lst hs q e
      refine (pg_unl hc h.pgs hn hst).run pins s σ H v u' Q I rv ?_
      exact ⟨a, xs, e1, SqL.of e2, by rw [q2.len]; exact hg.1, ph, S, r, M, _, Q0, hs, q2, hg.2, h1⟩
    · exact hg.elim⟩⟩
/-- o[i] = .., o an owned list -/
def gSetL (o i d : D) (M : Mem) (Q : Mem → Prop) : Prop := match o, i with
  | .own k, .int j => match M[k]? with
    | some (.lst l) => match ixN l.length j with
      | some n => Q (M.set k (.lst (l.set n d)))
      | none => False
    | _ => False
  | _, _ => False
def dSub (to ti : DTE) : DTG := fun d r M Q => to r M fun o M1 => ti r M1 fun i M2 => gSetL o i d M2 fun M3 => Q r M3
theorem dg_sub {o i : Expr} {to ti : DTE} {pos : Pos} (ho : DE X o to) (hi : DE X i ti)
    (ha : ∀ v, assign (.Subscript o i pos) X.env v = (do
      let ov ← holding [v] (eval o X.env)
      let iv ← holding [v, ov] (eval i X.env)
      standAt pos
      holding [v, ov, iv] (setItem ov iv v)
      release [v, ov, iv] []) := by intro _; rfl) : DG X (.Subscript o i pos) (dSub to ti) :=
  ⟨⟨fun pins s σ H v u Q I rv ⟨ph, S, r, M, d, Q0, hs, q, hg, h1⟩ => (pg_sub ho.pe hi.pe set_list ha).run pins s σ H v u Q I rv
    ⟨ph, S, r, M, _, hs, hg, fun ov H1 ⟨ph1, S1, M1, x1, hs1, od, q1, g1⟩ => ⟨ph1, S1, r, M1, _, hs1, g1, fun iv H2 ⟨ph2, S2, M2, x2, hs2, id', q2, g2⟩ => by
      replace g2 : gSetL od id' d M2 fun M3 => Q0 r M3 := g2
      cases od with
      | own k =>
        cases id' with
        | int j =>
          unfold gSetL at g2
          dsimp only at g2
          split at g2
          · rename_i l hk
            split at g2
            · rename_i n hn
              cases q2
              cases q1 with
              | own hp =>
                have hp2 := x2.pre _ _ hp
                obtain ⟨a, xs, c1, c2, c3, c4⟩ := hs2.cell k l hk
                rw [hp2] at c1; cases c1
                exact ⟨_, xs, j, n, rfl, rfl, c3, by rw [c4.len]; exact hn, h1 _ _ ⟨r, ph2, S2, _, x1.trans x2, hs2.put hk hp2 (RepAll.set (q.up (x1.trans x2)) n c4), g2⟩⟩
            · exact g2.elim
          · exact g2.elim
        | _ => exact g2.elim
      | _ => exact g2.elim⟩⟩⟩⟩
/-- target = value -/
def dAsg (t : DTE) (g : DTG) : DTS := fun E r M => t r M fun d M1 => g d r M1 E.nx
section
variable {pos : Pos}
theorem ds_asg {tg e : Expr} {t : DTE} {g : DTG} (he : DE X e t) (hg : DG X tg g) (hs : swapsWithSole [tg] e pos.line X.env = pure false := by rfl) (hw : swappedStores [tg] e X.env = pure none := by rfl)
    (h1 : (assignEach [tg] X.env).map (·.2) = [assign tg X.env] := by rfl) : DS X (.Assign [tg] e pos) (dAsg t g) :=
  DS.of (ps_asg he.pe hg.pg hs hw h1) fun ph S r M σ H E hs ht E' h1 _ _ _ => ⟨ph, S, r, M, _, hs, ht, fun v H' ⟨ph1, S1, M1, x, hs1, d, q, z⟩ => ⟨ph1, S1, r, M1, d, E.nx, hs1, q, z, fun σ2 H2 z2 => h1 _ _ (z2.up x)⟩⟩
/-- name = value -/
theorem ds_set {i : Nat} {x : Str} {e : Expr} {t : DTE} {pos' : Pos} (hN : X.N.Nodup) (he : DE X e t) (hi : X.N[i]? = some x := by rfl) (hx : Loc X.env.scope x := by first | exact Or.inl rfl | exact Or.inr rfl) (hs : swapsWith e (some (.Name x pos')) pos.line X.env = pure false := by rfl) (hf : X.fn x = true ∨ X.env.scope.names.lookup x = some .local := by first | exact .inl rfl | exact .inr rfl | assumption) :
    DS X (.Assign [.Name x pos'] e pos) (dAsg t (dName i)) :=
  DS.of (ps_set hN hi hx he.pe hs hf) fun ph S r M σ H E hs ht E' h1 _ _ _ => ⟨ph, S, r, M, _, hs, ht, fun v H' ⟨ph1, S1, M1, x, hs1, d, q, z⟩ => h1 _ _ ⟨_, ph1, S1, M1, x, hs1.setN q, z⟩⟩
/-- a, b = x, y -/
def dPar (i j : Nat) (t : DTA) : DTS := fun E r M => t r M fun ds M1 => match ds with
  | [d, e] => E.nx ((r.set i (some d)).set j (some e)) M1
  | _ => False
theorem ds_par {i j : Nat} {x y : Str} {a b : Expr} {t : DTA} {px py pt : Pos} {kt k2 pt2} (hc : X.calm = true) (hN : X.N.Nodup) (ha : DA X [a, b] t) (hi : X.N[i]? = some x := by rfl) (hj : X.N[j]? = some y := by rfl) (hij : i ≠ j := by decide)
    (hx : X.env.scope.names.lookup x = some .local := by rfl) (hy : X.env.scope.names.lookup y = some .local := by rfl)
    (hw : swappedStores [.Tuple [.Name x px, .Name y py] kt pt] (.Tuple [a, b] k2 pt2) X.env = pure (some [x, y]) := by rfl)
    (hs : swapsWithSole [.Tuple [.Name x px, .Name y py] kt pt] (.Tuple [a, b] k2 pt2) pos.line X.env = pure false := by rfl) :
    DS X (.Assign [.Tuple [.Name x px, .Name y py] kt pt] (.Tuple [a, b] k2 pt2) pos) (dPar i j t) :=
  DS.of (ps_par hc hN hi hj hij hx hy ha.pa hw hs) fun ph S r M σ H E hs ht E' h1 _ _ _ => ⟨ph, S, r, M, _, hs, ht, fun vs H' ⟨ph1, S1, M1, x, hs1, ds, q, z⟩ => by
    match ds, q, z with
    | [d, e], .cons q1 (.cons q2 .nil), z => exact ⟨_, _, rfl, h1 _ _ ⟨_, ph1, S1, M1, x, (hs1.setN q1).setN q2, z⟩⟩⟩
def dPar3 (i j l : Nat) (t : DTA) : DTS := fun E r M => t r M fun ds M1 => match ds with
  | [d, e, f] => E.nx (((r.set i (some d)).set j (some e)).set l (some f)) M1
  | _ => False
/-- name op= e (ints) -/
def gIpI (f : Int → Int → Int) (x y : D) (M : Mem) (Q : DQ) : Prop := match x, y with
  | .int i, .int j => Q (.int (f i j)) M
  | _, _ => False
def dAug (i : Nat) (t : DTE) (f : Int → Int → Int) : DTS := fun E r M => match r[i]? with
  | some (some (.int a)) => t r M fun d M1 => gIpI f (.int a) d M1 fun z M2 => E.nx (r.set i (some z)) M2
  | _ => False
/-! ### while -/
end
/-! ### what is walked -/
/-- J walks the items ds, while C holds of the cells -/
def Wlk (K : PySem.W.Frag) (ph : Ph) (S : Hp) (J : It) (ds : List D) (C : Mem → Prop) : Prop :=
  ∀ (ph' : Ph) S' r M σ H, (∀ (k : Nat) (a : Addr), ph.cells[k]? = some a → ph'.cells[k]? = some a) → Same S S' → Sat K ph' S' r M σ H → C M →
    (∀ i, ds.length ≤ i → J.stop i H) ∧ ∀ i d, ds[i]? = some d → J.go i H ∧ ∀ x H', J.yld i H x H' → Aft K ph' S' r σ H' fun ph2 S2 M2 => M2 = M ∧ Rep K ph2 S2 x d
abbrev DTI := Env → Mem → (List D → (Mem → Prop) → Mem → Prop) → Prop
structure DI (X : Cx) (tg iter : Expr) (t : DTI) : Prop where
  pi : PI X tg iter (fun σ H R => ∃ ph S r M Q0, Sat X.K ph S r M σ H ∧ t r M Q0 ∧ ∀ J H', (Aft X.K ph S r σ H' fun ph' S' M' => ∃ ds C, Wlk X.K ph' S' J ds C ∧ Q0 ds C M') → R J H')
/-- for: W holds ahead of turn i -/
def forW (ds : List D) (C : Mem → Prop) (g : DTG) (t : DTS) (E : DEnds) (r : Env) (M0 : Mem) : Prop := ∃ W : Nat → Env → Mem → Prop, W 0 r M0 ∧ ∀ i r M, W i r M → C M ∧ (ds.length ≤ i → E.nx r M) ∧
  ∀ d, ds[i]? = some d → g d r M fun r2 M2 => t { E with nx := W (i + 1), ct := W (i + 1), bk := E.nx } r2 M2
def dFor (wi : DTI) (g : DTG) (t : DTS) : DTS := fun E r M => wi r M fun ds C M0 => forW ds C g t E r M0
theorem ds_for {tg iter : Expr} {body : List Stmt} {wi : DTI} {g : DTG} {t : DTS} {pos : Pos} (hc : X.calm = true) (hi : DI X tg iter wi) (hg : DG X tg g) (hb : DSs X body t)
    (hs : ∀ x, foldedSetIterable iter X.env x = pure x := by intro _; rfl) (hp : PassesOwn (model X.prog X.w) X.A X.env X.xe := by exact PassesOwn.never) : DS X (.For tg iter body [] pos) (dFor wi g t) :=
  DS.of (ps_for hp hc hi.pi hg.pg hb.pss hs) fun ph S r M σ H E hs ht E' h1 h2 h3 h4 => by
    refine ⟨ph, S, r, M, _, hs, ht, fun J H1 ⟨ph1, S1, M1, x1, hs1, ds, C, wk, W, w0, turn⟩ => ?_⟩
    refine ⟨fun i m σ H => m = ds.length - i ∧ ∃ r', Aft X.K ph1 S1 r' σ H fun _ _ M => W i r' M, ⟨ds.length, by omega, r, Aft.here hs1 w0⟩, ?_⟩
    rintro i m σ3 H3 ⟨rfl, r3, ph3, S3, M3, x3, hs3, w3⟩
    obtain ⟨c3, f3, g3⟩ := turn i r3 M3 w3
    obtain ⟨k1, k2⟩ := wk ph3 S3 r3 M3 σ3 H3 x3.pre x3.same hs3 c3
    by_cases hl : ds.length ≤ i
    · exact .inl ⟨k1 i hl, h1 _ _ ⟨r3, ph3, S3, M3, x1.trans x3, hs3, f3 hl⟩⟩
    · obtain ⟨d, ed⟩ : ∃ d, ds[i]? = some d := ⟨ds[i]'(by omega), List.getElem?_eq_getElem (by omega)⟩
      obtain ⟨k3, k4⟩ := k2 i d ed
      refine .inr ⟨k3, fun σ' H' => ∃ r', Aft X.K ph1 S1 r' σ' H' fun _ _ M => W (i + 1) r' M, fun σ' H' z => ⟨ds.length - (i + 1), by omega, rfl, z⟩, fun x H4 hy => ?_⟩
      obtain ⟨ph4, S4, M4, x4, hs4, rfl, q4⟩ := k4 x H4 hy
      refine ⟨ph4, S4, r3, M4, d, _, hs4, q4, g3 d ed, fun σ5 H5 ⟨r5, ph5, S5, M5, x5, hs5, z5⟩ => ?_⟩
      have xx : Ext ph1 S1 ph5 S5 := x3.trans (x4.trans x5)
      refine ⟨ph5, S5, r5, M5, _, hs5, z5, ?_, ?_, ?_, ?_⟩
      · exact fun σ6 H6 ⟨r6, z6⟩ => ⟨r6, Aft.up xx z6⟩
      · exact fun v H6 z6 => h2 _ _ (z6.up (x1.trans xx))
      · exact fun σ6 H6 z6 => h1 _ _ (z6.up (x1.trans xx))
      · exact fun σ6 H6 ⟨r6, z6⟩ => ⟨r6, Aft.up xx z6⟩
/-! ### comprehensions -/
/-- the tests behind if -/
def dYes : DTT := fun _ M Q => Q true M
structure DTs (X : Cx) (ifs : List Expr) (t : DTT) : Prop where
  pts : PTs X ifs (fun σ H Q => ∃ ph S r M Q0, Sat X.K ph S r M σ H ∧ t r M Q0 ∧ ∀ b H', postT X.K ph S r σ Q0 b H' → Q b H')
theorem dts_nil : DTs X [] dYes := ⟨⟨fun pins s σ H Q I ⟨ph, S, r, M, Q0, hs, ht, hq⟩ => pts_nil.run pins s σ H Q I (hq _ _ (Aft.here hs ht))⟩⟩
theorem dts_one {c : Expr} {t : DTT} (h : DT X c t) : DTs X [c] t := ⟨pts_one h.pt⟩
def wipeD (r : Env) : List Nat → Env
  | [] => r
  | v :: vs => (wipeD r vs).set v none
theorem Sat.clr {K : PySem.W.Frag} {ph : Ph} {S : Hp} {r : Env} {M : Mem} {σ : St} {H : Hp} (h : Sat K ph S r M σ H) (i : Nat) : Sat K ph S (r.set i none) M (σ.set i none) H := by
  refine ⟨h.sub, h.len, h.nd, h.trk, h.cell, h.hid, h.hnd, by rw [List.length_set, List.length_set]; exact h.el, fun j e hj => ?_⟩
  by_cases hi : j = i
  · subst hi
    have jl : j < r.length := by
      have := (List.getElem?_eq_some_iff.mp hj).1
      rwa [List.length_set] at this
    rw [List.getElem?_set_self jl] at hj
    cases hj
  · rw [List.getElem?_set_ne (Ne.symm hi)] at hj
    rw [List.getElem?_set_ne (Ne.symm hi)]
    exact h.env j e hj
theorem Sat.wipe {K : PySem.W.Frag} {ph : Ph} {S : Hp} {r : Env} {M : Mem} {σ : St} {H : Hp} (h : Sat K ph S r M σ H) : ∀ vs : List Nat, Sat K ph S (wipeD r vs) M (L2.wipe σ vs) H
  | [] => h
  | v :: vs => (Sat.wipe h vs).clr v
/-- a target whose names are the comprehension's own (places vs) -/
structure DCG (X : Cx) (target : Expr) (vs : List Nat) (g : DTG) : Prop where
  pg : PG X target (fun v σ H Q => ∃ ph S r M d Q0, Sat X.K ph S r M σ H ∧ Rep X.K ph S v d ∧ g d r M Q0 ∧ ∀ σ' H', postN X.K ph S Q0 σ' H' → L2.wipe σ' vs = L2.wipe σ vs → Q σ' H')
theorem wipe_set {σ : St} {i : Nat} {x : Option V} : ∀ {vs : List Nat}, i ∈ vs → L2.wipe (σ.set i x) vs = L2.wipe σ vs
  | [], h => by cases h
  | v :: vs, h => by
    unfold L2.wipe
    by_cases hv : i ∈ vs
    · rw [wipe_set hv]
    · have e : i = v := (List.mem_cons.mp h).resolve_right hv
      subst e
      have key : ∀ (us : List Nat), i ∉ us → L2.wipe (σ.set i x) us = (L2.wipe σ us).set i x := by
        intro us
        induction us with
        | nil => intro _; rfl
        | cons u us ih =>
          intro hu
          unfold L2.wipe
          rw [ih (fun z => hu (List.mem_cons_of_mem _ z)), List.set_comm _ _ (fun e => hu (by rw [e]; exact List.mem_cons_self))]
      rw [key vs hv, List.set_set]
theorem dcg_name {i : Nat} {x : Str} {pos : Pos} {vs : List Nat} (hN : X.N.Nodup) (hi : X.N[i]? = some x := by rfl) (hv : i ∈ vs := by decide) (hx : Loc X.env.scope x := by first | exact Or.inl rfl | exact Or.inr rfl) (hf : X.fn x = true ∨ X.env.scope.names.lookup x = some .local := by first | exact .inl rfl | exact .inr rfl | assumption) : DCG X (.Name x pos) vs (dName i) :=
  ⟨⟨fun pins s σ H v u Q I rv ⟨ph, S, r, M, d, Q0, hs, q, hg, h1⟩ => (pg_name hN hi hx hf).run pins s σ H v u Q I rv (h1 _ _ ⟨_, Aft.here (hs.setN q) hg⟩ (wipe_set hv))⟩⟩
structure DCGs (X : Cx) (ts : List Expr) (vs : List Nat) (g : DTGs) : Prop where
  pgs : PGs X ts (fun us σ H Q => ∃ ph S r M ds Q0, Sat X.K ph S r M σ H ∧ RepAll X.K ph S us ds ∧ g ds r M Q0 ∧ ∀ σ' H', postN X.K ph S Q0 σ' H' → L2.wipe σ' vs = L2.wipe σ vs → Q σ' H')
theorem dcgs_nil {vs : List Nat} : DCGs X [] vs dGNil := ⟨⟨fun pins s σ H us us' Q I rv ⟨ph, S, r, M, ds, Q0, hs, q, hg, h1⟩ => pgs_nil.run pins s σ H us us' Q I rv (by
  cases ds with
  | cons d ds => exact hg.elim
  | nil =>
    cases q
    exact ⟨rfl, h1 _ _ ⟨r, Aft.here hs hg⟩ rfl⟩)⟩⟩
theorem dcgs_cons {e : Expr} {es : List Expr} {vs : List Nat} {g : DTG} {u : DTGs} (h : DCG X e vs g) (h' : DCGs X es vs u) (hst : (assignEach (e :: es) X.env).map (·.2) = assign e X.env :: (assignEach es X.env).map (·.2) := by rfl) : DCGs X (e :: es) vs (dGCons g u) :=
  ⟨⟨fun pins s σ H us us' Q I rv ⟨ph, S, r, M, ds, Q0, hs, q, hg, h1⟩ => (pgs_cons h.pg h'.pgs hst).run pins s σ H us us' Q I rv (by
    cases ds with
    | nil => exact hg.elim
    | cons d ds =>
      cases q with
      | cons q1 q2 => exact ⟨_, _, rfl, ph, S, r, M, d, _, hs, q1, hg, fun σ1 H1 ⟨r1, ph1, S1, M1, x1, hs1, z⟩ e1 => ⟨ph1, S1, r1, M1, ds, Q0, hs1, q2.up x1, z, fun σ2 H2 z2 e2 => h1 _ _ (z2.up x1) (e2.trans e1)⟩⟩)⟩⟩
theorem dcg_tup {es : List Expr} {k : Nat} {u : DTGs} {n : Nat} {pos : Pos} {vs : List Nat} (hc : X.calm = true) (h : DCGs X es vs u) (hn : (assignEach es X.env).length = n := by rfl) (hst : (assignEach es X.env).findIdx? (·.1) = none := by rfl) : DCG X (.Tuple es k pos) vs (dGTup n u) :=
  ⟨⟨fun pins s σ H v u' Q I rv ⟨ph, S, r, M, d, Q0, hs, q, hg, h1⟩ => by
    unfold dGTup at hg
    split at hg
    · rename_i ds e
      have e' := res_tup e
      subst e'
      refine (pg_tup hc h.pgs hn hst).run pins s σ H v u' Q I rv ?_
      cases q with
      | tup q1 q2 => exact ⟨_, _, rfl, q1.sq hs.sub, by rw [q2.len]; exact hg.1, ph, S, r, M, _, Q0, hs, q2, hg.2, h1⟩
    · rename_i ds e
      obtain ⟨a, xs, e1, e2, q2⟩ := res_lst hs q e
      refine (pg_unl hc h.pgs hn hst).run pins s σ H v u' Q I rv ?_
      exact ⟨a, xs, e1, SqL.of e2, by rw [q2.len]; exact hg.1, ph, S, r, M, _, Q0, hs, q2, hg.2, h1⟩
    · exact hg.elim⟩⟩
/-- [e for target in iter if ..]: W holds ahead of turn i with the items made so far; own: the list will be changed -/
def lcW (own : Bool) (ds : List D) (C : Mem → Prop) (g : DTG) (tt : DTT) (te : DTE) (r : Env) (M0 : Mem) (Q : DQ) : Prop := ∃ W : Nat → List D → Mem → Prop, W 0 [] M0 ∧ ∀ i acc M, W i acc M → C M ∧
  (ds.length ≤ i → if own = true then Q (.own M.length) (M ++ [.lst acc]) else Q (.lst acc) M) ∧
  ∀ d, ds[i]? = some d → g d r M fun r2 M2 => tt r2 M2 fun b M3 => if b = true then te r2 M3 fun e M4 => acc.length < sizeLine ∧ W (i + 1) (acc ++ [e]) M4 else W (i + 1) acc M3
def dLc (own : Bool) (wi : DTI) (g : DTG) (tt : DTT) (te : DTE) (vs : List Nat) : DTE := fun r M Q => wi r M fun ds C M0 => lcW own ds C g tt te (wipeD r vs) M0 Q
theorem wipe_at {σ : St} {i : Nat} : ∀ {vs : List Nat}, i ∈ vs → i < σ.length → (L2.wipe σ vs)[i]? = some none
  | [], h, _ => by cases h
  | v :: vs, h, hl => by
    unfold L2.wipe
    by_cases e : v = i
    · subst e
      rw [List.getElem?_set_self (by rw [wipe_length]; exact hl)]
    · rw [List.getElem?_set_ne e]
      exact wipe_at ((List.mem_cons.mp h).resolve_left (fun z => e z.symm)) hl
theorem wipe_wipe (σ : St) (vs : List Nat) : L2.wipe (L2.wipe σ vs) vs = L2.wipe σ vs := by
  refine List.ext_getElem? fun i => ?_
  by_cases hi : i ∈ vs
  · by_cases hl : i < σ.length
    · rw [wipe_at hi (by rw [wipe_length]; exact hl), wipe_at hi hl]
    · rw [List.getElem?_eq_none (by rw [wipe_length, wipe_length]; omega), List.getElem?_eq_none (by rw [wipe_length]; omega)]
  · rw [wipe_out hi]
theorem lc_read (o : Bool) {wi : DTI} {g : DTG} {tt : DTT} {te : DTE} {vs : List Nat} {ph : Ph} {S : Hp} {r : Env} {M : Mem} {σ : St} {H : Hp} {Q : DQ} (hs : Sat X.K ph S r M σ H) (ht : dLc o wi g tt te vs r M Q) (Q' : VK) (hq : ∀ v H', post X.K ph S r σ Q v H' → Q' v H') :
    tLc (fun σ H R => ∃ ph S r M Q0, Sat X.K ph S r M σ H ∧ wi r M Q0 ∧ ∀ J H', (Aft X.K ph S r σ H' fun ph' S' M' => ∃ ds C, Wlk X.K ph' S' J ds C ∧ Q0 ds C M') → R J H')
      (fun v σ H Q => ∃ ph S r M d Q0, Sat X.K ph S r M σ H ∧ Rep X.K ph S v d ∧ g d r M Q0 ∧ ∀ σ' H', postN X.K ph S Q0 σ' H' → L2.wipe σ' vs = L2.wipe σ vs → Q σ' H')
      (fun σ H Q => ∃ ph S r M Q0, Sat X.K ph S r M σ H ∧ tt r M Q0 ∧ ∀ b H', postT X.K ph S r σ Q0 b H' → Q b H')
      (fun σ H Q => ∃ ph S r M Q0, Sat X.K ph S r M σ H ∧ te r M Q0 ∧ ∀ v H', post X.K ph S r σ Q0 v H' → Q v H') vs σ H Q' := by
  refine ⟨ph, S, r, M, _, hs, ht, fun J H1 ⟨ph1, S1, M1, x1, hs1, ds, C, wk, W, w0, turn⟩ => ?_⟩
  intro p hp
  refine ⟨fun i m H => m = ds.length - i ∧ ∃ (ph2 : Ph) (S2 : Hp) (M2 : Mem) (xs : List V) (acc : List D), Ext ph1 S1 ⟨ph2.cells, ph1.hid⟩ S2 ∧ ph2.hid = (p, .lst xs) :: ph1.hid ∧ Sat X.K ph2 S2 r M2 σ H ∧ RepAll X.K ph2 S2 xs acc ∧ W i acc M2,
    ⟨ds.length, by omega, { ph1 with hid := (p, .lst []) :: ph1.hid }, S1, M1, [], [], .refl, rfl, hs1.hide hp _, .nil, w0⟩, ?_⟩
  rintro i m H3 ⟨rfl, ph3, S3, M3, xs, acc, x3, eh, hs3, qa, w3⟩
  obtain ⟨c3, f3, g3⟩ := turn i acc M3 w3
  obtain ⟨k1, k2⟩ := wk ph3 S3 r M3 σ H3 x3.pre x3.same hs3 c3
  by_cases hl : ds.length ≤ i
  · refine .inl ⟨k1 i hl, ?_⟩
    have f := f3 hl
    obtain ⟨c, hd⟩ := ph3
    cases eh
    cases o with
    | false =>
      rw [if_neg Bool.false_ne_true] at f
      obtain ⟨x4, hs4⟩ := hs3.hfrz
      exact hq _ _ ⟨⟨c, ph1.hid⟩, _, M3, x1.trans (x3.trans x4), hs4, _, .lst upd_same ((RepAll.hid qa).up x4), f⟩
    | true =>
      rw [if_pos rfl] at f
      obtain ⟨x4, hs4, e4⟩ := hs3.hown (RepAll.hid qa)
      exact hq _ _ ⟨⟨c ++ [p], ph1.hid⟩, _, _, x1.trans (x3.trans x4), hs4, _, .own e4, f⟩
  · obtain ⟨d, ed⟩ : ∃ d, ds[i]? = some d := ⟨ds[i]'(by omega), List.getElem?_eq_getElem (by omega)⟩
    obtain ⟨k3, k4⟩ := k2 i d ed
    refine .inr ⟨k3, fun H' => ∃ (ph2 : Ph) (S2 : Hp) (M2 : Mem) (xs : List V) (acc : List D), Ext ph1 S1 ⟨ph2.cells, ph1.hid⟩ S2 ∧ ph2.hid = (p, .lst xs) :: ph1.hid ∧ Sat X.K ph2 S2 r M2 σ H' ∧ RepAll X.K ph2 S2 xs acc ∧ W (i + 1) acc M2, fun H' z => ⟨ds.length - (i + 1), by omega, rfl, z⟩, fun x H4 hy => ?_⟩
    obtain ⟨ph4, S4, M4, x4, hs4, rfl, q4⟩ := k4 x H4 hy
    refine ⟨ph4, S4, wipeD r vs, M4, d, _, hs4.wipe vs, q4, g3 d ed, fun σ5 H5 ⟨r5, ph5, S5, M5, x5, hs5, z5⟩ e5 => ⟨e5.trans (wipe_wipe σ vs), ?_⟩⟩
    refine ⟨ph5, S5, r5, M5, _, hs5, z5, fun b H6 ⟨ph6, S6, M6, x6, hs6, z6⟩ => ?_⟩
    cases b with
    | false =>
      have xx := x4.trans (x5.trans x6)
      rw [if_neg Bool.false_ne_true] at z6 ⊢
      exact ⟨ph6, S6, M6, xs, acc, ⟨fun k a e => xx.pre k a (x3.pre k a e), x3.same.trans xx.same, rfl⟩, xx.hid.trans eh, hs3.back xx hs6.drop, qa.up xx, z6⟩
    | true =>
      rw [if_pos rfl] at z6 ⊢
      refine ⟨ph6, S6, r5, M6, _, hs6, z6, fun v H7 ⟨ph7, S7, M7, x7, hs7, e, q7, hlt, w7⟩ => ?_⟩
      have xx := x4.trans (x5.trans (x6.trans x7))
      have eh7 : ph7.hid = (p, .lst xs) :: ph1.hid := xx.hid.trans eh
      obtain ⟨c, hd⟩ := ph7
      cases eh7
      have hb : Sat X.K ⟨c, (p, .lst xs) :: ph1.hid⟩ S7 r M7 σ H7 := hs3.back xx hs7.drop
      obtain ⟨g1, _, _⟩ := hb.hid _ List.mem_cons_self
      refine ⟨xs, g1, by rw [qa.len]; exact hlt, ⟨c, (p, .lst (xs ++ [v])) :: ph1.hid⟩, S7, M7, xs ++ [v], acc ++ [e], ⟨fun k a e => xx.pre k a (x3.pre k a e), x3.same.trans xx.same, rfl⟩, rfl, hb.hset, ?_, w7⟩
      exact (RepAll.hid (qa.up xx)).app (.cons (Rep.hid q7) .nil)
theorem de_lc (o : Bool) {elt tg iter : Expr} {ifs : List Expr} {scope : Scope} {own : List (Str × Nat)} {pos : Pos} {wi : DTI} {g : DTG} {tt : DTT} {te : DTE} (hc : X.calm = true) (hN : X.N.Nodup) (ok : BlkOk X.N X.env.scope scope own) (hi : DI X tg iter wi)
    (hg : ∀ (s : Shared) (H : Hp) (C : Addr) (cl : List (Str × Addr)) (fp : List Addr), DCG (X.blk s H scope (compEnvC scope cl C X.env) fp) tg (own.map (·.2)) g)
    (ht : ∀ (s : Shared) (H : Hp) (C : Addr) (cl : List (Str × Addr)) (fp : List Addr), DTs (X.blk s H scope (compEnvC scope cl C X.env) fp) ifs tt)
    (he : ∀ (s : Shared) (H : Hp) (C : Addr) (cl : List (Str × Addr)) (fp : List Addr), DE (X.blk s H scope (compEnvC scope cl C X.env) fp) elt te)
    (hs : ∀ x, foldedSetIterable iter X.env x = pure x := by intro _; rfl) : DE X (.ListComp elt [⟨tg, iter, ifs, 0⟩] scope pos) (dLc o wi g tt te (own.map (·.2))) :=
  DE.of (pe_lc hc hN hi.pi ok (fun s H C cl fp => (hg s H C cl fp).pg) (fun s H C cl fp => (ht s H C cl fp).pts) (fun s H C cl fp => (he s H C cl fp).pe) hs) fun ph S r M σ H Q hs ht Q' hq => lc_read (X := X) o hs ht Q' hq
/-- y = [..] -/
theorem ds_setLc (o : Bool) {i : Nat} {y : Str} {py : Pos} {elt tg iter : Expr} {ifs : List Expr} {scope : Scope} {own : List (Str × Nat)} {pos spos : Pos} {wi : DTI} {g : DTG} {tt : DTT} {te : DTE} (hc : X.calm = true) (hN : X.N.Nodup) (hsw : swapsWith (.ListComp elt [⟨tg, iter, ifs, 0⟩] scope pos) (some (.Name y py)) spos.line X.env = pure true) (ok : BlkOk X.N X.env.scope scope own) (hi : DI X tg iter wi)
    (hg : ∀ (s : Shared) (H : Hp) (C : Addr) (cl : List (Str × Addr)) (fp : List Addr), DCG (X.blk s H scope (compEnvC scope cl C X.env) fp) tg (own.map (·.2)) g)
    (ht : ∀ (s : Shared) (H : Hp) (C : Addr) (cl : List (Str × Addr)) (fp : List Addr), DTs (X.blk s H scope (compEnvC scope cl C X.env) fp) ifs tt)
    (he : ∀ (s : Shared) (H : Hp) (C : Addr) (cl : List (Str × Addr)) (fp : List Addr), DE (X.blk s H scope (compEnvC scope cl C X.env) fp) elt te)
    (hy : X.N[i]? = some y := by rfl) (hyl : X.env.scope.names.lookup y = some .local := by rfl) (hs : ∀ x, foldedSetIterable iter X.env x = pure x := by intro _; rfl) : DS X (.Assign [.Name y py] (.ListComp elt [⟨tg, iter, ifs, 0⟩] scope pos) spos) (dAsg (dLc o wi g tt te (own.map (·.2))) (dName i)) :=
  DS.of (ps_setLc hc hN hy hyl hsw hi.pi ok (fun s H C cl fp => (hg s H C cl fp).pg) (fun s H C cl fp => (ht s H C cl fp).pts) (fun s H C cl fp => (he s H C cl fp).pe) hs) fun ph S r M σ H E hs ht E' h1 _ _ _ =>
    lc_read (X := X) o hs ht _ fun v H' ⟨ph1, S1, M1, x, hs1, d, q, z⟩ => h1 _ _ ⟨_, ph1, S1, M1, x, hs1.setN q, z⟩
end DL
/-! DL7: what is walked; built-ins; methods; slices; repr -/
namespace DL
open PySem PySem.Spec PyProof.Rows L2
variable {X : Cx}
/-! ### what is walked -/
theorem Wlk.list {K : PySem.W.Frag} {ph : Ph} {S : Hp} {a : Addr} {ds : List D} {C : Mem → Prop} (h : ∀ (ph' : Ph) (S' : Hp) (r : Env) (M : Mem) (σ : St) (H : Hp), (∀ (k : Nat) (a : Addr), ph.cells[k]? = some a → ph'.cells[k]? = some a) → Same S S' → Sat K ph' S' r M σ H → C M → ∃ xs, SqL K H a xs ∧ RepAll K ph' S' xs ds) : Wlk K ph S (Itl K a) ds C :=
  fun ph' S' r M σ H h1 h2 hs hc => by
    obtain ⟨xs, q, qa⟩ := h ph' S' r M σ H h1 h2 hs hc
    refine ⟨fun i hi => ⟨xs, q, by rw [qa.len]; exact hi⟩, fun i d e => ?_⟩
    obtain ⟨x, ex, qx⟩ := qa.get e
    refine ⟨⟨xs, x, q, ex⟩, fun y H' ⟨e1, e2⟩ => ?_⟩
    subst e1
    have ey := e2 xs q
    rw [ex] at ey
    cases ey
    exact Aft.here hs ⟨rfl, qx⟩
theorem Wlk.tup {K : PySem.W.Frag} {ph : Ph} {S : Hp} {a : Addr} {ds : List D} {C : Mem → Prop} (h : ∀ (ph' : Ph) (S' : Hp) (r : Env) (M : Mem) (σ : St) (H : Hp), (∀ (k : Nat) (a : Addr), ph.cells[k]? = some a → ph'.cells[k]? = some a) → Same S S' → Sat K ph' S' r M σ H → C M → ∃ xs, SqT K H a xs ∧ RepAll K ph' S' xs ds) : Wlk K ph S (Itt K a) ds C :=
  fun ph' S' r M σ H h1 h2 hs hc => by
    obtain ⟨xs, q, qa⟩ := h ph' S' r M σ H h1 h2 hs hc
    refine ⟨fun i hi => ⟨xs, q, by rw [qa.len]; exact hi⟩, fun i d e => ?_⟩
    obtain ⟨x, ex, qx⟩ := qa.get e
    refine ⟨⟨xs, x, q, ex⟩, fun y H' ⟨e1, e2⟩ => ?_⟩
    subst e1
    have ey := e2 xs q
    rw [ex] at ey
    cases ey
    exact Aft.here hs ⟨rfl, qx⟩
theorem RepAll.ext0 {K : PySem.W.Frag} {ph ph' : Ph} {S S' : Hp} {d : List D} {v : List V} (h1 : ∀ (k : Nat) (a : Addr), ph.cells[k]? = some a → ph'.cells[k]? = some a) (h2 : Same S S') (q : RepAll K ph S v d) : RepAll K ph' S' v d :=
  RepAll.hid (c := ph'.cells) (l := ph.hid) (l' := ph'.hid) (q.up (ph' := ⟨ph'.cells, ph.hid⟩) ⟨h1, h2, rfl⟩)
/-- a list, a tuple, the script -/
def gSeqI (d : D) (M : Mem) (R : List D → (Mem → Prop) → Mem → Prop) : Prop := match d with
  | .lst ds => R ds (fun _ => True) M
  | .tup ds => R ds (fun _ => True) M
  | .scr ns => R (ns.map D.int) (fun _ => True) M
  | .own k => match M[k]? with
    | some (.lst ds) => R ds (fun M' => M'[k]? = some (.lst ds)) M
    | _ => False
  | _ => False
def dSeqI (t : DTE) : DTI := fun r M R => t r M fun d M1 => gSeqI d M1 R
/-- it is a list at a, or a tuple -/
theorem pi_seq {tg l : Expr} {tl : TE} (hl : PE X l tl) : PI X tg l (fun σ H R => tl σ H fun x H1 => ∃ a, x = .ref a ∧ (((∃ xs, SqL X.K H1 a xs) ∧ R (Itl X.K a) H1) ∨ ((∃ xs, SqT X.K H1 a xs) ∧ R (Itt X.K a) H1))) := by
  refine ⟨fun pins s σ H R I h => thn (hl.run pins s σ H _ I h) fun v s1 ⟨x, H1, I1, r1, a, ex, q1⟩ => ?_⟩
  subst ex
  cases r1
  have fp : ∀ b ∈ [s1.heap.objs.size], FpOk X pins H1 b := fun b hb => by
    have e : b = s1.heap.objs.size := by simpa using hb
    rw [e]
    exact I1.fpOk (Nat.le_refl _) (I1.hok.fresh (Nat.le_refl _))
  rcases q1 with ⟨⟨xs, hq⟩, q⟩ | ⟨⟨xs, hq⟩, q⟩
  · obtain ⟨its, rv, p, hz⟩ := I1.list hq
    exact wpAny_pyIter_list p.isList ⟨s1.heap.objs.size, [s1.heap.objs.size], _, _, H1, rfl, I1.kept (t' := s1.toks) fun b o e => Heap.get?_push_of_some _ e, turn_list a _, ⟨_, Heap.get?_push_size _ rfl, rfl, rfl⟩, fp, q⟩
  · obtain ⟨its, rv, p, hz⟩ := I1.tuple hq
    exact wpAny_pyIter_tuple (show s1.heap.IsTuple a its.toArray from p) ⟨s1.heap.objs.size, [s1.heap.objs.size], _, _, H1, rfl, I1.kept (t' := s1.toks) fun b o e => Heap.get?_push_of_some _ e, turn_tuple a _, ⟨_, Heap.get?_push_size _ rfl, rfl, rfl⟩, fp, q⟩
theorem PI.weak {tg l : Expr} {t t' : TI} (h : PI X tg l t) (w : ∀ σ H R, t' σ H R → t σ H R) : PI X tg l t' := ⟨fun pins s σ H R I q => h.run pins s σ H R I (w _ _ _ q)⟩
theorem di_seq {tg l : Expr} {t : DTE} (h : DE X l t) : DI X tg l (dSeqI t) :=
  ⟨PI.weak (pi_seq h.pe) fun σ H R ⟨ph, S, r, M, Q0, hs, ht, hq⟩ => ⟨ph, S, r, M, _, hs, ht, fun v H1 ⟨ph1, S1, M1, x1, hs1, d, q1, g1⟩ => by
    cases d <;> first | exact g1.elim | skip
    · cases q1 with
      | tup h1 h2 => exact ⟨_, rfl, .inr ⟨⟨_, h1.sq hs1.sub⟩, hq _ _ ⟨ph1, S1, M1, x1, hs1, _, _, Wlk.tup (fun ph' S' r' M' σ' H' e1 e2 hs' _ => ⟨_, (h1.ext e2).sq hs'.sub, h2.ext0 e1 e2⟩), g1⟩⟩⟩
    · cases q1 with
      | lst h1 h2 => exact ⟨_, rfl, .inl ⟨⟨_, SqL.of (hs1.sub _ _ h1)⟩, hq _ _ ⟨ph1, S1, M1, x1, hs1, _, _, Wlk.list (fun ph' S' r' M' σ' H' e1 e2 hs' _ => ⟨_, SqL.of (hs'.sub _ _ (e2 _ _ h1)), h2.ext0 e1 e2⟩), g1⟩⟩⟩
    · cases q1 with
      | scr h1 => exact ⟨_, rfl, .inl ⟨⟨_, hs1.sub.seq h1⟩, hq _ _ ⟨ph1, S1, M1, x1, hs1, _, _, Wlk.list (fun ph' S' r' M' σ' H' e1 e2 hs' _ => ⟨_, hs'.sub.seq (e2.seq h1), RepAll.ints _⟩), g1⟩⟩⟩
    · rename_i k
      cases q1 with
      | own h1 =>
        replace g1 : gSeqI (.own k) M1 Q0 := g1
        unfold gSeqI at g1
        dsimp only at g1
        split at g1
        · rename_i ds hk
          obtain ⟨a, xs, c1, c2, c3, c4⟩ := hs1.cell k ds hk
          rw [h1] at c1; cases c1
          refine ⟨_, rfl, .inl ⟨⟨_, SqL.of c3⟩, hq _ _ ⟨ph1, S1, M1, x1, hs1, _, _, Wlk.list (fun ph' S' r' M' σ' H' e1 e2 hs' hc => ?_), g1⟩⟩⟩
          obtain ⟨a', xs', b1, b2, b3, b4⟩ := hs'.cell k ds hc
          rw [e1 _ _ h1] at b1; cases b1
          exact ⟨xs', SqL.of b3, b4⟩
        · exact g1.elim⟩⟩
/-- lo, lo + 1, .. -/
def rng (lo : Int) (n : Nat) : List D := (List.range n).map fun i => D.int (lo + (i : Nat))
theorem rng_len (lo : Int) (n : Nat) : (rng lo n).length = n := by unfold rng; rw [List.length_map, List.length_range]
theorem rng_get {lo : Int} {n i : Nat} {d : D} : (rng lo n)[i]? = some d ↔ i < n ∧ d = .int (lo + (i : Nat)) := by
  unfold rng
  rw [List.getElem?_map]
  constructor
  · intro e
    cases h : (List.range n)[i]? with
    | none => rw [h] at e; cases e
    | some j =>
      rw [h] at e
      obtain ⟨h1, h2⟩ := List.getElem?_eq_some_iff.mp h
      rw [List.length_range] at h1
      rw [List.getElem_range] at h2
      exact ⟨h1, by rw [h2]; exact (Option.some.inj e).symm⟩
  · rintro ⟨h1, rfl⟩
    rw [List.getElem?_eq_getElem (by rw [List.length_range]; exact h1), List.getElem_range]
    rfl
theorem Wlk.range {K : PySem.W.Frag} {ph : Ph} {S : Hp} {lo : Int} {n : Nat} {C : Mem → Prop} : Wlk K ph S (Itr lo n) (rng lo n) C := fun ph' S' r M σ H h1 h2 hs hc => by
  refine ⟨fun i hi => by rw [rng_len] at hi; exact hi, fun i d e => ?_⟩
  obtain ⟨hi, rfl⟩ := rng_get.mp e
  refine ⟨hi, fun x H' ⟨e1, e2⟩ => ?_⟩
  subst e1 e2
  exact Aft.here hs ⟨rfl, .int _⟩
def Rg (i : Int) : Prop := -(2 ^ 62) ≤ i ∧ i < 2 ^ 62
def gRng1 (ds : List D) (M : Mem) (R : List D → (Mem → Prop) → Mem → Prop) : Prop := match ds with
  | [.int n] => Rg n ∧ R (rng 0 n.toNat) (fun _ => True) M
  | _ => False
def gRng2 (ds : List D) (M : Mem) (R : List D → (Mem → Prop) → Mem → Prop) : Prop := match ds with
  | [.int a, .int b] => (Rg a ∧ Rg b) ∧ R (rng a (b - a).toNat) (fun _ => True) M
  | _ => False
def dRngI (g : List D → Mem → (List D → (Mem → Prop) → Mem → Prop) → Prop) (t : DTA) : DTI := fun r M R => t r M fun ds M1 => g ds M1 R
theorem di_range1 {tg a : Expr} {t : DTA} {p pos : Pos} (hm : X.mg "range" = none) (ha : DA X [a] t) (hg : Gl X "range" := by rfl) (hst : starEach [a] X.env = [(false, eval a X.env)] := by rfl) : DI X tg (.Call (.Name "range" p) [a] [] pos) (dRngI gRng1 t) :=
  ⟨PI.weak (pi_range1 hg hm ha.pa hst) fun σ H R ⟨ph, S, r, M, Q0, hs, ht, hq⟩ => ⟨ph, S, r, M, _, hs, ht, fun vs H1 ⟨ph1, S1, M1, x1, hs1, ds, q1, g1⟩ => by
    match ds, q1, g1 with
    | [.int n], .cons q .nil, ⟨⟨h1, h2⟩, g⟩ =>
      cases q
      exact ⟨n, rfl, h1, h2, hq _ _ ⟨ph1, S1, M1, x1, hs1, _, _, Wlk.range, g⟩⟩⟩⟩
/-! ### calls of what is built in -/
abbrev GA := List D → Mem → DQ → Prop
def CallD (X : Cx) (f : Value) (g : GA) : Prop :=
  ∀ (pins : List (Addr × Obj)) (s : Shared) (σ : St) (H : Hp) (ph : Ph) (S : Hp) (r : Env) (M : Mem) (vs : List V) (us : List Value) (ds : List D) (Q : DQ), Inv X pins σ H s → Sat X.K ph S r M σ H → Vals vs us → RepAll X.K ph S vs ds → g ds M Q →
    wpAny (model X.prog X.w) X.A (call f us) (EP X pins σ (post X.K ph S r σ Q)) X.xe s
theorem CallD.of {f : Value} {r' : List V → Hp → VK → Prop} {g : GA} (h : CallR X f r')
    (w : ∀ (σ : St) (H : Hp) (ph : Ph) (S : Hp) (r : Env) (M : Mem) (vs : List V) (ds : List D) (Q : DQ), Sat X.K ph S r M σ H → RepAll X.K ph S vs ds → g ds M Q → r' vs H (post X.K ph S r σ Q)) : CallD X f g :=
  fun pins s σ H ph S r M vs us ds Q I hs rv q hg => h pins s σ H vs us _ I rv (w σ H ph S r M vs ds Q hs q hg)
def dCB (g : GA) (t : DTA) : DTE := fun r M Q => t r M fun ds M1 => g ds M1 Q
section
variable {x : Str} {p pos : Pos} {e : Expr} {es : List Expr} {t : DTA} {id T : String} {g : GA}
theorem de_blt (hc : CallD X (.builtin id) g) (hm : X.mg x = none) (ha : DA X (e :: es) t) (hv : bootBuiltins x = some (.builtin id) := by decide +kernel) (hg : Gl X x := by rfl) (hn : x ≠ "__name__" := by decide) (hdb : (x == ("__debug__" : Str)) = false := by decide)
    (he : starEach (e :: es) X.env = (false, eval e X.env) :: starEach es X.env := by rfl) (hpl : (backTo pos (starEach es X.env)).any (·.1) = false := by rfl) : DE X (.Call (.Name x p) (e :: es) [] pos) (dCB g t) :=
  ⟨⟨fun pins s σ H Q I ⟨ph, S, r, M, Q0, hs, ht, hq⟩ => wpAny_Call_Name_kw (ld_blt I hg hm hv (PyProof.Rows.callWith_builtin1 (thn (ha.pa.run pos pins s σ H _ I ⟨ph, S, r, M, _, hs, ht, fun _ _ z => z⟩)
    fun us s1 ⟨vs, H1, I1, r1, ph1, S1, M1, x1, hs1, ds, q1, g1⟩ => thn (hc pins s1 σ H1 ph1 S1 r M1 vs us ds Q0 I1 hs1 r1 q1 g1) fun _ _ z => EP.up x1 z hq) he hpl) hn hdb)⟩⟩
theorem de_ty (hc : CallD X (.type T) g) (hm : X.mg x = none) (ha : DA X (e :: es) t) (hv : bootBuiltins x = some (.type T) := by decide +kernel) (hg : Gl X x := by rfl) (hn : x ≠ "__name__" := by decide) (hdb : (x == ("__debug__" : Str)) = false := by decide)
    (he : starEach (e :: es) X.env = (false, eval e X.env) :: starEach es X.env := by rfl) (hpl : (backTo pos (starEach es X.env)).any (·.1) = false := by rfl) : DE X (.Call (.Name x p) (e :: es) [] pos) (dCB g t) :=
  ⟨⟨fun pins s σ H Q I ⟨ph, S, r, M, Q0, hs, ht, hq⟩ => wpAny_Call_Name_kw (ld_blt I hg hm hv (PyProof.Rows.callWith_type1 (thn (ha.pa.run pos pins s σ H _ I ⟨ph, S, r, M, _, hs, ht, fun _ _ z => z⟩)
    fun us s1 ⟨vs, H1, I1, r1, ph1, S1, M1, x1, hs1, ds, q1, g1⟩ => thn (hc pins s1 σ H1 ph1 S1 r M1 vs us ds Q0 I1 hs1 r1 q1 g1) fun _ _ z => EP.up x1 z hq) he hpl) hn hdb)⟩⟩
/-- a built-in name as a value -/
theorem de_bltn {v : V} {u : Value} (hm : X.mg x = none) (r : RelV v u) (hv : bootBuiltins x = some u := by decide +kernel) (hg : Gl X x := by rfl) (hn : x ≠ "__name__" := by decide) (hd : (x == ("__debug__" : Str)) = false := by decide) : DE X (.Name x pos) (dC (.val v)) :=
  de_c (pe_bltn hg hm hv r hn hd) fun _ _ => .val _
end
def gAbs : GA := fun ds M Q => match ds with
  | [.int i] => Q (.int (if i < 0 then -i else i)) M
  | _ => False
def gInt : GA := fun ds M Q => match ds with
  | [.int i] => Q (.int i) M
  | [.bl b] => Q (.int (if b then 1 else 0)) M
  | _ => False
theorem cd_int : CallD X (.type "int") gInt := CallD.of call_int1 fun σ H ph S r M vs ds Q hs q hg => by
  match ds, q, hg with
  | [.int i], .cons q .nil, hg => cases q; exact .inl ⟨_, rfl, Aft.here hs ⟨_, .int _, hg⟩⟩
  | [.bl i], .cons q .nil, hg => cases q; exact .inr ⟨_, rfl, Aft.here hs ⟨_, .int _, hg⟩⟩
def gMax : GA := fun ds M Q => match ds with
  | [.int i, .int j] => Q (.int (if j > i then j else i)) M
  | _ => False
theorem cd_max (hc : X.calm = true) : CallD X (.builtin "max") gMax := CallD.of (call_max2 hc) fun σ H ph S r M vs ds Q hs q hg => by
  match ds, q, hg with
  | [.int i, .int j], .cons q (.cons q' .nil), hg => cases q; cases q'; exact ⟨_, _, rfl, Aft.here hs ⟨_, .int _, hg⟩⟩
def gMin : GA := fun ds M Q => match ds with
  | [.int i, .int j] => Q (.int (if j < i then j else i)) M
  | _ => False
def gGcd : GA := fun ds M Q => match ds with
  | [.int i, .int j] => Q (.int (Int.gcd i j)) M
  | _ => False
/-- the length of a list, a tuple, a text -/
def lenD (M : Mem) : D → Option Nat
  | .lst l => some l.length
  | .tup l => some l.length
  | .scr l => some l.length
  | .own k => match M[k]? with
    | some (.lst l) => some l.length
    | _ => none
  | .str x => if x.length ≤ sizeLine then some x.length else none
  | _ => none
def gLen : GA := fun ds M Q => match ds with
  | [d] => match lenD M d with
    | some n => Q (.int n) M
    | none => False
  | _ => False
theorem len_V {K : PySem.W.Frag} {ph : Ph} {S : Hp} {r : Env} {M : Mem} {σ : St} {H : Hp} {v : V} {d : D} {n : Nat} (hs : Sat K ph S r M σ H) (q : Rep K ph S v d) (e : lenD M d = some n) : LenV K v H n := by
  cases d <;> first | (cases e; done) | skip
  · rename_i x
    cases q
    have e' : (if x.length ≤ sizeLine then some x.length else none) = some n := e
    by_cases h : x.length ≤ sizeLine
    · rw [if_pos h] at e'
      exact ⟨h, (Option.some.inj e').symm⟩
    · rw [if_neg h] at e'; cases e'
  · cases q with
    | tup h1 h2 => exact .inr ⟨_, h1.sq hs.sub, by rw [h2.len]; exact (Option.some.inj e).symm⟩
  · cases q with
    | lst h1 h2 => exact .inl ⟨_, SqL.of (hs.sub _ _ h1), by rw [h2.len]; exact (Option.some.inj e).symm⟩
  · cases q with
    | scr h1 => exact .inl ⟨_, hs.sub.seq h1, by rw [List.length_map]; exact (Option.some.inj e).symm⟩
  · rename_i k
    cases q with
    | own h1 =>
      unfold lenD at e
      dsimp only at e
      split at e
      · rename_i l hk
        obtain ⟨a, xs, c1, c2, c3, c4⟩ := hs.cell k l hk
        rw [h1] at c1; cases c1
        exact .inl ⟨_, SqL.of c3, by rw [c4.len]; exact (Option.some.inj e).symm⟩
      · cases e
theorem cd_len : CallD X (.builtin "len") gLen := CallD.of call_len fun σ H ph S r M vs ds Q hs q hg => by
  match ds, q, hg with
  | [d], .cons q .nil, hg =>
    unfold gLen at hg
    dsimp only at hg
    split at hg
    · rename_i n e
      exact ⟨_, n, rfl, len_V hs q e, Aft.here hs ⟨_, .int _, hg⟩⟩
    · exact hg.elim
/-- the ints of a list of ints -/
def intsD : List D → Option (List Int)
  | [] => some []
  | .int i :: ds => match intsD ds with
    | some is => some (i :: is)
    | none => none
  | _ :: _ => none
theorem intsD_rep {K : PySem.W.Frag} {ph : Ph} {S : Hp} : ∀ {vs : List V} {ds : List D} {is : List Int}, RepAll K ph S vs ds → intsD ds = some is → vs = is.map V.int
  | _, [], _, .nil, e => by cases e; rfl
  | _, d :: ds, is, .cons q t, e => by
    cases d <;> first | (cases e; done) | skip
    unfold intsD at e
    split at e
    · rename_i is' e'
      cases e
      cases q
      rw [intsD_rep t e']; rfl
    · cases e
def gSum : GA := fun ds M Q => match ds with
  | [d] => match res M d with
    | .lst l => match intsD l with
      | some is => Q (.int is.sum) M
      | none => False
    | .scr ns => Q (.int ns.sum) M
    | _ => False
  | _ => False
theorem cd_sum (hc : X.calm = true) : CallD X (.builtin "sum") gSum := CallD.of (cr_sum hc) fun σ H ph S r M vs ds Q hs q hg => by
  match ds, q, hg with
  | [d], .cons q .nil, hg =>
    unfold gSum at hg
    dsimp only at hg
    split at hg
    · rename_i l e
      split at hg
      · rename_i is e2
        obtain ⟨a, xs, rfl, h1, h2⟩ := res_lst hs q e
        exact ⟨a, is, rfl, by rw [← intsD_rep h2 e2]; exact SqL.of h1, Aft.here hs ⟨_, .int _, hg⟩⟩
      · exact hg.elim
    · rename_i ns e
      cases res_scr e
      cases q with
      | scr h1 => exact ⟨_, ns, rfl, hs.sub.seq h1, Aft.here hs ⟨_, .int _, hg⟩⟩
    · exact hg.elim
/-- list(x): a list that is only read, or one that will be changed -/
def seqD (M : Mem) (d : D) : Option (List D) := match res M d with
  | .lst l => some l
  | .tup l => some l
  | .scr ns => some (ns.map D.int)
  | _ => none
theorem seq_V {K : PySem.W.Frag} {ph : Ph} {S : Hp} {r : Env} {M : Mem} {σ : St} {H : Hp} {v : V} {d : D} {l : List D} (hs : Sat K ph S r M σ H) (q : Rep K ph S v d) (e : seqD M d = some l) : ∃ a xs, v = .ref a ∧ (SqL K H a xs ∨ SqT K H a xs) ∧ RepAll K ph S xs l := by
  unfold seqD at e
  split at e
  · rename_i l' e1
    cases e
    obtain ⟨a, xs, rfl, h1, h2⟩ := res_lst hs q e1
    exact ⟨a, xs, rfl, .inl (SqL.of h1), h2⟩
  · rename_i l' e1
    cases e
    cases res_tup e1
    cases q with
    | tup h1 h2 => exact ⟨_, _, rfl, .inr (h1.sq hs.sub), h2⟩
  · rename_i ns e1
    cases e
    cases res_scr e1
    cases q with
    | scr h1 => exact ⟨_, _, rfl, .inl (hs.sub.seq h1), RepAll.ints _⟩
  · cases e
def gList (own : Bool) : GA := fun ds M Q => match ds with
  | [d] => match seqD M d with
    | some l => if own = true then Q (.own M.length) (M ++ [.lst l]) else Q (.lst l) M
    | none => False
  | _ => False
theorem cd_list (own : Bool) : CallD X (.type "list") (gList own) := CallD.of call_list_of fun σ H ph S r M vs ds Q hs q hg => by
  match ds, q, hg with
  | [d], .cons q .nil, hg =>
    unfold gList at hg
    dsimp only at hg
    split at hg
    · rename_i l e
      obtain ⟨a, xs, rfl, h1, h2⟩ := seq_V hs q e
      refine ⟨a, xs, rfl, h1, fun p hp => ?_⟩
      cases own with
      | false => exact Aft.frz hs hp fun x => ⟨_, .lst upd_same (h2.up x), hg⟩
      | true => exact Aft.own hs hp h2 hg
    · exact hg.elim
/-- isinstance(x, T), T a built-in class -/
def tyD : D → Option String
  | .non => some "NoneType"
  | .bl _ => some "bool"
  | .int _ => some "int"
  | .str _ => some "str"
  | .tup _ => some "tuple"
  | .lst _ => some "list"
  | .dct0 => some "dict"
  | _ => none
def tyM (M : Mem) : D → Option String
  | .own k => match M[k]? with
    | some (.lst _) => some "list"
    | _ => none
  | d => tyD d
def gIsi : GA := fun ds M Q => match ds with
  | [d, .val (.ty n)] => match tyM M d with
    | some T => match kitB T n with
      | some b => Q (.bl b) M
      | none => False
    | none => False
  | _ => False
theorem ty_V {K : PySem.W.Frag} {ph : Ph} {S : Hp} {r : Env} {M : Mem} {σ : St} {H : Hp} {v : V} {d : D} {T : String} (hs : Sat K ph S r M σ H) (q : Rep K ph S v d) (e : tyM M d = some T) : TyX K H v (.type T) := by
  cases d <;> first | (cases e; done) | skip
  · cases q; cases e; exact .base .non
  · cases q; cases e; exact .base (.bl _)
  · cases q; cases e; exact .base (.int _)
  · cases q; cases e; exact .base (.str _)
  · cases q with
    | tup h1 h2 => cases e; exact h1.elim (fun z => .base (.tup (hs.sub _ _ z))) fun ⟨_, _, _, l, c, _⟩ => .kTuple l c
  · cases q with
    | lst h1 h2 => cases e; exact .base (.lst (hs.sub _ _ h1))
  · cases q with
    | dct0 h1 => cases e; exact .base (.dK (hs.sub _ _ h1))
  · rename_i k
    cases q with
    | own h1 =>
      unfold tyM at e
      dsimp only at e
      split at e
      · rename_i l hk
        cases e
        obtain ⟨a, xs, c1, c2, c3, c4⟩ := hs.cell k l hk
        rw [h1] at c1; cases c1
        exact .base (.lst c3)
      · cases e
theorem cd_isi : CallD X (.builtin "isinstance") gIsi := CallD.of call_isi fun σ H ph S r M vs ds Q hs q hg => by
  match ds, q, hg with
  | [d, .val (.ty n)], .cons q (.cons q' .nil), hg =>
    unfold gIsi at hg
    dsimp only at hg
    split at hg
    · rename_i T e
      split at hg
      · rename_i b eb
        cases q'
        exact ⟨_, _, _, _, b, rfl, .ty n, ty_V hs q e, kit_ty eb, Aft.here hs ⟨_, .bl _, hg⟩⟩
      · exact hg.elim
    · exact hg.elim
/-- n.bit_length() -/
def gBits (d : D) (M : Mem) (Q : DQ) : Prop := match d with
  | .int i => Q (.int (Builtin.Int.intBits i : Nat)) M
  | _ => False
def dBits (t : DTE) : DTE := fun r M Q => t r M fun d M1 => gBits d M1 Q
theorem de_bits {o : Expr} {t : DTE} {apos pos : Pos} (ho : DE X o t) (hbase : attributeBase o "bit_length" X.env (eval o X.env) = eval o X.env := by rfl) (hline : (apos.endLine == pos.line) = true := by rfl) : DE X (.Call (.Attribute o "bit_length" apos) [] [] pos) (dBits t) :=
  DE.of (pe_bits ho.pe hbase hline) fun ph S r M σ H Q hs ht Q' hq => ⟨ph, S, r, M, _, hs, ht, fun v H1 ⟨ph1, S1, M1, x1, hs1, d, q1, g1⟩ => by
    cases d <;> first | exact g1.elim | skip
    cases q1
    exact ⟨_, rfl, hq _ _ ⟨ph1, S1, M1, x1, hs1, _, .int _, g1⟩⟩⟩
/-! ### methods of lists -/
def gAppend (o : D) (ds : List D) (M : Mem) (Q : DQ) : Prop := match o, ds with
  | .own k, [d] => match M[k]? with
    | some (.lst l) => l.length < sizeLine ∧ Q .non (M.set k (.lst (l ++ [d])))
    | _ => False
  | _, _ => False
def dMet (g : D → List D → Mem → DQ → Prop) (to : DTE) (t : DTA) : DTE := fun r M Q => to r M fun o M1 => (∃ k l, o = .own k ∧ M1[k]? = some (.lst l)) ∧ t r M1 fun ds M2 => g o ds M2 Q
theorem de_append {o e : Expr} {to : DTE} {t : DTA} {apos cpos : Pos} (ho : DE X o to) (ha : DA X [e] t) (h1 : attributeBase o "append" X.env (eval o X.env) = eval o X.env := by rfl)
    (h2 : (((backTo cpos (starEach [e] X.env)).all fun x => !x.1) && (backToKw cpos (keywordEach [] X.env)).all (fun x => x.1.isSome) && decide (([e] : List Expr).length + ([] : List Keyword).length + (if ([] : List Keyword).isEmpty then 0 else 1) < 30)) = true := by rfl) (h3 : (apos.endLine == cpos.line) = true := by rfl)
    (h4 : starEach [e] X.env = (false, eval e X.env) :: starEach [] X.env := by rfl) (h5 : (backTo cpos (starEach [] X.env)).any (·.1) = false := by rfl) : DE X (.Call (.Attribute o "append" apos) [e] [] cpos) (dMet gAppend to t) :=
  DE.of (pe_bm PySem.F.plainAttrs_list PySem.F.slot_list_append PySem.F.type_list_append mt_append ho.pe ha.pa h1 h2 h3 h4 h5) fun ph S r M σ H Q hs ht Q' hq => ⟨ph, S, r, M, _, hs, ht, fun v H1 ⟨ph1, S1, M1, x1, hs1, d, q1, ⟨k, l, e1, ek⟩, g1⟩ => by
    subst e1
    cases q1 with
    | own hp =>
      obtain ⟨a, xs, c1, c2, c3, c4⟩ := hs1.cell k l ek
      rw [hp] at c1; cases c1
      refine ⟨.inl ⟨rfl, _, SqL.of c3⟩, ph1, S1, r, M1, _, hs1, g1, fun vs H2 ⟨ph2, S2, M2, x2, hs2, ds, q2, g2⟩ => ?_⟩
      match ds, q2, g2 with
      | [d], .cons q3 .nil, g2 =>
        replace g2 : gAppend (.own k) [d] M2 Q := g2
        unfold gAppend at g2
        dsimp only at g2
        split at g2
        · rename_i l2 hk2
          have hp2 := x2.pre _ _ hp
          obtain ⟨a2, xs2, d1, d2, d3, d4⟩ := hs2.cell k l2 hk2
          rw [hp2] at d1; cases d1
          exact ⟨_, xs2, _, rfl, rfl, d3, by rw [d4.len]; exact g2.1, hq _ _ ⟨ph2, S2, _, x1.trans x2, hs2.put hk2 hp2 (d4.app (.cons q3 .nil)), _, .non, g2.2⟩⟩
        · exact g2.elim⟩
/-! ### slices -/
def cutD (l : List D) (lo hi : Option Int) : List D := List.take (HT.sIx l.length l.length hi - HT.sIx l.length 0 lo) (List.drop (HT.sIx l.length 0 lo) l)
abbrev DTO := Env → Mem → (Option Int → Mem → Prop) → Prop
structure DO (X : Cx) (e : Option Expr) (t : DTO) : Prop where
  po : PO X e (fun σ H Q => ∃ ph S r M Q0, Sat X.K ph S r M σ H ∧ t r M Q0 ∧ ∀ o H', (Aft X.K ph S r σ H' fun _ _ M' => Q0 o M') → Q o H')
def dPart (t : DTE) : DTO := fun r M Q => t r M fun d M1 => match d with
  | .int i => Q (some i) M1
  | _ => False
def dNoPart : DTO := fun _ M Q => Q none M
theorem do_some {e : Expr} {t : DTE} (h : DE X e t) : DO X (some e) (dPart t) :=
  ⟨⟨fun pins s σ H Q I ⟨ph, S, r, M, Q0, hs, ht, hq⟩ => (po_some h.pe).run pins s σ H Q I ⟨ph, S, r, M, _, hs, ht, fun v H1 ⟨ph1, S1, M1, x1, hs1, d, q1, g1⟩ => by
    cases d <;> first | exact g1.elim | skip
    cases q1
    exact ⟨_, rfl, hq _ _ ⟨ph1, S1, M1, x1, hs1, g1⟩⟩⟩⟩⟩
theorem do_none : DO X none dNoPart := ⟨⟨fun pins s σ H Q I ⟨ph, S, r, M, Q0, hs, ht, hq⟩ => po_none.run pins s σ H Q I (hq _ _ (Aft.here hs ht))⟩⟩
/-- l[a:b], a list -/
def gSlL (own : Bool) (d : D) (lo hi : Option Int) (M : Mem) (Q : DQ) : Prop := match res M d with
  | .lst l => if own = true then Q (.own M.length) (M ++ [.lst (cutD l lo hi)]) else Q (.lst (cutD l lo hi)) M
  | .scr ns => if own = true then Q (.own M.length) (M ++ [.lst (cutD (ns.map D.int) lo hi)]) else Q (.lst (cutD (ns.map D.int) lo hi)) M
  | _ => False
def dSl (g : D → Option Int → Option Int → Mem → DQ → Prop) (t : DTE) (tl th : DTO) : DTE := fun r M Q => t r M fun d M1 => tl r M1 fun lo M2 => th r M2 fun hi M3 => g d lo hi M3 Q
theorem cut_rep {K : PySem.W.Frag} {ph : Ph} {S : Hp} {xs : List V} {l : List D} {lo hi : Option Int} (q : RepAll K ph S xs l) : RepAll K ph S (cutV xs lo hi) (cutD l lo hi) := by
  unfold cutV cutD
  rw [q.len]
  exact (q.drop _).take _
theorem de_slL (own : Bool) {e : Expr} {lo hi : Option Expr} {t : DTE} {tl th : DTO} {pos p2 : Pos} (h : DE X e t) (h1 : DO X lo tl) (h2 : DO X hi th) : DE X (.Subscript e (.Slice lo hi none p2) pos) (dSl (gSlL own) t tl th) :=
  DE.of (pe_slice sl_list h.pe h1.po h2.po) fun ph S r M σ H Q hs ht Q' hq => ⟨ph, S, r, M, _, hs, ht, fun v H1 ⟨ph1, S1, M1, x1, hs1, d, q1, g1⟩ =>
    ⟨ph1, S1, r, M1, _, hs1, g1, fun lo H2 ⟨ph2, S2, M2, x2, hs2, g2⟩ => ⟨ph2, S2, r, M2, _, hs2, g2, fun hi H3 ⟨ph3, S3, M3, x3, hs3, g3⟩ => by
      replace g3 : gSlL own d lo hi M3 Q := g3
      have xx := x1.trans (x2.trans x3)
      have q3 := q1.up (x2.trans x3)
      unfold gSlL at g3
      split at g3
      · rename_i l er
        obtain ⟨p, xs, rfl, hp, hx⟩ := res_lst hs3 q3 er
        refine ⟨p, xs, rfl, SqL.of hp, fun b hb => ?_⟩
        cases own with
        | false => exact hq _ _ (Aft.up xx (Aft.frz hs3 hb fun x => ⟨_, .lst upd_same ((cut_rep hx).up x), g3⟩))
        | true => exact hq _ _ (Aft.up xx (Aft.own hs3 hb (cut_rep hx) g3))
      · rename_i ns er
        cases res_scr er
        cases q3 with
        | scr h1 =>
          refine ⟨_, _, rfl, hs3.sub.seq h1, fun b hb => ?_⟩
          cases own with
          | false => exact hq _ _ (Aft.up xx (Aft.frz hs3 hb fun x => ⟨_, .lst upd_same (cut_rep (RepAll.ints _)), g3⟩))
          | true => exact hq _ _ (Aft.up xx (Aft.own hs3 hb (cut_rep (RepAll.ints _)) g3))
      · exact g3.elim⟩⟩⟩
theorem cut_whole {α : Type} {l : List α} {lo hi : Option Int} (h : HT.sIx l.length 0 lo = 0 ∧ HT.sIx l.length l.length hi = l.length) : List.take (HT.sIx l.length l.length hi - HT.sIx l.length 0 lo) (List.drop (HT.sIx l.length 0 lo) l) = l := by
  rw [h.1, h.2]; simp
/-! ### repr -/
/-- data whose repr may be told -/
def shwn (d : D) : Option Str := match toPy d with
  | some p => if p.showable = true ∧ p.depth ≤ 64 ∧ p.shown.length ≤ sizeLine ∧ p.hasDict = false then some p.shown else none
  | none => none
def gRepr : GA := fun ds M Q => match ds with
  | [d] => match shwn (res M d) with
    | some z => Q (.str z) M
    | none => False
  | _ => False
theorem shown_flat {p : PyData} {u : Value} {h : Heap} {as : List Addr} (r : Reads h u p as) (hn : ∀ a, u ≠ .ref a) {A : Around} {P : Program} {w : World} {E : Value → Shared → Prop} {s : Shared} {Q : Value → Shared → Prop} (hs : p.showable = true) (hz : p.shown.length ≤ sizeLine)
    (q : ∀ tk tk', Q (.str p.shown tk) { s with toks := tk' }) : wpAny (model P w) A (call (.builtin "repr") [u]) Q E s := by
  cases r with
  | none => exact PySem.P.repr_of_none (q _ _)
  | bool b => exact PySem.P.repr_of_bool (q _ _)
  | int i t => exact PySem.P.repr_of_int (of_decide_eq_true hs) (q _ _)
  | str x t => exact PySem.P.repr_of_str (q _ _) hz
  | list _ _ _ _ => exact absurd rfl (hn _)
  | tuple _ _ _ _ => exact absurd rfl (hn _)
  | dict _ _ _ _ _ => exact absurd rfl (hn _)
end DL
/-! DL8: calls with keywords alone; a def for its callers; the end of a law -/
namespace DL
open PySem PySem.Spec PyProof.Rows L2
section
variable {X : Cx}
structure DK (X : Cx) (kws : List Keyword) (t : DTA) : Prop where
  pk : PK X kws (fun σ H Q => ∃ ph S r M Q0, Sat X.K ph S r M σ H ∧ t r M Q0 ∧ ∀ vs H', postA X.K ph S r σ Q0 vs H' → Q vs H')
theorem PK.weak {kws : List Keyword} {t t' : TA} (h : PK X kws t) (w : ∀ σ H Q, t' σ H Q → t σ H Q) : PK X kws t' := ⟨fun pos pins s σ H Q I q => h.run pos pins s σ H Q I (w _ _ _ q)⟩
theorem dk_nil : DK X [] dNil := ⟨PK.weak pk_nil fun σ H Q ⟨ph, S, r, M, Q0, hs, ht, hq⟩ => hq _ _ (Aft.here hs ⟨_, .nil, ht⟩)⟩
theorem dk_cons {e : Expr} {kws : List Keyword} {nm : Option Str} {kpos : Pos} {t : DTE} {u : DTA} (h : DE X e t) (h2 : DK X kws u) : DK X (⟨nm, e, kpos⟩ :: kws) (dCons t u) :=
  ⟨PK.weak (pk_cons h.pe h2.pk) fun σ H Q ⟨ph, S, r, M, Q0, hs, ht, hq⟩ => ⟨ph, S, r, M, _, hs, ht, fun v H1 ⟨ph1, S1, M1, x1, hs1, d, q1, g1⟩ =>
    ⟨ph1, S1, r, M1, _, hs1, g1, fun vs H2 ⟨ph2, S2, M2, x2, hs2, ds, q2, g2⟩ => hq _ _ ⟨ph2, S2, M2, x1.trans x2, hs2, _, .cons (q1.up x2) q2, g2⟩⟩⟩⟩
/-- the values by place -/
def pick {α : Type} (l : List Nat) (xs : List α) : List α := l.filterMap fun i => xs[i]?
theorem pick_vals {vs : List V} {us : List Value} (r : Vals vs us) : ∀ l : List Nat, Vals (pick l vs) (pick l us)
  | [] => .nil
  | i :: l => by
    unfold pick
    rw [List.filterMap_cons, List.filterMap_cons]
    cases e : vs[i]? with
    | none => rw [r.none_of e]; exact pick_vals r l
    | some v =>
      obtain ⟨u, eu, ru⟩ := r.get e
      rw [eu]
      exact .cons ru (pick_vals r l)
theorem pick_rep {K : PySem.W.Frag} {ph : Ph} {S : Hp} {vs : List V} {ds : List D} (r : RepAll K ph S vs ds) : ∀ l : List Nat, RepAll K ph S (pick l vs) (pick l ds)
  | [] => .nil
  | i :: l => by
    unfold pick
    rw [List.filterMap_cons, List.filterMap_cons]
    cases e : ds[i]? with
    | none =>
      have e' : vs[i]? = none := by
        have := List.getElem?_eq_none_iff.mp e
        exact List.getElem?_eq_none_iff.mpr (by rw [r.len]; exact this)
      rw [e']; exact pick_rep r l
    | some d =>
      obtain ⟨u, eu, ru⟩ := r.get e
      rw [eu]
      exact .cons ru (pick_rep r l)
def dCallK (m n : Nat) (sp : DSp) (l : List Nat) (E : DX) (t : DTA) : DTE := fun r M Q => t r M fun ds M1 => ds.length = m ∧ (pick l ds).length = n ∧ sp (pick l ds) M1 Q E
variable {k : Nat} {ps ks : List Str} {sp : DSp} {x : Str} {p pos : Pos} {kws : List Keyword} {t : DTA}
end
/-! ### a def, made known to its callers -/
theorem Def.mk' {P : Program} {w : World} {K : PySem.W.Frag} {mg : Str → Option Value} {base : Heap} {k : Nat} {x : Str} {st : Stmt} {ps : List Str} {sp : DSp} {f : Addr} {fd : FuncData} (F : Fun K x x st f fd) (h : FnD P w K mg base CX0 k f fd ps sp) (hm : mg x = some (.ref f)) (hb : Binds K fd ps []) : Def P w K mg base CX0 k x st ps sp :=
  ⟨f, fd, h, hm, F.kp, hb, F⟩
/-- a def that stands in the module -/
structure Here (K : PySem.W.Frag) (mg : Str → Option Value) (x : Str) (st : Stmt) (ps : List Str) : Prop where
  ex : ∃ (f : Addr) (fd : FuncData), Fun K x x st f fd ∧ mg x = some (.ref f) ∧ Binds K fd ps []
theorem here_of {K : PySem.W.Frag} {h : Heap} {mg : Str → Option Value} {x : Str} {st : Stmt} {ps : List Str} {f : Addr} {oc : Value} {od an : Option Addr} {osl : Array (Option Value)} {kV doc pm cdv ct : Value} (X : K.In h) (G : h.Ns mainGlobals mg)
    (a : PySem.W.nsIn K mainGlobals x = some (some (.ref f))) (l : K.lookup f = some ⟨oc, od, .func (PySem.W.fnOf x x (defArgs st) (defBody st) (defScope st) .none kV doc pm an cdv ct), osl⟩) (c : PySem.W.codeIn K cdv x = true) (k : PySem.W.keepIn K (.ref f) = true)
    (hb : ∀ (kV doc pm : Value) (an : Option Addr) (cdv ct : Value) (us : List Value), us.length = ps.length → bindArgs (PySem.W.fnOf x x (defArgs st) (defBody st) (defScope st) .none kV doc pm an cdv ct) ⟨us, []⟩ = pure (ps.zip us)) : Here K mg x st ps :=
  ⟨f, _, fun_mk (st := st) l c k, PySem.W.mg_of X G a, (fun_mk (st := st) l c k).binds hb⟩
section
variable {P : Program} {w : World} {K : PySem.W.Frag} {mg : Str → Option Value} {base : Heap}
/-- THE RULE for a def of the module -/
theorem Here.ok {x : Str} {st : Stmt} {N ps : List Str} {k : Nat} {sp : DSp} {t : DTS} (F : Here K mg x st ps) (S : FnScope N ps (defScope st))
    (hder : ∀ (f : Addr) (cdv : Value) (A : Around) (outer : List PySem.Env) (s : Shared) (H : Hp) (E : XK), Room k (A.deeper (envOfC x (defScope st) s.heap.objs.size f cdv)) → (A.deeper (envOfC x (defScope st) s.heap.objs.size f cdv)).guards = some [] →
      DSs (cxOf CX0 P w K mg base N x (defScope st) f cdv A outer s H E).nox (defBody st) t)
    (hread : ∀ ds M Q, ds.length = ps.length → sp ds M Q DX0 → t (dEnds M Q) (startD N.length ds) M)
    (hX : ∀ ds M Q E, sp ds M Q E → sp ds M Q DX0 := by exact fun _ _ _ _ h => h) : Def P w K mg base CX0 (k + 1) x st ps sp :=
  let ⟨f, fd, h1, h2, h3⟩ := F.ex
  Def.mk' h1 (Fun.okD h1 S (hder f) hread hX) h2 h3
end
/-! ### the end of a law -/
def spLaw : DSp := fun ds M Q _ => M = [] ∧ (∃ ns, ds = [.scr ns]) ∧ Q (.bl true) []
theorem law_callG {P : Program} {w : World} {K : PySem.W.Frag} {mg mb : Str → Option Value} {k : Nat} {fa a : Addr} {fd : FuncData} {x : Str} {s1 : Shared} {vs : List Value} {ns : List Int}
    (KX : K.In s1.heap) (hns : s1.heap.Ns mainGlobals mg) (hb : s1.heap.Ns builtinsNs mb) (hbb : ∀ x : Str, x ≠ "__name__" → mb x = bootBuiltins x) (hlim : s1.heap.NoLimit) (hg : s1.gens = #[])
    (ha : s1.heap.get? a = some { cls := .type "list", data := .seq vs.toArray }) (hi : IntsAre vs ns) (hl : ns.length ≤ sizeLine) (hr : Room k callerA)
    (F : ∀ base : Heap, K.In base → base.Ns mainGlobals mg → FnD P w K mg base CX0 k fa fd [x] spLaw) (hbind : ∀ (s : Shared) (u : Value), BindsTo s fd ⟨[u], []⟩ [(x, u)]) :
    codeAny (model P w) callerA (.call (.ref fa) ⟨[.ref a], []⟩) (fun r s' => r = .ok (.ret (.bool true)) ∧ OldK s1.heap s'.heap ∧ s'.os = s1.os ∧ AllBare s'.gens) s1 := by
  have rv := vals_ints hi
  have lenV := hi.length
  have core : ∀ H : Hp, Only H → SqL K H a (ns.map V.int) → HOk P w H s1.heap → (∀ b, H b ≠ none → b = a) → (H a ≠ none → K.lookup a = none) →
      codeAny (model P w) callerA (.call (.ref fa) ⟨[.ref a], []⟩) (fun r s' => r = .ok (.ret (.bool true)) ∧ OldK s1.heap s'.heap ∧ s'.os = s1.os ∧ AllBare s'.gens) s1 := by
    intro H hO hS hok hA hK
    have at_ : ∀ {b : Addr}, H b ≠ none → b = a := fun {b} z => hA b z
    have noA : ∀ {b : Addr} {o : Obj} {es : Array DictEntry} {ep : Nat}, s1.heap.get? b = some o → o.data = .dict es ep → H b = none := fun {b o es ep} e d => by
      by_cases z : H b = none
      · exact z
      · have e' := at_ z
        rw [e', ha] at e
        rw [← Option.some.inj e] at d
        exact nomatch d
    have nsK : ∀ {b : Addr} {m : Str → Option Value}, s1.heap.Ns b m → (hidT s1.heap H).Ns b m := fun {b m} ⟨o, es, ep, e, d, r⟩ => ⟨o, es, ep, hidT_get e (noA e d), d, r⟩
    have hKb : K.In (hidT s1.heap H) := fun b o e => hidT_get (KX b o e) (by
      by_cases z : H b = none
      · exact z
      · have e' := at_ z
        rw [e'] at e z
        rw [hK z] at e
        cases e)
    have hM : Mod K mg (hidT s1.heap H) := ⟨hKb, nsK hns, ⟨mb, nsK hb, hbb⟩, let ⟨mc, g1, g2⟩ := hlim; ⟨mc, nsK g1, g2⟩⟩
    have e0 : Env0 P w K mg (hidT s1.heap H) callerA [] s1 H := ⟨rfl, hM, fun b o e => of_hidT e, Nat.le_of_eq (hidT_size _ _), trivial, fun b hb => absurd (show b ∈ ([] : List Addr) from hb) (by simp), hok, .of_eq hg⟩
    have st0 : Sat K ⟨[], []⟩ H [] [] [] H := ⟨fun _ _ e => e, rfl, List.nodup_nil, fun k a e => by simp at e, fun k ds e => by simp at e, fun _ hp => (nomatch hp), List.nodup_nil, rfl, fun i d e => by simp at e⟩
    have sp0 : lfSp K 1 spLaw [.ref a] H (fun v _ => v = .bl true) E0 := ⟨⟨[], []⟩, H, [], [.scr ns], fun d M => d = .bl true, DX0, rfl, st0, .cons (.scr hS) .nil, ⟨rfl, ⟨ns, rfl⟩, rfl⟩, fun v H' ⟨_, _, _, _, _, d, q, e⟩ => by
      rw [e] at q
      cases q
      rfl, fun cls d H' ⟨_, _, _, _, _, _, _, _, _, _, _, _, _, _, _, _, z⟩ => z⟩
    refine codeAny_mono ((F _ hKb (nsK hns)).run callerA [] s1 H ⟨[.ref a], []⟩ [.ref a] [.ref a] _ _ hr rfl e0 (hbind s1 (.ref a)) (.cons rfl .nil) sp0) fun r s' h => ?_
    match r, h with
    | .error e, h => exact False.elim h
    | .ok .next, h => exact False.elim h
    | .ok .brk, h => exact False.elim h
    | .ok .cont, h => exact False.elim h
    | .ok (.ret u), ⟨v, H', os, bare, un, hok', r', q⟩ =>
      have q' : v = .bl true := q
      subst q'
      obtain rfl : u = Value.bool true := r'
      refine ⟨rfl, OldK.of_keep fun b o e => ?_, os, bare⟩
      rcases hO b with q | ⟨ob, xs, q⟩
      · exact un.keep b o e q (fun z => nomatch z) (fun z => nomatch z)
      · obtain ⟨e1, _⟩ := hok b _ q
        obtain ⟨e2, _⟩ := hok' b _ (un.frzs b ob _ q)
        rw [e] at e1
        cases e1
        exact e2
  cases hk : K.lookup a with
  | some o =>
    have e := KX a o hk
    rw [ha] at e
    cases e
    exact core (fun _ => none) (fun _ => .inl rfl) (.inr ⟨_, vs.toArray, _, hk, rfl, rfl, rfl, by rw [List.size_toArray, lenV]; exact hl, by simpa using rv⟩) (fun b u z => (nomatch z)) (fun b z => absurd rfl z) fun z => absurd rfl z
  | none =>
    refine core (fun b => if b = a then some (.frz { cls := .type "list", data := .seq vs.toArray } (.lst (ns.map V.int))) else none) (fun b => ?_) (.inl (.inr ⟨{ cls := .type "list", data := .seq vs.toArray }, if_pos rfl⟩)) (fun b u z => ?_) (fun b z => ?_) fun _ => hk
    · by_cases hb : b = a
      · exact .inr ⟨_, _, if_pos hb⟩
      · exact .inl (if_neg hb)
    · by_cases hb : b = a
      · have z := (if_pos hb).symm.trans z
        cases z
        rw [hb]
        exact ⟨ha, by rw [List.length_map]; exact hl, vs, _, rv, ha⟩
      · have z := (if_neg hb).symm.trans z
        cases z
    · by_cases hb : b = a
      · exact hb
      · exact absurd (if_neg hb) z
/-- the goal that k_head leaves -/
theorem walkD {l : PySem.W.OpenLaw} {n k : Nat} {q : Program} {loose : List Str} {XP : (Str → Option Value) → Heap → Prop} {YP : World → Heap → Prop} {d : DefRec} {K : Params → PySem.W.Frag} {x : Str} {st : Stmt}
    (hn : l.most = some n) (hn2 : n ≤ sizeLine) (hdf : d.params.defaults = []) (hr : Room k callerA) (hY : ∀ (w : World) (h : Heap), YP w h → (K w.params).In h)
    (F : ∀ (w : World) (mg : Str → Option Value) (h : Heap), (K w.params).In h → h.Ns mainGlobals mg → ∀ base : Heap, (K w.params).In base → base.Ns mainGlobals mg → Def l.prog w (K w.params) mg base CX0 k d.name st [x] spLaw)
    (hb : ∀ (kV doc pm : Value) (an : Option Addr) (cdv ct : Value) (u : Value), bindArgs (PySem.W.fnOf d.name d.name (defArgs st) (defBody st) (defScope st) .none kV doc pm an cdv ct) ⟨[u], []⟩ = pure [(x, u)]) :
    PySem.W.WalkO q loose XP YP l.row.toRowW d [] (fun f vs => PySem.call f vs) := by
  refine Att.attach_call hn hdf fun w s0 s1 mg mb fa o pm cd doc a vs ns G Y ho hd hcd hmg hobj hints hlen hg => ?_
  have KX := hY w _ Y
  obtain ⟨f0, fd, g1, g2, g3, g4, g5⟩ := (F w mg _ KX G.T.g _ KX G.T.g).ex
  have ef : f0 = fa := by
    rw [g2] at hmg
    exact Value.ref.inj (Option.some.inj hmg)
  subst ef
  obtain ⟨oc, od, kV, doc', pm', an, cdv, ct, osl, efd, lk, hcd'⟩ := g5.ex
  refine law_callG (fd := fd) (k := k) (x := x) KX G.T.g G.T.b G.T.builtins G.T.nolimit hg hobj hints (Nat.le_trans hlen hn2) hr (fun base h1 h2 => ?_) fun s u => ?_
  · obtain ⟨f1, fd1, k1, k2, k3, k4, k5⟩ := (F w mg _ KX G.T.g base h1 h2).ex
    have e1 : f1 = f0 := by
      rw [g2] at k2
      exact (Value.ref.inj (Option.some.inj k2)).symm
    subst e1
    obtain ⟨_, _, _, _, _, _, _, _, _, _, lk1, _⟩ := k5.ex
    rw [lk] at lk1
    have e2 : fd = fd1 := by
      have := Option.some.inj lk1
      injection this with _ _ z _
      exact Data.func.inj z
    rw [e2]
    exact k1
  · rw [efd]
    exact .of_eq (hb kV doc' pm' an cdv ct u)
end DL
/-! DL9: further rules; lemmas for readings -/
namespace DL
open PySem PySem.Spec PyProof.Rows L2
theorem u64 {A : Around} {k : Nat} (hr : Room k A) : A.units + 64 < cLine := hr.units
theorem ux {A : Around} {k : Nat} (hr : Room k A) : A.units + 200 < cLine := by have := hr.un; omega
section
variable {X : Cx}
/-- an owned list is handed on: it is changed no more -/
def gFrz (d : D) (M : Mem) (Q : DQ) : Prop := match d with
  | .own k => match M[k]? with
    | some (.lst l) => Q (.lst l) (M.set k .dead)
    | _ => False
  | d => Q d M
def dFrz (t : DTE) : DTE := fun r M Q => t r M fun d M1 => gFrz d M1 Q
theorem de_frz {e : Expr} {t : DTE} (h : DE X e t) : DE X e (dFrz t) :=
  DE.of h.pe fun ph S r M σ H Q hs ht Q' hq => ⟨ph, S, r, M, _, hs, ht, fun v H1 ⟨ph1, S1, M1, x1, hs1, d, q1, g1⟩ => by
    cases d with
    | own k =>
      replace g1 : gFrz (.own k) M1 Q := g1
      unfold gFrz at g1
      dsimp only at g1
      split at g1
      · rename_i l hk
        cases q1 with
        | own hp =>
          obtain ⟨a, xs, e1, x2, hs2, q2⟩ := hs1.freeze hk
          rw [hp] at e1
          cases e1
          exact hq _ _ ⟨ph1, _, _, x1.trans x2, hs2, _, q2, g1⟩
      · exact g1.elim
    | _ => exact hq _ _ ⟨ph1, S1, M1, x1, hs1, _, q1, g1⟩⟩
/-- a list, n times -/
def gMulL : G2 := fun x y M Q => match x, y with
  | .lst a, .int j => (-(2 ^ 63) ≤ j ∧ j < 2 ^ 63 ∧ a.length * j.toNat ≤ sizeLine) ∧ Q (.lst (List.flatten (List.replicate j.toNat a))) M
  | _, _ => False
end
variable {X : Cx}
/-! ### zip, enumerate -/
/-- a list's items, and what must hold of the cells that they stay so -/
def lsqD (M : Mem) : D → Option (List D × (Mem → Prop))
  | .lst ds => some (ds, fun _ => True)
  | .scr ns => some (ns.map D.int, fun _ => True)
  | .own k => match M[k]? with
    | some (.lst ds) => some (ds, fun M' => M'[k]? = some (.lst ds))
    | _ => none
  | _ => none
theorem lsq_rep {K : PySem.W.Frag} {ph : Ph} {S : Hp} {r : Env} {M : Mem} {σ : St} {H : Hp} {v : V} {d : D} {ds : List D} {C : Mem → Prop} (hs : Sat K ph S r M σ H) (q : Rep K ph S v d) (e : lsqD M d = some (ds, C)) :
    ∃ a, v = .ref a ∧ (∃ xs, SqL K H a xs) ∧ ∀ (ph' : Ph) (S' : Hp) (r' : Env) (M' : Mem) (σ' : St) (H' : Hp), (∀ (k : Nat) (a : Addr), ph.cells[k]? = some a → ph'.cells[k]? = some a) → Same S S' → Sat K ph' S' r' M' σ' H' → C M' → ∃ xs, SqL K H' a xs ∧ RepAll K ph' S' xs ds := by
  cases d <;> first | (cases e; done) | skip
  · cases q with
    | lst h1 h2 =>
      cases e
      exact ⟨_, rfl, ⟨_, SqL.of (hs.sub _ _ h1)⟩, fun ph' S' r' M' σ' H' e1 e2 hs' _ => ⟨_, SqL.of (hs'.sub _ _ (e2 _ _ h1)), h2.ext0 e1 e2⟩⟩
  · cases q with
    | scr h1 =>
      cases e
      exact ⟨_, rfl, ⟨_, hs.sub.seq h1⟩, fun ph' S' r' M' σ' H' e1 e2 hs' _ => ⟨_, hs'.sub.seq (e2.seq h1), RepAll.ints _⟩⟩
  · rename_i k
    cases q with
    | own h1 =>
      unfold lsqD at e
      dsimp only at e
      split at e
      · rename_i ds' hk
        cases e
        obtain ⟨a, xs, c1, c2, c3, c4⟩ := hs.cell k _ hk
        rw [h1] at c1; cases c1
        refine ⟨_, rfl, ⟨_, SqL.of c3⟩, fun ph' S' r' M' σ' H' e1 e2 hs' hc => ?_⟩
        obtain ⟨a', xs', b1, b2, b3, b4⟩ := hs'.cell k _ hc
        rw [e1 _ _ h1] at b1; cases b1
        exact ⟨xs', SqL.of b3, b4⟩
      · cases e
def pairD (x y : D) : D := .tup [x, y]
theorem RepAll.two {K : PySem.W.Frag} {ph : Ph} {S : Hp} {x y : V} {d e : D} (h : Rep K ph S x d) (g : Rep K ph S y e) : RepAll K ph S [x, y] [d, e] := .cons h (.cons g .nil)
theorem zip_get {l1 l2 : List D} {i : Nat} {d : D} (h : (List.zipWith pairD l1 l2)[i]? = some d) : ∃ x y, l1[i]? = some x ∧ l2[i]? = some y ∧ d = pairD x y := by
  rw [List.getElem?_zipWith] at h
  cases e1 : l1[i]? with
  | none => rw [e1] at h; cases h
  | some x =>
    cases e2 : l2[i]? with
    | none => rw [e1, e2] at h; cases h
    | some y =>
      rw [e1, e2] at h
      exact ⟨x, y, rfl, rfl, (Option.some.inj h).symm⟩
theorem Wlk.zip {K : PySem.W.Frag} {ph : Ph} {S : Hp} {a b : Addr} {d1 d2 : List D} {C1 C2 : Mem → Prop}
    (h1 : ∀ (ph' : Ph) (S' : Hp) (r' : Env) (M' : Mem) (σ' : St) (H' : Hp), (∀ (k : Nat) (a : Addr), ph.cells[k]? = some a → ph'.cells[k]? = some a) → Same S S' → Sat K ph' S' r' M' σ' H' → C1 M' → ∃ xs, SqL K H' a xs ∧ RepAll K ph' S' xs d1)
    (h2 : ∀ (ph' : Ph) (S' : Hp) (r' : Env) (M' : Mem) (σ' : St) (H' : Hp), (∀ (k : Nat) (a : Addr), ph.cells[k]? = some a → ph'.cells[k]? = some a) → Same S S' → Sat K ph' S' r' M' σ' H' → C2 M' → ∃ xs, SqL K H' b xs ∧ RepAll K ph' S' xs d2) :
    Wlk K ph S (Itz K a b) (List.zipWith pairD d1 d2) (fun M => C1 M ∧ C2 M) := fun ph' S' r M σ H e1 e2 hs hc => by
  obtain ⟨xs, q1, qa1⟩ := h1 ph' S' r M σ H e1 e2 hs hc.1
  obtain ⟨ys, q2, qa2⟩ := h2 ph' S' r M σ H e1 e2 hs hc.2
  refine ⟨fun i hi => ⟨xs, ys, q1, q2, by rw [qa1.len, qa2.len]; rw [List.length_zipWith] at hi; omega⟩, fun i d e => ?_⟩
  obtain ⟨x, y, ex, ey, rfl⟩ := zip_get e
  obtain ⟨u, eu, qu⟩ := qa1.get ex
  obtain ⟨w, ew, qw⟩ := qa2.get ey
  refine ⟨⟨xs, ys, u, w, q1, q2, eu, ew⟩, fun z H' ⟨T, u', w', ez, hT, eH, f1, f2⟩ => ?_⟩
  have e3 := f1 xs q1
  have e4 := f2 ys q2
  rw [eu] at e3; cases e3
  rw [ew] at e4; cases e4
  subst ez eH
  obtain ⟨x1, hs1⟩ := hs.frz hT (.tup [u, w])
  exact ⟨_, _, _, x1, hs1, rfl, .tup (.inl upd_same) ((RepAll.two qu qw).up x1)⟩
/-- zip of two lists -/
def gZip (ds : List D) (M : Mem) (R : List D → (Mem → Prop) → Mem → Prop) : Prop := match ds with
  | [x, y] => match lsqD M x, lsqD M y with
    | some (xs, C1), some (ys, C2) => R (List.zipWith pairD xs ys) (fun M' => C1 M' ∧ C2 M') M
    | _, _ => False
  | _ => False
theorem di_zip {a b : Expr} {t : DTA} {p pos tpos : Pos} {elts : List Expr} {kk : Nat} (hm : X.mg "zip" = none) (ha : DA X [a, b] t) (hg : Gl X "zip" := by rfl)
    (hs : starEach [a, b] X.env = (false, eval a X.env) :: starEach [b] X.env := by rfl) (hpl : (backTo pos (starEach [b] X.env)).any (·.1) = false := by rfl) : DI X (.Tuple elts kk tpos) (.Call (.Name "zip" p) [a, b] [] pos) (dRngI gZip t) :=
  ⟨PI.weak (RZ.pi_zipA hg hm ha.pa hs hpl) fun σ H R ⟨ph, S, r, M, Q0, hs, ht, hq⟩ => ⟨ph, S, r, M, _, hs, ht, fun vs H1 ⟨ph1, S1, M1, x1, hs1, ds, q1, g1⟩ => by
    match ds, q1, g1 with
    | [x, y], .cons qx (.cons qy .nil), g =>
      unfold gZip at g
      dsimp only at g
      split at g
      · rename_i xs C1 ys C2 e1 e2
        obtain ⟨u, rfl, ⟨us, hu⟩, w1⟩ := lsq_rep hs1 qx e1
        obtain ⟨w, rfl, ⟨ws, hw⟩, w2⟩ := lsq_rep hs1 qy e2
        exact ⟨u, w, us, ws, rfl, .inl ⟨hu, hw, hq _ _ ⟨ph1, S1, M1, x1, hs1, _, _, Wlk.zip w1 w2, g⟩⟩⟩
      · exact g.elim⟩⟩
end DL
namespace DL
open PySem PySem.Spec PyProof.Rows L2
def t_is_whole : DTS :=
 (dRet (dAndV (dCB gIsi (dCons (dVar 0) (dCons (dC (.val (.ty "int"))) dNil))) (dNotV (dCB gIsi (dCons (dVar 0) (dCons (dC (.val (.ty "bool"))) dNil))))))
def t_l_random_7821 (c_l_hash_9cde : DSp) : DTS :=
 (dSeq (dIfS (dTru (dOp (gCmpI fun i j => decide (j < i)) (dOp gIx (dVar 0) (dC (.int 0))) (dC (.int 0)))) (dSeq (dAsg (dOp (rBin CMod fun i j => i.fmod j) (dCB gInt (dCons (dOp gIx (dVar 0) (dC (.int 0))) dNil)) (dVar 1)) (dName 2))
 (dSeq (dAsg (dOp (rBin CDiv fun i j => i.fdiv j) (dOp gIx (dVar 0) (dC (.int 0))) (dVar 1)) (dSub (dVar 0) (dC (.int 0))))
 (dRet (dVar 2)))) dNext)
 (dSeq (dAsg (dC (.int 0)) (dName 2))
 (dSeq (dFor (dRngI gRng1 (dCons (dOp gAdd (dC (.int 1)) (dOp (rBin CDiv fun i j => i.fdiv j) (dBits (dVar 1)) (dC (.int 30)))) dNil)) (dName 3) (dSeq (dAsg (dOp gAdd (dOp gIx (dVar 0) (dC (.int 2))) (dC (.int 1))) (dSub (dVar 0) (dC (.int 2))))
 (dAsg (dOp gAdd (dOp (rBin CMul fun i j => i * j) (dVar 2) (dC (.int 2147483587))) (dCall 2 c_l_hash_9cde [] DX0 (dCons (dOp gIx (dVar 0) (dC (.int 1))) (dCons (dOp gIx (dVar 0) (dC (.int 2))) dNil)))) (dName 2))))
 (dRet (dOp (rBin CMod fun i j => i.fmod j) (dCB gInt (dCons (dVar 2) dNil)) (dVar 1))))))
def t_l_cell_cf3b : DTS :=
 (dSeq (dIfS (dTru (dOp (gCmpI fun i j => decide (i < j)) (dVar 1) (dCB gLen (dCons (dVar 0) dNil)))) (dRet (dOp gIx (dVar 0) (dVar 1))) dNext)
 (dRet (dOp (rBin CMod fun i j => i.fmod j) (dCB gSum (dCons (dSl (gSlL false) (dVar 0) dNoPart (dPart (dC (.int 1)))) dNil)) (dC (.int 1000003)))))
def t_l_generator_b324 (c_l_cell_cf3b : DSp) : DTS :=
 (dSeq (dAsg (dCall 2 c_l_cell_cf3b [] DX0 (dCons (dVar 0) (dCons (dVar 1) dNil))) (dName 2))
 (dRet (dOwn (dCons (dOp (rBin CMod fun i j => i.fmod j) (dCB gInt (dCons (dCB gMax (dCons (dOp (rBin (fun _ _ => True) fun i j => i - j) (dVar 2) (dOp (rBin CPow fun i j => i ^ j.toNat) (dC (.int 10)) (dC (.int 18)))) (dCons (dC (.int 0)) dNil))) dNil)) (dOp (rBin CPow fun i j => i ^ j.toNat) (dOp (rBin CPow fun i j => i ^ j.toNat) (dC (.int 10)) (dC (.int 60))) (dC (.int 10)))) (dCons (dOp (rBin CMod fun i j => i.fmod j) (dCB gInt (dCons (dVar 2) dNil)) (dC (.int 2147483647))) (dCons (dOp (rBin CMul fun i j => i * j) (dC (.int 1000)) (dVar 1)) dNil))))))
end DL
namespace DL
open PySem PySem.Spec PyProof.Rows L2
end DL
namespace DL
open PySem PySem.Spec PyProof.Rows L2
end DL
namespace DL
open PySem PySem.Spec PyProof.Rows L2
def t_l_hash_d8d1 : DTS :=
 (dSeq (dAsg (dOp (rBin CMod fun i j => i.fmod j) (dCB gInt (dCons (dOp gAdd (dOp gAdd (dOp gAdd (dOp (rBin CMul fun i j => i * j) (dVar 0) (dC (.int 1140671))) (dOp (rBin CMul fun i j => i * j) (dOp (rBin CMul fun i j => i * j) (dC (.int 27644437)) (dVar 1)) (dVar 1))) (dOp (rBin CMul fun i j => i * j) (dC (.int 131)) (dVar 1))) (dC (.int 19))) dNil)) (dC (.int 2147483629))) (dName 2))
 (dSeq (dAsg (dOp (rBin CMod fun i j => i.fmod j) (dCB gInt (dCons (dOp gAdd (dOp gAdd (dOp (rBin CMul fun i j => i * j) (dVar 2) (dVar 2)) (dOp (rBin CMul fun i j => i * j) (dC (.int 62089)) (dVar 1))) (dC (.int 32416187))) dNil)) (dC (.int 2147483587))) (dName 2))
 (dRet (dOp (rBin CMod fun i j => i.fmod j) (dCB gInt (dCons (dOp (rBin CMul fun i j => i * j) (dVar 2) (dC (.int 48271))) dNil)) (dC (.int 2147483647))))))
end DL
namespace DL
open PySem PySem.Spec PyProof.Rows L2
def t_l_path_108b (c_l_random_7821 : DSp) : DTS :=
 (dSeq (dAsg (dOp gIx (dLst (dCons (dC (.int 3)) (dCons (dOp (rBin CPow fun i j => i ^ j.toNat) (dC (.int 10)) (dC (.int 6))) (dCons (dOp (rBin CPow fun i j => i ^ j.toNat) (dC (.int 10)) (dC (.int 20))) dNil)))) (dCall 2 c_l_random_7821 [] DX0 (dCons (dVar 0) (dCons (dC (.int 3)) dNil)))) (dName 1))
 (dRet (dLc false (dRngI gRng1 (dCons (dC (.int 4)) dNil)) (dName 2) dYes (dOp (rBin (fun _ _ => True) fun i j => i - j) (dCall 2 c_l_random_7821 [] DX0 (dCons (dVar 0) (dCons (dOp gAdd (dOp (rBin CMul fun i j => i * j) (dC (.int 2)) (dVar 1)) (dC (.int 1))) dNil))) (dVar 1)) [2])))
def t_is_path_list (c_is_whole : DSp) : DTS :=
 (dRet (dAndV (dCB gIsi (dCons (dVar 0) (dCons (dC (.val (.ty "list"))) dNil))) (dAndV (dOp gEq (dCB gLen (dCons (dVar 0) dNil)) (dC (.int 4))) (dOp gEq (dLc false (dSeqI (dVar 0)) (dName 1) (dNot (dTru (dCall 1 c_is_whole [] DX0 (dCons (dVar 1) dNil)))) (dVar 1) [1]) (dLst dNil)))))
def t_crossing_by : DTS :=
 (dSeq (dAsg (dOp (rBin (fun _ _ => True) fun i j => i - j) (dOp (rBin CMul fun i j => i * j) (dOp gIx (dVar 0) (dC (.int 0))) (dOp gIx (dVar 1) (dC (.int 1)))) (dOp (rBin CMul fun i j => i * j) (dOp gIx (dVar 0) (dC (.int 1))) (dOp gIx (dVar 1) (dC (.int 0))))) (dName 2))
 (dRet (dOp (rBin (fun _ _ => True) fun i j => i - j) (dOp gAdd (dVar 2) (dOp (rBin CMul fun i j => i * j) (dOp gIx (dVar 0) (dC (.int 2))) (dOp gIx (dVar 1) (dC (.int 3))))) (dOp (rBin CMul fun i j => i * j) (dOp gIx (dVar 0) (dC (.int 3))) (dOp gIx (dVar 1) (dC (.int 2)))))))
def t_l_crossing_3f18 : DTS :=
 (dRet (dOp (rBin (fun _ _ => True) fun i j => i - j) (dOp gAdd (dOp (rBin (fun _ _ => True) fun i j => i - j) (dOp (rBin CMul fun i j => i * j) (dOp gIx (dVar 0) (dC (.int 0))) (dOp gIx (dVar 1) (dC (.int 1)))) (dOp (rBin CMul fun i j => i * j) (dOp gIx (dVar 0) (dC (.int 1))) (dOp gIx (dVar 1) (dC (.int 0))))) (dOp (rBin CMul fun i j => i * j) (dOp gIx (dVar 0) (dC (.int 2))) (dOp gIx (dVar 1) (dC (.int 3))))) (dOp (rBin CMul fun i j => i * j) (dOp gIx (dVar 0) (dC (.int 3))) (dOp gIx (dVar 1) (dC (.int 2))))))
end DL
/-! DLS: sorted of ints, of tuples of ints -/
namespace DL
open PySem PySem.Spec PyProof.Rows L2
/-- by the first unlike number -/
def lexL : List Int → List Int → Bool
  | [], [] => false
  | [], _ :: _ => true
  | _ :: _, [] => false
  | x :: xs, y :: ys => if x = y then lexL xs ys else decide (x < y)
theorem lexL_conn : ∀ x y, lexL x y = false → lexL y x = false → x = y
  | [], [], _, _ => rfl
  | [], _ :: _, h, _ => by cases h
  | _ :: _, [], _, h => by cases h
  | x :: xs, y :: ys, h1, h2 => by
    unfold lexL at h1 h2
    by_cases e : x = y
    · rw [if_pos e] at h1
      rw [if_pos e.symm] at h2
      rw [e, lexL_conn xs ys h1 h2]
    · rw [if_neg e] at h1
      rw [if_neg (Ne.symm e)] at h2
      have a1 := of_decide_eq_false h1
      have a2 := of_decide_eq_false h2
      omega
/-- at v: a tuple of these ints -/
def IsTupI (h : Heap) (v : Value) (ns : List Int) : Prop := ∃ a o us n, v = .ref a ∧ h.get? a = some o ∧ o.cls = .type "tuple" ∧ o.data = .seq (List.toArray us) n ∧ Vals (ns.map V.int) us
theorem IsTupI.keeps {h h' : Heap} {v : Value} {ns : List Int} (p : IsTupI h v ns) (k : ∀ b o, h.get? b = some o → o.cls = .type "tuple" → h'.get? b = some o) : IsTupI h' v ns := by
  obtain ⟨a, o, us, n, e, ho, hc, hd, r⟩ := p
  exact ⟨a, o, us, n, e, k _ _ ho hc, hc, hd, r⟩
/-- the ints of a tuple, as H tells -/
def kV (K : PySem.W.Frag) (H : Hp) (v : V) : List Int := match v with
  | .ref t => match H t with
    | some (.tup xs) => xs.map fun x => match x with
      | .int i => i
      | _ => 0
    | _ => match K.lookup t with
      | some ⟨_, _, .seq its _, _⟩ => its.toList.map fun u => match u with
        | .int i _ => i
        | _ => 0
      | _ => []
  | _ => []
/-! ### as a rule for data -/
def tI (ns : List Int) : D := .tup (ns.map D.int)
/-! ### slices of lists and tuples alike -/
section
variable {X : Cx}
def gSl (own : Bool) (d : D) (lo hi : Option Int) (M : Mem) (Q : DQ) : Prop := match d with
  | .tup l => Q (.tup (cutD l lo hi)) M
  | d => gSlL own d lo hi M Q
theorem de_sl (own : Bool) {e : Expr} {lo hi : Option Expr} {t : DTE} {tl th : DTO} {pos p2 : Pos} (h : DE X e t) (h1 : DO X lo tl) (h2 : DO X hi th) : DE X (.Subscript e (.Slice lo hi none p2) pos) (dSl (gSl own) t tl th) :=
  DE.of (pe_slice (SlR.or sl_list sl_tupA) h.pe h1.po h2.po) fun ph S r M σ H Q hs ht Q' hq => ⟨ph, S, r, M, _, hs, ht, fun v H1 ⟨ph1, S1, M1, x1, hs1, d, q1, g1⟩ =>
    ⟨ph1, S1, r, M1, _, hs1, g1, fun lo H2 ⟨ph2, S2, M2, x2, hs2, g2⟩ => ⟨ph2, S2, r, M2, _, hs2, g2, fun hi H3 ⟨ph3, S3, M3, x3, hs3, g3⟩ => by
      replace g3 : gSl own d lo hi M3 Q := g3
      have xx := x1.trans (x2.trans x3)
      have q3 := q1.up (x2.trans x3)
      by_cases htup : ∃ l, d = .tup l
      · obtain ⟨l, rfl⟩ := htup
        cases q3 with
        | tup h1 h2 =>
          refine .inr ⟨_, _, rfl, h1.sq hs3.sub, fun hw => ?_, fun _ b hb => hq _ _ (Aft.up xx (Aft.frz hs3 hb fun x => ⟨_, .tup (.inl upd_same) ((cut_rep h2).up x), g3⟩))⟩
          have hw' : HT.sIx l.length 0 lo = 0 ∧ HT.sIx l.length l.length hi = l.length := by rw [← h2.len]; exact hw
          refine hq _ _ (Aft.up xx (Aft.here hs3 ⟨_, .tup h1 ?_, g3⟩))
          unfold cutD
          rw [cut_whole hw']
          exact h2
      · left
        have g4 : gSlL own d lo hi M3 Q := by cases d <;> first | exact g3 | exact absurd ⟨_, rfl⟩ htup
        unfold gSlL at g4
        split at g4
        · rename_i l er
          obtain ⟨p, xs, rfl, hp, hx⟩ := res_lst hs3 q3 er
          refine ⟨p, xs, rfl, SqL.of hp, fun b hb => ?_⟩
          cases own with
          | false => exact hq _ _ (Aft.up xx (Aft.frz hs3 hb fun x => ⟨_, .lst upd_same ((cut_rep hx).up x), g4⟩))
          | true => exact hq _ _ (Aft.up xx (Aft.own hs3 hb (cut_rep hx) g4))
        · rename_i ns er
          have er' := res_scr er
          subst er'
          cases q3 with
          | scr h1 =>
            refine ⟨_, _, rfl, hs3.sub.seq h1, fun b hb => ?_⟩
            cases own with
            | false => exact hq _ _ (Aft.up xx (Aft.frz hs3 hb fun x => ⟨_, .lst upd_same (cut_rep (RepAll.ints _)), g4⟩))
            | true => exact hq _ _ (Aft.up xx (Aft.own hs3 hb (cut_rep (RepAll.ints _)) g4))
        · exact g4.elim⟩⟩⟩
theorem gSl_tup {own : Bool} {l : List D} {lo hi : Option Int} {M : Mem} {Q : DQ} : gSl own (.tup l) lo hi M Q = Q (.tup (cutD l lo hi)) M := rfl
theorem gSl_lst {l : List D} {lo hi : Option Int} {M : Mem} {Q : DQ} : gSl false (.lst l) lo hi M Q = Q (.lst (cutD l lo hi)) M := rfl
theorem cut_1 {a : D} {l : List D} : cutD (a :: l) (some 1) none = l := by
  unfold cutD
  have e1 : HT.sIx (a :: l).length 0 (some 1) = 1 := by
    have := HT.sIx_nat (a :: l).length 0 1
    rw [show ((1 : Nat) : Int) = 1 from rfl] at this
    rw [this, List.length_cons]
    omega
  have e2 : HT.sIx (a :: l).length (a :: l).length none = (a :: l).length := rfl
  rw [e1, e2]
  simp
end
/-! ### x + y, lists, the sum to be changed -/
section
variable {X : Cx}
def gAddO : G2 := fun x y M Q => match res M x, res M y with
  | .lst a, .lst b => a.length + b.length ≤ sizeLine ∧ Q (.own M.length) (M ++ [.lst (a ++ b)])
  | _, _ => False
theorem opd_addO : OpD X (binaryOp .Add) gAddO := by
  intro pins s σ H ph S r M x y dx dy v u Q I hs rx ry qx qy hg
  unfold gAddO at hg
  split at hg
  · rename_i a b e1 e2
    obtain ⟨p1, xs, rfl, h1, hx⟩ := res_lst hs qx e1
    obtain ⟨p2, ys, rfl, h2, hy⟩ := res_lst hs qy e2
    have l1 := hx.len
    have l2 := hy.len
    exact op_cat pins s σ H _ _ v u _ I rx ry ⟨_, _, _, _, rfl, rfl, h1, h2, by have := hg.1; omega, fun p hp => Aft.own hs hp (hx.app hy) hg.2⟩
  · exact hg.elim
end
end DL
namespace DL
open PySem PySem.Spec PyProof.Rows L2
end DL
namespace DL
open PySem PySem.Spec PyProof.Rows L2
end DL
namespace DL
open PySem PySem.Spec PyProof.Rows L2
end DL
namespace DL
open PySem PySem.Spec PyProof.Rows L2
end DL
/-! DLU: max and min of a list of ints -/
namespace DL
open PySem PySem.Spec PyProof.Rows L2
end DL
namespace DL
open PySem PySem.Spec PyProof.Rows L2
end DL
namespace DL
open PySem PySem.Spec PyProof.Rows L2
end DL
/-! DLV: sorted({(a, b), (c, d)}) -/
namespace DL
open PySem PySem.Spec PyProof.Rows L2
section
variable {X : Cx}
theorem TupK.ne {K : PySem.W.Frag} {S H : Hp} {a p : Addr} {xs : List V} {o : HO} (h : TupK K S a xs) (hk : ∀ t o, K.lookup t = some o → H t = none) (hp : H p = some o) (hs : S p = none) : a ≠ p := fun z => by
  rcases h with h | ⟨o', _, _, h, _⟩
  · rw [z, hs] at h; cases h
  · have := hk _ _ h
    rw [z, hp] at this; cases this
end
/-! ### a def whose own code must be known -/
end DL
namespace DL
open PySem PySem.Spec PyProof.Rows L2
end DL
namespace DL
open PySem PySem.Spec PyProof.Rows L2
end DL
/-! DLX: errors over data: raised, passed on, caught, asked -/
namespace DL
open PySem PySem.Spec PyProof.Rows L2
section
variable {X : Cx} {pos : Pos}
/-! ### names of the module as values; an error's value and kind -/
theorem de_gname {x : Str} {a : Addr} (hn : PySem.W.nsIn X.K mainGlobals x = some (some (.ref a))) (hm : X.mg x = some (.ref a)) (hg : Gl X x := by rfl) (hd : (x == ("__debug__" : Str)) = false := by decide) : DE X (.Name x pos) (dC (.glb x)) :=
  de_c (pe_glob (v := .ref a) hg hm rfl hd) fun _ _ => .glb hn
def dFld (t : DTE) : DTE := fun r M Q => t r M fun d M1 => match d with
  | .exc _ v => Q v M1
  | _ => False
theorem er_inst {pins : List (Addr × Obj)} {s : Shared} {σ : St} {H : Hp} {a C T dd : Addr} {x : Str} (I : Inv X pins σ H s) (h0 : XA.ErC X.K x C T) (ha : H a = some (erO a C dd)) : ∃ oe : Obj, s.heap.get? a = some oe ∧ oe.cls = .ref C ∧ PySem.W.notCls oe = true ∧ oe.dict = some dd := by
  have q : ObjOk X.prog X.w H s.heap a (.ext (ErAt a C dd)) := I.hok a _ ha
  obtain ⟨vs, sl, hv⟩ := q.1
  exact ⟨_, hv, rfl, rfl, rfl⟩
theorem de_fld {e : Expr} {t : DTE} (he : DE X e t) (hb : attributeBase e "value" X.env (eval e X.env) = eval e X.env := by rfl) : DE X (.Attribute e "value" pos) (dFld t) :=
  ⟨⟨fun pins s σ H Q I ⟨ph, S, r, M, Q0, hs, ht, hq⟩ => attr_of hb (thn (he.pe.run pins s σ H _ I ⟨ph, S, r, M, _, hs, ht, fun _ _ z => z⟩) fun u s1 ⟨y, H1, I1, ry, ph1, S1, M1, x1, hs1, d, q1, g1⟩ => by
    cases d <;> first | exact g1.elim | skip
    cases q1 with
    | @exc a C T dd x v d h0 ha hd hv =>
      cases (show u = Value.ref a from ry)
      obtain ⟨oe, e1, e2, e3, e4⟩ := er_inst I1 h0 (hs1.sub _ _ ha)
      have hx : ObjOk X.prog X.w H1 s1.heap dd (.xd [(fVal, v)]) := I1.hok dd _ (hs1.sub _ _ hd)
      obtain ⟨mA, hns, hr⟩ := hx
      obtain ⟨od, ho, hl⟩ := lookIn_ns hns
      have l : List.lookup fVal [(fVal, v)] = some v := by simp [List.lookup]
      obtain ⟨u, hu, ru⟩ := RelO.some_of (v := v) (o := mA fVal) (by rw [← l]; exact hr fVal)
      have J : PySem.W.InstAt s1.heap a oe C (some od) := ⟨e1, e2, e3, by rw [e4]; exact ho⟩
      have xf := h0.xfC
      exact HandSPX.exc_get I1.kIn J xf.ga xf.gg xf.exC (PySem.W.findObj_own xf.hdC h0.nv rfl (by rw [hl, hu])) (handed_of ru) ⟨v, H1, I1.tok _, ru, hq _ _ ⟨ph1, S1, M1, x1, hs1, _, hv, g1⟩⟩)⟩⟩
/-- isinstance, of errors too; L: the names of the error classes -/
def gIsx (L : List Str) : GA := fun ds M Q => match ds with
  | [.exc x _, .glb y] => y ∈ L ∧ Q (.bl (XA.under x y)) M
  | [.exc _ _, .val (.ty n)] => n = "ValueError" ∧ Q (.bl true) M
  | [.non, .glb y] => y ∈ L ∧ Q (.bl false) M
  | ds => gIsi ds M Q
theorem kit_non {K : PySem.W.Frag} {y : Str} {C : Addr} (A : XA.AnyC K y C) : PySem.W.kitOne K (.type "NoneType") (.ref C) = some false := by
  have e : PySem.fastBuiltinMro "NoneType" = some [Value.type "NoneType", Value.type "object"] := by decide +kernel
  unfold PySem.W.kitOne
  rw [if_neg (by simp)]
  unfold PySem.W.kitCls
  dsimp only
  rw [if_pos (by rw [A.isC, A.ty]; rfl)]
  show (PySem.fastBuiltinMro "NoneType").map _ = _
  rw [e]
  simp
theorem any_at {K : PySem.W.Frag} {y : Str} {a C : Addr} (h : PySem.W.nsIn K mainGlobals y = some (some (.ref a))) (A : XA.AnyC K y C) : a = C := by
  have z := h.symm.trans A.ns
  exact Value.ref.inj (Option.some.inj (Option.some.inj z))
theorem isx_exc {pins : List (Addr × Obj)} {s : Shared} {σ : St} {H : Hp} {ph : Ph} {S : Hp} {r : Env} {M : Mem} {v c : V} {us : List Value} {x : Str} {d : D} {Q : DQ} {cv : Value} {b : Bool} (I : Inv X pins σ H s) (hs : Sat X.K ph S r M σ H) (q : Rep X.K ph S v (.exc x d)) (rv : Vals [v, c] us)
    (rc : ∀ u, RelV c u → u = cv) (hk : ∀ C T, XA.ErC X.K x C T → PySem.W.kitOne X.K (.ref C) cv = some b) (hg : Q (.bl b) M) : wpAny (model X.prog X.w) X.A (call (.builtin "isinstance") us) (EP X pins σ (post X.K ph S r σ Q)) X.xe s := by
  obtain ⟨u1, u2, rfl, r1, r2⟩ := vals2 rv
  cases rc _ r2
  cases q with
  | @exc a C T dd x v d h0 ha hd hv =>
    cases (show u1 = Value.ref a from r1)
    obtain ⟨oe, e1, e2, e3, e4⟩ := er_inst I h0 (hs.sub _ _ ha)
    have hx : ObjOk X.prog X.w H s.heap dd (.xd [(fVal, v)]) := I.hok _ _ (hs.sub _ _ hd)
    obtain ⟨mA, hns, hr⟩ := hx
    obtain ⟨od, ho, hl⟩ := lookIn_ns hns
    have J : PySem.W.InstAt s.heap a oe C (some od) := ⟨e1, e2, e3, by rw [e4]; exact ho⟩
    have xc := h0.excC
    obtain ⟨cd, hc1, _⟩ := h0.clsIn
    exact PySem.W.kia_one (PySem.W.kitx_exc (by rw [hc1]; rfl) xc.hg xc.hk xc.hs xc.ha xc.hn xc.ht xc.hm) I.kIn J (hk _ _ h0) (fun z => nomatch z) fun tk => ⟨.bl b, H, I.kept (t' := tk) fun _ _ z => z, rfl, Aft.here hs ⟨_, .bl b, hg⟩⟩
theorem cd_isx {L : List Str} (hL : ∀ y ∈ L, ∃ C, XA.AnyC X.K y C) : CallD X (.builtin "isinstance") (gIsx L) := by
  intro pins s σ H ph S r M vs us ds Q I hs rv q hg
  have old : gIsi ds M Q → wpAny (model X.prog X.w) X.A (call (.builtin "isinstance") us) (EP X pins σ (post X.K ph S r σ Q)) X.xe s := fun z => cd_isi pins s σ H ph S r M vs us ds Q I hs rv q z
  unfold gIsx at hg
  split at hg
  · rename_i x v y
    obtain ⟨C', A⟩ := hL y hg.1
    cases q with
    | cons q1 q =>
      cases q with
      | cons q2 q =>
        cases q
        cases q2 with
        | glb hn =>
          cases any_at hn A
          exact isx_exc I hs q1 rv (cv := .ref C') (fun u z => z) (fun C T h0 => h0.kit A) hg.2
  · rename_i x v n
    obtain ⟨rfl, hg⟩ := hg
    cases q with
    | cons q1 q =>
      cases q with
      | cons q2 q =>
        cases q
        cases q2
        exact isx_exc I hs q1 rv (cv := .type "ValueError") (fun u z => z) (fun C T h0 => h0.kitV) hg
  · rename_i y
    obtain ⟨C', A⟩ := hL y hg.1
    cases q with
    | cons q1 q =>
      cases q with
      | cons q2 q =>
        cases q
        cases q1
        cases q2 with
        | glb hn =>
          cases any_at hn A
          exact call_isi pins s σ H _ us _ I rv ⟨.non, .ref C', _, _, false, rfl, .own C', .base .non, kit_non A, Aft.here hs ⟨_, .bl _, hg.2⟩⟩
  · exact old hg
end
/-! ### what may leave -/
abbrev DXE := Env → Str → D → Mem → Prop
def postE (K : PySem.W.Frag) (ph : Ph) (S : Hp) (E : DXE) : WX := fun cls d σ H => ∃ (x : Str) (C T dd : Addr) (v : V) (dv : D) (r : Env), XA.ErC K x C T ∧ cls = .ref C ∧ d = some dd ∧
  Aft K ph S r σ H fun ph' S' M => S' dd = some (.xd [(fVal, v)]) ∧ Rep K ph' S' v dv ∧ E r x dv M
theorem postE.up {K : PySem.W.Frag} {ph ph1 : Ph} {S S1 : Hp} {E : DXE} {cls : Value} {d : Option Addr} {σ : St} {H : Hp} (x : Ext ph S ph1 S1) (h : postE K ph1 S1 E cls d σ H) : postE K ph S E cls d σ H :=
  let ⟨y, C, T, dd, v, dv, r, h1, h2, h3, h4⟩ := h
  ⟨y, C, T, dd, v, dv, r, h1, h2, h3, Aft.up x h4⟩
structure DEX (X : Cx) (e : Expr) (t : DXE → DTE) : Prop where
  pe : ∀ W : WX, Takes X W → PE X e (fun σ H Q => ∃ ph S r M Q0 X0, Sat X.K ph S r M σ H ∧ t X0 r M Q0 ∧ (∀ v H', post X.K ph S r σ Q0 v H' → Q v H') ∧ ∀ cls d H', postE X.K ph S X0 cls d σ H' → W cls d σ H')
structure DAX (X : Cx) (es : List Expr) (t : DXE → DTA) : Prop where
  pa : ∀ W : WX, Takes X W → PA X es (fun σ H Q => ∃ ph S r M Q0 X0, Sat X.K ph S r M σ H ∧ t X0 r M Q0 ∧ (∀ v H', postA X.K ph S r σ Q0 v H' → Q v H') ∧ ∀ cls d H', postE X.K ph S X0 cls d σ H' → W cls d σ H')
def lfX (K : PySem.W.Frag) (W : WX) (t : DXE → DTS) : TS := fun E σ H => ∃ ph S r M E0 X0, Sat K ph S r M σ H ∧ t X0 E0 r M ∧ (∀ σ' H', postN K ph S E0.nx σ' H' → E.nx σ' H') ∧ (∀ v H', postR K ph S E0.rt v H' → E.rt v H') ∧ (∀ σ' H', postN K ph S E0.bk σ' H' → E.bk σ' H') ∧ (∀ σ' H', postN K ph S E0.ct σ' H' → E.ct σ' H') ∧
  ∀ cls d σ' H', postE K ph S X0 cls d σ' H' → W cls d σ' H'
structure DSX (X : Cx) (st : Stmt) (t : DXE → DTS) : Prop where
  ps : ∀ W : WX, Takes X W → PS X st (lfX X.K W t)
structure DSXs (X : Cx) (sts : List Stmt) (t : DXE → DTS) : Prop where
  pss : ∀ W : WX, Takes X W → PSs X sts (lfX X.K W t)
section
variable {X : Cx} {pos : Pos}
theorem dex_of {e : Expr} {t : DTE} (h : DE X.nox e t) : DEX X e (fun _ => t) := ⟨fun W tk => PE.weak h.pe.nox fun σ H Q ⟨ph, S, r, M, Q0, X0, hs, ht, hq, _⟩ => ⟨ph, S, r, M, Q0, hs, ht, hq⟩⟩
theorem dax_nil : DAX X [] (fun _ => dNil) := ⟨fun W tk => PA.weak pa_nil fun σ H Q ⟨ph, S, r, M, Q0, X0, hs, ht, hq, _⟩ => hq _ _ (Aft.here hs ⟨_, .nil, ht⟩)⟩
theorem postE.back {K : PySem.W.Frag} {ph ph1 : Ph} {S S1 : Hp} {E : DXE} {cls : Value} {d : Option Addr} {σ : St} {H : Hp} (x : Ext ph S ph1 S1) (h : postE K ph1 S1 E cls d σ H) : postE K ph S E cls d σ H := h.up x
theorem dax_cons {e : Expr} {es : List Expr} {t : DXE → DTE} {u : DXE → DTA} (h : DEX X e t) (h2 : DAX X es u) (hs : starEach (e :: es) X.env = (false, eval e X.env) :: starEach es X.env := by rfl) : DAX X (e :: es) (fun E => dCons (t E) (u E)) :=
  ⟨fun W tk => PA.weak (pa_cons (h.pe W tk) (h2.pa W tk) hs) fun σ H Q ⟨ph, S, r, M, Q0, X0, hs, ht, hq, hx⟩ => ⟨ph, S, r, M, _, X0, hs, ht, fun v H1 ⟨ph1, S1, M1, x1, hs1, d, q1, g1⟩ =>
    ⟨ph1, S1, r, M1, _, X0, hs1, g1, fun vs H2 ⟨ph2, S2, M2, x2, hs2, ds, q2, g2⟩ => hq _ _ ⟨ph2, S2, M2, x1.trans x2, hs2, _, .cons (q1.up x2) q2, g2⟩, fun cls d H' z => hx _ _ _ (z.up x1)⟩, hx⟩⟩
/-- a def's error, in our frame -/
theorem postX.at {K : PySem.W.Frag} {ph : Ph} {S : Hp} {r : Env} {M : Mem} {σ : St} {H H' : Hp} {E : DX} {cls : Value} {d : Option Addr} (hs : Sat K ph S r M σ H) (h : postX K ph S E cls d H') : postE K ph S (fun r' x dv M' => r' = r ∧ E x dv M') cls d σ H' :=
  let ⟨x, C, T, dd, v, dv, h1, h2, h3, ph', S', M', y, hs', e1, e2, e3⟩ := h
  ⟨x, C, T, dd, v, dv, r, h1, h2, h3, ph', S', M', y, hs.back y hs', e1, e2, rfl, e3⟩
variable {k : Nat} {f : Addr} {fd : FuncData} {ps : List Str} {sp : DSp} {x : Str} {p : Pos} {e : Expr} {es : List Expr} {t : DXE → DTA}
/-- f(..), f may raise -/
def dCallX (n : Nat) (sp : DSp) (t : DXE → DTA) : DXE → DTE := fun E r M Q => t E r M fun ds M1 => ds.length = n ∧ sp ds M1 Q (fun y dv M2 => E r y dv M2)
theorem run_fnX {W : WX} {pins : List (Addr × Obj)} {σ : St} {H : Hp} {s : Shared} {Q : VK} {us : List Value} {vs : List V} {sp : Sp} (F : FnG X.prog X.w X.K X.mg X.base (L2.CX X.prog X.w) k f fd ps sp) (hr : Room k X.A) (gd : X.A.guards = some []) (hb : Binds X.K fd ps []) (tk : Takes X W)
    (I : Inv X pins σ H s) (r : Vals vs us) (h : sp vs H Q (fun cls d H' => W cls d σ H')) : wpAny (model X.prog X.w) X.A (call (.ref f) us) (EP X pins σ Q) X.xe s := by
  have hl : us.length = ps.length := by rw [← r.length]; exact F.len _ _ _ _ h
  refine wpAny_call (codeAny_mono (F.run X.A X.stack s H ⟨us, []⟩ us vs Q _ hr gd I.env0 (by have := hb s us I.kIn (by rw [List.append_nil]; exact hl); rw [List.append_nil] at this; exact this) r h) fun fl s' hq => ?_)
  match fl, hq with
  | .error e, hq => exact tk _ _ (XE.of_call I (fun _ _ _ z => z) hq)
  | .ok (.ret u), hq => exact I.after hq
  | .ok .next, hq => exact False.elim hq
  | .ok .brk, hq => exact False.elim hq
  | .ok .cont, hq => exact False.elim hq
theorem lf_callX {W : WX} {n : Nat} {ph : Ph} {S : Hp} {r : Env} {M : Mem} {σ : St} {H : Hp} {Q : DQ} {Q' : VK} {X0 : DXE} {vs : List V} {ds : List D} (hs : Sat X.K ph S r M σ H) (qa : RepAll X.K ph S vs ds) (hl : ds.length = n) (h : sp ds M Q (fun y dv M2 => X0 r y dv M2))
    (hq : ∀ v H', post X.K ph S r σ Q v H' → Q' v H') (hx : ∀ cls d H', postE X.K ph S X0 cls d σ H' → W cls d σ H') : lfSp X.K n sp vs H Q' (fun cls d H' => W cls d σ H') :=
  ⟨ph, S, M, ds, Q, _, hl, hs.drop, qa, h, fun v H2 ⟨ph2, S2, M2, x2, hs2, d, q2, h2⟩ => hq _ _ ⟨ph2, S2, M2, x2, hs.back x2 hs2, d, q2, h2⟩, fun cls d H2 h2 => hx _ _ _ (by
    obtain ⟨y, C, T, dd, v, dv, r', b1, b2, b3, ph', S', M', z, hs', e1, e2, e3, e4⟩ := postX.at hs h2
    subst e3
    exact ⟨y, C, T, dd, v, dv, _, b1, b2, b3, ph', S', M', z, hs', e1, e2, e4⟩)⟩
theorem dcallX {n : Nat} {st : Stmt} {P : Program} {w : World} {K : PySem.W.Frag} {mg : Str → Option Value} {base : Heap} (F : Def P w K mg base (L2.CX P w) k x st ps sp) {j : Nat} (hr : Room j X.A) (gd : X.A.guards = some []) (ha : DAX X (e :: es) t) (hj : k ≤ j := by decide) (hn : ps.length = n := by rfl)
    (h1 : P = X.prog := by rfl) (h2 : w = X.w := by rfl) (h3 : K = X.K := by rfl) (h4 : mg = X.mg := by rfl) (h5 : base = X.base := by rfl) (hg : Gl X x := by rfl) (hdb : (x == ("__debug__" : Str)) = false := by decide) (he : starEach (e :: es) X.env = (false, eval e X.env) :: starEach es X.env := by rfl)
    (hpl : (backTo pos (starEach es X.env)).any (·.1) = false := by rfl) : DEX X (.Call (.Name x p) (e :: es) [] pos) (dCallX n sp t) := by
  subst h1 h2 h3 h4 h5 hn
  obtain ⟨f, fd, h1, h2, h3, h4, _⟩ := F.ex
  exact ⟨fun W tk => ⟨fun pins s σ H Q I ⟨ph, S, r, M, Q0, X0, hs, ht, hq, hx⟩ => wpAny_Call_Name_kw (ld_glob I hg h2 (PySem.W.callWith_K (h₀ := X.base) I.ok.mod.kin h3 (thn ((ha.pa W tk).run pos pins s σ H _ I ⟨ph, S, r, M, _, X0, hs, ht, fun _ _ z => z, hx⟩) fun us s1 ⟨vs, H1, I1, r1, ph1, S1, M1, x1, hs1, ds, q1, hl, g1⟩ =>
    ⟨I1.kIn, thn (run_fnX h1 (hr.mono hj) gd h4 tk I1 r1 (lf_callX hs1 q1 hl g1 (fun _ _ z => z) (fun cls d H' z => hx _ _ _ (z.up x1)))) fun _ _ z => EP.up x1 z hq⟩) he hpl) hdb)⟩⟩
end
end DL
/-! DLY: statements that may raise; try; a def that raises -/
namespace DL
open PySem PySem.Spec PyProof.Rows L2
section
variable {X : Cx} {pos : Pos}
theorem lfX_on {W : WX} {ph ph1 : Ph} {S S1 : Hp} {r : Env} {M : Mem} {σ : St} {H : Hp} {t : DXE → DTS} {X0 : DXE} {E : DEnds} {E' : Ends} (x : Ext ph S ph1 S1) (hs : Sat X.K ph1 S1 r M σ H) (ht : t X0 E r M)
    (h1 : ∀ σ' H', postN X.K ph S E.nx σ' H' → E'.nx σ' H') (h2 : ∀ v H', postR X.K ph S E.rt v H' → E'.rt v H') (h3 : ∀ σ' H', postN X.K ph S E.bk σ' H' → E'.bk σ' H') (h4 : ∀ σ' H', postN X.K ph S E.ct σ' H' → E'.ct σ' H')
    (h5 : ∀ cls d σ' H', postE X.K ph S X0 cls d σ' H' → W cls d σ' H') : lfX X.K W t E' σ H :=
  ⟨ph1, S1, r, M, E, X0, hs, ht, fun _ _ z => h1 _ _ (z.up x), fun _ _ z => h2 _ _ (z.up x), fun _ _ z => h3 _ _ (z.up x), fun _ _ z => h4 _ _ (z.up x), fun _ _ _ _ z => h5 _ _ _ _ (z.up x)⟩
theorem dssx_of {sts : List Stmt} {t : DTS} (h : DSs X.nox sts t) : DSXs X sts (fun _ => t) :=
  ⟨fun W tk => PSs.weak h.pss.nox fun E σ H ⟨ph, S, r, M, E0, X0, hs, ht, h1, h2, h3, h4, _⟩ => ⟨ph, S, r, M, E0, hs, ht, h1, h2, h3, h4⟩⟩
theorem dssx_cons {st : Stmt} {rest : List Stmt} {t u : DXE → DTS} (h : DSX X st t) (h' : DSXs X rest u) : DSXs X (st :: rest) (fun E => dSeq (t E) (u E)) :=
  ⟨fun W tk => PSs.weak (pss_cons (h.ps W tk) (h'.pss W tk)) fun E σ H ⟨ph, S, r, M, E0, X0, hs, ht, h1, h2, h3, h4, h5⟩ =>
    ⟨ph, S, r, M, { E0 with nx := u X0 E0 }, X0, hs, ht, fun σ' H' ⟨r1, ph1, S1, M1, x, hs1, z⟩ => lfX_on x hs1 z h1 h2 h3 h4 h5, h2, h3, h4, h5⟩⟩
theorem dssx_one {st : Stmt} {t : DXE → DTS} (h : DSX X st t) : DSXs X [st] t := ⟨fun W tk => pss_one (h.ps W tk)⟩
theorem dsx_if {c : Expr} {a b : List Stmt} {tc : DTT} {t u : DXE → DTS} (hc : DT X.nox c tc) (ha : DSXs X a t) (hb : DSXs X b u) : DSX X (.If c a b pos) (fun E => dIfS tc (t E) (u E)) :=
  ⟨fun W tk => PS.weak (ps_if hc.pt.nox (ha.pss W tk) (hb.pss W tk)) fun E σ H ⟨ph, S, r, M, E0, X0, hs, ht, h1, h2, h3, h4, h5⟩ => ⟨ph, S, r, M, _, hs, ht, fun k H1 ⟨ph1, S1, M1, x, hs1, z⟩ => by
    cases k with
    | true => exact lfX_on x hs1 z h1 h2 h3 h4 h5
    | false => exact lfX_on x hs1 z h1 h2 h3 h4 h5⟩⟩
theorem dsx_expr {e : Expr} {t : DXE → DTE} (he : DEX X e t) (hs : swapsWith e none pos.line X.env = pure false := by rfl) : DSX X (.Expr e pos) (fun E => dDrop (t E)) :=
  ⟨fun W tk => PS.weak (ps_expr (he.pe W tk) hs) fun E σ H ⟨ph, S, r, M, E0, X0, hs, ht, h1, _, _, _, h5⟩ => ⟨ph, S, r, M, _, X0, hs, ht, fun v H' ⟨ph1, S1, M1, x, hs1, d, _, z⟩ => h1 _ _ ⟨r, ph1, S1, M1, x, hs1, z⟩, fun cls d H' z => h5 _ _ _ _ z⟩⟩
/-- raise x(e) -/
def dRaise (x : Str) (t : DTA) : DXE → DTS := fun E _ r M => t r M fun ds M1 => ∃ d, ds = [d] ∧ E r x d M1
theorem dsx_raise {x : Str} {C S0 fI : Addr} {e : Expr} {p cpos : Pos} {t : DTA} {k : Nat} (T : XA.ErM X.prog X.K X.mg x C S0 fI) (hc : X.calm = true) (hr : Room k X.A) (ha : DA X.nox [e] t) (hg : Gl X x := by rfl)
    (he : starEach (e :: []) X.env = (false, eval e X.env) :: starEach [] X.env := by rfl) (hpl : (backTo cpos (starEach [] X.env)).any (·.1) = false := by rfl) (hdb : (x == ("__debug__" : Str)) = false := by decide) :
    DSX X (.Raise (some (.Call (.Name x p) [e] [] cpos)) none pos) (dRaise x t) := by
  refine ⟨fun W tk => ?_⟩
  have pa : PA X [e] (fun σ H Q => ∃ ph S r M Q0, Sat X.K ph S r M σ H ∧ t r M Q0 ∧ ∀ vs H', postA X.K ph S r σ Q0 vs H' → Q vs H') := ⟨fun pos pins s σ H Q I hw =>
    wpAny_mono (ha.pa.run pos pins s σ H Q (I.wish _) hw) (fun _ _ ⟨v, H', I', r, q⟩ => ⟨v, H', I'.unwish, r, q⟩) fun _ _ z => False.elim z⟩
  refine PS.weak (ps_raise hc tk (pmk_err T hr pa hg he hpl hdb)) fun E σ H ⟨ph, S, r, M, E0, X0, hs, ht, _, _, _, _, h5⟩ => ⟨ph, S, r, M, _, hs, ht, fun vs H1 ⟨ph1, S1, M1, x1, hs1, ds, q1, d, ed, g1⟩ => ?_⟩
  subst ed
  cases q1 with
  | @cons v vs' _ _ q1 q2 =>
    cases q2
    refine ⟨v, rfl, fun dd hd => h5 _ _ _ _ ⟨x, C, S0, dd, v, d, r, T.er, rfl, rfl, Aft.up x1 (Aft.frz hs1 hd fun y => ⟨upd_same, q1.up y, g1⟩)⟩⟩
/-! ### try -/
/-- try: t / except c as (slot i): ts, all that t raises being of the class c -/
def dTry (c : Str) (i : Nat) (t : DXE → DTS) (ts : DTS) : DTS := fun E r M => t (fun r' x dv M' => XA.under x c = true ∧
  ts { nx := fun r2 M2 => E.nx (r2.set i none) M2, rt := E.rt, bk := fun r2 M2 => E.bk (r2.set i none) M2, ct := fun r2 M2 => E.ct (r2.set i none) M2 } (r'.set i (some (.exc x dv))) M') E r M
theorem ds_try {x n : Str} {C : Addr} {i : Nat} {body suite : List Stmt} {b₀ : Stmt} {np pos' : Pos} {t : DXE → DTS} {ts : DTS} (hs : X.stack = X.env :: X.outer) (hf : X.env.frame = some X.env.locals) (hN : X.N.Nodup) (hA : XA.AnyC X.K x C) (hm : X.mg x = some (.ref C)) (tk : Takes X (fun _ _ _ _ => False))
    (hb : ∀ (pn : List (Addr × Obj)) (xe : Value → Shared → Prop), PassesOwn (model X.prog X.w) X.A X.env xe → DSXs (X.tr pn xe) body t) (hsu : ∀ (a : Addr) (pn : List (Addr × Obj)), DSs (sui X a pn) (b₀ :: suite) ts)
    (hi : X.N[i]? = some n := by rfl) (hln : X.env.kindOf n = some .local := by rfl) (hg : Gl X x := by rfl) (hdb : (x == ("__debug__" : Str)) = false := by decide) :
    DS X (.Try body [.ExceptHandler (some (.Name x np)) (some n) (b₀ :: suite) pos'] [] [] pos) (dTry x i t ts) := by
  have main := ps_try_sui (X := X) (x := x) (n := n) (c := .ref C) (i := i) (np := np) (pos := pos) (pos' := pos') (Wout := fun _ _ _ _ => False) hs hf hN hi hln ⟨hg, hdb, .inl hm⟩ tk (tb := fun W => lfX X.K W t) (fun W pn xe tkW hp => (hb pn xe hp).pss W tkW) (ts := lfS X.K ts) (fun a pn => (hsu a pn).pss)
  refine ⟨PS.weak main fun E' σ H ⟨ph, S, r, M, E, hs, ht, h1, h2, h3, h4⟩ => ⟨ph, S, r, M, E, _, hs, ht, h1, h2, h3, h4, ?_⟩⟩
  rintro cls d σ1 H1 ⟨y, C1, T1, dd, v, dv, r1, e1, rfl, rfl, ph1, S1, M1, x1, hs1, g1, g2, hu, g3⟩
  refine ⟨C1, dd, rfl, rfl, true, by rw [e1.exm hA, hu], fun _ a ha => ?_, fun z => Bool.noConfusion z⟩
  obtain ⟨x2, hs2⟩ := hs1.frz ha (erO a C1 dd)
  have q : Rep X.K ph1 (upd S1 a (erO a C1 dd)) (.ref a) (.exc y dv) := .exc e1 upd_same (x2.same _ _ g1) (g2.up x2)
  have xx := x1.trans x2
  refine ⟨ph1, _, _, M1, _, hs2.setN q, g3, ?_, ?_, ?_, ?_⟩
  · exact fun σ' H' ⟨r', ph', S', M', z, hs', w⟩ => h1 _ _ ⟨_, ph', S', M', xx.trans z, hs'.clr i, w⟩
  · exact fun v H' z => h2 _ _ (z.up xx)
  · exact fun σ' H' ⟨r', ph', S', M', z, hs', w⟩ => h3 _ _ ⟨_, ph', S', M', xx.trans z, hs'.clr i, w⟩
  · exact fun σ' H' ⟨r', ph', S', M', z, hs', w⟩ => h4 _ _ ⟨_, ph', S', M', xx.trans z, hs'.clr i, w⟩
end
/-! ### a def that may raise -/
def Rtx (M : Mem) (E : DX) : DX := fun x d M' => ∃ M1 G, M' = M1 ++ G ∧ M.length ≤ M1.length ∧ below M1.length d = true ∧ (∀ (i : Nat) (c : Own), M1[i]? = some c → M[i]? = some c ∨ belowO M1.length c = true) ∧ E x d M1
def dOut (M : Mem) (E : DX) : DXE := fun _ x d M' => Rtx M E x d M'
theorem Rtx.out {K : PySem.W.Frag} {ph : Ph} {S : Hp} {M : Mem} {H : Hp} {E : DX} (h0 : Sat K ph S [] M [] H) {cls : Value} {d : Option Addr} {σ : St} {H1 : Hp} (h : postE K ph S (dOut M E) cls d σ H1) : postX K ph S E cls d H1 := by
  obtain ⟨x, C, T, dd, v, dv, r, e1, e2, e3, ph1, S1, M', y, hs, q1, q2, M1, G, rfl, hl, hb, hc, hq⟩ := h
  obtain ⟨x2, hs2⟩ := Sat.leave h0 y hs hl hc
  exact ⟨x, C, T, dd, v, dv, e1, e2, e3, _, _, _, x2, hs2, q1, Rep.take dv v hb q2, hq⟩
section
variable {P : Program} {w : World} {K : PySem.W.Frag} {mg : Str → Option Value} {base : Heap}
theorem Fun.okE {x qual : Str} {st : Stmt} {f : Addr} {fd : FuncData} {N ps : List Str} {k : Nat} {sp : DSp} {t : DXE → DTS} (F : Fun K x qual st f fd) (S : FnScope N ps (defScope st))
    (hder : ∀ (cdv : Value) (A : Around) (outer : List PySem.Env) (s : Shared) (H : Hp) (E : XK), Room k (A.deeper (envOfC qual (defScope st) s.heap.objs.size f cdv)) → (A.deeper (envOfC qual (defScope st) s.heap.objs.size f cdv)).guards = some [] →
      DSXs (cxOf (L2.CX P w) P w K mg base N qual (defScope st) f cdv A outer s H E) (defBody st) t)
    (hread : ∀ ds M Q E, ds.length = ps.length → belowAll M.length ds = true → sp ds M Q E → t (dOut M E) (dEnds M Q) (startD N.length ds) M) : FnD P w K mg base (L2.CX P w) (k + 1) f fd ps sp := by
  obtain ⟨oc, od, kV, doc, pm, an, cdv, ct, osl, rfl, lk, hcd⟩ := F.ex
  refine fnG_of lk hcd S (fun vs H Q E h => ?_) fun A outer s H vs Q E hr gd hsp => ?_
  · obtain ⟨_, _, _, _, _, _, hl, _, q, _⟩ := h
    rw [q.len]; exact hl
  · obtain ⟨ph, S0, M, ds, Q0, E0, hl, hs, hq, h, h1, h2⟩ := hsp
    refine ⟨_, (hder cdv A outer s H E hr gd).pss _ (takes_of rfl rfl rfl rfl), ph, S0, startD N.length ds, M, dEnds M Q0, dOut M E0, hs.start hq N, hread ds M Q0 E0 hl (by rw [← hs.len]; exact RepAll.belowP _ _ hq) h, ?_, ?_, ?_, ?_, ?_⟩
    · rintro σ' H' ⟨r, ph1, S1, M1, x, hs1, z⟩
      exact h1 _ _ (Rtq.out hs ⟨r, σ', ph1, S1, M1, x, hs1, .non, .non, z⟩)
    · exact fun v H' z => h1 _ _ (Rtq.out hs z)
    · rintro σ' H' ⟨r, ph1, S1, M1, x, hs1, z⟩
      exact z.elim
    · rintro σ' H' ⟨r, ph1, S1, M1, x, hs1, z⟩
      exact z.elim
    · exact fun cls d σ' H' z => h2 _ _ _ (Rtx.out hs z)
theorem Here.okE {x : Str} {st : Stmt} {N ps : List Str} {k : Nat} {sp : DSp} {t : DXE → DTS} (F : Here K mg x st ps) (S : FnScope N ps (defScope st))
    (hder : ∀ (f : Addr) (cdv : Value) (A : Around) (outer : List PySem.Env) (s : Shared) (H : Hp) (E : XK), Room k (A.deeper (envOfC x (defScope st) s.heap.objs.size f cdv)) → (A.deeper (envOfC x (defScope st) s.heap.objs.size f cdv)).guards = some [] →
      DSXs (cxOf (L2.CX P w) P w K mg base N x (defScope st) f cdv A outer s H E) (defBody st) t)
    (hread : ∀ ds M Q E, ds.length = ps.length → belowAll M.length ds = true → sp ds M Q E → t (dOut M E) (dEnds M Q) (startD N.length ds) M) : Def P w K mg base (L2.CX P w) (k + 1) x st ps sp :=
  let ⟨f, fd, h1, h2, h3⟩ := F.ex
  ⟨f, fd, Fun.okE h1 S (hder f) hread, h2, h1.kp, h3, h1⟩
end
/-! ### a def that may raise, called where it doesn't -/
section
variable {X : Cx} {k : Nat} {ps ks : List Str} {sp : DSp} {x : Str} {p pos : Pos} {e : Expr} {es : List Expr} {kws : List Keyword} {t : DTA}
theorem passN : Passes (L2.CX X.prog X.w) X E0 := fun _ _ _ _ _ _ _ h => by
  obtain ⟨_, _, _, _, _, _, _, _, _, _, _, _, z⟩ := h
  exact z.elim
theorem dcallN {n : Nat} {st : Stmt} {P : Program} {w : World} {K : PySem.W.Frag} {mg : Str → Option Value} {base : Heap} (F : Def P w K mg base (L2.CX P w) k x st ps sp) {j : Nat} (hr : Room j X.A) (gd : X.A.guards = some []) (ha : DA X (e :: es) t) (hj : k ≤ j := by decide) (hn : ps.length = n := by rfl)
    (h1 : P = X.prog := by rfl) (h2 : w = X.w := by rfl) (h3 : K = X.K := by rfl) (h4 : mg = X.mg := by rfl) (h5 : base = X.base := by rfl) (hg : Gl X x := by rfl) (hdb : (x == ("__debug__" : Str)) = false := by decide) (he : starEach (e :: es) X.env = (false, eval e X.env) :: starEach es X.env := by rfl)
    (hpl : (backTo pos (starEach es X.env)).any (·.1) = false := by rfl) : DE X (.Call (.Name x p) (e :: es) [] pos) (dCall n sp [] DX0 t) := by
  subst h1 h2 h3 h4 h5 hn
  obtain ⟨f, fd, h1, h2, h3, h4, _⟩ := F.ex
  exact de_callX h1 (hr.mono hj) gd h2 h3 h4 .nil .nil passN pX0 ha hg hdb he hpl
theorem dcallKN {m n : Nat} {st : Stmt} (l : List Nat) {P : Program} {w : World} {K : PySem.W.Frag} {mg : Str → Option Value} {base : Heap} (F : Def P w K mg base (L2.CX P w) k x st ps sp) {j : Nat} (hr : Room j X.A) (gd : X.A.guards = some []) (hkw : DK X kws t)
    (hks : (backToKw pos (keywordEach kws X.env)).filterMap (·.1) = ks)
    (hb : ∀ (kV doc pm : Value) (an : Option Addr) (cdv ct : Value) (us : List Value), us.length = ks.length → bindArgs (PySem.W.fnOf x x (defArgs st) (defBody st) (defScope st) .none kV doc pm an cdv ct) ⟨[], ks.zip us⟩ = pure (ps.zip (pick l us)))
    (hj : k ≤ j := by decide) (hm : ks.length = m := by rfl) (hn : ps.length = n := by rfl)
    (h1 : P = X.prog := by rfl) (h2 : w = X.w := by rfl) (h3 : K = X.K := by rfl) (h4 : mg = X.mg := by rfl) (h5 : base = X.base := by rfl) (hg : Gl X x := by rfl) (hdb : (x == ("__debug__" : Str)) = false := by decide) (hall : (backToKw pos (keywordEach kws X.env)).all (·.1.isSome) = true := by rfl)
    (hpl : ((backTo pos (starEach [] X.env)).any (·.1) || (backToKw pos (keywordEach kws X.env)).any (·.1.isNone)) = false := by rfl) : DE X (.Call (.Name x p) [] kws pos) (dCallK m n sp l DX0 t) := by
  subst h1 h2 h3 h4 h5 hn hm
  obtain ⟨f, fd, h1, h2, h3, h4, h5⟩ := F.ex
  refine ⟨⟨fun pins s σ H Q I ⟨ph, S, r, M, Q0, hs, ht, hq⟩ => wpAny_Call_Name_kw (ld_glob I hg h2 ?_ hdb)⟩⟩
  refine PySem.W.callWith_KW0 (h₀ := X.base) I.ok.mod.kin h3 hall (thn (hkw.pk.run pos pins s σ H _ I ⟨ph, S, r, M, _, hs, ht, fun _ _ z => z⟩) fun us s1 ⟨vs, H1, I1, r1, ph1, S1, M1, x1, hs1, ds, q1, hl, hp, g1⟩ => ⟨I1.kIn, ?_⟩) hpl
  rw [hks]
  obtain ⟨oc, od, kV, doc, pm, an, cdv, ct, osl, efd, lk, hcd⟩ := h5.ex
  have hul : us.length = ks.length := by rw [← Paired.length r1, q1.len]; exact hl
  have hb' : BindsTo s1 fd ⟨[], ks.zip us⟩ (ps.zip (pick l us)) := by
    rw [efd]
    exact .of_eq (hb kV doc pm an cdv ct us hul)
  refine wpAny_call (codeAny_mono (h1.run X.A X.stack s1 H1 ⟨[], ks.zip us⟩ (pick l us) (pick l vs) (post X.K ph1 S1 r σ Q0) E0 (hr.mono hj) gd I1.env0 hb' (pick_vals r1 l) ?_) fun r s' hz => ?_)
  · exact ⟨ph1, S1, M1, pick l ds, Q0, DX0, hp, hs1.drop, pick_rep q1 l, g1, fun v H2 ⟨ph2, S2, M2, x2, hs2, d, q2, h2⟩ => ⟨ph2, S2, M2, x2, hs1.back x2 hs2, d, q2, h2⟩, pX0 _ _⟩
  · match r, hz with
    | .error e, hz => exact passN pins σ H1 s1 e s' I1 hz
    | .ok (.ret u), hz => exact EP.up x1 (I1.after hz) hq
    | .ok .next, hz => exact False.elim hz
    | .ok .brk, hz => exact False.elim hz
    | .ok .cont, hz => exact False.elim hz
/-! ### a call of what an expression tells (a def out of a list of defs) -/
/-- the defs that may be meant: name, number of parameters, contract -/
abbrev Tab := List (Str × Nat × DSp)
def dCallV (L : Tab) (tf : DTE) (t : DXE → DTA) : DXE → DTE := fun E r M Q => tf r M fun d M0 => match d with
  | .glb x => ∃ n sp, (x, n, sp) ∈ L ∧ t E r M0 fun ds M1 => ds.length = n ∧ sp ds M1 Q (fun y dv M2 => E r y dv M2)
  | _ => False
end
end DL
namespace DL
open PySem PySem.Spec PyProof.Rows L2
theorem u64m {A : Around} {k : Nat} {v : Option Value} (hr : Room k A) : (A.mark v).units + 64 < cLine := (show A.units + 64 < cLine from u64 hr)
theorem uxm {A : Around} {k : Nat} {v : Option Value} (hr : Room k A) : (A.mark v).units + 200 < cLine := (show A.units + 200 < cLine from ux hr)
theorem takes0 {X : Cx} : Takes X (fun _ _ _ _ => False) := fun _ _ ⟨_, _, _, _, _, _, _, _, _, _, _, _, _, _, _, _, z⟩ => z.elim
/-- a contract without errors -/
theorem Def.weak {P : Program} {w : World} {K : PySem.W.Frag} {mg : Str → Option Value} {base : Heap} {CX : CXT} {k : Nat} {x : Str} {st : Stmt} {ps : List Str} {sp sp' : DSp} (F : Def P w K mg base CX k x st ps sp) (h : ∀ ds M Q E, sp' ds M Q E → sp ds M Q DX0) : Def P w K mg base CX k x st ps sp' := by
  obtain ⟨f, fd, h1, h2, h3, h4, h5⟩ := F.ex
  refine ⟨f, fd, ⟨fun vs H Q E z => ?_, fun A outer s H args us vs Q E hr gd e0 hb r z => ?_⟩, h2, h3, h4, h5⟩
  · obtain ⟨ph, S, M, ds, Q0, E0, hl, hs, q, z, z1, z2⟩ := z
    rw [q.len]; exact hl
  · obtain ⟨ph, S, M, ds, Q0, E0, hl, hs, q, z, z1, z2⟩ := z
    exact h1.run A outer s H args us vs Q E hr gd e0 hb r ⟨ph, S, M, ds, Q0, DX0, hl, hs, q, h _ _ _ _ z, z1, fun cls d H2 ⟨_, _, _, _, _, _, _, _, _, _, _, _, _, _, _, _, y⟩ => y.elim⟩
end DL
namespace DL
open PySem PySem.Spec PyProof.Rows L2
/-- an error leaves, the cells being as they were -/
theorem rtx {M : Mem} {E : DX} {x : Str} {d : D} {r : Env} (hb : below M.length d = true) (h : E x d M) : dOut M E r x d M :=
  ⟨M, [], by rw [List.append_nil], Nat.le_refl _, hb, fun i c e => .inl e, h⟩
end DL
/-! DLZ: list(range), range with a step, enumerate, xs[::-1], xs.index -/
namespace DL
open PySem PySem.Spec PyProof.Rows L2
section
variable {X : Cx} {pos : Pos}
/-! ### list(range(..)) -/
def gLRng (own : Bool) : GA := fun ds M Q => match ds with
  | [.int b] => RgOk 0 b ∧ (if own = true then Q (.own M.length) (M ++ [.lst (rng 0 b.toNat)]) else Q (.lst (rng 0 b.toNat)) M)
  | [.int a, .int b] => RgOk a b ∧ (if own = true then Q (.own M.length) (M ++ [.lst (rng a (b - a).toNat)]) else Q (.lst (rng a (b - a).toNat)) M)
  | _ => False
/-! ### range(a, b, c) -/
/-! ### enumerate -/
def enumD : Nat → List D → List D
  | _, [] => []
  | i, d :: ds => pairD (.int (i : Nat)) d :: enumD (i + 1) ds
theorem enumD_len : ∀ (i : Nat) (l : List D), (enumD i l).length = l.length
  | _, [] => rfl
  | i, d :: l => by rw [enumD, List.length_cons, List.length_cons, enumD_len]
theorem enumD_get : ∀ {k : Nat} {l : List D} {i : Nat} {d : D}, (enumD k l)[i]? = some d ↔ ∃ e, l[i]? = some e ∧ d = pairD (.int ((k + i : Nat) : Int)) e
  | k, [], i, d => by simp [enumD]
  | k, x :: l, 0, d => by simp [enumD, eq_comm]
  | k, x :: l, i + 1, d => by
    rw [enumD, List.getElem?_cons_succ, List.getElem?_cons_succ, enumD_get]
    simp only [show k + 1 + i = k + (i + 1) by omega]
theorem Wlk.enum {K : PySem.W.Frag} {ph : Ph} {S : Hp} {a : Addr} {d1 : List D} {C1 : Mem → Prop}
    (h1 : ∀ (ph' : Ph) (S' : Hp) (r' : Env) (M' : Mem) (σ' : St) (H' : Hp), (∀ (k : Nat) (a : Addr), ph.cells[k]? = some a → ph'.cells[k]? = some a) → Same S S' → Sat K ph' S' r' M' σ' H' → C1 M' → ∃ xs, SqL K H' a xs ∧ RepAll K ph' S' xs d1) :
    Wlk K ph S (Ite K a) (enumD 0 d1) C1 := fun ph' S' r M σ H e1 e2 hs hc => by
  obtain ⟨xs, q1, qa1⟩ := h1 ph' S' r M σ H e1 e2 hs hc
  refine ⟨fun i hi => ⟨xs, q1, by rw [qa1.len]; rw [enumD_len] at hi; omega⟩, fun i d e => ?_⟩
  obtain ⟨x, ex, rfl⟩ := enumD_get.mp e
  obtain ⟨u, eu, qu⟩ := qa1.get ex
  refine ⟨⟨xs, u, q1, eu⟩, fun z H' ⟨T, u', ez, hT, eH, f1⟩ => ?_⟩
  have e3 := f1 xs q1
  rw [eu] at e3; cases e3
  subst ez eH
  obtain ⟨x1, hs1⟩ := hs.frz hT (.tup [.int (i : Nat), u])
  rw [Nat.zero_add]
  exact ⟨_, _, _, x1, hs1, rfl, .tup (.inl upd_same) ((RepAll.two (.int _) qu).up x1)⟩
def gEnum (ds : List D) (M : Mem) (R : List D → (Mem → Prop) → Mem → Prop) : Prop := match ds with
  | [x] => match lsqD M x with
    | some (xs, C1) => R (enumD 0 xs) C1 M
    | _ => False
  | _ => False
theorem di_enum {a : Expr} {t : DTA} {p tpos : Pos} {elts : List Expr} {kk : Nat} (hm : X.mg "enumerate" = none) (ha : DA X [a] t) (hg : Gl X "enumerate" := by rfl) (hs : starEach [a] X.env = [(false, eval a X.env)] := by rfl) :
    DI X (.Tuple elts kk tpos) (.Call (.Name "enumerate" p) [a] [] pos) (dRngI gEnum t) :=
  ⟨PI.weak (pi_enum hg hm ha.pa hs) fun σ H R ⟨ph, S, r, M, Q0, hs, ht, hq⟩ => ⟨ph, S, r, M, _, hs, ht, fun vs H1 ⟨ph1, S1, M1, x1, hs1, ds, q1, g1⟩ => by
    match ds, q1, g1 with
    | [x], .cons qx .nil, g =>
      unfold gEnum at g
      dsimp only at g
      split at g
      · rename_i xs C1 e1
        obtain ⟨u, rfl, ⟨us, hu⟩, w1⟩ := lsq_rep hs1 qx e1
        exact ⟨u, us, rfl, hu, hq _ _ ⟨ph1, S1, M1, x1, hs1, _, _, Wlk.enum w1, g⟩⟩
      · exact g.elim⟩⟩
/-! ### xs[::-1] -/
/-! ### xs.index(y) -/
mutual
def dpD : D → Bool
  | .non => true
  | .bl _ => true
  | .int _ => true
  | .str _ => true
  | .tup l => dpDAll l
  | .lst l => dpDAll l
  | _ => false
def dpDAll : List D → Bool
  | [] => true
  | d :: ds => dpD d && dpDAll ds
end
mutual
theorem Rep.dp {K : PySem.W.Frag} {ph : Ph} {H : Hp} : ∀ (d : D) (v : V) (p : PyData), Rep K ph H v d → dpD d = true → toPy d = some p → Dp K H v p
  | .non, _, _, h, _, e => by cases h; cases e; exact .non
  | .bl _, _, _, h, _, e => by cases h; cases e; exact .bl _
  | .int _, _, _, h, _, e => by cases h; cases e; exact .int _
  | .str _, _, _, h, _, e => by cases h; cases e; exact .str _
  | .tup ds, _, _, h, g, e => by
    cases h with
    | tup h1 h2 =>
      simp only [toPy] at e
      split at e
      · rename_i ps ep
        cases e
        exact .tup (h1.sq fun _ _ z => z) (RepAll.dp ds _ ps h2 (by simpa only [dpD] using g) ep)
      · cases e
  | .lst ds, _, _, h, g, e => by
    cases h with
    | lst h1 h2 =>
      simp only [toPy] at e
      split at e
      · rename_i ps ep
        cases e
        exact .lst (SqL.of h1) (RepAll.dp ds _ ps h2 (by simpa only [dpD] using g) ep)
      · cases e
  | .dct0, _, _, _, g, _ => by simp [dpD] at g
  | .scr _, _, _, _, g, _ => by simp [dpD] at g
  | .own _, _, _, _, g, _ => by simp [dpD] at g
  | .exc _ _, _, _, _, g, _ => by simp [dpD] at g
  | .glb _, _, _, _, g, _ => by simp [dpD] at g
  | .val _, _, _, _, g, _ => by simp [dpD] at g
theorem RepAll.dp {K : PySem.W.Frag} {ph : Ph} {H : Hp} : ∀ (ds : List D) (vs : List V) (ps : List PyData), RepAll K ph H vs ds → dpDAll ds = true → toPyAll ds = some ps → DpAll K H vs ps
  | [], _, _, h, _, e => by cases h; cases e; exact .nil
  | d :: ds, _, _, h, g, e => by
    cases h with
    | cons h1 h2 =>
      have g' : dpD d = true ∧ dpDAll ds = true := by simpa only [dpDAll, Bool.and_eq_true] using g
      simp only [toPyAll] at e
      split at e
      · rename_i p ps ep eps
        cases e
        exact .cons (Rep.dp d _ p h1 g'.1 ep) (RepAll.dp ds _ ps h2 g'.2 eps)
      · cases e
end
end
end DL
namespace DL
open PySem PySem.Spec PyProof.Rows L2
end DL
namespace DL
open PySem PySem.Spec PyProof.Rows L2
end DL
/-! XC: list(range(a, b, c)); xs.count(y) -/
namespace L2
open PySem PySem.Spec PyProof.Rows PyProof
end L2
/-! DLC: list(range(a, b, c)), xs.count(y), comparisons and reprs of data with owned lists within -/
namespace DL
open PySem PySem.Spec PyProof.Rows L2
section
variable {X : Cx} {pos : Pos}
/-! ### xs.count(y) -/
/-! ### owned lists within -/
def cellL (M : Mem) (k : Nat) : Option (List D) := match M[k]? with
  | some (.lst ds) => some ds
  | _ => none
mutual
/-- every owned list within as it stands -/
def resD (M : Mem) : D → D
  | .own k => match cellL M k with
    | some ds => .lst ds
    | none => .own k
  | .tup l => .tup (resDA M l)
  | .lst l => .lst (resDA M l)
  | d => d
def resDA (M : Mem) : List D → List D
  | [] => []
  | d :: ds => resD M d :: resDA M ds
end
end
end DL
namespace DL
open PySem PySem.Spec PyProof.Rows L2
end DL
/-! XD: repr of a list whose items may be dicts, where no list within is asked about -/
namespace L2
open PySem PySem.Spec PyProof.Rows PyProof
section
variable {prog : Program} {w : World} {A : Around} {E : Value → Shared → Prop} {s : Shared} {Q : Value → Shared → Prop}
theorem repr_listZ {a : Addr} {o : Obj} {vs : Array Value} {n : Nat} {xs : List PyData} {as : List Addr} (ho : s.heap.get? a = some o) (oc : o.cls = .type "list") (od : o.data = .seq vs n) (rs : ReadsAll s.heap vs.toList xs as)
    (sh : PyData.showableAll xs = true) (no : sysModules ∉ as) (gd : A.guards = some []) (un : A.units + (PyData.depthAll xs + 3) < cLine) (len : (PyData.list xs).shown.length ≤ sizeLine)
    (q : ∀ h' u tk, (∀ b o, s.heap.get? b = some o → h'.get? b = some o) → Q (.str (PyData.list xs).shown u) { s with heap := h', toks := tk }) :
    wpAny (model prog w) A (call (.builtin "repr") [.ref a]) Q E s := by
  have len2 : (listText (PyData.shownAll xs)).length ≤ sizeLine := by simpa only [PyData.shown] using len
  obtain ⟨cs, deep, each⟩ := ReprAllK.of_readsAll (prog := prog) (w := w) rs sh (fun _ => no) (fun t ht => Nat.le_trans (listText_mem_le ht) len2)
  have away : a ∉ cs := not_mem_of_deeper (.list ho oc od rs) (by simp only [PyData.depth]; omega) deep
  refine call_repr_slot (by omega) ⟨o, ho, oc⟩ F.slot_list_repr.toG ?_
  simp only [PyData.shown] at q
  cases vs with
  | mk l =>
    cases l with
    | nil =>
      cases (show ReadsAll s.heap [] xs as from rs)
      simp only [PyData.shownAll, listText_nil] at q
      exact call_list_repr_empty ⟨o, ho, oc⟩ ho od ⟨_, _, rfl, q s.heap _ _ fun _ _ z => z⟩
    | cons x l =>
      refine call_list_reprK ho oc od away (by simpa using each.length_eq) (fun i y z => each.item i y (by simpa using z)) gd (fun b _ => Clear.nil b) ?_ (fun _ _ z => z) (fun h' u tk kp => ⟨_, _, rfl, q h' u tk kp⟩) len2
      show A.units + 1 + (PyData.depthAll xs + 1) < cLine
      omega
end
end L2
/-! DLR: how readings are shown -/
namespace DL
open PySem PySem.Spec PyProof.Rows L2
/-! ### while -/
/-! ### comparing plain data -/
theorem gEq_int {i j : Int} {M : Mem} {Q : DQ} : gEq (.int i) (.int j) M Q = Q (.bl (i == j)) M := rfl
theorem gNe_int {i j : Int} {M : Mem} {Q : DQ} : gNe (.int i) (.int j) M Q = Q (.bl (!(i == j))) M := rfl
theorem gEq_bl {i j : Bool} {M : Mem} {Q : DQ} : gEq (.bl i) (.bl j) M Q = Q (.bl (i == j)) M := rfl
theorem gNe_bl {i j : Bool} {M : Mem} {Q : DQ} : gNe (.bl i) (.bl j) M Q = Q (.bl (!(i == j))) M := rfl
/-! ### the end of a def -/
theorem rtq {M : Mem} {Q : DQ} {d : D} (q : Q d M) (hb : below M.length d = true := by rfl) : Rtq M Q d M := ⟨M, [], (List.append_nil M).symm, Nat.le_refl _, hb, fun _ _ h => .inl h, q⟩
theorem rtqG {M G : Mem} {Q : DQ} {d : D} (q : Q d M) (hb : below M.length d = true := by rfl) : Rtq M Q d (M ++ G) := ⟨M, G, rfl, Nat.le_refl _, hb, fun _ _ h => .inl h, q⟩
/-- new cells stay, others were changed: all of them plain -/
theorem rtqC {M M1 : Mem} {Q : DQ} {d : D} (q : Q d M1) (hl : M.length ≤ M1.length) (hb : below M1.length d = true) (hc : ∀ (i : Nat) (c : Own), M1[i]? = some c → M[i]? = some c ∨ belowO M1.length c = true) : Rtq M Q d M1 := ⟨M1, [], (List.append_nil _).symm, hl, hb, hc, q⟩
end DL
namespace DL
open PySem PySem.Spec PyProof.Rows L2
/-! ### comprehensions -/
theorem lcW_pure {ds : List D} {C : Mem → Prop} {g : DTG} {tt : DTT} {te : DTE} {r : Env} {M : Mem} {Q : DQ} (f : D → Option D) (hC : C M) (hl : ds.length ≤ sizeLine)
    (step : ∀ d ∈ ds, ∀ (Y : D → Mem → Prop) (N : Mem → Prop), (match f d with | some e => Y e M | none => N M) → g d r M fun r2 M2 => tt r2 M2 fun b M3 => if b = true then te r2 M3 Y else N M3)
    (q : Q (.lst (ds.filterMap f)) M) : lcW false ds C g tt te r M Q := by
  refine ⟨fun i acc M' => M' = M ∧ acc = (ds.take i).filterMap f ∧ i ≤ ds.length, ⟨rfl, rfl, Nat.zero_le _⟩, ?_⟩
  rintro i acc M' ⟨rfl, rfl, hi⟩
  refine ⟨hC, fun hd => ?_, fun d ed => ?_⟩
  · rw [if_neg Bool.false_ne_true]
    rw [List.take_of_length_le hd]; exact q
  · have hlt : i < ds.length := (List.getElem?_eq_some_iff.mp ed).1
    have ht : ds.take (i + 1) = ds.take i ++ [d] := by rw [List.take_add_one, ed]; rfl
    refine step d (List.mem_of_getElem? ed) _ _ ?_
    split
    · rename_i e he
      refine ⟨?_, rfl, ?_, hlt⟩
      · have h1 : ((ds.take i).filterMap f).length ≤ (ds.take i).length := List.length_filterMap_le _ _
        have h2 : (ds.take i).length ≤ i := by rw [List.length_take]; omega
        omega
      · rw [ht, List.filterMap_append]
        simp [he]
    · rename_i he
      refine ⟨rfl, ?_, hlt⟩
      rw [ht, List.filterMap_append]
      simp [he]
/-! ### data that may be compared -/
mutual
def fine (n : Nat) : D → Bool
  | .non => true
  | .bl _ => true
  | .int _ => true
  | .str x => PyData.strOk x
  | .tup l => match n with
    | 0 => false
    | n + 1 => fineAll n l
  | .lst l => match n with
    | 0 => false
    | n + 1 => fineAll n l
  | _ => false
def fineAll (n : Nat) : List D → Bool
  | [] => true
  | d :: ds => fine n d && fineAll n ds
end
mutual
theorem fine_py : ∀ (n : Nat) (d : D), fine n d = true → ∃ p, toPy d = some p ∧ p.canLay0 = true ∧ p.depth ≤ n
  | n, .non, _ => ⟨.none, rfl, by simp only [PyData.canLay0], by simp only [PyData.depth]; omega⟩
  | n, .bl b, _ => ⟨.bool b, rfl, by simp only [PyData.canLay0], by simp only [PyData.depth]; omega⟩
  | n, .int i, _ => ⟨.int i, rfl, by simp only [PyData.canLay0], by simp only [PyData.depth]; omega⟩
  | n, .str x, h => ⟨.str x, rfl, by simpa only [PyData.canLay0, fine] using h, by simp only [PyData.depth]; omega⟩
  | 0, .tup l, h => by simp [fine] at h
  | n + 1, .tup l, h => by
    obtain ⟨ps, h1, h2, h3, _⟩ := fine_pyAll n l (by simpa only [fine] using h)
    exact ⟨.tuple ps, by simp only [toPy, h1], by simpa only [PyData.canLay0] using h2, by simp only [PyData.depth]; omega⟩
  | 0, .lst l, h => by simp [fine] at h
  | n + 1, .lst l, h => by
    obtain ⟨ps, h1, h2, h3, _⟩ := fine_pyAll n l (by simpa only [fine] using h)
    exact ⟨.list ps, by simp only [toPy, h1], by simpa only [PyData.canLay0] using h2, by simp only [PyData.depth]; omega⟩
  | n, .dct0, h => by simp [fine] at h
  | n, .scr _, h => by simp [fine] at h
  | n, .own _, h => by simp [fine] at h
  | n, .exc _ _, h => by simp [fine] at h
  | n, .glb _, h => by simp [fine] at h
  | n, .val _, h => by simp [fine] at h
theorem fine_pyAll : ∀ (n : Nat) (ds : List D), fineAll n ds = true → ∃ ps, toPyAll ds = some ps ∧ PyData.canLayAll0 ps = true ∧ PyData.depthAll ps ≤ n ∧ ps.length = ds.length
  | n, [], _ => ⟨[], rfl, by simp only [PyData.canLayAll0], by simp only [PyData.depthAll]; omega, rfl⟩
  | n, d :: ds, h => by
    have h' : fine n d = true ∧ fineAll n ds = true := by simpa only [fineAll, Bool.and_eq_true] using h
    obtain ⟨p, a1, a2, a3⟩ := fine_py n d h'.1
    obtain ⟨ps, b1, b2, b3, b4⟩ := fine_pyAll n ds h'.2
    exact ⟨p :: ps, by simp only [toPyAll, a1, b1], by simp only [PyData.canLayAll0, a2, b2, Bool.and_self], by simp only [PyData.depthAll]; omega, by rw [List.length_cons, List.length_cons, b4]⟩
end
theorem cmpd_fine {n : Nat} {d : D} (h : fine n d = true) (hn : n ≤ 64 := by decide) : ∃ p, toPy d = some p ∧ cmpd d = some p := by
  obtain ⟨p, h1, h2, h3⟩ := fine_py n d h
  refine ⟨p, h1, ?_⟩
  unfold cmpd
  rw [h1]
  have : SeqAt.shaped p = true := by unfold SeqAt.shaped; rw [h2]; simp; omega
  simp only [this, if_true]
theorem res_fine {n : Nat} {d : D} {M : Mem} (h : fine n d = true) : res M d = d := by
  cases d <;> first | rfl | (simp [fine] at h)
theorem eqv_self {n : Nat} {d : D} {p : PyData} (h : fine n d = true) (hp : toPy d = some p) : PyData.eqv p p = true := by
  obtain ⟨p', h1, h2, _⟩ := fine_py n d h
  rw [hp] at h1; cases h1
  exact SeqAt.eqv_refl p h2
theorem eqB_self {n : Nat} {d : D} (h : fine n d = true) (hn : n ≤ 64 := by decide) : eqB d d = some true := by
  obtain ⟨p, h1, h2⟩ := cmpd_fine h hn
  unfold eqB
  split
  · simp_all
  · rw [h2]
    show some (PyData.eqv p p) = _
    rw [eqv_self h h1]
/-- the same data compared -/
theorem gNe_same {n : Nat} {d : D} {M : Mem} {Q : DQ} (h : fine n d = true) (q : Q (.bl false) M) (hn : n ≤ 64 := by decide) : gNe d d M Q := by
  unfold gNe
  rw [res_fine h, eqB_self h hn]
  exact q
theorem gEq_same {n : Nat} {d : D} {M : Mem} {Q : DQ} (h : fine n d = true) (q : Q (.bl true) M) (hn : n ≤ 64 := by decide) : gEq d d M Q := by
  unfold gEq
  rw [res_fine h, eqB_self h hn]
  exact q
theorem gNe_strs {a b : Str} {M : Mem} {Q : DQ} : gNe (.str a) (.str b) M Q = Q (.bl (!(a == b))) M := rfl
theorem gEq_strs {a b : Str} {M : Mem} {Q : DQ} : gEq (.str a) (.str b) M Q = Q (.bl (a == b)) M := rfl
/-! ### data that may be shown -/
mutual
def lit (B : Nat) : D → Bool
  | .int i => decide (i.natAbs.log2 < B)
  | .tup l => litAll B l
  | .lst l => litAll B l
  | _ => true
def litAll (B : Nat) : List D → Bool
  | [] => true
  | d :: ds => lit B d && litAll B ds
end
mutual
def wt (B : Nat) : D → Nat
  | .int _ => B + 1
  | .str x => x.cps.size
  | .tup l => wtAll B l
  | .lst l => wtAll B l
  | _ => 0
def wtAll (B : Nat) : List D → Nat
  | [] => 0
  | d :: ds => wt B d + 1 + wtAll B ds
end
theorem strOk_short {x : Str} (h : PyData.strOk x = true) : ∀ c ∈ x.cps.toList, c < 16 ^ 8 := by
  have h0 : x.cps.all (· < 0x110000) = true := h
  intro c hc
  have h1 := (Array.all_eq_true_iff_forall_mem.mp h0) c (Array.mem_toList_iff.mp hc)
  have h2 : c < 0x110000 := by simpa using h1
  have e : (16 : Nat) ^ 8 = 4294967296 := by decide
  omega
mutual
theorem lit_py (B : Nat) (hB : B ≤ 1919) : ∀ (n : Nat) (d : D) (p : PyData), fine n d = true → lit B d = true → toPy d = some p → p.showable = true ∧ p.leavesShort (B + 8) = true ∧ p.weight ≤ wt B d
  | n, .non, p, _, _, e => by cases e; exact ⟨by simp only [PyData.showable], by simp only [PyData.leavesShort], by simp only [PyData.weight]; omega⟩
  | n, .bl b, p, _, _, e => by cases e; exact ⟨by simp only [PyData.showable], by simp only [PyData.leavesShort], by simp only [PyData.weight]; omega⟩
  | n, .int i, p, _, h, e => by
    cases e
    have h' : i.natAbs.log2 < B := by simpa only [lit, decide_eq_true_eq] using h
    refine ⟨?_, ?_, ?_⟩
    · simp only [PyData.showable, decide_eq_true_eq]; omega
    · simp only [PyData.leavesShort, decide_eq_true_eq]
      show (Str.ofString (toString i)).length ≤ _
      rw [PySem.ofString_length]
      have := int_text_length_le (a := i) (k := B) (by omega) h'
      omega
    · simp only [PyData.weight, wt]
      split <;> omega
  | n, .str x, p, hf, _, e => by
    cases e
    refine ⟨by simp only [PyData.showable], ?_, by simp only [PyData.weight, wt]; omega⟩
    simp only [PyData.leavesShort, List.all_eq_true, decide_eq_true_eq]
    exact strOk_short (by simpa only [fine] using hf)
  | 0, .tup l, p, h, _, _ => by simp [fine] at h
  | 0, .lst l, p, h, _, _ => by simp [fine] at h
  | n + 1, .tup l, p, h, h2, e => by
    obtain ⟨ps, e1, _⟩ := fine_pyAll n l (by simpa only [fine] using h)
    have e' : p = .tuple ps := by simp only [toPy, e1] at e; exact (Option.some.inj e).symm
    subst e'
    obtain ⟨a, b, c⟩ := lit_pyAll B hB n l ps (by simpa only [fine] using h) (by simpa only [lit] using h2) e1
    exact ⟨by simpa only [PyData.showable] using a, by simpa only [PyData.leavesShort] using b, by simpa only [PyData.weight, wt] using c⟩
  | n + 1, .lst l, p, h, h2, e => by
    obtain ⟨ps, e1, _⟩ := fine_pyAll n l (by simpa only [fine] using h)
    have e' : p = .list ps := by simp only [toPy, e1] at e; exact (Option.some.inj e).symm
    subst e'
    obtain ⟨a, b, c⟩ := lit_pyAll B hB n l ps (by simpa only [fine] using h) (by simpa only [lit] using h2) e1
    exact ⟨by simpa only [PyData.showable] using a, by simpa only [PyData.leavesShort] using b, by simpa only [PyData.weight, wt] using c⟩
  | n, .dct0, _, h, _, _ => by simp [fine] at h
  | n, .scr _, _, h, _, _ => by simp [fine] at h
  | n, .own _, _, h, _, _ => by simp [fine] at h
  | n, .exc _ _, _, h, _, _ => by simp [fine] at h
  | n, .glb _, _, h, _, _ => by simp [fine] at h
  | n, .val _, _, h, _, _ => by simp [fine] at h
theorem lit_pyAll (B : Nat) (hB : B ≤ 1919) : ∀ (n : Nat) (ds : List D) (ps : List PyData), fineAll n ds = true → litAll B ds = true → toPyAll ds = some ps → PyData.showableAll ps = true ∧ PyData.leavesShortAll (B + 8) ps = true ∧ PyData.weightAll ps ≤ wtAll B ds
  | n, [], ps, _, _, e => by cases e; exact ⟨by simp only [PyData.showableAll], by simp only [PyData.leavesShortAll], by simp only [PyData.weightAll]; omega⟩
  | n, d :: ds, ps, h, h2, e => by
    have h' : fine n d = true ∧ fineAll n ds = true := by simpa only [fineAll, Bool.and_eq_true] using h
    have h2' : lit B d = true ∧ litAll B ds = true := by simpa only [litAll, Bool.and_eq_true] using h2
    obtain ⟨p, a1, _, _⟩ := fine_py n d h'.1
    obtain ⟨qs, b1, _, _, _⟩ := fine_pyAll n ds h'.2
    have e' : ps = p :: qs := by simp only [toPyAll, a1, b1] at e; exact (Option.some.inj e).symm
    subst e'
    obtain ⟨c1, c2, c3⟩ := lit_py B hB n d p h'.1 h2'.1 a1
    obtain ⟨d1, d2, d3⟩ := lit_pyAll B hB n ds qs h'.2 h2'.2 b1
    refine ⟨by simp only [PyData.showableAll, c1, d1, Bool.and_self], by simp only [PyData.leavesShortAll, c2, d2, Bool.and_self], ?_⟩
    simp only [PyData.weightAll, wtAll]; omega
end
/-- d's repr is covered: ints of B bits, at most -/
theorem shw_of (B n : Nat) {d : D} (h : fine n d = true) (hl : lit B d = true) (hw : (B + 10) * wt B d + B + 8 ≤ 16777216) (hB : B ≤ 1919 := by decide) (hn : n ≤ 64 := by decide) : ∃ z, shwn d = some z := by
  obtain ⟨p, e1, e2, e3⟩ := fine_py n d h
  obtain ⟨a, b, c⟩ := lit_py B hB n d p h hl e1
  have h1 := PyData.shown_le (B + 8) (by omega) p b
  have h2 : (B + 8 + 2) * p.weight ≤ (B + 10) * wt B d := Nat.mul_le_mul (by omega) c
  refine ⟨p.shown, ?_⟩
  unfold shwn
  rw [e1]
  dsimp only
  rw [if_pos ⟨a, by omega, by rw [sizeLine_eq]; omega, PyData.hasDict_of_canLay p e2⟩]
/-! ### items by a written index -/
section
variable {α : Type}
theorem atI_of (n : Nat) {l : List α} (h : n < l.length) : atI l (n : Int) = l[n]? := by
  unfold atI ixN
  rw [if_pos (by omega), if_pos (by omega)]
  rfl
theorem atI_0 {a : α} {l : List α} : atI (a :: l) 0 = some a := atI_of 0 (by simp)
theorem atI_1 {a b : α} {l : List α} : atI (a :: b :: l) 1 = some b := atI_of 1 (by simp)
theorem atI_2 {a b c : α} {l : List α} : atI (a :: b :: c :: l) 2 = some c := atI_of 2 (by simp)
theorem atI_3 {a b c d : α} {l : List α} : atI (a :: b :: c :: d :: l) 3 = some d := atI_of 3 (by simp)
theorem atI_4 {a b c d e : α} {l : List α} : atI (a :: b :: c :: d :: e :: l) 4 = some e := atI_of 4 (by simp)
theorem atI_5 {a b c d e f : α} {l : List α} : atI (a :: b :: c :: d :: e :: f :: l) 5 = some f := atI_of 5 (by simp)
theorem ixN_30 : ixN 3 0 = some 0 := by decide
theorem ixN_31 : ixN 3 1 = some 1 := by decide
theorem ixN_32 : ixN 3 2 = some 2 := by decide
end
theorem rs_lst {M : Mem} {l : List D} : res M (.lst l) = .lst l := rfl
theorem rs_tup {M : Mem} {l : List D} : res M (.tup l) = .tup l := rfl
theorem rs_scr {M : Mem} {l : List Int} : res M (.scr l) = .scr l := rfl
theorem rs_int {M : Mem} {i : Int} : res M (.int i) = .int i := rfl
theorem intsD_map : ∀ ns : List Int, intsD (ns.map D.int) = some ns
  | [] => rfl
  | n :: ns => by rw [List.map_cons]; unfold intsD; rw [intsD_map ns]
theorem cut_map (ns : List Int) (lo hi : Option Int) : ∃ xs : List Int, cutD (ns.map D.int) lo hi = xs.map D.int := by
  unfold cutD
  rw [← List.map_drop, ← List.map_take]
  exact ⟨_, rfl⟩
end DL
/-! DLD: repr of data with empty dicts -/
namespace DL
open PySem PySem.Spec PyProof.Rows L2
mutual
/-- no list within -/
def nolst : D → Bool
  | .lst _ => false
  | .own _ => false
  | .tup l => nolstA l
  | _ => true
def nolstA : List D → Bool
  | [] => true
  | d :: ds => nolst d && nolstA ds
end
section
variable {X : Cx} {pins : List (Addr × Obj)} {s : Shared} {ph : Ph} {σ : St} {H : Hp}
mutual
theorem Rep.readsZ (I : Inv X pins σ H s) : ∀ (d : D) (v : V) (u : Value) (p : PyData), Rep X.K ph H v d → RelV v u → toPy d = some p → nolst d = true → ∃ as, Reads s.heap u p as ∧ sysModules ∉ as
  | .non, _, _, _, h, rv, e, _ => by cases h; cases rv; cases e; exact ⟨_, .none, by simp⟩
  | .bl _, _, _, _, h, rv, e, _ => by cases h; cases rv; cases e; exact ⟨_, .bool _, by simp⟩
  | .int _, _, _, _, h, rv, e, _ => by cases h; obtain ⟨t, rfl⟩ := rv; cases e; exact ⟨_, .int _ _, by simp⟩
  | .str _, _, _, _, h, rv, e, _ => by cases h; obtain ⟨t, rfl⟩ := rv; cases e; exact ⟨_, .str _ _, by simp⟩
  | .tup ds, _, _, _, h, rv, e, n => by
    cases h with
    | tup h1 h2 =>
      cases rv
      simp only [toPy] at e
      split at e
      · rename_i ps ep
        cases e
        obtain ⟨its, rx, ⟨o, ho, hc, n', hd⟩, _⟩ := I.tuple (h1.sq fun _ _ z => z)
        obtain ⟨as, q, qa⟩ := RepAll.readsZ I ds _ its ps h2 rx ep (by simpa only [nolst] using n)
        exact ⟨_, .tuple ho hc hd q, qa⟩
      · cases e
  | .lst ds, _, _, _, _, _, _, n => by simp [nolst] at n
  | .dct0, _, _, _, h, rv, e, _ => by
    cases h with
    | dct0 h1 =>
      cases rv
      cases e
      obtain ⟨_, hs, vs, hk, o, es, ep, ho, hx, hd, _, he, _⟩ := I.hok _ _ h1
      cases hk
      have e0 : es = #[] := by
        cases es with
        | mk l =>
          cases l with
          | nil => rfl
          | cons x l => exact nomatch he
      subst e0
      refine ⟨_, .dict ho hx.1 hd .nil .nil, fun ha => ?_⟩
      simp at ha
      rw [← ha] at hs
      exact absurd hs (by decide)
  | .scr ns, _, _, _, _, _, e, _ => by cases e
  | .own _, _, _, _, _, _, e, _ => by cases e
  | .exc _ _, _, _, _, _, _, e, _ => by cases e
  | .glb _, _, _, _, _, _, e, _ => by cases e
  | .val _, _, _, _, _, _, e, _ => by cases e
theorem RepAll.readsZ (I : Inv X pins σ H s) : ∀ (ds : List D) (vs : List V) (us : List Value) (ps : List PyData), RepAll X.K ph H vs ds → Vals vs us → toPyAll ds = some ps → nolstA ds = true → ∃ as, ReadsAll s.heap us ps as ∧ sysModules ∉ as
  | [], _, _, _, h, rv, e, _ => by cases h; cases rv; cases e; exact ⟨_, .nil, by simp⟩
  | d :: ds, _, _, _, h, rv, e, n => by
    have n' : nolst d = true ∧ nolstA ds = true := by simpa only [nolstA, Bool.and_eq_true] using n
    cases h with
    | cons h1 h2 =>
      cases rv with
      | cons r1 r2 =>
        simp only [toPyAll] at e
        split at e
        · rename_i p ps ep eps
          cases e
          obtain ⟨as, q1, a1⟩ := Rep.readsZ I d _ _ p h1 r1 ep n'.1
          obtain ⟨bs, q2, a2⟩ := RepAll.readsZ I ds _ _ ps h2 r2 eps n'.2
          refine ⟨_, .cons q1 q2, fun ha => ?_⟩
          rcases List.mem_append.mp ha with ha | ha
          · exact a1 ha
          · exact a2 ha
        · cases e
end
end
/-- dicts may stand within -/
def okZ : D → Bool
  | .lst l => nolstA l
  | d => nolst d
def shwnZ (d : D) : Option Str := match toPy d with
  | some p => if p.showable = true ∧ p.depth ≤ 64 ∧ p.shown.length ≤ sizeLine ∧ (p.hasDict = false ∨ okZ d = true) then some p.shown else none
  | none => none
theorem RepAll.repN {K : PySem.W.Frag} {ph : Ph} {S : Hp} {xs : List V} {ds : List D} (h : RepAll K ph S xs ds) : ∀ n : Nat, RepAll K ph S (List.replicate n xs).flatten (List.flatten (List.replicate n ds))
  | 0 => .nil
  | n + 1 => by
    rw [List.replicate_succ, List.replicate_succ, List.flatten_cons, List.flatten_cons]
    exact RepAll.app h (RepAll.repN h n)
/-- a list, n times -/
theorem opd_mulL {X : Cx} : OpD X (binaryOp .Mult) gMulL := by
  intro pins s σ H ph S r M x y dx dy v u Q I hs rx ry qx qy hg
  cases dx <;> first | exact hg.elim | skip
  cases dy <;> first | exact hg.elim | skip
  cases qy
  cases qx with
  | lst h1 h2 =>
    refine op_rep pins s σ H _ _ v u _ I rx ry ⟨_, _, _, rfl, rfl, hs.sub _ _ h1, hg.1.1, hg.1.2.1, by rw [h2.len]; exact hg.1.2.2, fun p hp => ?_⟩
    exact Aft.frz hs hp fun z => ⟨_, .lst upd_same ((h2.repN _).up z), hg.2⟩
theorem shwnZ_of {d : D} {z : Str} (h : shwn d = some z) : shwnZ d = some z := by
  unfold shwn at h
  unfold shwnZ
  split at h
  · rename_i p ep
    by_cases hp : p.showable = true ∧ p.depth ≤ 64 ∧ p.shown.length ≤ sizeLine ∧ p.hasDict = false
    · rw [if_pos hp] at h
      try rw [ep]
      try dsimp only
      rw [if_pos ⟨hp.1, hp.2.1, hp.2.2.1, .inl hp.2.2.2⟩]
      exact h
    · rw [if_neg hp] at h; cases h
  · cases h
end DL
namespace DL
open PySem PySem.Spec PyProof.Rows L2
end DL
/-! XE: a dict beside an int -/
namespace L2
open PySem PySem.Spec PyProof.Rows PyProof
open PySem.SeqAt PySem.AutoSeq1 PySem.Sem
end L2
/-! DLG: an empty dict beside an int -/
namespace DL
open PySem PySem.Spec PyProof.Rows L2
end DL
namespace DL
open PySem PySem.Spec PyProof.Rows L2
end DL
/-! DLK: the module's own tuples, starred items, len(set(..)) of ints -/
namespace DL
open PySem PySem.Spec PyProof.Rows L2
/-- the module's value at a is the data d -/
def KRep (K : PySem.W.Frag) (u : Value) (d : D) : Prop := ∃ v : V, RelV v u ∧ ∀ ph S, Rep K ph S v d
theorem KRep.int {K : PySem.W.Frag} {i : Int} {t : Tok} : KRep K (.int i t) (.int i) := ⟨.int i, ⟨t, rfl⟩, fun _ _ => .int _⟩
inductive KReps (K : PySem.W.Frag) : List Value → List D → Prop
  | nil : KReps K [] []
  | cons {u : Value} {us : List Value} {d : D} {ds : List D} : KRep K u d → KReps K us ds → KReps K (u :: us) (d :: ds)
theorem KRep.all {K : PySem.W.Frag} : ∀ {us : List Value} {ds : List D}, KReps K us ds → ∃ vs, Vals vs us ∧ ∀ ph S, RepAll K ph S vs ds
  | _, _, .nil => ⟨[], .nil, fun _ _ => .nil⟩
  | _, _, .cons ⟨v, r, q⟩ t => by
    obtain ⟨vs, rs, qs⟩ := KRep.all t
    exact ⟨v :: vs, .cons r rs, fun ph S => .cons (q ph S) (qs ph S)⟩
theorem KRep.tup {K : PySem.W.Frag} {a : Addr} {dd : Option Addr} {its : Array Value} {n : Nat} {sl : Array (Option Value)} {ds : List D} (l : K.lookup a = some ⟨.type "tuple", dd, .seq its n, sl⟩)
    (h : KReps K its.toList ds) (hz : its.size ≤ 100 := by decide) : KRep K (.ref a) (.tup ds) := by
  obtain ⟨vs, rs, qs⟩ := KRep.all h
  exact ⟨.ref a, rfl, fun ph S => .tup (.inr ⟨_, its, n, l, rfl, rfl, by rw [sizeLine_eq]; omega, rs⟩) (qs ph S)⟩
section
variable {X : Cx} {pos : Pos}
/-- a global whose value is data of the module -/
theorem de_globK {x : Str} {u : Value} {d : D} (hg : Gl X x) (hm : X.mg x = some u) (h : KRep X.K u d) (hd : (x == ("__debug__" : Str)) = false := by decide) : DE X (.Name x pos) (dC d) := by
  obtain ⟨v, r, q⟩ := h
  exact de_c (pe_glob hg hm r hd) q
/-! ### zip of two tuples -/
/-! ### len(set(xs)), ints -/
end
end DL
namespace DL
open PySem PySem.Spec PyProof.Rows L2
end DL
namespace DL
open PySem PySem.Spec PyProof.Rows L2
end DL
namespace DL
open PySem PySem.Spec PyProof.Rows L2
end DL
/-! ZS: zip(xs, ys, strict=True) of two lists of one length -/
namespace PySem
open Sem (wp)
abbrev IsZipS (h : Heap) (z TI TO : Addr) (f0 : Value) : Prop :=
  h.get? z = some { cls := .type "zip", dict := none, data := .fields #[f0, .bool false, .bool true, .ref TI, .ref TO], slots := #[] }
section
variable {prog : Program} {w : World} {A : Around} {E : Value → Shared → Prop} {s : Shared}
theorem nextOrEnd_list_item {it l : Addr} {i : Nat} {items} {x : Value} {Q : Option Value → Shared → Prop} (hit : s.heap.IsListIter it l i)
    (hl : s.heap.IsList l items) (hx : items[i]? = some x)
    (hQ : ∀ h', h'.IsListIter it l (i + 1) → Heap.SameBut it s.heap h' → Q (some x) { s with heap := h' }) :
    wpAny (model prog w) A (Builtin.SmallTypes.nextOrEnd (.ref it)) Q E s := by
  unfold Builtin.SmallTypes.nextOrEnd
  exact wpAny_bind (wpAny_attempt (wpAny_nextOf_list_item hit hl hx fun h' a b => wpAny_pure (hQ h' a b)))
theorem nextOrEnd_list_end {it l : Addr} {i : Nat} {items} {Q : Option Value → Shared → Prop} (hh : A.handled = none) (hit : s.heap.IsListIter it l i)
    (hl : s.heap.IsList l items) (hx : items[i]? = none)
    (hQ : ∀ h', Heap.ExtBut it s.heap h' → Q none { s with heap := h' }) :
    wpAny (model prog w) A (Builtin.SmallTypes.nextOrEnd (.ref it)) Q E s := by
  unfold Builtin.SmallTypes.nextOrEnd
  refine wpAny_bind (wpAny_attempt (wpAny_nextOf_list_end hh hit hl hx fun h' e hk he => ?_))
  obtain ⟨o, ho, hc⟩ := he
  refine wpAny_bind (wpAny_isInstance (T := "StopIteration") (b := true) ⟨o, ho, hc⟩ isSubtype_stop ?_)
  exact wpAny_pure (hQ _ hk)
theorem stopIteration_run {α : Type} {Q : α → Shared → Prop} (hh : A.handled = none)
    (hE : ∀ h' e, (∀ c o, s.heap.get? c = some o → h'.get? c = some o) → (∃ o, h'.get? e = some o ∧ o.cls = .type "StopIteration") → E (.ref e) { s with heap := h' }) :
    wpAny (model prog w) A (Builtin.SmallTypes.stopIteration : Sem α) Q E s := by
  unfold Builtin.SmallTypes.stopIteration
  refine wpAny_bind ?_
  simp only [newExc, newTuple]
  refine wpAny_bind (wpAny_newObj_type ?_ (by size_fits))
  refine wpAny_bind (m := firstArgMember _ _) (wpAny_of_eq (a := Value.none) (by first | rfl | (simp only [firstArgMember]; rfl)) ?_)
  refine wpAny_newObj_type ?_ (by size_fits)
  simp only [raiseNew]
  refine wpAny_bind (wpAny_handled ?_)
  first | rw [show A.in1.handled = none from hh] | rw [hh]
  refine wpAny_bind (wpAny_pure (wpAny_throw ?_))
  exact hE _ _ (fun c o x => Heap.get?_push_of_some _ (Heap.get?_push_of_some _ x)) ⟨_, Heap.get?_push_size _ rfl, rfl⟩
theorem zipS_next_item {z TI TO i1 i2 l1 l2 : Addr} {k1 k2 : Nat} {xs ys : Array Value} {x y a b : Value} {Q : Value → Shared → Prop} (D : ZipApart z TI TO i1 i2 l1 l2)
    (hz : IsZipS s.heap z TI TO .none) (hTI : IsPair s.heap TI (.ref i1) (.ref i2)) (hTO : IsPair s.heap TO a b)
    (h1 : s.heap.IsListIter i1 l1 k1) (h2 : s.heap.IsListIter i2 l2 k2) (hl1 : s.heap.IsList l1 xs) (hl2 : s.heap.IsList l2 ys) (hx : xs[k1]? = some x) (hy : ys[k2]? = some y)
    (hQ : ∀ h', IsZipS h' z TI TO (rawInt s.heap.objs.size) → IsPair h' TO x y → h'.IsListIter i1 l1 (k1 + 1) → h'.IsListIter i2 l2 (k2 + 1) → IsPair h' s.heap.objs.size x y → h'.objs.size = s.heap.objs.size + 1 →
      (∀ c o, c ≠ z → c ≠ TO → c ≠ i1 → c ≠ i2 → s.heap.get? c = some o → h'.get? c = some o) → Q (.ref s.heap.objs.size) { s with heap := h' }) :
    wpAny (model prog w) A (Builtin.«zip.__next__» ⟨[.ref z], []⟩) (fun fin s' => ∃ v, fin = .done (.ret v) ∧ Q v s') E s := by
  show wpAny _ _ (field (.ref z) 2 >>= _) _ _ _
  refine wpAny_bind (wpAny_field hz rfl (x := .bool true) rfl ?_)
  show wpAny _ _ (field (.ref z) 3 >>= _) _ _ _
  refine wpAny_bind (wpAny_field hz rfl (x := .ref TI) rfl ?_)
  refine wpAny_bind (wpAny_seqItems hTI rfl ?_)
  show wpAny _ _ (Builtin.SmallTypes.ownedTupleIsFree (.ref z) >>= _) _ _ _
  refine wpAny_bind ?_
  unfold Builtin.SmallTypes.ownedTupleIsFree
  refine wpAny_bind (wpAny_field hz rfl (x := .none) rfl (wpAny_pure ?_))
  simp only [if_true]
  refine wpAny_bind (wpAny_rule ?_)
  refine wpAny_bind (wpAny_field hz rfl (x := .ref TO) rfl ?_)
  refine wpAny_bind (wpAny_setField_rec hz (by simp) fun h₁ hz₁ hs₁ => ?_)
  replace hz₁ : IsZipS h₁ z TI TO .ellipsis := hz₁
  refine wpAny_bind ?_
  simp only [List.zipIdx_cons, List.zipIdx_nil, List.forIn_cons, List.forIn_nil]

  refine wpAny_bind (wpAny_bind (wpAny_onRaise ?_))
  show wpAny _ _ (Builtin.SmallTypes.nextOrEnd (.ref i1)) _ _ _
  refine nextOrEnd_list_item (h1.extBut hs₁.extBut D.i1z) (hl1.extBut hs₁.extBut D.l1z) hx fun h₂ h1₂ hs₂ => ?_
  have hTO₂ : IsPair h₂ TO a b := hs₂.extBut _ _ D.TOi1 (hs₁.extBut _ _ D.TOz hTO)
  refine wpAny_bind (wpAny_seqItems hTO₂ rfl ?_)
  refine wpAny_bind (wpAny_updateSeq_pair hTO₂ fun h₃ hTO₃ hs₃ => ?_)
  replace hTO₃ : IsPair h₃ TO x b := hTO₃
  refine wpAny_bind (wpAny_letGo (wpAny_pure ?_))

  refine wpAny_bind (wpAny_bind (wpAny_onRaise ?_))
  show wpAny _ _ (Builtin.SmallTypes.nextOrEnd (.ref i2)) _ _ _
  refine nextOrEnd_list_item (((h2.extBut hs₁.extBut D.i2z).extBut hs₂.extBut D.i12.symm).extBut hs₃.extBut D.TOi2.symm)
    (((hl2.extBut hs₁.extBut D.l2z).extBut hs₂.extBut D.l2i1).extBut hs₃.extBut D.l2TO) hy fun h₄ h2₄ hs₄ => ?_
  have hTO₄ : IsPair h₄ TO x b := hs₄.extBut _ _ D.TOi2 hTO₃
  refine wpAny_bind (wpAny_seqItems hTO₄ rfl ?_)
  refine wpAny_bind (wpAny_updateSeq_pair hTO₄ fun h₅ hTO₅ hs₅ => ?_)
  replace hTO₅ : IsPair h₅ TO x y := hTO₅
  refine wpAny_bind (wpAny_letGo (wpAny_pure (wpAny_pure ?_)))

  refine wpAny_bind (wpAny_seqItems hTO₅ rfl ?_)
  refine wpAny_bind (wpAny_newTuple ?_)
  have hsz : h₅.objs.size = s.heap.objs.size := by rw [hs₅.1, hs₄.1, hs₃.1, hs₂.1, hs₁.1]
  have hz₅ : IsZipS h₅ z TI TO .ellipsis := hs₅.extBut _ _ D.TOz.symm (hs₄.extBut _ _ D.i2z.symm (hs₃.extBut _ _ D.TOz.symm (hs₂.extBut _ _ D.i1z.symm hz₁)))
  have hk₅ : ∀ c o, c ≠ z → c ≠ TO → c ≠ i1 → c ≠ i2 → s.heap.get? c = some o → h₅.get? c = some o := fun c o c1 c2 c3 c4 e =>
    hs₅.extBut _ _ c2 (hs₄.extBut _ _ c4 (hs₃.extBut _ _ c2 (hs₂.extBut _ _ c3 (hs₁.extBut _ _ c1 e))))
  have h1₅ : h₅.IsListIter i1 l1 (k1 + 1) := ((h1₂.extBut hs₃.extBut D.TOi1.symm).extBut hs₄.extBut D.i12).extBut hs₅.extBut D.TOi1.symm
  have h2₅ : h₅.IsListIter i2 l2 (k2 + 1) := h2₄.extBut hs₅.extBut D.TOi2.symm
  have hzlt : z < h₅.objs.size := Heap.lt_size hz₅
  have hTOlt : TO < h₅.objs.size := Heap.lt_size hTO₅
  have hi1lt : i1 < h₅.objs.size := by obtain ⟨_, e, _⟩ := h1₅; exact Heap.lt_size e
  have hi2lt : i2 < h₅.objs.size := by obtain ⟨_, e, _⟩ := h2₅; exact Heap.lt_size e
  show wpAny _ _ (Builtin.SmallTypes.ownedTupleHandOut (.ref z) (.ref h₅.objs.size) >>= _) _ _ _
  refine wpAny_bind ?_
  unfold Builtin.SmallTypes.ownedTupleHandOut
  have hz₆ : IsZipS (h₅.push { cls := .type "tuple", data := .seq #[x, y] }) z TI TO .ellipsis := Heap.get?_push_of_some _ hz₅
  refine wpAny_bind (wpAny_setField_rec hz₆ (by simp) fun h₇ hz₇ hs₇ => ?_)
  replace hz₇ : IsZipS h₇ z TI TO (rawInt h₅.objs.size) := hz₇
  refine wpAny_setField_rec hz₇ (by simp) fun h₈ hz₈ hs₈ => ?_
  replace hz₈ : IsZipS h₈ z TI TO (rawInt h₅.objs.size) := hz₈
  have up : ∀ c o, c ≠ z → h₅.get? c = some o → h₈.get? c = some o := fun c o c1 e => hs₈.extBut _ _ c1 (hs₇.extBut _ _ c1 (Heap.get?_push_of_some _ e))
  have hT₈ : IsPair h₈ h₅.objs.size x y := hs₈.extBut _ _ (Nat.ne_of_gt hzlt) (hs₇.extBut _ _ (Nat.ne_of_gt hzlt) (Heap.get?_push_size _ rfl))
  have hz8 : h₈.objs.size = h₅.objs.size + 1 := by rw [hs₈.1, hs₇.1, Heap.size_push]
  rw [hsz] at hz₈ hT₈ hz8
  refine wpAny_pure ⟨_, rfl, ?_⟩
  show Q (.ref h₅.objs.size) _
  rw [hsz]
  exact hQ h₈ hz₈ (up _ _ D.TOz hTO₅) (h1₅.at fun o e => up _ o D.i1z e) (h2₅.at fun o e => up _ o D.i2z e) hT₈ hz8 fun c o c1 c2 c3 c4 e => up c o c1 (hk₅ c o c1 c2 c3 c4 e)
theorem zipS_next_end {z TI TO i1 i2 l1 l2 : Addr} {k1 k2 : Nat} {xs ys : Array Value} {a b : Value} {Q : Fin → Shared → Prop} (hh : A.handled = none) (D : ZipApart z TI TO i1 i2 l1 l2)
    (hz : IsZipS s.heap z TI TO .none) (hTI : IsPair s.heap TI (.ref i1) (.ref i2)) (hTO : IsPair s.heap TO a b)
    (h1 : s.heap.IsListIter i1 l1 k1) (h2 : s.heap.IsListIter i2 l2 k2) (hl1 : s.heap.IsList l1 xs) (hl2 : s.heap.IsList l2 ys) (hx : xs[k1]? = none) (hy : ys[k2]? = none)
    (hE : ∀ h' e, (∀ c o, c ≠ z → c ≠ TO → c ≠ i1 → c ≠ i2 → s.heap.get? c = some o → h'.get? c = some o) → (∃ o, h'.get? e = some o ∧ o.cls = .type "StopIteration") → E (.ref e) { s with heap := h' }) :
    wpAny (model prog w) A (Builtin.«zip.__next__» ⟨[.ref z], []⟩) Q E s := by
  show wpAny _ _ (field (.ref z) 2 >>= _) _ _ _
  refine wpAny_bind (wpAny_field hz rfl (x := .bool true) rfl ?_)
  show wpAny _ _ (field (.ref z) 3 >>= _) _ _ _
  refine wpAny_bind (wpAny_field hz rfl (x := .ref TI) rfl ?_)
  refine wpAny_bind (wpAny_seqItems hTI rfl ?_)
  show wpAny _ _ (Builtin.SmallTypes.ownedTupleIsFree (.ref z) >>= _) _ _ _
  refine wpAny_bind ?_
  unfold Builtin.SmallTypes.ownedTupleIsFree
  refine wpAny_bind (wpAny_field hz rfl (x := .none) rfl (wpAny_pure ?_))
  simp only [if_true]
  refine wpAny_bind (wpAny_rule ?_)
  refine wpAny_bind (wpAny_field hz rfl (x := .ref TO) rfl ?_)
  refine wpAny_bind (wpAny_setField_rec hz (by simp) fun h₁ hz₁ hs₁ => ?_)
  replace hz₁ : IsZipS h₁ z TI TO .ellipsis := hz₁
  refine wpAny_bind ?_
  simp only [List.zipIdx_cons, List.zipIdx_nil, List.forIn_cons, List.forIn_nil]
  refine wpAny_bind (wpAny_bind (wpAny_onRaise ?_))
  show wpAny _ _ (Builtin.SmallTypes.nextOrEnd (.ref i1)) _ _ _
  refine nextOrEnd_list_end hh (h1.extBut hs₁.extBut D.i1z) (hl1.extBut hs₁.extBut D.l1z) hx fun h₂ hs₂ => ?_
  have hz₂ : IsZipS h₂ z TI TO .ellipsis := hs₂ _ _ D.i1z.symm hz₁
  refine wpAny_bind (wpAny_setField_rec hz₂ (by simp) fun h₃ hz₃ hs₃ => ?_)
  refine wpAny_bind ?_
  refine wpAny_bind ?_
  refine wpAny_bind ?_
  refine wpAny_bind (nextOrEnd_list_end hh (((h2.extBut hs₁.extBut D.i2z).extBut hs₂ D.i12.symm).extBut hs₃.extBut D.i2z)
    (((hl2.extBut hs₁.extBut D.l2z).extBut hs₂ D.l2i1).extBut hs₃.extBut D.l2z) hy fun h₄ hs₄ => ?_)
  refine wpAny_pure ?_
  refine wpAny_pure ?_
  refine wpAny_bind (wpAny_rule ?_)
  refine stopIteration_run hh fun h₅ e hk₅ he => ?_
  exact hE h₅ e (fun c o c1 c2 c3 c4 x => hk₅ _ _ (hs₄ _ _ c4 (hs₃.extBut _ _ c1 (hs₂ _ _ c3 (hs₁.extBut _ _ c1 x))))) he
theorem pyNext_zipS_item {z TI TO i1 i2 l1 l2 : Addr} {k1 k2 : Nat} {xs ys : Array Value} {x y a b : Value} {Q : Option Value → Shared → Prop} (D : ZipApart z TI TO i1 i2 l1 l2)
    (hz : IsZipS s.heap z TI TO .none) (hTI : IsPair s.heap TI (.ref i1) (.ref i2)) (hTO : IsPair s.heap TO a b)
    (h1 : s.heap.IsListIter i1 l1 k1) (h2 : s.heap.IsListIter i2 l2 k2) (hl1 : s.heap.IsList l1 xs) (hl2 : s.heap.IsList l2 ys) (hx : xs[k1]? = some x) (hy : ys[k2]? = some y)
    (hQ : ∀ h', IsZipS h' z TI TO (rawInt s.heap.objs.size) → IsPair h' TO x y → h'.IsListIter i1 l1 (k1 + 1) → h'.IsListIter i2 l2 (k2 + 1) → IsPair h' s.heap.objs.size x y → h'.objs.size = s.heap.objs.size + 1 →
      (∀ c o, c ≠ z → c ≠ TO → c ≠ i1 → c ≠ i2 → s.heap.get? c = some o → h'.get? c = some o) → Q (some (.ref s.heap.objs.size)) { s with heap := h' }) :
    wpAny (model prog w) A (pyNext (.ref z)) Q E s := by
  have hT : s.TypeIs (.ref z) "zip" := ⟨_, hz, rfl⟩
  unfold pyNext
  exact wpAny_bind (wpAny_attempt (wpAny_callSpecial?_slot (name := Str.ofString "__next__") hT F.slot_zip_next
    (wpAny_call_entry F.slot_zip_next hT F.entry_zip_next
      (zipS_next_item D hz hTI hTO h1 h2 hl1 hl2 hx hy fun h' a1 a2 a3 a4 a5 a6 a7 => wpAny_pure (hQ h' a1 a2 a3 a4 a5 a6 a7)) (F.args_zip_next_1 _))))
theorem pyNext_zipS_end {z TI TO i1 i2 l1 l2 : Addr} {k1 k2 : Nat} {xs ys : Array Value} {a b : Value} {Q : Option Value → Shared → Prop} (hh : A.handled = none) (D : ZipApart z TI TO i1 i2 l1 l2)
    (hz : IsZipS s.heap z TI TO .none) (hTI : IsPair s.heap TI (.ref i1) (.ref i2)) (hTO : IsPair s.heap TO a b)
    (h1 : s.heap.IsListIter i1 l1 k1) (h2 : s.heap.IsListIter i2 l2 k2) (hl1 : s.heap.IsList l1 xs) (hl2 : s.heap.IsList l2 ys) (hx : xs[k1]? = none) (hy : ys[k2]? = none)
    (hQ : ∀ h', (∀ c o, c ≠ z → c ≠ TO → c ≠ i1 → c ≠ i2 → s.heap.get? c = some o → h'.get? c = some o) → Q none { s with heap := h' }) : wpAny (model prog w) A (pyNext (.ref z)) Q E s := by
  have hT : s.TypeIs (.ref z) "zip" := ⟨_, hz, rfl⟩
  unfold pyNext
  refine wpAny_bind (wpAny_attempt (wpAny_callSpecial?_slot (name := Str.ofString "__next__") hT F.slot_zip_next
    (wpAny_call_entry F.slot_zip_next hT F.entry_zip_next (zipS_next_end hh D hz hTI hTO h1 h2 hl1 hl2 hx hy fun h' e hk he => ?_) (F.args_zip_next_1 _))))
  obtain ⟨o, ho, hc⟩ := he
  refine wpAny_bind (wpAny_isInstance (T := "StopIteration") (b := true) ⟨o, ho, hc⟩ isSubtype_stop ?_)
  exact wpAny_pure (hQ _ hk)
theorem letOwnedTupleGo_zipS {elts : List Expr} {x1} {pos : Pos} {z TI TO T : Addr} {Q : Unit → Shared → Prop} (hz : IsZipS s.heap z TI TO (rawInt T))
    (hQ : ∀ h', IsZipS h' z TI TO .none → Heap.SameBut z s.heap h' → Q () { s with heap := h' }) :
    wpAny (model prog w) A (letOwnedTupleGo (.Tuple elts x1 pos) (.ref z) (.ref T)) Q E s := by
  unfold letOwnedTupleGo
  refine wpAny_bind (wpAny_load hz ?_)
  show wpAny _ _ (if (["enumerate", "zip", "dict_itemiterator", "dict_reverseitemiterator", "odict_iterator", "itertools.zip_longest", "itertools.pairwise"].contains "zip" &&
      (#[rawInt T, .bool false, .bool true, .ref TI, .ref TO] : Array Value)[0]? == some (rawInt T)) = true then _ else _) Q E s
  rw [if_pos (by simp)]
  refine wpAny_bind (wpAny_rule ?_)
  show wpAny _ _ (setField (.ref z) 0 .none) Q E s
  exact wpAny_setField_rec hz (by simp) fun h' hz' hs' => hQ h' hz' hs'
theorem pyIter_zipS {z TI TO : Addr} {f0 : Value} {Q : Value → Shared → Prop} (hz : IsZipS s.heap z TI TO f0) (h : Q (.ref z) s) : wpAny (model prog w) A (pyIter (.ref z)) Q E s := by
  have hT : s.TypeIs (.ref z) "zip" := ⟨_, hz, rfl⟩
  refine wpAny_pyIter_slot hT F.slot_zip_iter (wpAny_call_entry F.slot_zip_iter hT F.entry_zip_iter ?_ (F.args_zip_iter_1 _))
  show wpAny _ _ (ret (.ref z)) _ _ s
  exact wpAny_pure ⟨_, rfl, "zip", _, hT, F.slot_zip_next.lookup, h⟩
end
namespace F
theorem typeCall_zip_strict (a b c : Value) : checkTypeCall "zip" ⟨[a, b], [(Str.ofString "strict", c)]⟩ = pure () := by kernel_rfl
theorem newCall_zip_strict (a b c : Value) : checkBuiltinCall "zip.__new__" ⟨[.type "zip", a, b], [(Str.ofString "strict", c)]⟩ = pure () := by kernel_rfl
theorem args_object_init_strict (obj a b c : Value) : argsOk "object.__init__" ⟨[obj, a, b], [(Str.ofString "strict", c)]⟩ := by unfold argsOk; kernel_rfl
end F
abbrev zipS5 (h : Heap) (l1 l2 : Addr) : Heap := (zipH4 h l1 l2).push { cls := .type "zip", data := .fields #[.none, .bool false, .bool true, .ref (zipH2 h l1 l2).objs.size, .ref (zipH3 h l1 l2).objs.size] }
theorem meets_zipS_new (l1 l2 : Addr) (xs ys : Array Value) :
    Meets (Builtin.«zip.__new__» ⟨[.type "zip", .ref l1, .ref l2], [(Str.ofString "strict", .bool true)]⟩) (fun _ R s => s.heap.IsList l1 xs ∧ s.heap.IsList l2 ys ∧
      R (.ok (.ret (.ref (zipH4 s.heap l1 l2).objs.size))) { s with heap := zipS5 s.heap l1 l2 }) :=
  .of_wp fun prog w A R s h => by
    obtain ⟨hp, g, d, tk, os⟩ := s; obtain ⟨hl1, hl2, h⟩ := h
    have hsub := sub_zip
    have e1 : (Str.ofString "strict" != ("strict" : Str)) = false := by decide +kernel
    have hL1 : Heap.IsList (Shared.heap ⟨hp, g, d, tk, os⟩) l1 xs := hl1
    have hL2 : Heap.IsList (Shared.heap ⟨hp.push { cls := .type "list_iterator", data := .fields #[.ref l1, .int 0 0] }, g, d, tk, os⟩) l2 ys := Heap.IsList.push hl2 _
    wp_walk using wpAny_pyIter_list hL1, wpAny_pyIter_list hL2
    exact ⟨_, rfl, h⟩
section
variable {prog : Program} {w : World} {A : Around} {E : Value → Shared → Prop} {s : Shared}
theorem call_zipS {l1 l2 : Addr} {xs ys : Array Value} {Q : Value → Shared → Prop} (hl1 : s.heap.IsList l1 xs) (hl2 : s.heap.IsList l2 ys)
    (h : ∀ h', IsZipS h' (s.heap.objs.size + 4) (s.heap.objs.size + 2) (s.heap.objs.size + 3) .none → IsPair h' (s.heap.objs.size + 2) (.ref s.heap.objs.size) (.ref (s.heap.objs.size + 1)) →
      IsPair h' (s.heap.objs.size + 3) .none .none → h'.IsListIter s.heap.objs.size l1 0 → h'.IsListIter (s.heap.objs.size + 1) l2 0 → h'.objs.size = s.heap.objs.size + 5 →
      (∀ c o, s.heap.get? c = some o → h'.get? c = some o) → Q (.ref (s.heap.objs.size + 4)) { s with heap := h' }) :
    wpAny (model prog w) A (call (.type "zip") [.ref l1, .ref l2] [(Str.ofString "strict", .bool true)]) Q E s := by
  refine callType_newKw F.called_zip (by decide) (F.typeCall_zip_strict _ _ _) (F.newCall_zip_strict _ _ _) (fun obj => F.args_object_init_strict obj _ _ _) F.entry_zip_new
    (meets_zipS_new l1 l2 xs ys) ⟨hl1, hl2, ?_⟩
  have z1 : (zipH1 s.heap l1).objs.size = s.heap.objs.size + 1 := Heap.size_push ..
  have z2 : (zipH2 s.heap l1 l2).objs.size = s.heap.objs.size + 2 := by rw [Heap.size_push, z1]
  have z3 : (zipH3 s.heap l1 l2).objs.size = s.heap.objs.size + 3 := by rw [Heap.size_push, z2]
  have z4 : (zipH4 s.heap l1 l2).objs.size = s.heap.objs.size + 4 := by rw [Heap.size_push, z3]
  have z5 : (zipS5 s.heap l1 l2).objs.size = s.heap.objs.size + 5 := by rw [Heap.size_push, z4]
  have g5 : (zipS5 s.heap l1 l2).get? (zipH4 s.heap l1 l2).objs.size = some _ := Heap.get?_push_size _ rfl
  have g4 : (zipS5 s.heap l1 l2).get? (zipH3 s.heap l1 l2).objs.size = some _ := Heap.get?_push_of_some _ (Heap.get?_push_size _ rfl)
  have g3 : (zipS5 s.heap l1 l2).get? (zipH2 s.heap l1 l2).objs.size = some _ := Heap.get?_push_of_some _ (Heap.get?_push_of_some _ (Heap.get?_push_size _ rfl))
  have g2 : (zipS5 s.heap l1 l2).get? (zipH1 s.heap l1).objs.size = some _ := Heap.get?_push_of_some _ (Heap.get?_push_of_some _ (Heap.get?_push_of_some _ (Heap.get?_push_size _ rfl)))
  have g1 : (zipS5 s.heap l1 l2).get? s.heap.objs.size = some _ := Heap.get?_push_of_some _ (Heap.get?_push_of_some _ (Heap.get?_push_of_some _ (Heap.get?_push_of_some _ (Heap.get?_push_size _ rfl))))
  show _ ∧ _
  rw [z2, z3, z4] at g5
  rw [z1, z2] at g3
  rw [z3] at g4
  rw [z1] at g2
  rw [z4]
  exact ⟨⟨_, g5, rfl⟩, h _ g5 g3 g4 ⟨_, g1, rfl, rfl⟩ ⟨_, g2, rfl, rfl⟩ z5 fun c o x =>
    Heap.get?_push_of_some _ (Heap.get?_push_of_some _ (Heap.get?_push_of_some _ (Heap.get?_push_of_some _ (Heap.get?_push_of_some _ x))))⟩
theorem callWith_type_kwB {M : Model} {A : Around} {E : Value → Shared → Prop} {s : Shared} {pos : Pos} {T : String} {first : List Value} {args : List (Bool × Sem Value)} {keywords : List (Option Str × Sem Value)} {Q : Value → Shared → Prop}
    (hplain : args.any (·.1) = false) (hkw : keywords.any (·.1.isNone) = false)
    (h : wpAny M A (evalArgs (.type T) true args keywords) (fun a s₁ => wpAny M A (call (.type T) (first ++ a.pos) a.kw) Q E s₁) E s) :
    wpAny M A (callWith pos (.type T) first args keywords) Q E s := by
  unfold callWith
  refine wpAny_bind (wpAny_holding (wpAny_mono h (fun a s₁ h₁ => wpAny_bind (wpAny_standAt ?_)) fun _ _ x => x))
  simp only [hplain, hkw, Bool.or_false]
  refine wpAny_bind (wpAny_pure ?_)
  exact wpAny_bind (wpAny_mono h₁ (fun r s₂ hr => wpAny_bind (wpAny_holding (wpAny_point (wpAny_pure hr)))) fun _ _ x => x)
theorem callWith_typeKw {M : Model} {A : Around} {E : Value → Shared → Prop} {s : Shared} {env : Env} {pos : Pos} {T : String} {e : Expr} {rest : List Expr} {kws : List Keyword} {Q : Value → Shared → Prop}
    (h : wpAny M A (spliced (backTo pos (starEach (e :: rest) env))) (fun vs s₁ => wpAny M A (evalAll ((backToKw pos (keywordEach kws env)).map (·.2)))
      (fun kvs s₂ => wpAny M A (call (.type T) vs (((backToKw pos (keywordEach kws env)).filterMap (·.1)).zip kvs)) Q E s₂) E s₁) E s)
    (he : starEach (e :: rest) env = (false, eval e env) :: starEach rest env)
    (hplain : (backTo pos (starEach rest env)).any (·.1) = false)
    (hall : (backToKw pos (keywordEach kws env)).all (·.1.isSome) = true := by rfl)
    (hkw : (backToKw pos (keywordEach kws env)).any (·.1.isNone) = false := by rfl) :
    wpAny M A (callWith pos (.type T) [] (backTo pos (starEach (e :: rest) env)) (backToKw pos (keywordEach kws env))) Q E s := by
  rw [he] at h ⊢
  exact callWith_type_kwB (by show (false || (backTo pos (starEach rest env)).any (·.1)) = false; rw [hplain]; rfl) hkw (PyProof.Rows.evalArgs_kwB hall h)
end
end PySem
namespace RZ
open PySem PySem.Spec PyProof.Rows L2
/-- zip, strict: the lists at a and b as they stand at each turn, the items in new pairs; both end at once -/
def ItzS (K : PySem.W.Frag) (a b : Addr) : It :=
  ⟨(Itz K a b).go, (Itz K a b).yld, fun i H => ∃ xs ys : List V, SqL K H a xs ∧ SqL K H b ys ∧ xs.length ≤ i ∧ ys.length ≤ i⟩
theorem turn_zipS {P : Program} {w : World} {K : PySem.W.Frag} {elts : List Expr} {kk : Nat} {tpos : Pos} {a b z TI TO i1 i2 : Addr} (D : ZipApart z TI TO i1 i2 a b) :
    Turn P w K (.Tuple elts kk tpos) (ItzS K a b) [z, TI, TO, i1, i2] z (fun i h => IsZipS h z TI TO .none ∧ IsPair h TI (.ref i1) (.ref i2) ∧ (∃ x y, IsPair h TO x y) ∧ h.IsListIter i1 a i ∧ h.IsListIter i2 b i) where
  mem := by simp
  obj := fun i h st c hc => by
    obtain ⟨hz, hTI, ⟨x, y, hTO⟩, ⟨o1, e1, _, d1⟩, ⟨o2, e2, _, d2⟩⟩ := st
    have e' : c = z ∨ c = TI ∨ c = TO ∨ c = i1 ∨ c = i2 := by simpa using hc
    rcases e' with q | q | q | q | q
    · rw [q]; exact ⟨_, hz, fun v q => nomatch q⟩
    · rw [q]; exact ⟨_, hTI, fun v q => nomatch q⟩
    · rw [q]; exact ⟨_, hTO, fun v q => nomatch q⟩
    · rw [q]; exact ⟨o1, e1, fun v q => by rw [d1] at q; cases q⟩
    · rw [q]; exact ⟨o2, e2, fun v q => by rw [d2] at q; cases q⟩
  keep := fun i h h' st k => by
    obtain ⟨hz, hTI, ⟨x, y, hTO⟩, h1, h2⟩ := st
    exact ⟨k z (by simp) _ hz, k TI (by simp) _ hTI, ⟨x, y, k TO (by simp) _ hTO⟩, h1.at fun o q => k i1 (by simp) o q, h2.at fun o q => k i2 (by simp) o q⟩
  item := by
    intro X hP hw hK hc i pins s σ H E I hf st hg
    subst hP hw hK
    obtain ⟨hz, hTI, ⟨x0, y0, hTO⟩, h1, h2⟩ := st
    obtain ⟨xs, ys, x, y, hqx, hqy, hx, hy⟩ := hg
    obtain ⟨its, rv, p, _⟩ := I.list hqx
    obtain ⟨its2, rv2, p2, _⟩ := I.list hqy
    obtain ⟨u, hu, ru⟩ := rv.get hx
    obtain ⟨u2, hu2, ru2⟩ := rv2.get hy
    have hzl : z < s.heap.objs.size := Heap.lt_size hz
    refine pyNext_zipS_item D hz hTI hTO h1 h2 p.isList p2.isList (x := u) (y := u2) (by simpa using hu) (by simpa using hu2) fun h' z' TO' h1' h2' hT hsz hk => ?_
    refine ⟨_, rfl, letOwnedTupleGo_zipS (s := { s with heap := h' }) z' fun h'' z'' sb => ?_⟩
    have hT2 : h''.get? s.heap.objs.size = some { cls := .type "tuple", data := .seq #[u, u2] } := (sb.2 _ (Nat.ne_of_gt hzl)).trans hT
    have new : ObjOk X.prog X.w (upd H s.heap.objs.size (.tup [x, y])) h'' s.heap.objs.size (.tup [x, y]) :=
      ⟨by show 2 ≤ sizeLine; decide, [u, u2], .cons ru (.cons ru2 .nil), ⟨_, hT2, rfl, _, rfl⟩⟩
    have I1 : Inv X pins σ (upd H s.heap.objs.size (.tup [x, y])) { s with heap := h'' } :=
      I.turnedNew (t' := s.toks) (ch := [z, TI, TO, i1, i2]) (fun c o hb q => (sb.2 c (fun q' => hb (by simp [q']))).trans (hk c o (fun q' => hb (by simp [q'])) (fun q' => hb (by simp [q'])) (fun q' => hb (by simp [q'])) (fun q' => hb (by simp [q'])) q)) hf (Nat.le_refl _) new
    refine ⟨.ref s.heap.objs.size, _, I1, rfl, ⟨_, x, y, rfl, I.hok.fresh (Nat.le_refl _), rfl, fun l hl => by rw [I.list_inj hl hqx]; exact hx, fun l hl => by rw [I.list_inj hl hqy]; exact hy⟩, ⟨z'', ?_, ⟨u, u2, ?_⟩, ?_, ?_⟩, fun c hcm => ?_⟩
    · exact (sb.2 _ D.TIz).trans (hk _ _ D.TIz D.TITO D.TIi1 D.TIi2 hTI)
    · exact (sb.2 _ D.TOz).trans TO'
    · exact h1'.at fun o q => (sb.2 _ D.i1z).trans q
    · exact h2'.at fun o q => (sb.2 _ D.i2z).trans q
    · have hlt : c < s.heap.objs.size := by
        have e' : c = z ∨ c = TI ∨ c = TO ∨ c = i1 ∨ c = i2 := by simpa using hcm
        rcases e' with q | q | q | q | q
        · rw [q]; exact hzl
        · rw [q]; exact Heap.lt_size hTI
        · rw [q]; exact Heap.lt_size hTO
        · rw [q]; obtain ⟨_, e1, _⟩ := h1; exact Heap.lt_size e1
        · rw [q]; obtain ⟨_, e2, _⟩ := h2; exact Heap.lt_size e2
      rw [upd_ne (Nat.ne_of_lt hlt)]
      exact (hf c hcm).1
  done := by
    intro X hP hw hK hc i pins s σ H E I hf st hg
    subst hP hw hK
    obtain ⟨hz, hTI, ⟨x0, y0, hTO⟩, h1, h2⟩ := st
    obtain ⟨xs, ys, hqx, hqy, hx, hy⟩ := hg
    obtain ⟨its, rv, p, _⟩ := I.list hqx
    obtain ⟨its2, rv2, p2, _⟩ := I.list hqy
    have l1 := rv.length
    have l2 := rv2.length
    exact pyNext_zipS_end (I.ok.hd hc) D hz hTI hTO h1 h2 p.isList p2.isList (by simp; omega) (by simp; omega) fun h' hk => ⟨rfl, I.turnedL (t' := s.toks) (ch := [z, TI, TO, i1, i2]) (fun c o hb q =>
      hk c o (fun q' => hb (by simp [q'])) (fun q' => hb (by simp [q'])) (fun q' => hb (by simp [q'])) (fun q' => hb (by simp [q'])) q) hf⟩
  self := fun A i s Q E st h => pyIter_zipS st.1 h
def iZipS (K : PySem.W.Frag) (ta : TA) : TI := fun σ H R => ta σ H fun vs H1 => ∃ a b xs ys, vs = [.ref a, .ref b] ∧ SqL K H1 a xs ∧ SqL K H1 b ys ∧ R (ItzS K a b) H1
theorem pi_zipS {X : Cx} {e e2 : Expr} {ta : TA} {p pos tpos kp cp : Pos} {ck : Nat} {elts : List Expr} {kk : Nat} (hg : Gl X "zip") (hm : X.mg "zip" = none) (ha : PA X [e, e2] ta)
    (hs : starEach [e, e2] X.env = (false, eval e X.env) :: starEach [e2] X.env := by rfl) (hpl : (backTo pos (starEach [e2] X.env)).any (·.1) = false := by rfl)
    (hall : (backToKw pos (keywordEach [⟨some (Str.ofString "strict"), .Constant (.bool true) ck cp, kp⟩] X.env)).all (·.1.isSome) = true := by rfl)
    (hkw : (backToKw pos (keywordEach [⟨some (Str.ofString "strict"), .Constant (.bool true) ck cp, kp⟩] X.env)).any (·.1.isNone) = false := by rfl) :
    PI X (.Tuple elts kk tpos) (.Call (.Name "zip" p) [e, e2] [⟨some (Str.ofString "strict"), .Constant (.bool true) ck cp, kp⟩] pos) (iZipS X.K ta) := by
  refine ⟨fun pins s σ H R I h => ?_⟩
  refine wpAny_Call_Name_kw (ld_blt I hg hm PyProof.Rows.boot_zip (callWith_typeKw (thn (ha.run pos pins s σ H _ I h) fun us s1 ⟨vs, H1, I1, r1, q1⟩ => ?_) hs hpl hall hkw))
  refine PyProof.Rows.kws_cons (Constant_bool (PyProof.Rows.kws_nil ?_))
  obtain ⟨a, b, xs, ys, ex, hqx, hqy, q⟩ := q1
  subst ex
  cases r1 with
  | cons r rr =>
    cases rr with
    | cons r' rr =>
      cases rr
      cases r
      cases r'
      obtain ⟨its, rv, p1, _⟩ := I1.list hqx
      obtain ⟨its2, rv2, p2, _⟩ := I1.list hqy
      have la : a < s1.heap.objs.size := p1.lt
      have lb : b < s1.heap.objs.size := p2.lt
      refine call_zipS p1.isList p2.isList fun h' hz hTI hTO h1 h2 hsz hk => pyIter_zipS hz ?_
      have I2 : Inv X pins σ H1 { s1 with heap := h' } := I1.kept (t' := s1.toks) hk
      refine ⟨s1.heap.objs.size + 4, [s1.heap.objs.size + 4, s1.heap.objs.size + 2, s1.heap.objs.size + 3, s1.heap.objs.size, s1.heap.objs.size + 1], _, _, H1, rfl, I2, turn_zipS (PySem.W.ktu_apart s1.heap.objs.size a b la lb), ⟨hz, hTI, ⟨_, _, hTO⟩, h1, h2⟩, fun c hcm => ?_, q⟩
      have e' : c = s1.heap.objs.size + 4 ∨ c = s1.heap.objs.size + 2 ∨ c = s1.heap.objs.size + 3 ∨ c = s1.heap.objs.size ∨ c = s1.heap.objs.size + 1 := by simpa using hcm
      have hle : s1.heap.objs.size ≤ c := by
        rcases e' with z | z | z | z | z
        · rw [z]; exact Nat.le_add_right _ _
        · rw [z]; exact Nat.le_add_right _ _
        · rw [z]; exact Nat.le_add_right _ _
        · rw [z]; exact Nat.le_refl _
        · rw [z]; exact Nat.le_add_right _ _
      exact I1.fpOk hle (I1.hok.fresh hle)
end RZ
namespace DL
open PySem PySem.Spec PyProof.Rows L2
/-! DLM: zip(xs, ys, strict=True) of two lists of one length -/
theorem Wlk.zipS {K : PySem.W.Frag} {ph : Ph} {S : Hp} {a b : Addr} {d1 d2 : List D} {C1 C2 : Mem → Prop} (hl : d1.length = d2.length)
    (h1 : ∀ (ph' : Ph) (S' : Hp) (r' : Env) (M' : Mem) (σ' : St) (H' : Hp), (∀ (k : Nat) (a : Addr), ph.cells[k]? = some a → ph'.cells[k]? = some a) → Same S S' → Sat K ph' S' r' M' σ' H' → C1 M' → ∃ xs, SqL K H' a xs ∧ RepAll K ph' S' xs d1)
    (h2 : ∀ (ph' : Ph) (S' : Hp) (r' : Env) (M' : Mem) (σ' : St) (H' : Hp), (∀ (k : Nat) (a : Addr), ph.cells[k]? = some a → ph'.cells[k]? = some a) → Same S S' → Sat K ph' S' r' M' σ' H' → C2 M' → ∃ xs, SqL K H' b xs ∧ RepAll K ph' S' xs d2) :
    Wlk K ph S (RZ.ItzS K a b) (List.zipWith pairD d1 d2) (fun M => C1 M ∧ C2 M) := fun ph' S' r M σ H e1 e2 hs hc => by
  obtain ⟨xs, q1, qa1⟩ := h1 ph' S' r M σ H e1 e2 hs hc.1
  obtain ⟨ys, q2, qa2⟩ := h2 ph' S' r M σ H e1 e2 hs hc.2
  refine ⟨fun i hi => ⟨xs, ys, q1, q2, by rw [qa1.len]; rw [List.length_zipWith] at hi; omega, by rw [qa2.len]; rw [List.length_zipWith] at hi; omega⟩, fun i d e => ?_⟩
  obtain ⟨x, y, ex, ey, rfl⟩ := zip_get e
  obtain ⟨u, eu, qu⟩ := qa1.get ex
  obtain ⟨w, ew, qw⟩ := qa2.get ey
  refine ⟨⟨xs, ys, u, w, q1, q2, eu, ew⟩, fun z H' ⟨T, u', w', ez, hT, eH, f1, f2⟩ => ?_⟩
  have e3 := f1 xs q1
  have e4 := f2 ys q2
  rw [eu] at e3; cases e3
  rw [ew] at e4; cases e4
  subst ez eH
  obtain ⟨x1, hs1⟩ := hs.frz hT (.tup [u, w])
  exact ⟨_, _, _, x1, hs1, rfl, .tup (.inl upd_same) ((RepAll.two qu qw).up x1)⟩
def gZipS (ds : List D) (M : Mem) (R : List D → (Mem → Prop) → Mem → Prop) : Prop := match ds with
  | [x, y] => match lsqD M x, lsqD M y with
    | some (xs, C1), some (ys, C2) => xs.length = ys.length ∧ R (List.zipWith pairD xs ys) (fun M' => C1 M' ∧ C2 M') M
    | _, _ => False
  | _ => False
section
variable {X : Cx}
theorem di_zipS {a b : Expr} {t : DTA} {p pos tpos kp cp : Pos} {ck : Nat} {elts : List Expr} {kk : Nat} (hm : X.mg "zip" = none) (ha : DA X [a, b] t) (hg : Gl X "zip" := by rfl)
    (hs : starEach [a, b] X.env = (false, eval a X.env) :: starEach [b] X.env := by rfl) (hpl : (backTo pos (starEach [b] X.env)).any (·.1) = false := by rfl)
    (hall : (backToKw pos (keywordEach [⟨some (Str.ofString "strict"), .Constant (.bool true) ck cp, kp⟩] X.env)).all (·.1.isSome) = true := by rfl)
    (hkw : (backToKw pos (keywordEach [⟨some (Str.ofString "strict"), .Constant (.bool true) ck cp, kp⟩] X.env)).any (·.1.isNone) = false := by rfl) : DI X (.Tuple elts kk tpos) (.Call (.Name "zip" p) [a, b] [⟨some (Str.ofString "strict"), .Constant (.bool true) ck cp, kp⟩] pos) (dRngI gZipS t) :=
  ⟨PI.weak (RZ.pi_zipS hg hm ha.pa hs hpl hall hkw) fun σ H R ⟨ph, S, r, M, Q0, hs, ht, hq⟩ => ⟨ph, S, r, M, _, hs, ht, fun vs H1 ⟨ph1, S1, M1, x1, hs1, ds, q1, g1⟩ => by
    match ds, q1, g1 with
    | [x, y], .cons qx (.cons qy .nil), g =>
      unfold gZipS at g
      dsimp only at g
      split at g
      · rename_i xs C1 ys C2 e1 e2
        obtain ⟨hl, g⟩ := g
        obtain ⟨u, rfl, ⟨us, hu⟩, w1⟩ := lsq_rep hs1 qx e1
        obtain ⟨w, rfl, ⟨ws, hw⟩, w2⟩ := lsq_rep hs1 qy e2
        exact ⟨u, w, us, ws, rfl, hu, hw, hq _ _ ⟨ph1, S1, M1, x1, hs1, _, _, Wlk.zipS hl w1 w2, g⟩⟩
      · exact g.elim⟩⟩
end
end DL
namespace DL
open PySem PySem.Spec PyProof.Rows L2
end DL
namespace DL
open PySem PySem.Spec PyProof.Rows L2
end DL
namespace DL
open PySem PySem.Spec PyProof.Rows L2
/-! DLE: owned lists within owned lists: comparisons and reprs -/
def resE (M : Mem) : Nat → D → D
  | 0, d => d
  | n + 1, .own k => match cellL M k with
    | some ds => .lst (ds.map (resE M n))
    | none => .own k
  | n + 1, .tup l => .tup (l.map (resE M n))
  | n + 1, .lst l => .lst (l.map (resE M n))
  | _ + 1, d => d
section
variable {K : PySem.W.Frag} {ph : Ph} {S : Hp} {r : Env} {M : Mem} {σ : St} {H : Hp}
theorem RepAll.mapE {f : D → D} (h : ∀ (d : D) (v : V), Rep K ph S v d → Rep K ph H v (f d)) : ∀ (ds : List D) (vs : List V), RepAll K ph S vs ds → RepAll K ph H vs (ds.map f)
  | [], _, .nil => .nil
  | d :: ds, _, .cons q t => .cons (h d _ q) (RepAll.mapE h ds _ t)
theorem Rep.resE (hs : Sat K ph S r M σ H) : ∀ (n : Nat) (d : D) (v : V), Rep K ph S v d → Rep K ph H v (resE M n d)
  | 0, d, v, q => hs.read q
  | n + 1, .own k, v, q => by
    unfold DL.resE
    split
    · rename_i ds hk
      have hk' : M[k]? = some (.lst ds) := by
        unfold cellL at hk
        split at hk
        · rename_i e; cases hk; exact e
        · cases hk
      cases q with
      | own h =>
        obtain ⟨a, xs, c1, c2, c3, c4⟩ := hs.cell k ds hk'
        rw [h] at c1; cases c1
        exact .lst c3 (RepAll.mapE (fun d v q => Rep.resE hs n d v q) _ _ c4)
    · exact hs.read q
  | n + 1, .tup l, _, .tup h1 h2 => by
    unfold DL.resE
    exact .tup (h1.ext hs.sub) (RepAll.mapE (fun d v q => Rep.resE hs n d v q) _ _ h2)
  | n + 1, .lst l, _, .lst h1 h2 => by
    unfold DL.resE
    exact .lst (hs.sub _ _ h1) (RepAll.mapE (fun d v q => Rep.resE hs n d v q) _ _ h2)
  | _ + 1, .non, _, q => hs.read q
  | _ + 1, .bl _, _, q => hs.read q
  | _ + 1, .int _, _, q => hs.read q
  | _ + 1, .str _, _, q => hs.read q
  | _ + 1, .dct0, _, q => hs.read q
  | _ + 1, .scr _, _, q => hs.read q
  | _ + 1, .exc _ _, _, q => hs.read q
  | _ + 1, .glb _, _, q => hs.read q
  | _ + 1, .val _, _, q => hs.read q
end
section
variable {X : Cx} {K : PySem.W.Frag} {ph : Ph} {S : Hp} {r : Env} {M : Mem} {σ : St} {H : Hp}
theorem resE_str {d : D} {z : Str} (h : DL.resE M 4 d = .str z) : d = .str z := by
  cases d <;> unfold DL.resE at h <;> first | exact h | (split at h <;> cases h) | cases h
end
def gEqE : G2 := fun x y M Q => match eqB (resE M 4 x) (resE M 4 y) with
  | some b => Q (.bl b) M
  | none => False
def gNeE : G2 := fun x y M Q => match eqB (resE M 4 x) (resE M 4 y) with
  | some b => Q (.bl (!b)) M
  | none => False
theorem opd_eqE (hu : X.A.units + 64 < cLine) : OpD X (compareOp .Eq) gEqE := by
  intro pins s σ H ph S r M x y dx dy v u Q I hs rx ry qx qy hg
  unfold gEqE at hg
  split at hg
  · rename_i b e
    rcases eqB_of e with ⟨p, q, e1, e2, rfl⟩ | ⟨p, q, e1, e2, rfl⟩
    · cases resE_str e1; cases resE_str e2
      cases qx; cases qy
      obtain ⟨_, rfl⟩ := rx
      obtain ⟨_, rfl⟩ := ry
      exact PyProof.Rows.eq_str ⟨.bl _, H, I, rfl, Aft.here hs ⟨_, .bl _, hg⟩⟩
    · obtain ⟨as, h1, _⟩ := Rep.reads I _ _ _ _ (Rep.resE hs 4 _ _ qx) rx (cmpd_some e1).1
      obtain ⟨bs, h2, _⟩ := Rep.reads I _ _ _ _ (Rep.resE hs 4 _ _ qy) ry (cmpd_some e2).1
      exact SeqAt.compareEq_shaped h1 h2 (cmpd_some e1).2 (cmpd_some e2).2 hu ⟨.bl _, H, I, rfl, Aft.here hs ⟨_, .bl _, hg⟩⟩
  · exact hg.elim
theorem opd_neE (hu : X.A.units + 64 < cLine) : OpD X (compareOp .NotEq) gNeE := by
  intro pins s σ H ph S r M x y dx dy v u Q I hs rx ry qx qy hg
  unfold gNeE at hg
  split at hg
  · rename_i b e
    rcases eqB_of e with ⟨p, q, e1, e2, rfl⟩ | ⟨p, q, e1, e2, rfl⟩
    · cases resE_str e1; cases resE_str e2
      cases qx; cases qy
      obtain ⟨_, rfl⟩ := rx
      obtain ⟨_, rfl⟩ := ry
      exact PyProof.Rows.ne_str ⟨.bl _, H, I, rfl, Aft.here hs ⟨_, .bl _, hg⟩⟩
    · obtain ⟨as, h1, _⟩ := Rep.reads I _ _ _ _ (Rep.resE hs 4 _ _ qx) rx (cmpd_some e1).1
      obtain ⟨bs, h2, _⟩ := Rep.reads I _ _ _ _ (Rep.resE hs 4 _ _ qy) ry (cmpd_some e2).1
      exact SeqAt.compareNe_shaped h1 h2 (cmpd_some e1).2 (cmpd_some e2).2 hu ⟨.bl _, H, I, rfl, Aft.here hs ⟨_, .bl _, hg⟩⟩
  · exact hg.elim
def gReprE : GA := fun ds M Q => match ds with
  | [d] => match shwnZ (resE M 4 d) with
    | some z => Q (.str z) M
    | none => False
  | _ => False
section
variable {X : Cx}
theorem cd_reprE (gd : X.A.guards = some []) (hu : X.A.units + 200 < cLine) : CallD X (.builtin "repr") gReprE := by
  intro pins s σ H ph S r M vs us ds Q I hs rv q hg
  match ds, vs, us, rv, q, hg with
  | [d], [v], [u], .cons ru .nil, .cons q .nil, hg =>
    unfold gReprE at hg
    dsimp only at hg
    split at hg
    · rename_i z ez
      unfold shwnZ at ez
      split at ez
      · rename_i p ep
        by_cases hp : p.showable = true ∧ p.depth ≤ 64 ∧ p.shown.length ≤ sizeLine ∧ (p.hasDict = false ∨ okZ (resE M 4 d) = true)
        · rw [if_pos hp] at ez
          cases ez
          have qd := Rep.resE hs 4 _ _ q
          have plain : ∀ as, Reads s.heap u p as → (p.hasDict = true → sysModules ∉ as) → wpAny (model X.prog X.w) X.A (call (.builtin "repr") [u]) (fun x s' => ∃ v H', Inv X pins σ H' s' ∧ RelV v x ∧ Aft X.K ph S r σ H' fun ph' S' M' => ∃ d', Rep X.K ph' S' v d' ∧ Q d' M') X.xe s := fun as h1 hn => by
            by_cases hr : ∃ a, u = .ref a
            · obtain ⟨a, rfl⟩ := hr
              refine PySem.repr_of_reads' h1 hp.1 hn gd ?_ (fun _ _ e => e) (fun h' u tk k => ⟨.str p.shown, H, I.kept k, ⟨_, rfl⟩, Aft.here hs ⟨_, .str _, hg⟩⟩) hp.2.2.1
              have := hp.2.1; omega
            · exact shown_flat h1 (fun a e => hr ⟨a, e⟩) hp.1 hp.2.2.1 fun tk tk' => ⟨.str p.shown, H, I.tok _, ⟨_, rfl⟩, Aft.here hs ⟨_, .str _, hg⟩⟩
          rcases hp.2.2.2 with h0 | h0
          · obtain ⟨as, h1, _⟩ := Rep.reads I _ _ _ _ qd ru ep
            exact plain as h1 fun z => by rw [h0] at z; cases z
          · by_cases hl : nolst (resE M 4 d) = true
            · obtain ⟨as, h1, h2⟩ := Rep.readsZ I _ _ _ _ qd ru ep hl
              exact plain as h1 fun _ => h2
            · generalize resE M 4 d = dd at *
              cases dd with
              | lst l =>
                cases qd with
                | lst g1 g2 =>
                  cases ru
                  simp only [toPy] at ep
                  split at ep
                  · rename_i ps eps
                    cases ep
                    obtain ⟨its, rx, ⟨o, n, ho, hc, _, hd⟩, _⟩ := I.list (SqL.of g1)
                    obtain ⟨as, q2, qa⟩ := RepAll.readsZ I l _ its ps g2 rx eps h0
                    refine repr_listZ ho hc hd q2 (by simpa only [PyData.showable] using hp.1) qa gd ?_ hp.2.2.1 fun h' u tk k => ⟨.str _, H, I.kept k, ⟨_, rfl⟩, Aft.here hs ⟨_, .str _, hg⟩⟩
                    have := hp.2.1
                    simp only [PyData.depth] at this
                    omega
                  · cases ep
              | _ => exact absurd h0 hl
        · rw [if_neg hp] at ez; cases ez
      · cases ez
    · exact hg.elim
end
end DL
namespace DL
open PySem PySem.Spec PyProof.Rows L2
def t_turned_about_o : DTS :=
 (dRet (dLc true (dRngI gRng1 (dCons (dC (.int 4)) dNil)) (dName 1) dYes (dLc true (dSeqI (dVar 0)) (dName 2) dYes (dOp gIx (dVar 2) (dVar 1)) [2]) [1]))
def t_l_columns_d906 : DTS :=
 (dRet (dLc false (dRngI gRng1 (dCons (dC (.int 4)) dNil)) (dName 1) dYes (dLc false (dSeqI (dVar 0)) (dName 2) dYes (dOp gIx (dVar 2) (dVar 1)) [2]) [1]))
def t_l_base_3ec4 : DTS :=
 (dRet (dLc false (dRngI gRng1 (dCons (dC (.int 4)) dNil)) (dName 1) dYes (dCB gInt (dCons (dOp gEq (dVar 0) (dVar 1)) dNil)) [1]))
def t_l_keeps_2d4c (c_l_columns_d906 : DSp) (c_l_crossing_3f18 : DSp) (c_l_base_3ec4 : DSp) : DTS :=
 (dSeq (dAsg (dCall 1 c_l_columns_d906 [] DX0 (dCons (dVar 0) dNil)) (dName 1))
 (dSeq (dFor (dRngI gRng1 (dCons (dC (.int 4)) dNil)) (dName 2) (dFor (dRngI gRng1 (dCons (dC (.int 4)) dNil)) (dName 3) (dIfS (dTru (dOp gNe (dCall 2 c_l_crossing_3f18 [] DX0 (dCons (dOp gIx (dVar 1) (dVar 2)) (dCons (dOp gIx (dVar 1) (dVar 3)) dNil))) (dCall 2 c_l_crossing_3f18 [] DX0 (dCons (dCall 1 c_l_base_3ec4 [] DX0 (dCons (dVar 2) dNil)) (dCons (dCall 1 c_l_base_3ec4 [] DX0 (dCons (dVar 3) dNil)) dNil))))) (dRet (dC (.bl false))) dNext)))
 (dRet (dC (.bl true)))))
def t_l_led_3b4c : DTS :=
 (dRet (dLc false (dSeqI (dVar 0)) (dName 2) dYes (dCB gSum (dCons (dLc false (dRngI gZip (dCons (dVar 2) (dCons (dVar 1) dNil))) (dGTup 2 (dGCons (dName 3) (dGCons (dName 4) dGNil))) dYes (dOp (rBin CMul fun i j => i * j) (dVar 3) (dVar 4)) [3, 4]) dNil)) [2]))
def t_keeps_by (c_turned_about_o : DSp) (c_crossing_by : DSp) : DTS :=
 (dSeq (dAsg (dCall 1 c_turned_about_o [] DX0 (dCons (dVar 0) dNil)) (dName 1))
 (dSeq (dFor (dRngI gEnum (dCons (dVar 1) dNil)) (dGTup 2 (dGCons (dName 2) (dGCons (dName 3) dGNil))) (dFor (dRngI gEnum (dCons (dVar 1) dNil)) (dGTup 2 (dGCons (dName 4) (dGCons (dName 5) dGNil))) (dIfS (dTru (dOp gNe (dCall 2 c_crossing_by [] DX0 (dCons (dVar 3) (dCons (dVar 5) dNil))) (dCall 2 c_crossing_by [] DX0 (dCons (dOp gIx (dC (.tup [(.tup [.int 1, .int 0, .int 0, .int 0]), (.tup [.int 0, .int 1, .int 0, .int 0]), (.tup [.int 0, .int 0, .int 1, .int 0]), (.tup [.int 0, .int 0, .int 0, .int 1])])) (dVar 2)) (dCons (dOp gIx (dC (.tup [(.tup [.int 1, .int 0, .int 0, .int 0]), (.tup [.int 0, .int 1, .int 0, .int 0]), (.tup [.int 0, .int 0, .int 1, .int 0]), (.tup [.int 0, .int 0, .int 0, .int 1])])) (dVar 4)) dNil))))) (dRet (dC (.bl false))) dNext)))
 (dRet (dC (.bl true)))))
def t_path_led : DTS :=
 (dRet (dLc false (dSeqI (dVar 0)) (dName 2) dYes (dCB gSum (dCons (dLc false (dRngI gZipS (dCons (dVar 2) (dCons (dVar 1) dNil))) (dGTup 2 (dGCons (dName 3) (dGCons (dName 4) dGNil))) dYes (dOp (rBin CMul fun i j => i * j) (dVar 3) (dVar 4)) [3, 4]) dNil)) [2]))
end DL
namespace DL
open PySem PySem.Spec PyProof.Rows L2
def t_table_times (c_turned_about : DSp) (c_path_led : DSp) : DTS :=
 (dRet (dCall 1 c_turned_about [] DX0 (dCons (dLc false (dSeqI (dCall 1 c_turned_about [] DX0 (dCons (dVar 1) dNil))) (dName 2) dYes (dCall 2 c_path_led [] DX0 (dCons (dVar 0) (dCons (dVar 2) dNil))) [2]) dNil)))
def t_l_self_a3eb (c_l_base_3ec4 : DSp) : DTS :=
 (dRet (dLc false (dRngI gRng1 (dCons (dC (.int 4)) dNil)) (dName 0) dYes (dCall 1 c_l_base_3ec4 [] DX0 (dCons (dVar 0) dNil)) [0]))
def t_back_of_o : DTS :=
 (dSeq (dAsg (dOwn dNil) (dName 1))
 (dSeq (dFor (dRngI gRng1 (dCons (dC (.int 4)) dNil)) (dName 2) (dSeq (dAsg (dIf (dTru (dOp gEq (dOp (rBin CMod fun i j => i.fmod j) (dVar 2) (dC (.int 2))) (dC (.int 0)))) (dOp gAdd (dVar 2) (dC (.int 1))) (dOp (rBin (fun _ _ => True) fun i j => i - j) (dVar 2) (dC (.int 1)))) (dName 3))
 (dSeq (dAsg (dIf (dTru (dOp gEq (dOp (rBin CMod fun i j => i.fmod j) (dVar 2) (dC (.int 2))) (dC (.int 0)))) (dC (.int 1)) (dNeg (dC (.int 1)))) (dName 4))
 (dSeq (dAsg (dOwn dNil) (dName 5))
 (dSeq (dFor (dRngI gRng1 (dCons (dC (.int 4)) dNil)) (dName 6) (dSeq (dAsg (dIf (dTru (dOp gEq (dOp (rBin CMod fun i j => i.fmod j) (dVar 6) (dC (.int 2))) (dC (.int 0)))) (dOp gAdd (dVar 6) (dC (.int 1))) (dOp (rBin (fun _ _ => True) fun i j => i - j) (dVar 6) (dC (.int 1)))) (dName 7))
 (dDrop (dMet gAppend (dVar 5) (dCons (dOp (rBin CMul fun i j => i * j) (dOp (rBin CMul fun i j => i * j) (dVar 4) (dIf (dTru (dOp gEq (dOp (rBin CMod fun i j => i.fmod j) (dVar 6) (dC (.int 2))) (dC (.int 0)))) (dC (.int 1)) (dNeg (dC (.int 1))))) (dOp gIx (dOp gIx (dVar 0) (dVar 7)) (dVar 3))) dNil)))))
 (dDrop (dMet gAppend (dVar 1) (dCons (dVar 5) dNil))))))))
 (dRet (dVar 1))))
end DL
namespace DL
open PySem PySem.Spec PyProof.Rows L2
def t_table_times_o (c_turned_about_o : DSp) (c_path_led : DSp) : DTS :=
 (dRet (dCall 1 c_turned_about_o [] DX0 (dCons (dLc false (dSeqI (dCall 1 c_turned_about_o [] DX0 (dCons (dVar 1) dNil))) (dName 2) dYes (dCall 2 c_path_led [] DX0 (dCons (dVar 0) (dCons (dVar 2) dNil))) [2]) dNil)))
def t_l_led_ea66 : DTS :=
 (dRet (dLc false (dSeqI (dVar 0)) (dName 2) dYes (dCB gSum (dCons (dLc false (dRngI gZip (dCons (dVar 2) (dCons (dVar 1) dNil))) (dGTup 2 (dGCons (dName 3) (dGCons (dName 4) dGNil))) dYes (dOp (rBin CMul fun i j => i * j) (dVar 3) (dVar 4)) [3, 4]) dNil)) [2]))
def t_l_product_3b0c (c_l_columns_d906 : DSp) (c_l_led_ea66 : DSp) : DTS :=
 (dRet (dCall 1 c_l_columns_d906 [] DX0 (dCons (dLc false (dSeqI (dCall 1 c_l_columns_d906 [] DX0 (dCons (dVar 1) dNil))) (dName 2) dYes (dCall 2 c_l_led_ea66 [] DX0 (dCons (dVar 0) (dCons (dVar 2) dNil))) [2]) dNil)))
def t_l_back_51d9 (c_l_columns_d906 : DSp) (c_l_crossing_3f18 : DSp) (c_l_base_3ec4 : DSp) : DTS :=
 (dSeq (dPar 1 2 (dCons (dCall 1 c_l_columns_d906 [] DX0 (dCons (dVar 0) dNil)) (dCons (dOwn dNil) dNil)))
 (dSeq (dFor (dSeqI (dLst (dCons (dOp gIx (dVar 1) (dC (.int 1))) (dCons (dOp gIx (dVar 1) (dC (.int 0))) (dCons (dOp gIx (dVar 1) (dC (.int 3))) (dCons (dOp gIx (dVar 1) (dC (.int 2))) dNil)))))) (dName 3) (dDrop (dMet gAppend (dVar 2) (dCons (dLc false (dRngI gRng1 (dCons (dC (.int 4)) dNil)) (dName 4) dYes (dCall 2 c_l_crossing_3f18 [] DX0 (dCons (dCall 1 c_l_base_3ec4 [] DX0 (dCons (dVar 4) dNil)) (dCons (dVar 3) dNil))) [4]) dNil))))
 (dRet (dLst (dCons (dOp gIx (dVar 2) (dC (.int 0))) (dCons (dLc false (dSeqI (dOp gIx (dVar 2) (dC (.int 1)))) (dName 5) dYes (dOp (rBin (fun _ _ => True) fun i j => i - j) (dC (.int 0)) (dVar 5)) [5]) (dCons (dOp gIx (dVar 2) (dC (.int 2))) (dCons (dLc false (dSeqI (dOp gIx (dVar 2) (dC (.int 3)))) (dName 5) dYes (dOp (rBin (fun _ _ => True) fun i j => i - j) (dC (.int 0)) (dVar 5)) [5]) dNil))))))))
end DL
namespace DL
open PySem PySem.Spec PyProof.Rows L2
def errL_k43 : List Str := ["InvalidList", "InvalidTable"]
def t_l_stepped_3049 (c_l_random_7821 : DSp) : DTS :=
 (dSeq (dAsg (dTup (dCons (dLc true (dSeqI (dVar 1)) (dName 5) dYes (dCB (gList false) (dCons (dVar 5) dNil)) [5]) (dCons (dCall 2 c_l_random_7821 [] DX0 (dCons (dVar 0) (dCons (dC (.int 4)) dNil))) (dCons (dOp (rBin (fun _ _ => True) fun i j => i - j) (dCall 2 c_l_random_7821 [] DX0 (dCons (dVar 0) (dCons (dC (.int 9)) dNil))) (dC (.int 4))) dNil)))) (dGTup 3 (dGCons (dName 2) (dGCons (dName 3) (dGCons (dName 4) dGNil)))))
 (dSeq (dIfS (dTru (dOp gEq (dVar 3) (dC (.int 0)))) (dSeq (dAsg (dOp gAdd (dOp (rBin CMul fun i j => i * j) (dC (.int 2)) (dCall 2 c_l_random_7821 [] DX0 (dCons (dVar 0) (dCons (dC (.int 2)) dNil)))) (dCall 2 c_l_random_7821 [] DX0 (dCons (dVar 0) (dCons (dC (.int 2)) dNil)))) (dName 6))
 (dSeq (dAsg (dIf (dTru (dOp gEq (dOp (rBin CMod fun i j => i.fmod j) (dCB gInt (dCons (dVar 6) dNil)) (dC (.int 2))) (dC (.int 0)))) (dOp gAdd (dVar 6) (dC (.int 1))) (dOp (rBin (fun _ _ => True) fun i j => i - j) (dVar 6) (dC (.int 1)))) (dName 7))
 (dAsg (dLc false (dRngI gZip (dCons (dOp gIx (dVar 2) (dVar 6)) (dCons (dOp gIx (dVar 2) (dVar 7)) dNil))) (dGTup 2 (dGCons (dName 8) (dGCons (dName 9) dGNil))) dYes (dOp gAdd (dVar 8) (dOp (rBin CMul fun i j => i * j) (dVar 4) (dVar 9))) [8, 9]) (dSub (dVar 2) (dVar 6))))) dNext)
 (dSeq (dIfS (dTru (dOp gEq (dVar 3) (dC (.int 1)))) (dAsg (dOwn (dCons (dOp gIx (dVar 2) (dC (.int 2))) (dCons (dOp gIx (dVar 2) (dC (.int 3))) (dCons (dOp gIx (dVar 2) (dC (.int 0))) (dCons (dOp gIx (dVar 2) (dC (.int 1))) dNil))))) (dName 2)) dNext)
 (dSeq (dIfS (dTru (dOp gEq (dVar 3) (dC (.int 2)))) (dAsg (dOp gAddO (dLst (dCons (dOp gIx (dVar 2) (dC (.int 1))) (dCons (dLc false (dSeqI (dOp gIx (dVar 2) (dC (.int 0)))) (dName 10) dYes (dOp (rBin (fun _ _ => True) fun i j => i - j) (dC (.int 0)) (dVar 10)) [10]) dNil))) (dSl (gSl false) (dVar 2) (dPart (dC (.int 2))) dNoPart)) (dName 2)) dNext)
 (dSeq (dIfS (dTru (dOp gEq (dVar 3) (dC (.int 3)))) (dSeq (dAsg (dLc false (dRngI gZip (dCons (dOp gIx (dVar 2) (dC (.int 0))) (dCons (dOp gIx (dVar 2) (dC (.int 2))) dNil))) (dGTup 2 (dGCons (dName 8) (dGCons (dName 9) dGNil))) dYes (dOp gAdd (dVar 8) (dOp (rBin CMul fun i j => i * j) (dVar 4) (dVar 9))) [8, 9]) (dSub (dVar 2) (dC (.int 0))))
 (dAsg (dLc false (dRngI gZip (dCons (dOp gIx (dVar 2) (dC (.int 3))) (dCons (dOp gIx (dVar 2) (dC (.int 1))) dNil))) (dGTup 2 (dGCons (dName 8) (dGCons (dName 9) dGNil))) dYes (dOp (rBin (fun _ _ => True) fun i j => i - j) (dVar 8) (dOp (rBin CMul fun i j => i * j) (dVar 4) (dVar 9))) [8, 9]) (dSub (dVar 2) (dC (.int 3))))) dNext)
 (dRet (dFrz (dVar 2))))))))
def t_check_table_x (c_is_path_list : DSp) : DXE → DTS :=
 fun E => (dIfS (dOr (dNot (dTru (dCB gIsi (dCons (dVar 0) (dCons (dC (.val (.ty "list"))) dNil))))) (dOr (dTru (dOp gNe (dCB gLen (dCons (dVar 0) dNil)) (dC (.int 4)))) (dTru (dOp gNe (dLc false (dSeqI (dVar 0)) (dName 1) (dNot (dTru (dCall 1 c_is_path_list [] DX0 (dCons (dVar 1) dNil)))) (dVar 1) [1]) (dLst dNil))))) (dRaise "InvalidTable" (dCons (dVar 0) dNil) E) dNext)
def t_table_product_o_x (c_check_table_x : DSp) (c_table_times_o : DSp) : DXE → DTS :=
 fun E => (dSeq (dDrop (dCallX 1 c_check_table_x (fun E => (dCons (dVar 0) dNil)) E))
 (dSeq (dDrop (dCallX 1 c_check_table_x (fun E => (dCons (dVar 1) dNil)) E))
 (dRet (dCall 2 c_table_times_o [] DX0 (dCons (dVar 0) (dCons (dVar 1) dNil))))))
def t_check_path_x (c_is_path_list : DSp) : DXE → DTS :=
 fun E => (dIfS (dNot (dTru (dCall 1 c_is_path_list [] DX0 (dCons (dVar 0) dNil)))) (dRaise "InvalidList" (dCons (dVar 0) dNil) E) dNext)
def t_path_led_o : DTS :=
 (dRet (dLc true (dSeqI (dVar 0)) (dName 2) dYes (dCB gSum (dCons (dLc false (dRngI gZipS (dCons (dVar 2) (dCons (dVar 1) dNil))) (dGTup 2 (dGCons (dName 3) (dGCons (dName 4) dGNil))) dYes (dOp (rBin CMul fun i j => i * j) (dVar 3) (dVar 4)) [3, 4]) dNil)) [2]))
def t_led_path_o_x (c_check_table_x : DSp) (c_check_path_x : DSp) (c_path_led_o : DSp) : DXE → DTS :=
 fun E => (dSeq (dDrop (dCallX 1 c_check_table_x (fun E => (dCons (dVar 0) dNil)) E))
 (dSeq (dDrop (dCallX 1 c_check_path_x (fun E => (dCons (dVar 1) dNil)) E))
 (dRet (dCall 2 c_path_led_o [] DX0 (dCons (dVar 0) (dCons (dVar 1) dNil))))))
def t_keeps_crossings_x (c_check_table_x : DSp) (c_keeps_by : DSp) : DXE → DTS :=
 fun E => (dSeq (dDrop (dCallX 1 c_check_table_x (fun E => (dCons (dVar 0) dNil)) E))
 (dRet (dCall 1 c_keeps_by [] DX0 (dCons (dVar 0) dNil))))
def t_table_back_o_x (c_check_table_x : DSp) (c_keeps_by : DSp) (c_back_of_o : DSp) : DXE → DTS :=
 fun E => (dSeq (dDrop (dCallX 1 c_check_table_x (fun E => (dCons (dVar 0) dNil)) E))
 (dSeq (dIfS (dNot (dTru (dCall 1 c_keeps_by [] DX0 (dCons (dVar 0) dNil)))) (dRaise "InvalidTable" (dCons (dVar 0) dNil) E) dNext)
 (dRet (dCall 1 c_back_of_o [] DX0 (dCons (dVar 0) dNil)))))
def t_l_refused_c25c (c_table_back_o_x : DSp) : DTS :=
 (dSeq (dAsg (dC .non) (dName 1))
 (dSeq (dTry "SheetError" 2 (fun E => (dDrop (dCallX 1 c_table_back_o_x (fun E => (dCons (dVar 0) dNil)) E))) (dAsg (dAndV (dCB (gIsx errL_k43) (dCons (dVar 2) (dCons (dC (.glb "InvalidTable")) dNil))) (dOp gEqE (dCB gReprE (dCons (dFld (dVar 2)) dNil)) (dCB gReprE (dCons (dVar 0) dNil)))) (dName 1)))
 (dRet (dOp (gIs false) (dVar 1) (dC (.bl true))))))
def t_l_one_right_7eef (c_l_keeps_2d4c : DSp) (c_keeps_crossings : DSp) (c_l_refused_c25c : DSp) (c_table_back_o : DSp) (c_l_back_51d9 : DSp) (c_l_product_3b0c : DSp) (c_l_self_a3eb : DSp) : DTS :=
 (dSeq (dPar 1 2 (dCons (dCall 1 c_l_keeps_2d4c [] DX0 (dCons (dVar 0) dNil)) (dCons (dCB gReprE (dCons (dVar 0) dNil)) dNil)))
 (dSeq (dIfS (dOr (dTru (dOp gNeE (dCB gReprE (dCons (dCall 1 c_keeps_crossings [] DX0 (dCons (dVar 0) dNil)) dNil)) (dCB gReprE (dCons (dVar 1) dNil)))) (dOr (dTru (dOp gNeE (dCB gReprE (dCons (dCallK 1 1 c_keeps_crossings [0] DX0 (dCons (dVar 0) dNil)) dNil)) (dCB gReprE (dCons (dVar 1) dNil)))) (dTru (dOp gNeE (dCB gReprE (dCons (dVar 0) dNil)) (dVar 2))))) (dRet (dC (.bl false))) dNext)
 (dSeq (dIfS (dNot (dTru (dVar 1))) (dRet (dCall 1 c_l_refused_c25c [] DX0 (dCons (dVar 0) dNil))) dNext)
 (dSeq (dAsg (dCall 1 c_table_back_o [] DX0 (dCons (dVar 0) dNil)) (dName 3))
 (dSeq (dIfS (dOr (dTru (dOp gNeE (dVar 3) (dCall 1 c_l_back_51d9 [] DX0 (dCons (dVar 0) dNil)))) (dOr (dTru (dOp gNeE (dCall 2 c_l_product_3b0c [] DX0 (dCons (dVar 0) (dCons (dVar 3) dNil))) (dCall 0 c_l_self_a3eb [] DX0 dNil))) (dTru (dOp gNeE (dCB gReprE (dCons (dVar 0) dNil)) (dVar 2))))) (dRet (dC (.bl false))) dNext)
 (dSeq (dAsg (dC .non) (dSub (dOp gIx (dVar 3) (dC (.int 0))) (dC (.int 0))))
 (dRet (dOp gEqE (dCall 1 c_table_back_o [] DX0 (dCons (dVar 0) dNil)) (dCall 1 c_l_back_51d9 [] DX0 (dCons (dVar 0) dNil))))))))))
def t_l_right_b49f (c_l_self_a3eb : DSp) (c_l_random_7821 : DSp) (c_l_stepped_3049 : DSp) (c_table_product_o : DSp) (c_l_product_3b0c : DSp) (c_l_path_108b : DSp) (c_led_path_o : DSp) (c_l_led_ea66 : DSp) (c_l_columns_d906 : DSp) (c_l_one_right_7eef : DSp) : DTS :=
 (dSeq (dPar 1 2 (dCons (dCall 0 c_l_self_a3eb [] DX0 dNil) (dCons (dOwn dNil) dNil)))
 (dSeq (dFor (dRngI gRng1 (dCons (dOp gAdd (dC (.int 2)) (dCall 2 c_l_random_7821 [] DX0 (dCons (dVar 0) (dCons (dC (.int 12)) dNil)))) dNil)) (dName 3) (dSeq (dAsg (dCall 2 c_l_stepped_3049 [] DX0 (dCons (dVar 0) (dCons (dVar 1) dNil))) (dName 1))
 (dDrop (dMet gAppend (dVar 2) (dCons (dVar 1) dNil)))))
 (dSeq (dAsg (dOp gIx (dVar 2) (dCall 2 c_l_random_7821 [] DX0 (dCons (dVar 0) (dCons (dCB gLen (dCons (dVar 2) dNil)) dNil)))) (dName 4))
 (dSeq (dIfS (dOr (dTru (dOp gNeE (dCall 2 c_table_product_o [] DX0 (dCons (dVar 1) (dCons (dVar 4) dNil))) (dCall 2 c_l_product_3b0c [] DX0 (dCons (dVar 1) (dCons (dVar 4) dNil))))) (dTru (dOp gNeE (dCallK 2 2 c_table_product_o [1, 0] DX0 (dCons (dVar 1) (dCons (dVar 4) dNil))) (dCall 2 c_l_product_3b0c [] DX0 (dCons (dVar 4) (dCons (dVar 1) dNil)))))) (dRet (dC (.bl false))) dNext)
 (dSeq (dAsg (dCall 1 c_l_path_108b [] DX0 (dCons (dVar 0) dNil)) (dName 5))
 (dSeq (dIfS (dTru (dOp gNeE (dCall 2 c_led_path_o [] DX0 (dCons (dCall 2 c_table_product_o [] DX0 (dCons (dVar 1) (dCons (dVar 4) dNil))) (dCons (dVar 5) dNil))) (dCall 2 c_l_led_ea66 [] DX0 (dCons (dVar 1) (dCons (dCall 2 c_l_led_ea66 [] DX0 (dCons (dVar 4) (dCons (dVar 5) dNil))) dNil))))) (dRet (dC (.bl false))) dNext)
 (dSeq (dPar 6 7 (dCons (dCall 2 c_l_random_7821 [] DX0 (dCons (dVar 0) (dCons (dC (.int 4)) dNil))) (dCons (dCall 2 c_l_random_7821 [] DX0 (dCons (dVar 0) (dCons (dC (.int 4)) dNil))) dNil)))
 (dSeq (dAsg (dLc true (dSeqI (dVar 1)) (dName 9) dYes (dCB (gList true) (dCons (dVar 9) dNil)) [9]) (dName 8))
 (dSeq (dAsg (dOp (rBin (fun _ _ => True) fun i j => i - j) (dOp gAdd (dOp gIx (dOp gIx (dVar 8) (dVar 6)) (dVar 7)) (dC (.int 1))) (dOp (rBin CMul fun i j => i * j) (dC (.int 2)) (dCall 2 c_l_random_7821 [] DX0 (dCons (dVar 0) (dCons (dC (.int 2)) dNil))))) (dSub (dOp gIx (dVar 8) (dVar 6)) (dVar 7)))
 (dSeq (dAsg (dLc false (dRngI gRng1 (dCons (dC (.int 4)) dNil)) (dName 9) dYes (dLc false (dRngI gRng1 (dCons (dC (.int 4)) dNil)) (dName 11) dYes (dOp (rBin (fun _ _ => True) fun i j => i - j) (dCall 2 c_l_random_7821 [] DX0 (dCons (dVar 0) (dCons (dC (.int 5)) dNil))) (dC (.int 2))) [11]) [9]) (dName 10))
 (dSeq (dAsg (dOp gAdd (dLst (dCons (dCB (gList false) (dCons (dOp gIx (dVar 1) (dVar 6)) dNil)) dNil)) (dLc false (dSeqI (dSl (gSl false) (dVar 1) (dPart (dC (.int 1))) dNoPart)) (dName 9) dYes (dCB (gList false) (dCons (dVar 9) dNil)) [9])) (dName 12))
 (dSeq (dAsg (dLc false (dSeqI (dVar 1)) (dName 9) dYes (dLc false (dSeqI (dVar 9)) (dName 14) dYes (dOp (rBin CMul fun i j => i * j) (dC (.int 2)) (dVar 14)) [14]) [9]) (dName 13))
 (dSeq (dAsg (dLc false (dSeqI (dVar 1)) (dName 9) dYes (dLc false (dSeqI (dVar 9)) (dName 14) dYes (dOp (rBin (fun _ _ => True) fun i j => i - j) (dC (.int 0)) (dVar 14)) [14]) [9]) (dName 15))
 (dSeq (dAsg (dOp gAdd (dLst (dCons (dCB (gList false) (dCons (dOp gIx (dVar 1) (dC (.int 1))) dNil)) (dCons (dCB (gList false) (dCons (dOp gIx (dVar 1) (dC (.int 0))) dNil)) dNil))) (dLc false (dSeqI (dSl (gSl false) (dVar 1) (dPart (dC (.int 2))) dNoPart)) (dName 9) dYes (dCB (gList false) (dCons (dVar 9) dNil)) [9])) (dName 16))
 (dSeq (dAsg (dLc false (dRngI gRng1 (dCons (dC (.int 4)) dNil)) (dName 9) dYes (dOp gMulL (dLst (dCons (dC (.int 0)) dNil)) (dC (.int 4))) [9]) (dName 17))
 (dSeq (dFor (dSeqI (dLst (dCons (dVar 1) (dCons (dVar 4) (dCons (dVar 8) (dCons (dVar 10) (dCons (dVar 12) (dCons (dVar 13) (dCons (dVar 15) (dCons (dVar 16) (dCons (dCall 1 c_l_columns_d906 [] DX0 (dCons (dVar 1) dNil)) (dCons (dVar 17) dNil)))))))))))) (dName 18) (dSeq (dIfS (dNot (dTru (dCall 1 c_l_one_right_7eef [] DX0 (dCons (dVar 18) dNil)))) (dRet (dC (.bl false))) dNext)
 (dIfS (dOr (dTru (dOp gNeE (dCall 2 c_led_path_o [] DX0 (dCons (dVar 18) (dCons (dVar 5) dNil))) (dCall 2 c_l_led_ea66 [] DX0 (dCons (dVar 18) (dCons (dVar 5) dNil))))) (dOr (dTru (dOp gNeE (dCall 2 c_table_product_o [] DX0 (dCons (dVar 18) (dCons (dVar 8) dNil))) (dCall 2 c_l_product_3b0c [] DX0 (dCons (dVar 18) (dCons (dVar 8) dNil))))) (dTru (dOp gNeE (dCall 2 c_table_product_o [] DX0 (dCons (dVar 10) (dCons (dVar 18) dNil))) (dCall 2 c_l_product_3b0c [] DX0 (dCons (dVar 10) (dCons (dVar 18) dNil))))))) (dRet (dC (.bl false))) dNext)))
 (dSeq (dAsg (dLst (dCons (dCall 2 c_led_path_o [] DX0 (dCons (dCall 0 c_l_self_a3eb [] DX0 dNil) (dCons (dVar 5) dNil))) (dCons (dCall 2 c_table_product_o [] DX0 (dCons (dCall 0 c_l_self_a3eb [] DX0 dNil) (dCons (dVar 1) dNil))) (dCons (dCall 2 c_table_product_o [] DX0 (dCons (dVar 1) (dCons (dCall 0 c_l_self_a3eb [] DX0 dNil) dNil))) dNil)))) (dName 19))
 (dSeq (dAsg (dCB gReprE (dCons (dLst (dCons (dVar 5) (dCons (dVar 1) dNil))) dNil)) (dName 20))
 (dSeq (dFor (dSeqI (dOp gAdd (dOp gAdd (dVar 19) (dOp gIx (dVar 19) (dC (.int 1)))) (dOp gIx (dVar 19) (dC (.int 2))))) (dName 21) (dDrop (dMet gAppend (dVar 21) (dCons (dC .non) dNil))))
 (dRet (dOp gEqE (dCB gReprE (dCons (dLst (dCons (dVar 5) (dCons (dVar 1) dNil))) dNil)) (dVar 20))))))))))))))))))))))
def t_l_law_de6b (c_l_right_b49f : DSp) (c_l_generator_b324 : DSp) (c_keeps_crossings : DSp) (c_table_back_o : DSp) (c_l_self_a3eb : DSp) : DTS :=
 (dSeq (dFor (dRngI gRng1 (dCons (dC (.int 2)) dNil)) (dName 1) (dIfS (dNot (dTru (dCall 1 c_l_right_b49f [] DX0 (dCons (dCall 2 c_l_generator_b324 [] DX0 (dCons (dVar 0) (dCons (dVar 1) dNil))) dNil)))) (dRet (dC (.bl false))) dNext))
 (dRet (dAndV (dOp (gIs false) (dCall 1 c_keeps_crossings [] DX0 (dCons (dLst (dCons (dLst (dCons (dC (.int 2)) (dCons (dC (.int 0)) (dCons (dC (.int 0)) (dCons (dC (.int 0)) dNil))))) (dCons (dLst (dCons (dC (.int 0)) (dCons (dC (.int 1)) (dCons (dC (.int 0)) (dCons (dC (.int 0)) dNil))))) (dCons (dLst (dCons (dC (.int 0)) (dCons (dC (.int 0)) (dCons (dC (.int 1)) (dCons (dC (.int 0)) dNil))))) (dCons (dLst (dCons (dC (.int 0)) (dCons (dC (.int 0)) (dCons (dC (.int 0)) (dCons (dC (.int 1)) dNil))))) dNil))))) dNil)) (dC (.bl false))) (dOp gEqE (dCall 1 c_table_back_o [] DX0 (dCons (dCall 0 c_l_self_a3eb [] DX0 dNil) dNil)) (dCall 0 c_l_self_a3eb [] DX0 dNil)))))
end DL
namespace C_k43
open PySem PySem.Spec PyProof.Rows L2 DL
def topS (i : Nat) : Stmt := PySem.Challenge.pw_slitsheets_k43_tables_that_keep_crossing.main.body.getD i (.Pass ⟨0, 0, 0, 0⟩)
abbrev s_l_base_3ec4 : Stmt := topS 31
theorem sc_l_base_3ec4 : FnScope ["_law_at", "_law_number"] ["_law_at"] (defScope s_l_base_3ec4) := ⟨rfl, rfl, rfl, by decide +kernel, rfl, by decide +kernel, by decide +kernel⟩
abbrev s_l_self_a3eb : Stmt := topS 32
theorem sc_l_self_a3eb : FnScope ["_law_at"] [] (defScope s_l_self_a3eb) := ⟨rfl, rfl, rfl, by decide +kernel, rfl, by decide +kernel, by decide +kernel⟩
abbrev s_l_hash_d8d1 : Stmt := topS 23
theorem sc_l_hash_d8d1 : FnScope ["_law_seed", "_law_index", "_law_mixed"] ["_law_seed", "_law_index"] (defScope s_l_hash_d8d1) := ⟨rfl, rfl, rfl, by decide +kernel, rfl, by decide +kernel, by decide +kernel⟩
abbrev s_l_random_7821 : Stmt := topS 24
theorem sc_l_random_7821 : FnScope ["_law_generator_here", "_law_bound", "_law_drawn", "_law_turn"] ["_law_generator_here", "_law_bound"] (defScope s_l_random_7821) := ⟨rfl, rfl, rfl, by decide +kernel, rfl, by decide +kernel, by decide +kernel⟩
abbrev s_l_stepped_3049 : Stmt := topS 36
theorem sc_l_stepped_3049 : FnScope ["_law_generator_here", "_law_table", "_law_found", "_law_way", "_law_often", "_law_row", "_law_at", "_law_mate", "_law_low", "_law_high", "_law_item"] ["_law_generator_here", "_law_table"] (defScope s_l_stepped_3049) := ⟨rfl, rfl, rfl, by decide +kernel, rfl, by decide +kernel, by decide +kernel⟩
abbrev s_is_whole : Stmt := topS 5
theorem sc_is_whole : FnScope ["value"] ["value"] (defScope s_is_whole) := ⟨rfl, rfl, rfl, by decide +kernel, rfl, by decide +kernel, by decide +kernel⟩
abbrev s_is_path_list : Stmt := topS 7
theorem sc_is_path_list : FnScope ["value", "item"] ["value"] (defScope s_is_path_list) := ⟨rfl, rfl, rfl, by decide +kernel, rfl, by decide +kernel, by decide +kernel⟩
abbrev s_check_table_x : Stmt := topS 12
theorem sc_check_table_x : FnScope ["table", "row"] ["table"] (defScope s_check_table_x) := ⟨rfl, rfl, rfl, by decide +kernel, rfl, by decide +kernel, by decide +kernel⟩
abbrev s_turned_about_o : Stmt := topS 14
theorem sc_turned_about_o : FnScope ["table", "at", "row"] ["table"] (defScope s_turned_about_o) := ⟨rfl, rfl, rfl, by decide +kernel, rfl, by decide +kernel, by decide +kernel⟩
abbrev s_path_led : Stmt := topS 13
theorem sc_path_led : FnScope ["table", "path", "row", "item", "often"] ["table", "path"] (defScope s_path_led) := ⟨rfl, rfl, rfl, by decide +kernel, rfl, by decide +kernel, by decide +kernel⟩
abbrev s_table_times_o : Stmt := topS 15
theorem sc_table_times_o : FnScope ["one", "other", "path"] ["one", "other"] (defScope s_table_times_o) := ⟨rfl, rfl, rfl, by decide +kernel, rfl, by decide +kernel, by decide +kernel⟩
abbrev s_table_product_o_x : Stmt := topS 19
theorem sc_table_product_o_x : FnScope ["one", "other"] ["one", "other"] (defScope s_table_product_o_x) := ⟨rfl, rfl, rfl, by decide +kernel, rfl, by decide +kernel, by decide +kernel⟩
abbrev s_l_columns_d906 : Stmt := topS 29
theorem sc_l_columns_d906 : FnScope ["_law_table", "_law_at", "_law_row"] ["_law_table"] (defScope s_l_columns_d906) := ⟨rfl, rfl, rfl, by decide +kernel, rfl, by decide +kernel, by decide +kernel⟩
abbrev s_l_led_ea66 : Stmt := topS 28
theorem sc_l_led_ea66 : FnScope ["_law_table", "_law_path_here", "_law_row", "_law_item", "_law_often"] ["_law_table", "_law_path_here"] (defScope s_l_led_ea66) := ⟨rfl, rfl, rfl, by decide +kernel, rfl, by decide +kernel, by decide +kernel⟩
abbrev s_l_product_3b0c : Stmt := topS 30
theorem sc_l_product_3b0c : FnScope ["_law_one", "_law_other", "_law_path_here"] ["_law_one", "_law_other"] (defScope s_l_product_3b0c) := ⟨rfl, rfl, rfl, by decide +kernel, rfl, by decide +kernel, by decide +kernel⟩
abbrev s_l_path_108b : Stmt := topS 35
theorem sc_l_path_108b : FnScope ["_law_generator_here", "_law_most", "_law_at"] ["_law_generator_here"] (defScope s_l_path_108b) := ⟨rfl, rfl, rfl, by decide +kernel, rfl, by decide +kernel, by decide +kernel⟩
abbrev s_check_path_x : Stmt := topS 8
theorem sc_check_path_x : FnScope ["path"] ["path"] (defScope s_check_path_x) := ⟨rfl, rfl, rfl, by decide +kernel, rfl, by decide +kernel, by decide +kernel⟩
abbrev s_path_led_o : Stmt := topS 13
theorem sc_path_led_o : FnScope ["table", "path", "row", "item", "often"] ["table", "path"] (defScope s_path_led_o) := ⟨rfl, rfl, rfl, by decide +kernel, rfl, by decide +kernel, by decide +kernel⟩
abbrev s_led_path_o_x : Stmt := topS 18
theorem sc_led_path_o_x : FnScope ["table", "path"] ["table", "path"] (defScope s_led_path_o_x) := ⟨rfl, rfl, rfl, by decide +kernel, rfl, by decide +kernel, by decide +kernel⟩
abbrev s_l_crossing_3f18 : Stmt := topS 27
theorem sc_l_crossing_3f18 : FnScope ["_law_one", "_law_other"] ["_law_one", "_law_other"] (defScope s_l_crossing_3f18) := ⟨rfl, rfl, rfl, by decide +kernel, rfl, by decide +kernel, by decide +kernel⟩
abbrev s_l_keeps_2d4c : Stmt := topS 33
theorem sc_l_keeps_2d4c : FnScope ["_law_table", "_law_led_here", "_law_at", "_law_number"] ["_law_table"] (defScope s_l_keeps_2d4c) := ⟨rfl, rfl, rfl, by decide +kernel, rfl, by decide +kernel, by decide +kernel⟩
abbrev s_crossing_by : Stmt := topS 9
theorem sc_crossing_by : FnScope ["one", "other", "square"] ["one", "other"] (defScope s_crossing_by) := ⟨rfl, rfl, rfl, by decide +kernel, rfl, by decide +kernel, by decide +kernel⟩
abbrev s_keeps_by : Stmt := topS 16
theorem sc_keeps_by : FnScope ["table", "led", "at", "one", "number", "other"] ["table"] (defScope s_keeps_by) := ⟨rfl, rfl, rfl, by decide +kernel, rfl, by decide +kernel, by decide +kernel⟩
abbrev s_keeps_crossings_x : Stmt := topS 20
theorem sc_keeps_crossings_x : FnScope ["table"] ["table"] (defScope s_keeps_crossings_x) := ⟨rfl, rfl, rfl, by decide +kernel, rfl, by decide +kernel, by decide +kernel⟩
abbrev s_back_of_o : Stmt := topS 17
theorem sc_back_of_o : FnScope ["table", "found", "at", "partner", "sign", "row", "number", "other"] ["table"] (defScope s_back_of_o) := ⟨rfl, rfl, rfl, by decide +kernel, rfl, by decide +kernel, by decide +kernel⟩
abbrev s_table_back_o_x : Stmt := topS 21
theorem sc_table_back_o_x : FnScope ["table"] ["table"] (defScope s_table_back_o_x) := ⟨rfl, rfl, rfl, by decide +kernel, rfl, by decide +kernel, by decide +kernel⟩
abbrev s_l_refused_c25c : Stmt := topS 37
theorem sc_l_refused_c25c : FnScope ["_law_table", "_law_found", "error"] ["_law_table"] (defScope s_l_refused_c25c) := ⟨rfl, rfl, rfl, by decide +kernel, rfl, by decide +kernel, by decide +kernel⟩
abbrev s_l_back_51d9 : Stmt := topS 34
theorem sc_l_back_51d9 : FnScope ["_law_table", "_law_led_here", "_law_found", "_law_path_here", "_law_at", "_law_item"] ["_law_table"] (defScope s_l_back_51d9) := ⟨rfl, rfl, rfl, by decide +kernel, rfl, by decide +kernel, by decide +kernel⟩
abbrev s_l_one_right_7eef : Stmt := topS 38
theorem sc_l_one_right_7eef : FnScope ["_law_table", "_law_due", "_law_kept", "_law_back_here"] ["_law_table"] (defScope s_l_one_right_7eef) := ⟨rfl, rfl, rfl, by decide +kernel, rfl, by decide +kernel, by decide +kernel⟩
abbrev s_l_right_b49f : Stmt := topS 39
theorem sc_l_right_b49f : FnScope ["_law_generator_here", "_law_table", "_law_made", "_law_turn", "_law_other", "_law_path_here", "_law_low", "_law_high", "_law_bent", "_law_row", "_law_drawn", "_law_at", "_law_twice", "_law_double", "_law_item", "_law_opposite", "_law_turned", "_law_nought", "_law_one", "_law_told", "_law_kept", "_law_some"] ["_law_generator_here"] (defScope s_l_right_b49f) := ⟨rfl, rfl, rfl, by decide +kernel, rfl, by decide +kernel, by decide +kernel⟩
abbrev s_l_cell_cf3b : Stmt := topS 25
theorem sc_l_cell_cf3b : FnScope ["_law_script", "_law_index"] ["_law_script", "_law_index"] (defScope s_l_cell_cf3b) := ⟨rfl, rfl, rfl, by decide +kernel, rfl, by decide +kernel, by decide +kernel⟩
abbrev s_l_generator_b324 : Stmt := topS 26
theorem sc_l_generator_b324 : FnScope ["_law_script", "_law_index", "_law_seed"] ["_law_script", "_law_index"] (defScope s_l_generator_b324) := ⟨rfl, rfl, rfl, by decide +kernel, rfl, by decide +kernel, by decide +kernel⟩
abbrev s_l_law_de6b : Stmt := topS 40
theorem sc_l_law_de6b : FnScope ["_law_script", "_law_index"] ["_law_script"] (defScope s_l_law_de6b) := ⟨rfl, rfl, rfl, by decide +kernel, rfl, by decide +kernel, by decide +kernel⟩
abbrev k_InvalidList : Stmt := XA.initOf (topS 2)
theorem it_InvalidList : XA.InitTxt (defArgs k_InvalidList) (defBody k_InvalidList) (defScope k_InvalidList) := ⟨⟨_, _, _, rfl⟩, ⟨_, _, _, _, _, _, _, _, _, rfl, ⟨_, fun _ => rfl⟩, fun _ => rfl⟩, rfl⟩
abbrev k_InvalidTable : Stmt := XA.initOf (topS 3)
theorem it_InvalidTable : XA.InitTxt (defArgs k_InvalidTable) (defBody k_InvalidTable) (defScope k_InvalidTable) := ⟨⟨_, _, _, rfl⟩, ⟨_, _, _, _, _, _, _, _, _, rfl, ⟨_, fun _ => rfl⟩, fun _ => rfl⟩, rfl⟩
/-- what the top has left -/
structure Txt (P : Program) (K : PySem.W.Frag) (mg : Str → Option Value) (base : Heap) : Prop where
  s_SheetError : ∃ S, XA.ShC K S ∧ mg "SheetError" = some (.ref S)
  e_InvalidList : ∃ C S fI, XA.ErM P K mg "InvalidList" C S fI
  e_InvalidTable : ∃ C S fI, XA.ErM P K mg "InvalidTable" C S fI
  n_bool : mg "bool" = none
  n_enumerate : mg "enumerate" = none
  n_int : mg "int" = none
  n_isinstance : mg "isinstance" = none
  n_len : mg "len" = none
  n_list : mg "list" = none
  n_max : mg "max" = none
  n_range : mg "range" = none
  n_repr : mg "repr" = none
  n_sum : mg "sum" = none
  n_zip : mg "zip" = none
  c_SELF : ∃ u, mg "SELF" = some u ∧ KRep K u (.tup [(.tup [.int 1, .int 0, .int 0, .int 0]), (.tup [.int 0, .int 1, .int 0, .int 0]), (.tup [.int 0, .int 0, .int 1, .int 0]), (.tup [.int 0, .int 0, .int 0, .int 1])])
  h_l_base_3ec4 : Here K mg "_law_base" s_l_base_3ec4 ["_law_at"]
  h_l_self_a3eb : Here K mg "_law_self" s_l_self_a3eb []
  h_l_hash_d8d1 : Here K mg "_law_hash" s_l_hash_d8d1 ["_law_seed", "_law_index"]
  h_l_random_7821 : Here K mg "_law_random" s_l_random_7821 ["_law_generator_here", "_law_bound"]
  h_l_stepped_3049 : Here K mg "_law_stepped" s_l_stepped_3049 ["_law_generator_here", "_law_table"]
  h_is_whole : Here K mg "is_whole" s_is_whole ["value"]
  h_is_path_list : Here K mg "is_path_list" s_is_path_list ["value"]
  h_check_table_x : Here K mg "check_table" s_check_table_x ["table"]
  h_turned_about_o : Here K mg "turned_about" s_turned_about_o ["table"]
  h_path_led : Here K mg "path_led" s_path_led ["table", "path"]
  h_table_times_o : Here K mg "table_times" s_table_times_o ["one", "other"]
  h_table_product_o_x : Here K mg "table_product" s_table_product_o_x ["one", "other"]
  h_l_columns_d906 : Here K mg "_law_columns" s_l_columns_d906 ["_law_table"]
  h_l_led_ea66 : Here K mg "_law_led" s_l_led_ea66 ["_law_table", "_law_path_here"]
  h_l_product_3b0c : Here K mg "_law_product" s_l_product_3b0c ["_law_one", "_law_other"]
  h_l_path_108b : Here K mg "_law_path" s_l_path_108b ["_law_generator_here"]
  h_check_path_x : Here K mg "check_path" s_check_path_x ["path"]
  h_path_led_o : Here K mg "path_led" s_path_led_o ["table", "path"]
  h_led_path_o_x : Here K mg "led_path" s_led_path_o_x ["table", "path"]
  h_l_crossing_3f18 : Here K mg "_law_crossing" s_l_crossing_3f18 ["_law_one", "_law_other"]
  h_l_keeps_2d4c : Here K mg "_law_keeps" s_l_keeps_2d4c ["_law_table"]
  h_crossing_by : Here K mg "crossing_by" s_crossing_by ["one", "other"]
  h_keeps_by : Here K mg "keeps_by" s_keeps_by ["table"]
  h_keeps_crossings_x : Here K mg "keeps_crossings" s_keeps_crossings_x ["table"]
  h_back_of_o : Here K mg "back_of" s_back_of_o ["table"]
  h_table_back_o_x : Here K mg "table_back" s_table_back_o_x ["table"]
  h_l_refused_c25c : Here K mg "_law_refused" s_l_refused_c25c ["_law_table"]
  h_l_back_51d9 : Here K mg "_law_back" s_l_back_51d9 ["_law_table"]
  h_l_one_right_7eef : Here K mg "_law_one_right" s_l_one_right_7eef ["_law_table"]
  h_l_right_b49f : Here K mg "_law_right" s_l_right_b49f ["_law_generator_here"]
  h_l_cell_cf3b : Here K mg "_law_cell" s_l_cell_cf3b ["_law_script", "_law_index"]
  h_l_generator_b324 : Here K mg "_law_generator" s_l_generator_b324 ["_law_script", "_law_index"]
  h_l_law_de6b : Here K mg "law" s_l_law_de6b ["_law_script"]
theorem Txt.isE {P : Program} {K : PySem.W.Frag} {mg : Str → Option Value} {base : Heap} (T : Txt P K mg base) : ∀ y ∈ errL_k43, ∃ C, XA.AnyC K y C := fun y hy => by
  simp only [errL_k43, List.mem_cons, List.not_mem_nil, or_false] at hy
  rcases hy with rfl | rfl
  · obtain ⟨C, S, fI, h⟩ := T.e_InvalidList; exact ⟨C, .inl ⟨S, h.er⟩⟩
  · obtain ⟨C, S, fI, h⟩ := T.e_InvalidTable; exact ⟨C, .inl ⟨S, h.er⟩⟩
section
variable {P : Program} {w : World} {K : PySem.W.Frag} {mg : Str → Option Value} {base : Heap}
theorem ok_l_base_3ec4 {sp : DSp} (T : Txt P K mg base) (hread : ∀ ds M Q, ds.length = 1 → sp ds M Q DX0 → t_l_base_3ec4 (dEnds M Q) (startD 2 ds) M) (hX : ∀ ds M Q E, sp ds M Q E → sp ds M Q DX0 := by exact fun _ _ _ _ h => h) : Def P w K mg base CX0 1 "_law_base" s_l_base_3ec4 ["_law_at"] sp :=
 T.h_l_base_3ec4.ok (t := t_l_base_3ec4) sc_l_base_3ec4 (fun f cdv A outer s H E hr gd => (dss_one (ds_ret (de_lc false (own := [("_law_number", 1)]) rfl sc_l_base_3ec4.nd (blkOk_by (N := ["_law_at", "_law_number"]) (own := [("_law_number", 1)]) (sc := (defScope s_l_base_3ec4)) (by decide +kernel)) (di_range1 T.n_range (da_cons de_int da_nil)) (fun _ _ _ _ _ => (dcg_name (i := 1) sc_l_base_3ec4.nd)) (fun _ _ _ _ _ => dts_nil) (fun _ _ _ _ _ => (de_ty cd_int T.n_int (da_cons (de_cmp (opd_eq (u64 hr)) (dv 0) (dv 1) (nomark _)) da_nil))))))) hread hX
theorem ok_l_self_a3eb {c_l_base_3ec4 : DSp} {sp : DSp} (T : Txt P K mg base) (D_l_base_3ec4 : Def P w K mg base CX0 1 "_law_base" s_l_base_3ec4 ["_law_at"] c_l_base_3ec4) (hread : ∀ ds M Q, ds.length = 0 → sp ds M Q DX0 → t_l_self_a3eb c_l_base_3ec4 (dEnds M Q) (startD 1 ds) M) (hX : ∀ ds M Q E, sp ds M Q E → sp ds M Q DX0 := by exact fun _ _ _ _ h => h) : Def P w K mg base CX0 2 "_law_self" s_l_self_a3eb [] sp :=
 T.h_l_self_a3eb.ok (t := t_l_self_a3eb c_l_base_3ec4) sc_l_self_a3eb (fun f cdv A outer s H E hr gd => (dss_one (ds_ret (de_lc false (own := [("_law_at", 0)]) rfl sc_l_self_a3eb.nd (blkOk_by (N := ["_law_at"]) (own := [("_law_at", 0)]) (sc := (defScope s_l_self_a3eb)) (by decide +kernel)) (di_range1 T.n_range (da_cons de_int da_nil)) (fun _ _ _ _ _ => (dcg_name (i := 0) sc_l_self_a3eb.nd)) (fun _ _ _ _ _ => dts_nil) (fun _ _ _ _ _ => (dcall D_l_base_3ec4 hr gd (da_cons (dv 0) da_nil))))))) hread hX
theorem ok_l_hash_d8d1 {sp : DSp} (T : Txt P K mg base) (hread : ∀ ds M Q, ds.length = 2 → sp ds M Q DX0 → t_l_hash_d8d1 (dEnds M Q) (startD 3 ds) M) (hX : ∀ ds M Q E, sp ds M Q E → sp ds M Q DX0 := by exact fun _ _ _ _ h => h) : Def P w K mg base CX0 1 "_law_hash" s_l_hash_d8d1 ["_law_seed", "_law_index"] sp :=
 T.h_l_hash_d8d1.ok (t := t_l_hash_d8d1) sc_l_hash_d8d1 (fun f cdv A outer s H E hr gd => (dss_cons (ds_set (i := 2) sc_l_hash_d8d1.nd (de_op opd_mod (de_ty cd_int T.n_int (da_cons (de_op opd_add (de_op opd_add (de_op opd_add (de_op opd_mulI (dv 0) de_int) (de_op opd_mulI (de_op opd_mulI de_int (dv 1)) (dv 1))) (de_op opd_mulI de_int (dv 1))) de_int) da_nil)) de_int))
 (dss_cons (ds_set (i := 2) sc_l_hash_d8d1.nd (de_op opd_mod (de_ty cd_int T.n_int (da_cons (de_op opd_add (de_op opd_add (de_op opd_mulI (dv 2) (dv 2)) (de_op opd_mulI de_int (dv 1))) de_int) da_nil)) de_int))
 (dss_one (ds_ret (de_op opd_mod (de_ty cd_int T.n_int (da_cons (de_op opd_mulI (dv 2) de_int) da_nil)) de_int)))))) hread hX
theorem ok_l_random_7821 {c_l_hash_d8d1 : DSp} {sp : DSp} (T : Txt P K mg base) (D_l_hash_d8d1 : Def P w K mg base CX0 1 "_law_hash" s_l_hash_d8d1 ["_law_seed", "_law_index"] c_l_hash_d8d1) (hread : ∀ ds M Q, ds.length = 2 → sp ds M Q DX0 → t_l_random_7821 c_l_hash_d8d1 (dEnds M Q) (startD 4 ds) M) (hX : ∀ ds M Q E, sp ds M Q E → sp ds M Q DX0 := by exact fun _ _ _ _ h => h) : Def P w K mg base CX0 2 "_law_random" s_l_random_7821 ["_law_generator_here", "_law_bound"] sp :=
 T.h_l_random_7821.ok (t := t_l_random_7821 c_l_hash_d8d1) sc_l_random_7821 (fun f cdv A outer s H E hr gd => (dss_cons (ds_if (dt_cmp opd_gt (de_ix (dv 0) de_int) de_int (nomark _)) (dss_cons (ds_set (i := 2) sc_l_random_7821.nd (de_op opd_mod (de_ty cd_int T.n_int (da_cons (de_ix (dv 0) de_int) da_nil)) (dv 1)))
 (dss_cons (ds_asg (de_op opd_fdiv (de_ix (dv 0) de_int) (dv 1)) (dg_sub (dv 0) de_int))
 (dss_one (ds_ret (dv 2))))) dss_nil)
 (dss_cons (ds_set (i := 2) sc_l_random_7821.nd de_int)
 (dss_cons (ds_for rfl (di_range1 T.n_range (da_cons (de_op opd_add de_int (de_op opd_fdiv (de_bits (dv 1)) de_int)) da_nil)) (dg_name (i := 3) sc_l_random_7821.nd) (dss_cons (ds_asg (de_op opd_add (de_ix (dv 0) de_int) de_int) (dg_sub (dv 0) de_int))
 (dss_one (ds_set (i := 2) sc_l_random_7821.nd (de_op opd_add (de_op opd_mulI (dv 2) de_int) (dcall D_l_hash_d8d1 hr gd (da_cons (de_ix (dv 0) de_int) (da_cons (de_ix (dv 0) de_int) da_nil))))))))
 (dss_one (ds_ret (de_op opd_mod (de_ty cd_int T.n_int (da_cons (dv 2) da_nil)) (dv 1)))))))) hread hX
theorem ok_l_stepped_3049 {c_l_random_7821 : DSp} {sp : DSp} (T : Txt P K mg base) (D_l_random_7821 : Def P w K mg base CX0 2 "_law_random" s_l_random_7821 ["_law_generator_here", "_law_bound"] c_l_random_7821) (hread : ∀ ds M Q, ds.length = 2 → sp ds M Q DX0 → t_l_stepped_3049 c_l_random_7821 (dEnds M Q) (startD 11 ds) M) (hX : ∀ ds M Q E, sp ds M Q E → sp ds M Q DX0 := by exact fun _ _ _ _ h => h) : Def P w K mg base CX0 3 "_law_stepped" s_l_stepped_3049 ["_law_generator_here", "_law_table"] sp :=
 T.h_l_stepped_3049.ok (t := t_l_stepped_3049 c_l_random_7821) sc_l_stepped_3049 (fun f cdv A outer s H E hr gd => (dss_cons (ds_asg (de_tup (da_cons (de_lc true (own := [("_law_row", 5)]) rfl sc_l_stepped_3049.nd (blkOk_by (N := ["_law_generator_here", "_law_table", "_law_found", "_law_way", "_law_often", "_law_row", "_law_at", "_law_mate", "_law_low", "_law_high", "_law_item"]) (own := [("_law_row", 5)]) (sc := (defScope s_l_stepped_3049)) (by decide +kernel)) (di_seq (dv 1)) (fun _ _ _ _ _ => (dcg_name (i := 5) sc_l_stepped_3049.nd)) (fun _ _ _ _ _ => dts_nil) (fun _ _ _ _ _ => (de_ty (cd_list false) T.n_list (da_cons (dv 5) da_nil)))) (da_cons (dcall D_l_random_7821 hr gd (da_cons (dv 0) (da_cons de_int da_nil))) (da_cons (de_op opd_sub (dcall D_l_random_7821 hr gd (da_cons (dv 0) (da_cons de_int da_nil))) de_int) da_nil)))) (dg_tup rfl (dgs_cons (dg_name (i := 2) sc_l_stepped_3049.nd) (dgs_cons (dg_name (i := 3) sc_l_stepped_3049.nd) (dgs_cons (dg_name (i := 4) sc_l_stepped_3049.nd) dgs_nil)))))
 (dss_cons (ds_if (dt_cmp (opd_eq (u64 hr)) (dv 3) de_int (nomark _)) (dss_cons (ds_set (i := 6) sc_l_stepped_3049.nd (de_op opd_add (de_op opd_mulI de_int (dcall D_l_random_7821 hr gd (da_cons (dv 0) (da_cons de_int da_nil)))) (dcall D_l_random_7821 hr gd (da_cons (dv 0) (da_cons de_int da_nil)))))
 (dss_cons (ds_set (i := 7) sc_l_stepped_3049.nd (de_if (dt_cmp (opd_eq (u64 hr)) (de_op opd_mod (de_ty cd_int T.n_int (da_cons (dv 6) da_nil)) de_int) de_int (nomark _)) (de_op opd_add (dv 6) de_int) (de_op opd_sub (dv 6) de_int)))
 (dss_one (ds_asg (de_lc false (own := [("_law_low", 8), ("_law_high", 9)]) rfl sc_l_stepped_3049.nd (blkOk_by (N := ["_law_generator_here", "_law_table", "_law_found", "_law_way", "_law_often", "_law_row", "_law_at", "_law_mate", "_law_low", "_law_high", "_law_item"]) (own := [("_law_low", 8), ("_law_high", 9)]) (sc := (defScope s_l_stepped_3049)) (by decide +kernel)) (di_zip T.n_zip (da_cons (de_ix (dv 2) (dv 6)) (da_cons (de_ix (dv 2) (dv 7)) da_nil))) (fun _ _ _ _ _ => (dcg_tup rfl (dcgs_cons (dcg_name (i := 8) sc_l_stepped_3049.nd) (dcgs_cons (dcg_name (i := 9) sc_l_stepped_3049.nd) dcgs_nil)))) (fun _ _ _ _ _ => dts_nil) (fun _ _ _ _ _ => (de_op opd_add (dv 8) (de_op opd_mulI (dv 4) (dv 9))))) (dg_sub (dv 2) (dv 6)))))) dss_nil)
 (dss_cons (ds_if (dt_cmp (opd_eq (u64 hr)) (dv 3) de_int (nomark _)) (dss_one (ds_set (i := 2) sc_l_stepped_3049.nd (de_own (da_cons (de_ix (dv 2) de_int) (da_cons (de_ix (dv 2) de_int) (da_cons (de_ix (dv 2) de_int) (da_cons (de_ix (dv 2) de_int) da_nil))))))) dss_nil)
 (dss_cons (ds_if (dt_cmp (opd_eq (u64 hr)) (dv 3) de_int (nomark _)) (dss_one (ds_set (i := 2) sc_l_stepped_3049.nd (de_op opd_addO (de_lst (da_cons (de_ix (dv 2) de_int) (da_cons (de_lc false (own := [("_law_item", 10)]) rfl sc_l_stepped_3049.nd (blkOk_by (N := ["_law_generator_here", "_law_table", "_law_found", "_law_way", "_law_often", "_law_row", "_law_at", "_law_mate", "_law_low", "_law_high", "_law_item"]) (own := [("_law_item", 10)]) (sc := (defScope s_l_stepped_3049)) (by decide +kernel)) (di_seq (de_ix (dv 2) de_int)) (fun _ _ _ _ _ => (dcg_name (i := 10) sc_l_stepped_3049.nd)) (fun _ _ _ _ _ => dts_nil) (fun _ _ _ _ _ => (de_op opd_sub de_int (dv 10)))) da_nil))) (de_sl false (dv 2) (do_some de_int) do_none)))) dss_nil)
 (dss_cons (ds_if (dt_cmp (opd_eq (u64 hr)) (dv 3) de_int (nomark _)) (dss_cons (ds_asg (de_lc false (own := [("_law_low", 8), ("_law_high", 9)]) rfl sc_l_stepped_3049.nd (blkOk_by (N := ["_law_generator_here", "_law_table", "_law_found", "_law_way", "_law_often", "_law_row", "_law_at", "_law_mate", "_law_low", "_law_high", "_law_item"]) (own := [("_law_low", 8), ("_law_high", 9)]) (sc := (defScope s_l_stepped_3049)) (by decide +kernel)) (di_zip T.n_zip (da_cons (de_ix (dv 2) de_int) (da_cons (de_ix (dv 2) de_int) da_nil))) (fun _ _ _ _ _ => (dcg_tup rfl (dcgs_cons (dcg_name (i := 8) sc_l_stepped_3049.nd) (dcgs_cons (dcg_name (i := 9) sc_l_stepped_3049.nd) dcgs_nil)))) (fun _ _ _ _ _ => dts_nil) (fun _ _ _ _ _ => (de_op opd_add (dv 8) (de_op opd_mulI (dv 4) (dv 9))))) (dg_sub (dv 2) de_int))
 (dss_one (ds_asg (de_lc false (own := [("_law_low", 8), ("_law_high", 9)]) rfl sc_l_stepped_3049.nd (blkOk_by (N := ["_law_generator_here", "_law_table", "_law_found", "_law_way", "_law_often", "_law_row", "_law_at", "_law_mate", "_law_low", "_law_high", "_law_item"]) (own := [("_law_low", 8), ("_law_high", 9)]) (sc := (defScope s_l_stepped_3049)) (by decide +kernel)) (di_zip T.n_zip (da_cons (de_ix (dv 2) de_int) (da_cons (de_ix (dv 2) de_int) da_nil))) (fun _ _ _ _ _ => (dcg_tup rfl (dcgs_cons (dcg_name (i := 8) sc_l_stepped_3049.nd) (dcgs_cons (dcg_name (i := 9) sc_l_stepped_3049.nd) dcgs_nil)))) (fun _ _ _ _ _ => dts_nil) (fun _ _ _ _ _ => (de_op opd_sub (dv 8) (de_op opd_mulI (dv 4) (dv 9))))) (dg_sub (dv 2) de_int)))) dss_nil)
 (dss_one (ds_ret (de_frz (dv 2)))))))))) hread hX
theorem ok_is_whole {sp : DSp} (T : Txt P K mg base) (hread : ∀ ds M Q, ds.length = 1 → sp ds M Q DX0 → t_is_whole (dEnds M Q) (startD 1 ds) M) (hX : ∀ ds M Q E, sp ds M Q E → sp ds M Q DX0 := by exact fun _ _ _ _ h => h) : Def P w K mg base CX0 1 "is_whole" s_is_whole ["value"] sp :=
 T.h_is_whole.ok (t := t_is_whole) sc_is_whole (fun f cdv A outer s H E hr gd => (dss_one (ds_ret (de_and (de_blt cd_isi T.n_isinstance (da_cons (dv 0) (da_cons (de_bltn (v := .ty "int") T.n_int rfl) da_nil))) (de_one (de_not (de_blt cd_isi T.n_isinstance (da_cons (dv 0) (da_cons (de_bltn (v := .ty "bool") T.n_bool rfl) da_nil))))))))) hread hX
theorem ok_is_path_list {c_is_whole : DSp} {sp : DSp} (T : Txt P K mg base) (D_is_whole : Def P w K mg base CX0 1 "is_whole" s_is_whole ["value"] c_is_whole) (hread : ∀ ds M Q, ds.length = 1 → sp ds M Q DX0 → t_is_path_list c_is_whole (dEnds M Q) (startD 2 ds) M) (hX : ∀ ds M Q E, sp ds M Q E → sp ds M Q DX0 := by exact fun _ _ _ _ h => h) : Def P w K mg base CX0 2 "is_path_list" s_is_path_list ["value"] sp :=
 T.h_is_path_list.ok (t := t_is_path_list c_is_whole) sc_is_path_list (fun f cdv A outer s H E hr gd => (dss_one (ds_ret (de_and (de_blt cd_isi T.n_isinstance (da_cons (dv 0) (da_cons (de_bltn (v := .ty "list") T.n_list rfl) da_nil))) (de_and (de_cmp (opd_eq (u64 hr)) (de_blt cd_len T.n_len (da_cons (dv 0) da_nil)) de_int (nomark _)) (de_one (de_cmp (opd_eq (u64 hr)) (de_lc false (own := [("item", 1)]) rfl sc_is_path_list.nd (blkOk_by (N := ["value", "item"]) (own := [("item", 1)]) (sc := (defScope s_is_path_list)) (by decide +kernel)) (di_seq (dv 0)) (fun _ _ _ _ _ => (dcg_name (i := 1) sc_is_path_list.nd)) (fun _ _ _ _ _ => (dts_one (dt_not (dt_tru (dcall D_is_whole hr gd (da_cons (dv 1) da_nil)))))) (fun _ _ _ _ _ => (dv 1))) (de_lst da_nil) (nomark _)))))))) hread hX
theorem ok_check_table_x {c_is_path_list : DSp} {sp : DSp} (T : Txt P K mg base) (D_is_path_list : Def P w K mg base CX0 2 "is_path_list" s_is_path_list ["value"] c_is_path_list) (hread : ∀ ds M Q E, ds.length = 1 → belowAll M.length ds = true → sp ds M Q E → t_check_table_x c_is_path_list (dOut M E) (dEnds M Q) (startD 2 ds) M) : Def P w K mg base (L2.CX P w) 3 "check_table" s_check_table_x ["table"] sp :=
 T.h_check_table_x.okE (t := t_check_table_x c_is_path_list) sc_check_table_x (fun f cdv A outer s H E hr gd => (dssx_one (dsx_if (DW.dt (dw_or (dt_not (dt_tru (de_blt cd_isi T.n_isinstance (da_cons (dv 0) (da_cons (de_bltn (v := .ty "list") T.n_list rfl) da_nil))))) (dw_or (dt_cmp (opd_ne (u64 hr)) (de_blt cd_len T.n_len (da_cons (dv 0) da_nil)) de_int (nomark _)) (dw_or1 (dt_cmp (opd_ne (u64 hr)) (de_lc false (own := [("row", 1)]) rfl sc_check_table_x.nd (blkOk_by (N := ["table", "row"]) (own := [("row", 1)]) (sc := (defScope s_check_table_x)) (by decide +kernel)) (di_seq (dv 0)) (fun _ _ _ _ _ => (dcg_name (i := 1) sc_check_table_x.nd)) (fun _ _ _ _ _ => (dts_one (dt_not (dt_tru (dcall D_is_path_list hr gd (da_cons (dv 1) da_nil)))))) (fun _ _ _ _ _ => (dv 1))) (de_lst da_nil) (nomark _)))))) (dssx_one (let ⟨_, _, _, h⟩ := T.e_InvalidTable; dsx_raise h rfl hr (da_cons (dv 0) da_nil))) (dssx_of dss_nil)))) hread
theorem ok_turned_about_o {sp : DSp} (T : Txt P K mg base) (hread : ∀ ds M Q, ds.length = 1 → sp ds M Q DX0 → t_turned_about_o (dEnds M Q) (startD 3 ds) M) (hX : ∀ ds M Q E, sp ds M Q E → sp ds M Q DX0 := by exact fun _ _ _ _ h => h) : Def P w K mg base CX0 1 "turned_about" s_turned_about_o ["table"] sp :=
 T.h_turned_about_o.ok (t := t_turned_about_o) sc_turned_about_o (fun f cdv A outer s H E hr gd => (dss_one (ds_ret (de_lc true (own := [("at", 1)]) rfl sc_turned_about_o.nd (blkOk_by (N := ["table", "at", "row"]) (own := [("at", 1)]) (sc := (defScope s_turned_about_o)) (by decide +kernel)) (di_range1 T.n_range (da_cons de_int da_nil)) (fun _ _ _ _ _ => (dcg_name (i := 1) sc_turned_about_o.nd)) (fun _ _ _ _ _ => dts_nil) (fun _ _ _ _ _ => (de_lc true (own := [("row", 2)]) rfl sc_turned_about_o.nd (blkOk_by (N := ["table", "at", "row"]) (own := [("row", 2)]) (by rfl)) (di_seq (dv 0)) (fun _ _ _ _ _ => (dcg_name (i := 2) sc_turned_about_o.nd)) (fun _ _ _ _ _ => dts_nil) (fun _ _ _ _ _ => (de_ix (dv 2) (dv 1))))))))) hread hX
theorem ok_path_led {sp : DSp} (T : Txt P K mg base) (hread : ∀ ds M Q, ds.length = 2 → sp ds M Q DX0 → t_path_led (dEnds M Q) (startD 5 ds) M) (hX : ∀ ds M Q E, sp ds M Q E → sp ds M Q DX0 := by exact fun _ _ _ _ h => h) : Def P w K mg base CX0 1 "path_led" s_path_led ["table", "path"] sp :=
 T.h_path_led.ok (t := t_path_led) sc_path_led (fun f cdv A outer s H E hr gd => (dss_one (ds_ret (de_lc false (own := [("row", 2)]) rfl sc_path_led.nd (blkOk_by (N := ["table", "path", "row", "item", "often"]) (own := [("row", 2)]) (sc := (defScope s_path_led)) (by decide +kernel)) (di_seq (dv 0)) (fun _ _ _ _ _ => (dcg_name (i := 2) sc_path_led.nd)) (fun _ _ _ _ _ => dts_nil) (fun _ _ _ _ _ => (de_blt (cd_sum rfl) T.n_sum (da_cons (de_lc false (own := [("item", 3), ("often", 4)]) rfl sc_path_led.nd (blkOk_by (N := ["table", "path", "row", "item", "often"]) (own := [("item", 3), ("often", 4)]) (by rfl)) (di_zipS T.n_zip (da_cons (dv 2) (da_cons (dv 1) da_nil))) (fun _ _ _ _ _ => (dcg_tup rfl (dcgs_cons (dcg_name (i := 3) sc_path_led.nd) (dcgs_cons (dcg_name (i := 4) sc_path_led.nd) dcgs_nil)))) (fun _ _ _ _ _ => dts_nil) (fun _ _ _ _ _ => (de_op opd_mulI (dv 3) (dv 4)))) da_nil))))))) hread hX
theorem ok_table_times_o {c_turned_about_o c_path_led : DSp} {sp : DSp} (T : Txt P K mg base) (D_turned_about_o : Def P w K mg base CX0 1 "turned_about" s_turned_about_o ["table"] c_turned_about_o) (D_path_led : Def P w K mg base CX0 1 "path_led" s_path_led ["table", "path"] c_path_led) (hread : ∀ ds M Q, ds.length = 2 → sp ds M Q DX0 → t_table_times_o c_turned_about_o c_path_led (dEnds M Q) (startD 3 ds) M) (hX : ∀ ds M Q E, sp ds M Q E → sp ds M Q DX0 := by exact fun _ _ _ _ h => h) : Def P w K mg base CX0 2 "table_times" s_table_times_o ["one", "other"] sp :=
 T.h_table_times_o.ok (t := t_table_times_o c_turned_about_o c_path_led) sc_table_times_o (fun f cdv A outer s H E hr gd => (dss_one (ds_ret (dcall D_turned_about_o hr gd (da_cons (de_lc false (own := [("path", 2)]) rfl sc_table_times_o.nd (blkOk_by (N := ["one", "other", "path"]) (own := [("path", 2)]) (sc := (defScope s_table_times_o)) (by decide +kernel)) (di_seq (dcall D_turned_about_o hr gd (da_cons (dv 1) da_nil))) (fun _ _ _ _ _ => (dcg_name (i := 2) sc_table_times_o.nd)) (fun _ _ _ _ _ => dts_nil) (fun _ _ _ _ _ => (dcall D_path_led hr gd (da_cons (dv 0) (da_cons (dv 2) da_nil))))) da_nil))))) hread hX
theorem ok_table_product_o_x {c_check_table_x c_table_times_o : DSp} {sp : DSp} (T : Txt P K mg base) (D_check_table_x : Def P w K mg base (L2.CX P w) 3 "check_table" s_check_table_x ["table"] c_check_table_x) (D_table_times_o : Def P w K mg base CX0 2 "table_times" s_table_times_o ["one", "other"] c_table_times_o) (hread : ∀ ds M Q E, ds.length = 2 → belowAll M.length ds = true → sp ds M Q E → t_table_product_o_x c_check_table_x c_table_times_o (dOut M E) (dEnds M Q) (startD 2 ds) M) : Def P w K mg base (L2.CX P w) 4 "table_product" s_table_product_o_x ["one", "other"] sp :=
 T.h_table_product_o_x.okE (t := t_table_product_o_x c_check_table_x c_table_times_o) sc_table_product_o_x (fun f cdv A outer s H E hr gd => (dssx_cons (dsx_expr (dcallX D_check_table_x hr gd (dax_cons (dex_of (dv 0)) dax_nil)))
 (dssx_cons (dsx_expr (dcallX D_check_table_x hr gd (dax_cons (dex_of (dv 1)) dax_nil)))
 (dssx_of (dss_one (ds_ret (dcall D_table_times_o hr gd (da_cons (dv 0) (da_cons (dv 1) da_nil))))))))) hread
theorem ok_l_columns_d906 {sp : DSp} (T : Txt P K mg base) (hread : ∀ ds M Q, ds.length = 1 → sp ds M Q DX0 → t_l_columns_d906 (dEnds M Q) (startD 3 ds) M) (hX : ∀ ds M Q E, sp ds M Q E → sp ds M Q DX0 := by exact fun _ _ _ _ h => h) : Def P w K mg base CX0 1 "_law_columns" s_l_columns_d906 ["_law_table"] sp :=
 T.h_l_columns_d906.ok (t := t_l_columns_d906) sc_l_columns_d906 (fun f cdv A outer s H E hr gd => (dss_one (ds_ret (de_lc false (own := [("_law_at", 1)]) rfl sc_l_columns_d906.nd (blkOk_by (N := ["_law_table", "_law_at", "_law_row"]) (own := [("_law_at", 1)]) (sc := (defScope s_l_columns_d906)) (by decide +kernel)) (di_range1 T.n_range (da_cons de_int da_nil)) (fun _ _ _ _ _ => (dcg_name (i := 1) sc_l_columns_d906.nd)) (fun _ _ _ _ _ => dts_nil) (fun _ _ _ _ _ => (de_lc false (own := [("_law_row", 2)]) rfl sc_l_columns_d906.nd (blkOk_by (N := ["_law_table", "_law_at", "_law_row"]) (own := [("_law_row", 2)]) (by rfl)) (di_seq (dv 0)) (fun _ _ _ _ _ => (dcg_name (i := 2) sc_l_columns_d906.nd)) (fun _ _ _ _ _ => dts_nil) (fun _ _ _ _ _ => (de_ix (dv 2) (dv 1))))))))) hread hX
theorem ok_l_led_ea66 {sp : DSp} (T : Txt P K mg base) (hread : ∀ ds M Q, ds.length = 2 → sp ds M Q DX0 → t_l_led_ea66 (dEnds M Q) (startD 5 ds) M) (hX : ∀ ds M Q E, sp ds M Q E → sp ds M Q DX0 := by exact fun _ _ _ _ h => h) : Def P w K mg base CX0 1 "_law_led" s_l_led_ea66 ["_law_table", "_law_path_here"] sp :=
 T.h_l_led_ea66.ok (t := t_l_led_ea66) sc_l_led_ea66 (fun f cdv A outer s H E hr gd => (dss_one (ds_ret (de_lc false (own := [("_law_row", 2)]) rfl sc_l_led_ea66.nd (blkOk_by (N := ["_law_table", "_law_path_here", "_law_row", "_law_item", "_law_often"]) (own := [("_law_row", 2)]) (sc := (defScope s_l_led_ea66)) (by decide +kernel)) (di_seq (dv 0)) (fun _ _ _ _ _ => (dcg_name (i := 2) sc_l_led_ea66.nd)) (fun _ _ _ _ _ => dts_nil) (fun _ _ _ _ _ => (de_blt (cd_sum rfl) T.n_sum (da_cons (de_lc false (own := [("_law_item", 3), ("_law_often", 4)]) rfl sc_l_led_ea66.nd (blkOk_by (N := ["_law_table", "_law_path_here", "_law_row", "_law_item", "_law_often"]) (own := [("_law_item", 3), ("_law_often", 4)]) (by rfl)) (di_zip T.n_zip (da_cons (dv 2) (da_cons (dv 1) da_nil))) (fun _ _ _ _ _ => (dcg_tup rfl (dcgs_cons (dcg_name (i := 3) sc_l_led_ea66.nd) (dcgs_cons (dcg_name (i := 4) sc_l_led_ea66.nd) dcgs_nil)))) (fun _ _ _ _ _ => dts_nil) (fun _ _ _ _ _ => (de_op opd_mulI (dv 3) (dv 4)))) da_nil))))))) hread hX
theorem ok_l_product_3b0c {c_l_columns_d906 c_l_led_ea66 : DSp} {sp : DSp} (T : Txt P K mg base) (D_l_columns_d906 : Def P w K mg base CX0 1 "_law_columns" s_l_columns_d906 ["_law_table"] c_l_columns_d906) (D_l_led_ea66 : Def P w K mg base CX0 1 "_law_led" s_l_led_ea66 ["_law_table", "_law_path_here"] c_l_led_ea66) (hread : ∀ ds M Q, ds.length = 2 → sp ds M Q DX0 → t_l_product_3b0c c_l_columns_d906 c_l_led_ea66 (dEnds M Q) (startD 3 ds) M) (hX : ∀ ds M Q E, sp ds M Q E → sp ds M Q DX0 := by exact fun _ _ _ _ h => h) : Def P w K mg base CX0 2 "_law_product" s_l_product_3b0c ["_law_one", "_law_other"] sp :=
 T.h_l_product_3b0c.ok (t := t_l_product_3b0c c_l_columns_d906 c_l_led_ea66) sc_l_product_3b0c (fun f cdv A outer s H E hr gd => (dss_one (ds_ret (dcall D_l_columns_d906 hr gd (da_cons (de_lc false (own := [("_law_path_here", 2)]) rfl sc_l_product_3b0c.nd (blkOk_by (N := ["_law_one", "_law_other", "_law_path_here"]) (own := [("_law_path_here", 2)]) (sc := (defScope s_l_product_3b0c)) (by decide +kernel)) (di_seq (dcall D_l_columns_d906 hr gd (da_cons (dv 1) da_nil))) (fun _ _ _ _ _ => (dcg_name (i := 2) sc_l_product_3b0c.nd)) (fun _ _ _ _ _ => dts_nil) (fun _ _ _ _ _ => (dcall D_l_led_ea66 hr gd (da_cons (dv 0) (da_cons (dv 2) da_nil))))) da_nil))))) hread hX
theorem ok_l_path_108b {c_l_random_7821 : DSp} {sp : DSp} (T : Txt P K mg base) (D_l_random_7821 : Def P w K mg base CX0 2 "_law_random" s_l_random_7821 ["_law_generator_here", "_law_bound"] c_l_random_7821) (hread : ∀ ds M Q, ds.length = 1 → sp ds M Q DX0 → t_l_path_108b c_l_random_7821 (dEnds M Q) (startD 3 ds) M) (hX : ∀ ds M Q E, sp ds M Q E → sp ds M Q DX0 := by exact fun _ _ _ _ h => h) : Def P w K mg base CX0 3 "_law_path" s_l_path_108b ["_law_generator_here"] sp :=
 T.h_l_path_108b.ok (t := t_l_path_108b c_l_random_7821) sc_l_path_108b (fun f cdv A outer s H E hr gd => (dss_cons (ds_set (i := 1) sc_l_path_108b.nd (de_ix (de_lst (da_cons de_int (da_cons (de_op opd_pow de_int de_int) (da_cons (de_op opd_pow de_int de_int) da_nil)))) (dcall D_l_random_7821 hr gd (da_cons (dv 0) (da_cons de_int da_nil)))))
 (dss_one (ds_ret (de_lc false (own := [("_law_at", 2)]) rfl sc_l_path_108b.nd (blkOk_by (N := ["_law_generator_here", "_law_most", "_law_at"]) (own := [("_law_at", 2)]) (sc := (defScope s_l_path_108b)) (by decide +kernel)) (di_range1 T.n_range (da_cons de_int da_nil)) (fun _ _ _ _ _ => (dcg_name (i := 2) sc_l_path_108b.nd)) (fun _ _ _ _ _ => dts_nil) (fun _ _ _ _ _ => (de_op opd_sub (dcall D_l_random_7821 hr gd (da_cons (dv 0) (da_cons (de_op opd_add (de_op opd_mulI de_int (dv 1)) de_int) da_nil))) (dv 1)))))))) hread hX
theorem ok_check_path_x {c_is_path_list : DSp} {sp : DSp} (T : Txt P K mg base) (D_is_path_list : Def P w K mg base CX0 2 "is_path_list" s_is_path_list ["value"] c_is_path_list) (hread : ∀ ds M Q E, ds.length = 1 → belowAll M.length ds = true → sp ds M Q E → t_check_path_x c_is_path_list (dOut M E) (dEnds M Q) (startD 1 ds) M) : Def P w K mg base (L2.CX P w) 3 "check_path" s_check_path_x ["path"] sp :=
 T.h_check_path_x.okE (t := t_check_path_x c_is_path_list) sc_check_path_x (fun f cdv A outer s H E hr gd => (dssx_one (dsx_if (dt_not (dt_tru (dcall D_is_path_list hr gd (da_cons (dv 0) da_nil)))) (dssx_one (let ⟨_, _, _, h⟩ := T.e_InvalidList; dsx_raise h rfl hr (da_cons (dv 0) da_nil))) (dssx_of dss_nil)))) hread
theorem ok_path_led_o {sp : DSp} (T : Txt P K mg base) (hread : ∀ ds M Q, ds.length = 2 → sp ds M Q DX0 → t_path_led_o (dEnds M Q) (startD 5 ds) M) (hX : ∀ ds M Q E, sp ds M Q E → sp ds M Q DX0 := by exact fun _ _ _ _ h => h) : Def P w K mg base CX0 1 "path_led" s_path_led_o ["table", "path"] sp :=
 T.h_path_led_o.ok (t := t_path_led_o) sc_path_led_o (fun f cdv A outer s H E hr gd => (dss_one (ds_ret (de_lc true (own := [("row", 2)]) rfl sc_path_led_o.nd (blkOk_by (N := ["table", "path", "row", "item", "often"]) (own := [("row", 2)]) (sc := (defScope s_path_led_o)) (by decide +kernel)) (di_seq (dv 0)) (fun _ _ _ _ _ => (dcg_name (i := 2) sc_path_led_o.nd)) (fun _ _ _ _ _ => dts_nil) (fun _ _ _ _ _ => (de_blt (cd_sum rfl) T.n_sum (da_cons (de_lc false (own := [("item", 3), ("often", 4)]) rfl sc_path_led_o.nd (blkOk_by (N := ["table", "path", "row", "item", "often"]) (own := [("item", 3), ("often", 4)]) (by rfl)) (di_zipS T.n_zip (da_cons (dv 2) (da_cons (dv 1) da_nil))) (fun _ _ _ _ _ => (dcg_tup rfl (dcgs_cons (dcg_name (i := 3) sc_path_led_o.nd) (dcgs_cons (dcg_name (i := 4) sc_path_led_o.nd) dcgs_nil)))) (fun _ _ _ _ _ => dts_nil) (fun _ _ _ _ _ => (de_op opd_mulI (dv 3) (dv 4)))) da_nil))))))) hread hX
theorem ok_led_path_o_x {c_check_table_x c_check_path_x c_path_led_o : DSp} {sp : DSp} (T : Txt P K mg base) (D_check_table_x : Def P w K mg base (L2.CX P w) 3 "check_table" s_check_table_x ["table"] c_check_table_x) (D_check_path_x : Def P w K mg base (L2.CX P w) 3 "check_path" s_check_path_x ["path"] c_check_path_x) (D_path_led_o : Def P w K mg base CX0 1 "path_led" s_path_led_o ["table", "path"] c_path_led_o) (hread : ∀ ds M Q E, ds.length = 2 → belowAll M.length ds = true → sp ds M Q E → t_led_path_o_x c_check_table_x c_check_path_x c_path_led_o (dOut M E) (dEnds M Q) (startD 2 ds) M) : Def P w K mg base (L2.CX P w) 4 "led_path" s_led_path_o_x ["table", "path"] sp :=
 T.h_led_path_o_x.okE (t := t_led_path_o_x c_check_table_x c_check_path_x c_path_led_o) sc_led_path_o_x (fun f cdv A outer s H E hr gd => (dssx_cons (dsx_expr (dcallX D_check_table_x hr gd (dax_cons (dex_of (dv 0)) dax_nil)))
 (dssx_cons (dsx_expr (dcallX D_check_path_x hr gd (dax_cons (dex_of (dv 1)) dax_nil)))
 (dssx_of (dss_one (ds_ret (dcall D_path_led_o hr gd (da_cons (dv 0) (da_cons (dv 1) da_nil))))))))) hread
theorem ok_l_crossing_3f18 {sp : DSp} (T : Txt P K mg base) (hread : ∀ ds M Q, ds.length = 2 → sp ds M Q DX0 → t_l_crossing_3f18 (dEnds M Q) (startD 2 ds) M) (hX : ∀ ds M Q E, sp ds M Q E → sp ds M Q DX0 := by exact fun _ _ _ _ h => h) : Def P w K mg base CX0 1 "_law_crossing" s_l_crossing_3f18 ["_law_one", "_law_other"] sp :=
 T.h_l_crossing_3f18.ok (t := t_l_crossing_3f18) sc_l_crossing_3f18 (fun f cdv A outer s H E hr gd => (dss_one (ds_ret (de_op opd_sub (de_op opd_add (de_op opd_sub (de_op opd_mulI (de_ix (dv 0) de_int) (de_ix (dv 1) de_int)) (de_op opd_mulI (de_ix (dv 0) de_int) (de_ix (dv 1) de_int))) (de_op opd_mulI (de_ix (dv 0) de_int) (de_ix (dv 1) de_int))) (de_op opd_mulI (de_ix (dv 0) de_int) (de_ix (dv 1) de_int)))))) hread hX
theorem ok_l_keeps_2d4c {c_l_columns_d906 c_l_crossing_3f18 c_l_base_3ec4 : DSp} {sp : DSp} (T : Txt P K mg base) (D_l_columns_d906 : Def P w K mg base CX0 1 "_law_columns" s_l_columns_d906 ["_law_table"] c_l_columns_d906) (D_l_crossing_3f18 : Def P w K mg base CX0 1 "_law_crossing" s_l_crossing_3f18 ["_law_one", "_law_other"] c_l_crossing_3f18) (D_l_base_3ec4 : Def P w K mg base CX0 1 "_law_base" s_l_base_3ec4 ["_law_at"] c_l_base_3ec4) (hread : ∀ ds M Q, ds.length = 1 → sp ds M Q DX0 → t_l_keeps_2d4c c_l_columns_d906 c_l_crossing_3f18 c_l_base_3ec4 (dEnds M Q) (startD 4 ds) M) (hX : ∀ ds M Q E, sp ds M Q E → sp ds M Q DX0 := by exact fun _ _ _ _ h => h) : Def P w K mg base CX0 2 "_law_keeps" s_l_keeps_2d4c ["_law_table"] sp :=
 T.h_l_keeps_2d4c.ok (t := t_l_keeps_2d4c c_l_columns_d906 c_l_crossing_3f18 c_l_base_3ec4) sc_l_keeps_2d4c (fun f cdv A outer s H E hr gd => (dss_cons (ds_set (i := 1) sc_l_keeps_2d4c.nd (dcall D_l_columns_d906 hr gd (da_cons (dv 0) da_nil)))
 (dss_cons (ds_for rfl (di_range1 T.n_range (da_cons de_int da_nil)) (dg_name (i := 2) sc_l_keeps_2d4c.nd) (dss_one (ds_for rfl (di_range1 T.n_range (da_cons de_int da_nil)) (dg_name (i := 3) sc_l_keeps_2d4c.nd) (dss_one (ds_if (dt_cmp (opd_ne (u64 hr)) (dcall D_l_crossing_3f18 hr gd (da_cons (de_ix (dv 1) (dv 2)) (da_cons (de_ix (dv 1) (dv 3)) da_nil))) (dcall D_l_crossing_3f18 hr gd (da_cons (dcall D_l_base_3ec4 hr gd (da_cons (dv 2) da_nil)) (da_cons (dcall D_l_base_3ec4 hr gd (da_cons (dv 3) da_nil)) da_nil))) (nomark _)) (dss_one (ds_ret de_bl)) dss_nil)))))
 (dss_one (ds_ret de_bl))))) hread hX
theorem ok_crossing_by {sp : DSp} (T : Txt P K mg base) (hread : ∀ ds M Q, ds.length = 2 → sp ds M Q DX0 → t_crossing_by (dEnds M Q) (startD 3 ds) M) (hX : ∀ ds M Q E, sp ds M Q E → sp ds M Q DX0 := by exact fun _ _ _ _ h => h) : Def P w K mg base CX0 1 "crossing_by" s_crossing_by ["one", "other"] sp :=
 T.h_crossing_by.ok (t := t_crossing_by) sc_crossing_by (fun f cdv A outer s H E hr gd => (dss_cons (ds_set (i := 2) sc_crossing_by.nd (de_op opd_sub (de_op opd_mulI (de_ix (dv 0) de_int) (de_ix (dv 1) de_int)) (de_op opd_mulI (de_ix (dv 0) de_int) (de_ix (dv 1) de_int))))
 (dss_one (ds_ret (de_op opd_sub (de_op opd_add (dv 2) (de_op opd_mulI (de_ix (dv 0) de_int) (de_ix (dv 1) de_int))) (de_op opd_mulI (de_ix (dv 0) de_int) (de_ix (dv 1) de_int))))))) hread hX
theorem ok_keeps_by {c_turned_about_o c_crossing_by : DSp} {sp : DSp} (T : Txt P K mg base) (D_turned_about_o : Def P w K mg base CX0 1 "turned_about" s_turned_about_o ["table"] c_turned_about_o) (D_crossing_by : Def P w K mg base CX0 1 "crossing_by" s_crossing_by ["one", "other"] c_crossing_by) (hread : ∀ ds M Q, ds.length = 1 → sp ds M Q DX0 → t_keeps_by c_turned_about_o c_crossing_by (dEnds M Q) (startD 6 ds) M) (hX : ∀ ds M Q E, sp ds M Q E → sp ds M Q DX0 := by exact fun _ _ _ _ h => h) : Def P w K mg base CX0 2 "keeps_by" s_keeps_by ["table"] sp :=
 T.h_keeps_by.ok (t := t_keeps_by c_turned_about_o c_crossing_by) sc_keeps_by (fun f cdv A outer s H E hr gd => (dss_cons (ds_set (i := 1) sc_keeps_by.nd (dcall D_turned_about_o hr gd (da_cons (dv 0) da_nil)))
 (dss_cons (ds_for rfl (di_enum T.n_enumerate (da_cons (dv 1) da_nil)) (dg_tup rfl (dgs_cons (dg_name (i := 2) sc_keeps_by.nd) (dgs_cons (dg_name (i := 3) sc_keeps_by.nd) dgs_nil))) (dss_one (ds_for rfl (di_enum T.n_enumerate (da_cons (dv 1) da_nil)) (dg_tup rfl (dgs_cons (dg_name (i := 4) sc_keeps_by.nd) (dgs_cons (dg_name (i := 5) sc_keeps_by.nd) dgs_nil))) (dss_one (ds_if (dt_cmp (opd_ne (u64 hr)) (dcall D_crossing_by hr gd (da_cons (dv 3) (da_cons (dv 5) da_nil))) (dcall D_crossing_by hr gd (da_cons (de_ix (let ⟨_, h, h2⟩ := T.c_SELF; de_globK rfl h h2) (dv 2)) (da_cons (de_ix (let ⟨_, h, h2⟩ := T.c_SELF; de_globK rfl h h2) (dv 4)) da_nil))) (nomark _)) (dss_one (ds_ret de_bl)) dss_nil)))))
 (dss_one (ds_ret de_bl))))) hread hX
theorem ok_keeps_crossings_x {c_check_table_x c_keeps_by : DSp} {sp : DSp} (T : Txt P K mg base) (D_check_table_x : Def P w K mg base (L2.CX P w) 3 "check_table" s_check_table_x ["table"] c_check_table_x) (D_keeps_by : Def P w K mg base CX0 2 "keeps_by" s_keeps_by ["table"] c_keeps_by) (hread : ∀ ds M Q E, ds.length = 1 → belowAll M.length ds = true → sp ds M Q E → t_keeps_crossings_x c_check_table_x c_keeps_by (dOut M E) (dEnds M Q) (startD 1 ds) M) : Def P w K mg base (L2.CX P w) 4 "keeps_crossings" s_keeps_crossings_x ["table"] sp :=
 T.h_keeps_crossings_x.okE (t := t_keeps_crossings_x c_check_table_x c_keeps_by) sc_keeps_crossings_x (fun f cdv A outer s H E hr gd => (dssx_cons (dsx_expr (dcallX D_check_table_x hr gd (dax_cons (dex_of (dv 0)) dax_nil)))
 (dssx_of (dss_one (ds_ret (dcall D_keeps_by hr gd (da_cons (dv 0) da_nil))))))) hread
theorem ok_back_of_o {sp : DSp} (T : Txt P K mg base) (hread : ∀ ds M Q, ds.length = 1 → sp ds M Q DX0 → t_back_of_o (dEnds M Q) (startD 8 ds) M) (hX : ∀ ds M Q E, sp ds M Q E → sp ds M Q DX0 := by exact fun _ _ _ _ h => h) : Def P w K mg base CX0 1 "back_of" s_back_of_o ["table"] sp :=
 T.h_back_of_o.ok (t := t_back_of_o) sc_back_of_o (fun f cdv A outer s H E hr gd => (dss_cons (ds_set (i := 1) sc_back_of_o.nd (de_own da_nil))
 (dss_cons (ds_for rfl (di_range1 T.n_range (da_cons de_int da_nil)) (dg_name (i := 2) sc_back_of_o.nd) (dss_cons (ds_set (i := 3) sc_back_of_o.nd (de_if (dt_cmp (opd_eq (u64 hr)) (de_op opd_mod (dv 2) de_int) de_int (nomark _)) (de_op opd_add (dv 2) de_int) (de_op opd_sub (dv 2) de_int)))
 (dss_cons (ds_set (i := 4) sc_back_of_o.nd (de_if (dt_cmp (opd_eq (u64 hr)) (de_op opd_mod (dv 2) de_int) de_int (nomark _)) de_int (de_neg de_int)))
 (dss_cons (ds_set (i := 5) sc_back_of_o.nd (de_own da_nil))
 (dss_cons (ds_for rfl (di_range1 T.n_range (da_cons de_int da_nil)) (dg_name (i := 6) sc_back_of_o.nd) (dss_cons (ds_set (i := 7) sc_back_of_o.nd (de_if (dt_cmp (opd_eq (u64 hr)) (de_op opd_mod (dv 6) de_int) de_int (nomark _)) (de_op opd_add (dv 6) de_int) (de_op opd_sub (dv 6) de_int)))
 (dss_one (ds_expr (de_append (dv 5) (da_cons (de_op opd_mulI (de_op opd_mulI (dv 4) (de_if (dt_cmp (opd_eq (u64 hr)) (de_op opd_mod (dv 6) de_int) de_int (nomark _)) de_int (de_neg de_int))) (de_ix (de_ix (dv 0) (dv 7)) (dv 3))) da_nil))))))
 (dss_one (ds_expr (de_append (dv 1) (da_cons (dv 5) da_nil)))))))))
 (dss_one (ds_ret (dv 1)))))) hread hX
theorem ok_table_back_o_x {c_check_table_x c_keeps_by c_back_of_o : DSp} {sp : DSp} (T : Txt P K mg base) (D_check_table_x : Def P w K mg base (L2.CX P w) 3 "check_table" s_check_table_x ["table"] c_check_table_x) (D_keeps_by : Def P w K mg base CX0 2 "keeps_by" s_keeps_by ["table"] c_keeps_by) (D_back_of_o : Def P w K mg base CX0 1 "back_of" s_back_of_o ["table"] c_back_of_o) (hread : ∀ ds M Q E, ds.length = 1 → belowAll M.length ds = true → sp ds M Q E → t_table_back_o_x c_check_table_x c_keeps_by c_back_of_o (dOut M E) (dEnds M Q) (startD 1 ds) M) : Def P w K mg base (L2.CX P w) 4 "table_back" s_table_back_o_x ["table"] sp :=
 T.h_table_back_o_x.okE (t := t_table_back_o_x c_check_table_x c_keeps_by c_back_of_o) sc_table_back_o_x (fun f cdv A outer s H E hr gd => (dssx_cons (dsx_expr (dcallX D_check_table_x hr gd (dax_cons (dex_of (dv 0)) dax_nil)))
 (dssx_cons (dsx_if (dt_not (dt_tru (dcall D_keeps_by hr gd (da_cons (dv 0) da_nil)))) (dssx_one (let ⟨_, _, _, h⟩ := T.e_InvalidTable; dsx_raise h rfl hr (da_cons (dv 0) da_nil))) (dssx_of dss_nil))
 (dssx_of (dss_one (ds_ret (dcall D_back_of_o hr gd (da_cons (dv 0) da_nil)))))))) hread
theorem ok_l_refused_c25c {c_table_back_o_x : DSp} {sp : DSp} (T : Txt P K mg base) (D_table_back_o_x : Def P w K mg base (L2.CX P w) 4 "table_back" s_table_back_o_x ["table"] c_table_back_o_x) (hread : ∀ ds M Q, ds.length = 1 → sp ds M Q DX0 → t_l_refused_c25c c_table_back_o_x (dEnds M Q) (startD 3 ds) M) (hX : ∀ ds M Q E, sp ds M Q E → sp ds M Q DX0 := by exact fun _ _ _ _ h => h) : Def P w K mg base CX0 5 "_law_refused" s_l_refused_c25c ["_law_table"] sp :=
 T.h_l_refused_c25c.ok (t := t_l_refused_c25c c_table_back_o_x) sc_l_refused_c25c (fun f cdv A outer s H E hr gd => (dss_cons (ds_set (i := 1) sc_l_refused_c25c.nd de_non)
 (dss_cons (let ⟨_, h⟩ := T.s_SheetError; ds_try (i := 2) rfl rfl sc_l_refused_c25c.nd (.inr ⟨rfl, h.1⟩) h.2 takes0 (fun pn xe hp => (dssx_one (dsx_expr (dcallX D_table_back_o_x hr gd (dax_cons (dex_of (dv 0)) dax_nil))))) (fun a pn => (dss_one (ds_set (i := 1) sc_l_refused_c25c.nd (de_and (de_blt (cd_isx T.isE) T.n_isinstance (da_cons (dv 2) (da_cons (let ⟨_, _, _, h⟩ := T.e_InvalidTable; de_gname h.er.ns h.gC) da_nil))) (de_one (de_cmp (opd_eqE (u64m hr)) (de_blt (cd_reprE gd (uxm hr)) T.n_repr (da_cons (de_fld (dv 2)) da_nil)) (de_blt (cd_reprE gd (uxm hr)) T.n_repr (da_cons (dv 0) da_nil)) (nomark _))))))))
 (dss_one (ds_ret (de_cmp opd_is (dv 1) de_bl (nomark _))))))) hread hX
theorem ok_l_back_51d9 {c_l_columns_d906 c_l_crossing_3f18 c_l_base_3ec4 : DSp} {sp : DSp} (T : Txt P K mg base) (D_l_columns_d906 : Def P w K mg base CX0 1 "_law_columns" s_l_columns_d906 ["_law_table"] c_l_columns_d906) (D_l_crossing_3f18 : Def P w K mg base CX0 1 "_law_crossing" s_l_crossing_3f18 ["_law_one", "_law_other"] c_l_crossing_3f18) (D_l_base_3ec4 : Def P w K mg base CX0 1 "_law_base" s_l_base_3ec4 ["_law_at"] c_l_base_3ec4) (hread : ∀ ds M Q, ds.length = 1 → sp ds M Q DX0 → t_l_back_51d9 c_l_columns_d906 c_l_crossing_3f18 c_l_base_3ec4 (dEnds M Q) (startD 6 ds) M) (hX : ∀ ds M Q E, sp ds M Q E → sp ds M Q DX0 := by exact fun _ _ _ _ h => h) : Def P w K mg base CX0 2 "_law_back" s_l_back_51d9 ["_law_table"] sp :=
 T.h_l_back_51d9.ok (t := t_l_back_51d9 c_l_columns_d906 c_l_crossing_3f18 c_l_base_3ec4) sc_l_back_51d9 (fun f cdv A outer s H E hr gd => (dss_cons (ds_par (i := 1) (j := 2) rfl sc_l_back_51d9.nd (da_cons (dcall D_l_columns_d906 hr gd (da_cons (dv 0) da_nil)) (da_cons (de_own da_nil) da_nil)))
 (dss_cons (ds_for rfl (di_seq (de_lst (da_cons (de_ix (dv 1) de_int) (da_cons (de_ix (dv 1) de_int) (da_cons (de_ix (dv 1) de_int) (da_cons (de_ix (dv 1) de_int) da_nil)))))) (dg_name (i := 3) sc_l_back_51d9.nd) (dss_one (ds_expr (de_append (dv 2) (da_cons (de_lc false (own := [("_law_at", 4)]) rfl sc_l_back_51d9.nd (blkOk_by (N := ["_law_table", "_law_led_here", "_law_found", "_law_path_here", "_law_at", "_law_item"]) (own := [("_law_at", 4)]) (sc := (defScope s_l_back_51d9)) (by decide +kernel)) (di_range1 T.n_range (da_cons de_int da_nil)) (fun _ _ _ _ _ => (dcg_name (i := 4) sc_l_back_51d9.nd)) (fun _ _ _ _ _ => dts_nil) (fun _ _ _ _ _ => (dcall D_l_crossing_3f18 hr gd (da_cons (dcall D_l_base_3ec4 hr gd (da_cons (dv 4) da_nil)) (da_cons (dv 3) da_nil))))) da_nil)))))
 (dss_one (ds_ret (de_lst (da_cons (de_ix (dv 2) de_int) (da_cons (de_lc false (own := [("_law_item", 5)]) rfl sc_l_back_51d9.nd (blkOk_by (N := ["_law_table", "_law_led_here", "_law_found", "_law_path_here", "_law_at", "_law_item"]) (own := [("_law_item", 5)]) (sc := (defScope s_l_back_51d9)) (by decide +kernel)) (di_seq (de_ix (dv 2) de_int)) (fun _ _ _ _ _ => (dcg_name (i := 5) sc_l_back_51d9.nd)) (fun _ _ _ _ _ => dts_nil) (fun _ _ _ _ _ => (de_op opd_sub de_int (dv 5)))) (da_cons (de_ix (dv 2) de_int) (da_cons (de_lc false (own := [("_law_item", 5)]) rfl sc_l_back_51d9.nd (blkOk_by (N := ["_law_table", "_law_led_here", "_law_found", "_law_path_here", "_law_at", "_law_item"]) (own := [("_law_item", 5)]) (sc := (defScope s_l_back_51d9)) (by decide +kernel)) (di_seq (de_ix (dv 2) de_int)) (fun _ _ _ _ _ => (dcg_name (i := 5) sc_l_back_51d9.nd)) (fun _ _ _ _ _ => dts_nil) (fun _ _ _ _ _ => (de_op opd_sub de_int (dv 5)))) da_nil)))))))))) hread hX
theorem ok_l_one_right_7eef {c_l_keeps_2d4c c_keeps_crossings c_l_refused_c25c c_table_back_o c_l_back_51d9 c_l_product_3b0c c_l_self_a3eb : DSp} {sp : DSp} (T : Txt P K mg base) (D_l_keeps_2d4c : Def P w K mg base CX0 2 "_law_keeps" s_l_keeps_2d4c ["_law_table"] c_l_keeps_2d4c) (D_keeps_crossings : Def P w K mg base (L2.CX P w) 4 "keeps_crossings" s_keeps_crossings_x ["table"] c_keeps_crossings) (D_l_refused_c25c : Def P w K mg base CX0 5 "_law_refused" s_l_refused_c25c ["_law_table"] c_l_refused_c25c) (D_table_back_o : Def P w K mg base (L2.CX P w) 4 "table_back" s_table_back_o_x ["table"] c_table_back_o) (D_l_back_51d9 : Def P w K mg base CX0 2 "_law_back" s_l_back_51d9 ["_law_table"] c_l_back_51d9) (D_l_product_3b0c : Def P w K mg base CX0 2 "_law_product" s_l_product_3b0c ["_law_one", "_law_other"] c_l_product_3b0c) (D_l_self_a3eb : Def P w K mg base CX0 2 "_law_self" s_l_self_a3eb [] c_l_self_a3eb) (hread : ∀ ds M Q, ds.length = 1 → sp ds M Q DX0 → t_l_one_right_7eef c_l_keeps_2d4c c_keeps_crossings c_l_refused_c25c c_table_back_o c_l_back_51d9 c_l_product_3b0c c_l_self_a3eb (dEnds M Q) (startD 4 ds) M) (hX : ∀ ds M Q E, sp ds M Q E → sp ds M Q DX0 := by exact fun _ _ _ _ h => h) : Def P w K mg base CX0 6 "_law_one_right" s_l_one_right_7eef ["_law_table"] sp :=
 T.h_l_one_right_7eef.ok (t := t_l_one_right_7eef c_l_keeps_2d4c c_keeps_crossings c_l_refused_c25c c_table_back_o c_l_back_51d9 c_l_product_3b0c c_l_self_a3eb) sc_l_one_right_7eef (fun f cdv A outer s H E hr gd => (dss_cons (ds_par (i := 1) (j := 2) rfl sc_l_one_right_7eef.nd (da_cons (dcall D_l_keeps_2d4c hr gd (da_cons (dv 0) da_nil)) (da_cons (de_blt (cd_reprE gd (ux hr)) T.n_repr (da_cons (dv 0) da_nil)) da_nil)))
 (dss_cons (ds_if (DW.dt (dw_or (dt_cmp (opd_neE (u64 hr)) (de_blt (cd_reprE gd (ux hr)) T.n_repr (da_cons (dcallN D_keeps_crossings hr gd (da_cons (dv 0) da_nil)) da_nil)) (de_blt (cd_reprE gd (ux hr)) T.n_repr (da_cons (dv 1) da_nil)) (nomark _)) (dw_or (dt_cmp (opd_neE (u64 hr)) (de_blt (cd_reprE gd (ux hr)) T.n_repr (da_cons (dcallKN [0] D_keeps_crossings hr gd (dk_cons (dv 0) dk_nil) (ks := ["table"]) rfl (fun _ _ _ _ _ _ us hl => match us, hl with | [_], _ => rfl)) da_nil)) (de_blt (cd_reprE gd (ux hr)) T.n_repr (da_cons (dv 1) da_nil)) (nomark _)) (dw_or1 (dt_cmp (opd_neE (u64 hr)) (de_blt (cd_reprE gd (ux hr)) T.n_repr (da_cons (dv 0) da_nil)) (dv 2) (nomark _)))))) (dss_one (ds_ret de_bl)) dss_nil)
 (dss_cons (ds_if (dt_not (dt_tru (dv 1))) (dss_one (ds_ret (dcall D_l_refused_c25c hr gd (da_cons (dv 0) da_nil)))) dss_nil)
 (dss_cons (ds_set (i := 3) sc_l_one_right_7eef.nd (dcallN D_table_back_o hr gd (da_cons (dv 0) da_nil)))
 (dss_cons (ds_if (DW.dt (dw_or (dt_cmp (opd_neE (u64 hr)) (dv 3) (dcall D_l_back_51d9 hr gd (da_cons (dv 0) da_nil)) (nomark _)) (dw_or (dt_cmp (opd_neE (u64 hr)) (dcall D_l_product_3b0c hr gd (da_cons (dv 0) (da_cons (dv 3) da_nil))) (dcall0 D_l_self_a3eb hr gd) (nomark _)) (dw_or1 (dt_cmp (opd_neE (u64 hr)) (de_blt (cd_reprE gd (ux hr)) T.n_repr (da_cons (dv 0) da_nil)) (dv 2) (nomark _)))))) (dss_one (ds_ret de_bl)) dss_nil)
 (dss_cons (ds_asg de_non (dg_sub (de_ix (dv 3) de_int) de_int))
 (dss_one (ds_ret (de_cmp (opd_eqE (u64 hr)) (dcallN D_table_back_o hr gd (da_cons (dv 0) da_nil)) (dcall D_l_back_51d9 hr gd (da_cons (dv 0) da_nil)) (nomark _))))))))))) hread hX
theorem ok_l_right_b49f {c_l_self_a3eb c_l_random_7821 c_l_stepped_3049 c_table_product_o c_l_product_3b0c c_l_path_108b c_led_path_o c_l_led_ea66 c_l_columns_d906 c_l_one_right_7eef : DSp} {sp : DSp} (T : Txt P K mg base) (D_l_self_a3eb : Def P w K mg base CX0 2 "_law_self" s_l_self_a3eb [] c_l_self_a3eb) (D_l_random_7821 : Def P w K mg base CX0 2 "_law_random" s_l_random_7821 ["_law_generator_here", "_law_bound"] c_l_random_7821) (D_l_stepped_3049 : Def P w K mg base CX0 3 "_law_stepped" s_l_stepped_3049 ["_law_generator_here", "_law_table"] c_l_stepped_3049) (D_table_product_o : Def P w K mg base (L2.CX P w) 4 "table_product" s_table_product_o_x ["one", "other"] c_table_product_o) (D_l_product_3b0c : Def P w K mg base CX0 2 "_law_product" s_l_product_3b0c ["_law_one", "_law_other"] c_l_product_3b0c) (D_l_path_108b : Def P w K mg base CX0 3 "_law_path" s_l_path_108b ["_law_generator_here"] c_l_path_108b) (D_led_path_o : Def P w K mg base (L2.CX P w) 4 "led_path" s_led_path_o_x ["table", "path"] c_led_path_o) (D_l_led_ea66 : Def P w K mg base CX0 1 "_law_led" s_l_led_ea66 ["_law_table", "_law_path_here"] c_l_led_ea66) (D_l_columns_d906 : Def P w K mg base CX0 1 "_law_columns" s_l_columns_d906 ["_law_table"] c_l_columns_d906) (D_l_one_right_7eef : Def P w K mg base CX0 6 "_law_one_right" s_l_one_right_7eef ["_law_table"] c_l_one_right_7eef) (hread : ∀ ds M Q, ds.length = 1 → sp ds M Q DX0 → t_l_right_b49f c_l_self_a3eb c_l_random_7821 c_l_stepped_3049 c_table_product_o c_l_product_3b0c c_l_path_108b c_led_path_o c_l_led_ea66 c_l_columns_d906 c_l_one_right_7eef (dEnds M Q) (startD 22 ds) M) (hX : ∀ ds M Q E, sp ds M Q E → sp ds M Q DX0 := by exact fun _ _ _ _ h => h) : Def P w K mg base CX0 7 "_law_right" s_l_right_b49f ["_law_generator_here"] sp :=
 T.h_l_right_b49f.ok (t := t_l_right_b49f c_l_self_a3eb c_l_random_7821 c_l_stepped_3049 c_table_product_o c_l_product_3b0c c_l_path_108b c_led_path_o c_l_led_ea66 c_l_columns_d906 c_l_one_right_7eef) sc_l_right_b49f (fun f cdv A outer s H E hr gd => (dss_cons (ds_par (i := 1) (j := 2) rfl sc_l_right_b49f.nd (da_cons (dcall0 D_l_self_a3eb hr gd) (da_cons (de_own da_nil) da_nil)))
 (dss_cons (ds_for rfl (di_range1 T.n_range (da_cons (de_op opd_add de_int (dcall D_l_random_7821 hr gd (da_cons (dv 0) (da_cons de_int da_nil)))) da_nil)) (dg_name (i := 3) sc_l_right_b49f.nd) (dss_cons (ds_set (i := 1) sc_l_right_b49f.nd (dcall D_l_stepped_3049 hr gd (da_cons (dv 0) (da_cons (dv 1) da_nil))))
 (dss_one (ds_expr (de_append (dv 2) (da_cons (dv 1) da_nil))))))
 (dss_cons (ds_set (i := 4) sc_l_right_b49f.nd (de_ix (dv 2) (dcall D_l_random_7821 hr gd (da_cons (dv 0) (da_cons (de_blt cd_len T.n_len (da_cons (dv 2) da_nil)) da_nil)))))
 (dss_cons (ds_if (DW.dt (dw_or (dt_cmp (opd_neE (u64 hr)) (dcallN D_table_product_o hr gd (da_cons (dv 1) (da_cons (dv 4) da_nil))) (dcall D_l_product_3b0c hr gd (da_cons (dv 1) (da_cons (dv 4) da_nil))) (nomark _)) (dw_or1 (dt_cmp (opd_neE (u64 hr)) (dcallKN [1, 0] D_table_product_o hr gd (dk_cons (dv 1) (dk_cons (dv 4) dk_nil)) (ks := ["other", "one"]) rfl (fun _ _ _ _ _ _ us hl => match us, hl with | [_, _], _ => rfl)) (dcall D_l_product_3b0c hr gd (da_cons (dv 4) (da_cons (dv 1) da_nil))) (nomark _))))) (dss_one (ds_ret de_bl)) dss_nil)
 (dss_cons (ds_set (i := 5) sc_l_right_b49f.nd (dcall D_l_path_108b hr gd (da_cons (dv 0) da_nil)))
 (dss_cons (ds_if (dt_cmp (opd_neE (u64 hr)) (dcallN D_led_path_o hr gd (da_cons (dcallN D_table_product_o hr gd (da_cons (dv 1) (da_cons (dv 4) da_nil))) (da_cons (dv 5) da_nil))) (dcall D_l_led_ea66 hr gd (da_cons (dv 1) (da_cons (dcall D_l_led_ea66 hr gd (da_cons (dv 4) (da_cons (dv 5) da_nil))) da_nil))) (nomark _)) (dss_one (ds_ret de_bl)) dss_nil)
 (dss_cons (ds_par (i := 6) (j := 7) rfl sc_l_right_b49f.nd (da_cons (dcall D_l_random_7821 hr gd (da_cons (dv 0) (da_cons de_int da_nil))) (da_cons (dcall D_l_random_7821 hr gd (da_cons (dv 0) (da_cons de_int da_nil))) da_nil)))
 (dss_cons (ds_setLc true (i := 8) (own := [("_law_row", 9)]) rfl sc_l_right_b49f.nd  (sw_true rfl rfl rfl (by decide +kernel)) (blkOk_by (N := ["_law_generator_here", "_law_table", "_law_made", "_law_turn", "_law_other", "_law_path_here", "_law_low", "_law_high", "_law_bent", "_law_row", "_law_drawn", "_law_at", "_law_twice", "_law_double", "_law_item", "_law_opposite", "_law_turned", "_law_nought", "_law_one", "_law_told", "_law_kept", "_law_some"]) (own := [("_law_row", 9)]) (sc := (defScope s_l_right_b49f)) (by decide +kernel)) (di_seq (dv 1)) (fun _ _ _ _ _ => (dcg_name (i := 9) sc_l_right_b49f.nd)) (fun _ _ _ _ _ => dts_nil) (fun _ _ _ _ _ => (de_ty (cd_list true) T.n_list (da_cons (dv 9) da_nil))))
 (dss_cons (ds_asg (de_op opd_sub (de_op opd_add (de_ix (de_ix (dv 8) (dv 6)) (dv 7)) de_int) (de_op opd_mulI de_int (dcall D_l_random_7821 hr gd (da_cons (dv 0) (da_cons de_int da_nil))))) (dg_sub (de_ix (dv 8) (dv 6)) (dv 7)))
 (dss_cons (ds_setLc false (i := 10) (own := [("_law_row", 9)]) rfl sc_l_right_b49f.nd  (sw_true rfl rfl rfl (by decide +kernel)) (blkOk_by (N := ["_law_generator_here", "_law_table", "_law_made", "_law_turn", "_law_other", "_law_path_here", "_law_low", "_law_high", "_law_bent", "_law_row", "_law_drawn", "_law_at", "_law_twice", "_law_double", "_law_item", "_law_opposite", "_law_turned", "_law_nought", "_law_one", "_law_told", "_law_kept", "_law_some"]) (own := [("_law_row", 9)]) (sc := (defScope s_l_right_b49f)) (by decide +kernel)) (di_range1 T.n_range (da_cons de_int da_nil)) (fun _ _ _ _ _ => (dcg_name (i := 9) sc_l_right_b49f.nd)) (fun _ _ _ _ _ => dts_nil) (fun _ _ _ _ _ => (de_lc false (own := [("_law_at", 11)]) rfl sc_l_right_b49f.nd (blkOk_by (N := ["_law_generator_here", "_law_table", "_law_made", "_law_turn", "_law_other", "_law_path_here", "_law_low", "_law_high", "_law_bent", "_law_row", "_law_drawn", "_law_at", "_law_twice", "_law_double", "_law_item", "_law_opposite", "_law_turned", "_law_nought", "_law_one", "_law_told", "_law_kept", "_law_some"]) (own := [("_law_at", 11)]) (by rfl)) (di_range1 T.n_range (da_cons de_int da_nil)) (fun _ _ _ _ _ => (dcg_name (i := 11) sc_l_right_b49f.nd)) (fun _ _ _ _ _ => dts_nil) (fun _ _ _ _ _ => (de_op opd_sub (dcall D_l_random_7821 hr gd (da_cons (dv 0) (da_cons de_int da_nil))) de_int)))))
 (dss_cons (ds_set (i := 12) sc_l_right_b49f.nd (de_op opd_add (de_lst (da_cons (de_ty (cd_list false) T.n_list (da_cons (de_ix (dv 1) (dv 6)) da_nil)) da_nil)) (de_lc false (own := [("_law_row", 9)]) rfl sc_l_right_b49f.nd (blkOk_by (N := ["_law_generator_here", "_law_table", "_law_made", "_law_turn", "_law_other", "_law_path_here", "_law_low", "_law_high", "_law_bent", "_law_row", "_law_drawn", "_law_at", "_law_twice", "_law_double", "_law_item", "_law_opposite", "_law_turned", "_law_nought", "_law_one", "_law_told", "_law_kept", "_law_some"]) (own := [("_law_row", 9)]) (sc := (defScope s_l_right_b49f)) (by decide +kernel)) (di_seq (de_sl false (dv 1) (do_some de_int) do_none)) (fun _ _ _ _ _ => (dcg_name (i := 9) sc_l_right_b49f.nd)) (fun _ _ _ _ _ => dts_nil) (fun _ _ _ _ _ => (de_ty (cd_list false) T.n_list (da_cons (dv 9) da_nil))))))
 (dss_cons (ds_setLc false (i := 13) (own := [("_law_row", 9)]) rfl sc_l_right_b49f.nd  (sw_true rfl rfl rfl (by decide +kernel)) (blkOk_by (N := ["_law_generator_here", "_law_table", "_law_made", "_law_turn", "_law_other", "_law_path_here", "_law_low", "_law_high", "_law_bent", "_law_row", "_law_drawn", "_law_at", "_law_twice", "_law_double", "_law_item", "_law_opposite", "_law_turned", "_law_nought", "_law_one", "_law_told", "_law_kept", "_law_some"]) (own := [("_law_row", 9)]) (sc := (defScope s_l_right_b49f)) (by decide +kernel)) (di_seq (dv 1)) (fun _ _ _ _ _ => (dcg_name (i := 9) sc_l_right_b49f.nd)) (fun _ _ _ _ _ => dts_nil) (fun _ _ _ _ _ => (de_lc false (own := [("_law_item", 14)]) rfl sc_l_right_b49f.nd (blkOk_by (N := ["_law_generator_here", "_law_table", "_law_made", "_law_turn", "_law_other", "_law_path_here", "_law_low", "_law_high", "_law_bent", "_law_row", "_law_drawn", "_law_at", "_law_twice", "_law_double", "_law_item", "_law_opposite", "_law_turned", "_law_nought", "_law_one", "_law_told", "_law_kept", "_law_some"]) (own := [("_law_item", 14)]) (by rfl)) (di_seq (dv 9)) (fun _ _ _ _ _ => (dcg_name (i := 14) sc_l_right_b49f.nd)) (fun _ _ _ _ _ => dts_nil) (fun _ _ _ _ _ => (de_op opd_mulI de_int (dv 14))))))
 (dss_cons (ds_setLc false (i := 15) (own := [("_law_row", 9)]) rfl sc_l_right_b49f.nd  (sw_true rfl rfl rfl (by decide +kernel)) (blkOk_by (N := ["_law_generator_here", "_law_table", "_law_made", "_law_turn", "_law_other", "_law_path_here", "_law_low", "_law_high", "_law_bent", "_law_row", "_law_drawn", "_law_at", "_law_twice", "_law_double", "_law_item", "_law_opposite", "_law_turned", "_law_nought", "_law_one", "_law_told", "_law_kept", "_law_some"]) (own := [("_law_row", 9)]) (sc := (defScope s_l_right_b49f)) (by decide +kernel)) (di_seq (dv 1)) (fun _ _ _ _ _ => (dcg_name (i := 9) sc_l_right_b49f.nd)) (fun _ _ _ _ _ => dts_nil) (fun _ _ _ _ _ => (de_lc false (own := [("_law_item", 14)]) rfl sc_l_right_b49f.nd (blkOk_by (N := ["_law_generator_here", "_law_table", "_law_made", "_law_turn", "_law_other", "_law_path_here", "_law_low", "_law_high", "_law_bent", "_law_row", "_law_drawn", "_law_at", "_law_twice", "_law_double", "_law_item", "_law_opposite", "_law_turned", "_law_nought", "_law_one", "_law_told", "_law_kept", "_law_some"]) (own := [("_law_item", 14)]) (by rfl)) (di_seq (dv 9)) (fun _ _ _ _ _ => (dcg_name (i := 14) sc_l_right_b49f.nd)) (fun _ _ _ _ _ => dts_nil) (fun _ _ _ _ _ => (de_op opd_sub de_int (dv 14))))))
 (dss_cons (ds_set (i := 16) sc_l_right_b49f.nd (de_op opd_add (de_lst (da_cons (de_ty (cd_list false) T.n_list (da_cons (de_ix (dv 1) de_int) da_nil)) (da_cons (de_ty (cd_list false) T.n_list (da_cons (de_ix (dv 1) de_int) da_nil)) da_nil))) (de_lc false (own := [("_law_row", 9)]) rfl sc_l_right_b49f.nd (blkOk_by (N := ["_law_generator_here", "_law_table", "_law_made", "_law_turn", "_law_other", "_law_path_here", "_law_low", "_law_high", "_law_bent", "_law_row", "_law_drawn", "_law_at", "_law_twice", "_law_double", "_law_item", "_law_opposite", "_law_turned", "_law_nought", "_law_one", "_law_told", "_law_kept", "_law_some"]) (own := [("_law_row", 9)]) (sc := (defScope s_l_right_b49f)) (by decide +kernel)) (di_seq (de_sl false (dv 1) (do_some de_int) do_none)) (fun _ _ _ _ _ => (dcg_name (i := 9) sc_l_right_b49f.nd)) (fun _ _ _ _ _ => dts_nil) (fun _ _ _ _ _ => (de_ty (cd_list false) T.n_list (da_cons (dv 9) da_nil))))))
 (dss_cons (ds_setLc false (i := 17) (own := [("_law_row", 9)]) rfl sc_l_right_b49f.nd  (sw_true rfl rfl rfl (by decide +kernel)) (blkOk_by (N := ["_law_generator_here", "_law_table", "_law_made", "_law_turn", "_law_other", "_law_path_here", "_law_low", "_law_high", "_law_bent", "_law_row", "_law_drawn", "_law_at", "_law_twice", "_law_double", "_law_item", "_law_opposite", "_law_turned", "_law_nought", "_law_one", "_law_told", "_law_kept", "_law_some"]) (own := [("_law_row", 9)]) (sc := (defScope s_l_right_b49f)) (by decide +kernel)) (di_range1 T.n_range (da_cons de_int da_nil)) (fun _ _ _ _ _ => (dcg_name (i := 9) sc_l_right_b49f.nd)) (fun _ _ _ _ _ => dts_nil) (fun _ _ _ _ _ => (de_op opd_mulL (de_lst (da_cons de_int da_nil)) de_int)))
 (dss_cons (ds_for rfl (di_seq (de_lst (da_cons (dv 1) (da_cons (dv 4) (da_cons (dv 8) (da_cons (dv 10) (da_cons (dv 12) (da_cons (dv 13) (da_cons (dv 15) (da_cons (dv 16) (da_cons (dcall D_l_columns_d906 hr gd (da_cons (dv 1) da_nil)) (da_cons (dv 17) da_nil)))))))))))) (dg_name (i := 18) sc_l_right_b49f.nd) (dss_cons (ds_if (dt_not (dt_tru (dcall D_l_one_right_7eef hr gd (da_cons (dv 18) da_nil)))) (dss_one (ds_ret de_bl)) dss_nil)
 (dss_one (ds_if (DW.dt (dw_or (dt_cmp (opd_neE (u64 hr)) (dcallN D_led_path_o hr gd (da_cons (dv 18) (da_cons (dv 5) da_nil))) (dcall D_l_led_ea66 hr gd (da_cons (dv 18) (da_cons (dv 5) da_nil))) (nomark _)) (dw_or (dt_cmp (opd_neE (u64 hr)) (dcallN D_table_product_o hr gd (da_cons (dv 18) (da_cons (dv 8) da_nil))) (dcall D_l_product_3b0c hr gd (da_cons (dv 18) (da_cons (dv 8) da_nil))) (nomark _)) (dw_or1 (dt_cmp (opd_neE (u64 hr)) (dcallN D_table_product_o hr gd (da_cons (dv 10) (da_cons (dv 18) da_nil))) (dcall D_l_product_3b0c hr gd (da_cons (dv 10) (da_cons (dv 18) da_nil))) (nomark _)))))) (dss_one (ds_ret de_bl)) dss_nil))))
 (dss_cons (ds_set (i := 19) sc_l_right_b49f.nd (de_lst (da_cons (dcallN D_led_path_o hr gd (da_cons (dcall0 D_l_self_a3eb hr gd) (da_cons (dv 5) da_nil))) (da_cons (dcallN D_table_product_o hr gd (da_cons (dcall0 D_l_self_a3eb hr gd) (da_cons (dv 1) da_nil))) (da_cons (dcallN D_table_product_o hr gd (da_cons (dv 1) (da_cons (dcall0 D_l_self_a3eb hr gd) da_nil))) da_nil)))))
 (dss_cons (ds_set (i := 20) sc_l_right_b49f.nd (de_blt (cd_reprE gd (ux hr)) T.n_repr (da_cons (de_lst (da_cons (dv 5) (da_cons (dv 1) da_nil))) da_nil)))
 (dss_cons (ds_for rfl (di_seq (de_op opd_add (de_op opd_add (dv 19) (de_ix (dv 19) de_int)) (de_ix (dv 19) de_int))) (dg_name (i := 21) sc_l_right_b49f.nd) (dss_one (ds_expr (de_append (dv 21) (da_cons de_non da_nil)))))
 (dss_one (ds_ret (de_cmp (opd_eqE (u64 hr)) (de_blt (cd_reprE gd (ux hr)) T.n_repr (da_cons (de_lst (da_cons (dv 5) (da_cons (dv 1) da_nil))) da_nil)) (dv 20) (nomark _)))))))))))))))))))))))) hread hX
theorem ok_l_cell_cf3b {sp : DSp} (T : Txt P K mg base) (hread : ∀ ds M Q, ds.length = 2 → sp ds M Q DX0 → t_l_cell_cf3b (dEnds M Q) (startD 2 ds) M) (hX : ∀ ds M Q E, sp ds M Q E → sp ds M Q DX0 := by exact fun _ _ _ _ h => h) : Def P w K mg base CX0 1 "_law_cell" s_l_cell_cf3b ["_law_script", "_law_index"] sp :=
 T.h_l_cell_cf3b.ok (t := t_l_cell_cf3b) sc_l_cell_cf3b (fun f cdv A outer s H E hr gd => (dss_cons (ds_if (dt_cmp opd_lt (dv 1) (de_blt cd_len T.n_len (da_cons (dv 0) da_nil)) (nomark _)) (dss_one (ds_ret (de_ix (dv 0) (dv 1)))) dss_nil)
 (dss_one (ds_ret (de_op opd_mod (de_blt (cd_sum rfl) T.n_sum (da_cons (de_slL false (dv 0) do_none (do_some de_int)) da_nil)) de_int))))) hread hX
theorem ok_l_generator_b324 {c_l_cell_cf3b : DSp} {sp : DSp} (T : Txt P K mg base) (D_l_cell_cf3b : Def P w K mg base CX0 1 "_law_cell" s_l_cell_cf3b ["_law_script", "_law_index"] c_l_cell_cf3b) (hread : ∀ ds M Q, ds.length = 2 → sp ds M Q DX0 → t_l_generator_b324 c_l_cell_cf3b (dEnds M Q) (startD 3 ds) M) (hX : ∀ ds M Q E, sp ds M Q E → sp ds M Q DX0 := by exact fun _ _ _ _ h => h) : Def P w K mg base CX0 2 "_law_generator" s_l_generator_b324 ["_law_script", "_law_index"] sp :=
 T.h_l_generator_b324.ok (t := t_l_generator_b324 c_l_cell_cf3b) sc_l_generator_b324 (fun f cdv A outer s H E hr gd => (dss_cons (ds_set (i := 2) sc_l_generator_b324.nd (dcall D_l_cell_cf3b hr gd (da_cons (dv 0) (da_cons (dv 1) da_nil))))
 (dss_one (ds_ret (de_own (da_cons (de_op opd_mod (de_ty cd_int T.n_int (da_cons (de_blt (cd_max rfl) T.n_max (da_cons (de_op opd_sub (dv 2) (de_op opd_pow de_int de_int)) (da_cons de_int da_nil))) da_nil)) (de_op opd_pow (de_op opd_pow de_int de_int) de_int)) (da_cons (de_op opd_mod (de_ty cd_int T.n_int (da_cons (dv 2) da_nil)) de_int) (da_cons (de_op opd_mulI de_int (dv 1)) da_nil)))))))) hread hX
theorem ok_l_law_de6b {c_l_right_b49f c_l_generator_b324 c_keeps_crossings c_table_back_o c_l_self_a3eb : DSp} {sp : DSp} (T : Txt P K mg base) (D_l_right_b49f : Def P w K mg base CX0 7 "_law_right" s_l_right_b49f ["_law_generator_here"] c_l_right_b49f) (D_l_generator_b324 : Def P w K mg base CX0 2 "_law_generator" s_l_generator_b324 ["_law_script", "_law_index"] c_l_generator_b324) (D_keeps_crossings : Def P w K mg base (L2.CX P w) 4 "keeps_crossings" s_keeps_crossings_x ["table"] c_keeps_crossings) (D_table_back_o : Def P w K mg base (L2.CX P w) 4 "table_back" s_table_back_o_x ["table"] c_table_back_o) (D_l_self_a3eb : Def P w K mg base CX0 2 "_law_self" s_l_self_a3eb [] c_l_self_a3eb) (hread : ∀ ds M Q, ds.length = 1 → sp ds M Q DX0 → t_l_law_de6b c_l_right_b49f c_l_generator_b324 c_keeps_crossings c_table_back_o c_l_self_a3eb (dEnds M Q) (startD 2 ds) M) (hX : ∀ ds M Q E, sp ds M Q E → sp ds M Q DX0 := by exact fun _ _ _ _ h => h) : Def P w K mg base CX0 8 "law" s_l_law_de6b ["_law_script"] sp :=
 T.h_l_law_de6b.ok (t := t_l_law_de6b c_l_right_b49f c_l_generator_b324 c_keeps_crossings c_table_back_o c_l_self_a3eb) sc_l_law_de6b (fun f cdv A outer s H E hr gd => (dss_cons (ds_for rfl (di_range1 T.n_range (da_cons de_int da_nil)) (dg_name (i := 1) sc_l_law_de6b.nd) (dss_one (ds_if (dt_not (dt_tru (dcall D_l_right_b49f hr gd (da_cons (dcall D_l_generator_b324 hr gd (da_cons (dv 0) (da_cons (dv 1) da_nil))) da_nil)))) (dss_one (ds_ret de_bl)) dss_nil)))
 (dss_one (ds_ret (de_and (de_cmp opd_is (dcallN D_keeps_crossings hr gd (da_cons (de_lst (da_cons (de_lst (da_cons de_int (da_cons de_int (da_cons de_int (da_cons de_int da_nil))))) (da_cons (de_lst (da_cons de_int (da_cons de_int (da_cons de_int (da_cons de_int da_nil))))) (da_cons (de_lst (da_cons de_int (da_cons de_int (da_cons de_int (da_cons de_int da_nil))))) (da_cons (de_lst (da_cons de_int (da_cons de_int (da_cons de_int (da_cons de_int da_nil))))) da_nil))))) da_nil)) de_bl (nomark _)) (de_one (de_cmp (opd_eqE (u64 hr)) (dcallN D_table_back_o hr gd (da_cons (dcall0 D_l_self_a3eb hr gd) da_nil)) (dcall0 D_l_self_a3eb hr gd) (nomark _)))))))) hread hX
end
end C_k43
/-! MA: whole roots, common divisors, sizes; plain -/
namespace DL
/-! ### a great number, by its name -/
theorem log2_of {i : Int} (n : Nat) (h : i.natAbs < 2 ^ n) (h0 : 0 < n) : i.natAbs.log2 < n := by
  by_cases z : i.natAbs = 0
  · rw [z]; simpa using h0
  · exact (Nat.log2_lt z).mpr h
/-! ### whole roots -/
def isqN (n : Nat) : Nat :=
  if h : n = 0 then 0
  else
    let r := 2 * isqN (n / 4)
    if (r + 1) * (r + 1) ≤ n then r + 1 else r
termination_by n
decreasing_by omega
theorem isqN_spec (n : Nat) : isqN n * isqN n ≤ n ∧ n < (isqN n + 1) * (isqN n + 1) := by
  induction n using Nat.strongRecOn with
  | ind n ih =>
    unfold isqN
    split
    · rename_i h; subst h; decide
    · rename_i h
      obtain ⟨h1, h2⟩ := ih (n / 4) (by omega)
      generalize isqN (n / 4) = s at *
      have e1 : 4 * (s * s) ≤ n := by omega
      have e2 : n < 4 * ((s + 1) * (s + 1)) := by omega
      have x1 : (2 * s) * (2 * s) = 4 * (s * s) := by rw [Nat.mul_mul_mul_comm]
      have x2 : (2 * s + 1) * (2 * s + 1) = 4 * (s * s) + 4 * s + 1 := by
        rw [Nat.add_mul, Nat.mul_add, x1]; omega
      have x3 : (s + 1) * (s + 1) = s * s + 2 * s + 1 := by
        rw [Nat.add_mul, Nat.mul_add]; omega
      have x4 : (2 * s + 1 + 1) * (2 * s + 1 + 1) = 4 * (s * s) + 8 * s + 4 := by
        rw [Nat.add_mul, Nat.mul_add, Nat.add_mul, Nat.mul_add, x1]; omega
      dsimp only
      split
      · rename_i hc
        exact ⟨hc, by rw [x4]; omega⟩
      · rename_i hc
        exact ⟨by rw [x1]; omega, by omega⟩
theorem isqN_uni {n r : Nat} (h1 : r * r ≤ n) (h2 : n < (r + 1) * (r + 1)) : isqN n = r := by
  obtain ⟨g1, g2⟩ := isqN_spec n
  rcases Nat.lt_trichotomy (isqN n) r with h | h | h
  · have : (isqN n + 1) * (isqN n + 1) ≤ r * r := Nat.mul_le_mul h h
    omega
  · exact h
  · have : (r + 1) * (r + 1) ≤ isqN n * isqN n := Nat.mul_le_mul h h
    omega
/-- the greatest count whose square is at most n -/
def isq (n : Int) : Int := (isqN n.toNat : Nat)
theorem isq_uni {n r : Int} (h0 : 0 ≤ r) (h1 : r * r ≤ n) (h2 : n < (r + 1) * (r + 1)) : isq n = r := by
  obtain ⟨k, rfl⟩ := Int.eq_ofNat_of_zero_le h0
  have h1' : ((k * k : Nat) : Int) ≤ n := by rw [Int.natCast_mul]; exact h1
  have h2' : n < (((k + 1) * (k + 1) : Nat) : Int) := by rw [Int.natCast_mul]; exact h2
  unfold isq
  rw [isqN_uni (n := n.toNat) (r := k) (by omega) (by omega)]
/-! ### common divisors -/
end DL
namespace DL
open PySem PySem.Spec PyProof.Rows L2
theorem gIn_two {i a b : Int} {M : Mem} {Q : DQ} : gIn false (.int i) (.lst [.int a, .int b]) M Q = Q (.bl (i == a || i == b)) M := by
  show Q (.bl ((a == i || (b == i || false)) != false)) M = _
  have e : ((a == i || (b == i || false)) != false) = (i == a || i == b) := by
    rw [Bool.bne_false, Bool.or_false, Bool.beq_comm (a := a), Bool.beq_comm (a := b)]
  rw [e]
theorem gRepr_bl {b : Bool} {M : Mem} {Q : DQ} : gRepr [.bl b] M Q = Q (.str (PyData.shown (.bool b))) M := by
  cases b <;> rfl
local macro_rules | `(tactic| walk_at "rd") => `(tactic| simp only [startD, List.map, List.replicate, List.length_cons, List.length_nil, List.append_eq, List.append_nil, List.nil_append, List.cons_append, Nat.reduceSub, Nat.reduceAdd, List.getElem?_cons_zero, List.getElem?_cons_succ, List.set_cons_zero, List.set_cons_succ,
  dC, dVar, dOp, dTru, gTru, tru, dChain, dAnd, dOr, dNot, dAndV, dOrV, dNotV, dIf, dNeg, gNeg, dNil, dCons, dTup, dLst, dOwn, gIx, rBin, gAdd, gCmpI, dCall, dCallK, dSeq, dNext, dDrop, dRet, dRetN, dIfS, dName, dGNil, dGCons, dGTup, dSub, gSetL, dAsg, dPar, dPar3, dAug, gIpI, dSeqI, gSeqI, dRngI, gRng1, gRng2, dCB, gAbs, gInt, gMax, gMin, gGcd, gLen, lenD, gIsi, tyM, tyD, dBits, gBits, dMet, gAppend, dPart, dNoPart, dSl, dEnds, gIs, isB, dNever, dFor, dLc, wipeD, dYes,
  sizeLine_eq, Nat.reduceLeDiff, gEq_int, gNe_int, gEq_strs, gNe_strs, gIn_two, gRepr_bl, rs_lst, rs_tup, rs_scr, rs_int, atI_0, atI_1, atI_2, atI_3, atI_4, atI_5, ixN_30, ixN_31, ixN_32, gEq_bl, gNe_bl, decide_eq_true_eq, beq_iff_eq, Bool.not_eq_true', beq_eq_false_iff_ne, decide_eq_false_iff_not, Bool.not_true, Bool.not_false, if_true, if_false, Bool.false_eq_true, ite_true, ite_false, true_and, and_true, ne_eq, Bool.bne_false, Bool.bne_true, reduceCtorEq])
/-! ### sizes -/
theorem fdiv_pos {a b : Int} (h : 0 < b) : a.fdiv b = a / b := Int.fdiv_eq_ediv_of_nonneg a (Int.le_of_lt h)
theorem fmod_pos {a b : Int} (h : 0 < b) : a.fmod b = a % b := Int.fmod_eq_emod_of_nonneg a (Int.le_of_lt h)
/-! ### kinds -/
theorem kb_NoneType_int : kitB "NoneType" "int" = some false := by decide +kernel
theorem kb_bool_int : kitB "bool" "int" = some true := by decide +kernel
theorem kb_int_int : kitB "int" "int" = some true := by decide +kernel
theorem kb_str_int : kitB "str" "int" = some false := by decide +kernel
theorem kb_tuple_int : kitB "tuple" "int" = some false := by decide +kernel
theorem kb_list_int : kitB "list" "int" = some false := by decide +kernel
theorem kb_dict_int : kitB "dict" "int" = some false := by decide +kernel
theorem kb_NoneType_bool : kitB "NoneType" "bool" = some false := by decide +kernel
theorem kb_bool_bool : kitB "bool" "bool" = some true := by decide +kernel
theorem kb_int_bool : kitB "int" "bool" = some false := by decide +kernel
theorem kb_str_bool : kitB "str" "bool" = some false := by decide +kernel
theorem kb_tuple_bool : kitB "tuple" "bool" = some false := by decide +kernel
theorem kb_list_bool : kitB "list" "bool" = some false := by decide +kernel
theorem kb_dict_bool : kitB "dict" "bool" = some false := by decide +kernel
theorem kb_NoneType_tuple : kitB "NoneType" "tuple" = some false := by decide +kernel
theorem kb_bool_tuple : kitB "bool" "tuple" = some false := by decide +kernel
theorem kb_int_tuple : kitB "int" "tuple" = some false := by decide +kernel
theorem kb_str_tuple : kitB "str" "tuple" = some false := by decide +kernel
theorem kb_tuple_tuple : kitB "tuple" "tuple" = some true := by decide +kernel
theorem kb_list_tuple : kitB "list" "tuple" = some false := by decide +kernel
theorem kb_dict_tuple : kitB "dict" "tuple" = some false := by decide +kernel
theorem kb_NoneType_list : kitB "NoneType" "list" = some false := by decide +kernel
theorem kb_bool_list : kitB "bool" "list" = some false := by decide +kernel
theorem kb_int_list : kitB "int" "list" = some false := by decide +kernel
theorem kb_str_list : kitB "str" "list" = some false := by decide +kernel
theorem kb_tuple_list : kitB "tuple" "list" = some false := by decide +kernel
theorem kb_list_list : kitB "list" "list" = some true := by decide +kernel
theorem kb_dict_list : kitB "dict" "list" = some false := by decide +kernel
local macro_rules | `(tactic| walk_at "kb") => `(tactic| simp only [kb_NoneType_list, kb_bool_list, kb_int_list, kb_str_list, kb_tuple_list, kb_list_list, kb_dict_list, kb_NoneType_int, kb_bool_int, kb_int_int, kb_str_int, kb_tuple_int, kb_list_int, kb_dict_int, kb_NoneType_bool, kb_bool_bool, kb_int_bool, kb_str_bool, kb_tuple_bool, kb_list_bool, kb_dict_bool, kb_NoneType_tuple, kb_bool_tuple, kb_int_tuple, kb_str_tuple, kb_tuple_tuple, kb_list_tuple, kb_dict_tuple, if_true, if_false, Bool.false_eq_true, ite_true, ite_false, Bool.not_true, Bool.not_false])
/-! ### measures -/
def isW : D → Bool
  | .int _ => true
  | _ => false
/-- is_whole(d), d any data -/
def sp_is_whole : DSp := fun ds M Q _ => ∃ d T, ds = [d] ∧ tyM M d = some T ∧ Q (.bl (isW d)) M
theorem rd_is_whole : ∀ ds M Q, ds.length = 1 → sp_is_whole ds M Q DX0 → t_is_whole (dEnds M Q) (startD 1 ds) M := by
  rintro _ M Q _ ⟨d, T, rfl, ht, q⟩
  unfold t_is_whole
  cases d <;> first | (cases ht; done) | skip
  all_goals walk_at "rd"
  case own k =>
    unfold tyM at ht
    dsimp only at ht
    split at ht
    · rename_i ds hk
      simp only [hk]
      walk_at "kb"
      exact rtq q
    · cases ht
  all_goals walk_at "kb"
  all_goals exact rtq q
end DL
namespace DL
open PySem PySem.Spec PyProof.Rows L2
local macro_rules | `(tactic| walk_at "rd") => `(tactic| simp only [startD, List.map, List.replicate, List.length_cons, List.length_nil, List.append_eq, List.append_nil, List.nil_append, List.cons_append, Nat.reduceSub, Nat.reduceAdd, List.getElem?_cons_zero, List.getElem?_cons_succ, List.set_cons_zero, List.set_cons_succ,
  dC, dVar, dOp, dTru, gTru, tru, dChain, dAnd, dOr, dNot, dAndV, dOrV, dNotV, dIf, dNeg, gNeg, dNil, dCons, dTup, dLst, dOwn, gIx, rBin, gAdd, gCmpI, dCall, dCallK, dSeq, dNext, dDrop, dRet, dRetN, dIfS, dName, dGNil, dGCons, dGTup, dSub, gSetL, dAsg, dPar, dPar3, dAug, gIpI, dSeqI, gSeqI, dRngI, gRng1, gRng2, dCB, gAbs, gInt, gMax, gMin, gGcd, gLen, lenD, gIsi, tyM, tyD, dBits, gBits, dMet, gAppend, dPart, dNoPart, dSl, dEnds, gIs, isB, dNever, dFor, dLc, wipeD, dYes,
  sizeLine_eq, Nat.reduceLeDiff, gEq_int, gNe_int, gEq_strs, gNe_strs, gIn_two, gRepr_bl, rs_lst, rs_tup, rs_scr, rs_int, atI_0, atI_1, atI_2, atI_3, atI_4, atI_5, ixN_30, ixN_31, ixN_32, gEq_bl, gNe_bl, decide_eq_true_eq, beq_iff_eq, Bool.not_eq_true', beq_eq_false_iff_ne, decide_eq_false_iff_not, Bool.not_true, Bool.not_false, if_true, if_false, Bool.false_eq_true, ite_true, ite_false, true_and, and_true, ne_eq, Bool.bne_false, Bool.bne_true, reduceCtorEq])
local macro_rules | `(tactic| walk_at "rh") => `(tactic| simp only [*, startD, List.map, List.replicate, List.length_cons, List.length_nil, List.append_eq, List.append_nil, List.nil_append, List.cons_append, Nat.reduceSub, Nat.reduceAdd, List.getElem?_cons_zero, List.getElem?_cons_succ, List.set_cons_zero, List.set_cons_succ,
  dC, dVar, dOp, dTru, gTru, tru, dChain, dAnd, dOr, dNot, dAndV, dOrV, dNotV, dIf, dNeg, gNeg, dNil, dCons, dTup, dLst, dOwn, gIx, rBin, gAdd, gCmpI, dCall, dCallK, dSeq, dNext, dDrop, dRet, dRetN, dIfS, dName, dGNil, dGCons, dGTup, dSub, gSetL, dAsg, dPar, dPar3, dAug, gIpI, dSeqI, gSeqI, dRngI, gRng1, gRng2, dCB, gAbs, gInt, gMax, gMin, gGcd, gLen, lenD, gIsi, tyM, tyD, dBits, gBits, dMet, gAppend, dPart, dNoPart, dSl, dEnds, gIs, isB, dNever, dFor, dLc, wipeD, dYes,
  sizeLine_eq, Nat.reduceLeDiff, gEq_int, gNe_int, gEq_strs, gNe_strs, gIn_two, gRepr_bl, rs_lst, rs_tup, rs_scr, rs_int, atI_0, atI_1, atI_2, atI_3, atI_4, atI_5, ixN_30, ixN_31, ixN_32, gEq_bl, gNe_bl, decide_eq_true_eq, beq_iff_eq, Bool.not_eq_true', beq_eq_false_iff_ne, decide_eq_false_iff_not, Bool.not_true, Bool.not_false, if_true, if_false, Bool.false_eq_true, ite_true, ite_false, true_and, and_true, ne_eq, Bool.bne_false, Bool.bne_true, reduceCtorEq])
local macro_rules | `(tactic| walk_at "kb") => `(tactic| simp only [kb_NoneType_list, kb_bool_list, kb_int_list, kb_str_list, kb_tuple_list, kb_list_list, kb_dict_list, kb_NoneType_int, kb_bool_int, kb_int_int, kb_str_int, kb_tuple_int, kb_list_int, kb_dict_int, kb_NoneType_bool, kb_bool_bool, kb_int_bool, kb_str_bool, kb_tuple_bool, kb_list_bool, kb_dict_bool, kb_NoneType_tuple, kb_bool_tuple, kb_int_tuple, kb_str_tuple, kb_tuple_tuple, kb_list_tuple, kb_dict_tuple, if_true, if_false, Bool.false_eq_true, ite_true, ite_false, Bool.not_true, Bool.not_false])
/-! ### bounds and measures -/
/-! ### root numbers -/
/-! ### the least form of a root number -/
def isSq (m : Int) : Prop := isq m * isq m = m
instance (m : Int) : Decidable (isSq m) := inferInstanceAs (Decidable (_ = _))
def rnX (m x y : Int) : Int := if isSq m then x + y * isq m else x
def rnY (m y : Int) : Int := if isSq m then 0 else y
def rnC (m x y b : Int) : Int := if b < 0 then 0 - (Int.gcd (Int.gcd (rnX m x y) (rnY m y) : Int) b : Int) else (Int.gcd (Int.gcd (rnX m x y) (rnY m y) : Int) b : Int)
def rootN (m x y b : Int) : D := .tup [.int ((rnX m x y).fdiv (rnC m x y b)), .int ((rnY m y).fdiv (rnC m x y b)), .int (b.fdiv (rnC m x y b))]
theorem gcd_bound {g b : Int} (hb : b ≠ 0) : (1 : Int) ≤ Int.gcd g b ∧ (Int.gcd g b : Int) ≤ b.natAbs := by
  have h1 : 0 < Int.gcd g b := Int.gcd_pos_of_ne_zero_right g hb
  have h2 : Int.gcd g b ≤ b.natAbs := Nat.le_of_dvd (by omega) (Int.gcd_dvd_natAbs_right g b)
  omega
end DL
namespace DL
open PySem PySem.Spec PyProof.Rows L2
local macro_rules | `(tactic| walk_at "rd") => `(tactic| simp only [startD, List.map, List.replicate, List.length_cons, List.length_nil, List.append_eq, List.append_nil, List.nil_append, List.cons_append, Nat.reduceSub, Nat.reduceAdd, List.getElem?_cons_zero, List.getElem?_cons_succ, List.set_cons_zero, List.set_cons_succ,
  dC, dVar, dOp, dTru, gTru, tru, dChain, dAnd, dOr, dNot, dAndV, dOrV, dNotV, dIf, dNeg, gNeg, dNil, dCons, dTup, dLst, dOwn, gIx, rBin, gAdd, gCmpI, dCall, dCallK, dSeq, dNext, dDrop, dRet, dRetN, dIfS, dName, dGNil, dGCons, dGTup, dSub, gSetL, dAsg, dPar, dPar3, dAug, gIpI, dSeqI, gSeqI, dRngI, gRng1, gRng2, dCB, gAbs, gInt, gMax, gMin, gGcd, gLen, lenD, gIsi, tyM, tyD, dBits, gBits, dMet, gAppend, dPart, dNoPart, dSl, dEnds, gIs, isB, dNever, dFor, dLc, wipeD, dYes,
  sizeLine_eq, Nat.reduceLeDiff, gEq_int, gNe_int, gEq_strs, gNe_strs, gIn_two, gRepr_bl, rs_lst, rs_tup, rs_scr, rs_int, atI_0, atI_1, atI_2, atI_3, atI_4, atI_5, ixN_30, ixN_31, ixN_32, gEq_bl, gNe_bl, decide_eq_true_eq, beq_iff_eq, Bool.not_eq_true', beq_eq_false_iff_ne, decide_eq_false_iff_not, Bool.not_true, Bool.not_false, if_true, if_false, Bool.false_eq_true, ite_true, ite_false, true_and, and_true, ne_eq, Bool.bne_false, Bool.bne_true, reduceCtorEq])
local macro_rules | `(tactic| walk_at "rh") => `(tactic| simp only [*, startD, List.map, List.replicate, List.length_cons, List.length_nil, List.append_eq, List.append_nil, List.nil_append, List.cons_append, Nat.reduceSub, Nat.reduceAdd, List.getElem?_cons_zero, List.getElem?_cons_succ, List.set_cons_zero, List.set_cons_succ,
  dC, dVar, dOp, dTru, gTru, tru, dChain, dAnd, dOr, dNot, dAndV, dOrV, dNotV, dIf, dNeg, gNeg, dNil, dCons, dTup, dLst, dOwn, gIx, rBin, gAdd, gCmpI, dCall, dCallK, dSeq, dNext, dDrop, dRet, dRetN, dIfS, dName, dGNil, dGCons, dGTup, dSub, gSetL, dAsg, dPar, dPar3, dAug, gIpI, dSeqI, gSeqI, dRngI, gRng1, gRng2, dCB, gAbs, gInt, gMax, gMin, gGcd, gLen, lenD, gIsi, tyM, tyD, dBits, gBits, dMet, gAppend, dPart, dNoPart, dSl, dEnds, gIs, isB, dNever, dFor, dLc, wipeD, dYes,
  sizeLine_eq, Nat.reduceLeDiff, gEq_int, gNe_int, gEq_strs, gNe_strs, gIn_two, gRepr_bl, rs_lst, rs_tup, rs_scr, rs_int, atI_0, atI_1, atI_2, atI_3, atI_4, atI_5, ixN_30, ixN_31, ixN_32, gEq_bl, gNe_bl, decide_eq_true_eq, beq_iff_eq, Bool.not_eq_true', beq_eq_false_iff_ne, decide_eq_false_iff_not, Bool.not_true, Bool.not_false, if_true, if_false, Bool.false_eq_true, ite_true, ite_false, true_and, and_true, ne_eq, Bool.bne_false, Bool.bne_true, reduceCtorEq])
local macro_rules | `(tactic| walk_at "kb") => `(tactic| simp only [kb_NoneType_list, kb_bool_list, kb_int_list, kb_str_list, kb_tuple_list, kb_list_list, kb_dict_list, kb_NoneType_int, kb_bool_int, kb_int_int, kb_str_int, kb_tuple_int, kb_list_int, kb_dict_int, kb_NoneType_bool, kb_bool_bool, kb_int_bool, kb_str_bool, kb_tuple_bool, kb_list_bool, kb_dict_bool, kb_NoneType_tuple, kb_bool_tuple, kb_int_tuple, kb_str_tuple, kb_tuple_tuple, kb_list_tuple, kb_dict_tuple, if_true, if_false, Bool.false_eq_true, ite_true, ite_false, Bool.not_true, Bool.not_false])
/-! ### the law's own draws -/
theorem sm_of {i : Int} (n : Nat) (h1 : -(2 ^ n : Int) < i) (h2 : i < 2 ^ n) (hn : n ≤ 400000 := by decide) : Sm i := by
  refine Sm.of n ?_ hn
  have e : ((2 ^ n : Nat) : Int) = (2 : Int) ^ n := by rw [Int.natCast_pow]; rfl
  omega
theorem fm_range {a b : Int} (h : 0 < b) : 0 ≤ a.fmod b ∧ a.fmod b < b := by
  rw [fmod_pos h]
  exact ⟨Int.emod_nonneg _ (by omega), Int.emod_lt_of_pos _ h⟩
def P31 : Int := 2147483648
def P40 : Int := 1099511627776
def sp_hash : DSp := fun ds M Q _ => ∃ s c : Int, ds = [.int s, .int c] ∧ 0 ≤ s ∧ s < P31 ∧ 0 ≤ c ∧ c ≤ P40 ∧ ∀ v, 0 ≤ v → v < P31 → Q (.int v) M
/-- cell k is a generator that has counted n, at most -/
def Gn (k : Nat) (n : Int) (M : Mem) : Prop := ∃ a s c : Int, M[k]? = some (.lst [.int a, .int s, .int c]) ∧ 0 ≤ s ∧ s < P31 ∧ 0 ≤ c ∧ c ≤ n
/-- cell k alone has changed -/
def Gst (k : Nat) (n : Int) (M M' : Mem) : Prop := M'.length = M.length ∧ Gn k n M' ∧ ∀ i, i ≠ k → M'[i]? = M[i]?
theorem Gn.le {k : Nat} {n m : Int} {M : Mem} (h : Gn k n M) (hn : n ≤ m) : Gn k m M := by
  obtain ⟨a, s, c, h1, h2, h3, h4, h5⟩ := h
  exact ⟨a, s, c, h1, h2, h3, h4, by omega⟩
theorem Gst.refl {k : Nat} {n : Int} {M : Mem} (h : Gn k n M) : Gst k n M M := ⟨rfl, h, fun _ _ => rfl⟩
theorem Gst.trans {k : Nat} {n m : Int} {M M' M'' : Mem} (h : Gst k n M M') (g : Gst k m M' M'') : Gst k m M M'' :=
  ⟨g.1.trans h.1, g.2.1, fun i hi => (g.2.2 i hi).trans (h.2.2 i hi)⟩
theorem Gst.le {k : Nat} {n m : Int} {M M' : Mem} (h : Gst k n M M') (hn : n ≤ m) : Gst k m M M' := ⟨h.1, h.2.1.le hn, h.2.2⟩
theorem Gst.set {k : Nat} {n : Int} {M : Mem} {a s c : Int} (hk : k < M.length) (h2 : 0 ≤ s) (h3 : s < P31) (h4 : 0 ≤ c) (h5 : c ≤ n) : Gst k n M (M.set k (.lst [.int a, .int s, .int c])) :=
  ⟨List.length_set, ⟨a, s, c, List.getElem?_set_self hk, h2, h3, h4, h5⟩, fun _ hi => List.getElem?_set_ne (Ne.symm hi)⟩
/-- a def that has changed the generator alone -/
theorem Gst.rtq {k : Nat} {n : Int} {M M' : Mem} {Q : DQ} {d : D} (h : Gst k n M M') (q : Q d M') (hb : below M'.length d = true := by rfl) : Rtq M Q d M' := by
  refine rtqC q (Nat.le_of_eq h.1.symm) hb fun i c hc => ?_
  by_cases hi : i = k
  · subst hi
    obtain ⟨a, s, c', e, _⟩ := h.2.1
    rw [e] at hc
    cases hc
    exact .inr rfl
  · rw [h.2.2 i hi] at hc
    exact .inl hc
def sp_random : DSp := fun ds M Q _ => ∃ (k : Nat) (b n : Int), ds = [.own k, .int b] ∧ 0 < b ∧ b < 2 ^ 900 ∧ Gn k n M ∧ n ≤ P40 - 40 ∧ ∀ v M', 0 ≤ v → v < b → Gst k (n + 40) M M' → Q (.int v) M'
theorem bits_le {b : Int} {n : Nat} (h0 : 0 < b) (h : b < 2 ^ n) : Builtin.Int.intBits b ≤ n := by
  unfold Builtin.Int.intBits
  rw [if_neg (by simp; omega)]
  have h1 : b.natAbs < 2 ^ n := by
    have e : ((2 ^ n : Nat) : Int) = (2 : Int) ^ n := by rw [Int.natCast_pow]; rfl
    omega
  have := (Nat.log2_lt (by omega)).mpr h1
  omega
theorem rd_l_random_7821 : ∀ ds M Q, ds.length = 2 → sp_random ds M Q DX0 → t_l_random_7821 sp_hash (dEnds M Q) (startD 4 ds) M := by
  rintro _ M Q - ⟨k, b, n, rfl, b0, b1, ⟨a, s, c, hk, s0, s1, c0, c1⟩, hn, q⟩
  have kl : k < M.length := (List.getElem?_eq_some_iff.mp hk).1
  unfold t_l_random_7821
  walk_at "rd"
  have e0 : res M (.own k) = .lst [.int a, .int s, .int c] := by unfold res; dsimp only; rw [hk]
  simp only [e0, hk]
  walk_at "rd"
  by_cases ha : 0 < a
  · rw [if_pos ha]
    have := fm_range (a := a) b0
    refine ⟨(by omega : b ≠ 0), ⟨by omega, Nat.lt_of_lt_of_le (log2_of 900 (by
      have e : ((2 ^ 900 : Nat) : Int) = (2 : Int) ^ 900 := by rw [Int.natCast_pow]; rfl
      omega) (by decide)) (by decide)⟩, ?_⟩
    exact (Gst.set kl s0 s1 c0 (by omega)).rtq (q _ _ this.1 this.2 (Gst.set kl s0 s1 c0 (by omega)))
  · rw [if_neg ha]
    have hb := bits_le b0 b1
    generalize hbits : Builtin.Int.intBits b = bits at hb
    have ef : ((bits : Nat) : Int).fdiv 30 = (bits / 30 : Nat) := by rw [fdiv_pos (by decide)]; omega
    rw [ef]
    refine ⟨⟨by decide, by decide⟩, ⟨by omega, by omega⟩, ?_⟩
    have eT : (1 + ((bits / 30 : Nat) : Int)).toNat = 1 + bits / 30 := by omega
    rw [eT]
    generalize hT : 1 + bits / 30 = T
    have hT1 : T ≤ 31 := by omega
    refine ⟨fun i r M' => i ≤ T ∧ Gst k (n + i) M M' ∧ ∃ dr tn, r = [some (.own k), some (.int b), some (.int dr), tn] ∧ 0 ≤ dr ∧ dr < 2 ^ (32 * i), ⟨by omega, ⟨rfl, ⟨a, s, c, hk, s0, s1, c0, by omega⟩, fun _ _ => rfl⟩, 0, _, rfl, by decide, by decide⟩, ?_⟩
    rintro i r M' ⟨hi, hg, dr, tn, rfl, d0, d1⟩
    refine ⟨trivial, fun hl => ?_, fun d hd => ?_⟩
    · walk_at "rd"
      have := fm_range (a := dr) b0
      exact ⟨(by omega : b ≠ 0), hg.rtq (q _ _ this.1 this.2 (hg.le (by omega)))⟩
    · obtain ⟨hi2, rfl⟩ := rng_get.mp hd
      obtain ⟨a', s', c', hk', s0', s1', c0', c1'⟩ := hg.2.1
      have kl' : k < M'.length := (List.getElem?_eq_some_iff.mp hk').1
      have e1 : res M' (.own k) = .lst [.int a', .int s', .int c'] := by unfold res; dsimp only; rw [hk']
      walk_at "rd"
      simp only [e1, hk']
      walk_at "rd"
      have e2 : res (M'.set k (.lst [.int a', .int s', .int (c' + 1)])) (.own k) = .lst [.int a', .int s', .int (c' + 1)] := by unfold res; dsimp only; rw [List.getElem?_set_self kl']
      simp only [e2]
      walk_at "rd"
      have sd : Sm dr := sm_of (32 * i) (by have := Int.pow_pos (n := 2) (m := 32 * i) (by decide); omega) d1 (by omega)
      unfold P40 at hn
      refine ⟨⟨sd, sm_of 32 (by decide) (by decide)⟩, s', c' + 1, rfl, s0', s1', by omega, by unfold P40; omega, fun v v0 v1 => ?_⟩
      refine ⟨by omega, hg.trans (Gst.set kl' s0' s1' (by omega) (by omega)), _, _, rfl, by omega, ?_⟩
      unfold P31 at v1
      have e3 : (2 : Int) ^ (32 * (i + 1)) = 2 ^ (32 * i) * 4294967296 := by rw [Nat.mul_add, Int.pow_add]; rfl
      rw [e3]
      omega
def sp_cell : DSp := fun ds M Q _ => ∃ (ns : List Int) (i : Int), ds = [.scr ns, .int i] ∧ 0 ≤ i ∧ ∀ v, Q (.int v) M
theorem rd_l_cell_cf3b : ∀ ds M Q, ds.length = 2 → sp_cell ds M Q DX0 → t_l_cell_cf3b (dEnds M Q) (startD 2 ds) M := by
  rintro _ M Q - ⟨ns, i, rfl, i0, q⟩
  unfold t_l_cell_cf3b
  walk_at "rd"
  by_cases hi : i < (ns.length : Nat)
  · rw [if_pos hi]
    have e : i = (i.toNat : Nat) := by omega
    have hl : i.toNat < ns.length := by omega
    rw [e, atI_of _ hl, List.getElem?_eq_getElem hl]
    exact rtq (q _)
  · rw [if_neg hi]
    obtain ⟨xs, ex⟩ := cut_map ns none (some 1)
    unfold gSlL
    walk_at "rd"
    rw [ex]
    unfold gSum
    walk_at "rd"
    rw [intsD_map]
    exact ⟨(by decide : (1000003 : Int) ≠ 0), rtq (q _)⟩
def sp_generator : DSp := fun ds M Q _ => ∃ (ns : List Int) (i : Int), ds = [.scr ns, .int i] ∧ 0 ≤ i ∧ i < P31 ∧ ∀ M', M'.length = M.length + 1 → Gn M.length (1000 * i) M' → (∀ j, j < M.length → M'[j]? = M[j]?) → Q (.own M.length) M'
theorem rd_l_generator_b324 : ∀ ds M Q, ds.length = 2 → sp_generator ds M Q DX0 → t_l_generator_b324 sp_cell (dEnds M Q) (startD 3 ds) M := by
  rintro _ M Q - ⟨ns, i, rfl, i0, i1, q⟩
  unfold t_l_generator_b324
  walk_at "rd"
  refine ⟨ns, i, rfl, i0, fun v => ?_⟩
  dsimp only
  have cp : CPow 10 18 ∧ CPow 10 60 ∧ CPow (10 ^ Int.toNat 60) 10 := by refine ⟨?_, ?_, ?_⟩ <;> (unfold CPow; decide)
  have hi : Sm i := by unfold P31 at i1; exact sm_of 32 (by omega) (by omega)
  refine ⟨cp.1, cp.2.1, cp.2.2, ?_, (by decide : (2147483647 : Int) ≠ 0), ⟨Sm.of 20 (by decide), hi⟩, ?_⟩
  · have h1 : (0 : Int) < (10 ^ Int.toNat 60) ^ Int.toNat 10 := Int.pow_pos (Int.pow_pos (by decide))
    exact fun e => by rw [e] at h1; exact absurd h1 (by decide)
  · have g := fm_range (a := v) (b := 2147483647) (by decide)
    have hl : ∀ c : Own, (M ++ [c])[M.length]? = some c := fun c => by rw [List.getElem?_append_right (Nat.le_refl _), Nat.sub_self]; rfl
    refine rtqC (q _ (by simp) ⟨_, _, _, hl _, g.1, by unfold P31; omega, by omega, Int.le_refl _⟩ fun j hj => List.getElem?_append_left hj) (by simp) (by simp only [below]; exact decide_eq_true (by simp)) fun j c hc => ?_
    by_cases hj : j < M.length
    · rw [List.getElem?_append_left hj] at hc; exact .inl hc
    · have hj2 : j < M.length + 1 := by
        have := (List.getElem?_eq_some_iff.mp hc).1
        simpa using this
      have e : j = M.length := by omega
      subst e
      rw [hl] at hc
      cases hc
      exact .inr rfl
def P400 : Int := 2 ^ 400
theorem p400_900 : P400 < 2 ^ 900 := by
  unfold P400
  have h : (2 : Nat) ^ 400 < 2 ^ 900 := Nat.pow_lt_pow_right (by decide) (by decide)
  have e : ((2 ^ 400 : Nat) : Int) = (2 : Int) ^ 400 := by rw [Int.natCast_pow]; rfl
  have e2 : ((2 ^ 900 : Nat) : Int) = (2 : Int) ^ 900 := by rw [Int.natCast_pow]; rfl
  omega
theorem p400_ten {i : Nat} (h : i ≤ 110) : 5 * (10 : Int) ^ i + 10 ≤ P400 := by
  have h1 : (10 : Int) ^ i ≤ 10 ^ 110 := by
    have h0 : (10 : Nat) ^ i ≤ 10 ^ 110 := Nat.pow_le_pow_right (by decide) h
    have e : ((10 ^ i : Nat) : Int) = (10 : Int) ^ i := by rw [Int.natCast_pow]; rfl
    have e2 : ((10 ^ 110 : Nat) : Int) = (10 : Int) ^ 110 := by rw [Int.natCast_pow]; rfl
    omega
  have h2 : 5 * (10 : Int) ^ 110 + 10 ≤ P400 := by unfold P400; decide +kernel
  omega
end DL
namespace DL
open PySem PySem.Spec PyProof.Rows L2
local macro_rules | `(tactic| walk_at "rd") => `(tactic| simp only [startD, List.map, List.replicate, List.length_cons, List.length_nil, List.append_eq, List.append_nil, List.nil_append, List.cons_append, Nat.reduceSub, Nat.reduceAdd, List.getElem?_cons_zero, List.getElem?_cons_succ, List.set_cons_zero, List.set_cons_succ,
  dC, dVar, dOp, dTru, gTru, tru, dChain, dAnd, dOr, dNot, dAndV, dOrV, dNotV, dIf, dNeg, gNeg, dNil, dCons, dTup, dLst, dOwn, gIx, rBin, gAdd, gCmpI, dCall, dCallK, dSeq, dNext, dDrop, dRet, dRetN, dIfS, dName, dGNil, dGCons, dGTup, dSub, gSetL, dAsg, dPar, dPar3, dAug, gIpI, dSeqI, gSeqI, dRngI, gRng1, gRng2, dCB, gAbs, gInt, gMax, gMin, gGcd, gLen, lenD, gIsi, tyM, tyD, dBits, gBits, dMet, gAppend, dPart, dNoPart, dSl, dEnds, gIs, isB, dNever, dFor, dLc, wipeD, dYes,
  sizeLine_eq, Nat.reduceLeDiff, gEq_int, gNe_int, gEq_strs, gNe_strs, gIn_two, gRepr_bl, rs_lst, rs_tup, rs_scr, rs_int, atI_0, atI_1, atI_2, atI_3, atI_4, atI_5, ixN_30, ixN_31, ixN_32, gEq_bl, gNe_bl, decide_eq_true_eq, beq_iff_eq, Bool.not_eq_true', beq_eq_false_iff_ne, decide_eq_false_iff_not, Bool.not_true, Bool.not_false, if_true, if_false, Bool.false_eq_true, ite_true, ite_false, true_and, and_true, ne_eq, Bool.bne_false, Bool.bne_true, reduceCtorEq])
local macro_rules | `(tactic| walk_at "rh") => `(tactic| simp only [*, startD, List.map, List.replicate, List.length_cons, List.length_nil, List.append_eq, List.append_nil, List.nil_append, List.cons_append, Nat.reduceSub, Nat.reduceAdd, List.getElem?_cons_zero, List.getElem?_cons_succ, List.set_cons_zero, List.set_cons_succ,
  dC, dVar, dOp, dTru, gTru, tru, dChain, dAnd, dOr, dNot, dAndV, dOrV, dNotV, dIf, dNeg, gNeg, dNil, dCons, dTup, dLst, dOwn, gIx, rBin, gAdd, gCmpI, dCall, dCallK, dSeq, dNext, dDrop, dRet, dRetN, dIfS, dName, dGNil, dGCons, dGTup, dSub, gSetL, dAsg, dPar, dPar3, dAug, gIpI, dSeqI, gSeqI, dRngI, gRng1, gRng2, dCB, gAbs, gInt, gMax, gMin, gGcd, gLen, lenD, gIsi, tyM, tyD, dBits, gBits, dMet, gAppend, dPart, dNoPart, dSl, dEnds, gIs, isB, dNever, dFor, dLc, wipeD, dYes,
  sizeLine_eq, Nat.reduceLeDiff, gEq_int, gNe_int, gEq_strs, gNe_strs, gIn_two, gRepr_bl, rs_lst, rs_tup, rs_scr, rs_int, atI_0, atI_1, atI_2, atI_3, atI_4, atI_5, ixN_30, ixN_31, ixN_32, gEq_bl, gNe_bl, decide_eq_true_eq, beq_iff_eq, Bool.not_eq_true', beq_eq_false_iff_ne, decide_eq_false_iff_not, Bool.not_true, Bool.not_false, if_true, if_false, Bool.false_eq_true, ite_true, ite_false, true_and, and_true, ne_eq, Bool.bne_false, Bool.bne_true, reduceCtorEq])
local macro_rules | `(tactic| walk_at "kb") => `(tactic| simp only [kb_NoneType_list, kb_bool_list, kb_int_list, kb_str_list, kb_tuple_list, kb_list_list, kb_dict_list, kb_NoneType_int, kb_bool_int, kb_int_int, kb_str_int, kb_tuple_int, kb_list_int, kb_dict_int, kb_NoneType_bool, kb_bool_bool, kb_int_bool, kb_str_bool, kb_tuple_bool, kb_list_bool, kb_dict_bool, kb_NoneType_tuple, kb_bool_tuple, kb_int_tuple, kb_str_tuple, kb_tuple_tuple, kb_list_tuple, kb_dict_tuple, if_true, if_false, Bool.false_eq_true, ite_true, ite_false, Bool.not_true, Bool.not_false])
theorem atI_any {l : List D} {v : Int} (h0 : 0 ≤ v) (h1 : v < (l.length : Nat)) : ∃ d, d ∈ l ∧ atI l v = some d := by
  have e : v = (v.toNat : Nat) := by omega
  have hl : v.toNat < l.length := by omega
  refine ⟨l[v.toNat], List.getElem_mem hl, ?_⟩
  have h2 := atI_of _ hl
  rw [← e] at h2
  rw [h2]
  exact List.getElem?_eq_getElem hl
theorem dSeq_open {a b : DTS} {E : DEnds} {r : Env} {M : Mem} (h : ∀ B : Env → Mem → Prop, b E = B → a { E with nx := B } r M) : dSeq a b E r M := h _ rfl
/-! ### the least form: scaled, its size -/
theorem gcd_dvd3 (X Y b : Int) : (Int.gcd (Int.gcd X Y : Int) b : Int) ∣ X ∧ (Int.gcd (Int.gcd X Y : Int) b : Int) ∣ Y ∧ (Int.gcd (Int.gcd X Y : Int) b : Int) ∣ b :=
  ⟨Int.dvd_trans (Int.gcd_dvd_left _ _) (Int.gcd_dvd_left _ _), Int.dvd_trans (Int.gcd_dvd_left _ _) (Int.gcd_dvd_right _ _), Int.gcd_dvd_right _ _⟩
theorem rnC_dvd (m x y b : Int) : rnC m x y b ∣ rnX m x y ∧ rnC m x y b ∣ rnY m y ∧ rnC m x y b ∣ b := by
  have h := gcd_dvd3 (rnX m x y) (rnY m y) b
  unfold rnC
  split
  · rw [Int.zero_sub]
    exact ⟨Int.neg_dvd.mpr h.1, Int.neg_dvd.mpr h.2.1, Int.neg_dvd.mpr h.2.2⟩
  · exact h
theorem rnC_ne {m x y b : Int} (hb : b ≠ 0) : rnC m x y b ≠ 0 := by
  have := gcd_bound (g := (Int.gcd (rnX m x y) (rnY m y) : Int)) hb
  unfold rnC
  split <;> omega
theorem fdiv_scale {k a c : Int} (hk : k ≠ 0) (hc : c ≠ 0) (h : c ∣ a) : (k * a).fdiv (k * c) = a.fdiv c := by
  obtain ⟨t, rfl⟩ := h
  rw [Int.mul_fdiv_cancel_left _ hc, ← Int.mul_assoc, Int.mul_fdiv_cancel_left]
  exact Int.mul_ne_zero hk hc
theorem rnX_scale (k m x y : Int) : rnX m (k * x) (k * y) = k * rnX m x y := by
  unfold rnX
  split
  · rw [Int.mul_add, Int.mul_assoc]
  · rfl
theorem rnY_scale (k m y : Int) : rnY m (k * y) = k * rnY m y := by
  unfold rnY
  split
  · rw [Int.mul_zero]
  · rfl
theorem mul_neg_iff {k b : Int} (hk : k < 0) : k * b < 0 ↔ 0 < b := by
  constructor
  · intro h
    by_cases z : 0 < b
    · exact z
    · have := Int.mul_nonneg_of_nonpos_of_nonpos (a := k) (b := b) (by omega) (by omega)
      omega
  · exact fun h => Int.mul_neg_of_neg_of_pos hk h
theorem mul_pos_iff' {k b : Int} (hk : 0 < k) : k * b < 0 ↔ b < 0 := by
  constructor
  · intro h
    by_cases z : b < 0
    · exact z
    · have := Int.mul_nonneg (a := k) (b := b) (by omega) (by omega)
      omega
  · exact fun h => Int.mul_neg_of_pos_of_neg hk h
theorem rnC_scale {k m x y b : Int} (hk : k ≠ 0) (hb : b ≠ 0) : rnC m (k * x) (k * y) (k * b) = k * rnC m x y b := by
  unfold rnC
  rw [rnX_scale, rnY_scale]
  have e : (Int.gcd (Int.gcd (k * rnX m x y) (k * rnY m y) : Int) (k * b) : Int) = k.natAbs * (Int.gcd (Int.gcd (rnX m x y) (rnY m y) : Int) b : Int) := by
    rw [Int.gcd_mul_left]
    have e2 : ((k.natAbs * Int.gcd (rnX m x y) (rnY m y) : Nat) : Int) = (k.natAbs : Int) * (Int.gcd (rnX m x y) (rnY m y) : Int) := Int.natCast_mul _ _
    have e3 : ∀ (u v : Int), Int.gcd ((k.natAbs : Int) * u) (k * v) = k.natAbs * Int.gcd u v := by
      intro u v
      unfold Int.gcd
      rw [Int.natAbs_mul, Int.natAbs_mul, Int.natAbs_natCast, Nat.gcd_mul_left]
    rw [e2, e3, Int.natCast_mul]
  rw [e]
  generalize (Int.gcd (Int.gcd (rnX m x y) (rnY m y) : Int) b : Int) = g
  rcases (by omega : 0 < k ∨ k < 0) with h | h
  · have ek : (k.natAbs : Int) = k := by omega
    rw [ek]
    simp only [mul_pos_iff' h]
    split
    · rw [Int.mul_sub, Int.mul_zero]
    · rfl
  · have ek : (k.natAbs : Int) = -k := by omega
    rw [ek]
    simp only [mul_neg_iff h]
    by_cases z : 0 < b
    · rw [if_pos z, if_neg (by omega), Int.neg_mul]; omega
    · rw [if_neg z, if_pos (by omega), Int.neg_mul, Int.mul_sub]; omega
theorem rootN_scale {k m x y b : Int} (hk : k ≠ 0) (hb : b ≠ 0) : rootN m (k * x) (k * y) (k * b) = rootN m x y b := by
  have h := rnC_dvd m x y b
  have h0 := rnC_ne (m := m) (x := x) (y := y) hb
  unfold rootN
  rw [rnC_scale hk hb, rnX_scale, rnY_scale, fdiv_scale hk h0 h.1, fdiv_scale hk h0 h.2.1, fdiv_scale hk h0 h.2.2]
theorem str_self (z : Str) : (z == z) = true := by simp
theorem lit_cons {B : Nat} {d : D} {l : List D} (h : lit B d = true) (h2 : litAll B l = true) : litAll B (d :: l) = true := by
  simp only [litAll, h, h2, Bool.and_self]
end DL
namespace DL
open PySem PySem.Spec PyProof.Rows L2
local macro_rules | `(tactic| walk_at "rd") => `(tactic| simp only [startD, List.map, List.replicate, List.length_cons, List.length_nil, List.append_eq, List.append_nil, List.nil_append, List.cons_append, Nat.reduceSub, Nat.reduceAdd, List.getElem?_cons_zero, List.getElem?_cons_succ, List.set_cons_zero, List.set_cons_succ,
  dC, dVar, dOp, dTru, gTru, tru, dChain, dAnd, dOr, dNot, dAndV, dOrV, dNotV, dIf, dNeg, gNeg, dNil, dCons, dTup, dLst, dOwn, gIx, rBin, gAdd, gCmpI, dCall, dCallK, dSeq, dNext, dDrop, dRet, dRetN, dIfS, dName, dGNil, dGCons, dGTup, dSub, gSetL, dAsg, dPar, dPar3, dAug, gIpI, dSeqI, gSeqI, dRngI, gRng1, gRng2, dCB, gAbs, gInt, gMax, gMin, gGcd, gLen, lenD, gIsi, tyM, tyD, dBits, gBits, dMet, gAppend, dPart, dNoPart, dSl, dEnds, gIs, isB, dNever, dFor, dLc, wipeD, dYes,
  sizeLine_eq, Nat.reduceLeDiff, gEq_int, gNe_int, gEq_strs, gNe_strs, gIn_two, gRepr_bl, rs_lst, rs_tup, rs_scr, rs_int, atI_0, atI_1, atI_2, atI_3, atI_4, atI_5, ixN_30, ixN_31, ixN_32, gEq_bl, gNe_bl, decide_eq_true_eq, beq_iff_eq, Bool.not_eq_true', beq_eq_false_iff_ne, decide_eq_false_iff_not, Bool.not_true, Bool.not_false, if_true, if_false, Bool.false_eq_true, ite_true, ite_false, true_and, and_true, ne_eq, Bool.bne_false, Bool.bne_true, reduceCtorEq])
local macro_rules | `(tactic| walk_at "rh") => `(tactic| simp only [*, startD, List.map, List.replicate, List.length_cons, List.length_nil, List.append_eq, List.append_nil, List.nil_append, List.cons_append, Nat.reduceSub, Nat.reduceAdd, List.getElem?_cons_zero, List.getElem?_cons_succ, List.set_cons_zero, List.set_cons_succ,
  dC, dVar, dOp, dTru, gTru, tru, dChain, dAnd, dOr, dNot, dAndV, dOrV, dNotV, dIf, dNeg, gNeg, dNil, dCons, dTup, dLst, dOwn, gIx, rBin, gAdd, gCmpI, dCall, dCallK, dSeq, dNext, dDrop, dRet, dRetN, dIfS, dName, dGNil, dGCons, dGTup, dSub, gSetL, dAsg, dPar, dPar3, dAug, gIpI, dSeqI, gSeqI, dRngI, gRng1, gRng2, dCB, gAbs, gInt, gMax, gMin, gGcd, gLen, lenD, gIsi, tyM, tyD, dBits, gBits, dMet, gAppend, dPart, dNoPart, dSl, dEnds, gIs, isB, dNever, dFor, dLc, wipeD, dYes,
  sizeLine_eq, Nat.reduceLeDiff, gEq_int, gNe_int, gEq_strs, gNe_strs, gIn_two, gRepr_bl, rs_lst, rs_tup, rs_scr, rs_int, atI_0, atI_1, atI_2, atI_3, atI_4, atI_5, ixN_30, ixN_31, ixN_32, gEq_bl, gNe_bl, decide_eq_true_eq, beq_iff_eq, Bool.not_eq_true', beq_eq_false_iff_ne, decide_eq_false_iff_not, Bool.not_true, Bool.not_false, if_true, if_false, Bool.false_eq_true, ite_true, ite_false, true_and, and_true, ne_eq, Bool.bne_false, Bool.bne_true, reduceCtorEq])
local macro_rules | `(tactic| walk_at "kb") => `(tactic| simp only [kb_NoneType_list, kb_bool_list, kb_int_list, kb_str_list, kb_tuple_list, kb_list_list, kb_dict_list, kb_NoneType_int, kb_bool_int, kb_int_int, kb_str_int, kb_tuple_int, kb_list_int, kb_dict_int, kb_NoneType_bool, kb_bool_bool, kb_int_bool, kb_str_bool, kb_tuple_bool, kb_list_bool, kb_dict_bool, kb_NoneType_tuple, kb_bool_tuple, kb_int_tuple, kb_str_tuple, kb_tuple_tuple, kb_list_tuple, kb_dict_tuple, if_true, if_false, Bool.false_eq_true, ite_true, ite_false, Bool.not_true, Bool.not_false])
/-! ### bits -/
def Bi (n : Nat) (i : Int) : Prop := i.natAbs < 2 ^ n
theorem Bi.mono {n k : Nat} {i : Int} (h : Bi n i) (hk : n ≤ k := by decide) : Bi k i := Nat.lt_of_lt_of_le h (Nat.pow_le_pow_right (by decide) hk)
theorem Bi.mul {n k : Nat} {i j : Int} (h : Bi n i) (g : Bi k j) : Bi (n + k) (i * j) := by
  unfold Bi at *
  rw [Int.natAbs_mul, Nat.pow_add]
  exact Nat.mul_lt_mul'' h g
theorem Bi.add {n : Nat} {i j : Int} (h : Bi n i) (g : Bi n j) : Bi (n + 1) (i + j) := by
  unfold Bi at *
  rw [Nat.pow_succ]
  omega
theorem Bi.sub {n : Nat} {i j : Int} (h : Bi n i) (g : Bi n j) : Bi (n + 1) (i - j) := by
  unfold Bi at *
  rw [Nat.pow_succ]
  omega
theorem Bi.neg {n : Nat} {i : Int} (h : Bi n i) : Bi n (0 - i) := by
  unfold Bi at *
  omega
theorem Bi.sm {n : Nat} {i : Int} (h : Bi n i) (hn : n ≤ 400000 := by decide) : Sm i := Sm.of n h hn
theorem Bi.of_dvd {n : Nat} {c a x : Int} (h : Bi n x) (hc : c ≠ 0) (e : x = c * a) : Bi n a := by
  unfold Bi at *
  rw [e, Int.natAbs_mul] at h
  exact Nat.lt_of_le_of_lt (Nat.le_mul_of_pos_left _ (by omega)) h
theorem Bi.of_abs {n : Nat} {i : Int} (k : Nat) (h : i.natAbs ≤ k) (hk : k < 2 ^ n := by decide) : Bi n i := Nat.lt_of_le_of_lt h hk
/-! ### normal forms -/
abbrev T3 (a b c : Int) : D := .tup [.int a, .int b, .int c]
/-- (a, b, c) in least terms, over the measure m -/
structure NF (m a b c : Int) : Prop where
  pos : 1 ≤ c
  cop : Int.gcd (Int.gcd a b : Int) c = 1
  pr : isSq m → b = 0
def nC (X Y b : Int) : Int := if b < 0 then 0 - (Int.gcd (Int.gcd X Y : Int) b : Int) else (Int.gcd (Int.gcd X Y : Int) b : Int)
def nf (X Y b : Int) : D := T3 (X.fdiv (nC X Y b)) (Y.fdiv (nC X Y b)) (b.fdiv (nC X Y b))
theorem rootN_nf (m x y b : Int) : rootN m x y b = nf (rnX m x y) (rnY m y) b := rfl
theorem rootN_pr {m x y : Int} (b : Int) (h : isSq m → y = 0) : rootN m x y b = nf x y b := by
  rw [rootN_nf]
  by_cases hq : isSq m
  · have e := h hq
    subst e
    unfold rnX rnY
    rw [if_pos hq, if_pos hq, Int.zero_mul, Int.add_zero]
  · unfold rnX rnY
    rw [if_neg hq, if_neg hq]
theorem nf_scale {k X Y b : Int} (hk : k ≠ 0) (hb : b ≠ 0) : nf (k * X) (k * Y) (k * b) = nf X Y b := by
  have h : ¬ isSq 2 := by
    have e : isq 2 = 1 := isq_uni (by decide) (by decide) (by decide)
    unfold isSq; rw [e]; decide
  rw [← rootN_pr (m := 2) (k * b) (fun z => absurd z h), ← rootN_pr (m := 2) b (fun z => absurd z h)]
  exact rootN_scale hk hb
theorem nf_eq {X Y b X' Y' b' : Int} (hb : b ≠ 0) (hb' : b' ≠ 0) (h1 : X * b' = X' * b) (h2 : Y * b' = Y' * b) : nf X Y b = nf X' Y' b' := by
  rw [← nf_scale hb' hb, ← nf_scale (X := X') (Y := Y') hb hb']
  have e1 : b' * X = b * X' := by rw [Int.mul_comm, h1, Int.mul_comm]
  have e2 : b' * Y = b * Y' := by rw [Int.mul_comm, h2, Int.mul_comm]
  rw [e1, e2, Int.mul_comm b' b]
/-! ### sums, products, quotients -/
def Sz (n : Nat) (a b c : Int) : Prop := Bi n a ∧ Bi n b ∧ Bi n c
/-! ### the law's drawn root numbers -/
/-! ### sizes and values, for the laws -/
theorem NF.neg {m a b c : Int} (h : NF m a b c) : NF m (0 - a) (0 - b) c := by
  refine ⟨h.pos, ?_, fun q => by rw [h.pr q]; rfl⟩
  rw [Int.zero_sub, Int.zero_sub, Int.gcd_neg, Int.neg_gcd]
  exact h.cop
theorem Sz.neg {n : Nat} {a b c : Int} (h : Sz n a b c) : Sz n (0 - a) (0 - b) c := ⟨h.1.neg, h.2.1.neg, h.2.2⟩
theorem Sz.mono {n k : Nat} {a b c : Int} (h : Sz n a b c) (hk : n ≤ k := by decide) : Sz k a b c := ⟨h.1.mono hk, h.2.1.mono hk, h.2.2.mono hk⟩
end DL
namespace DL
open PySem PySem.Spec PyProof.Rows L2
local macro_rules | `(tactic| walk_at "rd") => `(tactic| simp only [startD, List.map, List.replicate, List.length_cons, List.length_nil, List.append_eq, List.append_nil, List.nil_append, List.cons_append, Nat.reduceSub, Nat.reduceAdd, List.getElem?_cons_zero, List.getElem?_cons_succ, List.set_cons_zero, List.set_cons_succ,
  dC, dVar, dOp, dTru, gTru, tru, dChain, dAnd, dOr, dNot, dAndV, dOrV, dNotV, dIf, dNeg, gNeg, dNil, dCons, dTup, dLst, dOwn, gIx, rBin, gAdd, gCmpI, dCall, dCallK, dSeq, dNext, dDrop, dRet, dRetN, dIfS, dName, dGNil, dGCons, dGTup, dSub, gSetL, dAsg, dPar, dPar3, dAug, gIpI, dSeqI, gSeqI, dRngI, gRng1, gRng2, dCB, gAbs, gInt, gMax, gMin, gGcd, gLen, lenD, gIsi, tyM, tyD, dBits, gBits, dMet, gAppend, dPart, dNoPart, dSl, dEnds, gIs, isB, dNever, dFor, dLc, wipeD, dYes,
  sizeLine_eq, Nat.reduceLeDiff, gEq_int, gNe_int, gEq_strs, gNe_strs, gIn_two, gRepr_bl, rs_lst, rs_tup, rs_scr, rs_int, atI_0, atI_1, atI_2, atI_3, atI_4, atI_5, ixN_30, ixN_31, ixN_32, gEq_bl, gNe_bl, decide_eq_true_eq, beq_iff_eq, Bool.not_eq_true', beq_eq_false_iff_ne, decide_eq_false_iff_not, Bool.not_true, Bool.not_false, if_true, if_false, Bool.false_eq_true, ite_true, ite_false, true_and, and_true, ne_eq, Bool.bne_false, Bool.bne_true, reduceCtorEq])
local macro_rules | `(tactic| walk_at "rh") => `(tactic| simp only [*, startD, List.map, List.replicate, List.length_cons, List.length_nil, List.append_eq, List.append_nil, List.nil_append, List.cons_append, Nat.reduceSub, Nat.reduceAdd, List.getElem?_cons_zero, List.getElem?_cons_succ, List.set_cons_zero, List.set_cons_succ,
  dC, dVar, dOp, dTru, gTru, tru, dChain, dAnd, dOr, dNot, dAndV, dOrV, dNotV, dIf, dNeg, gNeg, dNil, dCons, dTup, dLst, dOwn, gIx, rBin, gAdd, gCmpI, dCall, dCallK, dSeq, dNext, dDrop, dRet, dRetN, dIfS, dName, dGNil, dGCons, dGTup, dSub, gSetL, dAsg, dPar, dPar3, dAug, gIpI, dSeqI, gSeqI, dRngI, gRng1, gRng2, dCB, gAbs, gInt, gMax, gMin, gGcd, gLen, lenD, gIsi, tyM, tyD, dBits, gBits, dMet, gAppend, dPart, dNoPart, dSl, dEnds, gIs, isB, dNever, dFor, dLc, wipeD, dYes,
  sizeLine_eq, Nat.reduceLeDiff, gEq_int, gNe_int, gEq_strs, gNe_strs, gIn_two, gRepr_bl, rs_lst, rs_tup, rs_scr, rs_int, atI_0, atI_1, atI_2, atI_3, atI_4, atI_5, ixN_30, ixN_31, ixN_32, gEq_bl, gNe_bl, decide_eq_true_eq, beq_iff_eq, Bool.not_eq_true', beq_eq_false_iff_ne, decide_eq_false_iff_not, Bool.not_true, Bool.not_false, if_true, if_false, Bool.false_eq_true, ite_true, ite_false, true_and, and_true, ne_eq, Bool.bne_false, Bool.bne_true, reduceCtorEq])
local macro_rules | `(tactic| walk_at "kb") => `(tactic| simp only [kb_NoneType_list, kb_bool_list, kb_int_list, kb_str_list, kb_tuple_list, kb_list_list, kb_dict_list, kb_NoneType_int, kb_bool_int, kb_int_int, kb_str_int, kb_tuple_int, kb_list_int, kb_dict_int, kb_NoneType_bool, kb_bool_bool, kb_int_bool, kb_str_bool, kb_tuple_bool, kb_list_bool, kb_dict_bool, kb_NoneType_tuple, kb_bool_tuple, kb_int_tuple, kb_str_tuple, kb_tuple_tuple, kb_list_tuple, kb_dict_tuple, if_true, if_false, Bool.false_eq_true, ite_true, ite_false, Bool.not_true, Bool.not_false])
/-! ### the side of x + y root m -/
/-! ### the floor -/
end DL
namespace DL
open PySem PySem.Spec PyProof.Rows L2
local macro_rules | `(tactic| walk_at "rd") => `(tactic| simp only [startD, List.map, List.replicate, List.length_cons, List.length_nil, List.append_eq, List.append_nil, List.nil_append, List.cons_append, Nat.reduceSub, Nat.reduceAdd, List.getElem?_cons_zero, List.getElem?_cons_succ, List.set_cons_zero, List.set_cons_succ,
  dC, dVar, dOp, dTru, gTru, tru, dChain, dAnd, dOr, dNot, dAndV, dOrV, dNotV, dIf, dNeg, gNeg, dNil, dCons, dTup, dLst, dOwn, gIx, rBin, gAdd, gCmpI, dCall, dCallK, dSeq, dNext, dDrop, dRet, dRetN, dIfS, dName, dGNil, dGCons, dGTup, dSub, gSetL, dAsg, dPar, dPar3, dAug, gIpI, dSeqI, gSeqI, dRngI, gRng1, gRng2, dCB, gAbs, gInt, gMax, gMin, gGcd, gLen, lenD, gIsi, tyM, tyD, dBits, gBits, dMet, gAppend, dPart, dNoPart, dSl, dEnds, gIs, isB, dNever, dFor, dLc, wipeD, dYes,
  sizeLine_eq, Nat.reduceLeDiff, gEq_int, gNe_int, gEq_strs, gNe_strs, gIn_two, gRepr_bl, rs_lst, rs_tup, rs_scr, rs_int, atI_0, atI_1, atI_2, atI_3, atI_4, atI_5, ixN_30, ixN_31, ixN_32, gEq_bl, gNe_bl, decide_eq_true_eq, beq_iff_eq, Bool.not_eq_true', beq_eq_false_iff_ne, decide_eq_false_iff_not, Bool.not_true, Bool.not_false, if_true, if_false, Bool.false_eq_true, ite_true, ite_false, true_and, and_true, ne_eq, Bool.bne_false, Bool.bne_true, reduceCtorEq])
local macro_rules | `(tactic| walk_at "rh") => `(tactic| simp only [*, startD, List.map, List.replicate, List.length_cons, List.length_nil, List.append_eq, List.append_nil, List.nil_append, List.cons_append, Nat.reduceSub, Nat.reduceAdd, List.getElem?_cons_zero, List.getElem?_cons_succ, List.set_cons_zero, List.set_cons_succ,
  dC, dVar, dOp, dTru, gTru, tru, dChain, dAnd, dOr, dNot, dAndV, dOrV, dNotV, dIf, dNeg, gNeg, dNil, dCons, dTup, dLst, dOwn, gIx, rBin, gAdd, gCmpI, dCall, dCallK, dSeq, dNext, dDrop, dRet, dRetN, dIfS, dName, dGNil, dGCons, dGTup, dSub, gSetL, dAsg, dPar, dPar3, dAug, gIpI, dSeqI, gSeqI, dRngI, gRng1, gRng2, dCB, gAbs, gInt, gMax, gMin, gGcd, gLen, lenD, gIsi, tyM, tyD, dBits, gBits, dMet, gAppend, dPart, dNoPart, dSl, dEnds, gIs, isB, dNever, dFor, dLc, wipeD, dYes,
  sizeLine_eq, Nat.reduceLeDiff, gEq_int, gNe_int, gEq_strs, gNe_strs, gIn_two, gRepr_bl, rs_lst, rs_tup, rs_scr, rs_int, atI_0, atI_1, atI_2, atI_3, atI_4, atI_5, ixN_30, ixN_31, ixN_32, gEq_bl, gNe_bl, decide_eq_true_eq, beq_iff_eq, Bool.not_eq_true', beq_eq_false_iff_ne, decide_eq_false_iff_not, Bool.not_true, Bool.not_false, if_true, if_false, Bool.false_eq_true, ite_true, ite_false, true_and, and_true, ne_eq, Bool.bne_false, Bool.bne_true, reduceCtorEq])
local macro_rules | `(tactic| walk_at "kb") => `(tactic| simp only [kb_NoneType_list, kb_bool_list, kb_int_list, kb_str_list, kb_tuple_list, kb_list_list, kb_dict_list, kb_NoneType_int, kb_bool_int, kb_int_int, kb_str_int, kb_tuple_int, kb_list_int, kb_dict_int, kb_NoneType_bool, kb_bool_bool, kb_int_bool, kb_str_bool, kb_tuple_bool, kb_list_bool, kb_dict_bool, kb_NoneType_tuple, kb_bool_tuple, kb_int_tuple, kb_str_tuple, kb_tuple_tuple, kb_list_tuple, kb_dict_tuple, if_true, if_false, Bool.false_eq_true, ite_true, ite_false, Bool.not_true, Bool.not_false])
theorem rd_l_hash_d8d1 : ∀ ds M Q, ds.length = 2 → sp_hash ds M Q DX0 → t_l_hash_d8d1 (dEnds M Q) (startD 3 ds) M := by
  rintro _ M Q - ⟨s, c, rfl, s0, s1, c0, c1, q⟩
  unfold P31 P40 at *
  unfold t_l_hash_d8d1
  walk_at "rd"
  have ss : Sm s := sm_of 32 (by omega) (by omega)
  have sc : Sm c := sm_of 42 (by omega) (by omega)
  have hm : ∀ a : Int, 0 ≤ a.fmod 2147483629 ∧ a.fmod 2147483629 < 2147483629 := fun a => fm_range (by decide)
  have k1 : Sm (27644437 * c) := sm_of 72 (by omega) (by omega)
  refine ⟨⟨ss, sm_of 32 (by decide) (by decide)⟩, ⟨sm_of 32 (by decide) (by decide), sc⟩, ⟨k1, sc⟩, ⟨sm_of 32 (by decide) (by decide), sc⟩, (by decide : (2147483629 : Int) ≠ 0), ?_⟩
  generalize hv : Int.fmod _ 2147483629 = v
  have v1 : 0 ≤ v ∧ v < 2147483629 := by rw [← hv]; exact hm _
  have sv : Sm v := sm_of 32 (by omega) (by omega)
  refine ⟨⟨sv, sv⟩, ⟨sm_of 32 (by decide) (by decide), sc⟩, (by decide : (2147483587 : Int) ≠ 0), ?_⟩
  generalize hw : Int.fmod _ 2147483587 = w
  have w1 : 0 ≤ w ∧ w < 2147483587 := by rw [← hw]; exact fm_range (by decide)
  refine ⟨⟨sm_of 32 (by omega) (by omega), sm_of 32 (by decide) (by decide)⟩, (by decide : (2147483647 : Int) ≠ 0), ?_⟩
  have r1 : 0 ≤ (w * 48271).fmod 2147483647 ∧ (w * 48271).fmod 2147483647 < 2147483647 := fm_range (by decide)
  exact rtq (q _ r1.1 (by omega))
/-! ### cuttings -/
/-- a cutting: (a, b, c, e) -/
def isCut (a b c e : Int) : Bool := decide (1 ≤ b) && (decide (1 ≤ c) && (decide (c + e < b) && (decide (0 ≤ a) && (decide (a < (Int.gcd b c : Int)) && (Int.gcd (Int.gcd a (Int.gcd b c : Int) : Int) e : Int) == 1))))
abbrev T4 (a b c e : Int) : D := .tup [.int a, .int b, .int c, .int e]
def meas4 (b c e : Int) : Int := e * e + 4 * b * c
theorem cut_parts {a b c e : Int} (h : isCut a b c e = true) : 1 ≤ b ∧ 1 ≤ c ∧ c + e < b ∧ 0 ≤ a ∧ a < (Int.gcd b c : Int) ∧ (Int.gcd (Int.gcd a (Int.gcd b c : Int) : Int) e : Int) = 1 := by
  simpa only [isCut, Bool.and_eq_true, decide_eq_true_eq, beq_iff_eq] using h
end DL
/-! MB: what a deed makes of a cutting; plain -/
namespace DL
/-- two ways to write the common divisor differ by a multiple of the other two -/
theorem bez_diff {m n g u v u' v' : Int} (hg : g ≠ 0) (hm : g ∣ m) (hn : g ∣ n) (h : u * m + v * n = g) (h' : u' * m + v' * n = g) : ∃ t, (u - u') * g = t * n ∧ (v - v') * g = -(t * m) := by
  -- t = u v' - u' v
  refine ⟨u * v' - u' * v, ?_, ?_⟩
  · have : (u - u') * g = u * (u' * m + v' * n) - u' * (u * m + v * n) := by rw [h, h']; grind
    rw [this]; grind
  · have : (v - v') * g = v * (u' * m + v' * n) - v' * (u * m + v * n) := by rw [h, h']; grind
    rw [this]; grind
theorem row_diff {p q x z x' z' : Int} (f1 : p * z - q * x = 1) (f1' : p * z' - q * x' = 1) : ∃ s, x - x' = s * p ∧ z - z' = s * q := by
  refine ⟨x * z' - x' * z, ?_, ?_⟩
  · have : x - x' = x * (p * z' - q * x') - x' * (p * z - q * x) := by rw [f1, f1']; omega
    rw [this]; grind
  · have : z - z' = z * (p * z' - q * x') - z' * (p * z - q * x) := by rw [f1, f1']; omega
    rw [this]; grind
/-- (a', w, g, e') is where the deed (p, q) leads from (a, b, c, e) -/
structure IsDone (a b c e p q a' w g e' : Int) : Prop where
  gc : g = (Int.gcd (p * b + q * a) (q * c) : Int)
  wi : w * g = c * (b - q * e - q * q * c)
  tu : e' = 0 - e - 2 * q * c
  lo : 0 ≤ a'
  hi : a' < (Int.gcd w g : Int)
  ex : ∃ u v x z : Int, p * z - q * x = 1 ∧ u * (p * b + q * a) + v * (q * c) = g ∧ (Int.gcd w g : Int) ∣ a' + (u * (x * b + z * a + e + q * c) + v * (z * c))
theorem isDone_unique {a b c e p q a1 w1 g1 e1 a2 w2 g2 e2 : Int} (hg : g1 ≠ 0) (h1 : IsDone a b c e p q a1 w1 g1 e1) (h2 : IsDone a b c e p q a2 w2 g2 e2) : a1 = a2 ∧ w1 = w2 ∧ g1 = g2 ∧ e1 = e2 := by
  have eg : g1 = g2 := h1.gc.trans h2.gc.symm
  subst eg
  have ew : w1 = w2 := Int.eq_of_mul_eq_mul_right hg (h1.wi.trans h2.wi.symm)
  subst ew
  refine ⟨?_, rfl, rfl, h1.tu.trans h2.tu.symm⟩
  obtain ⟨u, v, x, z, f1, f2, f3⟩ := h1.ex
  obtain ⟨u', v', x', z', f1', f2', f3'⟩ := h2.ex
  have dm : g1 ∣ p * b + q * a := by rw [h1.gc]; exact Int.gcd_dvd_left _ _
  have dn : g1 ∣ q * c := by rw [h1.gc]; exact Int.gcd_dvd_right _ _
  obtain ⟨t, t1, t2⟩ := bez_diff hg dm dn f2 f2'
  -- the second rows differ by a multiple of the first
  have hs := row_diff f1 f1'
  obtain ⟨s, s1, s2⟩ := hs
  have hw : w1 * g1 = (p * b + q * a) * (z' * c) - (q * c) * (x' * b + z' * a + e + q * c) := by
    rw [h1.wi]
    have : (p * b + q * a) * (z' * c) - (q * c) * (x' * b + z' * a + e + q * c) = c * (b * (p * z' - q * x') - q * e - q * q * c) := by grind
    rw [this, f1', Int.mul_one]
  -- the difference of the two rests
  have hd : ∃ k, (u * (x * b + z * a + e + q * c) + v * (z * c)) - (u' * (x' * b + z' * a + e + q * c) + v' * (z' * c)) = s * g1 + k * w1 := by
    refine ⟨-t, ?_⟩
    refine Int.eq_of_mul_eq_mul_right hg ?_
    have ex' : x = x' + s * p := by omega
    have ez' : z = z' + s * q := by omega
    have l1 : ((u * (x * b + z * a + e + q * c) + v * (z * c)) - (u' * (x' * b + z' * a + e + q * c) + v' * (z' * c))) = s * (u * (p * b + q * a) + v * (q * c)) + ((u - u') * (x' * b + z' * a + e + q * c) + (v - v') * (z' * c)) := by
      rw [ex', ez']; grind
    rw [l1, f2]
    have l2 : (s * g1 + ((u - u') * (x' * b + z' * a + e + q * c) + (v - v') * (z' * c))) * g1 = s * g1 * g1 + (((u - u') * g1) * (x' * b + z' * a + e + q * c) + ((v - v') * g1) * (z' * c)) := by grind
    rw [l2, t1, t2]
    have l3 : (s * g1 + -t * w1) * g1 = s * g1 * g1 + -t * (w1 * g1) := by grind
    rw [l3, hw]
    grind
  obtain ⟨k, hk⟩ := hd
  have dG : (Int.gcd w1 g1 : Int) ∣ a1 - a2 := by
    have d1 := Int.dvd_sub f3 f3'
    have d2 : (Int.gcd w1 g1 : Int) ∣ s * g1 + k * w1 := Int.dvd_add (Int.dvd_trans (Int.gcd_dvd_right _ _) (Int.dvd_mul_left _ _)) (Int.dvd_trans (Int.gcd_dvd_left _ _) (Int.dvd_mul_left _ _))
    have d3 := Int.dvd_sub d1 d2
    have e3 : a1 + (u * (x * b + z * a + e + q * c) + v * (z * c)) - (a2 + (u' * (x' * b + z' * a + e + q * c) + v' * (z' * c))) - (s * g1 + k * w1) = a1 - a2 := by rw [← hk]; omega
    rwa [e3] at d3
  obtain ⟨j, hj⟩ := dG
  have l1 := h1.lo
  have l2 := h2.lo
  have u1 := h1.hi
  have u2 := h2.hi
  generalize (Int.gcd w1 g1 : Int) = G at *
  by_cases hj0 : j = 0
  · subst hj0; omega
  · exfalso
    rcases (by omega : 1 ≤ j ∨ j ≤ -1) with q | q
    · have : G * 1 ≤ G * j := Int.mul_le_mul_of_nonneg_left q (by omega)
      omega
    · have : G * j ≤ G * (-1) := Int.mul_le_mul_of_nonneg_left q (by omega)
      omega
/-- a concave form is positive between two places where it is -/
theorem between_pos {b c e q s : Int} (hb : 0 < b) (hc : 0 < c) (hq : 0 < q) (hf : 0 < b - q * e - q * q * c) (s0 : 0 ≤ s) (s1 : s ≤ q * c) : 0 < c * b - s * e - s * s := by
  have hqc : 0 < q * c := Int.mul_pos hq hc
  have e1 : q * c * (c * b - s * e - s * s) = (q * c - s) * (c * b) + s * (c * (b - q * e - q * q * c)) + s * ((q * c - s) * (q * c)) := by grind
  have h1 : 0 < c * b := Int.mul_pos hc hb
  have h2 : 0 < c * (b - q * e - q * q * c) := Int.mul_pos hc hf
  have h3 : 0 ≤ s * ((q * c - s) * (q * c)) := Int.mul_nonneg s0 (Int.mul_nonneg (by omega) (by omega))
  have h4 : 0 < (q * c - s) * (c * b) + s * (c * (b - q * e - q * q * c)) := by
    by_cases z : s = 0
    · subst z
      have := Int.mul_pos hqc h1
      simp only [Int.sub_zero, Int.zero_mul, Int.add_zero]
      exact this
    · have h5 : 0 ≤ (q * c - s) * (c * b) := Int.mul_nonneg (by omega) (by omega)
      have h6 : 0 < s * (c * (b - q * e - q * q * c)) := Int.mul_pos (by omega) h2
      omega
  have h7 : 0 < q * c * (c * b - s * e - s * s) := by omega
  by_cases z : 0 < c * b - s * e - s * s
  · exact z
  · have : q * c * (c * b - s * e - s * s) ≤ 0 := Int.mul_nonpos_of_nonneg_of_nonpos (by omega) (by omega)
    omega
/-- where a deed leads, the side is less wide than it must be -/
theorem done_room {b c e q w g : Int} (hb : 0 < b) (hc : 0 < c) (hq : 0 < q) (hg : 0 < g) (hf : 0 < b - q * e - q * q * c) (hd : g ∣ q * c) (hw : w * g = c * (b - q * e - q * q * c)) : 0 < w ∧ g + (0 - e - 2 * q * c) < w := by
  have h2 : 0 < c * (b - q * e - q * q * c) := Int.mul_pos hc hf
  have hle : g ≤ q * c := Int.le_of_dvd (Int.mul_pos hq hc) hd
  have hp := between_pos (s := q * c - g) hb hc hq hf (by omega) (by omega)
  have e1 : c * b - (q * c - g) * e - (q * c - g) * (q * c - g) = w * g - g * (g + (0 - e - 2 * q * c)) := by rw [hw]; grind
  rw [e1] at hp
  refine ⟨?_, ?_⟩
  · by_cases z : 0 < w
    · exact z
    · have : w * g ≤ 0 := Int.mul_nonpos_of_nonpos_of_nonneg (by omega) (by omega)
      omega
  · by_cases z : g + (0 - e - 2 * q * c) < w
    · exact z
    · have h3 : g * w ≤ g * (g + (0 - e - 2 * q * c)) := Int.mul_le_mul_of_nonneg_left (by omega) (by omega)
      have h4 : g * w = w * g := Int.mul_comm _ _
      omega
/-- what divides all of the new cutting divides all of the old one -/
theorem done_dvd {a b c e p q a' w g e' d : Int} (hg : g ≠ 0) (h : IsDone a b c e p q a' w g e') (d1 : d ∣ a') (d2 : d ∣ w) (d3 : d ∣ g) (d4 : d ∣ e') : d ∣ a ∧ d ∣ b ∧ d ∣ c ∧ d ∣ e := by
  obtain ⟨u, v, x, z, f1, f2, f3⟩ := h.ex
  have dm : g ∣ p * b + q * a := by rw [h.gc]; exact Int.gcd_dvd_left _ _
  have dn : g ∣ q * c := by rw [h.gc]; exact Int.gcd_dvd_right _ _
  obtain ⟨m', hm⟩ := dm
  obtain ⟨n', hn⟩ := dn
  have hu : u * m' + v * n' = 1 := by
    have : g * (u * m' + v * n') = g * 1 := by
      have e1 : g * (u * m' + v * n') = u * (g * m') + v * (g * n') := by grind
      rw [e1, ← hm, ← hn, f2, Int.mul_one]
    exact Int.eq_of_mul_eq_mul_left hg this
  generalize hr3 : x * b + z * a + e + q * c = r3 at f3
  generalize hr4 : z * c = r4 at f3
  have hW : w = m' * r4 - n' * r3 := by
    refine Int.eq_of_mul_eq_mul_right hg ?_
    rw [h.wi]
    have e1 : (m' * r4 - n' * r3) * g = (g * m') * r4 - (g * n') * r3 := by grind
    rw [e1, ← hm, ← hn, ← hr3, ← hr4]
    have e2 : (p * b + q * a) * (z * c) - (q * c) * (x * b + z * a + e + q * c) = c * (b * (p * z - q * x) - q * e - q * q * c) := by grind
    rw [e2, f1, Int.mul_one]
  have dR : d ∣ u * r3 + v * r4 := by
    have h1 : d ∣ (Int.gcd w g : Int) := Int.dvd_coe_gcd d2 d3
    have h2 := Int.dvd_sub (Int.dvd_trans h1 f3) d1
    have e1 : a' + (u * r3 + v * r4) - a' = u * r3 + v * r4 := by omega
    rwa [e1] at h2
  generalize hR : u * r3 + v * r4 = R at dR
  have e3 : r3 = m' * R - v * w := by
    have : m' * R - v * w = (u * m' + v * n') * r3 := by rw [← hR, hW]; grind
    rw [this, hu, Int.one_mul]
  have e4 : r4 = n' * R + u * w := by
    have : n' * R + u * w = (u * m' + v * n') * r4 := by rw [← hR, hW]; grind
    rw [this, hu, Int.one_mul]
  have D3 : d ∣ r3 := by rw [e3]; exact Int.dvd_sub (Int.dvd_mul_of_dvd_right dR) (Int.dvd_mul_of_dvd_right d2)
  have D4 : d ∣ r4 := by rw [e4]; exact Int.dvd_add (Int.dvd_mul_of_dvd_right dR) (Int.dvd_mul_of_dvd_right d2)
  have Dm : d ∣ p * b + q * a := by rw [hm]; exact Int.dvd_mul_of_dvd_left d3
  have Dn : d ∣ q * c := by rw [hn]; exact Int.dvd_mul_of_dvd_left d3
  have De : d ∣ e := by
    have h1 : e = 0 - e' - 2 * (q * c) := by have := h.tu; have e1 : 2 * q * c = 2 * (q * c) := Int.mul_assoc _ _ _; omega
    rw [h1, Int.zero_sub]
    exact Int.dvd_sub (Int.dvd_neg.mpr d4) (Int.dvd_mul_of_dvd_right Dn)
  have Dc : d ∣ c := by
    have h1 : c = p * r4 - x * (q * c) := by
      have : p * r4 - x * (q * c) = c * (p * z - q * x) := by rw [← hr4]; grind
      rw [this, f1, Int.mul_one]
    rw [h1]
    exact Int.dvd_sub (Int.dvd_mul_of_dvd_right D4) (Int.dvd_mul_of_dvd_right Dn)
  have Dx : d ∣ x * b + z * a := by
    have h1 : x * b + z * a = r3 - e - q * c := by omega
    rw [h1]
    exact Int.dvd_sub (Int.dvd_sub D3 De) Dn
  refine ⟨?_, ?_, Dc, De⟩
  · have h1 : a = p * (x * b + z * a) - x * (p * b + q * a) := by
      have : p * (x * b + z * a) - x * (p * b + q * a) = a * (p * z - q * x) := by grind
      rw [this, f1, Int.mul_one]
    rw [h1]
    exact Int.dvd_sub (Int.dvd_mul_of_dvd_right Dx) (Int.dvd_mul_of_dvd_right Dm)
  · have h1 : b = z * (p * b + q * a) - q * (x * b + z * a) := by
      have : z * (p * b + q * a) - q * (x * b + z * a) = b * (p * z - q * x) := by grind
      rw [this, f1, Int.mul_one]
    rw [h1]
    exact Int.dvd_sub (Int.dvd_mul_of_dvd_right Dm) (Int.dvd_mul_of_dvd_right Dx)
end DL
namespace DL
open PySem PySem.Spec PyProof.Rows L2
local macro_rules | `(tactic| walk_at "rd") => `(tactic| simp only [startD, List.map, List.replicate, List.length_cons, List.length_nil, List.append_eq, List.append_nil, List.nil_append, List.cons_append, Nat.reduceSub, Nat.reduceAdd, List.getElem?_cons_zero, List.getElem?_cons_succ, List.set_cons_zero, List.set_cons_succ,
  dC, dVar, dOp, dTru, gTru, tru, dChain, dAnd, dOr, dNot, dAndV, dOrV, dNotV, dIf, dNeg, gNeg, dNil, dCons, dTup, dLst, dOwn, gIx, rBin, gAdd, gCmpI, dCall, dCallK, dSeq, dNext, dDrop, dRet, dRetN, dIfS, dName, dGNil, dGCons, dGTup, dSub, gSetL, dAsg, dPar, dPar3, dAug, gIpI, dSeqI, gSeqI, dRngI, gRng1, gRng2, dCB, gAbs, gInt, gMax, gMin, gGcd, gLen, lenD, gIsi, tyM, tyD, dBits, gBits, dMet, gAppend, dPart, dNoPart, dSl, dEnds, gIs, isB, dNever, dFor, dLc, wipeD, dYes,
  sizeLine_eq, Nat.reduceLeDiff, gEq_int, gNe_int, gEq_strs, gNe_strs, gIn_two, gRepr_bl, rs_lst, rs_tup, rs_scr, rs_int, atI_0, atI_1, atI_2, atI_3, atI_4, atI_5, ixN_30, ixN_31, ixN_32, gEq_bl, gNe_bl, decide_eq_true_eq, beq_iff_eq, Bool.not_eq_true', beq_eq_false_iff_ne, decide_eq_false_iff_not, Bool.not_true, Bool.not_false, if_true, if_false, Bool.false_eq_true, ite_true, ite_false, true_and, and_true, ne_eq, Bool.bne_false, Bool.bne_true, reduceCtorEq])
local macro_rules | `(tactic| walk_at "rh") => `(tactic| simp only [*, startD, List.map, List.replicate, List.length_cons, List.length_nil, List.append_eq, List.append_nil, List.nil_append, List.cons_append, Nat.reduceSub, Nat.reduceAdd, List.getElem?_cons_zero, List.getElem?_cons_succ, List.set_cons_zero, List.set_cons_succ,
  dC, dVar, dOp, dTru, gTru, tru, dChain, dAnd, dOr, dNot, dAndV, dOrV, dNotV, dIf, dNeg, gNeg, dNil, dCons, dTup, dLst, dOwn, gIx, rBin, gAdd, gCmpI, dCall, dCallK, dSeq, dNext, dDrop, dRet, dRetN, dIfS, dName, dGNil, dGCons, dGTup, dSub, gSetL, dAsg, dPar, dPar3, dAug, gIpI, dSeqI, gSeqI, dRngI, gRng1, gRng2, dCB, gAbs, gInt, gMax, gMin, gGcd, gLen, lenD, gIsi, tyM, tyD, dBits, gBits, dMet, gAppend, dPart, dNoPart, dSl, dEnds, gIs, isB, dNever, dFor, dLc, wipeD, dYes,
  sizeLine_eq, Nat.reduceLeDiff, gEq_int, gNe_int, gEq_strs, gNe_strs, gIn_two, gRepr_bl, rs_lst, rs_tup, rs_scr, rs_int, atI_0, atI_1, atI_2, atI_3, atI_4, atI_5, ixN_30, ixN_31, ixN_32, gEq_bl, gNe_bl, decide_eq_true_eq, beq_iff_eq, Bool.not_eq_true', beq_eq_false_iff_ne, decide_eq_false_iff_not, Bool.not_true, Bool.not_false, if_true, if_false, Bool.false_eq_true, ite_true, ite_false, true_and, and_true, ne_eq, Bool.bne_false, Bool.bne_true, reduceCtorEq])
local macro_rules | `(tactic| walk_at "kb") => `(tactic| simp only [kb_NoneType_list, kb_bool_list, kb_int_list, kb_str_list, kb_tuple_list, kb_list_list, kb_dict_list, kb_NoneType_int, kb_bool_int, kb_int_int, kb_str_int, kb_tuple_int, kb_list_int, kb_dict_int, kb_NoneType_bool, kb_bool_bool, kb_int_bool, kb_str_bool, kb_tuple_bool, kb_list_bool, kb_dict_bool, kb_NoneType_tuple, kb_bool_tuple, kb_int_tuple, kb_str_tuple, kb_tuple_tuple, kb_list_tuple, kb_dict_tuple, if_true, if_false, Bool.false_eq_true, ite_true, ite_false, Bool.not_true, Bool.not_false])
/-! ### deeds -/
/-- where a deed leads is a cutting of the same measure -/
theorem done_cut {a b c e p q a' w g e' : Int} (h : isCut a b c e = true) (hq : 1 ≤ q) (hf : 0 < b - q * e - q * q * c) (hd : IsDone a b c e p q a' w g e') : isCut a' w g e' = true ∧ meas4 w g e' = meas4 b c e := by
  obtain ⟨h1, h2, h3, h4, h5, h6⟩ := cut_parts h
  have hqc : 0 < q * c := Int.mul_pos (by omega) (by omega)
  have dn : g ∣ q * c := by rw [hd.gc]; exact Int.gcd_dvd_right _ _
  have hg : 0 < g := by
    have := Int.gcd_pos_of_ne_zero_right (p * b + q * a) (show q * c ≠ 0 by omega)
    rw [hd.gc]; omega
  obtain ⟨w0, room⟩ := done_room (by omega : 0 < b) (by omega : 0 < c) (by omega : 0 < q) hg hf dn hd.wi
  have hprim : (Int.gcd (Int.gcd a' (Int.gcd w g : Int) : Int) e' : Int) = 1 := by
    have d0 : (Int.gcd (Int.gcd a' (Int.gcd w g : Int) : Int) e' : Int) ∣ (Int.gcd a' (Int.gcd w g : Int) : Int) := Int.gcd_dvd_left _ _
    have d4 : (Int.gcd (Int.gcd a' (Int.gcd w g : Int) : Int) e' : Int) ∣ e' := Int.gcd_dvd_right _ _
    have d1 := Int.dvd_trans d0 (Int.gcd_dvd_left _ _)
    have d5 := Int.dvd_trans d0 (Int.gcd_dvd_right _ _)
    have d2 := Int.dvd_trans d5 (Int.gcd_dvd_left _ _)
    have d3 := Int.dvd_trans d5 (Int.gcd_dvd_right _ _)
    obtain ⟨k1, k2, k3, k4⟩ := done_dvd (by omega) hd d1 d2 d3 d4
    have k5 : (Int.gcd (Int.gcd a' (Int.gcd w g : Int) : Int) e' : Int) ∣ 1 := by
      rw [← h6]
      exact Int.dvd_coe_gcd (Int.dvd_coe_gcd k1 (Int.dvd_coe_gcd k2 k3)) k4
    have k6 := Int.le_of_dvd (by decide) k5
    have k7 : (Int.gcd (Int.gcd a' (Int.gcd w g : Int) : Int) e' : Int) ≠ 0 := by
      intro z
      rw [z] at k5
      exact absurd (Int.zero_dvd.mp k5) (by decide)
    omega
  refine ⟨?_, ?_⟩
  · unfold isCut
    rw [decide_eq_true (show 1 ≤ w by omega), decide_eq_true (show 1 ≤ g by omega), decide_eq_true (show g + e' < w by have := hd.tu; omega), decide_eq_true hd.lo, decide_eq_true hd.hi, hprim]
    rfl
  · unfold meas4
    rw [hd.tu]
    have e1 : 4 * w * g = 4 * (w * g) := Int.mul_assoc _ _ _
    rw [e1, hd.wi]
    grind
end DL
/-! MC: Euclid's rule with the factors; plain -/
namespace DL
theorem gcd_emod' (m n : Int) : (Int.gcd n (m % n) : Int) = Int.gcd m n := by
  have h := Int.mul_ediv_add_emod m n
  refine congrArg _ (Nat.dvd_antisymm ?_ ?_)
  · refine Int.natCast_dvd_natCast.mp (Int.dvd_coe_gcd ?_ (Int.gcd_dvd_left _ _))
    have h1 : (Int.gcd n (m % n) : Int) ∣ n * (m / n) + m % n := Int.dvd_add (Int.dvd_mul_of_dvd_left (Int.gcd_dvd_left _ _)) (Int.gcd_dvd_right _ _)
    rwa [h] at h1
  · refine Int.natCast_dvd_natCast.mp (Int.dvd_coe_gcd (Int.gcd_dvd_right _ _) ?_)
    have e : m % n = m - n * (m / n) := by omega
    rw [e]
    exact Int.dvd_sub (Int.gcd_dvd_left _ _) (Int.dvd_mul_of_dvd_left (Int.gcd_dvd_right _ _))
end DL
namespace DL
open PySem PySem.Spec PyProof.Rows L2
local macro_rules | `(tactic| walk_at "rd") => `(tactic| simp only [startD, List.map, List.replicate, List.length_cons, List.length_nil, List.append_eq, List.append_nil, List.nil_append, List.cons_append, Nat.reduceSub, Nat.reduceAdd, List.getElem?_cons_zero, List.getElem?_cons_succ, List.set_cons_zero, List.set_cons_succ,
  dC, dVar, dOp, dTru, gTru, tru, dChain, dAnd, dOr, dNot, dAndV, dOrV, dNotV, dIf, dNeg, gNeg, dNil, dCons, dTup, dLst, dOwn, gIx, rBin, gAdd, gCmpI, dCall, dCallK, dSeq, dNext, dDrop, dRet, dRetN, dIfS, dName, dGNil, dGCons, dGTup, dSub, gSetL, dAsg, dPar, dPar3, dAug, gIpI, dSeqI, gSeqI, dRngI, gRng1, gRng2, dCB, gAbs, gInt, gMax, gMin, gGcd, gLen, lenD, gIsi, tyM, tyD, dBits, gBits, dMet, gAppend, dPart, dNoPart, dSl, dEnds, gIs, isB, dNever, dFor, dLc, wipeD, dYes,
  sizeLine_eq, Nat.reduceLeDiff, gEq_int, gNe_int, gEq_strs, gNe_strs, gIn_two, gRepr_bl, rs_lst, rs_tup, rs_scr, rs_int, atI_0, atI_1, atI_2, atI_3, atI_4, atI_5, ixN_30, ixN_31, ixN_32, gEq_bl, gNe_bl, decide_eq_true_eq, beq_iff_eq, Bool.not_eq_true', beq_eq_false_iff_ne, decide_eq_false_iff_not, Bool.not_true, Bool.not_false, if_true, if_false, Bool.false_eq_true, ite_true, ite_false, true_and, and_true, ne_eq, Bool.bne_false, Bool.bne_true, reduceCtorEq])
local macro_rules | `(tactic| walk_at "rh") => `(tactic| simp only [*, startD, List.map, List.replicate, List.length_cons, List.length_nil, List.append_eq, List.append_nil, List.nil_append, List.cons_append, Nat.reduceSub, Nat.reduceAdd, List.getElem?_cons_zero, List.getElem?_cons_succ, List.set_cons_zero, List.set_cons_succ,
  dC, dVar, dOp, dTru, gTru, tru, dChain, dAnd, dOr, dNot, dAndV, dOrV, dNotV, dIf, dNeg, gNeg, dNil, dCons, dTup, dLst, dOwn, gIx, rBin, gAdd, gCmpI, dCall, dCallK, dSeq, dNext, dDrop, dRet, dRetN, dIfS, dName, dGNil, dGCons, dGTup, dSub, gSetL, dAsg, dPar, dPar3, dAug, gIpI, dSeqI, gSeqI, dRngI, gRng1, gRng2, dCB, gAbs, gInt, gMax, gMin, gGcd, gLen, lenD, gIsi, tyM, tyD, dBits, gBits, dMet, gAppend, dPart, dNoPart, dSl, dEnds, gIs, isB, dNever, dFor, dLc, wipeD, dYes,
  sizeLine_eq, Nat.reduceLeDiff, gEq_int, gNe_int, gEq_strs, gNe_strs, gIn_two, gRepr_bl, rs_lst, rs_tup, rs_scr, rs_int, atI_0, atI_1, atI_2, atI_3, atI_4, atI_5, ixN_30, ixN_31, ixN_32, gEq_bl, gNe_bl, decide_eq_true_eq, beq_iff_eq, Bool.not_eq_true', beq_eq_false_iff_ne, decide_eq_false_iff_not, Bool.not_true, Bool.not_false, if_true, if_false, Bool.false_eq_true, ite_true, ite_false, true_and, and_true, ne_eq, Bool.bne_false, Bool.bne_true, reduceCtorEq])
local macro_rules | `(tactic| walk_at "kb") => `(tactic| simp only [kb_NoneType_list, kb_bool_list, kb_int_list, kb_str_list, kb_tuple_list, kb_list_list, kb_dict_list, kb_NoneType_int, kb_bool_int, kb_int_int, kb_str_int, kb_tuple_int, kb_list_int, kb_dict_int, kb_NoneType_bool, kb_bool_bool, kb_int_bool, kb_str_bool, kb_tuple_bool, kb_list_bool, kb_dict_bool, kb_NoneType_tuple, kb_bool_tuple, kb_int_tuple, kb_str_tuple, kb_tuple_tuple, kb_list_tuple, kb_dict_tuple, if_true, if_false, Bool.false_eq_true, ite_true, ite_false, Bool.not_true, Bool.not_false])
/-! ### the common divisor with its two factors -/
end DL
namespace DL
open PySem PySem.Spec PyProof.Rows L2
local macro_rules | `(tactic| walk_at "rd") => `(tactic| simp only [startD, List.map, List.replicate, List.length_cons, List.length_nil, List.append_eq, List.append_nil, List.nil_append, List.cons_append, Nat.reduceSub, Nat.reduceAdd, List.getElem?_cons_zero, List.getElem?_cons_succ, List.set_cons_zero, List.set_cons_succ,
  dC, dVar, dOp, dTru, gTru, tru, dChain, dAnd, dOr, dNot, dAndV, dOrV, dNotV, dIf, dNeg, gNeg, dNil, dCons, dTup, dLst, dOwn, gIx, rBin, gAdd, gCmpI, dCall, dCallK, dSeq, dNext, dDrop, dRet, dRetN, dIfS, dName, dGNil, dGCons, dGTup, dSub, gSetL, dAsg, dPar, dPar3, dAug, gIpI, dSeqI, gSeqI, dRngI, gRng1, gRng2, dCB, gAbs, gInt, gMax, gMin, gGcd, gLen, lenD, gIsi, tyM, tyD, dBits, gBits, dMet, gAppend, dPart, dNoPart, dSl, dEnds, gIs, isB, dNever, dFor, dLc, wipeD, dYes,
  sizeLine_eq, Nat.reduceLeDiff, gEq_int, gNe_int, gEq_strs, gNe_strs, gIn_two, gRepr_bl, rs_lst, rs_tup, rs_scr, rs_int, atI_0, atI_1, atI_2, atI_3, atI_4, atI_5, ixN_30, ixN_31, ixN_32, gEq_bl, gNe_bl, decide_eq_true_eq, beq_iff_eq, Bool.not_eq_true', beq_eq_false_iff_ne, decide_eq_false_iff_not, Bool.not_true, Bool.not_false, if_true, if_false, Bool.false_eq_true, ite_true, ite_false, true_and, and_true, ne_eq, Bool.bne_false, Bool.bne_true, reduceCtorEq])
local macro_rules | `(tactic| walk_at "rh") => `(tactic| simp only [*, startD, List.map, List.replicate, List.length_cons, List.length_nil, List.append_eq, List.append_nil, List.nil_append, List.cons_append, Nat.reduceSub, Nat.reduceAdd, List.getElem?_cons_zero, List.getElem?_cons_succ, List.set_cons_zero, List.set_cons_succ,
  dC, dVar, dOp, dTru, gTru, tru, dChain, dAnd, dOr, dNot, dAndV, dOrV, dNotV, dIf, dNeg, gNeg, dNil, dCons, dTup, dLst, dOwn, gIx, rBin, gAdd, gCmpI, dCall, dCallK, dSeq, dNext, dDrop, dRet, dRetN, dIfS, dName, dGNil, dGCons, dGTup, dSub, gSetL, dAsg, dPar, dPar3, dAug, gIpI, dSeqI, gSeqI, dRngI, gRng1, gRng2, dCB, gAbs, gInt, gMax, gMin, gGcd, gLen, lenD, gIsi, tyM, tyD, dBits, gBits, dMet, gAppend, dPart, dNoPart, dSl, dEnds, gIs, isB, dNever, dFor, dLc, wipeD, dYes,
  sizeLine_eq, Nat.reduceLeDiff, gEq_int, gNe_int, gEq_strs, gNe_strs, gIn_two, gRepr_bl, rs_lst, rs_tup, rs_scr, rs_int, atI_0, atI_1, atI_2, atI_3, atI_4, atI_5, ixN_30, ixN_31, ixN_32, gEq_bl, gNe_bl, decide_eq_true_eq, beq_iff_eq, Bool.not_eq_true', beq_eq_false_iff_ne, decide_eq_false_iff_not, Bool.not_true, Bool.not_false, if_true, if_false, Bool.false_eq_true, ite_true, ite_false, true_and, and_true, ne_eq, Bool.bne_false, Bool.bne_true, reduceCtorEq])
local macro_rules | `(tactic| walk_at "kb") => `(tactic| simp only [kb_NoneType_list, kb_bool_list, kb_int_list, kb_str_list, kb_tuple_list, kb_list_list, kb_dict_list, kb_NoneType_int, kb_bool_int, kb_int_int, kb_str_int, kb_tuple_int, kb_list_int, kb_dict_int, kb_NoneType_bool, kb_bool_bool, kb_int_bool, kb_str_bool, kb_tuple_bool, kb_list_bool, kb_dict_bool, kb_NoneType_tuple, kb_bool_tuple, kb_int_tuple, kb_str_tuple, kb_tuple_tuple, kb_list_tuple, kb_dict_tuple, if_true, if_false, Bool.false_eq_true, ite_true, ite_false, Bool.not_true, Bool.not_false])
end DL
namespace DL
open PySem PySem.Spec PyProof.Rows L2
local macro_rules | `(tactic| walk_at "rd") => `(tactic| simp only [startD, List.map, List.replicate, List.length_cons, List.length_nil, List.append_eq, List.append_nil, List.nil_append, List.cons_append, Nat.reduceSub, Nat.reduceAdd, List.getElem?_cons_zero, List.getElem?_cons_succ, List.set_cons_zero, List.set_cons_succ,
  dC, dVar, dOp, dTru, gTru, tru, dChain, dAnd, dOr, dNot, dAndV, dOrV, dNotV, dIf, dNeg, gNeg, dNil, dCons, dTup, dLst, dOwn, gIx, rBin, gAdd, gCmpI, dCall, dCallK, dSeq, dNext, dDrop, dRet, dRetN, dIfS, dName, dGNil, dGCons, dGTup, dSub, gSetL, dAsg, dPar, dPar3, dAug, gIpI, dSeqI, gSeqI, dRngI, gRng1, gRng2, dCB, gAbs, gInt, gMax, gMin, gGcd, gLen, lenD, gIsi, tyM, tyD, dBits, gBits, dMet, gAppend, dPart, dNoPart, dSl, dEnds, gIs, isB, dNever, dFor, dLc, wipeD, dYes,
  sizeLine_eq, Nat.reduceLeDiff, gEq_int, gNe_int, gEq_strs, gNe_strs, gIn_two, gRepr_bl, rs_lst, rs_tup, rs_scr, rs_int, atI_0, atI_1, atI_2, atI_3, atI_4, atI_5, ixN_30, ixN_31, ixN_32, gEq_bl, gNe_bl, decide_eq_true_eq, beq_iff_eq, Bool.not_eq_true', beq_eq_false_iff_ne, decide_eq_false_iff_not, Bool.not_true, Bool.not_false, if_true, if_false, Bool.false_eq_true, ite_true, ite_false, true_and, and_true, ne_eq, Bool.bne_false, Bool.bne_true, reduceCtorEq])
local macro_rules | `(tactic| walk_at "rh") => `(tactic| simp only [*, startD, List.map, List.replicate, List.length_cons, List.length_nil, List.append_eq, List.append_nil, List.nil_append, List.cons_append, Nat.reduceSub, Nat.reduceAdd, List.getElem?_cons_zero, List.getElem?_cons_succ, List.set_cons_zero, List.set_cons_succ,
  dC, dVar, dOp, dTru, gTru, tru, dChain, dAnd, dOr, dNot, dAndV, dOrV, dNotV, dIf, dNeg, gNeg, dNil, dCons, dTup, dLst, dOwn, gIx, rBin, gAdd, gCmpI, dCall, dCallK, dSeq, dNext, dDrop, dRet, dRetN, dIfS, dName, dGNil, dGCons, dGTup, dSub, gSetL, dAsg, dPar, dPar3, dAug, gIpI, dSeqI, gSeqI, dRngI, gRng1, gRng2, dCB, gAbs, gInt, gMax, gMin, gGcd, gLen, lenD, gIsi, tyM, tyD, dBits, gBits, dMet, gAppend, dPart, dNoPart, dSl, dEnds, gIs, isB, dNever, dFor, dLc, wipeD, dYes,
  sizeLine_eq, Nat.reduceLeDiff, gEq_int, gNe_int, gEq_strs, gNe_strs, gIn_two, gRepr_bl, rs_lst, rs_tup, rs_scr, rs_int, atI_0, atI_1, atI_2, atI_3, atI_4, atI_5, ixN_30, ixN_31, ixN_32, gEq_bl, gNe_bl, decide_eq_true_eq, beq_iff_eq, Bool.not_eq_true', beq_eq_false_iff_ne, decide_eq_false_iff_not, Bool.not_true, Bool.not_false, if_true, if_false, Bool.false_eq_true, ite_true, ite_false, true_and, and_true, ne_eq, Bool.bne_false, Bool.bne_true, reduceCtorEq])
local macro_rules | `(tactic| walk_at "kb") => `(tactic| simp only [kb_NoneType_list, kb_bool_list, kb_int_list, kb_str_list, kb_tuple_list, kb_list_list, kb_dict_list, kb_NoneType_int, kb_bool_int, kb_int_int, kb_str_int, kb_tuple_int, kb_list_int, kb_dict_int, kb_NoneType_bool, kb_bool_bool, kb_int_bool, kb_str_bool, kb_tuple_bool, kb_list_bool, kb_dict_bool, kb_NoneType_tuple, kb_bool_tuple, kb_int_tuple, kb_str_tuple, kb_tuple_tuple, kb_list_tuple, kb_dict_tuple, if_true, if_false, Bool.false_eq_true, ite_true, ite_false, Bool.not_true, Bool.not_false])
/-! ### all that a deed makes -/
end DL
/-! MD: deeds with q = 1 that lead nearer to the heart; columns led down; plain -/
namespace DL
end DL
/-! ME: two columns led down; plain -/
namespace DL
/-- (o1, o2), (t1, t2) came of (i, k), (j, l) -/
structure Led (i k j l o1 o2 t1 t2 : Int) : Prop where
  ex : ∃ u v u' v' : Int, o1 = u * i + v * j ∧ o2 = u * k + v * l ∧ t1 = u' * i + v' * j ∧ t2 = u' * k + v' * l ∧ (u * v' - u' * v = 1 ∨ u * v' - u' * v = -1)
theorem Led.start (i k j l : Int) : Led i k j l i k j l := ⟨1, 0, 0, 1, by omega, by omega, by omega, by omega, .inl (by omega)⟩
end DL
namespace DL
open PySem PySem.Spec PyProof.Rows L2
local macro_rules | `(tactic| walk_at "rd") => `(tactic| simp only [startD, List.map, List.replicate, List.length_cons, List.length_nil, List.append_eq, List.append_nil, List.nil_append, List.cons_append, Nat.reduceSub, Nat.reduceAdd, List.getElem?_cons_zero, List.getElem?_cons_succ, List.set_cons_zero, List.set_cons_succ,
  dC, dVar, dOp, dTru, gTru, tru, dChain, dAnd, dOr, dNot, dAndV, dOrV, dNotV, dIf, dNeg, gNeg, dNil, dCons, dTup, dLst, dOwn, gIx, rBin, gAdd, gCmpI, dCall, dCallK, dSeq, dNext, dDrop, dRet, dRetN, dIfS, dName, dGNil, dGCons, dGTup, dSub, gSetL, dAsg, dPar, dPar3, dAug, gIpI, dSeqI, gSeqI, dRngI, gRng1, gRng2, dCB, gAbs, gInt, gMax, gMin, gGcd, gLen, lenD, gIsi, tyM, tyD, dBits, gBits, dMet, gAppend, dPart, dNoPart, dSl, gSl_tup, gSl_lst, cut_1, dEnds, gIs, isB, dNever, dFor, dLc, wipeD, dYes,
  sizeLine_eq, Nat.reduceLeDiff, gEq_int, gNe_int, gEq_strs, gNe_strs, gIn_two, gRepr_bl, rs_lst, rs_tup, rs_scr, rs_int, atI_0, atI_1, atI_2, atI_3, atI_4, atI_5, ixN_30, ixN_31, ixN_32, gEq_bl, gNe_bl, decide_eq_true_eq, beq_iff_eq, Bool.not_eq_true', beq_eq_false_iff_ne, decide_eq_false_iff_not, Bool.not_true, Bool.not_false, if_true, if_false, Bool.false_eq_true, ite_true, ite_false, true_and, and_true, ne_eq, Bool.bne_false, Bool.bne_true, reduceCtorEq])
local macro_rules | `(tactic| walk_at "rh") => `(tactic| simp only [*, startD, List.map, List.replicate, List.length_cons, List.length_nil, List.append_eq, List.append_nil, List.nil_append, List.cons_append, Nat.reduceSub, Nat.reduceAdd, List.getElem?_cons_zero, List.getElem?_cons_succ, List.set_cons_zero, List.set_cons_succ,
  dC, dVar, dOp, dTru, gTru, tru, dChain, dAnd, dOr, dNot, dAndV, dOrV, dNotV, dIf, dNeg, gNeg, dNil, dCons, dTup, dLst, dOwn, gIx, rBin, gAdd, gCmpI, dCall, dCallK, dSeq, dNext, dDrop, dRet, dRetN, dIfS, dName, dGNil, dGCons, dGTup, dSub, gSetL, dAsg, dPar, dPar3, dAug, gIpI, dSeqI, gSeqI, dRngI, gRng1, gRng2, dCB, gAbs, gInt, gMax, gMin, gGcd, gLen, lenD, gIsi, tyM, tyD, dBits, gBits, dMet, gAppend, dPart, dNoPart, dSl, gSl_tup, gSl_lst, cut_1, dEnds, gIs, isB, dNever, dFor, dLc, wipeD, dYes,
  sizeLine_eq, Nat.reduceLeDiff, gEq_int, gNe_int, gEq_strs, gNe_strs, gIn_two, gRepr_bl, rs_lst, rs_tup, rs_scr, rs_int, atI_0, atI_1, atI_2, atI_3, atI_4, atI_5, ixN_30, ixN_31, ixN_32, gEq_bl, gNe_bl, decide_eq_true_eq, beq_iff_eq, Bool.not_eq_true', beq_eq_false_iff_ne, decide_eq_false_iff_not, Bool.not_true, Bool.not_false, if_true, if_false, Bool.false_eq_true, ite_true, ite_false, true_and, and_true, ne_eq, Bool.bne_false, Bool.bne_true, reduceCtorEq])
local macro_rules | `(tactic| walk_at "kb") => `(tactic| simp only [kb_NoneType_list, kb_bool_list, kb_int_list, kb_str_list, kb_tuple_list, kb_list_list, kb_dict_list, kb_NoneType_int, kb_bool_int, kb_int_int, kb_str_int, kb_tuple_int, kb_list_int, kb_dict_int, kb_NoneType_bool, kb_bool_bool, kb_int_bool, kb_str_bool, kb_tuple_bool, kb_list_bool, kb_dict_bool, kb_NoneType_tuple, kb_bool_tuple, kb_int_tuple, kb_str_tuple, kb_tuple_tuple, kb_list_tuple, kb_dict_tuple, if_true, if_false, Bool.false_eq_true, ite_true, ite_false, Bool.not_true, Bool.not_false])
/-! ### sizes of cuttings by their measure -/
theorem sq_nn (e : Int) : 0 ≤ e * e := by rcases (by omega : 0 ≤ e ∨ e ≤ 0) with h | h; exact Int.mul_nonneg h h; exact Int.mul_nonneg_of_nonpos_of_nonpos h h
theorem abs_le_sq (e : Int) : (e.natAbs : Int) ≤ e * e := by
  rcases (by omega : e = 0 ∨ 1 ≤ e ∨ e ≤ -1) with h | h | h
  · subst h; decide
  · have : e * 1 ≤ e * e := Int.mul_le_mul_of_nonneg_left h (by omega); omega
  · have : (-e) * 1 ≤ (-e) * (-e) := Int.mul_le_mul_of_nonneg_left (by omega) (by omega)
    rw [Int.neg_mul_neg] at this; omega
theorem cut_le {a b c e : Int} (h : isCut a b c e = true) : 0 ≤ a ∧ a < c ∧ a < b ∧ b ≤ meas4 b c e ∧ c ≤ meas4 b c e ∧ (e.natAbs : Int) ≤ meas4 b c e ∧ e * e < meas4 b c e := by
  obtain ⟨h1, h2, h3, h4, h5, _⟩ := cut_parts h
  have g1 : (Int.gcd b c : Int) ≤ c := Int.le_of_dvd (by omega) (Int.gcd_dvd_right _ _)
  have g2 : (Int.gcd b c : Int) ≤ b := Int.le_of_dvd (by omega) (Int.gcd_dvd_left _ _)
  have e1 : 4 * b * c = 4 * (b * c) := Int.mul_assoc _ _ _
  have hb : b * 1 ≤ b * c := Int.mul_le_mul_of_nonneg_left h2 (by omega)
  have hc : 1 * c ≤ b * c := Int.mul_le_mul_of_nonneg_right h1 (by omega)
  have he := abs_le_sq e
  have hs := sq_nn e
  unfold meas4
  refine ⟨h4, by omega, by omega, by omega, by omega, by omega, by omega⟩
def CutB (n : Nat) (a b c e : Int) : Prop := Bi n a ∧ Bi n b ∧ Bi n c ∧ Bi n e
theorem cut_bi {n : Nat} {a b c e : Int} (h : isCut a b c e = true) (hm : Bi n (meas4 b c e)) : CutB n a b c e := by
  obtain ⟨h1, h2, h3, h4, h5, h6, h7⟩ := cut_le h
  have h8 := (cut_parts h).1
  have h9 := (cut_parts h).2.1
  have hs := sq_nn e
  unfold CutB Bi at *
  omega
theorem CutB.mono {n k : Nat} {a b c e : Int} (h : CutB n a b c e) (hk : n ≤ k := by decide) : CutB k a b c e := ⟨h.1.mono hk, h.2.1.mono hk, h.2.2.1.mono hk, h.2.2.2.mono hk⟩
/-- a deed's numbers, but for the bound of the first -/
structure DeedQ (b c e p q : Int) : Prop where
  q1 : 1 ≤ q
  al : 0 < b - q * e - q * q * c
  p0 : 0 ≤ p
  cp : Int.gcd p q = 1
theorem deedq_one {a b c e p : Int} (h : isCut a b c e = true) (hp : 0 ≤ p) : DeedQ b c e p 1 := by
  obtain ⟨h1, h2, h3, h4, h5, _⟩ := cut_parts h
  refine ⟨by omega, by rw [Int.one_mul, Int.one_mul, Int.one_mul]; omega, hp, ?_⟩
  simp [Int.gcd]
def farV (a b c : Int) : Int := if c = 1 then 0 else if (Int.gcd (Int.gcd a b : Int) c : Int) = 1 then 1 else 2
theorem done_g {a b c e p q a' w g e' : Int} (hc : 1 ≤ c) (hq : 1 ≤ q) (h : IsDone a b c e p q a' w g e') : 0 < g := by
  have := Int.gcd_pos_of_ne_zero_right (p * b + q * a) (show q * c ≠ 0 by have := Int.mul_pos (show 0 < q by omega) (show 0 < c by omega); omega)
  have := h.gc
  omega
/-- p is the least that leads nearer -/
def IsNear (a b c e p : Int) : Prop := (∀ a' w g e', IsDone a b c e p 1 a' w g e' → farV a' w g + 1 = farV a b c) ∧ ∀ p', 0 ≤ p' → p' < p → ∀ a' w g e', IsDone a b c e p' 1 a' w g e' → farV a b c ≤ farV a' w g
end DL
namespace DL
open PySem PySem.Spec PyProof.Rows L2
local macro_rules | `(tactic| walk_at "rd") => `(tactic| simp only [startD, List.map, List.replicate, List.length_cons, List.length_nil, List.append_eq, List.append_nil, List.nil_append, List.cons_append, Nat.reduceSub, Nat.reduceAdd, List.getElem?_cons_zero, List.getElem?_cons_succ, List.set_cons_zero, List.set_cons_succ,
  dC, dVar, dOp, dTru, gTru, tru, dChain, dAnd, dOr, dNot, dAndV, dOrV, dNotV, dIf, dNeg, gNeg, dNil, dCons, dTup, dLst, dOwn, gIx, rBin, gAdd, gCmpI, dCall, dCallK, dSeq, dNext, dDrop, dRet, dRetN, dIfS, dName, dGNil, dGCons, dGTup, dSub, gSetL, dAsg, dPar, dPar3, dAug, gIpI, dSeqI, gSeqI, dRngI, gRng1, gRng2, dCB, gAbs, gInt, gMax, gMin, gGcd, gLen, lenD, gIsi, tyM, tyD, dBits, gBits, dMet, gAppend, dPart, dNoPart, dSl, gSl_tup, gSl_lst, cut_1, dEnds, gIs, isB, dNever, dFor, dLc, wipeD, dYes,
  sizeLine_eq, Nat.reduceLeDiff, gEq_int, gNe_int, gEq_strs, gNe_strs, gIn_two, gRepr_bl, rs_lst, rs_tup, rs_scr, rs_int, atI_0, atI_1, atI_2, atI_3, atI_4, atI_5, ixN_30, ixN_31, ixN_32, gEq_bl, gNe_bl, decide_eq_true_eq, beq_iff_eq, Bool.not_eq_true', beq_eq_false_iff_ne, decide_eq_false_iff_not, Bool.not_true, Bool.not_false, if_true, if_false, Bool.false_eq_true, ite_true, ite_false, true_and, and_true, ne_eq, Bool.bne_false, Bool.bne_true, reduceCtorEq])
local macro_rules | `(tactic| walk_at "rh") => `(tactic| simp only [*, startD, List.map, List.replicate, List.length_cons, List.length_nil, List.append_eq, List.append_nil, List.nil_append, List.cons_append, Nat.reduceSub, Nat.reduceAdd, List.getElem?_cons_zero, List.getElem?_cons_succ, List.set_cons_zero, List.set_cons_succ,
  dC, dVar, dOp, dTru, gTru, tru, dChain, dAnd, dOr, dNot, dAndV, dOrV, dNotV, dIf, dNeg, gNeg, dNil, dCons, dTup, dLst, dOwn, gIx, rBin, gAdd, gCmpI, dCall, dCallK, dSeq, dNext, dDrop, dRet, dRetN, dIfS, dName, dGNil, dGCons, dGTup, dSub, gSetL, dAsg, dPar, dPar3, dAug, gIpI, dSeqI, gSeqI, dRngI, gRng1, gRng2, dCB, gAbs, gInt, gMax, gMin, gGcd, gLen, lenD, gIsi, tyM, tyD, dBits, gBits, dMet, gAppend, dPart, dNoPart, dSl, gSl_tup, gSl_lst, cut_1, dEnds, gIs, isB, dNever, dFor, dLc, wipeD, dYes,
  sizeLine_eq, Nat.reduceLeDiff, gEq_int, gNe_int, gEq_strs, gNe_strs, gIn_two, gRepr_bl, rs_lst, rs_tup, rs_scr, rs_int, atI_0, atI_1, atI_2, atI_3, atI_4, atI_5, ixN_30, ixN_31, ixN_32, gEq_bl, gNe_bl, decide_eq_true_eq, beq_iff_eq, Bool.not_eq_true', beq_eq_false_iff_ne, decide_eq_false_iff_not, Bool.not_true, Bool.not_false, if_true, if_false, Bool.false_eq_true, ite_true, ite_false, true_and, and_true, ne_eq, Bool.bne_false, Bool.bne_true, reduceCtorEq])
local macro_rules | `(tactic| walk_at "kb") => `(tactic| simp only [kb_NoneType_list, kb_bool_list, kb_int_list, kb_str_list, kb_tuple_list, kb_list_list, kb_dict_list, kb_NoneType_int, kb_bool_int, kb_int_int, kb_str_int, kb_tuple_int, kb_list_int, kb_dict_int, kb_NoneType_bool, kb_bool_bool, kb_int_bool, kb_str_bool, kb_tuple_bool, kb_list_bool, kb_dict_bool, kb_NoneType_tuple, kb_bool_tuple, kb_int_tuple, kb_str_tuple, kb_tuple_tuple, kb_list_tuple, kb_dict_tuple, if_true, if_false, Bool.false_eq_true, ite_true, ite_false, Bool.not_true, Bool.not_false])
/-! ### the way to the heart -/
/-- deeds (p, 1), one behind the other, from (a, b, c, e) to (a', b', c', e') -/
def HWay : List Int → Int → Int → Int → Int → Int → Int → Int → Int → Prop
  | [], a, b, c, e, a', b', c', e' => a' = a ∧ b' = b ∧ c' = c ∧ e' = e
  | p :: ps, a, b, c, e, a', b', c', e' => ∃ a1 w g e1, 0 ≤ p ∧ p < c / (Int.gcd b c : Int) ∧ IsDone a b c e p 1 a1 w g e1 ∧ HWay ps a1 w g e1 a' b' c' e' ∧ IsNear a b c e p
theorem done_one {a b c e p a' w g e' : Int} (h : isCut a b c e = true) (hp : 0 ≤ p) (hd : IsDone a b c e p 1 a' w g e') : isCut a' w g e' = true ∧ meas4 w g e' = meas4 b c e :=
  done_cut h (Int.le_refl _) (deedq_one h hp).al hd
end DL
namespace DL
open PySem PySem.Spec PyProof.Rows L2
local macro_rules | `(tactic| walk_at "rd") => `(tactic| simp only [startD, List.map, List.replicate, List.length_cons, List.length_nil, List.append_eq, List.append_nil, List.nil_append, List.cons_append, Nat.reduceSub, Nat.reduceAdd, List.getElem?_cons_zero, List.getElem?_cons_succ, List.set_cons_zero, List.set_cons_succ,
  dC, dVar, dOp, dTru, gTru, tru, dChain, dAnd, dOr, dNot, dAndV, dOrV, dNotV, dIf, dNeg, gNeg, dNil, dCons, dTup, dLst, dOwn, gIx, rBin, gAdd, gCmpI, dCall, dCallK, dSeq, dNext, dDrop, dRet, dRetN, dIfS, dName, dGNil, dGCons, dGTup, dSub, gSetL, dAsg, dPar, dPar3, dAug, gIpI, dSeqI, gSeqI, dRngI, gRng1, gRng2, dCB, gAbs, gInt, gMax, gMin, gGcd, gLen, lenD, gIsi, tyM, tyD, dBits, gBits, dMet, gAppend, dPart, dNoPart, dSl, gSl_tup, gSl_lst, cut_1, dEnds, gIs, isB, dNever, dFor, dLc, wipeD, dYes,
  sizeLine_eq, Nat.reduceLeDiff, gEq_int, gNe_int, gEq_strs, gNe_strs, gIn_two, gRepr_bl, rs_lst, rs_tup, rs_scr, rs_int, atI_0, atI_1, atI_2, atI_3, atI_4, atI_5, ixN_30, ixN_31, ixN_32, gEq_bl, gNe_bl, decide_eq_true_eq, beq_iff_eq, Bool.not_eq_true', beq_eq_false_iff_ne, decide_eq_false_iff_not, Bool.not_true, Bool.not_false, if_true, if_false, Bool.false_eq_true, ite_true, ite_false, true_and, and_true, ne_eq, Bool.bne_false, Bool.bne_true, reduceCtorEq])
local macro_rules | `(tactic| walk_at "rh") => `(tactic| simp only [*, startD, List.map, List.replicate, List.length_cons, List.length_nil, List.append_eq, List.append_nil, List.nil_append, List.cons_append, Nat.reduceSub, Nat.reduceAdd, List.getElem?_cons_zero, List.getElem?_cons_succ, List.set_cons_zero, List.set_cons_succ,
  dC, dVar, dOp, dTru, gTru, tru, dChain, dAnd, dOr, dNot, dAndV, dOrV, dNotV, dIf, dNeg, gNeg, dNil, dCons, dTup, dLst, dOwn, gIx, rBin, gAdd, gCmpI, dCall, dCallK, dSeq, dNext, dDrop, dRet, dRetN, dIfS, dName, dGNil, dGCons, dGTup, dSub, gSetL, dAsg, dPar, dPar3, dAug, gIpI, dSeqI, gSeqI, dRngI, gRng1, gRng2, dCB, gAbs, gInt, gMax, gMin, gGcd, gLen, lenD, gIsi, tyM, tyD, dBits, gBits, dMet, gAppend, dPart, dNoPart, dSl, gSl_tup, gSl_lst, cut_1, dEnds, gIs, isB, dNever, dFor, dLc, wipeD, dYes,
  sizeLine_eq, Nat.reduceLeDiff, gEq_int, gNe_int, gEq_strs, gNe_strs, gIn_two, gRepr_bl, rs_lst, rs_tup, rs_scr, rs_int, atI_0, atI_1, atI_2, atI_3, atI_4, atI_5, ixN_30, ixN_31, ixN_32, gEq_bl, gNe_bl, decide_eq_true_eq, beq_iff_eq, Bool.not_eq_true', beq_eq_false_iff_ne, decide_eq_false_iff_not, Bool.not_true, Bool.not_false, if_true, if_false, Bool.false_eq_true, ite_true, ite_false, true_and, and_true, ne_eq, Bool.bne_false, Bool.bne_true, reduceCtorEq])
local macro_rules | `(tactic| walk_at "kb") => `(tactic| simp only [kb_NoneType_list, kb_bool_list, kb_int_list, kb_str_list, kb_tuple_list, kb_list_list, kb_dict_list, kb_NoneType_int, kb_bool_int, kb_int_int, kb_str_int, kb_tuple_int, kb_list_int, kb_dict_int, kb_NoneType_bool, kb_bool_bool, kb_int_bool, kb_str_bool, kb_tuple_bool, kb_list_bool, kb_dict_bool, kb_NoneType_tuple, kb_bool_tuple, kb_int_tuple, kb_str_tuple, kb_tuple_tuple, kb_list_tuple, kb_dict_tuple, if_true, if_false, Bool.false_eq_true, ite_true, ite_false, Bool.not_true, Bool.not_false])
/-! ### the law's own deeds -/
end DL
namespace DL
open PySem PySem.Spec PyProof.Rows L2
local macro_rules | `(tactic| walk_at "rd") => `(tactic| simp only [startD, List.map, List.replicate, List.length_cons, List.length_nil, List.append_eq, List.append_nil, List.nil_append, List.cons_append, Nat.reduceSub, Nat.reduceAdd, List.getElem?_cons_zero, List.getElem?_cons_succ, List.set_cons_zero, List.set_cons_succ,
  dC, dVar, dOp, dTru, gTru, tru, dChain, dAnd, dOr, dNot, dAndV, dOrV, dNotV, dIf, dNeg, gNeg, dNil, dCons, dTup, dLst, dOwn, gIx, rBin, gAdd, gCmpI, dCall, dCallK, dSeq, dNext, dDrop, dRet, dRetN, dIfS, dName, dGNil, dGCons, dGTup, dSub, gSetL, dAsg, dPar, dPar3, dAug, gIpI, dSeqI, gSeqI, dRngI, gRng1, gRng2, dCB, gAbs, gInt, gMax, gMin, gGcd, gLen, lenD, gIsi, tyM, tyD, dBits, gBits, dMet, gAppend, dPart, dNoPart, dSl, gSl_tup, gSl_lst, cut_1, dEnds, gIs, isB, dNever, dFor, dLc, wipeD, dYes,
  sizeLine_eq, Nat.reduceLeDiff, gEq_int, gNe_int, gEq_strs, gNe_strs, gIn_two, gRepr_bl, rs_lst, rs_tup, rs_scr, rs_int, atI_0, atI_1, atI_2, atI_3, atI_4, atI_5, ixN_30, ixN_31, ixN_32, gEq_bl, gNe_bl, decide_eq_true_eq, beq_iff_eq, Bool.not_eq_true', beq_eq_false_iff_ne, decide_eq_false_iff_not, Bool.not_true, Bool.not_false, if_true, if_false, Bool.false_eq_true, ite_true, ite_false, true_and, and_true, ne_eq, Bool.bne_false, Bool.bne_true, reduceCtorEq])
local macro_rules | `(tactic| walk_at "rh") => `(tactic| simp only [*, startD, List.map, List.replicate, List.length_cons, List.length_nil, List.append_eq, List.append_nil, List.nil_append, List.cons_append, Nat.reduceSub, Nat.reduceAdd, List.getElem?_cons_zero, List.getElem?_cons_succ, List.set_cons_zero, List.set_cons_succ,
  dC, dVar, dOp, dTru, gTru, tru, dChain, dAnd, dOr, dNot, dAndV, dOrV, dNotV, dIf, dNeg, gNeg, dNil, dCons, dTup, dLst, dOwn, gIx, rBin, gAdd, gCmpI, dCall, dCallK, dSeq, dNext, dDrop, dRet, dRetN, dIfS, dName, dGNil, dGCons, dGTup, dSub, gSetL, dAsg, dPar, dPar3, dAug, gIpI, dSeqI, gSeqI, dRngI, gRng1, gRng2, dCB, gAbs, gInt, gMax, gMin, gGcd, gLen, lenD, gIsi, tyM, tyD, dBits, gBits, dMet, gAppend, dPart, dNoPart, dSl, gSl_tup, gSl_lst, cut_1, dEnds, gIs, isB, dNever, dFor, dLc, wipeD, dYes,
  sizeLine_eq, Nat.reduceLeDiff, gEq_int, gNe_int, gEq_strs, gNe_strs, gIn_two, gRepr_bl, rs_lst, rs_tup, rs_scr, rs_int, atI_0, atI_1, atI_2, atI_3, atI_4, atI_5, ixN_30, ixN_31, ixN_32, gEq_bl, gNe_bl, decide_eq_true_eq, beq_iff_eq, Bool.not_eq_true', beq_eq_false_iff_ne, decide_eq_false_iff_not, Bool.not_true, Bool.not_false, if_true, if_false, Bool.false_eq_true, ite_true, ite_false, true_and, and_true, ne_eq, Bool.bne_false, Bool.bne_true, reduceCtorEq])
local macro_rules | `(tactic| walk_at "kb") => `(tactic| simp only [kb_NoneType_list, kb_bool_list, kb_int_list, kb_str_list, kb_tuple_list, kb_list_list, kb_dict_list, kb_NoneType_int, kb_bool_int, kb_int_int, kb_str_int, kb_tuple_int, kb_list_int, kb_dict_int, kb_NoneType_bool, kb_bool_bool, kb_int_bool, kb_str_bool, kb_tuple_bool, kb_list_bool, kb_dict_bool, kb_NoneType_tuple, kb_bool_tuple, kb_int_tuple, kb_str_tuple, kb_tuple_tuple, kb_list_tuple, kb_dict_tuple, if_true, if_false, Bool.false_eq_true, ite_true, ite_false, Bool.not_true, Bool.not_false])
/-! ### k63: drawn deeds, the heart's numbers -/
/-- a deed: (p, q) is one of (a, b, c, e) -/
def isDeed (b c e p q : Int) : Bool := decide (1 ≤ q) && (decide (0 < b - q * e - q * q * c) && (decide (0 ≤ p) && (decide (p < q * (c / (Int.gcd b c : Int))) && (Int.gcd p q : Int) == 1)))
theorem meas_par {a b c e : Int} : (e - meas4 b c e) % 2 = 0 := by
  unfold meas4
  have e1 : 4 * b * c = 4 * (b * c) := Int.mul_assoc _ _ _
  rw [e1]
  rcases (by omega : e % 2 = 0 ∨ e % 2 = 1) with q | q
  · obtain ⟨t, rfl⟩ : ∃ t, e = 2 * t := ⟨e / 2, by omega⟩
    have : 2 * t * (2 * t) = 4 * (t * t) := by grind
    omega
  · obtain ⟨t, rfl⟩ : ∃ t, e = 2 * t + 1 := ⟨e / 2, by omega⟩
    have : (2 * t + 1) * (2 * t + 1) = 4 * (t * t + t) + 1 := by grind
    omega
end DL
namespace DL
open PySem PySem.Spec PyProof.Rows L2
local macro_rules | `(tactic| walk_at "rd") => `(tactic| simp only [startD, List.map, List.replicate, List.length_cons, List.length_nil, List.append_eq, List.append_nil, List.nil_append, List.cons_append, Nat.reduceSub, Nat.reduceAdd, List.getElem?_cons_zero, List.getElem?_cons_succ, List.set_cons_zero, List.set_cons_succ,
  dC, dVar, dOp, dTru, gTru, tru, dChain, dAnd, dOr, dNot, dAndV, dOrV, dNotV, dIf, dNeg, gNeg, dNil, dCons, dTup, dLst, dOwn, gIx, rBin, gAdd, gCmpI, dCall, dCallK, dSeq, dNext, dDrop, dRet, dRetN, dIfS, dName, dGNil, dGCons, dGTup, dSub, gSetL, dAsg, dPar, dPar3, dAug, gIpI, dSeqI, gSeqI, dRngI, gRng1, gRng2, dCB, gAbs, gInt, gMax, gMin, gGcd, gLen, lenD, gIsi, tyM, tyD, dBits, gBits, dMet, gAppend, dPart, dNoPart, dSl, gSl_tup, gSl_lst, cut_1, dEnds, gIs, isB, dNever, dFor, dLc, wipeD, dYes,
  sizeLine_eq, Nat.reduceLeDiff, gEq_int, gNe_int, gEq_strs, gNe_strs, gIn_two, gRepr_bl, rs_lst, rs_tup, rs_scr, rs_int, atI_0, atI_1, atI_2, atI_3, atI_4, atI_5, ixN_30, ixN_31, ixN_32, gEq_bl, gNe_bl, decide_eq_true_eq, beq_iff_eq, Bool.not_eq_true', beq_eq_false_iff_ne, decide_eq_false_iff_not, Bool.not_true, Bool.not_false, if_true, if_false, Bool.false_eq_true, ite_true, ite_false, true_and, and_true, ne_eq, Bool.bne_false, Bool.bne_true, reduceCtorEq])
local macro_rules | `(tactic| walk_at "rh") => `(tactic| simp only [*, startD, List.map, List.replicate, List.length_cons, List.length_nil, List.append_eq, List.append_nil, List.nil_append, List.cons_append, Nat.reduceSub, Nat.reduceAdd, List.getElem?_cons_zero, List.getElem?_cons_succ, List.set_cons_zero, List.set_cons_succ,
  dC, dVar, dOp, dTru, gTru, tru, dChain, dAnd, dOr, dNot, dAndV, dOrV, dNotV, dIf, dNeg, gNeg, dNil, dCons, dTup, dLst, dOwn, gIx, rBin, gAdd, gCmpI, dCall, dCallK, dSeq, dNext, dDrop, dRet, dRetN, dIfS, dName, dGNil, dGCons, dGTup, dSub, gSetL, dAsg, dPar, dPar3, dAug, gIpI, dSeqI, gSeqI, dRngI, gRng1, gRng2, dCB, gAbs, gInt, gMax, gMin, gGcd, gLen, lenD, gIsi, tyM, tyD, dBits, gBits, dMet, gAppend, dPart, dNoPart, dSl, gSl_tup, gSl_lst, cut_1, dEnds, gIs, isB, dNever, dFor, dLc, wipeD, dYes,
  sizeLine_eq, Nat.reduceLeDiff, gEq_int, gNe_int, gEq_strs, gNe_strs, gIn_two, gRepr_bl, rs_lst, rs_tup, rs_scr, rs_int, atI_0, atI_1, atI_2, atI_3, atI_4, atI_5, ixN_30, ixN_31, ixN_32, gEq_bl, gNe_bl, decide_eq_true_eq, beq_iff_eq, Bool.not_eq_true', beq_eq_false_iff_ne, decide_eq_false_iff_not, Bool.not_true, Bool.not_false, if_true, if_false, Bool.false_eq_true, ite_true, ite_false, true_and, and_true, ne_eq, Bool.bne_false, Bool.bne_true, reduceCtorEq])
local macro_rules | `(tactic| walk_at "kb") => `(tactic| simp only [kb_NoneType_list, kb_bool_list, kb_int_list, kb_str_list, kb_tuple_list, kb_list_list, kb_dict_list, kb_NoneType_int, kb_bool_int, kb_int_int, kb_str_int, kb_tuple_int, kb_list_int, kb_dict_int, kb_NoneType_bool, kb_bool_bool, kb_int_bool, kb_str_bool, kb_tuple_bool, kb_list_bool, kb_dict_bool, kb_NoneType_tuple, kb_bool_tuple, kb_int_tuple, kb_str_tuple, kb_tuple_tuple, kb_list_tuple, kb_dict_tuple, if_true, if_false, Bool.false_eq_true, ite_true, ite_false, Bool.not_true, Bool.not_false])
/-! ### all cuttings of a measure, as laws list them -/
def IsC (m : Int) (x : List Int) : Prop := ∃ a b c e, x = [a, b, c, e] ∧ isCut a b c e = true ∧ meas4 b c e = m
/-- l: cuttings of the measure m, among them all with P c e -/
def Cov (m : Int) (l : List (List Int)) (P : Int → Int → Prop) : Prop := (∀ x ∈ l, IsC m x) ∧ ∀ a b c e, isCut a b c e = true → meas4 b c e = m → P c e → [a, b, c, e] ∈ l
theorem Cov.weak {m : Int} {l : List (List Int)} {P P' : Int → Int → Prop} (h : Cov m l P) (w : ∀ a b c e, isCut a b c e = true → meas4 b c e = m → P' c e → P c e) : Cov m l P' := ⟨h.1, fun a b c e h1 h2 h3 => h.2 a b c e h1 h2 (w a b c e h1 h2 h3)⟩
theorem Cov.app {m : Int} {l l2 : List (List Int)} {P P' : Int → Int → Prop} (h : Cov m l P) (g : Cov m l2 P') : Cov m (l ++ l2) fun c e => P c e ∨ P' c e :=
  ⟨fun x hx => (List.mem_append.mp hx).elim (h.1 x) (g.1 x), fun a b c e h1 h2 h3 => List.mem_append.mpr (h3.imp (h.2 a b c e h1 h2) (g.2 a b c e h1 h2))⟩
theorem Cov.nil {m : Int} : Cov m [] fun _ _ => False := ⟨fun x hx => (by cases hx), fun _ _ _ _ _ _ h => h.elim⟩
theorem meas_bc {b c e m : Int} : meas4 b c e = m ↔ 4 * (b * c) = m - e * e := by
  unfold meas4
  rw [Int.mul_assoc]
  omega
/-! ### k28's own lists -/
/-! every deed leads somewhere -/
theorem bez_ex : ∀ (k : Nat) (m n : Int), n.natAbs ≤ k → ∃ u v : Int, u * m + v * n = (Int.gcd m n : Int)
  | 0, m, n, h => by
    have : n = 0 := by omega
    subst this
    rw [Int.gcd_zero_right]
    rcases (by omega : 0 ≤ m ∨ m ≤ 0) with h | h
    · exact ⟨1, 0, by omega⟩
    · exact ⟨-1, 0, by omega⟩
  | k + 1, m, n, h => by
    by_cases z : n = 0
    · subst z
      exact bez_ex k m 0 (by simp)
    · have r0 := Int.emod_nonneg m z
      have r1 := Int.emod_lt m z
      obtain ⟨u, v, e⟩ := bez_ex k n (m % n) (by omega)
      have eg : (Int.gcd n (m % n) : Int) = Int.gcd m n := gcd_emod' m n
      rw [eg] at e
      have em := Int.mul_ediv_add_emod m n
      refine ⟨v, u - v * (m / n), ?_⟩
      have : v * m + (u - v * (m / n)) * n = u * n + v * (m - n * (m / n)) := by grind
      rw [this, ← e]
      have : m - n * (m / n) = m % n := by omega
      rw [this]
theorem done_ex {a b c e p q : Int} (hc : 1 ≤ c) (hq : 1 ≤ q) (cp : Int.gcd p q = 1) : ∃ a' w g e', IsDone a b c e p q a' w g e' := by
  obtain ⟨z, y, hz⟩ := bez_ex q.natAbs p q (Nat.le_refl _)
  rw [cp] at hz
  have row : p * z - q * (-y) = 1 := by
    have : p * z - q * (-y) = z * p + y * q := by grind
    rw [this]; exact hz
  obtain ⟨u, v, huv⟩ := bez_ex (q * c).natAbs (p * b + q * a) (q * c) (Nat.le_refl _)
  have j0 : 0 < q * c := Int.mul_pos (by omega) (by omega)
  have g0 : 0 < (Int.gcd (p * b + q * a) (q * c) : Int) := by
    have := Int.gcd_pos_of_ne_zero_right (p * b + q * a) (show q * c ≠ 0 by omega)
    omega
  have dg : (Int.gcd (p * b + q * a) (q * c) : Int) ∣ c * (b - q * e - q * q * c) := by
    have h1 : c * (b - q * e - q * q * c) = (p * b + q * a) * (z * c) - (q * c) * ((-y) * b + z * a + e + q * c) := by
      have : (p * b + q * a) * (z * c) - (q * c) * ((-y) * b + z * a + e + q * c) = c * (b * (p * z - q * (-y)) - q * e - q * q * c) := by grind
      rw [this, row, Int.mul_one]
    rw [h1]
    exact Int.dvd_sub (Int.dvd_mul_of_dvd_left (Int.gcd_dvd_left _ _)) (Int.dvd_mul_of_dvd_left (Int.gcd_dvd_right _ _))
  obtain ⟨w, hw⟩ := dg
  have G0 : 0 < (Int.gcd w (Int.gcd (p * b + q * a) (q * c) : Int) : Int) := by
    have := Int.gcd_pos_of_ne_zero_right w (show (Int.gcd (p * b + q * a) (q * c) : Int) ≠ 0 by omega)
    omega
  refine ⟨_, w, _, _, rfl, by rw [hw, Int.mul_comm], rfl, Int.emod_nonneg (0 - (u * ((-y) * b + z * a + e + q * c) + v * (z * c))) (by omega), Int.emod_lt_of_pos _ G0, u, v, -y, z, row, huv, ?_⟩
  have := Int.mul_ediv_add_emod (0 - (u * ((-y) * b + z * a + e + q * c) + v * (z * c))) (Int.gcd w (Int.gcd (p * b + q * a) (q * c) : Int) : Int)
  refine ⟨-((0 - (u * ((-y) * b + z * a + e + q * c) + v * (z * c))) / (Int.gcd w (Int.gcd (p * b + q * a) (q * c) : Int) : Int)), ?_⟩
  rw [Int.mul_neg]
  omega
/-! where a deed leads, as a function -/
theorem isDeed_parts {b c e p q : Int} (h : isDeed b c e p q = true) : DeedQ b c e p q ∧ p < q * (c / (Int.gcd b c : Int)) := by
  simp only [isDeed, Bool.and_eq_true, decide_eq_true_eq, beq_iff_eq] at h
  obtain ⟨h1, h2, h3, h4, h5⟩ := h
  exact ⟨⟨h1, h2, h3, by omega⟩, h4⟩
end DL
namespace DL
open PySem PySem.Spec PyProof.Rows L2
local macro_rules | `(tactic| walk_at "rd") => `(tactic| simp only [startD, List.map, List.replicate, List.length_cons, List.length_nil, List.append_eq, List.append_nil, List.nil_append, List.cons_append, Nat.reduceSub, Nat.reduceAdd, List.getElem?_cons_zero, List.getElem?_cons_succ, List.set_cons_zero, List.set_cons_succ,
  dC, dVar, dOp, dTru, gTru, tru, dChain, dAnd, dOr, dNot, dAndV, dOrV, dNotV, dIf, dNeg, gNeg, dNil, dCons, dTup, dLst, dOwn, gIx, rBin, gAdd, gCmpI, dCall, dCallK, dSeq, dNext, dDrop, dRet, dRetN, dIfS, dName, dGNil, dGCons, dGTup, dSub, gSetL, dAsg, dPar, dPar3, dAug, gIpI, dSeqI, gSeqI, dRngI, gRng1, gRng2, dCB, gAbs, gInt, gMax, gMin, gGcd, gLen, lenD, gIsi, tyM, tyD, dBits, gBits, dMet, gAppend, dPart, dNoPart, dSl, gSl_tup, gSl_lst, cut_1, dEnds, gIs, isB, dNever, dFor, dLc, wipeD, dYes,
  sizeLine_eq, Nat.reduceLeDiff, gEq_int, gNe_int, gEq_strs, gNe_strs, gIn_two, gRepr_bl, rs_lst, rs_tup, rs_scr, rs_int, atI_0, atI_1, atI_2, atI_3, atI_4, atI_5, ixN_30, ixN_31, ixN_32, gEq_bl, gNe_bl, decide_eq_true_eq, beq_iff_eq, Bool.not_eq_true', beq_eq_false_iff_ne, decide_eq_false_iff_not, Bool.not_true, Bool.not_false, if_true, if_false, Bool.false_eq_true, ite_true, ite_false, true_and, and_true, ne_eq, Bool.bne_false, Bool.bne_true, reduceCtorEq])
local macro_rules | `(tactic| walk_at "rh") => `(tactic| simp only [*, startD, List.map, List.replicate, List.length_cons, List.length_nil, List.append_eq, List.append_nil, List.nil_append, List.cons_append, Nat.reduceSub, Nat.reduceAdd, List.getElem?_cons_zero, List.getElem?_cons_succ, List.set_cons_zero, List.set_cons_succ,
  dC, dVar, dOp, dTru, gTru, tru, dChain, dAnd, dOr, dNot, dAndV, dOrV, dNotV, dIf, dNeg, gNeg, dNil, dCons, dTup, dLst, dOwn, gIx, rBin, gAdd, gCmpI, dCall, dCallK, dSeq, dNext, dDrop, dRet, dRetN, dIfS, dName, dGNil, dGCons, dGTup, dSub, gSetL, dAsg, dPar, dPar3, dAug, gIpI, dSeqI, gSeqI, dRngI, gRng1, gRng2, dCB, gAbs, gInt, gMax, gMin, gGcd, gLen, lenD, gIsi, tyM, tyD, dBits, gBits, dMet, gAppend, dPart, dNoPart, dSl, gSl_tup, gSl_lst, cut_1, dEnds, gIs, isB, dNever, dFor, dLc, wipeD, dYes,
  sizeLine_eq, Nat.reduceLeDiff, gEq_int, gNe_int, gEq_strs, gNe_strs, gIn_two, gRepr_bl, rs_lst, rs_tup, rs_scr, rs_int, atI_0, atI_1, atI_2, atI_3, atI_4, atI_5, ixN_30, ixN_31, ixN_32, gEq_bl, gNe_bl, decide_eq_true_eq, beq_iff_eq, Bool.not_eq_true', beq_eq_false_iff_ne, decide_eq_false_iff_not, Bool.not_true, Bool.not_false, if_true, if_false, Bool.false_eq_true, ite_true, ite_false, true_and, and_true, ne_eq, Bool.bne_false, Bool.bne_true, reduceCtorEq])
local macro_rules | `(tactic| walk_at "kb") => `(tactic| simp only [kb_NoneType_list, kb_bool_list, kb_int_list, kb_str_list, kb_tuple_list, kb_list_list, kb_dict_list, kb_NoneType_int, kb_bool_int, kb_int_int, kb_str_int, kb_tuple_int, kb_list_int, kb_dict_int, kb_NoneType_bool, kb_bool_bool, kb_int_bool, kb_str_bool, kb_tuple_bool, kb_list_bool, kb_dict_bool, kb_NoneType_tuple, kb_bool_tuple, kb_int_tuple, kb_str_tuple, kb_tuple_tuple, kb_list_tuple, kb_dict_tuple, if_true, if_false, Bool.false_eq_true, ite_true, ite_false, Bool.not_true, Bool.not_false])
/-! ### cells are only added -/
def Plus (M M' : Mem) : Prop := ∃ G, M' = M ++ G ∧ ∀ c ∈ G, ∀ n, belowO n c = true
theorem Plus.refl (M : Mem) : Plus M M := ⟨[], (List.append_nil M).symm, fun c h => (by cases h)⟩
theorem Plus.trans {M M' M'' : Mem} (h : Plus M M') (g : Plus M' M'') : Plus M M'' := by
  obtain ⟨G, rfl, h1⟩ := h
  obtain ⟨G', rfl, h2⟩ := g
  exact ⟨G ++ G', List.append_assoc _ _ _, fun c hc => (List.mem_append.mp hc).elim (h1 c) (h2 c)⟩
theorem Plus.add {M M' : Mem} {l : List D} (h : Plus M M') (hl : ∀ n, belowAll n l = true) : Plus M (M' ++ [.lst l]) :=
  h.trans ⟨[.lst l], rfl, fun c hc n => by rw [List.mem_singleton.mp hc]; exact hl n⟩
theorem Plus.get {M M' : Mem} (h : Plus M M') {i : Nat} (hi : i < M.length) : M'[i]? = M[i]? := by
  obtain ⟨G, rfl, _⟩ := h
  exact List.getElem?_append_left hi
theorem Plus.len {M M' : Mem} (h : Plus M M') : M.length ≤ M'.length := by
  obtain ⟨G, rfl, _⟩ := h
  rw [List.length_append]; omega
theorem Plus.rtq {M M' : Mem} {Q : DQ} {d : D} (h : Plus M M') (q : Q d M') (hb : below M'.length d = true := by rfl) : Rtq M Q d M' := by
  refine rtqC q h.len hb fun i c hc => ?_
  obtain ⟨G, rfl, h1⟩ := h
  by_cases hi : i < M.length
  · rw [List.getElem?_append_left hi] at hc
    exact .inl hc
  · rw [List.getElem?_append_right (by omega)] at hc
    exact .inr (h1 c (List.mem_of_getElem? hc) _)
/-- the new cells are let go -/
theorem Plus.drop {M M' : Mem} {Q : DQ} {d : D} (h : Plus M M') (q : Q d M) (hb : below M.length d = true := by rfl) : Rtq M Q d M' := by
  obtain ⟨G, rfl, _⟩ := h
  exact rtqG q hb
theorem Plus.set {M M' : Mem} {k : Nat} {l : List D} (h : Plus M M') (hk : M.length ≤ k) (hl : ∀ n, belowAll n l = true) : Plus M (M'.set k (.lst l)) := by
  obtain ⟨G, rfl, h1⟩ := h
  refine ⟨G.set (k - M.length) (.lst l), ?_, fun c hc n => ?_⟩
  · rw [List.set_append_right _ _ hk]
  · rcases List.mem_or_eq_of_mem_set hc with hc | rfl
    · exact h1 c hc n
    · exact hl n
/-! ### the way to the heart, as a list of the caller's -/
/-! ### k28 -/
theorem near_uniq {a b c e p p2 : Int} (h : isCut a b c e = true) (h1 : IsNear a b c e p) (h2 : IsNear a b c e p2) (k1 : 0 ≤ p) (k2 : 0 ≤ p2) : p = p2 := by
  have key : ∀ x y : Int, IsNear a b c e x → IsNear a b c e y → 0 ≤ x → x < y → False := by
    intro x y hx hy x0 xy
    obtain ⟨a', w, g, e', hd⟩ := done_ex (a := a) (b := b) (e := e) (p := x) (cut_parts h).2.1 (Int.le_refl 1) (deedq_one h x0).cp
    have := hx.1 _ _ _ _ hd
    have := hy.2 x x0 xy _ _ _ _ hd
    omega
  rcases (by omega : p = p2 ∨ p < p2 ∨ p2 < p) with z | z | z
  · exact z
  · exact (key p p2 h1 h2 k1 z).elim
  · exact (key p2 p h2 h1 k2 z).elim
theorem HWay.uniq : ∀ {ps ps2 : List Int} {a b c e a1 b1 c1 e1 a2 b2 c2 e2 : Int}, isCut a b c e = true → HWay ps a b c e a1 b1 c1 e1 → HWay ps2 a b c e a2 b2 c2 e2 → ps.length = ps2.length → ps = ps2
  | [], [], _, _, _, _, _, _, _, _, _, _, _, _, _, _, _, _ => rfl
  | [], _ :: _, _, _, _, _, _, _, _, _, _, _, _, _, _, _, _, h => by cases h
  | _ :: _, [], _, _, _, _, _, _, _, _, _, _, _, _, _, _, _, h => by cases h
  | p :: ps, p2 :: ps2, _, _, _, _, _, _, _, _, _, _, _, _, hc, ⟨x1, x2, x3, x4, u0, u1, u2, u3, u4⟩, ⟨y1, y2, y3, y4, v0, v1, v2, v3, v4⟩, h => by
    have ep := near_uniq hc u4 v4 u0 v0
    subst ep
    have hg := done_g (cut_parts hc).2.1 (Int.le_refl 1) u2
    obtain ⟨rfl, rfl, rfl, rfl⟩ := isDone_unique (by omega) u2 v2
    rw [HWay.uniq (done_one hc u0 u2).1 u3 v3 (by simpa using h)]
end DL
namespace DL
open PySem PySem.Spec PyProof.Rows L2
local macro_rules | `(tactic| walk_at "rd") => `(tactic| simp only [startD, List.map, List.replicate, List.length_cons, List.length_nil, List.append_eq, List.append_nil, List.nil_append, List.cons_append, Nat.reduceSub, Nat.reduceAdd, List.getElem?_cons_zero, List.getElem?_cons_succ, List.set_cons_zero, List.set_cons_succ,
  dC, dVar, dOp, dTru, gTru, tru, dChain, dAnd, dOr, dNot, dAndV, dOrV, dNotV, dIf, dNeg, gNeg, dNil, dCons, dTup, dLst, dOwn, gIx, rBin, gAdd, gCmpI, dCall, dCallK, dSeq, dNext, dDrop, dRet, dRetN, dIfS, dName, dGNil, dGCons, dGTup, dSub, gSetL, dAsg, dPar, dPar3, dAug, gIpI, dSeqI, gSeqI, dRngI, gRng1, gRng2, dCB, gAbs, gInt, gMax, gMin, gGcd, gLen, lenD, gIsi, tyM, tyD, dBits, gBits, dMet, gAppend, dPart, dNoPart, dSl, gSl_tup, gSl_lst, cut_1, dEnds, gIs, isB, dNever, dFor, dLc, wipeD, dYes,
  sizeLine_eq, Nat.reduceLeDiff, gEq_int, gNe_int, gEq_strs, gNe_strs, gIn_two, gRepr_bl, rs_lst, rs_tup, rs_scr, rs_int, atI_0, atI_1, atI_2, atI_3, atI_4, atI_5, ixN_30, ixN_31, ixN_32, gEq_bl, gNe_bl, decide_eq_true_eq, beq_iff_eq, Bool.not_eq_true', beq_eq_false_iff_ne, decide_eq_false_iff_not, Bool.not_true, Bool.not_false, if_true, if_false, Bool.false_eq_true, ite_true, ite_false, true_and, and_true, ne_eq, Bool.bne_false, Bool.bne_true, reduceCtorEq])
local macro_rules | `(tactic| walk_at "rh") => `(tactic| simp only [*, startD, List.map, List.replicate, List.length_cons, List.length_nil, List.append_eq, List.append_nil, List.nil_append, List.cons_append, Nat.reduceSub, Nat.reduceAdd, List.getElem?_cons_zero, List.getElem?_cons_succ, List.set_cons_zero, List.set_cons_succ,
  dC, dVar, dOp, dTru, gTru, tru, dChain, dAnd, dOr, dNot, dAndV, dOrV, dNotV, dIf, dNeg, gNeg, dNil, dCons, dTup, dLst, dOwn, gIx, rBin, gAdd, gCmpI, dCall, dCallK, dSeq, dNext, dDrop, dRet, dRetN, dIfS, dName, dGNil, dGCons, dGTup, dSub, gSetL, dAsg, dPar, dPar3, dAug, gIpI, dSeqI, gSeqI, dRngI, gRng1, gRng2, dCB, gAbs, gInt, gMax, gMin, gGcd, gLen, lenD, gIsi, tyM, tyD, dBits, gBits, dMet, gAppend, dPart, dNoPart, dSl, gSl_tup, gSl_lst, cut_1, dEnds, gIs, isB, dNever, dFor, dLc, wipeD, dYes,
  sizeLine_eq, Nat.reduceLeDiff, gEq_int, gNe_int, gEq_strs, gNe_strs, gIn_two, gRepr_bl, rs_lst, rs_tup, rs_scr, rs_int, atI_0, atI_1, atI_2, atI_3, atI_4, atI_5, ixN_30, ixN_31, ixN_32, gEq_bl, gNe_bl, decide_eq_true_eq, beq_iff_eq, Bool.not_eq_true', beq_eq_false_iff_ne, decide_eq_false_iff_not, Bool.not_true, Bool.not_false, if_true, if_false, Bool.false_eq_true, ite_true, ite_false, true_and, and_true, ne_eq, Bool.bne_false, Bool.bne_true, reduceCtorEq])
local macro_rules | `(tactic| walk_at "kb") => `(tactic| simp only [kb_NoneType_list, kb_bool_list, kb_int_list, kb_str_list, kb_tuple_list, kb_list_list, kb_dict_list, kb_NoneType_int, kb_bool_int, kb_int_int, kb_str_int, kb_tuple_int, kb_list_int, kb_dict_int, kb_NoneType_bool, kb_bool_bool, kb_int_bool, kb_str_bool, kb_tuple_bool, kb_list_bool, kb_dict_bool, kb_NoneType_tuple, kb_bool_tuple, kb_int_tuple, kb_str_tuple, kb_tuple_tuple, kb_list_tuple, kb_dict_tuple, if_true, if_false, Bool.false_eq_true, ite_true, ite_false, Bool.not_true, Bool.not_false])
/-! ### sorted lists of tuples of ints -/
abbrev LSorted (l : List (List Int)) : Prop := l.Pairwise fun x y => lexL y x = false
theorem sorted_uniq : ∀ {l1 l2 : List (List Int)}, l1.Perm l2 → LSorted l1 → LSorted l2 → l1 = l2
  | [], l2, h, _, _ => (List.Perm.eq_nil h.symm).symm
  | x :: l1, [], h, _, _ => absurd h.length_eq (by simp)
  | x :: l1, y :: l2, h, s1, s2 => by
    have h1 := List.pairwise_cons.mp s1
    have h2 := List.pairwise_cons.mp s2
    have e : x = y := by
      rcases List.mem_cons.mp (h.mem_iff.mp (List.mem_cons_self (a := x) (l := l1))) with e | hx
      · exact e
      · rcases List.mem_cons.mp (h.mem_iff.mpr (List.mem_cons_self (a := y) (l := l2))) with e | hy
        · exact e.symm
        · exact lexL_conn x y (h2.1 x hx) (h1.1 y hy)
    subst e
    rw [sorted_uniq h.cons_inv h1.2 h2.2]
theorem nodup_perm {α : Type} {l1 l2 : List α} (h1 : l1.Nodup) (h2 : l2.Nodup) (h : ∀ x, x ∈ l1 ↔ x ∈ l2) : l1.Perm l2 := (List.perm_ext_iff_of_nodup h1 h2).mpr h
theorem sorted_one {l1 l2 : List (List Int)} (h1 : l1.Nodup) (h2 : l2.Nodup) (h : ∀ x, x ∈ l1 ↔ x ∈ l2) (s1 : LSorted l1) (s2 : LSorted l2) : l1 = l2 := sorted_uniq (nodup_perm h1 h2 h) s1 s2
/-! ### all cuttings of a measure, each once -/
def CovX (m : Int) (l : List (List Int)) (P : Int → Int → Prop) : Prop := l.Nodup ∧ ∀ x, x ∈ l ↔ ∃ a b c e, x = [a, b, c, e] ∧ isCut a b c e = true ∧ meas4 b c e = m ∧ P c e
theorem CovX.nil {m : Int} {P : Int → Int → Prop} (h : ∀ a b c e, isCut a b c e = true → meas4 b c e = m → ¬ P c e) : CovX m [] P :=
  ⟨List.nodup_nil, fun x => ⟨fun h => (by cases h), by rintro ⟨a, b, c, e, rfl, h1, h2, h3⟩; exact (h a b c e h1 h2 h3).elim⟩⟩
theorem CovX.iff {m : Int} {l : List (List Int)} {P P' : Int → Int → Prop} (h : CovX m l P) (w : ∀ a b c e, isCut a b c e = true → meas4 b c e = m → (P' c e ↔ P c e)) : CovX m l P' := by
  refine ⟨h.1, fun x => (h.2 x).trans ?_⟩
  constructor
  · rintro ⟨a, b, c, e, rfl, h1, h2, h3⟩; exact ⟨a, b, c, e, rfl, h1, h2, (w a b c e h1 h2).mpr h3⟩
  · rintro ⟨a, b, c, e, rfl, h1, h2, h3⟩; exact ⟨a, b, c, e, rfl, h1, h2, (w a b c e h1 h2).mp h3⟩
theorem CovX.app {m : Int} {l l2 : List (List Int)} {P P' : Int → Int → Prop} (h : CovX m l P) (g : CovX m l2 P') (w : ∀ c e, P c e → P' c e → False) : CovX m (l ++ l2) fun c e => P c e ∨ P' c e := by
  refine ⟨List.nodup_append.mpr ⟨h.1, g.1, fun x hx y hy e => ?_⟩, fun x => ?_⟩
  · subst e
    obtain ⟨a, b, c, e, rfl, _, _, h3⟩ := (h.2 x).mp hx
    obtain ⟨a', b', c', e', h4, _, _, h5⟩ := (g.2 _).mp hy
    cases h4
    exact w c e h3 h5
  · rw [List.mem_append, h.2, g.2]
    constructor
    · rintro (⟨a, b, c, e, rfl, h1, h2, h3⟩ | ⟨a, b, c, e, rfl, h1, h2, h3⟩)
      · exact ⟨a, b, c, e, rfl, h1, h2, .inl h3⟩
      · exact ⟨a, b, c, e, rfl, h1, h2, .inr h3⟩
    · rintro ⟨a, b, c, e, rfl, h1, h2, h3 | h3⟩
      · exact .inl ⟨a, b, c, e, rfl, h1, h2, h3⟩
      · exact .inr ⟨a, b, c, e, rfl, h1, h2, h3⟩
/-- the whole of them, sorted -/
structure AllC (m : Int) (l : List (List Int)) : Prop where
  nd : l.Nodup
  mem : ∀ x, x ∈ l ↔ IsC m x
  srt : LSorted l
  len : l.length ≤ 10000000
theorem AllC.of {m : Int} {l l' : List (List Int)} {P : Int → Int → Prop} (h : CovX m l P) (w : ∀ a b c e, isCut a b c e = true → meas4 b c e = m → P c e) (hl : l.length ≤ 10000000) (pm : l'.Perm l) (sd : LSorted l') : AllC m l' := by
  refine ⟨(pm.nodup_iff).mpr h.1, fun x => ?_, sd, by rw [pm.length_eq]; exact hl⟩
  rw [pm.mem_iff, h.2]
  constructor
  · rintro ⟨a, b, c, e, rfl, h1, h2, _⟩; exact ⟨a, b, c, e, rfl, h1, h2⟩
  · rintro ⟨a, b, c, e, rfl, h1, h2⟩; exact ⟨a, b, c, e, rfl, h1, h2, w a b c e h1 h2⟩
theorem AllC.uniq {m : Int} {l l' : List (List Int)} (h : AllC m l) (g : AllC m l') : l = l' := sorted_one h.nd g.nd (fun x => (h.mem x).trans (g.mem x).symm) h.srt g.srt
/-! ### the functions of k13 to k16 -/
end DL
namespace DL
open PySem PySem.Spec PyProof.Rows L2
local macro_rules | `(tactic| walk_at "rd") => `(tactic| simp only [startD, List.map, List.replicate, List.length_cons, List.length_nil, List.append_eq, List.append_nil, List.nil_append, List.cons_append, Nat.reduceSub, Nat.reduceAdd, List.getElem?_cons_zero, List.getElem?_cons_succ, List.set_cons_zero, List.set_cons_succ,
  dC, dVar, dOp, dTru, gTru, tru, dChain, dAnd, dOr, dNot, dAndV, dOrV, dNotV, dIf, dNeg, gNeg, dNil, dCons, dTup, dLst, dOwn, gIx, rBin, gAdd, gCmpI, dCall, dCallK, dSeq, dNext, dDrop, dRet, dRetN, dIfS, dName, dGNil, dGCons, dGTup, dSub, gSetL, dAsg, dPar, dPar3, dAug, gIpI, dSeqI, gSeqI, dRngI, gRng1, gRng2, dCB, gAbs, gInt, gMax, gMin, gGcd, gLen, lenD, gIsi, tyM, tyD, dBits, gBits, dMet, gAppend, dPart, dNoPart, dSl, gSl_tup, gSl_lst, cut_1, dEnds, gIs, isB, dNever, dFor, dLc, wipeD, dYes,
  sizeLine_eq, Nat.reduceLeDiff, gEq_int, gNe_int, gEq_strs, gNe_strs, gIn_two, gRepr_bl, rs_lst, rs_tup, rs_scr, rs_int, atI_0, atI_1, atI_2, atI_3, atI_4, atI_5, ixN_30, ixN_31, ixN_32, gEq_bl, gNe_bl, decide_eq_true_eq, beq_iff_eq, Bool.not_eq_true', beq_eq_false_iff_ne, decide_eq_false_iff_not, Bool.not_true, Bool.not_false, if_true, if_false, Bool.false_eq_true, ite_true, ite_false, true_and, and_true, ne_eq, Bool.bne_false, Bool.bne_true, reduceCtorEq])
local macro_rules | `(tactic| walk_at "rh") => `(tactic| simp only [*, startD, List.map, List.replicate, List.length_cons, List.length_nil, List.append_eq, List.append_nil, List.nil_append, List.cons_append, Nat.reduceSub, Nat.reduceAdd, List.getElem?_cons_zero, List.getElem?_cons_succ, List.set_cons_zero, List.set_cons_succ,
  dC, dVar, dOp, dTru, gTru, tru, dChain, dAnd, dOr, dNot, dAndV, dOrV, dNotV, dIf, dNeg, gNeg, dNil, dCons, dTup, dLst, dOwn, gIx, rBin, gAdd, gCmpI, dCall, dCallK, dSeq, dNext, dDrop, dRet, dRetN, dIfS, dName, dGNil, dGCons, dGTup, dSub, gSetL, dAsg, dPar, dPar3, dAug, gIpI, dSeqI, gSeqI, dRngI, gRng1, gRng2, dCB, gAbs, gInt, gMax, gMin, gGcd, gLen, lenD, gIsi, tyM, tyD, dBits, gBits, dMet, gAppend, dPart, dNoPart, dSl, gSl_tup, gSl_lst, cut_1, dEnds, gIs, isB, dNever, dFor, dLc, wipeD, dYes,
  sizeLine_eq, Nat.reduceLeDiff, gEq_int, gNe_int, gEq_strs, gNe_strs, gIn_two, gRepr_bl, rs_lst, rs_tup, rs_scr, rs_int, atI_0, atI_1, atI_2, atI_3, atI_4, atI_5, ixN_30, ixN_31, ixN_32, gEq_bl, gNe_bl, decide_eq_true_eq, beq_iff_eq, Bool.not_eq_true', beq_eq_false_iff_ne, decide_eq_false_iff_not, Bool.not_true, Bool.not_false, if_true, if_false, Bool.false_eq_true, ite_true, ite_false, true_and, and_true, ne_eq, Bool.bne_false, Bool.bne_true, reduceCtorEq])
local macro_rules | `(tactic| walk_at "kb") => `(tactic| simp only [kb_NoneType_list, kb_bool_list, kb_int_list, kb_str_list, kb_tuple_list, kb_list_list, kb_dict_list, kb_NoneType_int, kb_bool_int, kb_int_int, kb_str_int, kb_tuple_int, kb_list_int, kb_dict_int, kb_NoneType_bool, kb_bool_bool, kb_int_bool, kb_str_bool, kb_tuple_bool, kb_list_bool, kb_dict_bool, kb_NoneType_tuple, kb_bool_tuple, kb_int_tuple, kb_str_tuple, kb_tuple_tuple, kb_list_tuple, kb_dict_tuple, if_true, if_false, Bool.false_eq_true, ite_true, ite_false, Bool.not_true, Bool.not_false])
/-! ### a drawn cutting of a small measure -/
/-! ### all deeds of a cutting -/
theorem allowed_mono {b c e q q' : Int} (hb : 1 ≤ b) (hc : 1 ≤ c) (h1 : 1 ≤ q) (h2 : q ≤ q') (h : 0 < b - q' * e - q' * q' * c) : 0 < b - q * e - q * q * c := by
  have e1 : q' * (b - q * e - q * q * c) = q * (b - q' * e - q' * q' * c) + (q' - q) * b + q * q' * (q' - q) * c := by grind
  have p1 : 0 < q * (b - q' * e - q' * q' * c) := Int.mul_pos (by omega) h
  have p2 : 0 ≤ (q' - q) * b := Int.mul_nonneg (by omega) (by omega)
  have p3 : 0 ≤ q * q' * (q' - q) * c := Int.mul_nonneg (Int.mul_nonneg (Int.mul_nonneg (by omega) (by omega)) (by omega)) (by omega)
  by_cases z : 0 < b - q * e - q * q * c
  · exact z
  · have : q' * (b - q * e - q * q * c) ≤ 0 := Int.mul_nonpos_of_nonneg_of_nonpos (by omega) (by omega)
    omega
def CovD (b c e : Int) (l : List (List Int)) (k : Int) : Prop := l.Nodup ∧ ∀ x, x ∈ l ↔ ∃ p q, x = [p, q] ∧ isDeed b c e p q = true ∧ q < k
structure AllD (b c e : Int) (l : List (List Int)) : Prop where
  nd : l.Nodup
  mem : ∀ x, x ∈ l ↔ ∃ p q, x = [p, q] ∧ isDeed b c e p q = true
  srt : LSorted l
  len : l.length ≤ 10000000
theorem AllD.uniq {b c e : Int} {l l' : List (List Int)} (h : AllD b c e l) (g : AllD b c e l') : l = l' := sorted_one h.nd g.nd (fun x => (h.mem x).trans (g.mem x).symm) h.srt g.srt
theorem AllD.of {b c e k : Int} {l l' : List (List Int)} (hb : 1 ≤ b) (hc : 1 ≤ c) (hk : 1 ≤ k) (h : CovD b c e l k) (hn : ¬ 0 < b - k * e - k * k * c) (hl : l.length ≤ 10000000) (pm : l'.Perm l) (sd : LSorted l') : AllD b c e l' := by
  refine ⟨(pm.nodup_iff).mpr h.1, fun x => ?_, sd, by rw [pm.length_eq]; exact hl⟩
  rw [pm.mem_iff, h.2]
  constructor
  · rintro ⟨p, q, rfl, h1, _⟩; exact ⟨p, q, rfl, h1⟩
  · rintro ⟨p, q, rfl, h1⟩
    refine ⟨p, q, rfl, h1, ?_⟩
    by_cases z : q < k
    · exact z
    · exact (hn (allowed_mono hb hc hk (by omega) (isDeed_parts h1).1.al)).elim
/-! ### deeds judged -/
theorem len2 {l : List D} (h : l.length = 2) : ∃ a b, l = [a, b] := by
  match l, h with
  | [a, b], _ => exact ⟨a, b, rfl⟩
/-! ### columns led down -/
end DL
namespace DL
open PySem PySem.Spec PyProof.Rows L2
local macro_rules | `(tactic| walk_at "rd") => `(tactic| simp only [startD, List.map, List.replicate, List.length_cons, List.length_nil, List.append_eq, List.append_nil, List.nil_append, List.cons_append, Nat.reduceSub, Nat.reduceAdd, List.getElem?_cons_zero, List.getElem?_cons_succ, List.set_cons_zero, List.set_cons_succ,
  dC, dVar, dOp, dTru, gTru, tru, dChain, dAnd, dOr, dNot, dAndV, dOrV, dNotV, dIf, dNeg, gNeg, dNil, dCons, dTup, dLst, dOwn, gIx, rBin, gAdd, gCmpI, dCall, dCallK, dSeq, dNext, dDrop, dRet, dRetN, dIfS, dName, dGNil, dGCons, dGTup, dSub, gSetL, dAsg, dPar, dPar3, dAug, gIpI, dSeqI, gSeqI, dRngI, gRng1, gRng2, dCB, gAbs, gInt, gMax, gMin, gGcd, gLen, lenD, gIsi, tyM, tyD, dBits, gBits, dMet, gAppend, dPart, dNoPart, dSl, gSl_tup, gSl_lst, cut_1, dEnds, gIs, isB, dNever, dFor, dLc, wipeD, dYes,
  sizeLine_eq, Nat.reduceLeDiff, gEq_int, gNe_int, gEq_strs, gNe_strs, gIn_two, gRepr_bl, rs_lst, rs_tup, rs_scr, rs_int, atI_0, atI_1, atI_2, atI_3, atI_4, atI_5, ixN_30, ixN_31, ixN_32, gEq_bl, gNe_bl, decide_eq_true_eq, beq_iff_eq, Bool.not_eq_true', beq_eq_false_iff_ne, decide_eq_false_iff_not, Bool.not_true, Bool.not_false, if_true, if_false, Bool.false_eq_true, ite_true, ite_false, true_and, and_true, ne_eq, Bool.bne_false, Bool.bne_true, reduceCtorEq])
local macro_rules | `(tactic| walk_at "rh") => `(tactic| simp only [*, startD, List.map, List.replicate, List.length_cons, List.length_nil, List.append_eq, List.append_nil, List.nil_append, List.cons_append, Nat.reduceSub, Nat.reduceAdd, List.getElem?_cons_zero, List.getElem?_cons_succ, List.set_cons_zero, List.set_cons_succ,
  dC, dVar, dOp, dTru, gTru, tru, dChain, dAnd, dOr, dNot, dAndV, dOrV, dNotV, dIf, dNeg, gNeg, dNil, dCons, dTup, dLst, dOwn, gIx, rBin, gAdd, gCmpI, dCall, dCallK, dSeq, dNext, dDrop, dRet, dRetN, dIfS, dName, dGNil, dGCons, dGTup, dSub, gSetL, dAsg, dPar, dPar3, dAug, gIpI, dSeqI, gSeqI, dRngI, gRng1, gRng2, dCB, gAbs, gInt, gMax, gMin, gGcd, gLen, lenD, gIsi, tyM, tyD, dBits, gBits, dMet, gAppend, dPart, dNoPart, dSl, gSl_tup, gSl_lst, cut_1, dEnds, gIs, isB, dNever, dFor, dLc, wipeD, dYes,
  sizeLine_eq, Nat.reduceLeDiff, gEq_int, gNe_int, gEq_strs, gNe_strs, gIn_two, gRepr_bl, rs_lst, rs_tup, rs_scr, rs_int, atI_0, atI_1, atI_2, atI_3, atI_4, atI_5, ixN_30, ixN_31, ixN_32, gEq_bl, gNe_bl, decide_eq_true_eq, beq_iff_eq, Bool.not_eq_true', beq_eq_false_iff_ne, decide_eq_false_iff_not, Bool.not_true, Bool.not_false, if_true, if_false, Bool.false_eq_true, ite_true, ite_false, true_and, and_true, ne_eq, Bool.bne_false, Bool.bne_true, reduceCtorEq])
local macro_rules | `(tactic| walk_at "kb") => `(tactic| simp only [kb_NoneType_list, kb_bool_list, kb_int_list, kb_str_list, kb_tuple_list, kb_list_list, kb_dict_list, kb_NoneType_int, kb_bool_int, kb_int_int, kb_str_int, kb_tuple_int, kb_list_int, kb_dict_int, kb_NoneType_bool, kb_bool_bool, kb_int_bool, kb_str_bool, kb_tuple_bool, kb_list_bool, kb_dict_bool, kb_NoneType_tuple, kb_bool_tuple, kb_int_tuple, kb_str_tuple, kb_tuple_tuple, kb_list_tuple, kb_dict_tuple, if_true, if_false, Bool.false_eq_true, ite_true, ite_false, Bool.not_true, Bool.not_false])
/-! ### columns of a deed's table, led down -/
/-! ### x in l -/
theorem done_of {a b c e p q a' w g e' : Int} (h : isCut a b c e = true) (hd : isDeed b c e p q = true) (hdn : IsDone a b c e p q a' w g e') : isCut a' w g e' = true ∧ meas4 w g e' = meas4 b c e ∧ 0 < g :=
  have hp := (isDeed_parts hd).1
  let ⟨h1, h2⟩ := done_cut h hp.q1 hp.al hdn
  ⟨h1, h2, done_g (cut_parts h).2.1 hp.q1 hdn⟩
end DL
/-! MF: the deed that leads back; plain -/
namespace DL
theorem wide_of {a b c e p q w g x z : Int} (hw : w * g = c * (b - q * e - q * q * c)) (hr : p * z - q * x = 1) : (p * b + q * a) * (z * c) - (q * c) * (x * b + z * a + e + q * c) = w * g := by
  have h1 : (p * b + q * a) * (z * c) - (q * c) * (x * b + z * a + e + q * c) = c * (b * (p * z - q * x) - q * e - q * q * c) := by grind
  rw [h1, hr, Int.mul_one, hw]
end DL
namespace DL
open PySem PySem.Spec PyProof.Rows L2
local macro_rules | `(tactic| walk_at "rd") => `(tactic| simp only [startD, List.map, List.replicate, List.length_cons, List.length_nil, List.append_eq, List.append_nil, List.nil_append, List.cons_append, Nat.reduceSub, Nat.reduceAdd, List.getElem?_cons_zero, List.getElem?_cons_succ, List.set_cons_zero, List.set_cons_succ,
  dC, dVar, dOp, dTru, gTru, tru, dChain, dAnd, dOr, dNot, dAndV, dOrV, dNotV, dIf, dNeg, gNeg, dNil, dCons, dTup, dLst, dOwn, gIx, rBin, gAdd, gCmpI, dCall, dCallK, dSeq, dNext, dDrop, dRet, dRetN, dIfS, dName, dGNil, dGCons, dGTup, dSub, gSetL, dAsg, dPar, dPar3, dAug, gIpI, dSeqI, gSeqI, dRngI, gRng1, gRng2, dCB, gAbs, gInt, gMax, gMin, gGcd, gLen, lenD, gIsi, tyM, tyD, dBits, gBits, dMet, gAppend, dPart, dNoPart, dSl, gSl_tup, gSl_lst, cut_1, dEnds, gIs, isB, dNever, dFor, dLc, wipeD, dYes,
  sizeLine_eq, Nat.reduceLeDiff, gEq_int, gNe_int, gEq_strs, gNe_strs, gIn_two, gRepr_bl, rs_lst, rs_tup, rs_scr, rs_int, atI_0, atI_1, atI_2, atI_3, atI_4, atI_5, ixN_30, ixN_31, ixN_32, gEq_bl, gNe_bl, decide_eq_true_eq, beq_iff_eq, Bool.not_eq_true', beq_eq_false_iff_ne, decide_eq_false_iff_not, Bool.not_true, Bool.not_false, if_true, if_false, Bool.false_eq_true, ite_true, ite_false, true_and, and_true, ne_eq, Bool.bne_false, Bool.bne_true, reduceCtorEq])
local macro_rules | `(tactic| walk_at "rh") => `(tactic| simp only [*, startD, List.map, List.replicate, List.length_cons, List.length_nil, List.append_eq, List.append_nil, List.nil_append, List.cons_append, Nat.reduceSub, Nat.reduceAdd, List.getElem?_cons_zero, List.getElem?_cons_succ, List.set_cons_zero, List.set_cons_succ,
  dC, dVar, dOp, dTru, gTru, tru, dChain, dAnd, dOr, dNot, dAndV, dOrV, dNotV, dIf, dNeg, gNeg, dNil, dCons, dTup, dLst, dOwn, gIx, rBin, gAdd, gCmpI, dCall, dCallK, dSeq, dNext, dDrop, dRet, dRetN, dIfS, dName, dGNil, dGCons, dGTup, dSub, gSetL, dAsg, dPar, dPar3, dAug, gIpI, dSeqI, gSeqI, dRngI, gRng1, gRng2, dCB, gAbs, gInt, gMax, gMin, gGcd, gLen, lenD, gIsi, tyM, tyD, dBits, gBits, dMet, gAppend, dPart, dNoPart, dSl, gSl_tup, gSl_lst, cut_1, dEnds, gIs, isB, dNever, dFor, dLc, wipeD, dYes,
  sizeLine_eq, Nat.reduceLeDiff, gEq_int, gNe_int, gEq_strs, gNe_strs, gIn_two, gRepr_bl, rs_lst, rs_tup, rs_scr, rs_int, atI_0, atI_1, atI_2, atI_3, atI_4, atI_5, ixN_30, ixN_31, ixN_32, gEq_bl, gNe_bl, decide_eq_true_eq, beq_iff_eq, Bool.not_eq_true', beq_eq_false_iff_ne, decide_eq_false_iff_not, Bool.not_true, Bool.not_false, if_true, if_false, Bool.false_eq_true, ite_true, ite_false, true_and, and_true, ne_eq, Bool.bne_false, Bool.bne_true, reduceCtorEq])
local macro_rules | `(tactic| walk_at "kb") => `(tactic| simp only [kb_NoneType_list, kb_bool_list, kb_int_list, kb_str_list, kb_tuple_list, kb_list_list, kb_dict_list, kb_NoneType_int, kb_bool_int, kb_int_int, kb_str_int, kb_tuple_int, kb_list_int, kb_dict_int, kb_NoneType_bool, kb_bool_bool, kb_int_bool, kb_str_bool, kb_tuple_bool, kb_list_bool, kb_dict_bool, kb_NoneType_tuple, kb_bool_tuple, kb_int_tuple, kb_str_tuple, kb_tuple_tuple, kb_list_tuple, kb_dict_tuple, if_true, if_false, Bool.false_eq_true, ite_true, ite_false, Bool.not_true, Bool.not_false])
mutual
/-- data without truth values and dicts -/
def nb : PyData → Bool
  | .none => true
  | .int _ => true
  | .str _ => true
  | .list l => nbAll l
  | .tuple l => nbAll l
  | _ => false
def nbAll : List PyData → Bool
  | [] => true
  | d :: ds => nb d && nbAll ds
end
end DL
/-! MG: how many numbers below n are free of n; plain -/
namespace DL
open Classical in
noncomputable def cnt (n : Nat) (P : Nat → Prop) : Nat := (List.range n).countP fun i => decide (P i)
open Classical in
theorem cnt_congr {n : Nat} {P Q : Nat → Prop} (h : ∀ i, i < n → (P i ↔ Q i)) : cnt n P = cnt n Q := by
  unfold cnt
  refine List.countP_congr fun i hi => ?_
  rw [decide_eq_true_iff, decide_eq_true_iff]
  exact h i (List.mem_range.mp hi)
/-- no divisor of n below k divides i -/
def Free (n k i : Nat) : Prop := ∀ d, 2 ≤ d → d < k → d ∣ n → ¬ d ∣ i
noncomputable def phi (n : Nat) : Nat := cnt n fun i => Nat.gcd i n = 1
theorem free_gcd {n k i : Nat} (hn : 1 ≤ n) (hk : n < k) : Free n k i ↔ Nat.gcd i n = 1 := by
  constructor
  · intro h
    have g0 : 0 < Nat.gcd i n := Nat.gcd_pos_of_pos_right _ (by omega)
    have g1 : Nat.gcd i n ≤ n := Nat.le_of_dvd (by omega) (Nat.gcd_dvd_right _ _)
    by_cases z : Nat.gcd i n = 1
    · exact z
    · exact (h (Nat.gcd i n) (by omega) (by omega) (Nat.gcd_dvd_right _ _) (Nat.gcd_dvd_left _ _)).elim
  · intro h d d2 _ dn di
    have := Nat.dvd_gcd di dn
    rw [h] at this
    have := Nat.le_of_dvd (by decide) this
    omega
/-- the state of the reckoning -/
structure Fst (n k left c : Nat) : Prop where
  l1 : 1 ≤ left
  ln : left ∣ n
  low : ∀ d, 2 ≤ d → d < k → ¬ d ∣ left
  up : ∀ d, d ∣ n → (∀ e, 2 ≤ e → e < k → ¬ e ∣ d) → d ∣ left
  ct : c = cnt n (Free n k)
open Classical in
theorem Fst.start {n : Nat} (hn : 1 ≤ n) : Fst n 2 n n := by
  refine ⟨hn, Nat.dvd_refl _, fun d d2 d3 => by omega, fun d h _ => h, ?_⟩
  unfold cnt
  rw [List.countP_eq_length.mpr, List.length_range]
  intro i _
  rw [decide_eq_true_iff]
  intro d d2 d3
  omega
theorem Fst.done {n k left c : Nat} (hn : 1 ≤ n) (hk : n < k) (h : Fst n k left c) : c = phi n := by
  rw [h.ct]
  exact cnt_congr fun i _ => free_gcd hn hk
end DL
namespace DL
open PySem PySem.Spec PyProof.Rows L2
local macro_rules | `(tactic| walk_at "rd") => `(tactic| simp only [startD, List.map, List.replicate, List.length_cons, List.length_nil, List.append_eq, List.append_nil, List.nil_append, List.cons_append, Nat.reduceSub, Nat.reduceAdd, List.getElem?_cons_zero, List.getElem?_cons_succ, List.set_cons_zero, List.set_cons_succ,
  dC, dVar, dOp, dTru, gTru, tru, dChain, dAnd, dOr, dNot, dAndV, dOrV, dNotV, dIf, dNeg, gNeg, dNil, dCons, dTup, dLst, dOwn, gIx, rBin, gAdd, gCmpI, dCall, dCallK, dSeq, dNext, dDrop, dRet, dRetN, dIfS, dName, dGNil, dGCons, dGTup, dSub, gSetL, dAsg, dPar, dPar3, dAug, gIpI, dSeqI, gSeqI, dRngI, gRng1, gRng2, dCB, gAbs, gInt, gMax, gMin, gGcd, gLen, lenD, gIsi, tyM, tyD, dBits, gBits, dMet, gAppend, dPart, dNoPart, dSl, gSl_tup, gSl_lst, cut_1, dEnds, gIs, isB, dNever, dFor, dLc, wipeD, dYes,
  sizeLine_eq, Nat.reduceLeDiff, gEq_int, gNe_int, gEq_strs, gNe_strs, gIn_two, gRepr_bl, rs_lst, rs_tup, rs_scr, rs_int, atI_0, atI_1, atI_2, atI_3, atI_4, atI_5, ixN_30, ixN_31, ixN_32, gEq_bl, gNe_bl, decide_eq_true_eq, beq_iff_eq, Bool.not_eq_true', beq_eq_false_iff_ne, decide_eq_false_iff_not, Bool.not_true, Bool.not_false, if_true, if_false, Bool.false_eq_true, ite_true, ite_false, true_and, and_true, ne_eq, Bool.bne_false, Bool.bne_true, reduceCtorEq])
local macro_rules | `(tactic| walk_at "rh") => `(tactic| simp only [*, startD, List.map, List.replicate, List.length_cons, List.length_nil, List.append_eq, List.append_nil, List.nil_append, List.cons_append, Nat.reduceSub, Nat.reduceAdd, List.getElem?_cons_zero, List.getElem?_cons_succ, List.set_cons_zero, List.set_cons_succ,
  dC, dVar, dOp, dTru, gTru, tru, dChain, dAnd, dOr, dNot, dAndV, dOrV, dNotV, dIf, dNeg, gNeg, dNil, dCons, dTup, dLst, dOwn, gIx, rBin, gAdd, gCmpI, dCall, dCallK, dSeq, dNext, dDrop, dRet, dRetN, dIfS, dName, dGNil, dGCons, dGTup, dSub, gSetL, dAsg, dPar, dPar3, dAug, gIpI, dSeqI, gSeqI, dRngI, gRng1, gRng2, dCB, gAbs, gInt, gMax, gMin, gGcd, gLen, lenD, gIsi, tyM, tyD, dBits, gBits, dMet, gAppend, dPart, dNoPart, dSl, gSl_tup, gSl_lst, cut_1, dEnds, gIs, isB, dNever, dFor, dLc, wipeD, dYes,
  sizeLine_eq, Nat.reduceLeDiff, gEq_int, gNe_int, gEq_strs, gNe_strs, gIn_two, gRepr_bl, rs_lst, rs_tup, rs_scr, rs_int, atI_0, atI_1, atI_2, atI_3, atI_4, atI_5, ixN_30, ixN_31, ixN_32, gEq_bl, gNe_bl, decide_eq_true_eq, beq_iff_eq, Bool.not_eq_true', beq_eq_false_iff_ne, decide_eq_false_iff_not, Bool.not_true, Bool.not_false, if_true, if_false, Bool.false_eq_true, ite_true, ite_false, true_and, and_true, ne_eq, Bool.bne_false, Bool.bne_true, reduceCtorEq])
local macro_rules | `(tactic| walk_at "kb") => `(tactic| simp only [kb_NoneType_list, kb_bool_list, kb_int_list, kb_str_list, kb_tuple_list, kb_list_list, kb_dict_list, kb_NoneType_int, kb_bool_int, kb_int_int, kb_str_int, kb_tuple_int, kb_list_int, kb_dict_int, kb_NoneType_bool, kb_bool_bool, kb_int_bool, kb_str_bool, kb_tuple_bool, kb_list_bool, kb_dict_bool, kb_NoneType_tuple, kb_bool_tuple, kb_int_tuple, kb_str_tuple, kb_tuple_tuple, kb_list_tuple, kb_dict_tuple, if_true, if_false, Bool.false_eq_true, ite_true, ite_false, Bool.not_true, Bool.not_false])
end DL
/-! MH: mirrored cuttings, mirrored deeds; plain -/
namespace DL
end DL
namespace DL
open PySem PySem.Spec PyProof.Rows L2
local macro_rules | `(tactic| walk_at "rd") => `(tactic| simp only [startD, List.map, List.replicate, List.length_cons, List.length_nil, List.append_eq, List.append_nil, List.nil_append, List.cons_append, Nat.reduceSub, Nat.reduceAdd, List.getElem?_cons_zero, List.getElem?_cons_succ, List.set_cons_zero, List.set_cons_succ,
  dC, dVar, dOp, dTru, gTru, tru, dChain, dAnd, dOr, dNot, dAndV, dOrV, dNotV, dIf, dNeg, gNeg, dNil, dCons, dTup, dLst, dOwn, gIx, rBin, gAdd, gCmpI, dCall, dCallK, dSeq, dNext, dDrop, dRet, dRetN, dIfS, dName, dGNil, dGCons, dGTup, dSub, gSetL, dAsg, dPar, dPar3, dAug, gIpI, dSeqI, gSeqI, dRngI, gRng1, gRng2, dCB, gAbs, gInt, gMax, gMin, gGcd, gLen, lenD, gIsi, tyM, tyD, dBits, gBits, dMet, gAppend, dPart, dNoPart, dSl, gSl_tup, gSl_lst, cut_1, dEnds, gIs, isB, dNever, dFor, dLc, wipeD, dYes,
  sizeLine_eq, Nat.reduceLeDiff, gEq_int, gNe_int, gEq_strs, gNe_strs, gIn_two, gRepr_bl, rs_lst, rs_tup, rs_scr, rs_int, atI_0, atI_1, atI_2, atI_3, atI_4, atI_5, ixN_30, ixN_31, ixN_32, gEq_bl, gNe_bl, decide_eq_true_eq, beq_iff_eq, Bool.not_eq_true', beq_eq_false_iff_ne, decide_eq_false_iff_not, Bool.not_true, Bool.not_false, if_true, if_false, Bool.false_eq_true, ite_true, ite_false, true_and, and_true, ne_eq, Bool.bne_false, Bool.bne_true, reduceCtorEq])
local macro_rules | `(tactic| walk_at "rh") => `(tactic| simp only [*, startD, List.map, List.replicate, List.length_cons, List.length_nil, List.append_eq, List.append_nil, List.nil_append, List.cons_append, Nat.reduceSub, Nat.reduceAdd, List.getElem?_cons_zero, List.getElem?_cons_succ, List.set_cons_zero, List.set_cons_succ,
  dC, dVar, dOp, dTru, gTru, tru, dChain, dAnd, dOr, dNot, dAndV, dOrV, dNotV, dIf, dNeg, gNeg, dNil, dCons, dTup, dLst, dOwn, gIx, rBin, gAdd, gCmpI, dCall, dCallK, dSeq, dNext, dDrop, dRet, dRetN, dIfS, dName, dGNil, dGCons, dGTup, dSub, gSetL, dAsg, dPar, dPar3, dAug, gIpI, dSeqI, gSeqI, dRngI, gRng1, gRng2, dCB, gAbs, gInt, gMax, gMin, gGcd, gLen, lenD, gIsi, tyM, tyD, dBits, gBits, dMet, gAppend, dPart, dNoPart, dSl, gSl_tup, gSl_lst, cut_1, dEnds, gIs, isB, dNever, dFor, dLc, wipeD, dYes,
  sizeLine_eq, Nat.reduceLeDiff, gEq_int, gNe_int, gEq_strs, gNe_strs, gIn_two, gRepr_bl, rs_lst, rs_tup, rs_scr, rs_int, atI_0, atI_1, atI_2, atI_3, atI_4, atI_5, ixN_30, ixN_31, ixN_32, gEq_bl, gNe_bl, decide_eq_true_eq, beq_iff_eq, Bool.not_eq_true', beq_eq_false_iff_ne, decide_eq_false_iff_not, Bool.not_true, Bool.not_false, if_true, if_false, Bool.false_eq_true, ite_true, ite_false, true_and, and_true, ne_eq, Bool.bne_false, Bool.bne_true, reduceCtorEq])
local macro_rules | `(tactic| walk_at "kb") => `(tactic| simp only [kb_NoneType_list, kb_bool_list, kb_int_list, kb_str_list, kb_tuple_list, kb_list_list, kb_dict_list, kb_NoneType_int, kb_bool_int, kb_int_int, kb_str_int, kb_tuple_int, kb_list_int, kb_dict_int, kb_NoneType_bool, kb_bool_bool, kb_int_bool, kb_str_bool, kb_tuple_bool, kb_list_bool, kb_dict_bool, kb_NoneType_tuple, kb_bool_tuple, kb_int_tuple, kb_str_tuple, kb_tuple_tuple, kb_list_tuple, kb_dict_tuple, if_true, if_false, Bool.false_eq_true, ite_true, ite_false, Bool.not_true, Bool.not_false])
/-! calls whose answers are known -/
end DL
namespace DL
open PySem PySem.Spec PyProof.Rows L2
local macro_rules | `(tactic| walk_at "rd") => `(tactic| simp only [startD, List.map, List.replicate, List.length_cons, List.length_nil, List.append_eq, List.append_nil, List.nil_append, List.cons_append, Nat.reduceSub, Nat.reduceAdd, List.getElem?_cons_zero, List.getElem?_cons_succ, List.set_cons_zero, List.set_cons_succ,
  dC, dVar, dOp, dTru, gTru, tru, dChain, dAnd, dOr, dNot, dAndV, dOrV, dNotV, dIf, dNeg, gNeg, dNil, dCons, dTup, dLst, dOwn, gIx, rBin, gAdd, gCmpI, dCall, dCallK, dSeq, dNext, dDrop, dRet, dRetN, dIfS, dName, dGNil, dGCons, dGTup, dSub, gSetL, dAsg, dPar, dPar3, dAug, gIpI, dSeqI, gSeqI, dRngI, gRng1, gRng2, dCB, gAbs, gInt, gMax, gMin, gGcd, gLen, lenD, gIsi, tyM, tyD, dBits, gBits, dMet, gAppend, dPart, dNoPart, dSl, gSl_tup, gSl_lst, cut_1, dEnds, gIs, isB, dNever, dFor, dLc, wipeD, dYes,
  sizeLine_eq, Nat.reduceLeDiff, gEq_int, gNe_int, gEq_strs, gNe_strs, gIn_two, gRepr_bl, rs_lst, rs_tup, rs_scr, rs_int, atI_0, atI_1, atI_2, atI_3, atI_4, atI_5, ixN_30, ixN_31, ixN_32, gEq_bl, gNe_bl, decide_eq_true_eq, beq_iff_eq, Bool.not_eq_true', beq_eq_false_iff_ne, decide_eq_false_iff_not, Bool.not_true, Bool.not_false, if_true, if_false, Bool.false_eq_true, ite_true, ite_false, true_and, and_true, ne_eq, Bool.bne_false, Bool.bne_true, reduceCtorEq])
local macro_rules | `(tactic| walk_at "rh") => `(tactic| simp only [*, startD, List.map, List.replicate, List.length_cons, List.length_nil, List.append_eq, List.append_nil, List.nil_append, List.cons_append, Nat.reduceSub, Nat.reduceAdd, List.getElem?_cons_zero, List.getElem?_cons_succ, List.set_cons_zero, List.set_cons_succ,
  dC, dVar, dOp, dTru, gTru, tru, dChain, dAnd, dOr, dNot, dAndV, dOrV, dNotV, dIf, dNeg, gNeg, dNil, dCons, dTup, dLst, dOwn, gIx, rBin, gAdd, gCmpI, dCall, dCallK, dSeq, dNext, dDrop, dRet, dRetN, dIfS, dName, dGNil, dGCons, dGTup, dSub, gSetL, dAsg, dPar, dPar3, dAug, gIpI, dSeqI, gSeqI, dRngI, gRng1, gRng2, dCB, gAbs, gInt, gMax, gMin, gGcd, gLen, lenD, gIsi, tyM, tyD, dBits, gBits, dMet, gAppend, dPart, dNoPart, dSl, gSl_tup, gSl_lst, cut_1, dEnds, gIs, isB, dNever, dFor, dLc, wipeD, dYes,
  sizeLine_eq, Nat.reduceLeDiff, gEq_int, gNe_int, gEq_strs, gNe_strs, gIn_two, gRepr_bl, rs_lst, rs_tup, rs_scr, rs_int, atI_0, atI_1, atI_2, atI_3, atI_4, atI_5, ixN_30, ixN_31, ixN_32, gEq_bl, gNe_bl, decide_eq_true_eq, beq_iff_eq, Bool.not_eq_true', beq_eq_false_iff_ne, decide_eq_false_iff_not, Bool.not_true, Bool.not_false, if_true, if_false, Bool.false_eq_true, ite_true, ite_false, true_and, and_true, ne_eq, Bool.bne_false, Bool.bne_true, reduceCtorEq])
local macro_rules | `(tactic| walk_at "kb") => `(tactic| simp only [kb_NoneType_list, kb_bool_list, kb_int_list, kb_str_list, kb_tuple_list, kb_list_list, kb_dict_list, kb_NoneType_int, kb_bool_int, kb_int_int, kb_str_int, kb_tuple_int, kb_list_int, kb_dict_int, kb_NoneType_bool, kb_bool_bool, kb_int_bool, kb_str_bool, kb_tuple_bool, kb_list_bool, kb_dict_bool, kb_NoneType_tuple, kb_bool_tuple, kb_int_tuple, kb_str_tuple, kb_tuple_tuple, kb_list_tuple, kb_dict_tuple, if_true, if_false, Bool.false_eq_true, ite_true, ite_false, Bool.not_true, Bool.not_false])
/-! ### the sides of cuttings -/
/-! ### what the first numbers may be -/
/-! ### all turns -/
structure TurnsOK (m : Int) (l : List Int) : Prop where
  nd : l.Nodup
  bd : ∀ e ∈ l, -128 ≤ e ∧ e ≤ 128
  all : ∀ e : Int, e * e < m → (m - e) % 2 = 0 → e ∈ l
  len : l.length ≤ 260
theorem CovX.start {m : Int} {T : List Int} : CovX m [] fun _ e' => e' ∈ T.take 0 := CovX.nil fun a b c e _ _ h => by rw [List.take_zero] at h; cases h
theorem CovX.all {m : Int} {l : List (List Int)} {T : List Int} (h : CovX m l fun _ e' => e' ∈ T) (hT : TurnsOK m T) : CovX m l fun _ _ => True :=
  h.iff fun a b c e h1 h2 => ⟨fun _ => by
    obtain ⟨k1, k2, _⟩ := cut_parts h1
    have h3 := meas_bc.mp h2
    have h4 : 1 * 1 ≤ b * c := Int.mul_le_mul k1 k2 (by decide) (by omega)
    have h5 : (e - m) % 2 = 0 := by rw [← h2]; exact meas_par (a := a)
    exact hT.all e (by omega) (by omega), fun _ => trivial⟩
theorem CovX.len {m : Int} {l l' : List (List Int)} (h : CovX m l fun _ _ => True) (g : AllC m l') : l'.length = l.length := by
  refine ((List.perm_ext_iff_of_nodup g.nd h.1).mpr fun x => ?_).length_eq
  rw [g.mem, h.2]
  constructor
  · rintro ⟨a, b, c, e, rfl, h1, h2⟩; exact ⟨a, b, c, e, rfl, h1, h2, trivial⟩
  · rintro ⟨a, b, c, e, rfl, h1, h2, _⟩; exact ⟨a, b, c, e, rfl, h1, h2⟩
/-! ### how many cuttings there are -/
theorem CovX.same {m : Int} {l l' : List (List Int)} {P : Int → Int → Prop} (h : CovX m l P) (g : CovX m l' P) : l.length = l'.length :=
  ((List.perm_ext_iff_of_nodup h.1 g.1).mpr fun x => (h.2 x).trans (g.2 x).symm).length_eq
end DL
/-! MI: how many cuttings have a told last number; plain -/
namespace DL
end DL
namespace DL
open PySem PySem.Spec PyProof.Rows L2
local macro_rules | `(tactic| walk_at "rd") => `(tactic| simp only [startD, List.map, List.replicate, List.length_cons, List.length_nil, List.append_eq, List.append_nil, List.nil_append, List.cons_append, Nat.reduceSub, Nat.reduceAdd, List.getElem?_cons_zero, List.getElem?_cons_succ, List.set_cons_zero, List.set_cons_succ,
  dC, dVar, dOp, dTru, gTru, tru, dChain, dAnd, dOr, dNot, dAndV, dOrV, dNotV, dIf, dNeg, gNeg, dNil, dCons, dTup, dLst, dOwn, gIx, rBin, gAdd, gCmpI, dCall, dCallK, dSeq, dNext, dDrop, dRet, dRetN, dIfS, dName, dGNil, dGCons, dGTup, dSub, gSetL, dAsg, dPar, dPar3, dAug, gIpI, dSeqI, gSeqI, dRngI, gRng1, gRng2, dCB, gAbs, gInt, gMax, gMin, gGcd, gLen, lenD, gIsi, tyM, tyD, dBits, gBits, dMet, gAppend, dPart, dNoPart, dSl, gSl_tup, gSl_lst, cut_1, dEnds, gIs, isB, dNever, dFor, dLc, wipeD, dYes,
  sizeLine_eq, Nat.reduceLeDiff, gEq_int, gNe_int, gEq_strs, gNe_strs, gIn_two, gRepr_bl, rs_lst, rs_tup, rs_scr, rs_int, atI_0, atI_1, atI_2, atI_3, atI_4, atI_5, ixN_30, ixN_31, ixN_32, gEq_bl, gNe_bl, decide_eq_true_eq, beq_iff_eq, Bool.not_eq_true', beq_eq_false_iff_ne, decide_eq_false_iff_not, Bool.not_true, Bool.not_false, if_true, if_false, Bool.false_eq_true, ite_true, ite_false, true_and, and_true, ne_eq, Bool.bne_false, Bool.bne_true, reduceCtorEq])
local macro_rules | `(tactic| walk_at "rh") => `(tactic| simp only [*, startD, List.map, List.replicate, List.length_cons, List.length_nil, List.append_eq, List.append_nil, List.nil_append, List.cons_append, Nat.reduceSub, Nat.reduceAdd, List.getElem?_cons_zero, List.getElem?_cons_succ, List.set_cons_zero, List.set_cons_succ,
  dC, dVar, dOp, dTru, gTru, tru, dChain, dAnd, dOr, dNot, dAndV, dOrV, dNotV, dIf, dNeg, gNeg, dNil, dCons, dTup, dLst, dOwn, gIx, rBin, gAdd, gCmpI, dCall, dCallK, dSeq, dNext, dDrop, dRet, dRetN, dIfS, dName, dGNil, dGCons, dGTup, dSub, gSetL, dAsg, dPar, dPar3, dAug, gIpI, dSeqI, gSeqI, dRngI, gRng1, gRng2, dCB, gAbs, gInt, gMax, gMin, gGcd, gLen, lenD, gIsi, tyM, tyD, dBits, gBits, dMet, gAppend, dPart, dNoPart, dSl, gSl_tup, gSl_lst, cut_1, dEnds, gIs, isB, dNever, dFor, dLc, wipeD, dYes,
  sizeLine_eq, Nat.reduceLeDiff, gEq_int, gNe_int, gEq_strs, gNe_strs, gIn_two, gRepr_bl, rs_lst, rs_tup, rs_scr, rs_int, atI_0, atI_1, atI_2, atI_3, atI_4, atI_5, ixN_30, ixN_31, ixN_32, gEq_bl, gNe_bl, decide_eq_true_eq, beq_iff_eq, Bool.not_eq_true', beq_eq_false_iff_ne, decide_eq_false_iff_not, Bool.not_true, Bool.not_false, if_true, if_false, Bool.false_eq_true, ite_true, ite_false, true_and, and_true, ne_eq, Bool.bne_false, Bool.bne_true, reduceCtorEq])
local macro_rules | `(tactic| walk_at "kb") => `(tactic| simp only [kb_NoneType_list, kb_bool_list, kb_int_list, kb_str_list, kb_tuple_list, kb_list_list, kb_dict_list, kb_NoneType_int, kb_bool_int, kb_int_int, kb_str_int, kb_tuple_int, kb_list_int, kb_dict_int, kb_NoneType_bool, kb_bool_bool, kb_int_bool, kb_str_bool, kb_tuple_bool, kb_list_bool, kb_dict_bool, kb_NoneType_tuple, kb_bool_tuple, kb_int_tuple, kb_str_tuple, kb_tuple_tuple, kb_list_tuple, kb_dict_tuple, if_true, if_false, Bool.false_eq_true, ite_true, ite_false, Bool.not_true, Bool.not_false])
end DL
namespace DL
open PySem PySem.Spec PyProof.Rows L2
local macro_rules | `(tactic| walk_at "rd") => `(tactic| simp only [startD, List.map, List.replicate, List.length_cons, List.length_nil, List.append_eq, List.append_nil, List.nil_append, List.cons_append, Nat.reduceSub, Nat.reduceAdd, List.getElem?_cons_zero, List.getElem?_cons_succ, List.set_cons_zero, List.set_cons_succ,
  dC, dVar, dOp, dTru, gTru, tru, dChain, dAnd, dOr, dNot, dAndV, dOrV, dNotV, dIf, dNeg, gNeg, dNil, dCons, dTup, dLst, dOwn, gIx, rBin, gAdd, gCmpI, dCall, dCallK, dSeq, dNext, dDrop, dRet, dRetN, dIfS, dName, dGNil, dGCons, dGTup, dSub, gSetL, dAsg, dPar, dPar3, dAug, gIpI, dSeqI, gSeqI, dRngI, gRng1, gRng2, dCB, gAbs, gInt, gMax, gMin, gGcd, gLen, lenD, gIsi, tyM, tyD, dBits, gBits, dMet, gAppend, dPart, dNoPart, dSl, gSl_tup, gSl_lst, cut_1, dEnds, gIs, isB, dNever, dCallX, dRaise, dTry, dFld, dCallV, gLRng, gFrz, dFrz, dFor, dLc, wipeD, dYes,
  sizeLine_eq, Nat.reduceLeDiff, gEq_int, gNe_int, gEq_strs, gNe_strs, gIn_two, gRepr_bl, rs_lst, rs_tup, rs_scr, rs_int, atI_0, atI_1, atI_2, atI_3, atI_4, atI_5, ixN_30, ixN_31, ixN_32, gEq_bl, gNe_bl, decide_eq_true_eq, beq_iff_eq, Bool.not_eq_true', beq_eq_false_iff_ne, decide_eq_false_iff_not, Bool.not_true, Bool.not_false, if_true, if_false, Bool.false_eq_true, ite_true, ite_false, true_and, and_true, ne_eq, Bool.bne_false, Bool.bne_true, reduceCtorEq])
local macro_rules | `(tactic| walk_at "rh") => `(tactic| simp only [*, startD, List.map, List.replicate, List.length_cons, List.length_nil, List.append_eq, List.append_nil, List.nil_append, List.cons_append, Nat.reduceSub, Nat.reduceAdd, List.getElem?_cons_zero, List.getElem?_cons_succ, List.set_cons_zero, List.set_cons_succ,
  dC, dVar, dOp, dTru, gTru, tru, dChain, dAnd, dOr, dNot, dAndV, dOrV, dNotV, dIf, dNeg, gNeg, dNil, dCons, dTup, dLst, dOwn, gIx, rBin, gAdd, gCmpI, dCall, dCallK, dSeq, dNext, dDrop, dRet, dRetN, dIfS, dName, dGNil, dGCons, dGTup, dSub, gSetL, dAsg, dPar, dPar3, dAug, gIpI, dSeqI, gSeqI, dRngI, gRng1, gRng2, dCB, gAbs, gInt, gMax, gMin, gGcd, gLen, lenD, gIsi, tyM, tyD, dBits, gBits, dMet, gAppend, dPart, dNoPart, dSl, gSl_tup, gSl_lst, cut_1, dEnds, gIs, isB, dNever, dCallX, dRaise, dTry, dFld, dCallV, gLRng, gFrz, dFrz, dFor, dLc, wipeD, dYes,
  sizeLine_eq, Nat.reduceLeDiff, gEq_int, gNe_int, gEq_strs, gNe_strs, gIn_two, gRepr_bl, rs_lst, rs_tup, rs_scr, rs_int, atI_0, atI_1, atI_2, atI_3, atI_4, atI_5, ixN_30, ixN_31, ixN_32, gEq_bl, gNe_bl, decide_eq_true_eq, beq_iff_eq, Bool.not_eq_true', beq_eq_false_iff_ne, decide_eq_false_iff_not, Bool.not_true, Bool.not_false, if_true, if_false, Bool.false_eq_true, ite_true, ite_false, true_and, and_true, ne_eq, Bool.bne_false, Bool.bne_true, reduceCtorEq])
local macro_rules | `(tactic| walk_at "kb") => `(tactic| simp only [kb_NoneType_list, kb_bool_list, kb_int_list, kb_str_list, kb_tuple_list, kb_list_list, kb_dict_list, kb_NoneType_int, kb_bool_int, kb_int_int, kb_str_int, kb_tuple_int, kb_list_int, kb_dict_int, kb_NoneType_bool, kb_bool_bool, kb_int_bool, kb_str_bool, kb_tuple_bool, kb_list_bool, kb_dict_bool, kb_NoneType_tuple, kb_bool_tuple, kb_int_tuple, kb_str_tuple, kb_tuple_tuple, kb_list_tuple, kb_dict_tuple, if_true, if_false, Bool.false_eq_true, ite_true, ite_false, Bool.not_true, Bool.not_false])
/-! RdZ: the checks with their errors -/
/-! ### the heart's numbers -/
/-! ### the heart's functions -/
end DL
namespace DL
open PySem PySem.Spec PyProof.Rows L2
local macro_rules | `(tactic| walk_at "rd") => `(tactic| simp only [startD, List.map, List.replicate, List.length_cons, List.length_nil, List.append_eq, List.append_nil, List.nil_append, List.cons_append, Nat.reduceSub, Nat.reduceAdd, List.getElem?_cons_zero, List.getElem?_cons_succ, List.set_cons_zero, List.set_cons_succ,
  dC, dVar, dOp, dTru, gTru, tru, dChain, dAnd, dOr, dNot, dAndV, dOrV, dNotV, dIf, dNeg, gNeg, dNil, dCons, dTup, dLst, dOwn, gIx, rBin, gAdd, gCmpI, dCall, dCallK, dSeq, dNext, dDrop, dRet, dRetN, dIfS, dName, dGNil, dGCons, dGTup, dSub, gSetL, dAsg, dPar, dPar3, dAug, gIpI, dSeqI, gSeqI, dRngI, gRng1, gRng2, dCB, gAbs, gInt, gMax, gMin, gGcd, gLen, lenD, gIsi, tyM, tyD, dBits, gBits, dMet, gAppend, dPart, dNoPart, dSl, gSl_tup, gSl_lst, cut_1, dEnds, gIs, isB, dNever, dCallX, dRaise, dTry, dFld, dCallV, gLRng, gFrz, dFrz, dFor, dLc, wipeD, dYes,
  sizeLine_eq, Nat.reduceLeDiff, gEq_int, gNe_int, gEq_strs, gNe_strs, gIn_two, gRepr_bl, rs_lst, rs_tup, rs_scr, rs_int, atI_0, atI_1, atI_2, atI_3, atI_4, atI_5, ixN_30, ixN_31, ixN_32, gEq_bl, gNe_bl, decide_eq_true_eq, beq_iff_eq, Bool.not_eq_true', beq_eq_false_iff_ne, decide_eq_false_iff_not, Bool.not_true, Bool.not_false, if_true, if_false, Bool.false_eq_true, ite_true, ite_false, true_and, and_true, ne_eq, Bool.bne_false, Bool.bne_true, reduceCtorEq])
local macro_rules | `(tactic| walk_at "rh") => `(tactic| simp only [*, startD, List.map, List.replicate, List.length_cons, List.length_nil, List.append_eq, List.append_nil, List.nil_append, List.cons_append, Nat.reduceSub, Nat.reduceAdd, List.getElem?_cons_zero, List.getElem?_cons_succ, List.set_cons_zero, List.set_cons_succ,
  dC, dVar, dOp, dTru, gTru, tru, dChain, dAnd, dOr, dNot, dAndV, dOrV, dNotV, dIf, dNeg, gNeg, dNil, dCons, dTup, dLst, dOwn, gIx, rBin, gAdd, gCmpI, dCall, dCallK, dSeq, dNext, dDrop, dRet, dRetN, dIfS, dName, dGNil, dGCons, dGTup, dSub, gSetL, dAsg, dPar, dPar3, dAug, gIpI, dSeqI, gSeqI, dRngI, gRng1, gRng2, dCB, gAbs, gInt, gMax, gMin, gGcd, gLen, lenD, gIsi, tyM, tyD, dBits, gBits, dMet, gAppend, dPart, dNoPart, dSl, gSl_tup, gSl_lst, cut_1, dEnds, gIs, isB, dNever, dCallX, dRaise, dTry, dFld, dCallV, gLRng, gFrz, dFrz, dFor, dLc, wipeD, dYes,
  sizeLine_eq, Nat.reduceLeDiff, gEq_int, gNe_int, gEq_strs, gNe_strs, gIn_two, gRepr_bl, rs_lst, rs_tup, rs_scr, rs_int, atI_0, atI_1, atI_2, atI_3, atI_4, atI_5, ixN_30, ixN_31, ixN_32, gEq_bl, gNe_bl, decide_eq_true_eq, beq_iff_eq, Bool.not_eq_true', beq_eq_false_iff_ne, decide_eq_false_iff_not, Bool.not_true, Bool.not_false, if_true, if_false, Bool.false_eq_true, ite_true, ite_false, true_and, and_true, ne_eq, Bool.bne_false, Bool.bne_true, reduceCtorEq])
local macro_rules | `(tactic| walk_at "kb") => `(tactic| simp only [kb_NoneType_list, kb_bool_list, kb_int_list, kb_str_list, kb_tuple_list, kb_list_list, kb_dict_list, kb_NoneType_int, kb_bool_int, kb_int_int, kb_str_int, kb_tuple_int, kb_list_int, kb_dict_int, kb_NoneType_bool, kb_bool_bool, kb_int_bool, kb_str_bool, kb_tuple_bool, kb_list_bool, kb_dict_bool, kb_NoneType_tuple, kb_bool_tuple, kb_int_tuple, kb_str_tuple, kb_tuple_tuple, kb_list_tuple, kb_dict_tuple, if_true, if_false, Bool.false_eq_true, ite_true, ite_false, Bool.not_true, Bool.not_false])
/-! RdDD: data that is shown, dicts among them (X_k11 has its own copy) -/
abbrev er (x : Str) (d : D) : Option (Str × D) := some (x, d)
/-! ### data that is shown -/
structure Sh (d : D) : Prop where
  f : fine 10 d = true
  l : lit 200 d = true
  w : wt 200 d ≤ 10000
mutual
theorem resD_fine (M : Mem) : ∀ (n : Nat) (d : D), fine n d = true → resD M d = d
  | _, .non, _ => rfl
  | _, .bl _, _ => rfl
  | _, .int _, _ => rfl
  | _, .str _, _ => rfl
  | 0, .tup l, h => by simp [fine] at h
  | 0, .lst l, h => by simp [fine] at h
  | n + 1, .tup l, h => by unfold resD; rw [resDA_fine M n l (by simpa only [fine] using h)]
  | n + 1, .lst l, h => by unfold resD; rw [resDA_fine M n l (by simpa only [fine] using h)]
  | _, .dct0, h => rfl
  | _, .scr _, h => by simp [fine] at h
  | _, .own _, h => by simp [fine] at h
  | _, .exc _ _, h => by simp [fine] at h
  | _, .glb _, h => by simp [fine] at h
  | _, .val _, h => by simp [fine] at h
theorem resDA_fine (M : Mem) : ∀ (n : Nat) (ds : List D), fineAll n ds = true → resDA M ds = ds
  | _, [], _ => rfl
  | n, d :: ds, h => by
    have h' : fine n d = true ∧ fineAll n ds = true := by simpa only [fineAll, Bool.and_eq_true] using h
    unfold resDA
    rw [resD_fine M n d h'.1, resDA_fine M n ds h'.2]
end
theorem Sh.shown {d : D} (h : Sh d) (M : Mem) : ∃ z, shwnZ (resD M d) = some z := by
  rw [resD_fine M 10 d h.f]
  obtain ⟨z, hz⟩ := shw_of 200 10 h.f h.l (by have := h.w; omega)
  exact ⟨z, shwnZ_of hz⟩
end DL
namespace DL
open PySem PySem.Spec PyProof.Rows L2
local macro_rules | `(tactic| walk_at "rd") => `(tactic| simp only [startD, List.map, List.replicate, List.length_cons, List.length_nil, List.append_eq, List.append_nil, List.nil_append, List.cons_append, Nat.reduceSub, Nat.reduceAdd, List.getElem?_cons_zero, List.getElem?_cons_succ, List.set_cons_zero, List.set_cons_succ,
  dC, dVar, dOp, dTru, gTru, tru, dChain, dAnd, dOr, dNot, dAndV, dOrV, dNotV, dIf, dNeg, gNeg, dNil, dCons, dTup, dLst, dOwn, gIx, rBin, gAdd, gCmpI, dCall, dCallK, dSeq, dNext, dDrop, dRet, dRetN, dIfS, dName, dGNil, dGCons, dGTup, dSub, gSetL, dAsg, dPar, dPar3, dAug, gIpI, dSeqI, gSeqI, dRngI, gRng1, gRng2, dCB, gAbs, gInt, gMax, gMin, gGcd, gLen, lenD, gIsi, tyM, tyD, dBits, gBits, dMet, gAppend, dPart, dNoPart, dSl, gSl_tup, gSl_lst, cut_1, dEnds, gIs, isB, dNever, dCallX, dRaise, dTry, dFld, dCallV, gLRng, gFrz, dFrz, dFor, dLc, wipeD, dYes,
  sizeLine_eq, Nat.reduceLeDiff, gEq_int, gNe_int, gEq_strs, gNe_strs, gIn_two, gRepr_bl, rs_lst, rs_tup, rs_scr, rs_int, atI_0, atI_1, atI_2, atI_3, atI_4, atI_5, ixN_30, ixN_31, ixN_32, gEq_bl, gNe_bl, decide_eq_true_eq, beq_iff_eq, Bool.not_eq_true', beq_eq_false_iff_ne, decide_eq_false_iff_not, Bool.not_true, Bool.not_false, if_true, if_false, Bool.false_eq_true, ite_true, ite_false, true_and, and_true, ne_eq, Bool.bne_false, Bool.bne_true, reduceCtorEq])
local macro_rules | `(tactic| walk_at "rh") => `(tactic| simp only [*, startD, List.map, List.replicate, List.length_cons, List.length_nil, List.append_eq, List.append_nil, List.nil_append, List.cons_append, Nat.reduceSub, Nat.reduceAdd, List.getElem?_cons_zero, List.getElem?_cons_succ, List.set_cons_zero, List.set_cons_succ,
  dC, dVar, dOp, dTru, gTru, tru, dChain, dAnd, dOr, dNot, dAndV, dOrV, dNotV, dIf, dNeg, gNeg, dNil, dCons, dTup, dLst, dOwn, gIx, rBin, gAdd, gCmpI, dCall, dCallK, dSeq, dNext, dDrop, dRet, dRetN, dIfS, dName, dGNil, dGCons, dGTup, dSub, gSetL, dAsg, dPar, dPar3, dAug, gIpI, dSeqI, gSeqI, dRngI, gRng1, gRng2, dCB, gAbs, gInt, gMax, gMin, gGcd, gLen, lenD, gIsi, tyM, tyD, dBits, gBits, dMet, gAppend, dPart, dNoPart, dSl, gSl_tup, gSl_lst, cut_1, dEnds, gIs, isB, dNever, dCallX, dRaise, dTry, dFld, dCallV, gLRng, gFrz, dFrz, dFor, dLc, wipeD, dYes,
  sizeLine_eq, Nat.reduceLeDiff, gEq_int, gNe_int, gEq_strs, gNe_strs, gIn_two, gRepr_bl, rs_lst, rs_tup, rs_scr, rs_int, atI_0, atI_1, atI_2, atI_3, atI_4, atI_5, ixN_30, ixN_31, ixN_32, gEq_bl, gNe_bl, decide_eq_true_eq, beq_iff_eq, Bool.not_eq_true', beq_eq_false_iff_ne, decide_eq_false_iff_not, Bool.not_true, Bool.not_false, if_true, if_false, Bool.false_eq_true, ite_true, ite_false, true_and, and_true, ne_eq, Bool.bne_false, Bool.bne_true, reduceCtorEq])
local macro_rules | `(tactic| walk_at "kb") => `(tactic| simp only [kb_NoneType_list, kb_bool_list, kb_int_list, kb_str_list, kb_tuple_list, kb_list_list, kb_dict_list, kb_NoneType_int, kb_bool_int, kb_int_int, kb_str_int, kb_tuple_int, kb_list_int, kb_dict_int, kb_NoneType_bool, kb_bool_bool, kb_int_bool, kb_str_bool, kb_tuple_bool, kb_list_bool, kb_dict_bool, kb_NoneType_tuple, kb_bool_tuple, kb_int_tuple, kb_str_tuple, kb_tuple_tuple, kb_list_tuple, kb_dict_tuple, if_true, if_false, Bool.false_eq_true, ite_true, ite_false, Bool.not_true, Bool.not_false])
/-- a comprehension, item by item -/
theorem lcW_idx {ds ys : List D} {C : Mem → Prop} {g : DTG} {tt : DTT} {te : DTE} {r : Env} {M : Mem} {Q : DQ} (hlen : ds.length = ys.length) (hC : C M) (hl : ds.length ≤ sizeLine)
    (step : ∀ (i : Nat) (d y : D), ds[i]? = some d → ys[i]? = some y → ∀ (Y : D → Mem → Prop) (N : Mem → Prop), Y y M → g d r M fun r2 M2 => tt r2 M2 fun b M3 => if b = true then te r2 M3 Y else N M3)
    (q : Q (.lst ys) M) : lcW false ds C g tt te r M Q := by
  refine ⟨fun i acc M' => M' = M ∧ acc = ys.take i ∧ i ≤ ds.length, ⟨rfl, rfl, Nat.zero_le _⟩, ?_⟩
  rintro i acc M' ⟨rfl, rfl, hi⟩
  refine ⟨hC, fun hd => ?_, fun d ed => ?_⟩
  · rw [if_neg Bool.false_ne_true]
    rw [List.take_of_length_le (by omega)]; exact q
  · have hlt : i < ds.length := (List.getElem?_eq_some_iff.mp ed).1
    have ey : ys[i]? = some ys[i] := List.getElem?_eq_getElem (by omega)
    have ht : ys.take (i + 1) = ys.take i ++ [ys[i]] := by rw [List.take_add_one, ey]; rfl
    refine step i d _ ed ey _ _ ⟨?_, rfl, ht.symm, hlt⟩
    rw [List.length_take]; omega
/-! ### root numbers as what they stand for: d stands for (X + Y times the root) / B -/
structure RV (m : Int) (nx nb : Nat) (d : D) (X Y B : Int) : Prop where
  eq : d = rootN m X Y B
  b0 : B ≠ 0
  bx : Bi nx X
  bY : Bi nx Y
  bB : Bi nb B
/-- the triple itself -/
structure RT (m : Int) (nx nb : Nat) (d : D) (X Y B t1 t2 t3 k : Int) : Prop where
  eq : d = T3 t1 t2 t3
  nf : NF m t1 t2 t3
  k0 : k ≠ 0
  e1 : rnX m X Y = k * t1
  e2 : rnY m Y = k * t2
  e3 : B = k * t3
  sz : Bi (nx + 103) t1 ∧ Bi nx t2 ∧ Bi nb t3
theorem Bi.up {n k : Nat} {i : Int} (h : Bi n i) (hk : n ≤ k) : Bi k i := h.mono hk
theorem rn_eq {m X Y B X' Y' B' : Int} (b0 : B ≠ 0) (b0' : B' ≠ 0) (h1 : X * B' = X' * B) (h2 : Y * B' = Y' * B) : rootN m X Y B = rootN m X' Y' B' := by
  rw [rootN_nf, rootN_nf]
  refine nf_eq b0 b0' ?_ ?_
  · unfold rnX
    split
    · have : (X + Y * isq m) * B' = X * B' + Y * B' * isq m := by grind
      rw [this, h1, h2]; grind
    · exact h1
  · unfold rnY
    split
    · rw [Int.zero_mul, Int.zero_mul]
    · exact h2
/-! ### the calls -/
end DL
namespace DL
open PySem PySem.Spec PyProof.Rows L2
local macro_rules | `(tactic| walk_at "rd") => `(tactic| simp only [startD, List.map, List.replicate, List.length_cons, List.length_nil, List.append_eq, List.append_nil, List.nil_append, List.cons_append, Nat.reduceSub, Nat.reduceAdd, List.getElem?_cons_zero, List.getElem?_cons_succ, List.set_cons_zero, List.set_cons_succ,
  dC, dVar, dOp, dTru, gTru, tru, dChain, dAnd, dOr, dNot, dAndV, dOrV, dNotV, dIf, dNeg, gNeg, dNil, dCons, dTup, dLst, dOwn, gIx, rBin, gAdd, gCmpI, dCall, dCallK, dSeq, dNext, dDrop, dRet, dRetN, dIfS, dName, dGNil, dGCons, dGTup, dSub, gSetL, dAsg, dPar, dPar3, dAug, gIpI, dSeqI, gSeqI, dRngI, gRng1, gRng2, dCB, gAbs, gInt, gMax, gMin, gGcd, gLen, lenD, gIsi, tyM, tyD, dBits, gBits, dMet, gAppend, dPart, dNoPart, dSl, gSl_tup, gSl_lst, cut_1, dEnds, gIs, isB, dNever, dCallX, dRaise, dTry, dFld, dCallV, gLRng, gFrz, dFrz, dFor, dLc, wipeD, dYes,
  sizeLine_eq, Nat.reduceLeDiff, gEq_int, gNe_int, gEq_strs, gNe_strs, gIn_two, gRepr_bl, rs_lst, rs_tup, rs_scr, rs_int, atI_0, atI_1, atI_2, atI_3, atI_4, atI_5, ixN_30, ixN_31, ixN_32, gEq_bl, gNe_bl, decide_eq_true_eq, beq_iff_eq, Bool.not_eq_true', beq_eq_false_iff_ne, decide_eq_false_iff_not, Bool.not_true, Bool.not_false, if_true, if_false, Bool.false_eq_true, ite_true, ite_false, true_and, and_true, ne_eq, Bool.bne_false, Bool.bne_true, reduceCtorEq])
local macro_rules | `(tactic| walk_at "rh") => `(tactic| simp only [*, startD, List.map, List.replicate, List.length_cons, List.length_nil, List.append_eq, List.append_nil, List.nil_append, List.cons_append, Nat.reduceSub, Nat.reduceAdd, List.getElem?_cons_zero, List.getElem?_cons_succ, List.set_cons_zero, List.set_cons_succ,
  dC, dVar, dOp, dTru, gTru, tru, dChain, dAnd, dOr, dNot, dAndV, dOrV, dNotV, dIf, dNeg, gNeg, dNil, dCons, dTup, dLst, dOwn, gIx, rBin, gAdd, gCmpI, dCall, dCallK, dSeq, dNext, dDrop, dRet, dRetN, dIfS, dName, dGNil, dGCons, dGTup, dSub, gSetL, dAsg, dPar, dPar3, dAug, gIpI, dSeqI, gSeqI, dRngI, gRng1, gRng2, dCB, gAbs, gInt, gMax, gMin, gGcd, gLen, lenD, gIsi, tyM, tyD, dBits, gBits, dMet, gAppend, dPart, dNoPart, dSl, gSl_tup, gSl_lst, cut_1, dEnds, gIs, isB, dNever, dCallX, dRaise, dTry, dFld, dCallV, gLRng, gFrz, dFrz, dFor, dLc, wipeD, dYes,
  sizeLine_eq, Nat.reduceLeDiff, gEq_int, gNe_int, gEq_strs, gNe_strs, gIn_two, gRepr_bl, rs_lst, rs_tup, rs_scr, rs_int, atI_0, atI_1, atI_2, atI_3, atI_4, atI_5, ixN_30, ixN_31, ixN_32, gEq_bl, gNe_bl, decide_eq_true_eq, beq_iff_eq, Bool.not_eq_true', beq_eq_false_iff_ne, decide_eq_false_iff_not, Bool.not_true, Bool.not_false, if_true, if_false, Bool.false_eq_true, ite_true, ite_false, true_and, and_true, ne_eq, Bool.bne_false, Bool.bne_true, reduceCtorEq])
local macro_rules | `(tactic| walk_at "kb") => `(tactic| simp only [kb_NoneType_list, kb_bool_list, kb_int_list, kb_str_list, kb_tuple_list, kb_list_list, kb_dict_list, kb_NoneType_int, kb_bool_int, kb_int_int, kb_str_int, kb_tuple_int, kb_list_int, kb_dict_int, kb_NoneType_bool, kb_bool_bool, kb_int_bool, kb_str_bool, kb_tuple_bool, kb_list_bool, kb_dict_bool, kb_NoneType_tuple, kb_bool_tuple, kb_int_tuple, kb_str_tuple, kb_tuple_tuple, kb_list_tuple, kb_dict_tuple, if_true, if_false, Bool.false_eq_true, ite_true, ite_false, Bool.not_true, Bool.not_false])
/-! RdGG: what the sheets' laws reckon with -/
theorem RV.same {m X Y B X' Y' B' : Int} {nx nb mx mb : Nat} {d d' : D} (h : RV m nx nb d X Y B) (h' : RV m mx mb d' X' Y' B') (h1 : X * B' = X' * B) (h2 : Y * B' = Y' * B) : d = d' := by
  rw [h.eq, h'.eq, rn_eq h.b0 h'.b0 h1 h2]
/-! ### the side told by the law -/
/-! ### the side of the square -/
/-- a cutting of items of up to 99 bits -/
structure CK (a b c e : Int) : Prop where
  cut : isCut a b c e = true
  ba : Bi 100 a
  bb : Bi 100 b
  bc : Bi 100 c
  be : Bi 100 e
  bm : Bi 200 (meas4 b c e)
  m0 : 0 ≤ meas4 b c e
/-! ### a drawn cutting -/
end DL
namespace DL
open PySem PySem.Spec PyProof.Rows L2
local macro_rules | `(tactic| walk_at "rd") => `(tactic| simp only [startD, List.map, List.replicate, List.length_cons, List.length_nil, List.append_eq, List.append_nil, List.nil_append, List.cons_append, Nat.reduceSub, Nat.reduceAdd, List.getElem?_cons_zero, List.getElem?_cons_succ, List.set_cons_zero, List.set_cons_succ,
  dC, dVar, dOp, dTru, gTru, tru, dChain, dAnd, dOr, dNot, dAndV, dOrV, dNotV, dIf, dNeg, gNeg, dNil, dCons, dTup, dLst, dOwn, gIx, rBin, gAdd, gCmpI, dCall, dCallK, dSeq, dNext, dDrop, dRet, dRetN, dIfS, dName, dGNil, dGCons, dGTup, dSub, gSetL, dAsg, dPar, dPar3, dAug, gIpI, dSeqI, gSeqI, dRngI, gRng1, gRng2, dCB, gAbs, gInt, gMax, gMin, gGcd, gLen, lenD, gIsi, tyM, tyD, dBits, gBits, dMet, gAppend, dPart, dNoPart, dSl, gSl_tup, gSl_lst, cut_1, dEnds, gIs, isB, dNever, dCallX, dRaise, dTry, dFld, dCallV, gLRng, gFrz, dFrz, dFor, dLc, wipeD, dYes,
  sizeLine_eq, Nat.reduceLeDiff, gEq_int, gNe_int, gEq_strs, gNe_strs, gIn_two, gRepr_bl, rs_lst, rs_tup, rs_scr, rs_int, atI_0, atI_1, atI_2, atI_3, atI_4, atI_5, ixN_30, ixN_31, ixN_32, gEq_bl, gNe_bl, decide_eq_true_eq, beq_iff_eq, Bool.not_eq_true', beq_eq_false_iff_ne, decide_eq_false_iff_not, Bool.not_true, Bool.not_false, if_true, if_false, Bool.false_eq_true, ite_true, ite_false, true_and, and_true, ne_eq, Bool.bne_false, Bool.bne_true, reduceCtorEq])
local macro_rules | `(tactic| walk_at "rh") => `(tactic| simp only [*, startD, List.map, List.replicate, List.length_cons, List.length_nil, List.append_eq, List.append_nil, List.nil_append, List.cons_append, Nat.reduceSub, Nat.reduceAdd, List.getElem?_cons_zero, List.getElem?_cons_succ, List.set_cons_zero, List.set_cons_succ,
  dC, dVar, dOp, dTru, gTru, tru, dChain, dAnd, dOr, dNot, dAndV, dOrV, dNotV, dIf, dNeg, gNeg, dNil, dCons, dTup, dLst, dOwn, gIx, rBin, gAdd, gCmpI, dCall, dCallK, dSeq, dNext, dDrop, dRet, dRetN, dIfS, dName, dGNil, dGCons, dGTup, dSub, gSetL, dAsg, dPar, dPar3, dAug, gIpI, dSeqI, gSeqI, dRngI, gRng1, gRng2, dCB, gAbs, gInt, gMax, gMin, gGcd, gLen, lenD, gIsi, tyM, tyD, dBits, gBits, dMet, gAppend, dPart, dNoPart, dSl, gSl_tup, gSl_lst, cut_1, dEnds, gIs, isB, dNever, dCallX, dRaise, dTry, dFld, dCallV, gLRng, gFrz, dFrz, dFor, dLc, wipeD, dYes,
  sizeLine_eq, Nat.reduceLeDiff, gEq_int, gNe_int, gEq_strs, gNe_strs, gIn_two, gRepr_bl, rs_lst, rs_tup, rs_scr, rs_int, atI_0, atI_1, atI_2, atI_3, atI_4, atI_5, ixN_30, ixN_31, ixN_32, gEq_bl, gNe_bl, decide_eq_true_eq, beq_iff_eq, Bool.not_eq_true', beq_eq_false_iff_ne, decide_eq_false_iff_not, Bool.not_true, Bool.not_false, if_true, if_false, Bool.false_eq_true, ite_true, ite_false, true_and, and_true, ne_eq, Bool.bne_false, Bool.bne_true, reduceCtorEq])
local macro_rules | `(tactic| walk_at "kb") => `(tactic| simp only [kb_NoneType_list, kb_bool_list, kb_int_list, kb_str_list, kb_tuple_list, kb_list_list, kb_dict_list, kb_NoneType_int, kb_bool_int, kb_int_int, kb_str_int, kb_tuple_int, kb_list_int, kb_dict_int, kb_NoneType_bool, kb_bool_bool, kb_int_bool, kb_str_bool, kb_tuple_bool, kb_list_bool, kb_dict_bool, kb_NoneType_tuple, kb_bool_tuple, kb_int_tuple, kb_str_tuple, kb_tuple_tuple, kb_list_tuple, kb_dict_tuple, if_true, if_false, Bool.false_eq_true, ite_true, ite_false, Bool.not_true, Bool.not_false])
/-! ### the outline -/
def cS (m e : Int) : D := rootN m e 1 2
/-! ### the law's own outline -/
theorem RV.up {m X Y B : Int} {nx nb mx mb : Nat} {d : D} (h : RV m nx nb d X Y B) (h1 : nx ≤ mx := by decide) (h2 : nb ≤ mb := by decide) : RV m mx mb d X Y B := ⟨h.eq, h.b0, h.bx.up h1, h.bY.up h1, h.bB.up h2⟩
theorem b0 : Bi 100 0 := Bi.of_abs 0 (by decide) (by decide)
/-! ### the area -/
/-! ### less than -/
/-! ### all ends are one -/
/-! ### one cutting's outline is right -/
structure Sh4 (d : D) : Prop where
  f : fine 10 d = true
  l : lit 400 d = true
  w : wt 400 d ≤ 40000
theorem Sh4.shown {d : D} (h : Sh4 d) (M : Mem) : ∃ z, shwnZ (resD M d) = some z := by
  rw [resD_fine M 10 d h.f]
  obtain ⟨z, hz⟩ := shw_of 400 10 h.f h.l (by have := h.w; omega)
  exact ⟨z, shwnZ_of hz⟩
theorem gNe_str_same {z : Str} {M : Mem} {Q : DQ} (q : Q (.bl false) M) : gNe (.str z) (.str z) M Q := by rw [gNe_strs, str_self]; exact q
/-! ### the law -/
end DL
namespace DL
open PySem PySem.Spec PyProof.Rows L2
local macro_rules | `(tactic| walk_at "rd") => `(tactic| simp only [startD, List.map, List.replicate, List.length_cons, List.length_nil, List.append_eq, List.append_nil, List.nil_append, List.cons_append, Nat.reduceSub, Nat.reduceAdd, List.getElem?_cons_zero, List.getElem?_cons_succ, List.set_cons_zero, List.set_cons_succ,
  dC, dVar, dOp, dTru, gTru, tru, dChain, dAnd, dOr, dNot, dAndV, dOrV, dNotV, dIf, dNeg, gNeg, dNil, dCons, dTup, dLst, dOwn, gIx, rBin, gAdd, gCmpI, dCall, dCallK, dSeq, dNext, dDrop, dRet, dRetN, dIfS, dName, dGNil, dGCons, dGTup, dSub, gSetL, dAsg, dPar, dPar3, dAug, gIpI, dSeqI, gSeqI, dRngI, gRng1, gRng2, dCB, gAbs, gInt, gMax, gMin, gGcd, gLen, lenD, gIsi, tyM, tyD, dBits, gBits, dMet, gAppend, dPart, dNoPart, dSl, gSl_tup, gSl_lst, cut_1, dEnds, gIs, isB, dNever, dCallX, dRaise, dTry, dFld, dCallV, gLRng, gFrz, dFrz, dFor, dLc, wipeD, dYes,
  sizeLine_eq, Nat.reduceLeDiff, gEq_int, gNe_int, gEq_strs, gNe_strs, gIn_two, gRepr_bl, rs_lst, rs_tup, rs_scr, rs_int, atI_0, atI_1, atI_2, atI_3, atI_4, atI_5, ixN_30, ixN_31, ixN_32, gEq_bl, gNe_bl, decide_eq_true_eq, beq_iff_eq, Bool.not_eq_true', beq_eq_false_iff_ne, decide_eq_false_iff_not, Bool.not_true, Bool.not_false, if_true, if_false, Bool.false_eq_true, ite_true, ite_false, true_and, and_true, ne_eq, Bool.bne_false, Bool.bne_true, reduceCtorEq])
local macro_rules | `(tactic| walk_at "rh") => `(tactic| simp only [*, startD, List.map, List.replicate, List.length_cons, List.length_nil, List.append_eq, List.append_nil, List.nil_append, List.cons_append, Nat.reduceSub, Nat.reduceAdd, List.getElem?_cons_zero, List.getElem?_cons_succ, List.set_cons_zero, List.set_cons_succ,
  dC, dVar, dOp, dTru, gTru, tru, dChain, dAnd, dOr, dNot, dAndV, dOrV, dNotV, dIf, dNeg, gNeg, dNil, dCons, dTup, dLst, dOwn, gIx, rBin, gAdd, gCmpI, dCall, dCallK, dSeq, dNext, dDrop, dRet, dRetN, dIfS, dName, dGNil, dGCons, dGTup, dSub, gSetL, dAsg, dPar, dPar3, dAug, gIpI, dSeqI, gSeqI, dRngI, gRng1, gRng2, dCB, gAbs, gInt, gMax, gMin, gGcd, gLen, lenD, gIsi, tyM, tyD, dBits, gBits, dMet, gAppend, dPart, dNoPart, dSl, gSl_tup, gSl_lst, cut_1, dEnds, gIs, isB, dNever, dCallX, dRaise, dTry, dFld, dCallV, gLRng, gFrz, dFrz, dFor, dLc, wipeD, dYes,
  sizeLine_eq, Nat.reduceLeDiff, gEq_int, gNe_int, gEq_strs, gNe_strs, gIn_two, gRepr_bl, rs_lst, rs_tup, rs_scr, rs_int, atI_0, atI_1, atI_2, atI_3, atI_4, atI_5, ixN_30, ixN_31, ixN_32, gEq_bl, gNe_bl, decide_eq_true_eq, beq_iff_eq, Bool.not_eq_true', beq_eq_false_iff_ne, decide_eq_false_iff_not, Bool.not_true, Bool.not_false, if_true, if_false, Bool.false_eq_true, ite_true, ite_false, true_and, and_true, ne_eq, Bool.bne_false, Bool.bne_true, reduceCtorEq])
local macro_rules | `(tactic| walk_at "kb") => `(tactic| simp only [kb_NoneType_list, kb_bool_list, kb_int_list, kb_str_list, kb_tuple_list, kb_list_list, kb_dict_list, kb_NoneType_int, kb_bool_int, kb_int_int, kb_str_int, kb_tuple_int, kb_list_int, kb_dict_int, kb_NoneType_bool, kb_bool_bool, kb_int_bool, kb_str_bool, kb_tuple_bool, kb_list_bool, kb_dict_bool, kb_NoneType_tuple, kb_bool_tuple, kb_int_tuple, kb_str_tuple, kb_tuple_tuple, kb_list_tuple, kb_dict_tuple, if_true, if_false, Bool.false_eq_true, ite_true, ite_false, Bool.not_true, Bool.not_false])
/-! RdHH: paths; division, vectors, bands -/
abbrev P4 (a b c d : Int) : D := .lst [.int a, .int b, .int c, .int d]
theorem isL {M : Mem} {d : D} {l : List D} (h : res M d = .lst l) : d = .lst l ∨ ∃ k, d = .own k ∧ M[k]? = some (.lst l) := by
  cases d <;> first | (cases h; done) | skip
  · exact .inl h
  · rename_i k
    unfold res at h
    dsimp only at h
    split at h
    · rename_i ds hk
      cases h
      exact .inr ⟨k, rfl, hk⟩
    · cases h
def sp_is_path_list : DSp := fun ds M Q _ => ∃ x a b c d, ds = [x] ∧ res M x = P4 a b c d ∧ Q (.bl true) M
theorem rd_is_path_list : ∀ ds M Q, ds.length = 1 → sp_is_path_list ds M Q DX0 → t_is_path_list sp_is_whole (dEnds M Q) (startD 2 ds) M := by
  rintro _ M Q - ⟨x, a, b, c, d, rfl, hx, q⟩
  unfold t_is_path_list
  have fil : ∀ {r : Env} {Q' : DQ} {C : Mem → Prop}, r.length = 2 → C M → Q' (.lst []) M → lcW false [D.int a, .int b, .int c, .int d] C (dName 1) (dNot (dTru (dCall 1 sp_is_whole [] DX0 (dCons (dVar 1) dNil)))) (dVar 1) r M Q' := by
    intro r Q' C hr hC hq
    refine lcW_pure (fun _ => none) hC (by rw [sizeLine_eq]; exact (by decide : (4 : Nat) ≤ 16777216)) (fun e he Y N hy => ?_) hq
    obtain ⟨j, rfl⟩ : ∃ j, e = .int j := by
      simp only [List.mem_cons, List.not_mem_nil, or_false] at he
      rcases he with rfl | rfl | rfl | rfl <;> exact ⟨_, rfl⟩
    have er : (r.set 1 (some (D.int j)))[1]? = some (some (D.int j)) := List.getElem?_set_self (by omega)
    walk_at "rd"
    simp only [er]
    exact ⟨.int j, _, rfl, rfl, hy⟩
  rcases isL hx with rfl | ⟨k, rfl, hk⟩
  · walk_at "rd"
    walk_at "kb"
    rw [if_pos (show ((4 : Nat) : Int) = 4 from rfl)]
    refine fil (C := fun _ => True) rfl trivial ?_
    exact gEq_same (n := 2) rfl (rtq q)
  · walk_at "rd"
    simp only [hk]
    walk_at "kb"
    rw [if_pos (show (([D.int a, .int b, .int c, .int d].length : Nat) : Int) = 4 from rfl)]
    refine fil (C := fun M' => M'[k]? = some (.lst [.int a, .int b, .int c, .int d])) rfl hk ?_
    exact gEq_same (n := 2) rfl (rtq q)
def sp_check_path : DSp := fun ds M Q _ => ∃ x a b c d, ds = [x] ∧ res M x = P4 a b c d ∧ Q .non M
section
variable {m X Y B X' Y' B' t1 t2 t3 k s1 s2 s3 j : Int}
theorem sq_split {m X Y : Int} (hq : isSq m) : X * X - m * Y * Y = (X + Y * isq m) * (X - Y * isq m) := by
  have hq' : isq m * isq m = m := hq
  have : (X + Y * isq m) * (X - Y * isq m) = X * X - (isq m * isq m) * Y * Y := by grind
  rw [this, hq']
theorem RT.ne {nx nb : Nat} {y : D} (T : RT m nx nb y X' Y' B' s1 s2 s3 j) (hN : X' * X' - m * Y' * Y' ≠ 0) : ¬ (s1 = 0 ∧ s2 = 0) := fun ⟨z1, z2⟩ => hN (by
  have f1 := T.e1
  have f2 := T.e2
  rw [z1, Int.mul_zero] at f1
  rw [z2, Int.mul_zero] at f2
  by_cases hq : isSq m
  · rw [rnX, if_pos hq] at f1
    rw [sq_split hq, f1, Int.zero_mul]
  · rw [rnX, if_neg hq] at f1
    rw [rnY, if_neg hq] at f2
    rw [f1, f2]; simp)
end
/-! ### the vectors of paths -/
/-! ### a vector, scaled -/
/-! ### both bands -/
/-- a cutting whose measure has up to 96 bits -/
structure CS (a b c e : Int) : Prop where
  cut : isCut a b c e = true
  sm : Bi 96 (meas4 b c e)
theorem CS.cb {a b c e : Int} (h : CS a b c e) : CutB 96 a b c e := cut_bi h.cut h.sm
theorem CS.ck {a b c e : Int} (h : CS a b c e) : CK a b c e := by
  obtain ⟨h1, h2, h3, h4⟩ := h.cb
  exact ⟨h.cut, h1.mono, h2.mono, h3.mono, h4.mono, h.sm.mono, by have := cut_le h.cut; omega⟩
/-- a cutting, a deed of it, where it leads -/
structure DeS (a b c e p q a' w g e' : Int) : Prop where
  cs : CS a b c e
  deed : isDeed b c e p q = true
  bp : Bi 100 p
  bq : Bi 100 q
  dn : IsDone a b c e p q a' w g e'
theorem DeS.cs' {a b c e p q a' w g e' : Int} (h : DeS a b c e p q a' w g e') : CS a' w g e' ∧ meas4 w g e' = meas4 b c e ∧ 0 < g := by
  obtain ⟨h1, h2, h3⟩ := done_of h.cs.cut h.deed h.dn
  exact ⟨⟨h1, by rw [h2]; exact h.cs.sm⟩, h2, h3⟩
theorem DeS.one {a b c e p q a' w g e' a2 w2 g2 e2 : Int} (h : DeS a b c e p q a' w g e') (k : IsDone a b c e p q a2 w2 g2 e2) : a2 = a' ∧ w2 = w ∧ g2 = g ∧ e2 = e' := by
  have := h.cs'.2.2
  obtain ⟨r1, r2, r3, r4⟩ := isDone_unique (by omega) h.dn k
  exact ⟨r1.symm, r2.symm, r3.symm, r4.symm⟩
/-! ### the law's own way to a common divisor, to what a deed makes -/
/-! ### a drawn deed -/
end DL
namespace DL
/-! MK: two columns led down by sums of one another -/
end DL
namespace DL
/-! ML: the table of a deed; plain -/
structure DTab (a b c e p q a' w g x z o0 o1 s2 t2 : Int) : Prop where
  pz : p * z - q * x = 1
  z0 : 0 ≤ z
  z1 : z < q * (w / (Int.gcd w g : Int))
  c1 : o0 * (p * b + q * a) + o1 * (q * c) = g
  c2 : s2 * (p * b + q * a) + t2 * (q * c) = 0
  c3 : o0 * (x * b + z * a + e + q * c) + o1 * (z * c) = 0 - a'
  c4 : s2 * (x * b + z * a + e + q * c) + t2 * (z * c) = w
end DL
namespace DL
open PySem PySem.Spec PyProof.Rows L2
local macro_rules | `(tactic| walk_at "rd") => `(tactic| simp only [startD, List.map, List.replicate, List.length_cons, List.length_nil, List.append_eq, List.append_nil, List.nil_append, List.cons_append, Nat.reduceSub, Nat.reduceAdd, List.getElem?_cons_zero, List.getElem?_cons_succ, List.set_cons_zero, List.set_cons_succ,
  dC, dVar, dOp, dTru, gTru, tru, dChain, dAnd, dOr, dNot, dAndV, dOrV, dNotV, dIf, dNeg, gNeg, dNil, dCons, dTup, dLst, dOwn, gIx, rBin, gAdd, gCmpI, dCall, dCallK, dSeq, dNext, dDrop, dRet, dRetN, dIfS, dName, dGNil, dGCons, dGTup, dSub, gSetL, dAsg, dPar, dPar3, dAug, gIpI, dSeqI, gSeqI, dRngI, gRng1, gRng2, dCB, gAbs, gInt, gMax, gMin, gGcd, gLen, lenD, gIsi, tyM, tyD, dBits, gBits, dMet, gAppend, dPart, dNoPart, dSl, gSl_tup, gSl_lst, cut_1, dEnds, gIs, isB, dNever, dCallX, dRaise, dTry, dFld, dCallV, gLRng, gFrz, dFrz, dFor, dLc, wipeD, dYes,
  sizeLine_eq, Nat.reduceLeDiff, gEq_int, gNe_int, gEq_strs, gNe_strs, gIn_two, gRepr_bl, rs_lst, rs_tup, rs_scr, rs_int, atI_0, atI_1, atI_2, atI_3, atI_4, atI_5, ixN_30, ixN_31, ixN_32, gEq_bl, gNe_bl, decide_eq_true_eq, beq_iff_eq, Bool.not_eq_true', beq_eq_false_iff_ne, decide_eq_false_iff_not, Bool.not_true, Bool.not_false, if_true, if_false, Bool.false_eq_true, ite_true, ite_false, true_and, and_true, ne_eq, Bool.bne_false, Bool.bne_true, reduceCtorEq])
local macro_rules | `(tactic| walk_at "rh") => `(tactic| simp only [*, startD, List.map, List.replicate, List.length_cons, List.length_nil, List.append_eq, List.append_nil, List.nil_append, List.cons_append, Nat.reduceSub, Nat.reduceAdd, List.getElem?_cons_zero, List.getElem?_cons_succ, List.set_cons_zero, List.set_cons_succ,
  dC, dVar, dOp, dTru, gTru, tru, dChain, dAnd, dOr, dNot, dAndV, dOrV, dNotV, dIf, dNeg, gNeg, dNil, dCons, dTup, dLst, dOwn, gIx, rBin, gAdd, gCmpI, dCall, dCallK, dSeq, dNext, dDrop, dRet, dRetN, dIfS, dName, dGNil, dGCons, dGTup, dSub, gSetL, dAsg, dPar, dPar3, dAug, gIpI, dSeqI, gSeqI, dRngI, gRng1, gRng2, dCB, gAbs, gInt, gMax, gMin, gGcd, gLen, lenD, gIsi, tyM, tyD, dBits, gBits, dMet, gAppend, dPart, dNoPart, dSl, gSl_tup, gSl_lst, cut_1, dEnds, gIs, isB, dNever, dCallX, dRaise, dTry, dFld, dCallV, gLRng, gFrz, dFrz, dFor, dLc, wipeD, dYes,
  sizeLine_eq, Nat.reduceLeDiff, gEq_int, gNe_int, gEq_strs, gNe_strs, gIn_two, gRepr_bl, rs_lst, rs_tup, rs_scr, rs_int, atI_0, atI_1, atI_2, atI_3, atI_4, atI_5, ixN_30, ixN_31, ixN_32, gEq_bl, gNe_bl, decide_eq_true_eq, beq_iff_eq, Bool.not_eq_true', beq_eq_false_iff_ne, decide_eq_false_iff_not, Bool.not_true, Bool.not_false, if_true, if_false, Bool.false_eq_true, ite_true, ite_false, true_and, and_true, ne_eq, Bool.bne_false, Bool.bne_true, reduceCtorEq])
local macro_rules | `(tactic| walk_at "kb") => `(tactic| simp only [kb_NoneType_list, kb_bool_list, kb_int_list, kb_str_list, kb_tuple_list, kb_list_list, kb_dict_list, kb_NoneType_int, kb_bool_int, kb_int_int, kb_str_int, kb_tuple_int, kb_list_int, kb_dict_int, kb_NoneType_bool, kb_bool_bool, kb_int_bool, kb_str_bool, kb_tuple_bool, kb_list_bool, kb_dict_bool, kb_NoneType_tuple, kb_bool_tuple, kb_int_tuple, kb_str_tuple, kb_tuple_tuple, kb_list_tuple, kb_dict_tuple, if_true, if_false, Bool.false_eq_true, ite_true, ite_false, Bool.not_true, Bool.not_false])
/-! RdII: the table of a deed -/
/-! ### turned about -/
abbrev R4 (a b c d : Int) : D := .lst [.int a, .int b, .int c, .int d]
/-! ### the table of a deed -/
end DL
namespace DL
open PySem PySem.Spec PyProof.Rows L2
local macro_rules | `(tactic| walk_at "rd") => `(tactic| simp only [startD, List.map, List.replicate, List.length_cons, List.length_nil, List.append_eq, List.append_nil, List.nil_append, List.cons_append, Nat.reduceSub, Nat.reduceAdd, List.getElem?_cons_zero, List.getElem?_cons_succ, List.set_cons_zero, List.set_cons_succ,
  dC, dVar, dOp, dTru, gTru, tru, dChain, dAnd, dOr, dNot, dAndV, dOrV, dNotV, dIf, dNeg, gNeg, dNil, dCons, dTup, dLst, dOwn, gIx, rBin, gAdd, gCmpI, dCall, dCallK, dSeq, dNext, dDrop, dRet, dRetN, dIfS, dName, dGNil, dGCons, dGTup, dSub, gSetL, dAsg, dPar, dPar3, dAug, gIpI, dSeqI, gSeqI, dRngI, gRng1, gRng2, dCB, gAbs, gInt, gMax, gMin, gGcd, gLen, lenD, gIsi, tyM, tyD, dBits, gBits, dMet, gAppend, dPart, dNoPart, dSl, gSl_tup, gSl_lst, cut_1, dEnds, gIs, isB, dNever, dCallX, dRaise, dTry, dFld, dCallV, gLRng, gFrz, dFrz, dFor, dLc, wipeD, dYes,
  sizeLine_eq, Nat.reduceLeDiff, gEq_int, gNe_int, gEq_strs, gNe_strs, gIn_two, gRepr_bl, rs_lst, rs_tup, rs_scr, rs_int, atI_0, atI_1, atI_2, atI_3, atI_4, atI_5, ixN_30, ixN_31, ixN_32, gEq_bl, gNe_bl, decide_eq_true_eq, beq_iff_eq, Bool.not_eq_true', beq_eq_false_iff_ne, decide_eq_false_iff_not, Bool.not_true, Bool.not_false, if_true, if_false, Bool.false_eq_true, ite_true, ite_false, true_and, and_true, ne_eq, Bool.bne_false, Bool.bne_true, reduceCtorEq])
local macro_rules | `(tactic| walk_at "rh") => `(tactic| simp only [*, startD, List.map, List.replicate, List.length_cons, List.length_nil, List.append_eq, List.append_nil, List.nil_append, List.cons_append, Nat.reduceSub, Nat.reduceAdd, List.getElem?_cons_zero, List.getElem?_cons_succ, List.set_cons_zero, List.set_cons_succ,
  dC, dVar, dOp, dTru, gTru, tru, dChain, dAnd, dOr, dNot, dAndV, dOrV, dNotV, dIf, dNeg, gNeg, dNil, dCons, dTup, dLst, dOwn, gIx, rBin, gAdd, gCmpI, dCall, dCallK, dSeq, dNext, dDrop, dRet, dRetN, dIfS, dName, dGNil, dGCons, dGTup, dSub, gSetL, dAsg, dPar, dPar3, dAug, gIpI, dSeqI, gSeqI, dRngI, gRng1, gRng2, dCB, gAbs, gInt, gMax, gMin, gGcd, gLen, lenD, gIsi, tyM, tyD, dBits, gBits, dMet, gAppend, dPart, dNoPart, dSl, gSl_tup, gSl_lst, cut_1, dEnds, gIs, isB, dNever, dCallX, dRaise, dTry, dFld, dCallV, gLRng, gFrz, dFrz, dFor, dLc, wipeD, dYes,
  sizeLine_eq, Nat.reduceLeDiff, gEq_int, gNe_int, gEq_strs, gNe_strs, gIn_two, gRepr_bl, rs_lst, rs_tup, rs_scr, rs_int, atI_0, atI_1, atI_2, atI_3, atI_4, atI_5, ixN_30, ixN_31, ixN_32, gEq_bl, gNe_bl, decide_eq_true_eq, beq_iff_eq, Bool.not_eq_true', beq_eq_false_iff_ne, decide_eq_false_iff_not, Bool.not_true, Bool.not_false, if_true, if_false, Bool.false_eq_true, ite_true, ite_false, true_and, and_true, ne_eq, Bool.bne_false, Bool.bne_true, reduceCtorEq])
local macro_rules | `(tactic| walk_at "kb") => `(tactic| simp only [kb_NoneType_list, kb_bool_list, kb_int_list, kb_str_list, kb_tuple_list, kb_list_list, kb_dict_list, kb_NoneType_int, kb_bool_int, kb_int_int, kb_str_int, kb_tuple_int, kb_list_int, kb_dict_int, kb_NoneType_bool, kb_bool_bool, kb_int_bool, kb_str_bool, kb_tuple_bool, kb_list_bool, kb_dict_bool, kb_NoneType_tuple, kb_bool_tuple, kb_int_tuple, kb_str_tuple, kb_tuple_tuple, kb_list_tuple, kb_dict_tuple, if_true, if_false, Bool.false_eq_true, ite_true, ite_false, Bool.not_true, Bool.not_false])
/-! RdJJ: the change of a deed -/
/-- the items that a table gives are small -/
theorem tab_bi {a b c e p q a' w g e' x z o0 o1 s2 t2 : Int} (h : DeS a b c e p q a' w g e') (k : DTab a b c e p q a' w g x z o0 o1 s2 t2) : Bi 202 z ∧ Bi 305 x := by
  obtain ⟨cs', hm', g0⟩ := h.cs'
  have bw := cs'.ck.bb
  have hp := (isDeed_parts h.deed).1
  obtain ⟨l1, l2, _⟩ := cut_parts cs'.cut
  have z1 := k.z1
  have z0 := k.z0
  have hS : w / (Int.gcd w g : Int) ≤ w := Int.ediv_le_self _ (by omega)
  have h1 : q * (w / (Int.gcd w g : Int)) ≤ q * w := Int.mul_le_mul_of_nonneg_left hS (by have := hp.q1; omega)
  have b1 : Bi 200 (q * w) := h.bq.mul bw
  have bz : Bi 202 z := by
    have b2 : Bi 202 (q * w) := b1.mono
    unfold Bi at b2 ⊢
    omega
  refine ⟨bz, ?_⟩
  have e1 : p * z - 1 = q * x := by have := k.pz; omega
  exact Bi.of_dvd (n := 305) (((h.bp.mul bz).up (by decide : 302 ≤ 304)).sub (Bi.of_abs 1 (by decide) (by decide))) (by have := hp.q1; omega) e1
/-! ### vectors, looked at -/
/-! ### what a change leads a vector to -/
end DL
namespace DL
/-! MM: one turn is right; plain -/
/-- the table's law, solved for the four numbers -/
theorem DTab.sol {a b c e p q a' w g e' x z o0 o1 s2 t2 : Int} (hg : 0 < g) (hw : 0 < w) (hn : IsDone a b c e p q a' w g e') (k : DTab a b c e p q a' w g x z o0 o1 s2 t2) :
    o0 * t2 - o1 * s2 = 1 ∧ p * b + q * a = t2 * g ∧ q * c = 0 - s2 * g ∧ x * b + z * a + e + q * c = 0 - t2 * a' - o1 * w ∧ z * c = s2 * a' + o0 * w := by
  have hwi := wide_of (a := a) hn.wi k.pz
  have c1 := k.c1
  have c2 := k.c2
  have c3 := k.c3
  have c4 := k.c4
  generalize p * b + q * a = I at *
  generalize q * c = J at *
  generalize x * b + z * a + e + J = K at *
  generalize z * c = L at *
  have hd : o0 * t2 - o1 * s2 = 1 := by
    have h1 : (o0 * t2 - o1 * s2) * (I * L - J * K) = (o0 * I + o1 * J) * (s2 * K + t2 * L) - (s2 * I + t2 * J) * (o0 * K + o1 * L) := by grind
    rw [c1, c2, c4, hwi, Int.zero_mul, Int.sub_zero] at h1
    have h2 : w * g * (o0 * t2 - o1 * s2) = w * g * 1 := by rw [Int.mul_comm (w * g), h1, Int.mul_one, Int.mul_comm]
    exact Int.eq_of_mul_eq_mul_left (by have := Int.mul_pos hw hg; omega) h2
  refine ⟨hd, ?_, ?_, ?_, ?_⟩
  · have : I = t2 * (o0 * I + o1 * J) - o1 * (s2 * I + t2 * J) := by
      have : t2 * (o0 * I + o1 * J) - o1 * (s2 * I + t2 * J) = (o0 * t2 - o1 * s2) * I := by grind
      rw [this, hd, Int.one_mul]
    rw [this, c1, c2, Int.mul_zero, Int.sub_zero]
  · have : J = o0 * (s2 * I + t2 * J) - s2 * (o0 * I + o1 * J) := by
      have : o0 * (s2 * I + t2 * J) - s2 * (o0 * I + o1 * J) = (o0 * t2 - o1 * s2) * J := by grind
      rw [this, hd, Int.one_mul]
    rw [this, c1, c2, Int.mul_zero]
  · have : K = t2 * (o0 * K + o1 * L) - o1 * (s2 * K + t2 * L) := by
      have : t2 * (o0 * K + o1 * L) - o1 * (s2 * K + t2 * L) = (o0 * t2 - o1 * s2) * K := by grind
      rw [this, hd, Int.one_mul]
    rw [this, c3, c4]; grind
  · have : L = o0 * (s2 * K + t2 * L) - s2 * (o0 * K + o1 * L) := by
      have : o0 * (s2 * K + t2 * L) - s2 * (o0 * K + o1 * L) = (o0 * t2 - o1 * s2) * L := by grind
      rw [this, hd, Int.one_mul]
    rw [this, c3, c4]; grind
theorem turn_iff {w g n : Int} (hw : 0 < w) (hg : 0 < g) : w ∣ n * g ↔ (w / (Int.gcd w g : Int)) ∣ n := by
  obtain ⟨sh, esh⟩ : ∃ sh : Int, (Int.gcd w g : Int) = sh := ⟨_, rfl⟩
  have sh0 : 0 < sh := by
    have := Int.gcd_pos_of_ne_zero_right w (show g ≠ 0 by omega)
    omega
  obtain ⟨S, hS⟩ : sh ∣ w := by rw [← esh]; exact Int.gcd_dvd_left _ _
  obtain ⟨G, hG⟩ : sh ∣ g := by rw [← esh]; exact Int.gcd_dvd_right _ _
  have eS : w / sh = S := by rw [hS, Int.mul_ediv_cancel_left _ (by omega)]
  have cop : Int.gcd S G = 1 := by
    have h1 : ((Int.gcd (sh * S) (sh * G) : Nat) : Int) = sh := by rw [← hS, ← hG]; exact esh
    rw [Int.gcd_mul_left, Int.natCast_mul] at h1
    have h2 : ((sh.natAbs : Nat) : Int) = sh := by omega
    rw [h2] at h1
    have h3 : sh * (Int.gcd S G : Int) = sh * 1 := by omega
    have := Int.eq_of_mul_eq_mul_left (by omega) h3
    omega
  rw [esh, eS, hS, hG]
  constructor
  · rintro ⟨j, hj⟩
    have h1 : n * G = S * j := by
      have : sh * (n * G) = sh * (S * j) := by
        have e1 : n * (sh * G) = sh * (n * G) := by grind
        have e2 : sh * S * j = sh * (S * j) := by grind
        omega
      exact Int.eq_of_mul_eq_mul_left (by omega) this
    have h2 : S.natAbs ∣ n.natAbs * G.natAbs := by
      rw [← Int.natAbs_mul, Int.natAbs_dvd_natAbs]
      exact ⟨j, h1⟩
    have h3 : Nat.Coprime S.natAbs G.natAbs := cop
    exact Int.natAbs_dvd_natAbs.mp (h3.dvd_of_dvd_mul_right h2)
  · rintro ⟨j, rfl⟩
    exact ⟨j * G, by grind⟩
/-- which turns are right -/
theorem sums_turn {a b c e p q a' w g e' x z o0 o1 s2 t2 n : Int} (hg : 0 < g) (hw : 0 < w) (hn : IsDone a b c e p q a' w g e') (k : DTab a b c e p q a' w g x z o0 o1 s2 t2) :
    ((g ∣ 0 - q * c ∧ w ∣ (z + n * q) * c - (0 - q * c) / g * a') ∧ (g ∣ p * b + q * a ∧ w ∣ (0 - (q * c + ((x + n * p) * b + (z + n * q) * a) + e)) - (p * b + q * a) / g * a')) ↔ (w / (Int.gcd w g : Int)) ∣ n := by
  obtain ⟨hd, hI, hJ, hK, hL⟩ := k.sol hg hw hn
  rw [← turn_iff hw hg]
  have e1 : (0 - q * c) / g = s2 := by
    have : 0 - (0 - s2 * g) = s2 * g := by omega
    rw [hJ, this, Int.mul_ediv_cancel _ (by omega)]
  have e2 : (p * b + q * a) / g = t2 := by rw [hI, Int.mul_ediv_cancel _ (by omega)]
  have e3 : (z + n * q) * c - s2 * a' = o0 * w - s2 * (n * g) := by
    have : (z + n * q) * c = z * c + n * (q * c) := by grind
    rw [this, hL, hJ]; grind
  have e4 : (0 - (q * c + ((x + n * p) * b + (z + n * q) * a) + e)) - t2 * a' = o1 * w - t2 * (n * g) := by
    have : q * c + ((x + n * p) * b + (z + n * q) * a) + e = (x * b + z * a + e + q * c) + n * (p * b + q * a) := by grind
    rw [this, hK, hI]; grind
  rw [e1, e2, e3, e4]
  have d1 : g ∣ 0 - q * c := ⟨s2, by rw [hJ]; grind⟩
  have d2 : g ∣ p * b + q * a := ⟨t2, by rw [hI]; grind⟩
  have ow : ∀ u : Int, w ∣ u * w := fun u => Int.dvd_mul_left _ _
  constructor
  · rintro ⟨⟨_, h1⟩, _, h2⟩
    have h3 : w ∣ s2 * (n * g) := by
      have := Int.dvd_sub (ow o0) h1
      have e : o0 * w - (o0 * w - s2 * (n * g)) = s2 * (n * g) := by omega
      rwa [e] at this
    have h4 : w ∣ t2 * (n * g) := by
      have := Int.dvd_sub (ow o1) h2
      have e : o1 * w - (o1 * w - t2 * (n * g)) = t2 * (n * g) := by omega
      rwa [e] at this
    have e : n * g = o0 * (t2 * (n * g)) - o1 * (s2 * (n * g)) := by
      have : o0 * (t2 * (n * g)) - o1 * (s2 * (n * g)) = (o0 * t2 - o1 * s2) * (n * g) := by grind
      rw [this, hd, Int.one_mul]
    rw [e]
    exact Int.dvd_sub (Int.dvd_trans h4 (Int.dvd_mul_left _ _)) (Int.dvd_trans h3 (Int.dvd_mul_left _ _))
  · intro h
    exact ⟨⟨d1, Int.dvd_sub (ow _) (Int.dvd_trans h (Int.dvd_mul_left _ _))⟩, d2, Int.dvd_sub (ow _) (Int.dvd_trans h (Int.dvd_mul_left _ _))⟩
end DL
namespace DL
/-! MP: paths and tables as numbers -/
@[ext] structure V4 where
  a : Int
  b : Int
  c : Int
  d : Int
deriving DecidableEq
@[ext] structure M4 where
  a : V4
  b : V4
  c : V4
  d : V4
deriving DecidableEq
def V4.get (v : V4) : Nat → Int
  | 0 => v.a | 1 => v.b | 2 => v.c | _ => v.d
def M4.get (A : M4) : Nat → V4
  | 0 => A.a | 1 => A.b | 2 => A.c | _ => A.d
/-- the columns -/
def M4.T (A : M4) : M4 := ⟨⟨A.a.a, A.b.a, A.c.a, A.d.a⟩, ⟨A.a.b, A.b.b, A.c.b, A.d.b⟩, ⟨A.a.c, A.b.c, A.c.c, A.d.c⟩, ⟨A.a.d, A.b.d, A.c.d, A.d.d⟩⟩
def dot4 (v w : V4) : Int := v.a * w.a + v.b * w.b + v.c * w.c + v.d * w.d
def M4.led (A : M4) (v : V4) : V4 := ⟨dot4 A.a v, dot4 A.b v, dot4 A.c v, dot4 A.d v⟩
def crs (v w : V4) : Int := v.a * w.b - v.b * w.a + v.c * w.d - v.d * w.c
def bse : Nat → V4
  | 0 => ⟨1, 0, 0, 0⟩ | 1 => ⟨0, 1, 0, 0⟩ | 2 => ⟨0, 0, 1, 0⟩ | _ => ⟨0, 0, 0, 1⟩
def M4.one : M4 := ⟨bse 0, bse 1, bse 2, bse 3⟩
def M4.mul (A B : M4) : M4 := M4.T ⟨A.led B.T.a, A.led B.T.b, A.led B.T.c, A.led B.T.d⟩
def Keeps (A : M4) : Prop := ∀ i, i < 4 → ∀ j, j < 4 → crs (A.T.get i) (A.T.get j) = crs (bse i) (bse j)
/-- the deed's table -/
def tabM (p q x z o0 o1 s2 t2 : Int) : M4 := ⟨⟨0, 1, t2, -o1⟩, ⟨0, 0, -s2, o0⟩, ⟨p, x, -s2 * p, o0 * p⟩, ⟨q, z, -s2 * q, o0 * q⟩⟩
theorem crs_anti (v w : V4) : crs v w = 0 - crs w v := by unfold crs; grind
theorem keeps_of {A : M4} (h1 : crs A.T.a A.T.b = 1) (h2 : crs A.T.c A.T.d = 1) (h3 : crs A.T.a A.T.c = 0) (h4 : crs A.T.a A.T.d = 0) (h5 : crs A.T.b A.T.c = 0) (h6 : crs A.T.b A.T.d = 0) : Keeps A := by
  intro i hi j hj
  have s : ∀ v : V4, crs v v = 0 := fun v => by unfold crs; grind
  have t : ∀ v w : V4, crs w v = 0 - crs v w := fun v w => crs_anti w v
  rcases (by omega : i = 0 ∨ i = 1 ∨ i = 2 ∨ i = 3) with rfl | rfl | rfl | rfl <;> rcases (by omega : j = 0 ∨ j = 1 ∨ j = 2 ∨ j = 3) with rfl | rfl | rfl | rfl
  · exact s A.T.a
  · exact h1
  · exact h3
  · exact h4
  · exact (t A.T.a A.T.b).trans (congrArg (0 - ·) h1)
  · exact s A.T.b
  · exact h5
  · exact h6
  · exact (t A.T.a A.T.c).trans (congrArg (0 - ·) h3)
  · exact (t A.T.b A.T.c).trans (congrArg (0 - ·) h5)
  · exact s A.T.c
  · exact h2
  · exact (t A.T.a A.T.d).trans (congrArg (0 - ·) h4)
  · exact (t A.T.b A.T.d).trans (congrArg (0 - ·) h6)
  · exact (t A.T.c A.T.d).trans (congrArg (0 - ·) h2)
  · exact s A.T.d
theorem tab_keeps {a b c e p q a' w g e' x z o0 o1 s2 t2 : Int} (hg : 0 < g) (hw : 0 < w) (hn : IsDone a b c e p q a' w g e') (k : DTab a b c e p q a' w g x z o0 o1 s2 t2) : Keeps (tabM p q x z o0 o1 s2 t2) := by
  obtain ⟨hd, _⟩ := k.sol hg hw hn
  have pz := k.pz
  refine keeps_of ?_ ?_ ?_ ?_ ?_ ?_ <;> simp only [crs, M4.T, tabM]
  · grind
  · grind
  · grind
  · grind
  · have : 1 * -s2 - 0 * t2 + x * (-s2 * q) - z * (-s2 * p) = -s2 + s2 * (p * z - q * x) := by grind
    rw [this, pz]; grind
  · have : 1 * o0 - 0 * -o1 + x * (o0 * q) - z * (o0 * p) = o0 - o0 * (p * z - q * x) := by grind
    rw [this, pz]; grind
end DL
namespace DL
open PySem PySem.Spec PyProof.Rows L2
local macro_rules | `(tactic| walk_at "rd") => `(tactic| simp only [startD, List.map, List.replicate, List.length_cons, List.length_nil, List.append_eq, List.append_nil, List.nil_append, List.cons_append, Nat.reduceSub, Nat.reduceAdd, List.getElem?_cons_zero, List.getElem?_cons_succ, List.set_cons_zero, List.set_cons_succ,
  dC, dVar, dOp, dTru, gTru, tru, dChain, dAnd, dOr, dNot, dAndV, dOrV, dNotV, dIf, dNeg, gNeg, dNil, dCons, dTup, dLst, dOwn, gIx, rBin, gAdd, gCmpI, dCall, dCallK, dSeq, dNext, dDrop, dRet, dRetN, dIfS, dName, dGNil, dGCons, dGTup, dSub, gSetL, dAsg, dPar, dPar3, dAug, gIpI, dSeqI, gSeqI, dRngI, gRng1, gRng2, dCB, gAbs, gInt, gMax, gMin, gGcd, gLen, lenD, gIsi, tyM, tyD, dBits, gBits, dMet, gAppend, dPart, dNoPart, dSl, gSl_tup, gSl_lst, cut_1, dEnds, gIs, isB, dNever, dCallX, dRaise, dTry, dFld, dCallV, gLRng, gFrz, dFrz, dFor, dLc, wipeD, dYes,
  sizeLine_eq, Nat.reduceLeDiff, gEq_int, gNe_int, gEq_strs, gNe_strs, gIn_two, gRepr_bl, rs_lst, rs_tup, rs_scr, rs_int, atI_0, atI_1, atI_2, atI_3, atI_4, atI_5, ixN_30, ixN_31, ixN_32, gEq_bl, gNe_bl, decide_eq_true_eq, beq_iff_eq, Bool.not_eq_true', beq_eq_false_iff_ne, decide_eq_false_iff_not, Bool.not_true, Bool.not_false, if_true, if_false, Bool.false_eq_true, ite_true, ite_false, true_and, and_true, ne_eq, Bool.bne_false, Bool.bne_true, reduceCtorEq])
local macro_rules | `(tactic| walk_at "rh") => `(tactic| simp only [*, startD, List.map, List.replicate, List.length_cons, List.length_nil, List.append_eq, List.append_nil, List.nil_append, List.cons_append, Nat.reduceSub, Nat.reduceAdd, List.getElem?_cons_zero, List.getElem?_cons_succ, List.set_cons_zero, List.set_cons_succ,
  dC, dVar, dOp, dTru, gTru, tru, dChain, dAnd, dOr, dNot, dAndV, dOrV, dNotV, dIf, dNeg, gNeg, dNil, dCons, dTup, dLst, dOwn, gIx, rBin, gAdd, gCmpI, dCall, dCallK, dSeq, dNext, dDrop, dRet, dRetN, dIfS, dName, dGNil, dGCons, dGTup, dSub, gSetL, dAsg, dPar, dPar3, dAug, gIpI, dSeqI, gSeqI, dRngI, gRng1, gRng2, dCB, gAbs, gInt, gMax, gMin, gGcd, gLen, lenD, gIsi, tyM, tyD, dBits, gBits, dMet, gAppend, dPart, dNoPart, dSl, gSl_tup, gSl_lst, cut_1, dEnds, gIs, isB, dNever, dCallX, dRaise, dTry, dFld, dCallV, gLRng, gFrz, dFrz, dFor, dLc, wipeD, dYes,
  sizeLine_eq, Nat.reduceLeDiff, gEq_int, gNe_int, gEq_strs, gNe_strs, gIn_two, gRepr_bl, rs_lst, rs_tup, rs_scr, rs_int, atI_0, atI_1, atI_2, atI_3, atI_4, atI_5, ixN_30, ixN_31, ixN_32, gEq_bl, gNe_bl, decide_eq_true_eq, beq_iff_eq, Bool.not_eq_true', beq_eq_false_iff_ne, decide_eq_false_iff_not, Bool.not_true, Bool.not_false, if_true, if_false, Bool.false_eq_true, ite_true, ite_false, true_and, and_true, ne_eq, Bool.bne_false, Bool.bne_true, reduceCtorEq])
local macro_rules | `(tactic| walk_at "kb") => `(tactic| simp only [kb_NoneType_list, kb_bool_list, kb_int_list, kb_str_list, kb_tuple_list, kb_list_list, kb_dict_list, kb_NoneType_int, kb_bool_int, kb_int_int, kb_str_int, kb_tuple_int, kb_list_int, kb_dict_int, kb_NoneType_bool, kb_bool_bool, kb_int_bool, kb_str_bool, kb_tuple_bool, kb_list_bool, kb_dict_bool, kb_NoneType_tuple, kb_bool_tuple, kb_int_tuple, kb_str_tuple, kb_tuple_tuple, kb_list_tuple, kb_dict_tuple, if_true, if_false, Bool.false_eq_true, ite_true, ite_false, Bool.not_true, Bool.not_false])
/-! RdKK: tables of deeds -/
theorem lsqD_res {M : Mem} {d : D} {l : List D} (h : res M d = .lst l) : ∃ C : Mem → Prop, lsqD M d = some (l, C) ∧ C M := by
  cases d <;> first | (cases h; done) | skip
  · cases h; exact ⟨_, rfl, trivial⟩
  · rename_i k
    unfold res at h
    dsimp only at h
    split at h
    · rename_i ds hk
      cases h
      unfold lsqD
      simp only [hk]
      exact ⟨_, rfl, hk⟩
    · cases h
theorem zip_lcW {x y : D} {l1 l2 : List D} {r : Env} {M : Mem} {Q : DQ} {u1 u2 : Nat} {te : DTE} (hx : res M x = .lst l1) (hy : res M y = .lst l2) (hz : (List.zipWith pairD l1 l2).length ≤ 100) (f : D → D → D) (h12 : u1 < r.length ∧ u2 < r.length)
    (step : ∀ p q, pairD p q ∈ List.zipWith pairD l1 l2 → ∀ (Y : D → Mem → Prop), Y (f p q) M → te ((r.set u1 (some p)).set u2 (some q)) M Y)
    (q : Q (.lst (List.zipWith f l1 l2)) M) : gZip [x, y] M fun ds C M0 => lcW false ds C (dGTup 2 (dGCons (dName u1) (dGCons (dName u2) dGNil))) dYes te r M0 Q := by
  obtain ⟨C1, e1, c1⟩ := lsqD_res hx
  obtain ⟨C2, e2, c2⟩ := lsqD_res hy
  unfold gZip
  simp only [e1, e2]
  have hf : List.filterMap (fun d => match d with | .tup [p, q] => some (f p q) | _ => none) (List.zipWith pairD l1 l2) = List.zipWith f l1 l2 := by
    clear hx hy hz step q e1 e2
    induction l1 generalizing l2 with
    | nil => rfl
    | cons a l ih =>
      cases l2 with
      | nil => rfl
      | cons b m =>
        rw [List.zipWith_cons_cons, List.zipWith_cons_cons, List.filterMap_cons]
        show f a b :: _ = _
        rw [ih]
  refine lcW_pure (fun d => match d with | .tup [p, q] => some (f p q) | _ => none) ⟨c1, c2⟩ (by rw [sizeLine_eq]; omega) (fun d hd Y N hy => ?_) (by rw [hf]; exact q)
  obtain ⟨i, hi⟩ := List.getElem?_of_mem hd
  obtain ⟨p, q', _, _, rfl⟩ := zip_get hi
  walk_at "rd"
  unfold pairD at hy ⊢
  walk_at "rd"
  exact step p q' hd _ hy
/-! ### tables -/
abbrev V4.D (v : V4) : D := R4 v.a v.b v.c v.d
abbrev M4.D (A : M4) : D := .lst [A.a.D, A.b.D, A.c.D, A.d.D]
structure V4.bi (n : Nat) (v : V4) : Prop where
  a : Bi n v.a
  b : Bi n v.b
  c : Bi n v.c
  d : Bi n v.d
structure M4.bi (n : Nat) (A : M4) : Prop where
  a : A.a.bi n
  b : A.b.bi n
  c : A.c.bi n
  d : A.d.bi n
theorem V4.bi.up {n k : Nat} {v : V4} (h : v.bi n) (hk : n ≤ k) : v.bi k := ⟨h.a.up hk, h.b.up hk, h.c.up hk, h.d.up hk⟩
theorem M4.bi.up {n k : Nat} {A : M4} (h : A.bi n) (hk : n ≤ k) : A.bi k := ⟨h.a.up hk, h.b.up hk, h.c.up hk, h.d.up hk⟩
theorem M4.bi.T {n : Nat} {A : M4} (h : A.bi n) : A.T.bi n := ⟨⟨h.a.a, h.b.a, h.c.a, h.d.a⟩, ⟨h.a.b, h.b.b, h.c.b, h.d.b⟩, ⟨h.a.c, h.b.c, h.c.c, h.d.c⟩, ⟨h.a.d, h.b.d, h.c.d, h.d.d⟩⟩
/-- d stands there for the table A -/
def TabR (M : Mem) (d : D) (A : M4) : Prop := ∃ x0 x1 x2 x3 : D, res M d = .lst [x0, x1, x2, x3] ∧ res M x0 = A.a.D ∧ res M x1 = A.b.D ∧ res M x2 = A.c.D ∧ res M x3 = A.d.D
theorem TabR.pure (M : Mem) (A : M4) : TabR M A.D A := ⟨_, _, _, _, rfl, rfl, rfl, rfl, rfl⟩
theorem res_app {M G : Mem} {x : D} {l : List D} (h : res M x = .lst l) : res (M ++ G) x = .lst l := by
  rcases isL h with rfl | ⟨k, rfl, hk⟩
  · rfl
  · have hl := (List.getElem?_eq_some_iff.mp hk).1
    unfold res
    dsimp only
    rw [List.getElem?_append_left hl, hk]
theorem TabR.app {M : Mem} {d : D} {A : M4} (h : TabR M d A) (G : Mem) : TabR (M ++ G) d A := by
  obtain ⟨x0, x1, x2, x3, e, h0, h1, h2, h3⟩ := h
  exact ⟨x0, x1, x2, x3, res_app e, res_app h0, res_app h1, res_app h2, res_app h3⟩
theorem gIx_lst {x d : D} {l : List D} {i : Int} {M : Mem} {Q : DQ} (h : res M x = .lst l) (hi : atI l i = some d) (q : Q d M) : gIx x (.int i) M Q := by
  unfold gIx
  rw [h]
  dsimp only
  rw [hi]
  exact q
theorem gSeqI_lst {d : D} {l : List D} {M : Mem} {R : List D → (Mem → Prop) → Mem → Prop} (h : res M d = .lst l) (k : ∀ C : Mem → Prop, C M → R l C M) : gSeqI d M R := by
  rcases isL h with rfl | ⟨j, rfl, hj⟩
  · exact k _ trivial
  · unfold gSeqI
    dsimp only
    rw [hj]
    exact k _ hj
def sp_lcols4 : DSp := fun ds M Q _ => ∃ (y : D) (A : M4), ds = [y] ∧ TabR M y A ∧ Q A.T.D M
theorem rd_l_columns_d906 : ∀ ds M Q, ds.length = 1 → sp_lcols4 ds M Q DX0 → t_l_columns_d906 (dEnds M Q) (startD 3 ds) M := by
  rintro _ M Q - ⟨y, A, rfl, ⟨x0, x1, x2, x3, hy, h0, h1, h2, h3⟩, q⟩
  unfold t_l_columns_d906
  have inner : ∀ (i : Int) (r0 r1 r2 r3 : D) (C : Mem → Prop) (Y : DQ), C M → atI [.int A.a.a, .int A.a.b, .int A.a.c, .int A.a.d] i = some r0 → atI [.int A.b.a, .int A.b.b, .int A.b.c, .int A.b.d] i = some r1 →
      atI [.int A.c.a, .int A.c.b, .int A.c.c, .int A.c.d] i = some r2 → atI [.int A.d.a, .int A.d.b, .int A.d.c, .int A.d.d] i = some r3 → Y (.lst [r0, r1, r2, r3]) M →
      lcW false [x0, x1, x2, x3] C (dName 2) dYes (dOp gIx (dVar 2) (dVar 1)) [some y, some (.int i), none] M Y := by
    intro i r0 r1 r2 r3 C Y hC e0 e1 e2 e3 hY
    refine lcW_idx (ys := [r0, r1, r2, r3]) rfl hC (by rw [sizeLine_eq]; exact Nat.le_of_ble_eq_true rfl) (fun j d w hd hw Z N' hz => ?_) hY
    rcases (by have := (List.getElem?_eq_some_iff.mp hw).1; simp only [List.length_cons, List.length_nil] at this; omega : j = 0 ∨ j = 1 ∨ j = 2 ∨ j = 3) with rfl | rfl | rfl | rfl
    · cases hd; cases hw; exact gIx_lst h0 e0 hz
    · cases hd; cases hw; exact gIx_lst h1 e1 hz
    · cases hd; cases hw; exact gIx_lst h2 e2 hz
    · cases hd; cases hw; exact gIx_lst h3 e3 hz
  walk_at "rd"
  refine ⟨by unfold Rg; decide, ?_⟩
  refine lcW_idx (ys := [A.T.a.D, A.T.b.D, A.T.c.D, A.T.d.D]) (by rfl) trivial (by rw [sizeLine_eq]; exact Nat.le_of_ble_eq_true rfl) (fun j d w hd hw Z N' hz => ?_) (rtq q (by rfl))
  obtain ⟨_, rfl⟩ := rng_get.mp hd
  have hj := (List.getElem?_eq_some_iff.mp hw).1
  show gSeqI y M fun ds C M1 => lcW false ds C (dName 2) dYes (dOp gIx (dVar 2) (dVar 1)) [some y, some (.int (0 + (j : Int))), none] M1 Z
  exact gSeqI_lst hy fun C hC => by
    rcases (by simp only [List.length_cons, List.length_nil] at hj; omega : j = 0 ∨ j = 1 ∨ j = 2 ∨ j = 3) with rfl | rfl | rfl | rfl
    · cases hw; exact inner 0 _ _ _ _ C Z hC rfl rfl rfl rfl hz
    · cases hw; exact inner 1 _ _ _ _ C Z hC rfl rfl rfl rfl hz
    · cases hw; exact inner 2 _ _ _ _ C Z hC rfl rfl rfl rfl hz
    · cases hw; exact inner 3 _ _ _ _ C Z hC rfl rfl rfl rfl hz
/-! ### a path led -/
theorem zipS_lcW {x y : D} {l1 l2 : List D} {r : Env} {M : Mem} {Q : DQ} {u1 u2 : Nat} {te : DTE} (hx : res M x = .lst l1) (hy : res M y = .lst l2) (hl : l1.length = l2.length) (hz : (List.zipWith pairD l1 l2).length ≤ 100) (f : D → D → D) (h12 : u1 < r.length ∧ u2 < r.length)
    (step : ∀ p q, pairD p q ∈ List.zipWith pairD l1 l2 → ∀ (Y : D → Mem → Prop), Y (f p q) M → te ((r.set u1 (some p)).set u2 (some q)) M Y)
    (q : Q (.lst (List.zipWith f l1 l2)) M) : gZipS [x, y] M fun ds C M0 => lcW false ds C (dGTup 2 (dGCons (dName u1) (dGCons (dName u2) dGNil))) dYes te r M0 Q := by
  have h := zip_lcW (te := te) (r := r) (u1 := u1) (u2 := u2) (Q := Q) hx hy hz f h12 step q
  obtain ⟨C1, e1, c1⟩ := lsqD_res hx
  obtain ⟨C2, e2, c2⟩ := lsqD_res hy
  unfold gZip at h
  unfold gZipS
  simp only [e1, e2] at h ⊢
  exact ⟨hl, h⟩
def mulD : D → D → D
  | .int i, .int j => .int (i * j)
  | _, _ => .non
def sp_tled : DSp := fun ds M Q _ => ∃ (x y : D) (A : M4) (v : V4), ds = [x, y] ∧ TabR M x A ∧ res M y = v.D ∧ A.bi 90000 ∧ v.bi 90000 ∧ Q (A.led v).D M
theorem rd_l_led_3b4c : ∀ ds M Q, ds.length = 2 → sp_tled ds M Q DX0 → t_l_led_3b4c (dEnds M Q) (startD 5 ds) M := by
  rintro _ M Q - ⟨x, y, A, v, rfl, ⟨x0, x1, x2, x3, hx, h0, h1, h2, h3⟩, hy, bA, bv, q⟩
  unfold t_l_led_3b4c
  show gSeqI x M fun ds C M1 => lcW false ds C (dName 2) dYes (dCB gSum (dCons (dLc false (dRngI gZip (dCons (dVar 2) (dCons (dVar 1) dNil))) (dGTup 2 (dGCons (dName 3) (dGCons (dName 4) dGNil))) dYes (dOp (rBin CMul fun i j => i * j) (dVar 3) (dVar 4)) [3, 4]) dNil)) [some x, some y, none, none, none] M1 (Rtq M Q)
  refine gSeqI_lst hx fun C hC => ?_
  have row : ∀ (r : D) (w : V4) (u2 u3 u4 : Option D) (Y : D → Mem → Prop), res M r = w.D → w.bi 90000 → Y (.int (dot4 w v)) M → dCB gSum (dCons (dLc false (dRngI gZip (dCons (dVar 2) (dCons (dVar 1) dNil))) (dGTup 2 (dGCons (dName 3) (dGCons (dName 4) dGNil))) dYes (dOp (rBin CMul fun i j => i * j) (dVar 3) (dVar 4)) [3, 4]) dNil) [some x, some y, some r, u3, u4] M Y := by
    intro r w u2 u3 u4 Y hr bw hY
    refine zip_lcW (u1 := 3) (u2 := 4) hr hy (Nat.le_of_ble_eq_true rfl) mulD ⟨by show 3 < 5; decide, by show 4 < 5; decide⟩ (fun p q' hpq Y' hY' => ?_) ?_
    · simp only [List.zipWith_cons_cons, List.zipWith_nil_right, List.mem_cons, List.not_mem_nil, or_false, pairD, D.tup.injEq, List.cons.injEq, and_true] at hpq
      rcases hpq with ⟨rfl, rfl⟩ | ⟨rfl, rfl⟩ | ⟨rfl, rfl⟩ | ⟨rfl, rfl⟩
      · exact ⟨⟨bw.a.sm, bv.a.sm⟩, hY'⟩
      · exact ⟨⟨bw.b.sm, bv.b.sm⟩, hY'⟩
      · exact ⟨⟨bw.c.sm, bv.c.sm⟩, hY'⟩
      · exact ⟨⟨bw.d.sm, bv.d.sm⟩, hY'⟩
    · show Y (.int ([w.a * v.a, w.b * v.b, w.c * v.c, w.d * v.d].sum)) M
      rw [show [w.a * v.a, w.b * v.b, w.c * v.c, w.d * v.d].sum = dot4 w v by simp only [List.sum_cons, List.sum_nil, dot4]; omega]
      exact hY
  refine lcW_idx (ys := [.int (dot4 A.a v), .int (dot4 A.b v), .int (dot4 A.c v), .int (dot4 A.d v)]) rfl hC (by rw [sizeLine_eq]; exact Nat.le_of_ble_eq_true rfl) (fun j d w hd hw Z N' hz => ?_) (rtq q (by rfl))
  rcases (by have := (List.getElem?_eq_some_iff.mp hw).1; simp only [List.length_cons, List.length_nil] at this; omega : j = 0 ∨ j = 1 ∨ j = 2 ∨ j = 3) with rfl | rfl | rfl | rfl
  · cases hd; cases hw; exact row _ A.a none none none Z h0 bA.a hz
  · cases hd; cases hw; exact row _ A.b none none none Z h1 bA.b hz
  · cases hd; cases hw; exact row _ A.c none none none Z h2 bA.c hz
  · cases hd; cases hw; exact row _ A.d none none none Z h3 bA.d hz
theorem rd_path_led : ∀ ds M Q, ds.length = 2 → sp_tled ds M Q DX0 → t_path_led (dEnds M Q) (startD 5 ds) M := by
  rintro _ M Q - ⟨x, y, A, v, rfl, ⟨x0, x1, x2, x3, hx, h0, h1, h2, h3⟩, hy, bA, bv, q⟩
  unfold t_path_led
  show gSeqI x M fun ds C M1 => lcW false ds C (dName 2) dYes (dCB gSum (dCons (dLc false (dRngI gZipS (dCons (dVar 2) (dCons (dVar 1) dNil))) (dGTup 2 (dGCons (dName 3) (dGCons (dName 4) dGNil))) dYes (dOp (rBin CMul fun i j => i * j) (dVar 3) (dVar 4)) [3, 4]) dNil)) [some x, some y, none, none, none] M1 (Rtq M Q)
  refine gSeqI_lst hx fun C hC => ?_
  have row : ∀ (r : D) (w : V4) (u2 u3 u4 : Option D) (Y : D → Mem → Prop), res M r = w.D → w.bi 90000 → Y (.int (dot4 w v)) M → dCB gSum (dCons (dLc false (dRngI gZipS (dCons (dVar 2) (dCons (dVar 1) dNil))) (dGTup 2 (dGCons (dName 3) (dGCons (dName 4) dGNil))) dYes (dOp (rBin CMul fun i j => i * j) (dVar 3) (dVar 4)) [3, 4]) dNil) [some x, some y, some r, u3, u4] M Y := by
    intro r w u2 u3 u4 Y hr bw hY
    refine zipS_lcW (u1 := 3) (u2 := 4) hr hy rfl (Nat.le_of_ble_eq_true rfl) mulD ⟨by show 3 < 5; decide, by show 4 < 5; decide⟩ (fun p q' hpq Y' hY' => ?_) ?_
    · simp only [List.zipWith_cons_cons, List.zipWith_nil_right, List.mem_cons, List.not_mem_nil, or_false, pairD, D.tup.injEq, List.cons.injEq, and_true] at hpq
      rcases hpq with ⟨rfl, rfl⟩ | ⟨rfl, rfl⟩ | ⟨rfl, rfl⟩ | ⟨rfl, rfl⟩
      · exact ⟨⟨bw.a.sm, bv.a.sm⟩, hY'⟩
      · exact ⟨⟨bw.b.sm, bv.b.sm⟩, hY'⟩
      · exact ⟨⟨bw.c.sm, bv.c.sm⟩, hY'⟩
      · exact ⟨⟨bw.d.sm, bv.d.sm⟩, hY'⟩
    · show Y (.int ([w.a * v.a, w.b * v.b, w.c * v.c, w.d * v.d].sum)) M
      rw [show [w.a * v.a, w.b * v.b, w.c * v.c, w.d * v.d].sum = dot4 w v by simp only [List.sum_cons, List.sum_nil, dot4]; omega]
      exact hY
  refine lcW_idx (ys := [.int (dot4 A.a v), .int (dot4 A.b v), .int (dot4 A.c v), .int (dot4 A.d v)]) rfl hC (by rw [sizeLine_eq]; exact Nat.le_of_ble_eq_true rfl) (fun j d w hd hw Z N' hz => ?_) (rtq q (by rfl))
  rcases (by have := (List.getElem?_eq_some_iff.mp hw).1; simp only [List.length_cons, List.length_nil] at this; omega : j = 0 ∨ j = 1 ∨ j = 2 ∨ j = 3) with rfl | rfl | rfl | rfl
  · cases hd; cases hw; exact row _ A.a none none none Z h0 bA.a hz
  · cases hd; cases hw; exact row _ A.b none none none Z h1 bA.b hz
  · cases hd; cases hw; exact row _ A.c none none none Z h2 bA.c hz
  · cases hd; cases hw; exact row _ A.d none none none Z h3 bA.d hz
/-! ### turned about, with its own rows -/
abbrev V4.O (v : V4) : Own := .lst [.int v.a, .int v.b, .int v.c, .int v.d]
def cells5 (n : Nat) (A : M4) : Mem := [A.a.O, A.b.O, A.c.O, A.d.O, .lst [.own n, .own (n + 1), .own (n + 2), .own (n + 3)]]
theorem rtqA {M G : Mem} {Q : DQ} {d : D} (q : Q d (M ++ G)) (hb : below (M ++ G).length d = true) (hG : ∀ c ∈ G, belowO (M ++ G).length c = true) : Rtq M Q d (M ++ G) :=
  rtqC q (by rw [List.length_append]; omega) hb fun i c h => by
    rcases Nat.lt_or_ge i M.length with z | z
    · rw [List.getElem?_append_left z] at h; exact .inl h
    · rw [List.getElem?_append_right z] at h; exact .inr (hG c (List.mem_of_getElem? h))
theorem lcW_idxO {ds ys : List D} {C : Mem → Prop} {g : DTG} {tt : DTT} {te : DTE} {r : Env} {M : Mem} {Q : DQ} (hlen : ds.length = ys.length) (hC : C M) (hl : ds.length ≤ sizeLine)
    (step : ∀ (i : Nat) (d y : D), ds[i]? = some d → ys[i]? = some y → ∀ (Y : D → Mem → Prop) (N : Mem → Prop), Y y M → g d r M fun r2 M2 => tt r2 M2 fun b M3 => if b = true then te r2 M3 Y else N M3)
    (q : Q (.own M.length) (M ++ [.lst ys])) : lcW true ds C g tt te r M Q := by
  refine ⟨fun i acc M' => M' = M ∧ acc = ys.take i ∧ i ≤ ds.length, ⟨rfl, rfl, Nat.zero_le _⟩, ?_⟩
  rintro i acc M' ⟨rfl, rfl, hi⟩
  refine ⟨hC, fun hd => ?_, fun d ed => ?_⟩
  · rw [if_pos rfl]
    rw [List.take_of_length_le (by omega)]; exact q
  · have hlt : i < ds.length := (List.getElem?_eq_some_iff.mp ed).1
    have ey : ys[i]? = some ys[i] := List.getElem?_eq_getElem (by omega)
    have ht : ys.take (i + 1) = ys.take i ++ [ys[i]] := by rw [List.take_add_one, ey]; rfl
    refine step i d _ ed ey _ _ ⟨?_, rfl, ht.symm, hlt⟩
    rw [List.length_take]; omega
def sp_turned_o : DSp := fun ds M Q _ => ∃ (y : D) (A : M4), ds = [y] ∧ TabR M y A ∧ Q (.own (M.length + 4)) (M ++ cells5 M.length A.T)
theorem rd_turned_about_o : ∀ ds M Q, ds.length = 1 → sp_turned_o ds M Q DX0 → t_turned_about_o (dEnds M Q) (startD 3 ds) M := by
  rintro _ M Q - ⟨y, A, rfl, hT, q⟩
  unfold t_turned_about_o
  have inner : ∀ (G : Mem) (i : Int) (r0 r1 r2 r3 : D) (Y : DQ), atI [.int A.a.a, .int A.a.b, .int A.a.c, .int A.a.d] i = some r0 → atI [.int A.b.a, .int A.b.b, .int A.b.c, .int A.b.d] i = some r1 →
      atI [.int A.c.a, .int A.c.b, .int A.c.c, .int A.c.d] i = some r2 → atI [.int A.d.a, .int A.d.b, .int A.d.c, .int A.d.d] i = some r3 → Y (.own (M ++ G).length) ((M ++ G) ++ [.lst [r0, r1, r2, r3]]) →
      gSeqI y (M ++ G) fun ds C M1 => lcW true ds C (dName 2) dYes (dOp gIx (dVar 2) (dVar 1)) [some y, some (.int i), none] M1 Y := by
    intro G i r0 r1 r2 r3 Y e0 e1 e2 e3 hY
    obtain ⟨x0, x1, x2, x3, hy, h0, h1, h2, h3⟩ := hT.app G
    refine gSeqI_lst hy fun C hC => ?_
    refine lcW_idxO (ys := [r0, r1, r2, r3]) rfl hC (by rw [sizeLine_eq]; exact Nat.le_of_ble_eq_true rfl) (fun j d w hd hw Z N' hz => ?_) hY
    rcases (by have := (List.getElem?_eq_some_iff.mp hw).1; simp only [List.length_cons, List.length_nil] at this; omega : j = 0 ∨ j = 1 ∨ j = 2 ∨ j = 3) with rfl | rfl | rfl | rfl
    · cases hd; cases hw; exact gIx_lst h0 e0 hz
    · cases hd; cases hw; exact gIx_lst h1 e1 hz
    · cases hd; cases hw; exact gIx_lst h2 e2 hz
    · cases hd; cases hw; exact gIx_lst h3 e3 hz
  walk_at "rd"
  refine ⟨by unfold Rg; decide, ?_⟩
  refine ⟨fun i acc M' => i ≤ 4 ∧ M' = M ++ [A.T.a.O, A.T.b.O, A.T.c.O, A.T.d.O].take i ∧ acc = [D.own M.length, .own (M.length + 1), .own (M.length + 2), .own (M.length + 3)].take i, ⟨by decide, by simp, rfl⟩, ?_⟩
  rintro i acc M' ⟨hi, rfl, rfl⟩
  refine ⟨trivial, fun hl => ?_, fun d hd => ?_⟩
  · have hi4 : i = 4 := by rw [rng_len] at hl; omega
    subst hi4
    rw [if_pos rfl]
    have hlen : (M ++ List.take 4 [A.T.a.O, A.T.b.O, A.T.c.O, A.T.d.O]).length = M.length + 4 := by simp
    rw [hlen, List.append_assoc]
    refine rtqA (G := cells5 M.length A.T) q ?_ ?_
    · simp [below, cells5]
    · intro c hc
      simp only [cells5, List.mem_cons, List.not_mem_nil, or_false] at hc
      rcases hc with rfl | rfl | rfl | rfl | rfl <;> simp [belowO, belowAll, below, cells5]
  · obtain ⟨hi2, rfl⟩ := rng_get.mp hd
    have hi2 : i < 4 := hi2
    rcases (by omega : i = 0 ∨ i = 1 ∨ i = 2 ∨ i = 3) with rfl | rfl | rfl | rfl
    · refine inner (List.take 0 [A.T.a.O, A.T.b.O, A.T.c.O, A.T.d.O]) 0 _ _ _ _ _ rfl rfl rfl rfl ⟨by rw [sizeLine_eq]; exact Nat.le_of_ble_eq_true rfl, by omega, ?_, ?_⟩
      · rw [List.append_assoc]; rfl
      · simp
    · refine inner (List.take 1 [A.T.a.O, A.T.b.O, A.T.c.O, A.T.d.O]) 1 _ _ _ _ _ rfl rfl rfl rfl ⟨by rw [sizeLine_eq]; exact Nat.le_of_ble_eq_true rfl, by omega, ?_, ?_⟩
      · rw [List.append_assoc]; rfl
      · simp
    · refine inner (List.take 2 [A.T.a.O, A.T.b.O, A.T.c.O, A.T.d.O]) 2 _ _ _ _ _ rfl rfl rfl rfl ⟨by rw [sizeLine_eq]; exact Nat.le_of_ble_eq_true rfl, by omega, ?_, ?_⟩
      · rw [List.append_assoc]; rfl
      · simp
    · refine inner (List.take 3 [A.T.a.O, A.T.b.O, A.T.c.O, A.T.d.O]) 3 _ _ _ _ _ rfl rfl rfl rfl ⟨by rw [sizeLine_eq]; exact Nat.le_of_ble_eq_true rfl, by omega, ?_, ?_⟩
      · rw [List.append_assoc]; rfl
      · simp
/-! ### the table of a deed, with its own rows -/
def tabOwn (G : Mem) (A : M4) (M : Mem) (Q : DQ) : Prop := Q (.own ((M ++ G).length + 4)) ((M ++ G) ++ cells5 (M ++ G).length A)
def PlainO (G : Mem) : Prop := ∀ c ∈ G, belowO 0 c = true
theorem Rtq.mono {M : Mem} {Q Q' : DQ} {d : D} {M' : Mem} (h : Rtq M Q d M') (k : ∀ d M', Q d M' → Q' d M') : Rtq M Q' d M' := by
  obtain ⟨M2, G, e, h1, h2, h3, q⟩ := h
  exact ⟨M2, G, e, h1, h2, h3, k _ _ q⟩
theorem belowO.mono {m n : Nat} (hmn : m ≤ n) {c : Own} (h : belowO m c = true) : belowO n c = true := by
  cases c with
  | dead => rfl
  | lst l => exact below.mono hmn (.lst l) h
theorem tabOwn.rtq {G : Mem} {A : M4} {M : Mem} {Q : DQ} (h : tabOwn G A M Q) (hG : PlainO G) : Rtq M Q (.own ((M ++ G).length + 4)) ((M ++ G) ++ cells5 (M ++ G).length A) := by
  unfold tabOwn at h
  rw [List.append_assoc] at h ⊢
  refine rtqA h ?_ ?_
  · simp [below, cells5]; omega
  · intro c hc
    rcases List.mem_append.mp hc with r | r
    · exact belowO.mono (Nat.zero_le _) (hG c r)
    · simp only [cells5, List.mem_cons, List.not_mem_nil, or_false] at r
      rcases r with rfl | rfl | rfl | rfl | rfl <;> simp [belowO, belowAll, below, cells5]
      all_goals omega
/-! ### bases, crossings kept -/
def sp_lbase : DSp := fun ds M Q _ => ∃ i : Nat, ds = [.int (i : Int)] ∧ i < 4 ∧ Q (bse i).D M
theorem rd_l_base_3ec4 : ∀ ds M Q, ds.length = 1 → sp_lbase ds M Q DX0 → t_l_base_3ec4 (dEnds M Q) (startD 2 ds) M := by
  rintro _ M Q - ⟨i, rfl, hi, q⟩
  unfold t_l_base_3ec4
  walk_at "rd"
  refine ⟨by unfold Rg; decide, ?_⟩
  refine lcW_idx (ys := [.int (bse i).a, .int (bse i).b, .int (bse i).c, .int (bse i).d]) (by rfl) trivial (by rw [sizeLine_eq]; exact Nat.le_of_ble_eq_true rfl) (fun j d w hd hw Z N' hz => ?_) (rtq q (by rfl))
  obtain ⟨_, rfl⟩ := rng_get.mp hd
  have hj := (List.getElem?_eq_some_iff.mp hw).1
  rcases (by simp only [List.length_cons, List.length_nil] at hj; omega : j = 0 ∨ j = 1 ∨ j = 2 ∨ j = 3) with rfl | rfl | rfl | rfl <;> rcases (by omega : i = 0 ∨ i = 1 ∨ i = 2 ∨ i = 3) with rfl | rfl | rfl | rfl
  all_goals cases hw
  all_goals walk_at "rd"
  all_goals exact hz
theorem atIT {A : M4} (i : Nat) (hi : i < 4) : atI [A.a.D, A.b.D, A.c.D, A.d.D] (0 + (i : Int)) = some (A.get i).D := by
  rcases (by omega : i = 0 ∨ i = 1 ∨ i = 2 ∨ i = 3) with rfl | rfl | rfl | rfl <;> rfl
theorem M4.bi.get {n : Nat} {A : M4} (h : A.bi n) (i : Nat) : (A.get i).bi n := by
  match i with
  | 0 => exact h.a
  | 1 => exact h.b
  | 2 => exact h.c
  | _ + 3 => exact h.d
theorem bse_bi {n : Nat} (hn : 1 ≤ n) (i : Nat) : (bse i).bi n := by
  have b0 : Bi n 0 := Bi.of_abs 0 (by decide) (Nat.pow_pos (by decide))
  have b1 : Bi n 1 := Bi.of_abs 1 (by decide) (Nat.lt_of_lt_of_le (by decide : 1 < 2 ^ 1) (Nat.pow_le_pow_right (by decide) hn))
  match i with
  | 0 => exact ⟨b1, b0, b0, b0⟩
  | 1 => exact ⟨b0, b1, b0, b0⟩
  | 2 => exact ⟨b0, b0, b1, b0⟩
  | _ + 3 => exact ⟨b0, b0, b0, b1⟩
abbrev V4.Tp (v : V4) : DL.D := .tup [.int v.a, .int v.b, .int v.c, .int v.d]
def sp_crossS : DSp := fun ds M Q _ => ∃ (p q : D) (v w : V4), ds = [p, q] ∧ (res M p = v.D ∨ res M p = v.Tp) ∧ (res M q = w.D ∨ res M q = w.Tp) ∧ v.bi 90000 ∧ w.bi 90000 ∧ Q (.int (crs v w)) M
theorem rd_l_crossing_3f18 : ∀ ds M Q, ds.length = 2 → sp_crossS ds M Q DX0 → t_l_crossing_3f18 (dEnds M Q) (startD 2 ds) M := by
  rintro _ M Q - ⟨p, q, v, w, rfl, hp, hq, bv, bw, h⟩
  unfold t_l_crossing_3f18
  walk_at "rd"
  rcases hp with hp | hp <;> rcases hq with hq | hq
  all_goals simp only [hp, hq]
  all_goals walk_at "rd"
  all_goals exact ⟨⟨bv.a.sm, bw.b.sm⟩, ⟨bv.b.sm, bw.a.sm⟩, ⟨bv.c.sm, bw.d.sm⟩, ⟨bv.d.sm, bw.c.sm⟩, rtq h⟩
theorem sp_crossV {x y : D} {v w : V4} {M : Mem} {Q : DQ} (hx : res M x = v.D) (hy : res M y = w.D) (bv : v.bi 90000) (bw : w.bi 90000) (q : Q (.int (crs v w)) M) : sp_crossS [x, y] M Q DX0 :=
  ⟨x, y, v, w, rfl, .inl hx, .inl hy, bv, bw, q⟩
def sp_lkeeps : DSp := fun ds M Q _ => ∃ (y : D) (A : M4), ds = [y] ∧ TabR M y A ∧ A.bi 90000 ∧ ∀ v : Bool, (v = true ↔ Keeps A) → Q (.bl v) M
theorem rd_l_keeps_2d4c : ∀ ds M Q, ds.length = 1 → sp_lkeeps ds M Q DX0 → t_l_keeps_2d4c sp_lcols4 sp_crossS sp_lbase (dEnds M Q) (startD 4 ds) M := by
  rintro _ M Q - ⟨y, A, rfl, hT, bA, q⟩
  unfold t_l_keeps_2d4c
  refine dSeq_open fun B hB => ?_
  walk_at "rd"
  refine ⟨y, A, rfl, hT, ?_⟩
  rw [← hB]
  clear hB B
  refine dSeq_open fun B hB => ?_
  walk_at "rd"
  refine ⟨by unfold Rg; decide, fun i r M' => i ≤ 4 ∧ M' = M ∧ (∀ i', i' < i → ∀ j, j < 4 → crs (A.T.get i') (A.T.get j) = crs (bse i') (bse j)) ∧ ∃ u v : Option D, r = [some y, some A.T.D, u, v], ⟨by decide, rfl, fun _ h => absurd h (Nat.not_lt_zero _), none, none, rfl⟩, ?_⟩
  rintro i r M' ⟨hi, rfl, hk, u, v, rfl⟩
  refine ⟨trivial, fun hl => ?_, fun d hd => ?_⟩
  · have hi4 : i = 4 := by rw [rng_len] at hl; omega
    subst hi4
    dsimp only
    rw [← hB]
    clear hB B
    walk_at "rd"
    exact rtq (q true ⟨fun _ i' h j hj => hk i' h j hj, fun _ => rfl⟩)
  · clear hB
    obtain ⟨hi2, rfl⟩ := rng_get.mp hd
    have hi2 : i < 4 := hi2
    walk_at "rd"
    refine ⟨by unfold Rg; decide, fun j r M1 => j ≤ 4 ∧ M1 = M' ∧ (∀ j', j' < j → crs (A.T.get i) (A.T.get j') = crs (bse i) (bse j')) ∧ ∃ v : Option D, r = [some y, some A.T.D, some (.int (0 + (i : Int))), v], ⟨by decide, rfl, fun _ h => absurd h (Nat.not_lt_zero _), _, rfl⟩, ?_⟩
    rintro j r M1 ⟨hj, rfl, hk2, v, rfl⟩
    refine ⟨trivial, fun hl => ?_, fun d hd => ?_⟩
    · have hj4 : j = 4 := by rw [rng_len] at hl; omega
      subst hj4
      refine ⟨by omega, rfl, fun i' h' j' hj' => ?_, _, _, rfl⟩
      rcases (by omega : i' < i ∨ i' = i) with z | rfl
      · exact hk i' z j' hj'
      · exact hk2 j' hj'
    · obtain ⟨hj2, rfl⟩ := rng_get.mp hd
      have hj2 : j < 4 := hj2
      walk_at "rd"
      rw [atIT (A := A.T) i hi2, atIT (A := A.T) j hj2]
      dsimp only
      refine sp_crossV rfl rfl (bA.T.get i) (bA.T.get j) ?_
      refine ⟨i, by rw [Int.zero_add], hi2, ?_⟩
      refine ⟨j, by rw [Int.zero_add], hj2, ?_⟩
      refine sp_crossV rfl rfl (bse_bi (by decide) i) (bse_bi (by decide) j) ?_
      rw [gNe_int]
      dsimp only
      by_cases hc : crs (A.T.get i) (A.T.get j) = crs (bse i) (bse j)
      · rw [if_neg (by simp [hc])]
        refine ⟨by omega, rfl, fun j' h' => ?_, _, rfl⟩
        rcases (by omega : j' < j ∨ j' = j) with z | rfl
        · exact hk2 j' z
        · exact hc
      · rw [if_pos (by simp [hc])]
        exact rtq (q false ⟨fun h => absurd h (by decide), fun h => absurd (h i hi2 j hj2) hc⟩)
theorem row_of {M : Mem} {x0 x1 x2 x3 d : D} {A : M4} {i : Nat} (h0 : res M x0 = A.a.D) (h1 : res M x1 = A.b.D) (h2 : res M x2 = A.c.D) (h3 : res M x3 = A.d.D) (hd : [x0, x1, x2, x3][i]? = some d) : i < 4 ∧ res M d = (A.get i).D := by
  have hi := (List.getElem?_eq_some_iff.mp hd).1
  simp only [List.length_cons, List.length_nil] at hi
  rcases (by omega : i = 0 ∨ i = 1 ∨ i = 2 ∨ i = 3) with rfl | rfl | rfl | rfl <;> cases hd
  · exact ⟨by decide, h0⟩
  · exact ⟨by decide, h1⟩
  · exact ⟨by decide, h2⟩
  · exact ⟨by decide, h3⟩
def sp_ctable : DSp := fun ds M Q _ => ∃ (y : D) (A : M4), ds = [y] ∧ TabR M y A ∧ Q .non M
/-! ### crossings kept, by the program -/
theorem rd_crossing_byS : ∀ ds M Q, ds.length = 2 → sp_crossS ds M Q DX0 → t_crossing_by (dEnds M Q) (startD 3 ds) M := by
  rintro _ M Q - ⟨p, q, v, w, rfl, hp, hq, bv, bw, h⟩
  unfold t_crossing_by
  walk_at "rd"
  rcases hp with hp | hp <;> rcases hq with hq | hq
  all_goals simp only [hp, hq]
  all_goals walk_at "rd"
  all_goals exact ⟨⟨bv.a.sm, bw.b.sm⟩, ⟨bv.b.sm, bw.a.sm⟩, ⟨bv.c.sm, bw.d.sm⟩, ⟨bv.d.sm, bw.c.sm⟩, rtq h⟩
theorem tabC (M : Mem) (A : M4) : TabR (M ++ cells5 M.length A) (.own (M.length + 4)) A := by
  have g : ∀ (i : Nat) (c : Own), (cells5 M.length A)[i]? = some c → (M ++ cells5 M.length A)[M.length + i]? = some c := fun i c h => by
    rw [List.getElem?_append_right (by omega), Nat.add_sub_cancel_left]; exact h
  refine ⟨.own M.length, .own (M.length + 1), .own (M.length + 2), .own (M.length + 3), ?_, ?_, ?_, ?_, ?_⟩
  · unfold res; dsimp only; rw [g 4 _ rfl]
  · have := g 0 _ rfl
    rw [Nat.add_zero] at this
    unfold res; dsimp only; rw [this]
  · unfold res; dsimp only; rw [g 1 _ rfl]
  · unfold res; dsimp only; rw [g 2 _ rfl]
  · unfold res; dsimp only; rw [g 3 _ rfl]
theorem rd_keeps_by : ∀ ds M Q, ds.length = 1 → sp_lkeeps ds M Q DX0 → t_keeps_by sp_turned_o sp_crossS (dEnds M Q) (startD 6 ds) M := by
  rintro _ M Q - ⟨y, A, rfl, hT, bA, q⟩
  unfold t_keeps_by
  refine dSeq_open fun B hB => ?_
  walk_at "rd"
  refine ⟨y, A, rfl, hT, ?_⟩
  rw [← hB]
  clear hB B
  have hT2 := tabC M A.T
  refine dSeq_open fun B hB => ?_
  walk_at "rd"
  obtain ⟨x0, x1, x2, x3, hy, h0, h1, h2, h3⟩ := hT2
  obtain ⟨C1, e1, c1⟩ := lsqD_res hy
  have c2 := c1
  generalize hMM : M ++ cells5 M.length A.T = MM at *
  unfold gEnum
  dsimp only
  simp only [e1]
  have eget : ∀ (i : Nat) (d : D), (enumD 0 [x0, x1, x2, x3])[i]? = some d → i < 4 ∧ ∃ x, d = .tup [.int (i : Int), x] ∧ res MM x = (A.T.get i).D := by
    intro i d hd
    have hi := (List.getElem?_eq_some_iff.mp hd).1
    rw [enumD_len] at hi
    have hi : i < 4 := hi
    refine ⟨hi, ?_⟩
    rcases (by omega : i = 0 ∨ i = 1 ∨ i = 2 ∨ i = 3) with rfl | rfl | rfl | rfl <;> cases hd
    · exact ⟨x0, rfl, h0⟩
    · exact ⟨x1, rfl, h1⟩
    · exact ⟨x2, rfl, h2⟩
    · exact ⟨x3, rfl, h3⟩
  have tget : ∀ (i : Nat), i < 4 → atI [(D.tup [.int 1, .int 0, .int 0, .int 0]), (.tup [.int 0, .int 1, .int 0, .int 0]), (.tup [.int 0, .int 0, .int 1, .int 0]), (.tup [.int 0, .int 0, .int 0, .int 1])] (i : Int) = some (bse i).Tp := by
    intro i hi
    rcases (by omega : i = 0 ∨ i = 1 ∨ i = 2 ∨ i = 3) with rfl | rfl | rfl | rfl <;> rfl
  refine ⟨fun i r M' => i ≤ 4 ∧ M' = MM ∧ (∀ i', i' < i → ∀ j, j < 4 → crs (A.T.get i') (A.T.get j) = crs (bse i') (bse j)) ∧ ∃ u v s t : Option D, r = [some y, some (.own (M.length + 4)), u, v, s, t], ⟨by decide, rfl, fun _ h => absurd h (Nat.not_lt_zero _), none, none, none, none, rfl⟩, ?_⟩
  rintro i r M' ⟨hi, rfl, hk, u, v, s, t, rfl⟩
  refine ⟨c1, fun hl => ?_, fun d hd => ?_⟩
  · have hi4 : i = 4 := by rw [enumD_len] at hl; simp only [List.length_cons, List.length_nil] at hl; omega
    subst hi4
    dsimp only
    rw [← hB]
    clear hB B
    walk_at "rd"
    rw [← hMM]
    exact rtqG (q true ⟨fun _ i' h j hj => hk i' h j hj, fun _ => rfl⟩)
  · clear hB
    obtain ⟨hi2, x, rfl, hx⟩ := eget i d hd
    walk_at "rd"
    simp only [e1]
    refine ⟨fun j r M1 => j ≤ 4 ∧ M1 = M' ∧ (∀ j', j' < j → crs (A.T.get i) (A.T.get j') = crs (bse i) (bse j')) ∧ ∃ s t : Option D, r = [some y, some (.own (M.length + 4)), some (.int (i : Int)), some x, s, t], ⟨by decide, rfl, fun _ h => absurd h (Nat.not_lt_zero _), _, _, rfl⟩, ?_⟩
    rintro j r M1 ⟨hj, rfl, hk2, s, t, rfl⟩
    refine ⟨c1, fun hl => ?_, fun d hd => ?_⟩
    · have hj4 : j = 4 := by rw [enumD_len] at hl; simp only [List.length_cons, List.length_nil] at hl; omega
      subst hj4
      refine ⟨by omega, rfl, fun i' h' j' hj' => ?_, _, _, _, _, rfl⟩
      rcases (by omega : i' < i ∨ i' = i) with z | rfl
      · exact hk i' z j' hj'
      · exact hk2 j' hj'
    · obtain ⟨hj2, x', rfl, hx'⟩ := eget j d hd
      walk_at "rd"
      refine ⟨x, x', A.T.get i, A.T.get j, rfl, .inl hx, .inl hx', bA.T.get i, bA.T.get j, ?_⟩
      rw [tget i hi2, tget j hj2]
      dsimp only
      refine ⟨_, _, bse i, bse j, rfl, .inr rfl, .inr rfl, bse_bi (by decide) i, bse_bi (by decide) j, ?_⟩
      dsimp only
      rw [gNe_int]
      dsimp only
      by_cases hc : crs (A.T.get i) (A.T.get j) = crs (bse i) (bse j)
      · rw [if_neg (by simp [hc])]
        refine ⟨by omega, rfl, fun j' h' => ?_, _, _, rfl⟩
        rcases (by omega : j' < j ∨ j' = j) with z | rfl
        · exact hk2 j' z
        · exact hc
      · rw [if_pos (by simp [hc]), ← hMM]
        exact rtqG (q false ⟨fun h => absurd h (by decide), fun h => absurd (h i hi2 j hj2) hc⟩)
end DL
namespace DL
open PySem PySem.Spec PyProof.Rows L2
local macro_rules | `(tactic| walk_at "rd") => `(tactic| simp only [startD, List.map, List.replicate, List.length_cons, List.length_nil, List.append_eq, List.append_nil, List.nil_append, List.cons_append, Nat.reduceSub, Nat.reduceAdd, List.getElem?_cons_zero, List.getElem?_cons_succ, List.set_cons_zero, List.set_cons_succ,
  dC, dVar, dOp, dTru, gTru, tru, dChain, dAnd, dOr, dNot, dAndV, dOrV, dNotV, dIf, dNeg, gNeg, dNil, dCons, dTup, dLst, dOwn, gIx, rBin, gAdd, gCmpI, dCall, dCallK, dSeq, dNext, dDrop, dRet, dRetN, dIfS, dName, dGNil, dGCons, dGTup, dSub, gSetL, dAsg, dPar, dPar3, dAug, gIpI, dSeqI, gSeqI, dRngI, gRng1, gRng2, dCB, gAbs, gInt, gMax, gMin, gGcd, gLen, lenD, gIsi, tyM, tyD, dBits, gBits, dMet, gAppend, dPart, dNoPart, dSl, gSl_tup, gSl_lst, cut_1, dEnds, gIs, isB, dNever, dCallX, dRaise, dTry, dFld, dCallV, gLRng, gFrz, dFrz, dFor, dLc, wipeD, dYes,
  sizeLine_eq, Nat.reduceLeDiff, gEq_int, gNe_int, gEq_strs, gNe_strs, gIn_two, gRepr_bl, rs_lst, rs_tup, rs_scr, rs_int, atI_0, atI_1, atI_2, atI_3, atI_4, atI_5, ixN_30, ixN_31, ixN_32, gEq_bl, gNe_bl, decide_eq_true_eq, beq_iff_eq, Bool.not_eq_true', beq_eq_false_iff_ne, decide_eq_false_iff_not, Bool.not_true, Bool.not_false, if_true, if_false, Bool.false_eq_true, ite_true, ite_false, true_and, and_true, ne_eq, Bool.bne_false, Bool.bne_true, reduceCtorEq])
local macro_rules | `(tactic| walk_at "rh") => `(tactic| simp only [*, startD, List.map, List.replicate, List.length_cons, List.length_nil, List.append_eq, List.append_nil, List.nil_append, List.cons_append, Nat.reduceSub, Nat.reduceAdd, List.getElem?_cons_zero, List.getElem?_cons_succ, List.set_cons_zero, List.set_cons_succ,
  dC, dVar, dOp, dTru, gTru, tru, dChain, dAnd, dOr, dNot, dAndV, dOrV, dNotV, dIf, dNeg, gNeg, dNil, dCons, dTup, dLst, dOwn, gIx, rBin, gAdd, gCmpI, dCall, dCallK, dSeq, dNext, dDrop, dRet, dRetN, dIfS, dName, dGNil, dGCons, dGTup, dSub, gSetL, dAsg, dPar, dPar3, dAug, gIpI, dSeqI, gSeqI, dRngI, gRng1, gRng2, dCB, gAbs, gInt, gMax, gMin, gGcd, gLen, lenD, gIsi, tyM, tyD, dBits, gBits, dMet, gAppend, dPart, dNoPart, dSl, gSl_tup, gSl_lst, cut_1, dEnds, gIs, isB, dNever, dCallX, dRaise, dTry, dFld, dCallV, gLRng, gFrz, dFrz, dFor, dLc, wipeD, dYes,
  sizeLine_eq, Nat.reduceLeDiff, gEq_int, gNe_int, gEq_strs, gNe_strs, gIn_two, gRepr_bl, rs_lst, rs_tup, rs_scr, rs_int, atI_0, atI_1, atI_2, atI_3, atI_4, atI_5, ixN_30, ixN_31, ixN_32, gEq_bl, gNe_bl, decide_eq_true_eq, beq_iff_eq, Bool.not_eq_true', beq_eq_false_iff_ne, decide_eq_false_iff_not, Bool.not_true, Bool.not_false, if_true, if_false, Bool.false_eq_true, ite_true, ite_false, true_and, and_true, ne_eq, Bool.bne_false, Bool.bne_true, reduceCtorEq])
local macro_rules | `(tactic| walk_at "kb") => `(tactic| simp only [kb_NoneType_list, kb_bool_list, kb_int_list, kb_str_list, kb_tuple_list, kb_list_list, kb_dict_list, kb_NoneType_int, kb_bool_int, kb_int_int, kb_str_int, kb_tuple_int, kb_list_int, kb_dict_int, kb_NoneType_bool, kb_bool_bool, kb_int_bool, kb_str_bool, kb_tuple_bool, kb_list_bool, kb_dict_bool, kb_NoneType_tuple, kb_bool_tuple, kb_int_tuple, kb_str_tuple, kb_tuple_tuple, kb_list_tuple, kb_dict_tuple, if_true, if_false, Bool.false_eq_true, ite_true, ite_false, Bool.not_true, Bool.not_false])
/-! RdLL: where a deed leads, told by the law; drawn deeds -/
/-! ### a drawn deed -/
end DL
namespace DL
open PySem PySem.Spec PyProof.Rows L2
local macro_rules | `(tactic| walk_at "rd") => `(tactic| simp only [startD, List.map, List.replicate, List.length_cons, List.length_nil, List.append_eq, List.append_nil, List.nil_append, List.cons_append, Nat.reduceSub, Nat.reduceAdd, List.getElem?_cons_zero, List.getElem?_cons_succ, List.set_cons_zero, List.set_cons_succ,
  dC, dVar, dOp, dTru, gTru, tru, dChain, dAnd, dOr, dNot, dAndV, dOrV, dNotV, dIf, dNeg, gNeg, dNil, dCons, dTup, dLst, dOwn, gIx, rBin, gAdd, gCmpI, dCall, dCallK, dSeq, dNext, dDrop, dRet, dRetN, dIfS, dName, dGNil, dGCons, dGTup, dSub, gSetL, dAsg, dPar, dPar3, dAug, gIpI, dSeqI, gSeqI, dRngI, gRng1, gRng2, dCB, gAbs, gInt, gMax, gMin, gGcd, gLen, lenD, gIsi, tyM, tyD, dBits, gBits, dMet, gAppend, dPart, dNoPart, dSl, gSl_tup, gSl_lst, cut_1, dEnds, gIs, isB, dNever, dCallX, dRaise, dTry, dFld, dCallV, gLRng, gFrz, dFrz, dFor, dLc, wipeD, dYes,
  sizeLine_eq, Nat.reduceLeDiff, gEq_int, gNe_int, gEq_strs, gNe_strs, gIn_two, gRepr_bl, rs_lst, rs_tup, rs_scr, rs_int, atI_0, atI_1, atI_2, atI_3, atI_4, atI_5, ixN_30, ixN_31, ixN_32, gEq_bl, gNe_bl, decide_eq_true_eq, beq_iff_eq, Bool.not_eq_true', beq_eq_false_iff_ne, decide_eq_false_iff_not, Bool.not_true, Bool.not_false, if_true, if_false, Bool.false_eq_true, ite_true, ite_false, true_and, and_true, ne_eq, Bool.bne_false, Bool.bne_true, reduceCtorEq])
local macro_rules | `(tactic| walk_at "rh") => `(tactic| simp only [*, startD, List.map, List.replicate, List.length_cons, List.length_nil, List.append_eq, List.append_nil, List.nil_append, List.cons_append, Nat.reduceSub, Nat.reduceAdd, List.getElem?_cons_zero, List.getElem?_cons_succ, List.set_cons_zero, List.set_cons_succ,
  dC, dVar, dOp, dTru, gTru, tru, dChain, dAnd, dOr, dNot, dAndV, dOrV, dNotV, dIf, dNeg, gNeg, dNil, dCons, dTup, dLst, dOwn, gIx, rBin, gAdd, gCmpI, dCall, dCallK, dSeq, dNext, dDrop, dRet, dRetN, dIfS, dName, dGNil, dGCons, dGTup, dSub, gSetL, dAsg, dPar, dPar3, dAug, gIpI, dSeqI, gSeqI, dRngI, gRng1, gRng2, dCB, gAbs, gInt, gMax, gMin, gGcd, gLen, lenD, gIsi, tyM, tyD, dBits, gBits, dMet, gAppend, dPart, dNoPart, dSl, gSl_tup, gSl_lst, cut_1, dEnds, gIs, isB, dNever, dCallX, dRaise, dTry, dFld, dCallV, gLRng, gFrz, dFrz, dFor, dLc, wipeD, dYes,
  sizeLine_eq, Nat.reduceLeDiff, gEq_int, gNe_int, gEq_strs, gNe_strs, gIn_two, gRepr_bl, rs_lst, rs_tup, rs_scr, rs_int, atI_0, atI_1, atI_2, atI_3, atI_4, atI_5, ixN_30, ixN_31, ixN_32, gEq_bl, gNe_bl, decide_eq_true_eq, beq_iff_eq, Bool.not_eq_true', beq_eq_false_iff_ne, decide_eq_false_iff_not, Bool.not_true, Bool.not_false, if_true, if_false, Bool.false_eq_true, ite_true, ite_false, true_and, and_true, ne_eq, Bool.bne_false, Bool.bne_true, reduceCtorEq])
local macro_rules | `(tactic| walk_at "kb") => `(tactic| simp only [kb_NoneType_list, kb_bool_list, kb_int_list, kb_str_list, kb_tuple_list, kb_list_list, kb_dict_list, kb_NoneType_int, kb_bool_int, kb_int_int, kb_str_int, kb_tuple_int, kb_list_int, kb_dict_int, kb_NoneType_bool, kb_bool_bool, kb_int_bool, kb_str_bool, kb_tuple_bool, kb_list_bool, kb_dict_bool, kb_NoneType_tuple, kb_bool_tuple, kb_int_tuple, kb_str_tuple, kb_tuple_tuple, kb_list_tuple, kb_dict_tuple, if_true, if_false, Bool.false_eq_true, ite_true, ite_false, Bool.not_true, Bool.not_false])
/-! k41: tables of deeds -/
theorem tab_bo {a b c e p q a' w g e' x z o0 o1 s2 t2 : Int} (h : DeS a b c e p q a' w g e') (k : DTab a b c e p q a' w g x z o0 o1 s2 t2) : Bi 420 o0 ∧ Bi 420 o1 ∧ Bi 203 s2 ∧ Bi 203 t2 := by
  obtain ⟨cs', hm', g0⟩ := h.cs'
  have ck := h.cs.ck
  have ck' := cs'.ck
  obtain ⟨l1, l2, _⟩ := cut_parts cs'.cut
  obtain ⟨bz, bx⟩ := tab_bi h k
  obtain ⟨hd, hI, hJ, hK, hL⟩ := k.sol g0 (by omega) h.dn
  have b1 : Bi 203 (p * b + q * a) := ((h.bp.mul ck.bb).up (by decide : 200 ≤ 202)).add ((h.bq.mul ck.ba).up (by decide))
  have b2 : Bi 202 (q * c) := (h.bq.mul ck.bc).up (by decide)
  have b4 : Bi 400 (z * c) := (bz.mul ck.bc).up (by decide)
  have b3 : Bi 410 (x * b + z * a + e + q * c) := (((((bx.mul ck.bb).up (by decide : 405 ≤ 407)).add ((bz.mul ck.ba).up (by decide))).up (by decide : 408 ≤ 408)).add (ck.be.up (by decide))).add (b2.up (by decide))
  have bt : Bi 203 t2 := Bi.of_dvd b1 (show g ≠ 0 by omega) (by rw [hI, Int.mul_comm])
  have bs : Bi 203 s2 := Bi.of_dvd (n := 203) ((Bi.of_abs 0 (by decide) (Nat.pow_pos (by decide)) : Bi 202 0).sub b2) (show g ≠ 0 by omega) (by rw [hJ]; grind)
  have bo0 : Bi 420 o0 := Bi.of_dvd (n := 420) ((b4.up (by decide : 400 ≤ 419)).sub ((bs.mul ck'.ba).up (by decide))) (show w ≠ 0 by omega) (by rw [hL]; grind)
  have bo1 : Bi 420 o1 := Bi.of_dvd (n := 420) ((((bt.mul ck'.ba).neg).up (by decide : 303 ≤ 419)).sub (b3.up (by decide))) (show w ≠ 0 by omega) (by rw [hK]; grind)
  exact ⟨bo0, bo1, bs, bt⟩
theorem tab_M {a b c e p q a' w g e' x z o0 o1 s2 t2 : Int} (h : DeS a b c e p q a' w g e') (k : DTab a b c e p q a' w g x z o0 o1 s2 t2) : (tabM p q x z o0 o1 s2 t2).bi 530 := by
  obtain ⟨b0, b1, b2, b3⟩ := tab_bo h k
  obtain ⟨bz, bx⟩ := tab_bi h k
  have z0 : Bi 530 0 := Bi.of_abs 0 (by decide) (Nat.pow_pos (by decide))
  have z1 : Bi 530 1 := (Bi.of_abs 1 (by decide) (by decide) : Bi 1 1).up (by decide)
  have ng : ∀ {n : Nat} {i : Int}, Bi n i → Bi n (-i) := fun {n i} h => by unfold Bi at *; omega
  exact ⟨⟨z0, z1, b3.up (by decide), (ng b1).up (by decide)⟩, ⟨z0, z0, (ng b2).up (by decide), b0.up (by decide)⟩, ⟨h.bp.up (by decide), bx.up (by decide), ((ng b2).mul h.bp).up (by decide), (b0.mul h.bp).up (by decide)⟩, ⟨h.bq.up (by decide), bz.up (by decide), ((ng b2).mul h.bq).up (by decide), (b0.mul h.bq).up (by decide)⟩⟩
def linD (s : Int) : D → D → D
  | .int x, .int y => .int (x + s * y)
  | _, _ => .non
/-! ### owned rows, looked at deeply -/
theorem gNeE_res {n : Nat} {x y d : D} {M : Mem} {Q : DQ} (hx : resE M 4 x = d) (hy : resE M 4 y = d) (h : fine n d = true) (q : Q (.bl false) M) (hn : n ≤ 64 := by decide) : gNeE x y M Q := by
  unfold gNeE
  rw [hx, hy, eqB_self h hn]
  exact q
theorem gEqE_res {n : Nat} {x y d : D} {M : Mem} {Q : DQ} (hx : resE M 4 x = d) (hy : resE M 4 y = d) (h : fine n d = true) (q : Q (.bl true) M) (hn : n ≤ 64 := by decide) : gEqE x y M Q := by
  unfold gEqE
  rw [hx, hy, eqB_self h hn]
  exact q
theorem gReprE_res {d x : D} {z : Str} {M : Mem} {Q : DQ} (hd : resE M 4 d = x) (hz : shwnZ x = some z) (q : Q (.str z) M) : gReprE [d] M Q := by
  unfold gReprE
  dsimp only
  rw [hd, hz]
  exact q
theorem gNeE_str {z : Str} {M : Mem} {Q : DQ} (q : Q (.bl false) M) : gNeE (.str z) (.str z) M Q := by
  have h := gNe_str_same (z := z) (M := M) (Q := Q) q
  unfold gNe at h
  unfold gNeE
  exact h
theorem row_resE {M : Mem} {x : D} {v : V4} {n : Nat} (h : res M x = v.D) : resE M (n + 2) x = v.D := by
  rcases isL h with rfl | ⟨k, rfl, hk⟩
  · rfl
  · unfold resE cellL
    rw [hk]
    rfl
theorem TabR.resE {M : Mem} {d : D} {A : M4} (h : TabR M d A) : resE M 4 d = A.D := by
  obtain ⟨x0, x1, x2, x3, hd, h0, h1, h2, h3⟩ := h
  have e0 := row_resE (n := 1) h0
  have e1 := row_resE (n := 1) h1
  have e2 := row_resE (n := 1) h2
  have e3 := row_resE (n := 1) h3
  rcases isL hd with rfl | ⟨k, rfl, hk⟩
  · unfold DL.resE
    simp only [List.map_cons, List.map_nil, e0, e1, e2, e3]
  · unfold DL.resE cellL
    dsimp only
    rw [hk]
    simp only [List.map_cons, List.map_nil, e0, e1, e2, e3]
theorem turn_ofK {p q x z x' z' : Int} (q1 : 1 ≤ q) (cp : Int.gcd p q = 1) (h : p * z - q * x = 1) (h' : p * z' - q * x' = 1) : ∃ n, x' = x + n * p ∧ z' = z + n * q := by
  have e1 : p * (z' - z) = q * (x' - x) := by grind
  have d1 : q ∣ z' - z := by
    have h2 : q.natAbs ∣ (z' - z).natAbs * p.natAbs := by
      rw [← Int.natAbs_mul, Int.natAbs_dvd_natAbs]
      exact ⟨x' - x, by rw [Int.mul_comm]; exact e1⟩
    have h3 : Nat.Coprime q.natAbs p.natAbs := by
      have : Nat.gcd p.natAbs q.natAbs = 1 := cp
      rw [Nat.gcd_comm] at this
      exact this
    exact Int.natAbs_dvd_natAbs.mp (h3.dvd_of_dvd_mul_right h2)
  obtain ⟨n, hn⟩ := d1
  refine ⟨n, ?_, by rw [Int.mul_comm]; omega⟩
  have e2 : q * (x' - x) = q * (n * p) := by rw [← e1, hn]; grind
  have := Int.eq_of_mul_eq_mul_left (by omega) e2
  omega
theorem tab_uniqK {a b c e p q a' w g e' x z o0 o1 s2 t2 x' z' o0' o1' s2' t2' : Int} (h : DeS a b c e p q a' w g e') (k : DTab a b c e p q a' w g x z o0 o1 s2 t2) (k' : DTab a b c e p q a' w g x' z' o0' o1' s2' t2') : x' = x ∧ z' = z := by
  obtain ⟨cs', hm', g0⟩ := h.cs'
  have hp := (isDeed_parts h.deed).1
  obtain ⟨l1, l2, _⟩ := cut_parts cs'.cut
  obtain ⟨n, e1, e2⟩ := turn_ofK hp.q1 hp.cp k.pz k'.pz
  have s1 := sums_turn (n := n) g0 (by omega) h.dn k
  have s2 := sums_turn (n := 0) g0 (by omega) h.dn k'
  rw [← e1, ← e2] at s1
  rw [show x' + 0 * p = x' by grind, show z' + 0 * q = z' by grind] at s2
  have hd := s1.mp (s2.mpr (Int.dvd_zero _))
  have a1 := k.z0
  have a2 := k.z1
  have a3 := k'.z0
  have a4 := k'.z1
  generalize w / (Int.gcd w g : Int) = S at *
  obtain ⟨j, hj⟩ := hd
  have q1 := hp.q1
  have S0 : 0 < S := by
    rcases (by omega : 0 < S ∨ S ≤ 0) with r | r
    · exact r
    · have : q * S ≤ 0 := Int.mul_nonpos_of_nonneg_of_nonpos (by omega) r
      omega
  have hn0 : n = 0 := by
    have hz : z' - z = q * S * j := by rw [e2, hj]; grind
    rcases (by omega : j = 0 ∨ 1 ≤ j ∨ j ≤ -1) with r | r | r
    · rw [hj, r]; omega
    · have : q * S * 1 ≤ q * S * j := Int.mul_le_mul_of_nonneg_left r (by omega)
      omega
    · have : q * S * j ≤ q * S * (-1) := Int.mul_le_mul_of_nonneg_left r (by omega)
      omega
  subst hn0
  constructor <;> omega
theorem Gst.rtqK {k : Nat} {n : Int} {M M1 G : Mem} {Q : DQ} {d : D} (h : Gst k n M M1) (q : Q d M1) (hb : below M1.length d = true := by rfl) : Rtq M Q d (M1 ++ G) := by
  obtain ⟨M2, G2, e, h2⟩ := h.rtq q hb
  subst e
  exact ⟨M2, G2 ++ G, List.append_assoc _ _ _, h2⟩
theorem tabM_uniq {a b c e p q a' w g e' x z o0 o1 s2 t2 x' z' o0' o1' s2' t2' : Int} (h : DeS a b c e p q a' w g e') (k : DTab a b c e p q a' w g x z o0 o1 s2 t2) (k' : DTab a b c e p q a' w g x' z' o0' o1' s2' t2') : tabM p q x' z' o0' o1' s2' t2' = tabM p q x z o0 o1 s2 t2 := by
  obtain ⟨cs', hm', g0⟩ := h.cs'
  obtain ⟨l1, l2, _⟩ := cut_parts cs'.cut
  obtain ⟨ex, ez⟩ := tab_uniqK h k k'
  subst ex ez
  obtain ⟨_, a1, a2, a3, a4⟩ := k.sol g0 (by omega) h.dn
  obtain ⟨_, b1, b2, b3, b4⟩ := k'.sol g0 (by omega) h.dn
  have et : t2' = t2 := Int.eq_of_mul_eq_mul_right (show g ≠ 0 by omega) (by rw [← a1, ← b1])
  have es : s2' = s2 := Int.eq_of_mul_eq_mul_right (show g ≠ 0 by omega) (by omega)
  subst et es
  have eo : o1' = o1 := Int.eq_of_mul_eq_mul_right (show w ≠ 0 by omega) (by omega)
  have eo0 : o0' = o0 := Int.eq_of_mul_eq_mul_right (show w ≠ 0 by omega) (by omega)
  subst eo eo0
  rfl
theorem gSl_own {d : D} {l : List D} {lo hi : Option Int} {M : Mem} {Q : DQ} (h : res M d = .lst l) (q : Q (.lst (cutD l lo hi)) M) : gSl false d lo hi M Q := by
  rcases isL h with rfl | ⟨k, rfl, hk⟩
  · exact q
  · unfold gSl gSlL
    dsimp only
    simp only [h]
    exact q
theorem litK {n B : Nat} {i : Int} (h : Bi n i) (hn : n + 1 ≤ B := by decide) (h0 : 0 < n := by decide) : lit B (.int i) = true := decide_eq_true (Nat.lt_of_lt_of_le (Nat.lt_succ_of_le (Nat.le_of_lt (log2_of n h h0))) hn)
end DL
namespace DL
/-! MQ: shears between a deed and its back -/
def V4.neg (v : V4) : V4 := ⟨0 - v.a, 0 - v.b, 0 - v.c, 0 - v.d⟩
/-- sums of base paths -/
def V4.sum (v : V4) (x0 x1 x2 x3 : V4) : V4 := ⟨v.a * x0.a + v.b * x1.a + v.c * x2.a + v.d * x3.a, v.a * x0.b + v.b * x1.b + v.c * x2.b + v.d * x3.b, v.a * x0.c + v.b * x1.c + v.c * x2.c + v.d * x3.c, v.a * x0.d + v.b * x1.d + v.c * x2.d + v.d * x3.d⟩
theorem led_sum (A : M4) (v : V4) : A.led v = v.sum A.T.a A.T.b A.T.c A.T.d := by
  ext <;> simp only [M4.led, dot4, V4.sum, M4.T] <;> grind
/-! ### the whole round -/
def V4.add (u v : V4) : V4 := ⟨u.a + v.a, u.b + v.b, u.c + v.c, u.d + v.d⟩
theorem mul_led (A B : M4) (v : V4) : (A.mul B).led v = A.led (B.led v) := by
  ext <;> simp only [M4.mul, M4.T, M4.led, dot4] <;> grind
def M4.neg (A : M4) : M4 := ⟨A.a.neg, A.b.neg, A.c.neg, A.d.neg⟩
theorem led_base (A : M4) (i : Nat) : A.led (bse i) = A.T.get i := by
  match i with
  | 0 => ext <;> simp only [M4.led, dot4, M4.T, M4.get, bse] <;> grind
  | 1 => ext <;> simp only [M4.led, dot4, M4.T, M4.get, bse] <;> grind
  | 2 => ext <;> simp only [M4.led, dot4, M4.T, M4.get, bse] <;> grind
  | _ + 3 => ext <;> simp only [M4.led, dot4, M4.T, M4.get, bse] <;> grind
end DL
namespace DL
open PySem PySem.Spec PyProof.Rows L2
local macro_rules | `(tactic| walk_at "rd") => `(tactic| simp only [startD, List.map, List.replicate, List.length_cons, List.length_nil, List.append_eq, List.append_nil, List.nil_append, List.cons_append, Nat.reduceSub, Nat.reduceAdd, List.getElem?_cons_zero, List.getElem?_cons_succ, List.set_cons_zero, List.set_cons_succ,
  dC, dVar, dOp, dTru, gTru, tru, dChain, dAnd, dOr, dNot, dAndV, dOrV, dNotV, dIf, dNeg, gNeg, dNil, dCons, dTup, dLst, dOwn, gIx, rBin, gAdd, gCmpI, dCall, dCallK, dSeq, dNext, dDrop, dRet, dRetN, dIfS, dName, dGNil, dGCons, dGTup, dSub, gSetL, dAsg, dPar, dPar3, dAug, gIpI, dSeqI, gSeqI, dRngI, gRng1, gRng2, dCB, gAbs, gInt, gMax, gMin, gGcd, gLen, lenD, gIsi, tyM, tyD, dBits, gBits, dMet, gAppend, dPart, dNoPart, dSl, gSl_tup, gSl_lst, cut_1, dEnds, gIs, isB, dNever, dCallX, dRaise, dTry, dFld, dCallV, gLRng, gFrz, dFrz, dFor, dLc, wipeD, dYes,
  sizeLine_eq, Nat.reduceLeDiff, gEq_int, gNe_int, gEq_strs, gNe_strs, gIn_two, gRepr_bl, rs_lst, rs_tup, rs_scr, rs_int, atI_0, atI_1, atI_2, atI_3, atI_4, atI_5, ixN_30, ixN_31, ixN_32, gEq_bl, gNe_bl, decide_eq_true_eq, beq_iff_eq, Bool.not_eq_true', beq_eq_false_iff_ne, decide_eq_false_iff_not, Bool.not_true, Bool.not_false, if_true, if_false, Bool.false_eq_true, ite_true, ite_false, true_and, and_true, ne_eq, Bool.bne_false, Bool.bne_true, reduceCtorEq])
local macro_rules | `(tactic| walk_at "rh") => `(tactic| simp only [*, startD, List.map, List.replicate, List.length_cons, List.length_nil, List.append_eq, List.append_nil, List.nil_append, List.cons_append, Nat.reduceSub, Nat.reduceAdd, List.getElem?_cons_zero, List.getElem?_cons_succ, List.set_cons_zero, List.set_cons_succ,
  dC, dVar, dOp, dTru, gTru, tru, dChain, dAnd, dOr, dNot, dAndV, dOrV, dNotV, dIf, dNeg, gNeg, dNil, dCons, dTup, dLst, dOwn, gIx, rBin, gAdd, gCmpI, dCall, dCallK, dSeq, dNext, dDrop, dRet, dRetN, dIfS, dName, dGNil, dGCons, dGTup, dSub, gSetL, dAsg, dPar, dPar3, dAug, gIpI, dSeqI, gSeqI, dRngI, gRng1, gRng2, dCB, gAbs, gInt, gMax, gMin, gGcd, gLen, lenD, gIsi, tyM, tyD, dBits, gBits, dMet, gAppend, dPart, dNoPart, dSl, gSl_tup, gSl_lst, cut_1, dEnds, gIs, isB, dNever, dCallX, dRaise, dTry, dFld, dCallV, gLRng, gFrz, dFrz, dFor, dLc, wipeD, dYes,
  sizeLine_eq, Nat.reduceLeDiff, gEq_int, gNe_int, gEq_strs, gNe_strs, gIn_two, gRepr_bl, rs_lst, rs_tup, rs_scr, rs_int, atI_0, atI_1, atI_2, atI_3, atI_4, atI_5, ixN_30, ixN_31, ixN_32, gEq_bl, gNe_bl, decide_eq_true_eq, beq_iff_eq, Bool.not_eq_true', beq_eq_false_iff_ne, decide_eq_false_iff_not, Bool.not_true, Bool.not_false, if_true, if_false, Bool.false_eq_true, ite_true, ite_false, true_and, and_true, ne_eq, Bool.bne_false, Bool.bne_true, reduceCtorEq])
local macro_rules | `(tactic| walk_at "kb") => `(tactic| simp only [kb_NoneType_list, kb_bool_list, kb_int_list, kb_str_list, kb_tuple_list, kb_list_list, kb_dict_list, kb_NoneType_int, kb_bool_int, kb_int_int, kb_str_int, kb_tuple_int, kb_list_int, kb_dict_int, kb_NoneType_bool, kb_bool_bool, kb_int_bool, kb_str_bool, kb_tuple_bool, kb_list_bool, kb_dict_bool, kb_NoneType_tuple, kb_bool_tuple, kb_int_tuple, kb_str_tuple, kb_tuple_tuple, kb_list_tuple, kb_dict_tuple, if_true, if_false, Bool.false_eq_true, ite_true, ite_false, Bool.not_true, Bool.not_false])
/-! k46: shears between a deed and what leads back -/
/-! ### tables whose rows are owned, made new -/
def newT (A : M4) (M : Mem) (Q : DQ) : Prop := Q (.own (M.length + 4)) (M ++ cells5 M.length A)
theorem newT.rtq {A : M4} {M : Mem} {Q : DQ} (h : newT A M Q) : Rtq M Q (.own (M.length + 4)) (M ++ cells5 M.length A) := by
  have := tabOwn.rtq (G := []) (A := A) (M := M) (Q := Q) (by unfold tabOwn; rw [List.append_nil]; exact h) (fun c hc => by cases hc)
  rwa [List.append_nil] at this
def sp_lself : DSp := fun ds M Q _ => ds = [] ∧ Q M4.one.D M
theorem rd_l_self_a3eb : ∀ ds M Q, ds.length = 0 → sp_lself ds M Q DX0 → t_l_self_a3eb sp_lbase (dEnds M Q) (startD 1 ds) M := by
  rintro _ M Q - ⟨rfl, q⟩
  unfold t_l_self_a3eb
  walk_at "rd"
  refine ⟨by unfold Rg; decide, ?_⟩
  refine lcW_idx (ys := [(bse 0).D, (bse 1).D, (bse 2).D, (bse 3).D]) (by rfl) trivial (by rw [sizeLine_eq]; exact Nat.le_of_ble_eq_true rfl) (fun j d w hd hw Z N' hz => ?_) (rtq q (by rfl))
  obtain ⟨hi, rfl⟩ := rng_get.mp hd
  have hi : j < 4 := hi
  walk_at "rd"
  refine ⟨j, by rw [Int.zero_add], hi, ?_⟩
  rcases (by omega : j = 0 ∨ j = 1 ∨ j = 2 ∨ j = 3) with rfl | rfl | rfl | rfl <;> (cases hw; exact hz)
/-! ### shears -/
theorem topL (M : Mem) (A : M4) : res (M ++ cells5 M.length A) (.own (M.length + 4)) = .lst [.own M.length, .own (M.length + 1), .own (M.length + 2), .own (M.length + 3)] := by
  have : (M ++ cells5 M.length A)[M.length + 4]? = some (.lst [.own M.length, .own (M.length + 1), .own (M.length + 2), .own (M.length + 3)]) := by
    rw [List.getElem?_append_right (by omega), Nat.add_sub_cancel_left]; rfl
  unfold res
  dsimp only
  rw [this]
theorem cget0 (M : Mem) (A : M4) : (M ++ cells5 M.length A)[M.length]? = some A.a.O := by
  rw [List.getElem?_append_right (by omega), Nat.sub_self]; rfl
/-! ### products -/
theorem mul_bi {A B : M4} {n m : Nat} (hA : A.bi n) (hB : B.bi m) : (A.mul B).bi (n + m + 2) := by
  have d : ∀ v w : V4, v.bi n → w.bi m → Bi (n + m + 2) (dot4 v w) := fun v w hv hw =>
    ((((hv.a.mul hw.a).up (by omega : n + m ≤ n + m)).add ((hv.b.mul hw.b).up (by omega))).up (by omega : n + m + 1 ≤ n + m + 1) |> fun h1 => by
      have h2 := ((hv.c.mul hw.c).up (by omega : n + m ≤ n + m)).add ((hv.d.mul hw.d).up (by omega : n + m ≤ n + m))
      have h3 := h1.add h2
      unfold dot4
      have e : v.a * w.a + v.b * w.b + v.c * w.c + v.d * w.d = v.a * w.a + v.b * w.b + (v.c * w.c + v.d * w.d) := by omega
      rw [e]; exact h3)
  have hT := hB.T
  exact ⟨⟨d _ _ hA.a hT.a, d _ _ hA.a hT.b, d _ _ hA.a hT.c, d _ _ hA.a hT.d⟩, ⟨d _ _ hA.b hT.a, d _ _ hA.b hT.b, d _ _ hA.b hT.c, d _ _ hA.b hT.d⟩, ⟨d _ _ hA.c hT.a, d _ _ hA.c hT.b, d _ _ hA.c hT.c, d _ _ hA.c hT.d⟩, ⟨d _ _ hA.d hT.a, d _ _ hA.d hT.b, d _ _ hA.d hT.c, d _ _ hA.d hT.d⟩⟩
def sp_times4 : DSp := fun ds M Q _ => ∃ (x y : D) (A B : M4), ds = [x, y] ∧ TabR M x A ∧ TabR M y B ∧ A.bi 90000 ∧ B.bi 90000 ∧ Q (A.mul B).D M
theorem rd_table_times : ∀ ds M Q, ds.length = 2 → sp_times4 ds M Q DX0 → t_table_times sp_lcols4 sp_tled (dEnds M Q) (startD 3 ds) M := by
  rintro _ M Q - ⟨x, y, A, B, rfl, hx, hy, bA, bB, q⟩
  unfold t_table_times
  walk_at "rd"
  refine ⟨y, B, rfl, hy, ?_⟩
  dsimp only
  refine lcW_idx (ys := [(A.led B.T.a).D, (A.led B.T.b).D, (A.led B.T.c).D, (A.led B.T.d).D]) rfl trivial (by rw [sizeLine_eq]; exact Nat.le_of_ble_eq_true rfl) (fun j d w hd hw Z N' hz => ?_) ?_
  · have hj : j < 4 := (List.getElem?_eq_some_iff.mp hw).1
    have bT := bB.T
    rcases (by omega : j = 0 ∨ j = 1 ∨ j = 2 ∨ j = 3) with rfl | rfl | rfl | rfl <;> (cases hd; cases hw)
    · exact ⟨rfl, x, _, A, B.T.a, rfl, hx, rfl, bA, bT.a, hz⟩
    · exact ⟨rfl, x, _, A, B.T.b, rfl, hx, rfl, bA, bT.b, hz⟩
    · exact ⟨rfl, x, _, A, B.T.c, rfl, hx, rfl, bA, bT.c, hz⟩
    · exact ⟨rfl, x, _, A, B.T.d, rfl, hx, rfl, bA, bT.d, hz⟩
  · exact ⟨_, ⟨A.led B.T.a, A.led B.T.b, A.led B.T.c, A.led B.T.d⟩, rfl, TabR.pure M ⟨A.led B.T.a, A.led B.T.b, A.led B.T.c, A.led B.T.d⟩, rtq q (by rfl)⟩
/-! ### back -/
def backM (A : M4) : M4 := ⟨⟨A.b.b, 0 - A.a.b, A.d.b, 0 - A.c.b⟩, ⟨0 - A.b.a, A.a.a, 0 - A.d.a, A.c.a⟩, ⟨A.b.d, 0 - A.a.d, A.d.d, 0 - A.c.d⟩, ⟨0 - A.b.c, A.a.c, 0 - A.d.c, A.c.c⟩⟩
/-- the list of the rows, then the rows -/
def cellsB (n : Nat) (A : M4) : Mem := [.lst [.own (n + 1), .own (n + 2), .own (n + 3), .own (n + 4)], A.a.O, A.b.O, A.c.O, A.d.O]
def cellsBi (n : Nat) (A : M4) (i : Nat) : Mem := .lst ([D.own (n + 1), .own (n + 2), .own (n + 3), .own (n + 4)].take i) :: [A.a.O, A.b.O, A.c.O, A.d.O].take i
theorem tabB (M : Mem) (A : M4) : TabR (M ++ cellsB M.length A) (.own M.length) A := by
  have g : ∀ (i : Nat) (c : Own), (cellsB M.length A)[i]? = some c → (M ++ cellsB M.length A)[M.length + i]? = some c := fun i c h => by
    rw [List.getElem?_append_right (by omega), Nat.add_sub_cancel_left]; exact h
  refine ⟨.own (M.length + 1), .own (M.length + 2), .own (M.length + 3), .own (M.length + 4), ?_, ?_, ?_, ?_, ?_⟩
  · have := g 0 _ rfl
    rw [Nat.add_zero] at this
    unfold res; dsimp only; rw [this]
  · unfold res; dsimp only; rw [g 1 _ rfl]
  · unfold res; dsimp only; rw [g 2 _ rfl]
  · unfold res; dsimp only; rw [g 3 _ rfl]
  · unfold res; dsimp only; rw [g 4 _ rfl]
def pN : Nat → Nat
  | 0 => 1 | 1 => 0 | 2 => 3 | _ => 2
def sI : Nat → Int
  | 0 => 1 | 1 => -1 | 2 => 1 | _ => -1
def sp_back_o : DSp := fun ds M Q _ => ∃ (y : D) (A : M4), ds = [y] ∧ TabR M y A ∧ A.bi 90000 ∧ Q (.own M.length) (M ++ cellsB M.length (backM A))
theorem rd_back_of_o : ∀ ds M Q, ds.length = 1 → sp_back_o ds M Q DX0 → t_back_of_o (dEnds M Q) (startD 8 ds) M := by
  rintro _ M Q - ⟨y, A, rfl, hT, bA, q⟩
  unfold t_back_of_o
  refine dSeq_open fun B hB => ?_
  walk_at "rd"
  rw [← hB]
  clear hB B
  refine dSeq_open fun B hB => ?_
  walk_at "rd"
  refine ⟨by unfold Rg; decide, ?_⟩
  refine ⟨fun i r M' => i ≤ 4 ∧ M' = M ++ cellsBi M.length (backM A) i ∧ ∃ u2 u3 u4 u5 u6 u7, r = [some y, some (.own M.length), u2, u3, u4, u5, u6, u7], ⟨by decide, rfl, _, _, _, _, _, _, rfl⟩, ?_⟩
  rintro i r M' ⟨hi, rfl, u2, u3, u4, u5, u6, u7, rfl⟩
  refine ⟨trivial, fun hl => ?_, fun d hd => ?_⟩
  · have hi4 : i = 4 := by rw [rng_len] at hl; omega
    subst hi4
    dsimp only
    rw [← hB]
    clear hB B
    walk_at "rd"
    refine rtqA (G := cellsB M.length (backM A)) q ?_ ?_
    · simp [below, cellsB]
    · intro c hc
      simp only [cellsB, List.mem_cons, List.not_mem_nil, or_false] at hc
      rcases hc with rfl | rfl | rfl | rfl | rfl <;> simp [belowO, belowAll, below, cellsB]
  · clear hB
    obtain ⟨hi2, rfl⟩ := rng_get.mp hd
    have hi2 : i < 4 := hi2
    have hc : ∀ i : Nat, i < 4 → ((0 + (i : Int)).fmod 2 = 0 ∧ (0 + (i : Int)) + 1 = (pN i : Int) ∧ sI i = 1) ∨ (¬ (0 + (i : Int)).fmod 2 = 0 ∧ (0 + (i : Int)) - 1 = (pN i : Int) ∧ sI i = -1) := by
      intro i hi
      rcases (by omega : i = 0 ∨ i = 1 ∨ i = 2 ∨ i = 3) with rfl | rfl | rfl | rfl
      · exact .inl (by decide)
      · exact .inr (by decide)
      · exact .inl (by decide)
      · exact .inr (by decide)
    have c2 : CMod 1 2 := by show (2 : Int) ≠ 0; decide
    refine dSeq_open fun B hB => ?_
    have rest : B [some y, some (.own M.length), some (.int (0 + (i : Int))), some (.int (pN i : Int)), u4, u5, u6, u7] (M ++ cellsBi M.length (backM A) i) := by
      rw [← hB]
      clear hB B
      refine dSeq_open fun B hB => ?_
      have rest : B [some y, some (.own M.length), some (.int (0 + (i : Int))), some (.int (pN i : Int)), some (.int (sI i)), u5, u6, u7] (M ++ cellsBi M.length (backM A) i) := by
        rw [← hB]
        clear hB B
        have hPl : (M ++ cellsBi M.length (backM A) i).length = M.length + i + 1 := by
          rcases (by omega : i = 0 ∨ i = 1 ∨ i = 2 ∨ i = 3) with rfl | rfl | rfl | rfl <;> simp [cellsBi]
        obtain ⟨P, hP⟩ : ∃ P, P = M ++ cellsBi M.length (backM A) i := ⟨_, rfl⟩
        rw [← hP] at hPl ⊢
        refine dSeq_open fun B hB => ?_
        walk_at "rd"
        rw [← hB]
        clear hB B
        refine dSeq_open fun B hB => ?_
        walk_at "rd"
        refine ⟨by unfold Rg; decide, ?_⟩
        obtain ⟨R, hR⟩ : ∃ R, R = (backM A).get i := ⟨_, rfl⟩
        refine ⟨fun j r M1 => j ≤ 4 ∧ M1 = P ++ [.lst ([D.int R.a, .int R.b, .int R.c, .int R.d].take j)] ∧ ∃ v6 v7, r = [some y, some (.own M.length), some (.int (0 + (i : Int))), some (.int (pN i : Int)), some (.int (sI i)), some (.own P.length), v6, v7], ⟨by decide, rfl, _, _, rfl⟩, ?_⟩
        rintro j r M1 ⟨hj, rfl, v6, v7, rfl⟩
        refine ⟨trivial, fun hl => ?_, fun d hd => ?_⟩
        · have hj4 : j = 4 := by rw [rng_len] at hl; omega
          subst hj4
          dsimp only
          rw [← hB]
          clear hB B
          walk_at "rd"
          have hn : (P ++ [Own.lst (List.take 4 [D.int R.a, D.int R.b, D.int R.c, D.int R.d])])[M.length]? = some (.lst (List.take i [D.own (M.length + 1), .own (M.length + 2), .own (M.length + 3), .own (M.length + 4)])) := by
            rw [hP, List.append_assoc, List.getElem?_append_right (Nat.le_refl _), Nat.sub_self]
            rfl
          refine ⟨⟨_, _, rfl, hn⟩, ?_⟩
          rw [hn]
          dsimp only
          refine ⟨?_, by omega, ?_, _, _, _, _, _, _, rfl⟩
          · rw [List.length_take]
            have : min i [D.own (M.length + 1), .own (M.length + 2), .own (M.length + 3), .own (M.length + 4)].length ≤ 4 := Nat.min_le_right _ _
            exact Nat.lt_of_le_of_lt this (by decide)
          · rw [hPl, hP, List.append_assoc, List.set_append_right _ _ (Nat.le_refl _), Nat.sub_self, hR]
            rcases (by omega : i = 0 ∨ i = 1 ∨ i = 2 ∨ i = 3) with rfl | rfl | rfl | rfl <;> rfl
        · clear hB
          obtain ⟨hj2, rfl⟩ := rng_get.mp hd
          have hj2 : j < 4 := hj2
          refine dSeq_open fun B hB => ?_
          have rest : B [some y, some (.own M.length), some (.int (0 + (i : Int))), some (.int (pN i : Int)), some (.int (sI i)), some (.own P.length), some (.int (0 + (j : Int))), some (.int (pN j : Int))] (P ++ [.lst ([D.int R.a, .int R.b, .int R.c, .int R.d].take j)]) := by
            rw [← hB]
            clear hB B
            walk_at "rd"
            obtain ⟨L, hL⟩ : ∃ L, L = [D.int R.a, D.int R.b, D.int R.c, D.int R.d] := ⟨_, rfl⟩
            have hTM : TabR (P ++ [Own.lst (List.take j L)]) y A := by rw [hP, List.append_assoc]; exact hT.app _
            have hl : (P ++ [Own.lst (List.take j L)])[P.length]? = some (.lst (List.take j L)) := by
              rw [List.getElem?_append_right (Nat.le_refl _), Nat.sub_self]; rfl
            have hset : List.set (P ++ [Own.lst (List.take j L)]) P.length (Own.lst (List.take j L ++ [.int (R.get j)])) = P ++ [Own.lst (List.take (j + 1) L)] := by
              rw [List.set_append_right _ _ (Nat.le_refl _), Nat.sub_self, hL]
              rcases (by omega : j = 0 ∨ j = 1 ∨ j = 2 ∨ j = 3) with rfl | rfl | rfl | rfl <;> rfl
            have hlen : (List.take j L).length < 16777216 := by
              rw [List.length_take, hL]
              have : min j [D.int R.a, D.int R.b, D.int R.c, D.int R.d].length ≤ 4 := Nat.min_le_right _ _
              exact Nat.lt_of_le_of_lt this (by decide)
            rw [← hL]
            obtain ⟨x0, x1, x2, x3, hy, h0, h1, h2, h3⟩ := hTM
            obtain ⟨x, ax, rx⟩ : ∃ x, atI [x0, x1, x2, x3] (pN j : Int) = some x ∧ res (P ++ [Own.lst (List.take j L)]) x = (A.get (pN j)).D := by
              rcases (by omega : j = 0 ∨ j = 1 ∨ j = 2 ∨ j = 3) with rfl | rfl | rfl | rfl
              · exact ⟨x1, rfl, h1⟩
              · exact ⟨x0, rfl, h0⟩
              · exact ⟨x3, rfl, h3⟩
              · exact ⟨x2, rfl, h2⟩
            obtain ⟨V, hV⟩ : ∃ V, V = A.get (pN j) := ⟨_, rfl⟩
            have av : atI [D.int V.a, .int V.b, .int V.c, .int V.d] (pN i : Int) = some (.int (V.get (pN i))) := by
              rcases (by omega : i = 0 ∨ i = 1 ∨ i = 2 ∨ i = 3) with rfl | rfl | rfl | rfl <;> rfl
            have bV : V.bi 90000 := by rw [hV]; exact bA.get _
            have bv : Bi 90000 (V.get (pN i)) := by
              rcases (by omega : i = 0 ∨ i = 1 ∨ i = 2 ∨ i = 3) with rfl | rfl | rfl | rfl
              · exact bV.b
              · exact bV.a
              · exact bV.d
              · exact bV.c
            have ent : sI i * sI j * V.get (pN i) = R.get j := by
              rw [hV, hR]
              rcases (by omega : i = 0 ∨ i = 1 ∨ i = 2 ∨ i = 3) with rfl | rfl | rfl | rfl <;> rcases (by omega : j = 0 ∨ j = 1 ∨ j = 2 ∨ j = 3) with rfl | rfl | rfl | rfl <;> simp only [sI, pN, M4.get, V4.get, backM] <;> omega
            have bs : ∀ i, i < 4 → Bi 2 (sI i) := fun i hi => by
              rcases (by omega : i = 0 ∨ i = 1 ∨ i = 2 ∨ i = 3) with rfl | rfl | rfl | rfl <;> exact Bi.of_abs 1 (by decide) (by decide)
            have b1 : Bi 2 1 := Bi.of_abs 1 (by decide) (by decide)
            have bm : Bi 2 (-1) := Bi.of_abs 1 (by decide) (by decide)
            rw [← hV] at rx
            rw [hy]
            dsimp only
            rw [ax]
            dsimp only
            rw [rx]
            dsimp only
            rw [av]
            dsimp only
            rw [hl]
            dsimp only
            refine ⟨⟨_, _, rfl, hl⟩, c2, ?_⟩
            rcases hc j hj2 with ⟨g1, g2, g3⟩ | ⟨g1, g2, g3⟩
            · rw [if_pos g1]
              rw [g3] at ent
              rw [ent]
              exact ⟨⟨(bs i hi2).sm, b1.sm⟩, ⟨((bs i hi2).mul b1).sm, bv.sm⟩, hlen, by omega, hset, _, _, rfl⟩
            · rw [if_neg g1]
              rw [g3] at ent
              rw [ent]
              exact ⟨⟨(bs i hi2).sm, bm.sm⟩, ⟨((bs i hi2).mul bm).sm, bv.sm⟩, hlen, by omega, hset, _, _, rfl⟩
          walk_at "rd"
          refine ⟨c2, ?_⟩
          rcases hc j hj2 with ⟨h1, h2, h3⟩ | ⟨h1, h2, h3⟩
          · rw [if_pos h1, h2]; exact rest
          · rw [if_neg h1, h2]; exact rest
      walk_at "rd"
      refine ⟨c2, ?_⟩
      rcases hc i hi2 with ⟨h1, h2, h3⟩ | ⟨h1, h2, h3⟩
      · rw [if_pos h1, ← h3]; exact rest
      · rw [if_neg h1, ← h3]; exact rest
    walk_at "rd"
    refine ⟨c2, ?_⟩
    rcases hc i hi2 with ⟨h1, h2, h3⟩ | ⟨h1, h2, h3⟩
    · rw [if_pos h1, h2]; exact rest
    · rw [if_neg h1, h2]; exact rest
/-! ### the number between -/
/-! ### the law's look at one cutting -/
theorem led_bi {A : M4} {v : V4} {n m : Nat} (hA : A.bi n) (hv : v.bi m) : (A.led v).bi (n + m + 2) := by
  have d : ∀ u w : V4, u.bi n → w.bi m → Bi (n + m + 2) (dot4 u w) := fun u w hv hw => by
    have h1 := ((hv.a.mul hw.a).up (by omega : n + m ≤ n + m)).add ((hv.b.mul hw.b).up (by omega : n + m ≤ n + m))
    have h2 := ((hv.c.mul hw.c).up (by omega : n + m ≤ n + m)).add ((hv.d.mul hw.d).up (by omega : n + m ≤ n + m))
    have h3 := h1.add h2
    unfold dot4
    have e : u.a * w.a + u.b * w.b + u.c * w.c + u.d * w.d = u.a * w.a + u.b * w.b + (u.c * w.c + u.d * w.d) := by omega
    rw [e]; exact h3
  exact ⟨d _ _ hA.a hv, d _ _ hA.b hv, d _ _ hA.c hv, d _ _ hA.d hv⟩
/-! ### the law -/
end DL
namespace DL
/-! MR: tables of words -/
def bkM (A : M4) : M4 := ⟨⟨A.b.b, 0 - A.a.b, A.d.b, 0 - A.c.b⟩, ⟨0 - A.b.a, A.a.a, 0 - A.d.a, A.c.a⟩, ⟨A.b.d, 0 - A.a.d, A.d.d, 0 - A.c.d⟩, ⟨0 - A.b.c, A.a.c, 0 - A.d.c, A.c.c⟩⟩
theorem keeps_six {A : M4} (h : Keeps A) : crs A.T.a A.T.b = 1 ∧ crs A.T.c A.T.d = 1 ∧ crs A.T.a A.T.c = 0 ∧ crs A.T.a A.T.d = 0 ∧ crs A.T.b A.T.c = 0 ∧ crs A.T.b A.T.d = 0 :=
  ⟨h 0 (by decide) 1 (by decide), h 2 (by decide) 3 (by decide), h 0 (by decide) 2 (by decide), h 0 (by decide) 3 (by decide), h 1 (by decide) 2 (by decide), h 1 (by decide) 3 (by decide)⟩
theorem keeps_one : Keeps M4.one := by
  refine keeps_of ?_ ?_ ?_ ?_ ?_ ?_ <;> decide
/-- crossings of what is led -/
theorem crs_led {A : M4} (h : Keeps A) (v w : V4) : crs (A.led v) (A.led w) = crs v w := by
  obtain ⟨h1, h2, h3, h4, h5, h6⟩ := keeps_six h
  rw [led_sum, led_sum]
  generalize A.T.a = a at *
  generalize A.T.b = b at *
  generalize A.T.c = c at *
  generalize A.T.d = d at *
  have e : crs (v.sum a b c d) (w.sum a b c d) = crs a b * (v.a * w.b - v.b * w.a) + crs c d * (v.c * w.d - v.d * w.c) + crs a c * (v.a * w.c - v.c * w.a) + crs a d * (v.a * w.d - v.d * w.a) + crs b c * (v.b * w.c - v.c * w.b) + crs b d * (v.b * w.d - v.d * w.b) := by
    simp only [crs, V4.sum]; grind
  rw [e, h1, h2, h3, h4, h5, h6]
  simp only [crs]; grind
theorem keeps_mul {A B : M4} (hA : Keeps A) (hB : Keeps B) : Keeps (A.mul B) := by
  intro i hi j hj
  rw [← led_base, ← led_base, mul_led, mul_led, crs_led hA, crs_led hB]
theorem bk_of_mul (A B : M4) : bkM (A.mul B) = (bkM B).mul (bkM A) := by
  ext <;> simp only [bkM, M4.mul, M4.T, M4.led, dot4] <;> grind
/-- a table that keeps crossings, and so does the one that leads back -/
structure KK (A : M4) : Prop where
  k : Keeps A
  b : Keeps (bkM A)
theorem KK.one : KK M4.one := ⟨keeps_one, by refine keeps_of ?_ ?_ ?_ ?_ ?_ ?_ <;> decide⟩
theorem KK.mul {A B : M4} (hA : KK A) (hB : KK B) : KK (A.mul B) := ⟨keeps_mul hA.k hB.k, by rw [bk_of_mul]; exact keeps_mul hB.b hA.b⟩
theorem KK.tab {a b c e p q a' w g e' x z o0 o1 s2 t2 : Int} (hg : 0 < g) (hw : 0 < w) (hn : IsDone a b c e p q a' w g e') (k : DTab a b c e p q a' w g x z o0 o1 s2 t2) : KK (tabM p q x z o0 o1 s2 t2) := by
  refine ⟨tab_keeps hg hw hn k, ?_⟩
  obtain ⟨hd, _⟩ := k.sol hg hw hn
  have pz := k.pz
  refine keeps_of ?_ ?_ ?_ ?_ ?_ ?_ <;> simp only [crs, M4.T, bkM, tabM] <;> grind
end DL
namespace DL
open PySem PySem.Spec PyProof.Rows L2
local macro_rules | `(tactic| walk_at "rd") => `(tactic| simp only [startD, List.map, List.replicate, List.length_cons, List.length_nil, List.append_eq, List.append_nil, List.nil_append, List.cons_append, Nat.reduceSub, Nat.reduceAdd, List.getElem?_cons_zero, List.getElem?_cons_succ, List.set_cons_zero, List.set_cons_succ,
  dC, dVar, dOp, dTru, gTru, tru, dChain, dAnd, dOr, dNot, dAndV, dOrV, dNotV, dIf, dNeg, gNeg, dNil, dCons, dTup, dLst, dOwn, gIx, rBin, gAdd, gCmpI, dCall, dCallK, dSeq, dNext, dDrop, dRet, dRetN, dIfS, dName, dGNil, dGCons, dGTup, dSub, gSetL, dAsg, dPar, dPar3, dAug, gIpI, dSeqI, gSeqI, dRngI, gRng1, gRng2, dCB, gAbs, gInt, gMax, gMin, gGcd, gLen, lenD, gIsi, tyM, tyD, dBits, gBits, dMet, gAppend, dPart, dNoPart, dSl, gSl_tup, gSl_lst, cut_1, dEnds, gIs, isB, dNever, dCallX, dRaise, dTry, dFld, dCallV, gLRng, gFrz, dFrz, dFor, dLc, wipeD, dYes,
  sizeLine_eq, Nat.reduceLeDiff, gEq_int, gNe_int, gEq_strs, gNe_strs, gIn_two, gRepr_bl, rs_lst, rs_tup, rs_scr, rs_int, atI_0, atI_1, atI_2, atI_3, atI_4, atI_5, ixN_30, ixN_31, ixN_32, gEq_bl, gNe_bl, decide_eq_true_eq, beq_iff_eq, Bool.not_eq_true', beq_eq_false_iff_ne, decide_eq_false_iff_not, Bool.not_true, Bool.not_false, if_true, if_false, Bool.false_eq_true, ite_true, ite_false, true_and, and_true, ne_eq, Bool.bne_false, Bool.bne_true, reduceCtorEq])
local macro_rules | `(tactic| walk_at "rh") => `(tactic| simp only [*, startD, List.map, List.replicate, List.length_cons, List.length_nil, List.append_eq, List.append_nil, List.nil_append, List.cons_append, Nat.reduceSub, Nat.reduceAdd, List.getElem?_cons_zero, List.getElem?_cons_succ, List.set_cons_zero, List.set_cons_succ,
  dC, dVar, dOp, dTru, gTru, tru, dChain, dAnd, dOr, dNot, dAndV, dOrV, dNotV, dIf, dNeg, gNeg, dNil, dCons, dTup, dLst, dOwn, gIx, rBin, gAdd, gCmpI, dCall, dCallK, dSeq, dNext, dDrop, dRet, dRetN, dIfS, dName, dGNil, dGCons, dGTup, dSub, gSetL, dAsg, dPar, dPar3, dAug, gIpI, dSeqI, gSeqI, dRngI, gRng1, gRng2, dCB, gAbs, gInt, gMax, gMin, gGcd, gLen, lenD, gIsi, tyM, tyD, dBits, gBits, dMet, gAppend, dPart, dNoPart, dSl, gSl_tup, gSl_lst, cut_1, dEnds, gIs, isB, dNever, dCallX, dRaise, dTry, dFld, dCallV, gLRng, gFrz, dFrz, dFor, dLc, wipeD, dYes,
  sizeLine_eq, Nat.reduceLeDiff, gEq_int, gNe_int, gEq_strs, gNe_strs, gIn_two, gRepr_bl, rs_lst, rs_tup, rs_scr, rs_int, atI_0, atI_1, atI_2, atI_3, atI_4, atI_5, ixN_30, ixN_31, ixN_32, gEq_bl, gNe_bl, decide_eq_true_eq, beq_iff_eq, Bool.not_eq_true', beq_eq_false_iff_ne, decide_eq_false_iff_not, Bool.not_true, Bool.not_false, if_true, if_false, Bool.false_eq_true, ite_true, ite_false, true_and, and_true, ne_eq, Bool.bne_false, Bool.bne_true, reduceCtorEq])
local macro_rules | `(tactic| walk_at "kb") => `(tactic| simp only [kb_NoneType_list, kb_bool_list, kb_int_list, kb_str_list, kb_tuple_list, kb_list_list, kb_dict_list, kb_NoneType_int, kb_bool_int, kb_int_int, kb_str_int, kb_tuple_int, kb_list_int, kb_dict_int, kb_NoneType_bool, kb_bool_bool, kb_int_bool, kb_str_bool, kb_tuple_bool, kb_list_bool, kb_dict_bool, kb_NoneType_tuple, kb_bool_tuple, kb_int_tuple, kb_str_tuple, kb_tuple_tuple, kb_list_tuple, kb_dict_tuple, if_true, if_false, Bool.false_eq_true, ite_true, ite_false, Bool.not_true, Bool.not_false])
/-! k42: tables of words -/
/-! ### memory that has grown -/
def Grown (M MM : Mem) : Prop := ∃ Y, MM = M ++ Y ∧ ∀ c ∈ Y, belowO MM.length c = true
theorem Grown.refl (M : Mem) : Grown M M := ⟨[], (List.append_nil _).symm, fun c h => by cases h⟩
theorem Grown.len {M MM : Mem} (h : Grown M MM) : M.length ≤ MM.length := by
  obtain ⟨Y, rfl, _⟩ := h
  rw [List.length_append]; omega
theorem Grown.trans {M M1 M2 : Mem} (h : Grown M M1) (g : Grown M1 M2) : Grown M M2 := by
  have hl := g.len
  obtain ⟨Y, rfl, hY⟩ := h
  obtain ⟨Z, rfl, hZ⟩ := g
  refine ⟨Y ++ Z, List.append_assoc _ _ _, fun c hc => ?_⟩
  rcases List.mem_append.mp hc with r | r
  · exact belowO.mono hl (hY c r)
  · exact hZ c r
theorem Grown.rtq {M MM : Mem} {Q : DQ} {d : D} (h : Grown M MM) (q : Q d MM) (hb : below MM.length d = true) : Rtq M Q d MM := by
  obtain ⟨Y, rfl, hY⟩ := h
  exact rtqA q hb hY
theorem cells5_below (n N : Nat) (A : M4) (h : n + 4 ≤ N) : ∀ c ∈ cells5 n A, belowO N c = true := by
  intro c hc
  simp only [cells5, List.mem_cons, List.not_mem_nil, or_false] at hc
  rcases hc with rfl | rfl | rfl | rfl | rfl <;> simp [belowO, belowAll, below]
  omega
theorem grown5 (M : Mem) (A : M4) : Grown M (M ++ cells5 M.length A) := ⟨_, rfl, cells5_below _ _ A (by rw [List.length_append]; simp [cells5])⟩
/-- a table whose list and rows were made behind the first N cells -/
structure TabN (N : Nat) (M : Mem) (d : D) (A : M4) : Prop where
  ex : ∃ K k0 k1 k2 k3 : Nat, d = .own K ∧ N ≤ K ∧ K < M.length ∧ (N ≤ k0 ∧ N ≤ k1 ∧ N ≤ k2 ∧ N ≤ k3) ∧ res M d = .lst [.own k0, .own k1, .own k2, .own k3] ∧ M[k0]? = some A.a.O
  tab : TabR M d A
theorem tabN5 (M : Mem) (A : M4) : TabN M.length (M ++ cells5 M.length A) (.own (M.length + 4)) A :=
  ⟨⟨_, _, _, _, _, rfl, by omega, by rw [List.length_append]; simp [cells5], ⟨by omega, by omega, by omega, by omega⟩, topL M A, cget0 M A⟩, tabC M A⟩
theorem TabN.mono {N N' : Nat} {M : Mem} {d : D} {A : M4} (h : TabN N M d A) (hn : N' ≤ N) : TabN N' M d A := by
  obtain ⟨⟨K, k0, k1, k2, k3, h1, h2, h3, h4, h5⟩, t⟩ := h
  exact ⟨⟨K, k0, k1, k2, k3, h1, by omega, h3, ⟨by omega, by omega, by omega, by omega⟩, h5⟩, t⟩
theorem TabN.below {N : Nat} {M : Mem} {d : D} {A : M4} (h : TabN N M d A) : below M.length d = true := by
  obtain ⟨⟨K, _, _, _, _, rfl, _, h3, _⟩, _⟩ := h
  exact decide_eq_true h3
theorem TabN.app {N : Nat} {M : Mem} {d : D} {A : M4} (h : TabN N M d A) (G : Mem) : TabN N (M ++ G) d A := by
  obtain ⟨⟨K, k0, k1, k2, k3, h1, h2, h3, h4, h5, h6⟩, t⟩ := h
  exact ⟨⟨K, k0, k1, k2, k3, h1, h2, by rw [List.length_append]; omega, h4, res_app h5, by rw [List.getElem?_append_left (List.getElem?_eq_some_iff.mp h6).1]; exact h6⟩, t.app G⟩
theorem Grown.tab {M MM : Mem} {d : D} {A : M4} (h : Grown M MM) (t : TabR M d A) : TabR MM d A := by
  obtain ⟨Y, rfl, _⟩ := h
  exact t.app Y
/-- a new table, in memory that has grown -/
def newG (A : M4) (M : Mem) (Q : DQ) : Prop := ∀ MM d, Grown M MM → TabN M.length MM d A → Q d MM
theorem newG.rtq {A : M4} {M : Mem} {Q : DQ} (h : newG A M Q) : newG A M (Rtq M Q) := fun MM d g t => g.rtq (h MM d g t) t.below
theorem cget4 (M : Mem) (A : M4) : (M ++ cells5 M.length A)[M.length + 4]? = some (.lst [.own M.length, .own (M.length + 1), .own (M.length + 2), .own (M.length + 3)]) := by
  rw [List.getElem?_append_right (by omega), Nat.add_sub_cancel_left]; rfl
/-! ### products, with their own rows -/
def sp_times_o : DSp := fun ds M Q _ => ∃ (x y : D) (A B : M4), ds = [x, y] ∧ TabR M x A ∧ TabR M y B ∧ A.bi 90000 ∧ B.bi 90000 ∧ newG (A.mul B) M Q
theorem rd_table_times_o : ∀ ds M Q, ds.length = 2 → sp_times_o ds M Q DX0 → t_table_times_o sp_turned_o sp_tled (dEnds M Q) (startD 3 ds) M := by
  rintro _ M Q - ⟨x, y, A, B, rfl, hx, hy, bA, bB, q⟩
  unfold t_table_times_o
  walk_at "rd"
  refine ⟨y, B, rfl, hy, ?_⟩
  have hT := tabC M B.T
  have hx1 := hx.app (cells5 M.length B.T)
  obtain ⟨x0, x1, x2, x3, hd, h0, h1, h2, h3⟩ := hT
  rw [topL] at hd
  cases hd
  have hC := cget4 M B.T
  dsimp only
  rw [hC]
  refine lcW_idx (ys := [(A.led B.T.a).D, (A.led B.T.b).D, (A.led B.T.c).D, (A.led B.T.d).D]) rfl hC (by rw [sizeLine_eq]; exact Nat.le_of_ble_eq_true rfl) (fun j d w hd hw Z N' hz => ?_) ?_
  · have hj : j < 4 := (List.getElem?_eq_some_iff.mp hw).1
    have bT := bB.T
    rcases (by omega : j = 0 ∨ j = 1 ∨ j = 2 ∨ j = 3) with rfl | rfl | rfl | rfl <;> (cases hd; cases hw)
    · exact ⟨rfl, x, _, A, B.T.a, rfl, hx1, h0, bA, bT.a, hz⟩
    · exact ⟨rfl, x, _, A, B.T.b, rfl, hx1, h1, bA, bT.b, hz⟩
    · exact ⟨rfl, x, _, A, B.T.c, rfl, hx1, h2, bA, bT.c, hz⟩
    · exact ⟨rfl, x, _, A, B.T.d, rfl, hx1, h3, bA, bT.d, hz⟩
  · refine ⟨_, ⟨A.led B.T.a, A.led B.T.b, A.led B.T.c, A.led B.T.d⟩, rfl, TabR.pure _ ⟨A.led B.T.a, A.led B.T.b, A.led B.T.c, A.led B.T.d⟩, ?_⟩
    have g := (grown5 M B.T).trans (grown5 (M ++ cells5 M.length B.T) (A.mul B))
    have t := (tabN5 (M ++ cells5 M.length B.T) (A.mul B)).mono (N' := M.length) (by rw [List.length_append]; omega)
    exact q.rtq _ _ g t
theorem rd_l_led_ea66 : ∀ ds M Q, ds.length = 2 → sp_tled ds M Q DX0 → t_l_led_ea66 (dEnds M Q) (startD 5 ds) M := rd_l_led_3b4c
theorem rd_l_product_3b0c : ∀ ds M Q, ds.length = 2 → sp_times4 ds M Q DX0 → t_l_product_3b0c sp_lcols4 sp_tled (dEnds M Q) (startD 3 ds) M := rd_table_times
/-! ### words -/
inductive WordT (a b c e : Int) : List (Int × Int) → M4 → Int → Int → Int → Int → Int → Prop
  | nil : WordT a b c e [] M4.one 0 a b c e
  | snoc {l : List (Int × Int)} {X : M4} {s a1 b1 c1 e1 p q a' w g e' x z o0 o1 s2 t2 : Int} : WordT a b c e l X s a1 b1 c1 e1 → DeS a1 b1 c1 e1 p q a' w g e' → DTab a1 b1 c1 e1 p q a' w g x z o0 o1 s2 t2 →
      WordT a b c e (l ++ [(p, q)]) (X.mul (tabM p q x z o0 o1 s2 t2)) (s + e1 + q * c1) a' w g e'
theorem WordT.cs {a b c e s A B C E : Int} {l : List (Int × Int)} {X : M4} (h : WordT a b c e l X s A B C E) (h0 : CS a b c e) : CS A B C E := by
  induction h with
  | nil => exact h0
  | snoc _ hd _ _ => exact hd.cs'.1
theorem WordT.bi {a b c e s A B C E : Int} {l : List (Int × Int)} {X : M4} (h : WordT a b c e l X s A B C E) : X.bi (532 * l.length + 2) := by
  induction h with
  | nil => exact ⟨bse_bi (by decide) 0, bse_bi (by decide) 1, bse_bi (by decide) 2, bse_bi (by decide) 3⟩
  | snoc _ hd ht ih =>
    refine (mul_bi ih (tab_M hd ht)).up ?_
    rw [List.length_append, List.length_singleton]
    omega
theorem WordT.uniq {a b c e s A B C E : Int} {l : List (Int × Int)} {X : M4} (h : WordT a b c e l X s A B C E) : ∀ {l' X' s' A' B' C' E'}, WordT a b c e l' X' s' A' B' C' E' → l' = l → X' = X ∧ s' = s ∧ A' = A ∧ B' = B ∧ C' = C ∧ E' = E := by
  induction h with
  | nil =>
    intro l' X' s' A' B' C' E' h' hl
    cases h' with
    | nil => exact ⟨rfl, rfl, rfl, rfl, rfl, rfl⟩
    | snoc _ _ _ => exact absurd (congrArg List.length hl) (by simp)
  | @snoc l X s a1 b1 c1 e1 p q a' w g e' x z o0 o1 s2 t2 h0 hd ht ih =>
    intro l' X' s' A' B' C' E' h' hl
    cases h' with
    | nil => exact absurd (congrArg List.length hl) (by simp)
    | snoc h2 hd2 ht2 =>
      obtain ⟨e1', e2'⟩ := List.append_inj' hl rfl
      simp only [List.cons.injEq, Prod.mk.injEq, and_true] at e2'
      obtain ⟨rfl, rfl⟩ := e2'
      obtain ⟨rfl, rfl, rfl, rfl, rfl, rfl⟩ := ih h2 e1'
      obtain ⟨rfl, rfl, rfl, rfl⟩ := hd.one hd2.dn
      exact ⟨by rw [tabM_uniq hd ht ht2], rfl, rfl, rfl, rfl, rfl⟩
theorem WordT.at {a b c e s A B C E : Int} {l : List (Int × Int)} {X : M4} (h : WordT a b c e l X s A B C E) : ∀ (i : Nat) (d : Int × Int), l[i]? = some d → ∃ Xi si Ai Bi' Ci Ei, WordT a b c e (l.take i) Xi si Ai Bi' Ci Ei ∧ ∃ a' w g e', DeS Ai Bi' Ci Ei d.1 d.2 a' w g e' := by
  induction h with
  | nil => intro i d hd; simp at hd
  | @snoc l X s a1 b1 c1 e1 p q a' w g e' x z o0 o1 s2 t2 h0 hd ht ih =>
    intro i d hi
    rcases Nat.lt_or_ge i l.length with r | r
    · rw [List.getElem?_append_left r] at hi
      rw [List.take_append_of_le_length (by omega)]
      exact ih i d hi
    · rw [List.getElem?_append_right r] at hi
      have hz : i - l.length = 0 := by
        have := (List.getElem?_eq_some_iff.mp hi).1
        simp at this
        omega
      rw [hz] at hi
      simp only [List.getElem?_cons_zero, Option.some.injEq] at hi
      subst hi
      have hil : i = l.length := by omega
      subst hil
      rw [List.take_left]
      exact ⟨_, _, _, _, _, _, h0, _, _, _, _, hd⟩
/-! ### words looked at -/
abbrev dD (d : Int × Int) : D := .tup [.int d.1, .int d.2]
def AllT4 (L : List D) : Prop := ∀ x ∈ L, ∃ a b c e : Int, x = T4 a b c e
theorem AllT4.below {L : List D} (h : AllT4 L) (n : Nat) : belowAll n L = true := by
  induction L with
  | nil => rfl
  | cons x L ih =>
    obtain ⟨a, b, c, e, rfl⟩ := h x (List.mem_cons_self ..)
    simp only [belowAll, Bool.and_eq_true]
    exact ⟨rfl, ih fun y hy => h y (List.mem_cons_of_mem _ hy)⟩
/-! ### the table of a word -/
/-! ### the generator, beside tables and words -/
theorem Gn.ltK {k : Nat} {n : Int} {M : Mem} (h : Gn k n M) : k < M.length := by
  obtain ⟨a, s, c, h1, _⟩ := h
  exact (List.getElem?_eq_some_iff.mp h1).1
theorem Gn.appK {k : Nat} {n : Int} {M G : Mem} (h : Gn k n M) : Gn k n (M ++ G) := by
  obtain ⟨a, s, c, h1, h2⟩ := h
  exact ⟨a, s, c, by rw [List.getElem?_append_left (List.getElem?_eq_some_iff.mp h1).1]; exact h1, h2⟩
/-- what stood behind stays behind -/
theorem Gst.cutK {k : Nat} {n : Int} {M G M' : Mem} (h : Gst k n (M ++ G) M') (hk : k < M.length) : ∃ M1 G', M' = M1 ++ G' ∧ Gst k n M M1 := by
  obtain ⟨h1, ⟨a, s, c, h2, h3⟩, h4⟩ := h
  have hl : M.length ≤ M'.length := by rw [h1, List.length_append]; omega
  refine ⟨M'.take M.length, M'.drop M.length, (List.take_append_drop _ _).symm, by rw [List.length_take]; omega, ⟨a, s, c, by rw [List.getElem?_take_of_lt hk]; exact h2, h3⟩, fun i hi => ?_⟩
  by_cases hl : i < M.length
  · rw [List.getElem?_take_of_lt hl, h4 i hi, List.getElem?_append_left hl]
  · rw [List.getElem?_eq_none (by rw [List.length_take]; omega), List.getElem?_eq_none (by omega)]
theorem TabN.gst {N k : Nat} {n : Int} {M M' : Mem} {d : D} {A : M4} (hk : k < N) (g : Gst k n M M') (t : TabN N M d A) : TabN N M' d A := by
  obtain ⟨⟨K, k0, k1, k2, k3, rfl, h2, h3, ⟨a0, a1, a2, a3⟩, h5, h6⟩, x0, x1, x2, x3, e, r0, r1, r2, r3⟩ := t
  have go := g.2.2
  have rs : ∀ j : Nat, N ≤ j → res M' (.own j) = res M (.own j) := fun j hj => by
    unfold res
    dsimp only
    rw [go j (by omega)]
  rw [h5] at e
  cases e
  exact ⟨⟨K, k0, k1, k2, k3, rfl, h2, by rw [g.1]; exact h3, ⟨a0, a1, a2, a3⟩, by rw [rs K h2]; exact h5, by rw [go k0 (by omega)]; exact h6⟩, _, _, _, _, by rw [rs K h2]; exact h5, by rw [rs k0 a0]; exact r0, by rw [rs k1 a1]; exact r1, by rw [rs k2 a2]; exact r2, by rw [rs k3 a3]; exact r3⟩
def sp_lpath : DSp := fun ds M Q _ => ∃ (k : Nat) (n : Int), ds = [.own k] ∧ Gn k n M ∧ n ≤ P40 - 400 ∧ ∀ a b c d M', Bi 70 a → Bi 70 b → Bi 70 c → Bi 70 d → Gst k (n + 200) M M' → Q (P4 a b c d) M'
theorem rd_l_path_108b : ∀ ds M Q, ds.length = 1 → sp_lpath ds M Q DX0 → t_l_path_108b sp_random (dEnds M Q) (startD 3 ds) M := by
  rintro _ M Q - ⟨k, n, rfl, hg, hn, q⟩
  have p20 := p400_ten (i := 20) (by decide)
  have p9 := p400_900
  have cp : CPow 10 6 ∧ CPow 10 20 := by refine ⟨?_, ?_⟩ <;> (unfold CPow; decide)
  unfold t_l_path_108b
  refine dSeq_open fun B hB => ?_
  walk_at "rd"
  refine ⟨cp.1, cp.2, k, 3, n, rfl, by decide, by omega, hg, by omega, fun v M1 v0 v1 g1 => ?_⟩
  obtain ⟨bd, hbd, ebd⟩ := atI_any (l := [.int 3, .int (10 ^ Int.toNat 6), .int (10 ^ Int.toNat 20)]) v0 v1
  obtain ⟨bd, rfl, bd0, bd1⟩ : ∃ b : Int, bd = .int b ∧ 0 < b ∧ b ≤ 10 ^ 20 := by
    simp only [List.mem_cons, List.not_mem_nil, or_false] at hbd
    rcases hbd with rfl | rfl | rfl <;> exact ⟨_, rfl, by decide, by decide⟩
  dsimp only
  rw [ebd]
  rw [← hB]
  clear hB B ebd hbd
  have sb : Sm bd := (Bi.of_abs (n := 68) (10 ^ 20) (by omega)).sm
  walk_at "rd"
  refine ⟨⟨by decide, by decide⟩, fun j acc M' => j ≤ 4 ∧ Gst k (n + 40 + 40 * j) M M' ∧ ∃ xs : List Int, acc = xs.map .int ∧ xs.length = j ∧ ∀ x ∈ xs, -bd ≤ x ∧ x ≤ bd, ⟨by omega, g1.le (by omega), [], rfl, rfl, fun _ h => by cases h⟩, ?_⟩
  rintro j acc M' ⟨hj, G4, xs, rfl, hl, hx⟩
  refine ⟨trivial, fun hl2 => ?_, fun d hd => ?_⟩
  · rw [if_neg Bool.false_ne_true]
    have hl2 : 4 ≤ j := hl2
    have h3 : xs.length = 4 := by omega
    obtain ⟨x, y, z, w, rfl⟩ : ∃ a b c d, xs = [a, b, c, d] := by
      match xs, h3 with
      | [a, b, c, d], _ => exact ⟨a, b, c, d, rfl⟩
    have bb : ∀ t ∈ [x, y, z, w], Bi 70 t := fun t ht => Bi.of_abs (10 ^ 20) (by have := hx t ht; omega)
    exact G4.rtq (q x y z w M' (bb x (by simp)) (bb y (by simp)) (bb z (by simp)) (bb w (by simp)) (G4.le (by omega)))
  · obtain ⟨hj2, rfl⟩ := rng_get.mp hd
    have hj2 : j < 4 := hj2
    walk_at "rd"
    refine ⟨⟨Sm.of 2 (by decide), sb⟩, k, 2 * bd + 1, _, rfl, by omega, by omega, G4.2.1, by omega, fun w M4 w0 w1 g4 => ?_⟩
    dsimp only
    refine ⟨by rw [List.length_map]; omega, by omega, (G4.trans g4).le (by omega), xs ++ [w - bd], ?_, ?_, ?_⟩
    · rw [List.map_append]; rfl
    · rw [List.length_append]; simp [hl]
    · intro x hx'
      rcases List.mem_append.mp hx' with h | h
      · exact hx x h
      · simp only [List.mem_cons, List.not_mem_nil, or_false] at h
        subst h
        omega
/-! ### back -/
theorem tabNB (M : Mem) (A : M4) : TabN M.length (M ++ cellsB M.length A) (.own M.length) A := by
  have t := tabB M A
  have g : ∀ (i : Nat) (c : Own), (cellsB M.length A)[i]? = some c → (M ++ cellsB M.length A)[M.length + i]? = some c := fun i c h => by
    rw [List.getElem?_append_right (by omega), Nat.add_sub_cancel_left]; exact h
  refine ⟨⟨M.length, M.length + 1, M.length + 2, M.length + 3, M.length + 4, rfl, Nat.le_refl _, by rw [List.length_append]; simp [cellsB], ⟨by omega, by omega, by omega, by omega⟩, ?_, g 1 _ rfl⟩, t⟩
  have := g 0 _ rfl
  rw [Nat.add_zero] at this
  unfold res; dsimp only; rw [this]
theorem grownB (M : Mem) (A : M4) : Grown M (M ++ cellsB M.length A) := by
  refine ⟨_, rfl, fun c hc => ?_⟩
  rw [List.length_append]
  simp only [cellsB, List.mem_cons, List.not_mem_nil, or_false] at hc
  rcases hc with rfl | rfl | rfl | rfl | rfl <;> simp [belowO, belowAll, below, cellsB]
def sp_tback : DSp := fun ds M Q _ => ∃ (y : D) (A : M4), ds = [y] ∧ TabR M y A ∧ A.bi 90000 ∧ Keeps A ∧ newG (bkM A) M Q
def rowB (v : V4) : V4 := ⟨crs (bse 0) v, crs (bse 1) v, crs (bse 2) v, crs (bse 3) v⟩
def sp_lback4 : DSp := fun ds M Q _ => ∃ (y : D) (A : M4), ds = [y] ∧ TabR M y A ∧ A.bi 90000 ∧ Q (bkM A).D M
theorem rd_l_back_51d9 : ∀ ds M Q, ds.length = 1 → sp_lback4 ds M Q DX0 → t_l_back_51d9 sp_lcols4 sp_crossS sp_lbase (dEnds M Q) (startD 6 ds) M := by
  rintro _ M Q - ⟨y, A, rfl, hT, bA, q⟩
  unfold t_l_back_51d9
  have bT := bA.T
  refine dSeq_open fun B' hB => ?_
  walk_at "rd"
  refine ⟨y, A, rfl, hT, ?_⟩
  try dsimp only
  rw [← hB]
  clear hB B'
  refine dSeq_open fun B' hB => ?_
  walk_at "rd"
  have mK : ∀ z : Own, (M ++ [z])[M.length]? = some z := fun z => by rw [List.getElem?_append_right (Nat.le_refl _), Nat.sub_self]; rfl
  have hset : ∀ (l : List D) (z : D), List.set (M ++ [Own.lst l]) M.length (Own.lst (l ++ [z])) = M ++ [Own.lst (l ++ [z])] := fun l z => by
    rw [List.set_append_right _ _ (Nat.le_refl _), Nat.sub_self]
    rfl
  have q0 : (rowB A.T.b) = (bkM A).a := by ext <;> simp only [rowB, crs, bse, M4.T, bkM] <;> omega
  have q1 : (rowB A.T.a).neg = (bkM A).b := by ext <;> simp only [rowB, V4.neg, crs, bse, M4.T, bkM] <;> omega
  have q2 : (rowB A.T.d) = (bkM A).c := by ext <;> simp only [rowB, crs, bse, M4.T, bkM] <;> omega
  have q3 : (rowB A.T.c).neg = (bkM A).d := by ext <;> simp only [rowB, V4.neg, crs, bse, M4.T, bkM] <;> omega
  refine ⟨fun i r M' => i ≤ 4 ∧ M' = M ++ [.lst ([(rowB A.T.b).D, (rowB A.T.a).D, (rowB A.T.d).D, (rowB A.T.c).D].take i)] ∧ ∃ u, r = [some y, some A.T.D, some (.own M.length), u, none, none], ⟨by decide, rfl, none, rfl⟩, ?_⟩
  rintro i r M' ⟨hi, rfl, u, rfl⟩
  refine ⟨trivial, fun hl => ?_, fun d hd => ?_⟩
  · have hi4 : i = 4 := by simp only [List.length_cons, List.length_nil] at hl; omega
    subst hi4
    dsimp only
    rw [← hB]
    clear hB B'
    have hres : res (M ++ [Own.lst (List.take 4 [(rowB A.T.b).D, (rowB A.T.a).D, (rowB A.T.d).D, (rowB A.T.c).D])]) (.own M.length) = .lst [(rowB A.T.b).D, (rowB A.T.a).D, (rowB A.T.d).D, (rowB A.T.c).D] := by
      unfold res; dsimp only; rw [mK]; rfl
    have neg : ∀ (w : V4) (Y : D → Mem → Prop), Y w.neg.D (M ++ [Own.lst (List.take 4 [(rowB A.T.b).D, (rowB A.T.a).D, (rowB A.T.d).D, (rowB A.T.c).D])]) → lcW false [.int w.a, .int w.b, .int w.c, .int w.d] (fun _ => True) (dName 5) dYes (dOp (rBin (fun x x_1 => True) fun i j => i - j) (dC (D.int 0)) (dVar 5)) [some y, some A.T.D, some (.own M.length), u, none, none] (M ++ [Own.lst (List.take 4 [(rowB A.T.b).D, (rowB A.T.a).D, (rowB A.T.d).D, (rowB A.T.c).D])]) Y := by
      intro w Y hY
      refine lcW_idx (ys := [.int (0 - w.a), .int (0 - w.b), .int (0 - w.c), .int (0 - w.d)]) rfl trivial (by rw [sizeLine_eq]; exact Nat.le_of_ble_eq_true rfl) (fun j d y' hd hy Z' N' hz' => ?_) hY
      have hj : j < 4 := (List.getElem?_eq_some_iff.mp hy).1
      rcases (by omega : j = 0 ∨ j = 1 ∨ j = 2 ∨ j = 3) with rfl | rfl | rfl | rfl <;> (cases hd; cases hy; exact ⟨trivial, hz'⟩)
    walk_at "rd"
    simp only [hres, atI_0, atI_1, atI_2, atI_3]
    refine neg (rowB A.T.a) _ ?_
    simp only [hres, atI_2, atI_3]
    refine neg (rowB A.T.c) _ ?_
    rw [q0, q1, q2, q3]
    exact rtqG q (by rfl)
  · clear hB
    have hi4 : i < 4 := (List.getElem?_eq_some_iff.mp hd).1
    obtain ⟨v, rfl, bv, hnext⟩ : ∃ v : V4, d = v.D ∧ v.bi 90000 ∧ List.take i [(rowB A.T.b).D, (rowB A.T.a).D, (rowB A.T.d).D, (rowB A.T.c).D] ++ [(rowB v).D] = List.take (i + 1) [(rowB A.T.b).D, (rowB A.T.a).D, (rowB A.T.d).D, (rowB A.T.c).D] := by
      rcases (by omega : i = 0 ∨ i = 1 ∨ i = 2 ∨ i = 3) with rfl | rfl | rfl | rfl <;> cases hd
      · exact ⟨_, rfl, bT.b, rfl⟩
      · exact ⟨_, rfl, bT.a, rfl⟩
      · exact ⟨_, rfl, bT.d, rfl⟩
      · exact ⟨_, rfl, bT.c, rfl⟩
    clear hd
    have hlen : (List.take i [(rowB A.T.b).D, (rowB A.T.a).D, (rowB A.T.d).D, (rowB A.T.c).D]).length < 16777216 := by
      rw [List.length_take]
      have : min i [(rowB A.T.b).D, (rowB A.T.a).D, (rowB A.T.d).D, (rowB A.T.c).D].length ≤ 4 := Nat.min_le_right _ _
      exact Nat.lt_of_le_of_lt this (by decide)
    walk_at "rd"
    refine ⟨⟨_, _, rfl, mK _⟩, by unfold Rg; decide, ?_⟩
    refine lcW_idx (ys := [.int (crs (bse 0) v), .int (crs (bse 1) v), .int (crs (bse 2) v), .int (crs (bse 3) v)]) (by rfl) trivial (by rw [sizeLine_eq]; exact Nat.le_of_ble_eq_true rfl) (fun j d w hd hw Z N' hz => ?_) ?_
    · obtain ⟨hj, rfl⟩ := rng_get.mp hd
      have hj : j < 4 := hj
      walk_at "rd"
      refine ⟨j, by rw [Int.zero_add], hj, ?_⟩
      refine sp_crossV rfl rfl (bse_bi (by decide) j) bv ?_
      rcases (by omega : j = 0 ∨ j = 1 ∨ j = 2 ∨ j = 3) with rfl | rfl | rfl | rfl <;> (cases hw; exact hz)
    · try dsimp only
      rw [mK]
      dsimp only
      exact ⟨hlen, by omega, by rw [hset, ← hnext]; rfl, _, rfl⟩
/-! ### drawn words -/
/-! ### powers -/
theorem one_bi {n : Nat} (hn : 1 ≤ n) : M4.one.bi n := ⟨bse_bi hn 0, bse_bi hn 1, bse_bi hn 2, bse_bi hn 3⟩
/-! ### small tables -/
theorem shown_tabB {A : M4} (h : A.bi 700) : ∃ z, shwnZ A.D = some z := by
  have lr : ∀ v : V4, v.bi 700 → lit 720 v.D = true := fun v hv => lit_cons (litK hv.a) (lit_cons (litK hv.b) (lit_cons (litK hv.c) (lit_cons (litK hv.d) rfl)))
  obtain ⟨z, hz⟩ := shw_of 720 10 (d := A.D) rfl (lit_cons (lr _ h.a) (lit_cons (lr _ h.b) (lit_cons (lr _ h.c) (lit_cons (lr _ h.d) rfl)))) (by simp only [wt, wtAll]; decide) (by decide)
  exact ⟨z, shwnZ_of hz⟩
/-! ### the law's look at one word -/
structure Sta (k : Nat) (n : Int) (M : Mem) (W : Nat) (l : List (Int × Int)) (MM : Mem) : Prop where
  gs : ∃ M1 Y, MM = M1 ++ Y ∧ Gst k n M M1
  w : MM[W]? = some (.lst (l.map dD))
  wk : M.length ≤ W
  kl : k < M.length
theorem Sta.len {k : Nat} {n : Int} {M MM : Mem} {W : Nat} {l : List (Int × Int)} (h : Sta k n M W l MM) : M.length ≤ MM.length := by
  have := (List.getElem?_eq_some_iff.mp h.w).1
  have := h.wk
  omega
theorem Sta.le {k : Nat} {n n' : Int} {M MM : Mem} {W : Nat} {l : List (Int × Int)} (h : Sta k n M W l MM) (hn : n ≤ n') : Sta k n' M W l MM := by
  obtain ⟨⟨M1, Y, e, g⟩, h2, h3, h4⟩ := h
  exact ⟨⟨M1, Y, e, g.le hn⟩, h2, h3, h4⟩
theorem Sta.grown {k : Nat} {n : Int} {M MM MM' : Mem} {W : Nat} {l : List (Int × Int)} (h : Sta k n M W l MM) (g : Grown MM MM') : Sta k n M W l MM' := by
  obtain ⟨⟨M1, Y, rfl, gs⟩, h2, h3, h4⟩ := h
  obtain ⟨Z, rfl, _⟩ := g
  exact ⟨⟨M1, Y ++ Z, List.append_assoc _ _ _, gs⟩, by rw [List.getElem?_append_left (List.getElem?_eq_some_iff.mp h2).1]; exact h2, h3, h4⟩
theorem Sta.gn {k : Nat} {n : Int} {M MM : Mem} {W : Nat} {l : List (Int × Int)} (h : Sta k n M W l MM) : Gn k n MM := by
  obtain ⟨⟨M1, Y, rfl, gs⟩, _⟩ := h
  exact gs.2.1.appK
theorem Sta.gst {k : Nat} {n n' : Int} {M MM MM' : Mem} {W : Nat} {l : List (Int × Int)} (h : Sta k n M W l MM) (g : Gst k n' MM MM') : Sta k n' M W l MM' := by
  obtain ⟨⟨M1, Y, rfl, gs⟩, h2, h3, h4⟩ := h
  obtain ⟨M1', Y', e, g'⟩ := Gst.cutK g (by rw [gs.1]; exact h4)
  exact ⟨⟨M1', Y', e, gs.trans g'⟩, by rw [g.2.2 W (by omega)]; exact h2, h3, h4⟩
theorem Sta.res {k : Nat} {n : Int} {M MM : Mem} {W : Nat} {l : List (Int × Int)} (h : Sta k n M W l MM) : res MM (.own W) = .lst (l.map dD) := by
  unfold DL.res
  dsimp only
  rw [h.w]
theorem Sta.set {k : Nat} {n : Int} {M MM : Mem} {W : Nat} {l : List (Int × Int)} (h : Sta k n M W l MM) {j : Nat} {c : Own} (hj : M.length ≤ j) (hw : j ≠ W) : Sta k n M W l (MM.set j c) := by
  obtain ⟨⟨M1, Y, rfl, gs⟩, h2, h3, h4⟩ := h
  refine ⟨⟨M1, Y.set (j - M1.length) c, ?_, gs⟩, by rw [List.getElem?_set_ne hw]; exact h2, h3, h4⟩
  rw [List.set_append_right _ _ (by rw [gs.1]; exact hj)]
theorem Sta.rtq {k : Nat} {n : Int} {M MM : Mem} {W : Nat} {l : List (Int × Int)} {Q : DQ} {d : D} (h : Sta k n M W l MM) (q : ∀ M', Q d M') (hb : ∀ n, below n d = true) : Rtq M Q d MM := by
  obtain ⟨⟨M1, Y, rfl, gs⟩, _⟩ := h
  exact gs.rtqK (q M1) (hb _)
theorem bk_bi {A : M4} {n : Nat} (h : A.bi n) : (bkM A).bi n := by
  have ng : ∀ {i : Int}, Bi n i → Bi n (0 - i) := fun {i} h => by unfold Bi at *; omega
  exact ⟨⟨h.b.b, ng h.a.b, h.d.b, ng h.c.b⟩, ⟨ng h.b.a, h.a.a, ng h.d.a, h.c.a⟩, ⟨h.b.d, ng h.a.d, h.d.d, ng h.c.d⟩, ⟨ng h.b.c, h.a.c, ng h.d.c, h.c.c⟩⟩
theorem sIx_nat {n d i : Nat} (h : i ≤ n) : HT.sIx n d (some (i : Int)) = i := by
  rw [HT.sIx_nat]
  omega
/-! ### fixed words -/
end DL
namespace DL
/-! MS: what keeps crossings by its columns does so by its rows -/
theorem rows_cross {A : M4} (h : Keeps A) : crs A.a A.b = 1 ∧ crs A.c A.d = 1 ∧ crs A.a A.c = 0 ∧ crs A.a A.d = 0 ∧ crs A.b A.c = 0 ∧ crs A.b A.d = 0 := by
  obtain ⟨h1, h2, h3, h4, h5, h6⟩ := keeps_six h
  have key : ∀ v w : V4, crs A.T.c A.T.d * (v.a * w.b - v.b * w.a) + crs A.T.a A.T.b * (v.c * w.d - v.d * w.c) - crs A.T.b A.T.d * (v.a * w.c - v.c * w.a) - crs A.T.a A.T.c * (v.b * w.d - v.d * w.b) + crs A.T.b A.T.c * (v.a * w.d - v.d * w.a) + crs A.T.a A.T.d * (v.b * w.c - v.c * w.b) = crs v w := by
    intro v w
    rw [h1, h2, h3, h4, h5, h6]
    simp only [crs]
    grind
  have pf : crs A.T.a A.T.b * crs A.T.c A.T.d - crs A.T.a A.T.c * crs A.T.b A.T.d + crs A.T.a A.T.d * crs A.T.b A.T.c = 1 := by
    rw [h1, h2, h3, h4, h5, h6]
    decide
  obtain ⟨⟨a0, a1, a2, a3⟩, ⟨b0, b1, b2, b3⟩, ⟨c0, c1, c2, c3⟩, ⟨d0, d1, d2, d3⟩⟩ := A
  refine ⟨?_, ?_, ?_, ?_, ?_, ?_⟩
  · rw [← pf, ← key]; simp only [crs, M4.T]; grind
  · rw [← pf, ← key]; simp only [crs, M4.T]; grind
  · rw [← key]; simp only [crs, M4.T]; grind
  · rw [← key]; simp only [crs, M4.T]; grind
  · rw [← key]; simp only [crs, M4.T]; grind
  · rw [← key]; simp only [crs, M4.T]; grind
theorem mul_bk {A : M4} (h : Keeps A) : A.mul (bkM A) = M4.one := by
  obtain ⟨h1, h2, h3, h4, h5, h6⟩ := rows_cross h
  simp only [crs] at h1 h2 h3 h4 h5 h6
  ext <;> simp only [M4.mul, M4.T, M4.led, dot4, bkM, M4.one, bse] <;> grind
end DL
namespace DL
open PySem PySem.Spec PyProof.Rows L2
local macro_rules | `(tactic| walk_at "rd") => `(tactic| simp only [startD, List.map, List.replicate, List.length_cons, List.length_nil, List.append_eq, List.append_nil, List.nil_append, List.cons_append, Nat.reduceSub, Nat.reduceAdd, List.getElem?_cons_zero, List.getElem?_cons_succ, List.set_cons_zero, List.set_cons_succ,
  dC, dVar, dOp, dTru, gTru, tru, dChain, dAnd, dOr, dNot, dAndV, dOrV, dNotV, dIf, dNeg, gNeg, dNil, dCons, dTup, dLst, dOwn, gIx, rBin, gAdd, gCmpI, dCall, dCallK, dSeq, dNext, dDrop, dRet, dRetN, dIfS, dName, dGNil, dGCons, dGTup, dSub, gSetL, dAsg, dPar, dPar3, dAug, gIpI, dSeqI, gSeqI, dRngI, gRng1, gRng2, dCB, gAbs, gInt, gMax, gMin, gGcd, gLen, lenD, gIsi, tyM, tyD, dBits, gBits, dMet, gAppend, dPart, dNoPart, dSl, gSl_tup, gSl_lst, cut_1, dEnds, gIs, isB, dNever, dCallX, dRaise, dTry, dFld, dCallV, gLRng, gFrz, dFrz, dFor, dLc, wipeD, dYes,
  sizeLine_eq, Nat.reduceLeDiff, gEq_int, gNe_int, gEq_strs, gNe_strs, gIn_two, gRepr_bl, rs_lst, rs_tup, rs_scr, rs_int, atI_0, atI_1, atI_2, atI_3, atI_4, atI_5, ixN_30, ixN_31, ixN_32, gEq_bl, gNe_bl, decide_eq_true_eq, beq_iff_eq, Bool.not_eq_true', beq_eq_false_iff_ne, decide_eq_false_iff_not, Bool.not_true, Bool.not_false, if_true, if_false, Bool.false_eq_true, ite_true, ite_false, true_and, and_true, ne_eq, Bool.bne_false, Bool.bne_true, reduceCtorEq])
local macro_rules | `(tactic| walk_at "rh") => `(tactic| simp only [*, startD, List.map, List.replicate, List.length_cons, List.length_nil, List.append_eq, List.append_nil, List.nil_append, List.cons_append, Nat.reduceSub, Nat.reduceAdd, List.getElem?_cons_zero, List.getElem?_cons_succ, List.set_cons_zero, List.set_cons_succ,
  dC, dVar, dOp, dTru, gTru, tru, dChain, dAnd, dOr, dNot, dAndV, dOrV, dNotV, dIf, dNeg, gNeg, dNil, dCons, dTup, dLst, dOwn, gIx, rBin, gAdd, gCmpI, dCall, dCallK, dSeq, dNext, dDrop, dRet, dRetN, dIfS, dName, dGNil, dGCons, dGTup, dSub, gSetL, dAsg, dPar, dPar3, dAug, gIpI, dSeqI, gSeqI, dRngI, gRng1, gRng2, dCB, gAbs, gInt, gMax, gMin, gGcd, gLen, lenD, gIsi, tyM, tyD, dBits, gBits, dMet, gAppend, dPart, dNoPart, dSl, gSl_tup, gSl_lst, cut_1, dEnds, gIs, isB, dNever, dCallX, dRaise, dTry, dFld, dCallV, gLRng, gFrz, dFrz, dFor, dLc, wipeD, dYes,
  sizeLine_eq, Nat.reduceLeDiff, gEq_int, gNe_int, gEq_strs, gNe_strs, gIn_two, gRepr_bl, rs_lst, rs_tup, rs_scr, rs_int, atI_0, atI_1, atI_2, atI_3, atI_4, atI_5, ixN_30, ixN_31, ixN_32, gEq_bl, gNe_bl, decide_eq_true_eq, beq_iff_eq, Bool.not_eq_true', beq_eq_false_iff_ne, decide_eq_false_iff_not, Bool.not_true, Bool.not_false, if_true, if_false, Bool.false_eq_true, ite_true, ite_false, true_and, and_true, ne_eq, Bool.bne_false, Bool.bne_true, reduceCtorEq])
local macro_rules | `(tactic| walk_at "kb") => `(tactic| simp only [kb_NoneType_list, kb_bool_list, kb_int_list, kb_str_list, kb_tuple_list, kb_list_list, kb_dict_list, kb_NoneType_int, kb_bool_int, kb_int_int, kb_str_int, kb_tuple_int, kb_list_int, kb_dict_int, kb_NoneType_bool, kb_bool_bool, kb_int_bool, kb_str_bool, kb_tuple_bool, kb_list_bool, kb_dict_bool, kb_NoneType_tuple, kb_bool_tuple, kb_int_tuple, kb_str_tuple, kb_tuple_tuple, kb_list_tuple, kb_dict_tuple, if_true, if_false, Bool.false_eq_true, ite_true, ite_false, Bool.not_true, Bool.not_false])
/-! k43: tables that keep crossings -/
theorem rd_check_table_x : ∀ ds M Q E, ds.length = 1 → belowAll M.length ds = true → sp_ctable ds M Q E → t_check_table_x sp_is_path_list (dOut M E) (dEnds M Q) (startD 2 ds) M := by
  rintro _ M Q E - - ⟨y, A, rfl, ⟨x0, x1, x2, x3, hy, h0, h1, h2, h3⟩, q⟩
  unfold t_check_table_x
  have fil : ∀ {C : Mem → Prop} {Q' : DQ}, C M → Q' (.lst []) M → lcW false [x0, x1, x2, x3] C (dName 1) (dNot (dTru (dCall 1 sp_is_path_list [] DX0 (dCons (dVar 1) dNil)))) (dVar 1) [some y, none] M Q' := by
    intro C Q' hC hq
    refine lcW_pure (fun _ => none) hC (by rw [sizeLine_eq]; exact (by decide : (4 : Nat) ≤ 16777216)) (fun e he Y N hy => ?_) hq
    obtain ⟨i, hi⟩ := List.getElem?_of_mem he
    obtain ⟨hi4, hr⟩ := row_of h0 h1 h2 h3 hi
    walk_at "rd"
    exact ⟨e, _, _, _, _, rfl, hr, hy⟩
  rcases isL hy with rfl | ⟨k, rfl, hk⟩
  · walk_at "rd"
    walk_at "kb"
    rw [if_neg (by decide), if_neg (by decide)]
    refine fil trivial ?_
    exact gNe_same (n := 2) rfl (rtq q)
  · walk_at "rd"
    simp only [hk]
    walk_at "kb"
    rw [if_neg (by decide), if_neg (by simp)]
    refine fil hk ?_
    exact gNe_same (n := 2) rfl (rtq q)
theorem rd_check_path_x : ∀ ds M Q E, ds.length = 1 → belowAll M.length ds = true → sp_check_path ds M Q E → t_check_path_x sp_is_path_list (dOut M E) (dEnds M Q) (startD 1 ds) M := by
  rintro _ M Q E - - ⟨x, a, b, c, d, rfl, hx, q⟩
  unfold t_check_path_x
  walk_at "rd"
  exact ⟨x, a, b, c, d, rfl, hx, rtq q⟩
theorem rd_table_product_o_x : ∀ ds M Q E, ds.length = 2 → belowAll M.length ds = true → sp_times_o ds M Q E → t_table_product_o_x sp_ctable sp_times_o (dOut M E) (dEnds M Q) (startD 2 ds) M := by
  rintro _ M Q E - - ⟨x, y, A, B, rfl, hx, hy, bA, bB, q⟩
  unfold t_table_product_o_x
  refine dSeq_open fun B' hB => ?_
  walk_at "rd"
  refine ⟨x, A, rfl, hx, ?_⟩
  rw [← hB]
  clear hB B'
  refine dSeq_open fun B' hB => ?_
  walk_at "rd"
  refine ⟨y, B, rfl, hy, ?_⟩
  rw [← hB]
  clear hB B'
  walk_at "rd"
  exact ⟨x, y, A, B, rfl, hx, hy, bA, bB, q.rtq⟩
theorem wk_table_product_o : ∀ ds M Q E, sp_times_o ds M Q E → sp_times_o ds M Q DX0 := fun _ _ _ _ h => h
/-- a new path -/
def newV (v : V4) (M : Mem) (Q : DQ) : Prop := ∀ MM K, Grown M MM → M.length ≤ K → MM[K]? = some v.O → Q (.own K) MM
theorem newV.rtq {v : V4} {M : Mem} {Q : DQ} (h : newV v M Q) : newV v M (Rtq M Q) := fun MM K g hk hc => g.rtq (h MM K g hk hc) (decide_eq_true (List.getElem?_eq_some_iff.mp hc).1)
def sp_led_o : DSp := fun ds M Q _ => ∃ (x y : D) (A : M4) (v : V4), ds = [x, y] ∧ TabR M x A ∧ res M y = v.D ∧ A.bi 90000 ∧ v.bi 90000 ∧ newV (A.led v) M Q
theorem rd_path_led_o : ∀ ds M Q, ds.length = 2 → sp_led_o ds M Q DX0 → t_path_led_o (dEnds M Q) (startD 5 ds) M := by
  rintro _ M Q - ⟨x, y, A, v, rfl, ⟨x0, x1, x2, x3, hx, h0, h1, h2, h3⟩, hy, bA, bv, q⟩
  unfold t_path_led_o
  show gSeqI x M fun ds C M1 => lcW true ds C (dName 2) dYes (dCB gSum (dCons (dLc false (dRngI gZipS (dCons (dVar 2) (dCons (dVar 1) dNil))) (dGTup 2 (dGCons (dName 3) (dGCons (dName 4) dGNil))) dYes (dOp (rBin CMul fun i j => i * j) (dVar 3) (dVar 4)) [3, 4]) dNil)) [some x, some y, none, none, none] M1 (Rtq M Q)
  refine gSeqI_lst hx fun C hC => ?_
  have row : ∀ (r : D) (w : V4) (u2 u3 u4 : Option D) (Y : D → Mem → Prop), res M r = w.D → w.bi 90000 → Y (.int (dot4 w v)) M → dCB gSum (dCons (dLc false (dRngI gZipS (dCons (dVar 2) (dCons (dVar 1) dNil))) (dGTup 2 (dGCons (dName 3) (dGCons (dName 4) dGNil))) dYes (dOp (rBin CMul fun i j => i * j) (dVar 3) (dVar 4)) [3, 4]) dNil) [some x, some y, some r, u3, u4] M Y := by
    intro r w u2 u3 u4 Y hr bw hY
    refine zipS_lcW (u1 := 3) (u2 := 4) hr hy rfl (Nat.le_of_ble_eq_true rfl) mulD ⟨by show 3 < 5; decide, by show 4 < 5; decide⟩ (fun p q' hpq Y' hY' => ?_) ?_
    · simp only [List.zipWith_cons_cons, List.zipWith_nil_right, List.mem_cons, List.not_mem_nil, or_false, pairD, D.tup.injEq, List.cons.injEq, and_true] at hpq
      rcases hpq with ⟨rfl, rfl⟩ | ⟨rfl, rfl⟩ | ⟨rfl, rfl⟩ | ⟨rfl, rfl⟩
      · exact ⟨⟨bw.a.sm, bv.a.sm⟩, hY'⟩
      · exact ⟨⟨bw.b.sm, bv.b.sm⟩, hY'⟩
      · exact ⟨⟨bw.c.sm, bv.c.sm⟩, hY'⟩
      · exact ⟨⟨bw.d.sm, bv.d.sm⟩, hY'⟩
    · show Y (.int ([w.a * v.a, w.b * v.b, w.c * v.c, w.d * v.d].sum)) M
      rw [show [w.a * v.a, w.b * v.b, w.c * v.c, w.d * v.d].sum = dot4 w v by simp only [List.sum_cons, List.sum_nil, dot4]; omega]
      exact hY
  have hc : (M ++ [(A.led v).O])[M.length]? = some (A.led v).O := by rw [List.getElem?_append_right (Nat.le_refl _), Nat.sub_self]; rfl
  refine lcW_idxO (ys := [.int (dot4 A.a v), .int (dot4 A.b v), .int (dot4 A.c v), .int (dot4 A.d v)]) rfl hC (by rw [sizeLine_eq]; exact Nat.le_of_ble_eq_true rfl) (fun j d w hd hw Z N' hz => ?_) (q.rtq _ _ ⟨[(A.led v).O], rfl, fun c hc => ?_⟩ (Nat.le_refl _) hc)
  · rcases (by have := (List.getElem?_eq_some_iff.mp hw).1; simp only [List.length_cons, List.length_nil] at this; omega : j = 0 ∨ j = 1 ∨ j = 2 ∨ j = 3) with rfl | rfl | rfl | rfl
    · cases hd; cases hw; exact row _ A.a none none none Z h0 bA.a hz
    · cases hd; cases hw; exact row _ A.b none none none Z h1 bA.b hz
    · cases hd; cases hw; exact row _ A.c none none none Z h2 bA.c hz
    · cases hd; cases hw; exact row _ A.d none none none Z h3 bA.d hz
  · rw [List.mem_singleton] at hc
    subst hc
    rfl
theorem rd_led_path_o_x : ∀ ds M Q E, ds.length = 2 → belowAll M.length ds = true → sp_led_o ds M Q E → t_led_path_o_x sp_ctable sp_check_path sp_led_o (dOut M E) (dEnds M Q) (startD 2 ds) M := by
  rintro _ M Q E - - ⟨x, y, A, v, rfl, hT, hy, bA, bv, q⟩
  unfold t_led_path_o_x
  refine dSeq_open fun B hB => ?_
  walk_at "rd"
  refine ⟨x, A, rfl, hT, ?_⟩
  rw [← hB]
  clear hB B
  refine dSeq_open fun B hB => ?_
  walk_at "rd"
  refine ⟨y, _, _, _, _, rfl, hy, ?_⟩
  rw [← hB]
  clear hB B
  walk_at "rd"
  exact ⟨x, y, A, v, rfl, hT, hy, bA, bv, q.rtq⟩
theorem wk_led_path_o : ∀ ds M Q E, sp_led_o ds M Q E → sp_led_o ds M Q DX0 := fun _ _ _ _ h => h
theorem rd_keeps_crossings_x : ∀ ds M Q E, ds.length = 1 → belowAll M.length ds = true → sp_lkeeps ds M Q E → t_keeps_crossings_x sp_ctable sp_lkeeps (dOut M E) (dEnds M Q) (startD 1 ds) M := by
  rintro _ M Q E - - ⟨y, A, rfl, hT, bA, q⟩
  unfold t_keeps_crossings_x
  refine dSeq_open fun B hB => ?_
  walk_at "rd"
  refine ⟨y, A, rfl, hT, ?_⟩
  rw [← hB]
  clear hB B
  walk_at "rd"
  exact ⟨y, A, rfl, hT, bA, fun v hv => rtq (q v hv)⟩
theorem wk_keeps_crossings : ∀ ds M Q E, sp_lkeeps ds M Q E → sp_lkeeps ds M Q DX0 := fun _ _ _ _ h => h
def sp_tback_x : DSp := fun ds M Q E => ∃ (y : D) (A : M4), ds = [y] ∧ TabR M y A ∧ A.bi 90000 ∧ (Keeps A → newG (bkM A) M Q) ∧ (¬ Keeps A → E "InvalidTable" y M)
theorem rd_table_back_o_x : ∀ ds M Q E, ds.length = 1 → belowAll M.length ds = true → sp_tback_x ds M Q E → t_table_back_o_x sp_ctable sp_lkeeps sp_back_o (dOut M E) (dEnds M Q) (startD 1 ds) M := by
  rintro _ M Q E - hb ⟨y, A, rfl, hT, bA, q, qe⟩
  unfold t_table_back_o_x
  refine dSeq_open fun B' hB => ?_
  walk_at "rd"
  refine ⟨y, A, rfl, hT, ?_⟩
  rw [← hB]
  clear hB B'
  refine dSeq_open fun B' hB => ?_
  walk_at "rd"
  refine ⟨y, A, rfl, hT, bA, fun v hv => ?_⟩
  cases v with
  | true =>
    have hk := hv.mp rfl
    dsimp only
    rw [if_neg (by decide), ← hB]
    clear hB B'
    walk_at "rd"
    exact ⟨y, A, rfl, hT, bA, (q hk).rtq _ _ (grownB M (backM A)) (tabNB M (backM A))⟩
  | false =>
    have hk : ¬ Keeps A := fun h => by have := hv.mpr h; cases this
    dsimp only
    rw [if_pos (by decide)]
    exact ⟨y, rfl, rtx (by simpa [belowAll] using hb) (qe hk)⟩
theorem wk_table_back_o : ∀ ds M Q E, sp_tback ds M Q E → sp_tback_x ds M Q DX0 := by
  rintro _ M Q E ⟨y, A, rfl, hT, bA, hk, q⟩
  exact ⟨y, A, rfl, hT, bA, fun _ => q, fun h => absurd hk h⟩
theorem gEqE_strs {z : Str} {M : Mem} {Q : DQ} (q : Q (.bl true) M) : gEqE (.str z) (.str z) M Q := by
  have h := gNeE_str (z := z) (M := M) (Q := fun d _ => d = .bl false) rfl
  unfold gNeE at h
  unfold gEqE
  split at h
  · rename_i b hb
    cases b with
    | true => exact q
    | false => cases h
  · exact h.elim
def sp_lrefused43 : DSp := fun ds M Q _ => ∃ (y : D) (A : M4) (z : Str), ds = [y] ∧ TabR M y A ∧ A.bi 90000 ∧ ¬ Keeps A ∧ shwnZ A.D = some z ∧ Q (.bl true) M
theorem rd_l_refused_c25c : ∀ ds M Q, ds.length = 1 → sp_lrefused43 ds M Q DX0 → t_l_refused_c25c sp_tback_x (dEnds M Q) (startD 3 ds) M := by
  rintro _ M Q - ⟨y, A, z, rfl, hT, bA, hk, hz, q⟩
  unfold t_l_refused_c25c
  refine dSeq_open fun B hB => ?_
  walk_at "rd"
  rw [← hB]
  clear hB B
  refine dSeq_open fun B hB => ?_
  walk_at "rd"
  refine ⟨y, A, rfl, hT, bA, fun h => absurd h hk, fun _ => ?_⟩
  refine ⟨by decide, by decide, ?_⟩
  rw [show XA.under (Str.ofString "InvalidTable") (Str.ofString "InvalidTable") = true from by decide]
  dsimp only
  rw [if_pos rfl]
  refine gReprE_res hT.resE hz (gReprE_res hT.resE hz (gEqE_strs ?_))
  rw [← hB]
  clear hB B
  walk_at "rd"
  exact rtq q
/-! ### one table -/
theorem Grown.set {M MM : Mem} (h : Grown M MM) {j : Nat} {c : Own} (hj : M.length ≤ j) (hc : belowO 0 c = true) : Grown M (MM.set j c) := by
  obtain ⟨Y, rfl, hY⟩ := h
  refine ⟨Y.set (j - M.length) c, List.set_append_right _ _ hj, fun x hx => ?_⟩
  rw [List.length_set]
  rcases List.mem_or_eq_of_mem_set hx with h1 | rfl
  · exact hY x h1
  · exact belowO.mono (Nat.zero_le _) hc
theorem rep_bl {M : Mem} {Q : DQ} (v : Bool) (h : ∃ z : Str, shwnZ (.bl v) = some z ∧ Q (.str z) M) : gReprE [.bl v] M Q := by
  obtain ⟨z, h1, h2⟩ := h
  exact gReprE_res (x := .bl v) rfl h1 h2
theorem bl_shown (v : Bool) : ∃ z : Str, shwnZ (.bl v) = some z := by cases v <;> exact ⟨_, rfl⟩
def sp_lone43 : DSp := fun ds M Q _ => ∃ (y : D) (A : M4), ds = [y] ∧ TabR M y A ∧ A.bi 700 ∧ ∀ MM, Grown M MM → Q (.bl true) MM
theorem rd_l_one_right_7eef : ∀ ds M Q, ds.length = 1 → sp_lone43 ds M Q DX0 → t_l_one_right_7eef sp_lkeeps sp_lkeeps sp_lrefused43 sp_tback sp_lback4 sp_times4 sp_lself (dEnds M Q) (startD 4 ds) M := by
  rintro _ M Q - ⟨y, A, rfl, hT, bA, q⟩
  unfold t_l_one_right_7eef
  obtain ⟨z, hz⟩ := shown_tabB bA
  have bA9 : A.bi 90000 := bA.up (by decide)
  refine dSeq_open fun B hB => ?_
  walk_at "rd"
  refine ⟨y, A, rfl, hT, bA9, fun v hv => ?_⟩
  obtain ⟨zv, hzv⟩ := bl_shown v
  refine gReprE_res hT.resE hz ?_
  rw [← hB]
  clear hB B
  refine dSeq_open fun B hB => ?_
  walk_at "rd"
  refine ⟨y, A, rfl, hT, bA9, fun v2 hv2 => ?_⟩
  have e2 : v2 = v := by rw [Bool.eq_iff_iff, hv, hv2]
  subst e2
  refine rep_bl v2 ⟨zv, hzv, rep_bl v2 ⟨zv, hzv, gNeE_str ?_⟩⟩
  dsimp only
  rw [if_neg (by decide)]
  refine ⟨rfl, y, A, rfl, hT, bA9, fun v3 hv3 => ?_⟩
  have e3 : v3 = v2 := by rw [Bool.eq_iff_iff, hv2, hv3]
  subst e3
  refine rep_bl v3 ⟨zv, hzv, rep_bl v3 ⟨zv, hzv, gNeE_str ?_⟩⟩
  dsimp only
  rw [if_neg (by decide)]
  refine gReprE_res hT.resE hz (gNeE_str ?_)
  dsimp only
  rw [if_neg (by decide), ← hB]
  clear hB B
  refine dSeq_open fun B hB => ?_
  walk_at "rd"
  cases v3 with
  | false =>
    rw [if_pos rfl]
    exact ⟨y, A, z, rfl, hT, bA9, (fun h => Bool.noConfusion (hv3.mpr h)), hz, rtq (q M (Grown.refl M))⟩
  | true =>
    have hk := hv3.mp rfl
    rw [if_neg (by decide), ← hB]
    clear hB B
    have bB : (bkM A).bi 90000 := (bk_bi bA).up (by decide)
    refine dSeq_open fun B hB => ?_
    walk_at "rd"
    refine ⟨y, A, rfl, hT, bA9, hk, fun M1 d1 g1 t1 => ?_⟩
    rw [← hB]
    clear hB B
    have hT1 := g1.tab hT
    refine dSeq_open fun B hB => ?_
    walk_at "rd"
    refine ⟨y, A, rfl, hT1, bA9, ?_⟩
    refine gNeE_res (d := (bkM A).D) (n := 3) t1.tab.resE (TabR.pure _ (bkM A)).resE rfl ?_
    dsimp only
    rw [if_neg (by decide)]
    refine ⟨y, d1, A, bkM A, rfl, hT1, t1.tab, bA9, bB, ?_⟩
    rw [mul_bk hk]
    refine ⟨rfl, ?_⟩
    refine gNeE_res (d := M4.one.D) (n := 3) (TabR.pure _ M4.one).resE (TabR.pure _ M4.one).resE rfl ?_
    dsimp only
    rw [if_neg (by decide)]
    refine gReprE_res hT1.resE hz (gNeE_str ?_)
    dsimp only
    rw [if_neg (by decide), ← hB]
    clear hB B
    refine dSeq_open fun B hB => ?_
    walk_at "rd"
    obtain ⟨⟨K, k0, k1, k2, k3, rfl, _, _, ⟨hk0, _⟩, hK, hc0⟩, _⟩ := t1
    rw [hK]
    dsimp only
    rw [show atI [D.own k0, .own k1, .own k2, .own k3] 0 = some (.own k0) from rfl]
    dsimp only
    rw [hc0]
    dsimp only
    have g2 := g1.set (j := k0) (c := .lst [.non, .int (bkM A).a.b, .int (bkM A).a.c, .int (bkM A).a.d]) hk0 rfl
    have hT2 := g2.tab hT
    show B [some y, some (D.bl true), some (D.str z), some (.own K)] (M1.set k0 (.lst [.non, .int (bkM A).a.b, .int (bkM A).a.c, .int (bkM A).a.d]))
    generalize M1.set k0 (.lst [.non, .int (bkM A).a.b, .int (bkM A).a.c, .int (bkM A).a.d]) = M2 at g2 hT2 ⊢
    rw [← hB]
    clear hB B
    walk_at "rd"
    refine ⟨y, A, rfl, hT2, bA9, hk, fun M3 d3 g3 t3 => ?_⟩
    refine ⟨y, A, rfl, g3.tab hT2, bA9, ?_⟩
    refine gEqE_res (d := (bkM A).D) (n := 3) t3.tab.resE (TabR.pure _ (bkM A)).resE rfl ?_ (by decide)
    have g4 := g2.trans g3
    exact g4.rtq (q M3 g4) rfl
/-! ### a step -/
/-- the generator has gone on, and cells were added -/
structure Std (k : Nat) (n : Int) (M MM : Mem) : Prop where
  gs : ∃ M1 Y, MM = M1 ++ Y ∧ Gst k n M M1
  kl : k < M.length
theorem Std.le {k : Nat} {n n' : Int} {M MM : Mem} (h : Std k n M MM) (hn : n ≤ n') : Std k n' M MM := by
  obtain ⟨⟨M1, Y, e, g⟩, h4⟩ := h
  exact ⟨⟨M1, Y, e, g.le hn⟩, h4⟩
theorem Std.len {k : Nat} {n : Int} {M MM : Mem} (h : Std k n M MM) : M.length ≤ MM.length := by
  obtain ⟨⟨M1, Y, rfl, g⟩, h4⟩ := h
  rw [List.length_append, g.1]
  omega
theorem Std.grown {k : Nat} {n : Int} {M MM MM' : Mem} (h : Std k n M MM) (g : Grown MM MM') : Std k n M MM' := by
  obtain ⟨⟨M1, Y, rfl, gs⟩, h4⟩ := h
  obtain ⟨Z, rfl, _⟩ := g
  exact ⟨⟨M1, Y ++ Z, List.append_assoc _ _ _, gs⟩, h4⟩
theorem Std.app {k : Nat} {n : Int} {M MM : Mem} (h : Std k n M MM) (Z : Mem) : Std k n M (MM ++ Z) := by
  obtain ⟨⟨M1, Y, rfl, gs⟩, h4⟩ := h
  exact ⟨⟨M1, Y ++ Z, List.append_assoc _ _ _, gs⟩, h4⟩
theorem Std.gn {k : Nat} {n : Int} {M MM : Mem} (h : Std k n M MM) : Gn k n MM := by
  obtain ⟨⟨M1, Y, rfl, gs⟩, _⟩ := h
  exact gs.2.1.appK
theorem Std.gst {k : Nat} {n n' : Int} {M MM MM' : Mem} (h : Std k n M MM) (g : Gst k n' MM MM') : Std k n' M MM' := by
  obtain ⟨⟨M1, Y, rfl, gs⟩, h4⟩ := h
  obtain ⟨M1', Y', e, g'⟩ := Gst.cutK g (by rw [gs.1]; exact h4)
  exact ⟨⟨M1', Y', e, gs.trans g'⟩, h4⟩
theorem Std.set {k : Nat} {n : Int} {M MM : Mem} (h : Std k n M MM) {j : Nat} {c : Own} (hj : M.length ≤ j) : Std k n M (MM.set j c) := by
  obtain ⟨⟨M1, Y, rfl, gs⟩, h4⟩ := h
  refine ⟨⟨M1, Y.set (j - M1.length) c, ?_, gs⟩, h4⟩
  rw [List.set_append_right _ _ (by rw [gs.1]; exact hj)]
theorem Std.rtq {k : Nat} {n : Int} {M MM : Mem} {Q : DQ} {d : D} (h : Std k n M MM) (q : ∀ M', Gst k n M M' → Q d M') (hb : ∀ n, below n d = true) : Rtq M Q d MM := by
  obtain ⟨⟨M1, Y, rfl, gs⟩, _⟩ := h
  exact gs.rtqK (q M1 gs) (hb _)
def M4.L (A : M4) : Own := .lst [A.a.D, A.b.D, A.c.D, A.d.D]
def V4.addT (v : V4) (t : Int) (w : V4) : V4 := ⟨v.a + t * w.a, v.b + t * w.b, v.c + t * w.c, v.d + t * w.d⟩
def V4.subT (v : V4) (t : Int) (w : V4) : V4 := ⟨v.a - t * w.a, v.b - t * w.b, v.c - t * w.c, v.d - t * w.d⟩
def linS (s : Int) : D → D → D
  | .int x, .int y => .int (x - s * y)
  | _, _ => .non
def sp_lstepped : DSp := fun ds M Q _ => ∃ (k : Nat) (n : Int) (A : M4) (m : Nat), ds = [.own k, A.D] ∧ Gn k n M ∧ n ≤ P40 - 1000 ∧ A.bi m ∧ m ≤ 600 ∧ ∀ A' M', M4.bi (m + 5) A' → Gst k (n + 160) M M' → Q A'.D M'
theorem rd_l_stepped_3049 : ∀ ds M Q, ds.length = 2 → sp_lstepped ds M Q DX0 → t_l_stepped_3049 sp_random (dEnds M Q) (startD 11 ds) M := by
  rintro _ M Q - ⟨k, n, A, m, rfl, hg, hn, bA, hm, q⟩
  unfold t_l_stepped_3049
  refine dSeq_open fun B hB => ?_
  walk_at "rd"
  refine lcW_idxO (ys := [A.a.D, A.b.D, A.c.D, A.d.D]) rfl trivial (by rw [sizeLine_eq]; exact Nat.le_of_ble_eq_true rfl) (fun j d w hd hw Z N' hz => ?_) ?_
  · rcases (by have := (List.getElem?_eq_some_iff.mp hw).1; simp only [List.length_cons, List.length_nil] at this; omega : j = 0 ∨ j = 1 ∨ j = 2 ∨ j = 3) with rfl | rfl | rfl | rfl <;> (cases hd; cases hw; exact hz)
  have st : Std k n M (M ++ [A.L]) := ⟨⟨M, _, rfl, Gst.refl hg⟩, hg.ltK⟩
  have hc : (M ++ [A.L])[M.length]? = some A.L := by rw [List.getElem?_append_right (Nat.le_refl _), Nat.sub_self]; rfl
  show sp_random [D.own k, D.int 4] (M ++ [A.L]) _ _
  generalize M ++ [A.L] = M1 at st hc ⊢
  refine ⟨k, 4, n, rfl, by decide, by decide, st.gn, by omega, fun w M2 w0 w1 g2 => ?_⟩
  replace st := st.gst g2
  replace hc : M2[M.length]? = some A.L := by rw [g2.2.2 _ (by have := st.kl; omega)]; exact hc
  refine ⟨k, 9, _, rfl, by decide, by decide, st.gn, by omega, fun t M3 t0 t1 g3 => ?_⟩
  replace st := st.gst g3
  replace hc : M3[M.length]? = some A.L := by rw [g3.2.2 _ (by have := st.kl; omega)]; exact hc
  dsimp only
  have bt : Bi 3 (t - 4) := Bi.of_abs 4 (by omega) (by decide)
  generalize t - 4 = t at bt ⊢
  rw [← hB]
  clear hB B g2 g3 t0 t1
  clear M1 M2
  have rowA : ∀ (v w : V4) (x : Int) (u2 u5 u6 u7 u8 u9 : Option D) (M' : Mem) (Y : DQ), v.bi m → w.bi m → Y (v.addT t w).D M' → gZip [v.D, w.D] M' fun ds C M0 => lcW false ds C (dGTup 2 (dGCons (dName 8) (dGCons (dName 9) dGNil))) dYes (dOp gAdd (dVar 8) (dOp (rBin CMul fun i j => i * j) (dVar 4) (dVar 9))) [some (D.own k), some A.D, u2, some (D.int x), some (D.int t), u5, u6, u7, u8, u9, none] M0 Y := by
    intro v w x u2 u5 u6 u7 u8 u9 M' Y bv bw hY
    refine zip_lcW (u1 := 8) (u2 := 9) rfl rfl (Nat.le_of_ble_eq_true rfl) (linD t) ⟨by show 8 < 11; decide, by show 9 < 11; decide⟩ (fun p' q' hpq Y hY => ?_) ?_
    · simp only [List.zipWith_cons_cons, List.zipWith_nil_right, List.mem_cons, List.not_mem_nil, or_false, pairD, D.tup.injEq, List.cons.injEq, and_true] at hpq
      rcases hpq with ⟨rfl, rfl⟩ | ⟨rfl, rfl⟩ | ⟨rfl, rfl⟩ | ⟨rfl, rfl⟩
      · exact ⟨⟨bt.sm, bw.a.sm (by omega)⟩, hY⟩
      · exact ⟨⟨bt.sm, bw.b.sm (by omega)⟩, hY⟩
      · exact ⟨⟨bt.sm, bw.c.sm (by omega)⟩, hY⟩
      · exact ⟨⟨bt.sm, bw.d.sm (by omega)⟩, hY⟩
    · exact hY
  have rowS : ∀ (v w : V4) (x : Int) (u2 u5 u6 u7 u8 u9 : Option D) (M' : Mem) (Y : DQ), v.bi m → w.bi m → Y (v.subT t w).D M' → gZip [v.D, w.D] M' fun ds C M0 => lcW false ds C (dGTup 2 (dGCons (dName 8) (dGCons (dName 9) dGNil))) dYes (dOp (rBin (fun _ _ => True) fun i j => i - j) (dVar 8) (dOp (rBin CMul fun i j => i * j) (dVar 4) (dVar 9))) [some (D.own k), some A.D, u2, some (D.int x), some (D.int t), u5, u6, u7, u8, u9, none] M0 Y := by
    intro v w x u2 u5 u6 u7 u8 u9 M' Y bv bw hY
    refine zip_lcW (u1 := 8) (u2 := 9) rfl rfl (Nat.le_of_ble_eq_true rfl) (linS t) ⟨by show 8 < 11; decide, by show 9 < 11; decide⟩ (fun p' q' hpq Y hY => ?_) ?_
    · simp only [List.zipWith_cons_cons, List.zipWith_nil_right, List.mem_cons, List.not_mem_nil, or_false, pairD, D.tup.injEq, List.cons.injEq, and_true] at hpq
      rcases hpq with ⟨rfl, rfl⟩ | ⟨rfl, rfl⟩ | ⟨rfl, rfl⟩ | ⟨rfl, rfl⟩
      · exact ⟨⟨bt.sm, bw.a.sm (by omega)⟩, trivial, hY⟩
      · exact ⟨⟨bt.sm, bw.b.sm (by omega)⟩, trivial, hY⟩
      · exact ⟨⟨bt.sm, bw.c.sm (by omega)⟩, trivial, hY⟩
      · exact ⟨⟨bt.sm, bw.d.sm (by omega)⟩, trivial, hY⟩
    · exact hY
  have hres : ∀ {MM : Mem} {F : M4} {K : Nat}, MM[K]? = some F.L → DL.res MM (.own K) = .lst [F.a.D, F.b.D, F.c.D, F.d.D] := by
    intro MM F K h
    unfold DL.res
    dsimp only
    rw [h]
    rfl
  have hset : ∀ {MM : Mem} {K : Nat} {c d : Own}, MM[K]? = some c → (MM.set K d)[K]? = some d := fun h => List.getElem?_set_self (List.getElem?_eq_some_iff.mp h).1
  have biT : ∀ {v w : V4}, v.bi m → w.bi m → (v.addT t w).bi (m + 5) := by
    intro v w bv bw
    have one : ∀ {x y : Int}, Bi m x → Bi m y → Bi (m + 5) (x + t * y) := by
      intro x y bx bY
      have h1 := bt.mul bY
      exact ((bx.up (show m ≤ 3 + m by omega)).add h1).up (by omega)
    exact ⟨one bv.a bw.a, one bv.b bw.b, one bv.c bw.c, one bv.d bw.d⟩
  have biS : ∀ {v w : V4}, v.bi m → w.bi m → (v.subT t w).bi (m + 5) := by
    intro v w bv bw
    have one : ∀ {x y : Int}, Bi m x → Bi m y → Bi (m + 5) (x - t * y) := by
      intro x y bx bY
      have h1 := bt.mul bY
      exact ((bx.up (show m ≤ 3 + m by omega)).sub h1).up (by omega)
    exact ⟨one bv.a bw.a, one bv.b bw.b, one bv.c bw.c, one bv.d bw.d⟩
  have i0 : atI [A.a.D, A.b.D, A.c.D, A.d.D] 0 = some A.a.D := rfl
  have i1 : atI [A.a.D, A.b.D, A.c.D, A.d.D] 1 = some A.b.D := rfl
  have i2 : atI [A.a.D, A.b.D, A.c.D, A.d.D] 2 = some A.c.D := rfl
  have i3 : atI [A.a.D, A.b.D, A.c.D, A.d.D] 3 = some A.d.D := rfl
  have hnew : ∀ (MM : Mem) (c : Own), (MM ++ [c])[MM.length]? = some c := fun MM c => by rw [List.getElem?_append_right (Nat.le_refl _), Nat.sub_self]; rfl
  have bA5 : A.bi (m + 5) := bA.up (by omega)
  have fin : ∀ (F : DL.M4) (M6 : Mem) (K : Nat), Std k (n + 160) M M6 → M.length ≤ K → M6[K]? = some F.L → F.bi (m + 5) → (match M6[K]? with | some (Own.lst l) => Rtq M Q (D.lst l) (List.set M6 K Own.dead) | x => False) := by
    intro F M6 K st hk hc bF
    rw [hc]
    exact (st.set hk).rtq (fun M' g => q F M' bF g) (fun _ => rfl)
  rcases (by omega : w = 0 ∨ w = 1 ∨ w = 2 ∨ w = 3) with rfl | rfl | rfl | rfl
  · refine dSeq_open fun B hB => ?_
    have rest : ∀ (F : DL.M4) (M6 : Mem) (u6 u7 : Option D), Std k (n + 160) M M6 → M6[M.length]? = some F.L → F.bi (m + 5) → B [some (.own k), some A.D, some (.own M.length), some (.int 0), some (.int t), none, u6, u7, none, none, none] M6 := by
      intro F M6 u6 u7 st hc bF
      rw [← hB]
      clear hB B
      refine dSeq_open fun B2 hB2 => ?_
      walk_at "rd"
      rw [if_neg (by decide), ← hB2]
      clear hB2 B2
      refine dSeq_open fun B2 hB2 => ?_
      walk_at "rd"
      rw [if_neg (by decide), ← hB2]
      clear hB2 B2
      refine dSeq_open fun B2 hB2 => ?_
      walk_at "rd"
      rw [if_neg (by decide), ← hB2]
      clear hB2 B2
      walk_at "rd"
      exact fin F M6 _ st (Nat.le_refl _) hc bF
    walk_at "rd"
    refine ⟨k, 2, _, rfl, by decide, by decide, st.gn, by omega, fun r1 M4 a0 a1 g4 => ?_⟩
    replace st := st.gst g4
    replace hc : M4[M.length]? = some A.L := by rw [g4.2.2 _ (by have := st.kl; omega)]; exact hc
    refine ⟨⟨(Bi.of_abs (n := 2) 2 (by decide) (by decide)).sm, (Bi.of_abs (n := 2) 1 (by omega) (by decide)).sm⟩, ?_⟩
    refine ⟨k, 2, _, rfl, by decide, by decide, st.gn, by omega, fun r2 M5 b0 b1 g5 => ?_⟩
    replace st := (st.gst g5).le (show _ ≤ n + 160 by omega)
    replace hc : M5[M.length]? = some A.L := by rw [g5.2.2 _ (by have := st.kl; omega)]; exact hc
    clear g4 g5
    rcases (by omega : (r1 = 0 ∧ r2 = 0) ∨ (r1 = 0 ∧ r2 = 1) ∨ (r1 = 1 ∧ r2 = 0) ∨ (r1 = 1 ∧ r2 = 1)) with ⟨rfl, rfl⟩ | ⟨rfl, rfl⟩ | ⟨rfl, rfl⟩ | ⟨rfl, rfl⟩
    · dsimp only
      rw [hres hc, show (2 : Int) * 0 + 0 = 0 from rfl]
      refine ⟨by show (2 : Int) ≠ 0; decide, ?_⟩
      rw [if_pos (by decide)]
      dsimp only
      rw [show atI [A.a.D, A.b.D, A.c.D, A.d.D] 0 = some A.a.D from rfl, show atI [A.a.D, A.b.D, A.c.D, A.d.D] (0 + 1) = some A.b.D from rfl]
      dsimp only
      refine rowA A.a A.b _ _ _ _ _ _ _ _ _ bA.a bA.b ?_
      rw [hc]
      exact rest ⟨A.a.addT t A.b, A.b, A.c, A.d⟩ _ _ _ (st.set (Nat.le_refl _)) (hset hc) ⟨biT bA.a bA.b, bA5.b, bA5.c, bA5.d⟩
    · dsimp only
      rw [hres hc, show (2 : Int) * 0 + 1 = 1 from rfl]
      refine ⟨by show (2 : Int) ≠ 0; decide, ?_⟩
      rw [if_neg (by decide)]
      dsimp only
      rw [show atI [A.a.D, A.b.D, A.c.D, A.d.D] 1 = some A.b.D from rfl, show atI [A.a.D, A.b.D, A.c.D, A.d.D] (1 - 1) = some A.a.D from rfl]
      dsimp only
      refine rowA A.b A.a _ _ _ _ _ _ _ _ _ bA.b bA.a ?_
      rw [hc]
      exact rest ⟨A.a, A.b.addT t A.a, A.c, A.d⟩ _ _ _ (st.set (Nat.le_refl _)) (hset hc) ⟨bA5.a, biT bA.b bA.a, bA5.c, bA5.d⟩
    · dsimp only
      rw [hres hc, show (2 : Int) * 1 + 0 = 2 from rfl]
      refine ⟨by show (2 : Int) ≠ 0; decide, ?_⟩
      rw [if_pos (by decide)]
      dsimp only
      rw [show atI [A.a.D, A.b.D, A.c.D, A.d.D] 2 = some A.c.D from rfl, show atI [A.a.D, A.b.D, A.c.D, A.d.D] (2 + 1) = some A.d.D from rfl]
      dsimp only
      refine rowA A.c A.d _ _ _ _ _ _ _ _ _ bA.c bA.d ?_
      rw [hc]
      exact rest ⟨A.a, A.b, A.c.addT t A.d, A.d⟩ _ _ _ (st.set (Nat.le_refl _)) (hset hc) ⟨bA5.a, bA5.b, biT bA.c bA.d, bA5.d⟩
    · dsimp only
      rw [hres hc, show (2 : Int) * 1 + 1 = 3 from rfl]
      refine ⟨by show (2 : Int) ≠ 0; decide, ?_⟩
      rw [if_neg (by decide)]
      dsimp only
      rw [show atI [A.a.D, A.b.D, A.c.D, A.d.D] 3 = some A.d.D from rfl, show atI [A.a.D, A.b.D, A.c.D, A.d.D] (3 - 1) = some A.c.D from rfl]
      dsimp only
      refine rowA A.d A.c _ _ _ _ _ _ _ _ _ bA.d bA.c ?_
      rw [hc]
      exact rest ⟨A.a, A.b, A.c, A.d.addT t A.c⟩ _ _ _ (st.set (Nat.le_refl _)) (hset hc) ⟨bA5.a, bA5.b, bA5.c, biT bA.d bA.c⟩
  · refine dSeq_open fun B hB => ?_
    walk_at "rd"
    rw [if_neg (by decide), ← hB]
    clear hB B
    refine dSeq_open fun B hB => ?_
    walk_at "rd"
    simp only [hres hc, i0, i1, i2, i3]
    rw [← hB]
    clear hB B
    refine dSeq_open fun B2 hB2 => ?_
    walk_at "rd"
    rw [if_neg (by decide), ← hB2]
    clear hB2 B2
    refine dSeq_open fun B2 hB2 => ?_
    walk_at "rd"
    rw [if_neg (by decide), ← hB2]
    clear hB2 B2
    walk_at "rd"
    exact fin ⟨A.c, A.d, A.a, A.b⟩ _ _ ((st.le (show _ ≤ n + 160 by omega)).app _) st.len (hnew _ _) ⟨bA5.c, bA5.d, bA5.a, bA5.b⟩
  · refine dSeq_open fun B hB => ?_
    walk_at "rd"
    rw [if_neg (by decide), ← hB]
    clear hB B
    refine dSeq_open fun B hB => ?_
    walk_at "rd"
    rw [if_neg (by decide), ← hB]
    clear hB B
    refine dSeq_open fun B hB => ?_
    walk_at "rd"
    simp only [hres hc, i0, i1, i2, i3]
    refine lcW_idx (ys := [.int (0 - A.a.a), .int (0 - A.a.b), .int (0 - A.a.c), .int (0 - A.a.d)]) rfl trivial (by rw [sizeLine_eq]; exact Nat.le_of_ble_eq_true rfl) (fun j d y hd hy Z' N' hz' => ?_) ?_
    · have hj : j < 4 := (List.getElem?_eq_some_iff.mp hy).1
      rcases (by omega : j = 0 ∨ j = 1 ∨ j = 2 ∨ j = 3) with rfl | rfl | rfl | rfl <;> (cases hd; cases hy; exact ⟨trivial, hz'⟩)
    refine gSl_own (hres hc) ?_
    rw [show cutD [A.a.D, A.b.D, A.c.D, A.d.D] (some 2) none = [A.c.D, A.d.D] from rfl]
    refine ⟨by rw [sizeLine_eq]; exact Nat.le_of_ble_eq_true rfl, ?_⟩
    rw [← hB]
    clear hB B
    refine dSeq_open fun B2 hB2 => ?_
    walk_at "rd"
    rw [if_neg (by decide), ← hB2]
    clear hB2 B2
    walk_at "rd"
    exact fin ⟨A.b, ⟨0 - A.a.a, 0 - A.a.b, 0 - A.a.c, 0 - A.a.d⟩, A.c, A.d⟩ _ _ ((st.le (show _ ≤ n + 160 by omega)).app _) st.len (hnew _ _) ⟨bA5.b, ⟨bA5.a.a.neg, bA5.a.b.neg, bA5.a.c.neg, bA5.a.d.neg⟩, bA5.c, bA5.d⟩
  · refine dSeq_open fun B hB => ?_
    walk_at "rd"
    rw [if_neg (by decide), ← hB]
    clear hB B
    refine dSeq_open fun B hB => ?_
    walk_at "rd"
    rw [if_neg (by decide), ← hB]
    clear hB B
    refine dSeq_open fun B hB => ?_
    walk_at "rd"
    rw [if_neg (by decide), ← hB]
    clear hB B
    refine dSeq_open fun B hB => ?_
    walk_at "rd"
    simp only [hres hc, i0, i1, i2, i3]
    refine rowA A.a A.c _ _ _ _ _ _ _ _ _ bA.a bA.c ?_
    rw [hc]
    dsimp only [DL.M4.L]
    rw [show ixN [A.a.D, A.b.D, A.c.D, A.d.D].length 0 = some 0 from rfl]
    dsimp only [List.set]
    replace st := (st.le (show _ ≤ n + 160 by omega)).set (j := M.length) (c := .lst [(A.a.addT t A.c).D, A.b.D, A.c.D, A.d.D]) (Nat.le_refl _)
    have hc2 : (M3.set M.length (.lst [(A.a.addT t A.c).D, A.b.D, A.c.D, A.d.D]))[M.length]? = some (DL.M4.L ⟨A.a.addT t A.c, A.b, A.c, A.d⟩) := hset hc
    clear hc
    generalize M3.set M.length (.lst [(A.a.addT t A.c).D, A.b.D, A.c.D, A.d.D]) = M4 at st hc2 ⊢
    rw [hres hc2]
    dsimp only
    rw [show atI [(A.a.addT t A.c).D, A.b.D, A.c.D, A.d.D] 3 = some A.d.D from rfl]
    dsimp only
    rw [show atI [(A.a.addT t A.c).D, A.b.D, A.c.D, A.d.D] 1 = some A.b.D from rfl]
    dsimp only
    refine rowS A.d A.b _ _ _ _ _ _ _ _ _ bA.d bA.b ?_
    rw [hc2]
    dsimp only [DL.M4.L]
    rw [show ixN [(A.a.addT t A.c).D, A.b.D, A.c.D, A.d.D].length 3 = some 3 from rfl]
    dsimp only [List.set]
    rw [← hB]
    clear hB B
    walk_at "rd"
    exact fin ⟨A.a.addT t A.c, A.b, A.c, A.d.subT t A.b⟩ _ _ (st.set (Nat.le_refl _)) (Nat.le_refl _) (hset hc2) ⟨biT bA.a bA.c, bA5.b, bA5.c, biS bA.d bA.b⟩
/-! ### the law's look at one seed -/
/-- five cells that hold a table with its own rows -/
structure CellT (N : Nat) (MM : Mem) (A : M4) : Prop where
  r : ∀ i, i < 4 → MM[N + i]? = some (A.get i).O
  t : MM[N + 4]? = some (.lst [.own N, .own (N + 1), .own (N + 2), .own (N + 3)])
theorem CellT.res {N : Nat} {MM : Mem} {A : M4} (h : CellT N MM A) : DL.res MM (.own (N + 4)) = .lst [.own N, .own (N + 1), .own (N + 2), .own (N + 3)] := by
  unfold DL.res; dsimp only; rw [h.t]
theorem CellT.rowr {N : Nat} {MM : Mem} {A : M4} (h : CellT N MM A) {i : Nat} (hi : i < 4) : DL.res MM (.own (N + i)) = (A.get i).D := by
  unfold DL.res; dsimp only; rw [h.r i hi]
theorem CellT.tab {N : Nat} {MM : Mem} {A : M4} (h : CellT N MM A) : TabR MM (.own (N + 4)) A :=
  ⟨_, _, _, _, h.res, h.rowr (i := 0) (by decide), h.rowr (i := 1) (by decide), h.rowr (i := 2) (by decide), h.rowr (i := 3) (by decide)⟩
theorem cellT5 (M : Mem) (A : M4) : CellT M.length (M ++ cells5 M.length A) A := by
  refine ⟨fun i hi => ?_, cget4 M A⟩
  rw [List.getElem?_append_right (by omega), Nat.add_sub_cancel_left]
  rcases (by omega : i = 0 ∨ i = 1 ∨ i = 2 ∨ i = 3) with rfl | rfl | rfl | rfl <;> rfl
theorem CellT.gst {N k : Nat} {n : Int} {MM M' : Mem} {A : M4} (h : CellT N MM A) (hk : k < N) (g : Gst k n MM M') : CellT N M' A :=
  ⟨fun i hi => by rw [g.2.2 _ (by omega)]; exact h.r i hi, by rw [g.2.2 _ (by omega)]; exact h.t⟩
def V4.setE (v : V4) (j : Nat) (x : Int) : V4 := match j with
  | 0 => { v with a := x }
  | 1 => { v with b := x }
  | 2 => { v with c := x }
  | _ => { v with d := x }
def M4.setR (A : M4) (i : Nat) (v : V4) : M4 := match i with
  | 0 => { A with a := v }
  | 1 => { A with b := v }
  | 2 => { A with c := v }
  | _ => { A with d := v }
theorem V4.setE_O (v : V4) {j : Nat} (hj : j < 4) (x : Int) : (v.setE j x).O = .lst ([D.int v.a, .int v.b, .int v.c, .int v.d].set j (.int x)) := by
  rcases (by omega : j = 0 ∨ j = 1 ∨ j = 2 ∨ j = 3) with rfl | rfl | rfl | rfl <;> rfl
theorem V4.bi.setE {v : V4} {n : Nat} (h : v.bi n) {j : Nat} (hj : j < 4) {x : Int} (hx : Bi n x) : (v.setE j x).bi n := by
  rcases (by omega : j = 0 ∨ j = 1 ∨ j = 2 ∨ j = 3) with rfl | rfl | rfl | rfl
  · exact ⟨hx, h.b, h.c, h.d⟩
  · exact ⟨h.a, hx, h.c, h.d⟩
  · exact ⟨h.a, h.b, hx, h.d⟩
  · exact ⟨h.a, h.b, h.c, hx⟩
theorem M4.bi.setR {A : M4} {n : Nat} (h : A.bi n) {i : Nat} (hi : i < 4) {v : V4} (hv : v.bi n) : (A.setR i v).bi n := by
  rcases (by omega : i = 0 ∨ i = 1 ∨ i = 2 ∨ i = 3) with rfl | rfl | rfl | rfl
  · exact ⟨hv, h.b, h.c, h.d⟩
  · exact ⟨h.a, hv, h.c, h.d⟩
  · exact ⟨h.a, h.b, hv, h.d⟩
  · exact ⟨h.a, h.b, h.c, hv⟩
theorem M4.setR_get (A : M4) {i j : Nat} (hi : i < 4) (hj : j < 4) (v : V4) : (A.setR i v).get j = if j = i then v else A.get j := by
  rcases (by omega : i = 0 ∨ i = 1 ∨ i = 2 ∨ i = 3) with rfl | rfl | rfl | rfl <;> rcases (by omega : j = 0 ∨ j = 1 ∨ j = 2 ∨ j = 3) with rfl | rfl | rfl | rfl <;> rfl
theorem CellT.set {N : Nat} {MM : Mem} {A : M4} (h : CellT N MM A) {i : Nat} (hi : i < 4) (v : V4) : CellT N (MM.set (N + i) v.O) (A.setR i v) := by
  refine ⟨fun j hj => ?_, by rw [List.getElem?_set_ne (by omega)]; exact h.t⟩
  rw [M4.setR_get A hi hj]
  by_cases e : j = i
  · subst e
    rw [List.getElem?_set_self (List.getElem?_eq_some_iff.mp (h.r j hj)).1, if_pos rfl]
  · rw [List.getElem?_set_ne (by omega), if_neg e]
    exact h.r j hj
theorem V4.bi.getE {v : V4} {n : Nat} (h : v.bi n) {j : Nat} (hj : j < 4) : Bi n (v.get j) := by
  rcases (by omega : j = 0 ∨ j = 1 ∨ j = 2 ∨ j = 3) with rfl | rfl | rfl | rfl
  · exact h.a
  · exact h.b
  · exact h.c
  · exact h.d
theorem atI4 {α : Type} {a b c d : α} {i : Nat} (hi : i < 4) : atI [a, b, c, d] (i : Int) = [a, b, c, d][i]? := by
  rcases (by omega : i = 0 ∨ i = 1 ∨ i = 2 ∨ i = 3) with rfl | rfl | rfl | rfl <;> rfl
theorem ixN4 {i : Nat} (hi : i < 4) : ixN 4 (i : Int) = some i := by
  rcases (by omega : i = 0 ∨ i = 1 ∨ i = 2 ∨ i = 3) with rfl | rfl | rfl | rfl <;> rfl
theorem own4 {N i : Nat} (hi : i < 4) : [D.own N, .own (N + 1), .own (N + 2), .own (N + 3)][i]? = some (.own (N + i)) := by
  rcases (by omega : i = 0 ∨ i = 1 ∨ i = 2 ∨ i = 3) with rfl | rfl | rfl | rfl <;> rfl
theorem int4 {v : V4} {i : Nat} (hi : i < 4) : [D.int v.a, .int v.b, .int v.c, .int v.d][i]? = some (.int (v.get i)) := by
  rcases (by omega : i = 0 ∨ i = 1 ∨ i = 2 ∨ i = 3) with rfl | rfl | rfl | rfl <;> rfl
theorem get4D {A : M4} {i : Nat} (hi : i < 4) : [A.a.D, A.b.D, A.c.D, A.d.D][i]? = some (A.get i).D := by
  rcases (by omega : i = 0 ∨ i = 1 ∨ i = 2 ∨ i = 3) with rfl | rfl | rfl | rfl <;> rfl
def V4.dbl (v : V4) : V4 := ⟨2 * v.a, 2 * v.b, 2 * v.c, 2 * v.d⟩
def M4.dbl (A : M4) : M4 := ⟨A.a.dbl, A.b.dbl, A.c.dbl, A.d.dbl⟩
theorem M4.dbl_get (A : M4) {i : Nat} (hi : i < 4) : A.dbl.get i = (A.get i).dbl := by
  rcases (by omega : i = 0 ∨ i = 1 ∨ i = 2 ∨ i = 3) with rfl | rfl | rfl | rfl <;> rfl
def V4.opp (v : V4) : V4 := ⟨0 - v.a, 0 - v.b, 0 - v.c, 0 - v.d⟩
def M4.opp (A : M4) : M4 := ⟨A.a.opp, A.b.opp, A.c.opp, A.d.opp⟩
theorem M4.opp_get (A : M4) {i : Nat} (hi : i < 4) : A.opp.get i = (A.get i).opp := by
  rcases (by omega : i = 0 ∨ i = 1 ∨ i = 2 ∨ i = 3) with rfl | rfl | rfl | rfl <;> rfl
theorem V4.bi.dbl {v : V4} {n : Nat} (h : v.bi n) : v.dbl.bi (n + 2) := by
  have two : Bi 2 2 := Bi.of_abs 2 (by decide) (by decide)
  exact ⟨(two.mul h.a).up (by omega), (two.mul h.b).up (by omega), (two.mul h.c).up (by omega), (two.mul h.d).up (by omega)⟩
theorem M4.bi.dbl {A : M4} {n : Nat} (h : A.bi n) : A.dbl.bi (n + 2) := ⟨h.a.dbl, h.b.dbl, h.c.dbl, h.d.dbl⟩
theorem V4.bi.opp {v : V4} {n : Nat} (h : v.bi n) : v.opp.bi n := ⟨h.a.neg, h.b.neg, h.c.neg, h.d.neg⟩
theorem M4.bi.opp {A : M4} {n : Nat} (h : A.bi n) : A.opp.bi n := ⟨h.a.opp, h.b.opp, h.c.opp, h.d.opp⟩
theorem gList_V {v : V4} {M : Mem} {Q : DQ} (h : Q v.D M) : gList false [v.D] M Q := h
/-- the cells of a new table -/
theorem TabN.cells {N : Nat} {MM : Mem} {d : D} {A : M4} (h : TabN N MM d A) : ∃ K k0 k1 k2 k3 : Nat, d = .own K ∧ MM[K]? = some (.lst [.own k0, .own k1, .own k2, .own k3]) ∧ ∀ c ∈ [K, k0, k1, k2, k3], N ≤ c ∧ ∃ l, MM[c]? = some (.lst l) ∧ l.length ≤ 4 := by
  obtain ⟨⟨K, k0, k1, k2, k3, rfl, hK, _, ⟨n0, n1, n2, n3⟩, hr, _⟩, ⟨x0, x1, x2, x3, hx, h0, h1, h2, h3⟩⟩ := h
  rw [hr] at hx
  cases hx
  rcases isL hr with e | ⟨K', e, hc⟩
  · cases e
  cases e
  have one : ∀ {c : Nat} {v : V4}, DL.res MM (.own c) = v.D → ∃ l, MM[c]? = some (.lst l) ∧ l.length ≤ 4 := by
    intro c v h
    rcases isL h with e | ⟨c', e, hc⟩
    · cases e
    cases e
    exact ⟨_, hc, Nat.le_refl _⟩
  refine ⟨K, k0, k1, k2, k3, rfl, hc, fun c hcc => ?_⟩
  simp only [List.mem_cons, List.not_mem_nil, or_false] at hcc
  rcases hcc with rfl | rfl | rfl | rfl | rfl
  · exact ⟨hK, _, hc, Nat.le_refl _⟩
  · exact ⟨n0, one h0⟩
  · exact ⟨n1, one h1⟩
  · exact ⟨n2, one h2⟩
  · exact ⟨n3, one h3⟩
theorem shown_VA {V : V4} {A : M4} (hV : V.bi 700) (h : A.bi 700) : ∃ z, shwnZ (.lst [V.D, A.D]) = some z := by
  have lr : ∀ v : V4, v.bi 700 → lit 720 v.D = true := fun v hv => lit_cons (litK hv.a) (lit_cons (litK hv.b) (lit_cons (litK hv.c) (lit_cons (litK hv.d) rfl)))
  have lA : lit 720 A.D = true := lit_cons (lr _ h.a) (lit_cons (lr _ h.b) (lit_cons (lr _ h.c) (lit_cons (lr _ h.d) rfl)))
  obtain ⟨z, hz⟩ := shw_of 720 10 (d := .lst [V.D, A.D]) rfl (lit_cons (lr _ hV) (lit_cons lA rfl)) (by simp only [wt, wtAll]; decide) (by decide)
  exact ⟨z, shwnZ_of hz⟩
theorem Grown.get {M MM : Mem} (g : Grown M MM) {c : Nat} {x : Own} (h : M[c]? = some x) : MM[c]? = some x := by
  obtain ⟨Y, rfl, _⟩ := g
  rw [List.getElem?_append_left (List.getElem?_eq_some_iff.mp h).1]
  exact h
theorem rowO_resE {M : Mem} {K : Nat} {v : V4} (h : M[K]? = some v.O) : resE M 4 (.own K) = v.D := row_resE (n := 2) (by unfold DL.res; dsimp only; rw [h])
def sp_right43 : DSp := fun ds M Q _ => ∃ (k : Nat) (n : Int), ds = [.own k] ∧ Gn k n M ∧ n ≤ P40 - 60000 ∧ ∀ M', Q (.bl true) M'
theorem rd_l_right_b49f : ∀ ds M Q, ds.length = 1 → sp_right43 ds M Q DX0 → t_l_right_b49f sp_lself sp_random sp_lstepped sp_times_o sp_times4 sp_lpath sp_led_o sp_tled sp_lcols4 sp_lone43 (dEnds M Q) (startD 22 ds) M := by
  rintro _ M Q - ⟨k, n, rfl, hg, hn, fq⟩
  unfold t_l_right_b49f
  have st : Std k n M (M ++ [.lst []]) := ⟨⟨M, _, rfl, Gst.refl hg⟩, hg.ltK⟩
  have kl := hg.ltK
  have hc : (M ++ [Own.lst []])[M.length]? = some (.lst (([] : List M4).map M4.D)) := by rw [List.getElem?_append_right (Nat.le_refl _), Nat.sub_self]; rfl
  refine dSeq_open fun B hB => ?_
  walk_at "rd"
  refine ⟨rfl, ?_⟩
  try dsimp only
  generalize M ++ [Own.lst []] = M1 at st hc ⊢
  rw [← hB]
  clear hB B
  refine dSeq_open fun B hB => ?_
  walk_at "rd"
  refine ⟨k, 12, n, rfl, by decide, by decide, st.gn, by omega, fun w M2 w0 w1 g2 => ?_⟩
  replace st := st.gst g2
  replace hc : M2[M.length]? = some (.lst (([] : List M4).map M4.D)) := by rw [g2.2.2 _ (by omega)]; exact hc
  clear g2
  try dsimp only
  refine ⟨by unfold Rg; omega, ?_⟩
  refine ⟨fun i r M' => i ≤ (2 + w).toNat ∧ ∃ (A : M4) (l : List M4) (u3 : Option D), r = [some (D.own k), some A.D, some (D.own M.length), u3, none, none, none, none, none, none, none, none, none, none, none, none, none, none, none, none, none, none] ∧ Std k (n + 40 + 160 * i) M M' ∧ M'[M.length]? = some (.lst (l.map M4.D)) ∧ l.length = i ∧ A.bi (1 + 5 * i) ∧ ∀ F ∈ l, F.bi (1 + 5 * i), ⟨Nat.zero_le _, M4.one, [], none, rfl, st.le (by omega), hc, rfl, one_bi (by decide), fun F h => by cases h⟩, ?_⟩
  rintro i r M' ⟨hi, A, l, u3, rfl, st, hc, hl, bA, bl⟩
  refine ⟨trivial, fun hle => ?_, fun d hd => ?_⟩
  case refine_2 =>
    clear hB
    obtain ⟨hi2, rfl⟩ := rng_get.mp hd
    refine dSeq_open fun B' hB' => ?_
    walk_at "rd"
    refine ⟨k, _, A, 1 + 5 * i, rfl, st.gn, by omega, bA, by omega, fun A' M3 bA' g3 => ?_⟩
    replace st := st.gst g3
    replace hc : M3[M.length]? = some (.lst (l.map M4.D)) := by rw [g3.2.2 _ (by omega)]; exact hc
    try dsimp only
    rw [← hB']
    clear hB' B' g3
    walk_at "rd"
    refine ⟨⟨_, _, rfl, hc⟩, ?_⟩
    rw [hc]
    refine ⟨by rw [List.length_map, hl]; omega, ?_⟩
    refine ⟨by omega, A', l ++ [A'], _, rfl, (st.set (Nat.le_refl _)).le (by omega), ?_, by rw [List.length_append, hl]; rfl, bA'.up (by omega), fun F hF => ?_⟩
    · rw [List.getElem?_set_self (List.getElem?_eq_some_iff.mp hc).1, List.map_append]
      rfl
    · rcases List.mem_append.mp hF with h | h
      · exact (bl F h).up (by omega)
      · rw [List.mem_singleton] at h
        subst h
        exact bA'.up (by omega)
  case refine_1 =>
    have hi2 : 2 ≤ i := by rw [rng_len] at hle; omega
    have hi13 : i ≤ 13 := by omega
    replace st := st.le (show _ ≤ n + 3000 by omega)
    replace bA : A.bi 66 := bA.up (by omega)
    replace bl : ∀ F ∈ l, F.bi 66 := fun F h => (bl F h).up (by omega)
    dsimp only
    rw [← hB]
    clear hB B hle hi
    refine dSeq_open fun B hB => ?_
    walk_at "rd"
    rw [hc]
    dsimp only
    refine ⟨k, ((l.map M4.D).length : Int), _, rfl, by rw [List.length_map, hl]; omega, by rw [List.length_map, hl]; omega, st.gn, by omega, fun v M3 v0 v1 g3 => ?_⟩
    replace st := st.gst g3
    replace hc : M3[M.length]? = some (.lst (l.map M4.D)) := by rw [g3.2.2 _ (by omega)]; exact hc
    obtain ⟨d, hd, ed⟩ := atI_any v0 v1
    have hr : DL.res M3 (.own M.length) = .lst (l.map M4.D) := by
      unfold DL.res
      dsimp only
      rw [hc]
    dsimp only
    rw [hr]
    dsimp only
    rw [ed]
    obtain ⟨F, hF, rfl⟩ := List.mem_map.mp hd
    have bF := bl F hF
    dsimp only
    rw [← hB]
    clear hB B g3 hr ed hd hc bl hl v0 v1 hF v
    have bA9 : A.bi 90000 := bA.up (by decide)
    have bF9 : F.bi 90000 := bF.up (by decide)
    refine dSeq_open fun B hB => ?_
    walk_at "rd"
    refine ⟨_, _, A, F, rfl, TabR.pure _ A, TabR.pure _ F, bA9, bF9, fun M4 d4 g4 t4 => ?_⟩
    replace st := st.grown g4
    refine ⟨_, _, A, F, rfl, TabR.pure _ A, TabR.pure _ F, bA9, bF9, ?_⟩
    refine gNeE_res (d := (A.mul F).D) (n := 3) t4.tab.resE (TabR.pure _ (A.mul F)).resE rfl ?_
    dsimp only
    rw [if_neg (by decide)]
    refine ⟨rfl, _, _, F, A, rfl, TabR.pure _ F, TabR.pure _ A, bF9, bA9, fun M5 d5 g5 t5 => ?_⟩
    replace st := st.grown g5
    refine ⟨_, _, F, A, rfl, TabR.pure _ F, TabR.pure _ A, bF9, bA9, ?_⟩
    refine gNeE_res (d := (F.mul A).D) (n := 3) t5.tab.resE (TabR.pure _ (F.mul A)).resE rfl ?_
    dsimp only
    rw [if_neg (by decide), ← hB]
    clear hB B g4 g5 t4 t5 d4 d5
    refine dSeq_open fun B hB => ?_
    walk_at "rd"
    refine ⟨k, _, rfl, st.gn, by omega, fun pa pb pc pd M6 ba bb bc bd g6 => ?_⟩
    replace st := st.gst g6
    obtain ⟨V, hV⟩ : ∃ V : V4, V = ⟨pa, pb, pc, pd⟩ := ⟨_, rfl⟩
    have bV : V.bi 70 := by rw [hV]; exact ⟨ba, bb, bc, bd⟩
    have eV : P4 pa pb pc pd = V.D := by rw [hV]
    rw [eV, ← hB]
    clear hB B g6 ba bb bc bd eV hV pa pb pc pd
    refine dSeq_open fun B hB => ?_
    walk_at "rd"
    refine ⟨_, _, A, F, rfl, TabR.pure _ A, TabR.pure _ F, bA9, bF9, fun M7 d7 g7 t7 => ?_⟩
    replace st := st.grown g7
    refine ⟨_, _, A.mul F, V, rfl, t7.tab, rfl, (mul_bi bA bF).up (by decide), bV.up (by decide), fun M8 K8 g8 k8 c8 => ?_⟩
    replace st := st.grown g8
    refine ⟨_, _, F, V, rfl, TabR.pure _ F, rfl, bF9, bV.up (by decide), ?_⟩
    refine ⟨_, _, A, F.led V, rfl, TabR.pure _ A, rfl, bA9, (led_bi bF bV).up (by decide), ?_⟩
    refine gNeE_res (d := ((A.mul F).led V).D) (n := 2) (rowO_resE c8) (by rw [mul_led]; rfl) rfl ?_
    dsimp only
    rw [if_neg (by decide), ← hB]
    clear hB B g7 g8 t7 d7 k8 c8
    refine dSeq_open fun B hB => ?_
    walk_at "rd"
    refine ⟨k, 4, _, rfl, by decide, by decide, st.gn, by omega, fun lo M9 l0 l1 g9 => ?_⟩
    replace st := st.gst g9
    refine ⟨k, 4, _, rfl, by decide, by decide, st.gn, by omega, fun hi' M10 h0 h1 g10 => ?_⟩
    replace st := (st.gst g10).le (show _ ≤ n + 4000 by omega)
    try dsimp only
    rw [← hB]
    clear hB B g9 g10
    refine dSeq_open fun B hB => ?_
    walk_at "rd"
    refine ⟨fun i acc M' => i ≤ 4 ∧ M' = M10 ++ [A.a.O, A.b.O, A.c.O, A.d.O].take i ∧ acc = [D.own M10.length, .own (M10.length + 1), .own (M10.length + 2), .own (M10.length + 3)].take i, ⟨by decide, by simp, rfl⟩, ?_⟩
    rintro i acc M' ⟨hi, rfl, rfl⟩
    refine ⟨trivial, fun hl => ?_, fun d hd => ?_⟩
    case refine_2 =>
      have hi2 : i < 4 := (List.getElem?_eq_some_iff.mp hd).1
      rcases (by omega : i = 0 ∨ i = 1 ∨ i = 2 ∨ i = 3) with rfl | rfl | rfl | rfl <;> cases hd
      all_goals
        refine ⟨by rw [sizeLine_eq]; exact Nat.le_of_ble_eq_true rfl, by omega, ?_, ?_⟩
        · rw [List.append_assoc]; rfl
        · simp
    case refine_1 =>
      have hi4 : i = 4 := by have hl : 4 ≤ i := hl; omega
      subst hi4
      rw [if_pos rfl]
      have hlen : (M10 ++ List.take 4 [A.a.O, A.b.O, A.c.O, A.d.O]).length = M10.length + 4 := by simp
      rw [hlen, List.append_assoc]
      have cT := cellT5 M10 A
      have hNM := st.len
      replace st := st.app (cells5 M10.length A)
      show B _ (M10 ++ cells5 M10.length A)
      have hN := st.len
      have kN : k < M10.length := by omega
      generalize M10 ++ cells5 M10.length A = M11 at cT st hN ⊢
      generalize M10.length = N at cT kN hNM ⊢
      rw [← hB]
      clear hB B hlen hl
      obtain ⟨lo, rfl⟩ : ∃ j : Nat, lo = (j : Int) := ⟨lo.toNat, by omega⟩
      obtain ⟨hi', rfl⟩ : ∃ j : Nat, hi' = (j : Int) := ⟨hi'.toNat, by omega⟩
      have lo4 : lo < 4 := by omega
      have hi4 : hi' < 4 := by omega
      refine dSeq_open fun B hB => ?_
      walk_at "rd"
      simp only [cT.res]
      rw [atI4 lo4, own4 lo4]
      dsimp only
      rw [cT.rowr lo4]
      rw [show (A.get lo).D = .lst [D.int (A.get lo).a, .int (A.get lo).b, .int (A.get lo).c, .int (A.get lo).d] from rfl]
      dsimp only
      rw [atI4 hi4, int4 hi4]
      dsimp only
      refine ⟨k, 2, _, rfl, by decide, by decide, st.gn, by omega, fun tw M12 tw0 tw1 g12 => ?_⟩
      replace cT := cT.gst kN g12
      replace st := st.gst g12
      dsimp only
      refine ⟨⟨(Bi.of_abs (n := 2) 2 (by decide) (by decide)).sm, (Bi.of_abs (n := 2) 1 (by omega) (by decide)).sm⟩, ?_⟩
      rw [cT.res]
      dsimp only
      rw [atI4 lo4, own4 lo4]
      dsimp only
      rw [cT.r lo lo4]
      have bx : Bi 68 ((A.get lo).get hi' + 1 - 2 * tw) := by
        have h1 := (bA.get lo).getE hi4
        have h2 : Bi 66 (1 - 2 * tw) := Bi.of_abs 3 (by omega) (by decide)
        rw [show (A.get lo).get hi' + 1 - 2 * tw = (A.get lo).get hi' + (1 - 2 * tw) by omega]
        exact (h1.add h2).up (by decide)
      have bH : (A.setR lo ((A.get lo).setE hi' ((A.get lo).get hi' + 1 - 2 * tw))).bi 68 := (bA.up (by decide)).setR lo4 (((bA.get lo).up (by decide)).setE hi4 bx)
      replace cT := cT.set lo4 ((A.get lo).setE hi' ((A.get lo).get hi' + 1 - 2 * tw))
      replace st := st.set (j := N + lo) (c := ((A.get lo).setE hi' ((A.get lo).get hi' + 1 - 2 * tw)).O) (by omega)
      rw [V4.setE_O _ hi4] at cT st
      dsimp only [V4.O]
      rw [show ([D.int (A.get lo).a, .int (A.get lo).b, .int (A.get lo).c, .int (A.get lo).d].length) = 4 from rfl, ixN4 hi4]
      dsimp only
      generalize M12.set (N + lo) _ = M13 at cT st ⊢
      generalize A.setR lo ((A.get lo).setE hi' ((A.get lo).get hi' + 1 - 2 * tw)) = H at cT bH
      have bH9 : H.bi 90000 := bH.up (by decide)
      rw [← hB]
      clear hB B g12 bx tw0 tw1 tw
      refine dSeq_open fun B hB => ?_
      walk_at "rd"
      have stn := st.gn
      refine ⟨by unfold Rg; decide, ?_⟩
      refine ⟨fun i acc M' => i ≤ 4 ∧ Gst k (n + 5000 + 160 * i) M13 M' ∧ ∃ xs : List V4, acc = xs.map V4.D ∧ xs.length = i ∧ ∀ x ∈ xs, x.bi 3, ⟨by decide, (Gst.refl stn).le (by omega), [], rfl, rfl, fun x h => by cases h⟩, ?_⟩
      rintro i acc M' ⟨hi, G4, xs, rfl, hl, hx⟩
      refine ⟨trivial, fun hle => ?_, fun d hd => ?_⟩
      case refine_2 =>
        obtain ⟨hi2, rfl⟩ := rng_get.mp hd
        have hi2 : i < 4 := hi2
        walk_at "rd"
        refine ⟨by unfold Rg; decide, ?_⟩
        refine ⟨fun j acc2 M2' => j ≤ 4 ∧ Gst k (n + 5000 + 160 * i + 40 * j) M13 M2' ∧ ∃ ys : List Int, acc2 = ys.map D.int ∧ ys.length = j ∧ ∀ y ∈ ys, Bi 3 y, ⟨by decide, G4.le (by omega), [], rfl, rfl, fun x h => by cases h⟩, ?_⟩
        rintro j acc2 M2' ⟨hj, G5, ys, rfl, hl2, hy⟩
        refine ⟨trivial, fun hle2 => ?_, fun d2 hd2 => ?_⟩
        case refine_2 =>
          obtain ⟨hj2, rfl⟩ := rng_get.mp hd2
          have hj2 : j < 4 := hj2
          walk_at "rd"
          refine ⟨k, 5, _, rfl, by decide, by decide, G5.2.1, by omega, fun w M4 w0 w1 g4 => ?_⟩
          dsimp only
          refine ⟨by rw [List.length_map]; omega, by omega, (G5.trans g4).le (by omega), ys ++ [w - 2], ?_, ?_, ?_⟩
          · rw [List.map_append]; rfl
          · rw [List.length_append]; simp [hl2]
          · intro x hx'
            rcases List.mem_append.mp hx' with h | h
            · exact hy x h
            · rw [List.mem_singleton] at h
              subst h
              exact Bi.of_abs 2 (by omega) (by decide)
        case refine_1 =>
          rw [if_neg Bool.false_ne_true]
          have hle2 : 4 ≤ j := hle2
          have h3 : ys.length = 4 := by omega
          obtain ⟨y0, y1, y2, y3, rfl⟩ : ∃ a b c d, ys = [a, b, c, d] := by
            match ys, h3 with
            | [a, b, c, d], _ => exact ⟨a, b, c, d, rfl⟩
          refine ⟨by rw [List.length_map]; omega, by omega, G5.le (by omega), xs ++ [⟨y0, y1, y2, y3⟩], ?_, by rw [List.length_append, hl]; rfl, ?_⟩
          · rw [List.map_append]; rfl
          · intro x hx'
            rcases List.mem_append.mp hx' with h | h
            · exact hx x h
            · rw [List.mem_singleton] at h
              subst h
              exact ⟨hy _ (by simp), hy _ (by simp), hy _ (by simp), hy _ (by simp)⟩
      case refine_1 =>
        rw [if_neg Bool.false_ne_true]
        have hle : 4 ≤ i := hle
        have h3 : xs.length = 4 := by omega
        obtain ⟨y0, y1, y2, y3, rfl⟩ : ∃ a b c d, xs = [a, b, c, d] := by
          match xs, h3 with
          | [a, b, c, d], _ => exact ⟨a, b, c, d, rfl⟩
        replace st := (st.gst G4).le (show _ ≤ n + 6000 by omega)
        replace cT := cT.gst kN G4
        obtain ⟨X, hX⟩ : ∃ X : DL.M4, X = ⟨y0, y1, y2, y3⟩ := ⟨_, rfl⟩
        have bX : X.bi 3 := by rw [hX]; exact ⟨hx _ (by simp), hx _ (by simp), hx _ (by simp), hx _ (by simp)⟩
        rw [show D.lst (List.map V4.D [y0, y1, y2, y3]) = X.D by rw [hX]; rfl]
        dsimp only
        rw [← hB]
        clear hB B hx hX y0 y1 y2 y3 h3 hle hl hi G4 stn
        refine dSeq_open fun B hB => ?_
        walk_at "rd"
        rw [atI4 lo4, get4D lo4]
        dsimp only
        refine gList_V ?_
        refine lcW_idx (ys := [A.b.D, A.c.D, A.d.D]) rfl trivial (by rw [sizeLine_eq]; exact Nat.le_of_ble_eq_true rfl) (fun j d w hd hw Z N' hz => ?_) ?_
        · rcases (by have := (List.getElem?_eq_some_iff.mp hw).1; simp only [List.length_cons, List.length_nil] at this; omega : j = 0 ∨ j = 1 ∨ j = 2) with rfl | rfl | rfl <;> (cases hd; cases hw; exact hz)
        refine ⟨by exact (by decide : (4 : Nat) ≤ 16777216), ?_⟩
        rw [← hB]
        clear hB B
        refine dSeq_open fun B hB => ?_
        walk_at "rd"
        refine lcW_idx (ys := [A.dbl.a.D, A.dbl.b.D, A.dbl.c.D, A.dbl.d.D]) rfl trivial (by rw [sizeLine_eq]; exact Nat.le_of_ble_eq_true rfl) (fun j d w hd hw Z N' hz => ?_) ?_
        · have hj : j < 4 := (List.getElem?_eq_some_iff.mp hw).1
          rw [get4D hj] at hd hw
          cases hd
          cases hw
          rw [DL.M4.dbl_get A hj] at hz
          have bv := bA.get j
          generalize A.get j = v at hz bv ⊢
          show lcW false [D.int v.a, .int v.b, .int v.c, .int v.d] (fun _ => True) _ _ _ _ _ _
          refine lcW_idx (ys := [.int (2 * v.a), .int (2 * v.b), .int (2 * v.c), .int (2 * v.d)]) rfl trivial (by rw [sizeLine_eq]; exact Nat.le_of_ble_eq_true rfl) (fun j d y hd hy Z' N' hz' => ?_) hz
          have s2 := (Bi.of_abs (n := 2) (i := 2) 2 (by decide) (by decide)).sm
          have hj : j < 4 := (List.getElem?_eq_some_iff.mp hy).1
          rcases (by omega : j = 0 ∨ j = 1 ∨ j = 2 ∨ j = 3) with rfl | rfl | rfl | rfl <;> (cases hd; cases hy)
          · exact ⟨⟨s2, bv.a.sm⟩, hz'⟩
          · exact ⟨⟨s2, bv.b.sm⟩, hz'⟩
          · exact ⟨⟨s2, bv.c.sm⟩, hz'⟩
          · exact ⟨⟨s2, bv.d.sm⟩, hz'⟩
        rw [← hB]
        clear hB B
        refine dSeq_open fun B hB => ?_
        walk_at "rd"
        refine lcW_idx (ys := [A.opp.a.D, A.opp.b.D, A.opp.c.D, A.opp.d.D]) rfl trivial (by rw [sizeLine_eq]; exact Nat.le_of_ble_eq_true rfl) (fun j d w hd hw Z N' hz => ?_) ?_
        · have hj : j < 4 := (List.getElem?_eq_some_iff.mp hw).1
          rw [get4D hj] at hd hw
          cases hd
          cases hw
          rw [DL.M4.opp_get A hj] at hz
          generalize A.get j = v at hz ⊢
          show lcW false [D.int v.a, .int v.b, .int v.c, .int v.d] (fun _ => True) _ _ _ _ _ _
          refine lcW_idx (ys := [.int (0 - v.a), .int (0 - v.b), .int (0 - v.c), .int (0 - v.d)]) rfl trivial (by rw [sizeLine_eq]; exact Nat.le_of_ble_eq_true rfl) (fun j d y hd hy Z' N' hz' => ?_) hz
          have hj : j < 4 := (List.getElem?_eq_some_iff.mp hy).1
          rcases (by omega : j = 0 ∨ j = 1 ∨ j = 2 ∨ j = 3) with rfl | rfl | rfl | rfl <;> (cases hd; cases hy; exact ⟨trivial, hz'⟩)
        rw [← hB]
        clear hB B
        refine dSeq_open fun B hB => ?_
        walk_at "rd"
        refine gList_V (gList_V ?_)
        rw [show cutD [A.a.D, A.b.D, A.c.D, A.d.D] (some 2) none = [A.c.D, A.d.D] from rfl]
        refine lcW_idx (ys := [A.c.D, A.d.D]) rfl trivial (by rw [sizeLine_eq]; exact Nat.le_of_ble_eq_true rfl) (fun j d w hd hw Z N' hz => ?_) ?_
        · rcases (by have := (List.getElem?_eq_some_iff.mp hw).1; simp only [List.length_cons, List.length_nil] at this; omega : j = 0 ∨ j = 1) with rfl | rfl <;> (cases hd; cases hw; exact hz)
        refine ⟨by exact (by decide : (4 : Nat) ≤ 16777216), ?_⟩
        rw [← hB]
        clear hB B
        refine dSeq_open fun B hB => ?_
        walk_at "rd"
        refine ⟨by unfold Rg; decide, ?_⟩
        refine lcW_idx (ys := [(.lst [.int 0, .int 0, .int 0, .int 0]), (.lst [.int 0, .int 0, .int 0, .int 0]), (.lst [.int 0, .int 0, .int 0, .int 0]), (.lst [.int 0, .int 0, .int 0, .int 0])]) (by rfl) trivial (by rw [sizeLine_eq]; exact Nat.le_of_ble_eq_true rfl) (fun j d w hd hw Z N' hz => ?_) ?_
        · have hj : j < 4 := (List.getElem?_eq_some_iff.mp hw).1
          rcases (by omega : j = 0 ∨ j = 1 ∨ j = 2 ∨ j = 3) with rfl | rfl | rfl | rfl <;> (cases hd; cases hw; exact ⟨by rw [sizeLine_eq]; exact Nat.le_of_ble_eq_true rfl, ⟨by decide, by decide, by rw [sizeLine_eq]; decide⟩, hz⟩)
        rw [← hB]
        clear hB B
        refine dSeq_open fun B hB => ?_
        walk_at "rd"
        refine ⟨_, A, rfl, TabR.pure _ A, ?_⟩
        have hT := cT.tab
        obtain ⟨Z0, hZ0⟩ : ∃ Z0 : D, Z0 = D.lst [D.lst [D.int 0, D.int 0, D.int 0, D.int 0], D.lst [D.int 0, D.int 0, D.int 0, D.int 0], D.lst [D.int 0, D.int 0, D.int 0, D.int 0], D.lst [D.int 0, D.int 0, D.int 0, D.int 0]] := ⟨_, rfl⟩
        have eZ0 : Z0 = (⟨⟨0, 0, 0, 0⟩, ⟨0, 0, 0, 0⟩, ⟨0, 0, 0, 0⟩, ⟨0, 0, 0, 0⟩⟩ : DL.M4).D := hZ0
        have bZ : Bi 90 0 := Bi.of_abs 0 (by decide) (by decide)
        rw [← hZ0]
        have hL : ∀ d ∈ [A.D, F.D, D.own (N + 4), X.D, D.lst [(A.get lo).D, A.b.D, A.c.D, A.d.D], D.lst [A.dbl.a.D, A.dbl.b.D, A.dbl.c.D, A.dbl.d.D], D.lst [A.opp.a.D, A.opp.b.D, A.opp.c.D, A.opp.d.D], D.lst [A.b.D, A.a.D, A.c.D, A.d.D], A.T.D, Z0], (∃ A' : DL.M4, d = A'.D ∧ A'.bi 90) ∨ d = .own (N + 4) := by
          intro d hd
          simp only [List.mem_cons, List.not_mem_nil, or_false] at hd
          rcases hd with rfl | rfl | rfl | rfl | rfl | rfl | rfl | rfl | rfl | rfl
          · exact .inl ⟨A, rfl, bA.up (by decide)⟩
          · exact .inl ⟨F, rfl, bF.up (by decide)⟩
          · exact .inr rfl
          · exact .inl ⟨X, rfl, bX.up (by decide)⟩
          · exact .inl ⟨⟨A.get lo, A.b, A.c, A.d⟩, rfl, DL.M4.bi.up ⟨bA.get lo, bA.b, bA.c, bA.d⟩ (by decide)⟩
          · exact .inl ⟨A.dbl, rfl, bA.dbl.up (by decide)⟩
          · exact .inl ⟨A.opp, rfl, bA.opp.up (by decide)⟩
          · exact .inl ⟨⟨A.b, A.a, A.c, A.d⟩, rfl, DL.M4.bi.up ⟨bA.b, bA.a, bA.c, bA.d⟩ (by decide)⟩
          · exact .inl ⟨A.T, rfl, bA.T.up (by decide)⟩
          · exact .inl ⟨_, eZ0, ⟨⟨bZ, bZ, bZ, bZ⟩, ⟨bZ, bZ, bZ, bZ⟩, ⟨bZ, bZ, bZ, bZ⟩, ⟨bZ, bZ, bZ, bZ⟩⟩⟩
        dsimp only
        generalize [A.D, F.D, D.own (N + 4), X.D, D.lst [(A.get lo).D, A.b.D, A.c.D, A.d.D], D.lst [A.dbl.a.D, A.dbl.b.D, A.dbl.c.D, A.dbl.d.D], D.lst [A.opp.a.D, A.opp.b.D, A.opp.c.D, A.opp.d.D], D.lst [A.b.D, A.a.D, A.c.D, A.d.D], A.T.D, Z0] = L at hL ⊢
        generalize D.lst [(A.get lo).D, A.b.D, A.c.D, A.d.D] = e12
        generalize D.lst [A.dbl.a.D, A.dbl.b.D, A.dbl.c.D, A.dbl.d.D] = e13
        generalize D.lst [A.opp.a.D, A.opp.b.D, A.opp.c.D, A.opp.d.D] = e15
        generalize D.lst [A.b.D, A.a.D, A.c.D, A.d.D] = e16
        clear hZ0 eZ0 bZ cT
        refine ⟨fun i r M2 => ∃ u18 : Option D, r = [some (.own k), some A.D, some (.own M.length), u3, some F.D, some V.D, some (.int (lo : Int)), some (.int (hi' : Int)), some (.own (N + 4)), none, some X.D, none, some e12, some e13, none, some e15, some e16, some Z0, u18, none, none, none] ∧ Std k (n + 6000) M M2 ∧ TabR M2 (.own (N + 4)) H, ⟨none, rfl, st, hT⟩, ?_⟩
        clear st hT
        rintro i r M5 ⟨u18, rfl, st, hT⟩
        refine ⟨trivial, fun hle => ?_, fun d hd => ?_⟩
        case refine_2 =>
          clear hB
          obtain ⟨A', hA', bA'⟩ : ∃ A', TabR M5 d A' ∧ DL.M4.bi 90 A' := by
            rcases hL d (List.mem_of_getElem? hd) with ⟨A', rfl, b⟩ | rfl
            · exact ⟨A', TabR.pure _ A', b⟩
            · exact ⟨H, hT, bH.up (by decide)⟩
          have bA'9 : A'.bi 90000 := bA'.up (by decide)
          have bX9 : X.bi 90000 := bX.up (by decide)
          have bV9 : V.bi 90000 := bV.up (by decide)
          refine dSeq_open fun B' hB' => ?_
          walk_at "rd"
          refine ⟨d, A', rfl, hA', bA'.up (by decide), fun M6 g6 => ?_⟩
          replace st := st.grown g6
          replace hT := g6.tab hT
          replace hA' := g6.tab hA'
          dsimp only
          rw [if_neg (by decide), ← hB']
          clear hB' B' g6
          walk_at "rd"
          refine ⟨_, _, A', V, rfl, hA', rfl, bA'9, bV9, fun M7 K7 g7 k7 c7 => ?_⟩
          replace st := st.grown g7
          replace hT := g7.tab hT
          replace hA' := g7.tab hA'
          refine ⟨_, _, A', V, rfl, hA', rfl, bA'9, bV9, ?_⟩
          refine gNeE_res (d := (A'.led V).D) (n := 2) (rowO_resE c7) rfl rfl ?_
          clear c7 g7 k7
          dsimp only
          rw [if_neg (by decide)]
          refine ⟨_, _, A', H, rfl, hA', hT, bA'9, bH9, fun M8 d8 g8 t8 => ?_⟩
          replace st := st.grown g8
          replace hT := g8.tab hT
          replace hA' := g8.tab hA'
          refine ⟨_, _, A', H, rfl, hA', hT, bA'9, bH9, ?_⟩
          refine gNeE_res (d := (A'.mul H).D) (n := 3) t8.tab.resE (TabR.pure _ (A'.mul H)).resE rfl ?_
          clear t8 g8
          dsimp only
          rw [if_neg (by decide)]
          refine ⟨_, _, X, A', rfl, TabR.pure _ X, hA', bX9, bA'9, fun M9 d9 g9 t9 => ?_⟩
          replace st := st.grown g9
          replace hT := g9.tab hT
          replace hA' := g9.tab hA'
          refine ⟨_, _, X, A', rfl, TabR.pure _ X, hA', bX9, bA'9, ?_⟩
          refine gNeE_res (d := (X.mul A').D) (n := 3) t9.tab.resE (TabR.pure _ (X.mul A')).resE rfl ?_
          dsimp only
          rw [if_neg (by decide)]
          exact ⟨_, rfl, st, hT⟩
        case refine_1 =>
          clear hL hle hT
          dsimp only
          rw [← hB]
          clear hB B
          have bV9 : V.bi 90000 := bV.up (by decide)
          have b19 : DL.M4.one.bi 90000 := one_bi (by decide)
          refine dSeq_open fun B hB => ?_
          walk_at "rd"
          refine ⟨rfl, _, _, DL.M4.one, V, rfl, TabR.pure _ DL.M4.one, rfl, b19, bV9, fun M6 K6 g6 k6 c6 => ?_⟩
          have l5 := st.len
          replace st := st.grown g6
          have l6 := st.len
          refine ⟨rfl, _, _, DL.M4.one, A, rfl, TabR.pure _ DL.M4.one, TabR.pure _ A, b19, bA9, fun M7 d7 g7 t7 => ?_⟩
          replace st := st.grown g7
          have l7 := st.len
          refine ⟨rfl, _, _, A, DL.M4.one, rfl, TabR.pure _ A, TabR.pure _ DL.M4.one, bA9, b19, fun M8 d8 g8 t8 => ?_⟩
          replace st := st.grown g8
          obtain ⟨z, hz⟩ := shown_VA (bV.up (by decide) : V.bi 700) (bA.up (by decide) : A.bi 700)
          obtain ⟨Ka, a0, a1, a2, a3, rfl, hca, hcs⟩ := t7.cells
          obtain ⟨Kb, b0, b1, b2, b3, rfl, hcb, hds⟩ := t8.cells
          have hcells : ∀ c ∈ [K6, Ka, Kb, a0, a1, a2, a3, b0, b1, b2, b3], M.length ≤ c ∧ ∃ l, M8[c]? = some (.lst l) ∧ l.length ≤ 4 := by
            intro c hc
            have hc : c = K6 ∨ c ∈ [Ka, a0, a1, a2, a3] ∨ c ∈ [Kb, b0, b1, b2, b3] := by
              simp only [List.mem_cons, List.not_mem_nil, or_false] at hc ⊢
              rcases hc with h | h | h | h | h | h | h | h | h | h | h <;> simp [h]
            rcases hc with rfl | h | h
            · exact ⟨by omega, _, g8.get (g7.get c6), Nat.le_refl _⟩
            · obtain ⟨h1, l, h2, h3⟩ := hcs c h
              exact ⟨by omega, l, g8.get h2, h3⟩
            · obtain ⟨h1, l, h2, h3⟩ := hds c h
              exact ⟨by omega, l, h2, h3⟩
          have hca : M8[Ka]? = some (.lst [.own a0, .own a1, .own a2, .own a3]) := by
            exact g8.get hca
          dsimp only
          rw [← hB]
          clear hB B g6 k6 c6 g7 t7 g8 t8 hcs hds
          refine dSeq_open fun B hB => ?_
          walk_at "rd"
          refine gReprE_res (x := .lst [V.D, A.D]) rfl hz ?_
          rw [← hB]
          clear hB B
          refine dSeq_open fun B hB => ?_
          walk_at "rd"
          rw [hca]
          refine ⟨by exact (by decide : (7 : Nat) ≤ 16777216), ?_⟩
          rw [hcb]
          refine ⟨by exact (by decide : (11 : Nat) ≤ 16777216), ?_⟩
          refine ⟨fun i r M9 => i ≤ 11 ∧ ∃ u21 : Option D, r = [some (.own k), some A.D, some (.own M.length), u3, some F.D, some V.D, some (.int (lo : Int)), some (.int (hi' : Int)), some (.own (N + 4)), none, some X.D, none, some e12, some e13, none, some e15, some e16, some Z0, u18, some (.lst [.own K6, .own Ka, .own Kb]), some (.str z), u21] ∧ Std k (n + 6000) M M9 ∧ ∀ c ∈ [K6, Ka, Kb, a0, a1, a2, a3, b0, b1, b2, b3], M.length ≤ c ∧ ∃ l, M9[c]? = some (.lst l) ∧ l.length ≤ 4 + i, ⟨by decide, none, rfl, st, hcells⟩, ?_⟩
          clear st hcells hca hcb
          rintro i r M9 ⟨hi, u21, rfl, st, hcells⟩
          refine ⟨trivial, fun hle => ?_, fun d hd => ?_⟩
          case refine_2 =>
            obtain ⟨c, rfl, hc⟩ : ∃ c, d = .own c ∧ c ∈ [K6, Ka, Kb, a0, a1, a2, a3, b0, b1, b2, b3] := by
              have h := List.mem_of_getElem? hd
              simp only [List.mem_cons, List.mem_append, List.cons_append, List.nil_append, List.not_mem_nil, or_false] at h
              rcases h with h | h | h | h | h | h | h | h | h | h | h <;> exact ⟨_, h, by simp⟩
            have hi2 : i < 11 := (List.getElem?_eq_some_iff.mp hd).1
            obtain ⟨h1, l, h2, h3⟩ := hcells c hc
            walk_at "rd"
            refine ⟨⟨_, _, rfl, h2⟩, ?_⟩
            rw [h2]
            refine ⟨by omega, by omega, _, rfl, st.set h1, fun c' hc' => ?_⟩
            obtain ⟨h4, l', h5, h6⟩ := hcells c' hc'
            refine ⟨h4, ?_⟩
            by_cases e : c' = c
            · subst e
              rw [List.getElem?_set_self (List.getElem?_eq_some_iff.mp h2).1]
              exact ⟨_, rfl, by rw [List.length_append]; simp; omega⟩
            · rw [List.getElem?_set_ne (by omega)]
              exact ⟨l', h5, by omega⟩
          case refine_1 =>
            dsimp only
            rw [← hB]
            clear hB B
            walk_at "rd"
            refine gReprE_res (x := .lst [V.D, A.D]) rfl hz (gEqE_strs ?_)
            exact st.rtq (fun M' _ => fq M') (fun _ => rfl)
/-! ### the law -/
def mTwo : M4 := ⟨⟨2, 0, 0, 0⟩, ⟨0, 1, 0, 0⟩, ⟨0, 0, 1, 0⟩, ⟨0, 0, 0, 1⟩⟩
theorem two_bi : mTwo.bi 90000 := by
  have b : ∀ x : Int, x.natAbs ≤ 2 → Bi 90000 x := fun x h => (Bi.of_abs (n := 2) 2 h (by decide)).up (by decide)
  exact ⟨⟨b _ (by decide), b _ (by decide), b _ (by decide), b _ (by decide)⟩, ⟨b _ (by decide), b _ (by decide), b _ (by decide), b _ (by decide)⟩, ⟨b _ (by decide), b _ (by decide), b _ (by decide), b _ (by decide)⟩, ⟨b _ (by decide), b _ (by decide), b _ (by decide), b _ (by decide)⟩⟩
theorem mTwo_not : ¬ Keeps mTwo := fun h => by
  have h1 := h 0 (by decide) 1 (by decide)
  revert h1
  decide
theorem rd_l_law_de6b : ∀ ds M Q, ds.length = 1 → spLaw ds M Q DX0 → t_l_law_de6b sp_right43 sp_generator sp_lkeeps sp_tback sp_lself (dEnds M Q) (startD 2 ds) M := by
  rintro _ _ Q - ⟨rfl, ⟨ns, rfl⟩, q⟩
  have fin : ∀ M2, Rtq [] Q (.bl true) M2 := fun M2 => ⟨[], M2, rfl, Nat.zero_le _, rfl, fun i c h => by simp at h, q⟩
  unfold t_l_law_de6b
  refine dSeq_open fun B hB => ?_
  walk_at "rd"
  refine ⟨⟨by decide, by decide⟩, ?_⟩
  refine ⟨fun i r M' => ∃ a1, r = [some (.scr ns), a1], ⟨_, rfl⟩, ?_⟩
  rintro i r M1 ⟨a1, rfl⟩
  refine ⟨trivial, fun hl => ?_, fun d hd => ?_⟩
  · dsimp only
    rw [← hB]
    clear hB B
    walk_at "rd"
    refine ⟨_, mTwo, rfl, TabR.pure _ mTwo, two_bi, fun v hv => ?_⟩
    cases v with
    | true => exact absurd (hv.mp rfl) mTwo_not
    | false =>
      refine ⟨rfl, ?_⟩
      refine ⟨_, DL.M4.one, rfl, TabR.pure _ DL.M4.one, one_bi (by decide), keeps_one, fun M2 d2 g2 t2 => ?_⟩
      refine ⟨rfl, ?_⟩
      exact gEqE_res (d := DL.M4.one.D) (n := 3) (by rw [show DL.M4.one = bkM DL.M4.one from by decide]; exact t2.tab.resE) rfl rfl (fin _) (by decide)
  · obtain ⟨hi2, rfl⟩ := rng_get.mp hd
    have hi2 : i < 2 := hi2
    walk_at "rd"
    refine ⟨ns, _, rfl, by omega, by unfold P31; omega, fun M2 hl hg hk => ?_⟩
    dsimp only
    refine ⟨_, _, rfl, hg, by unfold P40; omega, fun M3 => ?_⟩
    dsimp only
    rw [if_neg (by decide)]
    exact ⟨_, rfl⟩
end DL
namespace C_k43
open PySem PySem.Spec PyProof.Rows L2 DL
theorem law_ok {P : Program} {w : World} {K : PySem.W.Frag} {mg : Str → Option Value} {base : Heap} (T : Txt P K mg base) : Def P w K mg base CX0 8 "law" s_l_law_de6b ["_law_script"] spLaw := by
  have D_l_base_3ec4 := ok_l_base_3ec4 (P := P) (w := w) T  rd_l_base_3ec4
  have D_l_self_a3eb := ok_l_self_a3eb (P := P) (w := w) T D_l_base_3ec4 rd_l_self_a3eb
  have D_l_hash_d8d1 := ok_l_hash_d8d1 (P := P) (w := w) T  rd_l_hash_d8d1
  have D_l_random_7821 := ok_l_random_7821 (P := P) (w := w) T D_l_hash_d8d1 rd_l_random_7821
  have D_l_stepped_3049 := ok_l_stepped_3049 (P := P) (w := w) T D_l_random_7821 rd_l_stepped_3049
  have D_is_whole := ok_is_whole (P := P) (w := w) T  rd_is_whole
  have D_is_path_list := ok_is_path_list (P := P) (w := w) T D_is_whole rd_is_path_list
  have D_check_table_x := ok_check_table_x (P := P) (w := w) T D_is_path_list rd_check_table_x
  have D_turned_about_o := ok_turned_about_o (P := P) (w := w) T  rd_turned_about_o
  have D_path_led := ok_path_led (P := P) (w := w) T  rd_path_led
  have D_table_times_o := ok_table_times_o (P := P) (w := w) T D_turned_about_o D_path_led rd_table_times_o
  have D_table_product_o_x := ok_table_product_o_x (P := P) (w := w) T D_check_table_x D_table_times_o rd_table_product_o_x
  have D_table_product_o := D_table_product_o_x.weak wk_table_product_o
  have D_l_columns_d906 := ok_l_columns_d906 (P := P) (w := w) T  rd_l_columns_d906
  have D_l_led_ea66 := ok_l_led_ea66 (P := P) (w := w) T  rd_l_led_ea66
  have D_l_product_3b0c := ok_l_product_3b0c (P := P) (w := w) T D_l_columns_d906 D_l_led_ea66 rd_l_product_3b0c
  have D_l_path_108b := ok_l_path_108b (P := P) (w := w) T D_l_random_7821 rd_l_path_108b
  have D_check_path_x := ok_check_path_x (P := P) (w := w) T D_is_path_list rd_check_path_x
  have D_path_led_o := ok_path_led_o (P := P) (w := w) T  rd_path_led_o
  have D_led_path_o_x := ok_led_path_o_x (P := P) (w := w) T D_check_table_x D_check_path_x D_path_led_o rd_led_path_o_x
  have D_led_path_o := D_led_path_o_x.weak wk_led_path_o
  have D_l_crossing_3f18 := ok_l_crossing_3f18 (P := P) (w := w) T  rd_l_crossing_3f18
  have D_l_keeps_2d4c := ok_l_keeps_2d4c (P := P) (w := w) T D_l_columns_d906 D_l_crossing_3f18 D_l_base_3ec4 rd_l_keeps_2d4c
  have D_crossing_by := ok_crossing_by (P := P) (w := w) T  rd_crossing_byS
  have D_keeps_by := ok_keeps_by (P := P) (w := w) T D_turned_about_o D_crossing_by rd_keeps_by
  have D_keeps_crossings_x := ok_keeps_crossings_x (P := P) (w := w) T D_check_table_x D_keeps_by rd_keeps_crossings_x
  have D_keeps_crossings := D_keeps_crossings_x.weak wk_keeps_crossings
  have D_back_of_o := ok_back_of_o (P := P) (w := w) T  rd_back_of_o
  have D_table_back_o_x := ok_table_back_o_x (P := P) (w := w) T D_check_table_x D_keeps_by D_back_of_o rd_table_back_o_x
  have D_table_back_o := D_table_back_o_x.weak wk_table_back_o
  have D_l_refused_c25c := ok_l_refused_c25c (P := P) (w := w) T D_table_back_o_x rd_l_refused_c25c
  have D_l_back_51d9 := ok_l_back_51d9 (P := P) (w := w) T D_l_columns_d906 D_l_crossing_3f18 D_l_base_3ec4 rd_l_back_51d9
  have D_l_one_right_7eef := ok_l_one_right_7eef (P := P) (w := w) T D_l_keeps_2d4c D_keeps_crossings D_l_refused_c25c D_table_back_o D_l_back_51d9 D_l_product_3b0c D_l_self_a3eb rd_l_one_right_7eef
  have D_l_right_b49f := ok_l_right_b49f (P := P) (w := w) T D_l_self_a3eb D_l_random_7821 D_l_stepped_3049 D_table_product_o D_l_product_3b0c D_l_path_108b D_led_path_o D_l_led_ea66 D_l_columns_d906 D_l_one_right_7eef rd_l_right_b49f
  have D_l_cell_cf3b := ok_l_cell_cf3b (P := P) (w := w) T  rd_l_cell_cf3b
  have D_l_generator_b324 := ok_l_generator_b324 (P := P) (w := w) T D_l_cell_cf3b rd_l_generator_b324
  exact ok_l_law_de6b T D_l_right_b49f D_l_generator_b324 D_keeps_crossings D_table_back_o D_l_self_a3eb rd_l_law_de6b
end C_k43
/-! XH: what super().__init__ means, from the class's own line -/
namespace XA
open PySem PySem.W PySem.Calls PyProof.Rows PySem.HandSPX
theorem sup_of {K : Frag} {x : Str} {C S N : Addr} {q : Str} {bs : List Value} {sn : List Str} {sub : List Value} {ab : Bool} {col : Option Bool} {dd : Option Addr} {k0 k1 k2 k3 k5 : Option Value} {n : String}
    (lk : K.lookup C = some (excClassObj x q C N bs [.ref S, .type "ValueError", .type "Exception", .type "BaseException", .type "object"] true sn sub ab col dd k0 k1 k2 k3 k5 n))
    (sp : ks_superIn K C C "__init__" = some (some (.builtin "ValueError.__init__"))) : alongIn K "__init__" [.ref S, .type "ValueError", .type "Exception", .type "BaseException", .type "object"] = some (some (.builtin "ValueError.__init__")) := by
  have h1 : ∃ cd, PySem.W.clsIn K C = some cd ∧ cd.mro = .ref C :: [.ref S, .type "ValueError", .type "Exception", .type "BaseException", .type "object"] := ⟨_, by unfold PySem.W.clsIn; rw [lk], rfl⟩
  obtain ⟨cd, h1, h2⟩ := h1
  unfold ks_superIn at sp
  rw [h1, Option.bind_some, h2] at sp
  simpa using sp
end XA
namespace C_k43
open PySem PySem.Spec PyProof.Rows L2 DL
theorem all_mk {K : PySem.W.Frag} {h : Heap} {mg : Str → Option Value} (X : K.In h) (G : h.Ns mainGlobals mg)
    (n_bool : PySem.W.nsIn K mainGlobals "bool" = some none)
    (n_enumerate : PySem.W.nsIn K mainGlobals "enumerate" = some none)
    (n_int : PySem.W.nsIn K mainGlobals "int" = some none)
    (n_isinstance : PySem.W.nsIn K mainGlobals "isinstance" = some none)
    (n_len : PySem.W.nsIn K mainGlobals "len" = some none)
    (n_list : PySem.W.nsIn K mainGlobals "list" = some none)
    (n_max : PySem.W.nsIn K mainGlobals "max" = some none)
    (n_range : PySem.W.nsIn K mainGlobals "range" = some none)
    (n_repr : PySem.W.nsIn K mainGlobals "repr" = some none)
    (n_sum : PySem.W.nsIn K mainGlobals "sum" = some none)
    (n_zip : PySem.W.nsIn K mainGlobals "zip" = some none)
    {ct_SELF_0_0 : Tok}
    {ct_SELF_0_1 : Tok}
    {ct_SELF_0_2 : Tok}
    {ct_SELF_0_3 : Tok}
    {ca_SELF_0 : Addr} {cd_SELF_0 : Option Addr} {cn_SELF_0 : Nat} {cs_SELF_0 : Array (Option Value)} (cl_SELF_0 : K.lookup ca_SELF_0 = some ⟨.type "tuple", cd_SELF_0, .seq #[.int 1 ct_SELF_0_0, .int 0 ct_SELF_0_1, .int 0 ct_SELF_0_2, .int 0 ct_SELF_0_3] cn_SELF_0, cs_SELF_0⟩)
    {ct_SELF_1_0 : Tok}
    {ct_SELF_1_1 : Tok}
    {ct_SELF_1_2 : Tok}
    {ct_SELF_1_3 : Tok}
    {ca_SELF_1 : Addr} {cd_SELF_1 : Option Addr} {cn_SELF_1 : Nat} {cs_SELF_1 : Array (Option Value)} (cl_SELF_1 : K.lookup ca_SELF_1 = some ⟨.type "tuple", cd_SELF_1, .seq #[.int 0 ct_SELF_1_0, .int 1 ct_SELF_1_1, .int 0 ct_SELF_1_2, .int 0 ct_SELF_1_3] cn_SELF_1, cs_SELF_1⟩)
    {ct_SELF_2_0 : Tok}
    {ct_SELF_2_1 : Tok}
    {ct_SELF_2_2 : Tok}
    {ct_SELF_2_3 : Tok}
    {ca_SELF_2 : Addr} {cd_SELF_2 : Option Addr} {cn_SELF_2 : Nat} {cs_SELF_2 : Array (Option Value)} (cl_SELF_2 : K.lookup ca_SELF_2 = some ⟨.type "tuple", cd_SELF_2, .seq #[.int 0 ct_SELF_2_0, .int 0 ct_SELF_2_1, .int 1 ct_SELF_2_2, .int 0 ct_SELF_2_3] cn_SELF_2, cs_SELF_2⟩)
    {ct_SELF_3_0 : Tok}
    {ct_SELF_3_1 : Tok}
    {ct_SELF_3_2 : Tok}
    {ct_SELF_3_3 : Tok}
    {ca_SELF_3 : Addr} {cd_SELF_3 : Option Addr} {cn_SELF_3 : Nat} {cs_SELF_3 : Array (Option Value)} (cl_SELF_3 : K.lookup ca_SELF_3 = some ⟨.type "tuple", cd_SELF_3, .seq #[.int 0 ct_SELF_3_0, .int 0 ct_SELF_3_1, .int 0 ct_SELF_3_2, .int 1 ct_SELF_3_3] cn_SELF_3, cs_SELF_3⟩)
    {ca_SELF : Addr} {cd_SELF : Option Addr} {cn_SELF : Nat} {cs_SELF : Array (Option Value)} (cl_SELF : K.lookup ca_SELF = some ⟨.type "tuple", cd_SELF, .seq #[.ref ca_SELF_0, .ref ca_SELF_1, .ref ca_SELF_2, .ref ca_SELF_3] cn_SELF, cs_SELF⟩)
    (c_SELF : PySem.W.nsIn K mainGlobals "SELF" = some (some (.ref ca_SELF)))
    {cS nS : Addr} {qS : Str} {bS : List Value} {snS : List Str} {suS : List Value} {abS : Bool} {coS : Option Bool} {ddS : Option Addr} {k0S k1S k2S k3S k5S : Option Value}
    (ns_S : PySem.W.nsIn K mainGlobals "SheetError" = some (some (.ref cS))) (lk_S : K.lookup cS = some (excClassObj "SheetError" qS cS nS bS [.type "ValueError", .type "Exception", .type "BaseException", .type "object"] true snS suS abS coS ddS k0S k1S k2S k3S k5S "ValueError.__new__"))
    (gs_S : PySem.W.specialIn K (.builtin "object.__class__") "__get__" = some (some (.builtin "getset_descriptor.__get__"))) (tk_S : PySem.W.takesIn K (.builtin "object.__class__") = some true)
    (any_S : PySem.W.nsIn K PySem.cStatics "thirdparty.any" = some none) (msup_S : PySem.W.nsIn K mainGlobals "super" = some none)
    {c_InvalidList f_InvalidList n_InvalidList cda_InvalidList cc_InvalidList td_InvalidList : Addr} {q_InvalidList : Str} {b_InvalidList : List Value} {sn_InvalidList : List Str} {su_InvalidList : List Value} {ab_InvalidList : Bool} {co_InvalidList : Option Bool} {dd_InvalidList : Option Addr} {k0_InvalidList k1_InvalidList k2_InvalidList k3_InvalidList k5_InvalidList : Option Value} {od_InvalidList an_InvalidList : Option Addr} {kV_InvalidList dc_InvalidList pm_InvalidList ct_InvalidList : Value} {osl_InvalidList : Array (Option Value)} {c1_InvalidList c2_InvalidList c3_InvalidList : Value} {d1_InvalidList d2_InvalidList d3_InvalidList : Option Addr} {sl1_InvalidList sl2_InvalidList sl3_InvalidList : Array (Option Value)} {tn_InvalidList : Nat} {vs_InvalidList : Array Value} {fi_InvalidList : Str} {tf_InvalidList : Tok}
    (ns_InvalidList : PySem.W.nsIn K mainGlobals "InvalidList" = some (some (.ref c_InvalidList))) (lk_InvalidList : K.lookup c_InvalidList = some (excClassObj "InvalidList" q_InvalidList c_InvalidList n_InvalidList b_InvalidList [.ref cS, .type "ValueError", .type "Exception", .type "BaseException", .type "object"] true sn_InvalidList su_InvalidList ab_InvalidList co_InvalidList dd_InvalidList k0_InvalidList k1_InvalidList k2_InvalidList k3_InvalidList k5_InvalidList "ValueError.__new__"))
    (sa_InvalidList : PySem.W.findIn K (.ref c_InvalidList) "__setattr__" = some (some (.builtin "object.__setattr__"))) (ga_InvalidList : PySem.W.findIn K (.ref c_InvalidList) "__getattribute__" = some (some (.builtin "BaseException.__getattribute__"))) (gg_InvalidList : PySem.W.findIn K (.ref c_InvalidList) "__getattr__" = some none)
    (nv_InvalidList : PySem.W.findIn K (.ref c_InvalidList) "value" = some none) (kp_InvalidList : PySem.W.keepIn K (.ref c_InvalidList) = true) (hc_InvalidList : PySem.W.findIn K (.ref c_InvalidList) "__class__" = some (some (.builtin "object.__class__"))) (iC_InvalidList : PySem.W.findIn K (.ref c_InvalidList) "__init__" = some (some (.ref f_InvalidList))) (sp_InvalidList : PySem.W.ks_superIn K c_InvalidList c_InvalidList "__init__" = some (some (.builtin "ValueError.__init__")))
    (lf_InvalidList : K.lookup f_InvalidList = some ⟨.type "function", od_InvalidList, .func (PySem.W.fnX "__init__" "InvalidList.__init__" (defArgs k_InvalidList) (defBody k_InvalidList) (defScope k_InvalidList) [("__class__", cc_InvalidList)] (.ref td_InvalidList) kV_InvalidList dc_InvalidList pm_InvalidList an_InvalidList (.ref cda_InvalidList) ct_InvalidList), osl_InvalidList⟩) (cd_InvalidList : PySem.W.codeIn K (.ref cda_InvalidList) "InvalidList.__init__" = true)
    (lc_InvalidList : K.lookup cc_InvalidList = some ⟨c1_InvalidList, d1_InvalidList, .cell (some (.ref c_InvalidList)), sl1_InvalidList⟩) (lt_InvalidList : K.lookup td_InvalidList = some ⟨c2_InvalidList, d2_InvalidList, .seq #[.none] tn_InvalidList, sl2_InvalidList⟩) (lv_InvalidList : K.lookup cda_InvalidList = some ⟨c3_InvalidList, d3_InvalidList, .fields vs_InvalidList, sl3_InvalidList⟩) (hv_InvalidList : vs_InvalidList[2]? = some (.str fi_InvalidList tf_InvalidList)) (hf_InvalidList : (((PySem.Challenge.pw_slitsheets_k43_tables_that_keep_crossing : Program).main.file : Str) == fi_InvalidList) = true)
    {c_InvalidTable f_InvalidTable n_InvalidTable cda_InvalidTable cc_InvalidTable td_InvalidTable : Addr} {q_InvalidTable : Str} {b_InvalidTable : List Value} {sn_InvalidTable : List Str} {su_InvalidTable : List Value} {ab_InvalidTable : Bool} {co_InvalidTable : Option Bool} {dd_InvalidTable : Option Addr} {k0_InvalidTable k1_InvalidTable k2_InvalidTable k3_InvalidTable k5_InvalidTable : Option Value} {od_InvalidTable an_InvalidTable : Option Addr} {kV_InvalidTable dc_InvalidTable pm_InvalidTable ct_InvalidTable : Value} {osl_InvalidTable : Array (Option Value)} {c1_InvalidTable c2_InvalidTable c3_InvalidTable : Value} {d1_InvalidTable d2_InvalidTable d3_InvalidTable : Option Addr} {sl1_InvalidTable sl2_InvalidTable sl3_InvalidTable : Array (Option Value)} {tn_InvalidTable : Nat} {vs_InvalidTable : Array Value} {fi_InvalidTable : Str} {tf_InvalidTable : Tok}
    (ns_InvalidTable : PySem.W.nsIn K mainGlobals "InvalidTable" = some (some (.ref c_InvalidTable))) (lk_InvalidTable : K.lookup c_InvalidTable = some (excClassObj "InvalidTable" q_InvalidTable c_InvalidTable n_InvalidTable b_InvalidTable [.ref cS, .type "ValueError", .type "Exception", .type "BaseException", .type "object"] true sn_InvalidTable su_InvalidTable ab_InvalidTable co_InvalidTable dd_InvalidTable k0_InvalidTable k1_InvalidTable k2_InvalidTable k3_InvalidTable k5_InvalidTable "ValueError.__new__"))
    (sa_InvalidTable : PySem.W.findIn K (.ref c_InvalidTable) "__setattr__" = some (some (.builtin "object.__setattr__"))) (ga_InvalidTable : PySem.W.findIn K (.ref c_InvalidTable) "__getattribute__" = some (some (.builtin "BaseException.__getattribute__"))) (gg_InvalidTable : PySem.W.findIn K (.ref c_InvalidTable) "__getattr__" = some none)
    (nv_InvalidTable : PySem.W.findIn K (.ref c_InvalidTable) "value" = some none) (kp_InvalidTable : PySem.W.keepIn K (.ref c_InvalidTable) = true) (hc_InvalidTable : PySem.W.findIn K (.ref c_InvalidTable) "__class__" = some (some (.builtin "object.__class__"))) (iC_InvalidTable : PySem.W.findIn K (.ref c_InvalidTable) "__init__" = some (some (.ref f_InvalidTable))) (sp_InvalidTable : PySem.W.ks_superIn K c_InvalidTable c_InvalidTable "__init__" = some (some (.builtin "ValueError.__init__")))
    (lf_InvalidTable : K.lookup f_InvalidTable = some ⟨.type "function", od_InvalidTable, .func (PySem.W.fnX "__init__" "InvalidTable.__init__" (defArgs k_InvalidTable) (defBody k_InvalidTable) (defScope k_InvalidTable) [("__class__", cc_InvalidTable)] (.ref td_InvalidTable) kV_InvalidTable dc_InvalidTable pm_InvalidTable an_InvalidTable (.ref cda_InvalidTable) ct_InvalidTable), osl_InvalidTable⟩) (cd_InvalidTable : PySem.W.codeIn K (.ref cda_InvalidTable) "InvalidTable.__init__" = true)
    (lc_InvalidTable : K.lookup cc_InvalidTable = some ⟨c1_InvalidTable, d1_InvalidTable, .cell (some (.ref c_InvalidTable)), sl1_InvalidTable⟩) (lt_InvalidTable : K.lookup td_InvalidTable = some ⟨c2_InvalidTable, d2_InvalidTable, .seq #[.none] tn_InvalidTable, sl2_InvalidTable⟩) (lv_InvalidTable : K.lookup cda_InvalidTable = some ⟨c3_InvalidTable, d3_InvalidTable, .fields vs_InvalidTable, sl3_InvalidTable⟩) (hv_InvalidTable : vs_InvalidTable[2]? = some (.str fi_InvalidTable tf_InvalidTable)) (hf_InvalidTable : (((PySem.Challenge.pw_slitsheets_k43_tables_that_keep_crossing : Program).main.file : Str) == fi_InvalidTable) = true)
    {f_l_base_3ec4 : Addr} {oc_l_base_3ec4 kV_l_base_3ec4 dc_l_base_3ec4 pm_l_base_3ec4 cd_l_base_3ec4 ct_l_base_3ec4 : Value} {od_l_base_3ec4 an_l_base_3ec4 : Option Addr} {sl_l_base_3ec4 : Array (Option Value)}
    (a_l_base_3ec4 : PySem.W.nsIn K mainGlobals "_law_base" = some (some (.ref f_l_base_3ec4))) (l_l_base_3ec4 : K.lookup f_l_base_3ec4 = some ⟨oc_l_base_3ec4, od_l_base_3ec4, .func (PySem.W.fnOf "_law_base" "_law_base" (defArgs s_l_base_3ec4) (defBody s_l_base_3ec4) (defScope s_l_base_3ec4) .none kV_l_base_3ec4 dc_l_base_3ec4 pm_l_base_3ec4 an_l_base_3ec4 cd_l_base_3ec4 ct_l_base_3ec4), sl_l_base_3ec4⟩) (e_l_base_3ec4 : PySem.W.codeIn K cd_l_base_3ec4 "_law_base" = true) (k_l_base_3ec4 : PySem.W.keepIn K (.ref f_l_base_3ec4) = true)
    {f_l_self_a3eb : Addr} {oc_l_self_a3eb kV_l_self_a3eb dc_l_self_a3eb pm_l_self_a3eb cd_l_self_a3eb ct_l_self_a3eb : Value} {od_l_self_a3eb an_l_self_a3eb : Option Addr} {sl_l_self_a3eb : Array (Option Value)}
    (a_l_self_a3eb : PySem.W.nsIn K mainGlobals "_law_self" = some (some (.ref f_l_self_a3eb))) (l_l_self_a3eb : K.lookup f_l_self_a3eb = some ⟨oc_l_self_a3eb, od_l_self_a3eb, .func (PySem.W.fnOf "_law_self" "_law_self" (defArgs s_l_self_a3eb) (defBody s_l_self_a3eb) (defScope s_l_self_a3eb) .none kV_l_self_a3eb dc_l_self_a3eb pm_l_self_a3eb an_l_self_a3eb cd_l_self_a3eb ct_l_self_a3eb), sl_l_self_a3eb⟩) (e_l_self_a3eb : PySem.W.codeIn K cd_l_self_a3eb "_law_self" = true) (k_l_self_a3eb : PySem.W.keepIn K (.ref f_l_self_a3eb) = true)
    {f_l_hash_d8d1 : Addr} {oc_l_hash_d8d1 kV_l_hash_d8d1 dc_l_hash_d8d1 pm_l_hash_d8d1 cd_l_hash_d8d1 ct_l_hash_d8d1 : Value} {od_l_hash_d8d1 an_l_hash_d8d1 : Option Addr} {sl_l_hash_d8d1 : Array (Option Value)}
    (a_l_hash_d8d1 : PySem.W.nsIn K mainGlobals "_law_hash" = some (some (.ref f_l_hash_d8d1))) (l_l_hash_d8d1 : K.lookup f_l_hash_d8d1 = some ⟨oc_l_hash_d8d1, od_l_hash_d8d1, .func (PySem.W.fnOf "_law_hash" "_law_hash" (defArgs s_l_hash_d8d1) (defBody s_l_hash_d8d1) (defScope s_l_hash_d8d1) .none kV_l_hash_d8d1 dc_l_hash_d8d1 pm_l_hash_d8d1 an_l_hash_d8d1 cd_l_hash_d8d1 ct_l_hash_d8d1), sl_l_hash_d8d1⟩) (e_l_hash_d8d1 : PySem.W.codeIn K cd_l_hash_d8d1 "_law_hash" = true) (k_l_hash_d8d1 : PySem.W.keepIn K (.ref f_l_hash_d8d1) = true)
    {f_l_random_7821 : Addr} {oc_l_random_7821 kV_l_random_7821 dc_l_random_7821 pm_l_random_7821 cd_l_random_7821 ct_l_random_7821 : Value} {od_l_random_7821 an_l_random_7821 : Option Addr} {sl_l_random_7821 : Array (Option Value)}
    (a_l_random_7821 : PySem.W.nsIn K mainGlobals "_law_random" = some (some (.ref f_l_random_7821))) (l_l_random_7821 : K.lookup f_l_random_7821 = some ⟨oc_l_random_7821, od_l_random_7821, .func (PySem.W.fnOf "_law_random" "_law_random" (defArgs s_l_random_7821) (defBody s_l_random_7821) (defScope s_l_random_7821) .none kV_l_random_7821 dc_l_random_7821 pm_l_random_7821 an_l_random_7821 cd_l_random_7821 ct_l_random_7821), sl_l_random_7821⟩) (e_l_random_7821 : PySem.W.codeIn K cd_l_random_7821 "_law_random" = true) (k_l_random_7821 : PySem.W.keepIn K (.ref f_l_random_7821) = true)
    {f_l_stepped_3049 : Addr} {oc_l_stepped_3049 kV_l_stepped_3049 dc_l_stepped_3049 pm_l_stepped_3049 cd_l_stepped_3049 ct_l_stepped_3049 : Value} {od_l_stepped_3049 an_l_stepped_3049 : Option Addr} {sl_l_stepped_3049 : Array (Option Value)}
    (a_l_stepped_3049 : PySem.W.nsIn K mainGlobals "_law_stepped" = some (some (.ref f_l_stepped_3049))) (l_l_stepped_3049 : K.lookup f_l_stepped_3049 = some ⟨oc_l_stepped_3049, od_l_stepped_3049, .func (PySem.W.fnOf "_law_stepped" "_law_stepped" (defArgs s_l_stepped_3049) (defBody s_l_stepped_3049) (defScope s_l_stepped_3049) .none kV_l_stepped_3049 dc_l_stepped_3049 pm_l_stepped_3049 an_l_stepped_3049 cd_l_stepped_3049 ct_l_stepped_3049), sl_l_stepped_3049⟩) (e_l_stepped_3049 : PySem.W.codeIn K cd_l_stepped_3049 "_law_stepped" = true) (k_l_stepped_3049 : PySem.W.keepIn K (.ref f_l_stepped_3049) = true)
    {f_is_whole : Addr} {oc_is_whole kV_is_whole dc_is_whole pm_is_whole cd_is_whole ct_is_whole : Value} {od_is_whole an_is_whole : Option Addr} {sl_is_whole : Array (Option Value)}
    (a_is_whole : PySem.W.nsIn K mainGlobals "is_whole" = some (some (.ref f_is_whole))) (l_is_whole : K.lookup f_is_whole = some ⟨oc_is_whole, od_is_whole, .func (PySem.W.fnOf "is_whole" "is_whole" (defArgs s_is_whole) (defBody s_is_whole) (defScope s_is_whole) .none kV_is_whole dc_is_whole pm_is_whole an_is_whole cd_is_whole ct_is_whole), sl_is_whole⟩) (e_is_whole : PySem.W.codeIn K cd_is_whole "is_whole" = true) (k_is_whole : PySem.W.keepIn K (.ref f_is_whole) = true)
    {f_is_path_list : Addr} {oc_is_path_list kV_is_path_list dc_is_path_list pm_is_path_list cd_is_path_list ct_is_path_list : Value} {od_is_path_list an_is_path_list : Option Addr} {sl_is_path_list : Array (Option Value)}
    (a_is_path_list : PySem.W.nsIn K mainGlobals "is_path_list" = some (some (.ref f_is_path_list))) (l_is_path_list : K.lookup f_is_path_list = some ⟨oc_is_path_list, od_is_path_list, .func (PySem.W.fnOf "is_path_list" "is_path_list" (defArgs s_is_path_list) (defBody s_is_path_list) (defScope s_is_path_list) .none kV_is_path_list dc_is_path_list pm_is_path_list an_is_path_list cd_is_path_list ct_is_path_list), sl_is_path_list⟩) (e_is_path_list : PySem.W.codeIn K cd_is_path_list "is_path_list" = true) (k_is_path_list : PySem.W.keepIn K (.ref f_is_path_list) = true)
    {f_check_table_x : Addr} {oc_check_table_x kV_check_table_x dc_check_table_x pm_check_table_x cd_check_table_x ct_check_table_x : Value} {od_check_table_x an_check_table_x : Option Addr} {sl_check_table_x : Array (Option Value)}
    (a_check_table_x : PySem.W.nsIn K mainGlobals "check_table" = some (some (.ref f_check_table_x))) (l_check_table_x : K.lookup f_check_table_x = some ⟨oc_check_table_x, od_check_table_x, .func (PySem.W.fnOf "check_table" "check_table" (defArgs s_check_table_x) (defBody s_check_table_x) (defScope s_check_table_x) .none kV_check_table_x dc_check_table_x pm_check_table_x an_check_table_x cd_check_table_x ct_check_table_x), sl_check_table_x⟩) (e_check_table_x : PySem.W.codeIn K cd_check_table_x "check_table" = true) (k_check_table_x : PySem.W.keepIn K (.ref f_check_table_x) = true)
    {f_turned_about_o : Addr} {oc_turned_about_o kV_turned_about_o dc_turned_about_o pm_turned_about_o cd_turned_about_o ct_turned_about_o : Value} {od_turned_about_o an_turned_about_o : Option Addr} {sl_turned_about_o : Array (Option Value)}
    (a_turned_about_o : PySem.W.nsIn K mainGlobals "turned_about" = some (some (.ref f_turned_about_o))) (l_turned_about_o : K.lookup f_turned_about_o = some ⟨oc_turned_about_o, od_turned_about_o, .func (PySem.W.fnOf "turned_about" "turned_about" (defArgs s_turned_about_o) (defBody s_turned_about_o) (defScope s_turned_about_o) .none kV_turned_about_o dc_turned_about_o pm_turned_about_o an_turned_about_o cd_turned_about_o ct_turned_about_o), sl_turned_about_o⟩) (e_turned_about_o : PySem.W.codeIn K cd_turned_about_o "turned_about" = true) (k_turned_about_o : PySem.W.keepIn K (.ref f_turned_about_o) = true)
    {f_path_led : Addr} {oc_path_led kV_path_led dc_path_led pm_path_led cd_path_led ct_path_led : Value} {od_path_led an_path_led : Option Addr} {sl_path_led : Array (Option Value)}
    (a_path_led : PySem.W.nsIn K mainGlobals "path_led" = some (some (.ref f_path_led))) (l_path_led : K.lookup f_path_led = some ⟨oc_path_led, od_path_led, .func (PySem.W.fnOf "path_led" "path_led" (defArgs s_path_led) (defBody s_path_led) (defScope s_path_led) .none kV_path_led dc_path_led pm_path_led an_path_led cd_path_led ct_path_led), sl_path_led⟩) (e_path_led : PySem.W.codeIn K cd_path_led "path_led" = true) (k_path_led : PySem.W.keepIn K (.ref f_path_led) = true)
    {f_table_times_o : Addr} {oc_table_times_o kV_table_times_o dc_table_times_o pm_table_times_o cd_table_times_o ct_table_times_o : Value} {od_table_times_o an_table_times_o : Option Addr} {sl_table_times_o : Array (Option Value)}
    (a_table_times_o : PySem.W.nsIn K mainGlobals "table_times" = some (some (.ref f_table_times_o))) (l_table_times_o : K.lookup f_table_times_o = some ⟨oc_table_times_o, od_table_times_o, .func (PySem.W.fnOf "table_times" "table_times" (defArgs s_table_times_o) (defBody s_table_times_o) (defScope s_table_times_o) .none kV_table_times_o dc_table_times_o pm_table_times_o an_table_times_o cd_table_times_o ct_table_times_o), sl_table_times_o⟩) (e_table_times_o : PySem.W.codeIn K cd_table_times_o "table_times" = true) (k_table_times_o : PySem.W.keepIn K (.ref f_table_times_o) = true)
    {f_table_product_o_x : Addr} {oc_table_product_o_x kV_table_product_o_x dc_table_product_o_x pm_table_product_o_x cd_table_product_o_x ct_table_product_o_x : Value} {od_table_product_o_x an_table_product_o_x : Option Addr} {sl_table_product_o_x : Array (Option Value)}
    (a_table_product_o_x : PySem.W.nsIn K mainGlobals "table_product" = some (some (.ref f_table_product_o_x))) (l_table_product_o_x : K.lookup f_table_product_o_x = some ⟨oc_table_product_o_x, od_table_product_o_x, .func (PySem.W.fnOf "table_product" "table_product" (defArgs s_table_product_o_x) (defBody s_table_product_o_x) (defScope s_table_product_o_x) .none kV_table_product_o_x dc_table_product_o_x pm_table_product_o_x an_table_product_o_x cd_table_product_o_x ct_table_product_o_x), sl_table_product_o_x⟩) (e_table_product_o_x : PySem.W.codeIn K cd_table_product_o_x "table_product" = true) (k_table_product_o_x : PySem.W.keepIn K (.ref f_table_product_o_x) = true)
    {f_l_columns_d906 : Addr} {oc_l_columns_d906 kV_l_columns_d906 dc_l_columns_d906 pm_l_columns_d906 cd_l_columns_d906 ct_l_columns_d906 : Value} {od_l_columns_d906 an_l_columns_d906 : Option Addr} {sl_l_columns_d906 : Array (Option Value)}
    (a_l_columns_d906 : PySem.W.nsIn K mainGlobals "_law_columns" = some (some (.ref f_l_columns_d906))) (l_l_columns_d906 : K.lookup f_l_columns_d906 = some ⟨oc_l_columns_d906, od_l_columns_d906, .func (PySem.W.fnOf "_law_columns" "_law_columns" (defArgs s_l_columns_d906) (defBody s_l_columns_d906) (defScope s_l_columns_d906) .none kV_l_columns_d906 dc_l_columns_d906 pm_l_columns_d906 an_l_columns_d906 cd_l_columns_d906 ct_l_columns_d906), sl_l_columns_d906⟩) (e_l_columns_d906 : PySem.W.codeIn K cd_l_columns_d906 "_law_columns" = true) (k_l_columns_d906 : PySem.W.keepIn K (.ref f_l_columns_d906) = true)
    {f_l_led_ea66 : Addr} {oc_l_led_ea66 kV_l_led_ea66 dc_l_led_ea66 pm_l_led_ea66 cd_l_led_ea66 ct_l_led_ea66 : Value} {od_l_led_ea66 an_l_led_ea66 : Option Addr} {sl_l_led_ea66 : Array (Option Value)}
    (a_l_led_ea66 : PySem.W.nsIn K mainGlobals "_law_led" = some (some (.ref f_l_led_ea66))) (l_l_led_ea66 : K.lookup f_l_led_ea66 = some ⟨oc_l_led_ea66, od_l_led_ea66, .func (PySem.W.fnOf "_law_led" "_law_led" (defArgs s_l_led_ea66) (defBody s_l_led_ea66) (defScope s_l_led_ea66) .none kV_l_led_ea66 dc_l_led_ea66 pm_l_led_ea66 an_l_led_ea66 cd_l_led_ea66 ct_l_led_ea66), sl_l_led_ea66⟩) (e_l_led_ea66 : PySem.W.codeIn K cd_l_led_ea66 "_law_led" = true) (k_l_led_ea66 : PySem.W.keepIn K (.ref f_l_led_ea66) = true)
    {f_l_product_3b0c : Addr} {oc_l_product_3b0c kV_l_product_3b0c dc_l_product_3b0c pm_l_product_3b0c cd_l_product_3b0c ct_l_product_3b0c : Value} {od_l_product_3b0c an_l_product_3b0c : Option Addr} {sl_l_product_3b0c : Array (Option Value)}
    (a_l_product_3b0c : PySem.W.nsIn K mainGlobals "_law_product" = some (some (.ref f_l_product_3b0c))) (l_l_product_3b0c : K.lookup f_l_product_3b0c = some ⟨oc_l_product_3b0c, od_l_product_3b0c, .func (PySem.W.fnOf "_law_product" "_law_product" (defArgs s_l_product_3b0c) (defBody s_l_product_3b0c) (defScope s_l_product_3b0c) .none kV_l_product_3b0c dc_l_product_3b0c pm_l_product_3b0c an_l_product_3b0c cd_l_product_3b0c ct_l_product_3b0c), sl_l_product_3b0c⟩) (e_l_product_3b0c : PySem.W.codeIn K cd_l_product_3b0c "_law_product" = true) (k_l_product_3b0c : PySem.W.keepIn K (.ref f_l_product_3b0c) = true)
    {f_l_path_108b : Addr} {oc_l_path_108b kV_l_path_108b dc_l_path_108b pm_l_path_108b cd_l_path_108b ct_l_path_108b : Value} {od_l_path_108b an_l_path_108b : Option Addr} {sl_l_path_108b : Array (Option Value)}
    (a_l_path_108b : PySem.W.nsIn K mainGlobals "_law_path" = some (some (.ref f_l_path_108b))) (l_l_path_108b : K.lookup f_l_path_108b = some ⟨oc_l_path_108b, od_l_path_108b, .func (PySem.W.fnOf "_law_path" "_law_path" (defArgs s_l_path_108b) (defBody s_l_path_108b) (defScope s_l_path_108b) .none kV_l_path_108b dc_l_path_108b pm_l_path_108b an_l_path_108b cd_l_path_108b ct_l_path_108b), sl_l_path_108b⟩) (e_l_path_108b : PySem.W.codeIn K cd_l_path_108b "_law_path" = true) (k_l_path_108b : PySem.W.keepIn K (.ref f_l_path_108b) = true)
    {f_check_path_x : Addr} {oc_check_path_x kV_check_path_x dc_check_path_x pm_check_path_x cd_check_path_x ct_check_path_x : Value} {od_check_path_x an_check_path_x : Option Addr} {sl_check_path_x : Array (Option Value)}
    (a_check_path_x : PySem.W.nsIn K mainGlobals "check_path" = some (some (.ref f_check_path_x))) (l_check_path_x : K.lookup f_check_path_x = some ⟨oc_check_path_x, od_check_path_x, .func (PySem.W.fnOf "check_path" "check_path" (defArgs s_check_path_x) (defBody s_check_path_x) (defScope s_check_path_x) .none kV_check_path_x dc_check_path_x pm_check_path_x an_check_path_x cd_check_path_x ct_check_path_x), sl_check_path_x⟩) (e_check_path_x : PySem.W.codeIn K cd_check_path_x "check_path" = true) (k_check_path_x : PySem.W.keepIn K (.ref f_check_path_x) = true)
    {f_path_led_o : Addr} {oc_path_led_o kV_path_led_o dc_path_led_o pm_path_led_o cd_path_led_o ct_path_led_o : Value} {od_path_led_o an_path_led_o : Option Addr} {sl_path_led_o : Array (Option Value)}
    (a_path_led_o : PySem.W.nsIn K mainGlobals "path_led" = some (some (.ref f_path_led_o))) (l_path_led_o : K.lookup f_path_led_o = some ⟨oc_path_led_o, od_path_led_o, .func (PySem.W.fnOf "path_led" "path_led" (defArgs s_path_led_o) (defBody s_path_led_o) (defScope s_path_led_o) .none kV_path_led_o dc_path_led_o pm_path_led_o an_path_led_o cd_path_led_o ct_path_led_o), sl_path_led_o⟩) (e_path_led_o : PySem.W.codeIn K cd_path_led_o "path_led" = true) (k_path_led_o : PySem.W.keepIn K (.ref f_path_led_o) = true)
    {f_led_path_o_x : Addr} {oc_led_path_o_x kV_led_path_o_x dc_led_path_o_x pm_led_path_o_x cd_led_path_o_x ct_led_path_o_x : Value} {od_led_path_o_x an_led_path_o_x : Option Addr} {sl_led_path_o_x : Array (Option Value)}
    (a_led_path_o_x : PySem.W.nsIn K mainGlobals "led_path" = some (some (.ref f_led_path_o_x))) (l_led_path_o_x : K.lookup f_led_path_o_x = some ⟨oc_led_path_o_x, od_led_path_o_x, .func (PySem.W.fnOf "led_path" "led_path" (defArgs s_led_path_o_x) (defBody s_led_path_o_x) (defScope s_led_path_o_x) .none kV_led_path_o_x dc_led_path_o_x pm_led_path_o_x an_led_path_o_x cd_led_path_o_x ct_led_path_o_x), sl_led_path_o_x⟩) (e_led_path_o_x : PySem.W.codeIn K cd_led_path_o_x "led_path" = true) (k_led_path_o_x : PySem.W.keepIn K (.ref f_led_path_o_x) = true)
    {f_l_crossing_3f18 : Addr} {oc_l_crossing_3f18 kV_l_crossing_3f18 dc_l_crossing_3f18 pm_l_crossing_3f18 cd_l_crossing_3f18 ct_l_crossing_3f18 : Value} {od_l_crossing_3f18 an_l_crossing_3f18 : Option Addr} {sl_l_crossing_3f18 : Array (Option Value)}
    (a_l_crossing_3f18 : PySem.W.nsIn K mainGlobals "_law_crossing" = some (some (.ref f_l_crossing_3f18))) (l_l_crossing_3f18 : K.lookup f_l_crossing_3f18 = some ⟨oc_l_crossing_3f18, od_l_crossing_3f18, .func (PySem.W.fnOf "_law_crossing" "_law_crossing" (defArgs s_l_crossing_3f18) (defBody s_l_crossing_3f18) (defScope s_l_crossing_3f18) .none kV_l_crossing_3f18 dc_l_crossing_3f18 pm_l_crossing_3f18 an_l_crossing_3f18 cd_l_crossing_3f18 ct_l_crossing_3f18), sl_l_crossing_3f18⟩) (e_l_crossing_3f18 : PySem.W.codeIn K cd_l_crossing_3f18 "_law_crossing" = true) (k_l_crossing_3f18 : PySem.W.keepIn K (.ref f_l_crossing_3f18) = true)
    {f_l_keeps_2d4c : Addr} {oc_l_keeps_2d4c kV_l_keeps_2d4c dc_l_keeps_2d4c pm_l_keeps_2d4c cd_l_keeps_2d4c ct_l_keeps_2d4c : Value} {od_l_keeps_2d4c an_l_keeps_2d4c : Option Addr} {sl_l_keeps_2d4c : Array (Option Value)}
    (a_l_keeps_2d4c : PySem.W.nsIn K mainGlobals "_law_keeps" = some (some (.ref f_l_keeps_2d4c))) (l_l_keeps_2d4c : K.lookup f_l_keeps_2d4c = some ⟨oc_l_keeps_2d4c, od_l_keeps_2d4c, .func (PySem.W.fnOf "_law_keeps" "_law_keeps" (defArgs s_l_keeps_2d4c) (defBody s_l_keeps_2d4c) (defScope s_l_keeps_2d4c) .none kV_l_keeps_2d4c dc_l_keeps_2d4c pm_l_keeps_2d4c an_l_keeps_2d4c cd_l_keeps_2d4c ct_l_keeps_2d4c), sl_l_keeps_2d4c⟩) (e_l_keeps_2d4c : PySem.W.codeIn K cd_l_keeps_2d4c "_law_keeps" = true) (k_l_keeps_2d4c : PySem.W.keepIn K (.ref f_l_keeps_2d4c) = true)
    {f_crossing_by : Addr} {oc_crossing_by kV_crossing_by dc_crossing_by pm_crossing_by cd_crossing_by ct_crossing_by : Value} {od_crossing_by an_crossing_by : Option Addr} {sl_crossing_by : Array (Option Value)}
    (a_crossing_by : PySem.W.nsIn K mainGlobals "crossing_by" = some (some (.ref f_crossing_by))) (l_crossing_by : K.lookup f_crossing_by = some ⟨oc_crossing_by, od_crossing_by, .func (PySem.W.fnOf "crossing_by" "crossing_by" (defArgs s_crossing_by) (defBody s_crossing_by) (defScope s_crossing_by) .none kV_crossing_by dc_crossing_by pm_crossing_by an_crossing_by cd_crossing_by ct_crossing_by), sl_crossing_by⟩) (e_crossing_by : PySem.W.codeIn K cd_crossing_by "crossing_by" = true) (k_crossing_by : PySem.W.keepIn K (.ref f_crossing_by) = true)
    {f_keeps_by : Addr} {oc_keeps_by kV_keeps_by dc_keeps_by pm_keeps_by cd_keeps_by ct_keeps_by : Value} {od_keeps_by an_keeps_by : Option Addr} {sl_keeps_by : Array (Option Value)}
    (a_keeps_by : PySem.W.nsIn K mainGlobals "keeps_by" = some (some (.ref f_keeps_by))) (l_keeps_by : K.lookup f_keeps_by = some ⟨oc_keeps_by, od_keeps_by, .func (PySem.W.fnOf "keeps_by" "keeps_by" (defArgs s_keeps_by) (defBody s_keeps_by) (defScope s_keeps_by) .none kV_keeps_by dc_keeps_by pm_keeps_by an_keeps_by cd_keeps_by ct_keeps_by), sl_keeps_by⟩) (e_keeps_by : PySem.W.codeIn K cd_keeps_by "keeps_by" = true) (k_keeps_by : PySem.W.keepIn K (.ref f_keeps_by) = true)
    {f_keeps_crossings_x : Addr} {oc_keeps_crossings_x kV_keeps_crossings_x dc_keeps_crossings_x pm_keeps_crossings_x cd_keeps_crossings_x ct_keeps_crossings_x : Value} {od_keeps_crossings_x an_keeps_crossings_x : Option Addr} {sl_keeps_crossings_x : Array (Option Value)}
    (a_keeps_crossings_x : PySem.W.nsIn K mainGlobals "keeps_crossings" = some (some (.ref f_keeps_crossings_x))) (l_keeps_crossings_x : K.lookup f_keeps_crossings_x = some ⟨oc_keeps_crossings_x, od_keeps_crossings_x, .func (PySem.W.fnOf "keeps_crossings" "keeps_crossings" (defArgs s_keeps_crossings_x) (defBody s_keeps_crossings_x) (defScope s_keeps_crossings_x) .none kV_keeps_crossings_x dc_keeps_crossings_x pm_keeps_crossings_x an_keeps_crossings_x cd_keeps_crossings_x ct_keeps_crossings_x), sl_keeps_crossings_x⟩) (e_keeps_crossings_x : PySem.W.codeIn K cd_keeps_crossings_x "keeps_crossings" = true) (k_keeps_crossings_x : PySem.W.keepIn K (.ref f_keeps_crossings_x) = true)
    {f_back_of_o : Addr} {oc_back_of_o kV_back_of_o dc_back_of_o pm_back_of_o cd_back_of_o ct_back_of_o : Value} {od_back_of_o an_back_of_o : Option Addr} {sl_back_of_o : Array (Option Value)}
    (a_back_of_o : PySem.W.nsIn K mainGlobals "back_of" = some (some (.ref f_back_of_o))) (l_back_of_o : K.lookup f_back_of_o = some ⟨oc_back_of_o, od_back_of_o, .func (PySem.W.fnOf "back_of" "back_of" (defArgs s_back_of_o) (defBody s_back_of_o) (defScope s_back_of_o) .none kV_back_of_o dc_back_of_o pm_back_of_o an_back_of_o cd_back_of_o ct_back_of_o), sl_back_of_o⟩) (e_back_of_o : PySem.W.codeIn K cd_back_of_o "back_of" = true) (k_back_of_o : PySem.W.keepIn K (.ref f_back_of_o) = true)
    {f_table_back_o_x : Addr} {oc_table_back_o_x kV_table_back_o_x dc_table_back_o_x pm_table_back_o_x cd_table_back_o_x ct_table_back_o_x : Value} {od_table_back_o_x an_table_back_o_x : Option Addr} {sl_table_back_o_x : Array (Option Value)}
    (a_table_back_o_x : PySem.W.nsIn K mainGlobals "table_back" = some (some (.ref f_table_back_o_x))) (l_table_back_o_x : K.lookup f_table_back_o_x = some ⟨oc_table_back_o_x, od_table_back_o_x, .func (PySem.W.fnOf "table_back" "table_back" (defArgs s_table_back_o_x) (defBody s_table_back_o_x) (defScope s_table_back_o_x) .none kV_table_back_o_x dc_table_back_o_x pm_table_back_o_x an_table_back_o_x cd_table_back_o_x ct_table_back_o_x), sl_table_back_o_x⟩) (e_table_back_o_x : PySem.W.codeIn K cd_table_back_o_x "table_back" = true) (k_table_back_o_x : PySem.W.keepIn K (.ref f_table_back_o_x) = true)
    {f_l_refused_c25c : Addr} {oc_l_refused_c25c kV_l_refused_c25c dc_l_refused_c25c pm_l_refused_c25c cd_l_refused_c25c ct_l_refused_c25c : Value} {od_l_refused_c25c an_l_refused_c25c : Option Addr} {sl_l_refused_c25c : Array (Option Value)}
    (a_l_refused_c25c : PySem.W.nsIn K mainGlobals "_law_refused" = some (some (.ref f_l_refused_c25c))) (l_l_refused_c25c : K.lookup f_l_refused_c25c = some ⟨oc_l_refused_c25c, od_l_refused_c25c, .func (PySem.W.fnOf "_law_refused" "_law_refused" (defArgs s_l_refused_c25c) (defBody s_l_refused_c25c) (defScope s_l_refused_c25c) .none kV_l_refused_c25c dc_l_refused_c25c pm_l_refused_c25c an_l_refused_c25c cd_l_refused_c25c ct_l_refused_c25c), sl_l_refused_c25c⟩) (e_l_refused_c25c : PySem.W.codeIn K cd_l_refused_c25c "_law_refused" = true) (k_l_refused_c25c : PySem.W.keepIn K (.ref f_l_refused_c25c) = true)
    {f_l_back_51d9 : Addr} {oc_l_back_51d9 kV_l_back_51d9 dc_l_back_51d9 pm_l_back_51d9 cd_l_back_51d9 ct_l_back_51d9 : Value} {od_l_back_51d9 an_l_back_51d9 : Option Addr} {sl_l_back_51d9 : Array (Option Value)}
    (a_l_back_51d9 : PySem.W.nsIn K mainGlobals "_law_back" = some (some (.ref f_l_back_51d9))) (l_l_back_51d9 : K.lookup f_l_back_51d9 = some ⟨oc_l_back_51d9, od_l_back_51d9, .func (PySem.W.fnOf "_law_back" "_law_back" (defArgs s_l_back_51d9) (defBody s_l_back_51d9) (defScope s_l_back_51d9) .none kV_l_back_51d9 dc_l_back_51d9 pm_l_back_51d9 an_l_back_51d9 cd_l_back_51d9 ct_l_back_51d9), sl_l_back_51d9⟩) (e_l_back_51d9 : PySem.W.codeIn K cd_l_back_51d9 "_law_back" = true) (k_l_back_51d9 : PySem.W.keepIn K (.ref f_l_back_51d9) = true)
    {f_l_one_right_7eef : Addr} {oc_l_one_right_7eef kV_l_one_right_7eef dc_l_one_right_7eef pm_l_one_right_7eef cd_l_one_right_7eef ct_l_one_right_7eef : Value} {od_l_one_right_7eef an_l_one_right_7eef : Option Addr} {sl_l_one_right_7eef : Array (Option Value)}
    (a_l_one_right_7eef : PySem.W.nsIn K mainGlobals "_law_one_right" = some (some (.ref f_l_one_right_7eef))) (l_l_one_right_7eef : K.lookup f_l_one_right_7eef = some ⟨oc_l_one_right_7eef, od_l_one_right_7eef, .func (PySem.W.fnOf "_law_one_right" "_law_one_right" (defArgs s_l_one_right_7eef) (defBody s_l_one_right_7eef) (defScope s_l_one_right_7eef) .none kV_l_one_right_7eef dc_l_one_right_7eef pm_l_one_right_7eef an_l_one_right_7eef cd_l_one_right_7eef ct_l_one_right_7eef), sl_l_one_right_7eef⟩) (e_l_one_right_7eef : PySem.W.codeIn K cd_l_one_right_7eef "_law_one_right" = true) (k_l_one_right_7eef : PySem.W.keepIn K (.ref f_l_one_right_7eef) = true)
    {f_l_right_b49f : Addr} {oc_l_right_b49f kV_l_right_b49f dc_l_right_b49f pm_l_right_b49f cd_l_right_b49f ct_l_right_b49f : Value} {od_l_right_b49f an_l_right_b49f : Option Addr} {sl_l_right_b49f : Array (Option Value)}
    (a_l_right_b49f : PySem.W.nsIn K mainGlobals "_law_right" = some (some (.ref f_l_right_b49f))) (l_l_right_b49f : K.lookup f_l_right_b49f = some ⟨oc_l_right_b49f, od_l_right_b49f, .func (PySem.W.fnOf "_law_right" "_law_right" (defArgs s_l_right_b49f) (defBody s_l_right_b49f) (defScope s_l_right_b49f) .none kV_l_right_b49f dc_l_right_b49f pm_l_right_b49f an_l_right_b49f cd_l_right_b49f ct_l_right_b49f), sl_l_right_b49f⟩) (e_l_right_b49f : PySem.W.codeIn K cd_l_right_b49f "_law_right" = true) (k_l_right_b49f : PySem.W.keepIn K (.ref f_l_right_b49f) = true)
    {f_l_cell_cf3b : Addr} {oc_l_cell_cf3b kV_l_cell_cf3b dc_l_cell_cf3b pm_l_cell_cf3b cd_l_cell_cf3b ct_l_cell_cf3b : Value} {od_l_cell_cf3b an_l_cell_cf3b : Option Addr} {sl_l_cell_cf3b : Array (Option Value)}
    (a_l_cell_cf3b : PySem.W.nsIn K mainGlobals "_law_cell" = some (some (.ref f_l_cell_cf3b))) (l_l_cell_cf3b : K.lookup f_l_cell_cf3b = some ⟨oc_l_cell_cf3b, od_l_cell_cf3b, .func (PySem.W.fnOf "_law_cell" "_law_cell" (defArgs s_l_cell_cf3b) (defBody s_l_cell_cf3b) (defScope s_l_cell_cf3b) .none kV_l_cell_cf3b dc_l_cell_cf3b pm_l_cell_cf3b an_l_cell_cf3b cd_l_cell_cf3b ct_l_cell_cf3b), sl_l_cell_cf3b⟩) (e_l_cell_cf3b : PySem.W.codeIn K cd_l_cell_cf3b "_law_cell" = true) (k_l_cell_cf3b : PySem.W.keepIn K (.ref f_l_cell_cf3b) = true)
    {f_l_generator_b324 : Addr} {oc_l_generator_b324 kV_l_generator_b324 dc_l_generator_b324 pm_l_generator_b324 cd_l_generator_b324 ct_l_generator_b324 : Value} {od_l_generator_b324 an_l_generator_b324 : Option Addr} {sl_l_generator_b324 : Array (Option Value)}
    (a_l_generator_b324 : PySem.W.nsIn K mainGlobals "_law_generator" = some (some (.ref f_l_generator_b324))) (l_l_generator_b324 : K.lookup f_l_generator_b324 = some ⟨oc_l_generator_b324, od_l_generator_b324, .func (PySem.W.fnOf "_law_generator" "_law_generator" (defArgs s_l_generator_b324) (defBody s_l_generator_b324) (defScope s_l_generator_b324) .none kV_l_generator_b324 dc_l_generator_b324 pm_l_generator_b324 an_l_generator_b324 cd_l_generator_b324 ct_l_generator_b324), sl_l_generator_b324⟩) (e_l_generator_b324 : PySem.W.codeIn K cd_l_generator_b324 "_law_generator" = true) (k_l_generator_b324 : PySem.W.keepIn K (.ref f_l_generator_b324) = true)
    {f_l_law_de6b : Addr} {oc_l_law_de6b kV_l_law_de6b dc_l_law_de6b pm_l_law_de6b cd_l_law_de6b ct_l_law_de6b : Value} {od_l_law_de6b an_l_law_de6b : Option Addr} {sl_l_law_de6b : Array (Option Value)}
    (a_l_law_de6b : PySem.W.nsIn K mainGlobals "law" = some (some (.ref f_l_law_de6b))) (l_l_law_de6b : K.lookup f_l_law_de6b = some ⟨oc_l_law_de6b, od_l_law_de6b, .func (PySem.W.fnOf "law" "law" (defArgs s_l_law_de6b) (defBody s_l_law_de6b) (defScope s_l_law_de6b) .none kV_l_law_de6b dc_l_law_de6b pm_l_law_de6b an_l_law_de6b cd_l_law_de6b ct_l_law_de6b), sl_l_law_de6b⟩) (e_l_law_de6b : PySem.W.codeIn K cd_l_law_de6b "law" = true) (k_l_law_de6b : PySem.W.keepIn K (.ref f_l_law_de6b) = true)
    (base : Heap) (Xb : K.In base) : Txt PySem.Challenge.pw_slitsheets_k43_tables_that_keep_crossing K mg base where
  s_SheetError := ⟨_, XA.shC_mk ns_S lk_S, PySem.W.mg_of X G ns_S⟩
  e_InvalidList := XA.erM_mk X G (XA.shC_mk ns_S lk_S) it_InvalidList (by decide) ns_InvalidList lk_InvalidList sa_InvalidList ga_InvalidList gg_InvalidList nv_InvalidList kp_InvalidList hc_InvalidList gs_S tk_S iC_InvalidList (XA.sup_of lk_InvalidList sp_InvalidList) any_S msup_S lf_InvalidList cd_InvalidList lc_InvalidList lt_InvalidList lv_InvalidList hv_InvalidList hf_InvalidList (by decide +kernel)
  e_InvalidTable := XA.erM_mk X G (XA.shC_mk ns_S lk_S) it_InvalidTable (by decide) ns_InvalidTable lk_InvalidTable sa_InvalidTable ga_InvalidTable gg_InvalidTable nv_InvalidTable kp_InvalidTable hc_InvalidTable gs_S tk_S iC_InvalidTable (XA.sup_of lk_InvalidTable sp_InvalidTable) any_S msup_S lf_InvalidTable cd_InvalidTable lc_InvalidTable lt_InvalidTable lv_InvalidTable hv_InvalidTable hf_InvalidTable (by decide +kernel)
  n_bool := PySem.W.mg_none_of X G n_bool
  n_enumerate := PySem.W.mg_none_of X G n_enumerate
  n_int := PySem.W.mg_none_of X G n_int
  n_isinstance := PySem.W.mg_none_of X G n_isinstance
  n_len := PySem.W.mg_none_of X G n_len
  n_list := PySem.W.mg_none_of X G n_list
  n_max := PySem.W.mg_none_of X G n_max
  n_range := PySem.W.mg_none_of X G n_range
  n_repr := PySem.W.mg_none_of X G n_repr
  n_sum := PySem.W.mg_none_of X G n_sum
  n_zip := PySem.W.mg_none_of X G n_zip
  c_SELF := ⟨_, PySem.W.mg_of X G c_SELF, .tup cl_SELF (.cons (.tup cl_SELF_0 (.cons .int (.cons .int (.cons .int (.cons .int (.nil))))) (Nat.le_of_ble_eq_true rfl)) (.cons (.tup cl_SELF_1 (.cons .int (.cons .int (.cons .int (.cons .int (.nil))))) (Nat.le_of_ble_eq_true rfl)) (.cons (.tup cl_SELF_2 (.cons .int (.cons .int (.cons .int (.cons .int (.nil))))) (Nat.le_of_ble_eq_true rfl)) (.cons (.tup cl_SELF_3 (.cons .int (.cons .int (.cons .int (.cons .int (.nil))))) (Nat.le_of_ble_eq_true rfl)) (.nil))))) (Nat.le_of_ble_eq_true rfl)⟩
  h_l_base_3ec4 := here_of (st := s_l_base_3ec4) X G a_l_base_3ec4 l_l_base_3ec4 e_l_base_3ec4 k_l_base_3ec4 fun _ _ _ _ _ _ us hl => match us, hl with | [_], _ => rfl
  h_l_self_a3eb := here_of (st := s_l_self_a3eb) X G a_l_self_a3eb l_l_self_a3eb e_l_self_a3eb k_l_self_a3eb fun _ _ _ _ _ _ us hl => match us, hl with | [], _ => rfl
  h_l_hash_d8d1 := here_of (st := s_l_hash_d8d1) X G a_l_hash_d8d1 l_l_hash_d8d1 e_l_hash_d8d1 k_l_hash_d8d1 fun _ _ _ _ _ _ us hl => match us, hl with | [_, _], _ => rfl
  h_l_random_7821 := here_of (st := s_l_random_7821) X G a_l_random_7821 l_l_random_7821 e_l_random_7821 k_l_random_7821 fun _ _ _ _ _ _ us hl => match us, hl with | [_, _], _ => rfl
  h_l_stepped_3049 := here_of (st := s_l_stepped_3049) X G a_l_stepped_3049 l_l_stepped_3049 e_l_stepped_3049 k_l_stepped_3049 fun _ _ _ _ _ _ us hl => match us, hl with | [_, _], _ => rfl
  h_is_whole := here_of (st := s_is_whole) X G a_is_whole l_is_whole e_is_whole k_is_whole fun _ _ _ _ _ _ us hl => match us, hl with | [_], _ => rfl
  h_is_path_list := here_of (st := s_is_path_list) X G a_is_path_list l_is_path_list e_is_path_list k_is_path_list fun _ _ _ _ _ _ us hl => match us, hl with | [_], _ => rfl
  h_check_table_x := here_of (st := s_check_table_x) X G a_check_table_x l_check_table_x e_check_table_x k_check_table_x fun _ _ _ _ _ _ us hl => match us, hl with | [_], _ => rfl
  h_turned_about_o := here_of (st := s_turned_about_o) X G a_turned_about_o l_turned_about_o e_turned_about_o k_turned_about_o fun _ _ _ _ _ _ us hl => match us, hl with | [_], _ => rfl
  h_path_led := here_of (st := s_path_led) X G a_path_led l_path_led e_path_led k_path_led fun _ _ _ _ _ _ us hl => match us, hl with | [_, _], _ => rfl
  h_table_times_o := here_of (st := s_table_times_o) X G a_table_times_o l_table_times_o e_table_times_o k_table_times_o fun _ _ _ _ _ _ us hl => match us, hl with | [_, _], _ => rfl
  h_table_product_o_x := here_of (st := s_table_product_o_x) X G a_table_product_o_x l_table_product_o_x e_table_product_o_x k_table_product_o_x fun _ _ _ _ _ _ us hl => match us, hl with | [_, _], _ => rfl
  h_l_columns_d906 := here_of (st := s_l_columns_d906) X G a_l_columns_d906 l_l_columns_d906 e_l_columns_d906 k_l_columns_d906 fun _ _ _ _ _ _ us hl => match us, hl with | [_], _ => rfl
  h_l_led_ea66 := here_of (st := s_l_led_ea66) X G a_l_led_ea66 l_l_led_ea66 e_l_led_ea66 k_l_led_ea66 fun _ _ _ _ _ _ us hl => match us, hl with | [_, _], _ => rfl
  h_l_product_3b0c := here_of (st := s_l_product_3b0c) X G a_l_product_3b0c l_l_product_3b0c e_l_product_3b0c k_l_product_3b0c fun _ _ _ _ _ _ us hl => match us, hl with | [_, _], _ => rfl
  h_l_path_108b := here_of (st := s_l_path_108b) X G a_l_path_108b l_l_path_108b e_l_path_108b k_l_path_108b fun _ _ _ _ _ _ us hl => match us, hl with | [_], _ => rfl
  h_check_path_x := here_of (st := s_check_path_x) X G a_check_path_x l_check_path_x e_check_path_x k_check_path_x fun _ _ _ _ _ _ us hl => match us, hl with | [_], _ => rfl
  h_path_led_o := here_of (st := s_path_led_o) X G a_path_led_o l_path_led_o e_path_led_o k_path_led_o fun _ _ _ _ _ _ us hl => match us, hl with | [_, _], _ => rfl
  h_led_path_o_x := here_of (st := s_led_path_o_x) X G a_led_path_o_x l_led_path_o_x e_led_path_o_x k_led_path_o_x fun _ _ _ _ _ _ us hl => match us, hl with | [_, _], _ => rfl
  h_l_crossing_3f18 := here_of (st := s_l_crossing_3f18) X G a_l_crossing_3f18 l_l_crossing_3f18 e_l_crossing_3f18 k_l_crossing_3f18 fun _ _ _ _ _ _ us hl => match us, hl with | [_, _], _ => rfl
  h_l_keeps_2d4c := here_of (st := s_l_keeps_2d4c) X G a_l_keeps_2d4c l_l_keeps_2d4c e_l_keeps_2d4c k_l_keeps_2d4c fun _ _ _ _ _ _ us hl => match us, hl with | [_], _ => rfl
  h_crossing_by := here_of (st := s_crossing_by) X G a_crossing_by l_crossing_by e_crossing_by k_crossing_by fun _ _ _ _ _ _ us hl => match us, hl with | [_, _], _ => rfl
  h_keeps_by := here_of (st := s_keeps_by) X G a_keeps_by l_keeps_by e_keeps_by k_keeps_by fun _ _ _ _ _ _ us hl => match us, hl with | [_], _ => rfl
  h_keeps_crossings_x := here_of (st := s_keeps_crossings_x) X G a_keeps_crossings_x l_keeps_crossings_x e_keeps_crossings_x k_keeps_crossings_x fun _ _ _ _ _ _ us hl => match us, hl with | [_], _ => rfl
  h_back_of_o := here_of (st := s_back_of_o) X G a_back_of_o l_back_of_o e_back_of_o k_back_of_o fun _ _ _ _ _ _ us hl => match us, hl with | [_], _ => rfl
  h_table_back_o_x := here_of (st := s_table_back_o_x) X G a_table_back_o_x l_table_back_o_x e_table_back_o_x k_table_back_o_x fun _ _ _ _ _ _ us hl => match us, hl with | [_], _ => rfl
  h_l_refused_c25c := here_of (st := s_l_refused_c25c) X G a_l_refused_c25c l_l_refused_c25c e_l_refused_c25c k_l_refused_c25c fun _ _ _ _ _ _ us hl => match us, hl with | [_], _ => rfl
  h_l_back_51d9 := here_of (st := s_l_back_51d9) X G a_l_back_51d9 l_l_back_51d9 e_l_back_51d9 k_l_back_51d9 fun _ _ _ _ _ _ us hl => match us, hl with | [_], _ => rfl
  h_l_one_right_7eef := here_of (st := s_l_one_right_7eef) X G a_l_one_right_7eef l_l_one_right_7eef e_l_one_right_7eef k_l_one_right_7eef fun _ _ _ _ _ _ us hl => match us, hl with | [_], _ => rfl
  h_l_right_b49f := here_of (st := s_l_right_b49f) X G a_l_right_b49f l_l_right_b49f e_l_right_b49f k_l_right_b49f fun _ _ _ _ _ _ us hl => match us, hl with | [_], _ => rfl
  h_l_cell_cf3b := here_of (st := s_l_cell_cf3b) X G a_l_cell_cf3b l_l_cell_cf3b e_l_cell_cf3b k_l_cell_cf3b fun _ _ _ _ _ _ us hl => match us, hl with | [_, _], _ => rfl
  h_l_generator_b324 := here_of (st := s_l_generator_b324) X G a_l_generator_b324 l_l_generator_b324 e_l_generator_b324 k_l_generator_b324 fun _ _ _ _ _ _ us hl => match us, hl with | [_, _], _ => rfl
  h_l_law_de6b := here_of (st := s_l_law_de6b) X G a_l_law_de6b l_l_law_de6b e_l_law_de6b k_l_law_de6b fun _ _ _ _ _ _ us hl => match us, hl with | [_], _ => rfl
end C_k43
open PySem PySem.W PyProof.Rows
set_option maxHeartbeats 0 in
theorem PySem.Challenge.cw_slitsheets_k43_tables_that_keep_crossing_holds : PySem.Challenge.rw_slitsheets_k43_tables_that_keep_crossing.Holds := by
  w_on; o_law; k_head; (case hw => w_witness2)
  k_fill
  refine DL.walkD (l := PySem.Challenge.rw_slitsheets_k43_tables_that_keep_crossing) (n := 63) (k := 8) (x := "_law_script") (st := C_k43.s_l_law_de6b) rfl (by decide) rfl ⟨rfl, by decide, by decide⟩ (fun w h Y => PySem.W.kIn_of Y) ?F (fun _ _ _ _ _ _ _ => rfl)
  case F =>
    intro w mg h KX G base Xb Gb
    refine' C_k43.law_ok (C_k43.all_mk KX G ?n_bool ?n_enumerate ?n_int ?n_isinstance ?n_len ?n_list ?n_max ?n_range ?n_repr ?n_sum ?n_zip ?cl_SELF_0 ?cl_SELF_1 ?cl_SELF_2 ?cl_SELF_3 ?cl_SELF ?c_SELF ?ns_S ?lk_S ?gs_S ?tk_S ?any_S ?msup_S ?ns_InvalidList ?lk_InvalidList ?sa_InvalidList ?ga_InvalidList ?gg_InvalidList ?nv_InvalidList ?kp_InvalidList ?hc_InvalidList ?iC_InvalidList ?sp_InvalidList ?lf_InvalidList ?cd_InvalidList ?lc_InvalidList ?lt_InvalidList ?lv_InvalidList ?hv_InvalidList ?hf_InvalidList ?ns_InvalidTable ?lk_InvalidTable ?sa_InvalidTable ?ga_InvalidTable ?gg_InvalidTable ?nv_InvalidTable ?kp_InvalidTable ?hc_InvalidTable ?iC_InvalidTable ?sp_InvalidTable ?lf_InvalidTable ?cd_InvalidTable ?lc_InvalidTable ?lt_InvalidTable ?lv_InvalidTable ?hv_InvalidTable ?hf_InvalidTable ?a_l_base_3ec4 ?l_l_base_3ec4 ?e_l_base_3ec4 ?k_l_base_3ec4 ?a_l_self_a3eb ?l_l_self_a3eb ?e_l_self_a3eb ?k_l_self_a3eb ?a_l_hash_d8d1 ?l_l_hash_d8d1 ?e_l_hash_d8d1 ?k_l_hash_d8d1 ?a_l_random_7821 ?l_l_random_7821 ?e_l_random_7821 ?k_l_random_7821 ?a_l_stepped_3049 ?l_l_stepped_3049 ?e_l_stepped_3049 ?k_l_stepped_3049 ?a_is_whole ?l_is_whole ?e_is_whole ?k_is_whole ?a_is_path_list ?l_is_path_list ?e_is_path_list ?k_is_path_list ?a_check_table_x ?l_check_table_x ?e_check_table_x ?k_check_table_x ?a_turned_about_o ?l_turned_about_o ?e_turned_about_o ?k_turned_about_o ?a_path_led ?l_path_led ?e_path_led ?k_path_led ?a_table_times_o ?l_table_times_o ?e_table_times_o ?k_table_times_o ?a_table_product_o_x ?l_table_product_o_x ?e_table_product_o_x ?k_table_product_o_x ?a_l_columns_d906 ?l_l_columns_d906 ?e_l_columns_d906 ?k_l_columns_d906 ?a_l_led_ea66 ?l_l_led_ea66 ?e_l_led_ea66 ?k_l_led_ea66 ?a_l_product_3b0c ?l_l_product_3b0c ?e_l_product_3b0c ?k_l_product_3b0c ?a_l_path_108b ?l_l_path_108b ?e_l_path_108b ?k_l_path_108b ?a_check_path_x ?l_check_path_x ?e_check_path_x ?k_check_path_x ?a_path_led_o ?l_path_led_o ?e_path_led_o ?k_path_led_o ?a_led_path_o_x ?l_led_path_o_x ?e_led_path_o_x ?k_led_path_o_x ?a_l_crossing_3f18 ?l_l_crossing_3f18 ?e_l_crossing_3f18 ?k_l_crossing_3f18 ?a_l_keeps_2d4c ?l_l_keeps_2d4c ?e_l_keeps_2d4c ?k_l_keeps_2d4c ?a_crossing_by ?l_crossing_by ?e_crossing_by ?k_crossing_by ?a_keeps_by ?l_keeps_by ?e_keeps_by ?k_keeps_by ?a_keeps_crossings_x ?l_keeps_crossings_x ?e_keeps_crossings_x ?k_keeps_crossings_x ?a_back_of_o ?l_back_of_o ?e_back_of_o ?k_back_of_o ?a_table_back_o_x ?l_table_back_o_x ?e_table_back_o_x ?k_table_back_o_x ?a_l_refused_c25c ?l_l_refused_c25c ?e_l_refused_c25c ?k_l_refused_c25c ?a_l_back_51d9 ?l_l_back_51d9 ?e_l_back_51d9 ?k_l_back_51d9 ?a_l_one_right_7eef ?l_l_one_right_7eef ?e_l_one_right_7eef ?k_l_one_right_7eef ?a_l_right_b49f ?l_l_right_b49f ?e_l_right_b49f ?k_l_right_b49f ?a_l_cell_cf3b ?l_l_cell_cf3b ?e_l_cell_cf3b ?k_l_cell_cf3b ?a_l_generator_b324 ?l_l_generator_b324 ?e_l_generator_b324 ?k_l_generator_b324 ?a_l_law_de6b ?l_l_law_de6b ?e_l_law_de6b ?k_l_law_de6b base Xb)
    (case c_SELF => k_is)
    (case cl_SELF => k_is)
    (case cl_SELF_3 => k_is)
    (case cl_SELF_2 => k_is)
    (case cl_SELF_1 => k_is)
    (case cl_SELF_0 => k_is)
    (case n_bool => k_is)
    (case n_enumerate => k_is)
    (case n_int => k_is)
    (case n_isinstance => k_is)
    (case n_len => k_is)
    (case n_list => k_is)
    (case n_max => k_is)
    (case n_range => k_is)
    (case n_repr => k_is)
    (case n_sum => k_is)
    (case n_zip => k_is)
    (case ns_S => k_is)
    (case lk_S => k_is)
    (case gs_S => k_is)
    (case tk_S => k_is)
    (case any_S => k_is)
    (case msup_S => k_is)
    (case ns_InvalidList => k_is)
    (case lk_InvalidList => k_is)
    (case sa_InvalidList => k_is)
    (case ga_InvalidList => k_is)
    (case gg_InvalidList => k_is)
    (case nv_InvalidList => k_is)
    (case kp_InvalidList => k_is)
    (case hc_InvalidList => k_is)
    (case iC_InvalidList => k_is)
    (case sp_InvalidList => ks_is)
    (case lf_InvalidList => k_is)
    (case cd_InvalidList => k_is)
    (case lc_InvalidList => k_is)
    (case lt_InvalidList => k_is)
    (case lv_InvalidList => k_is)
    (case hv_InvalidList => first | rfl | decide +kernel)
    (case hf_InvalidList => first | rfl | decide +kernel)
    (case ns_InvalidTable => k_is)
    (case lk_InvalidTable => k_is)
    (case sa_InvalidTable => k_is)
    (case ga_InvalidTable => k_is)
    (case gg_InvalidTable => k_is)
    (case nv_InvalidTable => k_is)
    (case kp_InvalidTable => k_is)
    (case hc_InvalidTable => k_is)
    (case iC_InvalidTable => k_is)
    (case sp_InvalidTable => ks_is)
    (case lf_InvalidTable => k_is)
    (case cd_InvalidTable => k_is)
    (case lc_InvalidTable => k_is)
    (case lt_InvalidTable => k_is)
    (case lv_InvalidTable => k_is)
    (case hv_InvalidTable => first | rfl | decide +kernel)
    (case hf_InvalidTable => first | rfl | decide +kernel)
    (case a_l_base_3ec4 => k_is)
    (case l_l_base_3ec4 => k_is)
    (case e_l_base_3ec4 => k_is)
    (case k_l_base_3ec4 => k_is)
    (case a_l_self_a3eb => k_is)
    (case l_l_self_a3eb => k_is)
    (case e_l_self_a3eb => k_is)
    (case k_l_self_a3eb => k_is)
    (case a_l_hash_d8d1 => k_is)
    (case l_l_hash_d8d1 => k_is)
    (case e_l_hash_d8d1 => k_is)
    (case k_l_hash_d8d1 => k_is)
    (case a_l_random_7821 => k_is)
    (case l_l_random_7821 => k_is)
    (case e_l_random_7821 => k_is)
    (case k_l_random_7821 => k_is)
    (case a_l_stepped_3049 => k_is)
    (case l_l_stepped_3049 => k_is)
    (case e_l_stepped_3049 => k_is)
    (case k_l_stepped_3049 => k_is)
    (case a_is_whole => k_is)
    (case l_is_whole => k_is)
    (case e_is_whole => k_is)
    (case k_is_whole => k_is)
    (case a_is_path_list => k_is)
    (case l_is_path_list => k_is)
    (case e_is_path_list => k_is)
    (case k_is_path_list => k_is)
    (case a_check_table_x => k_is)
    (case l_check_table_x => k_is)
    (case e_check_table_x => k_is)
    (case k_check_table_x => k_is)
    (case a_turned_about_o => k_is)
    (case l_turned_about_o => k_is)
    (case e_turned_about_o => k_is)
    (case k_turned_about_o => k_is)
    (case a_path_led => k_is)
    (case l_path_led => k_is)
    (case e_path_led => k_is)
    (case k_path_led => k_is)
    (case a_table_times_o => k_is)
    (case l_table_times_o => k_is)
    (case e_table_times_o => k_is)
    (case k_table_times_o => k_is)
    (case a_table_product_o_x => k_is)
    (case l_table_product_o_x => k_is)
    (case e_table_product_o_x => k_is)
    (case k_table_product_o_x => k_is)
    (case a_l_columns_d906 => k_is)
    (case l_l_columns_d906 => k_is)
    (case e_l_columns_d906 => k_is)
    (case k_l_columns_d906 => k_is)
    (case a_l_led_ea66 => k_is)
    (case l_l_led_ea66 => k_is)
    (case e_l_led_ea66 => k_is)
    (case k_l_led_ea66 => k_is)
    (case a_l_product_3b0c => k_is)
    (case l_l_product_3b0c => k_is)
    (case e_l_product_3b0c => k_is)
    (case k_l_product_3b0c => k_is)
    (case a_l_path_108b => k_is)
    (case l_l_path_108b => k_is)
    (case e_l_path_108b => k_is)
    (case k_l_path_108b => k_is)
    (case a_check_path_x => k_is)
    (case l_check_path_x => k_is)
    (case e_check_path_x => k_is)
    (case k_check_path_x => k_is)
    (case a_path_led_o => k_is)
    (case l_path_led_o => k_is)
    (case e_path_led_o => k_is)
    (case k_path_led_o => k_is)
    (case a_led_path_o_x => k_is)
    (case l_led_path_o_x => k_is)
    (case e_led_path_o_x => k_is)
    (case k_led_path_o_x => k_is)
    (case a_l_crossing_3f18 => k_is)
    (case l_l_crossing_3f18 => k_is)
    (case e_l_crossing_3f18 => k_is)
    (case k_l_crossing_3f18 => k_is)
    (case a_l_keeps_2d4c => k_is)
    (case l_l_keeps_2d4c => k_is)
    (case e_l_keeps_2d4c => k_is)
    (case k_l_keeps_2d4c => k_is)
    (case a_crossing_by => k_is)
    (case l_crossing_by => k_is)
    (case e_crossing_by => k_is)
    (case k_crossing_by => k_is)
    (case a_keeps_by => k_is)
    (case l_keeps_by => k_is)
    (case e_keeps_by => k_is)
    (case k_keeps_by => k_is)
    (case a_keeps_crossings_x => k_is)
    (case l_keeps_crossings_x => k_is)
    (case e_keeps_crossings_x => k_is)
    (case k_keeps_crossings_x => k_is)
    (case a_back_of_o => k_is)
    (case l_back_of_o => k_is)
    (case e_back_of_o => k_is)
    (case k_back_of_o => k_is)
    (case a_table_back_o_x => k_is)
    (case l_table_back_o_x => k_is)
    (case e_table_back_o_x => k_is)
    (case k_table_back_o_x => k_is)
    (case a_l_refused_c25c => k_is)
    (case l_l_refused_c25c => k_is)
    (case e_l_refused_c25c => k_is)
    (case k_l_refused_c25c => k_is)
    (case a_l_back_51d9 => k_is)
    (case l_l_back_51d9 => k_is)
    (case e_l_back_51d9 => k_is)
    (case k_l_back_51d9 => k_is)
    (case a_l_one_right_7eef => k_is)
    (case l_l_one_right_7eef => k_is)
    (case e_l_one_right_7eef => k_is)
    (case k_l_one_right_7eef => k_is)
    (case a_l_right_b49f => k_is)
    (case l_l_right_b49f => k_is)
    (case e_l_right_b49f => k_is)
    (case k_l_right_b49f => k_is)
    (case a_l_cell_cf3b => k_is)
    (case l_l_cell_cf3b => k_is)
    (case e_l_cell_cf3b => k_is)
    (case k_l_cell_cf3b => k_is)
    (case a_l_generator_b324 => k_is)
    (case l_l_generator_b324 => k_is)
    (case e_l_generator_b324 => k_is)
    (case k_l_generator_b324 => k_is)
    (case a_l_law_de6b => k_is)
    (case l_l_law_de6b => k_is)
    (case e_l_law_de6b => k_is)
    (case k_l_law_de6b => k_is)
