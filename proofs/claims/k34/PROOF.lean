import PyProof.Rows.All
import Wide.All
import OpenK.AllK
import Wide.FinOn
import HandS.ForMost
import HandS.Exc
import HandS.ExcInit
import HandS.ExcField
import HandS.ExcIs
import KE.KExcSuper
import KE.KSuper
import HandS.Wide
import HandS.Flow
import HandS.Style
import HandS.Deep
import HandS.TupAny
import HandS.NoneIn
import HandS.IsInst
import HandS.WideBits
import HandS.Gcd
import HandS.Conv
import HandS.Zip
import HandS.SortRule
import HandS.SortInts
import KE.KSortTupAny
import HandS.TupSets
import KE.KSetDisp
import HandS.SetIn
import KE.KExcIs
import HandS.Iter
import KE.DataFind
import PyProof.ReprRoads
import PyProof.NeKinds
import PyProof.FactsAll.dict_2
import PyProof.FactsAll.subtypes_1
import HandS.Star
import PySem.Challenge.RW_slitsheets_k34_whole_outlines
set_option Elab.async false
set_option linter.all false
set_option maxRecDepth 100000
set_option maxHeartbeats 4000000
/-! XA: the package's own errors: their classes, and how one is made -/
namespace XA
open PySem PySem.W PySem.Calls PyProof.Rows PySem.HandSPX
def sheetTail : List Value := [.type "ValueError", .type "Exception", .type "BaseException", .type "object"]
def errTail (S : Addr) : List Value := .ref S :: sheetTail
/-- the common class of the errors stands at S -/
structure ShC (K : Frag) (S : Addr) : Prop where
  ns : nsIn K mainGlobals "SheetError" = some (some (.ref S))
  cls : ∃ q N bs sn sub ab col dd k0 k1 k2 k3 k5, K.lookup S = some (excClassObj "SheetError" q S N bs sheetTail true sn sub ab col dd k0 k1 k2 k3 k5 "ValueError.__new__")
/-- the error class x stands at C -/
structure ErC (K : Frag) (x : Str) (C S : Addr) : Prop where
  ns : nsIn K mainGlobals x = some (some (.ref C))
  sh : ShC K S
  ne : x ≠ "SheetError"
  cls : ∃ q N bs sn sub ab col dd k0 k1 k2 k3 k5, K.lookup C = some (excClassObj x q C N bs (errTail S) true sn sub ab col dd k0 k1 k2 k3 k5 "ValueError.__new__")
  sa : findIn K (.ref C) "__setattr__" = some (some (.builtin "object.__setattr__"))
  ga : findIn K (.ref C) "__getattribute__" = some (some (.builtin "BaseException.__getattribute__"))
  gg : findIn K (.ref C) "__getattr__" = some none
  nv : findIn K (.ref C) "value" = some none
  kp : keepIn K (.ref C) = true
  hc : findIn K (.ref C) "__class__" = some (some (.builtin "object.__class__"))
  gs : specialIn K (.builtin "object.__class__") "__get__" = some (some (.builtin "getset_descriptor.__get__"))
  tk : takesIn K (.builtin "object.__class__") = some true
section
variable {K : Frag} {x y : Str} {C D S S' : Addr}
theorem ErC.clsIn (T : ErC K x C S) : ∃ cd, PySem.W.clsIn K C = some cd ∧ cd.mro = .ref C :: errTail S ∧ cd.hasDict = true ∧ cd.name = x := by
  obtain ⟨q, N, bs, sn, sub, ab, col, dd, k0, k1, k2, k3, k5, h⟩ := T.cls
  exact ⟨_, by unfold PySem.W.clsIn; rw [h], rfl, rfl, rfl⟩
theorem ShC.clsIn (T : ShC K S) : ∃ cd, PySem.W.clsIn K S = some cd ∧ cd.mro = .ref S :: sheetTail ∧ cd.name = "SheetError" := by
  obtain ⟨q, N, bs, sn, sub, ab, col, dd, k0, k1, k2, k3, k5, h⟩ := T.cls
  exact ⟨_, by unfold PySem.W.clsIn; rw [h], rfl, rfl⟩
theorem ErC.ty (T : ErC K x C S) : typeIn K (.ref C) = some (.type "type") := by
  obtain ⟨q, N, bs, sn, sub, ab, col, dd, k0, k1, k2, k3, k5, h⟩ := T.cls
  show (K.lookup C).map (·.cls) = _
  rw [h]; rfl
theorem ShC.ty (T : ShC K S) : typeIn K (.ref S) = some (.type "type") := by
  obtain ⟨q, N, bs, sn, sub, ab, col, dd, k0, k1, k2, k3, k5, h⟩ := T.cls
  show (K.lookup S).map (·.cls) = _
  rw [h]; rfl
theorem ErC.sub (T : ErC K x C S) (b : Value) : subIn K (.ref C) b = some ((Value.ref C :: errTail S).contains b) := by
  obtain ⟨cd, h, hm, _⟩ := T.clsIn
  show mroIn K C b = _
  unfold mroIn
  rw [h, Option.bind_some, hm]; rfl
theorem ShC.sub (T : ShC K S) (b : Value) : subIn K (.ref S) b = some ((Value.ref S :: sheetTail).contains b) := by
  obtain ⟨cd, h, hm, _⟩ := T.clsIn
  show mroIn K S b = _
  unfold mroIn
  rw [h, Option.bind_some, hm]; rfl
theorem ErC.subT (T : ErC K x C S) (n : String) (h : sheetTail.contains (.type n) = true) : subIn K (.ref C) (.type n) = some true := by
  rw [T.sub]; show some (Value.type n == Value.ref C || (Value.type n == Value.ref S || sheetTail.contains (.type n))) = _
  rw [h, Bool.or_true, Bool.or_true]
/-- is an error of the class x one of the class y -/
def under (x y : Str) : Bool := x == y || y == "SheetError"
/-- a class of errors, with its name: one of them, or their common one -/
def AnyC (K : Frag) (y : Str) (D : Addr) : Prop := (∃ S, ErC K y D S) ∨ (y = "SheetError" ∧ ShC K D)
theorem AnyC.ty (A : AnyC K y D) : typeIn K (.ref D) = some (.type "type") := by
  rcases A with ⟨S', T'⟩ | ⟨rfl, T'⟩
  · exact T'.ty
  · exact T'.ty
theorem AnyC.base (A : AnyC K y D) : subIn K (.ref D) (.type "BaseException") = some true := by
  rcases A with ⟨S', T'⟩ | ⟨rfl, T'⟩
  · exact T'.subT "BaseException" (by decide)
  · rw [T'.sub]; show some (Value.type "BaseException" == Value.ref D || sheetTail.contains (.type "BaseException")) = _
    rw [show sheetTail.contains (.type "BaseException") = true by decide, Bool.or_true]
end
/-! ### an error is made -/
end XA
/-! XB: errors over the hand layer: one is made and raised; a try whose error stays known behind it -/
namespace XA
open PySem PySem.W PySem.Calls PyProof.Rows PySem.HandSPX
end XA
namespace L2
open PySem PySem.Spec PyProof.Rows XA
/-! ### try: the error is tracked from the suite on -/
/-- at a: an error of the class at C with its own dict at dd -/
def ErAt (a C dd : Addr) (h : Heap) : Prop := ∃ vs sl, h.get? a = some { cls := .ref C, dict := some dd, data := .fields vs, slots := sl }
def erO (a C dd : Addr) : HO := .ext (ErAt a C dd)
end L2
namespace XA
open PySem PySem.W PySem.Calls PyProof.Rows PySem.HandSPX
end XA
/-! DL1: data D, what represents it, the state of a def as plain data, the judgements -/
namespace DL
open PySem PySem.Spec PyProof.Rows L2
inductive D where
  | non
  | bl (b : Bool)
  | int (i : Int)
  | str (x : Str)
  | tup (l : List D)
  | lst (l : List D)
  | dct0
  | scr (ns : List Int)
  | own (k : Nat)
  | exc (x : Str) (d : D)
  | glb (x : Str)
  | val (v : V)
abbrev St := L2.St
abbrev Env := List (Option D)
inductive Own where
  | lst (ds : List D)
  | dead
abbrev Mem := List Own
/-- where the owned cells stand; the lists that are being made out of sight -/
structure Ph where
  cells : List Addr
  hid : List (Addr × HO)
abbrev Ph.add (ph : Ph) (p : Addr) : Ph := { ph with cells := ph.cells ++ [p] }
abbrev Ph.cut (ph : Ph) (n : Nat) : Ph := { ph with cells := ph.cells.take n }
abbrev fVal : Str := "value"
/-- a tuple that stands still: one that was made, or one of the module's -/
def TupK (K : PySem.W.Frag) (S : Hp) (a : Addr) (xs : List V) : Prop := S a = some (.tup xs) ∨
  ∃ (o : Obj) (its : Array Value) (n : Nat), K.lookup a = some o ∧ o.cls = .type "tuple" ∧ o.data = .seq its n ∧ its.size ≤ sizeLine ∧ Vals xs its.toList
theorem TupK.ext {K : PySem.W.Frag} {S S' : Hp} {a : Addr} {xs : List V} (h : TupK K S a xs) (s : Same S S') : TupK K S' a xs := h.imp (fun z => s _ _ z) fun z => z
theorem TupK.sq {K : PySem.W.Frag} {S H : Hp} {a : Addr} {xs : List V} (h : TupK K S a xs) (s : Same S H) : SqT K H a xs := h.elim (fun z => SqT.of (s _ _ z)) .inr
mutual
inductive Rep (K : PySem.W.Frag) (ph : Ph) (S : Hp) : V → D → Prop
  | non : Rep K ph S .non .non
  | bl (b : Bool) : Rep K ph S (.bl b) (.bl b)
  | int (i : Int) : Rep K ph S (.int i) (.int i)
  | str (x : Str) : Rep K ph S (.str x) (.str x)
  | tup {a : Addr} {xs : List V} {ds : List D} : TupK K S a xs → RepAll K ph S xs ds → Rep K ph S (.ref a) (.tup ds)
  | lst {a : Addr} {xs : List V} {ds : List D} : S a = some (.lst xs) → RepAll K ph S xs ds → Rep K ph S (.ref a) (.lst ds)
  | scr {a : Addr} {ns : List Int} : SqL K S a (ns.map V.int) → Rep K ph S (.ref a) (.scr ns)
  | dct0 {a : Addr} : S a = some (.dK []) → Rep K ph S (.ref a) .dct0
  | own {a : Addr} {k : Nat} : ph.cells[k]? = some a → Rep K ph S (.ref a) (.own k)
  | exc {a C T dd : Addr} {x : Str} {v : V} {d : D} : XA.ErC K x C T → S a = some (erO a C dd) → S dd = some (.xd [(fVal, v)]) → Rep K ph S v d → Rep K ph S (.ref a) (.exc x d)
  | glb {a : Addr} {x : Str} : PySem.W.nsIn K mainGlobals x = some (some (.ref a)) → Rep K ph S (.ref a) (.glb x)
  | val (v : V) : Rep K ph S v (.val v)
inductive RepAll (K : PySem.W.Frag) (ph : Ph) (S : Hp) : List V → List D → Prop
  | nil : RepAll K ph S [] []
  | cons {v : V} {vs : List V} {d : D} {ds : List D} : Rep K ph S v d → RepAll K ph S vs ds → RepAll K ph S (v :: vs) (d :: ds)
end
structure Ext (ph : Ph) (S : Hp) (ph' : Ph) (S' : Hp) : Prop where
  pre : ∀ (k : Nat) (a : Addr), ph.cells[k]? = some a → ph'.cells[k]? = some a
  same : Same S S'
  hid : ph'.hid = ph.hid
theorem Ext.refl {ph : Ph} {S : Hp} : Ext ph S ph S := ⟨fun _ _ h => h, fun _ _ h => h, rfl⟩
theorem Ext.trans {ph ph1 ph2 : Ph} {S S1 S2 : Hp} (a : Ext ph S ph1 S1) (b : Ext ph1 S1 ph2 S2) : Ext ph S ph2 S2 :=
  ⟨fun k x h => b.pre k x (a.pre k x h), a.same.trans b.same, b.hid.trans a.hid⟩
section
variable {K : PySem.W.Frag} {ph ph' : Ph} {S S' : Hp}
mutual
theorem Rep.ext (x : Ext ph S ph' S') : ∀ (d : D) (v : V), Rep K ph S v d → Rep K ph' S' v d
  | .non, _, h => by cases h; exact .non
  | .bl _, _, h => by cases h; exact .bl _
  | .int _, _, h => by cases h; exact .int _
  | .str _, _, h => by cases h; exact .str _
  | .tup ds, _, h => by
    cases h with
    | tup h1 h2 => exact .tup (h1.ext x.same) (RepAll.ext x ds _ h2)
  | .lst ds, _, h => by
    cases h with
    | lst h1 h2 => exact .lst (x.same _ _ h1) (RepAll.ext x ds _ h2)
  | .dct0, _, h => by
    cases h with
    | dct0 h1 => exact .dct0 (x.same _ _ h1)
  | .scr ns, _, h => by
    cases h with
    | scr h1 => exact .scr (x.same.seq h1)
  | .own k, _, h => by
    cases h with
    | own h1 => exact .own (x.pre _ _ h1)
  | .glb _, _, h => by
    cases h with
    | glb h1 => exact .glb h1
  | .exc C d, _, h => by
    cases h with
    | exc h0 h1 h2 h3 => exact .exc h0 (x.same _ _ h1) (x.same _ _ h2) (Rep.ext x d _ h3)
  | .val v, _, h => by cases h; exact .val _
theorem RepAll.ext (x : Ext ph S ph' S') : ∀ (ds : List D) (vs : List V), RepAll K ph S vs ds → RepAll K ph' S' vs ds
  | [], _, h => by cases h; exact .nil
  | d :: ds, _, h => by
    cases h with
    | cons h1 h2 => exact .cons (Rep.ext x d _ h1) (RepAll.ext x ds _ h2)
end
theorem Rep.up {d : D} {v : V} (h : Rep K ph S v d) (x : Ext ph S ph' S') : Rep K ph' S' v d := Rep.ext x d v h
theorem RepAll.up {ds : List D} {vs : List V} (h : RepAll K ph S vs ds) (x : Ext ph S ph' S') : RepAll K ph' S' vs ds := RepAll.ext x ds vs h
theorem RepAll.len : ∀ {vs : List V} {ds : List D}, RepAll K ph S vs ds → vs.length = ds.length
  | _, _, .nil => rfl
  | _, _, .cons _ t => by rw [List.length_cons, List.length_cons, RepAll.len t]
theorem RepAll.get : ∀ {vs : List V} {ds : List D} {i : Nat} {d : D}, RepAll K ph S vs ds → ds[i]? = some d → ∃ v, vs[i]? = some v ∧ Rep K ph S v d
  | _, _, _, _, .nil, e => by simp at e
  | _, _, 0, _, .cons r _, e => by simp at e; subst e; exact ⟨_, rfl, r⟩
  | _, _, i + 1, _, .cons _ t, e => by
    obtain ⟨v, e1, r⟩ := RepAll.get (i := i) t (by simpa using e)
    exact ⟨v, by simpa using e1, r⟩
theorem RepAll.app : ∀ {vs ws : List V} {ds es : List D}, RepAll K ph S vs ds → RepAll K ph S ws es → RepAll K ph S (vs ++ ws) (ds ++ es)
  | _, _, _, _, .nil, q => q
  | _, _, _, _, .cons r t, q => .cons r (RepAll.app t q)
theorem RepAll.take : ∀ {vs : List V} {ds : List D} (n : Nat), RepAll K ph S vs ds → RepAll K ph S (vs.take n) (ds.take n)
  | _, _, 0, _ => .nil
  | _, _, _ + 1, .nil => .nil
  | _, _, n + 1, .cons r t => .cons r (RepAll.take n t)
theorem RepAll.drop : ∀ {vs : List V} {ds : List D} (n : Nat), RepAll K ph S vs ds → RepAll K ph S (vs.drop n) (ds.drop n)
  | _, _, 0, r => r
  | _, _, _ + 1, .nil => .nil
  | _, _, n + 1, .cons r t => RepAll.drop n t
theorem RepAll.set {v : V} {d : D} (r : Rep K ph S v d) : ∀ {vs : List V} {ds : List D} (i : Nat), RepAll K ph S vs ds → RepAll K ph S (vs.set i v) (ds.set i d)
  | _, _, _, .nil => .nil
  | _, _, 0, .cons _ t => .cons r t
  | _, _, i + 1, .cons q t => .cons q (RepAll.set r i t)
theorem RepAll.rep {v : V} {d : D} (r : Rep K ph S v d) : ∀ n : Nat, RepAll K ph S (List.replicate n v) (List.replicate n d)
  | 0 => .nil
  | n + 1 => .cons r (RepAll.rep r n)
theorem RepAll.ints : ∀ ns : List Int, RepAll K ph S (ns.map V.int) (ns.map D.int)
  | [] => .nil
  | n :: ns => .cons (.int n) (RepAll.ints ns)
end
/-- the state (σ, H) is told by the names' data ρ and the owned cells M -/
structure Sat (K : PySem.W.Frag) (ph : Ph) (S : Hp) (r : Env) (M : Mem) (σ : St) (H : Hp) : Prop where
  sub : Same S H
  len : ph.cells.length = M.length
  nd : ph.cells.Nodup
  trk : ∀ (k : Nat) (a : Addr), ph.cells[k]? = some a → ∃ o, H a = some o
  cell : ∀ (k : Nat) (ds : List D), M[k]? = some (.lst ds) → ∃ a xs, ph.cells[k]? = some a ∧ S a = none ∧ H a = some (.lst xs) ∧ RepAll K ph S xs ds
  hid : ∀ p ∈ ph.hid, H p.1 = some p.2 ∧ S p.1 = none ∧ p.1 ∉ ph.cells
  hnd : (ph.hid.map (·.1)).Nodup
  el : r.length = σ.length
  env : ∀ (i : Nat) (d : D), r[i]? = some (some d) → ∃ v, σ[i]? = some (some v) ∧ Rep K ph S v d
abbrev DQ := D → Mem → Prop
abbrev DTE := Env → Mem → DQ → Prop
abbrev DTT := Env → Mem → (Bool → Mem → Prop) → Prop
abbrev DTA := Env → Mem → (List D → Mem → Prop) → Prop
structure DEnds where
  nx : Env → Mem → Prop
  rt : DQ
  bk : Env → Mem → Prop := fun _ _ => False
  ct : Env → Mem → Prop := fun _ _ => False
abbrev DTS := DEnds → Env → Mem → Prop
/-- behind a piece, from (ph, S): the state as it is then, and what is wanted of it -/
def Aft (K : PySem.W.Frag) (ph : Ph) (S : Hp) (r : Env) (σ : St) (H : Hp) (Q : Ph → Hp → Mem → Prop) : Prop :=
  ∃ ph' S' M, Ext ph S ph' S' ∧ Sat K ph' S' r M σ H ∧ Q ph' S' M
def post (K : PySem.W.Frag) (ph : Ph) (S : Hp) (r : Env) (σ : St) (Q : DQ) : VK := fun v H => Aft K ph S r σ H fun ph' S' M => ∃ d, Rep K ph' S' v d ∧ Q d M
def postT (K : PySem.W.Frag) (ph : Ph) (S : Hp) (r : Env) (σ : St) (Q : Bool → Mem → Prop) : Bool → Hp → Prop := fun b H => Aft K ph S r σ H fun _ _ M => Q b M
def postA (K : PySem.W.Frag) (ph : Ph) (S : Hp) (r : Env) (σ : St) (Q : List D → Mem → Prop) : List V → Hp → Prop := fun vs H => Aft K ph S r σ H fun ph' S' M => ∃ ds, RepAll K ph' S' vs ds ∧ Q ds M
def postN (K : PySem.W.Frag) (ph : Ph) (S : Hp) (Q : Env → Mem → Prop) : St → Hp → Prop := fun σ H => ∃ r, Aft K ph S r σ H fun _ _ M => Q r M
/-- behind a return the names are gone -/
def postR (K : PySem.W.Frag) (ph : Ph) (S : Hp) (Q : DQ) : VK := fun v H => ∃ r σ, post K ph S r σ Q v H
structure DE (X : Cx) (e : Expr) (t : DTE) : Prop where
  pe : PE X e (fun σ H Q => ∃ ph S r M Q0, Sat X.K ph S r M σ H ∧ t r M Q0 ∧ ∀ v H', post X.K ph S r σ Q0 v H' → Q v H')
structure DT (X : Cx) (e : Expr) (t : DTT) : Prop where
  pt : PT X e (fun σ H Q => ∃ ph S r M Q0, Sat X.K ph S r M σ H ∧ t r M Q0 ∧ ∀ b H', postT X.K ph S r σ Q0 b H' → Q b H')
structure DW (X : Cx) (e : Expr) (t : DTT) : Prop where
  pw : PW X e (fun σ H Q => ∃ ph S r M Q0, Sat X.K ph S r M σ H ∧ t r M Q0 ∧ ∀ b H', postT X.K ph S r σ Q0 b H' → Q b H')
structure DA (X : Cx) (es : List Expr) (t : DTA) : Prop where
  pa : PA X es (fun σ H Q => ∃ ph S r M Q0, Sat X.K ph S r M σ H ∧ t r M Q0 ∧ ∀ vs H', postA X.K ph S r σ Q0 vs H' → Q vs H')
def lfS (K : PySem.W.Frag) (t : DTS) : TS := fun E σ H => ∃ ph S r M E0, Sat K ph S r M σ H ∧ t E0 r M ∧ (∀ σ' H', postN K ph S E0.nx σ' H' → E.nx σ' H') ∧ (∀ v H', postR K ph S E0.rt v H' → E.rt v H') ∧ (∀ σ' H', postN K ph S E0.bk σ' H' → E.bk σ' H') ∧ (∀ σ' H', postN K ph S E0.ct σ' H' → E.ct σ' H')
structure DS (X : Cx) (st : Stmt) (t : DTS) : Prop where
  ps : PS X st (lfS X.K t)
structure DSs (X : Cx) (sts : List Stmt) (t : DTS) : Prop where
  pss : PSs X sts (lfS X.K t)
/-! ### weakening the hand layer's judgements -/
section
variable {X : Cx}
theorem PE.weak {e : Expr} {t t' : TE} (h : PE X e t) (w : ∀ σ H Q, t' σ H Q → t σ H Q) : PE X e t' := ⟨fun pins s σ H Q I q => h.run pins s σ H Q I (w _ _ _ q)⟩
theorem PT.weak {e : Expr} {t t' : TT} (h : PT X e t) (w : ∀ σ H Q, t' σ H Q → t σ H Q) : PT X e t' := ⟨fun pins s σ H Q I q => h.run pins s σ H Q I (w _ _ _ q)⟩
theorem PW.weak {e : Expr} {t t' : TT} (h : PW X e t) (w : ∀ σ H Q, t' σ H Q → t σ H Q) : PW X e t' := ⟨fun wh pins s σ H Q I q => h.run wh pins s σ H Q I (w _ _ _ q)⟩
theorem PA.weak {e : List Expr} {t t' : TA} (h : PA X e t) (w : ∀ σ H Q, t' σ H Q → t σ H Q) : PA X e t' := ⟨fun pos pins s σ H Q I q => h.run pos pins s σ H Q I (w _ _ _ q)⟩
theorem PS.weak {e : Stmt} {t t' : TS} (h : PS X e t) (w : ∀ E σ H, t' E σ H → t E σ H) : PS X e t' := ⟨fun pins s σ H Q I q => h.run pins s σ H Q I (w _ _ _ q)⟩
theorem PSs.weak {e : List Stmt} {t t' : TS} (h : PSs X e t) (w : ∀ E σ H, t' E σ H → t E σ H) : PSs X e t' := ⟨fun pins s σ H Q I q => h.run pins s σ H Q I (w _ _ _ q)⟩
/-- from a rule of the hand layer -/
theorem DE.of {e : Expr} {t' : TE} {t : DTE} (h : PE X e t') (w : ∀ ph S r M σ H Q, Sat X.K ph S r M σ H → t r M Q → ∀ Q', (∀ v H', post X.K ph S r σ Q v H' → Q' v H') → t' σ H Q') : DE X e t :=
  ⟨PE.weak h fun σ H Q ⟨ph, S, r, M, Q0, hs, ht, hq⟩ => w ph S r M σ H Q0 hs ht Q hq⟩
theorem DT.of {e : Expr} {t' : TT} {t : DTT} (h : PT X e t') (w : ∀ ph S r M σ H Q, Sat X.K ph S r M σ H → t r M Q → ∀ Q', (∀ v H', postT X.K ph S r σ Q v H' → Q' v H') → t' σ H Q') : DT X e t :=
  ⟨PT.weak h fun σ H Q ⟨ph, S, r, M, Q0, hs, ht, hq⟩ => w ph S r M σ H Q0 hs ht Q hq⟩
theorem DW.of {e : Expr} {t' : TT} {t : DTT} (h : PW X e t') (w : ∀ ph S r M σ H Q, Sat X.K ph S r M σ H → t r M Q → ∀ Q', (∀ v H', postT X.K ph S r σ Q v H' → Q' v H') → t' σ H Q') : DW X e t :=
  ⟨PW.weak h fun σ H Q ⟨ph, S, r, M, Q0, hs, ht, hq⟩ => w ph S r M σ H Q0 hs ht Q hq⟩
theorem DA.of {e : List Expr} {t' : TA} {t : DTA} (h : PA X e t') (w : ∀ ph S r M σ H Q, Sat X.K ph S r M σ H → t r M Q → ∀ Q', (∀ v H', postA X.K ph S r σ Q v H' → Q' v H') → t' σ H Q') : DA X e t :=
  ⟨PA.weak h fun σ H Q ⟨ph, S, r, M, Q0, hs, ht, hq⟩ => w ph S r M σ H Q0 hs ht Q hq⟩
/-- the end of a reading: this value, this state -/
theorem Aft.here {K : PySem.W.Frag} {ph : Ph} {S : Hp} {r : Env} {σ : St} {H : Hp} {M : Mem} {Q : Ph → Hp → Mem → Prop} (h : Sat K ph S r M σ H) (q : Q ph S M) : Aft K ph S r σ H Q := ⟨ph, S, M, .refl, h, q⟩
theorem Aft.up {K : PySem.W.Frag} {ph ph1 : Ph} {S S1 : Hp} {r : Env} {σ : St} {H : Hp} {Q : Ph → Hp → Mem → Prop} (x : Ext ph S ph1 S1) (h : Aft K ph1 S1 r σ H Q) : Aft K ph S r σ H Q :=
  let ⟨ph', S', M, x', hs, q⟩ := h
  ⟨ph', S', M, x.trans x', hs, q⟩
/-! ### the simplest expressions -/
def dC (d : D) : DTE := fun _ M Q => Q d M
theorem de_c {e : Expr} {v : V} {d : D} (h : PE X e (tC v)) (hr : ∀ ph S, Rep X.K ph S v d) : DE X e (dC d) :=
  DE.of h fun ph S r M σ H Q hs ht Q' hq => hq _ _ (Aft.here hs ⟨d, hr _ _, ht⟩)
theorem de_int {i j pos} : DE X (.Constant (.int i) j pos) (dC (.int i)) := de_c pe_int fun _ _ => .int _
theorem de_bl {b j pos} : DE X (.Constant (.bool b) j pos) (dC (.bl b)) := de_c pe_bl fun _ _ => .bl _
theorem de_non {j pos} : DE X (.Constant .none j pos) (dC .non) := de_c pe_non fun _ _ => .non
def dVar (i : Nat) : DTE := fun r M Q => match r[i]? with
  | some (some d) => Q d M
  | _ => False
theorem de_var {e : Expr} (i : Nat) (h : PE X e (tVar i)) : DE X e (dVar i) :=
  DE.of h fun ph S r M σ H Q hs ht Q' hq => by
    unfold dVar at ht
    split at ht
    · rename_i d e
      obtain ⟨v, e1, rv⟩ := hs.env i d e
      exact ⟨v, e1, hq _ _ (Aft.here hs ⟨d, rv, ht⟩)⟩
    · exact ht.elim
/-- the name in slot i -/
theorem dv (i : Nat) {x : Str} {pos : Pos} (hN : X.N[i]? = some x := by rfl) (hv : Vis X.env.scope x := by first | exact Or.inl rfl | exact Or.inr (Or.inl rfl) | exact Or.inr (Or.inr rfl)) (hd : (x == ("__debug__" : Str)) = false := by decide)
    (hcd : (x == ("__classdict__" : Str)) = false := by decide) : DE X (.Name x pos) (dVar i) := de_var i (pe_var hN hv hd hcd)
end
end DL
/-! DL2: heaps that change; data as PyData; operators -/
namespace DL
open PySem PySem.Spec PyProof.Rows L2
mutual
def toPy : D → Option PyData
  | .non => some .none
  | .bl b => some (.bool b)
  | .int i => some (.int i)
  | .str x => some (.str x)
  | .tup l => match toPyAll l with
    | some ps => some (.tuple ps)
    | none => none
  | .lst l => match toPyAll l with
    | some ps => some (.list ps)
    | none => none
  | .dct0 => some (.dict [])
  | .scr _ => none
  | .own _ => none
  | .exc _ _ => none
  | .glb _ => none
  | .val _ => none
def toPyAll : List D → Option (List PyData)
  | [] => some []
  | d :: ds => match toPy d, toPyAll ds with
    | some p, some ps => some (p :: ps)
    | _, _ => none
end
section
variable {K : PySem.W.Frag} {ph ph' : Ph} {S S' : Hp} {r : Env} {M : Mem} {σ : St} {H : Hp} {p : Addr}
mutual
theorem Rep.hidP {c : List Addr} {l l' : List (Addr × HO)} : ∀ (d : D) (v : V), Rep K ⟨c, l⟩ S v d → Rep K ⟨c, l'⟩ S v d
  | .non, _, h => by cases h; exact .non
  | .bl _, _, h => by cases h; exact .bl _
  | .int _, _, h => by cases h; exact .int _
  | .str _, _, h => by cases h; exact .str _
  | .tup ds, _, h => by
    cases h with
    | tup h1 h2 => exact .tup h1 (RepAll.hidP ds _ h2)
  | .lst ds, _, h => by
    cases h with
    | lst h1 h2 => exact .lst h1 (RepAll.hidP ds _ h2)
  | .dct0, _, h => by
    cases h with
    | dct0 h1 => exact .dct0 h1
  | .scr ns, _, h => by
    cases h with
    | scr h1 => exact .scr h1
  | .own k, _, h => by
    cases h with
    | own h1 => exact .own h1
  | .glb _, _, h => by
    cases h with
    | glb h1 => exact .glb h1
  | .exc C d, _, h => by
    cases h with
    | exc h0 h1 h2 h3 => exact .exc h0 h1 h2 (Rep.hidP d _ h3)
  | .val v, _, h => by cases h; exact .val _
theorem RepAll.hidP {c : List Addr} {l l' : List (Addr × HO)} : ∀ (ds : List D) (vs : List V), RepAll K ⟨c, l⟩ S vs ds → RepAll K ⟨c, l'⟩ S vs ds
  | [], _, h => by cases h; exact .nil
  | d :: ds, _, h => by
    cases h with
    | cons h1 h2 => exact .cons (Rep.hidP d _ h1) (RepAll.hidP ds _ h2)
end
theorem Rep.hid {c : List Addr} {l l' : List (Addr × HO)} {d : D} {v : V} (h : Rep K ⟨c, l⟩ S v d) : Rep K ⟨c, l'⟩ S v d := Rep.hidP d v h
theorem RepAll.hid {c : List Addr} {l l' : List (Addr × HO)} {d : List D} {v : List V} (h : RepAll K ⟨c, l⟩ S v d) : RepAll K ⟨c, l'⟩ S v d := RepAll.hidP d v h
theorem Sat.read {d : D} {v : V} (h : Sat K ph S r M σ H) (q : Rep K ph S v d) : Rep K ph H v d := q.up ⟨fun _ _ e => e, h.sub, rfl⟩
theorem Sat.readAll {d : List D} {v : List V} (h : Sat K ph S r M σ H) (q : RepAll K ph S v d) : RepAll K ph H v d := q.up ⟨fun _ _ e => e, h.sub, rfl⟩
theorem Sat.noS (h : Sat K ph S r M σ H) (hp : H p = none) : S p = none := h.sub.free hp
theorem Sat.notin (h : Sat K ph S r M σ H) (hp : H p = none) : ∀ (k : Nat), ph.cells[k]? ≠ some p := fun k e => by
  obtain ⟨o, ho⟩ := h.trk k p e
  rw [hp] at ho; cases ho
theorem sameUpd {p : Addr} {o : HO} (h : H p = none) : Same H (upd H p o) := fun b x e => by
  rw [upd_ne (ne_of_none e h)]
  exact e
/-- a new object that is only read -/
theorem Sat.frz (h : Sat K ph S r M σ H) (hp : H p = none) (o : HO) : Ext ph S ph (upd S p o) ∧ Sat K ph (upd S p o) r M σ (upd H p o) := by
  have x : Ext ph S ph (upd S p o) := ⟨fun _ _ e => e, sameUpd (h.noS hp), rfl⟩
  refine ⟨x, fun b y e => ?_, h.len, h.nd, fun k a e => ?_, fun k ds e => ?_, fun q hq => ?_, h.hnd, h.el, fun i d e => ?_⟩
  · by_cases hb : b = p
    · rw [hb, upd_same] at e ⊢
      exact e
    · rw [upd_ne hb] at e ⊢
      exact h.sub b y e
  · obtain ⟨u, hu⟩ := h.trk k a e
    exact ⟨u, sameUpd hp _ _ hu⟩
  · obtain ⟨a, xs, h1, h2, h3, h4⟩ := h.cell k ds e
    have ne : a ≠ p := fun z => by rw [z, hp] at h3; cases h3
    refine ⟨a, xs, h1, ?_, ?_, h4.up x⟩
    · rw [upd_ne ne]; exact h2
    · rw [upd_ne ne]; exact h3
  · obtain ⟨h1, h2, h3⟩ := h.hid q hq
    have ne : q.1 ≠ p := fun z => by rw [z, hp] at h1; cases h1
    exact ⟨by rw [upd_ne ne]; exact h1, by rw [upd_ne ne]; exact h2, h3⟩
  · obtain ⟨v, e1, q⟩ := h.env i d e
    exact ⟨v, e1, q.up x⟩
/-- a new list that may be changed -/
theorem Sat.new (h : Sat K ph S r M σ H) (hp : H p = none) {xs : List V} {ds : List D} (hr : RepAll K ph S xs ds) :
    Ext ph S (ph.add p) S ∧ Sat K (ph.add p) S r (M ++ [.lst ds]) σ (upd H p (.lst xs)) ∧ (ph.add p).cells[M.length]? = some p := by
  have x : Ext ph S (ph.add p) S := ⟨fun k a e => by
    rw [List.getElem?_append_left (List.getElem?_eq_some_iff.mp e).1]; exact e, fun _ _ e => e, rfl⟩
  have here : (ph.add p).cells[M.length]? = some p := by
    rw [← h.len, List.getElem?_append_right (Nat.le_refl _), Nat.sub_self]; rfl
  have old : ∀ (k : Nat) (a : Addr), (ph.add p).cells[k]? = some a → ph.cells[k]? = some a ∨ (k = ph.cells.length ∧ a = p) := fun k a e => by
    by_cases hk : k < ph.cells.length
    · rw [List.getElem?_append_left hk] at e
      exact .inl e
    · rw [List.getElem?_append_right (by omega)] at e
      cases hk' : k - ph.cells.length with
      | zero =>
        rw [hk'] at e
        exact .inr ⟨by omega, (Option.some.inj e).symm⟩
      | succ n => rw [hk'] at e; simp at e
  refine ⟨x, ⟨fun b y e => sameUpd hp _ _ (h.sub b y e), by rw [List.length_append, List.length_append, h.len]; rfl, ?_, fun k a e => ?_, fun k es e => ?_, fun q hq => ?_, h.hnd, h.el, fun i d e => ?_⟩, here⟩
  · rw [List.nodup_append]
    refine ⟨h.nd, by simp, fun a ha b hb z => ?_⟩
    have hb' : b = p := by simpa using hb
    obtain ⟨k, hk⟩ := List.mem_iff_getElem?.mp ha
    exact h.notin hp k (by rw [hk, z, hb'])
  · rcases old k a e with q | ⟨_, q⟩
    · obtain ⟨u, hu⟩ := h.trk k a q
      exact ⟨u, sameUpd hp _ _ hu⟩
    · exact ⟨_, by rw [q, upd_same]⟩
  · by_cases hk : k < M.length
    · rw [List.getElem?_append_left hk] at e
      obtain ⟨a, ys, h1, h2, h3, h4⟩ := h.cell k es e
      exact ⟨a, ys, x.pre _ _ h1, h2, sameUpd hp _ _ h3, h4.up x⟩
    · rw [List.getElem?_append_right (by omega)] at e
      cases hk' : k - M.length with
      | succ n => rw [hk'] at e; simp at e
      | zero =>
        rw [hk'] at e
        have e' : ds = es := by simpa using e
        have k' : k = M.length := by omega
        subst e'
        subst k'
        exact ⟨p, xs, here, h.noS hp, upd_same, hr.up x⟩
  · obtain ⟨h1, h2, h3⟩ := h.hid q hq
    have ne : q.1 ≠ p := fun z => by rw [z, hp] at h1; cases h1
    exact ⟨by rw [upd_ne ne]; exact h1, h2, fun z => (List.mem_append.mp z).elim h3 fun z => ne (by simpa using z)⟩
  · obtain ⟨v, e1, q⟩ := h.env i d e
    exact ⟨v, e1, q.up x⟩
theorem nd_ix {l : List Addr} (hN : l.Nodup) {i j : Nat} {x : Addr} (a : l[i]? = some x) (b : l[j]? = some x) : i = j := by
  obtain ⟨h1, e1⟩ := List.getElem?_eq_some_iff.mp a
  obtain ⟨h2, e2⟩ := List.getElem?_eq_some_iff.mp b
  exact (List.getElem_inj hN).mp (e1.trans e2.symm)
/-- an owned list is changed -/
theorem Sat.put (h : Sat K ph S r M σ H) {k : Nat} {ds es : List D} {xs : List V} (hk : M[k]? = some (.lst ds)) {a : Addr} (ha : ph.cells[k]? = some a) (hr : RepAll K ph S xs es) :
    Sat K ph S r (M.set k (.lst es)) σ (upd H a (.lst xs)) := by
  obtain ⟨a', ys, h1, h2, h3, h4⟩ := h.cell k ds hk
  rw [ha] at h1
  cases h1
  have kl : k < M.length := (List.getElem?_eq_some_iff.mp hk).1
  refine ⟨fun b y e => ?_, by rw [List.length_set]; exact h.len, h.nd, fun j b e => ?_, fun j fs e => ?_, fun q hq => ?_, h.hnd, h.el, h.env⟩
  · rw [upd_ne (fun z => by rw [z, h2] at e; cases e)]
    exact h.sub b y e
  · by_cases hb : b = a
    · exact ⟨_, by rw [hb, upd_same]⟩
    · rw [upd_ne hb]; exact h.trk j b e
  · by_cases hj : j = k
    · subst hj
      rw [List.getElem?_set_self kl] at e
      cases e
      exact ⟨a, xs, ha, h2, upd_same, hr⟩
    · rw [List.getElem?_set_ne (Ne.symm hj)] at e
      obtain ⟨b, zs, q1, q2, q3, q4⟩ := h.cell j fs e
      have nb : b ≠ a := fun z => by rw [z] at q1; exact hj (nd_ix h.nd q1 ha)
      exact ⟨b, zs, q1, q2, by rw [upd_ne nb]; exact q3, q4⟩
  · obtain ⟨h1, h2, h3⟩ := h.hid q hq
    have ne : q.1 ≠ a := fun z => h3 (by rw [z]; exact List.mem_of_getElem? ha)
    exact ⟨by rw [upd_ne ne]; exact h1, h2, h3⟩
/-- an owned list is changed no more -/
theorem Sat.freeze (h : Sat K ph S r M σ H) {k : Nat} {ds : List D} (hk : M[k]? = some (.lst ds)) :
    ∃ a xs, ph.cells[k]? = some a ∧ Ext ph S ph (upd S a (.lst xs)) ∧ Sat K ph (upd S a (.lst xs)) r (M.set k .dead) σ H ∧ Rep K ph (upd S a (.lst xs)) (.ref a) (.lst ds) := by
  obtain ⟨a, xs, h1, h2, h3, h4⟩ := h.cell k ds hk
  have x : Ext ph S ph (upd S a (.lst xs)) := ⟨fun _ _ e => e, sameUpd h2, rfl⟩
  refine ⟨a, xs, h1, x, ⟨fun b y e => ?_, by rw [List.length_set]; exact h.len, h.nd, h.trk, fun j fs e => ?_, fun q hq => ?_, h.hnd, h.el, fun i d e => ?_⟩, .lst upd_same (h4.up x)⟩
  · by_cases hb : b = a
    · rw [hb, upd_same] at e
      rw [hb, ← e]; exact h3
    · rw [upd_ne hb] at e
      exact h.sub b y e
  · have kl : k < M.length := (List.getElem?_eq_some_iff.mp hk).1
    by_cases hj : j = k
    · subst hj
      rw [List.getElem?_set_self kl] at e
      cases e
    · rw [List.getElem?_set_ne (Ne.symm hj)] at e
      obtain ⟨b, zs, q1, q2, q3, q4⟩ := h.cell j fs e
      have nb : b ≠ a := fun z => by rw [z] at q1; exact hj (nd_ix h.nd q1 h1)
      exact ⟨b, zs, q1, by rw [upd_ne nb]; exact q2, q3, q4.up x⟩
  · obtain ⟨g1, g2, g3⟩ := h.hid q hq
    have ne : q.1 ≠ a := fun z => g3 (by rw [z]; exact List.mem_of_getElem? h1)
    exact ⟨g1, by rw [upd_ne ne]; exact g2, g3⟩
  · obtain ⟨v, e1, q⟩ := h.env i d e
    exact ⟨v, e1, q.up x⟩
/-- the names change -/
theorem Sat.setN (h : Sat K ph S r M σ H) {i : Nat} {d : D} {v : V} (q : Rep K ph S v d) : Sat K ph S (r.set i (some d)) M (σ.set i (some v)) H := by
  refine ⟨h.sub, h.len, h.nd, h.trk, h.cell, h.hid, h.hnd, by rw [List.length_set, List.length_set]; exact h.el, fun j e hj => ?_⟩
  by_cases hi : j = i
  · subst hi
    have jl : j < r.length := by
      have := (List.getElem?_eq_some_iff.mp hj).1
      rwa [List.length_set] at this
    rw [List.getElem?_set_self jl] at hj
    cases hj
    exact ⟨v, by rw [List.getElem?_set_self (by rw [← h.el]; exact jl)], q⟩
  · rw [List.getElem?_set_ne (Ne.symm hi)] at hj
    rw [List.getElem?_set_ne (Ne.symm hi)]
    exact h.env j e hj
/-- a new list, out of sight while it is made -/
theorem Sat.hide (h : Sat K ph S r M σ H) (hp : H p = none) (o : HO) : Sat K { ph with hid := (p, o) :: ph.hid } S r M σ (upd H p o) := by
  refine ⟨fun b y e => sameUpd hp _ _ (h.sub b y e), h.len, h.nd, fun k a e => ?_, fun k ds e => ?_, fun q hq => ?_, ?_, h.el, fun i d e => ?_⟩
  · obtain ⟨u, hu⟩ := h.trk k a e
    exact ⟨u, sameUpd hp _ _ hu⟩
  · obtain ⟨a, xs, h1, h2, h3, h4⟩ := h.cell k ds e
    exact ⟨a, xs, h1, h2, sameUpd hp _ _ h3, RepAll.hid h4⟩
  · rcases List.mem_cons.mp hq with e | hq
    · rw [e]
      exact ⟨upd_same, h.noS hp, fun z => by
        obtain ⟨k, hk⟩ := List.mem_iff_getElem?.mp z
        exact h.notin hp k hk⟩
    · obtain ⟨h1, h2, h3⟩ := h.hid q hq
      exact ⟨sameUpd hp _ _ h1, h2, h3⟩
  · refine List.nodup_cons.mpr ⟨fun z => ?_, h.hnd⟩
    obtain ⟨q, hq, e⟩ := List.mem_map.mp z
    obtain ⟨h1, _, _⟩ := h.hid q hq
    have e' : q.1 = p := e
    rw [e', hp] at h1; cases h1
  · obtain ⟨v, e1, q⟩ := h.env i d e
    exact ⟨v, e1, Rep.hid q⟩
theorem hid_ne {p : Addr} {o : HO} {l : List (Addr × HO)} (h : ((p, o) :: l).map (·.1) |>.Nodup) : ∀ q ∈ l, q.1 ≠ p := fun q hq e =>
  (List.nodup_cons.mp h).1 (List.mem_map.mpr ⟨q, hq, e⟩)
/-- the hidden list changes -/
theorem Sat.hset {o o' : HO} {l : List (Addr × HO)} {c : List Addr} (h : Sat K ⟨c, (p, o) :: l⟩ S r M σ H) : Sat K ⟨c, (p, o') :: l⟩ S r M σ (upd H p o') := by
  obtain ⟨g1, g2, g3⟩ := h.hid _ List.mem_cons_self
  have nS : ∀ b y, S b = some y → b ≠ p := fun b y e z => by rw [z, g2] at e; cases e
  have nc : ∀ (k : Nat) (a : Addr), c[k]? = some a → a ≠ p := fun k a e z => g3 (by rw [← z]; exact List.mem_of_getElem? e)
  refine ⟨fun b y e => by rw [upd_ne (nS b y e)]; exact h.sub b y e, h.len, h.nd, fun k a e => ?_, fun k ds e => ?_, fun q hq => ?_, h.hnd, h.el, fun i d e => ?_⟩
  · obtain ⟨u, hu⟩ := h.trk k a e
    exact ⟨u, by rw [upd_ne (nc k a e)]; exact hu⟩
  · obtain ⟨a, xs, h1, h2, h3, h4⟩ := h.cell k ds e
    exact ⟨a, xs, h1, h2, by rw [upd_ne (nc k a h1)]; exact h3, RepAll.hid h4⟩
  · rcases List.mem_cons.mp hq with e | hq
    · rw [e]
      exact ⟨upd_same, g2, g3⟩
    · obtain ⟨h1, h2, h3⟩ := h.hid q (List.mem_cons_of_mem _ hq)
      exact ⟨by rw [upd_ne (hid_ne h.hnd q hq)]; exact h1, h2, h3⟩
  · obtain ⟨v, e1, q⟩ := h.env i d e
    exact ⟨v, e1, Rep.hid q⟩
/-- the hidden list is done: it is only read from now on -/
theorem Sat.hfrz {o : HO} {l : List (Addr × HO)} {c : List Addr} (h : Sat K ⟨c, (p, o) :: l⟩ S r M σ H) : Ext ⟨c, l⟩ S ⟨c, l⟩ (upd S p o) ∧ Sat K ⟨c, l⟩ (upd S p o) r M σ H := by
  obtain ⟨g1, g2, g3⟩ := h.hid _ List.mem_cons_self
  have x : Ext ⟨c, l⟩ S ⟨c, l⟩ (upd S p o) := ⟨fun _ _ e => e, sameUpd g2, rfl⟩
  refine ⟨x, fun b y e => ?_, h.len, h.nd, h.trk, fun k ds e => ?_, fun q hq => ?_, (List.nodup_cons.mp h.hnd).2, h.el, fun i d e => ?_⟩
  · by_cases hb : b = p
    · rw [hb, upd_same] at e
      rw [hb, ← e]; exact g1
    · rw [upd_ne hb] at e
      exact h.sub b y e
  · obtain ⟨a, xs, h1, h2, h3, h4⟩ := h.cell k ds e
    have ne : a ≠ p := fun z => g3 (by rw [← z]; exact List.mem_of_getElem? h1)
    exact ⟨a, xs, h1, by rw [upd_ne ne]; exact h2, h3, (RepAll.hid h4).up x⟩
  · obtain ⟨h1, h2, h3⟩ := h.hid q (List.mem_cons_of_mem _ hq)
    exact ⟨h1, by rw [upd_ne (hid_ne h.hnd q hq)]; exact h2, h3⟩
  · obtain ⟨v, e1, q⟩ := h.env i d e
    exact ⟨v, e1, (Rep.hid q).up x⟩
/-- .. or it is owned from now on -/
theorem Sat.hown {xs : List V} {ds : List D} {l : List (Addr × HO)} {c : List Addr} (h : Sat K ⟨c, (p, .lst xs) :: l⟩ S r M σ H) (q : RepAll K ⟨c, l⟩ S xs ds) :
    Ext ⟨c, l⟩ S ⟨c ++ [p], l⟩ S ∧ Sat K ⟨c ++ [p], l⟩ S r (M ++ [.lst ds]) σ H ∧ (c ++ [p])[M.length]? = some p := by
  obtain ⟨g1, g2, g3⟩ := h.hid _ List.mem_cons_self
  have hl : c.length = M.length := h.len
  have x : Ext ⟨c, l⟩ S ⟨c ++ [p], l⟩ S := ⟨fun k a e => by
    show (c ++ [p])[k]? = _
    rw [List.getElem?_append_left (List.getElem?_eq_some_iff.mp e).1]; exact e, fun _ _ e => e, rfl⟩
  have here : (c ++ [p])[M.length]? = some p := by rw [← hl, List.getElem?_append_right (Nat.le_refl _), Nat.sub_self]; rfl
  have old : ∀ (k : Nat) (a : Addr), (c ++ [p])[k]? = some a → c[k]? = some a ∨ a = p := fun k a e => by
    by_cases hk : k < c.length
    · rw [List.getElem?_append_left hk] at e
      exact .inl e
    · rw [List.getElem?_append_right (by omega)] at e
      cases hk' : k - c.length with
      | zero => rw [hk'] at e; exact .inr (Option.some.inj e).symm
      | succ n => rw [hk'] at e; simp at e
  refine ⟨x, ⟨h.sub, ?_, ?_, fun k a e => ?_, fun k es e => ?_, fun q hq => ?_, (List.nodup_cons.mp h.hnd).2, h.el, fun i d e => ?_⟩, here⟩
  · show (c ++ [p]).length = _
    rw [List.length_append, List.length_append, hl]; rfl
  · show (c ++ [p]).Nodup
    rw [List.nodup_append]
    exact ⟨h.nd, by simp, fun a ha b hb z => g3 (by rw [show b = p by simpa using hb] at z; rw [← z]; exact ha)⟩
  · rcases old k a e with z | z
    · exact h.trk k a z
    · exact ⟨_, by rw [z]; exact g1⟩
  · by_cases hk : k < M.length
    · rw [List.getElem?_append_left hk] at e
      obtain ⟨a, ys, h1, h2, h3, h4⟩ := h.cell k es e
      exact ⟨a, ys, x.pre _ _ h1, h2, h3, (RepAll.hid h4).up x⟩
    · rw [List.getElem?_append_right (by omega)] at e
      cases hk' : k - M.length with
      | succ n => rw [hk'] at e; simp at e
      | zero =>
        rw [hk'] at e
        have e' : ds = es := by simpa using e
        have k' : k = M.length := by omega
        subst e'
        subst k'
        exact ⟨p, xs, here, g2, g1, q.up x⟩
  · obtain ⟨h1, h2, h3⟩ := h.hid q (List.mem_cons_of_mem _ hq)
    exact ⟨h1, h2, fun z => by
      rcases List.mem_append.mp z with z | z
      · exact h3 z
      · exact hid_ne h.hnd q hq (by simpa using z)⟩
  · obtain ⟨v, e1, q⟩ := h.env i d e
    exact ⟨v, e1, (Rep.hid q).up x⟩
/-! ### data as the library's data -/
variable {X : Cx} {pins : List (Addr × Obj)} {s : Shared}
mutual
theorem Rep.reads (I : Inv X pins σ H s) : ∀ (d : D) (v : V) (u : Value) (p : PyData), Rep X.K ph H v d → RelV v u → toPy d = some p → ∃ as, Reads s.heap u p as ∧ ∀ a ∈ as, H a ≠ none
  | .non, _, _, _, h, rv, e => by cases h; cases rv; cases e; exact ⟨_, .none, fun _ z => nomatch z⟩
  | .bl _, _, _, _, h, rv, e => by cases h; cases rv; cases e; exact ⟨_, .bool _, fun _ z => nomatch z⟩
  | .int _, _, _, _, h, rv, e => by cases h; obtain ⟨t, rfl⟩ := rv; cases e; exact ⟨_, .int _ _, fun _ z => nomatch z⟩
  | .str _, _, _, _, h, rv, e => by cases h; obtain ⟨t, rfl⟩ := rv; cases e; exact ⟨_, .str _ _, fun _ z => nomatch z⟩
  | .tup ds, _, _, _, h, rv, e => by
    cases h with
    | tup h1 h2 =>
      cases rv
      simp only [toPy] at e
      split at e
      · rename_i ps ep
        cases e
        obtain ⟨its, rx, ⟨o, ho, hc, n, hd⟩, _⟩ := I.tuple (h1.sq fun _ _ z => z)
        obtain ⟨as, q, qa⟩ := RepAll.reads I ds _ its ps h2 rx ep
        exact ⟨_, .tuple ho hc hd q, qa⟩
      · cases e
  | .lst ds, _, _, _, h, rv, e => by
    cases h with
    | lst h1 h2 =>
      cases rv
      simp only [toPy] at e
      split at e
      · rename_i ps ep
        cases e
        obtain ⟨its, rx, ⟨o, n, ho, hc, _, hd⟩, _⟩ := I.list (SqL.of h1)
        obtain ⟨as, q, qa⟩ := RepAll.reads I ds _ its ps h2 rx ep
        refine ⟨_, .list ho hc hd q, fun a ha => ?_⟩
        rcases List.mem_cons.mp ha with e | ha
        · rw [e, h1]; exact fun z => nomatch z
        · exact qa a ha
      · cases e
  | .dct0, _, _, _, h, rv, e => by
    cases h with
    | dct0 h1 =>
      cases rv
      cases e
      obtain ⟨_, _, vs, hk, o, es, ep, ho, hx, hd, _, he, _⟩ := I.hok _ _ h1
      cases hk
      have e0 : es = #[] := by
        cases es with
        | mk l =>
          cases l with
          | nil => rfl
          | cons x l => exact nomatch he
      subst e0
      refine ⟨_, .dict ho hx.1 hd .nil .nil, fun a ha => ?_⟩
      simp at ha
      rw [ha, h1]; exact fun z => nomatch z
  | .scr ns, _, _, _, _, _, e => by cases e
  | .own _, _, _, _, _, _, e => by cases e
  | .exc _ _, _, _, _, _, _, e => by cases e
  | .glb _, _, _, _, _, _, e => by cases e
  | .val _, _, _, _, _, _, e => by cases e
theorem RepAll.reads (I : Inv X pins σ H s) : ∀ (ds : List D) (vs : List V) (us : List Value) (ps : List PyData), RepAll X.K ph H vs ds → Vals vs us → toPyAll ds = some ps → ∃ as, ReadsAll s.heap us ps as ∧ ∀ a ∈ as, H a ≠ none
  | [], _, _, _, h, rv, e => by cases h; cases rv; cases e; exact ⟨_, .nil, fun _ z => nomatch z⟩
  | d :: ds, _, _, _, h, rv, e => by
    cases h with
    | cons h1 h2 =>
      cases rv with
      | cons r1 r2 =>
        simp only [toPyAll] at e
        split at e
        · rename_i p ps ep eps
          cases e
          obtain ⟨as, q1, a1⟩ := Rep.reads I d _ _ p h1 r1 ep
          obtain ⟨bs, q2, a2⟩ := RepAll.reads I ds _ _ ps h2 r2 eps
          refine ⟨_, .cons q1 q2, fun a ha => ?_⟩
          rcases List.mem_append.mp ha with ha | ha
          · exact a1 a ha
          · exact a2 a ha
        · cases e
end
end
end DL
/-! DL3: operators, comparisons, truth, displays -/
namespace DL
open PySem PySem.Spec PyProof.Rows L2
variable {X : Cx}
/-! ### two values -/
abbrev G2 := D → D → Mem → DQ → Prop
def OpD (X : Cx) (f : Value → Value → Sem Value) (g : G2) : Prop :=
  ∀ (pins : List (Addr × Obj)) (s : Shared) (σ : St) (H : Hp) (ph : Ph) (S : Hp) (r : Env) (M : Mem) (x y : V) (dx dy : D) (v u : Value) (Q : DQ),
    Inv X pins σ H s → Sat X.K ph S r M σ H → RelV x v → RelV y u → Rep X.K ph S x dx → Rep X.K ph S y dy → g dx dy M Q →
    wpAny (model X.prog X.w) X.A (f v u) (EP X pins σ (post X.K ph S r σ Q)) X.xe s
theorem OpD.of {f : Value → Value → Sem Value} {r2 : R2} {g : G2} (h : OpR X f r2)
    (w : ∀ (σ : St) (H : Hp) (ph : Ph) (S : Hp) (r : Env) (M : Mem) (x y : V) (dx dy : D) (Q : DQ), Sat X.K ph S r M σ H → Rep X.K ph S x dx → Rep X.K ph S y dy → g dx dy M Q → r2 x y H (post X.K ph S r σ Q)) : OpD X f g :=
  fun pins s σ H ph S r M x y dx dy v u Q I hs rx ry qx qy hg => h pins s σ H x y v u _ I rx ry (w σ H ph S r M x y dx dy Q hs qx qy hg)
theorem binD {a b : Expr} {ta tb : DTE} (ha : DE X a ta) (hb : DE X b tb) {pins : List (Addr × Obj)} {s : Shared} {σ : St} {H : Hp} {ph : Ph} {S : Hp} {r : Env} {M : Mem} {g : D → D → Mem → Prop}
    (I : Inv X pins σ H s) (hs : Sat X.K ph S r M σ H) (h : ta r M fun x M1 => tb r M1 fun y M2 => g x y M2) {α : Type} {Q : α → Shared → Prop} {f : Value → Value → Sem α}
    (hf : ∀ v u s2 x y dx dy H2 ph2 S2 M2, Ext ph S ph2 S2 → Inv X pins σ H2 s2 → Sat X.K ph2 S2 r M2 σ H2 → RelV x v → RelV y u → Rep X.K ph2 S2 x dx → Rep X.K ph2 S2 y dy → g dx dy M2 → wpAny (model X.prog X.w) X.A (f v u) Q X.xe s2) :
    wpAny (model X.prog X.w) X.A (eval a X.env) (fun v s1 => wpAny (model X.prog X.w) X.A (eval b X.env) (fun u s2 => wpAny (model X.prog X.w) X.A (f v u) Q X.xe s2) X.xe s1) X.xe s := by
  refine thn (ha.pe.run pins s σ H _ I ⟨ph, S, r, M, _, hs, h, fun _ _ q => q⟩) fun v s1 ⟨x, H1, I1, r1, ph1, S1, M1, x1, hs1, dx, q1, h1⟩ => ?_
  refine thn (hb.pe.run pins s1 σ H1 _ I1 ⟨ph1, S1, r, M1, _, hs1, h1, fun _ _ q => q⟩) fun u s2 ⟨y, H2, I2, r2, ph2, S2, M2, x2, hs2, dy, q2, h2⟩ => ?_
  exact hf v u s2 x y dx dy H2 ph2 S2 M2 (x1.trans x2) I2 hs2 r1 r2 (q1.up x2) q2 h2
def dOp (g : G2) (ta tb : DTE) : DTE := fun r M Q => ta r M fun x M1 => tb r M1 fun y M2 => g x y M2 Q
theorem EP.up {pins : List (Addr × Obj)} {σ : St} {ph ph1 : Ph} {S S1 : Hp} {r : Env} {Q : DQ} {u : Value} {s : Shared} (x : Ext ph S ph1 S1) (h : EP X pins σ (post X.K ph1 S1 r σ Q) u s) {Q' : VK} (w : ∀ v H', post X.K ph S r σ Q v H' → Q' v H') : EP X pins σ Q' u s :=
  let ⟨v, H', I, rv, q⟩ := h
  ⟨v, H', I, rv, w _ _ (Aft.up x q)⟩
theorem de_op {a b : Expr} {ta tb : DTE} {op : Operator} {g : G2} {pos : Pos} (ho : OpD X (binaryOp op) g) (ha : DE X a ta) (hb : DE X b tb) : DE X (.BinOp a op b pos) (dOp g ta tb) :=
  ⟨⟨fun pins s σ H Q I ⟨ph, S, r, M, Q0, hs, ht, hq⟩ => wpAny_BinOp (binD ha hb I hs ht fun v u s2 x y dx dy H2 ph2 S2 M2 x2 I2 hs2 rx ry qx qy h =>
    thn (ho pins s2 σ H2 ph2 S2 r M2 x y dx dy v u Q0 I2 hs2 rx ry qx qy h) fun _ _ q => EP.up x2 q hq)⟩⟩
theorem de_cmp {a b : Expr} {ta tb : DTE} {op : CmpOp} {g : G2} {pos : Pos} (ho : OpD X (compareOp op) g) (ha : DE X a ta) (hb : DE X b tb) (hm : behindInMarks op b = false) : DE X (.Compare a [op] [b] pos) (dOp g ta tb) :=
  ⟨⟨fun pins s σ H Q I ⟨ph, S, r, M, Q0, hs, ht, hq⟩ => wpAny_Compare1 (binD ha hb I hs ht fun v u s2 x y dx dy H2 ph2 S2 M2 x2 I2 hs2 rx ry qx qy h =>
    thn (ho pins s2 σ H2 ph2 S2 r M2 x y dx dy v u Q0 I2 hs2 rx ry qx qy h) fun _ _ q => EP.up x2 q hq) hm⟩⟩
/-! ### arithmetic -/
/-- of moderate size -/
def Sm (i : Int) : Prop := i.natAbs.log2 < 400000
theorem Sm.of {i : Int} (n : Nat) (h : i.natAbs < 2 ^ n) (hn : n ≤ 400000 := by decide) : Sm i := by
  unfold Sm
  by_cases h0 : i.natAbs = 0
  · rw [h0]; decide
  · exact Nat.lt_of_lt_of_le ((Nat.log2_lt h0).mpr h) hn
def rBin (C : Int → Int → Prop) (f : Int → Int → Int) : G2 := fun x y M Q => match x, y with
  | .int i, .int j => C i j ∧ Q (.int (f i j)) M
  | _, _ => False
theorem opd_int {F : Value → Value → Sem Value} {C : Int → Int → Prop} {f : Int → Int → Int} (h : OpR X F (rI C fun i j => .int (f i j))) : OpD X F (rBin C f) :=
  OpD.of h fun σ H ph S r M x y dx dy Q hs rx ry hg => by
    cases dx <;> cases dy <;> first | exact hg.elim | skip
    cases rx; cases ry
    exact ⟨_, _, rfl, rfl, hg.1, Aft.here hs ⟨_, .int _, hg.2⟩⟩
theorem opd_sub : OpD X (binaryOp .Sub) (rBin (fun _ _ => True) fun i j => i - j) := opd_int (fun pins s σ H x y v u Q I r1 r2 ⟨i, j, e1, e2, _, q⟩ => op_sub pins s σ H x y v u Q I r1 r2 ⟨i, j, e1, e2, q⟩)
def CMul (i j : Int) : Prop := Sm i ∧ Sm j
def CDiv (_ j : Int) : Prop := j ≠ 0 ∧ j.natAbs.log2 < 9000
def CMod (_ j : Int) : Prop := j ≠ 0
def CPow (a n : Int) : Prop := 0 ≤ n ∧ (Builtin.Int.intBits a : Int) * n ≤ 2 ^ 27
theorem opd_mulI : OpD X (binaryOp .Mult) (rBin CMul fun i j => i * j) := opd_int (fun pins s σ H x y v u Q I r1 r2 ⟨i, j, e1, e2, c, q⟩ => op_mulW pins s σ H x y v u Q I r1 r2 ⟨i, j, e1, e2, by have h1 := c.1; have h2 := c.2; unfold Sm at h1 h2; unfold L2.CMulW; omega, q⟩)
theorem op_fdivG : OpR X (binaryOp .FloorDiv) (rI CDiv fun i j => .int (i.fdiv j)) := opI fun i j _ _ _ _ _ hc q => floordiv_int hc.1 q (.inl (PyProof.noPylong_of_log2 hc.2))
theorem opd_fdiv : OpD X (binaryOp .FloorDiv) (rBin CDiv fun i j => i.fdiv j) := opd_int op_fdivG
theorem opd_mod : OpD X (binaryOp .Mod) (rBin CMod fun i j => i.fmod j) := opd_int op_modN
theorem op_powG : OpR X (binaryOp .Pow) (rI CPow fun i j => .int (i ^ j.toNat)) := opI fun i j _ _ _ _ _ hc q => pow_int hc.1 hc.2 q
theorem opd_pow : OpD X (binaryOp .Pow) (rBin CPow fun i j => i ^ j.toNat) := opd_int op_powG
/-- x + y -/
def gAdd : G2 := fun x y M Q => match x, y with
  | .int i, .int j => Q (.int (i + j)) M
  | .str a, .str b => a.length + b.length ≤ sizeLine ∧ Q (.str (a ++ b)) M
  | .lst a, .lst b => a.length + b.length ≤ sizeLine ∧ Q (.lst (a ++ b)) M
  | .tup a, .tup b => a.length + b.length ≤ sizeLine ∧ Q (.tup (a ++ b)) M
  | .own k, .lst b => match M[k]? with
    | some (.lst a) => a.length + b.length ≤ sizeLine ∧ Q (.lst (a ++ b)) M
    | _ => False
  | .lst b, .own k => match M[k]? with
    | some (.lst a) => b.length + a.length ≤ sizeLine ∧ Q (.lst (b ++ a)) M
    | _ => False
  | _, _ => False
theorem Aft.frz {K : PySem.W.Frag} {ph : Ph} {S : Hp} {r : Env} {σ : St} {H : Hp} {M : Mem} {p : Addr} {o : HO} {Q : Ph → Hp → Mem → Prop} (h : Sat K ph S r M σ H) (hp : H p = none) (q : Ext ph S ph (upd S p o) → Q ph (upd S p o) M) : Aft K ph S r σ (upd H p o) Q :=
  let ⟨x, hs⟩ := h.frz hp o
  ⟨ph, _, M, x, hs, q x⟩
theorem opd_add : OpD X (binaryOp .Add) gAdd := by
  intro pins s σ H ph S r M x y dx dy v u Q I hs rx ry qx qy hg
  cases dx <;> cases dy <;> first | exact hg.elim | skip
  · cases qx; cases qy
    exact op_add pins s σ H _ _ v u _ I rx ry ⟨_, _, rfl, rfl, Aft.here hs ⟨_, .int _, hg⟩⟩
  · cases qx; cases qy
    exact op_add_str pins s σ H _ _ v u _ I rx ry ⟨_, _, rfl, rfl, hg.1, Aft.here hs ⟨_, .str _, hg.2⟩⟩
  · cases qx with
    | tup h1 h2 =>
      cases qy with
      | tup h3 h4 =>
        obtain ⟨hz, q⟩ := hg
        rename_i xs _ ys
        have e1 := h2.len
        have e2 := h4.len
        refine op_catA pins s σ H _ _ v u _ I rx ry ⟨_, _, xs, ys, rfl, rfl, h1.sq hs.sub, h3.sq hs.sub, by omega, fun z => ?_, fun _ z => ?_, fun _ _ p hp => Aft.frz hs hp fun x => ⟨_, .tup (.inl upd_same) ((h2.app h4).up x), q⟩⟩
        · refine Aft.here hs ⟨_, .tup h3 ?_, q⟩
          rw [z] at h2
          cases h2
          exact h4
        · refine Aft.here hs ⟨_, .tup h1 ?_, q⟩
          rw [z] at h4
          cases h4
          rw [List.append_nil]; exact h2
  · cases qx with
    | lst h1 h2 =>
      cases qy with
      | lst h3 h4 =>
        have e1 := h2.len
        have e2 := h4.len
        exact op_cat pins s σ H _ _ v u _ I rx ry ⟨_, _, _, _, rfl, rfl, hs.sub _ _ h1, hs.sub _ _ h3, by have := hg.1; omega, fun p hp => Aft.frz hs hp fun x => ⟨_, .lst upd_same ((h2.app h4).up x), hg.2⟩⟩
  · cases qx with
    | lst h1 h2 =>
      cases qy with
      | own h3 =>
        rename_i b k _ _ _
        simp only [gAdd] at hg
        split at hg
        · rename_i a hk
          obtain ⟨a1, xs1, c1, c2, c3, c4⟩ := hs.cell k a hk
          rw [h3] at c1; cases c1
          have e1 := h2.len
          have e2 := c4.len
          exact op_cat pins s σ H _ _ v u _ I rx ry ⟨_, _, _, _, rfl, rfl, hs.sub _ _ h1, c3, by have := hg.1; omega, fun p hp => Aft.frz hs hp fun x => ⟨_, .lst upd_same ((h2.app c4).up x), hg.2⟩⟩
        · exact hg.elim
  · cases qx with
    | own h3 =>
      cases qy with
      | lst h1 h2 =>
        rename_i k b _ _ _
        simp only [gAdd] at hg
        split at hg
        · rename_i a hk
          obtain ⟨a1, xs1, c1, c2, c3, c4⟩ := hs.cell k a hk
          rw [h3] at c1; cases c1
          have e1 := h2.len
          have e2 := c4.len
          exact op_cat pins s σ H _ _ v u _ I rx ry ⟨_, _, _, _, rfl, rfl, c3, hs.sub _ _ h1, by have := hg.1; omega, fun p hp => Aft.frz hs hp fun x => ⟨_, .lst upd_same ((c4.app h2).up x), hg.2⟩⟩
        · exact hg.elim
/-! ### comparisons -/
def gCmpI (p : Int → Int → Bool) : G2 := fun x y M Q => match x, y with
  | .int i, .int j => Q (.bl (p i j)) M
  | _, _ => False
theorem opd_cmpI {F : Value → Value → Sem Value} {p : Int → Int → Bool} (h : OpR X F (rI0 fun i j => .bl (p i j))) : OpD X F (gCmpI p) :=
  OpD.of h fun σ H ph S r M x y dx dy Q hs rx ry hg => by
    cases dx <;> cases dy <;> first | exact hg.elim | skip
    cases rx; cases ry
    exact ⟨_, _, rfl, rfl, Aft.here hs ⟨_, .bl _, hg⟩⟩
theorem opd_lt : OpD X (compareOp .Lt) (gCmpI fun i j => decide (i < j)) := opd_cmpI op_lt
theorem opd_le : OpD X (compareOp .LtE) (gCmpI fun i j => decide (i ≤ j)) := opd_cmpI op_le
theorem opd_gt : OpD X (compareOp .Gt) (gCmpI fun i j => decide (j < i)) := opd_cmpI op_gt
theorem opd_ge : OpD X (compareOp .GtE) (gCmpI fun i j => decide (j ≤ i)) := opd_cmpI op_ge
/-- an owned list as it stands -/
def res (M : Mem) : D → D
  | .own k => match M[k]? with
    | some (.lst ds) => .lst ds
    | _ => .own k
  | d => d
theorem Rep.res {K : PySem.W.Frag} {ph : Ph} {S : Hp} {r : Env} {M : Mem} {σ : St} {H : Hp} {v : V} {d : D} (hs : Sat K ph S r M σ H) (q : Rep K ph S v d) : Rep K ph H v (res M d) := by
  cases d <;> first | exact hs.read q | skip
  rename_i k
  unfold DL.res
  dsimp only
  split
  · rename_i ds hk
    cases q with
    | own h =>
      obtain ⟨a, xs, c1, c2, c3, c4⟩ := hs.cell k ds hk
      rw [h] at c1; cases c1
      exact .lst c3 (hs.readAll c4)
  · exact hs.read q
/-- data that may be compared -/
def cmpd (d : D) : Option PyData := match toPy d with
  | some p => if SeqAt.shaped p = true then some p else none
  | none => none
theorem cmpd_some {d : D} {p : PyData} (h : cmpd d = some p) : toPy d = some p ∧ SeqAt.shaped p = true := by
  unfold cmpd at h
  split at h
  · rename_i p' e
    by_cases hs : SeqAt.shaped p' = true
    · rw [if_pos hs] at h; cases h; exact ⟨e, hs⟩
    · rw [if_neg hs] at h; cases h
  · cases h
/-- x == y of two data read; none: not covered -/
def eqB (x y : D) : Option Bool := match x, y with
  | .str a, .str b => some (a == b)
  | x, y => match cmpd x, cmpd y with
    | some p, some q => some (PyData.eqv p q)
    | _, _ => none
theorem eqB_of {x y : D} {b : Bool} (h : eqB x y = some b) : (∃ p q, x = .str p ∧ y = .str q ∧ b = (p == q)) ∨ ∃ p q, cmpd x = some p ∧ cmpd y = some q ∧ b = PyData.eqv p q := by
  unfold eqB at h
  split at h
  · exact .inl ⟨_, _, rfl, rfl, (Option.some.inj h).symm⟩
  · split at h
    · rename_i e1 e2; exact .inr ⟨_, _, e1, e2, (Option.some.inj h).symm⟩
    · cases h
def gEq : G2 := fun x y M Q => match eqB (res M x) (res M y) with
  | some b => Q (.bl b) M
  | none => False
def gNe : G2 := fun x y M Q => match eqB (res M x) (res M y) with
  | some b => Q (.bl (!b)) M
  | none => False
theorem res_str {M : Mem} {d : D} {z : Str} (h : res M d = .str z) : d = .str z := by
  cases d <;> first | exact h | skip
  rename_i k
  unfold res at h
  dsimp only at h
  split at h <;> cases h
theorem opd_eq (hu : X.A.units + 64 < cLine) : OpD X (compareOp .Eq) gEq := by
  intro pins s σ H ph S r M x y dx dy v u Q I hs rx ry qx qy hg
  unfold gEq at hg
  split at hg
  · rename_i b e
    rcases eqB_of e with ⟨p, q, e1, e2, rfl⟩ | ⟨p, q, e1, e2, rfl⟩
    · cases res_str e1; cases res_str e2
      cases qx; cases qy
      obtain ⟨_, rfl⟩ := rx
      obtain ⟨_, rfl⟩ := ry
      exact PyProof.Rows.eq_str ⟨.bl _, H, I, rfl, Aft.here hs ⟨_, .bl _, hg⟩⟩
    · obtain ⟨as, h1, _⟩ := Rep.reads I _ _ _ _ (Rep.res hs qx) rx (cmpd_some e1).1
      obtain ⟨bs, h2, _⟩ := Rep.reads I _ _ _ _ (Rep.res hs qy) ry (cmpd_some e2).1
      exact SeqAt.compareEq_shaped h1 h2 (cmpd_some e1).2 (cmpd_some e2).2 hu ⟨.bl _, H, I, rfl, Aft.here hs ⟨_, .bl _, hg⟩⟩
  · exact hg.elim
theorem opd_ne (hu : X.A.units + 64 < cLine) : OpD X (compareOp .NotEq) gNe := by
  intro pins s σ H ph S r M x y dx dy v u Q I hs rx ry qx qy hg
  unfold gNe at hg
  split at hg
  · rename_i b e
    rcases eqB_of e with ⟨p, q, e1, e2, rfl⟩ | ⟨p, q, e1, e2, rfl⟩
    · cases res_str e1; cases res_str e2
      cases qx; cases qy
      obtain ⟨_, rfl⟩ := rx
      obtain ⟨_, rfl⟩ := ry
      exact PyProof.Rows.ne_str ⟨.bl _, H, I, rfl, Aft.here hs ⟨_, .bl _, hg⟩⟩
    · obtain ⟨as, h1, _⟩ := Rep.reads I _ _ _ _ (Rep.res hs qx) rx (cmpd_some e1).1
      obtain ⟨bs, h2, _⟩ := Rep.reads I _ _ _ _ (Rep.res hs qy) ry (cmpd_some e2).1
      exact SeqAt.compareNe_shaped h1 h2 (cmpd_some e1).2 (cmpd_some e2).2 hu ⟨.bl _, H, I, rfl, Aft.here hs ⟨_, .bl _, hg⟩⟩
  · exact hg.elim
/-- x in y, y a list -/
def gIn (neg : Bool) : G2 := fun x y M Q => match cmpd (res M x), cmpd (res M y) with
  | some p, some (.list ps) => Q (.bl ((ps.any fun z => PyData.eqv z p) != neg)) M
  | _, _ => False
end DL
/-! DL4: is, truth, chains, and/or/not, displays, subscripts, argument lists -/
namespace DL
open PySem PySem.Spec PyProof.Rows L2
variable {X : Cx}
/-! ### is -/
/-- x is y, y written None, True or False -/
def isB (x y : D) : Option Bool := match x, y with
  | .non, .non => some true
  | .bl b, .non => some false
  | .int _, .non => some false
  | .str _, .non => some false
  | .tup _, .non => some false
  | .lst _, .non => some false
  | .own _, .non => some false
  | .dct0, .non => some false
  | .exc _ _, .non => some false
  | .bl a, .bl b => some (decide (a = b))
  | .non, .bl _ => some false
  | .int _, .bl _ => some false
  | .str _, .bl _ => some false
  | .tup _, .bl _ => some false
  | .lst _, .bl _ => some false
  | .own _, .bl _ => some false
  | .dct0, .bl _ => some false
  | _, _ => none
def gIs (neg : Bool) : G2 := fun x y M Q => match isB x y with
  | some b => Q (.bl (b != neg)) M
  | none => False
/-! ### truth -/
def tru (M : Mem) : D → Option Bool
  | .non => some false
  | .bl b => some b
  | .int i => some (i != 0)
  | .str x => if x.length ≤ sizeLine then some ((x.length : Int) != 0) else none
  | .tup l => some (!l.isEmpty)
  | .lst l => some (!l.isEmpty)
  | .own k => match M[k]? with
    | some (.lst l) => some (!l.isEmpty)
    | _ => none
  | .dct0 => some false
  | _ => none
theorem isEmp {K : PySem.W.Frag} {ph : Ph} {S : Hp} {xs : List V} {ds : List D} (h : RepAll K ph S xs ds) : (!ds.isEmpty) = !xs.isEmpty := by cases h <;> rfl
theorem tru_V {K : PySem.W.Frag} {ph : Ph} {S : Hp} {r : Env} {M : Mem} {σ : St} {H : Hp} {x : V} {d : D} {k : Bool} (hs : Sat K ph S r M σ H) (q : Rep K ph S x d) (h : tru M d = some k) : TruV K x H k := by
  cases d with
  | non => cases q; exact (Option.some.inj h).symm
  | bl b => cases q; exact (Option.some.inj h).symm
  | int i => cases q; exact (Option.some.inj h).symm
  | str z =>
    cases q
    have h' : (if z.length ≤ sizeLine then some ((z.length : Int) != 0) else none) = some k := h
    by_cases hz : z.length ≤ sizeLine
    · rw [if_pos hz] at h'
      exact ⟨hz, (Option.some.inj h').symm⟩
    · rw [if_neg hz] at h'; cases h'
  | tup l =>
    cases q with
    | tup h1 h2 => exact .inr (.inl ⟨_, h1.sq hs.sub, by rw [← isEmp h2]; exact (Option.some.inj h).symm⟩)
  | lst l =>
    cases q with
    | lst h1 h2 => exact .inl ⟨_, SqL.of (hs.sub _ _ h1), by rw [← isEmp h2]; exact (Option.some.inj h).symm⟩
  | dct0 =>
    cases q with
    | dct0 h1 => exact .inr (.inr ⟨_, hs.sub _ _ h1, (Option.some.inj h).symm⟩)
  | own j =>
    cases q with
    | own h1 =>
      unfold tru at h
      dsimp only at h
      split at h
      · rename_i l hk
        obtain ⟨a, xs, c1, c2, c3, c4⟩ := hs.cell j l hk
        rw [h1] at c1; cases c1
        exact .inl ⟨_, SqL.of c3, by rw [← isEmp c4]; exact (Option.some.inj h).symm⟩
      · cases h
  | scr ns => cases h
  | exc C d => cases h
  | glb x => cases h
  | val v => cases h
/-- what d's truth is -/
def gTru (d : D) (M : Mem) (Q : Bool → Prop) : Prop := match tru M d with
  | some b => Q b
  | none => False
def dTru (t : DTE) : DTT := fun r M Q => t r M fun d M1 => gTru d M1 fun b => Q b M1
theorem gTru_some {d : D} {M : Mem} {Q : Bool → Prop} (h : gTru d M Q) : ∃ b, tru M d = some b ∧ Q b := by
  unfold gTru at h
  split at h
  · rename_i b e; exact ⟨b, e, h⟩
  · exact h.elim
/-- an expression as a test -/
theorem dt_tru {e : Expr} {t : DTE} (h : DE X e t) (he : ∀ whole, isTrue e X.env whole = (do let v ← whole; standAt e.pos; holding [v] (truthy v)) := by intro _; rfl) : DT X e (dTru t) :=
  DT.of (pt_truth h.pe he) fun ph S r M σ H Q hs ht Q' hq => ⟨ph, S, r, M, _, hs, ht, fun v H1 h1 => by
    obtain ⟨ph1, S1, M1, x1, hs1, d, q1, g1⟩ := h1
    obtain ⟨b, eb, qb⟩ := gTru_some g1
    exact ⟨b, tru_V hs1 q1 eb, hq _ _ ⟨ph1, S1, M1, x1, hs1, qb⟩⟩⟩
/-- a comparison as a test -/
theorem dt_cmp {a b : Expr} {ta tb : DTE} {op : CmpOp} {g : G2} {pos : Pos} (ho : OpD X (compareOp op) g) (ha : DE X a ta) (hb : DE X b tb) (hm : behindInMarks op b = false) : DT X (.Compare a [op] [b] pos) (dTru (dOp g ta tb)) :=
  ⟨⟨fun pins s σ H Q I ⟨ph, S, r, M, Q0, hs, ht, hq⟩ => wpAny_isTrue_Compare1 (binD ha hb I hs ht fun v u s2 x y dx dy H2 ph2 S2 M2 x2 I2 hs2 rx ry qx qy h =>
    thn (ho pins s2 σ H2 ph2 S2 r M2 x y dx dy v u _ I2 hs2 rx ry qx qy h) fun c s3 ⟨z, H3, I3, r3, ph3, S3, M3, x3, hs3, d, q3, g3⟩ => by
      obtain ⟨k, ek, qk⟩ := gTru_some g3
      exact tru_ok pins s3 σ H3 z c Q I3 r3 ⟨k, tru_V hs3 q3 ek, hq _ _ ⟨ph3, S3, M3, x2.trans x3, hs3, qk⟩⟩) hm⟩⟩
/-! ### a < b < c -/
def dChain (g g' : G2) (ta tb tc : DTE) : DTE := fun r M Q => ta r M fun x M1 => tb r M1 fun y M2 => g x y M2 fun z M3 => gTru z M3 fun k => if k = true then tc r M3 fun w M4 => g' y w M4 Q else Q z M3
theorem de_chain {a b c : Expr} {ta tb tc : DTE} {op op' : CmpOp} {g g' : G2} {pos : Pos} (ho : OpD X (compareOp op) g) (ho' : OpD X (compareOp op') g') (ha : DE X a ta) (hb : DE X b tb) (hc : DE X c tc)
    (hm : lastMarks [op, op'] [b, c] = false := by with_unfolding_all rfl) : DE X (.Compare a [op, op'] [b, c] pos) (dChain g g' ta tb tc) := by
  refine ⟨⟨fun pins s σ H Q I ⟨ph, S, r, M, Q0, hs, ht, hq⟩ => ?_⟩⟩
  refine Compare_chain (thn (ha.pe.run pins s σ H _ I ⟨ph, S, r, M, _, hs, ht, fun _ _ q => q⟩) fun v s1 ⟨x, H1, I1, r1, ph1, S1, M1, x1, hs1, dx, q1, h1⟩ =>
    chain_link (thn (hb.pe.run pins s1 σ H1 _ I1 ⟨ph1, S1, r, M1, _, hs1, h1, fun _ _ q => q⟩) fun u s2 ⟨y, H2, I2, r2, ph2, S2, M2, x2, hs2, dy, q2, h2⟩ =>
      thn (ho pins s2 σ H2 ph2 S2 r M2 x y dx dy v u _ I2 hs2 r1 r2 (q1.up x2) q2 h2) fun d s3 ⟨z, H3, I3, r3, ph3, S3, M3, x3, hs3, dz, q3, h3⟩ => ?_)) hm
  obtain ⟨k, ek, qk⟩ := gTru_some h3
  refine thn (tru_ok pins s3 σ H3 z d (fun b H' => b = k ∧ H' = H3) I3 r3 ⟨k, tru_V hs3 q3 ek, rfl, rfl⟩) fun b s4 ⟨H4, I4, eb, eH⟩ => ?_
  rw [eH] at I4
  rw [← eb] at qk
  cases b with
  | false => exact ite_ff ⟨z, H3, I4, r3, hq _ _ ⟨ph3, S3, M3, x1.trans (x2.trans x3), hs3, _, q3, qk⟩⟩
  | true =>
    exact ite_tt (chain_last (thn (hc.pe.run pins s4 σ H3 _ I4 ⟨ph3, S3, r, M3, _, hs3, qk, fun _ _ q => q⟩) fun w' s5 ⟨z', H5, I5, r5, ph5, S5, M5, x5, hs5, dw, q5, h5⟩ =>
      thn (ho' pins s5 σ H5 ph5 S5 r M5 y z' dy dw u w' _ I5 hs5 r2 r5 (q2.up (x3.trans x5)) q5 h5) fun d' s6 q6 => EP.up (x1.trans (x2.trans (x3.trans x5))) q6 hq))
/-! ### and, or, not -/
def dAnd (t u : DTT) : DTT := fun r M Q => t r M fun c M1 => if c = true then u r M1 Q else Q false M1
def dOr (t u : DTT) : DTT := fun r M Q => t r M fun c M1 => if c = true then Q true M1 else u r M1 Q
def dNot (t : DTT) : DTT := fun r M Q => t r M fun c M1 => Q (!c) M1
variable {a b : Expr} {rest : List Expr} {pos : Pos}
theorem DW.dt {e : Expr} {t : DTT} (h : DW X e t) : DT X e t := ⟨h.pw.pt⟩
theorem dw_or1 {t : DTT} (h : DT X a t) : DW X (.BoolOp .Or [a] pos) t := ⟨pw_or1 h.pt⟩
theorem dw_or {t u : DTT} (h : DT X a t) (h2 : DW X (.BoolOp .Or (b :: rest) pos) u) : DW X (.BoolOp .Or (a :: b :: rest) pos) (dOr t u) :=
  DW.of (pw_or h.pt h2.pw) fun ph S r M σ H Q hs ht Q' hq => ⟨ph, S, r, M, _, hs, ht, fun c H1 ⟨ph1, S1, M1, x1, hs1, h1⟩ => by
    cases c with
    | false => exact ⟨ph1, S1, r, M1, _, hs1, h1, fun c' H2 h2 => hq _ _ (Aft.up x1 h2)⟩
    | true => exact hq _ _ ⟨ph1, S1, M1, x1, hs1, h1⟩⟩
theorem dt_not {t : DTT} (h : DT X a t) : DT X (.UnaryOp .Not a pos) (dNot t) :=
  DT.of (pt_not h.pt) fun ph S r M σ H Q hs ht Q' hq => ⟨ph, S, r, M, _, hs, ht, fun c H1 h1 => hq _ _ h1⟩
/-- as values -/
def dAndV (t u : DTE) : DTE := fun r M Q => t r M fun d M1 => gTru d M1 fun c => if c = true then u r M1 Q else Q d M1
def dOrV (t u : DTE) : DTE := fun r M Q => t r M fun d M1 => gTru d M1 fun c => if c = true then Q d M1 else u r M1 Q
def dNotV (t : DTE) : DTE := fun r M Q => t r M fun d M1 => gTru d M1 fun c => Q (.bl (!c)) M1
theorem de_one {op} {t : DTE} (h : DE X a t) : DE X (.BoolOp op [a] pos) t := ⟨pe_one h.pe⟩
theorem de_and {t u : DTE} (h : DE X a t) (h2 : DE X (.BoolOp .And (b :: rest) pos) u) : DE X (.BoolOp .And (a :: b :: rest) pos) (dAndV t u) :=
  DE.of (pe_andT h.pe h2.pe) fun ph S r M σ H Q hs ht Q' hq => ⟨ph, S, r, M, _, hs, ht, fun v H1 ⟨ph1, S1, M1, x1, hs1, d, q1, g1⟩ => by
    obtain ⟨c, ec, qc⟩ := gTru_some g1
    refine ⟨c, tru_V hs1 q1 ec, ?_⟩
    cases c with
    | true => exact ⟨ph1, S1, r, M1, _, hs1, qc, fun c' H2 h2 => hq _ _ (Aft.up x1 h2)⟩
    | false => exact hq _ _ ⟨ph1, S1, M1, x1, hs1, _, q1, qc⟩⟩
theorem de_not {t : DTE} (h : DE X a t) : DE X (.UnaryOp .Not a pos) (dNotV t) :=
  DE.of (pe_notT h.pe) fun ph S r M σ H Q hs ht Q' hq => ⟨ph, S, r, M, _, hs, ht, fun v H1 ⟨ph1, S1, M1, x1, hs1, d, q1, g1⟩ => by
    obtain ⟨c, ec, qc⟩ := gTru_some g1
    exact ⟨c, tru_V hs1 q1 ec, hq _ _ ⟨ph1, S1, M1, x1, hs1, _, .bl _, qc⟩⟩⟩
/-- a if t else b -/
def dIf (t : DTT) (u w : DTE) : DTE := fun r M Q => t r M fun c M1 => if c = true then u r M1 Q else w r M1 Q
theorem de_if {c : Expr} {t : DTT} {u w : DTE} (h : DT X c t) (h1 : DE X a u) (h2 : DE X b w) : DE X (.IfExp c a b pos) (dIf t u w) :=
  DE.of (pe_ifExp h.pt h1.pe h2.pe) fun ph S r M σ H Q hs ht Q' hq => ⟨ph, S, r, M, _, hs, ht, fun c H1 ⟨ph1, S1, M1, x1, hs1, g1⟩ => by
    cases c with
    | true => exact ⟨ph1, S1, r, M1, _, hs1, g1, fun c' H2 h2 => hq _ _ (Aft.up x1 h2)⟩
    | false => exact ⟨ph1, S1, r, M1, _, hs1, g1, fun c' H2 h2 => hq _ _ (Aft.up x1 h2)⟩⟩
/-- -a -/
def gNeg (d : D) (M : Mem) (Q : DQ) : Prop := match d with
  | .int i => Q (.int (-i)) M
  | _ => False
def dNeg (t : DTE) : DTE := fun r M Q => t r M fun d M1 => gNeg d M1 Q
theorem de_neg {t : DTE} (h : DE X a t) : DE X (.UnaryOp .USub a pos) (dNeg t) :=
  DE.of (pe_un un_neg h.pe) fun ph S r M σ H Q hs ht Q' hq => ⟨ph, S, r, M, _, hs, ht, fun v H1 ⟨ph1, S1, M1, x1, hs1, d, q1, g1⟩ => by
    cases d <;> first | exact g1.elim | skip
    cases q1
    exact ⟨_, rfl, hq _ _ ⟨ph1, S1, M1, x1, hs1, _, .int _, g1⟩⟩⟩
/-! ### argument lists, displays -/
def dNil : DTA := fun _ M Q => Q [] M
def dCons (t : DTE) (u : DTA) : DTA := fun r M Q => t r M fun d M1 => u r M1 fun ds M2 => Q (d :: ds) M2
theorem da_nil : DA X [] dNil := DA.of pa_nil fun ph S r M σ H Q hs ht Q' hq => hq _ _ (Aft.here hs ⟨_, .nil, ht⟩)
theorem da_cons {e : Expr} {es : List Expr} {t : DTE} {u : DTA} (h : DE X e t) (h2 : DA X es u) (hs : starEach (e :: es) X.env = (false, eval e X.env) :: starEach es X.env := by rfl) : DA X (e :: es) (dCons t u) :=
  DA.of (pa_cons h.pe h2.pa hs) fun ph S r M σ H Q hs ht Q' hq => ⟨ph, S, r, M, _, hs, ht, fun v H1 ⟨ph1, S1, M1, x1, hs1, d, q1, g1⟩ =>
    ⟨ph1, S1, r, M1, _, hs1, g1, fun vs H2 ⟨ph2, S2, M2, x2, hs2, ds, q2, g2⟩ => hq _ _ ⟨ph2, S2, M2, x1.trans x2, hs2, _, .cons (q1.up x2) q2, g2⟩⟩⟩
def dTup (t : DTA) : DTE := fun r M Q => t r M fun ds M1 => ds.length ≤ sizeLine ∧ Q (.tup ds) M1
def dLst (t : DTA) : DTE := fun r M Q => t r M fun ds M1 => ds.length ≤ sizeLine ∧ Q (.lst ds) M1
/-- a list that will be changed -/
def dOwn (t : DTA) : DTE := fun r M Q => t r M fun ds M1 => ds.length ≤ sizeLine ∧ Q (.own M1.length) (M1 ++ [.lst ds])
theorem de_tup {es : List Expr} {x1} {t : DTA} (h : DA X es t) : DE X (.Tuple es x1 pos) (dTup t) :=
  DE.of (pe_tup h.pa) fun ph S r M σ H Q hs ht Q' hq => ⟨ph, S, r, M, _, hs, ht, fun vs H1 ⟨ph1, S1, M1, x1, hs1, ds, q1, hz, g1⟩ =>
    ⟨by rw [q1.len]; exact hz, fun p hp => hq _ _ (Aft.up x1 (Aft.frz hs1 hp fun x => ⟨_, .tup (.inl upd_same) (q1.up x), g1⟩))⟩⟩
theorem de_lst {es : List Expr} {t : DTA} (h : DA X es t) : DE X (.List es pos) (dLst t) :=
  DE.of (pe_lst h.pa) fun ph S r M σ H Q hs ht Q' hq => ⟨ph, S, r, M, _, hs, ht, fun vs H1 ⟨ph1, S1, M1, x1, hs1, ds, q1, hz, g1⟩ =>
    ⟨by rw [q1.len]; exact hz, fun p hp => hq _ _ (Aft.up x1 (Aft.frz hs1 hp fun x => ⟨_, .lst upd_same (q1.up x), g1⟩))⟩⟩
theorem Aft.own {K : PySem.W.Frag} {ph : Ph} {S : Hp} {r : Env} {σ : St} {H : Hp} {M : Mem} {p : Addr} {xs : List V} {ds : List D} {Q : DQ} (h : Sat K ph S r M σ H) (hp : H p = none) (hr : RepAll K ph S xs ds) (q : Q (.own M.length) (M ++ [.lst ds])) :
    post K ph S r σ Q (.ref p) (upd H p (.lst xs)) :=
  let ⟨x, hs, e⟩ := h.new hp hr
  ⟨_, _, _, x, hs, _, .own e, q⟩
theorem de_own {es : List Expr} {t : DTA} (h : DA X es t) : DE X (.List es pos) (dOwn t) :=
  DE.of (pe_lst h.pa) fun ph S r M σ H Q hs ht Q' hq => ⟨ph, S, r, M, _, hs, ht, fun vs H1 ⟨ph1, S1, M1, x1, hs1, ds, q1, hz, g1⟩ =>
    ⟨by rw [q1.len]; exact hz, fun p hp => hq _ _ (Aft.up x1 (Aft.own hs1 hp q1 g1))⟩⟩
/-! ### subscripts -/
/-- d's item at i, for every kind of sequence -/
def gIx : G2 := fun x y M Q => match res M x, y with
  | .lst l, .int i => match atI l i with
    | some d => Q d M
    | none => False
  | .tup l, .int i => match atI l i with
    | some d => Q d M
    | none => False
  | .scr ns, .int i => match atI ns i with
    | some n => Q (.int n) M
    | none => False
  | _, _ => False
theorem atI_rep {K : PySem.W.Frag} {ph : Ph} {S : Hp} {vs : List V} {ds : List D} {i : Int} {d : D} (h : RepAll K ph S vs ds) (e : atI ds i = some d) : ∃ v, atI vs i = some v ∧ Rep K ph S v d := by
  unfold atI at e ⊢
  rw [h.len]
  cases q : ixN ds.length i with
  | none => rw [q] at e; cases e
  | some j =>
    rw [q] at e
    exact h.get e
theorem atI_map {α β : Type} {f : α → β} {l : List α} {i : Int} {x : α} (e : atI l i = some x) : atI (l.map f) i = some (f x) := by
  unfold atI at e ⊢
  rw [List.length_map]
  cases q : ixN l.length i with
  | none => rw [q] at e; cases e
  | some j =>
    rw [q] at e
    show (l.map f)[j]? = _
    rw [List.getElem?_map]
    rw [show l[j]? = some x from e]
    rfl
/-- an owned list's items represent over S -/
theorem res_lst {K : PySem.W.Frag} {ph : Ph} {S : Hp} {r : Env} {M : Mem} {σ : St} {H : Hp} {v : V} {d : D} {l : List D} (hs : Sat K ph S r M σ H) (q : Rep K ph S v d) (e : res M d = .lst l) : ∃ a xs, v = .ref a ∧ H a = some (.lst xs) ∧ RepAll K ph S xs l := by
  cases d <;> first | (unfold res at e; cases e; done) | skip
  · cases e
    cases q with
    | lst h1 h2 => exact ⟨_, _, rfl, hs.sub _ _ h1, h2⟩
  · rename_i k
    unfold res at e
    dsimp only at e
    split at e
    · rename_i ds hk
      cases e
      cases q with
      | own h =>
        obtain ⟨a, xs, c1, c2, c3, c4⟩ := hs.cell k _ hk
        rw [h] at c1; cases c1
        exact ⟨_, _, rfl, c3, c4⟩
    · cases e
theorem res_tup {M : Mem} {d : D} {l : List D} (e : res M d = .tup l) : d = .tup l := by
  cases d <;> first | exact e | skip
  unfold res at e
  dsimp only at e
  split at e <;> cases e
theorem res_scr {M : Mem} {d : D} {l : List Int} (e : res M d = .scr l) : d = .scr l := by
  cases d <;> first | exact e | skip
  unfold res at e
  dsimp only at e
  split at e <;> cases e
theorem de_ix {ta tb : DTE} (ha : DE X a ta) (hb : DE X b tb) (hs : PlainIx b := by exact fun _ _ => rfl) : DE X (.Subscript a b pos) (dOp gIx ta tb) :=
  DE.of (pe_ix (ix_list.or ix_tup) ha.pe hb.pe hs) fun ph S r M σ H Q hs ht Q' hq => ⟨ph, S, r, M, _, hs, ht, fun v H1 ⟨ph1, S1, M1, x1, hs1, d, q1, g1⟩ =>
    ⟨ph1, S1, r, M1, _, hs1, g1, fun u H2 ⟨ph2, S2, M2, x2, hs2, e, q2, g2⟩ => by
      have q1' := q1.up x2
      have xx := x1.trans x2
      replace g2 : gIx d e M2 Q := g2
      unfold gIx at g2
      split at g2
      · rename_i l i er
        cases q2
        split at g2
        · rename_i d' ei
          obtain ⟨p, xs, rfl, hp, hx⟩ := res_lst hs2 q1' er
          obtain ⟨w, ew, qw⟩ := atI_rep hx ei
          exact .inl ⟨p, xs, i, w, rfl, rfl, SqL.of hp, ew, hq _ _ ⟨ph2, S2, M2, xx, hs2, _, qw, g2⟩⟩
        · exact g2.elim
      · rename_i l i er
        cases q2
        split at g2
        · rename_i d' ei
          cases res_tup er
          cases q1' with
          | tup h1 h2 =>
            obtain ⟨w, ew, qw⟩ := atI_rep h2 ei
            exact .inr ⟨_, _, i, w, rfl, rfl, h1.sq hs2.sub, ew, hq _ _ ⟨ph2, S2, M2, xx, hs2, _, qw, g2⟩⟩
        · exact g2.elim
      · rename_i ns i er
        cases q2
        split at g2
        · rename_i n ei
          cases res_scr er
          cases q1' with
          | scr h1 => exact .inl ⟨_, _, i, _, rfl, rfl, hs2.sub.seq h1, atI_map ei, hq _ _ ⟨ph2, S2, M2, xx, hs2, _, .int _, g2⟩⟩
        · exact g2.elim
      · exact g2.elim⟩⟩
end DL
/-! DL5: defs and their calls -/
namespace DL
open PySem PySem.Spec PyProof.Rows L2
/-! ### a def's promise over the hand layer, where no guard runs -/
structure FnG (P : Program) (w : World) (K : PySem.W.Frag) (mg : Str → Option Value) (base : Heap) (CX : CXT) (k : Nat) (f : Addr) (fd : FuncData) (ps : List Str) (sp : Sp) : Prop where
  len : ∀ vs H Q E, sp vs H Q E → vs.length = ps.length
  run : ∀ (A : Around) (outer : List PySem.Env) (s : Shared) (H : Hp) (args : Args) (us : List Value) (vs : List V) (Q : VK) (E : XK), Room k A → A.guards = some [] → Env0 P w K mg base A outer s H → BindsTo s fd args (ps.zip us) → Vals vs us → sp vs H Q E →
    codeAny (model P w) A (.call (.ref f) args) (CR CX outer P w H s Q E) s
theorem FnG.mono {P : Program} {w : World} {K : PySem.W.Frag} {mg : Str → Option Value} {base : Heap} {CX : CXT} {j k : Nat} {f : Addr} {fd : FuncData} {ps : List Str} {sp : Sp} (F : FnG P w K mg base CX j f fd ps sp) (h : j ≤ k) :
    FnG P w K mg base CX k f fd ps sp := ⟨F.len, fun A outer s H args us vs Q E hr => F.run A outer s H args us vs Q E (hr.mono h)⟩
section
variable {X : Cx} {CX : CXT} {k : Nat} {f : Addr} {fd : FuncData} {ps : List Str} {sp : Sp} {dvs : List V} {ds : List Value} {E : XK} {x : Str} {p pos : Pos} {e : Expr} {es : List Expr} {t : TA}
theorem run_fnG {pins : List (Addr × Obj)} {σ : St} {H : Hp} {s : Shared} {Q : VK} {us : List Value} {vs : List V} (F : FnG X.prog X.w X.K X.mg X.base CX k f fd ps sp) (hr : Room k X.A) (gd : X.A.guards = some []) (hb : Binds X.K fd ps ds) (hd : Vals dvs ds) (hx : Passes CX X E)
    (I : Inv X pins σ H s) (r : Vals vs us) (h : sp (vs ++ dvs) H Q E) : wpAny (model X.prog X.w) X.A (call (.ref f) us) (EP X pins σ Q) X.xe s := by
  have r2 : Vals (vs ++ dvs) (us ++ ds) := r.append hd
  have hl : (us ++ ds).length = ps.length := by rw [← r2.length]; exact F.len _ _ _ _ h
  refine wpAny_call (codeAny_mono (F.run X.A X.stack s H ⟨us, []⟩ (us ++ ds) (vs ++ dvs) Q E hr gd I.env0 (hb s us I.kIn hl) r2 h) fun r s' hq => ?_)
  match r, hq with
  | .error e, hq => exact hx pins σ H s e s' I hq
  | .ok (.ret u), hq => exact I.after hq
  | .ok .next, hq => exact False.elim hq
  | .ok .brk, hq => exact False.elim hq
  | .ok .cont, hq => exact False.elim hq
theorem pe_callG (F : FnG X.prog X.w X.K X.mg X.base CX k f fd ps sp) (hr : Room k X.A) (gd : X.A.guards = some []) (hg : Gl X x) (hm : X.mg x = some (.ref f)) (hk : PySem.W.keepIn X.K (.ref f) = true) (hb : Binds X.K fd ps ds) (hd : Vals dvs ds) (hx : Passes CX X E)
    (ha : PA X (e :: es) t) (hdb : (x == ("__debug__" : Str)) = false := by decide) (he : starEach (e :: es) X.env = (false, eval e X.env) :: starEach es X.env := by rfl) (hpl : (backTo pos (starEach es X.env)).any (·.1) = false := by rfl) :
    PE X (.Call (.Name x p) (e :: es) [] pos) (tCall sp dvs E t) :=
  ⟨fun pins s σ H Q I h => wpAny_Call_Name_kw (ld_glob I hg hm (PySem.W.callWith_K (h₀ := X.base) I.ok.mod.kin hk (thn (ha.run pos pins s σ H _ I h) fun us s1 ⟨vs, H1, I1, r, q⟩ => ⟨I1.kIn, run_fnG F hr gd hb hd hx I1 r q⟩) he hpl) hdb)⟩
end
/-- a def by its body -/
theorem fnG_of {CX : CXT} {P : Program} {w : World} {K : PySem.W.Frag} {mg : Str → Option Value} {base : Heap} {k : Nat} {f : Addr} {name qual : Str} {params : Arguments} {body : List Stmt} {scope : Scope} {dV kV doc pm cdv ct oc : Value} {an od : Option Addr}
    {osl : Array (Option Value)} {N ps : List Str} {sp : Sp} (lk : K.lookup f = some ⟨oc, od, .func (PySem.W.fnOf name qual params body scope dV kV doc pm an cdv ct), osl⟩) (hcd : PySem.W.codeIn K cdv qual = true) (S : FnScope N ps scope)
    (len : ∀ vs H Q E, sp vs H Q E → vs.length = ps.length)
    (hbody : ∀ (A : Around) (outer : List PySem.Env) (s : Shared) (H : Hp) (vs : List V) (Q : VK) (E : XK), Room k (A.deeper (envOfC qual scope s.heap.objs.size f cdv)) → A.guards = some [] → sp vs H Q E →
      ∃ t, PSs (cxOf CX P w K mg base N qual scope f cdv A outer s H E) body t ∧ t { nx := fun _ H' => Q .non H', rt := Q } (start N vs) H) :
    FnG P w K mg base CX (k + 1) f (PySem.W.fnOf name qual params body scope dV kV doc pm an cdv ct) ps sp := by
  refine ⟨len, fun A outer s H args us vs Q E hr gd e0 hb r hsp => ?_⟩
  have hl := len _ _ _ _ hsp
  have KX : K.In s.heap := e0.mod.kin.keeps fun b o e => (e0.bs b o e).1
  have lim : s.heap.NoLimit := e0.mod.nolimit.keeps fun b o e => (e0.bs b o e).1
  refine codeAny_call_function hr.depth (KX _ _ lk) rfl S.co S.gen rfl (PySem.W.codeRec_of KX hcd) (hb _ _ _ _ ?_)
  refine wpAny_newFunctionEnv_cells S.kind (fun y hy => ?_) fun env he s1 x => ?_
  · rcases S.par y.1 (List.of_mem_zip (a := y.1) (b := y.2) hy).1 with q | q
    · exact .inl q
    · exact .inr ⟨q, PySem.W.cellsFrom_some _ _ _ (.inl q)⟩
  subst he
  refine ⟨lim.keeps x.toInCall.keep, codeAny_func ?_⟩
  obtain ⟨t, ht, hq⟩ := hbody A outer s H vs Q E (hr.deeper _) gd hsp
  have I : Inv (cxOf CX P w K mg base N qual scope f cdv A outer s H E) [] (start N vs) H s1 := inv_start S hr.hd e0 hl r x
  refine wpAny_mono (ht.run [] s1 (start N vs) H _ I hq) (fun fl s' hs => ?_) fun e s' hs => hs
  match fl, hs with
  | .ret u, ⟨v, σ', H', J, rv, q⟩ => exact ⟨v, H', J.os, J.bare, J.base, J.hok, rv, q⟩
  | .next, ⟨σ', H', J, q⟩ => exact ⟨V.non, H', J.os, J.bare, J.base, J.hok, rfl, q⟩
  | .brk, ⟨_, _, _, q⟩ => exact False.elim q
  | .cont, ⟨_, _, _, q⟩ => exact False.elim q
/-! ### a def's promise over data -/
/-- what is wanted of an exception: its class, its value, the cells -/
abbrev DX := Str → D → Mem → Prop
abbrev DSp := List D → Mem → DQ → DX → Prop
def DX0 : DX := fun _ _ _ => False
def postM (K : PySem.W.Frag) (ph : Ph) (S : Hp) (Q : DQ) : VK := post K ph S [] [] Q
def postX (K : PySem.W.Frag) (ph : Ph) (S : Hp) (E : DX) : XK := fun cls d H => ∃ (x : Str) (C T dd : Addr) (v : V) (dv : D), XA.ErC K x C T ∧ cls = .ref C ∧ d = some dd ∧
  Aft K ph S [] [] H fun ph' S' M => S' dd = some (.xd [(fVal, v)]) ∧ Rep K ph' S' v dv ∧ E x dv M
def lfSp (K : PySem.W.Frag) (n : Nat) (sp : DSp) : Sp := fun vs H Q E => ∃ ph S M ds Q0 E0, ds.length = n ∧ Sat K ph S [] M [] H ∧ RepAll K ph S vs ds ∧ sp ds M Q0 E0 ∧ (∀ v H', postM K ph S Q0 v H' → Q v H') ∧ (∀ cls d H', postX K ph S E0 cls d H' → E cls d H')
abbrev FnD (P : Program) (w : World) (K : PySem.W.Frag) (mg : Str → Option Value) (base : Heap) (CX : CXT) (k : Nat) (f : Addr) (fd : FuncData) (ps : List Str) (sp : DSp) : Prop :=
  FnG P w K mg base CX k f fd ps (lfSp K ps.length sp)
theorem Sat.drop {K : PySem.W.Frag} {ph : Ph} {S : Hp} {r : Env} {M : Mem} {σ : St} {H : Hp} (h : Sat K ph S r M σ H) : Sat K ph S [] M [] H :=
  ⟨h.sub, h.len, h.nd, h.trk, h.cell, h.hid, h.hnd, rfl, fun i d e => by simp at e⟩
/-- behind a call the names are as they were -/
theorem Sat.back {K : PySem.W.Frag} {ph ph' : Ph} {S S' : Hp} {r : Env} {M M' : Mem} {σ : St} {H H' : Hp} (h : Sat K ph S r M σ H) (x : Ext ph S ph' S') (h' : Sat K ph' S' [] M' [] H') : Sat K ph' S' r M' σ H' :=
  ⟨h'.sub, h'.len, h'.nd, h'.trk, h'.cell, h'.hid, h'.hnd, h.el, fun i d e => let ⟨v, e1, q⟩ := h.env i d e; ⟨v, e1, q.up x⟩⟩
section
variable {X : Cx} {CX : CXT} {k : Nat} {f : Addr} {fd : FuncData} {ps : List Str} {sp : DSp} {x : Str} {p pos : Pos} {e : Expr} {es : List Expr} {t : DTA}
/-- f(..), then the defaults -/
def dCall (n : Nat) (sp : DSp) (dvs : List D) (E : DX) (t : DTA) : DTE := fun r M Q => t r M fun ds M1 => (ds ++ dvs).length = n ∧ sp (ds ++ dvs) M1 Q E
/-- a value that is the same everywhere -/
def Cst (K : PySem.W.Frag) (v : V) (d : D) : Prop := ∀ ph S, Rep K ph S v d
inductive Csts (K : PySem.W.Frag) : List V → List D → Prop
  | nil : Csts K [] []
  | cons {v : V} {d : D} {vs : List V} {ds : List D} : Cst K v d → Csts K vs ds → Csts K (v :: vs) (d :: ds)
theorem Csts.rep {K : PySem.W.Frag} {ph : Ph} {S : Hp} : ∀ {vs : List V} {ds : List D}, Csts K vs ds → RepAll K ph S vs ds
  | _, _, .nil => .nil
  | _, _, .cons h t => .cons (h _ _) t.rep
theorem lf_call {t' : TA} {dvs : List V} {dds : List D} {E' : XK} {E : DX} (hE : ∀ ph S cls d H', postX X.K ph S E cls d H' → E' cls d H') (hc : Csts X.K dvs dds) {ph : Ph} {S : Hp} {r : Env} {M : Mem} {σ : St} {H : Hp} {Q : DQ} {Q' : VK} (hs : Sat X.K ph S r M σ H) (ht : dCall ps.length sp dds E t r M Q) (hq : ∀ v H', post X.K ph S r σ Q v H' → Q' v H')
    (w : ∀ Q1 : List V → Hp → Prop, (∀ vs H', postA X.K ph S r σ (fun ds M1 => (ds ++ dds).length = ps.length ∧ sp (ds ++ dds) M1 Q E) vs H' → Q1 vs H') → t' σ H Q1) : tCall (lfSp X.K ps.length sp) dvs E' t' σ H Q' :=
  w _ fun vs H1 ⟨ph1, S1, M1, x1, hs1, ds, q1, hl, h1⟩ => ⟨ph1, S1, M1, ds ++ dds, Q, E, hl, hs1.drop, q1.app hc.rep, h1, fun v H2 ⟨ph2, S2, M2, x2, hs2, d, q2, h2⟩ => hq _ _ ⟨ph2, S2, M2, x1.trans x2, hs1.back x2 hs2, d, q2, h2⟩, fun cls d H2 h2 => hE _ _ _ _ _ h2⟩
theorem de_callX {dvs : List V} {dds : List D} {ds : List Value} {E' : XK} {E : DX} (F : FnD X.prog X.w X.K X.mg X.base CX k f fd ps sp) (hr : Room k X.A) (gd : X.A.guards = some []) (hm : X.mg x = some (.ref f)) (hk : PySem.W.keepIn X.K (.ref f) = true) (hb : Binds X.K fd ps ds) (hd : Vals dvs ds) (hc : Csts X.K dvs dds) (hx : Passes CX X E') (hE : ∀ ph S cls d H', postX X.K ph S E cls d H' → E' cls d H')
    (ha : DA X (e :: es) t) (hg : Gl X x := by rfl) (hdb : (x == ("__debug__" : Str)) = false := by decide) (he : starEach (e :: es) X.env = (false, eval e X.env) :: starEach es X.env := by rfl) (hpl : (backTo pos (starEach es X.env)).any (·.1) = false := by rfl) :
    DE X (.Call (.Name x p) (e :: es) [] pos) (dCall ps.length sp dds E t) :=
  DE.of (pe_callG F hr gd hg hm hk hb hd hx ha.pa hdb he hpl) fun ph S r M σ H Q hs ht Q' hq => lf_call hE hc hs ht hq fun Q1 hQ1 => ⟨ph, S, r, M, _, hs, ht, hQ1⟩
theorem pX0 : ∀ ph S cls d H', postX X.K ph S DX0 cls d H' → E0 cls d H' := fun _ _ _ _ _ ⟨_, _, _, _, _, _, _, _, _, _, _, _, _, _, _, _, z⟩ => z
/-- what is told of a def of the module, for its callers -/
structure Def (P : Program) (w : World) (K : PySem.W.Frag) (mg : Str → Option Value) (base : Heap) (CX : CXT) (k : Nat) (x : Str) (st : Stmt) (ps : List Str) (sp : DSp) : Prop where
  ex : ∃ (f : Addr) (fd : FuncData), FnD P w K mg base CX k f fd ps sp ∧ mg x = some (.ref f) ∧ PySem.W.keepIn K (.ref f) = true ∧ Binds K fd ps [] ∧ Fun K x x st f fd
/-- a call of a def from which nothing is raised -/
theorem dcall {n : Nat} {st : Stmt} {P : Program} {w : World} {K : PySem.W.Frag} {mg : Str → Option Value} {base : Heap} (F : Def P w K mg base CX0 k x st ps sp) {j : Nat} (hr : Room j X.A) (gd : X.A.guards = some []) (ha : DA X (e :: es) t) (hj : k ≤ j := by decide) (hn : ps.length = n := by rfl)
    (h1 : P = X.prog := by rfl) (h2 : w = X.w := by rfl) (h3 : K = X.K := by rfl) (h4 : mg = X.mg := by rfl) (h5 : base = X.base := by rfl) (hg : Gl X x := by rfl) (hdb : (x == ("__debug__" : Str)) = false := by decide) (he : starEach (e :: es) X.env = (false, eval e X.env) :: starEach es X.env := by rfl)
    (hpl : (backTo pos (starEach es X.env)).any (·.1) = false := by rfl) : DE X (.Call (.Name x p) (e :: es) [] pos) (dCall n sp [] DX0 t) := by
  subst h1 h2 h3 h4 h5 hn
  obtain ⟨f, fd, h1, h2, h3, h4, _⟩ := F.ex
  exact de_callX h1 (hr.mono hj) gd h2 h3 h4 .nil .nil pass0 pX0 ha hg hdb he hpl
end
/-! ### at the end of a def: the cells that it made are left behind -/
mutual
def below (n : Nat) : D → Bool
  | .tup l => belowAll n l
  | .lst l => belowAll n l
  | .own k => decide (k < n)
  | .exc _ d => below n d
  | _ => true
def belowAll (n : Nat) : List D → Bool
  | [] => true
  | d :: ds => below n d && belowAll n ds
end
def belowO (n : Nat) : Own → Bool
  | .lst l => belowAll n l
  | .dead => true
section
variable {K : PySem.W.Frag} {ph : Ph} {S : Hp} {n : Nat}
mutual
theorem Rep.take : ∀ (d : D) (v : V), below n d = true → Rep K ph S v d → Rep K (ph.cut n) S v d
  | .non, _, _, h => by cases h; exact .non
  | .bl _, _, _, h => by cases h; exact .bl _
  | .int _, _, _, h => by cases h; exact .int _
  | .str _, _, _, h => by cases h; exact .str _
  | .tup ds, _, e, h => by
    cases h with
    | tup h1 h2 => exact .tup h1 (RepAll.takeP ds _ (by simpa only [below] using e) h2)
  | .lst ds, _, e, h => by
    cases h with
    | lst h1 h2 => exact .lst h1 (RepAll.takeP ds _ (by simpa only [below] using e) h2)
  | .dct0, _, _, h => by
    cases h with
    | dct0 h1 => exact .dct0 h1
  | .scr ns, _, _, h => by
    cases h with
    | scr h1 => exact .scr h1
  | .own k, _, e, h => by
    cases h with
    | own h1 =>
      have e' : k < n := of_decide_eq_true (by simpa only [below] using e)
      exact .own (by show (ph.cells.take n)[k]? = _; rw [List.getElem?_take_of_lt e']; exact h1)
  | .glb _, _, _, h => by
    cases h with
    | glb h1 => exact .glb h1
  | .exc C d, _, e, h => by
    cases h with
    | exc h0 h1 h2 h3 => exact .exc h0 h1 h2 (Rep.take d _ (by simpa only [below] using e) h3)
  | .val v, _, _, h => by cases h; exact .val _
theorem RepAll.takeP : ∀ (ds : List D) (vs : List V), belowAll n ds = true → RepAll K ph S vs ds → RepAll K (ph.cut n) S vs ds
  | [], _, _, h => by cases h; exact .nil
  | d :: ds, _, e, h => by
    have e' : below n d = true ∧ belowAll n ds = true := by simpa only [belowAll, Bool.and_eq_true] using e
    cases h with
    | cons h1 h2 => exact .cons (Rep.take d _ e'.1 h1) (RepAll.takeP ds _ e'.2 h2)
end
mutual
theorem Rep.belowP : ∀ (d : D) (v : V), Rep K ph S v d → below ph.cells.length d = true
  | .non, _, _ => by simp only [below]
  | .bl _, _, _ => by simp only [below]
  | .int _, _, _ => by simp only [below]
  | .str _, _, _ => by simp only [below]
  | .tup ds, _, h => by
    cases h with
    | tup h1 h2 => simp only [below]; exact RepAll.belowP ds _ h2
  | .lst ds, _, h => by
    cases h with
    | lst h1 h2 => simp only [below]; exact RepAll.belowP ds _ h2
  | .dct0, _, _ => by simp only [below]
  | .scr ns, _, _ => by simp only [below]
  | .own k, _, h => by
    cases h with
    | own h1 => simp only [below]; exact decide_eq_true (List.getElem?_eq_some_iff.mp h1).1
  | .glb _, _, _ => by simp only [below]
  | .exc C d, _, h => by
    cases h with
    | exc h0 h1 h2 h3 => simp only [below]; exact Rep.belowP d _ h3
  | .val v, _, _ => by simp only [below]
theorem RepAll.belowP : ∀ (ds : List D) (vs : List V), RepAll K ph S vs ds → belowAll ph.cells.length ds = true
  | [], _, _ => by simp only [belowAll]
  | d :: ds, _, h => by
    cases h with
    | cons h1 h2 => simp only [belowAll, Bool.and_eq_true]; exact ⟨Rep.belowP d _ h1, RepAll.belowP ds _ h2⟩
end
end
mutual
theorem below.mono {m n : Nat} (hmn : m ≤ n) : ∀ d : D, below m d = true → below n d = true
  | .non, _ => by simp only [below]
  | .bl _, _ => by simp only [below]
  | .int _, _ => by simp only [below]
  | .str _, _ => by simp only [below]
  | .tup ds, h => by
    simp only [below] at h ⊢
    exact belowAll.mono hmn ds h
  | .lst ds, h => by
    simp only [below] at h ⊢
    exact belowAll.mono hmn ds h
  | .dct0, _ => by simp only [below]
  | .scr _, _ => by simp only [below]
  | .own k, h => by
    simp only [below] at h ⊢
    have := of_decide_eq_true h
    exact decide_eq_true (by omega)
  | .glb _, _ => by simp only [below]
  | .exc _ d, h => by
    simp only [below] at h ⊢
    exact below.mono hmn d h
  | .val _, _ => by simp only [below]
theorem belowAll.mono {m n : Nat} (hmn : m ≤ n) : ∀ ds : List D, belowAll m ds = true → belowAll n ds = true
  | [], _ => by simp only [belowAll]
  | d :: ds, h => by
    simp only [belowAll, Bool.and_eq_true] at h ⊢
    exact ⟨below.mono hmn d h.1, belowAll.mono hmn ds h.2⟩
end
/-- d and the cells M1 are what stays of M': all else was made by the def -/
def Rtq (M : Mem) (Q : DQ) : DQ := fun d M' => ∃ M1 G, M' = M1 ++ G ∧ M.length ≤ M1.length ∧ below M1.length d = true ∧ (∀ (i : Nat) (c : Own), M1[i]? = some c → M[i]? = some c ∨ belowO M1.length c = true) ∧ Q d M1
theorem Sat.leave {K : PySem.W.Frag} {ph ph1 : Ph} {S S1 : Hp} {r : Env} {M M1 G : Mem} {σ : St} {H H1 : Hp} (h0 : Sat K ph S [] M [] H) (x : Ext ph S ph1 S1) (h : Sat K ph1 S1 r (M1 ++ G) σ H1) (hl : M.length ≤ M1.length) (hc : ∀ (i : Nat) (c : Own), M1[i]? = some c → M[i]? = some c ∨ belowO M1.length c = true) :
    Ext ph S (ph1.cut M1.length) S1 ∧ Sat K (ph1.cut M1.length) S1 [] M1 [] H1 := by
  have hpl : M1.length ≤ ph1.cells.length := by have := h.len; rw [List.length_append] at this; omega
  have up : ∀ (k : Nat) (a : Addr), k < M1.length → ph1.cells[k]? = some a → (ph1.cut M1.length).cells[k]? = some a := fun k a hk e => by show (ph1.cells.take M1.length)[k]? = _; rw [List.getElem?_take_of_lt hk]; exact e
  have dn : ∀ (k : Nat) (a : Addr), (ph1.cut M1.length).cells[k]? = some a → ph1.cells[k]? = some a := fun k a e => by
    replace e : (ph1.cells.take M1.length)[k]? = some a := e
    have hk : k < M1.length := by
      have := (List.getElem?_eq_some_iff.mp e).1
      rw [List.length_take] at this; omega
    rw [List.getElem?_take_of_lt hk] at e; exact e
  refine ⟨⟨fun k a e => up k a ?_ (x.pre k a e), x.same, x.hid⟩, h.sub, ?_, h.nd.sublist (List.take_sublist _ _), fun k a e => h.trk k a (dn k a e), fun k ds e => ?_, fun q hq => ?_, h.hnd, rfl, fun i d e => by simp at e⟩
  · refine Nat.lt_of_lt_of_le ?_ hl
    rw [← h0.len]; exact (List.getElem?_eq_some_iff.mp e).1
  · show (ph1.cells.take M1.length).length = _
    rw [List.length_take]; omega
  · have kl : k < M1.length := (List.getElem?_eq_some_iff.mp e).1
    obtain ⟨a, xs, c1, c2, c3, c4⟩ := h.cell k ds (by rw [List.getElem?_append_left kl]; exact e)
    refine ⟨a, xs, up k a (by omega) c1, c2, c3, RepAll.takeP ds xs ?_ c4⟩
    rcases hc k _ e with q | q
    · obtain ⟨_, _, _, _, _, b4⟩ := h0.cell k ds q
      refine belowAll.mono hl _ ?_
      rw [← h0.len]; exact RepAll.belowP _ _ b4
    · simpa only [belowO] using q
  · obtain ⟨h1, h2, h3⟩ := h.hid q hq
    exact ⟨h1, h2, fun z => h3 (List.mem_of_mem_take z)⟩
theorem Rtq.out {K : PySem.W.Frag} {ph : Ph} {S : Hp} {M : Mem} {H : Hp} {Q : DQ} (h0 : Sat K ph S [] M [] H) {v : V} {H1 : Hp} (h : postR K ph S (Rtq M Q) v H1) : postM K ph S Q v H1 := by
  obtain ⟨r, σ, ph1, S1, M', x, hs, d, q, M1, G, rfl, hl, hb, hc, hq⟩ := h
  obtain ⟨x2, hs2⟩ := Sat.leave h0 x hs hl hc
  exact ⟨_, _, _, x2, hs2, d, Rep.take d v hb q, hq⟩
/-- the names at the entry -/
def startD (n : Nat) (ds : List D) : Env := ds.map some ++ List.replicate (n - ds.length) none
theorem Sat.start {K : PySem.W.Frag} {ph : Ph} {S : Hp} {M : Mem} {H : Hp} {vs : List V} {ds : List D} (h : Sat K ph S [] M [] H) (q : RepAll K ph S vs ds) (N : List Str) : Sat K ph S (startD N.length ds) M (L2.start N vs) H := by
  refine ⟨h.sub, h.len, h.nd, h.trk, h.cell, h.hid, h.hnd, ?_, fun i d e => ?_⟩
  · unfold startD L2.start
    rw [List.length_append, List.length_append, List.length_map, List.length_map, List.length_replicate, List.length_replicate, q.len]
  · unfold startD at e
    by_cases hi : i < ds.length
    · rw [List.getElem?_append_left (by rw [List.length_map]; exact hi), List.getElem?_map] at e
      cases e' : ds[i]? with
      | none => rw [e'] at e; cases e
      | some d' =>
        rw [e'] at e
        have e2 : d' = d := by simpa using e
        subst e2
        obtain ⟨v, ev, qv⟩ := q.get e'
        refine ⟨v, ?_, qv⟩
        unfold L2.start
        rw [List.getElem?_append_left (by rw [List.length_map, q.len]; exact hi), List.getElem?_map, ev]
        rfl
    · rw [List.getElem?_append_right (by rw [List.length_map]; omega), List.getElem?_replicate] at e
      split at e <;> cases e
/-- what the body's end is for the def -/
def dEnds (M : Mem) (Q : DQ) : DEnds := { nx := fun _ M' => Rtq M Q .non M', rt := Rtq M Q }
section
variable {P : Program} {w : World} {K : PySem.W.Frag} {mg : Str → Option Value} {base : Heap}
/-- THE RULE: a def from which nothing is raised, by its body; its end leaves its own cells behind -/
theorem Fun.okD {x qual : Str} {st : Stmt} {f : Addr} {fd : FuncData} {N ps : List Str} {k : Nat} {sp : DSp} {t : DTS} (F : Fun K x qual st f fd) (S : FnScope N ps (defScope st))
    (hder : ∀ (cdv : Value) (A : Around) (outer : List PySem.Env) (s : Shared) (H : Hp) (E : XK), Room k (A.deeper (envOfC qual (defScope st) s.heap.objs.size f cdv)) → (A.deeper (envOfC qual (defScope st) s.heap.objs.size f cdv)).guards = some [] →
      DSs (cxOf CX0 P w K mg base N qual (defScope st) f cdv A outer s H E).nox (defBody st) t)
    (hread : ∀ ds M Q, ds.length = ps.length → sp ds M Q DX0 → t (dEnds M Q) (startD N.length ds) M)
    (hX : ∀ ds M Q E, sp ds M Q E → sp ds M Q DX0 := by exact fun _ _ _ _ h => h) : FnD P w K mg base CX0 (k + 1) f fd ps sp := by
  obtain ⟨oc, od, kV, doc, pm, an, cdv, ct, osl, rfl, lk, hcd⟩ := F.ex
  refine fnG_of lk hcd S (fun vs H Q E h => ?_) fun A outer s H vs Q E hr gd hsp => ?_
  · obtain ⟨_, _, _, _, _, _, hl, _, q, _⟩ := h
    rw [q.len]; exact hl
  · obtain ⟨ph, S0, M, ds, Q0, E0, hl, hs, hq, h, h1, h2⟩ := hsp
    refine ⟨_, (hder cdv A outer s H E hr gd).pss.nox, ph, S0, startD N.length ds, M, dEnds M Q0, hs.start hq N, hread ds M Q0 hl (hX _ _ _ _ h), ?_, ?_, ?_, ?_⟩
    · rintro σ' H' ⟨r, ph1, S1, M1, x, hs1, z⟩
      exact h1 _ _ (Rtq.out hs ⟨r, σ', ph1, S1, M1, x, hs1, .non, .non, z⟩)
    · exact fun v H' z => h1 _ _ (Rtq.out hs z)
    · rintro σ' H' ⟨r, ph1, S1, M1, x, hs1, z⟩
      exact z.elim
    · rintro σ' H' ⟨r, ph1, S1, M1, x, hs1, z⟩
      exact z.elim
end
end DL
/-! DL6: statements, loops, comprehensions -/
namespace DL
open PySem PySem.Spec PyProof.Rows L2
variable {X : Cx}
theorem DS.of {st : Stmt} {t' : TS} {t : DTS} (h : PS X st t') (w : ∀ ph S r M σ H E, Sat X.K ph S r M σ H → t E r M → ∀ E', (∀ σ' H', postN X.K ph S E.nx σ' H' → E'.nx σ' H') → (∀ v H', postR X.K ph S E.rt v H' → E'.rt v H') → (∀ σ' H', postN X.K ph S E.bk σ' H' → E'.bk σ' H') → (∀ σ' H', postN X.K ph S E.ct σ' H' → E'.ct σ' H') → t' E' σ H) : DS X st t :=
  ⟨PS.weak h fun E σ H ⟨ph, S, r, M, E0, hs, ht, h1, h2, h3, h4⟩ => w ph S r M σ H E0 hs ht E h1 h2 h3 h4⟩
theorem postN.up {K : PySem.W.Frag} {ph ph1 : Ph} {S S1 : Hp} {Q : Env → Mem → Prop} {σ : St} {H : Hp} (x : Ext ph S ph1 S1) (h : postN K ph1 S1 Q σ H) : postN K ph S Q σ H := let ⟨r, q⟩ := h; ⟨r, Aft.up x q⟩
theorem postR.up {K : PySem.W.Frag} {ph ph1 : Ph} {S S1 : Hp} {Q : DQ} {v : V} {H : Hp} (x : Ext ph S ph1 S1) (h : postR K ph1 S1 Q v H) : postR K ph S Q v H := let ⟨r, σ, q⟩ := h; ⟨r, σ, Aft.up x q⟩
/-! ### blocks -/
def dNext : DTS := fun E r M => E.nx r M
def dSeq (t u : DTS) : DTS := fun E r M => t { E with nx := u E } r M
theorem dss_nil : DSs X [] dNext := ⟨PSs.weak pss_nil fun E σ H ⟨ph, S, r, M, E0, hs, ht, h1, _, _, _⟩ => h1 _ _ ⟨r, Aft.here hs ht⟩⟩
theorem lf_on {ph ph1 : Ph} {S S1 : Hp} {r : Env} {M : Mem} {σ : St} {H : Hp} {t : DTS} {E : DEnds} {E' : Ends} (x : Ext ph S ph1 S1) (hs : Sat X.K ph1 S1 r M σ H) (ht : t E r M)
    (h1 : ∀ σ' H', postN X.K ph S E.nx σ' H' → E'.nx σ' H') (h2 : ∀ v H', postR X.K ph S E.rt v H' → E'.rt v H') (h3 : ∀ σ' H', postN X.K ph S E.bk σ' H' → E'.bk σ' H') (h4 : ∀ σ' H', postN X.K ph S E.ct σ' H' → E'.ct σ' H') : lfS X.K t E' σ H :=
  ⟨ph1, S1, r, M, E, hs, ht, fun _ _ z => h1 _ _ (z.up x), fun _ _ z => h2 _ _ (z.up x), fun _ _ z => h3 _ _ (z.up x), fun _ _ z => h4 _ _ (z.up x)⟩
theorem dss_cons {st : Stmt} {rest : List Stmt} {t u : DTS} (h : DS X st t) (h' : DSs X rest u) : DSs X (st :: rest) (dSeq t u) :=
  ⟨PSs.weak (pss_cons h.ps h'.pss) fun E σ H ⟨ph, S, r, M, E0, hs, ht, h1, h2, h3, h4⟩ =>
    ⟨ph, S, r, M, { E0 with nx := u E0 }, hs, ht, fun σ' H' ⟨r1, ph1, S1, M1, x, hs1, z⟩ => lf_on x hs1 z h1 h2 h3 h4, h2, h3, h4⟩⟩
theorem dss_one {st : Stmt} {t : DTS} (h : DS X st t) : DSs X [st] t := ⟨pss_one h.ps⟩
def dNever : DTS := fun _ _ _ => False
theorem ds_never {st : Stmt} : DS X st dNever := ⟨PS.weak ps_never fun E σ H ⟨ph, S, r, M, E0, hs, ht, _⟩ => ht.elim⟩
section
variable {pos : Pos}
/-- an expression whose value is dropped -/
def dDrop (t : DTE) : DTS := fun E r M => t r M fun _ M1 => E.nx r M1
theorem ds_expr {e : Expr} {t : DTE} (he : DE X e t) (hs : swapsWith e none pos.line X.env = pure false := by rfl) : DS X (.Expr e pos) (dDrop t) :=
  DS.of (ps_expr he.pe hs) fun ph S r M σ H E hs ht E' h1 _ _ _ => ⟨ph, S, r, M, _, hs, ht, fun v H' ⟨ph1, S1, M1, x, hs1, d, _, z⟩ => h1 _ _ ⟨r, ph1, S1, M1, x, hs1, z⟩⟩
def dRet (t : DTE) : DTS := fun E r M => t r M E.rt
theorem ds_ret {e : Expr} {t : DTE} (he : DE X e t) : DS X (.Return (some e) pos) (dRet t) :=
  DS.of (ps_ret he.pe) fun ph S r M σ H E hs ht E' _ h2 _ _ => ⟨ph, S, r, M, _, hs, ht, fun v H' z => h2 _ _ ⟨r, σ, z⟩⟩
def dRetN : DTS := fun E _ M => E.rt .non M
def dIfS (c : DTT) (t u : DTS) : DTS := fun E r M => c r M fun b M1 => if b = true then t E r M1 else u E r M1
theorem ds_if {c : Expr} {a b : List Stmt} {tc : DTT} {t u : DTS} (hc : DT X c tc) (ha : DSs X a t) (hb : DSs X b u) : DS X (.If c a b pos) (dIfS tc t u) :=
  DS.of (ps_if hc.pt ha.pss hb.pss) fun ph S r M σ H E hs ht E' h1 h2 h3 h4 => ⟨ph, S, r, M, _, hs, ht, fun k H1 ⟨ph1, S1, M1, x, hs1, z⟩ => by
    cases k with
    | true => exact lf_on x hs1 z h1 h2 h3 h4
    | false => exact lf_on x hs1 z h1 h2 h3 h4⟩
end
/-! ### targets -/
abbrev DTG := D → Env → Mem → (Env → Mem → Prop) → Prop
structure DG (X : Cx) (target : Expr) (g : DTG) : Prop where
  pg : PG X target (fun v σ H Q => ∃ ph S r M d Q0, Sat X.K ph S r M σ H ∧ Rep X.K ph S v d ∧ g d r M Q0 ∧ ∀ σ' H', postN X.K ph S Q0 σ' H' → Q σ' H')
def dName (i : Nat) : DTG := fun d r M Q => Q (r.set i (some d)) M
theorem dg_name {i : Nat} {x : Str} {pos : Pos} (hN : X.N.Nodup) (hi : X.N[i]? = some x := by rfl) (hx : Loc X.env.scope x := by first | exact Or.inl rfl | exact Or.inr rfl) (hf : X.fn x = true ∨ X.env.scope.names.lookup x = some .local := by first | exact .inl rfl | exact .inr rfl | assumption) : DG X (.Name x pos) (dName i) :=
  ⟨⟨fun pins s σ H v u Q I rv ⟨ph, S, r, M, d, Q0, hs, q, hg, h1⟩ => (pg_name hN hi hx hf).run pins s σ H v u Q I rv (h1 _ _ ⟨_, Aft.here (hs.setN q) hg⟩)⟩⟩
abbrev DTGs := List D → Env → Mem → (Env → Mem → Prop) → Prop
structure DGs (X : Cx) (ts : List Expr) (g : DTGs) : Prop where
  pgs : PGs X ts (fun vs σ H Q => ∃ ph S r M ds Q0, Sat X.K ph S r M σ H ∧ RepAll X.K ph S vs ds ∧ g ds r M Q0 ∧ ∀ σ' H', postN X.K ph S Q0 σ' H' → Q σ' H')
def dGNil : DTGs := fun ds r M Q => match ds with
  | [] => Q r M
  | _ => False
def dGCons (g : DTG) (u : DTGs) : DTGs := fun ds r M Q => match ds with
  | d :: rest => g d r M fun r1 M1 => u rest r1 M1 Q
  | _ => False
theorem dgs_nil : DGs X [] dGNil := ⟨⟨fun pins s σ H vs us Q I rv ⟨ph, S, r, M, ds, Q0, hs, q, hg, h1⟩ => pgs_nil.run pins s σ H vs us Q I rv (by
  cases ds with
  | cons d ds => exact hg.elim
  | nil =>
    cases q
    exact ⟨rfl, h1 _ _ ⟨r, Aft.here hs hg⟩⟩)⟩⟩
theorem dgs_cons {e : Expr} {es : List Expr} {g : DTG} {u : DTGs} (h : DG X e g) (h' : DGs X es u) (hst : (assignEach (e :: es) X.env).map (·.2) = assign e X.env :: (assignEach es X.env).map (·.2) := by rfl) : DGs X (e :: es) (dGCons g u) :=
  ⟨⟨fun pins s σ H vs us Q I rv ⟨ph, S, r, M, ds, Q0, hs, q, hg, h1⟩ => (pgs_cons h.pg h'.pgs hst).run pins s σ H vs us Q I rv (by
    cases ds with
    | nil => exact hg.elim
    | cons d ds =>
      cases q with
      | cons q1 q2 => exact ⟨_, _, rfl, ph, S, r, M, d, _, hs, q1, hg, fun σ1 H1 ⟨r1, ph1, S1, M1, x1, hs1, z⟩ => ⟨ph1, S1, r1, M1, ds, Q0, hs1, q2.up x1, z, fun σ2 H2 z2 => h1 _ _ (z2.up x1)⟩⟩)⟩⟩
/-- (a, b, ..) = a tuple, or a list -/
def dGTup (n : Nat) (u : DTGs) : DTG := fun d r M Q => match res M d with
  | .tup ds => ds.length = n ∧ u ds r M Q
  | .lst ds => ds.length = n ∧ u ds r M Q
  | _ => False
theorem dg_tup {es : List Expr} {k : Nat} {u : DTGs} {n : Nat} {pos : Pos} (hc : X.calm = true) (h : DGs X es u) (hn : (assignEach es X.env).length = n := by rfl) (hst : (assignEach es X.env).findIdx? (·.1) = none := by rfl) : DG X (.Tuple es k pos) (dGTup n u) :=
  ⟨⟨fun pins s σ H v u' Q I rv ⟨ph, S, r, M, d, Q0, hs, q, hg, h1⟩ => by
    unfold dGTup at hg
    split at hg
    · rename_i ds e
      have e' := res_tup e
      subst e'
      refine (pg_tup hc h.pgs hn hst).run pins s σ H v u' Q I rv ?_
      cases q with
      | tup q1 q2 => exact ⟨_, _, rfl, q1.sq hs.sub, by rw [q2.len]; exact hg.1, ph, S, r, M, _, Q0, hs, q2, hg.2, h1⟩
    · rename_i ds e
      obtain ⟨a, xs, e1, e2, q2⟩ := res_lst hs q e
      refine (pg_unl hc h.pgs hn hst).run pins s σ H v u' Q I rv ?_
      exact ⟨a, xs, e1, SqL.of e2, by rw [q2.len]; exact hg.1, ph, S, r, M, _, Q0, hs, q2, hg.2, h1⟩
    · exact hg.elim⟩⟩
/-- o[i] = .., o an owned list -/
def gSetL (o i d : D) (M : Mem) (Q : Mem → Prop) : Prop := match o, i with
  | .own k, .int j => match M[k]? with
    | some (.lst l) => match ixN l.length j with
      | some n => Q (M.set k (.lst (l.set n d)))
      | none => False
    | _ => False
  | _, _ => False
def dSub (to ti : DTE) : DTG := fun d r M Q => to r M fun o M1 => ti r M1 fun i M2 => gSetL o i d M2 fun M3 => Q r M3
theorem dg_sub {o i : Expr} {to ti : DTE} {pos : Pos} (ho : DE X o to) (hi : DE X i ti)
    (ha : ∀ v, assign (.Subscript o i pos) X.env v = (do
      let ov ← holding [v] (eval o X.env)
      let iv ← holding [v, ov] (eval i X.env)
      standAt pos
      holding [v, ov, iv] (setItem ov iv v)
      release [v, ov, iv] []) := by intro _; rfl) : DG X (.Subscript o i pos) (dSub to ti) :=
  ⟨⟨fun pins s σ H v u Q I rv ⟨ph, S, r, M, d, Q0, hs, q, hg, h1⟩ => (pg_sub ho.pe hi.pe set_list ha).run pins s σ H v u Q I rv
    ⟨ph, S, r, M, _, hs, hg, fun ov H1 ⟨ph1, S1, M1, x1, hs1, od, q1, g1⟩ => ⟨ph1, S1, r, M1, _, hs1, g1, fun iv H2 ⟨ph2, S2, M2, x2, hs2, id', q2, g2⟩ => by
      replace g2 : gSetL od id' d M2 fun M3 => Q0 r M3 := g2
      cases od with
      | own k =>
        cases id' with
        | int j =>
          unfold gSetL at g2
          dsimp only at g2
          split at g2
          · rename_i l hk
            split at g2
            · rename_i n hn
              cases q2
              cases q1 with
              | own hp =>
                have hp2 := x2.pre _ _ hp
                obtain ⟨a, xs, c1, c2, c3, c4⟩ := hs2.cell k l hk
                rw [hp2] at c1; cases c1
                exact ⟨_, xs, j, n, rfl, rfl, c3, by rw [c4.len]; exact hn, h1 _ _ ⟨r, ph2, S2, _, x1.trans x2, hs2.put hk hp2 (RepAll.set (q.up (x1.trans x2)) n c4), g2⟩⟩
            · exact g2.elim
          · exact g2.elim
        | _ => exact g2.elim
      | _ => exact g2.elim⟩⟩⟩⟩
/-- target = value -/
def dAsg (t : DTE) (g : DTG) : DTS := fun E r M => t r M fun d M1 => g d r M1 E.nx
section
variable {pos : Pos}
theorem ds_asg {tg e : Expr} {t : DTE} {g : DTG} (he : DE X e t) (hg : DG X tg g) (hs : swapsWithSole [tg] e pos.line X.env = pure false := by rfl) (hw : swappedStores [tg] e X.env = pure none := by rfl)
    (h1 : (assignEach [tg] X.env).map (·.2) = [assign tg X.env] := by rfl) : DS X (.Assign [tg] e pos) (dAsg t g) :=
  DS.of (ps_asg he.pe hg.pg hs hw h1) fun ph S r M σ H E hs ht E' h1 _ _ _ => ⟨ph, S, r, M, _, hs, ht, fun v H' ⟨ph1, S1, M1, x, hs1, d, q, z⟩ => ⟨ph1, S1, r, M1, d, E.nx, hs1, q, z, fun σ2 H2 z2 => h1 _ _ (z2.up x)⟩⟩
/-- name = value -/
theorem ds_set {i : Nat} {x : Str} {e : Expr} {t : DTE} {pos' : Pos} (hN : X.N.Nodup) (he : DE X e t) (hi : X.N[i]? = some x := by rfl) (hx : Loc X.env.scope x := by first | exact Or.inl rfl | exact Or.inr rfl) (hs : swapsWith e (some (.Name x pos')) pos.line X.env = pure false := by rfl) (hf : X.fn x = true ∨ X.env.scope.names.lookup x = some .local := by first | exact .inl rfl | exact .inr rfl | assumption) :
    DS X (.Assign [.Name x pos'] e pos) (dAsg t (dName i)) :=
  DS.of (ps_set hN hi hx he.pe hs hf) fun ph S r M σ H E hs ht E' h1 _ _ _ => ⟨ph, S, r, M, _, hs, ht, fun v H' ⟨ph1, S1, M1, x, hs1, d, q, z⟩ => h1 _ _ ⟨_, ph1, S1, M1, x, hs1.setN q, z⟩⟩
/-- a, b = x, y -/
def dPar (i j : Nat) (t : DTA) : DTS := fun E r M => t r M fun ds M1 => match ds with
  | [d, e] => E.nx ((r.set i (some d)).set j (some e)) M1
  | _ => False
theorem ds_par {i j : Nat} {x y : Str} {a b : Expr} {t : DTA} {px py pt : Pos} {kt k2 pt2} (hc : X.calm = true) (hN : X.N.Nodup) (ha : DA X [a, b] t) (hi : X.N[i]? = some x := by rfl) (hj : X.N[j]? = some y := by rfl) (hij : i ≠ j := by decide)
    (hx : X.env.scope.names.lookup x = some .local := by rfl) (hy : X.env.scope.names.lookup y = some .local := by rfl)
    (hw : swappedStores [.Tuple [.Name x px, .Name y py] kt pt] (.Tuple [a, b] k2 pt2) X.env = pure (some [x, y]) := by rfl)
    (hs : swapsWithSole [.Tuple [.Name x px, .Name y py] kt pt] (.Tuple [a, b] k2 pt2) pos.line X.env = pure false := by rfl) :
    DS X (.Assign [.Tuple [.Name x px, .Name y py] kt pt] (.Tuple [a, b] k2 pt2) pos) (dPar i j t) :=
  DS.of (ps_par hc hN hi hj hij hx hy ha.pa hw hs) fun ph S r M σ H E hs ht E' h1 _ _ _ => ⟨ph, S, r, M, _, hs, ht, fun vs H' ⟨ph1, S1, M1, x, hs1, ds, q, z⟩ => by
    match ds, q, z with
    | [d, e], .cons q1 (.cons q2 .nil), z => exact ⟨_, _, rfl, h1 _ _ ⟨_, ph1, S1, M1, x, (hs1.setN q1).setN q2, z⟩⟩⟩
def dPar3 (i j l : Nat) (t : DTA) : DTS := fun E r M => t r M fun ds M1 => match ds with
  | [d, e, f] => E.nx (((r.set i (some d)).set j (some e)).set l (some f)) M1
  | _ => False
theorem ds_par3 {i j l : Nat} {x y z : Str} {a b c : Expr} {t : DTA} {px py pz pt : Pos} {kt k2 pt2} (hc : X.calm = true) (hN : X.N.Nodup) (ha : DA X [a, b, c] t) (hi : X.N[i]? = some x := by rfl) (hj : X.N[j]? = some y := by rfl) (hl : X.N[l]? = some z := by rfl) (hij : i ≠ j := by decide) (hil : i ≠ l := by decide) (hjl : j ≠ l := by decide)
    (hx : X.env.scope.names.lookup x = some .local := by rfl) (hy : X.env.scope.names.lookup y = some .local := by rfl) (hz : X.env.scope.names.lookup z = some .local := by rfl)
    (hw : swappedStores [.Tuple [.Name x px, .Name y py, .Name z pz] kt pt] (.Tuple [a, b, c] k2 pt2) X.env = pure (some [x, y, z]) := by rfl)
    (hs : swapsWithSole [.Tuple [.Name x px, .Name y py, .Name z pz] kt pt] (.Tuple [a, b, c] k2 pt2) pos.line X.env = pure false := by rfl) :
    DS X (.Assign [.Tuple [.Name x px, .Name y py, .Name z pz] kt pt] (.Tuple [a, b, c] k2 pt2) pos) (dPar3 i j l t) :=
  DS.of (ps_par3 hc hN hi hj hl hij hil hjl hx hy hz ha.pa hw hs) fun ph S r M σ H E hs ht E' h1 _ _ _ => ⟨ph, S, r, M, _, hs, ht, fun vs H' ⟨ph1, S1, M1, x, hs1, ds, q, z⟩ => by
    match ds, q, z with
    | [d, e, f], .cons q1 (.cons q2 (.cons q3 .nil)), z => exact ⟨_, _, _, rfl, h1 _ _ ⟨_, ph1, S1, M1, x, ((hs1.setN q1).setN q2).setN q3, z⟩⟩⟩
/-- name op= e (ints) -/
def gIpI (f : Int → Int → Int) (x y : D) (M : Mem) (Q : DQ) : Prop := match x, y with
  | .int i, .int j => Q (.int (f i j)) M
  | _, _ => False
def dAug (i : Nat) (t : DTE) (f : Int → Int → Int) : DTS := fun E r M => match r[i]? with
  | some (some (.int a)) => t r M fun d M1 => gIpI f (.int a) d M1 fun z M2 => E.nx (r.set i (some z)) M2
  | _ => False
/-! ### while -/
def dWhile (c : DTT) (t : DTS) : DTS := fun E r M => ∃ W : Nat → Env → Mem → Prop, (∃ m, W m r M) ∧ ∀ m r M, W m r M →
  c r M fun b M1 => if b = true then t { E with nx := fun r' M' => ∃ m', m' < m ∧ W m' r' M', ct := fun r' M' => ∃ m', m' < m ∧ W m' r' M', bk := E.nx } r M1 else E.nx r M1
theorem ds_while {c : Expr} {body : List Stmt} {tc : DTT} {t : DTS} (hc : DT X c tc) (hb : DSs X body t) (hp : PassesOwn (model X.prog X.w) X.A X.env X.xe := by exact PassesOwn.never) : DS X (.While c body [] pos) (dWhile tc t) :=
  DS.of (ps_while hp hc.pt hb.pss) fun ph S r M σ H E hs ht E' h1 h2 h3 h4 => by
    obtain ⟨W, ⟨m0, w0⟩, turn⟩ := ht
    refine ⟨fun m σ H => postN X.K ph S (W m) σ H, ⟨m0, r, Aft.here hs w0⟩, fun m σ1 H1 ⟨r1, ph1, S1, M1, x1, hs1, w1⟩ => ?_⟩
    refine ⟨ph1, S1, r1, M1, _, hs1, turn m r1 M1 w1, fun b H2 ⟨ph2, S2, M2, x2, hs2, z⟩ => ?_⟩
    cases b with
    | false =>
      rw [if_neg Bool.false_ne_true] at z ⊢
      exact h1 _ _ ⟨r1, ph2, S2, M2, x1.trans x2, hs2, z⟩
    | true =>
      rw [if_pos rfl] at z ⊢
      refine ⟨fun σ' H' => ∃ m', m' < m ∧ postN X.K ph S (W m') σ' H', fun _ _ q => q, ?_⟩
      exact lf_on (x1.trans x2) hs2 z (fun σ' H' ⟨r', ph', S', M', x', hs', m', hm, w'⟩ => ⟨m', hm, r', ph', S', M', x', hs', w'⟩) h2 h1 (fun σ' H' ⟨r', ph', S', M', x', hs', m', hm, w'⟩ => ⟨m', hm, r', ph', S', M', x', hs', w'⟩)
end
/-! ### what is walked -/
/-- J walks the items ds, while C holds of the cells -/
def Wlk (K : PySem.W.Frag) (ph : Ph) (S : Hp) (J : It) (ds : List D) (C : Mem → Prop) : Prop :=
  ∀ (ph' : Ph) S' r M σ H, (∀ (k : Nat) (a : Addr), ph.cells[k]? = some a → ph'.cells[k]? = some a) → Same S S' → Sat K ph' S' r M σ H → C M →
    (∀ i, ds.length ≤ i → J.stop i H) ∧ ∀ i d, ds[i]? = some d → J.go i H ∧ ∀ x H', J.yld i H x H' → Aft K ph' S' r σ H' fun ph2 S2 M2 => M2 = M ∧ Rep K ph2 S2 x d
abbrev DTI := Env → Mem → (List D → (Mem → Prop) → Mem → Prop) → Prop
structure DI (X : Cx) (tg iter : Expr) (t : DTI) : Prop where
  pi : PI X tg iter (fun σ H R => ∃ ph S r M Q0, Sat X.K ph S r M σ H ∧ t r M Q0 ∧ ∀ J H', (Aft X.K ph S r σ H' fun ph' S' M' => ∃ ds C, Wlk X.K ph' S' J ds C ∧ Q0 ds C M') → R J H')
/-- for: W holds ahead of turn i -/
def forW (ds : List D) (C : Mem → Prop) (g : DTG) (t : DTS) (E : DEnds) (r : Env) (M0 : Mem) : Prop := ∃ W : Nat → Env → Mem → Prop, W 0 r M0 ∧ ∀ i r M, W i r M → C M ∧ (ds.length ≤ i → E.nx r M) ∧
  ∀ d, ds[i]? = some d → g d r M fun r2 M2 => t { E with nx := W (i + 1), ct := W (i + 1), bk := E.nx } r2 M2
def dFor (wi : DTI) (g : DTG) (t : DTS) : DTS := fun E r M => wi r M fun ds C M0 => forW ds C g t E r M0
theorem ds_for {tg iter : Expr} {body : List Stmt} {wi : DTI} {g : DTG} {t : DTS} {pos : Pos} (hc : X.calm = true) (hi : DI X tg iter wi) (hg : DG X tg g) (hb : DSs X body t)
    (hs : ∀ x, foldedSetIterable iter X.env x = pure x := by intro _; rfl) (hp : PassesOwn (model X.prog X.w) X.A X.env X.xe := by exact PassesOwn.never) : DS X (.For tg iter body [] pos) (dFor wi g t) :=
  DS.of (ps_for hp hc hi.pi hg.pg hb.pss hs) fun ph S r M σ H E hs ht E' h1 h2 h3 h4 => by
    refine ⟨ph, S, r, M, _, hs, ht, fun J H1 ⟨ph1, S1, M1, x1, hs1, ds, C, wk, W, w0, turn⟩ => ?_⟩
    refine ⟨fun i m σ H => m = ds.length - i ∧ ∃ r', Aft X.K ph1 S1 r' σ H fun _ _ M => W i r' M, ⟨ds.length, by omega, r, Aft.here hs1 w0⟩, ?_⟩
    rintro i m σ3 H3 ⟨rfl, r3, ph3, S3, M3, x3, hs3, w3⟩
    obtain ⟨c3, f3, g3⟩ := turn i r3 M3 w3
    obtain ⟨k1, k2⟩ := wk ph3 S3 r3 M3 σ3 H3 x3.pre x3.same hs3 c3
    by_cases hl : ds.length ≤ i
    · exact .inl ⟨k1 i hl, h1 _ _ ⟨r3, ph3, S3, M3, x1.trans x3, hs3, f3 hl⟩⟩
    · obtain ⟨d, ed⟩ : ∃ d, ds[i]? = some d := ⟨ds[i]'(by omega), List.getElem?_eq_getElem (by omega)⟩
      obtain ⟨k3, k4⟩ := k2 i d ed
      refine .inr ⟨k3, fun σ' H' => ∃ r', Aft X.K ph1 S1 r' σ' H' fun _ _ M => W (i + 1) r' M, fun σ' H' z => ⟨ds.length - (i + 1), by omega, rfl, z⟩, fun x H4 hy => ?_⟩
      obtain ⟨ph4, S4, M4, x4, hs4, rfl, q4⟩ := k4 x H4 hy
      refine ⟨ph4, S4, r3, M4, d, _, hs4, q4, g3 d ed, fun σ5 H5 ⟨r5, ph5, S5, M5, x5, hs5, z5⟩ => ?_⟩
      have xx : Ext ph1 S1 ph5 S5 := x3.trans (x4.trans x5)
      refine ⟨ph5, S5, r5, M5, _, hs5, z5, ?_, ?_, ?_, ?_⟩
      · exact fun σ6 H6 ⟨r6, z6⟩ => ⟨r6, Aft.up xx z6⟩
      · exact fun v H6 z6 => h2 _ _ (z6.up (x1.trans xx))
      · exact fun σ6 H6 z6 => h1 _ _ (z6.up (x1.trans xx))
      · exact fun σ6 H6 ⟨r6, z6⟩ => ⟨r6, Aft.up xx z6⟩
/-! ### comprehensions -/
/-- the tests behind if -/
def dYes : DTT := fun _ M Q => Q true M
structure DTs (X : Cx) (ifs : List Expr) (t : DTT) : Prop where
  pts : PTs X ifs (fun σ H Q => ∃ ph S r M Q0, Sat X.K ph S r M σ H ∧ t r M Q0 ∧ ∀ b H', postT X.K ph S r σ Q0 b H' → Q b H')
theorem dts_nil : DTs X [] dYes := ⟨⟨fun pins s σ H Q I ⟨ph, S, r, M, Q0, hs, ht, hq⟩ => pts_nil.run pins s σ H Q I (hq _ _ (Aft.here hs ht))⟩⟩
theorem dts_one {c : Expr} {t : DTT} (h : DT X c t) : DTs X [c] t := ⟨pts_one h.pt⟩
def wipeD (r : Env) : List Nat → Env
  | [] => r
  | v :: vs => (wipeD r vs).set v none
theorem Sat.clr {K : PySem.W.Frag} {ph : Ph} {S : Hp} {r : Env} {M : Mem} {σ : St} {H : Hp} (h : Sat K ph S r M σ H) (i : Nat) : Sat K ph S (r.set i none) M (σ.set i none) H := by
  refine ⟨h.sub, h.len, h.nd, h.trk, h.cell, h.hid, h.hnd, by rw [List.length_set, List.length_set]; exact h.el, fun j e hj => ?_⟩
  by_cases hi : j = i
  · subst hi
    have jl : j < r.length := by
      have := (List.getElem?_eq_some_iff.mp hj).1
      rwa [List.length_set] at this
    rw [List.getElem?_set_self jl] at hj
    cases hj
  · rw [List.getElem?_set_ne (Ne.symm hi)] at hj
    rw [List.getElem?_set_ne (Ne.symm hi)]
    exact h.env j e hj
theorem Sat.wipe {K : PySem.W.Frag} {ph : Ph} {S : Hp} {r : Env} {M : Mem} {σ : St} {H : Hp} (h : Sat K ph S r M σ H) : ∀ vs : List Nat, Sat K ph S (wipeD r vs) M (L2.wipe σ vs) H
  | [] => h
  | v :: vs => (Sat.wipe h vs).clr v
/-- a target whose names are the comprehension's own (places vs) -/
structure DCG (X : Cx) (target : Expr) (vs : List Nat) (g : DTG) : Prop where
  pg : PG X target (fun v σ H Q => ∃ ph S r M d Q0, Sat X.K ph S r M σ H ∧ Rep X.K ph S v d ∧ g d r M Q0 ∧ ∀ σ' H', postN X.K ph S Q0 σ' H' → L2.wipe σ' vs = L2.wipe σ vs → Q σ' H')
theorem wipe_set {σ : St} {i : Nat} {x : Option V} : ∀ {vs : List Nat}, i ∈ vs → L2.wipe (σ.set i x) vs = L2.wipe σ vs
  | [], h => by cases h
  | v :: vs, h => by
    unfold L2.wipe
    by_cases hv : i ∈ vs
    · rw [wipe_set hv]
    · have e : i = v := (List.mem_cons.mp h).resolve_right hv
      subst e
      have key : ∀ (us : List Nat), i ∉ us → L2.wipe (σ.set i x) us = (L2.wipe σ us).set i x := by
        intro us
        induction us with
        | nil => intro _; rfl
        | cons u us ih =>
          intro hu
          unfold L2.wipe
          rw [ih (fun z => hu (List.mem_cons_of_mem _ z)), List.set_comm _ _ (fun e => hu (by rw [e]; exact List.mem_cons_self))]
      rw [key vs hv, List.set_set]
theorem dcg_name {i : Nat} {x : Str} {pos : Pos} {vs : List Nat} (hN : X.N.Nodup) (hi : X.N[i]? = some x := by rfl) (hv : i ∈ vs := by decide) (hx : Loc X.env.scope x := by first | exact Or.inl rfl | exact Or.inr rfl) (hf : X.fn x = true ∨ X.env.scope.names.lookup x = some .local := by first | exact .inl rfl | exact .inr rfl | assumption) : DCG X (.Name x pos) vs (dName i) :=
  ⟨⟨fun pins s σ H v u Q I rv ⟨ph, S, r, M, d, Q0, hs, q, hg, h1⟩ => (pg_name hN hi hx hf).run pins s σ H v u Q I rv (h1 _ _ ⟨_, Aft.here (hs.setN q) hg⟩ (wipe_set hv))⟩⟩
structure DCGs (X : Cx) (ts : List Expr) (vs : List Nat) (g : DTGs) : Prop where
  pgs : PGs X ts (fun us σ H Q => ∃ ph S r M ds Q0, Sat X.K ph S r M σ H ∧ RepAll X.K ph S us ds ∧ g ds r M Q0 ∧ ∀ σ' H', postN X.K ph S Q0 σ' H' → L2.wipe σ' vs = L2.wipe σ vs → Q σ' H')
theorem dcgs_nil {vs : List Nat} : DCGs X [] vs dGNil := ⟨⟨fun pins s σ H us us' Q I rv ⟨ph, S, r, M, ds, Q0, hs, q, hg, h1⟩ => pgs_nil.run pins s σ H us us' Q I rv (by
  cases ds with
  | cons d ds => exact hg.elim
  | nil =>
    cases q
    exact ⟨rfl, h1 _ _ ⟨r, Aft.here hs hg⟩ rfl⟩)⟩⟩
theorem dcgs_cons {e : Expr} {es : List Expr} {vs : List Nat} {g : DTG} {u : DTGs} (h : DCG X e vs g) (h' : DCGs X es vs u) (hst : (assignEach (e :: es) X.env).map (·.2) = assign e X.env :: (assignEach es X.env).map (·.2) := by rfl) : DCGs X (e :: es) vs (dGCons g u) :=
  ⟨⟨fun pins s σ H us us' Q I rv ⟨ph, S, r, M, ds, Q0, hs, q, hg, h1⟩ => (pgs_cons h.pg h'.pgs hst).run pins s σ H us us' Q I rv (by
    cases ds with
    | nil => exact hg.elim
    | cons d ds =>
      cases q with
      | cons q1 q2 => exact ⟨_, _, rfl, ph, S, r, M, d, _, hs, q1, hg, fun σ1 H1 ⟨r1, ph1, S1, M1, x1, hs1, z⟩ e1 => ⟨ph1, S1, r1, M1, ds, Q0, hs1, q2.up x1, z, fun σ2 H2 z2 e2 => h1 _ _ (z2.up x1) (e2.trans e1)⟩⟩)⟩⟩
theorem dcg_tup {es : List Expr} {k : Nat} {u : DTGs} {n : Nat} {pos : Pos} {vs : List Nat} (hc : X.calm = true) (h : DCGs X es vs u) (hn : (assignEach es X.env).length = n := by rfl) (hst : (assignEach es X.env).findIdx? (·.1) = none := by rfl) : DCG X (.Tuple es k pos) vs (dGTup n u) :=
  ⟨⟨fun pins s σ H v u' Q I rv ⟨ph, S, r, M, d, Q0, hs, q, hg, h1⟩ => by
    unfold dGTup at hg
    split at hg
    · rename_i ds e
      have e' := res_tup e
      subst e'
      refine (pg_tup hc h.pgs hn hst).run pins s σ H v u' Q I rv ?_
      cases q with
      | tup q1 q2 => exact ⟨_, _, rfl, q1.sq hs.sub, by rw [q2.len]; exact hg.1, ph, S, r, M, _, Q0, hs, q2, hg.2, h1⟩
    · rename_i ds e
      obtain ⟨a, xs, e1, e2, q2⟩ := res_lst hs q e
      refine (pg_unl hc h.pgs hn hst).run pins s σ H v u' Q I rv ?_
      exact ⟨a, xs, e1, SqL.of e2, by rw [q2.len]; exact hg.1, ph, S, r, M, _, Q0, hs, q2, hg.2, h1⟩
    · exact hg.elim⟩⟩
/-- [e for target in iter if ..]: W holds ahead of turn i with the items made so far; own: the list will be changed -/
def lcW (own : Bool) (ds : List D) (C : Mem → Prop) (g : DTG) (tt : DTT) (te : DTE) (r : Env) (M0 : Mem) (Q : DQ) : Prop := ∃ W : Nat → List D → Mem → Prop, W 0 [] M0 ∧ ∀ i acc M, W i acc M → C M ∧
  (ds.length ≤ i → if own = true then Q (.own M.length) (M ++ [.lst acc]) else Q (.lst acc) M) ∧
  ∀ d, ds[i]? = some d → g d r M fun r2 M2 => tt r2 M2 fun b M3 => if b = true then te r2 M3 fun e M4 => acc.length < sizeLine ∧ W (i + 1) (acc ++ [e]) M4 else W (i + 1) acc M3
def dLc (own : Bool) (wi : DTI) (g : DTG) (tt : DTT) (te : DTE) (vs : List Nat) : DTE := fun r M Q => wi r M fun ds C M0 => lcW own ds C g tt te (wipeD r vs) M0 Q
theorem wipe_at {σ : St} {i : Nat} : ∀ {vs : List Nat}, i ∈ vs → i < σ.length → (L2.wipe σ vs)[i]? = some none
  | [], h, _ => by cases h
  | v :: vs, h, hl => by
    unfold L2.wipe
    by_cases e : v = i
    · subst e
      rw [List.getElem?_set_self (by rw [wipe_length]; exact hl)]
    · rw [List.getElem?_set_ne e]
      exact wipe_at ((List.mem_cons.mp h).resolve_left (fun z => e z.symm)) hl
theorem wipe_wipe (σ : St) (vs : List Nat) : L2.wipe (L2.wipe σ vs) vs = L2.wipe σ vs := by
  refine List.ext_getElem? fun i => ?_
  by_cases hi : i ∈ vs
  · by_cases hl : i < σ.length
    · rw [wipe_at hi (by rw [wipe_length]; exact hl), wipe_at hi hl]
    · rw [List.getElem?_eq_none (by rw [wipe_length, wipe_length]; omega), List.getElem?_eq_none (by rw [wipe_length]; omega)]
  · rw [wipe_out hi]
theorem lc_read (o : Bool) {wi : DTI} {g : DTG} {tt : DTT} {te : DTE} {vs : List Nat} {ph : Ph} {S : Hp} {r : Env} {M : Mem} {σ : St} {H : Hp} {Q : DQ} (hs : Sat X.K ph S r M σ H) (ht : dLc o wi g tt te vs r M Q) (Q' : VK) (hq : ∀ v H', post X.K ph S r σ Q v H' → Q' v H') :
    tLc (fun σ H R => ∃ ph S r M Q0, Sat X.K ph S r M σ H ∧ wi r M Q0 ∧ ∀ J H', (Aft X.K ph S r σ H' fun ph' S' M' => ∃ ds C, Wlk X.K ph' S' J ds C ∧ Q0 ds C M') → R J H')
      (fun v σ H Q => ∃ ph S r M d Q0, Sat X.K ph S r M σ H ∧ Rep X.K ph S v d ∧ g d r M Q0 ∧ ∀ σ' H', postN X.K ph S Q0 σ' H' → L2.wipe σ' vs = L2.wipe σ vs → Q σ' H')
      (fun σ H Q => ∃ ph S r M Q0, Sat X.K ph S r M σ H ∧ tt r M Q0 ∧ ∀ b H', postT X.K ph S r σ Q0 b H' → Q b H')
      (fun σ H Q => ∃ ph S r M Q0, Sat X.K ph S r M σ H ∧ te r M Q0 ∧ ∀ v H', post X.K ph S r σ Q0 v H' → Q v H') vs σ H Q' := by
  refine ⟨ph, S, r, M, _, hs, ht, fun J H1 ⟨ph1, S1, M1, x1, hs1, ds, C, wk, W, w0, turn⟩ => ?_⟩
  intro p hp
  refine ⟨fun i m H => m = ds.length - i ∧ ∃ (ph2 : Ph) (S2 : Hp) (M2 : Mem) (xs : List V) (acc : List D), Ext ph1 S1 ⟨ph2.cells, ph1.hid⟩ S2 ∧ ph2.hid = (p, .lst xs) :: ph1.hid ∧ Sat X.K ph2 S2 r M2 σ H ∧ RepAll X.K ph2 S2 xs acc ∧ W i acc M2,
    ⟨ds.length, by omega, { ph1 with hid := (p, .lst []) :: ph1.hid }, S1, M1, [], [], .refl, rfl, hs1.hide hp _, .nil, w0⟩, ?_⟩
  rintro i m H3 ⟨rfl, ph3, S3, M3, xs, acc, x3, eh, hs3, qa, w3⟩
  obtain ⟨c3, f3, g3⟩ := turn i acc M3 w3
  obtain ⟨k1, k2⟩ := wk ph3 S3 r M3 σ H3 x3.pre x3.same hs3 c3
  by_cases hl : ds.length ≤ i
  · refine .inl ⟨k1 i hl, ?_⟩
    have f := f3 hl
    obtain ⟨c, hd⟩ := ph3
    cases eh
    cases o with
    | false =>
      rw [if_neg Bool.false_ne_true] at f
      obtain ⟨x4, hs4⟩ := hs3.hfrz
      exact hq _ _ ⟨⟨c, ph1.hid⟩, _, M3, x1.trans (x3.trans x4), hs4, _, .lst upd_same ((RepAll.hid qa).up x4), f⟩
    | true =>
      rw [if_pos rfl] at f
      obtain ⟨x4, hs4, e4⟩ := hs3.hown (RepAll.hid qa)
      exact hq _ _ ⟨⟨c ++ [p], ph1.hid⟩, _, _, x1.trans (x3.trans x4), hs4, _, .own e4, f⟩
  · obtain ⟨d, ed⟩ : ∃ d, ds[i]? = some d := ⟨ds[i]'(by omega), List.getElem?_eq_getElem (by omega)⟩
    obtain ⟨k3, k4⟩ := k2 i d ed
    refine .inr ⟨k3, fun H' => ∃ (ph2 : Ph) (S2 : Hp) (M2 : Mem) (xs : List V) (acc : List D), Ext ph1 S1 ⟨ph2.cells, ph1.hid⟩ S2 ∧ ph2.hid = (p, .lst xs) :: ph1.hid ∧ Sat X.K ph2 S2 r M2 σ H' ∧ RepAll X.K ph2 S2 xs acc ∧ W (i + 1) acc M2, fun H' z => ⟨ds.length - (i + 1), by omega, rfl, z⟩, fun x H4 hy => ?_⟩
    obtain ⟨ph4, S4, M4, x4, hs4, rfl, q4⟩ := k4 x H4 hy
    refine ⟨ph4, S4, wipeD r vs, M4, d, _, hs4.wipe vs, q4, g3 d ed, fun σ5 H5 ⟨r5, ph5, S5, M5, x5, hs5, z5⟩ e5 => ⟨e5.trans (wipe_wipe σ vs), ?_⟩⟩
    refine ⟨ph5, S5, r5, M5, _, hs5, z5, fun b H6 ⟨ph6, S6, M6, x6, hs6, z6⟩ => ?_⟩
    cases b with
    | false =>
      have xx := x4.trans (x5.trans x6)
      rw [if_neg Bool.false_ne_true] at z6 ⊢
      exact ⟨ph6, S6, M6, xs, acc, ⟨fun k a e => xx.pre k a (x3.pre k a e), x3.same.trans xx.same, rfl⟩, xx.hid.trans eh, hs3.back xx hs6.drop, qa.up xx, z6⟩
    | true =>
      rw [if_pos rfl] at z6 ⊢
      refine ⟨ph6, S6, r5, M6, _, hs6, z6, fun v H7 ⟨ph7, S7, M7, x7, hs7, e, q7, hlt, w7⟩ => ?_⟩
      have xx := x4.trans (x5.trans (x6.trans x7))
      have eh7 : ph7.hid = (p, .lst xs) :: ph1.hid := xx.hid.trans eh
      obtain ⟨c, hd⟩ := ph7
      cases eh7
      have hb : Sat X.K ⟨c, (p, .lst xs) :: ph1.hid⟩ S7 r M7 σ H7 := hs3.back xx hs7.drop
      obtain ⟨g1, _, _⟩ := hb.hid _ List.mem_cons_self
      refine ⟨xs, g1, by rw [qa.len]; exact hlt, ⟨c, (p, .lst (xs ++ [v])) :: ph1.hid⟩, S7, M7, xs ++ [v], acc ++ [e], ⟨fun k a e => xx.pre k a (x3.pre k a e), x3.same.trans xx.same, rfl⟩, rfl, hb.hset, ?_, w7⟩
      exact (RepAll.hid (qa.up xx)).app (.cons (Rep.hid q7) .nil)
theorem de_lc (o : Bool) {elt tg iter : Expr} {ifs : List Expr} {scope : Scope} {own : List (Str × Nat)} {pos : Pos} {wi : DTI} {g : DTG} {tt : DTT} {te : DTE} (hc : X.calm = true) (hN : X.N.Nodup) (ok : BlkOk X.N X.env.scope scope own) (hi : DI X tg iter wi)
    (hg : ∀ (s : Shared) (H : Hp) (C : Addr) (cl : List (Str × Addr)) (fp : List Addr), DCG (X.blk s H scope (compEnvC scope cl C X.env) fp) tg (own.map (·.2)) g)
    (ht : ∀ (s : Shared) (H : Hp) (C : Addr) (cl : List (Str × Addr)) (fp : List Addr), DTs (X.blk s H scope (compEnvC scope cl C X.env) fp) ifs tt)
    (he : ∀ (s : Shared) (H : Hp) (C : Addr) (cl : List (Str × Addr)) (fp : List Addr), DE (X.blk s H scope (compEnvC scope cl C X.env) fp) elt te)
    (hs : ∀ x, foldedSetIterable iter X.env x = pure x := by intro _; rfl) : DE X (.ListComp elt [⟨tg, iter, ifs, 0⟩] scope pos) (dLc o wi g tt te (own.map (·.2))) :=
  DE.of (pe_lc hc hN hi.pi ok (fun s H C cl fp => (hg s H C cl fp).pg) (fun s H C cl fp => (ht s H C cl fp).pts) (fun s H C cl fp => (he s H C cl fp).pe) hs) fun ph S r M σ H Q hs ht Q' hq => lc_read (X := X) o hs ht Q' hq
/-- y = [..] -/
theorem ds_setLc (o : Bool) {i : Nat} {y : Str} {py : Pos} {elt tg iter : Expr} {ifs : List Expr} {scope : Scope} {own : List (Str × Nat)} {pos spos : Pos} {wi : DTI} {g : DTG} {tt : DTT} {te : DTE} (hc : X.calm = true) (hN : X.N.Nodup) (hsw : swapsWith (.ListComp elt [⟨tg, iter, ifs, 0⟩] scope pos) (some (.Name y py)) spos.line X.env = pure true) (ok : BlkOk X.N X.env.scope scope own) (hi : DI X tg iter wi)
    (hg : ∀ (s : Shared) (H : Hp) (C : Addr) (cl : List (Str × Addr)) (fp : List Addr), DCG (X.blk s H scope (compEnvC scope cl C X.env) fp) tg (own.map (·.2)) g)
    (ht : ∀ (s : Shared) (H : Hp) (C : Addr) (cl : List (Str × Addr)) (fp : List Addr), DTs (X.blk s H scope (compEnvC scope cl C X.env) fp) ifs tt)
    (he : ∀ (s : Shared) (H : Hp) (C : Addr) (cl : List (Str × Addr)) (fp : List Addr), DE (X.blk s H scope (compEnvC scope cl C X.env) fp) elt te)
    (hy : X.N[i]? = some y := by rfl) (hyl : X.env.scope.names.lookup y = some .local := by rfl) (hs : ∀ x, foldedSetIterable iter X.env x = pure x := by intro _; rfl) : DS X (.Assign [.Name y py] (.ListComp elt [⟨tg, iter, ifs, 0⟩] scope pos) spos) (dAsg (dLc o wi g tt te (own.map (·.2))) (dName i)) :=
  DS.of (ps_setLc hc hN hy hyl hsw hi.pi ok (fun s H C cl fp => (hg s H C cl fp).pg) (fun s H C cl fp => (ht s H C cl fp).pts) (fun s H C cl fp => (he s H C cl fp).pe) hs) fun ph S r M σ H E hs ht E' h1 _ _ _ =>
    lc_read (X := X) o hs ht _ fun v H' ⟨ph1, S1, M1, x, hs1, d, q, z⟩ => h1 _ _ ⟨_, ph1, S1, M1, x, hs1.setN q, z⟩
end DL
/-! DL7: what is walked; built-ins; methods; slices; repr -/
namespace DL
open PySem PySem.Spec PyProof.Rows L2
variable {X : Cx}
/-! ### what is walked -/
theorem Wlk.list {K : PySem.W.Frag} {ph : Ph} {S : Hp} {a : Addr} {ds : List D} {C : Mem → Prop} (h : ∀ (ph' : Ph) (S' : Hp) (r : Env) (M : Mem) (σ : St) (H : Hp), (∀ (k : Nat) (a : Addr), ph.cells[k]? = some a → ph'.cells[k]? = some a) → Same S S' → Sat K ph' S' r M σ H → C M → ∃ xs, SqL K H a xs ∧ RepAll K ph' S' xs ds) : Wlk K ph S (Itl K a) ds C :=
  fun ph' S' r M σ H h1 h2 hs hc => by
    obtain ⟨xs, q, qa⟩ := h ph' S' r M σ H h1 h2 hs hc
    refine ⟨fun i hi => ⟨xs, q, by rw [qa.len]; exact hi⟩, fun i d e => ?_⟩
    obtain ⟨x, ex, qx⟩ := qa.get e
    refine ⟨⟨xs, x, q, ex⟩, fun y H' ⟨e1, e2⟩ => ?_⟩
    subst e1
    have ey := e2 xs q
    rw [ex] at ey
    cases ey
    exact Aft.here hs ⟨rfl, qx⟩
theorem Wlk.tup {K : PySem.W.Frag} {ph : Ph} {S : Hp} {a : Addr} {ds : List D} {C : Mem → Prop} (h : ∀ (ph' : Ph) (S' : Hp) (r : Env) (M : Mem) (σ : St) (H : Hp), (∀ (k : Nat) (a : Addr), ph.cells[k]? = some a → ph'.cells[k]? = some a) → Same S S' → Sat K ph' S' r M σ H → C M → ∃ xs, SqT K H a xs ∧ RepAll K ph' S' xs ds) : Wlk K ph S (Itt K a) ds C :=
  fun ph' S' r M σ H h1 h2 hs hc => by
    obtain ⟨xs, q, qa⟩ := h ph' S' r M σ H h1 h2 hs hc
    refine ⟨fun i hi => ⟨xs, q, by rw [qa.len]; exact hi⟩, fun i d e => ?_⟩
    obtain ⟨x, ex, qx⟩ := qa.get e
    refine ⟨⟨xs, x, q, ex⟩, fun y H' ⟨e1, e2⟩ => ?_⟩
    subst e1
    have ey := e2 xs q
    rw [ex] at ey
    cases ey
    exact Aft.here hs ⟨rfl, qx⟩
theorem RepAll.ext0 {K : PySem.W.Frag} {ph ph' : Ph} {S S' : Hp} {d : List D} {v : List V} (h1 : ∀ (k : Nat) (a : Addr), ph.cells[k]? = some a → ph'.cells[k]? = some a) (h2 : Same S S') (q : RepAll K ph S v d) : RepAll K ph' S' v d :=
  RepAll.hid (c := ph'.cells) (l := ph.hid) (l' := ph'.hid) (q.up (ph' := ⟨ph'.cells, ph.hid⟩) ⟨h1, h2, rfl⟩)
/-- a list, a tuple, the script -/
def gSeqI (d : D) (M : Mem) (R : List D → (Mem → Prop) → Mem → Prop) : Prop := match d with
  | .lst ds => R ds (fun _ => True) M
  | .tup ds => R ds (fun _ => True) M
  | .scr ns => R (ns.map D.int) (fun _ => True) M
  | .own k => match M[k]? with
    | some (.lst ds) => R ds (fun M' => M'[k]? = some (.lst ds)) M
    | _ => False
  | _ => False
def dSeqI (t : DTE) : DTI := fun r M R => t r M fun d M1 => gSeqI d M1 R
/-- it is a list at a, or a tuple -/
theorem pi_seq {tg l : Expr} {tl : TE} (hl : PE X l tl) : PI X tg l (fun σ H R => tl σ H fun x H1 => ∃ a, x = .ref a ∧ (((∃ xs, SqL X.K H1 a xs) ∧ R (Itl X.K a) H1) ∨ ((∃ xs, SqT X.K H1 a xs) ∧ R (Itt X.K a) H1))) := by
  refine ⟨fun pins s σ H R I h => thn (hl.run pins s σ H _ I h) fun v s1 ⟨x, H1, I1, r1, a, ex, q1⟩ => ?_⟩
  subst ex
  cases r1
  have fp : ∀ b ∈ [s1.heap.objs.size], FpOk X pins H1 b := fun b hb => by
    have e : b = s1.heap.objs.size := by simpa using hb
    rw [e]
    exact I1.fpOk (Nat.le_refl _) (I1.hok.fresh (Nat.le_refl _))
  rcases q1 with ⟨⟨xs, hq⟩, q⟩ | ⟨⟨xs, hq⟩, q⟩
  · obtain ⟨its, rv, p, hz⟩ := I1.list hq
    exact wpAny_pyIter_list p.isList ⟨s1.heap.objs.size, [s1.heap.objs.size], _, _, H1, rfl, I1.kept (t' := s1.toks) fun b o e => Heap.get?_push_of_some _ e, turn_list a _, ⟨_, Heap.get?_push_size _ rfl, rfl, rfl⟩, fp, q⟩
  · obtain ⟨its, rv, p, hz⟩ := I1.tuple hq
    exact wpAny_pyIter_tuple (show s1.heap.IsTuple a its.toArray from p) ⟨s1.heap.objs.size, [s1.heap.objs.size], _, _, H1, rfl, I1.kept (t' := s1.toks) fun b o e => Heap.get?_push_of_some _ e, turn_tuple a _, ⟨_, Heap.get?_push_size _ rfl, rfl, rfl⟩, fp, q⟩
theorem PI.weak {tg l : Expr} {t t' : TI} (h : PI X tg l t) (w : ∀ σ H R, t' σ H R → t σ H R) : PI X tg l t' := ⟨fun pins s σ H R I q => h.run pins s σ H R I (w _ _ _ q)⟩
theorem di_seq {tg l : Expr} {t : DTE} (h : DE X l t) : DI X tg l (dSeqI t) :=
  ⟨PI.weak (pi_seq h.pe) fun σ H R ⟨ph, S, r, M, Q0, hs, ht, hq⟩ => ⟨ph, S, r, M, _, hs, ht, fun v H1 ⟨ph1, S1, M1, x1, hs1, d, q1, g1⟩ => by
    cases d <;> first | exact g1.elim | skip
    · cases q1 with
      | tup h1 h2 => exact ⟨_, rfl, .inr ⟨⟨_, h1.sq hs1.sub⟩, hq _ _ ⟨ph1, S1, M1, x1, hs1, _, _, Wlk.tup (fun ph' S' r' M' σ' H' e1 e2 hs' _ => ⟨_, (h1.ext e2).sq hs'.sub, h2.ext0 e1 e2⟩), g1⟩⟩⟩
    · cases q1 with
      | lst h1 h2 => exact ⟨_, rfl, .inl ⟨⟨_, SqL.of (hs1.sub _ _ h1)⟩, hq _ _ ⟨ph1, S1, M1, x1, hs1, _, _, Wlk.list (fun ph' S' r' M' σ' H' e1 e2 hs' _ => ⟨_, SqL.of (hs'.sub _ _ (e2 _ _ h1)), h2.ext0 e1 e2⟩), g1⟩⟩⟩
    · cases q1 with
      | scr h1 => exact ⟨_, rfl, .inl ⟨⟨_, hs1.sub.seq h1⟩, hq _ _ ⟨ph1, S1, M1, x1, hs1, _, _, Wlk.list (fun ph' S' r' M' σ' H' e1 e2 hs' _ => ⟨_, hs'.sub.seq (e2.seq h1), RepAll.ints _⟩), g1⟩⟩⟩
    · rename_i k
      cases q1 with
      | own h1 =>
        replace g1 : gSeqI (.own k) M1 Q0 := g1
        unfold gSeqI at g1
        dsimp only at g1
        split at g1
        · rename_i ds hk
          obtain ⟨a, xs, c1, c2, c3, c4⟩ := hs1.cell k ds hk
          rw [h1] at c1; cases c1
          refine ⟨_, rfl, .inl ⟨⟨_, SqL.of c3⟩, hq _ _ ⟨ph1, S1, M1, x1, hs1, _, _, Wlk.list (fun ph' S' r' M' σ' H' e1 e2 hs' hc => ?_), g1⟩⟩⟩
          obtain ⟨a', xs', b1, b2, b3, b4⟩ := hs'.cell k ds hc
          rw [e1 _ _ h1] at b1; cases b1
          exact ⟨xs', SqL.of b3, b4⟩
        · exact g1.elim⟩⟩
/-- lo, lo + 1, .. -/
def rng (lo : Int) (n : Nat) : List D := (List.range n).map fun i => D.int (lo + (i : Nat))
theorem rng_len (lo : Int) (n : Nat) : (rng lo n).length = n := by unfold rng; rw [List.length_map, List.length_range]
theorem rng_get {lo : Int} {n i : Nat} {d : D} : (rng lo n)[i]? = some d ↔ i < n ∧ d = .int (lo + (i : Nat)) := by
  unfold rng
  rw [List.getElem?_map]
  constructor
  · intro e
    cases h : (List.range n)[i]? with
    | none => rw [h] at e; cases e
    | some j =>
      rw [h] at e
      obtain ⟨h1, h2⟩ := List.getElem?_eq_some_iff.mp h
      rw [List.length_range] at h1
      rw [List.getElem_range] at h2
      exact ⟨h1, by rw [h2]; exact (Option.some.inj e).symm⟩
  · rintro ⟨h1, rfl⟩
    rw [List.getElem?_eq_getElem (by rw [List.length_range]; exact h1), List.getElem_range]
    rfl
theorem Wlk.range {K : PySem.W.Frag} {ph : Ph} {S : Hp} {lo : Int} {n : Nat} {C : Mem → Prop} : Wlk K ph S (Itr lo n) (rng lo n) C := fun ph' S' r M σ H h1 h2 hs hc => by
  refine ⟨fun i hi => by rw [rng_len] at hi; exact hi, fun i d e => ?_⟩
  obtain ⟨hi, rfl⟩ := rng_get.mp e
  refine ⟨hi, fun x H' ⟨e1, e2⟩ => ?_⟩
  subst e1 e2
  exact Aft.here hs ⟨rfl, .int _⟩
def Rg (i : Int) : Prop := -(2 ^ 62) ≤ i ∧ i < 2 ^ 62
def gRng1 (ds : List D) (M : Mem) (R : List D → (Mem → Prop) → Mem → Prop) : Prop := match ds with
  | [.int n] => Rg n ∧ R (rng 0 n.toNat) (fun _ => True) M
  | _ => False
def gRng2 (ds : List D) (M : Mem) (R : List D → (Mem → Prop) → Mem → Prop) : Prop := match ds with
  | [.int a, .int b] => (Rg a ∧ Rg b) ∧ R (rng a (b - a).toNat) (fun _ => True) M
  | _ => False
def dRngI (g : List D → Mem → (List D → (Mem → Prop) → Mem → Prop) → Prop) (t : DTA) : DTI := fun r M R => t r M fun ds M1 => g ds M1 R
theorem di_range1 {tg a : Expr} {t : DTA} {p pos : Pos} (hm : X.mg "range" = none) (ha : DA X [a] t) (hg : Gl X "range" := by rfl) (hst : starEach [a] X.env = [(false, eval a X.env)] := by rfl) : DI X tg (.Call (.Name "range" p) [a] [] pos) (dRngI gRng1 t) :=
  ⟨PI.weak (pi_range1 hg hm ha.pa hst) fun σ H R ⟨ph, S, r, M, Q0, hs, ht, hq⟩ => ⟨ph, S, r, M, _, hs, ht, fun vs H1 ⟨ph1, S1, M1, x1, hs1, ds, q1, g1⟩ => by
    match ds, q1, g1 with
    | [.int n], .cons q .nil, ⟨⟨h1, h2⟩, g⟩ =>
      cases q
      exact ⟨n, rfl, h1, h2, hq _ _ ⟨ph1, S1, M1, x1, hs1, _, _, Wlk.range, g⟩⟩⟩⟩
/-! ### calls of what is built in -/
abbrev GA := List D → Mem → DQ → Prop
def CallD (X : Cx) (f : Value) (g : GA) : Prop :=
  ∀ (pins : List (Addr × Obj)) (s : Shared) (σ : St) (H : Hp) (ph : Ph) (S : Hp) (r : Env) (M : Mem) (vs : List V) (us : List Value) (ds : List D) (Q : DQ), Inv X pins σ H s → Sat X.K ph S r M σ H → Vals vs us → RepAll X.K ph S vs ds → g ds M Q →
    wpAny (model X.prog X.w) X.A (call f us) (EP X pins σ (post X.K ph S r σ Q)) X.xe s
theorem CallD.of {f : Value} {r' : List V → Hp → VK → Prop} {g : GA} (h : CallR X f r')
    (w : ∀ (σ : St) (H : Hp) (ph : Ph) (S : Hp) (r : Env) (M : Mem) (vs : List V) (ds : List D) (Q : DQ), Sat X.K ph S r M σ H → RepAll X.K ph S vs ds → g ds M Q → r' vs H (post X.K ph S r σ Q)) : CallD X f g :=
  fun pins s σ H ph S r M vs us ds Q I hs rv q hg => h pins s σ H vs us _ I rv (w σ H ph S r M vs ds Q hs q hg)
def dCB (g : GA) (t : DTA) : DTE := fun r M Q => t r M fun ds M1 => g ds M1 Q
section
variable {x : Str} {p pos : Pos} {e : Expr} {es : List Expr} {t : DTA} {id T : String} {g : GA}
theorem de_blt (hc : CallD X (.builtin id) g) (hm : X.mg x = none) (ha : DA X (e :: es) t) (hv : bootBuiltins x = some (.builtin id) := by decide +kernel) (hg : Gl X x := by rfl) (hn : x ≠ "__name__" := by decide) (hdb : (x == ("__debug__" : Str)) = false := by decide)
    (he : starEach (e :: es) X.env = (false, eval e X.env) :: starEach es X.env := by rfl) (hpl : (backTo pos (starEach es X.env)).any (·.1) = false := by rfl) : DE X (.Call (.Name x p) (e :: es) [] pos) (dCB g t) :=
  ⟨⟨fun pins s σ H Q I ⟨ph, S, r, M, Q0, hs, ht, hq⟩ => wpAny_Call_Name_kw (ld_blt I hg hm hv (PyProof.Rows.callWith_builtin1 (thn (ha.pa.run pos pins s σ H _ I ⟨ph, S, r, M, _, hs, ht, fun _ _ z => z⟩)
    fun us s1 ⟨vs, H1, I1, r1, ph1, S1, M1, x1, hs1, ds, q1, g1⟩ => thn (hc pins s1 σ H1 ph1 S1 r M1 vs us ds Q0 I1 hs1 r1 q1 g1) fun _ _ z => EP.up x1 z hq) he hpl) hn hdb)⟩⟩
theorem de_ty (hc : CallD X (.type T) g) (hm : X.mg x = none) (ha : DA X (e :: es) t) (hv : bootBuiltins x = some (.type T) := by decide +kernel) (hg : Gl X x := by rfl) (hn : x ≠ "__name__" := by decide) (hdb : (x == ("__debug__" : Str)) = false := by decide)
    (he : starEach (e :: es) X.env = (false, eval e X.env) :: starEach es X.env := by rfl) (hpl : (backTo pos (starEach es X.env)).any (·.1) = false := by rfl) : DE X (.Call (.Name x p) (e :: es) [] pos) (dCB g t) :=
  ⟨⟨fun pins s σ H Q I ⟨ph, S, r, M, Q0, hs, ht, hq⟩ => wpAny_Call_Name_kw (ld_blt I hg hm hv (PyProof.Rows.callWith_type1 (thn (ha.pa.run pos pins s σ H _ I ⟨ph, S, r, M, _, hs, ht, fun _ _ z => z⟩)
    fun us s1 ⟨vs, H1, I1, r1, ph1, S1, M1, x1, hs1, ds, q1, g1⟩ => thn (hc pins s1 σ H1 ph1 S1 r M1 vs us ds Q0 I1 hs1 r1 q1 g1) fun _ _ z => EP.up x1 z hq) he hpl) hn hdb)⟩⟩
/-- a built-in name as a value -/
theorem de_bltn {v : V} {u : Value} (hm : X.mg x = none) (r : RelV v u) (hv : bootBuiltins x = some u := by decide +kernel) (hg : Gl X x := by rfl) (hn : x ≠ "__name__" := by decide) (hd : (x == ("__debug__" : Str)) = false := by decide) : DE X (.Name x pos) (dC (.val v)) :=
  de_c (pe_bltn hg hm hv r hn hd) fun _ _ => .val _
end
def gAbs : GA := fun ds M Q => match ds with
  | [.int i] => Q (.int (if i < 0 then -i else i)) M
  | _ => False
theorem cd_abs : CallD X (.builtin "abs") gAbs := CallD.of call_abs fun σ H ph S r M vs ds Q hs q hg => by
  match ds, q, hg with
  | [.int i], .cons q .nil, hg => cases q; exact ⟨_, rfl, Aft.here hs ⟨_, .int _, hg⟩⟩
def gInt : GA := fun ds M Q => match ds with
  | [.int i] => Q (.int i) M
  | [.bl b] => Q (.int (if b then 1 else 0)) M
  | _ => False
theorem cd_int : CallD X (.type "int") gInt := CallD.of call_int1 fun σ H ph S r M vs ds Q hs q hg => by
  match ds, q, hg with
  | [.int i], .cons q .nil, hg => cases q; exact .inl ⟨_, rfl, Aft.here hs ⟨_, .int _, hg⟩⟩
  | [.bl i], .cons q .nil, hg => cases q; exact .inr ⟨_, rfl, Aft.here hs ⟨_, .int _, hg⟩⟩
def gMax : GA := fun ds M Q => match ds with
  | [.int i, .int j] => Q (.int (if j > i then j else i)) M
  | _ => False
theorem cd_max (hc : X.calm = true) : CallD X (.builtin "max") gMax := CallD.of (call_max2 hc) fun σ H ph S r M vs ds Q hs q hg => by
  match ds, q, hg with
  | [.int i, .int j], .cons q (.cons q' .nil), hg => cases q; cases q'; exact ⟨_, _, rfl, Aft.here hs ⟨_, .int _, hg⟩⟩
def gMin : GA := fun ds M Q => match ds with
  | [.int i, .int j] => Q (.int (if j < i then j else i)) M
  | _ => False
def gGcd : GA := fun ds M Q => match ds with
  | [.int i, .int j] => Q (.int (Int.gcd i j)) M
  | _ => False
/-- the length of a list, a tuple, a text -/
def lenD (M : Mem) : D → Option Nat
  | .lst l => some l.length
  | .tup l => some l.length
  | .scr l => some l.length
  | .own k => match M[k]? with
    | some (.lst l) => some l.length
    | _ => none
  | .str x => if x.length ≤ sizeLine then some x.length else none
  | _ => none
def gLen : GA := fun ds M Q => match ds with
  | [d] => match lenD M d with
    | some n => Q (.int n) M
    | none => False
  | _ => False
theorem len_V {K : PySem.W.Frag} {ph : Ph} {S : Hp} {r : Env} {M : Mem} {σ : St} {H : Hp} {v : V} {d : D} {n : Nat} (hs : Sat K ph S r M σ H) (q : Rep K ph S v d) (e : lenD M d = some n) : LenV K v H n := by
  cases d <;> first | (cases e; done) | skip
  · rename_i x
    cases q
    have e' : (if x.length ≤ sizeLine then some x.length else none) = some n := e
    by_cases h : x.length ≤ sizeLine
    · rw [if_pos h] at e'
      exact ⟨h, (Option.some.inj e').symm⟩
    · rw [if_neg h] at e'; cases e'
  · cases q with
    | tup h1 h2 => exact .inr ⟨_, h1.sq hs.sub, by rw [h2.len]; exact (Option.some.inj e).symm⟩
  · cases q with
    | lst h1 h2 => exact .inl ⟨_, SqL.of (hs.sub _ _ h1), by rw [h2.len]; exact (Option.some.inj e).symm⟩
  · cases q with
    | scr h1 => exact .inl ⟨_, hs.sub.seq h1, by rw [List.length_map]; exact (Option.some.inj e).symm⟩
  · rename_i k
    cases q with
    | own h1 =>
      unfold lenD at e
      dsimp only at e
      split at e
      · rename_i l hk
        obtain ⟨a, xs, c1, c2, c3, c4⟩ := hs.cell k l hk
        rw [h1] at c1; cases c1
        exact .inl ⟨_, SqL.of c3, by rw [c4.len]; exact (Option.some.inj e).symm⟩
      · cases e
theorem cd_len : CallD X (.builtin "len") gLen := CallD.of call_len fun σ H ph S r M vs ds Q hs q hg => by
  match ds, q, hg with
  | [d], .cons q .nil, hg =>
    unfold gLen at hg
    dsimp only at hg
    split at hg
    · rename_i n e
      exact ⟨_, n, rfl, len_V hs q e, Aft.here hs ⟨_, .int _, hg⟩⟩
    · exact hg.elim
/-- the ints of a list of ints -/
def intsD : List D → Option (List Int)
  | [] => some []
  | .int i :: ds => match intsD ds with
    | some is => some (i :: is)
    | none => none
  | _ :: _ => none
theorem intsD_rep {K : PySem.W.Frag} {ph : Ph} {S : Hp} : ∀ {vs : List V} {ds : List D} {is : List Int}, RepAll K ph S vs ds → intsD ds = some is → vs = is.map V.int
  | _, [], _, .nil, e => by cases e; rfl
  | _, d :: ds, is, .cons q t, e => by
    cases d <;> first | (cases e; done) | skip
    unfold intsD at e
    split at e
    · rename_i is' e'
      cases e
      cases q
      rw [intsD_rep t e']; rfl
    · cases e
def gSum : GA := fun ds M Q => match ds with
  | [d] => match res M d with
    | .lst l => match intsD l with
      | some is => Q (.int is.sum) M
      | none => False
    | .scr ns => Q (.int ns.sum) M
    | _ => False
  | _ => False
theorem cd_sum (hc : X.calm = true) : CallD X (.builtin "sum") gSum := CallD.of (cr_sum hc) fun σ H ph S r M vs ds Q hs q hg => by
  match ds, q, hg with
  | [d], .cons q .nil, hg =>
    unfold gSum at hg
    dsimp only at hg
    split at hg
    · rename_i l e
      split at hg
      · rename_i is e2
        obtain ⟨a, xs, rfl, h1, h2⟩ := res_lst hs q e
        exact ⟨a, is, rfl, by rw [← intsD_rep h2 e2]; exact SqL.of h1, Aft.here hs ⟨_, .int _, hg⟩⟩
      · exact hg.elim
    · rename_i ns e
      cases res_scr e
      cases q with
      | scr h1 => exact ⟨_, ns, rfl, hs.sub.seq h1, Aft.here hs ⟨_, .int _, hg⟩⟩
    · exact hg.elim
/-- list(x): a list that is only read, or one that will be changed -/
def seqD (M : Mem) (d : D) : Option (List D) := match res M d with
  | .lst l => some l
  | .tup l => some l
  | .scr ns => some (ns.map D.int)
  | _ => none
def gTuple : GA := fun ds M Q => match ds with
  | [d] => match seqD M d with
    | some l => Q (.tup l) M
    | none => False
  | _ => False
theorem cd_tuple : CallD X (.type "tuple") gTuple := CallD.of call_tuple_of fun σ H ph S r M vs ds Q hs q hg => by
  match ds, q, hg with
  | [d], .cons q .nil, hg =>
    unfold gTuple seqD at hg
    dsimp only at hg
    split at hg
    · rename_i l e
      split at e
      · rename_i l' e1
        cases e
        obtain ⟨a, xs, rfl, h1, h2⟩ := res_lst hs q e1
        exact ⟨a, xs, rfl, .inl ⟨SqL.of h1, fun p hp => Aft.frz hs hp fun x => ⟨_, .tup (.inl upd_same) (h2.up x), hg⟩⟩⟩
      · rename_i l' e1
        cases e
        cases res_tup e1
        cases q with
        | tup h1 h2 => exact ⟨_, _, rfl, .inr ⟨h1.sq hs.sub, Aft.here hs ⟨_, .tup h1 h2, hg⟩⟩⟩
      · rename_i ns e1
        cases e
        cases res_scr e1
        cases q with
        | scr h1 => exact ⟨_, _, rfl, .inl ⟨hs.sub.seq h1, fun p hp => Aft.frz hs hp fun x => ⟨_, .tup (.inl upd_same) (RepAll.ints _), hg⟩⟩⟩
      · cases e
    · exact hg.elim
/-- isinstance(x, T), T a built-in class -/
def tyD : D → Option String
  | .non => some "NoneType"
  | .bl _ => some "bool"
  | .int _ => some "int"
  | .str _ => some "str"
  | .tup _ => some "tuple"
  | .lst _ => some "list"
  | .dct0 => some "dict"
  | _ => none
def tyM (M : Mem) : D → Option String
  | .own k => match M[k]? with
    | some (.lst _) => some "list"
    | _ => none
  | d => tyD d
def gIsi : GA := fun ds M Q => match ds with
  | [d, .val (.ty n)] => match tyM M d with
    | some T => match kitB T n with
      | some b => Q (.bl b) M
      | none => False
    | none => False
  | _ => False
theorem ty_V {K : PySem.W.Frag} {ph : Ph} {S : Hp} {r : Env} {M : Mem} {σ : St} {H : Hp} {v : V} {d : D} {T : String} (hs : Sat K ph S r M σ H) (q : Rep K ph S v d) (e : tyM M d = some T) : TyX K H v (.type T) := by
  cases d <;> first | (cases e; done) | skip
  · cases q; cases e; exact .base .non
  · cases q; cases e; exact .base (.bl _)
  · cases q; cases e; exact .base (.int _)
  · cases q; cases e; exact .base (.str _)
  · cases q with
    | tup h1 h2 => cases e; exact h1.elim (fun z => .base (.tup (hs.sub _ _ z))) fun ⟨_, _, _, l, c, _⟩ => .kTuple l c
  · cases q with
    | lst h1 h2 => cases e; exact .base (.lst (hs.sub _ _ h1))
  · cases q with
    | dct0 h1 => cases e; exact .base (.dK (hs.sub _ _ h1))
  · rename_i k
    cases q with
    | own h1 =>
      unfold tyM at e
      dsimp only at e
      split at e
      · rename_i l hk
        cases e
        obtain ⟨a, xs, c1, c2, c3, c4⟩ := hs.cell k l hk
        rw [h1] at c1; cases c1
        exact .base (.lst c3)
      · cases e
theorem cd_isi : CallD X (.builtin "isinstance") gIsi := CallD.of call_isi fun σ H ph S r M vs ds Q hs q hg => by
  match ds, q, hg with
  | [d, .val (.ty n)], .cons q (.cons q' .nil), hg =>
    unfold gIsi at hg
    dsimp only at hg
    split at hg
    · rename_i T e
      split at hg
      · rename_i b eb
        cases q'
        exact ⟨_, _, _, _, b, rfl, .ty n, ty_V hs q e, kit_ty eb, Aft.here hs ⟨_, .bl _, hg⟩⟩
      · exact hg.elim
    · exact hg.elim
/-- n.bit_length() -/
def gBits (d : D) (M : Mem) (Q : DQ) : Prop := match d with
  | .int i => Q (.int (Builtin.Int.intBits i : Nat)) M
  | _ => False
def dBits (t : DTE) : DTE := fun r M Q => t r M fun d M1 => gBits d M1 Q
theorem de_bits {o : Expr} {t : DTE} {apos pos : Pos} (ho : DE X o t) (hbase : attributeBase o "bit_length" X.env (eval o X.env) = eval o X.env := by rfl) (hline : (apos.endLine == pos.line) = true := by rfl) : DE X (.Call (.Attribute o "bit_length" apos) [] [] pos) (dBits t) :=
  DE.of (pe_bits ho.pe hbase hline) fun ph S r M σ H Q hs ht Q' hq => ⟨ph, S, r, M, _, hs, ht, fun v H1 ⟨ph1, S1, M1, x1, hs1, d, q1, g1⟩ => by
    cases d <;> first | exact g1.elim | skip
    cases q1
    exact ⟨_, rfl, hq _ _ ⟨ph1, S1, M1, x1, hs1, _, .int _, g1⟩⟩⟩
/-! ### methods of lists -/
def gAppend (o : D) (ds : List D) (M : Mem) (Q : DQ) : Prop := match o, ds with
  | .own k, [d] => match M[k]? with
    | some (.lst l) => l.length < sizeLine ∧ Q .non (M.set k (.lst (l ++ [d])))
    | _ => False
  | _, _ => False
def dMet (g : D → List D → Mem → DQ → Prop) (to : DTE) (t : DTA) : DTE := fun r M Q => to r M fun o M1 => (∃ k l, o = .own k ∧ M1[k]? = some (.lst l)) ∧ t r M1 fun ds M2 => g o ds M2 Q
theorem de_append {o e : Expr} {to : DTE} {t : DTA} {apos cpos : Pos} (ho : DE X o to) (ha : DA X [e] t) (h1 : attributeBase o "append" X.env (eval o X.env) = eval o X.env := by rfl)
    (h2 : (((backTo cpos (starEach [e] X.env)).all fun x => !x.1) && (backToKw cpos (keywordEach [] X.env)).all (fun x => x.1.isSome) && decide (([e] : List Expr).length + ([] : List Keyword).length + (if ([] : List Keyword).isEmpty then 0 else 1) < 30)) = true := by rfl) (h3 : (apos.endLine == cpos.line) = true := by rfl)
    (h4 : starEach [e] X.env = (false, eval e X.env) :: starEach [] X.env := by rfl) (h5 : (backTo cpos (starEach [] X.env)).any (·.1) = false := by rfl) : DE X (.Call (.Attribute o "append" apos) [e] [] cpos) (dMet gAppend to t) :=
  DE.of (pe_bm PySem.F.plainAttrs_list PySem.F.slot_list_append PySem.F.type_list_append mt_append ho.pe ha.pa h1 h2 h3 h4 h5) fun ph S r M σ H Q hs ht Q' hq => ⟨ph, S, r, M, _, hs, ht, fun v H1 ⟨ph1, S1, M1, x1, hs1, d, q1, ⟨k, l, e1, ek⟩, g1⟩ => by
    subst e1
    cases q1 with
    | own hp =>
      obtain ⟨a, xs, c1, c2, c3, c4⟩ := hs1.cell k l ek
      rw [hp] at c1; cases c1
      refine ⟨.inl ⟨rfl, _, SqL.of c3⟩, ph1, S1, r, M1, _, hs1, g1, fun vs H2 ⟨ph2, S2, M2, x2, hs2, ds, q2, g2⟩ => ?_⟩
      match ds, q2, g2 with
      | [d], .cons q3 .nil, g2 =>
        replace g2 : gAppend (.own k) [d] M2 Q := g2
        unfold gAppend at g2
        dsimp only at g2
        split at g2
        · rename_i l2 hk2
          have hp2 := x2.pre _ _ hp
          obtain ⟨a2, xs2, d1, d2, d3, d4⟩ := hs2.cell k l2 hk2
          rw [hp2] at d1; cases d1
          exact ⟨_, xs2, _, rfl, rfl, d3, by rw [d4.len]; exact g2.1, hq _ _ ⟨ph2, S2, _, x1.trans x2, hs2.put hk2 hp2 (d4.app (.cons q3 .nil)), _, .non, g2.2⟩⟩
        · exact g2.elim⟩
/-! ### slices -/
def cutD (l : List D) (lo hi : Option Int) : List D := List.take (HT.sIx l.length l.length hi - HT.sIx l.length 0 lo) (List.drop (HT.sIx l.length 0 lo) l)
abbrev DTO := Env → Mem → (Option Int → Mem → Prop) → Prop
structure DO (X : Cx) (e : Option Expr) (t : DTO) : Prop where
  po : PO X e (fun σ H Q => ∃ ph S r M Q0, Sat X.K ph S r M σ H ∧ t r M Q0 ∧ ∀ o H', (Aft X.K ph S r σ H' fun _ _ M' => Q0 o M') → Q o H')
def dPart (t : DTE) : DTO := fun r M Q => t r M fun d M1 => match d with
  | .int i => Q (some i) M1
  | _ => False
def dNoPart : DTO := fun _ M Q => Q none M
theorem do_some {e : Expr} {t : DTE} (h : DE X e t) : DO X (some e) (dPart t) :=
  ⟨⟨fun pins s σ H Q I ⟨ph, S, r, M, Q0, hs, ht, hq⟩ => (po_some h.pe).run pins s σ H Q I ⟨ph, S, r, M, _, hs, ht, fun v H1 ⟨ph1, S1, M1, x1, hs1, d, q1, g1⟩ => by
    cases d <;> first | exact g1.elim | skip
    cases q1
    exact ⟨_, rfl, hq _ _ ⟨ph1, S1, M1, x1, hs1, g1⟩⟩⟩⟩⟩
theorem do_none : DO X none dNoPart := ⟨⟨fun pins s σ H Q I ⟨ph, S, r, M, Q0, hs, ht, hq⟩ => po_none.run pins s σ H Q I (hq _ _ (Aft.here hs ht))⟩⟩
/-- l[a:b], a list -/
def gSlL (own : Bool) (d : D) (lo hi : Option Int) (M : Mem) (Q : DQ) : Prop := match res M d with
  | .lst l => if own = true then Q (.own M.length) (M ++ [.lst (cutD l lo hi)]) else Q (.lst (cutD l lo hi)) M
  | .scr ns => if own = true then Q (.own M.length) (M ++ [.lst (cutD (ns.map D.int) lo hi)]) else Q (.lst (cutD (ns.map D.int) lo hi)) M
  | _ => False
def dSl (g : D → Option Int → Option Int → Mem → DQ → Prop) (t : DTE) (tl th : DTO) : DTE := fun r M Q => t r M fun d M1 => tl r M1 fun lo M2 => th r M2 fun hi M3 => g d lo hi M3 Q
theorem cut_rep {K : PySem.W.Frag} {ph : Ph} {S : Hp} {xs : List V} {l : List D} {lo hi : Option Int} (q : RepAll K ph S xs l) : RepAll K ph S (cutV xs lo hi) (cutD l lo hi) := by
  unfold cutV cutD
  rw [q.len]
  exact (q.drop _).take _
theorem de_slL (own : Bool) {e : Expr} {lo hi : Option Expr} {t : DTE} {tl th : DTO} {pos p2 : Pos} (h : DE X e t) (h1 : DO X lo tl) (h2 : DO X hi th) : DE X (.Subscript e (.Slice lo hi none p2) pos) (dSl (gSlL own) t tl th) :=
  DE.of (pe_slice sl_list h.pe h1.po h2.po) fun ph S r M σ H Q hs ht Q' hq => ⟨ph, S, r, M, _, hs, ht, fun v H1 ⟨ph1, S1, M1, x1, hs1, d, q1, g1⟩ =>
    ⟨ph1, S1, r, M1, _, hs1, g1, fun lo H2 ⟨ph2, S2, M2, x2, hs2, g2⟩ => ⟨ph2, S2, r, M2, _, hs2, g2, fun hi H3 ⟨ph3, S3, M3, x3, hs3, g3⟩ => by
      replace g3 : gSlL own d lo hi M3 Q := g3
      have xx := x1.trans (x2.trans x3)
      have q3 := q1.up (x2.trans x3)
      unfold gSlL at g3
      split at g3
      · rename_i l er
        obtain ⟨p, xs, rfl, hp, hx⟩ := res_lst hs3 q3 er
        refine ⟨p, xs, rfl, SqL.of hp, fun b hb => ?_⟩
        cases own with
        | false => exact hq _ _ (Aft.up xx (Aft.frz hs3 hb fun x => ⟨_, .lst upd_same ((cut_rep hx).up x), g3⟩))
        | true => exact hq _ _ (Aft.up xx (Aft.own hs3 hb (cut_rep hx) g3))
      · rename_i ns er
        cases res_scr er
        cases q3 with
        | scr h1 =>
          refine ⟨_, _, rfl, hs3.sub.seq h1, fun b hb => ?_⟩
          cases own with
          | false => exact hq _ _ (Aft.up xx (Aft.frz hs3 hb fun x => ⟨_, .lst upd_same (cut_rep (RepAll.ints _)), g3⟩))
          | true => exact hq _ _ (Aft.up xx (Aft.own hs3 hb (cut_rep (RepAll.ints _)) g3))
      · exact g3.elim⟩⟩⟩
theorem cut_whole {α : Type} {l : List α} {lo hi : Option Int} (h : HT.sIx l.length 0 lo = 0 ∧ HT.sIx l.length l.length hi = l.length) : List.take (HT.sIx l.length l.length hi - HT.sIx l.length 0 lo) (List.drop (HT.sIx l.length 0 lo) l) = l := by
  rw [h.1, h.2]; simp
/-! ### repr -/
/-- data whose repr may be told -/
def shwn (d : D) : Option Str := match toPy d with
  | some p => if p.showable = true ∧ p.depth ≤ 64 ∧ p.shown.length ≤ sizeLine ∧ p.hasDict = false then some p.shown else none
  | none => none
def gRepr : GA := fun ds M Q => match ds with
  | [d] => match shwn (res M d) with
    | some z => Q (.str z) M
    | none => False
  | _ => False
theorem shown_flat {p : PyData} {u : Value} {h : Heap} {as : List Addr} (r : Reads h u p as) (hn : ∀ a, u ≠ .ref a) {A : Around} {P : Program} {w : World} {E : Value → Shared → Prop} {s : Shared} {Q : Value → Shared → Prop} (hs : p.showable = true) (hz : p.shown.length ≤ sizeLine)
    (q : ∀ tk tk', Q (.str p.shown tk) { s with toks := tk' }) : wpAny (model P w) A (call (.builtin "repr") [u]) Q E s := by
  cases r with
  | none => exact PySem.P.repr_of_none (q _ _)
  | bool b => exact PySem.P.repr_of_bool (q _ _)
  | int i t => exact PySem.P.repr_of_int (of_decide_eq_true hs) (q _ _)
  | str x t => exact PySem.P.repr_of_str (q _ _) hz
  | list _ _ _ _ => exact absurd rfl (hn _)
  | tuple _ _ _ _ => exact absurd rfl (hn _)
  | dict _ _ _ _ _ => exact absurd rfl (hn _)
end DL
/-! DL8: calls with keywords alone; a def for its callers; the end of a law -/
namespace DL
open PySem PySem.Spec PyProof.Rows L2
section
variable {X : Cx}
structure DK (X : Cx) (kws : List Keyword) (t : DTA) : Prop where
  pk : PK X kws (fun σ H Q => ∃ ph S r M Q0, Sat X.K ph S r M σ H ∧ t r M Q0 ∧ ∀ vs H', postA X.K ph S r σ Q0 vs H' → Q vs H')
theorem PK.weak {kws : List Keyword} {t t' : TA} (h : PK X kws t) (w : ∀ σ H Q, t' σ H Q → t σ H Q) : PK X kws t' := ⟨fun pos pins s σ H Q I q => h.run pos pins s σ H Q I (w _ _ _ q)⟩
theorem dk_nil : DK X [] dNil := ⟨PK.weak pk_nil fun σ H Q ⟨ph, S, r, M, Q0, hs, ht, hq⟩ => hq _ _ (Aft.here hs ⟨_, .nil, ht⟩)⟩
theorem dk_cons {e : Expr} {kws : List Keyword} {nm : Option Str} {kpos : Pos} {t : DTE} {u : DTA} (h : DE X e t) (h2 : DK X kws u) : DK X (⟨nm, e, kpos⟩ :: kws) (dCons t u) :=
  ⟨PK.weak (pk_cons h.pe h2.pk) fun σ H Q ⟨ph, S, r, M, Q0, hs, ht, hq⟩ => ⟨ph, S, r, M, _, hs, ht, fun v H1 ⟨ph1, S1, M1, x1, hs1, d, q1, g1⟩ =>
    ⟨ph1, S1, r, M1, _, hs1, g1, fun vs H2 ⟨ph2, S2, M2, x2, hs2, ds, q2, g2⟩ => hq _ _ ⟨ph2, S2, M2, x1.trans x2, hs2, _, .cons (q1.up x2) q2, g2⟩⟩⟩⟩
/-- the values by place -/
def pick {α : Type} (l : List Nat) (xs : List α) : List α := l.filterMap fun i => xs[i]?
theorem pick_vals {vs : List V} {us : List Value} (r : Vals vs us) : ∀ l : List Nat, Vals (pick l vs) (pick l us)
  | [] => .nil
  | i :: l => by
    unfold pick
    rw [List.filterMap_cons, List.filterMap_cons]
    cases e : vs[i]? with
    | none => rw [r.none_of e]; exact pick_vals r l
    | some v =>
      obtain ⟨u, eu, ru⟩ := r.get e
      rw [eu]
      exact .cons ru (pick_vals r l)
theorem pick_rep {K : PySem.W.Frag} {ph : Ph} {S : Hp} {vs : List V} {ds : List D} (r : RepAll K ph S vs ds) : ∀ l : List Nat, RepAll K ph S (pick l vs) (pick l ds)
  | [] => .nil
  | i :: l => by
    unfold pick
    rw [List.filterMap_cons, List.filterMap_cons]
    cases e : ds[i]? with
    | none =>
      have e' : vs[i]? = none := by
        have := List.getElem?_eq_none_iff.mp e
        exact List.getElem?_eq_none_iff.mpr (by rw [r.len]; exact this)
      rw [e']; exact pick_rep r l
    | some d =>
      obtain ⟨u, eu, ru⟩ := r.get e
      rw [eu]
      exact .cons ru (pick_rep r l)
def dCallK (m n : Nat) (sp : DSp) (l : List Nat) (E : DX) (t : DTA) : DTE := fun r M Q => t r M fun ds M1 => ds.length = m ∧ (pick l ds).length = n ∧ sp (pick l ds) M1 Q E
variable {k : Nat} {ps ks : List Str} {sp : DSp} {x : Str} {p pos : Pos} {kws : List Keyword} {t : DTA}
/-- f(k = v, ..): all arguments by their names -/
theorem dcallK {m n : Nat} {st : Stmt} (l : List Nat) {P : Program} {w : World} {K : PySem.W.Frag} {mg : Str → Option Value} {base : Heap} (F : Def P w K mg base CX0 k x st ps sp) {j : Nat} (hr : Room j X.A) (gd : X.A.guards = some []) (hkw : DK X kws t)
    (hks : (backToKw pos (keywordEach kws X.env)).filterMap (·.1) = ks)
    (hb : ∀ (kV doc pm : Value) (an : Option Addr) (cdv ct : Value) (us : List Value), us.length = ks.length → bindArgs (PySem.W.fnOf x x (defArgs st) (defBody st) (defScope st) .none kV doc pm an cdv ct) ⟨[], ks.zip us⟩ = pure (ps.zip (pick l us)))
    (hj : k ≤ j := by decide) (hm : ks.length = m := by rfl) (hn : ps.length = n := by rfl)
    (h1 : P = X.prog := by rfl) (h2 : w = X.w := by rfl) (h3 : K = X.K := by rfl) (h4 : mg = X.mg := by rfl) (h5 : base = X.base := by rfl) (hg : Gl X x := by rfl) (hdb : (x == ("__debug__" : Str)) = false := by decide) (hall : (backToKw pos (keywordEach kws X.env)).all (·.1.isSome) = true := by rfl)
    (hpl : ((backTo pos (starEach [] X.env)).any (·.1) || (backToKw pos (keywordEach kws X.env)).any (·.1.isNone)) = false := by rfl) : DE X (.Call (.Name x p) [] kws pos) (dCallK m n sp l DX0 t) := by
  subst h1 h2 h3 h4 h5 hn hm
  obtain ⟨f, fd, h1, h2, h3, h4, h5⟩ := F.ex
  refine ⟨⟨fun pins s σ H Q I ⟨ph, S, r, M, Q0, hs, ht, hq⟩ => wpAny_Call_Name_kw (ld_glob I hg h2 ?_ hdb)⟩⟩
  refine PySem.W.callWith_KW0 (h₀ := X.base) I.ok.mod.kin h3 hall (thn (hkw.pk.run pos pins s σ H _ I ⟨ph, S, r, M, _, hs, ht, fun _ _ z => z⟩) fun us s1 ⟨vs, H1, I1, r1, ph1, S1, M1, x1, hs1, ds, q1, hl, hp, g1⟩ => ⟨I1.kIn, ?_⟩) hpl
  rw [hks]
  obtain ⟨oc, od, kV, doc, pm, an, cdv, ct, osl, efd, lk, hcd⟩ := h5.ex
  have hul : us.length = ks.length := by rw [← Paired.length r1, q1.len]; exact hl
  have hb' : BindsTo s1 fd ⟨[], ks.zip us⟩ (ps.zip (pick l us)) := by
    rw [efd]
    exact .of_eq (hb kV doc pm an cdv ct us hul)
  refine wpAny_call (codeAny_mono (h1.run X.A X.stack s1 H1 ⟨[], ks.zip us⟩ (pick l us) (pick l vs) (post X.K ph1 S1 r σ Q0) E0 (hr.mono hj) gd I1.env0 hb' (pick_vals r1 l) ?_) fun r s' hz => ?_)
  · exact ⟨ph1, S1, M1, pick l ds, Q0, DX0, hp, hs1.drop, pick_rep q1 l, g1, fun v H2 ⟨ph2, S2, M2, x2, hs2, d, q2, h2⟩ => ⟨ph2, S2, M2, x2, hs1.back x2 hs2, d, q2, h2⟩, pX0 _ _⟩
  · match r, hz with
    | .error e, hz => exact pass0 pins σ H1 s1 e s' I1 hz
    | .ok (.ret u), hz => exact EP.up x1 (I1.after hz) hq
    | .ok .next, hz => exact False.elim hz
    | .ok .brk, hz => exact False.elim hz
    | .ok .cont, hz => exact False.elim hz
end
/-! ### a def, made known to its callers -/
theorem Def.mk' {P : Program} {w : World} {K : PySem.W.Frag} {mg : Str → Option Value} {base : Heap} {k : Nat} {x : Str} {st : Stmt} {ps : List Str} {sp : DSp} {f : Addr} {fd : FuncData} (F : Fun K x x st f fd) (h : FnD P w K mg base CX0 k f fd ps sp) (hm : mg x = some (.ref f)) (hb : Binds K fd ps []) : Def P w K mg base CX0 k x st ps sp :=
  ⟨f, fd, h, hm, F.kp, hb, F⟩
/-- a def that stands in the module -/
structure Here (K : PySem.W.Frag) (mg : Str → Option Value) (x : Str) (st : Stmt) (ps : List Str) : Prop where
  ex : ∃ (f : Addr) (fd : FuncData), Fun K x x st f fd ∧ mg x = some (.ref f) ∧ Binds K fd ps []
theorem here_of {K : PySem.W.Frag} {h : Heap} {mg : Str → Option Value} {x : Str} {st : Stmt} {ps : List Str} {f : Addr} {oc : Value} {od an : Option Addr} {osl : Array (Option Value)} {kV doc pm cdv ct : Value} (X : K.In h) (G : h.Ns mainGlobals mg)
    (a : PySem.W.nsIn K mainGlobals x = some (some (.ref f))) (l : K.lookup f = some ⟨oc, od, .func (PySem.W.fnOf x x (defArgs st) (defBody st) (defScope st) .none kV doc pm an cdv ct), osl⟩) (c : PySem.W.codeIn K cdv x = true) (k : PySem.W.keepIn K (.ref f) = true)
    (hb : ∀ (kV doc pm : Value) (an : Option Addr) (cdv ct : Value) (us : List Value), us.length = ps.length → bindArgs (PySem.W.fnOf x x (defArgs st) (defBody st) (defScope st) .none kV doc pm an cdv ct) ⟨us, []⟩ = pure (ps.zip us)) : Here K mg x st ps :=
  ⟨f, _, fun_mk (st := st) l c k, PySem.W.mg_of X G a, (fun_mk (st := st) l c k).binds hb⟩
section
variable {P : Program} {w : World} {K : PySem.W.Frag} {mg : Str → Option Value} {base : Heap}
/-- THE RULE for a def of the module -/
theorem Here.ok {x : Str} {st : Stmt} {N ps : List Str} {k : Nat} {sp : DSp} {t : DTS} (F : Here K mg x st ps) (S : FnScope N ps (defScope st))
    (hder : ∀ (f : Addr) (cdv : Value) (A : Around) (outer : List PySem.Env) (s : Shared) (H : Hp) (E : XK), Room k (A.deeper (envOfC x (defScope st) s.heap.objs.size f cdv)) → (A.deeper (envOfC x (defScope st) s.heap.objs.size f cdv)).guards = some [] →
      DSs (cxOf CX0 P w K mg base N x (defScope st) f cdv A outer s H E).nox (defBody st) t)
    (hread : ∀ ds M Q, ds.length = ps.length → sp ds M Q DX0 → t (dEnds M Q) (startD N.length ds) M)
    (hX : ∀ ds M Q E, sp ds M Q E → sp ds M Q DX0 := by exact fun _ _ _ _ h => h) : Def P w K mg base CX0 (k + 1) x st ps sp :=
  let ⟨f, fd, h1, h2, h3⟩ := F.ex
  Def.mk' h1 (Fun.okD h1 S (hder f) hread hX) h2 h3
end
/-! ### the end of a law -/
def spLaw : DSp := fun ds M Q _ => M = [] ∧ (∃ ns, ds = [.scr ns]) ∧ Q (.bl true) []
theorem law_callG {P : Program} {w : World} {K : PySem.W.Frag} {mg mb : Str → Option Value} {k : Nat} {fa a : Addr} {fd : FuncData} {x : Str} {s1 : Shared} {vs : List Value} {ns : List Int}
    (KX : K.In s1.heap) (hns : s1.heap.Ns mainGlobals mg) (hb : s1.heap.Ns builtinsNs mb) (hbb : ∀ x : Str, x ≠ "__name__" → mb x = bootBuiltins x) (hlim : s1.heap.NoLimit) (hg : s1.gens = #[])
    (ha : s1.heap.get? a = some { cls := .type "list", data := .seq vs.toArray }) (hi : IntsAre vs ns) (hl : ns.length ≤ sizeLine) (hr : Room k callerA)
    (F : ∀ base : Heap, K.In base → base.Ns mainGlobals mg → FnD P w K mg base CX0 k fa fd [x] spLaw) (hbind : ∀ (s : Shared) (u : Value), BindsTo s fd ⟨[u], []⟩ [(x, u)]) :
    codeAny (model P w) callerA (.call (.ref fa) ⟨[.ref a], []⟩) (fun r s' => r = .ok (.ret (.bool true)) ∧ OldK s1.heap s'.heap ∧ s'.os = s1.os ∧ AllBare s'.gens) s1 := by
  have rv := vals_ints hi
  have lenV := hi.length
  have core : ∀ H : Hp, Only H → SqL K H a (ns.map V.int) → HOk P w H s1.heap → (∀ b, H b ≠ none → b = a) → (H a ≠ none → K.lookup a = none) →
      codeAny (model P w) callerA (.call (.ref fa) ⟨[.ref a], []⟩) (fun r s' => r = .ok (.ret (.bool true)) ∧ OldK s1.heap s'.heap ∧ s'.os = s1.os ∧ AllBare s'.gens) s1 := by
    intro H hO hS hok hA hK
    have at_ : ∀ {b : Addr}, H b ≠ none → b = a := fun {b} z => hA b z
    have noA : ∀ {b : Addr} {o : Obj} {es : Array DictEntry} {ep : Nat}, s1.heap.get? b = some o → o.data = .dict es ep → H b = none := fun {b o es ep} e d => by
      by_cases z : H b = none
      · exact z
      · have e' := at_ z
        rw [e', ha] at e
        rw [← Option.some.inj e] at d
        exact nomatch d
    have nsK : ∀ {b : Addr} {m : Str → Option Value}, s1.heap.Ns b m → (hidT s1.heap H).Ns b m := fun {b m} ⟨o, es, ep, e, d, r⟩ => ⟨o, es, ep, hidT_get e (noA e d), d, r⟩
    have hKb : K.In (hidT s1.heap H) := fun b o e => hidT_get (KX b o e) (by
      by_cases z : H b = none
      · exact z
      · have e' := at_ z
        rw [e'] at e z
        rw [hK z] at e
        cases e)
    have hM : Mod K mg (hidT s1.heap H) := ⟨hKb, nsK hns, ⟨mb, nsK hb, hbb⟩, let ⟨mc, g1, g2⟩ := hlim; ⟨mc, nsK g1, g2⟩⟩
    have e0 : Env0 P w K mg (hidT s1.heap H) callerA [] s1 H := ⟨rfl, hM, fun b o e => of_hidT e, Nat.le_of_eq (hidT_size _ _), trivial, fun b hb => absurd (show b ∈ ([] : List Addr) from hb) (by simp), hok, .of_eq hg⟩
    have st0 : Sat K ⟨[], []⟩ H [] [] [] H := ⟨fun _ _ e => e, rfl, List.nodup_nil, fun k a e => by simp at e, fun k ds e => by simp at e, fun _ hp => (nomatch hp), List.nodup_nil, rfl, fun i d e => by simp at e⟩
    have sp0 : lfSp K 1 spLaw [.ref a] H (fun v _ => v = .bl true) E0 := ⟨⟨[], []⟩, H, [], [.scr ns], fun d M => d = .bl true, DX0, rfl, st0, .cons (.scr hS) .nil, ⟨rfl, ⟨ns, rfl⟩, rfl⟩, fun v H' ⟨_, _, _, _, _, d, q, e⟩ => by
      rw [e] at q
      cases q
      rfl, fun cls d H' ⟨_, _, _, _, _, _, _, _, _, _, _, _, _, _, _, _, z⟩ => z⟩
    refine codeAny_mono ((F _ hKb (nsK hns)).run callerA [] s1 H ⟨[.ref a], []⟩ [.ref a] [.ref a] _ _ hr rfl e0 (hbind s1 (.ref a)) (.cons rfl .nil) sp0) fun r s' h => ?_
    match r, h with
    | .error e, h => exact False.elim h
    | .ok .next, h => exact False.elim h
    | .ok .brk, h => exact False.elim h
    | .ok .cont, h => exact False.elim h
    | .ok (.ret u), ⟨v, H', os, bare, un, hok', r', q⟩ =>
      have q' : v = .bl true := q
      subst q'
      obtain rfl : u = Value.bool true := r'
      refine ⟨rfl, OldK.of_keep fun b o e => ?_, os, bare⟩
      rcases hO b with q | ⟨ob, xs, q⟩
      · exact un.keep b o e q (fun z => nomatch z) (fun z => nomatch z)
      · obtain ⟨e1, _⟩ := hok b _ q
        obtain ⟨e2, _⟩ := hok' b _ (un.frzs b ob _ q)
        rw [e] at e1
        cases e1
        exact e2
  cases hk : K.lookup a with
  | some o =>
    have e := KX a o hk
    rw [ha] at e
    cases e
    exact core (fun _ => none) (fun _ => .inl rfl) (.inr ⟨_, vs.toArray, _, hk, rfl, rfl, rfl, by rw [List.size_toArray, lenV]; exact hl, by simpa using rv⟩) (fun b u z => (nomatch z)) (fun b z => absurd rfl z) fun z => absurd rfl z
  | none =>
    refine core (fun b => if b = a then some (.frz { cls := .type "list", data := .seq vs.toArray } (.lst (ns.map V.int))) else none) (fun b => ?_) (.inl (.inr ⟨{ cls := .type "list", data := .seq vs.toArray }, if_pos rfl⟩)) (fun b u z => ?_) (fun b z => ?_) fun _ => hk
    · by_cases hb : b = a
      · exact .inr ⟨_, _, if_pos hb⟩
      · exact .inl (if_neg hb)
    · by_cases hb : b = a
      · have z := (if_pos hb).symm.trans z
        cases z
        rw [hb]
        exact ⟨ha, by rw [List.length_map]; exact hl, vs, _, rv, ha⟩
      · have z := (if_neg hb).symm.trans z
        cases z
    · by_cases hb : b = a
      · exact hb
      · exact absurd (if_neg hb) z
/-- the goal that k_head leaves -/
theorem walkD {l : PySem.W.OpenLaw} {n k : Nat} {q : Program} {loose : List Str} {XP : (Str → Option Value) → Heap → Prop} {YP : World → Heap → Prop} {d : DefRec} {K : Params → PySem.W.Frag} {x : Str} {st : Stmt}
    (hn : l.most = some n) (hn2 : n ≤ sizeLine) (hdf : d.params.defaults = []) (hr : Room k callerA) (hY : ∀ (w : World) (h : Heap), YP w h → (K w.params).In h)
    (F : ∀ (w : World) (mg : Str → Option Value) (h : Heap), (K w.params).In h → h.Ns mainGlobals mg → ∀ base : Heap, (K w.params).In base → base.Ns mainGlobals mg → Def l.prog w (K w.params) mg base CX0 k d.name st [x] spLaw)
    (hb : ∀ (kV doc pm : Value) (an : Option Addr) (cdv ct : Value) (u : Value), bindArgs (PySem.W.fnOf d.name d.name (defArgs st) (defBody st) (defScope st) .none kV doc pm an cdv ct) ⟨[u], []⟩ = pure [(x, u)]) :
    PySem.W.WalkO q loose XP YP l.row.toRowW d [] (fun f vs => PySem.call f vs) := by
  refine Att.attach_call hn hdf fun w s0 s1 mg mb fa o pm cd doc a vs ns G Y ho hd hcd hmg hobj hints hlen hg => ?_
  have KX := hY w _ Y
  obtain ⟨f0, fd, g1, g2, g3, g4, g5⟩ := (F w mg _ KX G.T.g _ KX G.T.g).ex
  have ef : f0 = fa := by
    rw [g2] at hmg
    exact Value.ref.inj (Option.some.inj hmg)
  subst ef
  obtain ⟨oc, od, kV, doc', pm', an, cdv, ct, osl, efd, lk, hcd'⟩ := g5.ex
  refine law_callG (fd := fd) (k := k) (x := x) KX G.T.g G.T.b G.T.builtins G.T.nolimit hg hobj hints (Nat.le_trans hlen hn2) hr (fun base h1 h2 => ?_) fun s u => ?_
  · obtain ⟨f1, fd1, k1, k2, k3, k4, k5⟩ := (F w mg _ KX G.T.g base h1 h2).ex
    have e1 : f1 = f0 := by
      rw [g2] at k2
      exact (Value.ref.inj (Option.some.inj k2)).symm
    subst e1
    obtain ⟨_, _, _, _, _, _, _, _, _, _, lk1, _⟩ := k5.ex
    rw [lk] at lk1
    have e2 : fd = fd1 := by
      have := Option.some.inj lk1
      injection this with _ _ z _
      exact Data.func.inj z
    rw [e2]
    exact k1
  · rw [efd]
    exact .of_eq (hb kV doc' pm' an cdv ct u)
end DL
/-! DL9: further rules; lemmas for readings -/
namespace DL
open PySem PySem.Spec PyProof.Rows L2
theorem u64 {A : Around} {k : Nat} (hr : Room k A) : A.units + 64 < cLine := hr.units
theorem ux {A : Around} {k : Nat} (hr : Room k A) : A.units + 200 < cLine := by have := hr.un; omega
section
variable {X : Cx}
/-- an owned list is handed on: it is changed no more -/
def gFrz (d : D) (M : Mem) (Q : DQ) : Prop := match d with
  | .own k => match M[k]? with
    | some (.lst l) => Q (.lst l) (M.set k .dead)
    | _ => False
  | d => Q d M
def dFrz (t : DTE) : DTE := fun r M Q => t r M fun d M1 => gFrz d M1 Q
theorem de_frz {e : Expr} {t : DTE} (h : DE X e t) : DE X e (dFrz t) :=
  DE.of h.pe fun ph S r M σ H Q hs ht Q' hq => ⟨ph, S, r, M, _, hs, ht, fun v H1 ⟨ph1, S1, M1, x1, hs1, d, q1, g1⟩ => by
    cases d with
    | own k =>
      replace g1 : gFrz (.own k) M1 Q := g1
      unfold gFrz at g1
      dsimp only at g1
      split at g1
      · rename_i l hk
        cases q1 with
        | own hp =>
          obtain ⟨a, xs, e1, x2, hs2, q2⟩ := hs1.freeze hk
          rw [hp] at e1
          cases e1
          exact hq _ _ ⟨ph1, _, _, x1.trans x2, hs2, _, q2, g1⟩
      · exact g1.elim
    | _ => exact hq _ _ ⟨ph1, S1, M1, x1, hs1, _, q1, g1⟩⟩
end
variable {X : Cx}
/-! ### zip, enumerate -/
def pairD (x y : D) : D := .tup [x, y]
theorem RepAll.two {K : PySem.W.Frag} {ph : Ph} {S : Hp} {x y : V} {d e : D} (h : Rep K ph S x d) (g : Rep K ph S y e) : RepAll K ph S [x, y] [d, e] := .cons h (.cons g .nil)
theorem zip_get {l1 l2 : List D} {i : Nat} {d : D} (h : (List.zipWith pairD l1 l2)[i]? = some d) : ∃ x y, l1[i]? = some x ∧ l2[i]? = some y ∧ d = pairD x y := by
  rw [List.getElem?_zipWith] at h
  cases e1 : l1[i]? with
  | none => rw [e1] at h; cases h
  | some x =>
    cases e2 : l2[i]? with
    | none => rw [e1, e2] at h; cases h
    | some y =>
      rw [e1, e2] at h
      exact ⟨x, y, rfl, rfl, (Option.some.inj h).symm⟩
theorem Wlk.zip {K : PySem.W.Frag} {ph : Ph} {S : Hp} {a b : Addr} {d1 d2 : List D} {C1 C2 : Mem → Prop}
    (h1 : ∀ (ph' : Ph) (S' : Hp) (r' : Env) (M' : Mem) (σ' : St) (H' : Hp), (∀ (k : Nat) (a : Addr), ph.cells[k]? = some a → ph'.cells[k]? = some a) → Same S S' → Sat K ph' S' r' M' σ' H' → C1 M' → ∃ xs, SqL K H' a xs ∧ RepAll K ph' S' xs d1)
    (h2 : ∀ (ph' : Ph) (S' : Hp) (r' : Env) (M' : Mem) (σ' : St) (H' : Hp), (∀ (k : Nat) (a : Addr), ph.cells[k]? = some a → ph'.cells[k]? = some a) → Same S S' → Sat K ph' S' r' M' σ' H' → C2 M' → ∃ xs, SqL K H' b xs ∧ RepAll K ph' S' xs d2) :
    Wlk K ph S (Itz K a b) (List.zipWith pairD d1 d2) (fun M => C1 M ∧ C2 M) := fun ph' S' r M σ H e1 e2 hs hc => by
  obtain ⟨xs, q1, qa1⟩ := h1 ph' S' r M σ H e1 e2 hs hc.1
  obtain ⟨ys, q2, qa2⟩ := h2 ph' S' r M σ H e1 e2 hs hc.2
  refine ⟨fun i hi => ⟨xs, ys, q1, q2, by rw [qa1.len, qa2.len]; rw [List.length_zipWith] at hi; omega⟩, fun i d e => ?_⟩
  obtain ⟨x, y, ex, ey, rfl⟩ := zip_get e
  obtain ⟨u, eu, qu⟩ := qa1.get ex
  obtain ⟨w, ew, qw⟩ := qa2.get ey
  refine ⟨⟨xs, ys, u, w, q1, q2, eu, ew⟩, fun z H' ⟨T, u', w', ez, hT, eH, f1, f2⟩ => ?_⟩
  have e3 := f1 xs q1
  have e4 := f2 ys q2
  rw [eu] at e3; cases e3
  rw [ew] at e4; cases e4
  subst ez eH
  obtain ⟨x1, hs1⟩ := hs.frz hT (.tup [u, w])
  exact ⟨_, _, _, x1, hs1, rfl, .tup (.inl upd_same) ((RepAll.two qu qw).up x1)⟩
end DL
namespace DL
open PySem PySem.Spec PyProof.Rows L2
def t_is_whole : DTS :=
 (dRet (dAndV (dCB gIsi (dCons (dVar 0) (dCons (dC (.val (.ty "int"))) dNil))) (dNotV (dCB gIsi (dCons (dVar 0) (dCons (dC (.val (.ty "bool"))) dNil))))))
def t_root_floor_by : DTS :=
 (dSeq (dIfS (dTru (dOp (gCmpI fun i j => decide (i < j)) (dVar 0) (dC (.int 2)))) (dRet (dVar 0)) dNext)
 (dSeq (dAsg (dC (.int 1)) (dName 1))
 (dSeq (dWhile (dTru (dOp (gCmpI fun i j => decide (i ≤ j)) (dOp (rBin CMul fun i j => i * j) (dVar 1) (dVar 1)) (dVar 0))) (dAsg (dOp (rBin CMul fun i j => i * j) (dC (.int 2)) (dVar 1)) (dName 1)))
 (dSeq (dAsg (dOp (rBin CDiv fun i j => i.fdiv j) (dOp gAdd (dVar 1) (dOp (rBin CDiv fun i j => i.fdiv j) (dVar 0) (dVar 1))) (dC (.int 2))) (dName 2))
 (dSeq (dWhile (dTru (dOp (gCmpI fun i j => decide (i < j)) (dVar 2) (dVar 1))) (dPar 1 2 (dCons (dVar 2) (dCons (dOp (rBin CDiv fun i j => i.fdiv j) (dOp gAdd (dVar 2) (dOp (rBin CDiv fun i j => i.fdiv j) (dVar 0) (dVar 2))) (dC (.int 2))) dNil))))
 (dRet (dVar 1)))))))
def t_common_by : DTS :=
 (dSeq (dPar 2 3 (dCons (dCB gAbs (dCons (dVar 0) dNil)) (dCons (dCB gAbs (dCons (dVar 1) dNil)) dNil)))
 (dSeq (dWhile (dTru (dOp gNe (dVar 3) (dC (.int 0)))) (dPar 2 3 (dCons (dVar 3) (dCons (dOp (rBin CMod fun i j => i.fmod j) (dVar 2) (dVar 3)) dNil))))
 (dRet (dVar 2))))
def t_root_by (c_root_floor_by : DSp) (c_common_by : DSp) : DTS :=
 (dSeq (dAsg (dCall 1 c_root_floor_by [] DX0 (dCons (dVar 0) dNil)) (dName 4))
 (dSeq (dIfS (dTru (dOp gEq (dOp (rBin CMul fun i j => i * j) (dVar 4) (dVar 4)) (dVar 0))) (dPar 1 2 (dCons (dOp gAdd (dVar 1) (dOp (rBin CMul fun i j => i * j) (dVar 2) (dVar 4))) (dCons (dC (.int 0)) dNil))) dNext)
 (dSeq (dAsg (dCall 2 c_common_by [] DX0 (dCons (dCall 2 c_common_by [] DX0 (dCons (dVar 1) (dCons (dVar 2) dNil))) (dCons (dVar 3) dNil))) (dName 5))
 (dSeq (dIfS (dTru (dOp (gCmpI fun i j => decide (i < j)) (dVar 3) (dC (.int 0)))) (dAsg (dOp (rBin (fun _ _ => True) fun i j => i - j) (dC (.int 0)) (dVar 5)) (dName 5)) dNext)
 (dRet (dTup (dCons (dOp (rBin CDiv fun i j => i.fdiv j) (dVar 1) (dVar 5)) (dCons (dOp (rBin CDiv fun i j => i.fdiv j) (dVar 2) (dVar 5)) (dCons (dOp (rBin CDiv fun i j => i.fdiv j) (dVar 3) (dVar 5)) dNil)))))))))
def t_l_random_7821 (c_l_hash_9cde : DSp) : DTS :=
 (dSeq (dIfS (dTru (dOp (gCmpI fun i j => decide (j < i)) (dOp gIx (dVar 0) (dC (.int 0))) (dC (.int 0)))) (dSeq (dAsg (dOp (rBin CMod fun i j => i.fmod j) (dCB gInt (dCons (dOp gIx (dVar 0) (dC (.int 0))) dNil)) (dVar 1)) (dName 2))
 (dSeq (dAsg (dOp (rBin CDiv fun i j => i.fdiv j) (dOp gIx (dVar 0) (dC (.int 0))) (dVar 1)) (dSub (dVar 0) (dC (.int 0))))
 (dRet (dVar 2)))) dNext)
 (dSeq (dAsg (dC (.int 0)) (dName 2))
 (dSeq (dFor (dRngI gRng1 (dCons (dOp gAdd (dC (.int 1)) (dOp (rBin CDiv fun i j => i.fdiv j) (dBits (dVar 1)) (dC (.int 30)))) dNil)) (dName 3) (dSeq (dAsg (dOp gAdd (dOp gIx (dVar 0) (dC (.int 2))) (dC (.int 1))) (dSub (dVar 0) (dC (.int 2))))
 (dAsg (dOp gAdd (dOp (rBin CMul fun i j => i * j) (dVar 2) (dC (.int 2147483587))) (dCall 2 c_l_hash_9cde [] DX0 (dCons (dOp gIx (dVar 0) (dC (.int 1))) (dCons (dOp gIx (dVar 0) (dC (.int 2))) dNil)))) (dName 2))))
 (dRet (dOp (rBin CMod fun i j => i.fmod j) (dCB gInt (dCons (dVar 2) dNil)) (dVar 1))))))
def t_l_cell_cf3b : DTS :=
 (dSeq (dIfS (dTru (dOp (gCmpI fun i j => decide (i < j)) (dVar 1) (dCB gLen (dCons (dVar 0) dNil)))) (dRet (dOp gIx (dVar 0) (dVar 1))) dNext)
 (dRet (dOp (rBin CMod fun i j => i.fmod j) (dCB gSum (dCons (dSl (gSlL false) (dVar 0) dNoPart (dPart (dC (.int 1)))) dNil)) (dC (.int 1000003)))))
def t_l_generator_b324 (c_l_cell_cf3b : DSp) : DTS :=
 (dSeq (dAsg (dCall 2 c_l_cell_cf3b [] DX0 (dCons (dVar 0) (dCons (dVar 1) dNil))) (dName 2))
 (dRet (dOwn (dCons (dOp (rBin CMod fun i j => i.fmod j) (dCB gInt (dCons (dCB gMax (dCons (dOp (rBin (fun _ _ => True) fun i j => i - j) (dVar 2) (dOp (rBin CPow fun i j => i ^ j.toNat) (dC (.int 10)) (dC (.int 18)))) (dCons (dC (.int 0)) dNil))) dNil)) (dOp (rBin CPow fun i j => i ^ j.toNat) (dOp (rBin CPow fun i j => i ^ j.toNat) (dC (.int 10)) (dC (.int 60))) (dC (.int 10)))) (dCons (dOp (rBin CMod fun i j => i.fmod j) (dCB gInt (dCons (dVar 2) dNil)) (dC (.int 2147483647))) (dCons (dOp (rBin CMul fun i j => i * j) (dC (.int 1000)) (dVar 1)) dNil))))))
end DL
namespace DL
open PySem PySem.Spec PyProof.Rows L2
def t_plus_by (c_root_by : DSp) : DTS :=
 (dSeq (dAsg (dOp gAdd (dOp (rBin CMul fun i j => i * j) (dOp gIx (dVar 1) (dC (.int 0))) (dOp gIx (dVar 2) (dC (.int 2)))) (dOp (rBin CMul fun i j => i * j) (dOp gIx (dVar 2) (dC (.int 0))) (dOp gIx (dVar 1) (dC (.int 2))))) (dName 3))
 (dRet (dCall 4 c_root_by [] DX0 (dCons (dVar 0) (dCons (dVar 3) (dCons (dOp gAdd (dOp (rBin CMul fun i j => i * j) (dOp gIx (dVar 1) (dC (.int 1))) (dOp gIx (dVar 2) (dC (.int 2)))) (dOp (rBin CMul fun i j => i * j) (dOp gIx (dVar 2) (dC (.int 1))) (dOp gIx (dVar 1) (dC (.int 2))))) (dCons (dOp (rBin CMul fun i j => i * j) (dOp gIx (dVar 1) (dC (.int 2))) (dOp gIx (dVar 2) (dC (.int 2)))) dNil)))))))
def t_minus_by (c_plus_by : DSp) : DTS :=
 (dRet (dCall 3 c_plus_by [] DX0 (dCons (dVar 0) (dCons (dVar 1) (dCons (dTup (dCons (dOp (rBin (fun _ _ => True) fun i j => i - j) (dC (.int 0)) (dOp gIx (dVar 2) (dC (.int 0)))) (dCons (dOp (rBin (fun _ _ => True) fun i j => i - j) (dC (.int 0)) (dOp gIx (dVar 2) (dC (.int 1)))) (dCons (dOp gIx (dVar 2) (dC (.int 2))) dNil)))) dNil)))))
def t_times_by (c_root_by : DSp) : DTS :=
 (dSeq (dAsg (dOp gAdd (dOp (rBin CMul fun i j => i * j) (dOp gIx (dVar 1) (dC (.int 0))) (dOp gIx (dVar 2) (dC (.int 0)))) (dOp (rBin CMul fun i j => i * j) (dOp (rBin CMul fun i j => i * j) (dVar 0) (dOp gIx (dVar 1) (dC (.int 1)))) (dOp gIx (dVar 2) (dC (.int 1))))) (dName 3))
 (dRet (dCall 4 c_root_by [] DX0 (dCons (dVar 0) (dCons (dVar 3) (dCons (dOp gAdd (dOp (rBin CMul fun i j => i * j) (dOp gIx (dVar 1) (dC (.int 0))) (dOp gIx (dVar 2) (dC (.int 1)))) (dOp (rBin CMul fun i j => i * j) (dOp gIx (dVar 1) (dC (.int 1))) (dOp gIx (dVar 2) (dC (.int 0))))) (dCons (dOp (rBin CMul fun i j => i * j) (dOp gIx (dVar 1) (dC (.int 2))) (dOp gIx (dVar 2) (dC (.int 2)))) dNil)))))))
end DL
namespace DL
open PySem PySem.Spec PyProof.Rows L2
end DL
namespace DL
open PySem PySem.Spec PyProof.Rows L2
def t_l_hash_d8d1 : DTS :=
 (dSeq (dAsg (dOp (rBin CMod fun i j => i.fmod j) (dCB gInt (dCons (dOp gAdd (dOp gAdd (dOp gAdd (dOp (rBin CMul fun i j => i * j) (dVar 0) (dC (.int 1140671))) (dOp (rBin CMul fun i j => i * j) (dOp (rBin CMul fun i j => i * j) (dC (.int 27644437)) (dVar 1)) (dVar 1))) (dOp (rBin CMul fun i j => i * j) (dC (.int 131)) (dVar 1))) (dC (.int 19))) dNil)) (dC (.int 2147483629))) (dName 2))
 (dSeq (dAsg (dOp (rBin CMod fun i j => i.fmod j) (dCB gInt (dCons (dOp gAdd (dOp gAdd (dOp (rBin CMul fun i j => i * j) (dVar 2) (dVar 2)) (dOp (rBin CMul fun i j => i * j) (dC (.int 62089)) (dVar 1))) (dC (.int 32416187))) dNil)) (dC (.int 2147483587))) (dName 2))
 (dRet (dOp (rBin CMod fun i j => i.fmod j) (dCB gInt (dCons (dOp (rBin CMul fun i j => i * j) (dVar 2) (dC (.int 48271))) dNil)) (dC (.int 2147483647))))))
def t_is_cutting_by (c_is_whole : DSp) (c_common_by : DSp) : DTS :=
 (dSeq (dIfS (dOr (dNot (dTru (dCB gIsi (dCons (dVar 0) (dCons (dC (.val (.ty "tuple"))) dNil))))) (dOr (dTru (dOp gNe (dCB gLen (dCons (dVar 0) dNil)) (dC (.int 4)))) (dTru (dOp gNe (dLc false (dSeqI (dVar 0)) (dName 1) (dNot (dTru (dCall 1 c_is_whole [] DX0 (dCons (dVar 1) dNil)))) (dVar 1) [1]) (dLst dNil))))) (dRet (dC (.bl false))) dNext)
 (dSeq (dAsg (dVar 0) (dGTup 4 (dGCons (dName 2) (dGCons (dName 3) (dGCons (dName 4) (dGCons (dName 5) dGNil))))))
 (dSeq (dIfS (dOr (dTru (dOp (gCmpI fun i j => decide (i < j)) (dVar 3) (dC (.int 1)))) (dOr (dTru (dOp (gCmpI fun i j => decide (i < j)) (dVar 4) (dC (.int 1)))) (dNot (dTru (dOp (gCmpI fun i j => decide (i < j)) (dOp gAdd (dVar 4) (dVar 5)) (dVar 3)))))) (dRet (dC (.bl false))) dNext)
 (dSeq (dAsg (dCall 2 c_common_by [] DX0 (dCons (dVar 3) (dCons (dVar 4) dNil))) (dName 6))
 (dRet (dAndV (dChain (gCmpI fun i j => decide (i ≤ j)) (gCmpI fun i j => decide (i < j)) (dC (.int 0)) (dVar 2) (dVar 6)) (dOp gEq (dCall 2 c_common_by [] DX0 (dCons (dCall 2 c_common_by [] DX0 (dCons (dVar 2) (dCons (dVar 6) dNil))) (dCons (dVar 5) dNil))) (dC (.int 1)))))))))
def t_check_cutting (c_is_cutting_by : DSp) : DTS :=
 (dIfS (dNot (dTru (dCall 1 c_is_cutting_by [] DX0 (dCons (dVar 0) dNil)))) dNever dNext)
def t_measure_by : DTS :=
 (dRet (dOp gAdd (dOp (rBin CMul fun i j => i * j) (dOp gIx (dVar 0) (dC (.int 3))) (dOp gIx (dVar 0) (dC (.int 3)))) (dOp (rBin CMul fun i j => i * j) (dOp (rBin CMul fun i j => i * j) (dC (.int 4)) (dOp gIx (dVar 0) (dC (.int 1)))) (dOp gIx (dVar 0) (dC (.int 2))))))
end DL
namespace DL
open PySem PySem.Spec PyProof.Rows L2
end DL
/-! DLS: sorted of ints, of tuples of ints -/
namespace DL
open PySem PySem.Spec PyProof.Rows L2
/-- by the first unlike number -/
def lexL : List Int → List Int → Bool
  | [], [] => false
  | [], _ :: _ => true
  | _ :: _, [] => false
  | x :: xs, y :: ys => if x = y then lexL xs ys else decide (x < y)
/-- at v: a tuple of these ints -/
def IsTupI (h : Heap) (v : Value) (ns : List Int) : Prop := ∃ a o us n, v = .ref a ∧ h.get? a = some o ∧ o.cls = .type "tuple" ∧ o.data = .seq (List.toArray us) n ∧ Vals (ns.map V.int) us
theorem IsTupI.keeps {h h' : Heap} {v : Value} {ns : List Int} (p : IsTupI h v ns) (k : ∀ b o, h.get? b = some o → o.cls = .type "tuple" → h'.get? b = some o) : IsTupI h' v ns := by
  obtain ⟨a, o, us, n, e, ho, hc, hd, r⟩ := p
  exact ⟨a, o, us, n, e, k _ _ ho hc, hc, hd, r⟩
/-- the ints of a tuple, as H tells -/
def kV (K : PySem.W.Frag) (H : Hp) (v : V) : List Int := match v with
  | .ref t => match H t with
    | some (.tup xs) => xs.map fun x => match x with
      | .int i => i
      | _ => 0
    | _ => match K.lookup t with
      | some ⟨_, _, .seq its _, _⟩ => its.toList.map fun u => match u with
        | .int i _ => i
        | _ => 0
      | _ => []
  | _ => []
/-! ### as a rule for data -/
theorem RepAll.intsV {K : PySem.W.Frag} {ph : Ph} {S : Hp} : ∀ {xs : List V} {ns : List Int}, RepAll K ph S xs (ns.map D.int) → xs = ns.map V.int
  | _, [], .nil => rfl
  | _, _ :: _, .cons h t => by
    cases h
    rw [RepAll.intsV t]
    rfl
/-! ### slices of lists and tuples alike -/
section
variable {X : Cx}
def gSl (own : Bool) (d : D) (lo hi : Option Int) (M : Mem) (Q : DQ) : Prop := match d with
  | .tup l => Q (.tup (cutD l lo hi)) M
  | d => gSlL own d lo hi M Q
theorem de_sl (own : Bool) {e : Expr} {lo hi : Option Expr} {t : DTE} {tl th : DTO} {pos p2 : Pos} (h : DE X e t) (h1 : DO X lo tl) (h2 : DO X hi th) : DE X (.Subscript e (.Slice lo hi none p2) pos) (dSl (gSl own) t tl th) :=
  DE.of (pe_slice (SlR.or sl_list sl_tupA) h.pe h1.po h2.po) fun ph S r M σ H Q hs ht Q' hq => ⟨ph, S, r, M, _, hs, ht, fun v H1 ⟨ph1, S1, M1, x1, hs1, d, q1, g1⟩ =>
    ⟨ph1, S1, r, M1, _, hs1, g1, fun lo H2 ⟨ph2, S2, M2, x2, hs2, g2⟩ => ⟨ph2, S2, r, M2, _, hs2, g2, fun hi H3 ⟨ph3, S3, M3, x3, hs3, g3⟩ => by
      replace g3 : gSl own d lo hi M3 Q := g3
      have xx := x1.trans (x2.trans x3)
      have q3 := q1.up (x2.trans x3)
      by_cases htup : ∃ l, d = .tup l
      · obtain ⟨l, rfl⟩ := htup
        cases q3 with
        | tup h1 h2 =>
          refine .inr ⟨_, _, rfl, h1.sq hs3.sub, fun hw => ?_, fun _ b hb => hq _ _ (Aft.up xx (Aft.frz hs3 hb fun x => ⟨_, .tup (.inl upd_same) ((cut_rep h2).up x), g3⟩))⟩
          have hw' : HT.sIx l.length 0 lo = 0 ∧ HT.sIx l.length l.length hi = l.length := by rw [← h2.len]; exact hw
          refine hq _ _ (Aft.up xx (Aft.here hs3 ⟨_, .tup h1 ?_, g3⟩))
          unfold cutD
          rw [cut_whole hw']
          exact h2
      · left
        have g4 : gSlL own d lo hi M3 Q := by cases d <;> first | exact g3 | exact absurd ⟨_, rfl⟩ htup
        unfold gSlL at g4
        split at g4
        · rename_i l er
          obtain ⟨p, xs, rfl, hp, hx⟩ := res_lst hs3 q3 er
          refine ⟨p, xs, rfl, SqL.of hp, fun b hb => ?_⟩
          cases own with
          | false => exact hq _ _ (Aft.up xx (Aft.frz hs3 hb fun x => ⟨_, .lst upd_same ((cut_rep hx).up x), g4⟩))
          | true => exact hq _ _ (Aft.up xx (Aft.own hs3 hb (cut_rep hx) g4))
        · rename_i ns er
          have er' := res_scr er
          subst er'
          cases q3 with
          | scr h1 =>
            refine ⟨_, _, rfl, hs3.sub.seq h1, fun b hb => ?_⟩
            cases own with
            | false => exact hq _ _ (Aft.up xx (Aft.frz hs3 hb fun x => ⟨_, .lst upd_same (cut_rep (RepAll.ints _)), g4⟩))
            | true => exact hq _ _ (Aft.up xx (Aft.own hs3 hb (cut_rep (RepAll.ints _)) g4))
        · exact g4.elim⟩⟩⟩
theorem gSl_tup {own : Bool} {l : List D} {lo hi : Option Int} {M : Mem} {Q : DQ} : gSl own (.tup l) lo hi M Q = Q (.tup (cutD l lo hi)) M := rfl
theorem gSl_lst {l : List D} {lo hi : Option Int} {M : Mem} {Q : DQ} : gSl false (.lst l) lo hi M Q = Q (.lst (cutD l lo hi)) M := rfl
theorem cut_1 {a : D} {l : List D} : cutD (a :: l) (some 1) none = l := by
  unfold cutD
  have e1 : HT.sIx (a :: l).length 0 (some 1) = 1 := by
    have := HT.sIx_nat (a :: l).length 0 1
    rw [show ((1 : Nat) : Int) = 1 from rfl] at this
    rw [this, List.length_cons]
    omega
  have e2 : HT.sIx (a :: l).length (a :: l).length none = (a :: l).length := rfl
  rw [e1, e2]
  simp
end
/-! ### x + y, lists, the sum to be changed -/
end DL
namespace DL
open PySem PySem.Spec PyProof.Rows L2
end DL
namespace DL
open PySem PySem.Spec PyProof.Rows L2
end DL
namespace DL
open PySem PySem.Spec PyProof.Rows L2
end DL
namespace DL
open PySem PySem.Spec PyProof.Rows L2
end DL
/-! DLU: max and min of a list of ints -/
namespace DL
open PySem PySem.Spec PyProof.Rows L2
end DL
namespace DL
open PySem PySem.Spec PyProof.Rows L2
end DL
namespace DL
open PySem PySem.Spec PyProof.Rows L2
end DL
/-! DLV: sorted({(a, b), (c, d)}) -/
namespace DL
open PySem PySem.Spec PyProof.Rows L2
/-! ### a def whose own code must be known -/
end DL
namespace DL
open PySem PySem.Spec PyProof.Rows L2
end DL
namespace DL
open PySem PySem.Spec PyProof.Rows L2
end DL
/-! DLX: errors over data: raised, passed on, caught, asked -/
namespace DL
open PySem PySem.Spec PyProof.Rows L2
section
variable {X : Cx} {pos : Pos}
/-! ### names of the module as values; an error's value and kind -/
def dFld (t : DTE) : DTE := fun r M Q => t r M fun d M1 => match d with
  | .exc _ v => Q v M1
  | _ => False
end
/-! ### what may leave -/
abbrev DXE := Env → Str → D → Mem → Prop
def postE (K : PySem.W.Frag) (ph : Ph) (S : Hp) (E : DXE) : WX := fun cls d σ H => ∃ (x : Str) (C T dd : Addr) (v : V) (dv : D) (r : Env), XA.ErC K x C T ∧ cls = .ref C ∧ d = some dd ∧
  Aft K ph S r σ H fun ph' S' M => S' dd = some (.xd [(fVal, v)]) ∧ Rep K ph' S' v dv ∧ E r x dv M
theorem postE.up {K : PySem.W.Frag} {ph ph1 : Ph} {S S1 : Hp} {E : DXE} {cls : Value} {d : Option Addr} {σ : St} {H : Hp} (x : Ext ph S ph1 S1) (h : postE K ph1 S1 E cls d σ H) : postE K ph S E cls d σ H :=
  let ⟨y, C, T, dd, v, dv, r, h1, h2, h3, h4⟩ := h
  ⟨y, C, T, dd, v, dv, r, h1, h2, h3, Aft.up x h4⟩
section
variable {X : Cx} {pos : Pos}
theorem postE.back {K : PySem.W.Frag} {ph ph1 : Ph} {S S1 : Hp} {E : DXE} {cls : Value} {d : Option Addr} {σ : St} {H : Hp} (x : Ext ph S ph1 S1) (h : postE K ph1 S1 E cls d σ H) : postE K ph S E cls d σ H := h.up x
variable {k : Nat} {f : Addr} {fd : FuncData} {ps : List Str} {sp : DSp} {x : Str} {p : Pos} {e : Expr} {es : List Expr} {t : DXE → DTA}
/-- f(..), f may raise -/
def dCallX (n : Nat) (sp : DSp) (t : DXE → DTA) : DXE → DTE := fun E r M Q => t E r M fun ds M1 => ds.length = n ∧ sp ds M1 Q (fun y dv M2 => E r y dv M2)
end
end DL
/-! DLY: statements that may raise; try; a def that raises -/
namespace DL
open PySem PySem.Spec PyProof.Rows L2
section
variable {X : Cx} {pos : Pos}
/-- raise x(e) -/
def dRaise (x : Str) (t : DTA) : DXE → DTS := fun E _ r M => t r M fun ds M1 => ∃ d, ds = [d] ∧ E r x d M1
/-! ### try -/
/-- try: t / except c as (slot i): ts, all that t raises being of the class c -/
def dTry (c : Str) (i : Nat) (t : DXE → DTS) (ts : DTS) : DTS := fun E r M => t (fun r' x dv M' => XA.under x c = true ∧
  ts { nx := fun r2 M2 => E.nx (r2.set i none) M2, rt := E.rt, bk := fun r2 M2 => E.bk (r2.set i none) M2, ct := fun r2 M2 => E.ct (r2.set i none) M2 } (r'.set i (some (.exc x dv))) M') E r M
end
/-! ### a def that may raise -/
/-! ### a def that may raise, called where it doesn't -/
section
variable {X : Cx} {k : Nat} {ps ks : List Str} {sp : DSp} {x : Str} {p pos : Pos} {e : Expr} {es : List Expr} {kws : List Keyword} {t : DTA}
/-! ### a call of what an expression tells (a def out of a list of defs) -/
/-- the defs that may be meant: name, number of parameters, contract -/
abbrev Tab := List (Str × Nat × DSp)
def dCallV (L : Tab) (tf : DTE) (t : DXE → DTA) : DXE → DTE := fun E r M Q => tf r M fun d M0 => match d with
  | .glb x => ∃ n sp, (x, n, sp) ∈ L ∧ t E r M0 fun ds M1 => ds.length = n ∧ sp ds M1 Q (fun y dv M2 => E r y dv M2)
  | _ => False
end
end DL
namespace DL
open PySem PySem.Spec PyProof.Rows L2
end DL
namespace DL
open PySem PySem.Spec PyProof.Rows L2
end DL
/-! DLZ: list(range), range with a step, enumerate, xs[::-1], xs.index -/
namespace DL
open PySem PySem.Spec PyProof.Rows L2
section
variable {X : Cx} {pos : Pos}
/-! ### list(range(..)) -/
theorem rgV_rep {K : PySem.W.Frag} {ph : Ph} {S : Hp} (a b : Int) : RepAll K ph S (rgV a b) (rng a (b - a).toNat) := by
  unfold rgV rng
  generalize (List.range (b - a).toNat) = l
  induction l with
  | nil => exact .nil
  | cons x l ih => exact .cons (.int _) ih
def gLRng (own : Bool) : GA := fun ds M Q => match ds with
  | [.int b] => RgOk 0 b ∧ (if own = true then Q (.own M.length) (M ++ [.lst (rng 0 b.toNat)]) else Q (.lst (rng 0 b.toNat)) M)
  | [.int a, .int b] => RgOk a b ∧ (if own = true then Q (.own M.length) (M ++ [.lst (rng a (b - a).toNat)]) else Q (.lst (rng a (b - a).toNat)) M)
  | _ => False
theorem de_lrng1 (own : Bool) {a : Expr} {t : DTE} {p p2 p3 : Pos} (hc : X.calm = true) (hm : X.mg "list" = none) (hm2 : X.mg "range" = none) (ha : DE X a t) (hg : Gl X "list" := by rfl) (hg2 : Gl X "range" := by rfl)
    (na : starEach [a] X.env = (false, eval a X.env) :: starEach [] X.env := by rfl) (na2 : starEach [.Call (.Name "range" p2) [a] [] p3] X.env = (false, eval (.Call (.Name "range" p2) [a] [] p3) X.env) :: starEach [] X.env := by rfl) :
    DE X (.Call (.Name "list" p) [.Call (.Name "range" p2) [a] [] p3] [] pos) (dCB (gLRng own) (dCons t dNil)) :=
  DE.of (pe_listRg hc hg hm (prg_1 hg2 hm2 ha.pe na) na2) fun ph S r M σ H Q hs ht Q' hq => ⟨ph, S, r, M, _, hs, ht, fun v H1 ⟨ph1, S1, M1, x1, hs1, d, q1, g1⟩ => by
    replace g1 : gLRng own [d] M1 Q := g1
    cases d <;> first | exact g1.elim | skip
    rename_i b
    cases q1
    refine ⟨_, rfl, g1.1, fun p hp => ?_⟩
    have rr : RepAll X.K ph1 S1 (rgV 0 b) (rng 0 b.toNat) := by
      have := rgV_rep (K := X.K) (ph := ph1) (S := S1) 0 b
      rw [Int.sub_zero] at this; exact this
    have g2 := g1.2
    cases own with
    | false => exact hq _ _ (Aft.up x1 (Aft.frz hs1 hp fun x => ⟨_, .lst upd_same (rr.up x), g2⟩))
    | true => exact hq _ _ (Aft.up x1 (Aft.own hs1 hp rr g2))⟩
/-! ### range(a, b, c) -/
/-! ### enumerate -/
/-! ### xs[::-1] -/
/-! ### xs.index(y) -/
end
end DL
namespace DL
open PySem PySem.Spec PyProof.Rows L2
end DL
namespace DL
open PySem PySem.Spec PyProof.Rows L2
end DL
/-! XC: list(range(a, b, c)); xs.count(y) -/
namespace L2
open PySem PySem.Spec PyProof.Rows PyProof
end L2
/-! DLC: list(range(a, b, c)), xs.count(y), comparisons and reprs of data with owned lists within -/
namespace DL
open PySem PySem.Spec PyProof.Rows L2
section
variable {X : Cx} {pos : Pos}
/-! ### xs.count(y) -/
/-! ### owned lists within -/
def cellL (M : Mem) (k : Nat) : Option (List D) := match M[k]? with
  | some (.lst ds) => some ds
  | _ => none
mutual
/-- every owned list within as it stands -/
def resD (M : Mem) : D → D
  | .own k => match cellL M k with
    | some ds => .lst ds
    | none => .own k
  | .tup l => .tup (resDA M l)
  | .lst l => .lst (resDA M l)
  | d => d
def resDA (M : Mem) : List D → List D
  | [] => []
  | d :: ds => resD M d :: resDA M ds
end
section
variable {K : PySem.W.Frag} {ph : Ph} {S : Hp} {r : Env} {M : Mem} {σ : St} {H : Hp}
mutual
theorem Rep.resD (hs : Sat K ph S r M σ H) : ∀ (d : D) (v : V), Rep K ph S v d → Rep K ph H v (resD M d)
  | .own k, v, q => by
    unfold DL.resD
    split
    · rename_i ds hk
      have hk' : M[k]? = some (.lst ds) := by
        unfold cellL at hk
        split at hk
        · rename_i e; cases hk; exact e
        · cases hk
      cases q with
      | own h =>
        obtain ⟨a, xs, c1, c2, c3, c4⟩ := hs.cell k ds hk'
        rw [h] at c1; cases c1
        exact .lst c3 (hs.readAll c4)
    · exact hs.read q
  | .tup l, _, .tup h1 h2 => by
    unfold DL.resD
    exact .tup (h1.ext hs.sub) (RepAll.resD hs l _ h2)
  | .lst l, _, .lst h1 h2 => by
    unfold DL.resD
    exact .lst (hs.sub _ _ h1) (RepAll.resD hs l _ h2)
  | .non, _, q => hs.read q
  | .bl _, _, q => hs.read q
  | .int _, _, q => hs.read q
  | .str _, _, q => hs.read q
  | .dct0, _, q => hs.read q
  | .scr _, _, q => hs.read q
  | .exc _ _, _, q => hs.read q
  | .glb _, _, q => hs.read q
  | .val _, _, q => hs.read q
theorem RepAll.resD (hs : Sat K ph S r M σ H) : ∀ (ds : List D) (vs : List V), RepAll K ph S vs ds → RepAll K ph H vs (resDA M ds)
  | [], _, .nil => by unfold DL.resDA; exact .nil
  | d :: ds, _, .cons q t => by unfold DL.resDA; exact .cons (Rep.resD hs d _ q) (RepAll.resD hs ds _ t)
end
end
end
end DL
namespace DL
open PySem PySem.Spec PyProof.Rows L2
end DL
/-! XD: repr of a list whose items may be dicts, where no list within is asked about -/
namespace L2
open PySem PySem.Spec PyProof.Rows PyProof
section
variable {prog : Program} {w : World} {A : Around} {E : Value → Shared → Prop} {s : Shared} {Q : Value → Shared → Prop}
theorem repr_listZ {a : Addr} {o : Obj} {vs : Array Value} {n : Nat} {xs : List PyData} {as : List Addr} (ho : s.heap.get? a = some o) (oc : o.cls = .type "list") (od : o.data = .seq vs n) (rs : ReadsAll s.heap vs.toList xs as)
    (sh : PyData.showableAll xs = true) (no : sysModules ∉ as) (gd : A.guards = some []) (un : A.units + (PyData.depthAll xs + 3) < cLine) (len : (PyData.list xs).shown.length ≤ sizeLine)
    (q : ∀ h' u tk, (∀ b o, s.heap.get? b = some o → h'.get? b = some o) → Q (.str (PyData.list xs).shown u) { s with heap := h', toks := tk }) :
    wpAny (model prog w) A (call (.builtin "repr") [.ref a]) Q E s := by
  have len2 : (listText (PyData.shownAll xs)).length ≤ sizeLine := by simpa only [PyData.shown] using len
  obtain ⟨cs, deep, each⟩ := ReprAllK.of_readsAll (prog := prog) (w := w) rs sh (fun _ => no) (fun t ht => Nat.le_trans (listText_mem_le ht) len2)
  have away : a ∉ cs := not_mem_of_deeper (.list ho oc od rs) (by simp only [PyData.depth]; omega) deep
  refine call_repr_slot (by omega) ⟨o, ho, oc⟩ F.slot_list_repr.toG ?_
  simp only [PyData.shown] at q
  cases vs with
  | mk l =>
    cases l with
    | nil =>
      cases (show ReadsAll s.heap [] xs as from rs)
      simp only [PyData.shownAll, listText_nil] at q
      exact call_list_repr_empty ⟨o, ho, oc⟩ ho od ⟨_, _, rfl, q s.heap _ _ fun _ _ z => z⟩
    | cons x l =>
      refine call_list_reprK ho oc od away (by simpa using each.length_eq) (fun i y z => each.item i y (by simpa using z)) gd (fun b _ => Clear.nil b) ?_ (fun _ _ z => z) (fun h' u tk kp => ⟨_, _, rfl, q h' u tk kp⟩) len2
      show A.units + 1 + (PyData.depthAll xs + 1) < cLine
      omega
end
end L2
/-! DLR: how readings are shown -/
namespace DL
open PySem PySem.Spec PyProof.Rows L2
/-! ### while -/
/-- the same, the measure told apart -/
theorem dwhile_of {c : DTT} {t : DTS} {E : DEnds} {r : Env} {M : Mem} (W : Nat → Env → Mem → Prop) (n : Nat) (h0 : W n r M)
    (step : ∀ n r M, W n r M → c r M fun b M1 => if b = true then t { E with nx := fun r' M' => ∃ m', m' < n ∧ W m' r' M', ct := fun r' M' => ∃ m', m' < n ∧ W m' r' M', bk := E.nx } r M1 else E.nx r M1) : dWhile c t E r M := ⟨W, ⟨n, h0⟩, step⟩
/-! ### comparing plain data -/
theorem gEq_int {i j : Int} {M : Mem} {Q : DQ} : gEq (.int i) (.int j) M Q = Q (.bl (i == j)) M := rfl
theorem gNe_int {i j : Int} {M : Mem} {Q : DQ} : gNe (.int i) (.int j) M Q = Q (.bl (!(i == j))) M := rfl
theorem gEq_bl {i j : Bool} {M : Mem} {Q : DQ} : gEq (.bl i) (.bl j) M Q = Q (.bl (i == j)) M := rfl
theorem gNe_bl {i j : Bool} {M : Mem} {Q : DQ} : gNe (.bl i) (.bl j) M Q = Q (.bl (!(i == j))) M := rfl
/-! ### the end of a def -/
theorem rtq {M : Mem} {Q : DQ} {d : D} (q : Q d M) (hb : below M.length d = true := by rfl) : Rtq M Q d M := ⟨M, [], (List.append_nil M).symm, Nat.le_refl _, hb, fun _ _ h => .inl h, q⟩
theorem rtqG {M G : Mem} {Q : DQ} {d : D} (q : Q d M) (hb : below M.length d = true := by rfl) : Rtq M Q d (M ++ G) := ⟨M, G, rfl, Nat.le_refl _, hb, fun _ _ h => .inl h, q⟩
/-- new cells stay, others were changed: all of them plain -/
theorem rtqC {M M1 : Mem} {Q : DQ} {d : D} (q : Q d M1) (hl : M.length ≤ M1.length) (hb : below M1.length d = true) (hc : ∀ (i : Nat) (c : Own), M1[i]? = some c → M[i]? = some c ∨ belowO M1.length c = true) : Rtq M Q d M1 := ⟨M1, [], (List.append_nil _).symm, hl, hb, hc, q⟩
end DL
namespace DL
open PySem PySem.Spec PyProof.Rows L2
/-! ### comprehensions -/
theorem lcW_pure {ds : List D} {C : Mem → Prop} {g : DTG} {tt : DTT} {te : DTE} {r : Env} {M : Mem} {Q : DQ} (f : D → Option D) (hC : C M) (hl : ds.length ≤ sizeLine)
    (step : ∀ d ∈ ds, ∀ (Y : D → Mem → Prop) (N : Mem → Prop), (match f d with | some e => Y e M | none => N M) → g d r M fun r2 M2 => tt r2 M2 fun b M3 => if b = true then te r2 M3 Y else N M3)
    (q : Q (.lst (ds.filterMap f)) M) : lcW false ds C g tt te r M Q := by
  refine ⟨fun i acc M' => M' = M ∧ acc = (ds.take i).filterMap f ∧ i ≤ ds.length, ⟨rfl, rfl, Nat.zero_le _⟩, ?_⟩
  rintro i acc M' ⟨rfl, rfl, hi⟩
  refine ⟨hC, fun hd => ?_, fun d ed => ?_⟩
  · rw [if_neg Bool.false_ne_true]
    rw [List.take_of_length_le hd]; exact q
  · have hlt : i < ds.length := (List.getElem?_eq_some_iff.mp ed).1
    have ht : ds.take (i + 1) = ds.take i ++ [d] := by rw [List.take_add_one, ed]; rfl
    refine step d (List.mem_of_getElem? ed) _ _ ?_
    split
    · rename_i e he
      refine ⟨?_, rfl, ?_, hlt⟩
      · have h1 : ((ds.take i).filterMap f).length ≤ (ds.take i).length := List.length_filterMap_le _ _
        have h2 : (ds.take i).length ≤ i := by rw [List.length_take]; omega
        omega
      · rw [ht, List.filterMap_append]
        simp [he]
    · rename_i he
      refine ⟨rfl, ?_, hlt⟩
      rw [ht, List.filterMap_append]
      simp [he]
/-! ### data that may be compared -/
mutual
def fine (n : Nat) : D → Bool
  | .non => true
  | .bl _ => true
  | .int _ => true
  | .str x => PyData.strOk x
  | .tup l => match n with
    | 0 => false
    | n + 1 => fineAll n l
  | .lst l => match n with
    | 0 => false
    | n + 1 => fineAll n l
  | _ => false
def fineAll (n : Nat) : List D → Bool
  | [] => true
  | d :: ds => fine n d && fineAll n ds
end
mutual
theorem fine_py : ∀ (n : Nat) (d : D), fine n d = true → ∃ p, toPy d = some p ∧ p.canLay0 = true ∧ p.depth ≤ n
  | n, .non, _ => ⟨.none, rfl, by simp only [PyData.canLay0], by simp only [PyData.depth]; omega⟩
  | n, .bl b, _ => ⟨.bool b, rfl, by simp only [PyData.canLay0], by simp only [PyData.depth]; omega⟩
  | n, .int i, _ => ⟨.int i, rfl, by simp only [PyData.canLay0], by simp only [PyData.depth]; omega⟩
  | n, .str x, h => ⟨.str x, rfl, by simpa only [PyData.canLay0, fine] using h, by simp only [PyData.depth]; omega⟩
  | 0, .tup l, h => by simp [fine] at h
  | n + 1, .tup l, h => by
    obtain ⟨ps, h1, h2, h3, _⟩ := fine_pyAll n l (by simpa only [fine] using h)
    exact ⟨.tuple ps, by simp only [toPy, h1], by simpa only [PyData.canLay0] using h2, by simp only [PyData.depth]; omega⟩
  | 0, .lst l, h => by simp [fine] at h
  | n + 1, .lst l, h => by
    obtain ⟨ps, h1, h2, h3, _⟩ := fine_pyAll n l (by simpa only [fine] using h)
    exact ⟨.list ps, by simp only [toPy, h1], by simpa only [PyData.canLay0] using h2, by simp only [PyData.depth]; omega⟩
  | n, .dct0, h => by simp [fine] at h
  | n, .scr _, h => by simp [fine] at h
  | n, .own _, h => by simp [fine] at h
  | n, .exc _ _, h => by simp [fine] at h
  | n, .glb _, h => by simp [fine] at h
  | n, .val _, h => by simp [fine] at h
theorem fine_pyAll : ∀ (n : Nat) (ds : List D), fineAll n ds = true → ∃ ps, toPyAll ds = some ps ∧ PyData.canLayAll0 ps = true ∧ PyData.depthAll ps ≤ n ∧ ps.length = ds.length
  | n, [], _ => ⟨[], rfl, by simp only [PyData.canLayAll0], by simp only [PyData.depthAll]; omega, rfl⟩
  | n, d :: ds, h => by
    have h' : fine n d = true ∧ fineAll n ds = true := by simpa only [fineAll, Bool.and_eq_true] using h
    obtain ⟨p, a1, a2, a3⟩ := fine_py n d h'.1
    obtain ⟨ps, b1, b2, b3, b4⟩ := fine_pyAll n ds h'.2
    exact ⟨p :: ps, by simp only [toPyAll, a1, b1], by simp only [PyData.canLayAll0, a2, b2, Bool.and_self], by simp only [PyData.depthAll]; omega, by rw [List.length_cons, List.length_cons, b4]⟩
end
theorem cmpd_fine {n : Nat} {d : D} (h : fine n d = true) (hn : n ≤ 64 := by decide) : ∃ p, toPy d = some p ∧ cmpd d = some p := by
  obtain ⟨p, h1, h2, h3⟩ := fine_py n d h
  refine ⟨p, h1, ?_⟩
  unfold cmpd
  rw [h1]
  have : SeqAt.shaped p = true := by unfold SeqAt.shaped; rw [h2]; simp; omega
  simp only [this, if_true]
theorem fineAll_iff {n : Nat} : ∀ {l : List D}, fineAll n l = true ↔ ∀ d ∈ l, fine n d = true
  | [] => by simp [fineAll]
  | d :: l => by simp only [fineAll, Bool.and_eq_true, List.mem_cons, forall_eq_or_imp, fineAll_iff (l := l)]
theorem res_fine {n : Nat} {d : D} {M : Mem} (h : fine n d = true) : res M d = d := by
  cases d <;> first | rfl | (simp [fine] at h)
theorem eqv_self {n : Nat} {d : D} {p : PyData} (h : fine n d = true) (hp : toPy d = some p) : PyData.eqv p p = true := by
  obtain ⟨p', h1, h2, _⟩ := fine_py n d h
  rw [hp] at h1; cases h1
  exact SeqAt.eqv_refl p h2
theorem eqB_self {n : Nat} {d : D} (h : fine n d = true) (hn : n ≤ 64 := by decide) : eqB d d = some true := by
  obtain ⟨p, h1, h2⟩ := cmpd_fine h hn
  unfold eqB
  split
  · simp_all
  · rw [h2]
    show some (PyData.eqv p p) = _
    rw [eqv_self h h1]
/-- the same data compared -/
theorem gNe_same {n : Nat} {d : D} {M : Mem} {Q : DQ} (h : fine n d = true) (q : Q (.bl false) M) (hn : n ≤ 64 := by decide) : gNe d d M Q := by
  unfold gNe
  rw [res_fine h, eqB_self h hn]
  exact q
theorem gEq_same {n : Nat} {d : D} {M : Mem} {Q : DQ} (h : fine n d = true) (q : Q (.bl true) M) (hn : n ≤ 64 := by decide) : gEq d d M Q := by
  unfold gEq
  rw [res_fine h, eqB_self h hn]
  exact q
theorem eqB_nil {n : Nat} {l : List D} (h : fineAll n l = true) (hn : n ≤ 60 := by decide) : eqB (.lst l) (.lst []) = some l.isEmpty := by
  have hf : fine (n + 1) (.lst l) = true := by simpa only [fine] using h
  obtain ⟨p, h1, h2⟩ := cmpd_fine hf (by omega)
  obtain ⟨ps, b1, _, _, b4⟩ := fine_pyAll n l h
  have e : p = .list ps := by simp only [toPy, b1] at h1; exact (Option.some.inj h1).symm
  subst e
  show (match cmpd (.lst l), cmpd (.lst []) with
    | some p, some q => some (PyData.eqv p q)
    | _, _ => none) = _
  rw [h2]
  show some (PyData.eqv (.list ps) (.list [])) = _
  cases l with
  | nil => cases ps with
    | nil => rfl
    | cons _ _ => simp at b4
  | cons _ _ => cases ps with
    | nil => simp at b4
    | cons _ _ => rfl
/-- a list beside the empty one -/
theorem gNe_nil' {n : Nat} {l : List D} {M : Mem} {Q : DQ} (h : fineAll n l = true) (q : Q (.bl (!l.isEmpty)) M) (hn : n ≤ 60 := by decide) : gNe (.lst l) (.lst []) M Q := by
  unfold gNe
  show match eqB (.lst l) (.lst []) with | some b => Q (.bl (!b)) M | none => False
  rw [eqB_nil h hn]
  exact q
theorem gNe_strs {a b : Str} {M : Mem} {Q : DQ} : gNe (.str a) (.str b) M Q = Q (.bl (!(a == b))) M := rfl
theorem gEq_strs {a b : Str} {M : Mem} {Q : DQ} : gEq (.str a) (.str b) M Q = Q (.bl (a == b)) M := rfl
/-! ### data that may be shown -/
mutual
def lit (B : Nat) : D → Bool
  | .int i => decide (i.natAbs.log2 < B)
  | .tup l => litAll B l
  | .lst l => litAll B l
  | _ => true
def litAll (B : Nat) : List D → Bool
  | [] => true
  | d :: ds => lit B d && litAll B ds
end
mutual
def wt (B : Nat) : D → Nat
  | .int _ => B + 1
  | .str x => x.cps.size
  | .tup l => wtAll B l
  | .lst l => wtAll B l
  | _ => 0
def wtAll (B : Nat) : List D → Nat
  | [] => 0
  | d :: ds => wt B d + 1 + wtAll B ds
end
theorem strOk_short {x : Str} (h : PyData.strOk x = true) : ∀ c ∈ x.cps.toList, c < 16 ^ 8 := by
  have h0 : x.cps.all (· < 0x110000) = true := h
  intro c hc
  have h1 := (Array.all_eq_true_iff_forall_mem.mp h0) c (Array.mem_toList_iff.mp hc)
  have h2 : c < 0x110000 := by simpa using h1
  have e : (16 : Nat) ^ 8 = 4294967296 := by decide
  omega
mutual
theorem lit_py (B : Nat) (hB : B ≤ 1919) : ∀ (n : Nat) (d : D) (p : PyData), fine n d = true → lit B d = true → toPy d = some p → p.showable = true ∧ p.leavesShort (B + 8) = true ∧ p.weight ≤ wt B d
  | n, .non, p, _, _, e => by cases e; exact ⟨by simp only [PyData.showable], by simp only [PyData.leavesShort], by simp only [PyData.weight]; omega⟩
  | n, .bl b, p, _, _, e => by cases e; exact ⟨by simp only [PyData.showable], by simp only [PyData.leavesShort], by simp only [PyData.weight]; omega⟩
  | n, .int i, p, _, h, e => by
    cases e
    have h' : i.natAbs.log2 < B := by simpa only [lit, decide_eq_true_eq] using h
    refine ⟨?_, ?_, ?_⟩
    · simp only [PyData.showable, decide_eq_true_eq]; omega
    · simp only [PyData.leavesShort, decide_eq_true_eq]
      show (Str.ofString (toString i)).length ≤ _
      rw [PySem.ofString_length]
      have := int_text_length_le (a := i) (k := B) (by omega) h'
      omega
    · simp only [PyData.weight, wt]
      split <;> omega
  | n, .str x, p, hf, _, e => by
    cases e
    refine ⟨by simp only [PyData.showable], ?_, by simp only [PyData.weight, wt]; omega⟩
    simp only [PyData.leavesShort, List.all_eq_true, decide_eq_true_eq]
    exact strOk_short (by simpa only [fine] using hf)
  | 0, .tup l, p, h, _, _ => by simp [fine] at h
  | 0, .lst l, p, h, _, _ => by simp [fine] at h
  | n + 1, .tup l, p, h, h2, e => by
    obtain ⟨ps, e1, _⟩ := fine_pyAll n l (by simpa only [fine] using h)
    have e' : p = .tuple ps := by simp only [toPy, e1] at e; exact (Option.some.inj e).symm
    subst e'
    obtain ⟨a, b, c⟩ := lit_pyAll B hB n l ps (by simpa only [fine] using h) (by simpa only [lit] using h2) e1
    exact ⟨by simpa only [PyData.showable] using a, by simpa only [PyData.leavesShort] using b, by simpa only [PyData.weight, wt] using c⟩
  | n + 1, .lst l, p, h, h2, e => by
    obtain ⟨ps, e1, _⟩ := fine_pyAll n l (by simpa only [fine] using h)
    have e' : p = .list ps := by simp only [toPy, e1] at e; exact (Option.some.inj e).symm
    subst e'
    obtain ⟨a, b, c⟩ := lit_pyAll B hB n l ps (by simpa only [fine] using h) (by simpa only [lit] using h2) e1
    exact ⟨by simpa only [PyData.showable] using a, by simpa only [PyData.leavesShort] using b, by simpa only [PyData.weight, wt] using c⟩
  | n, .dct0, _, h, _, _ => by simp [fine] at h
  | n, .scr _, _, h, _, _ => by simp [fine] at h
  | n, .own _, _, h, _, _ => by simp [fine] at h
  | n, .exc _ _, _, h, _, _ => by simp [fine] at h
  | n, .glb _, _, h, _, _ => by simp [fine] at h
  | n, .val _, _, h, _, _ => by simp [fine] at h
theorem lit_pyAll (B : Nat) (hB : B ≤ 1919) : ∀ (n : Nat) (ds : List D) (ps : List PyData), fineAll n ds = true → litAll B ds = true → toPyAll ds = some ps → PyData.showableAll ps = true ∧ PyData.leavesShortAll (B + 8) ps = true ∧ PyData.weightAll ps ≤ wtAll B ds
  | n, [], ps, _, _, e => by cases e; exact ⟨by simp only [PyData.showableAll], by simp only [PyData.leavesShortAll], by simp only [PyData.weightAll]; omega⟩
  | n, d :: ds, ps, h, h2, e => by
    have h' : fine n d = true ∧ fineAll n ds = true := by simpa only [fineAll, Bool.and_eq_true] using h
    have h2' : lit B d = true ∧ litAll B ds = true := by simpa only [litAll, Bool.and_eq_true] using h2
    obtain ⟨p, a1, _, _⟩ := fine_py n d h'.1
    obtain ⟨qs, b1, _, _, _⟩ := fine_pyAll n ds h'.2
    have e' : ps = p :: qs := by simp only [toPyAll, a1, b1] at e; exact (Option.some.inj e).symm
    subst e'
    obtain ⟨c1, c2, c3⟩ := lit_py B hB n d p h'.1 h2'.1 a1
    obtain ⟨d1, d2, d3⟩ := lit_pyAll B hB n ds qs h'.2 h2'.2 b1
    refine ⟨by simp only [PyData.showableAll, c1, d1, Bool.and_self], by simp only [PyData.leavesShortAll, c2, d2, Bool.and_self], ?_⟩
    simp only [PyData.weightAll, wtAll]; omega
end
/-- d's repr is covered: ints of B bits, at most -/
theorem shw_of (B n : Nat) {d : D} (h : fine n d = true) (hl : lit B d = true) (hw : (B + 10) * wt B d + B + 8 ≤ 16777216) (hB : B ≤ 1919 := by decide) (hn : n ≤ 64 := by decide) : ∃ z, shwn d = some z := by
  obtain ⟨p, e1, e2, e3⟩ := fine_py n d h
  obtain ⟨a, b, c⟩ := lit_py B hB n d p h hl e1
  have h1 := PyData.shown_le (B + 8) (by omega) p b
  have h2 : (B + 8 + 2) * p.weight ≤ (B + 10) * wt B d := Nat.mul_le_mul (by omega) c
  refine ⟨p.shown, ?_⟩
  unfold shwn
  rw [e1]
  dsimp only
  rw [if_pos ⟨a, by omega, by rw [sizeLine_eq]; omega, PyData.hasDict_of_canLay p e2⟩]
/-! ### items by a written index -/
section
variable {α : Type}
theorem atI_of (n : Nat) {l : List α} (h : n < l.length) : atI l (n : Int) = l[n]? := by
  unfold atI ixN
  rw [if_pos (by omega), if_pos (by omega)]
  rfl
theorem atI_0 {a : α} {l : List α} : atI (a :: l) 0 = some a := atI_of 0 (by simp)
theorem atI_1 {a b : α} {l : List α} : atI (a :: b :: l) 1 = some b := atI_of 1 (by simp)
theorem atI_2 {a b c : α} {l : List α} : atI (a :: b :: c :: l) 2 = some c := atI_of 2 (by simp)
theorem atI_3 {a b c d : α} {l : List α} : atI (a :: b :: c :: d :: l) 3 = some d := atI_of 3 (by simp)
theorem atI_4 {a b c d e : α} {l : List α} : atI (a :: b :: c :: d :: e :: l) 4 = some e := atI_of 4 (by simp)
theorem atI_5 {a b c d e f : α} {l : List α} : atI (a :: b :: c :: d :: e :: f :: l) 5 = some f := atI_of 5 (by simp)
theorem ixN_30 : ixN 3 0 = some 0 := by decide
theorem ixN_31 : ixN 3 1 = some 1 := by decide
theorem ixN_32 : ixN 3 2 = some 2 := by decide
end
theorem rs_lst {M : Mem} {l : List D} : res M (.lst l) = .lst l := rfl
theorem rs_tup {M : Mem} {l : List D} : res M (.tup l) = .tup l := rfl
theorem rs_scr {M : Mem} {l : List Int} : res M (.scr l) = .scr l := rfl
theorem rs_int {M : Mem} {i : Int} : res M (.int i) = .int i := rfl
theorem intsD_map : ∀ ns : List Int, intsD (ns.map D.int) = some ns
  | [] => rfl
  | n :: ns => by rw [List.map_cons]; unfold intsD; rw [intsD_map ns]
theorem cut_map (ns : List Int) (lo hi : Option Int) : ∃ xs : List Int, cutD (ns.map D.int) lo hi = xs.map D.int := by
  unfold cutD
  rw [← List.map_drop, ← List.map_take]
  exact ⟨_, rfl⟩
end DL
/-! DLD: repr of data with empty dicts -/
namespace DL
open PySem PySem.Spec PyProof.Rows L2
mutual
/-- no list within -/
def nolst : D → Bool
  | .lst _ => false
  | .own _ => false
  | .tup l => nolstA l
  | _ => true
def nolstA : List D → Bool
  | [] => true
  | d :: ds => nolst d && nolstA ds
end
section
variable {X : Cx} {pins : List (Addr × Obj)} {s : Shared} {ph : Ph} {σ : St} {H : Hp}
mutual
theorem Rep.readsZ (I : Inv X pins σ H s) : ∀ (d : D) (v : V) (u : Value) (p : PyData), Rep X.K ph H v d → RelV v u → toPy d = some p → nolst d = true → ∃ as, Reads s.heap u p as ∧ sysModules ∉ as
  | .non, _, _, _, h, rv, e, _ => by cases h; cases rv; cases e; exact ⟨_, .none, by simp⟩
  | .bl _, _, _, _, h, rv, e, _ => by cases h; cases rv; cases e; exact ⟨_, .bool _, by simp⟩
  | .int _, _, _, _, h, rv, e, _ => by cases h; obtain ⟨t, rfl⟩ := rv; cases e; exact ⟨_, .int _ _, by simp⟩
  | .str _, _, _, _, h, rv, e, _ => by cases h; obtain ⟨t, rfl⟩ := rv; cases e; exact ⟨_, .str _ _, by simp⟩
  | .tup ds, _, _, _, h, rv, e, n => by
    cases h with
    | tup h1 h2 =>
      cases rv
      simp only [toPy] at e
      split at e
      · rename_i ps ep
        cases e
        obtain ⟨its, rx, ⟨o, ho, hc, n', hd⟩, _⟩ := I.tuple (h1.sq fun _ _ z => z)
        obtain ⟨as, q, qa⟩ := RepAll.readsZ I ds _ its ps h2 rx ep (by simpa only [nolst] using n)
        exact ⟨_, .tuple ho hc hd q, qa⟩
      · cases e
  | .lst ds, _, _, _, _, _, _, n => by simp [nolst] at n
  | .dct0, _, _, _, h, rv, e, _ => by
    cases h with
    | dct0 h1 =>
      cases rv
      cases e
      obtain ⟨_, hs, vs, hk, o, es, ep, ho, hx, hd, _, he, _⟩ := I.hok _ _ h1
      cases hk
      have e0 : es = #[] := by
        cases es with
        | mk l =>
          cases l with
          | nil => rfl
          | cons x l => exact nomatch he
      subst e0
      refine ⟨_, .dict ho hx.1 hd .nil .nil, fun ha => ?_⟩
      simp at ha
      rw [← ha] at hs
      exact absurd hs (by decide)
  | .scr ns, _, _, _, _, _, e, _ => by cases e
  | .own _, _, _, _, _, _, e, _ => by cases e
  | .exc _ _, _, _, _, _, _, e, _ => by cases e
  | .glb _, _, _, _, _, _, e, _ => by cases e
  | .val _, _, _, _, _, _, e, _ => by cases e
theorem RepAll.readsZ (I : Inv X pins σ H s) : ∀ (ds : List D) (vs : List V) (us : List Value) (ps : List PyData), RepAll X.K ph H vs ds → Vals vs us → toPyAll ds = some ps → nolstA ds = true → ∃ as, ReadsAll s.heap us ps as ∧ sysModules ∉ as
  | [], _, _, _, h, rv, e, _ => by cases h; cases rv; cases e; exact ⟨_, .nil, by simp⟩
  | d :: ds, _, _, _, h, rv, e, n => by
    have n' : nolst d = true ∧ nolstA ds = true := by simpa only [nolstA, Bool.and_eq_true] using n
    cases h with
    | cons h1 h2 =>
      cases rv with
      | cons r1 r2 =>
        simp only [toPyAll] at e
        split at e
        · rename_i p ps ep eps
          cases e
          obtain ⟨as, q1, a1⟩ := Rep.readsZ I d _ _ p h1 r1 ep n'.1
          obtain ⟨bs, q2, a2⟩ := RepAll.readsZ I ds _ _ ps h2 r2 eps n'.2
          refine ⟨_, .cons q1 q2, fun ha => ?_⟩
          rcases List.mem_append.mp ha with ha | ha
          · exact a1 ha
          · exact a2 ha
        · cases e
end
end
/-- dicts may stand within -/
def okZ : D → Bool
  | .lst l => nolstA l
  | d => nolst d
def shwnZ (d : D) : Option Str := match toPy d with
  | some p => if p.showable = true ∧ p.depth ≤ 64 ∧ p.shown.length ≤ sizeLine ∧ (p.hasDict = false ∨ okZ d = true) then some p.shown else none
  | none => none
def gReprZ : GA := fun ds M Q => match ds with
  | [d] => match shwnZ (resD M d) with
    | some z => Q (.str z) M
    | none => False
  | _ => False
section
variable {X : Cx}
theorem cd_reprZ (gd : X.A.guards = some []) (hu : X.A.units + 200 < cLine) : CallD X (.builtin "repr") gReprZ := by
  intro pins s σ H ph S r M vs us ds Q I hs rv q hg
  match ds, vs, us, rv, q, hg with
  | [d], [v], [u], .cons ru .nil, .cons q .nil, hg =>
    unfold gReprZ at hg
    dsimp only at hg
    split at hg
    · rename_i z ez
      unfold shwnZ at ez
      split at ez
      · rename_i p ep
        by_cases hp : p.showable = true ∧ p.depth ≤ 64 ∧ p.shown.length ≤ sizeLine ∧ (p.hasDict = false ∨ okZ (resD M d) = true)
        · rw [if_pos hp] at ez
          cases ez
          have qd := Rep.resD hs _ _ q
          have plain : ∀ as, Reads s.heap u p as → (p.hasDict = true → sysModules ∉ as) → wpAny (model X.prog X.w) X.A (call (.builtin "repr") [u]) (fun x s' => ∃ v H', Inv X pins σ H' s' ∧ RelV v x ∧ Aft X.K ph S r σ H' fun ph' S' M' => ∃ d', Rep X.K ph' S' v d' ∧ Q d' M') X.xe s := fun as h1 hn => by
            by_cases hr : ∃ a, u = .ref a
            · obtain ⟨a, rfl⟩ := hr
              refine PySem.repr_of_reads' h1 hp.1 hn gd ?_ (fun _ _ e => e) (fun h' u tk k => ⟨.str p.shown, H, I.kept k, ⟨_, rfl⟩, Aft.here hs ⟨_, .str _, hg⟩⟩) hp.2.2.1
              have := hp.2.1; omega
            · exact shown_flat h1 (fun a e => hr ⟨a, e⟩) hp.1 hp.2.2.1 fun tk tk' => ⟨.str p.shown, H, I.tok _, ⟨_, rfl⟩, Aft.here hs ⟨_, .str _, hg⟩⟩
          rcases hp.2.2.2 with h0 | h0
          · obtain ⟨as, h1, _⟩ := Rep.reads I _ _ _ _ qd ru ep
            exact plain as h1 fun z => by rw [h0] at z; cases z
          · by_cases hl : nolst (resD M d) = true
            · obtain ⟨as, h1, h2⟩ := Rep.readsZ I _ _ _ _ qd ru ep hl
              exact plain as h1 fun _ => h2
            · generalize resD M d = dd at *
              cases dd with
              | lst l =>
                cases qd with
                | lst g1 g2 =>
                  cases ru
                  simp only [toPy] at ep
                  split at ep
                  · rename_i ps eps
                    cases ep
                    obtain ⟨its, rx, ⟨o, n, ho, hc, _, hd⟩, _⟩ := I.list (SqL.of g1)
                    obtain ⟨as, q2, qa⟩ := RepAll.readsZ I l _ its ps g2 rx eps h0
                    refine repr_listZ ho hc hd q2 (by simpa only [PyData.showable] using hp.1) qa gd ?_ hp.2.2.1 fun h' u tk k => ⟨.str _, H, I.kept k, ⟨_, rfl⟩, Aft.here hs ⟨_, .str _, hg⟩⟩
                    have := hp.2.1
                    simp only [PyData.depth] at this
                    omega
                  · cases ep
              | _ => exact absurd h0 hl
        · rw [if_neg hp] at ez; cases ez
      · cases ez
    · exact hg.elim
end
theorem shwnZ_of {d : D} {z : Str} (h : shwn d = some z) : shwnZ d = some z := by
  unfold shwn at h
  unfold shwnZ
  split at h
  · rename_i p ep
    by_cases hp : p.showable = true ∧ p.depth ≤ 64 ∧ p.shown.length ≤ sizeLine ∧ p.hasDict = false
    · rw [if_pos hp] at h
      try rw [ep]
      try dsimp only
      rw [if_pos ⟨hp.1, hp.2.1, hp.2.2.1, .inl hp.2.2.2⟩]
      exact h
    · rw [if_neg hp] at h; cases h
  · cases h
end DL
namespace DL
open PySem PySem.Spec PyProof.Rows L2
end DL
/-! XE: a dict beside an int -/
namespace L2
open PySem PySem.Spec PyProof.Rows PyProof
open PySem.SeqAt PySem.AutoSeq1 PySem.Sem
end L2
/-! DLG: an empty dict beside an int -/
namespace DL
open PySem PySem.Spec PyProof.Rows L2
end DL
namespace DL
open PySem PySem.Spec PyProof.Rows L2
end DL
/-! DLK: the module's own tuples, starred items, len(set(..)) of ints -/
namespace DL
open PySem PySem.Spec PyProof.Rows L2
/-- the module's value at a is the data d -/
def KRep (K : PySem.W.Frag) (u : Value) (d : D) : Prop := ∃ v : V, RelV v u ∧ ∀ ph S, Rep K ph S v d
theorem KRep.int {K : PySem.W.Frag} {i : Int} {t : Tok} : KRep K (.int i t) (.int i) := ⟨.int i, ⟨t, rfl⟩, fun _ _ => .int _⟩
inductive KReps (K : PySem.W.Frag) : List Value → List D → Prop
  | nil : KReps K [] []
  | cons {u : Value} {us : List Value} {d : D} {ds : List D} : KRep K u d → KReps K us ds → KReps K (u :: us) (d :: ds)
theorem KRep.all {K : PySem.W.Frag} : ∀ {us : List Value} {ds : List D}, KReps K us ds → ∃ vs, Vals vs us ∧ ∀ ph S, RepAll K ph S vs ds
  | _, _, .nil => ⟨[], .nil, fun _ _ => .nil⟩
  | _, _, .cons ⟨v, r, q⟩ t => by
    obtain ⟨vs, rs, qs⟩ := KRep.all t
    exact ⟨v :: vs, .cons r rs, fun ph S => .cons (q ph S) (qs ph S)⟩
theorem KRep.tup {K : PySem.W.Frag} {a : Addr} {dd : Option Addr} {its : Array Value} {n : Nat} {sl : Array (Option Value)} {ds : List D} (l : K.lookup a = some ⟨.type "tuple", dd, .seq its n, sl⟩)
    (h : KReps K its.toList ds) (hz : its.size ≤ 100 := by decide) : KRep K (.ref a) (.tup ds) := by
  obtain ⟨vs, rs, qs⟩ := KRep.all h
  exact ⟨.ref a, rfl, fun ph S => .tup (.inr ⟨_, its, n, l, rfl, rfl, by rw [sizeLine_eq]; omega, rs⟩) (qs ph S)⟩
section
variable {X : Cx} {pos : Pos}
/-- a global whose value is data of the module -/
theorem de_globK {x : Str} {u : Value} {d : D} (hg : Gl X x) (hm : X.mg x = some u) (h : KRep X.K u d) (hd : (x == ("__debug__" : Str)) = false := by decide) : DE X (.Name x pos) (dC d) := by
  obtain ⟨v, r, q⟩ := h
  exact de_c (pe_glob hg hm r hd) q
/-- *e among the items -/
def dStar (t : DTE) (u : DTA) : DTA := fun r M Q => t r M fun d M1 => ∃ xs, (res M1 d = .lst xs ∨ res M1 d = .tup xs) ∧ u r M1 fun ds M2 => Q (xs ++ ds) M2
theorem da_star {e : Expr} {es : List Expr} {t : DTE} {u : DTA} {p : Pos} (h : DE X e t) (h2 : DA X es u) (hs : starEach (.Starred e p :: es) X.env = (true, eval e X.env) :: starEach es X.env := by rfl) : DA X (.Starred e p :: es) (dStar t u) :=
  DA.of (StX.pa_star h.pe h2.pa hs) fun ph S r M σ H Q hs ht Q' hq => ⟨ph, S, r, M, _, hs, ht, fun v H1 ⟨ph1, S1, M1, x1, hs1, d, q1, xs, hx, g1⟩ => by
    rcases hx with hx | hx
    · obtain ⟨a, vs, rfl, c, q2⟩ := res_lst hs1 q1 hx
      exact ⟨a, vs, rfl, .inr (SqL.of c), ph1, S1, r, M1, _, hs1, g1, fun ws H2 ⟨ph2, S2, M2, x2, hs2, ds, q3, g2⟩ => hq _ _ ⟨ph2, S2, M2, x1.trans x2, hs2, _, (q2.up x2).app q3, g2⟩⟩
    · cases res_tup hx
      cases q1 with
      | tup c q2 => exact ⟨_, _, rfl, .inl (c.sq hs1.sub), ph1, S1, r, M1, _, hs1, g1, fun ws H2 ⟨ph2, S2, M2, x2, hs2, ds, q3, g2⟩ => hq _ _ ⟨ph2, S2, M2, x1.trans x2, hs2, _, (q2.up x2).app q3, g2⟩⟩⟩
/-! ### zip of two tuples -/
theorem Wlk.zipT {K : PySem.W.Frag} {ph : Ph} {S : Hp} {a b : Addr} {d1 d2 : List D} {C : Mem → Prop}
    (h1 : ∀ (ph' : Ph) (S' : Hp) (r' : Env) (M' : Mem) (σ' : L2.St) (H' : Hp), (∀ (k : Nat) (a : Addr), ph.cells[k]? = some a → ph'.cells[k]? = some a) → Same S S' → Sat K ph' S' r' M' σ' H' → C M' → ∃ xs, SqT K H' a xs ∧ RepAll K ph' S' xs d1)
    (h2 : ∀ (ph' : Ph) (S' : Hp) (r' : Env) (M' : Mem) (σ' : L2.St) (H' : Hp), (∀ (k : Nat) (a : Addr), ph.cells[k]? = some a → ph'.cells[k]? = some a) → Same S S' → Sat K ph' S' r' M' σ' H' → C M' → ∃ xs, SqT K H' b xs ∧ RepAll K ph' S' xs d2) :
    Wlk K ph S (RZ.ItzT K a b) (List.zipWith pairD d1 d2) C := fun ph' S' r M σ H e1 e2 hs hc => by
  obtain ⟨xs, q1, qa1⟩ := h1 ph' S' r M σ H e1 e2 hs hc
  obtain ⟨ys, q2, qa2⟩ := h2 ph' S' r M σ H e1 e2 hs hc
  refine ⟨fun i hi => ⟨xs, ys, q1, q2, by rw [qa1.len, qa2.len]; rw [List.length_zipWith] at hi; omega⟩, fun i d e => ?_⟩
  obtain ⟨x, y, ex, ey, rfl⟩ := zip_get e
  obtain ⟨u, eu, qu⟩ := qa1.get ex
  obtain ⟨w, ew, qw⟩ := qa2.get ey
  refine ⟨⟨xs, ys, u, w, q1, q2, eu, ew⟩, fun z H' ⟨T, u', w', ez, hT, eH, f1, f2⟩ => ?_⟩
  have e3 := f1 xs q1
  have e4 := f2 ys q2
  rw [eu] at e3; cases e3
  rw [ew] at e4; cases e4
  subst ez eH
  obtain ⟨x1, hs1⟩ := hs.frz hT (.tup [u, w])
  exact ⟨_, _, _, x1, hs1, rfl, .tup (.inl upd_same) ((RepAll.two qu qw).up x1)⟩
def gZipT (ds : List D) (M : Mem) (R : List D → (Mem → Prop) → Mem → Prop) : Prop := match ds with
  | [.tup xs, .tup ys] => R (List.zipWith pairD xs ys) (fun _ => True) M
  | _ => False
theorem di_zipT {a b : Expr} {t : DTA} {p pos tpos : Pos} {elts : List Expr} {kk : Nat} (hm : X.mg "zip" = none) (ha : DA X [a, b] t) (hg : Gl X "zip" := by rfl)
    (hs : starEach [a, b] X.env = (false, eval a X.env) :: starEach [b] X.env := by rfl) (hpl : (backTo pos (starEach [b] X.env)).any (·.1) = false := by rfl) : DI X (.Tuple elts kk tpos) (.Call (.Name "zip" p) [a, b] [] pos) (dRngI gZipT t) :=
  ⟨PI.weak (RZ.pi_zipA hg hm ha.pa hs hpl) fun σ H R ⟨ph, S, r, M, Q0, hs, ht, hq⟩ => ⟨ph, S, r, M, _, hs, ht, fun vs H1 ⟨ph1, S1, M1, x1, hs1, ds, q1, g1⟩ => by
    match ds, q1, g1 with
    | [.tup xs, .tup ys], .cons (.tup hu qx) (.cons (.tup hw qy) .nil), g =>
      exact ⟨_, _, _, _, rfl, .inr ⟨hu.sq hs1.sub, hw.sq hs1.sub, hq _ _ ⟨ph1, S1, M1, x1, hs1, _, _, Wlk.zipT (fun ph' S' r' M' σ' H' e1 e2 hs' _ => ⟨_, (hu.ext e2).sq hs'.sub, qx.ext0 e1 e2⟩) (fun ph' S' r' M' σ' H' e1 e2 hs' _ => ⟨_, (hw.ext e2).sq hs'.sub, qy.ext0 e1 e2⟩), g⟩⟩⟩⟩⟩
/-! ### len(set(xs)), ints -/
def manyOf (ns : List Int) : Nat := (PyProof.Rows.firstMet (fun i => ns.getD i 0) ns.length).length
def tLenSetG (K : PySem.W.Frag) (ta : TE) : TE := fun σ H Q => ta σ H fun x H1 => ∃ (l : Addr) (ns : List Int), x = .ref l ∧ SqL K H1 l (ns.map V.int) ∧ ns.length ≤ 4000 ∧ Q (.int (manyOf ns : Nat)) H1
theorem pe_lenSetG {a : Expr} {ta : TE} {p p2 q pos : Pos} (hg : Gl X "len") (hm : X.mg "len" = none) (hg2 : Gl X "set") (hm2 : X.mg "set" = none) (ha : PE X a ta) (hc : X.calm = true := by rfl)
    (na : starEach [a] X.env = (false, eval a X.env) :: starEach [] X.env := by rfl) : PE X (.Call (.Name "len" p) [.Call (.Name "set" p2) [a] [] q] [] pos) (tLenSetG X.K ta) := by
  refine ⟨fun pins s σ H Q I h => ?_⟩
  refine Call_ (ld_blt I hg hm boot_len ?_)
  refine PyProof.Rows.callWith_builtin1 (PyProof.Rows.args_cons ?_ rfl) rfl rfl
  refine Call_ (ld_blt I hg2 hm2 boot_set ?_)
  refine PyProof.Rows.callWith_type1 (PyProof.Rows.args_cons (thn (ha.run pins s σ H _ I h) fun v s1 ⟨x, H1, I1, r1, q1⟩ => PyProof.Rows.args_nil ?_) na) na rfl
  obtain ⟨l, ns, rfl, hq, hl, q1⟩ := q1
  cases r1
  obtain ⟨its, r, pl, hz⟩ := I1.list hq
  have hlen : its.toArray.size = ns.length := by rw [List.size_toArray, ← r.length, List.length_map]
  refine call_set_list (I1.ok.hd hc) pl.isList (by simpa using RZ.intsAre_vals r) (by rw [hlen]; unfold scanBound; omega) fun h' tk hS hk => ?_
  refine PyProof.Rows.args_nil ?_
  rw [hlen] at hS
  obtain ⟨o, es, ep, t, ho, hex, hd, _, _, _, hf, hn⟩ := hS
  have hle := PyProof.Rows.firstMet_length_le (fun i => ns.getD i 0) ns.length
  have I2 : Inv X pins σ H1 { s1 with heap := h', toks := tk } := I1.kept fun b o e => hk b o (Heap.lt_size e) e
  exact call_len_set ho hex hd hf (by rw [hn] <;> omega) ⟨.int (manyOf ns : Nat), H1, I2.tok _, ⟨_, by rw [hn]; rfl⟩, q1⟩
def gLenSet (d : D) (M : Mem) (Q : DQ) : Prop := ∃ ns : List Int, res M d = .lst (ns.map D.int) ∧ ns.length ≤ 4000 ∧ Q (.int (manyOf ns : Nat)) M
def dLenSet (t : DTE) : DTE := fun r M Q => t r M fun d M1 => gLenSet d M1 Q
theorem de_lenset {a : Expr} {t : DTE} {p p2 q pos : Pos} (hm : X.mg "len" = none) (hm2 : X.mg "set" = none) (ha : DE X a t) (hg : Gl X "len" := by rfl) (hg2 : Gl X "set" := by rfl) (hc : X.calm = true := by rfl)
    (na : starEach [a] X.env = (false, eval a X.env) :: starEach [] X.env := by rfl) : DE X (.Call (.Name "len" p) [.Call (.Name "set" p2) [a] [] q] [] pos) (dLenSet t) :=
  DE.of (pe_lenSetG hg hm hg2 hm2 ha.pe hc na) fun ph S r M σ H Q hs ht Q' hq => ⟨ph, S, r, M, _, hs, ht, fun v H1 ⟨ph1, S1, M1, x1, hs1, d, q1, ns, er, hl, g1⟩ => by
    obtain ⟨a, xs, rfl, c, q2⟩ := res_lst hs1 q1 er
    have e := RepAll.intsV q2
    subst e
    exact ⟨a, ns, rfl, SqL.of c, hl, hq _ _ ⟨ph1, S1, M1, x1, hs1, _, .int _, g1⟩⟩⟩
end
end DL
namespace DL
open PySem PySem.Spec PyProof.Rows L2
end DL
namespace DL
open PySem PySem.Spec PyProof.Rows L2
end DL
namespace DL
open PySem PySem.Spec PyProof.Rows L2
def t_l_measure_d993 : DTS :=
 (dRet (dOp gAdd (dOp (rBin CMul fun i j => i * j) (dOp gIx (dVar 0) (dC (.int 3))) (dOp gIx (dVar 0) (dC (.int 3)))) (dOp (rBin CMul fun i j => i * j) (dOp (rBin CMul fun i j => i * j) (dC (.int 4)) (dOp gIx (dVar 0) (dC (.int 1)))) (dOp gIx (dVar 0) (dC (.int 2))))))
def t_l_root_of_fba3 : DTS :=
 (dSeq (dAsg (dTup (dCons (dC (.int 0)) (dCons (dC (.int 1)) dNil))) (dGTup 2 (dGCons (dName 1) (dGCons (dName 2) dGNil))))
 (dSeq (dWhile (dTru (dOp (gCmpI fun i j => decide (i ≤ j)) (dOp (rBin CMul fun i j => i * j) (dVar 2) (dVar 2)) (dVar 0))) (dAsg (dOp (rBin CMul fun i j => i * j) (dC (.int 2)) (dVar 2)) (dName 2)))
 (dSeq (dWhile (dTru (dOp (gCmpI fun i j => decide (j < i)) (dOp (rBin (fun _ _ => True) fun i j => i - j) (dVar 2) (dVar 1)) (dC (.int 1)))) (dSeq (dAsg (dOp (rBin CDiv fun i j => i.fdiv j) (dOp gAdd (dVar 1) (dVar 2)) (dC (.int 2))) (dName 3))
 (dIfS (dTru (dOp (gCmpI fun i j => decide (i ≤ j)) (dOp (rBin CMul fun i j => i * j) (dVar 3) (dVar 3)) (dVar 0))) (dAsg (dVar 3) (dName 1)) (dAsg (dVar 3) (dName 2)))))
 (dRet (dVar 1)))))
def t_l_common_ec6e : DTS :=
 (dSeq (dPar 2 3 (dCons (dCB gMax (dCons (dVar 0) (dCons (dOp (rBin (fun _ _ => True) fun i j => i - j) (dC (.int 0)) (dVar 0)) dNil))) (dCons (dCB gMax (dCons (dVar 1) (dCons (dOp (rBin (fun _ _ => True) fun i j => i - j) (dC (.int 0)) (dVar 1)) dNil))) dNil)))
 (dSeq (dWhile (dTru (dOp (gCmpI fun i j => decide (j < i)) (dVar 3) (dC (.int 0)))) (dPar 2 3 (dCons (dVar 3) (dCons (dOp (rBin CMod fun i j => i.fmod j) (dCB gInt (dCons (dVar 2) dNil)) (dVar 3)) dNil))))
 (dRet (dVar 2))))
def t_l_made_ecf7 (c_l_root_of_fba3 : DSp) (c_l_common_ec6e : DSp) : DTS :=
 (dSeq (dAsg (dCall 1 c_l_root_of_fba3 [] DX0 (dCons (dVar 0) dNil)) (dName 4))
 (dSeq (dIfS (dTru (dOp gEq (dOp (rBin CMul fun i j => i * j) (dVar 4) (dVar 4)) (dVar 0))) (dPar 1 2 (dCons (dOp gAdd (dVar 1) (dOp (rBin CMul fun i j => i * j) (dVar 2) (dVar 4))) (dCons (dC (.int 0)) dNil))) dNext)
 (dSeq (dAsg (dCall 2 c_l_common_ec6e [] DX0 (dCons (dCall 2 c_l_common_ec6e [] DX0 (dCons (dVar 1) (dCons (dVar 2) dNil))) (dCons (dVar 3) dNil))) (dName 5))
 (dSeq (dIfS (dTru (dOp (gCmpI fun i j => decide (i < j)) (dVar 3) (dC (.int 0)))) (dAsg (dOp (rBin (fun _ _ => True) fun i j => i - j) (dC (.int 0)) (dVar 5)) (dName 5)) dNext)
 (dRet (dTup (dCons (dOp (rBin CDiv fun i j => i.fdiv j) (dVar 1) (dVar 5)) (dCons (dOp (rBin CDiv fun i j => i.fdiv j) (dVar 2) (dVar 5)) (dCons (dOp (rBin CDiv fun i j => i.fdiv j) (dVar 3) (dVar 5)) dNil)))))))))
def t_l_side_of_cf54 (c_l_made_ecf7 : DSp) (c_l_measure_d993 : DSp) : DTS :=
 (dRet (dCall 4 c_l_made_ecf7 [] DX0 (dCons (dCall 1 c_l_measure_d993 [] DX0 (dCons (dVar 0) dNil)) (dCons (dOp gIx (dVar 0) (dC (.int 3))) (dCons (dC (.int 1)) (dCons (dC (.int 2)) dNil))))))
def t_slit_by (c_root_by : DSp) (c_measure_by : DSp) : DTS :=
 (dRet (dCall 4 c_root_by [] DX0 (dCons (dCall 1 c_measure_by [] DX0 (dCons (dVar 0) dNil)) (dCons (dOp gIx (dVar 0) (dC (.int 3))) (dCons (dC (.int 1)) (dCons (dC (.int 2)) dNil))))))
def t_square_side (c_check_cutting : DSp) (c_slit_by : DSp) : DTS :=
 (dSeq (dDrop (dCall 1 c_check_cutting [] DX0 (dCons (dVar 0) dNil)))
 (dRet (dCall 1 c_slit_by [] DX0 (dCons (dVar 0) dNil))))
def t_corners_by_o (c_measure_by : DSp) (c_slit_by : DSp) (c_plus_by : DSp) : DTS :=
 (dSeq (dAsg (dVar 0) (dGTup 4 (dGCons (dName 1) (dGCons (dName 2) (dGCons (dName 3) (dGCons (dName 4) dGNil))))))
 (dSeq (dPar 5 6 (dCons (dCall 1 c_measure_by [] DX0 (dCons (dVar 0) dNil)) (dCons (dCall 1 c_slit_by [] DX0 (dCons (dVar 0) dNil)) dNil)))
 (dSeq (dPar 7 8 (dCons (dCall 3 c_plus_by [] DX0 (dCons (dVar 5) (dCons (dTup (dCons (dVar 1) (dCons (dC (.int 0)) (dCons (dC (.int 1)) dNil)))) (dCons (dVar 6) dNil)))) (dCons (dCall 3 c_plus_by [] DX0 (dCons (dVar 5) (dCons (dTup (dCons (dVar 3) (dCons (dC (.int 0)) (dCons (dC (.int 1)) dNil)))) (dCons (dVar 6) dNil)))) dNil)))
 (dSeq (dAsg (dLst (dCons (dTup (dCons (dC (.tup [.int 0, .int 0, .int 1])) (dCons (dC (.tup [.int 0, .int 0, .int 1])) dNil))) (dCons (dTup (dCons (dVar 6) (dCons (dC (.tup [.int 0, .int 0, .int 1])) dNil))) (dCons (dTup (dCons (dTup (dCons (dVar 2) (dCons (dC (.int 0)) (dCons (dC (.int 1)) dNil)))) (dCons (dC (.tup [.int 0, .int 0, .int 1])) dNil))) (dCons (dTup (dCons (dTup (dCons (dOp gAdd (dVar 1) (dVar 2)) (dCons (dC (.int 0)) (dCons (dC (.int 1)) dNil)))) (dCons (dTup (dCons (dVar 3) (dCons (dC (.int 0)) (dCons (dC (.int 1)) dNil)))) dNil))) dNil))))) (dName 9))
 (dRet (dOwn (dStar (dVar 9) (dCons (dTup (dCons (dVar 7) (dCons (dTup (dCons (dVar 3) (dCons (dC (.int 0)) (dCons (dC (.int 1)) dNil)))) dNil))) (dCons (dTup (dCons (dVar 7) (dCons (dVar 8) dNil))) (dCons (dTup (dCons (dTup (dCons (dVar 1) (dCons (dC (.int 0)) (dCons (dC (.int 1)) dNil)))) (dCons (dVar 8) dNil))) (dCons (dTup (dCons (dTup (dCons (dVar 1) (dCons (dC (.int 0)) (dCons (dC (.int 1)) dNil)))) (dCons (dTup (dCons (dVar 3) (dCons (dC (.int 0)) (dCons (dC (.int 1)) dNil)))) dNil))) dNil)))))))))))
def t_corners_o (c_check_cutting : DSp) (c_corners_by_o : DSp) : DTS :=
 (dSeq (dDrop (dCall 1 c_check_cutting [] DX0 (dCons (dVar 0) dNil)))
 (dRet (dCall 1 c_corners_by_o [] DX0 (dCons (dVar 0) dNil))))
def t_gluings_o (c_check_cutting : DSp) (c_measure_by : DSp) (c_slit_by : DSp) (c_plus_by : DSp) (c_minus_by : DSp) : DTS :=
 (dSeq (dDrop (dCall 1 c_check_cutting [] DX0 (dCons (dVar 0) dNil)))
 (dSeq (dAsg (dVar 0) (dGTup 4 (dGCons (dName 1) (dGCons (dName 2) (dGCons (dName 3) (dGCons (dName 4) dGNil))))))
 (dSeq (dPar 5 6 (dCons (dCall 1 c_measure_by [] DX0 (dCons (dVar 0) dNil)) (dCons (dCall 1 c_slit_by [] DX0 (dCons (dVar 0) dNil)) dNil)))
 (dSeq (dAsg (dTup (dCons (dTup (dCons (dVar 1) (dCons (dC (.int 0)) (dCons (dC (.int 1)) dNil)))) (dCons (dCall 3 c_plus_by [] DX0 (dCons (dVar 5) (dCons (dTup (dCons (dVar 3) (dCons (dC (.int 0)) (dCons (dC (.int 1)) dNil)))) (dCons (dVar 6) dNil)))) dNil))) (dName 7))
 (dSeq (dAsg (dLst (dCons (dTup (dCons (dC (.int 0)) (dCons (dC (.int 5)) (dCons (dVar 7) dNil)))) (dCons (dTup (dCons (dC (.int 1)) (dCons (dC (.int 3)) (dCons (dTup (dCons (dTup (dCons (dVar 1) (dCons (dC (.int 0)) (dCons (dC (.int 1)) dNil)))) (dCons (dTup (dCons (dVar 3) (dCons (dC (.int 0)) (dCons (dC (.int 1)) dNil)))) dNil))) dNil)))) dNil))) (dName 8))
 (dRet (dOwn (dStar (dVar 8) (dCons (dTup (dCons (dC (.int 2)) (dCons (dC (.int 7)) (dCons (dTup (dCons (dTup (dCons (dOp (rBin (fun _ _ => True) fun i j => i - j) (dC (.int 0)) (dVar 2)) (dCons (dC (.int 0)) (dCons (dC (.int 1)) dNil)))) (dCons (dC (.tup [.int 0, .int 0, .int 1])) dNil))) dNil)))) (dCons (dTup (dCons (dC (.int 4)) (dCons (dC (.int 6)) (dCons (dTup (dCons (dCall 3 c_minus_by [] DX0 (dCons (dVar 5) (dCons (dC (.tup [.int 0, .int 0, .int 1])) (dCons (dVar 6) dNil)))) (dCons (dC (.tup [.int 0, .int 0, .int 1])) dNil))) dNil)))) dNil))))))))))
def t_l_whole_43a8 : DTS :=
 (dRet (dTup (dCons (dVar 0) (dCons (dC (.int 0)) (dCons (dC (.int 1)) dNil)))))
def t_l_plus_46d9 (c_l_made_ecf7 : DSp) : DTS :=
 (dSeq (dAsg (dOp gAdd (dOp (rBin CMul fun i j => i * j) (dOp gIx (dVar 1) (dC (.int 0))) (dOp gIx (dVar 2) (dC (.int 2)))) (dOp (rBin CMul fun i j => i * j) (dOp (rBin CMul fun i j => i * j) (dVar 3) (dOp gIx (dVar 2) (dC (.int 0)))) (dOp gIx (dVar 1) (dC (.int 2))))) (dName 4))
 (dRet (dCall 4 c_l_made_ecf7 [] DX0 (dCons (dVar 0) (dCons (dVar 4) (dCons (dOp gAdd (dOp (rBin CMul fun i j => i * j) (dOp gIx (dVar 1) (dC (.int 1))) (dOp gIx (dVar 2) (dC (.int 2)))) (dOp (rBin CMul fun i j => i * j) (dOp (rBin CMul fun i j => i * j) (dVar 3) (dOp gIx (dVar 2) (dC (.int 1)))) (dOp gIx (dVar 1) (dC (.int 2))))) (dCons (dOp (rBin CMul fun i j => i * j) (dOp gIx (dVar 1) (dC (.int 2))) (dOp gIx (dVar 2) (dC (.int 2)))) dNil)))))))
def t_l_corners_f045 (c_l_side_of_cf54 : DSp) (c_l_measure_d993 : DSp) (c_l_whole_43a8 : DSp) (c_l_plus_46d9 : DSp) : DTS :=
 (dSeq (dAsg (dVar 0) (dGTup 4 (dGCons (dName 1) (dGCons (dName 2) (dGCons (dName 3) (dGCons (dName 4) dGNil))))))
 (dSeq (dAsg (dCall 1 c_l_side_of_cf54 [] DX0 (dCons (dVar 0) dNil)) (dName 5))
 (dSeq (dPar 6 7 (dCons (dCall 1 c_l_measure_d993 [] DX0 (dCons (dVar 0) dNil)) (dCons (dCall 1 c_l_whole_43a8 [] DX0 (dCons (dC (.int 0)) dNil)) dNil)))
 (dSeq (dPar 8 9 (dCons (dCall 4 c_l_plus_46d9 [] DX0 (dCons (dVar 6) (dCons (dCall 1 c_l_whole_43a8 [] DX0 (dCons (dVar 1) dNil)) (dCons (dVar 5) (dCons (dC (.int 1)) dNil))))) (dCons (dCall 4 c_l_plus_46d9 [] DX0 (dCons (dVar 6) (dCons (dCall 1 c_l_whole_43a8 [] DX0 (dCons (dVar 3) dNil)) (dCons (dVar 5) (dCons (dC (.int 1)) dNil))))) dNil)))
 (dSeq (dAsg (dLst (dCons (dTup (dCons (dVar 7) (dCons (dVar 7) dNil))) (dCons (dTup (dCons (dVar 5) (dCons (dVar 7) dNil))) (dCons (dTup (dCons (dCall 1 c_l_whole_43a8 [] DX0 (dCons (dVar 2) dNil)) (dCons (dVar 7) dNil))) (dCons (dTup (dCons (dCall 1 c_l_whole_43a8 [] DX0 (dCons (dOp gAdd (dVar 1) (dVar 2)) dNil)) (dCons (dCall 1 c_l_whole_43a8 [] DX0 (dCons (dVar 3) dNil)) dNil))) dNil))))) (dName 10))
 (dRet (dOp gAdd (dVar 10) (dLst (dCons (dTup (dCons (dVar 8) (dCons (dCall 1 c_l_whole_43a8 [] DX0 (dCons (dVar 3) dNil)) dNil))) (dCons (dTup (dCons (dVar 8) (dCons (dVar 9) dNil))) (dCons (dTup (dCons (dCall 1 c_l_whole_43a8 [] DX0 (dCons (dVar 1) dNil)) (dCons (dVar 9) dNil))) (dCons (dTup (dCons (dCall 1 c_l_whole_43a8 [] DX0 (dCons (dVar 1) dNil)) (dCons (dCall 1 c_l_whole_43a8 [] DX0 (dCons (dVar 3) dNil)) dNil))) dNil))))))))))))
def t_l_added_a47b (c_l_plus_46d9 : DSp) : DTS :=
 (dRet (dCB gTuple (dCons (dLc false (dRngI gZipT (dCons (dVar 1) (dCons (dVar 2) dNil))) (dGTup 2 (dGCons (dName 4) (dGCons (dName 5) dGNil))) dYes (dCall 4 c_l_plus_46d9 [] DX0 (dCons (dVar 0) (dCons (dVar 4) (dCons (dVar 5) (dCons (dVar 3) dNil))))) [4, 5]) dNil)))
def t_l_shifts_c8b1 (c_l_measure_d993 : DSp) (c_l_corners_f045 : DSp) (c_l_added_a47b : DSp) : DTS :=
 (dSeq (dPar3 1 2 3 (dCons (dCall 1 c_l_measure_d993 [] DX0 (dCons (dVar 0) dNil)) (dCons (dOwn dNil) (dCons (dCall 1 c_l_corners_f045 [] DX0 (dCons (dVar 0) dNil)) dNil))))
 (dSeq (dFor (dSeqI (dLst (dCons (dTup (dCons (dC (.int 0)) (dCons (dC (.int 5)) dNil))) (dCons (dTup (dCons (dC (.int 1)) (dCons (dC (.int 3)) dNil))) (dCons (dTup (dCons (dC (.int 2)) (dCons (dC (.int 7)) dNil))) (dCons (dTup (dCons (dC (.int 4)) (dCons (dC (.int 6)) dNil))) dNil)))))) (dGTup 2 (dGCons (dName 4) (dGCons (dName 5) dGNil))) (dSeq (dPar 6 7 (dCons (dOp gIx (dVar 3) (dVar 4)) (dCons (dOp gIx (dVar 3) (dOp (rBin CMod fun i j => i.fmod j) (dCB gInt (dCons (dOp gAdd (dVar 5) (dC (.int 1))) dNil)) (dC (.int 8)))) dNil)))
 (dDrop (dMet gAppend (dVar 2) (dCons (dTup (dCons (dVar 4) (dCons (dVar 5) (dCons (dCall 4 c_l_added_a47b [] DX0 (dCons (dVar 1) (dCons (dVar 7) (dCons (dVar 6) (dCons (dNeg (dC (.int 1))) dNil))))) dNil)))) dNil)))))
 (dRet (dFrz (dVar 2)))))
def t_l_side_28b2 : DTS :=
 (dSeq (dPar 2 3 (dCons (dOp gIx (dVar 1) (dC (.int 0))) (dCons (dOp gIx (dVar 1) (dC (.int 1))) dNil)))
 (dSeq (dIfS (dTru (dOp (gCmpI fun i j => decide (j ≤ i)) (dOp (rBin CMul fun i j => i * j) (dVar 2) (dVar 3)) (dC (.int 0)))) (dRet (dOp (rBin (fun _ _ => True) fun i j => i - j) (dCB gInt (dCons (dOp (gCmpI fun i j => decide (j < i)) (dOp gAdd (dVar 2) (dVar 3)) (dC (.int 0))) dNil)) (dCB gInt (dCons (dOp (gCmpI fun i j => decide (i < j)) (dOp gAdd (dVar 2) (dVar 3)) (dC (.int 0))) dNil)))) dNext)
 (dSeq (dAsg (dOp (rBin (fun _ _ => True) fun i j => i - j) (dOp (rBin CMul fun i j => i * j) (dVar 2) (dVar 2)) (dOp (rBin CMul fun i j => i * j) (dOp (rBin CMul fun i j => i * j) (dVar 0) (dVar 3)) (dVar 3))) (dName 4))
 (dRet (dOp (rBin CMul fun i j => i * j) (dOp (rBin (fun _ _ => True) fun i j => i - j) (dCB gInt (dCons (dOp (gCmpI fun i j => decide (j < i)) (dVar 4) (dC (.int 0))) dNil)) (dCB gInt (dCons (dOp (gCmpI fun i j => decide (i < j)) (dVar 4) (dC (.int 0))) dNil))) (dIf (dTru (dOp (gCmpI fun i j => decide (j < i)) (dVar 2) (dC (.int 0)))) (dC (.int 1)) (dNeg (dC (.int 1)))))))))
def t_l_least_bda1 (c_l_side_28b2 : DSp) (c_l_plus_46d9 : DSp) : DTS :=
 (dRet (dOp (gCmpI fun i j => decide (i < j)) (dCall 2 c_l_side_28b2 [] DX0 (dCons (dVar 0) (dCons (dCall 4 c_l_plus_46d9 [] DX0 (dCons (dVar 0) (dCons (dVar 1) (dCons (dVar 2) (dCons (dNeg (dC (.int 1))) dNil))))) dNil))) (dC (.int 0))))
def t_l_times_3146 (c_l_made_ecf7 : DSp) : DTS :=
 (dSeq (dAsg (dOp gAdd (dOp (rBin CMul fun i j => i * j) (dOp gIx (dVar 1) (dC (.int 0))) (dOp gIx (dVar 2) (dC (.int 0)))) (dOp (rBin CMul fun i j => i * j) (dOp (rBin CMul fun i j => i * j) (dVar 0) (dOp gIx (dVar 1) (dC (.int 1)))) (dOp gIx (dVar 2) (dC (.int 1))))) (dName 3))
 (dRet (dCall 4 c_l_made_ecf7 [] DX0 (dCons (dVar 0) (dCons (dVar 3) (dCons (dOp gAdd (dOp (rBin CMul fun i j => i * j) (dOp gIx (dVar 1) (dC (.int 0))) (dOp gIx (dVar 2) (dC (.int 1)))) (dOp (rBin CMul fun i j => i * j) (dOp gIx (dVar 1) (dC (.int 1))) (dOp gIx (dVar 2) (dC (.int 0))))) (dCons (dOp (rBin CMul fun i j => i * j) (dOp gIx (dVar 1) (dC (.int 2))) (dOp gIx (dVar 2) (dC (.int 2)))) dNil)))))))
def t_area_by (c_measure_by : DSp) (c_times_by : DSp) (c_root_by : DSp) (c_slit_by : DSp) : DTS :=
 (dSeq (dAsg (dCall 1 c_measure_by [] DX0 (dCons (dVar 0) dNil)) (dName 1))
 (dRet (dCall 3 c_times_by [] DX0 (dCons (dVar 1) (dCons (dCall 1 c_slit_by [] DX0 (dCons (dVar 0) dNil)) (dCons (dCall 4 c_root_by [] DX0 (dCons (dVar 1) (dCons (dC (.int 0)) (dCons (dC (.int 1)) (dCons (dC (.int 1)) dNil))))) dNil))))))
def t_area (c_check_cutting : DSp) (c_area_by : DSp) : DTS :=
 (dSeq (dDrop (dCall 1 c_check_cutting [] DX0 (dCons (dVar 0) dNil)))
 (dRet (dCall 1 c_area_by [] DX0 (dCons (dVar 0) dNil))))
def t_l_outline_area_700f (c_l_whole_43a8 : DSp) (c_l_plus_46d9 : DSp) (c_l_times_3146 : DSp) : DTS :=
 (dSeq (dAsg (dCall 1 c_l_whole_43a8 [] DX0 (dCons (dC (.int 0)) dNil)) (dName 2))
 (dSeq (dFor (dRngI gRng1 (dCons (dC (.int 8)) dNil)) (dName 3) (dSeq (dAsg (dTup (dCons (dOp gIx (dVar 1) (dVar 3)) (dCons (dOp gIx (dVar 1) (dOp (rBin CMod fun i j => i.fmod j) (dCB gInt (dCons (dOp gAdd (dVar 3) (dC (.int 1))) dNil)) (dC (.int 8)))) dNil))) (dGTup 2 (dGCons (dGTup 2 (dGCons (dName 4) (dGCons (dName 5) dGNil))) (dGCons (dGTup 2 (dGCons (dName 6) (dGCons (dName 7) dGNil))) dGNil))))
 (dAsg (dCall 4 c_l_plus_46d9 [] DX0 (dCons (dVar 0) (dCons (dVar 2) (dCons (dCall 4 c_l_plus_46d9 [] DX0 (dCons (dVar 0) (dCons (dCall 3 c_l_times_3146 [] DX0 (dCons (dVar 0) (dCons (dVar 4) (dCons (dVar 7) dNil)))) (dCons (dCall 3 c_l_times_3146 [] DX0 (dCons (dVar 0) (dCons (dVar 5) (dCons (dVar 6) dNil)))) (dCons (dNeg (dC (.int 1))) dNil))))) (dCons (dC (.int 1)) dNil))))) (dName 2))))
 (dRet (dCall 3 c_l_times_3146 [] DX0 (dCons (dVar 0) (dCons (dVar 2) (dCons (dTup (dCons (dC (.int 1)) (dCons (dC (.int 0)) (dCons (dC (.int 2)) dNil)))) dNil)))))))
def t_l_joined_ends_68e6 : DTS :=
 (dSeq (dAsg (dCB (gLRng false) (dCons (dC (.int 8)) dNil)) (dName 1))
 (dSeq (dFor (dSeqI (dVar 0)) (dGTup 3 (dGCons (dName 2) (dGCons (dName 3) (dGCons (dName 4) dGNil)))) (dFor (dSeqI (dLst (dCons (dTup (dCons (dVar 2) (dCons (dOp (rBin CMod fun i j => i.fmod j) (dCB gInt (dCons (dOp gAdd (dVar 3) (dC (.int 1))) dNil)) (dC (.int 8))) dNil))) (dCons (dTup (dCons (dOp (rBin CMod fun i j => i.fmod j) (dCB gInt (dCons (dOp gAdd (dVar 2) (dC (.int 1))) dNil)) (dC (.int 8))) (dCons (dVar 3) dNil))) dNil)))) (dGTup 2 (dGCons (dName 5) (dGCons (dName 6) dGNil))) (dSeq (dAsg (dTup (dCons (dOp gIx (dVar 1) (dVar 5)) (dCons (dOp gIx (dVar 1) (dVar 6)) dNil))) (dGTup 2 (dGCons (dName 7) (dGCons (dName 8) dGNil))))
 (dAsg (dLc false (dSeqI (dVar 1)) (dName 9) dYes (dIf (dTru (dOp gEq (dVar 9) (dVar 8))) (dVar 7) (dVar 9)) [9]) (dName 1)))))
 (dRet (dOp gEq (dLenSet (dVar 1)) (dC (.int 1))))))
def t_l_right_11de (c_l_measure_d993 : DSp) (c_l_side_of_cf54 : DSp) (c_square_side : DSp) (c_corners_o : DSp) (c_gluings_o : DSp) (c_l_corners_f045 : DSp) (c_l_shifts_c8b1 : DSp) (c_l_side_28b2 : DSp) (c_l_least_bda1 : DSp) (c_l_whole_43a8 : DSp) (c_l_times_3146 : DSp) (c_l_made_ecf7 : DSp) (c_area : DSp) (c_l_outline_area_700f : DSp) (c_l_joined_ends_68e6 : DSp) (c_l_added_a47b : DSp) : DTS :=
 (dSeq (dPar 1 2 (dCons (dCall 1 c_l_measure_d993 [] DX0 (dCons (dVar 0) dNil)) (dCons (dCall 1 c_l_side_of_cf54 [] DX0 (dCons (dVar 0) dNil)) dNil)))
 (dSeq (dPar3 3 4 5 (dCons (dCall 1 c_square_side [] DX0 (dCons (dVar 0) dNil)) (dCons (dCall 1 c_corners_o [] DX0 (dCons (dVar 0) dNil)) (dCons (dCall 1 c_gluings_o [] DX0 (dCons (dVar 0) dNil)) dNil))))
 (dSeq (dIfS (dOr (dTru (dOp gNe (dCB gReprZ (dCons (dVar 3) dNil)) (dCB gReprZ (dCons (dVar 2) dNil)))) (dOr (dTru (dOp gNe (dCB gReprZ (dCons (dVar 4) dNil)) (dCB gReprZ (dCons (dCall 1 c_l_corners_f045 [] DX0 (dCons (dVar 0) dNil)) dNil)))) (dTru (dOp gNe (dCB gReprZ (dCons (dVar 5) dNil)) (dCB gReprZ (dCons (dCall 1 c_l_shifts_c8b1 [] DX0 (dCons (dVar 0) dNil)) dNil)))))) (dRet (dC (.bl false))) dNext)
 (dSeq (dIfS (dOr (dTru (dOp gNe (dCall 2 c_l_side_28b2 [] DX0 (dCons (dVar 1) (dCons (dVar 2) dNil))) (dC (.int 1)))) (dNot (dTru (dCall 3 c_l_least_bda1 [] DX0 (dCons (dVar 1) (dCons (dVar 2) (dCons (dCall 1 c_l_whole_43a8 [] DX0 (dCons (dOp gIx (dVar 0) (dC (.int 1))) dNil)) dNil))))))) (dRet (dC (.bl false))) dNext)
 (dSeq (dAsg (dCall 3 c_l_times_3146 [] DX0 (dCons (dVar 1) (dCons (dVar 2) (dCons (dCall 4 c_l_made_ecf7 [] DX0 (dCons (dVar 1) (dCons (dC (.int 0)) (dCons (dC (.int 1)) (dCons (dC (.int 1)) dNil))))) dNil)))) (dName 6))
 (dSeq (dIfS (dOr (dTru (dOp gNe (dCB gReprZ (dCons (dCall 1 c_area [] DX0 (dCons (dVar 0) dNil)) dNil)) (dCB gReprZ (dCons (dVar 6) dNil)))) (dOr (dTru (dOp gNe (dCall 2 c_l_outline_area_700f [] DX0 (dCons (dVar 1) (dCons (dVar 4) dNil))) (dVar 6))) (dNot (dTru (dCall 1 c_l_joined_ends_68e6 [] DX0 (dCons (dVar 5) dNil)))))) (dRet (dC (.bl false))) dNext)
 (dSeq (dFor (dSeqI (dVar 5)) (dGTup 3 (dGCons (dName 7) (dGCons (dName 8) (dGCons (dName 9) dGNil)))) (dIfS (dTru (dOp gNe (dCall 4 c_l_added_a47b [] DX0 (dCons (dVar 1) (dCons (dOp gIx (dVar 4) (dOp (rBin CMod fun i j => i.fmod j) (dCB gInt (dCons (dOp gAdd (dVar 7) (dC (.int 1))) dNil)) (dC (.int 8)))) (dCons (dVar 9) (dCons (dC (.int 1)) dNil))))) (dOp gIx (dVar 4) (dVar 8)))) (dRet (dC (.bl false))) dNext))
 (dSeq (dAsg (dCB gReprZ (dCons (dLst (dCons (dVar 4) (dCons (dVar 5) dNil))) dNil)) (dName 10))
 (dSeq (dDrop (dMet gAppend (dVar 4) (dCons (dC .non) dNil)))
 (dSeq (dDrop (dMet gAppend (dVar 5) (dCons (dC .non) dNil)))
 (dRet (dAndV (dOp gEq (dCB gReprZ (dCons (dLst (dCons (dCallK 1 1 c_corners_o [0] DX0 (dCons (dVar 0) dNil)) (dCons (dCallK 1 1 c_gluings_o [0] DX0 (dCons (dVar 0) dNil)) dNil))) dNil)) (dVar 10)) (dAndV (dOp gEq (dCallK 1 1 c_area [0] DX0 (dCons (dVar 0) dNil)) (dVar 6)) (dOp gEq (dCallK 1 1 c_square_side [0] DX0 (dCons (dVar 0) dNil)) (dVar 2)))))))))))))))
def t_l_cutting_bb00 (c_l_random_7821 : DSp) (c_l_common_ec6e : DSp) : DTS :=
 (dSeq (dAsg (dOp gAdd (dC (.int 1)) (dCall 2 c_l_random_7821 [] DX0 (dCons (dVar 0) (dCons (dVar 2) dNil)))) (dName 3))
 (dSeq (dAsg (dOp (rBin (fun _ _ => True) fun i j => i - j) (dCall 2 c_l_random_7821 [] DX0 (dCons (dVar 0) (dCons (dOp gAdd (dOp (rBin CMul fun i j => i * j) (dC (.int 2)) (dVar 1)) (dC (.int 1))) dNil))) (dVar 1)) (dName 4))
 (dSeq (dAsg (dOp gAdd (dOp gAdd (dCB gMax (dCons (dOp gAdd (dVar 3) (dVar 4)) (dCons (dC (.int 0)) dNil))) (dC (.int 1))) (dCall 2 c_l_random_7821 [] DX0 (dCons (dVar 0) (dCons (dVar 1) dNil)))) (dName 5))
 (dSeq (dAsg (dCall 2 c_l_random_7821 [] DX0 (dCons (dVar 0) (dCons (dCall 2 c_l_common_ec6e [] DX0 (dCons (dVar 5) (dCons (dVar 3) dNil))) dNil))) (dName 6))
 (dSeq (dWhile (dTru (dOp gNe (dCall 2 c_l_common_ec6e [] DX0 (dCons (dCall 2 c_l_common_ec6e [] DX0 (dCons (dVar 6) (dCons (dVar 5) dNil))) (dCons (dCall 2 c_l_common_ec6e [] DX0 (dCons (dVar 3) (dCons (dVar 4) dNil))) dNil))) (dC (.int 1)))) (dAsg (dOp (rBin (fun _ _ => True) fun i j => i - j) (dVar 4) (dC (.int 1))) (dName 4)))
 (dRet (dTup (dCons (dVar 6) (dCons (dVar 5) (dCons (dVar 3) (dCons (dVar 4) dNil)))))))))))
def t_l_law_a011 (c_l_generator_b324 : DSp) (c_l_right_11de : DSp) (c_l_cutting_bb00 : DSp) (c_square_side : DSp) (c_area : DSp) (c_corners_o : DSp) : DTS :=
 (dSeq (dAsg (dCall 2 c_l_generator_b324 [] DX0 (dCons (dVar 0) (dCons (dC (.int 0)) dNil))) (dName 1))
 (dSeq (dIfS (dOr (dNot (dTru (dCall 1 c_l_right_11de [] DX0 (dCons (dCall 3 c_l_cutting_bb00 [] DX0 (dCons (dVar 1) (dCons (dC (.int 12)) (dCons (dC (.int 8)) dNil)))) dNil)))) (dNot (dTru (dCall 1 c_l_right_11de [] DX0 (dCons (dCall 3 c_l_cutting_bb00 [] DX0 (dCons (dVar 1) (dCons (dOp (rBin CPow fun i j => i ^ j.toNat) (dC (.int 10)) (dC (.int 12))) (dCons (dOp (rBin CPow fun i j => i ^ j.toNat) (dC (.int 10)) (dC (.int 6))) dNil)))) dNil))))) (dRet (dC (.bl false))) dNext)
 (dSeq (dIfS (dNot (dTru (dCall 1 c_l_right_11de [] DX0 (dCons (dCall 3 c_l_cutting_bb00 [] DX0 (dCons (dVar 1) (dCons (dOp (rBin CPow fun i j => i ^ j.toNat) (dC (.int 10)) (dC (.int 29))) (dCons (dOp (rBin CPow fun i j => i ^ j.toNat) (dC (.int 10)) (dC (.int 29))) dNil)))) dNil)))) (dRet (dC (.bl false))) dNext)
 (dSeq (dIfS (dOr (dTru (dOp gNe (dCall 1 c_square_side [] DX0 (dCons (dTup (dCons (dC (.int 0)) (dCons (dC (.int 2)) (dCons (dC (.int 1)) (dCons (dNeg (dC (.int 1))) dNil))))) dNil)) (dTup (dCons (dC (.int 1)) (dCons (dC (.int 0)) (dCons (dC (.int 1)) dNil)))))) (dTru (dOp gNe (dCall 1 c_area [] DX0 (dCons (dTup (dCons (dC (.int 0)) (dCons (dC (.int 2)) (dCons (dC (.int 1)) (dCons (dNeg (dC (.int 1))) dNil))))) dNil)) (dTup (dCons (dC (.int 3)) (dCons (dC (.int 0)) (dCons (dC (.int 1)) dNil))))))) (dRet (dC (.bl false))) dNext)
 (dRet (dAndV (dOp gEq (dSl (gSl false) (dCall 1 c_corners_o [] DX0 (dCons (dTup (dCons (dC (.int 1)) (dCons (dC (.int 2)) (dCons (dC (.int 2)) (dCons (dNeg (dC (.int 1))) dNil))))) dNil)) (dPart (dC (.int 4))) (dPart (dC (.int 6)))) (dLst (dCons (dTup (dCons (dTup (dCons (dC (.int 1)) (dCons (dC (.int 1)) (dCons (dC (.int 2)) dNil)))) (dCons (dTup (dCons (dC (.int 2)) (dCons (dC (.int 0)) (dCons (dC (.int 1)) dNil)))) dNil))) (dCons (dTup (dCons (dTup (dCons (dC (.int 1)) (dCons (dC (.int 1)) (dCons (dC (.int 2)) dNil)))) (dCons (dTup (dCons (dC (.int 3)) (dCons (dC (.int 1)) (dCons (dC (.int 2)) dNil)))) dNil))) dNil)))) (dOp gEq (dCall 1 c_area [] DX0 (dCons (dTup (dCons (dC (.int 1)) (dCons (dC (.int 2)) (dCons (dC (.int 2)) (dCons (dNeg (dC (.int 1))) dNil))))) dNil)) (dTup (dCons (dC (.int 17)) (dCons (dNeg (dC (.int 1))) (dCons (dC (.int 2)) dNil)))))))))))
end DL
namespace C_k34
open PySem PySem.Spec PyProof.Rows L2 DL
def topS (i : Nat) : Stmt := PySem.Challenge.pw_slitsheets_k34_whole_outlines.main.body.getD i (.Pass ⟨0, 0, 0, 0⟩)
abbrev s_l_cell_cf3b : Stmt := topS 28
theorem sc_l_cell_cf3b : FnScope ["_law_script", "_law_index"] ["_law_script", "_law_index"] (defScope s_l_cell_cf3b) := ⟨rfl, rfl, rfl, by decide +kernel, rfl, by decide +kernel, by decide +kernel⟩
abbrev s_l_generator_b324 : Stmt := topS 29
theorem sc_l_generator_b324 : FnScope ["_law_script", "_law_index", "_law_seed"] ["_law_script", "_law_index"] (defScope s_l_generator_b324) := ⟨rfl, rfl, rfl, by decide +kernel, rfl, by decide +kernel, by decide +kernel⟩
abbrev s_l_measure_d993 : Stmt := topS 38
theorem sc_l_measure_d993 : FnScope ["_law_cutting_here"] ["_law_cutting_here"] (defScope s_l_measure_d993) := ⟨rfl, rfl, rfl, by decide +kernel, rfl, by decide +kernel, by decide +kernel⟩
abbrev s_l_root_of_fba3 : Stmt := topS 31
theorem sc_l_root_of_fba3 : FnScope ["_law_number", "_law_low", "_law_high", "_law_middle"] ["_law_number"] (defScope s_l_root_of_fba3) := ⟨rfl, rfl, rfl, by decide +kernel, rfl, by decide +kernel, by decide +kernel⟩
abbrev s_l_common_ec6e : Stmt := topS 30
theorem sc_l_common_ec6e : FnScope ["_law_one", "_law_other", "_law_low", "_law_high"] ["_law_one", "_law_other"] (defScope s_l_common_ec6e) := ⟨rfl, rfl, rfl, by decide +kernel, rfl, by decide +kernel, by decide +kernel⟩
abbrev s_l_made_ecf7 : Stmt := topS 32
theorem sc_l_made_ecf7 : FnScope ["_law_measure_here", "_law_x", "_law_y", "_law_below", "_law_root", "_law_common_here"] ["_law_measure_here", "_law_x", "_law_y", "_law_below"] (defScope s_l_made_ecf7) := ⟨rfl, rfl, rfl, by decide +kernel, rfl, by decide +kernel, by decide +kernel⟩
abbrev s_l_side_of_cf54 : Stmt := topS 39
theorem sc_l_side_of_cf54 : FnScope ["_law_cutting_here"] ["_law_cutting_here"] (defScope s_l_side_of_cf54) := ⟨rfl, rfl, rfl, by decide +kernel, rfl, by decide +kernel, by decide +kernel⟩
abbrev s_is_whole : Stmt := topS 4
theorem sc_is_whole : FnScope ["value"] ["value"] (defScope s_is_whole) := ⟨rfl, rfl, rfl, by decide +kernel, rfl, by decide +kernel, by decide +kernel⟩
abbrev s_common_by : Stmt := topS 6
theorem sc_common_by : FnScope ["one", "other", "low", "high"] ["one", "other"] (defScope s_common_by) := ⟨rfl, rfl, rfl, by decide +kernel, rfl, by decide +kernel, by decide +kernel⟩
abbrev s_is_cutting_by : Stmt := topS 8
theorem sc_is_cutting_by : FnScope ["value", "item", "low", "high", "side", "turn", "both"] ["value"] (defScope s_is_cutting_by) := ⟨rfl, rfl, rfl, by decide +kernel, rfl, by decide +kernel, by decide +kernel⟩
abbrev s_check_cutting : Stmt := topS 9
theorem sc_check_cutting : FnScope ["cutting"] ["cutting"] (defScope s_check_cutting) := ⟨rfl, rfl, rfl, by decide +kernel, rfl, by decide +kernel, by decide +kernel⟩
abbrev s_root_floor_by : Stmt := topS 5
theorem sc_root_floor_by : FnScope ["number", "found", "again"] ["number"] (defScope s_root_floor_by) := ⟨rfl, rfl, rfl, by decide +kernel, rfl, by decide +kernel, by decide +kernel⟩
abbrev s_root_by : Stmt := topS 12
theorem sc_root_by : FnScope ["measure", "x", "y", "below", "root", "common"] ["measure", "x", "y", "below"] (defScope s_root_by) := ⟨rfl, rfl, rfl, by decide +kernel, rfl, by decide +kernel, by decide +kernel⟩
abbrev s_measure_by : Stmt := topS 10
theorem sc_measure_by : FnScope ["cutting"] ["cutting"] (defScope s_measure_by) := ⟨rfl, rfl, rfl, by decide +kernel, rfl, by decide +kernel, by decide +kernel⟩
abbrev s_slit_by : Stmt := topS 18
theorem sc_slit_by : FnScope ["cutting"] ["cutting"] (defScope s_slit_by) := ⟨rfl, rfl, rfl, by decide +kernel, rfl, by decide +kernel, by decide +kernel⟩
abbrev s_square_side : Stmt := topS 21
theorem sc_square_side : FnScope ["cutting"] ["cutting"] (defScope s_square_side) := ⟨rfl, rfl, rfl, by decide +kernel, rfl, by decide +kernel, by decide +kernel⟩
abbrev s_plus_by : Stmt := topS 13
theorem sc_plus_by : FnScope ["measure", "one", "other", "x"] ["measure", "one", "other"] (defScope s_plus_by) := ⟨rfl, rfl, rfl, by decide +kernel, rfl, by decide +kernel, by decide +kernel⟩
abbrev s_corners_by_o : Stmt := topS 19
theorem sc_corners_by_o : FnScope ["cutting", "slant", "wide", "high", "_", "measure", "slit", "right", "top", "found"] ["cutting"] (defScope s_corners_by_o) := ⟨rfl, rfl, rfl, by decide +kernel, rfl, by decide +kernel, by decide +kernel⟩
abbrev s_corners_o : Stmt := topS 22
theorem sc_corners_o : FnScope ["cutting"] ["cutting"] (defScope s_corners_o) := ⟨rfl, rfl, rfl, by decide +kernel, rfl, by decide +kernel, by decide +kernel⟩
abbrev s_minus_by : Stmt := topS 14
theorem sc_minus_by : FnScope ["measure", "one", "other"] ["measure", "one", "other"] (defScope s_minus_by) := ⟨rfl, rfl, rfl, by decide +kernel, rfl, by decide +kernel, by decide +kernel⟩
abbrev s_gluings_o : Stmt := topS 23
theorem sc_gluings_o : FnScope ["cutting", "slant", "wide", "high", "_", "measure", "side", "up", "low"] ["cutting"] (defScope s_gluings_o) := ⟨rfl, rfl, rfl, by decide +kernel, rfl, by decide +kernel, by decide +kernel⟩
abbrev s_l_whole_43a8 : Stmt := topS 37
theorem sc_l_whole_43a8 : FnScope ["_law_number"] ["_law_number"] (defScope s_l_whole_43a8) := ⟨rfl, rfl, rfl, by decide +kernel, rfl, by decide +kernel, by decide +kernel⟩
abbrev s_l_plus_46d9 : Stmt := topS 33
theorem sc_l_plus_46d9 : FnScope ["_law_measure_here", "_law_one", "_law_other", "_law_times_here", "_law_x"] ["_law_measure_here", "_law_one", "_law_other", "_law_times_here"] (defScope s_l_plus_46d9) := ⟨rfl, rfl, rfl, by decide +kernel, rfl, by decide +kernel, by decide +kernel⟩
abbrev s_l_corners_f045 : Stmt := topS 42
theorem sc_l_corners_f045 : FnScope ["_law_cutting_here", "_law_a", "_law_b", "_law_c", "_law_e", "_law_side_here", "_law_measure_here", "_law_nought", "_law_right_here", "_law_top", "_law_found"] ["_law_cutting_here"] (defScope s_l_corners_f045) := ⟨rfl, rfl, rfl, by decide +kernel, rfl, by decide +kernel, by decide +kernel⟩
abbrev s_l_added_a47b : Stmt := topS 41
theorem sc_l_added_a47b : FnScope ["_law_measure_here", "_law_one", "_law_other", "_law_times_here", "_law_low", "_law_high"] ["_law_measure_here", "_law_one", "_law_other", "_law_times_here"] (defScope s_l_added_a47b) := ⟨rfl, rfl, rfl, by decide +kernel, rfl, by decide +kernel, by decide +kernel⟩
abbrev s_l_shifts_c8b1 : Stmt := topS 43
theorem sc_l_shifts_c8b1 : FnScope ["_law_cutting_here", "_law_measure_here", "_law_found", "_law_ends", "_law_edge", "_law_other", "_law_low", "_law_high"] ["_law_cutting_here"] (defScope s_l_shifts_c8b1) := ⟨rfl, rfl, rfl, by decide +kernel, rfl, by decide +kernel, by decide +kernel⟩
abbrev s_l_side_28b2 : Stmt := topS 35
theorem sc_l_side_28b2 : FnScope ["_law_measure_here", "_law_one", "_law_x", "_law_y", "_law_whole_here"] ["_law_measure_here", "_law_one"] (defScope s_l_side_28b2) := ⟨rfl, rfl, rfl, by decide +kernel, rfl, by decide +kernel, by decide +kernel⟩
abbrev s_l_least_bda1 : Stmt := topS 36
theorem sc_l_least_bda1 : FnScope ["_law_measure_here", "_law_one", "_law_other"] ["_law_measure_here", "_law_one", "_law_other"] (defScope s_l_least_bda1) := ⟨rfl, rfl, rfl, by decide +kernel, rfl, by decide +kernel, by decide +kernel⟩
abbrev s_l_times_3146 : Stmt := topS 34
theorem sc_l_times_3146 : FnScope ["_law_measure_here", "_law_one", "_law_other", "_law_x"] ["_law_measure_here", "_law_one", "_law_other"] (defScope s_l_times_3146) := ⟨rfl, rfl, rfl, by decide +kernel, rfl, by decide +kernel, by decide +kernel⟩
abbrev s_times_by : Stmt := topS 15
theorem sc_times_by : FnScope ["measure", "one", "other", "x"] ["measure", "one", "other"] (defScope s_times_by) := ⟨rfl, rfl, rfl, by decide +kernel, rfl, by decide +kernel, by decide +kernel⟩
abbrev s_area_by : Stmt := topS 20
theorem sc_area_by : FnScope ["cutting", "measure"] ["cutting"] (defScope s_area_by) := ⟨rfl, rfl, rfl, by decide +kernel, rfl, by decide +kernel, by decide +kernel⟩
abbrev s_area : Stmt := topS 24
theorem sc_area : FnScope ["cutting"] ["cutting"] (defScope s_area) := ⟨rfl, rfl, rfl, by decide +kernel, rfl, by decide +kernel, by decide +kernel⟩
abbrev s_l_outline_area_700f : Stmt := topS 44
theorem sc_l_outline_area_700f : FnScope ["_law_measure_here", "_law_ends", "_law_total", "_law_at", "_law_x", "_law_y", "_law_z", "_law_w"] ["_law_measure_here", "_law_ends"] (defScope s_l_outline_area_700f) := ⟨rfl, rfl, rfl, by decide +kernel, rfl, by decide +kernel, by decide +kernel⟩
abbrev s_l_joined_ends_68e6 : Stmt := topS 45
theorem sc_l_joined_ends_68e6 : FnScope ["_law_told", "_law_names", "_law_edge", "_law_other", "_law_shift", "_law_low", "_law_high", "_law_one", "_law_two", "_law_name"] ["_law_told"] (defScope s_l_joined_ends_68e6) := ⟨rfl, rfl, rfl, by decide +kernel, rfl, by decide +kernel, by decide +kernel⟩
abbrev s_l_right_11de : Stmt := topS 46
theorem sc_l_right_11de : FnScope ["_law_cutting_here", "_law_measure_here", "_law_side_here", "_law_told", "_law_ends", "_law_glued", "_law_due", "_law_edge", "_law_other", "_law_shift", "_law_kept"] ["_law_cutting_here"] (defScope s_l_right_11de) := ⟨rfl, rfl, rfl, by decide +kernel, rfl, by decide +kernel, by decide +kernel⟩
abbrev s_l_hash_d8d1 : Stmt := topS 26
theorem sc_l_hash_d8d1 : FnScope ["_law_seed", "_law_index", "_law_mixed"] ["_law_seed", "_law_index"] (defScope s_l_hash_d8d1) := ⟨rfl, rfl, rfl, by decide +kernel, rfl, by decide +kernel, by decide +kernel⟩
abbrev s_l_random_7821 : Stmt := topS 27
theorem sc_l_random_7821 : FnScope ["_law_generator_here", "_law_bound", "_law_drawn", "_law_turn"] ["_law_generator_here", "_law_bound"] (defScope s_l_random_7821) := ⟨rfl, rfl, rfl, by decide +kernel, rfl, by decide +kernel, by decide +kernel⟩
abbrev s_l_cutting_bb00 : Stmt := topS 40
theorem sc_l_cutting_bb00 : FnScope ["_law_generator_here", "_law_most", "_law_high", "_law_c", "_law_e", "_law_b", "_law_a"] ["_law_generator_here", "_law_most", "_law_high"] (defScope s_l_cutting_bb00) := ⟨rfl, rfl, rfl, by decide +kernel, rfl, by decide +kernel, by decide +kernel⟩
abbrev s_l_law_a011 : Stmt := topS 47
theorem sc_l_law_a011 : FnScope ["_law_script", "_law_generator_here"] ["_law_script"] (defScope s_l_law_a011) := ⟨rfl, rfl, rfl, by decide +kernel, rfl, by decide +kernel, by decide +kernel⟩
/-- what the top has left -/
structure Txt (K : PySem.W.Frag) (mg : Str → Option Value) (base : Heap) : Prop where
  n_abs : mg "abs" = none
  n_bool : mg "bool" = none
  n_int : mg "int" = none
  n_isinstance : mg "isinstance" = none
  n_len : mg "len" = none
  n_list : mg "list" = none
  n_max : mg "max" = none
  n_range : mg "range" = none
  n_repr : mg "repr" = none
  n_set : mg "set" = none
  n_sum : mg "sum" = none
  n_tuple : mg "tuple" = none
  n_zip : mg "zip" = none
  c_NOUGHT : ∃ u, mg "NOUGHT" = some u ∧ KRep K u (.tup [.int 0, .int 0, .int 1])
  h_l_cell_cf3b : Here K mg "_law_cell" s_l_cell_cf3b ["_law_script", "_law_index"]
  h_l_generator_b324 : Here K mg "_law_generator" s_l_generator_b324 ["_law_script", "_law_index"]
  h_l_measure_d993 : Here K mg "_law_measure" s_l_measure_d993 ["_law_cutting_here"]
  h_l_root_of_fba3 : Here K mg "_law_root_of" s_l_root_of_fba3 ["_law_number"]
  h_l_common_ec6e : Here K mg "_law_common" s_l_common_ec6e ["_law_one", "_law_other"]
  h_l_made_ecf7 : Here K mg "_law_made" s_l_made_ecf7 ["_law_measure_here", "_law_x", "_law_y", "_law_below"]
  h_l_side_of_cf54 : Here K mg "_law_side_of" s_l_side_of_cf54 ["_law_cutting_here"]
  h_is_whole : Here K mg "is_whole" s_is_whole ["value"]
  h_common_by : Here K mg "common_by" s_common_by ["one", "other"]
  h_is_cutting_by : Here K mg "is_cutting_by" s_is_cutting_by ["value"]
  h_check_cutting : Here K mg "check_cutting" s_check_cutting ["cutting"]
  h_root_floor_by : Here K mg "root_floor_by" s_root_floor_by ["number"]
  h_root_by : Here K mg "root_by" s_root_by ["measure", "x", "y", "below"]
  h_measure_by : Here K mg "measure_by" s_measure_by ["cutting"]
  h_slit_by : Here K mg "slit_by" s_slit_by ["cutting"]
  h_square_side : Here K mg "square_side" s_square_side ["cutting"]
  h_plus_by : Here K mg "plus_by" s_plus_by ["measure", "one", "other"]
  h_corners_by_o : Here K mg "corners_by" s_corners_by_o ["cutting"]
  h_corners_o : Here K mg "corners" s_corners_o ["cutting"]
  h_minus_by : Here K mg "minus_by" s_minus_by ["measure", "one", "other"]
  h_gluings_o : Here K mg "gluings" s_gluings_o ["cutting"]
  h_l_whole_43a8 : Here K mg "_law_whole" s_l_whole_43a8 ["_law_number"]
  h_l_plus_46d9 : Here K mg "_law_plus" s_l_plus_46d9 ["_law_measure_here", "_law_one", "_law_other", "_law_times_here"]
  h_l_corners_f045 : Here K mg "_law_corners" s_l_corners_f045 ["_law_cutting_here"]
  h_l_added_a47b : Here K mg "_law_added" s_l_added_a47b ["_law_measure_here", "_law_one", "_law_other", "_law_times_here"]
  h_l_shifts_c8b1 : Here K mg "_law_shifts" s_l_shifts_c8b1 ["_law_cutting_here"]
  h_l_side_28b2 : Here K mg "_law_side" s_l_side_28b2 ["_law_measure_here", "_law_one"]
  h_l_least_bda1 : Here K mg "_law_least" s_l_least_bda1 ["_law_measure_here", "_law_one", "_law_other"]
  h_l_times_3146 : Here K mg "_law_times" s_l_times_3146 ["_law_measure_here", "_law_one", "_law_other"]
  h_times_by : Here K mg "times_by" s_times_by ["measure", "one", "other"]
  h_area_by : Here K mg "area_by" s_area_by ["cutting"]
  h_area : Here K mg "area" s_area ["cutting"]
  h_l_outline_area_700f : Here K mg "_law_outline_area" s_l_outline_area_700f ["_law_measure_here", "_law_ends"]
  h_l_joined_ends_68e6 : Here K mg "_law_joined_ends" s_l_joined_ends_68e6 ["_law_told"]
  h_l_right_11de : Here K mg "_law_right" s_l_right_11de ["_law_cutting_here"]
  h_l_hash_d8d1 : Here K mg "_law_hash" s_l_hash_d8d1 ["_law_seed", "_law_index"]
  h_l_random_7821 : Here K mg "_law_random" s_l_random_7821 ["_law_generator_here", "_law_bound"]
  h_l_cutting_bb00 : Here K mg "_law_cutting" s_l_cutting_bb00 ["_law_generator_here", "_law_most", "_law_high"]
  h_l_law_a011 : Here K mg "law" s_l_law_a011 ["_law_script"]
section
variable {P : Program} {w : World} {K : PySem.W.Frag} {mg : Str → Option Value} {base : Heap}
theorem ok_l_cell_cf3b {sp : DSp} (T : Txt K mg base) (hread : ∀ ds M Q, ds.length = 2 → sp ds M Q DX0 → t_l_cell_cf3b (dEnds M Q) (startD 2 ds) M) (hX : ∀ ds M Q E, sp ds M Q E → sp ds M Q DX0 := by exact fun _ _ _ _ h => h) : Def P w K mg base CX0 1 "_law_cell" s_l_cell_cf3b ["_law_script", "_law_index"] sp :=
 T.h_l_cell_cf3b.ok (t := t_l_cell_cf3b) sc_l_cell_cf3b (fun f cdv A outer s H E hr gd => (dss_cons (ds_if (dt_cmp opd_lt (dv 1) (de_blt cd_len T.n_len (da_cons (dv 0) da_nil)) (nomark _)) (dss_one (ds_ret (de_ix (dv 0) (dv 1)))) dss_nil)
 (dss_one (ds_ret (de_op opd_mod (de_blt (cd_sum rfl) T.n_sum (da_cons (de_slL false (dv 0) do_none (do_some de_int)) da_nil)) de_int))))) hread hX
theorem ok_l_generator_b324 {c_l_cell_cf3b : DSp} {sp : DSp} (T : Txt K mg base) (D_l_cell_cf3b : Def P w K mg base CX0 1 "_law_cell" s_l_cell_cf3b ["_law_script", "_law_index"] c_l_cell_cf3b) (hread : ∀ ds M Q, ds.length = 2 → sp ds M Q DX0 → t_l_generator_b324 c_l_cell_cf3b (dEnds M Q) (startD 3 ds) M) (hX : ∀ ds M Q E, sp ds M Q E → sp ds M Q DX0 := by exact fun _ _ _ _ h => h) : Def P w K mg base CX0 2 "_law_generator" s_l_generator_b324 ["_law_script", "_law_index"] sp :=
 T.h_l_generator_b324.ok (t := t_l_generator_b324 c_l_cell_cf3b) sc_l_generator_b324 (fun f cdv A outer s H E hr gd => (dss_cons (ds_set (i := 2) sc_l_generator_b324.nd (dcall D_l_cell_cf3b hr gd (da_cons (dv 0) (da_cons (dv 1) da_nil))))
 (dss_one (ds_ret (de_own (da_cons (de_op opd_mod (de_ty cd_int T.n_int (da_cons (de_blt (cd_max rfl) T.n_max (da_cons (de_op opd_sub (dv 2) (de_op opd_pow de_int de_int)) (da_cons de_int da_nil))) da_nil)) (de_op opd_pow (de_op opd_pow de_int de_int) de_int)) (da_cons (de_op opd_mod (de_ty cd_int T.n_int (da_cons (dv 2) da_nil)) de_int) (da_cons (de_op opd_mulI de_int (dv 1)) da_nil)))))))) hread hX
theorem ok_l_measure_d993 {sp : DSp} (T : Txt K mg base) (hread : ∀ ds M Q, ds.length = 1 → sp ds M Q DX0 → t_l_measure_d993 (dEnds M Q) (startD 1 ds) M) (hX : ∀ ds M Q E, sp ds M Q E → sp ds M Q DX0 := by exact fun _ _ _ _ h => h) : Def P w K mg base CX0 1 "_law_measure" s_l_measure_d993 ["_law_cutting_here"] sp :=
 T.h_l_measure_d993.ok (t := t_l_measure_d993) sc_l_measure_d993 (fun f cdv A outer s H E hr gd => (dss_one (ds_ret (de_op opd_add (de_op opd_mulI (de_ix (dv 0) de_int) (de_ix (dv 0) de_int)) (de_op opd_mulI (de_op opd_mulI de_int (de_ix (dv 0) de_int)) (de_ix (dv 0) de_int)))))) hread hX
theorem ok_l_root_of_fba3 {sp : DSp} (T : Txt K mg base) (hread : ∀ ds M Q, ds.length = 1 → sp ds M Q DX0 → t_l_root_of_fba3 (dEnds M Q) (startD 4 ds) M) (hX : ∀ ds M Q E, sp ds M Q E → sp ds M Q DX0 := by exact fun _ _ _ _ h => h) : Def P w K mg base CX0 1 "_law_root_of" s_l_root_of_fba3 ["_law_number"] sp :=
 T.h_l_root_of_fba3.ok (t := t_l_root_of_fba3) sc_l_root_of_fba3 (fun f cdv A outer s H E hr gd => (dss_cons (ds_asg (de_tup (da_cons de_int (da_cons de_int da_nil))) (dg_tup rfl (dgs_cons (dg_name (i := 1) sc_l_root_of_fba3.nd) (dgs_cons (dg_name (i := 2) sc_l_root_of_fba3.nd) dgs_nil))))
 (dss_cons (ds_while (dt_cmp opd_le (de_op opd_mulI (dv 2) (dv 2)) (dv 0) (nomark _)) (dss_one (ds_set (i := 2) sc_l_root_of_fba3.nd (de_op opd_mulI de_int (dv 2)))))
 (dss_cons (ds_while (dt_cmp opd_gt (de_op opd_sub (dv 2) (dv 1)) de_int (nomark _)) (dss_cons (ds_set (i := 3) sc_l_root_of_fba3.nd (de_op opd_fdiv (de_op opd_add (dv 1) (dv 2)) de_int))
 (dss_one (ds_if (dt_cmp opd_le (de_op opd_mulI (dv 3) (dv 3)) (dv 0) (nomark _)) (dss_one (ds_set (i := 1) sc_l_root_of_fba3.nd (dv 3))) (dss_one (ds_set (i := 2) sc_l_root_of_fba3.nd (dv 3)))))))
 (dss_one (ds_ret (dv 1))))))) hread hX
theorem ok_l_common_ec6e {sp : DSp} (T : Txt K mg base) (hread : ∀ ds M Q, ds.length = 2 → sp ds M Q DX0 → t_l_common_ec6e (dEnds M Q) (startD 4 ds) M) (hX : ∀ ds M Q E, sp ds M Q E → sp ds M Q DX0 := by exact fun _ _ _ _ h => h) : Def P w K mg base CX0 1 "_law_common" s_l_common_ec6e ["_law_one", "_law_other"] sp :=
 T.h_l_common_ec6e.ok (t := t_l_common_ec6e) sc_l_common_ec6e (fun f cdv A outer s H E hr gd => (dss_cons (ds_par (i := 2) (j := 3) rfl sc_l_common_ec6e.nd (da_cons (de_blt (cd_max rfl) T.n_max (da_cons (dv 0) (da_cons (de_op opd_sub de_int (dv 0)) da_nil))) (da_cons (de_blt (cd_max rfl) T.n_max (da_cons (dv 1) (da_cons (de_op opd_sub de_int (dv 1)) da_nil))) da_nil)))
 (dss_cons (ds_while (dt_cmp opd_gt (dv 3) de_int (nomark _)) (dss_one (ds_par (i := 2) (j := 3) rfl sc_l_common_ec6e.nd (da_cons (dv 3) (da_cons (de_op opd_mod (de_ty cd_int T.n_int (da_cons (dv 2) da_nil)) (dv 3)) da_nil)))))
 (dss_one (ds_ret (dv 2)))))) hread hX
theorem ok_l_made_ecf7 {c_l_root_of_fba3 c_l_common_ec6e : DSp} {sp : DSp} (T : Txt K mg base) (D_l_root_of_fba3 : Def P w K mg base CX0 1 "_law_root_of" s_l_root_of_fba3 ["_law_number"] c_l_root_of_fba3) (D_l_common_ec6e : Def P w K mg base CX0 1 "_law_common" s_l_common_ec6e ["_law_one", "_law_other"] c_l_common_ec6e) (hread : ∀ ds M Q, ds.length = 4 → sp ds M Q DX0 → t_l_made_ecf7 c_l_root_of_fba3 c_l_common_ec6e (dEnds M Q) (startD 6 ds) M) (hX : ∀ ds M Q E, sp ds M Q E → sp ds M Q DX0 := by exact fun _ _ _ _ h => h) : Def P w K mg base CX0 2 "_law_made" s_l_made_ecf7 ["_law_measure_here", "_law_x", "_law_y", "_law_below"] sp :=
 T.h_l_made_ecf7.ok (t := t_l_made_ecf7 c_l_root_of_fba3 c_l_common_ec6e) sc_l_made_ecf7 (fun f cdv A outer s H E hr gd => (dss_cons (ds_set (i := 4) sc_l_made_ecf7.nd (dcall D_l_root_of_fba3 hr gd (da_cons (dv 0) da_nil)))
 (dss_cons (ds_if (dt_cmp (opd_eq (u64 hr)) (de_op opd_mulI (dv 4) (dv 4)) (dv 0) (nomark _)) (dss_one (ds_par (i := 1) (j := 2) rfl sc_l_made_ecf7.nd (da_cons (de_op opd_add (dv 1) (de_op opd_mulI (dv 2) (dv 4))) (da_cons de_int da_nil)))) dss_nil)
 (dss_cons (ds_set (i := 5) sc_l_made_ecf7.nd (dcall D_l_common_ec6e hr gd (da_cons (dcall D_l_common_ec6e hr gd (da_cons (dv 1) (da_cons (dv 2) da_nil))) (da_cons (dv 3) da_nil))))
 (dss_cons (ds_if (dt_cmp opd_lt (dv 3) de_int (nomark _)) (dss_one (ds_set (i := 5) sc_l_made_ecf7.nd (de_op opd_sub de_int (dv 5)))) dss_nil)
 (dss_one (ds_ret (de_tup (da_cons (de_op opd_fdiv (dv 1) (dv 5)) (da_cons (de_op opd_fdiv (dv 2) (dv 5)) (da_cons (de_op opd_fdiv (dv 3) (dv 5)) da_nil))))))))))) hread hX
theorem ok_l_side_of_cf54 {c_l_made_ecf7 c_l_measure_d993 : DSp} {sp : DSp} (T : Txt K mg base) (D_l_made_ecf7 : Def P w K mg base CX0 2 "_law_made" s_l_made_ecf7 ["_law_measure_here", "_law_x", "_law_y", "_law_below"] c_l_made_ecf7) (D_l_measure_d993 : Def P w K mg base CX0 1 "_law_measure" s_l_measure_d993 ["_law_cutting_here"] c_l_measure_d993) (hread : ∀ ds M Q, ds.length = 1 → sp ds M Q DX0 → t_l_side_of_cf54 c_l_made_ecf7 c_l_measure_d993 (dEnds M Q) (startD 1 ds) M) (hX : ∀ ds M Q E, sp ds M Q E → sp ds M Q DX0 := by exact fun _ _ _ _ h => h) : Def P w K mg base CX0 3 "_law_side_of" s_l_side_of_cf54 ["_law_cutting_here"] sp :=
 T.h_l_side_of_cf54.ok (t := t_l_side_of_cf54 c_l_made_ecf7 c_l_measure_d993) sc_l_side_of_cf54 (fun f cdv A outer s H E hr gd => (dss_one (ds_ret (dcall D_l_made_ecf7 hr gd (da_cons (dcall D_l_measure_d993 hr gd (da_cons (dv 0) da_nil)) (da_cons (de_ix (dv 0) de_int) (da_cons de_int (da_cons de_int da_nil)))))))) hread hX
theorem ok_is_whole {sp : DSp} (T : Txt K mg base) (hread : ∀ ds M Q, ds.length = 1 → sp ds M Q DX0 → t_is_whole (dEnds M Q) (startD 1 ds) M) (hX : ∀ ds M Q E, sp ds M Q E → sp ds M Q DX0 := by exact fun _ _ _ _ h => h) : Def P w K mg base CX0 1 "is_whole" s_is_whole ["value"] sp :=
 T.h_is_whole.ok (t := t_is_whole) sc_is_whole (fun f cdv A outer s H E hr gd => (dss_one (ds_ret (de_and (de_blt cd_isi T.n_isinstance (da_cons (dv 0) (da_cons (de_bltn (v := .ty "int") T.n_int rfl) da_nil))) (de_one (de_not (de_blt cd_isi T.n_isinstance (da_cons (dv 0) (da_cons (de_bltn (v := .ty "bool") T.n_bool rfl) da_nil))))))))) hread hX
theorem ok_common_by {sp : DSp} (T : Txt K mg base) (hread : ∀ ds M Q, ds.length = 2 → sp ds M Q DX0 → t_common_by (dEnds M Q) (startD 4 ds) M) (hX : ∀ ds M Q E, sp ds M Q E → sp ds M Q DX0 := by exact fun _ _ _ _ h => h) : Def P w K mg base CX0 1 "common_by" s_common_by ["one", "other"] sp :=
 T.h_common_by.ok (t := t_common_by) sc_common_by (fun f cdv A outer s H E hr gd => (dss_cons (ds_par (i := 2) (j := 3) rfl sc_common_by.nd (da_cons (de_blt cd_abs T.n_abs (da_cons (dv 0) da_nil)) (da_cons (de_blt cd_abs T.n_abs (da_cons (dv 1) da_nil)) da_nil)))
 (dss_cons (ds_while (dt_cmp (opd_ne (u64 hr)) (dv 3) de_int (nomark _)) (dss_one (ds_par (i := 2) (j := 3) rfl sc_common_by.nd (da_cons (dv 3) (da_cons (de_op opd_mod (dv 2) (dv 3)) da_nil)))))
 (dss_one (ds_ret (dv 2)))))) hread hX
theorem ok_is_cutting_by {c_is_whole c_common_by : DSp} {sp : DSp} (T : Txt K mg base) (D_is_whole : Def P w K mg base CX0 1 "is_whole" s_is_whole ["value"] c_is_whole) (D_common_by : Def P w K mg base CX0 1 "common_by" s_common_by ["one", "other"] c_common_by) (hread : ∀ ds M Q, ds.length = 1 → sp ds M Q DX0 → t_is_cutting_by c_is_whole c_common_by (dEnds M Q) (startD 7 ds) M) (hX : ∀ ds M Q E, sp ds M Q E → sp ds M Q DX0 := by exact fun _ _ _ _ h => h) : Def P w K mg base CX0 2 "is_cutting_by" s_is_cutting_by ["value"] sp :=
 T.h_is_cutting_by.ok (t := t_is_cutting_by c_is_whole c_common_by) sc_is_cutting_by (fun f cdv A outer s H E hr gd => (dss_cons (ds_if (DW.dt (dw_or (dt_not (dt_tru (de_blt cd_isi T.n_isinstance (da_cons (dv 0) (da_cons (de_bltn (v := .ty "tuple") T.n_tuple rfl) da_nil))))) (dw_or (dt_cmp (opd_ne (u64 hr)) (de_blt cd_len T.n_len (da_cons (dv 0) da_nil)) de_int (nomark _)) (dw_or1 (dt_cmp (opd_ne (u64 hr)) (de_lc false (own := [("item", 1)]) rfl sc_is_cutting_by.nd (blkOk_by (N := ["value", "item", "low", "high", "side", "turn", "both"]) (own := [("item", 1)]) (sc := (defScope s_is_cutting_by)) (by decide +kernel)) (di_seq (dv 0)) (fun _ _ _ _ _ => (dcg_name (i := 1) sc_is_cutting_by.nd)) (fun _ _ _ _ _ => (dts_one (dt_not (dt_tru (dcall D_is_whole hr gd (da_cons (dv 1) da_nil)))))) (fun _ _ _ _ _ => (dv 1))) (de_lst da_nil) (nomark _)))))) (dss_one (ds_ret de_bl)) dss_nil)
 (dss_cons (ds_asg (dv 0) (dg_tup rfl (dgs_cons (dg_name (i := 2) sc_is_cutting_by.nd) (dgs_cons (dg_name (i := 3) sc_is_cutting_by.nd) (dgs_cons (dg_name (i := 4) sc_is_cutting_by.nd) (dgs_cons (dg_name (i := 5) sc_is_cutting_by.nd) dgs_nil))))))
 (dss_cons (ds_if (DW.dt (dw_or (dt_cmp opd_lt (dv 3) de_int (nomark _)) (dw_or (dt_cmp opd_lt (dv 4) de_int (nomark _)) (dw_or1 (dt_not (dt_cmp opd_lt (de_op opd_add (dv 4) (dv 5)) (dv 3) (nomark _))))))) (dss_one (ds_ret de_bl)) dss_nil)
 (dss_cons (ds_set (i := 6) sc_is_cutting_by.nd (dcall D_common_by hr gd (da_cons (dv 3) (da_cons (dv 4) da_nil))))
 (dss_one (ds_ret (de_and (de_chain opd_le opd_lt de_int (dv 2) (dv 6)) (de_one (de_cmp (opd_eq (u64 hr)) (dcall D_common_by hr gd (da_cons (dcall D_common_by hr gd (da_cons (dv 2) (da_cons (dv 6) da_nil))) (da_cons (dv 5) da_nil))) de_int (nomark _))))))))))) hread hX
theorem ok_check_cutting {c_is_cutting_by : DSp} {sp : DSp} (T : Txt K mg base) (D_is_cutting_by : Def P w K mg base CX0 2 "is_cutting_by" s_is_cutting_by ["value"] c_is_cutting_by) (hread : ∀ ds M Q, ds.length = 1 → sp ds M Q DX0 → t_check_cutting c_is_cutting_by (dEnds M Q) (startD 1 ds) M) (hX : ∀ ds M Q E, sp ds M Q E → sp ds M Q DX0 := by exact fun _ _ _ _ h => h) : Def P w K mg base CX0 3 "check_cutting" s_check_cutting ["cutting"] sp :=
 T.h_check_cutting.ok (t := t_check_cutting c_is_cutting_by) sc_check_cutting (fun f cdv A outer s H E hr gd => (dss_one (ds_if (dt_not (dt_tru (dcall D_is_cutting_by hr gd (da_cons (dv 0) da_nil)))) (dss_one ds_never) dss_nil))) hread hX
theorem ok_root_floor_by {sp : DSp} (T : Txt K mg base) (hread : ∀ ds M Q, ds.length = 1 → sp ds M Q DX0 → t_root_floor_by (dEnds M Q) (startD 3 ds) M) (hX : ∀ ds M Q E, sp ds M Q E → sp ds M Q DX0 := by exact fun _ _ _ _ h => h) : Def P w K mg base CX0 1 "root_floor_by" s_root_floor_by ["number"] sp :=
 T.h_root_floor_by.ok (t := t_root_floor_by) sc_root_floor_by (fun f cdv A outer s H E hr gd => (dss_cons (ds_if (dt_cmp opd_lt (dv 0) de_int (nomark _)) (dss_one (ds_ret (dv 0))) dss_nil)
 (dss_cons (ds_set (i := 1) sc_root_floor_by.nd de_int)
 (dss_cons (ds_while (dt_cmp opd_le (de_op opd_mulI (dv 1) (dv 1)) (dv 0) (nomark _)) (dss_one (ds_set (i := 1) sc_root_floor_by.nd (de_op opd_mulI de_int (dv 1)))))
 (dss_cons (ds_set (i := 2) sc_root_floor_by.nd (de_op opd_fdiv (de_op opd_add (dv 1) (de_op opd_fdiv (dv 0) (dv 1))) de_int))
 (dss_cons (ds_while (dt_cmp opd_lt (dv 2) (dv 1) (nomark _)) (dss_one (ds_par (i := 1) (j := 2) rfl sc_root_floor_by.nd (da_cons (dv 2) (da_cons (de_op opd_fdiv (de_op opd_add (dv 2) (de_op opd_fdiv (dv 0) (dv 2))) de_int) da_nil)))))
 (dss_one (ds_ret (dv 1))))))))) hread hX
theorem ok_root_by {c_root_floor_by c_common_by : DSp} {sp : DSp} (T : Txt K mg base) (D_root_floor_by : Def P w K mg base CX0 1 "root_floor_by" s_root_floor_by ["number"] c_root_floor_by) (D_common_by : Def P w K mg base CX0 1 "common_by" s_common_by ["one", "other"] c_common_by) (hread : ∀ ds M Q, ds.length = 4 → sp ds M Q DX0 → t_root_by c_root_floor_by c_common_by (dEnds M Q) (startD 6 ds) M) (hX : ∀ ds M Q E, sp ds M Q E → sp ds M Q DX0 := by exact fun _ _ _ _ h => h) : Def P w K mg base CX0 2 "root_by" s_root_by ["measure", "x", "y", "below"] sp :=
 T.h_root_by.ok (t := t_root_by c_root_floor_by c_common_by) sc_root_by (fun f cdv A outer s H E hr gd => (dss_cons (ds_set (i := 4) sc_root_by.nd (dcall D_root_floor_by hr gd (da_cons (dv 0) da_nil)))
 (dss_cons (ds_if (dt_cmp (opd_eq (u64 hr)) (de_op opd_mulI (dv 4) (dv 4)) (dv 0) (nomark _)) (dss_one (ds_par (i := 1) (j := 2) rfl sc_root_by.nd (da_cons (de_op opd_add (dv 1) (de_op opd_mulI (dv 2) (dv 4))) (da_cons de_int da_nil)))) dss_nil)
 (dss_cons (ds_set (i := 5) sc_root_by.nd (dcall D_common_by hr gd (da_cons (dcall D_common_by hr gd (da_cons (dv 1) (da_cons (dv 2) da_nil))) (da_cons (dv 3) da_nil))))
 (dss_cons (ds_if (dt_cmp opd_lt (dv 3) de_int (nomark _)) (dss_one (ds_set (i := 5) sc_root_by.nd (de_op opd_sub de_int (dv 5)))) dss_nil)
 (dss_one (ds_ret (de_tup (da_cons (de_op opd_fdiv (dv 1) (dv 5)) (da_cons (de_op opd_fdiv (dv 2) (dv 5)) (da_cons (de_op opd_fdiv (dv 3) (dv 5)) da_nil))))))))))) hread hX
theorem ok_measure_by {sp : DSp} (T : Txt K mg base) (hread : ∀ ds M Q, ds.length = 1 → sp ds M Q DX0 → t_measure_by (dEnds M Q) (startD 1 ds) M) (hX : ∀ ds M Q E, sp ds M Q E → sp ds M Q DX0 := by exact fun _ _ _ _ h => h) : Def P w K mg base CX0 1 "measure_by" s_measure_by ["cutting"] sp :=
 T.h_measure_by.ok (t := t_measure_by) sc_measure_by (fun f cdv A outer s H E hr gd => (dss_one (ds_ret (de_op opd_add (de_op opd_mulI (de_ix (dv 0) de_int) (de_ix (dv 0) de_int)) (de_op opd_mulI (de_op opd_mulI de_int (de_ix (dv 0) de_int)) (de_ix (dv 0) de_int)))))) hread hX
theorem ok_slit_by {c_root_by c_measure_by : DSp} {sp : DSp} (T : Txt K mg base) (D_root_by : Def P w K mg base CX0 2 "root_by" s_root_by ["measure", "x", "y", "below"] c_root_by) (D_measure_by : Def P w K mg base CX0 1 "measure_by" s_measure_by ["cutting"] c_measure_by) (hread : ∀ ds M Q, ds.length = 1 → sp ds M Q DX0 → t_slit_by c_root_by c_measure_by (dEnds M Q) (startD 1 ds) M) (hX : ∀ ds M Q E, sp ds M Q E → sp ds M Q DX0 := by exact fun _ _ _ _ h => h) : Def P w K mg base CX0 3 "slit_by" s_slit_by ["cutting"] sp :=
 T.h_slit_by.ok (t := t_slit_by c_root_by c_measure_by) sc_slit_by (fun f cdv A outer s H E hr gd => (dss_one (ds_ret (dcall D_root_by hr gd (da_cons (dcall D_measure_by hr gd (da_cons (dv 0) da_nil)) (da_cons (de_ix (dv 0) de_int) (da_cons de_int (da_cons de_int da_nil)))))))) hread hX
theorem ok_square_side {c_check_cutting c_slit_by : DSp} {sp : DSp} (T : Txt K mg base) (D_check_cutting : Def P w K mg base CX0 3 "check_cutting" s_check_cutting ["cutting"] c_check_cutting) (D_slit_by : Def P w K mg base CX0 3 "slit_by" s_slit_by ["cutting"] c_slit_by) (hread : ∀ ds M Q, ds.length = 1 → sp ds M Q DX0 → t_square_side c_check_cutting c_slit_by (dEnds M Q) (startD 1 ds) M) (hX : ∀ ds M Q E, sp ds M Q E → sp ds M Q DX0 := by exact fun _ _ _ _ h => h) : Def P w K mg base CX0 4 "square_side" s_square_side ["cutting"] sp :=
 T.h_square_side.ok (t := t_square_side c_check_cutting c_slit_by) sc_square_side (fun f cdv A outer s H E hr gd => (dss_cons (ds_expr (dcall D_check_cutting hr gd (da_cons (dv 0) da_nil)))
 (dss_one (ds_ret (dcall D_slit_by hr gd (da_cons (dv 0) da_nil)))))) hread hX
theorem ok_plus_by {c_root_by : DSp} {sp : DSp} (T : Txt K mg base) (D_root_by : Def P w K mg base CX0 2 "root_by" s_root_by ["measure", "x", "y", "below"] c_root_by) (hread : ∀ ds M Q, ds.length = 3 → sp ds M Q DX0 → t_plus_by c_root_by (dEnds M Q) (startD 4 ds) M) (hX : ∀ ds M Q E, sp ds M Q E → sp ds M Q DX0 := by exact fun _ _ _ _ h => h) : Def P w K mg base CX0 3 "plus_by" s_plus_by ["measure", "one", "other"] sp :=
 T.h_plus_by.ok (t := t_plus_by c_root_by) sc_plus_by (fun f cdv A outer s H E hr gd => (dss_cons (ds_set (i := 3) sc_plus_by.nd (de_op opd_add (de_op opd_mulI (de_ix (dv 1) de_int) (de_ix (dv 2) de_int)) (de_op opd_mulI (de_ix (dv 2) de_int) (de_ix (dv 1) de_int))))
 (dss_one (ds_ret (dcall D_root_by hr gd (da_cons (dv 0) (da_cons (dv 3) (da_cons (de_op opd_add (de_op opd_mulI (de_ix (dv 1) de_int) (de_ix (dv 2) de_int)) (de_op opd_mulI (de_ix (dv 2) de_int) (de_ix (dv 1) de_int))) (da_cons (de_op opd_mulI (de_ix (dv 1) de_int) (de_ix (dv 2) de_int)) da_nil))))))))) hread hX
theorem ok_corners_by_o {c_measure_by c_slit_by c_plus_by : DSp} {sp : DSp} (T : Txt K mg base) (D_measure_by : Def P w K mg base CX0 1 "measure_by" s_measure_by ["cutting"] c_measure_by) (D_slit_by : Def P w K mg base CX0 3 "slit_by" s_slit_by ["cutting"] c_slit_by) (D_plus_by : Def P w K mg base CX0 3 "plus_by" s_plus_by ["measure", "one", "other"] c_plus_by) (hread : ∀ ds M Q, ds.length = 1 → sp ds M Q DX0 → t_corners_by_o c_measure_by c_slit_by c_plus_by (dEnds M Q) (startD 10 ds) M) (hX : ∀ ds M Q E, sp ds M Q E → sp ds M Q DX0 := by exact fun _ _ _ _ h => h) : Def P w K mg base CX0 4 "corners_by" s_corners_by_o ["cutting"] sp :=
 T.h_corners_by_o.ok (t := t_corners_by_o c_measure_by c_slit_by c_plus_by) sc_corners_by_o (fun f cdv A outer s H E hr gd => (dss_cons (ds_asg (dv 0) (dg_tup rfl (dgs_cons (dg_name (i := 1) sc_corners_by_o.nd) (dgs_cons (dg_name (i := 2) sc_corners_by_o.nd) (dgs_cons (dg_name (i := 3) sc_corners_by_o.nd) (dgs_cons (dg_name (i := 4) sc_corners_by_o.nd) dgs_nil))))))
 (dss_cons (ds_par (i := 5) (j := 6) rfl sc_corners_by_o.nd (da_cons (dcall D_measure_by hr gd (da_cons (dv 0) da_nil)) (da_cons (dcall D_slit_by hr gd (da_cons (dv 0) da_nil)) da_nil)))
 (dss_cons (ds_par (i := 7) (j := 8) rfl sc_corners_by_o.nd (da_cons (dcall D_plus_by hr gd (da_cons (dv 5) (da_cons (de_tup (da_cons (dv 1) (da_cons de_int (da_cons de_int da_nil)))) (da_cons (dv 6) da_nil)))) (da_cons (dcall D_plus_by hr gd (da_cons (dv 5) (da_cons (de_tup (da_cons (dv 3) (da_cons de_int (da_cons de_int da_nil)))) (da_cons (dv 6) da_nil)))) da_nil)))
 (dss_cons (ds_set (i := 9) sc_corners_by_o.nd (de_lst (da_cons (de_tup (da_cons (let ⟨_, h, h2⟩ := T.c_NOUGHT; de_globK rfl h h2) (da_cons (let ⟨_, h, h2⟩ := T.c_NOUGHT; de_globK rfl h h2) da_nil))) (da_cons (de_tup (da_cons (dv 6) (da_cons (let ⟨_, h, h2⟩ := T.c_NOUGHT; de_globK rfl h h2) da_nil))) (da_cons (de_tup (da_cons (de_tup (da_cons (dv 2) (da_cons de_int (da_cons de_int da_nil)))) (da_cons (let ⟨_, h, h2⟩ := T.c_NOUGHT; de_globK rfl h h2) da_nil))) (da_cons (de_tup (da_cons (de_tup (da_cons (de_op opd_add (dv 1) (dv 2)) (da_cons de_int (da_cons de_int da_nil)))) (da_cons (de_tup (da_cons (dv 3) (da_cons de_int (da_cons de_int da_nil)))) da_nil))) da_nil))))))
 (dss_one (ds_ret (de_own (da_star (dv 9) (da_cons (de_tup (da_cons (dv 7) (da_cons (de_tup (da_cons (dv 3) (da_cons de_int (da_cons de_int da_nil)))) da_nil))) (da_cons (de_tup (da_cons (dv 7) (da_cons (dv 8) da_nil))) (da_cons (de_tup (da_cons (de_tup (da_cons (dv 1) (da_cons de_int (da_cons de_int da_nil)))) (da_cons (dv 8) da_nil))) (da_cons (de_tup (da_cons (de_tup (da_cons (dv 1) (da_cons de_int (da_cons de_int da_nil)))) (da_cons (de_tup (da_cons (dv 3) (da_cons de_int (da_cons de_int da_nil)))) da_nil))) da_nil))))))))))))) hread hX
theorem ok_corners_o {c_check_cutting c_corners_by_o : DSp} {sp : DSp} (T : Txt K mg base) (D_check_cutting : Def P w K mg base CX0 3 "check_cutting" s_check_cutting ["cutting"] c_check_cutting) (D_corners_by_o : Def P w K mg base CX0 4 "corners_by" s_corners_by_o ["cutting"] c_corners_by_o) (hread : ∀ ds M Q, ds.length = 1 → sp ds M Q DX0 → t_corners_o c_check_cutting c_corners_by_o (dEnds M Q) (startD 1 ds) M) (hX : ∀ ds M Q E, sp ds M Q E → sp ds M Q DX0 := by exact fun _ _ _ _ h => h) : Def P w K mg base CX0 5 "corners" s_corners_o ["cutting"] sp :=
 T.h_corners_o.ok (t := t_corners_o c_check_cutting c_corners_by_o) sc_corners_o (fun f cdv A outer s H E hr gd => (dss_cons (ds_expr (dcall D_check_cutting hr gd (da_cons (dv 0) da_nil)))
 (dss_one (ds_ret (dcall D_corners_by_o hr gd (da_cons (dv 0) da_nil)))))) hread hX
theorem ok_minus_by {c_plus_by : DSp} {sp : DSp} (T : Txt K mg base) (D_plus_by : Def P w K mg base CX0 3 "plus_by" s_plus_by ["measure", "one", "other"] c_plus_by) (hread : ∀ ds M Q, ds.length = 3 → sp ds M Q DX0 → t_minus_by c_plus_by (dEnds M Q) (startD 3 ds) M) (hX : ∀ ds M Q E, sp ds M Q E → sp ds M Q DX0 := by exact fun _ _ _ _ h => h) : Def P w K mg base CX0 4 "minus_by" s_minus_by ["measure", "one", "other"] sp :=
 T.h_minus_by.ok (t := t_minus_by c_plus_by) sc_minus_by (fun f cdv A outer s H E hr gd => (dss_one (ds_ret (dcall D_plus_by hr gd (da_cons (dv 0) (da_cons (dv 1) (da_cons (de_tup (da_cons (de_op opd_sub de_int (de_ix (dv 2) de_int)) (da_cons (de_op opd_sub de_int (de_ix (dv 2) de_int)) (da_cons (de_ix (dv 2) de_int) da_nil)))) da_nil))))))) hread hX
theorem ok_gluings_o {c_check_cutting c_measure_by c_slit_by c_plus_by c_minus_by : DSp} {sp : DSp} (T : Txt K mg base) (D_check_cutting : Def P w K mg base CX0 3 "check_cutting" s_check_cutting ["cutting"] c_check_cutting) (D_measure_by : Def P w K mg base CX0 1 "measure_by" s_measure_by ["cutting"] c_measure_by) (D_slit_by : Def P w K mg base CX0 3 "slit_by" s_slit_by ["cutting"] c_slit_by) (D_plus_by : Def P w K mg base CX0 3 "plus_by" s_plus_by ["measure", "one", "other"] c_plus_by) (D_minus_by : Def P w K mg base CX0 4 "minus_by" s_minus_by ["measure", "one", "other"] c_minus_by) (hread : ∀ ds M Q, ds.length = 1 → sp ds M Q DX0 → t_gluings_o c_check_cutting c_measure_by c_slit_by c_plus_by c_minus_by (dEnds M Q) (startD 9 ds) M) (hX : ∀ ds M Q E, sp ds M Q E → sp ds M Q DX0 := by exact fun _ _ _ _ h => h) : Def P w K mg base CX0 5 "gluings" s_gluings_o ["cutting"] sp :=
 T.h_gluings_o.ok (t := t_gluings_o c_check_cutting c_measure_by c_slit_by c_plus_by c_minus_by) sc_gluings_o (fun f cdv A outer s H E hr gd => (dss_cons (ds_expr (dcall D_check_cutting hr gd (da_cons (dv 0) da_nil)))
 (dss_cons (ds_asg (dv 0) (dg_tup rfl (dgs_cons (dg_name (i := 1) sc_gluings_o.nd) (dgs_cons (dg_name (i := 2) sc_gluings_o.nd) (dgs_cons (dg_name (i := 3) sc_gluings_o.nd) (dgs_cons (dg_name (i := 4) sc_gluings_o.nd) dgs_nil))))))
 (dss_cons (ds_par (i := 5) (j := 6) rfl sc_gluings_o.nd (da_cons (dcall D_measure_by hr gd (da_cons (dv 0) da_nil)) (da_cons (dcall D_slit_by hr gd (da_cons (dv 0) da_nil)) da_nil)))
 (dss_cons (ds_set (i := 7) sc_gluings_o.nd (de_tup (da_cons (de_tup (da_cons (dv 1) (da_cons de_int (da_cons de_int da_nil)))) (da_cons (dcall D_plus_by hr gd (da_cons (dv 5) (da_cons (de_tup (da_cons (dv 3) (da_cons de_int (da_cons de_int da_nil)))) (da_cons (dv 6) da_nil)))) da_nil))))
 (dss_cons (ds_set (i := 8) sc_gluings_o.nd (de_lst (da_cons (de_tup (da_cons de_int (da_cons de_int (da_cons (dv 7) da_nil)))) (da_cons (de_tup (da_cons de_int (da_cons de_int (da_cons (de_tup (da_cons (de_tup (da_cons (dv 1) (da_cons de_int (da_cons de_int da_nil)))) (da_cons (de_tup (da_cons (dv 3) (da_cons de_int (da_cons de_int da_nil)))) da_nil))) da_nil)))) da_nil))))
 (dss_one (ds_ret (de_own (da_star (dv 8) (da_cons (de_tup (da_cons de_int (da_cons de_int (da_cons (de_tup (da_cons (de_tup (da_cons (de_op opd_sub de_int (dv 2)) (da_cons de_int (da_cons de_int da_nil)))) (da_cons (let ⟨_, h, h2⟩ := T.c_NOUGHT; de_globK rfl h h2) da_nil))) da_nil)))) (da_cons (de_tup (da_cons de_int (da_cons de_int (da_cons (de_tup (da_cons (dcall D_minus_by hr gd (da_cons (dv 5) (da_cons (let ⟨_, h, h2⟩ := T.c_NOUGHT; de_globK rfl h h2) (da_cons (dv 6) da_nil)))) (da_cons (let ⟨_, h, h2⟩ := T.c_NOUGHT; de_globK rfl h h2) da_nil))) da_nil)))) da_nil)))))))))))) hread hX
theorem ok_l_whole_43a8 {sp : DSp} (T : Txt K mg base) (hread : ∀ ds M Q, ds.length = 1 → sp ds M Q DX0 → t_l_whole_43a8 (dEnds M Q) (startD 1 ds) M) (hX : ∀ ds M Q E, sp ds M Q E → sp ds M Q DX0 := by exact fun _ _ _ _ h => h) : Def P w K mg base CX0 1 "_law_whole" s_l_whole_43a8 ["_law_number"] sp :=
 T.h_l_whole_43a8.ok (t := t_l_whole_43a8) sc_l_whole_43a8 (fun f cdv A outer s H E hr gd => (dss_one (ds_ret (de_tup (da_cons (dv 0) (da_cons de_int (da_cons de_int da_nil))))))) hread hX
theorem ok_l_plus_46d9 {c_l_made_ecf7 : DSp} {sp : DSp} (T : Txt K mg base) (D_l_made_ecf7 : Def P w K mg base CX0 2 "_law_made" s_l_made_ecf7 ["_law_measure_here", "_law_x", "_law_y", "_law_below"] c_l_made_ecf7) (hread : ∀ ds M Q, ds.length = 4 → sp ds M Q DX0 → t_l_plus_46d9 c_l_made_ecf7 (dEnds M Q) (startD 5 ds) M) (hX : ∀ ds M Q E, sp ds M Q E → sp ds M Q DX0 := by exact fun _ _ _ _ h => h) : Def P w K mg base CX0 3 "_law_plus" s_l_plus_46d9 ["_law_measure_here", "_law_one", "_law_other", "_law_times_here"] sp :=
 T.h_l_plus_46d9.ok (t := t_l_plus_46d9 c_l_made_ecf7) sc_l_plus_46d9 (fun f cdv A outer s H E hr gd => (dss_cons (ds_set (i := 4) sc_l_plus_46d9.nd (de_op opd_add (de_op opd_mulI (de_ix (dv 1) de_int) (de_ix (dv 2) de_int)) (de_op opd_mulI (de_op opd_mulI (dv 3) (de_ix (dv 2) de_int)) (de_ix (dv 1) de_int))))
 (dss_one (ds_ret (dcall D_l_made_ecf7 hr gd (da_cons (dv 0) (da_cons (dv 4) (da_cons (de_op opd_add (de_op opd_mulI (de_ix (dv 1) de_int) (de_ix (dv 2) de_int)) (de_op opd_mulI (de_op opd_mulI (dv 3) (de_ix (dv 2) de_int)) (de_ix (dv 1) de_int))) (da_cons (de_op opd_mulI (de_ix (dv 1) de_int) (de_ix (dv 2) de_int)) da_nil))))))))) hread hX
theorem ok_l_corners_f045 {c_l_side_of_cf54 c_l_measure_d993 c_l_whole_43a8 c_l_plus_46d9 : DSp} {sp : DSp} (T : Txt K mg base) (D_l_side_of_cf54 : Def P w K mg base CX0 3 "_law_side_of" s_l_side_of_cf54 ["_law_cutting_here"] c_l_side_of_cf54) (D_l_measure_d993 : Def P w K mg base CX0 1 "_law_measure" s_l_measure_d993 ["_law_cutting_here"] c_l_measure_d993) (D_l_whole_43a8 : Def P w K mg base CX0 1 "_law_whole" s_l_whole_43a8 ["_law_number"] c_l_whole_43a8) (D_l_plus_46d9 : Def P w K mg base CX0 3 "_law_plus" s_l_plus_46d9 ["_law_measure_here", "_law_one", "_law_other", "_law_times_here"] c_l_plus_46d9) (hread : ∀ ds M Q, ds.length = 1 → sp ds M Q DX0 → t_l_corners_f045 c_l_side_of_cf54 c_l_measure_d993 c_l_whole_43a8 c_l_plus_46d9 (dEnds M Q) (startD 11 ds) M) (hX : ∀ ds M Q E, sp ds M Q E → sp ds M Q DX0 := by exact fun _ _ _ _ h => h) : Def P w K mg base CX0 4 "_law_corners" s_l_corners_f045 ["_law_cutting_here"] sp :=
 T.h_l_corners_f045.ok (t := t_l_corners_f045 c_l_side_of_cf54 c_l_measure_d993 c_l_whole_43a8 c_l_plus_46d9) sc_l_corners_f045 (fun f cdv A outer s H E hr gd => (dss_cons (ds_asg (dv 0) (dg_tup rfl (dgs_cons (dg_name (i := 1) sc_l_corners_f045.nd) (dgs_cons (dg_name (i := 2) sc_l_corners_f045.nd) (dgs_cons (dg_name (i := 3) sc_l_corners_f045.nd) (dgs_cons (dg_name (i := 4) sc_l_corners_f045.nd) dgs_nil))))))
 (dss_cons (ds_set (i := 5) sc_l_corners_f045.nd (dcall D_l_side_of_cf54 hr gd (da_cons (dv 0) da_nil)))
 (dss_cons (ds_par (i := 6) (j := 7) rfl sc_l_corners_f045.nd (da_cons (dcall D_l_measure_d993 hr gd (da_cons (dv 0) da_nil)) (da_cons (dcall D_l_whole_43a8 hr gd (da_cons de_int da_nil)) da_nil)))
 (dss_cons (ds_par (i := 8) (j := 9) rfl sc_l_corners_f045.nd (da_cons (dcall D_l_plus_46d9 hr gd (da_cons (dv 6) (da_cons (dcall D_l_whole_43a8 hr gd (da_cons (dv 1) da_nil)) (da_cons (dv 5) (da_cons de_int da_nil))))) (da_cons (dcall D_l_plus_46d9 hr gd (da_cons (dv 6) (da_cons (dcall D_l_whole_43a8 hr gd (da_cons (dv 3) da_nil)) (da_cons (dv 5) (da_cons de_int da_nil))))) da_nil)))
 (dss_cons (ds_set (i := 10) sc_l_corners_f045.nd (de_lst (da_cons (de_tup (da_cons (dv 7) (da_cons (dv 7) da_nil))) (da_cons (de_tup (da_cons (dv 5) (da_cons (dv 7) da_nil))) (da_cons (de_tup (da_cons (dcall D_l_whole_43a8 hr gd (da_cons (dv 2) da_nil)) (da_cons (dv 7) da_nil))) (da_cons (de_tup (da_cons (dcall D_l_whole_43a8 hr gd (da_cons (de_op opd_add (dv 1) (dv 2)) da_nil)) (da_cons (dcall D_l_whole_43a8 hr gd (da_cons (dv 3) da_nil)) da_nil))) da_nil))))))
 (dss_one (ds_ret (de_op opd_add (dv 10) (de_lst (da_cons (de_tup (da_cons (dv 8) (da_cons (dcall D_l_whole_43a8 hr gd (da_cons (dv 3) da_nil)) da_nil))) (da_cons (de_tup (da_cons (dv 8) (da_cons (dv 9) da_nil))) (da_cons (de_tup (da_cons (dcall D_l_whole_43a8 hr gd (da_cons (dv 1) da_nil)) (da_cons (dv 9) da_nil))) (da_cons (de_tup (da_cons (dcall D_l_whole_43a8 hr gd (da_cons (dv 1) da_nil)) (da_cons (dcall D_l_whole_43a8 hr gd (da_cons (dv 3) da_nil)) da_nil))) da_nil)))))))))))))) hread hX
theorem ok_l_added_a47b {c_l_plus_46d9 : DSp} {sp : DSp} (T : Txt K mg base) (D_l_plus_46d9 : Def P w K mg base CX0 3 "_law_plus" s_l_plus_46d9 ["_law_measure_here", "_law_one", "_law_other", "_law_times_here"] c_l_plus_46d9) (hread : ∀ ds M Q, ds.length = 4 → sp ds M Q DX0 → t_l_added_a47b c_l_plus_46d9 (dEnds M Q) (startD 6 ds) M) (hX : ∀ ds M Q E, sp ds M Q E → sp ds M Q DX0 := by exact fun _ _ _ _ h => h) : Def P w K mg base CX0 4 "_law_added" s_l_added_a47b ["_law_measure_here", "_law_one", "_law_other", "_law_times_here"] sp :=
 T.h_l_added_a47b.ok (t := t_l_added_a47b c_l_plus_46d9) sc_l_added_a47b (fun f cdv A outer s H E hr gd => (dss_one (ds_ret (de_ty cd_tuple T.n_tuple (da_cons (de_lc false (own := [("_law_low", 4), ("_law_high", 5)]) rfl sc_l_added_a47b.nd (blkOk_by (N := ["_law_measure_here", "_law_one", "_law_other", "_law_times_here", "_law_low", "_law_high"]) (own := [("_law_low", 4), ("_law_high", 5)]) (sc := (defScope s_l_added_a47b)) (by decide +kernel)) (di_zipT T.n_zip (da_cons (dv 1) (da_cons (dv 2) da_nil))) (fun _ _ _ _ _ => (dcg_tup rfl (dcgs_cons (dcg_name (i := 4) sc_l_added_a47b.nd) (dcgs_cons (dcg_name (i := 5) sc_l_added_a47b.nd) dcgs_nil)))) (fun _ _ _ _ _ => dts_nil) (fun _ _ _ _ _ => (dcall D_l_plus_46d9 hr gd (da_cons (dv 0) (da_cons (dv 4) (da_cons (dv 5) (da_cons (dv 3) da_nil))))))) da_nil))))) hread hX
theorem ok_l_shifts_c8b1 {c_l_measure_d993 c_l_corners_f045 c_l_added_a47b : DSp} {sp : DSp} (T : Txt K mg base) (D_l_measure_d993 : Def P w K mg base CX0 1 "_law_measure" s_l_measure_d993 ["_law_cutting_here"] c_l_measure_d993) (D_l_corners_f045 : Def P w K mg base CX0 4 "_law_corners" s_l_corners_f045 ["_law_cutting_here"] c_l_corners_f045) (D_l_added_a47b : Def P w K mg base CX0 4 "_law_added" s_l_added_a47b ["_law_measure_here", "_law_one", "_law_other", "_law_times_here"] c_l_added_a47b) (hread : ∀ ds M Q, ds.length = 1 → sp ds M Q DX0 → t_l_shifts_c8b1 c_l_measure_d993 c_l_corners_f045 c_l_added_a47b (dEnds M Q) (startD 8 ds) M) (hX : ∀ ds M Q E, sp ds M Q E → sp ds M Q DX0 := by exact fun _ _ _ _ h => h) : Def P w K mg base CX0 5 "_law_shifts" s_l_shifts_c8b1 ["_law_cutting_here"] sp :=
 T.h_l_shifts_c8b1.ok (t := t_l_shifts_c8b1 c_l_measure_d993 c_l_corners_f045 c_l_added_a47b) sc_l_shifts_c8b1 (fun f cdv A outer s H E hr gd => (dss_cons (ds_par3 (i := 1) (j := 2) (l := 3) rfl sc_l_shifts_c8b1.nd (da_cons (dcall D_l_measure_d993 hr gd (da_cons (dv 0) da_nil)) (da_cons (de_own da_nil) (da_cons (dcall D_l_corners_f045 hr gd (da_cons (dv 0) da_nil)) da_nil))))
 (dss_cons (ds_for rfl (di_seq (de_lst (da_cons (de_tup (da_cons de_int (da_cons de_int da_nil))) (da_cons (de_tup (da_cons de_int (da_cons de_int da_nil))) (da_cons (de_tup (da_cons de_int (da_cons de_int da_nil))) (da_cons (de_tup (da_cons de_int (da_cons de_int da_nil))) da_nil)))))) (dg_tup rfl (dgs_cons (dg_name (i := 4) sc_l_shifts_c8b1.nd) (dgs_cons (dg_name (i := 5) sc_l_shifts_c8b1.nd) dgs_nil))) (dss_cons (ds_par (i := 6) (j := 7) rfl sc_l_shifts_c8b1.nd (da_cons (de_ix (dv 3) (dv 4)) (da_cons (de_ix (dv 3) (de_op opd_mod (de_ty cd_int T.n_int (da_cons (de_op opd_add (dv 5) de_int) da_nil)) de_int)) da_nil)))
 (dss_one (ds_expr (de_append (dv 2) (da_cons (de_tup (da_cons (dv 4) (da_cons (dv 5) (da_cons (dcall D_l_added_a47b hr gd (da_cons (dv 1) (da_cons (dv 7) (da_cons (dv 6) (da_cons (de_neg de_int) da_nil))))) da_nil)))) da_nil))))))
 (dss_one (ds_ret (de_frz (dv 2))))))) hread hX
theorem ok_l_side_28b2 {sp : DSp} (T : Txt K mg base) (hread : ∀ ds M Q, ds.length = 2 → sp ds M Q DX0 → t_l_side_28b2 (dEnds M Q) (startD 5 ds) M) (hX : ∀ ds M Q E, sp ds M Q E → sp ds M Q DX0 := by exact fun _ _ _ _ h => h) : Def P w K mg base CX0 1 "_law_side" s_l_side_28b2 ["_law_measure_here", "_law_one"] sp :=
 T.h_l_side_28b2.ok (t := t_l_side_28b2) sc_l_side_28b2 (fun f cdv A outer s H E hr gd => (dss_cons (ds_par (i := 2) (j := 3) rfl sc_l_side_28b2.nd (da_cons (de_ix (dv 1) de_int) (da_cons (de_ix (dv 1) de_int) da_nil)))
 (dss_cons (ds_if (dt_cmp opd_ge (de_op opd_mulI (dv 2) (dv 3)) de_int (nomark _)) (dss_one (ds_ret (de_op opd_sub (de_ty cd_int T.n_int (da_cons (de_cmp opd_gt (de_op opd_add (dv 2) (dv 3)) de_int (nomark _)) da_nil)) (de_ty cd_int T.n_int (da_cons (de_cmp opd_lt (de_op opd_add (dv 2) (dv 3)) de_int (nomark _)) da_nil))))) dss_nil)
 (dss_cons (ds_set (i := 4) sc_l_side_28b2.nd (de_op opd_sub (de_op opd_mulI (dv 2) (dv 2)) (de_op opd_mulI (de_op opd_mulI (dv 0) (dv 3)) (dv 3))))
 (dss_one (ds_ret (de_op opd_mulI (de_op opd_sub (de_ty cd_int T.n_int (da_cons (de_cmp opd_gt (dv 4) de_int (nomark _)) da_nil)) (de_ty cd_int T.n_int (da_cons (de_cmp opd_lt (dv 4) de_int (nomark _)) da_nil))) (de_if (dt_cmp opd_gt (dv 2) de_int (nomark _)) de_int (de_neg de_int))))))))) hread hX
theorem ok_l_least_bda1 {c_l_side_28b2 c_l_plus_46d9 : DSp} {sp : DSp} (T : Txt K mg base) (D_l_side_28b2 : Def P w K mg base CX0 1 "_law_side" s_l_side_28b2 ["_law_measure_here", "_law_one"] c_l_side_28b2) (D_l_plus_46d9 : Def P w K mg base CX0 3 "_law_plus" s_l_plus_46d9 ["_law_measure_here", "_law_one", "_law_other", "_law_times_here"] c_l_plus_46d9) (hread : ∀ ds M Q, ds.length = 3 → sp ds M Q DX0 → t_l_least_bda1 c_l_side_28b2 c_l_plus_46d9 (dEnds M Q) (startD 3 ds) M) (hX : ∀ ds M Q E, sp ds M Q E → sp ds M Q DX0 := by exact fun _ _ _ _ h => h) : Def P w K mg base CX0 4 "_law_least" s_l_least_bda1 ["_law_measure_here", "_law_one", "_law_other"] sp :=
 T.h_l_least_bda1.ok (t := t_l_least_bda1 c_l_side_28b2 c_l_plus_46d9) sc_l_least_bda1 (fun f cdv A outer s H E hr gd => (dss_one (ds_ret (de_cmp opd_lt (dcall D_l_side_28b2 hr gd (da_cons (dv 0) (da_cons (dcall D_l_plus_46d9 hr gd (da_cons (dv 0) (da_cons (dv 1) (da_cons (dv 2) (da_cons (de_neg de_int) da_nil))))) da_nil))) de_int (nomark _))))) hread hX
theorem ok_l_times_3146 {c_l_made_ecf7 : DSp} {sp : DSp} (T : Txt K mg base) (D_l_made_ecf7 : Def P w K mg base CX0 2 "_law_made" s_l_made_ecf7 ["_law_measure_here", "_law_x", "_law_y", "_law_below"] c_l_made_ecf7) (hread : ∀ ds M Q, ds.length = 3 → sp ds M Q DX0 → t_l_times_3146 c_l_made_ecf7 (dEnds M Q) (startD 4 ds) M) (hX : ∀ ds M Q E, sp ds M Q E → sp ds M Q DX0 := by exact fun _ _ _ _ h => h) : Def P w K mg base CX0 3 "_law_times" s_l_times_3146 ["_law_measure_here", "_law_one", "_law_other"] sp :=
 T.h_l_times_3146.ok (t := t_l_times_3146 c_l_made_ecf7) sc_l_times_3146 (fun f cdv A outer s H E hr gd => (dss_cons (ds_set (i := 3) sc_l_times_3146.nd (de_op opd_add (de_op opd_mulI (de_ix (dv 1) de_int) (de_ix (dv 2) de_int)) (de_op opd_mulI (de_op opd_mulI (dv 0) (de_ix (dv 1) de_int)) (de_ix (dv 2) de_int))))
 (dss_one (ds_ret (dcall D_l_made_ecf7 hr gd (da_cons (dv 0) (da_cons (dv 3) (da_cons (de_op opd_add (de_op opd_mulI (de_ix (dv 1) de_int) (de_ix (dv 2) de_int)) (de_op opd_mulI (de_ix (dv 1) de_int) (de_ix (dv 2) de_int))) (da_cons (de_op opd_mulI (de_ix (dv 1) de_int) (de_ix (dv 2) de_int)) da_nil))))))))) hread hX
theorem ok_times_by {c_root_by : DSp} {sp : DSp} (T : Txt K mg base) (D_root_by : Def P w K mg base CX0 2 "root_by" s_root_by ["measure", "x", "y", "below"] c_root_by) (hread : ∀ ds M Q, ds.length = 3 → sp ds M Q DX0 → t_times_by c_root_by (dEnds M Q) (startD 4 ds) M) (hX : ∀ ds M Q E, sp ds M Q E → sp ds M Q DX0 := by exact fun _ _ _ _ h => h) : Def P w K mg base CX0 3 "times_by" s_times_by ["measure", "one", "other"] sp :=
 T.h_times_by.ok (t := t_times_by c_root_by) sc_times_by (fun f cdv A outer s H E hr gd => (dss_cons (ds_set (i := 3) sc_times_by.nd (de_op opd_add (de_op opd_mulI (de_ix (dv 1) de_int) (de_ix (dv 2) de_int)) (de_op opd_mulI (de_op opd_mulI (dv 0) (de_ix (dv 1) de_int)) (de_ix (dv 2) de_int))))
 (dss_one (ds_ret (dcall D_root_by hr gd (da_cons (dv 0) (da_cons (dv 3) (da_cons (de_op opd_add (de_op opd_mulI (de_ix (dv 1) de_int) (de_ix (dv 2) de_int)) (de_op opd_mulI (de_ix (dv 1) de_int) (de_ix (dv 2) de_int))) (da_cons (de_op opd_mulI (de_ix (dv 1) de_int) (de_ix (dv 2) de_int)) da_nil))))))))) hread hX
theorem ok_area_by {c_measure_by c_times_by c_root_by c_slit_by : DSp} {sp : DSp} (T : Txt K mg base) (D_measure_by : Def P w K mg base CX0 1 "measure_by" s_measure_by ["cutting"] c_measure_by) (D_times_by : Def P w K mg base CX0 3 "times_by" s_times_by ["measure", "one", "other"] c_times_by) (D_root_by : Def P w K mg base CX0 2 "root_by" s_root_by ["measure", "x", "y", "below"] c_root_by) (D_slit_by : Def P w K mg base CX0 3 "slit_by" s_slit_by ["cutting"] c_slit_by) (hread : ∀ ds M Q, ds.length = 1 → sp ds M Q DX0 → t_area_by c_measure_by c_times_by c_root_by c_slit_by (dEnds M Q) (startD 2 ds) M) (hX : ∀ ds M Q E, sp ds M Q E → sp ds M Q DX0 := by exact fun _ _ _ _ h => h) : Def P w K mg base CX0 4 "area_by" s_area_by ["cutting"] sp :=
 T.h_area_by.ok (t := t_area_by c_measure_by c_times_by c_root_by c_slit_by) sc_area_by (fun f cdv A outer s H E hr gd => (dss_cons (ds_set (i := 1) sc_area_by.nd (dcall D_measure_by hr gd (da_cons (dv 0) da_nil)))
 (dss_one (ds_ret (dcall D_times_by hr gd (da_cons (dv 1) (da_cons (dcall D_slit_by hr gd (da_cons (dv 0) da_nil)) (da_cons (dcall D_root_by hr gd (da_cons (dv 1) (da_cons de_int (da_cons de_int (da_cons de_int da_nil))))) da_nil)))))))) hread hX
theorem ok_area {c_check_cutting c_area_by : DSp} {sp : DSp} (T : Txt K mg base) (D_check_cutting : Def P w K mg base CX0 3 "check_cutting" s_check_cutting ["cutting"] c_check_cutting) (D_area_by : Def P w K mg base CX0 4 "area_by" s_area_by ["cutting"] c_area_by) (hread : ∀ ds M Q, ds.length = 1 → sp ds M Q DX0 → t_area c_check_cutting c_area_by (dEnds M Q) (startD 1 ds) M) (hX : ∀ ds M Q E, sp ds M Q E → sp ds M Q DX0 := by exact fun _ _ _ _ h => h) : Def P w K mg base CX0 5 "area" s_area ["cutting"] sp :=
 T.h_area.ok (t := t_area c_check_cutting c_area_by) sc_area (fun f cdv A outer s H E hr gd => (dss_cons (ds_expr (dcall D_check_cutting hr gd (da_cons (dv 0) da_nil)))
 (dss_one (ds_ret (dcall D_area_by hr gd (da_cons (dv 0) da_nil)))))) hread hX
theorem ok_l_outline_area_700f {c_l_whole_43a8 c_l_plus_46d9 c_l_times_3146 : DSp} {sp : DSp} (T : Txt K mg base) (D_l_whole_43a8 : Def P w K mg base CX0 1 "_law_whole" s_l_whole_43a8 ["_law_number"] c_l_whole_43a8) (D_l_plus_46d9 : Def P w K mg base CX0 3 "_law_plus" s_l_plus_46d9 ["_law_measure_here", "_law_one", "_law_other", "_law_times_here"] c_l_plus_46d9) (D_l_times_3146 : Def P w K mg base CX0 3 "_law_times" s_l_times_3146 ["_law_measure_here", "_law_one", "_law_other"] c_l_times_3146) (hread : ∀ ds M Q, ds.length = 2 → sp ds M Q DX0 → t_l_outline_area_700f c_l_whole_43a8 c_l_plus_46d9 c_l_times_3146 (dEnds M Q) (startD 8 ds) M) (hX : ∀ ds M Q E, sp ds M Q E → sp ds M Q DX0 := by exact fun _ _ _ _ h => h) : Def P w K mg base CX0 4 "_law_outline_area" s_l_outline_area_700f ["_law_measure_here", "_law_ends"] sp :=
 T.h_l_outline_area_700f.ok (t := t_l_outline_area_700f c_l_whole_43a8 c_l_plus_46d9 c_l_times_3146) sc_l_outline_area_700f (fun f cdv A outer s H E hr gd => (dss_cons (ds_set (i := 2) sc_l_outline_area_700f.nd (dcall D_l_whole_43a8 hr gd (da_cons de_int da_nil)))
 (dss_cons (ds_for rfl (di_range1 T.n_range (da_cons de_int da_nil)) (dg_name (i := 3) sc_l_outline_area_700f.nd) (dss_cons (ds_asg (de_tup (da_cons (de_ix (dv 1) (dv 3)) (da_cons (de_ix (dv 1) (de_op opd_mod (de_ty cd_int T.n_int (da_cons (de_op opd_add (dv 3) de_int) da_nil)) de_int)) da_nil))) (dg_tup rfl (dgs_cons (dg_tup rfl (dgs_cons (dg_name (i := 4) sc_l_outline_area_700f.nd) (dgs_cons (dg_name (i := 5) sc_l_outline_area_700f.nd) dgs_nil))) (dgs_cons (dg_tup rfl (dgs_cons (dg_name (i := 6) sc_l_outline_area_700f.nd) (dgs_cons (dg_name (i := 7) sc_l_outline_area_700f.nd) dgs_nil))) dgs_nil))))
 (dss_one (ds_set (i := 2) sc_l_outline_area_700f.nd (dcall D_l_plus_46d9 hr gd (da_cons (dv 0) (da_cons (dv 2) (da_cons (dcall D_l_plus_46d9 hr gd (da_cons (dv 0) (da_cons (dcall D_l_times_3146 hr gd (da_cons (dv 0) (da_cons (dv 4) (da_cons (dv 7) da_nil)))) (da_cons (dcall D_l_times_3146 hr gd (da_cons (dv 0) (da_cons (dv 5) (da_cons (dv 6) da_nil)))) (da_cons (de_neg de_int) da_nil))))) (da_cons de_int da_nil)))))))))
 (dss_one (ds_ret (dcall D_l_times_3146 hr gd (da_cons (dv 0) (da_cons (dv 2) (da_cons (de_tup (da_cons de_int (da_cons de_int (da_cons de_int da_nil)))) da_nil))))))))) hread hX
theorem ok_l_joined_ends_68e6 {sp : DSp} (T : Txt K mg base) (hread : ∀ ds M Q, ds.length = 1 → sp ds M Q DX0 → t_l_joined_ends_68e6 (dEnds M Q) (startD 10 ds) M) (hX : ∀ ds M Q E, sp ds M Q E → sp ds M Q DX0 := by exact fun _ _ _ _ h => h) : Def P w K mg base CX0 1 "_law_joined_ends" s_l_joined_ends_68e6 ["_law_told"] sp :=
 T.h_l_joined_ends_68e6.ok (t := t_l_joined_ends_68e6) sc_l_joined_ends_68e6 (fun f cdv A outer s H E hr gd => (dss_cons (ds_set (i := 1) sc_l_joined_ends_68e6.nd (de_lrng1 false rfl T.n_list T.n_range de_int))
 (dss_cons (ds_for rfl (di_seq (dv 0)) (dg_tup rfl (dgs_cons (dg_name (i := 2) sc_l_joined_ends_68e6.nd) (dgs_cons (dg_name (i := 3) sc_l_joined_ends_68e6.nd) (dgs_cons (dg_name (i := 4) sc_l_joined_ends_68e6.nd) dgs_nil)))) (dss_one (ds_for rfl (di_seq (de_lst (da_cons (de_tup (da_cons (dv 2) (da_cons (de_op opd_mod (de_ty cd_int T.n_int (da_cons (de_op opd_add (dv 3) de_int) da_nil)) de_int) da_nil))) (da_cons (de_tup (da_cons (de_op opd_mod (de_ty cd_int T.n_int (da_cons (de_op opd_add (dv 2) de_int) da_nil)) de_int) (da_cons (dv 3) da_nil))) da_nil)))) (dg_tup rfl (dgs_cons (dg_name (i := 5) sc_l_joined_ends_68e6.nd) (dgs_cons (dg_name (i := 6) sc_l_joined_ends_68e6.nd) dgs_nil))) (dss_cons (ds_asg (de_tup (da_cons (de_ix (dv 1) (dv 5)) (da_cons (de_ix (dv 1) (dv 6)) da_nil))) (dg_tup rfl (dgs_cons (dg_name (i := 7) sc_l_joined_ends_68e6.nd) (dgs_cons (dg_name (i := 8) sc_l_joined_ends_68e6.nd) dgs_nil))))
 (dss_one (ds_setLc false (i := 1) (own := [("_law_name", 9)]) rfl sc_l_joined_ends_68e6.nd  (sw_true rfl rfl rfl (by decide +kernel)) (blkOk_by (N := ["_law_told", "_law_names", "_law_edge", "_law_other", "_law_shift", "_law_low", "_law_high", "_law_one", "_law_two", "_law_name"]) (own := [("_law_name", 9)]) (sc := (defScope s_l_joined_ends_68e6)) (by decide +kernel)) (di_seq (dv 1)) (fun _ _ _ _ _ => (dcg_name (i := 9) sc_l_joined_ends_68e6.nd)) (fun _ _ _ _ _ => dts_nil) (fun _ _ _ _ _ => (de_if (dt_cmp (opd_eq (u64 hr)) (dv 9) (dv 8) (nomark _)) (dv 7) (dv 9)))))))))
 (dss_one (ds_ret (de_cmp (opd_eq (u64 hr)) (de_lenset T.n_len T.n_set (dv 1)) de_int (nomark _))))))) hread hX
theorem ok_l_right_11de {c_l_measure_d993 c_l_side_of_cf54 c_square_side c_corners_o c_gluings_o c_l_corners_f045 c_l_shifts_c8b1 c_l_side_28b2 c_l_least_bda1 c_l_whole_43a8 c_l_times_3146 c_l_made_ecf7 c_area c_l_outline_area_700f c_l_joined_ends_68e6 c_l_added_a47b : DSp} {sp : DSp} (T : Txt K mg base) (D_l_measure_d993 : Def P w K mg base CX0 1 "_law_measure" s_l_measure_d993 ["_law_cutting_here"] c_l_measure_d993) (D_l_side_of_cf54 : Def P w K mg base CX0 3 "_law_side_of" s_l_side_of_cf54 ["_law_cutting_here"] c_l_side_of_cf54) (D_square_side : Def P w K mg base CX0 4 "square_side" s_square_side ["cutting"] c_square_side) (D_corners_o : Def P w K mg base CX0 5 "corners" s_corners_o ["cutting"] c_corners_o) (D_gluings_o : Def P w K mg base CX0 5 "gluings" s_gluings_o ["cutting"] c_gluings_o) (D_l_corners_f045 : Def P w K mg base CX0 4 "_law_corners" s_l_corners_f045 ["_law_cutting_here"] c_l_corners_f045) (D_l_shifts_c8b1 : Def P w K mg base CX0 5 "_law_shifts" s_l_shifts_c8b1 ["_law_cutting_here"] c_l_shifts_c8b1) (D_l_side_28b2 : Def P w K mg base CX0 1 "_law_side" s_l_side_28b2 ["_law_measure_here", "_law_one"] c_l_side_28b2) (D_l_least_bda1 : Def P w K mg base CX0 4 "_law_least" s_l_least_bda1 ["_law_measure_here", "_law_one", "_law_other"] c_l_least_bda1) (D_l_whole_43a8 : Def P w K mg base CX0 1 "_law_whole" s_l_whole_43a8 ["_law_number"] c_l_whole_43a8) (D_l_times_3146 : Def P w K mg base CX0 3 "_law_times" s_l_times_3146 ["_law_measure_here", "_law_one", "_law_other"] c_l_times_3146) (D_l_made_ecf7 : Def P w K mg base CX0 2 "_law_made" s_l_made_ecf7 ["_law_measure_here", "_law_x", "_law_y", "_law_below"] c_l_made_ecf7) (D_area : Def P w K mg base CX0 5 "area" s_area ["cutting"] c_area) (D_l_outline_area_700f : Def P w K mg base CX0 4 "_law_outline_area" s_l_outline_area_700f ["_law_measure_here", "_law_ends"] c_l_outline_area_700f) (D_l_joined_ends_68e6 : Def P w K mg base CX0 1 "_law_joined_ends" s_l_joined_ends_68e6 ["_law_told"] c_l_joined_ends_68e6) (D_l_added_a47b : Def P w K mg base CX0 4 "_law_added" s_l_added_a47b ["_law_measure_here", "_law_one", "_law_other", "_law_times_here"] c_l_added_a47b) (hread : ∀ ds M Q, ds.length = 1 → sp ds M Q DX0 → t_l_right_11de c_l_measure_d993 c_l_side_of_cf54 c_square_side c_corners_o c_gluings_o c_l_corners_f045 c_l_shifts_c8b1 c_l_side_28b2 c_l_least_bda1 c_l_whole_43a8 c_l_times_3146 c_l_made_ecf7 c_area c_l_outline_area_700f c_l_joined_ends_68e6 c_l_added_a47b (dEnds M Q) (startD 11 ds) M) (hX : ∀ ds M Q E, sp ds M Q E → sp ds M Q DX0 := by exact fun _ _ _ _ h => h) : Def P w K mg base CX0 6 "_law_right" s_l_right_11de ["_law_cutting_here"] sp :=
 T.h_l_right_11de.ok (t := t_l_right_11de c_l_measure_d993 c_l_side_of_cf54 c_square_side c_corners_o c_gluings_o c_l_corners_f045 c_l_shifts_c8b1 c_l_side_28b2 c_l_least_bda1 c_l_whole_43a8 c_l_times_3146 c_l_made_ecf7 c_area c_l_outline_area_700f c_l_joined_ends_68e6 c_l_added_a47b) sc_l_right_11de (fun f cdv A outer s H E hr gd => (dss_cons (ds_par (i := 1) (j := 2) rfl sc_l_right_11de.nd (da_cons (dcall D_l_measure_d993 hr gd (da_cons (dv 0) da_nil)) (da_cons (dcall D_l_side_of_cf54 hr gd (da_cons (dv 0) da_nil)) da_nil)))
 (dss_cons (ds_par3 (i := 3) (j := 4) (l := 5) rfl sc_l_right_11de.nd (da_cons (dcall D_square_side hr gd (da_cons (dv 0) da_nil)) (da_cons (dcall D_corners_o hr gd (da_cons (dv 0) da_nil)) (da_cons (dcall D_gluings_o hr gd (da_cons (dv 0) da_nil)) da_nil))))
 (dss_cons (ds_if (DW.dt (dw_or (dt_cmp (opd_ne (u64 hr)) (de_blt (cd_reprZ gd (ux hr)) T.n_repr (da_cons (dv 3) da_nil)) (de_blt (cd_reprZ gd (ux hr)) T.n_repr (da_cons (dv 2) da_nil)) (nomark _)) (dw_or (dt_cmp (opd_ne (u64 hr)) (de_blt (cd_reprZ gd (ux hr)) T.n_repr (da_cons (dv 4) da_nil)) (de_blt (cd_reprZ gd (ux hr)) T.n_repr (da_cons (dcall D_l_corners_f045 hr gd (da_cons (dv 0) da_nil)) da_nil)) (nomark _)) (dw_or1 (dt_cmp (opd_ne (u64 hr)) (de_blt (cd_reprZ gd (ux hr)) T.n_repr (da_cons (dv 5) da_nil)) (de_blt (cd_reprZ gd (ux hr)) T.n_repr (da_cons (dcall D_l_shifts_c8b1 hr gd (da_cons (dv 0) da_nil)) da_nil)) (nomark _)))))) (dss_one (ds_ret de_bl)) dss_nil)
 (dss_cons (ds_if (DW.dt (dw_or (dt_cmp (opd_ne (u64 hr)) (dcall D_l_side_28b2 hr gd (da_cons (dv 1) (da_cons (dv 2) da_nil))) de_int (nomark _)) (dw_or1 (dt_not (dt_tru (dcall D_l_least_bda1 hr gd (da_cons (dv 1) (da_cons (dv 2) (da_cons (dcall D_l_whole_43a8 hr gd (da_cons (de_ix (dv 0) de_int) da_nil)) da_nil))))))))) (dss_one (ds_ret de_bl)) dss_nil)
 (dss_cons (ds_set (i := 6) sc_l_right_11de.nd (dcall D_l_times_3146 hr gd (da_cons (dv 1) (da_cons (dv 2) (da_cons (dcall D_l_made_ecf7 hr gd (da_cons (dv 1) (da_cons de_int (da_cons de_int (da_cons de_int da_nil))))) da_nil)))))
 (dss_cons (ds_if (DW.dt (dw_or (dt_cmp (opd_ne (u64 hr)) (de_blt (cd_reprZ gd (ux hr)) T.n_repr (da_cons (dcall D_area hr gd (da_cons (dv 0) da_nil)) da_nil)) (de_blt (cd_reprZ gd (ux hr)) T.n_repr (da_cons (dv 6) da_nil)) (nomark _)) (dw_or (dt_cmp (opd_ne (u64 hr)) (dcall D_l_outline_area_700f hr gd (da_cons (dv 1) (da_cons (dv 4) da_nil))) (dv 6) (nomark _)) (dw_or1 (dt_not (dt_tru (dcall D_l_joined_ends_68e6 hr gd (da_cons (dv 5) da_nil)))))))) (dss_one (ds_ret de_bl)) dss_nil)
 (dss_cons (ds_for rfl (di_seq (dv 5)) (dg_tup rfl (dgs_cons (dg_name (i := 7) sc_l_right_11de.nd) (dgs_cons (dg_name (i := 8) sc_l_right_11de.nd) (dgs_cons (dg_name (i := 9) sc_l_right_11de.nd) dgs_nil)))) (dss_one (ds_if (dt_cmp (opd_ne (u64 hr)) (dcall D_l_added_a47b hr gd (da_cons (dv 1) (da_cons (de_ix (dv 4) (de_op opd_mod (de_ty cd_int T.n_int (da_cons (de_op opd_add (dv 7) de_int) da_nil)) de_int)) (da_cons (dv 9) (da_cons de_int da_nil))))) (de_ix (dv 4) (dv 8)) (nomark _)) (dss_one (ds_ret de_bl)) dss_nil)))
 (dss_cons (ds_set (i := 10) sc_l_right_11de.nd (de_blt (cd_reprZ gd (ux hr)) T.n_repr (da_cons (de_lst (da_cons (dv 4) (da_cons (dv 5) da_nil))) da_nil)))
 (dss_cons (ds_expr (de_append (dv 4) (da_cons de_non da_nil)))
 (dss_cons (ds_expr (de_append (dv 5) (da_cons de_non da_nil)))
 (dss_one (ds_ret (de_and (de_cmp (opd_eq (u64 hr)) (de_blt (cd_reprZ gd (ux hr)) T.n_repr (da_cons (de_lst (da_cons (dcallK [0] D_corners_o hr gd (dk_cons (dv 0) dk_nil) (ks := ["cutting"]) rfl (fun _ _ _ _ _ _ us hl => match us, hl with | [_], _ => rfl)) (da_cons (dcallK [0] D_gluings_o hr gd (dk_cons (dv 0) dk_nil) (ks := ["cutting"]) rfl (fun _ _ _ _ _ _ us hl => match us, hl with | [_], _ => rfl)) da_nil))) da_nil)) (dv 10) (nomark _)) (de_and (de_cmp (opd_eq (u64 hr)) (dcallK [0] D_area hr gd (dk_cons (dv 0) dk_nil) (ks := ["cutting"]) rfl (fun _ _ _ _ _ _ us hl => match us, hl with | [_], _ => rfl)) (dv 6) (nomark _)) (de_one (de_cmp (opd_eq (u64 hr)) (dcallK [0] D_square_side hr gd (dk_cons (dv 0) dk_nil) (ks := ["cutting"]) rfl (fun _ _ _ _ _ _ us hl => match us, hl with | [_], _ => rfl)) (dv 2) (nomark _)))))))))))))))))) hread hX
theorem ok_l_hash_d8d1 {sp : DSp} (T : Txt K mg base) (hread : ∀ ds M Q, ds.length = 2 → sp ds M Q DX0 → t_l_hash_d8d1 (dEnds M Q) (startD 3 ds) M) (hX : ∀ ds M Q E, sp ds M Q E → sp ds M Q DX0 := by exact fun _ _ _ _ h => h) : Def P w K mg base CX0 1 "_law_hash" s_l_hash_d8d1 ["_law_seed", "_law_index"] sp :=
 T.h_l_hash_d8d1.ok (t := t_l_hash_d8d1) sc_l_hash_d8d1 (fun f cdv A outer s H E hr gd => (dss_cons (ds_set (i := 2) sc_l_hash_d8d1.nd (de_op opd_mod (de_ty cd_int T.n_int (da_cons (de_op opd_add (de_op opd_add (de_op opd_add (de_op opd_mulI (dv 0) de_int) (de_op opd_mulI (de_op opd_mulI de_int (dv 1)) (dv 1))) (de_op opd_mulI de_int (dv 1))) de_int) da_nil)) de_int))
 (dss_cons (ds_set (i := 2) sc_l_hash_d8d1.nd (de_op opd_mod (de_ty cd_int T.n_int (da_cons (de_op opd_add (de_op opd_add (de_op opd_mulI (dv 2) (dv 2)) (de_op opd_mulI de_int (dv 1))) de_int) da_nil)) de_int))
 (dss_one (ds_ret (de_op opd_mod (de_ty cd_int T.n_int (da_cons (de_op opd_mulI (dv 2) de_int) da_nil)) de_int)))))) hread hX
theorem ok_l_random_7821 {c_l_hash_d8d1 : DSp} {sp : DSp} (T : Txt K mg base) (D_l_hash_d8d1 : Def P w K mg base CX0 1 "_law_hash" s_l_hash_d8d1 ["_law_seed", "_law_index"] c_l_hash_d8d1) (hread : ∀ ds M Q, ds.length = 2 → sp ds M Q DX0 → t_l_random_7821 c_l_hash_d8d1 (dEnds M Q) (startD 4 ds) M) (hX : ∀ ds M Q E, sp ds M Q E → sp ds M Q DX0 := by exact fun _ _ _ _ h => h) : Def P w K mg base CX0 2 "_law_random" s_l_random_7821 ["_law_generator_here", "_law_bound"] sp :=
 T.h_l_random_7821.ok (t := t_l_random_7821 c_l_hash_d8d1) sc_l_random_7821 (fun f cdv A outer s H E hr gd => (dss_cons (ds_if (dt_cmp opd_gt (de_ix (dv 0) de_int) de_int (nomark _)) (dss_cons (ds_set (i := 2) sc_l_random_7821.nd (de_op opd_mod (de_ty cd_int T.n_int (da_cons (de_ix (dv 0) de_int) da_nil)) (dv 1)))
 (dss_cons (ds_asg (de_op opd_fdiv (de_ix (dv 0) de_int) (dv 1)) (dg_sub (dv 0) de_int))
 (dss_one (ds_ret (dv 2))))) dss_nil)
 (dss_cons (ds_set (i := 2) sc_l_random_7821.nd de_int)
 (dss_cons (ds_for rfl (di_range1 T.n_range (da_cons (de_op opd_add de_int (de_op opd_fdiv (de_bits (dv 1)) de_int)) da_nil)) (dg_name (i := 3) sc_l_random_7821.nd) (dss_cons (ds_asg (de_op opd_add (de_ix (dv 0) de_int) de_int) (dg_sub (dv 0) de_int))
 (dss_one (ds_set (i := 2) sc_l_random_7821.nd (de_op opd_add (de_op opd_mulI (dv 2) de_int) (dcall D_l_hash_d8d1 hr gd (da_cons (de_ix (dv 0) de_int) (da_cons (de_ix (dv 0) de_int) da_nil))))))))
 (dss_one (ds_ret (de_op opd_mod (de_ty cd_int T.n_int (da_cons (dv 2) da_nil)) (dv 1)))))))) hread hX
theorem ok_l_cutting_bb00 {c_l_random_7821 c_l_common_ec6e : DSp} {sp : DSp} (T : Txt K mg base) (D_l_random_7821 : Def P w K mg base CX0 2 "_law_random" s_l_random_7821 ["_law_generator_here", "_law_bound"] c_l_random_7821) (D_l_common_ec6e : Def P w K mg base CX0 1 "_law_common" s_l_common_ec6e ["_law_one", "_law_other"] c_l_common_ec6e) (hread : ∀ ds M Q, ds.length = 3 → sp ds M Q DX0 → t_l_cutting_bb00 c_l_random_7821 c_l_common_ec6e (dEnds M Q) (startD 7 ds) M) (hX : ∀ ds M Q E, sp ds M Q E → sp ds M Q DX0 := by exact fun _ _ _ _ h => h) : Def P w K mg base CX0 3 "_law_cutting" s_l_cutting_bb00 ["_law_generator_here", "_law_most", "_law_high"] sp :=
 T.h_l_cutting_bb00.ok (t := t_l_cutting_bb00 c_l_random_7821 c_l_common_ec6e) sc_l_cutting_bb00 (fun f cdv A outer s H E hr gd => (dss_cons (ds_set (i := 3) sc_l_cutting_bb00.nd (de_op opd_add de_int (dcall D_l_random_7821 hr gd (da_cons (dv 0) (da_cons (dv 2) da_nil)))))
 (dss_cons (ds_set (i := 4) sc_l_cutting_bb00.nd (de_op opd_sub (dcall D_l_random_7821 hr gd (da_cons (dv 0) (da_cons (de_op opd_add (de_op opd_mulI de_int (dv 1)) de_int) da_nil))) (dv 1)))
 (dss_cons (ds_set (i := 5) sc_l_cutting_bb00.nd (de_op opd_add (de_op opd_add (de_blt (cd_max rfl) T.n_max (da_cons (de_op opd_add (dv 3) (dv 4)) (da_cons de_int da_nil))) de_int) (dcall D_l_random_7821 hr gd (da_cons (dv 0) (da_cons (dv 1) da_nil)))))
 (dss_cons (ds_set (i := 6) sc_l_cutting_bb00.nd (dcall D_l_random_7821 hr gd (da_cons (dv 0) (da_cons (dcall D_l_common_ec6e hr gd (da_cons (dv 5) (da_cons (dv 3) da_nil))) da_nil))))
 (dss_cons (ds_while (dt_cmp (opd_ne (u64 hr)) (dcall D_l_common_ec6e hr gd (da_cons (dcall D_l_common_ec6e hr gd (da_cons (dv 6) (da_cons (dv 5) da_nil))) (da_cons (dcall D_l_common_ec6e hr gd (da_cons (dv 3) (da_cons (dv 4) da_nil))) da_nil))) de_int (nomark _)) (dss_one (ds_set (i := 4) sc_l_cutting_bb00.nd (de_op opd_sub (dv 4) de_int))))
 (dss_one (ds_ret (de_tup (da_cons (dv 6) (da_cons (dv 5) (da_cons (dv 3) (da_cons (dv 4) da_nil))))))))))))) hread hX
theorem ok_l_law_a011 {c_l_generator_b324 c_l_right_11de c_l_cutting_bb00 c_square_side c_area c_corners_o : DSp} {sp : DSp} (T : Txt K mg base) (D_l_generator_b324 : Def P w K mg base CX0 2 "_law_generator" s_l_generator_b324 ["_law_script", "_law_index"] c_l_generator_b324) (D_l_right_11de : Def P w K mg base CX0 6 "_law_right" s_l_right_11de ["_law_cutting_here"] c_l_right_11de) (D_l_cutting_bb00 : Def P w K mg base CX0 3 "_law_cutting" s_l_cutting_bb00 ["_law_generator_here", "_law_most", "_law_high"] c_l_cutting_bb00) (D_square_side : Def P w K mg base CX0 4 "square_side" s_square_side ["cutting"] c_square_side) (D_area : Def P w K mg base CX0 5 "area" s_area ["cutting"] c_area) (D_corners_o : Def P w K mg base CX0 5 "corners" s_corners_o ["cutting"] c_corners_o) (hread : ∀ ds M Q, ds.length = 1 → sp ds M Q DX0 → t_l_law_a011 c_l_generator_b324 c_l_right_11de c_l_cutting_bb00 c_square_side c_area c_corners_o (dEnds M Q) (startD 2 ds) M) (hX : ∀ ds M Q E, sp ds M Q E → sp ds M Q DX0 := by exact fun _ _ _ _ h => h) : Def P w K mg base CX0 7 "law" s_l_law_a011 ["_law_script"] sp :=
 T.h_l_law_a011.ok (t := t_l_law_a011 c_l_generator_b324 c_l_right_11de c_l_cutting_bb00 c_square_side c_area c_corners_o) sc_l_law_a011 (fun f cdv A outer s H E hr gd => (dss_cons (ds_set (i := 1) sc_l_law_a011.nd (dcall D_l_generator_b324 hr gd (da_cons (dv 0) (da_cons de_int da_nil))))
 (dss_cons (ds_if (DW.dt (dw_or (dt_not (dt_tru (dcall D_l_right_11de hr gd (da_cons (dcall D_l_cutting_bb00 hr gd (da_cons (dv 1) (da_cons de_int (da_cons de_int da_nil)))) da_nil)))) (dw_or1 (dt_not (dt_tru (dcall D_l_right_11de hr gd (da_cons (dcall D_l_cutting_bb00 hr gd (da_cons (dv 1) (da_cons (de_op opd_pow de_int de_int) (da_cons (de_op opd_pow de_int de_int) da_nil)))) da_nil))))))) (dss_one (ds_ret de_bl)) dss_nil)
 (dss_cons (ds_if (dt_not (dt_tru (dcall D_l_right_11de hr gd (da_cons (dcall D_l_cutting_bb00 hr gd (da_cons (dv 1) (da_cons (de_op opd_pow de_int de_int) (da_cons (de_op opd_pow de_int de_int) da_nil)))) da_nil)))) (dss_one (ds_ret de_bl)) dss_nil)
 (dss_cons (ds_if (DW.dt (dw_or (dt_cmp (opd_ne (u64 hr)) (dcall D_square_side hr gd (da_cons (de_tup (da_cons de_int (da_cons de_int (da_cons de_int (da_cons (de_neg de_int) da_nil))))) da_nil)) (de_tup (da_cons de_int (da_cons de_int (da_cons de_int da_nil)))) (nomark _)) (dw_or1 (dt_cmp (opd_ne (u64 hr)) (dcall D_area hr gd (da_cons (de_tup (da_cons de_int (da_cons de_int (da_cons de_int (da_cons (de_neg de_int) da_nil))))) da_nil)) (de_tup (da_cons de_int (da_cons de_int (da_cons de_int da_nil)))) (nomark _))))) (dss_one (ds_ret de_bl)) dss_nil)
 (dss_one (ds_ret (de_and (de_cmp (opd_eq (u64 hr)) (de_sl false (dcall D_corners_o hr gd (da_cons (de_tup (da_cons de_int (da_cons de_int (da_cons de_int (da_cons (de_neg de_int) da_nil))))) da_nil)) (do_some de_int) (do_some de_int)) (de_lst (da_cons (de_tup (da_cons (de_tup (da_cons de_int (da_cons de_int (da_cons de_int da_nil)))) (da_cons (de_tup (da_cons de_int (da_cons de_int (da_cons de_int da_nil)))) da_nil))) (da_cons (de_tup (da_cons (de_tup (da_cons de_int (da_cons de_int (da_cons de_int da_nil)))) (da_cons (de_tup (da_cons de_int (da_cons de_int (da_cons de_int da_nil)))) da_nil))) da_nil))) (nomark _)) (de_one (de_cmp (opd_eq (u64 hr)) (dcall D_area hr gd (da_cons (de_tup (da_cons de_int (da_cons de_int (da_cons de_int (da_cons (de_neg de_int) da_nil))))) da_nil)) (de_tup (da_cons de_int (da_cons (de_neg de_int) (da_cons de_int da_nil)))) (nomark _))))))))))) hread hX
end
end C_k34
/-! MA: whole roots, common divisors, sizes; plain -/
namespace DL
/-! ### a great number, by its name -/
def BIGN : Nat := 2 ^ 4000
def BIG : Int := (BIGN : Nat)
theorem bign_pos : 0 < BIGN := Nat.pow_pos (by decide)
theorem bign_ge {k : Nat} (h : k ≤ 4000) : 2 ^ k ≤ BIGN := Nat.pow_le_pow_right (by decide) h
/-- a written number is below BIG -/
theorem big_ge (k : Nat) (h : k < 2 ^ 240 := by decide) : (k : Int) ≤ BIG := by
  have := bign_ge (k := 240) (by decide)
  unfold BIG
  omega
theorem log2_of {i : Int} (n : Nat) (h : i.natAbs < 2 ^ n) (h0 : 0 < n) : i.natAbs.log2 < n := by
  by_cases z : i.natAbs = 0
  · rw [z]; simpa using h0
  · exact (Nat.log2_lt z).mpr h
theorem nat_of_big {i : Int} (h1 : -BIG ≤ i) (h2 : i ≤ BIG) : i.natAbs < 2 ^ 4001 := by
  have h3 : (2 : Nat) ^ 4001 = BIGN + BIGN := by unfold BIGN; rw [Nat.pow_succ, Nat.mul_two]
  have h4 := bign_pos
  rw [h3]
  unfold BIG at h1 h2
  omega
theorem log_of_big {i : Int} (h1 : -BIG ≤ i) (h2 : i ≤ BIG) : i.natAbs.log2 < 4001 := log2_of 4001 (nat_of_big h1 h2) (by decide)
/-! ### whole roots -/
def isqN (n : Nat) : Nat :=
  if h : n = 0 then 0
  else
    let r := 2 * isqN (n / 4)
    if (r + 1) * (r + 1) ≤ n then r + 1 else r
termination_by n
decreasing_by omega
theorem isqN_spec (n : Nat) : isqN n * isqN n ≤ n ∧ n < (isqN n + 1) * (isqN n + 1) := by
  induction n using Nat.strongRecOn with
  | ind n ih =>
    unfold isqN
    split
    · rename_i h; subst h; decide
    · rename_i h
      obtain ⟨h1, h2⟩ := ih (n / 4) (by omega)
      generalize isqN (n / 4) = s at *
      have e1 : 4 * (s * s) ≤ n := by omega
      have e2 : n < 4 * ((s + 1) * (s + 1)) := by omega
      have x1 : (2 * s) * (2 * s) = 4 * (s * s) := by rw [Nat.mul_mul_mul_comm]
      have x2 : (2 * s + 1) * (2 * s + 1) = 4 * (s * s) + 4 * s + 1 := by
        rw [Nat.add_mul, Nat.mul_add, x1]; omega
      have x3 : (s + 1) * (s + 1) = s * s + 2 * s + 1 := by
        rw [Nat.add_mul, Nat.mul_add]; omega
      have x4 : (2 * s + 1 + 1) * (2 * s + 1 + 1) = 4 * (s * s) + 8 * s + 4 := by
        rw [Nat.add_mul, Nat.mul_add, Nat.add_mul, Nat.mul_add, x1]; omega
      dsimp only
      split
      · rename_i hc
        exact ⟨hc, by rw [x4]; omega⟩
      · rename_i hc
        exact ⟨by rw [x1]; omega, by omega⟩
theorem isqN_uni {n r : Nat} (h1 : r * r ≤ n) (h2 : n < (r + 1) * (r + 1)) : isqN n = r := by
  obtain ⟨g1, g2⟩ := isqN_spec n
  rcases Nat.lt_trichotomy (isqN n) r with h | h | h
  · have : (isqN n + 1) * (isqN n + 1) ≤ r * r := Nat.mul_le_mul h h
    omega
  · exact h
  · have : (r + 1) * (r + 1) ≤ isqN n * isqN n := Nat.mul_le_mul h h
    omega
/-- the greatest count whose square is at most n -/
def isq (n : Int) : Int := (isqN n.toNat : Nat)
theorem isq_nn (n : Int) : 0 ≤ isq n := Int.natCast_nonneg _
theorem isq_le {n : Int} (h : 0 ≤ n) : isq n * isq n ≤ n := by
  have := (isqN_spec n.toNat).1
  unfold isq
  rw [← Int.natCast_mul]
  omega
theorem isq_lt {n : Int} (h : 0 ≤ n) : n < (isq n + 1) * (isq n + 1) := by
  have := (isqN_spec n.toNat).2
  unfold isq
  have e : ((isqN n.toNat : Int) + 1) * ((isqN n.toNat : Int) + 1) = (((isqN n.toNat + 1) * (isqN n.toNat + 1) : Nat) : Int) := by
    rw [Int.natCast_mul]; rfl
  rw [e]
  omega
theorem isq_uni {n r : Int} (h0 : 0 ≤ r) (h1 : r * r ≤ n) (h2 : n < (r + 1) * (r + 1)) : isq n = r := by
  obtain ⟨k, rfl⟩ := Int.eq_ofNat_of_zero_le h0
  have h1' : ((k * k : Nat) : Int) ≤ n := by rw [Int.natCast_mul]; exact h1
  have h2' : n < (((k + 1) * (k + 1) : Nat) : Int) := by rw [Int.natCast_mul]; exact h2
  unfold isq
  rw [isqN_uni (n := n.toNat) (r := k) (by omega) (by omega)]
theorem sq_lt {a b : Int} (ha : 0 ≤ a) (h : a < b) : a * a < b * b := by
  have := Int.mul_lt_mul' (Int.le_of_lt h) h ha (by omega : (0:Int) < b)
  exact this
theorem sq_le {a b : Int} (ha : 0 ≤ a) (h : a ≤ b) : a * a ≤ b * b := Int.mul_le_mul h h ha (by omega)
theorem lt_of_sq {a b : Int} (hb : 0 ≤ b) (h : a * a < b * b) : a < b := by
  by_cases z : a < b
  · exact z
  · have := sq_le hb (by omega : b ≤ a)
    omega
theorem isq_self {r : Int} (h : 0 ≤ r) : isq (r * r) = r := isq_uni h (Int.le_refl _) (sq_lt h (by omega))
/-- self is at most n -/
theorem isq_le_self {n : Int} (h : 0 ≤ n) : isq n ≤ n := by
  by_cases z : isq n ≤ n
  · exact z
  · have h1 := isq_le h
    have h2 := isq_nn n
    have h3 : 1 * isq n ≤ isq n * isq n := Int.mul_le_mul_of_nonneg_right (by omega) h2
    omega
theorem newton_ge {n x : Int} (hn : 0 ≤ n) (hx : 0 < x) : isq n ≤ (x + n / x) / 2 := by
  have h1 := isq_le hn
  generalize isq n = s at *
  have h2 : 0 ≤ (x - s) * (x - s) := by
    rcases Int.le_total 0 (x - s) with h | h
    · exact Int.mul_nonneg h h
    · have := Int.mul_nonneg (show (0:Int) ≤ -(x - s) by omega) (show (0:Int) ≤ -(x - s) by omega)
      rwa [Int.neg_mul_neg] at this
  have h3 : (x - s) * (x - s) = x * x - 2 * (s * x) + s * s := by
    rw [Int.sub_mul, Int.mul_sub, Int.mul_sub, Int.mul_comm x s]; omega
  have h4 : (2 * s - x) * x ≤ n := by
    have e : (2 * s - x) * x = 2 * (s * x) - x * x := by rw [Int.sub_mul, Int.mul_assoc]
    omega
  have h5 : 2 * s - x ≤ n / x := (Int.le_ediv_iff_mul_le hx).mpr h4
  omega
theorem newton_end {n x : Int} (hx : 0 < x) (h : x ≤ (x + n / x) / 2) : x * x ≤ n := by
  have h1 : x ≤ n / x := by omega
  exact (Int.le_ediv_iff_mul_le hx).mp h1
theorem sq_big {n x : Int} (hn : 0 ≤ n) (hx : 0 ≤ x) (h : n < x * x) : isq n ≤ x := by
  have h1 := isq_le hn
  have := lt_of_sq hx (by omega : isq n * isq n < x * x)
  omega
/-! ### common divisors -/
theorem gcd_step {l h : Int} (hl : 0 ≤ l) (hh : 0 < h) : Int.gcd h (l.fmod h) = Int.gcd l h := by
  obtain ⟨a, rfl⟩ := Int.eq_ofNat_of_zero_le hl
  obtain ⟨b, rfl⟩ := Int.eq_ofNat_of_zero_le (Int.le_of_lt hh)
  rw [Int.fmod_eq_emod_of_nonneg _ (by omega)]
  show Nat.gcd (b : Int).natAbs ((a : Int) % (b : Int)).natAbs = Nat.gcd (a : Int).natAbs (b : Int).natAbs
  rw [← Int.natCast_emod, Int.natAbs_natCast, Int.natAbs_natCast, Int.natAbs_natCast, Nat.gcd_comm b, Nat.gcd_comm a b]
  exact (Nat.gcd_rec b a).symm
theorem gcd_end {l : Int} (hl : 0 ≤ l) : ((Int.gcd l 0 : Nat) : Int) = l := by
  rw [Int.gcd_zero_right]; omega
end DL
namespace DL
open PySem PySem.Spec PyProof.Rows L2
theorem gIn_two {i a b : Int} {M : Mem} {Q : DQ} : gIn false (.int i) (.lst [.int a, .int b]) M Q = Q (.bl (i == a || i == b)) M := by
  show Q (.bl ((a == i || (b == i || false)) != false)) M = _
  have e : ((a == i || (b == i || false)) != false) = (i == a || i == b) := by
    rw [Bool.bne_false, Bool.or_false, Bool.beq_comm (a := a), Bool.beq_comm (a := b)]
  rw [e]
theorem gRepr_bl {b : Bool} {M : Mem} {Q : DQ} : gRepr [.bl b] M Q = Q (.str (PyData.shown (.bool b))) M := by
  cases b <;> rfl
local macro_rules | `(tactic| walk_at "rd") => `(tactic| simp only [startD, List.map, List.replicate, List.length_cons, List.length_nil, List.append_eq, List.append_nil, List.nil_append, List.cons_append, Nat.reduceSub, Nat.reduceAdd, List.getElem?_cons_zero, List.getElem?_cons_succ, List.set_cons_zero, List.set_cons_succ,
  dC, dVar, dOp, dTru, gTru, tru, dChain, dAnd, dOr, dNot, dAndV, dOrV, dNotV, dIf, dNeg, gNeg, dNil, dCons, dTup, dLst, dOwn, gIx, rBin, gAdd, gCmpI, dCall, dCallK, dSeq, dNext, dDrop, dRet, dRetN, dIfS, dName, dGNil, dGCons, dGTup, dSub, gSetL, dAsg, dPar, dPar3, dAug, gIpI, dSeqI, gSeqI, dRngI, gRng1, gRng2, dCB, gAbs, gInt, gMax, gMin, gGcd, gLen, lenD, gIsi, tyM, tyD, dBits, gBits, dMet, gAppend, dPart, dNoPart, dSl, dEnds, gIs, isB, dNever, dFor, dLc, wipeD, dYes,
  sizeLine_eq, Nat.reduceLeDiff, gEq_int, gNe_int, gEq_strs, gNe_strs, gIn_two, gRepr_bl, rs_lst, rs_tup, rs_scr, rs_int, atI_0, atI_1, atI_2, atI_3, atI_4, atI_5, ixN_30, ixN_31, ixN_32, gEq_bl, gNe_bl, decide_eq_true_eq, beq_iff_eq, Bool.not_eq_true', beq_eq_false_iff_ne, decide_eq_false_iff_not, Bool.not_true, Bool.not_false, if_true, if_false, Bool.false_eq_true, ite_true, ite_false, true_and, and_true, ne_eq, Bool.bne_false, Bool.bne_true, reduceCtorEq])
/-! ### sizes -/
theorem sm_big {i : Int} (h1 : -BIG ≤ i) (h2 : i ≤ BIG) : Sm i := by
  have := log_of_big h1 h2
  unfold Sm; omega
theorem sm_big8 {i : Int} (h1 : -(8 * BIG) ≤ i) (h2 : i ≤ 8 * BIG) : Sm i := by
  refine Sm.of 4004 ?_ (by decide)
  have h3 : (2 : Nat) ^ 4004 = 16 * BIGN := by unfold BIGN; rw [Nat.pow_add 2 4000 4, Nat.mul_comm]
  have h4 := bign_pos
  rw [h3]
  unfold BIG at h1 h2
  omega
theorem cdiv_big {a i : Int} (h0 : i ≠ 0) (h1 : -(8 * BIG) ≤ i) (h2 : i ≤ 8 * BIG) : CDiv a i := by
  refine ⟨h0, Nat.lt_of_lt_of_le (log2_of 4004 ?_ (by decide)) (by decide)⟩
  have h3 : (2 : Nat) ^ 4004 = 16 * BIGN := by unfold BIGN; rw [Nat.pow_add 2 4000 4, Nat.mul_comm]
  have h4 := bign_pos
  rw [h3]
  unfold BIG at h1 h2
  omega
theorem fdiv_pos {a b : Int} (h : 0 < b) : a.fdiv b = a / b := Int.fdiv_eq_ediv_of_nonneg a (Int.le_of_lt h)
theorem fmod_pos {a b : Int} (h : 0 < b) : a.fmod b = a % b := Int.fmod_eq_emod_of_nonneg a (Int.le_of_lt h)
/-! ### kinds -/
theorem kb_NoneType_int : kitB "NoneType" "int" = some false := by decide +kernel
theorem kb_bool_int : kitB "bool" "int" = some true := by decide +kernel
theorem kb_int_int : kitB "int" "int" = some true := by decide +kernel
theorem kb_str_int : kitB "str" "int" = some false := by decide +kernel
theorem kb_tuple_int : kitB "tuple" "int" = some false := by decide +kernel
theorem kb_list_int : kitB "list" "int" = some false := by decide +kernel
theorem kb_dict_int : kitB "dict" "int" = some false := by decide +kernel
theorem kb_NoneType_bool : kitB "NoneType" "bool" = some false := by decide +kernel
theorem kb_bool_bool : kitB "bool" "bool" = some true := by decide +kernel
theorem kb_int_bool : kitB "int" "bool" = some false := by decide +kernel
theorem kb_str_bool : kitB "str" "bool" = some false := by decide +kernel
theorem kb_tuple_bool : kitB "tuple" "bool" = some false := by decide +kernel
theorem kb_list_bool : kitB "list" "bool" = some false := by decide +kernel
theorem kb_dict_bool : kitB "dict" "bool" = some false := by decide +kernel
theorem kb_NoneType_tuple : kitB "NoneType" "tuple" = some false := by decide +kernel
theorem kb_bool_tuple : kitB "bool" "tuple" = some false := by decide +kernel
theorem kb_int_tuple : kitB "int" "tuple" = some false := by decide +kernel
theorem kb_str_tuple : kitB "str" "tuple" = some false := by decide +kernel
theorem kb_tuple_tuple : kitB "tuple" "tuple" = some true := by decide +kernel
theorem kb_list_tuple : kitB "list" "tuple" = some false := by decide +kernel
theorem kb_dict_tuple : kitB "dict" "tuple" = some false := by decide +kernel
theorem kb_NoneType_list : kitB "NoneType" "list" = some false := by decide +kernel
theorem kb_bool_list : kitB "bool" "list" = some false := by decide +kernel
theorem kb_int_list : kitB "int" "list" = some false := by decide +kernel
theorem kb_str_list : kitB "str" "list" = some false := by decide +kernel
theorem kb_tuple_list : kitB "tuple" "list" = some false := by decide +kernel
theorem kb_list_list : kitB "list" "list" = some true := by decide +kernel
theorem kb_dict_list : kitB "dict" "list" = some false := by decide +kernel
local macro_rules | `(tactic| walk_at "kb") => `(tactic| simp only [kb_NoneType_list, kb_bool_list, kb_int_list, kb_str_list, kb_tuple_list, kb_list_list, kb_dict_list, kb_NoneType_int, kb_bool_int, kb_int_int, kb_str_int, kb_tuple_int, kb_list_int, kb_dict_int, kb_NoneType_bool, kb_bool_bool, kb_int_bool, kb_str_bool, kb_tuple_bool, kb_list_bool, kb_dict_bool, kb_NoneType_tuple, kb_bool_tuple, kb_int_tuple, kb_str_tuple, kb_tuple_tuple, kb_list_tuple, kb_dict_tuple, if_true, if_false, Bool.false_eq_true, ite_true, ite_false, Bool.not_true, Bool.not_false])
/-! ### measures -/
def isW : D → Bool
  | .int _ => true
  | _ => false
/-- is_whole(d), d any data -/
def sp_is_whole : DSp := fun ds M Q _ => ∃ d T, ds = [d] ∧ tyM M d = some T ∧ Q (.bl (isW d)) M
theorem rd_is_whole : ∀ ds M Q, ds.length = 1 → sp_is_whole ds M Q DX0 → t_is_whole (dEnds M Q) (startD 1 ds) M := by
  rintro _ M Q _ ⟨d, T, rfl, ht, q⟩
  unfold t_is_whole
  cases d <;> first | (cases ht; done) | skip
  all_goals walk_at "rd"
  case own k =>
    unfold tyM at ht
    dsimp only at ht
    split at ht
    · rename_i ds hk
      simp only [hk]
      walk_at "kb"
      exact rtq q
    · cases ht
  all_goals walk_at "kb"
  all_goals exact rtq q
/-- the common divisor of two ints -/
def sp_gcd : DSp := fun ds M Q _ => ∃ a b : Int, ds = [.int a, .int b] ∧ Q (.int (Int.gcd a b)) M
theorem gcd_abs (a b : Int) : Int.gcd (if a < 0 then -a else a) (if b < 0 then -b else b) = Int.gcd a b := by
  split <;> split <;> simp
theorem rd_common_by : ∀ ds M Q, ds.length = 2 → sp_gcd ds M Q DX0 → t_common_by (dEnds M Q) (startD 4 ds) M := by
  rintro _ M Q _ ⟨a, b, rfl, q⟩
  unfold t_common_by
  walk_at "rd"
  refine dwhile_of (fun n r M' => ∃ l h : Int, r = [some (.int a), some (.int b), some (.int l), some (.int h)] ∧ M' = M ∧ 0 ≤ l ∧ 0 ≤ h ∧ Int.gcd l h = Int.gcd a b ∧ n = h.toNat) _ ⟨_, _, rfl, rfl, ?_, ?_, gcd_abs a b, rfl⟩ ?_
  · split <;> omega
  · split <;> omega
  · rintro n r M' ⟨l, h, rfl, rfl, hl, hh, hg, rfl⟩
    walk_at "rd"
    split
    · rename_i h0
      have hp : 0 < h := by omega
      refine ⟨h0, _, ?_, h, l.fmod h, rfl, hh, ?_, (gcd_step hl hp).trans hg, rfl⟩
      · rw [fmod_pos hp]
        have := Int.emod_lt_of_pos l hp
        have := Int.emod_nonneg l h0
        omega
      · rw [fmod_pos hp]; exact Int.emod_nonneg l h0
    · rename_i h0
      have h0 : h = 0 := by omega
      subst h0
      rw [← hg, gcd_end hl] at q
      exact rtq q
/-- the whole root of a count -/
def sp_isq : DSp := fun ds M Q _ => ∃ n : Int, ds = [.int n] ∧ 0 ≤ n ∧ n ≤ BIG ∧ Q (.int (isq n)) M
theorem rd_root_floor_by : ∀ ds M Q, ds.length = 1 → sp_isq ds M Q DX0 → t_root_floor_by (dEnds M Q) (startD 3 ds) M := by
  rintro _ M Q _ ⟨n, rfl, h0, hB, q⟩
  unfold t_root_floor_by
  walk_at "rd"
  split
  · rename_i h2
    have : isq n = n := by
      rcases (by omega : n = 0 ∨ n = 1) with e | e <;> subst e
      · exact isq_self (r := 0) (by decide)
      · exact isq_self (r := 1) (by decide)
    rw [this] at q
    exact rtq q
  · rename_i h2
    refine dwhile_of (fun m r M' => ∃ f : Int, r = [some (.int n), some (.int f), none] ∧ M' = M ∧ 1 ≤ f ∧ f ≤ 2 * n ∧ m = (2 * n + 2 - f).toNat) _ ⟨1, rfl, rfl, by omega, by omega, rfl⟩ ?_
    rintro m r M' ⟨f, rfl, rfl, hf, hf2, rfl⟩
    walk_at "rd"
    have sf : Sm f := sm_big8 (by omega) (by omega)
    refine ⟨⟨sf, sf⟩, ?_⟩
    split
    · rename_i hc
      refine ⟨⟨Sm.of 4 (by decide), sf⟩, _, ?_, 2 * f, rfl, by omega, ?_, rfl⟩
      · have : f * 1 ≤ f * f := Int.mul_le_mul_of_nonneg_left hf (by omega)
        omega
      · have : f * 1 ≤ f * f := Int.mul_le_mul_of_nonneg_left hf (by omega)
        omega
    · rename_i hc
      have dv : ∀ x : Int, 1 ≤ x → x ≤ 2 * n → CDiv n x := fun x h1 h3 => cdiv_big (by omega) (by omega) (by omega)
      have d2 : ∀ x : Int, CDiv x 2 := fun x => ⟨by decide, by decide⟩
      refine ⟨dv f hf hf2, d2 _, ?_⟩
      refine dwhile_of (fun m r M'' => ∃ x : Int, r = [some (.int n), some (.int x), some (.int ((x + n.fdiv x).fdiv 2))] ∧ M'' = M' ∧ 1 ≤ x ∧ x ≤ 2 * n ∧ isq n ≤ x ∧ m = x.toNat) _ ⟨f, rfl, rfl, hf, hf2, sq_big h0 (by omega) (by omega), rfl⟩ ?_
      rintro m r M'' ⟨x, rfl, rfl, hx, hx2, hs, rfl⟩
      walk_at "rd"
      have e1 : n.fdiv x = n / x := fdiv_pos (by omega)
      have e2 : ∀ y : Int, y.fdiv 2 = y / 2 := fun y => fdiv_pos (by decide)
      rw [e2, e1]
      have ng := newton_ge h0 (x := x) (by omega)
      have h1q : 1 ≤ isq n := by
        by_cases z : 1 ≤ isq n
        · exact z
        · have e : isq n = 0 := by have := isq_nn n; omega
          have := isq_lt h0
          rw [e] at this
          omega
      split
      · rename_i hlt
        refine ⟨dv _ (by omega) (by omega), d2 _, _, ?_, (x + n / x) / 2, ?_, by omega, by omega, ng, rfl⟩
        · omega
        · rw [e2]
      · rename_i hge
        have e : isq n = x := isq_uni (by omega) (newton_end (by omega) (by omega)) (by
          have h3 := isq_lt h0
          have : (isq n + 1) * (isq n + 1) ≤ (x + 1) * (x + 1) := sq_le (by omega) (by omega)
          omega)
        rw [e] at q
        exact rtq q
end DL
namespace DL
open PySem PySem.Spec PyProof.Rows L2
local macro_rules | `(tactic| walk_at "rd") => `(tactic| simp only [startD, List.map, List.replicate, List.length_cons, List.length_nil, List.append_eq, List.append_nil, List.nil_append, List.cons_append, Nat.reduceSub, Nat.reduceAdd, List.getElem?_cons_zero, List.getElem?_cons_succ, List.set_cons_zero, List.set_cons_succ,
  dC, dVar, dOp, dTru, gTru, tru, dChain, dAnd, dOr, dNot, dAndV, dOrV, dNotV, dIf, dNeg, gNeg, dNil, dCons, dTup, dLst, dOwn, gIx, rBin, gAdd, gCmpI, dCall, dCallK, dSeq, dNext, dDrop, dRet, dRetN, dIfS, dName, dGNil, dGCons, dGTup, dSub, gSetL, dAsg, dPar, dPar3, dAug, gIpI, dSeqI, gSeqI, dRngI, gRng1, gRng2, dCB, gAbs, gInt, gMax, gMin, gGcd, gLen, lenD, gIsi, tyM, tyD, dBits, gBits, dMet, gAppend, dPart, dNoPart, dSl, dEnds, gIs, isB, dNever, dFor, dLc, wipeD, dYes,
  sizeLine_eq, Nat.reduceLeDiff, gEq_int, gNe_int, gEq_strs, gNe_strs, gIn_two, gRepr_bl, rs_lst, rs_tup, rs_scr, rs_int, atI_0, atI_1, atI_2, atI_3, atI_4, atI_5, ixN_30, ixN_31, ixN_32, gEq_bl, gNe_bl, decide_eq_true_eq, beq_iff_eq, Bool.not_eq_true', beq_eq_false_iff_ne, decide_eq_false_iff_not, Bool.not_true, Bool.not_false, if_true, if_false, Bool.false_eq_true, ite_true, ite_false, true_and, and_true, ne_eq, Bool.bne_false, Bool.bne_true, reduceCtorEq])
local macro_rules | `(tactic| walk_at "rh") => `(tactic| simp only [*, startD, List.map, List.replicate, List.length_cons, List.length_nil, List.append_eq, List.append_nil, List.nil_append, List.cons_append, Nat.reduceSub, Nat.reduceAdd, List.getElem?_cons_zero, List.getElem?_cons_succ, List.set_cons_zero, List.set_cons_succ,
  dC, dVar, dOp, dTru, gTru, tru, dChain, dAnd, dOr, dNot, dAndV, dOrV, dNotV, dIf, dNeg, gNeg, dNil, dCons, dTup, dLst, dOwn, gIx, rBin, gAdd, gCmpI, dCall, dCallK, dSeq, dNext, dDrop, dRet, dRetN, dIfS, dName, dGNil, dGCons, dGTup, dSub, gSetL, dAsg, dPar, dPar3, dAug, gIpI, dSeqI, gSeqI, dRngI, gRng1, gRng2, dCB, gAbs, gInt, gMax, gMin, gGcd, gLen, lenD, gIsi, tyM, tyD, dBits, gBits, dMet, gAppend, dPart, dNoPart, dSl, dEnds, gIs, isB, dNever, dFor, dLc, wipeD, dYes,
  sizeLine_eq, Nat.reduceLeDiff, gEq_int, gNe_int, gEq_strs, gNe_strs, gIn_two, gRepr_bl, rs_lst, rs_tup, rs_scr, rs_int, atI_0, atI_1, atI_2, atI_3, atI_4, atI_5, ixN_30, ixN_31, ixN_32, gEq_bl, gNe_bl, decide_eq_true_eq, beq_iff_eq, Bool.not_eq_true', beq_eq_false_iff_ne, decide_eq_false_iff_not, Bool.not_true, Bool.not_false, if_true, if_false, Bool.false_eq_true, ite_true, ite_false, true_and, and_true, ne_eq, Bool.bne_false, Bool.bne_true, reduceCtorEq])
local macro_rules | `(tactic| walk_at "kb") => `(tactic| simp only [kb_NoneType_list, kb_bool_list, kb_int_list, kb_str_list, kb_tuple_list, kb_list_list, kb_dict_list, kb_NoneType_int, kb_bool_int, kb_int_int, kb_str_int, kb_tuple_int, kb_list_int, kb_dict_int, kb_NoneType_bool, kb_bool_bool, kb_int_bool, kb_str_bool, kb_tuple_bool, kb_list_bool, kb_dict_bool, kb_NoneType_tuple, kb_bool_tuple, kb_int_tuple, kb_str_tuple, kb_tuple_tuple, kb_list_tuple, kb_dict_tuple, if_true, if_false, Bool.false_eq_true, ite_true, ite_false, Bool.not_true, Bool.not_false])
/-! ### bounds and measures -/
theorem isW_iff {d : D} : isW d = true ↔ ∃ i, d = .int i := by cases d <;> simp [isW]
/-! ### root numbers -/
/-- the items that are no whole numbers -/
def bads (l : List D) : List D := l.filterMap fun e => if isW e = true then none else some e
theorem bads_fine {n : Nat} {l : List D} (h : ∀ e ∈ l, fine n e = true) : fineAll n (bads l) = true := by
  rw [fineAll_iff]
  intro d hd
  obtain ⟨e, he, hs⟩ := List.mem_filterMap.mp hd
  split at hs
  · cases hs
  · cases hs; exact h _ he
theorem bads_nil {l : List D} (h : (bads l).isEmpty = true) : ∀ e ∈ l, isW e = true := by
  intro e he
  have h0 : bads l = [] := List.isEmpty_iff.mp h
  by_cases hw : isW e = true
  · exact hw
  · have : e ∈ bads l := List.mem_filterMap.mpr ⟨e, he, by rw [if_neg hw]⟩
    rw [h0] at this; cases this
theorem bads_some {l : List D} (h : (bads l).isEmpty = false) : ∃ e ∈ l, isW e = false := by
  cases hb : bads l with
  | nil => rw [hb] at h; cases h
  | cons x xs =>
    have : x ∈ bads l := by rw [hb]; exact List.mem_cons_self
    obtain ⟨e, he, hs⟩ := List.mem_filterMap.mp this
    refine ⟨e, he, ?_⟩
    split at hs
    · cases hs
    · rename_i hw; exact Bool.eq_false_iff.mpr hw
/-! ### the least form of a root number -/
def isSq (m : Int) : Prop := isq m * isq m = m
instance (m : Int) : Decidable (isSq m) := inferInstanceAs (Decidable (_ = _))
def rnX (m x y : Int) : Int := if isSq m then x + y * isq m else x
def rnY (m y : Int) : Int := if isSq m then 0 else y
def rnC (m x y b : Int) : Int := if b < 0 then 0 - (Int.gcd (Int.gcd (rnX m x y) (rnY m y) : Int) b : Int) else (Int.gcd (Int.gcd (rnX m x y) (rnY m y) : Int) b : Int)
def rootN (m x y b : Int) : D := .tup [.int ((rnX m x y).fdiv (rnC m x y b)), .int ((rnY m y).fdiv (rnC m x y b)), .int (b.fdiv (rnC m x y b))]
def sp_root_by : DSp := fun ds M Q _ => ∃ m x y b : Int, ds = [.int m, .int x, .int y, .int b] ∧ 0 ≤ m ∧ m ≤ BIG ∧ -BIG ≤ y ∧ y ≤ BIG ∧ -BIG ≤ b ∧ b ≤ BIG ∧ b ≠ 0 ∧ Q (rootN m x y b) M
theorem gcd_bound {g b : Int} (hb : b ≠ 0) : (1 : Int) ≤ Int.gcd g b ∧ (Int.gcd g b : Int) ≤ b.natAbs := by
  have h1 : 0 < Int.gcd g b := Int.gcd_pos_of_ne_zero_right g hb
  have h2 : Int.gcd g b ≤ b.natAbs := Nat.le_of_dvd (by omega) (Int.gcd_dvd_natAbs_right g b)
  omega
theorem rnC_ok {m x y b : Int} (hb : b ≠ 0) (h1 : -BIG ≤ b) (h2 : b ≤ BIG) (a : Int) : CDiv a (rnC m x y b) := by
  have := gcd_bound (g := (Int.gcd (rnX m x y) (rnY m y) : Int)) hb
  unfold rnC
  split <;> exact cdiv_big (by omega) (by omega) (by omega)
theorem rd_root_by : ∀ ds M Q, ds.length = 4 → sp_root_by ds M Q DX0 → t_root_by sp_isq sp_gcd (dEnds M Q) (startD 6 ds) M := by
  rintro _ M Q - ⟨m, x, y, b, rfl, h0, hB, y1, y2, b1, b2, hb, q⟩
  unfold t_root_by
  walk_at "rd"
  have hs : Sm (isq m) := sm_big (by have := isq_nn m; omega) (Int.le_trans (isq_le_self h0) hB)
  have hy : Sm y := sm_big y1 y2
  have cd := fun a => rnC_ok (m := m) (x := x) (y := y) hb b1 b2 a
  unfold rootN at q
  refine ⟨m, rfl, h0, hB, ⟨hs, hs⟩, ?_⟩
  by_cases hm : isSq m
  · rw [if_pos (show isq m * isq m = m from hm)]
    refine ⟨⟨hy, hs⟩, ?_⟩
    have ex : rnX m x y = x + y * isq m := if_pos hm
    have ey : rnY m y = 0 := if_pos hm
    refine ⟨_, _, rfl, _, _, rfl, ?_⟩
    rw [ex, ey] at q
    dsimp only
    by_cases h : b < 0
    · have ec : rnC m x y b = 0 - (Int.gcd (Int.gcd (x + y * isq m) 0 : Int) b : Int) := by unfold rnC; rw [if_pos h, ex, ey]
      rw [if_pos h, ← ec]
      exact ⟨cd _, cd _, cd _, rtq q⟩
    · have ec : rnC m x y b = (Int.gcd (Int.gcd (x + y * isq m) 0 : Int) b : Int) := by unfold rnC; rw [if_neg h, ex, ey]
      rw [if_neg h, ← ec]
      exact ⟨cd _, cd _, cd _, rtq q⟩
  · rw [if_neg (show ¬ isq m * isq m = m from hm)]
    have ex : rnX m x y = x := if_neg hm
    have ey : rnY m y = y := if_neg hm
    refine ⟨_, _, rfl, _, _, rfl, ?_⟩
    dsimp only
    by_cases h : b < 0
    · have ec : rnC m x y b = 0 - (Int.gcd (Int.gcd x y : Int) b : Int) := by unfold rnC; rw [if_pos h, ex, ey]
      rw [if_pos h, ← ec]
      rw [ex, ey] at q
      exact ⟨cd _, cd _, cd _, rtq q⟩
    · have ec : rnC m x y b = (Int.gcd (Int.gcd x y : Int) b : Int) := by unfold rnC; rw [if_neg h, ex, ey]
      rw [if_neg h, ← ec]
      rw [ex, ey] at q
      exact ⟨cd _, cd _, cd _, rtq q⟩
end DL
namespace DL
open PySem PySem.Spec PyProof.Rows L2
local macro_rules | `(tactic| walk_at "rd") => `(tactic| simp only [startD, List.map, List.replicate, List.length_cons, List.length_nil, List.append_eq, List.append_nil, List.nil_append, List.cons_append, Nat.reduceSub, Nat.reduceAdd, List.getElem?_cons_zero, List.getElem?_cons_succ, List.set_cons_zero, List.set_cons_succ,
  dC, dVar, dOp, dTru, gTru, tru, dChain, dAnd, dOr, dNot, dAndV, dOrV, dNotV, dIf, dNeg, gNeg, dNil, dCons, dTup, dLst, dOwn, gIx, rBin, gAdd, gCmpI, dCall, dCallK, dSeq, dNext, dDrop, dRet, dRetN, dIfS, dName, dGNil, dGCons, dGTup, dSub, gSetL, dAsg, dPar, dPar3, dAug, gIpI, dSeqI, gSeqI, dRngI, gRng1, gRng2, dCB, gAbs, gInt, gMax, gMin, gGcd, gLen, lenD, gIsi, tyM, tyD, dBits, gBits, dMet, gAppend, dPart, dNoPart, dSl, dEnds, gIs, isB, dNever, dFor, dLc, wipeD, dYes,
  sizeLine_eq, Nat.reduceLeDiff, gEq_int, gNe_int, gEq_strs, gNe_strs, gIn_two, gRepr_bl, rs_lst, rs_tup, rs_scr, rs_int, atI_0, atI_1, atI_2, atI_3, atI_4, atI_5, ixN_30, ixN_31, ixN_32, gEq_bl, gNe_bl, decide_eq_true_eq, beq_iff_eq, Bool.not_eq_true', beq_eq_false_iff_ne, decide_eq_false_iff_not, Bool.not_true, Bool.not_false, if_true, if_false, Bool.false_eq_true, ite_true, ite_false, true_and, and_true, ne_eq, Bool.bne_false, Bool.bne_true, reduceCtorEq])
local macro_rules | `(tactic| walk_at "rh") => `(tactic| simp only [*, startD, List.map, List.replicate, List.length_cons, List.length_nil, List.append_eq, List.append_nil, List.nil_append, List.cons_append, Nat.reduceSub, Nat.reduceAdd, List.getElem?_cons_zero, List.getElem?_cons_succ, List.set_cons_zero, List.set_cons_succ,
  dC, dVar, dOp, dTru, gTru, tru, dChain, dAnd, dOr, dNot, dAndV, dOrV, dNotV, dIf, dNeg, gNeg, dNil, dCons, dTup, dLst, dOwn, gIx, rBin, gAdd, gCmpI, dCall, dCallK, dSeq, dNext, dDrop, dRet, dRetN, dIfS, dName, dGNil, dGCons, dGTup, dSub, gSetL, dAsg, dPar, dPar3, dAug, gIpI, dSeqI, gSeqI, dRngI, gRng1, gRng2, dCB, gAbs, gInt, gMax, gMin, gGcd, gLen, lenD, gIsi, tyM, tyD, dBits, gBits, dMet, gAppend, dPart, dNoPart, dSl, dEnds, gIs, isB, dNever, dFor, dLc, wipeD, dYes,
  sizeLine_eq, Nat.reduceLeDiff, gEq_int, gNe_int, gEq_strs, gNe_strs, gIn_two, gRepr_bl, rs_lst, rs_tup, rs_scr, rs_int, atI_0, atI_1, atI_2, atI_3, atI_4, atI_5, ixN_30, ixN_31, ixN_32, gEq_bl, gNe_bl, decide_eq_true_eq, beq_iff_eq, Bool.not_eq_true', beq_eq_false_iff_ne, decide_eq_false_iff_not, Bool.not_true, Bool.not_false, if_true, if_false, Bool.false_eq_true, ite_true, ite_false, true_and, and_true, ne_eq, Bool.bne_false, Bool.bne_true, reduceCtorEq])
local macro_rules | `(tactic| walk_at "kb") => `(tactic| simp only [kb_NoneType_list, kb_bool_list, kb_int_list, kb_str_list, kb_tuple_list, kb_list_list, kb_dict_list, kb_NoneType_int, kb_bool_int, kb_int_int, kb_str_int, kb_tuple_int, kb_list_int, kb_dict_int, kb_NoneType_bool, kb_bool_bool, kb_int_bool, kb_str_bool, kb_tuple_bool, kb_list_bool, kb_dict_bool, kb_NoneType_tuple, kb_bool_tuple, kb_int_tuple, kb_str_tuple, kb_tuple_tuple, kb_list_tuple, kb_dict_tuple, if_true, if_false, Bool.false_eq_true, ite_true, ite_false, Bool.not_true, Bool.not_false])
/-! ### the law's own draws -/
theorem sm_of {i : Int} (n : Nat) (h1 : -(2 ^ n : Int) < i) (h2 : i < 2 ^ n) (hn : n ≤ 400000 := by decide) : Sm i := by
  refine Sm.of n ?_ hn
  have e : ((2 ^ n : Nat) : Int) = (2 : Int) ^ n := by rw [Int.natCast_pow]; rfl
  omega
theorem fm_range {a b : Int} (h : 0 < b) : 0 ≤ a.fmod b ∧ a.fmod b < b := by
  rw [fmod_pos h]
  exact ⟨Int.emod_nonneg _ (by omega), Int.emod_lt_of_pos _ h⟩
def P31 : Int := 2147483648
def P40 : Int := 1099511627776
def sp_hash : DSp := fun ds M Q _ => ∃ s c : Int, ds = [.int s, .int c] ∧ 0 ≤ s ∧ s < P31 ∧ 0 ≤ c ∧ c ≤ P40 ∧ ∀ v, 0 ≤ v → v < P31 → Q (.int v) M
/-- cell k is a generator that has counted n, at most -/
def Gn (k : Nat) (n : Int) (M : Mem) : Prop := ∃ a s c : Int, M[k]? = some (.lst [.int a, .int s, .int c]) ∧ 0 ≤ s ∧ s < P31 ∧ 0 ≤ c ∧ c ≤ n
/-- cell k alone has changed -/
def Gst (k : Nat) (n : Int) (M M' : Mem) : Prop := M'.length = M.length ∧ Gn k n M' ∧ ∀ i, i ≠ k → M'[i]? = M[i]?
theorem Gn.le {k : Nat} {n m : Int} {M : Mem} (h : Gn k n M) (hn : n ≤ m) : Gn k m M := by
  obtain ⟨a, s, c, h1, h2, h3, h4, h5⟩ := h
  exact ⟨a, s, c, h1, h2, h3, h4, by omega⟩
theorem Gst.refl {k : Nat} {n : Int} {M : Mem} (h : Gn k n M) : Gst k n M M := ⟨rfl, h, fun _ _ => rfl⟩
theorem Gst.trans {k : Nat} {n m : Int} {M M' M'' : Mem} (h : Gst k n M M') (g : Gst k m M' M'') : Gst k m M M'' :=
  ⟨g.1.trans h.1, g.2.1, fun i hi => (g.2.2 i hi).trans (h.2.2 i hi)⟩
theorem Gst.le {k : Nat} {n m : Int} {M M' : Mem} (h : Gst k n M M') (hn : n ≤ m) : Gst k m M M' := ⟨h.1, h.2.1.le hn, h.2.2⟩
theorem Gst.set {k : Nat} {n : Int} {M : Mem} {a s c : Int} (hk : k < M.length) (h2 : 0 ≤ s) (h3 : s < P31) (h4 : 0 ≤ c) (h5 : c ≤ n) : Gst k n M (M.set k (.lst [.int a, .int s, .int c])) :=
  ⟨List.length_set, ⟨a, s, c, List.getElem?_set_self hk, h2, h3, h4, h5⟩, fun _ hi => List.getElem?_set_ne (Ne.symm hi)⟩
/-- a def that has changed the generator alone -/
theorem Gst.rtq {k : Nat} {n : Int} {M M' : Mem} {Q : DQ} {d : D} (h : Gst k n M M') (q : Q d M') (hb : below M'.length d = true := by rfl) : Rtq M Q d M' := by
  refine rtqC q (Nat.le_of_eq h.1.symm) hb fun i c hc => ?_
  by_cases hi : i = k
  · subst hi
    obtain ⟨a, s, c', e, _⟩ := h.2.1
    rw [e] at hc
    cases hc
    exact .inr rfl
  · rw [h.2.2 i hi] at hc
    exact .inl hc
def sp_random : DSp := fun ds M Q _ => ∃ (k : Nat) (b n : Int), ds = [.own k, .int b] ∧ 0 < b ∧ b < 2 ^ 900 ∧ Gn k n M ∧ n ≤ P40 - 40 ∧ ∀ v M', 0 ≤ v → v < b → Gst k (n + 40) M M' → Q (.int v) M'
theorem bits_le {b : Int} {n : Nat} (h0 : 0 < b) (h : b < 2 ^ n) : Builtin.Int.intBits b ≤ n := by
  unfold Builtin.Int.intBits
  rw [if_neg (by simp; omega)]
  have h1 : b.natAbs < 2 ^ n := by
    have e : ((2 ^ n : Nat) : Int) = (2 : Int) ^ n := by rw [Int.natCast_pow]; rfl
    omega
  have := (Nat.log2_lt (by omega)).mpr h1
  omega
theorem rd_l_random_7821 : ∀ ds M Q, ds.length = 2 → sp_random ds M Q DX0 → t_l_random_7821 sp_hash (dEnds M Q) (startD 4 ds) M := by
  rintro _ M Q - ⟨k, b, n, rfl, b0, b1, ⟨a, s, c, hk, s0, s1, c0, c1⟩, hn, q⟩
  have kl : k < M.length := (List.getElem?_eq_some_iff.mp hk).1
  unfold t_l_random_7821
  walk_at "rd"
  have e0 : res M (.own k) = .lst [.int a, .int s, .int c] := by unfold res; dsimp only; rw [hk]
  simp only [e0, hk]
  walk_at "rd"
  by_cases ha : 0 < a
  · rw [if_pos ha]
    have := fm_range (a := a) b0
    refine ⟨(by omega : b ≠ 0), ⟨by omega, Nat.lt_of_lt_of_le (log2_of 900 (by
      have e : ((2 ^ 900 : Nat) : Int) = (2 : Int) ^ 900 := by rw [Int.natCast_pow]; rfl
      omega) (by decide)) (by decide)⟩, ?_⟩
    exact (Gst.set kl s0 s1 c0 (by omega)).rtq (q _ _ this.1 this.2 (Gst.set kl s0 s1 c0 (by omega)))
  · rw [if_neg ha]
    have hb := bits_le b0 b1
    generalize hbits : Builtin.Int.intBits b = bits at hb
    have ef : ((bits : Nat) : Int).fdiv 30 = (bits / 30 : Nat) := by rw [fdiv_pos (by decide)]; omega
    rw [ef]
    refine ⟨⟨by decide, by decide⟩, ⟨by omega, by omega⟩, ?_⟩
    have eT : (1 + ((bits / 30 : Nat) : Int)).toNat = 1 + bits / 30 := by omega
    rw [eT]
    generalize hT : 1 + bits / 30 = T
    have hT1 : T ≤ 31 := by omega
    refine ⟨fun i r M' => i ≤ T ∧ Gst k (n + i) M M' ∧ ∃ dr tn, r = [some (.own k), some (.int b), some (.int dr), tn] ∧ 0 ≤ dr ∧ dr < 2 ^ (32 * i), ⟨by omega, ⟨rfl, ⟨a, s, c, hk, s0, s1, c0, by omega⟩, fun _ _ => rfl⟩, 0, _, rfl, by decide, by decide⟩, ?_⟩
    rintro i r M' ⟨hi, hg, dr, tn, rfl, d0, d1⟩
    refine ⟨trivial, fun hl => ?_, fun d hd => ?_⟩
    · walk_at "rd"
      have := fm_range (a := dr) b0
      exact ⟨(by omega : b ≠ 0), hg.rtq (q _ _ this.1 this.2 (hg.le (by omega)))⟩
    · obtain ⟨hi2, rfl⟩ := rng_get.mp hd
      obtain ⟨a', s', c', hk', s0', s1', c0', c1'⟩ := hg.2.1
      have kl' : k < M'.length := (List.getElem?_eq_some_iff.mp hk').1
      have e1 : res M' (.own k) = .lst [.int a', .int s', .int c'] := by unfold res; dsimp only; rw [hk']
      walk_at "rd"
      simp only [e1, hk']
      walk_at "rd"
      have e2 : res (M'.set k (.lst [.int a', .int s', .int (c' + 1)])) (.own k) = .lst [.int a', .int s', .int (c' + 1)] := by unfold res; dsimp only; rw [List.getElem?_set_self kl']
      simp only [e2]
      walk_at "rd"
      have sd : Sm dr := sm_of (32 * i) (by have := Int.pow_pos (n := 2) (m := 32 * i) (by decide); omega) d1 (by omega)
      unfold P40 at hn
      refine ⟨⟨sd, sm_of 32 (by decide) (by decide)⟩, s', c' + 1, rfl, s0', s1', by omega, by unfold P40; omega, fun v v0 v1 => ?_⟩
      refine ⟨by omega, hg.trans (Gst.set kl' s0' s1' (by omega) (by omega)), _, _, rfl, by omega, ?_⟩
      unfold P31 at v1
      have e3 : (2 : Int) ^ (32 * (i + 1)) = 2 ^ (32 * i) * 4294967296 := by rw [Nat.mul_add, Int.pow_add]; rfl
      rw [e3]
      omega
def sp_cell : DSp := fun ds M Q _ => ∃ (ns : List Int) (i : Int), ds = [.scr ns, .int i] ∧ 0 ≤ i ∧ ∀ v, Q (.int v) M
theorem rd_l_cell_cf3b : ∀ ds M Q, ds.length = 2 → sp_cell ds M Q DX0 → t_l_cell_cf3b (dEnds M Q) (startD 2 ds) M := by
  rintro _ M Q - ⟨ns, i, rfl, i0, q⟩
  unfold t_l_cell_cf3b
  walk_at "rd"
  by_cases hi : i < (ns.length : Nat)
  · rw [if_pos hi]
    have e : i = (i.toNat : Nat) := by omega
    have hl : i.toNat < ns.length := by omega
    rw [e, atI_of _ hl, List.getElem?_eq_getElem hl]
    exact rtq (q _)
  · rw [if_neg hi]
    obtain ⟨xs, ex⟩ := cut_map ns none (some 1)
    unfold gSlL
    walk_at "rd"
    rw [ex]
    unfold gSum
    walk_at "rd"
    rw [intsD_map]
    exact ⟨(by decide : (1000003 : Int) ≠ 0), rtq (q _)⟩
def sp_generator : DSp := fun ds M Q _ => ∃ (ns : List Int) (i : Int), ds = [.scr ns, .int i] ∧ 0 ≤ i ∧ i < P31 ∧ ∀ M', M'.length = M.length + 1 → Gn M.length (1000 * i) M' → (∀ j, j < M.length → M'[j]? = M[j]?) → Q (.own M.length) M'
theorem rd_l_generator_b324 : ∀ ds M Q, ds.length = 2 → sp_generator ds M Q DX0 → t_l_generator_b324 sp_cell (dEnds M Q) (startD 3 ds) M := by
  rintro _ M Q - ⟨ns, i, rfl, i0, i1, q⟩
  unfold t_l_generator_b324
  walk_at "rd"
  refine ⟨ns, i, rfl, i0, fun v => ?_⟩
  dsimp only
  have cp : CPow 10 18 ∧ CPow 10 60 ∧ CPow (10 ^ Int.toNat 60) 10 := by refine ⟨?_, ?_, ?_⟩ <;> (unfold CPow; decide)
  have hi : Sm i := by unfold P31 at i1; exact sm_of 32 (by omega) (by omega)
  refine ⟨cp.1, cp.2.1, cp.2.2, ?_, (by decide : (2147483647 : Int) ≠ 0), ⟨Sm.of 20 (by decide), hi⟩, ?_⟩
  · have h1 : (0 : Int) < (10 ^ Int.toNat 60) ^ Int.toNat 10 := Int.pow_pos (Int.pow_pos (by decide))
    exact fun e => by rw [e] at h1; exact absurd h1 (by decide)
  · have g := fm_range (a := v) (b := 2147483647) (by decide)
    have hl : ∀ c : Own, (M ++ [c])[M.length]? = some c := fun c => by rw [List.getElem?_append_right (Nat.le_refl _), Nat.sub_self]; rfl
    refine rtqC (q _ (by simp) ⟨_, _, _, hl _, g.1, by unfold P31; omega, by omega, Int.le_refl _⟩ fun j hj => List.getElem?_append_left hj) (by simp) (by simp only [below]; exact decide_eq_true (by simp)) fun j c hc => ?_
    by_cases hj : j < M.length
    · rw [List.getElem?_append_left hj] at hc; exact .inl hc
    · have hj2 : j < M.length + 1 := by
        have := (List.getElem?_eq_some_iff.mp hc).1
        simpa using this
      have e : j = M.length := by omega
      subst e
      rw [hl] at hc
      cases hc
      exact .inr rfl
def P400 : Int := 2 ^ 400
theorem p400_900 : P400 < 2 ^ 900 := by
  unfold P400
  have h : (2 : Nat) ^ 400 < 2 ^ 900 := Nat.pow_lt_pow_right (by decide) (by decide)
  have e : ((2 ^ 400 : Nat) : Int) = (2 : Int) ^ 400 := by rw [Int.natCast_pow]; rfl
  have e2 : ((2 ^ 900 : Nat) : Int) = (2 : Int) ^ 900 := by rw [Int.natCast_pow]; rfl
  omega
theorem p400_ten {i : Nat} (h : i ≤ 110) : 5 * (10 : Int) ^ i + 10 ≤ P400 := by
  have h1 : (10 : Int) ^ i ≤ 10 ^ 110 := by
    have h0 : (10 : Nat) ^ i ≤ 10 ^ 110 := Nat.pow_le_pow_right (by decide) h
    have e : ((10 ^ i : Nat) : Int) = (10 : Int) ^ i := by rw [Int.natCast_pow]; rfl
    have e2 : ((10 ^ 110 : Nat) : Int) = (10 : Int) ^ 110 := by rw [Int.natCast_pow]; rfl
    omega
  have h2 : 5 * (10 : Int) ^ 110 + 10 ≤ P400 := by unfold P400; decide +kernel
  omega
end DL
namespace DL
open PySem PySem.Spec PyProof.Rows L2
local macro_rules | `(tactic| walk_at "rd") => `(tactic| simp only [startD, List.map, List.replicate, List.length_cons, List.length_nil, List.append_eq, List.append_nil, List.nil_append, List.cons_append, Nat.reduceSub, Nat.reduceAdd, List.getElem?_cons_zero, List.getElem?_cons_succ, List.set_cons_zero, List.set_cons_succ,
  dC, dVar, dOp, dTru, gTru, tru, dChain, dAnd, dOr, dNot, dAndV, dOrV, dNotV, dIf, dNeg, gNeg, dNil, dCons, dTup, dLst, dOwn, gIx, rBin, gAdd, gCmpI, dCall, dCallK, dSeq, dNext, dDrop, dRet, dRetN, dIfS, dName, dGNil, dGCons, dGTup, dSub, gSetL, dAsg, dPar, dPar3, dAug, gIpI, dSeqI, gSeqI, dRngI, gRng1, gRng2, dCB, gAbs, gInt, gMax, gMin, gGcd, gLen, lenD, gIsi, tyM, tyD, dBits, gBits, dMet, gAppend, dPart, dNoPart, dSl, dEnds, gIs, isB, dNever, dFor, dLc, wipeD, dYes,
  sizeLine_eq, Nat.reduceLeDiff, gEq_int, gNe_int, gEq_strs, gNe_strs, gIn_two, gRepr_bl, rs_lst, rs_tup, rs_scr, rs_int, atI_0, atI_1, atI_2, atI_3, atI_4, atI_5, ixN_30, ixN_31, ixN_32, gEq_bl, gNe_bl, decide_eq_true_eq, beq_iff_eq, Bool.not_eq_true', beq_eq_false_iff_ne, decide_eq_false_iff_not, Bool.not_true, Bool.not_false, if_true, if_false, Bool.false_eq_true, ite_true, ite_false, true_and, and_true, ne_eq, Bool.bne_false, Bool.bne_true, reduceCtorEq])
local macro_rules | `(tactic| walk_at "rh") => `(tactic| simp only [*, startD, List.map, List.replicate, List.length_cons, List.length_nil, List.append_eq, List.append_nil, List.nil_append, List.cons_append, Nat.reduceSub, Nat.reduceAdd, List.getElem?_cons_zero, List.getElem?_cons_succ, List.set_cons_zero, List.set_cons_succ,
  dC, dVar, dOp, dTru, gTru, tru, dChain, dAnd, dOr, dNot, dAndV, dOrV, dNotV, dIf, dNeg, gNeg, dNil, dCons, dTup, dLst, dOwn, gIx, rBin, gAdd, gCmpI, dCall, dCallK, dSeq, dNext, dDrop, dRet, dRetN, dIfS, dName, dGNil, dGCons, dGTup, dSub, gSetL, dAsg, dPar, dPar3, dAug, gIpI, dSeqI, gSeqI, dRngI, gRng1, gRng2, dCB, gAbs, gInt, gMax, gMin, gGcd, gLen, lenD, gIsi, tyM, tyD, dBits, gBits, dMet, gAppend, dPart, dNoPart, dSl, dEnds, gIs, isB, dNever, dFor, dLc, wipeD, dYes,
  sizeLine_eq, Nat.reduceLeDiff, gEq_int, gNe_int, gEq_strs, gNe_strs, gIn_two, gRepr_bl, rs_lst, rs_tup, rs_scr, rs_int, atI_0, atI_1, atI_2, atI_3, atI_4, atI_5, ixN_30, ixN_31, ixN_32, gEq_bl, gNe_bl, decide_eq_true_eq, beq_iff_eq, Bool.not_eq_true', beq_eq_false_iff_ne, decide_eq_false_iff_not, Bool.not_true, Bool.not_false, if_true, if_false, Bool.false_eq_true, ite_true, ite_false, true_and, and_true, ne_eq, Bool.bne_false, Bool.bne_true, reduceCtorEq])
local macro_rules | `(tactic| walk_at "kb") => `(tactic| simp only [kb_NoneType_list, kb_bool_list, kb_int_list, kb_str_list, kb_tuple_list, kb_list_list, kb_dict_list, kb_NoneType_int, kb_bool_int, kb_int_int, kb_str_int, kb_tuple_int, kb_list_int, kb_dict_int, kb_NoneType_bool, kb_bool_bool, kb_int_bool, kb_str_bool, kb_tuple_bool, kb_list_bool, kb_dict_bool, kb_NoneType_tuple, kb_bool_tuple, kb_int_tuple, kb_str_tuple, kb_tuple_tuple, kb_list_tuple, kb_dict_tuple, if_true, if_false, Bool.false_eq_true, ite_true, ite_false, Bool.not_true, Bool.not_false])
theorem fine_ty {n : Nat} {d : D} (M : Mem) (h : fine n d = true) : ∃ T, tyM M d = some T := by
  cases d <;> first | exact ⟨_, rfl⟩ | (simp [fine] at h)
theorem dSeq_open {a b : DTS} {E : DEnds} {r : Env} {M : Mem} (h : ∀ B : Env → Mem → Prop, b E = B → a { E with nx := B } r M) : dSeq a b E r M := h _ rfl
/-! ### the least form: scaled, its size -/
theorem gcd_dvd3 (X Y b : Int) : (Int.gcd (Int.gcd X Y : Int) b : Int) ∣ X ∧ (Int.gcd (Int.gcd X Y : Int) b : Int) ∣ Y ∧ (Int.gcd (Int.gcd X Y : Int) b : Int) ∣ b :=
  ⟨Int.dvd_trans (Int.gcd_dvd_left _ _) (Int.gcd_dvd_left _ _), Int.dvd_trans (Int.gcd_dvd_left _ _) (Int.gcd_dvd_right _ _), Int.gcd_dvd_right _ _⟩
theorem rnC_dvd (m x y b : Int) : rnC m x y b ∣ rnX m x y ∧ rnC m x y b ∣ rnY m y ∧ rnC m x y b ∣ b := by
  have h := gcd_dvd3 (rnX m x y) (rnY m y) b
  unfold rnC
  split
  · rw [Int.zero_sub]
    exact ⟨Int.neg_dvd.mpr h.1, Int.neg_dvd.mpr h.2.1, Int.neg_dvd.mpr h.2.2⟩
  · exact h
theorem rnC_ne {m x y b : Int} (hb : b ≠ 0) : rnC m x y b ≠ 0 := by
  have := gcd_bound (g := (Int.gcd (rnX m x y) (rnY m y) : Int)) hb
  unfold rnC
  split <;> omega
theorem fdiv_scale {k a c : Int} (hk : k ≠ 0) (hc : c ≠ 0) (h : c ∣ a) : (k * a).fdiv (k * c) = a.fdiv c := by
  obtain ⟨t, rfl⟩ := h
  rw [Int.mul_fdiv_cancel_left _ hc, ← Int.mul_assoc, Int.mul_fdiv_cancel_left]
  exact Int.mul_ne_zero hk hc
theorem rnX_scale (k m x y : Int) : rnX m (k * x) (k * y) = k * rnX m x y := by
  unfold rnX
  split
  · rw [Int.mul_add, Int.mul_assoc]
  · rfl
theorem rnY_scale (k m y : Int) : rnY m (k * y) = k * rnY m y := by
  unfold rnY
  split
  · rw [Int.mul_zero]
  · rfl
theorem mul_neg_iff {k b : Int} (hk : k < 0) : k * b < 0 ↔ 0 < b := by
  constructor
  · intro h
    by_cases z : 0 < b
    · exact z
    · have := Int.mul_nonneg_of_nonpos_of_nonpos (a := k) (b := b) (by omega) (by omega)
      omega
  · exact fun h => Int.mul_neg_of_neg_of_pos hk h
theorem mul_pos_iff' {k b : Int} (hk : 0 < k) : k * b < 0 ↔ b < 0 := by
  constructor
  · intro h
    by_cases z : b < 0
    · exact z
    · have := Int.mul_nonneg (a := k) (b := b) (by omega) (by omega)
      omega
  · exact fun h => Int.mul_neg_of_pos_of_neg hk h
theorem rnC_scale {k m x y b : Int} (hk : k ≠ 0) (hb : b ≠ 0) : rnC m (k * x) (k * y) (k * b) = k * rnC m x y b := by
  unfold rnC
  rw [rnX_scale, rnY_scale]
  have e : (Int.gcd (Int.gcd (k * rnX m x y) (k * rnY m y) : Int) (k * b) : Int) = k.natAbs * (Int.gcd (Int.gcd (rnX m x y) (rnY m y) : Int) b : Int) := by
    rw [Int.gcd_mul_left]
    have e2 : ((k.natAbs * Int.gcd (rnX m x y) (rnY m y) : Nat) : Int) = (k.natAbs : Int) * (Int.gcd (rnX m x y) (rnY m y) : Int) := Int.natCast_mul _ _
    have e3 : ∀ (u v : Int), Int.gcd ((k.natAbs : Int) * u) (k * v) = k.natAbs * Int.gcd u v := by
      intro u v
      unfold Int.gcd
      rw [Int.natAbs_mul, Int.natAbs_mul, Int.natAbs_natCast, Nat.gcd_mul_left]
    rw [e2, e3, Int.natCast_mul]
  rw [e]
  generalize (Int.gcd (Int.gcd (rnX m x y) (rnY m y) : Int) b : Int) = g
  rcases (by omega : 0 < k ∨ k < 0) with h | h
  · have ek : (k.natAbs : Int) = k := by omega
    rw [ek]
    simp only [mul_pos_iff' h]
    split
    · rw [Int.mul_sub, Int.mul_zero]
    · rfl
  · have ek : (k.natAbs : Int) = -k := by omega
    rw [ek]
    simp only [mul_neg_iff h]
    by_cases z : 0 < b
    · rw [if_pos z, if_neg (by omega), Int.neg_mul]; omega
    · rw [if_neg z, if_pos (by omega), Int.neg_mul, Int.mul_sub]; omega
theorem rootN_scale {k m x y b : Int} (hk : k ≠ 0) (hb : b ≠ 0) : rootN m (k * x) (k * y) (k * b) = rootN m x y b := by
  have h := rnC_dvd m x y b
  have h0 := rnC_ne (m := m) (x := x) (y := y) hb
  unfold rootN
  rw [rnC_scale hk hb, rnX_scale, rnY_scale, fdiv_scale hk h0 h.1, fdiv_scale hk h0 h.2.1, fdiv_scale hk h0 h.2.2]
theorem str_self (z : Str) : (z == z) = true := by simp
theorem lit_cons {B : Nat} {d : D} {l : List D} (h : lit B d = true) (h2 : litAll B l = true) : litAll B (d :: l) = true := by
  simp only [litAll, h, h2, Bool.and_self]
end DL
namespace DL
open PySem PySem.Spec PyProof.Rows L2
local macro_rules | `(tactic| walk_at "rd") => `(tactic| simp only [startD, List.map, List.replicate, List.length_cons, List.length_nil, List.append_eq, List.append_nil, List.nil_append, List.cons_append, Nat.reduceSub, Nat.reduceAdd, List.getElem?_cons_zero, List.getElem?_cons_succ, List.set_cons_zero, List.set_cons_succ,
  dC, dVar, dOp, dTru, gTru, tru, dChain, dAnd, dOr, dNot, dAndV, dOrV, dNotV, dIf, dNeg, gNeg, dNil, dCons, dTup, dLst, dOwn, gIx, rBin, gAdd, gCmpI, dCall, dCallK, dSeq, dNext, dDrop, dRet, dRetN, dIfS, dName, dGNil, dGCons, dGTup, dSub, gSetL, dAsg, dPar, dPar3, dAug, gIpI, dSeqI, gSeqI, dRngI, gRng1, gRng2, dCB, gAbs, gInt, gMax, gMin, gGcd, gLen, lenD, gIsi, tyM, tyD, dBits, gBits, dMet, gAppend, dPart, dNoPart, dSl, dEnds, gIs, isB, dNever, dFor, dLc, wipeD, dYes,
  sizeLine_eq, Nat.reduceLeDiff, gEq_int, gNe_int, gEq_strs, gNe_strs, gIn_two, gRepr_bl, rs_lst, rs_tup, rs_scr, rs_int, atI_0, atI_1, atI_2, atI_3, atI_4, atI_5, ixN_30, ixN_31, ixN_32, gEq_bl, gNe_bl, decide_eq_true_eq, beq_iff_eq, Bool.not_eq_true', beq_eq_false_iff_ne, decide_eq_false_iff_not, Bool.not_true, Bool.not_false, if_true, if_false, Bool.false_eq_true, ite_true, ite_false, true_and, and_true, ne_eq, Bool.bne_false, Bool.bne_true, reduceCtorEq])
local macro_rules | `(tactic| walk_at "rh") => `(tactic| simp only [*, startD, List.map, List.replicate, List.length_cons, List.length_nil, List.append_eq, List.append_nil, List.nil_append, List.cons_append, Nat.reduceSub, Nat.reduceAdd, List.getElem?_cons_zero, List.getElem?_cons_succ, List.set_cons_zero, List.set_cons_succ,
  dC, dVar, dOp, dTru, gTru, tru, dChain, dAnd, dOr, dNot, dAndV, dOrV, dNotV, dIf, dNeg, gNeg, dNil, dCons, dTup, dLst, dOwn, gIx, rBin, gAdd, gCmpI, dCall, dCallK, dSeq, dNext, dDrop, dRet, dRetN, dIfS, dName, dGNil, dGCons, dGTup, dSub, gSetL, dAsg, dPar, dPar3, dAug, gIpI, dSeqI, gSeqI, dRngI, gRng1, gRng2, dCB, gAbs, gInt, gMax, gMin, gGcd, gLen, lenD, gIsi, tyM, tyD, dBits, gBits, dMet, gAppend, dPart, dNoPart, dSl, dEnds, gIs, isB, dNever, dFor, dLc, wipeD, dYes,
  sizeLine_eq, Nat.reduceLeDiff, gEq_int, gNe_int, gEq_strs, gNe_strs, gIn_two, gRepr_bl, rs_lst, rs_tup, rs_scr, rs_int, atI_0, atI_1, atI_2, atI_3, atI_4, atI_5, ixN_30, ixN_31, ixN_32, gEq_bl, gNe_bl, decide_eq_true_eq, beq_iff_eq, Bool.not_eq_true', beq_eq_false_iff_ne, decide_eq_false_iff_not, Bool.not_true, Bool.not_false, if_true, if_false, Bool.false_eq_true, ite_true, ite_false, true_and, and_true, ne_eq, Bool.bne_false, Bool.bne_true, reduceCtorEq])
local macro_rules | `(tactic| walk_at "kb") => `(tactic| simp only [kb_NoneType_list, kb_bool_list, kb_int_list, kb_str_list, kb_tuple_list, kb_list_list, kb_dict_list, kb_NoneType_int, kb_bool_int, kb_int_int, kb_str_int, kb_tuple_int, kb_list_int, kb_dict_int, kb_NoneType_bool, kb_bool_bool, kb_int_bool, kb_str_bool, kb_tuple_bool, kb_list_bool, kb_dict_bool, kb_NoneType_tuple, kb_bool_tuple, kb_int_tuple, kb_str_tuple, kb_tuple_tuple, kb_list_tuple, kb_dict_tuple, if_true, if_false, Bool.false_eq_true, ite_true, ite_false, Bool.not_true, Bool.not_false])
/-! ### bits -/
def Bi (n : Nat) (i : Int) : Prop := i.natAbs < 2 ^ n
theorem Bi.mono {n k : Nat} {i : Int} (h : Bi n i) (hk : n ≤ k := by decide) : Bi k i := Nat.lt_of_lt_of_le h (Nat.pow_le_pow_right (by decide) hk)
theorem Bi.mul {n k : Nat} {i j : Int} (h : Bi n i) (g : Bi k j) : Bi (n + k) (i * j) := by
  unfold Bi at *
  rw [Int.natAbs_mul, Nat.pow_add]
  exact Nat.mul_lt_mul'' h g
theorem Bi.add {n : Nat} {i j : Int} (h : Bi n i) (g : Bi n j) : Bi (n + 1) (i + j) := by
  unfold Bi at *
  rw [Nat.pow_succ]
  omega
theorem Bi.sub {n : Nat} {i j : Int} (h : Bi n i) (g : Bi n j) : Bi (n + 1) (i - j) := by
  unfold Bi at *
  rw [Nat.pow_succ]
  omega
theorem Bi.neg {n : Nat} {i : Int} (h : Bi n i) : Bi n (0 - i) := by
  unfold Bi at *
  omega
theorem Bi.sm {n : Nat} {i : Int} (h : Bi n i) (hn : n ≤ 400000 := by decide) : Sm i := Sm.of n h hn
theorem Bi.big {n : Nat} {i : Int} (h : Bi n i) (hn : n ≤ 4000 := by decide) : -BIG ≤ i ∧ i ≤ BIG := by
  have h1 := bign_ge hn
  unfold Bi at h
  unfold BIG
  omega
theorem Bi.of_dvd {n : Nat} {c a x : Int} (h : Bi n x) (hc : c ≠ 0) (e : x = c * a) : Bi n a := by
  unfold Bi at *
  rw [e, Int.natAbs_mul] at h
  exact Nat.lt_of_le_of_lt (Nat.le_mul_of_pos_left _ (by omega)) h
theorem Bi.of_abs {n : Nat} {i : Int} (k : Nat) (h : i.natAbs ≤ k) (hk : k < 2 ^ n := by decide) : Bi n i := Nat.lt_of_le_of_lt h hk
/-! ### normal forms -/
abbrev T3 (a b c : Int) : D := .tup [.int a, .int b, .int c]
/-- (a, b, c) in least terms, over the measure m -/
structure NF (m a b c : Int) : Prop where
  pos : 1 ≤ c
  cop : Int.gcd (Int.gcd a b : Int) c = 1
  pr : isSq m → b = 0
def nC (X Y b : Int) : Int := if b < 0 then 0 - (Int.gcd (Int.gcd X Y : Int) b : Int) else (Int.gcd (Int.gcd X Y : Int) b : Int)
def nf (X Y b : Int) : D := T3 (X.fdiv (nC X Y b)) (Y.fdiv (nC X Y b)) (b.fdiv (nC X Y b))
theorem rootN_nf (m x y b : Int) : rootN m x y b = nf (rnX m x y) (rnY m y) b := rfl
theorem rootN_pr {m x y : Int} (b : Int) (h : isSq m → y = 0) : rootN m x y b = nf x y b := by
  rw [rootN_nf]
  by_cases hq : isSq m
  · have e := h hq
    subst e
    unfold rnX rnY
    rw [if_pos hq, if_pos hq, Int.zero_mul, Int.add_zero]
  · unfold rnX rnY
    rw [if_neg hq, if_neg hq]
theorem nf_parts (X Y : Int) {b : Int} (hb : b ≠ 0) : ∃ c a1 a2 a3, c ≠ 0 ∧ X = c * a1 ∧ Y = c * a2 ∧ b = c * a3 ∧ nf X Y b = T3 a1 a2 a3 ∧ 1 ≤ a3 ∧ Int.gcd (Int.gcd a1 a2 : Int) a3 = 1 := by
  have hg := gcd_dvd3 X Y b
  have hg0 := gcd_bound (g := (Int.gcd X Y : Int)) hb
  have hcd : nC X Y b ≠ 0 ∧ nC X Y b ∣ X ∧ nC X Y b ∣ Y ∧ nC X Y b ∣ b ∧ (nC X Y b).natAbs = Int.gcd (Int.gcd X Y : Int) b ∧ (nC X Y b < 0 ↔ b < 0) := by
    unfold nC
    split
    · refine ⟨by omega, ?_, ?_, ?_, by omega, by omega⟩
      · rw [Int.zero_sub]; exact Int.neg_dvd.mpr hg.1
      · rw [Int.zero_sub]; exact Int.neg_dvd.mpr hg.2.1
      · rw [Int.zero_sub]; exact Int.neg_dvd.mpr hg.2.2
    · exact ⟨by omega, hg.1, hg.2.1, hg.2.2, by omega, by omega⟩
  have hn : nf X Y b = T3 (X.fdiv (nC X Y b)) (Y.fdiv (nC X Y b)) (b.fdiv (nC X Y b)) := rfl
  generalize nC X Y b = c at hcd hn
  obtain ⟨h0, ⟨t1, e1⟩, ⟨t2, e2⟩, ⟨t3, e3⟩, hab, hsg⟩ := hcd
  rw [e1, e2, e3, Int.mul_fdiv_cancel_left _ h0, Int.mul_fdiv_cancel_left _ h0, Int.mul_fdiv_cancel_left _ h0] at hn
  refine ⟨c, t1, t2, t3, h0, e1, e2, e3, by rw [e1, e2, e3]; exact hn, ?_, ?_⟩
  · by_cases z : 1 ≤ t3
    · exact z
    · exfalso
      rcases (by omega : c < 0 ∨ 0 < c) with q | q
      · have h1 : 0 ≤ c * t3 := Int.mul_nonneg_of_nonpos_of_nonpos (by omega) (by omega)
        have := hsg.mp q
        omega
      · have h1 : c * t3 ≤ 0 := Int.mul_nonpos_of_nonneg_of_nonpos (by omega) (by omega)
        omega
  · have h2 : Int.gcd (Int.gcd X Y : Int) b = c.natAbs * Int.gcd (Int.gcd t1 t2 : Int) t3 := by
      rw [e1, e2, e3, Int.gcd_mul_left]
      have e4 : ((c.natAbs * Int.gcd t1 t2 : Nat) : Int) = (c.natAbs : Int) * (Int.gcd t1 t2 : Int) := Int.natCast_mul _ _
      rw [e4]
      unfold Int.gcd
      rw [Int.natAbs_mul, Int.natAbs_mul, Int.natAbs_natCast, Nat.gcd_mul_left]
    rw [← hab] at h2
    have h3 : c.natAbs * 1 = c.natAbs * Int.gcd (Int.gcd t1 t2 : Int) t3 := by omega
    exact (Nat.eq_of_mul_eq_mul_left (by omega) h3).symm
theorem nf_scale {k X Y b : Int} (hk : k ≠ 0) (hb : b ≠ 0) : nf (k * X) (k * Y) (k * b) = nf X Y b := by
  have h : ¬ isSq 2 := by
    have e : isq 2 = 1 := isq_uni (by decide) (by decide) (by decide)
    unfold isSq; rw [e]; decide
  rw [← rootN_pr (m := 2) (k * b) (fun z => absurd z h), ← rootN_pr (m := 2) b (fun z => absurd z h)]
  exact rootN_scale hk hb
theorem nf_eq {X Y b X' Y' b' : Int} (hb : b ≠ 0) (hb' : b' ≠ 0) (h1 : X * b' = X' * b) (h2 : Y * b' = Y' * b) : nf X Y b = nf X' Y' b' := by
  rw [← nf_scale hb' hb, ← nf_scale (X := X') (Y := Y') hb hb']
  have e1 : b' * X = b * X' := by rw [Int.mul_comm, h1, Int.mul_comm]
  have e2 : b' * Y = b * Y' := by rw [Int.mul_comm, h2, Int.mul_comm]
  rw [e1, e2, Int.mul_comm b' b]
theorem nf_self {a b c : Int} (h1 : 1 ≤ c) (h2 : Int.gcd (Int.gcd a b : Int) c = 1) : nf a b c = T3 a b c := by
  have e : nC a b c = 1 := by unfold nC; rw [if_neg (by omega), h2]; rfl
  unfold nf
  rw [e, Int.fdiv_one, Int.fdiv_one, Int.fdiv_one]
theorem NF.self {m a b c : Int} (h : NF m a b c) : rootN m a b c = T3 a b c := by
  rw [rootN_pr c h.pr, nf_self h.pos h.cop]
theorem rootN_partsX {m x y b : Int} (hb : b ≠ 0) : ∃ c a1 a2 a3, c ≠ 0 ∧ rnX m x y = c * a1 ∧ rnY m y = c * a2 ∧ b = c * a3 ∧ rootN m x y b = T3 a1 a2 a3 ∧ NF m a1 a2 a3 := by
  obtain ⟨c, a1, a2, a3, h0, e1, e2, e3, e4, h1, h2⟩ := nf_parts (rnX m x y) (rnY m y) hb
  refine ⟨c, a1, a2, a3, h0, e1, e2, e3, e4, h1, h2, fun q => ?_⟩
  have e5 : rnY m y = 0 := if_pos q
  rw [e5] at e2
  rcases Int.mul_eq_zero.mp e2.symm with z | z
  · exact absurd z h0
  · exact z
/-- a square times a measure that is a square: the measure is one -/
theorem sq_of_prod {m a b : Int} (hb : b ≠ 0) (hm : 0 ≤ m) (h : a * a = m * b * b) : isSq m := by
  have h1 : b * b ∣ a * a := ⟨m, by rw [h, Int.mul_assoc, Int.mul_comm]⟩
  have h2 : b ∣ a := by
    have h3 : b.natAbs * b.natAbs ∣ a.natAbs * a.natAbs := by
      rw [← Int.natAbs_mul, ← Int.natAbs_mul]; exact Int.natAbs_dvd_natAbs.mpr h1
    have h4 : b.natAbs ^ 2 ∣ a.natAbs ^ 2 := by rw [Nat.pow_two, Nat.pow_two]; exact h3
    exact Int.natAbs_dvd_natAbs.mp ((Nat.pow_dvd_pow_iff (by decide)).mp h4)
  obtain ⟨t, rfl⟩ := h2
  have h5 : (b * b) * (t * t) = (b * b) * m := by grind
  have h6 : t * t = m := Int.eq_of_mul_eq_mul_left (Int.mul_ne_zero hb hb) h5
  have h7 : ((t.natAbs : Nat) : Int) * ((t.natAbs : Nat) : Int) = m := by
    rw [← h6, ← Int.natCast_mul, Int.natAbs_mul_self]
  unfold isSq
  rw [← h7, isq_self (by omega)]
theorem norm_ne {m a b : Int} (hm : 0 ≤ m) (hp : isSq m → b = 0) (h : ¬ (a = 0 ∧ b = 0)) : a * a - m * b * b ≠ 0 := by
  intro e
  by_cases hb : b = 0
  · subst hb
    have : a * a = 0 := by grind
    rcases Int.mul_eq_zero.mp this with z | z <;> exact h ⟨z, rfl⟩
  · exact hb (hp (sq_of_prod (a := a) hb hm (by omega)))
/-! ### sums, products, quotients -/
def Sz (n : Nat) (a b c : Int) : Prop := Bi n a ∧ Bi n b ∧ Bi n c
def rnPlus (m a1 a2 a3 b1 b2 b3 : Int) : D := rootN m (a1 * b3 + b1 * a3) (a2 * b3 + b2 * a3) (a3 * b3)
def rnTimes (m a1 a2 a3 b1 b2 b3 : Int) : D := rootN m (a1 * b1 + m * a2 * b2) (a1 * b2 + a2 * b1) (a3 * b3)
def sp_plus_by : DSp := fun ds M Q _ => ∃ m a1 a2 a3 b1 b2 b3 : Int, ds = [.int m, T3 a1 a2 a3, T3 b1 b2 b3] ∧ 0 ≤ m ∧ Bi 200 m ∧ a3 ≠ 0 ∧ b3 ≠ 0 ∧ Sz 1800 a1 a2 a3 ∧ Sz 1800 b1 b2 b3 ∧ Q (rnPlus m a1 a2 a3 b1 b2 b3) M
theorem rd_plus_by : ∀ ds M Q, ds.length = 3 → sp_plus_by ds M Q DX0 → t_plus_by sp_root_by (dEnds M Q) (startD 4 ds) M := by
  rintro _ M Q - ⟨m, a1, a2, a3, b1, b2, b3, rfl, h0, hm, a0, b0, ⟨sa1, sa2, sa3⟩, ⟨sb1, sb2, sb3⟩, q⟩
  unfold t_plus_by
  walk_at "rd"
  have y := ((sa2.mul sb3).add (sb2.mul sa3)).big
  have b := (sa3.mul sb3).big
  exact ⟨⟨sa1.sm, sb3.sm⟩, ⟨sb1.sm, sa3.sm⟩, ⟨sa2.sm, sb3.sm⟩, ⟨sb2.sm, sa3.sm⟩, ⟨sa3.sm, sb3.sm⟩, m, _, _, _, rfl, h0, hm.big.2, y.1, y.2, b.1, b.2, Int.mul_ne_zero a0 b0, rtq q⟩
def sp_minus_by : DSp := fun ds M Q _ => ∃ m a1 a2 a3 b1 b2 b3 : Int, ds = [.int m, T3 a1 a2 a3, T3 b1 b2 b3] ∧ 0 ≤ m ∧ Bi 200 m ∧ a3 ≠ 0 ∧ b3 ≠ 0 ∧ Sz 1800 a1 a2 a3 ∧ Sz 1800 b1 b2 b3 ∧ Q (rnPlus m a1 a2 a3 (0 - b1) (0 - b2) b3) M
theorem rd_minus_by : ∀ ds M Q, ds.length = 3 → sp_minus_by ds M Q DX0 → t_minus_by sp_plus_by (dEnds M Q) (startD 3 ds) M := by
  rintro _ M Q - ⟨m, a1, a2, a3, b1, b2, b3, rfl, h0, hm, a0, b0, sa, ⟨sb1, sb2, sb3⟩, q⟩
  unfold t_minus_by
  walk_at "rd"
  exact ⟨m, a1, a2, a3, _, _, _, rfl, h0, hm, a0, b0, sa, ⟨sb1.neg, sb2.neg, sb3⟩, rtq q⟩
def sp_times_by : DSp := fun ds M Q _ => ∃ m a1 a2 a3 b1 b2 b3 : Int, ds = [.int m, T3 a1 a2 a3, T3 b1 b2 b3] ∧ 0 ≤ m ∧ Bi 200 m ∧ a3 ≠ 0 ∧ b3 ≠ 0 ∧ Sz 1800 a1 a2 a3 ∧ Sz 2100 b1 b2 b3 ∧ Q (rnTimes m a1 a2 a3 b1 b2 b3) M
theorem rd_times_by : ∀ ds M Q, ds.length = 3 → sp_times_by ds M Q DX0 → t_times_by sp_root_by (dEnds M Q) (startD 4 ds) M := by
  rintro _ M Q - ⟨m, a1, a2, a3, b1, b2, b3, rfl, h0, hm, a0, b0, ⟨sa1, sa2, sa3⟩, ⟨sb1, sb2, sb3⟩, q⟩
  unfold t_times_by
  walk_at "rd"
  have y := ((sa1.mul sb2).add (sa2.mul sb1)).big
  have b := (sa3.mul sb3).big
  exact ⟨⟨sa1.sm, sb1.sm⟩, ⟨hm.sm, sa2.sm⟩, ⟨(hm.mul sa2).sm, sb2.sm⟩, ⟨sa1.sm, sb2.sm⟩, ⟨sa2.sm, sb1.sm⟩, ⟨sa3.sm, sb3.sm⟩, m, _, _, _, rfl, h0, hm.big.2, y.1, y.2, b.1, b.2, Int.mul_ne_zero a0 b0, rtq q⟩
/-! ### the law's drawn root numbers -/
/-! ### sizes and values, for the laws -/
theorem NF.neg {m a b c : Int} (h : NF m a b c) : NF m (0 - a) (0 - b) c := by
  refine ⟨h.pos, ?_, fun q => by rw [h.pr q]; rfl⟩
  rw [Int.zero_sub, Int.zero_sub, Int.gcd_neg, Int.neg_gcd]
  exact h.cop
theorem Sz.neg {n : Nat} {a b c : Int} (h : Sz n a b c) : Sz n (0 - a) (0 - b) c := ⟨h.1.neg, h.2.1.neg, h.2.2⟩
theorem Sz.mono {n k : Nat} {a b c : Int} (h : Sz n a b c) (hk : n ≤ k := by decide) : Sz k a b c := ⟨h.1.mono hk, h.2.1.mono hk, h.2.2.mono hk⟩
end DL
namespace DL
open PySem PySem.Spec PyProof.Rows L2
local macro_rules | `(tactic| walk_at "rd") => `(tactic| simp only [startD, List.map, List.replicate, List.length_cons, List.length_nil, List.append_eq, List.append_nil, List.nil_append, List.cons_append, Nat.reduceSub, Nat.reduceAdd, List.getElem?_cons_zero, List.getElem?_cons_succ, List.set_cons_zero, List.set_cons_succ,
  dC, dVar, dOp, dTru, gTru, tru, dChain, dAnd, dOr, dNot, dAndV, dOrV, dNotV, dIf, dNeg, gNeg, dNil, dCons, dTup, dLst, dOwn, gIx, rBin, gAdd, gCmpI, dCall, dCallK, dSeq, dNext, dDrop, dRet, dRetN, dIfS, dName, dGNil, dGCons, dGTup, dSub, gSetL, dAsg, dPar, dPar3, dAug, gIpI, dSeqI, gSeqI, dRngI, gRng1, gRng2, dCB, gAbs, gInt, gMax, gMin, gGcd, gLen, lenD, gIsi, tyM, tyD, dBits, gBits, dMet, gAppend, dPart, dNoPart, dSl, dEnds, gIs, isB, dNever, dFor, dLc, wipeD, dYes,
  sizeLine_eq, Nat.reduceLeDiff, gEq_int, gNe_int, gEq_strs, gNe_strs, gIn_two, gRepr_bl, rs_lst, rs_tup, rs_scr, rs_int, atI_0, atI_1, atI_2, atI_3, atI_4, atI_5, ixN_30, ixN_31, ixN_32, gEq_bl, gNe_bl, decide_eq_true_eq, beq_iff_eq, Bool.not_eq_true', beq_eq_false_iff_ne, decide_eq_false_iff_not, Bool.not_true, Bool.not_false, if_true, if_false, Bool.false_eq_true, ite_true, ite_false, true_and, and_true, ne_eq, Bool.bne_false, Bool.bne_true, reduceCtorEq])
local macro_rules | `(tactic| walk_at "rh") => `(tactic| simp only [*, startD, List.map, List.replicate, List.length_cons, List.length_nil, List.append_eq, List.append_nil, List.nil_append, List.cons_append, Nat.reduceSub, Nat.reduceAdd, List.getElem?_cons_zero, List.getElem?_cons_succ, List.set_cons_zero, List.set_cons_succ,
  dC, dVar, dOp, dTru, gTru, tru, dChain, dAnd, dOr, dNot, dAndV, dOrV, dNotV, dIf, dNeg, gNeg, dNil, dCons, dTup, dLst, dOwn, gIx, rBin, gAdd, gCmpI, dCall, dCallK, dSeq, dNext, dDrop, dRet, dRetN, dIfS, dName, dGNil, dGCons, dGTup, dSub, gSetL, dAsg, dPar, dPar3, dAug, gIpI, dSeqI, gSeqI, dRngI, gRng1, gRng2, dCB, gAbs, gInt, gMax, gMin, gGcd, gLen, lenD, gIsi, tyM, tyD, dBits, gBits, dMet, gAppend, dPart, dNoPart, dSl, dEnds, gIs, isB, dNever, dFor, dLc, wipeD, dYes,
  sizeLine_eq, Nat.reduceLeDiff, gEq_int, gNe_int, gEq_strs, gNe_strs, gIn_two, gRepr_bl, rs_lst, rs_tup, rs_scr, rs_int, atI_0, atI_1, atI_2, atI_3, atI_4, atI_5, ixN_30, ixN_31, ixN_32, gEq_bl, gNe_bl, decide_eq_true_eq, beq_iff_eq, Bool.not_eq_true', beq_eq_false_iff_ne, decide_eq_false_iff_not, Bool.not_true, Bool.not_false, if_true, if_false, Bool.false_eq_true, ite_true, ite_false, true_and, and_true, ne_eq, Bool.bne_false, Bool.bne_true, reduceCtorEq])
local macro_rules | `(tactic| walk_at "kb") => `(tactic| simp only [kb_NoneType_list, kb_bool_list, kb_int_list, kb_str_list, kb_tuple_list, kb_list_list, kb_dict_list, kb_NoneType_int, kb_bool_int, kb_int_int, kb_str_int, kb_tuple_int, kb_list_int, kb_dict_int, kb_NoneType_bool, kb_bool_bool, kb_int_bool, kb_str_bool, kb_tuple_bool, kb_list_bool, kb_dict_bool, kb_NoneType_tuple, kb_bool_tuple, kb_int_tuple, kb_str_tuple, kb_tuple_tuple, kb_list_tuple, kb_dict_tuple, if_true, if_false, Bool.false_eq_true, ite_true, ite_false, Bool.not_true, Bool.not_false])
/-! ### the side of x + y root m -/
def sideV (m x y : Int) : Int := if 0 ≤ x ∧ 0 ≤ y then (if 0 < x ∨ 0 < y then 1 else 0) else if x ≤ 0 ∧ y ≤ 0 then -1
  else if 0 < x then (if 0 < x * x - m * y * y then 1 else -1) else if x * x - m * y * y < 0 then 1 else -1
/-! ### the floor -/
end DL
namespace DL
open PySem PySem.Spec PyProof.Rows L2
local macro_rules | `(tactic| walk_at "rd") => `(tactic| simp only [startD, List.map, List.replicate, List.length_cons, List.length_nil, List.append_eq, List.append_nil, List.nil_append, List.cons_append, Nat.reduceSub, Nat.reduceAdd, List.getElem?_cons_zero, List.getElem?_cons_succ, List.set_cons_zero, List.set_cons_succ,
  dC, dVar, dOp, dTru, gTru, tru, dChain, dAnd, dOr, dNot, dAndV, dOrV, dNotV, dIf, dNeg, gNeg, dNil, dCons, dTup, dLst, dOwn, gIx, rBin, gAdd, gCmpI, dCall, dCallK, dSeq, dNext, dDrop, dRet, dRetN, dIfS, dName, dGNil, dGCons, dGTup, dSub, gSetL, dAsg, dPar, dPar3, dAug, gIpI, dSeqI, gSeqI, dRngI, gRng1, gRng2, dCB, gAbs, gInt, gMax, gMin, gGcd, gLen, lenD, gIsi, tyM, tyD, dBits, gBits, dMet, gAppend, dPart, dNoPart, dSl, dEnds, gIs, isB, dNever, dFor, dLc, wipeD, dYes,
  sizeLine_eq, Nat.reduceLeDiff, gEq_int, gNe_int, gEq_strs, gNe_strs, gIn_two, gRepr_bl, rs_lst, rs_tup, rs_scr, rs_int, atI_0, atI_1, atI_2, atI_3, atI_4, atI_5, ixN_30, ixN_31, ixN_32, gEq_bl, gNe_bl, decide_eq_true_eq, beq_iff_eq, Bool.not_eq_true', beq_eq_false_iff_ne, decide_eq_false_iff_not, Bool.not_true, Bool.not_false, if_true, if_false, Bool.false_eq_true, ite_true, ite_false, true_and, and_true, ne_eq, Bool.bne_false, Bool.bne_true, reduceCtorEq])
local macro_rules | `(tactic| walk_at "rh") => `(tactic| simp only [*, startD, List.map, List.replicate, List.length_cons, List.length_nil, List.append_eq, List.append_nil, List.nil_append, List.cons_append, Nat.reduceSub, Nat.reduceAdd, List.getElem?_cons_zero, List.getElem?_cons_succ, List.set_cons_zero, List.set_cons_succ,
  dC, dVar, dOp, dTru, gTru, tru, dChain, dAnd, dOr, dNot, dAndV, dOrV, dNotV, dIf, dNeg, gNeg, dNil, dCons, dTup, dLst, dOwn, gIx, rBin, gAdd, gCmpI, dCall, dCallK, dSeq, dNext, dDrop, dRet, dRetN, dIfS, dName, dGNil, dGCons, dGTup, dSub, gSetL, dAsg, dPar, dPar3, dAug, gIpI, dSeqI, gSeqI, dRngI, gRng1, gRng2, dCB, gAbs, gInt, gMax, gMin, gGcd, gLen, lenD, gIsi, tyM, tyD, dBits, gBits, dMet, gAppend, dPart, dNoPart, dSl, dEnds, gIs, isB, dNever, dFor, dLc, wipeD, dYes,
  sizeLine_eq, Nat.reduceLeDiff, gEq_int, gNe_int, gEq_strs, gNe_strs, gIn_two, gRepr_bl, rs_lst, rs_tup, rs_scr, rs_int, atI_0, atI_1, atI_2, atI_3, atI_4, atI_5, ixN_30, ixN_31, ixN_32, gEq_bl, gNe_bl, decide_eq_true_eq, beq_iff_eq, Bool.not_eq_true', beq_eq_false_iff_ne, decide_eq_false_iff_not, Bool.not_true, Bool.not_false, if_true, if_false, Bool.false_eq_true, ite_true, ite_false, true_and, and_true, ne_eq, Bool.bne_false, Bool.bne_true, reduceCtorEq])
local macro_rules | `(tactic| walk_at "kb") => `(tactic| simp only [kb_NoneType_list, kb_bool_list, kb_int_list, kb_str_list, kb_tuple_list, kb_list_list, kb_dict_list, kb_NoneType_int, kb_bool_int, kb_int_int, kb_str_int, kb_tuple_int, kb_list_int, kb_dict_int, kb_NoneType_bool, kb_bool_bool, kb_int_bool, kb_str_bool, kb_tuple_bool, kb_list_bool, kb_dict_bool, kb_NoneType_tuple, kb_bool_tuple, kb_int_tuple, kb_str_tuple, kb_tuple_tuple, kb_list_tuple, kb_dict_tuple, if_true, if_false, Bool.false_eq_true, ite_true, ite_false, Bool.not_true, Bool.not_false])
theorem rd_l_hash_d8d1 : ∀ ds M Q, ds.length = 2 → sp_hash ds M Q DX0 → t_l_hash_d8d1 (dEnds M Q) (startD 3 ds) M := by
  rintro _ M Q - ⟨s, c, rfl, s0, s1, c0, c1, q⟩
  unfold P31 P40 at *
  unfold t_l_hash_d8d1
  walk_at "rd"
  have ss : Sm s := sm_of 32 (by omega) (by omega)
  have sc : Sm c := sm_of 42 (by omega) (by omega)
  have hm : ∀ a : Int, 0 ≤ a.fmod 2147483629 ∧ a.fmod 2147483629 < 2147483629 := fun a => fm_range (by decide)
  have k1 : Sm (27644437 * c) := sm_of 72 (by omega) (by omega)
  refine ⟨⟨ss, sm_of 32 (by decide) (by decide)⟩, ⟨sm_of 32 (by decide) (by decide), sc⟩, ⟨k1, sc⟩, ⟨sm_of 32 (by decide) (by decide), sc⟩, (by decide : (2147483629 : Int) ≠ 0), ?_⟩
  generalize hv : Int.fmod _ 2147483629 = v
  have v1 : 0 ≤ v ∧ v < 2147483629 := by rw [← hv]; exact hm _
  have sv : Sm v := sm_of 32 (by omega) (by omega)
  refine ⟨⟨sv, sv⟩, ⟨sm_of 32 (by decide) (by decide), sc⟩, (by decide : (2147483587 : Int) ≠ 0), ?_⟩
  generalize hw : Int.fmod _ 2147483587 = w
  have w1 : 0 ≤ w ∧ w < 2147483587 := by rw [← hw]; exact fm_range (by decide)
  refine ⟨⟨sm_of 32 (by omega) (by omega), sm_of 32 (by decide) (by decide)⟩, (by decide : (2147483647 : Int) ≠ 0), ?_⟩
  have r1 : 0 ≤ (w * 48271).fmod 2147483647 ∧ (w * 48271).fmod 2147483647 < 2147483647 := fm_range (by decide)
  exact rtq (q _ r1.1 (by omega))
/-! ### cuttings -/
/-- a cutting: (a, b, c, e) -/
def isCut (a b c e : Int) : Bool := decide (1 ≤ b) && (decide (1 ≤ c) && (decide (c + e < b) && (decide (0 ≤ a) && (decide (a < (Int.gcd b c : Int)) && (Int.gcd (Int.gcd a (Int.gcd b c : Int) : Int) e : Int) == 1))))
def isCutD (d : D) : Bool := match d with
  | .tup [.int a, .int b, .int c, .int e] => isCut a b c e
  | _ => false
/-- d may be asked: no tuple, or of another length, or of plain data -/
def Askable (n : Nat) (M : Mem) (d : D) : Prop := (∃ T, tyM M d = some T) ∧ (∀ l, d = .tup l → l.length = n → ∀ e ∈ l, (fine 40 e = true ∧ ∃ T, tyM M e = some T))
theorem ask_fine {n : Nat} {d : D} (M : Mem) (h : fine 41 d = true) : Askable n M d := by
  refine ⟨fine_ty M h, ?_⟩
  rintro l rfl h3 e he
  have h' : fineAll 40 l = true := by simpa only [fine] using h
  have := fineAll_iff.mp h' e he
  exact ⟨this, fine_ty M this⟩
abbrev T4 (a b c e : Int) : D := .tup [.int a, .int b, .int c, .int e]
theorem len4 {l : List D} (h : l.length = 4) : ∃ a b c d, l = [a, b, c, d] := by
  match l, h with
  | [a, b, c, d], _ => exact ⟨a, b, c, d, rfl⟩
theorem isCutD_notup {d : D} (h : ∀ l, d ≠ .tup l) : isCutD d = false := by
  cases d <;> first | rfl | exact absurd rfl (h _)
theorem isCutD_len {l : List D} (h : l.length ≠ 4) : isCutD (.tup l) = false := by
  unfold isCutD
  split
  · rename_i e; cases e; exact absurd rfl h
  · rfl
theorem isCutD_bad {l : List D} (h : ∃ e ∈ l, isW e = false) : isCutD (.tup l) = false := by
  unfold isCutD
  split
  · rename_i e
    cases e
    obtain ⟨e, he, hw⟩ := h
    simp only [List.mem_cons, List.not_mem_nil, or_false] at he
    rcases he with rfl | rfl | rfl | rfl <;> cases hw
  · rfl
def sp_is_cutting : DSp := fun ds M Q _ => ∃ d, ds = [d] ∧ Askable 4 M d ∧ Q (.bl (isCutD d)) M
theorem rd_is_cutting_by : ∀ ds M Q, ds.length = 1 → sp_is_cutting ds M Q DX0 → t_is_cutting_by sp_is_whole sp_gcd (dEnds M Q) (startD 7 ds) M := by
  rintro _ M Q - ⟨d, rfl, ⟨⟨T, ht⟩, hr⟩, q⟩
  unfold t_is_cutting_by
  walk_at "rd"
  by_cases htup : ∃ l, d = .tup l
  · obtain ⟨l, rfl⟩ := htup
    walk_at "rd"
    walk_at "kb"
    by_cases h3 : l.length = 4
    · obtain ⟨da, db, dc, de, rfl⟩ := len4 h3
      have hr' := hr _ rfl rfl
      walk_at "rd"
      rw [if_neg (by decide)]
      refine lcW_pure (fun e => if isW e = true then none else some e) trivial (by rw [sizeLine_eq]; exact (by decide : (4 : Nat) ≤ 16777216)) (fun d hd Y N hy => ?_) ?_
      · walk_at "rd"
        obtain ⟨_, T', hT⟩ := hr' d hd
        refine ⟨d, T', rfl, hT, ?_⟩
        by_cases hw : isW d = true
        · simp only [hw, if_true] at hy ⊢
          exact hy
        · rw [Bool.not_eq_true] at hw
          simp only [hw, Bool.false_eq_true, if_false, Bool.not_false, if_true] at hy ⊢
          exact hy
      · refine gNe_nil' (n := 40) (bads_fine fun e he => (hr' e he).1) ?_
        show if (!(bads [da, db, dc, de]).isEmpty) = true then _ else _
        cases hb : (bads [da, db, dc, de]).isEmpty with
        | false =>
          rw [if_pos (by decide)]
          rw [isCutD_bad (bads_some hb)] at q
          exact rtq q
        | true =>
          rw [if_neg (by decide)]
          have hw := bads_nil hb
          obtain ⟨a, rfl⟩ := isW_iff.mp (hw da (by simp))
          obtain ⟨b, rfl⟩ := isW_iff.mp (hw db (by simp))
          obtain ⟨c, rfl⟩ := isW_iff.mp (hw dc (by simp))
          obtain ⟨e, rfl⟩ := isW_iff.mp (hw de (by simp))
          walk_at "rd"
          have fin : ∀ v, v = isCut a b c e → Rtq M Q (.bl v) M := by rintro _ rfl; exact rtq q
          by_cases h1 : b < 1
          · rw [if_pos h1]
            exact fin _ (by unfold isCut; rw [decide_eq_false (show ¬ 1 ≤ b by omega)]; rfl)
          · rw [if_neg h1]
            have e1 := decide_eq_true (show 1 ≤ b by omega)
            by_cases h2 : c < 1
            · rw [if_pos h2]
              exact fin _ (by unfold isCut; rw [e1, decide_eq_false (show ¬ 1 ≤ c by omega)]; rfl)
            · rw [if_neg h2]
              have e2 := decide_eq_true (show 1 ≤ c by omega)
              by_cases h3 : c + e < b
              · rw [if_neg (fun z => z h3)]
                have e3 := decide_eq_true h3
                refine ⟨b, c, rfl, ?_⟩
                dsimp only
                by_cases h4 : 0 ≤ a
                · rw [if_pos h4]
                  have e4 := decide_eq_true h4
                  by_cases h5 : a < (Int.gcd b c : Int)
                  · rw [if_pos h5]
                    have e5 := decide_eq_true h5
                    refine ⟨a, _, rfl, _, e, rfl, ?_⟩
                    dsimp only
                    rw [gEq_int]
                    exact fin _ (by unfold isCut; rw [e1, e2, e3, e4, e5]; rfl)
                  · rw [if_neg h5]
                    exact fin _ (by unfold isCut; rw [e1, e2, e3, e4, decide_eq_false h5]; rfl)
                · rw [if_neg h4, if_neg h4]
                  exact fin _ (by unfold isCut; rw [e1, e2, e3, decide_eq_false h4]; rfl)
              · rw [if_pos h3]
                exact fin _ (by unfold isCut; rw [e1, e2, decide_eq_false h3]; rfl)
    · have h3' : ¬ ((l.length : Nat) : Int) = 4 := by omega
      simp only [h3', not_false_eq_true, if_true]
      rw [isCutD_len h3] at q
      exact rtq q
  · have q' : Q (.bl false) M := by rwa [isCutD_notup fun l e => htup ⟨l, e⟩] at q
    cases d <;> first | exact absurd ⟨_, rfl⟩ htup | (cases ht; done) | skip
    all_goals walk_at "rd"
    case own k =>
      unfold tyM at ht
      dsimp only at ht
      split at ht
      · rename_i ds hk
        simp only [hk]
        walk_at "kb"
        exact rtq q'
      · cases ht
    all_goals walk_at "kb"
    all_goals exact rtq q'
/-- check_cutting of a cutting -/
def sp_check_cutting : DSp := fun ds M Q _ => ∃ a b c e : Int, ds = [T4 a b c e] ∧ isCut a b c e = true ∧ Q .non M
theorem rd_check_cutting : ∀ ds M Q, ds.length = 1 → sp_check_cutting ds M Q DX0 → t_check_cutting sp_is_cutting (dEnds M Q) (startD 1 ds) M := by
  rintro _ M Q - ⟨a, b, c, e, rfl, h, q⟩
  unfold t_check_cutting
  walk_at "rd"
  refine ⟨_, rfl, ask_fine M rfl, ?_⟩
  rw [show isCutD (T4 a b c e) = true from h]
  walk_at "rd"
  exact rtq q
def meas4 (b c e : Int) : Int := e * e + 4 * b * c
def sp_measure_by : DSp := fun ds M Q _ => ∃ a b c e : Int, ds = [T4 a b c e] ∧ Bi 1000 b ∧ Bi 1000 c ∧ Bi 1000 e ∧ Q (.int (meas4 b c e)) M
theorem rd_measure_by : ∀ ds M Q, ds.length = 1 → sp_measure_by ds M Q DX0 → t_measure_by (dEnds M Q) (startD 1 ds) M := by
  rintro _ M Q - ⟨a, b, c, e, rfl, hb, hc, he, q⟩
  unfold t_measure_by
  walk_at "rd"
  have h4 : Bi 3 4 := Bi.of_abs 4 (by decide)
  exact ⟨⟨he.sm, he.sm⟩, ⟨h4.sm, hb.sm⟩, ⟨(h4.mul hb).sm, hc.sm⟩, rtq q⟩
theorem cut_parts {a b c e : Int} (h : isCut a b c e = true) : 1 ≤ b ∧ 1 ≤ c ∧ c + e < b ∧ 0 ≤ a ∧ a < (Int.gcd b c : Int) ∧ (Int.gcd (Int.gcd a (Int.gcd b c : Int) : Int) e : Int) = 1 := by
  simpa only [isCut, Bool.and_eq_true, decide_eq_true_eq, beq_iff_eq] using h
end DL
/-! MB: what a deed makes of a cutting; plain -/
namespace DL
end DL
namespace DL
open PySem PySem.Spec PyProof.Rows L2
local macro_rules | `(tactic| walk_at "rd") => `(tactic| simp only [startD, List.map, List.replicate, List.length_cons, List.length_nil, List.append_eq, List.append_nil, List.nil_append, List.cons_append, Nat.reduceSub, Nat.reduceAdd, List.getElem?_cons_zero, List.getElem?_cons_succ, List.set_cons_zero, List.set_cons_succ,
  dC, dVar, dOp, dTru, gTru, tru, dChain, dAnd, dOr, dNot, dAndV, dOrV, dNotV, dIf, dNeg, gNeg, dNil, dCons, dTup, dLst, dOwn, gIx, rBin, gAdd, gCmpI, dCall, dCallK, dSeq, dNext, dDrop, dRet, dRetN, dIfS, dName, dGNil, dGCons, dGTup, dSub, gSetL, dAsg, dPar, dPar3, dAug, gIpI, dSeqI, gSeqI, dRngI, gRng1, gRng2, dCB, gAbs, gInt, gMax, gMin, gGcd, gLen, lenD, gIsi, tyM, tyD, dBits, gBits, dMet, gAppend, dPart, dNoPart, dSl, dEnds, gIs, isB, dNever, dFor, dLc, wipeD, dYes,
  sizeLine_eq, Nat.reduceLeDiff, gEq_int, gNe_int, gEq_strs, gNe_strs, gIn_two, gRepr_bl, rs_lst, rs_tup, rs_scr, rs_int, atI_0, atI_1, atI_2, atI_3, atI_4, atI_5, ixN_30, ixN_31, ixN_32, gEq_bl, gNe_bl, decide_eq_true_eq, beq_iff_eq, Bool.not_eq_true', beq_eq_false_iff_ne, decide_eq_false_iff_not, Bool.not_true, Bool.not_false, if_true, if_false, Bool.false_eq_true, ite_true, ite_false, true_and, and_true, ne_eq, Bool.bne_false, Bool.bne_true, reduceCtorEq])
local macro_rules | `(tactic| walk_at "rh") => `(tactic| simp only [*, startD, List.map, List.replicate, List.length_cons, List.length_nil, List.append_eq, List.append_nil, List.nil_append, List.cons_append, Nat.reduceSub, Nat.reduceAdd, List.getElem?_cons_zero, List.getElem?_cons_succ, List.set_cons_zero, List.set_cons_succ,
  dC, dVar, dOp, dTru, gTru, tru, dChain, dAnd, dOr, dNot, dAndV, dOrV, dNotV, dIf, dNeg, gNeg, dNil, dCons, dTup, dLst, dOwn, gIx, rBin, gAdd, gCmpI, dCall, dCallK, dSeq, dNext, dDrop, dRet, dRetN, dIfS, dName, dGNil, dGCons, dGTup, dSub, gSetL, dAsg, dPar, dPar3, dAug, gIpI, dSeqI, gSeqI, dRngI, gRng1, gRng2, dCB, gAbs, gInt, gMax, gMin, gGcd, gLen, lenD, gIsi, tyM, tyD, dBits, gBits, dMet, gAppend, dPart, dNoPart, dSl, dEnds, gIs, isB, dNever, dFor, dLc, wipeD, dYes,
  sizeLine_eq, Nat.reduceLeDiff, gEq_int, gNe_int, gEq_strs, gNe_strs, gIn_two, gRepr_bl, rs_lst, rs_tup, rs_scr, rs_int, atI_0, atI_1, atI_2, atI_3, atI_4, atI_5, ixN_30, ixN_31, ixN_32, gEq_bl, gNe_bl, decide_eq_true_eq, beq_iff_eq, Bool.not_eq_true', beq_eq_false_iff_ne, decide_eq_false_iff_not, Bool.not_true, Bool.not_false, if_true, if_false, Bool.false_eq_true, ite_true, ite_false, true_and, and_true, ne_eq, Bool.bne_false, Bool.bne_true, reduceCtorEq])
local macro_rules | `(tactic| walk_at "kb") => `(tactic| simp only [kb_NoneType_list, kb_bool_list, kb_int_list, kb_str_list, kb_tuple_list, kb_list_list, kb_dict_list, kb_NoneType_int, kb_bool_int, kb_int_int, kb_str_int, kb_tuple_int, kb_list_int, kb_dict_int, kb_NoneType_bool, kb_bool_bool, kb_int_bool, kb_str_bool, kb_tuple_bool, kb_list_bool, kb_dict_bool, kb_NoneType_tuple, kb_bool_tuple, kb_int_tuple, kb_str_tuple, kb_tuple_tuple, kb_list_tuple, kb_dict_tuple, if_true, if_false, Bool.false_eq_true, ite_true, ite_false, Bool.not_true, Bool.not_false])
/-! ### deeds -/
end DL
/-! MC: Euclid's rule with the factors; plain -/
namespace DL
end DL
namespace DL
open PySem PySem.Spec PyProof.Rows L2
local macro_rules | `(tactic| walk_at "rd") => `(tactic| simp only [startD, List.map, List.replicate, List.length_cons, List.length_nil, List.append_eq, List.append_nil, List.nil_append, List.cons_append, Nat.reduceSub, Nat.reduceAdd, List.getElem?_cons_zero, List.getElem?_cons_succ, List.set_cons_zero, List.set_cons_succ,
  dC, dVar, dOp, dTru, gTru, tru, dChain, dAnd, dOr, dNot, dAndV, dOrV, dNotV, dIf, dNeg, gNeg, dNil, dCons, dTup, dLst, dOwn, gIx, rBin, gAdd, gCmpI, dCall, dCallK, dSeq, dNext, dDrop, dRet, dRetN, dIfS, dName, dGNil, dGCons, dGTup, dSub, gSetL, dAsg, dPar, dPar3, dAug, gIpI, dSeqI, gSeqI, dRngI, gRng1, gRng2, dCB, gAbs, gInt, gMax, gMin, gGcd, gLen, lenD, gIsi, tyM, tyD, dBits, gBits, dMet, gAppend, dPart, dNoPart, dSl, dEnds, gIs, isB, dNever, dFor, dLc, wipeD, dYes,
  sizeLine_eq, Nat.reduceLeDiff, gEq_int, gNe_int, gEq_strs, gNe_strs, gIn_two, gRepr_bl, rs_lst, rs_tup, rs_scr, rs_int, atI_0, atI_1, atI_2, atI_3, atI_4, atI_5, ixN_30, ixN_31, ixN_32, gEq_bl, gNe_bl, decide_eq_true_eq, beq_iff_eq, Bool.not_eq_true', beq_eq_false_iff_ne, decide_eq_false_iff_not, Bool.not_true, Bool.not_false, if_true, if_false, Bool.false_eq_true, ite_true, ite_false, true_and, and_true, ne_eq, Bool.bne_false, Bool.bne_true, reduceCtorEq])
local macro_rules | `(tactic| walk_at "rh") => `(tactic| simp only [*, startD, List.map, List.replicate, List.length_cons, List.length_nil, List.append_eq, List.append_nil, List.nil_append, List.cons_append, Nat.reduceSub, Nat.reduceAdd, List.getElem?_cons_zero, List.getElem?_cons_succ, List.set_cons_zero, List.set_cons_succ,
  dC, dVar, dOp, dTru, gTru, tru, dChain, dAnd, dOr, dNot, dAndV, dOrV, dNotV, dIf, dNeg, gNeg, dNil, dCons, dTup, dLst, dOwn, gIx, rBin, gAdd, gCmpI, dCall, dCallK, dSeq, dNext, dDrop, dRet, dRetN, dIfS, dName, dGNil, dGCons, dGTup, dSub, gSetL, dAsg, dPar, dPar3, dAug, gIpI, dSeqI, gSeqI, dRngI, gRng1, gRng2, dCB, gAbs, gInt, gMax, gMin, gGcd, gLen, lenD, gIsi, tyM, tyD, dBits, gBits, dMet, gAppend, dPart, dNoPart, dSl, dEnds, gIs, isB, dNever, dFor, dLc, wipeD, dYes,
  sizeLine_eq, Nat.reduceLeDiff, gEq_int, gNe_int, gEq_strs, gNe_strs, gIn_two, gRepr_bl, rs_lst, rs_tup, rs_scr, rs_int, atI_0, atI_1, atI_2, atI_3, atI_4, atI_5, ixN_30, ixN_31, ixN_32, gEq_bl, gNe_bl, decide_eq_true_eq, beq_iff_eq, Bool.not_eq_true', beq_eq_false_iff_ne, decide_eq_false_iff_not, Bool.not_true, Bool.not_false, if_true, if_false, Bool.false_eq_true, ite_true, ite_false, true_and, and_true, ne_eq, Bool.bne_false, Bool.bne_true, reduceCtorEq])
local macro_rules | `(tactic| walk_at "kb") => `(tactic| simp only [kb_NoneType_list, kb_bool_list, kb_int_list, kb_str_list, kb_tuple_list, kb_list_list, kb_dict_list, kb_NoneType_int, kb_bool_int, kb_int_int, kb_str_int, kb_tuple_int, kb_list_int, kb_dict_int, kb_NoneType_bool, kb_bool_bool, kb_int_bool, kb_str_bool, kb_tuple_bool, kb_list_bool, kb_dict_bool, kb_NoneType_tuple, kb_bool_tuple, kb_int_tuple, kb_str_tuple, kb_tuple_tuple, kb_list_tuple, kb_dict_tuple, if_true, if_false, Bool.false_eq_true, ite_true, ite_false, Bool.not_true, Bool.not_false])
/-! ### the common divisor with its two factors -/
end DL
namespace DL
open PySem PySem.Spec PyProof.Rows L2
local macro_rules | `(tactic| walk_at "rd") => `(tactic| simp only [startD, List.map, List.replicate, List.length_cons, List.length_nil, List.append_eq, List.append_nil, List.nil_append, List.cons_append, Nat.reduceSub, Nat.reduceAdd, List.getElem?_cons_zero, List.getElem?_cons_succ, List.set_cons_zero, List.set_cons_succ,
  dC, dVar, dOp, dTru, gTru, tru, dChain, dAnd, dOr, dNot, dAndV, dOrV, dNotV, dIf, dNeg, gNeg, dNil, dCons, dTup, dLst, dOwn, gIx, rBin, gAdd, gCmpI, dCall, dCallK, dSeq, dNext, dDrop, dRet, dRetN, dIfS, dName, dGNil, dGCons, dGTup, dSub, gSetL, dAsg, dPar, dPar3, dAug, gIpI, dSeqI, gSeqI, dRngI, gRng1, gRng2, dCB, gAbs, gInt, gMax, gMin, gGcd, gLen, lenD, gIsi, tyM, tyD, dBits, gBits, dMet, gAppend, dPart, dNoPart, dSl, dEnds, gIs, isB, dNever, dFor, dLc, wipeD, dYes,
  sizeLine_eq, Nat.reduceLeDiff, gEq_int, gNe_int, gEq_strs, gNe_strs, gIn_two, gRepr_bl, rs_lst, rs_tup, rs_scr, rs_int, atI_0, atI_1, atI_2, atI_3, atI_4, atI_5, ixN_30, ixN_31, ixN_32, gEq_bl, gNe_bl, decide_eq_true_eq, beq_iff_eq, Bool.not_eq_true', beq_eq_false_iff_ne, decide_eq_false_iff_not, Bool.not_true, Bool.not_false, if_true, if_false, Bool.false_eq_true, ite_true, ite_false, true_and, and_true, ne_eq, Bool.bne_false, Bool.bne_true, reduceCtorEq])
local macro_rules | `(tactic| walk_at "rh") => `(tactic| simp only [*, startD, List.map, List.replicate, List.length_cons, List.length_nil, List.append_eq, List.append_nil, List.nil_append, List.cons_append, Nat.reduceSub, Nat.reduceAdd, List.getElem?_cons_zero, List.getElem?_cons_succ, List.set_cons_zero, List.set_cons_succ,
  dC, dVar, dOp, dTru, gTru, tru, dChain, dAnd, dOr, dNot, dAndV, dOrV, dNotV, dIf, dNeg, gNeg, dNil, dCons, dTup, dLst, dOwn, gIx, rBin, gAdd, gCmpI, dCall, dCallK, dSeq, dNext, dDrop, dRet, dRetN, dIfS, dName, dGNil, dGCons, dGTup, dSub, gSetL, dAsg, dPar, dPar3, dAug, gIpI, dSeqI, gSeqI, dRngI, gRng1, gRng2, dCB, gAbs, gInt, gMax, gMin, gGcd, gLen, lenD, gIsi, tyM, tyD, dBits, gBits, dMet, gAppend, dPart, dNoPart, dSl, dEnds, gIs, isB, dNever, dFor, dLc, wipeD, dYes,
  sizeLine_eq, Nat.reduceLeDiff, gEq_int, gNe_int, gEq_strs, gNe_strs, gIn_two, gRepr_bl, rs_lst, rs_tup, rs_scr, rs_int, atI_0, atI_1, atI_2, atI_3, atI_4, atI_5, ixN_30, ixN_31, ixN_32, gEq_bl, gNe_bl, decide_eq_true_eq, beq_iff_eq, Bool.not_eq_true', beq_eq_false_iff_ne, decide_eq_false_iff_not, Bool.not_true, Bool.not_false, if_true, if_false, Bool.false_eq_true, ite_true, ite_false, true_and, and_true, ne_eq, Bool.bne_false, Bool.bne_true, reduceCtorEq])
local macro_rules | `(tactic| walk_at "kb") => `(tactic| simp only [kb_NoneType_list, kb_bool_list, kb_int_list, kb_str_list, kb_tuple_list, kb_list_list, kb_dict_list, kb_NoneType_int, kb_bool_int, kb_int_int, kb_str_int, kb_tuple_int, kb_list_int, kb_dict_int, kb_NoneType_bool, kb_bool_bool, kb_int_bool, kb_str_bool, kb_tuple_bool, kb_list_bool, kb_dict_bool, kb_NoneType_tuple, kb_bool_tuple, kb_int_tuple, kb_str_tuple, kb_tuple_tuple, kb_list_tuple, kb_dict_tuple, if_true, if_false, Bool.false_eq_true, ite_true, ite_false, Bool.not_true, Bool.not_false])
end DL
namespace DL
open PySem PySem.Spec PyProof.Rows L2
local macro_rules | `(tactic| walk_at "rd") => `(tactic| simp only [startD, List.map, List.replicate, List.length_cons, List.length_nil, List.append_eq, List.append_nil, List.nil_append, List.cons_append, Nat.reduceSub, Nat.reduceAdd, List.getElem?_cons_zero, List.getElem?_cons_succ, List.set_cons_zero, List.set_cons_succ,
  dC, dVar, dOp, dTru, gTru, tru, dChain, dAnd, dOr, dNot, dAndV, dOrV, dNotV, dIf, dNeg, gNeg, dNil, dCons, dTup, dLst, dOwn, gIx, rBin, gAdd, gCmpI, dCall, dCallK, dSeq, dNext, dDrop, dRet, dRetN, dIfS, dName, dGNil, dGCons, dGTup, dSub, gSetL, dAsg, dPar, dPar3, dAug, gIpI, dSeqI, gSeqI, dRngI, gRng1, gRng2, dCB, gAbs, gInt, gMax, gMin, gGcd, gLen, lenD, gIsi, tyM, tyD, dBits, gBits, dMet, gAppend, dPart, dNoPart, dSl, dEnds, gIs, isB, dNever, dFor, dLc, wipeD, dYes,
  sizeLine_eq, Nat.reduceLeDiff, gEq_int, gNe_int, gEq_strs, gNe_strs, gIn_two, gRepr_bl, rs_lst, rs_tup, rs_scr, rs_int, atI_0, atI_1, atI_2, atI_3, atI_4, atI_5, ixN_30, ixN_31, ixN_32, gEq_bl, gNe_bl, decide_eq_true_eq, beq_iff_eq, Bool.not_eq_true', beq_eq_false_iff_ne, decide_eq_false_iff_not, Bool.not_true, Bool.not_false, if_true, if_false, Bool.false_eq_true, ite_true, ite_false, true_and, and_true, ne_eq, Bool.bne_false, Bool.bne_true, reduceCtorEq])
local macro_rules | `(tactic| walk_at "rh") => `(tactic| simp only [*, startD, List.map, List.replicate, List.length_cons, List.length_nil, List.append_eq, List.append_nil, List.nil_append, List.cons_append, Nat.reduceSub, Nat.reduceAdd, List.getElem?_cons_zero, List.getElem?_cons_succ, List.set_cons_zero, List.set_cons_succ,
  dC, dVar, dOp, dTru, gTru, tru, dChain, dAnd, dOr, dNot, dAndV, dOrV, dNotV, dIf, dNeg, gNeg, dNil, dCons, dTup, dLst, dOwn, gIx, rBin, gAdd, gCmpI, dCall, dCallK, dSeq, dNext, dDrop, dRet, dRetN, dIfS, dName, dGNil, dGCons, dGTup, dSub, gSetL, dAsg, dPar, dPar3, dAug, gIpI, dSeqI, gSeqI, dRngI, gRng1, gRng2, dCB, gAbs, gInt, gMax, gMin, gGcd, gLen, lenD, gIsi, tyM, tyD, dBits, gBits, dMet, gAppend, dPart, dNoPart, dSl, dEnds, gIs, isB, dNever, dFor, dLc, wipeD, dYes,
  sizeLine_eq, Nat.reduceLeDiff, gEq_int, gNe_int, gEq_strs, gNe_strs, gIn_two, gRepr_bl, rs_lst, rs_tup, rs_scr, rs_int, atI_0, atI_1, atI_2, atI_3, atI_4, atI_5, ixN_30, ixN_31, ixN_32, gEq_bl, gNe_bl, decide_eq_true_eq, beq_iff_eq, Bool.not_eq_true', beq_eq_false_iff_ne, decide_eq_false_iff_not, Bool.not_true, Bool.not_false, if_true, if_false, Bool.false_eq_true, ite_true, ite_false, true_and, and_true, ne_eq, Bool.bne_false, Bool.bne_true, reduceCtorEq])
local macro_rules | `(tactic| walk_at "kb") => `(tactic| simp only [kb_NoneType_list, kb_bool_list, kb_int_list, kb_str_list, kb_tuple_list, kb_list_list, kb_dict_list, kb_NoneType_int, kb_bool_int, kb_int_int, kb_str_int, kb_tuple_int, kb_list_int, kb_dict_int, kb_NoneType_bool, kb_bool_bool, kb_int_bool, kb_str_bool, kb_tuple_bool, kb_list_bool, kb_dict_bool, kb_NoneType_tuple, kb_bool_tuple, kb_int_tuple, kb_str_tuple, kb_tuple_tuple, kb_list_tuple, kb_dict_tuple, if_true, if_false, Bool.false_eq_true, ite_true, ite_false, Bool.not_true, Bool.not_false])
/-! ### all that a deed makes -/
end DL
/-! MD: deeds with q = 1 that lead nearer to the heart; columns led down; plain -/
namespace DL
end DL
/-! ME: two columns led down; plain -/
namespace DL
/-- (o1, o2), (t1, t2) came of (i, k), (j, l) -/
structure Led (i k j l o1 o2 t1 t2 : Int) : Prop where
  ex : ∃ u v u' v' : Int, o1 = u * i + v * j ∧ o2 = u * k + v * l ∧ t1 = u' * i + v' * j ∧ t2 = u' * k + v' * l ∧ (u * v' - u' * v = 1 ∨ u * v' - u' * v = -1)
theorem Led.start (i k j l : Int) : Led i k j l i k j l := ⟨1, 0, 0, 1, by omega, by omega, by omega, by omega, .inl (by omega)⟩
end DL
namespace DL
open PySem PySem.Spec PyProof.Rows L2
local macro_rules | `(tactic| walk_at "rd") => `(tactic| simp only [startD, List.map, List.replicate, List.length_cons, List.length_nil, List.append_eq, List.append_nil, List.nil_append, List.cons_append, Nat.reduceSub, Nat.reduceAdd, List.getElem?_cons_zero, List.getElem?_cons_succ, List.set_cons_zero, List.set_cons_succ,
  dC, dVar, dOp, dTru, gTru, tru, dChain, dAnd, dOr, dNot, dAndV, dOrV, dNotV, dIf, dNeg, gNeg, dNil, dCons, dTup, dLst, dOwn, gIx, rBin, gAdd, gCmpI, dCall, dCallK, dSeq, dNext, dDrop, dRet, dRetN, dIfS, dName, dGNil, dGCons, dGTup, dSub, gSetL, dAsg, dPar, dPar3, dAug, gIpI, dSeqI, gSeqI, dRngI, gRng1, gRng2, dCB, gAbs, gInt, gMax, gMin, gGcd, gLen, lenD, gIsi, tyM, tyD, dBits, gBits, dMet, gAppend, dPart, dNoPart, dSl, gSl_tup, gSl_lst, cut_1, dEnds, gIs, isB, dNever, dFor, dLc, wipeD, dYes,
  sizeLine_eq, Nat.reduceLeDiff, gEq_int, gNe_int, gEq_strs, gNe_strs, gIn_two, gRepr_bl, rs_lst, rs_tup, rs_scr, rs_int, atI_0, atI_1, atI_2, atI_3, atI_4, atI_5, ixN_30, ixN_31, ixN_32, gEq_bl, gNe_bl, decide_eq_true_eq, beq_iff_eq, Bool.not_eq_true', beq_eq_false_iff_ne, decide_eq_false_iff_not, Bool.not_true, Bool.not_false, if_true, if_false, Bool.false_eq_true, ite_true, ite_false, true_and, and_true, ne_eq, Bool.bne_false, Bool.bne_true, reduceCtorEq])
local macro_rules | `(tactic| walk_at "rh") => `(tactic| simp only [*, startD, List.map, List.replicate, List.length_cons, List.length_nil, List.append_eq, List.append_nil, List.nil_append, List.cons_append, Nat.reduceSub, Nat.reduceAdd, List.getElem?_cons_zero, List.getElem?_cons_succ, List.set_cons_zero, List.set_cons_succ,
  dC, dVar, dOp, dTru, gTru, tru, dChain, dAnd, dOr, dNot, dAndV, dOrV, dNotV, dIf, dNeg, gNeg, dNil, dCons, dTup, dLst, dOwn, gIx, rBin, gAdd, gCmpI, dCall, dCallK, dSeq, dNext, dDrop, dRet, dRetN, dIfS, dName, dGNil, dGCons, dGTup, dSub, gSetL, dAsg, dPar, dPar3, dAug, gIpI, dSeqI, gSeqI, dRngI, gRng1, gRng2, dCB, gAbs, gInt, gMax, gMin, gGcd, gLen, lenD, gIsi, tyM, tyD, dBits, gBits, dMet, gAppend, dPart, dNoPart, dSl, gSl_tup, gSl_lst, cut_1, dEnds, gIs, isB, dNever, dFor, dLc, wipeD, dYes,
  sizeLine_eq, Nat.reduceLeDiff, gEq_int, gNe_int, gEq_strs, gNe_strs, gIn_two, gRepr_bl, rs_lst, rs_tup, rs_scr, rs_int, atI_0, atI_1, atI_2, atI_3, atI_4, atI_5, ixN_30, ixN_31, ixN_32, gEq_bl, gNe_bl, decide_eq_true_eq, beq_iff_eq, Bool.not_eq_true', beq_eq_false_iff_ne, decide_eq_false_iff_not, Bool.not_true, Bool.not_false, if_true, if_false, Bool.false_eq_true, ite_true, ite_false, true_and, and_true, ne_eq, Bool.bne_false, Bool.bne_true, reduceCtorEq])
local macro_rules | `(tactic| walk_at "kb") => `(tactic| simp only [kb_NoneType_list, kb_bool_list, kb_int_list, kb_str_list, kb_tuple_list, kb_list_list, kb_dict_list, kb_NoneType_int, kb_bool_int, kb_int_int, kb_str_int, kb_tuple_int, kb_list_int, kb_dict_int, kb_NoneType_bool, kb_bool_bool, kb_int_bool, kb_str_bool, kb_tuple_bool, kb_list_bool, kb_dict_bool, kb_NoneType_tuple, kb_bool_tuple, kb_int_tuple, kb_str_tuple, kb_tuple_tuple, kb_list_tuple, kb_dict_tuple, if_true, if_false, Bool.false_eq_true, ite_true, ite_false, Bool.not_true, Bool.not_false])
/-! ### sizes of cuttings by their measure -/
def CutB (n : Nat) (a b c e : Int) : Prop := Bi n a ∧ Bi n b ∧ Bi n c ∧ Bi n e
theorem CutB.mono {n k : Nat} {a b c e : Int} (h : CutB n a b c e) (hk : n ≤ k := by decide) : CutB k a b c e := ⟨h.1.mono hk, h.2.1.mono hk, h.2.2.1.mono hk, h.2.2.2.mono hk⟩
/-- a deed's numbers, but for the bound of the first -/
structure DeedQ (b c e p q : Int) : Prop where
  q1 : 1 ≤ q
  al : 0 < b - q * e - q * q * c
  p0 : 0 ≤ p
  cp : Int.gcd p q = 1
end DL
namespace DL
open PySem PySem.Spec PyProof.Rows L2
local macro_rules | `(tactic| walk_at "rd") => `(tactic| simp only [startD, List.map, List.replicate, List.length_cons, List.length_nil, List.append_eq, List.append_nil, List.nil_append, List.cons_append, Nat.reduceSub, Nat.reduceAdd, List.getElem?_cons_zero, List.getElem?_cons_succ, List.set_cons_zero, List.set_cons_succ,
  dC, dVar, dOp, dTru, gTru, tru, dChain, dAnd, dOr, dNot, dAndV, dOrV, dNotV, dIf, dNeg, gNeg, dNil, dCons, dTup, dLst, dOwn, gIx, rBin, gAdd, gCmpI, dCall, dCallK, dSeq, dNext, dDrop, dRet, dRetN, dIfS, dName, dGNil, dGCons, dGTup, dSub, gSetL, dAsg, dPar, dPar3, dAug, gIpI, dSeqI, gSeqI, dRngI, gRng1, gRng2, dCB, gAbs, gInt, gMax, gMin, gGcd, gLen, lenD, gIsi, tyM, tyD, dBits, gBits, dMet, gAppend, dPart, dNoPart, dSl, gSl_tup, gSl_lst, cut_1, dEnds, gIs, isB, dNever, dFor, dLc, wipeD, dYes,
  sizeLine_eq, Nat.reduceLeDiff, gEq_int, gNe_int, gEq_strs, gNe_strs, gIn_two, gRepr_bl, rs_lst, rs_tup, rs_scr, rs_int, atI_0, atI_1, atI_2, atI_3, atI_4, atI_5, ixN_30, ixN_31, ixN_32, gEq_bl, gNe_bl, decide_eq_true_eq, beq_iff_eq, Bool.not_eq_true', beq_eq_false_iff_ne, decide_eq_false_iff_not, Bool.not_true, Bool.not_false, if_true, if_false, Bool.false_eq_true, ite_true, ite_false, true_and, and_true, ne_eq, Bool.bne_false, Bool.bne_true, reduceCtorEq])
local macro_rules | `(tactic| walk_at "rh") => `(tactic| simp only [*, startD, List.map, List.replicate, List.length_cons, List.length_nil, List.append_eq, List.append_nil, List.nil_append, List.cons_append, Nat.reduceSub, Nat.reduceAdd, List.getElem?_cons_zero, List.getElem?_cons_succ, List.set_cons_zero, List.set_cons_succ,
  dC, dVar, dOp, dTru, gTru, tru, dChain, dAnd, dOr, dNot, dAndV, dOrV, dNotV, dIf, dNeg, gNeg, dNil, dCons, dTup, dLst, dOwn, gIx, rBin, gAdd, gCmpI, dCall, dCallK, dSeq, dNext, dDrop, dRet, dRetN, dIfS, dName, dGNil, dGCons, dGTup, dSub, gSetL, dAsg, dPar, dPar3, dAug, gIpI, dSeqI, gSeqI, dRngI, gRng1, gRng2, dCB, gAbs, gInt, gMax, gMin, gGcd, gLen, lenD, gIsi, tyM, tyD, dBits, gBits, dMet, gAppend, dPart, dNoPart, dSl, gSl_tup, gSl_lst, cut_1, dEnds, gIs, isB, dNever, dFor, dLc, wipeD, dYes,
  sizeLine_eq, Nat.reduceLeDiff, gEq_int, gNe_int, gEq_strs, gNe_strs, gIn_two, gRepr_bl, rs_lst, rs_tup, rs_scr, rs_int, atI_0, atI_1, atI_2, atI_3, atI_4, atI_5, ixN_30, ixN_31, ixN_32, gEq_bl, gNe_bl, decide_eq_true_eq, beq_iff_eq, Bool.not_eq_true', beq_eq_false_iff_ne, decide_eq_false_iff_not, Bool.not_true, Bool.not_false, if_true, if_false, Bool.false_eq_true, ite_true, ite_false, true_and, and_true, ne_eq, Bool.bne_false, Bool.bne_true, reduceCtorEq])
local macro_rules | `(tactic| walk_at "kb") => `(tactic| simp only [kb_NoneType_list, kb_bool_list, kb_int_list, kb_str_list, kb_tuple_list, kb_list_list, kb_dict_list, kb_NoneType_int, kb_bool_int, kb_int_int, kb_str_int, kb_tuple_int, kb_list_int, kb_dict_int, kb_NoneType_bool, kb_bool_bool, kb_int_bool, kb_str_bool, kb_tuple_bool, kb_list_bool, kb_dict_bool, kb_NoneType_tuple, kb_bool_tuple, kb_int_tuple, kb_str_tuple, kb_tuple_tuple, kb_list_tuple, kb_dict_tuple, if_true, if_false, Bool.false_eq_true, ite_true, ite_false, Bool.not_true, Bool.not_false])
/-! ### the way to the heart -/
end DL
namespace DL
open PySem PySem.Spec PyProof.Rows L2
local macro_rules | `(tactic| walk_at "rd") => `(tactic| simp only [startD, List.map, List.replicate, List.length_cons, List.length_nil, List.append_eq, List.append_nil, List.nil_append, List.cons_append, Nat.reduceSub, Nat.reduceAdd, List.getElem?_cons_zero, List.getElem?_cons_succ, List.set_cons_zero, List.set_cons_succ,
  dC, dVar, dOp, dTru, gTru, tru, dChain, dAnd, dOr, dNot, dAndV, dOrV, dNotV, dIf, dNeg, gNeg, dNil, dCons, dTup, dLst, dOwn, gIx, rBin, gAdd, gCmpI, dCall, dCallK, dSeq, dNext, dDrop, dRet, dRetN, dIfS, dName, dGNil, dGCons, dGTup, dSub, gSetL, dAsg, dPar, dPar3, dAug, gIpI, dSeqI, gSeqI, dRngI, gRng1, gRng2, dCB, gAbs, gInt, gMax, gMin, gGcd, gLen, lenD, gIsi, tyM, tyD, dBits, gBits, dMet, gAppend, dPart, dNoPart, dSl, gSl_tup, gSl_lst, cut_1, dEnds, gIs, isB, dNever, dFor, dLc, wipeD, dYes,
  sizeLine_eq, Nat.reduceLeDiff, gEq_int, gNe_int, gEq_strs, gNe_strs, gIn_two, gRepr_bl, rs_lst, rs_tup, rs_scr, rs_int, atI_0, atI_1, atI_2, atI_3, atI_4, atI_5, ixN_30, ixN_31, ixN_32, gEq_bl, gNe_bl, decide_eq_true_eq, beq_iff_eq, Bool.not_eq_true', beq_eq_false_iff_ne, decide_eq_false_iff_not, Bool.not_true, Bool.not_false, if_true, if_false, Bool.false_eq_true, ite_true, ite_false, true_and, and_true, ne_eq, Bool.bne_false, Bool.bne_true, reduceCtorEq])
local macro_rules | `(tactic| walk_at "rh") => `(tactic| simp only [*, startD, List.map, List.replicate, List.length_cons, List.length_nil, List.append_eq, List.append_nil, List.nil_append, List.cons_append, Nat.reduceSub, Nat.reduceAdd, List.getElem?_cons_zero, List.getElem?_cons_succ, List.set_cons_zero, List.set_cons_succ,
  dC, dVar, dOp, dTru, gTru, tru, dChain, dAnd, dOr, dNot, dAndV, dOrV, dNotV, dIf, dNeg, gNeg, dNil, dCons, dTup, dLst, dOwn, gIx, rBin, gAdd, gCmpI, dCall, dCallK, dSeq, dNext, dDrop, dRet, dRetN, dIfS, dName, dGNil, dGCons, dGTup, dSub, gSetL, dAsg, dPar, dPar3, dAug, gIpI, dSeqI, gSeqI, dRngI, gRng1, gRng2, dCB, gAbs, gInt, gMax, gMin, gGcd, gLen, lenD, gIsi, tyM, tyD, dBits, gBits, dMet, gAppend, dPart, dNoPart, dSl, gSl_tup, gSl_lst, cut_1, dEnds, gIs, isB, dNever, dFor, dLc, wipeD, dYes,
  sizeLine_eq, Nat.reduceLeDiff, gEq_int, gNe_int, gEq_strs, gNe_strs, gIn_two, gRepr_bl, rs_lst, rs_tup, rs_scr, rs_int, atI_0, atI_1, atI_2, atI_3, atI_4, atI_5, ixN_30, ixN_31, ixN_32, gEq_bl, gNe_bl, decide_eq_true_eq, beq_iff_eq, Bool.not_eq_true', beq_eq_false_iff_ne, decide_eq_false_iff_not, Bool.not_true, Bool.not_false, if_true, if_false, Bool.false_eq_true, ite_true, ite_false, true_and, and_true, ne_eq, Bool.bne_false, Bool.bne_true, reduceCtorEq])
local macro_rules | `(tactic| walk_at "kb") => `(tactic| simp only [kb_NoneType_list, kb_bool_list, kb_int_list, kb_str_list, kb_tuple_list, kb_list_list, kb_dict_list, kb_NoneType_int, kb_bool_int, kb_int_int, kb_str_int, kb_tuple_int, kb_list_int, kb_dict_int, kb_NoneType_bool, kb_bool_bool, kb_int_bool, kb_str_bool, kb_tuple_bool, kb_list_bool, kb_dict_bool, kb_NoneType_tuple, kb_bool_tuple, kb_int_tuple, kb_str_tuple, kb_tuple_tuple, kb_list_tuple, kb_dict_tuple, if_true, if_false, Bool.false_eq_true, ite_true, ite_false, Bool.not_true, Bool.not_false])
/-! ### the law's own deeds -/
end DL
namespace DL
open PySem PySem.Spec PyProof.Rows L2
local macro_rules | `(tactic| walk_at "rd") => `(tactic| simp only [startD, List.map, List.replicate, List.length_cons, List.length_nil, List.append_eq, List.append_nil, List.nil_append, List.cons_append, Nat.reduceSub, Nat.reduceAdd, List.getElem?_cons_zero, List.getElem?_cons_succ, List.set_cons_zero, List.set_cons_succ,
  dC, dVar, dOp, dTru, gTru, tru, dChain, dAnd, dOr, dNot, dAndV, dOrV, dNotV, dIf, dNeg, gNeg, dNil, dCons, dTup, dLst, dOwn, gIx, rBin, gAdd, gCmpI, dCall, dCallK, dSeq, dNext, dDrop, dRet, dRetN, dIfS, dName, dGNil, dGCons, dGTup, dSub, gSetL, dAsg, dPar, dPar3, dAug, gIpI, dSeqI, gSeqI, dRngI, gRng1, gRng2, dCB, gAbs, gInt, gMax, gMin, gGcd, gLen, lenD, gIsi, tyM, tyD, dBits, gBits, dMet, gAppend, dPart, dNoPart, dSl, gSl_tup, gSl_lst, cut_1, dEnds, gIs, isB, dNever, dFor, dLc, wipeD, dYes,
  sizeLine_eq, Nat.reduceLeDiff, gEq_int, gNe_int, gEq_strs, gNe_strs, gIn_two, gRepr_bl, rs_lst, rs_tup, rs_scr, rs_int, atI_0, atI_1, atI_2, atI_3, atI_4, atI_5, ixN_30, ixN_31, ixN_32, gEq_bl, gNe_bl, decide_eq_true_eq, beq_iff_eq, Bool.not_eq_true', beq_eq_false_iff_ne, decide_eq_false_iff_not, Bool.not_true, Bool.not_false, if_true, if_false, Bool.false_eq_true, ite_true, ite_false, true_and, and_true, ne_eq, Bool.bne_false, Bool.bne_true, reduceCtorEq])
local macro_rules | `(tactic| walk_at "rh") => `(tactic| simp only [*, startD, List.map, List.replicate, List.length_cons, List.length_nil, List.append_eq, List.append_nil, List.nil_append, List.cons_append, Nat.reduceSub, Nat.reduceAdd, List.getElem?_cons_zero, List.getElem?_cons_succ, List.set_cons_zero, List.set_cons_succ,
  dC, dVar, dOp, dTru, gTru, tru, dChain, dAnd, dOr, dNot, dAndV, dOrV, dNotV, dIf, dNeg, gNeg, dNil, dCons, dTup, dLst, dOwn, gIx, rBin, gAdd, gCmpI, dCall, dCallK, dSeq, dNext, dDrop, dRet, dRetN, dIfS, dName, dGNil, dGCons, dGTup, dSub, gSetL, dAsg, dPar, dPar3, dAug, gIpI, dSeqI, gSeqI, dRngI, gRng1, gRng2, dCB, gAbs, gInt, gMax, gMin, gGcd, gLen, lenD, gIsi, tyM, tyD, dBits, gBits, dMet, gAppend, dPart, dNoPart, dSl, gSl_tup, gSl_lst, cut_1, dEnds, gIs, isB, dNever, dFor, dLc, wipeD, dYes,
  sizeLine_eq, Nat.reduceLeDiff, gEq_int, gNe_int, gEq_strs, gNe_strs, gIn_two, gRepr_bl, rs_lst, rs_tup, rs_scr, rs_int, atI_0, atI_1, atI_2, atI_3, atI_4, atI_5, ixN_30, ixN_31, ixN_32, gEq_bl, gNe_bl, decide_eq_true_eq, beq_iff_eq, Bool.not_eq_true', beq_eq_false_iff_ne, decide_eq_false_iff_not, Bool.not_true, Bool.not_false, if_true, if_false, Bool.false_eq_true, ite_true, ite_false, true_and, and_true, ne_eq, Bool.bne_false, Bool.bne_true, reduceCtorEq])
local macro_rules | `(tactic| walk_at "kb") => `(tactic| simp only [kb_NoneType_list, kb_bool_list, kb_int_list, kb_str_list, kb_tuple_list, kb_list_list, kb_dict_list, kb_NoneType_int, kb_bool_int, kb_int_int, kb_str_int, kb_tuple_int, kb_list_int, kb_dict_int, kb_NoneType_bool, kb_bool_bool, kb_int_bool, kb_str_bool, kb_tuple_bool, kb_list_bool, kb_dict_bool, kb_NoneType_tuple, kb_bool_tuple, kb_int_tuple, kb_str_tuple, kb_tuple_tuple, kb_list_tuple, kb_dict_tuple, if_true, if_false, Bool.false_eq_true, ite_true, ite_false, Bool.not_true, Bool.not_false])
/-! ### k63: drawn deeds, the heart's numbers -/
/-- a deed: (p, q) is one of (a, b, c, e) -/
def isDeed (b c e p q : Int) : Bool := decide (1 ≤ q) && (decide (0 < b - q * e - q * q * c) && (decide (0 ≤ p) && (decide (p < q * (c / (Int.gcd b c : Int))) && (Int.gcd p q : Int) == 1)))
theorem meas_par {a b c e : Int} : (e - meas4 b c e) % 2 = 0 := by
  unfold meas4
  have e1 : 4 * b * c = 4 * (b * c) := Int.mul_assoc _ _ _
  rw [e1]
  rcases (by omega : e % 2 = 0 ∨ e % 2 = 1) with q | q
  · obtain ⟨t, rfl⟩ : ∃ t, e = 2 * t := ⟨e / 2, by omega⟩
    have : 2 * t * (2 * t) = 4 * (t * t) := by grind
    omega
  · obtain ⟨t, rfl⟩ : ∃ t, e = 2 * t + 1 := ⟨e / 2, by omega⟩
    have : (2 * t + 1) * (2 * t + 1) = 4 * (t * t + t) + 1 := by grind
    omega
end DL
namespace DL
open PySem PySem.Spec PyProof.Rows L2
local macro_rules | `(tactic| walk_at "rd") => `(tactic| simp only [startD, List.map, List.replicate, List.length_cons, List.length_nil, List.append_eq, List.append_nil, List.nil_append, List.cons_append, Nat.reduceSub, Nat.reduceAdd, List.getElem?_cons_zero, List.getElem?_cons_succ, List.set_cons_zero, List.set_cons_succ,
  dC, dVar, dOp, dTru, gTru, tru, dChain, dAnd, dOr, dNot, dAndV, dOrV, dNotV, dIf, dNeg, gNeg, dNil, dCons, dTup, dLst, dOwn, gIx, rBin, gAdd, gCmpI, dCall, dCallK, dSeq, dNext, dDrop, dRet, dRetN, dIfS, dName, dGNil, dGCons, dGTup, dSub, gSetL, dAsg, dPar, dPar3, dAug, gIpI, dSeqI, gSeqI, dRngI, gRng1, gRng2, dCB, gAbs, gInt, gMax, gMin, gGcd, gLen, lenD, gIsi, tyM, tyD, dBits, gBits, dMet, gAppend, dPart, dNoPart, dSl, gSl_tup, gSl_lst, cut_1, dEnds, gIs, isB, dNever, dFor, dLc, wipeD, dYes,
  sizeLine_eq, Nat.reduceLeDiff, gEq_int, gNe_int, gEq_strs, gNe_strs, gIn_two, gRepr_bl, rs_lst, rs_tup, rs_scr, rs_int, atI_0, atI_1, atI_2, atI_3, atI_4, atI_5, ixN_30, ixN_31, ixN_32, gEq_bl, gNe_bl, decide_eq_true_eq, beq_iff_eq, Bool.not_eq_true', beq_eq_false_iff_ne, decide_eq_false_iff_not, Bool.not_true, Bool.not_false, if_true, if_false, Bool.false_eq_true, ite_true, ite_false, true_and, and_true, ne_eq, Bool.bne_false, Bool.bne_true, reduceCtorEq])
local macro_rules | `(tactic| walk_at "rh") => `(tactic| simp only [*, startD, List.map, List.replicate, List.length_cons, List.length_nil, List.append_eq, List.append_nil, List.nil_append, List.cons_append, Nat.reduceSub, Nat.reduceAdd, List.getElem?_cons_zero, List.getElem?_cons_succ, List.set_cons_zero, List.set_cons_succ,
  dC, dVar, dOp, dTru, gTru, tru, dChain, dAnd, dOr, dNot, dAndV, dOrV, dNotV, dIf, dNeg, gNeg, dNil, dCons, dTup, dLst, dOwn, gIx, rBin, gAdd, gCmpI, dCall, dCallK, dSeq, dNext, dDrop, dRet, dRetN, dIfS, dName, dGNil, dGCons, dGTup, dSub, gSetL, dAsg, dPar, dPar3, dAug, gIpI, dSeqI, gSeqI, dRngI, gRng1, gRng2, dCB, gAbs, gInt, gMax, gMin, gGcd, gLen, lenD, gIsi, tyM, tyD, dBits, gBits, dMet, gAppend, dPart, dNoPart, dSl, gSl_tup, gSl_lst, cut_1, dEnds, gIs, isB, dNever, dFor, dLc, wipeD, dYes,
  sizeLine_eq, Nat.reduceLeDiff, gEq_int, gNe_int, gEq_strs, gNe_strs, gIn_two, gRepr_bl, rs_lst, rs_tup, rs_scr, rs_int, atI_0, atI_1, atI_2, atI_3, atI_4, atI_5, ixN_30, ixN_31, ixN_32, gEq_bl, gNe_bl, decide_eq_true_eq, beq_iff_eq, Bool.not_eq_true', beq_eq_false_iff_ne, decide_eq_false_iff_not, Bool.not_true, Bool.not_false, if_true, if_false, Bool.false_eq_true, ite_true, ite_false, true_and, and_true, ne_eq, Bool.bne_false, Bool.bne_true, reduceCtorEq])
local macro_rules | `(tactic| walk_at "kb") => `(tactic| simp only [kb_NoneType_list, kb_bool_list, kb_int_list, kb_str_list, kb_tuple_list, kb_list_list, kb_dict_list, kb_NoneType_int, kb_bool_int, kb_int_int, kb_str_int, kb_tuple_int, kb_list_int, kb_dict_int, kb_NoneType_bool, kb_bool_bool, kb_int_bool, kb_str_bool, kb_tuple_bool, kb_list_bool, kb_dict_bool, kb_NoneType_tuple, kb_bool_tuple, kb_int_tuple, kb_str_tuple, kb_tuple_tuple, kb_list_tuple, kb_dict_tuple, if_true, if_false, Bool.false_eq_true, ite_true, ite_false, Bool.not_true, Bool.not_false])
/-! ### all cuttings of a measure, as laws list them -/
def IsC (m : Int) (x : List Int) : Prop := ∃ a b c e, x = [a, b, c, e] ∧ isCut a b c e = true ∧ meas4 b c e = m
/-- l: cuttings of the measure m, among them all with P c e -/
def Cov (m : Int) (l : List (List Int)) (P : Int → Int → Prop) : Prop := (∀ x ∈ l, IsC m x) ∧ ∀ a b c e, isCut a b c e = true → meas4 b c e = m → P c e → [a, b, c, e] ∈ l
theorem Cov.app {m : Int} {l l2 : List (List Int)} {P P' : Int → Int → Prop} (h : Cov m l P) (g : Cov m l2 P') : Cov m (l ++ l2) fun c e => P c e ∨ P' c e :=
  ⟨fun x hx => (List.mem_append.mp hx).elim (h.1 x) (g.1 x), fun a b c e h1 h2 h3 => List.mem_append.mpr (h3.imp (h.2 a b c e h1 h2) (g.2 a b c e h1 h2))⟩
theorem Cov.nil {m : Int} : Cov m [] fun _ _ => False := ⟨fun x hx => (by cases hx), fun _ _ _ _ _ _ h => h.elim⟩
theorem meas_bc {b c e m : Int} : meas4 b c e = m ↔ 4 * (b * c) = m - e * e := by
  unfold meas4
  rw [Int.mul_assoc]
  omega
/-! ### k28's own lists -/
/-! every deed leads somewhere -/
/-! where a deed leads, as a function -/
theorem isDeed_parts {b c e p q : Int} (h : isDeed b c e p q = true) : DeedQ b c e p q ∧ p < q * (c / (Int.gcd b c : Int)) := by
  simp only [isDeed, Bool.and_eq_true, decide_eq_true_eq, beq_iff_eq] at h
  obtain ⟨h1, h2, h3, h4, h5⟩ := h
  exact ⟨⟨h1, h2, h3, by omega⟩, h4⟩
end DL
namespace DL
open PySem PySem.Spec PyProof.Rows L2
local macro_rules | `(tactic| walk_at "rd") => `(tactic| simp only [startD, List.map, List.replicate, List.length_cons, List.length_nil, List.append_eq, List.append_nil, List.nil_append, List.cons_append, Nat.reduceSub, Nat.reduceAdd, List.getElem?_cons_zero, List.getElem?_cons_succ, List.set_cons_zero, List.set_cons_succ,
  dC, dVar, dOp, dTru, gTru, tru, dChain, dAnd, dOr, dNot, dAndV, dOrV, dNotV, dIf, dNeg, gNeg, dNil, dCons, dTup, dLst, dOwn, gIx, rBin, gAdd, gCmpI, dCall, dCallK, dSeq, dNext, dDrop, dRet, dRetN, dIfS, dName, dGNil, dGCons, dGTup, dSub, gSetL, dAsg, dPar, dPar3, dAug, gIpI, dSeqI, gSeqI, dRngI, gRng1, gRng2, dCB, gAbs, gInt, gMax, gMin, gGcd, gLen, lenD, gIsi, tyM, tyD, dBits, gBits, dMet, gAppend, dPart, dNoPart, dSl, gSl_tup, gSl_lst, cut_1, dEnds, gIs, isB, dNever, dFor, dLc, wipeD, dYes,
  sizeLine_eq, Nat.reduceLeDiff, gEq_int, gNe_int, gEq_strs, gNe_strs, gIn_two, gRepr_bl, rs_lst, rs_tup, rs_scr, rs_int, atI_0, atI_1, atI_2, atI_3, atI_4, atI_5, ixN_30, ixN_31, ixN_32, gEq_bl, gNe_bl, decide_eq_true_eq, beq_iff_eq, Bool.not_eq_true', beq_eq_false_iff_ne, decide_eq_false_iff_not, Bool.not_true, Bool.not_false, if_true, if_false, Bool.false_eq_true, ite_true, ite_false, true_and, and_true, ne_eq, Bool.bne_false, Bool.bne_true, reduceCtorEq])
local macro_rules | `(tactic| walk_at "rh") => `(tactic| simp only [*, startD, List.map, List.replicate, List.length_cons, List.length_nil, List.append_eq, List.append_nil, List.nil_append, List.cons_append, Nat.reduceSub, Nat.reduceAdd, List.getElem?_cons_zero, List.getElem?_cons_succ, List.set_cons_zero, List.set_cons_succ,
  dC, dVar, dOp, dTru, gTru, tru, dChain, dAnd, dOr, dNot, dAndV, dOrV, dNotV, dIf, dNeg, gNeg, dNil, dCons, dTup, dLst, dOwn, gIx, rBin, gAdd, gCmpI, dCall, dCallK, dSeq, dNext, dDrop, dRet, dRetN, dIfS, dName, dGNil, dGCons, dGTup, dSub, gSetL, dAsg, dPar, dPar3, dAug, gIpI, dSeqI, gSeqI, dRngI, gRng1, gRng2, dCB, gAbs, gInt, gMax, gMin, gGcd, gLen, lenD, gIsi, tyM, tyD, dBits, gBits, dMet, gAppend, dPart, dNoPart, dSl, gSl_tup, gSl_lst, cut_1, dEnds, gIs, isB, dNever, dFor, dLc, wipeD, dYes,
  sizeLine_eq, Nat.reduceLeDiff, gEq_int, gNe_int, gEq_strs, gNe_strs, gIn_two, gRepr_bl, rs_lst, rs_tup, rs_scr, rs_int, atI_0, atI_1, atI_2, atI_3, atI_4, atI_5, ixN_30, ixN_31, ixN_32, gEq_bl, gNe_bl, decide_eq_true_eq, beq_iff_eq, Bool.not_eq_true', beq_eq_false_iff_ne, decide_eq_false_iff_not, Bool.not_true, Bool.not_false, if_true, if_false, Bool.false_eq_true, ite_true, ite_false, true_and, and_true, ne_eq, Bool.bne_false, Bool.bne_true, reduceCtorEq])
local macro_rules | `(tactic| walk_at "kb") => `(tactic| simp only [kb_NoneType_list, kb_bool_list, kb_int_list, kb_str_list, kb_tuple_list, kb_list_list, kb_dict_list, kb_NoneType_int, kb_bool_int, kb_int_int, kb_str_int, kb_tuple_int, kb_list_int, kb_dict_int, kb_NoneType_bool, kb_bool_bool, kb_int_bool, kb_str_bool, kb_tuple_bool, kb_list_bool, kb_dict_bool, kb_NoneType_tuple, kb_bool_tuple, kb_int_tuple, kb_str_tuple, kb_tuple_tuple, kb_list_tuple, kb_dict_tuple, if_true, if_false, Bool.false_eq_true, ite_true, ite_false, Bool.not_true, Bool.not_false])
/-! ### cells are only added -/
def Plus (M M' : Mem) : Prop := ∃ G, M' = M ++ G ∧ ∀ c ∈ G, ∀ n, belowO n c = true
theorem Plus.refl (M : Mem) : Plus M M := ⟨[], (List.append_nil M).symm, fun c h => (by cases h)⟩
theorem Plus.trans {M M' M'' : Mem} (h : Plus M M') (g : Plus M' M'') : Plus M M'' := by
  obtain ⟨G, rfl, h1⟩ := h
  obtain ⟨G', rfl, h2⟩ := g
  exact ⟨G ++ G', List.append_assoc _ _ _, fun c hc => (List.mem_append.mp hc).elim (h1 c) (h2 c)⟩
theorem Plus.add {M M' : Mem} {l : List D} (h : Plus M M') (hl : ∀ n, belowAll n l = true) : Plus M (M' ++ [.lst l]) :=
  h.trans ⟨[.lst l], rfl, fun c hc n => by rw [List.mem_singleton.mp hc]; exact hl n⟩
theorem Plus.get {M M' : Mem} (h : Plus M M') {i : Nat} (hi : i < M.length) : M'[i]? = M[i]? := by
  obtain ⟨G, rfl, _⟩ := h
  exact List.getElem?_append_left hi
theorem Plus.len {M M' : Mem} (h : Plus M M') : M.length ≤ M'.length := by
  obtain ⟨G, rfl, _⟩ := h
  rw [List.length_append]; omega
theorem Plus.rtq {M M' : Mem} {Q : DQ} {d : D} (h : Plus M M') (q : Q d M') (hb : below M'.length d = true := by rfl) : Rtq M Q d M' := by
  refine rtqC q h.len hb fun i c hc => ?_
  obtain ⟨G, rfl, h1⟩ := h
  by_cases hi : i < M.length
  · rw [List.getElem?_append_left hi] at hc
    exact .inl hc
  · rw [List.getElem?_append_right (by omega)] at hc
    exact .inr (h1 c (List.mem_of_getElem? hc) _)
/-- the new cells are let go -/
theorem Plus.drop {M M' : Mem} {Q : DQ} {d : D} (h : Plus M M') (q : Q d M) (hb : below M.length d = true := by rfl) : Rtq M Q d M' := by
  obtain ⟨G, rfl, _⟩ := h
  exact rtqG q hb
theorem Plus.set {M M' : Mem} {k : Nat} {l : List D} (h : Plus M M') (hk : M.length ≤ k) (hl : ∀ n, belowAll n l = true) : Plus M (M'.set k (.lst l)) := by
  obtain ⟨G, rfl, h1⟩ := h
  refine ⟨G.set (k - M.length) (.lst l), ?_, fun c hc n => ?_⟩
  · rw [List.set_append_right _ _ hk]
  · rcases List.mem_or_eq_of_mem_set hc with hc | rfl
    · exact h1 c hc n
    · exact hl n
/-! ### the way to the heart, as a list of the caller's -/
/-! ### k28 -/
end DL
namespace DL
open PySem PySem.Spec PyProof.Rows L2
local macro_rules | `(tactic| walk_at "rd") => `(tactic| simp only [startD, List.map, List.replicate, List.length_cons, List.length_nil, List.append_eq, List.append_nil, List.nil_append, List.cons_append, Nat.reduceSub, Nat.reduceAdd, List.getElem?_cons_zero, List.getElem?_cons_succ, List.set_cons_zero, List.set_cons_succ,
  dC, dVar, dOp, dTru, gTru, tru, dChain, dAnd, dOr, dNot, dAndV, dOrV, dNotV, dIf, dNeg, gNeg, dNil, dCons, dTup, dLst, dOwn, gIx, rBin, gAdd, gCmpI, dCall, dCallK, dSeq, dNext, dDrop, dRet, dRetN, dIfS, dName, dGNil, dGCons, dGTup, dSub, gSetL, dAsg, dPar, dPar3, dAug, gIpI, dSeqI, gSeqI, dRngI, gRng1, gRng2, dCB, gAbs, gInt, gMax, gMin, gGcd, gLen, lenD, gIsi, tyM, tyD, dBits, gBits, dMet, gAppend, dPart, dNoPart, dSl, gSl_tup, gSl_lst, cut_1, dEnds, gIs, isB, dNever, dFor, dLc, wipeD, dYes,
  sizeLine_eq, Nat.reduceLeDiff, gEq_int, gNe_int, gEq_strs, gNe_strs, gIn_two, gRepr_bl, rs_lst, rs_tup, rs_scr, rs_int, atI_0, atI_1, atI_2, atI_3, atI_4, atI_5, ixN_30, ixN_31, ixN_32, gEq_bl, gNe_bl, decide_eq_true_eq, beq_iff_eq, Bool.not_eq_true', beq_eq_false_iff_ne, decide_eq_false_iff_not, Bool.not_true, Bool.not_false, if_true, if_false, Bool.false_eq_true, ite_true, ite_false, true_and, and_true, ne_eq, Bool.bne_false, Bool.bne_true, reduceCtorEq])
local macro_rules | `(tactic| walk_at "rh") => `(tactic| simp only [*, startD, List.map, List.replicate, List.length_cons, List.length_nil, List.append_eq, List.append_nil, List.nil_append, List.cons_append, Nat.reduceSub, Nat.reduceAdd, List.getElem?_cons_zero, List.getElem?_cons_succ, List.set_cons_zero, List.set_cons_succ,
  dC, dVar, dOp, dTru, gTru, tru, dChain, dAnd, dOr, dNot, dAndV, dOrV, dNotV, dIf, dNeg, gNeg, dNil, dCons, dTup, dLst, dOwn, gIx, rBin, gAdd, gCmpI, dCall, dCallK, dSeq, dNext, dDrop, dRet, dRetN, dIfS, dName, dGNil, dGCons, dGTup, dSub, gSetL, dAsg, dPar, dPar3, dAug, gIpI, dSeqI, gSeqI, dRngI, gRng1, gRng2, dCB, gAbs, gInt, gMax, gMin, gGcd, gLen, lenD, gIsi, tyM, tyD, dBits, gBits, dMet, gAppend, dPart, dNoPart, dSl, gSl_tup, gSl_lst, cut_1, dEnds, gIs, isB, dNever, dFor, dLc, wipeD, dYes,
  sizeLine_eq, Nat.reduceLeDiff, gEq_int, gNe_int, gEq_strs, gNe_strs, gIn_two, gRepr_bl, rs_lst, rs_tup, rs_scr, rs_int, atI_0, atI_1, atI_2, atI_3, atI_4, atI_5, ixN_30, ixN_31, ixN_32, gEq_bl, gNe_bl, decide_eq_true_eq, beq_iff_eq, Bool.not_eq_true', beq_eq_false_iff_ne, decide_eq_false_iff_not, Bool.not_true, Bool.not_false, if_true, if_false, Bool.false_eq_true, ite_true, ite_false, true_and, and_true, ne_eq, Bool.bne_false, Bool.bne_true, reduceCtorEq])
local macro_rules | `(tactic| walk_at "kb") => `(tactic| simp only [kb_NoneType_list, kb_bool_list, kb_int_list, kb_str_list, kb_tuple_list, kb_list_list, kb_dict_list, kb_NoneType_int, kb_bool_int, kb_int_int, kb_str_int, kb_tuple_int, kb_list_int, kb_dict_int, kb_NoneType_bool, kb_bool_bool, kb_int_bool, kb_str_bool, kb_tuple_bool, kb_list_bool, kb_dict_bool, kb_NoneType_tuple, kb_bool_tuple, kb_int_tuple, kb_str_tuple, kb_tuple_tuple, kb_list_tuple, kb_dict_tuple, if_true, if_false, Bool.false_eq_true, ite_true, ite_false, Bool.not_true, Bool.not_false])
/-! ### sorted lists of tuples of ints -/
abbrev LSorted (l : List (List Int)) : Prop := l.Pairwise fun x y => lexL y x = false
/-! ### all cuttings of a measure, each once -/
def CovX (m : Int) (l : List (List Int)) (P : Int → Int → Prop) : Prop := l.Nodup ∧ ∀ x, x ∈ l ↔ ∃ a b c e, x = [a, b, c, e] ∧ isCut a b c e = true ∧ meas4 b c e = m ∧ P c e
theorem CovX.nil {m : Int} {P : Int → Int → Prop} (h : ∀ a b c e, isCut a b c e = true → meas4 b c e = m → ¬ P c e) : CovX m [] P :=
  ⟨List.nodup_nil, fun x => ⟨fun h => (by cases h), by rintro ⟨a, b, c, e, rfl, h1, h2, h3⟩; exact (h a b c e h1 h2 h3).elim⟩⟩
theorem CovX.iff {m : Int} {l : List (List Int)} {P P' : Int → Int → Prop} (h : CovX m l P) (w : ∀ a b c e, isCut a b c e = true → meas4 b c e = m → (P' c e ↔ P c e)) : CovX m l P' := by
  refine ⟨h.1, fun x => (h.2 x).trans ?_⟩
  constructor
  · rintro ⟨a, b, c, e, rfl, h1, h2, h3⟩; exact ⟨a, b, c, e, rfl, h1, h2, (w a b c e h1 h2).mpr h3⟩
  · rintro ⟨a, b, c, e, rfl, h1, h2, h3⟩; exact ⟨a, b, c, e, rfl, h1, h2, (w a b c e h1 h2).mp h3⟩
theorem CovX.app {m : Int} {l l2 : List (List Int)} {P P' : Int → Int → Prop} (h : CovX m l P) (g : CovX m l2 P') (w : ∀ c e, P c e → P' c e → False) : CovX m (l ++ l2) fun c e => P c e ∨ P' c e := by
  refine ⟨List.nodup_append.mpr ⟨h.1, g.1, fun x hx y hy e => ?_⟩, fun x => ?_⟩
  · subst e
    obtain ⟨a, b, c, e, rfl, _, _, h3⟩ := (h.2 x).mp hx
    obtain ⟨a', b', c', e', h4, _, _, h5⟩ := (g.2 _).mp hy
    cases h4
    exact w c e h3 h5
  · rw [List.mem_append, h.2, g.2]
    constructor
    · rintro (⟨a, b, c, e, rfl, h1, h2, h3⟩ | ⟨a, b, c, e, rfl, h1, h2, h3⟩)
      · exact ⟨a, b, c, e, rfl, h1, h2, .inl h3⟩
      · exact ⟨a, b, c, e, rfl, h1, h2, .inr h3⟩
    · rintro ⟨a, b, c, e, rfl, h1, h2, h3 | h3⟩
      · exact .inl ⟨a, b, c, e, rfl, h1, h2, h3⟩
      · exact .inr ⟨a, b, c, e, rfl, h1, h2, h3⟩
/-- the whole of them, sorted -/
structure AllC (m : Int) (l : List (List Int)) : Prop where
  nd : l.Nodup
  mem : ∀ x, x ∈ l ↔ IsC m x
  srt : LSorted l
  len : l.length ≤ 10000000
theorem AllC.of {m : Int} {l l' : List (List Int)} {P : Int → Int → Prop} (h : CovX m l P) (w : ∀ a b c e, isCut a b c e = true → meas4 b c e = m → P c e) (hl : l.length ≤ 10000000) (pm : l'.Perm l) (sd : LSorted l') : AllC m l' := by
  refine ⟨(pm.nodup_iff).mpr h.1, fun x => ?_, sd, by rw [pm.length_eq]; exact hl⟩
  rw [pm.mem_iff, h.2]
  constructor
  · rintro ⟨a, b, c, e, rfl, h1, h2, _⟩; exact ⟨a, b, c, e, rfl, h1, h2⟩
  · rintro ⟨a, b, c, e, rfl, h1, h2⟩; exact ⟨a, b, c, e, rfl, h1, h2, w a b c e h1 h2⟩
/-! ### the functions of k13 to k16 -/
end DL
namespace DL
open PySem PySem.Spec PyProof.Rows L2
local macro_rules | `(tactic| walk_at "rd") => `(tactic| simp only [startD, List.map, List.replicate, List.length_cons, List.length_nil, List.append_eq, List.append_nil, List.nil_append, List.cons_append, Nat.reduceSub, Nat.reduceAdd, List.getElem?_cons_zero, List.getElem?_cons_succ, List.set_cons_zero, List.set_cons_succ,
  dC, dVar, dOp, dTru, gTru, tru, dChain, dAnd, dOr, dNot, dAndV, dOrV, dNotV, dIf, dNeg, gNeg, dNil, dCons, dTup, dLst, dOwn, gIx, rBin, gAdd, gCmpI, dCall, dCallK, dSeq, dNext, dDrop, dRet, dRetN, dIfS, dName, dGNil, dGCons, dGTup, dSub, gSetL, dAsg, dPar, dPar3, dAug, gIpI, dSeqI, gSeqI, dRngI, gRng1, gRng2, dCB, gAbs, gInt, gMax, gMin, gGcd, gLen, lenD, gIsi, tyM, tyD, dBits, gBits, dMet, gAppend, dPart, dNoPart, dSl, gSl_tup, gSl_lst, cut_1, dEnds, gIs, isB, dNever, dFor, dLc, wipeD, dYes,
  sizeLine_eq, Nat.reduceLeDiff, gEq_int, gNe_int, gEq_strs, gNe_strs, gIn_two, gRepr_bl, rs_lst, rs_tup, rs_scr, rs_int, atI_0, atI_1, atI_2, atI_3, atI_4, atI_5, ixN_30, ixN_31, ixN_32, gEq_bl, gNe_bl, decide_eq_true_eq, beq_iff_eq, Bool.not_eq_true', beq_eq_false_iff_ne, decide_eq_false_iff_not, Bool.not_true, Bool.not_false, if_true, if_false, Bool.false_eq_true, ite_true, ite_false, true_and, and_true, ne_eq, Bool.bne_false, Bool.bne_true, reduceCtorEq])
local macro_rules | `(tactic| walk_at "rh") => `(tactic| simp only [*, startD, List.map, List.replicate, List.length_cons, List.length_nil, List.append_eq, List.append_nil, List.nil_append, List.cons_append, Nat.reduceSub, Nat.reduceAdd, List.getElem?_cons_zero, List.getElem?_cons_succ, List.set_cons_zero, List.set_cons_succ,
  dC, dVar, dOp, dTru, gTru, tru, dChain, dAnd, dOr, dNot, dAndV, dOrV, dNotV, dIf, dNeg, gNeg, dNil, dCons, dTup, dLst, dOwn, gIx, rBin, gAdd, gCmpI, dCall, dCallK, dSeq, dNext, dDrop, dRet, dRetN, dIfS, dName, dGNil, dGCons, dGTup, dSub, gSetL, dAsg, dPar, dPar3, dAug, gIpI, dSeqI, gSeqI, dRngI, gRng1, gRng2, dCB, gAbs, gInt, gMax, gMin, gGcd, gLen, lenD, gIsi, tyM, tyD, dBits, gBits, dMet, gAppend, dPart, dNoPart, dSl, gSl_tup, gSl_lst, cut_1, dEnds, gIs, isB, dNever, dFor, dLc, wipeD, dYes,
  sizeLine_eq, Nat.reduceLeDiff, gEq_int, gNe_int, gEq_strs, gNe_strs, gIn_two, gRepr_bl, rs_lst, rs_tup, rs_scr, rs_int, atI_0, atI_1, atI_2, atI_3, atI_4, atI_5, ixN_30, ixN_31, ixN_32, gEq_bl, gNe_bl, decide_eq_true_eq, beq_iff_eq, Bool.not_eq_true', beq_eq_false_iff_ne, decide_eq_false_iff_not, Bool.not_true, Bool.not_false, if_true, if_false, Bool.false_eq_true, ite_true, ite_false, true_and, and_true, ne_eq, Bool.bne_false, Bool.bne_true, reduceCtorEq])
local macro_rules | `(tactic| walk_at "kb") => `(tactic| simp only [kb_NoneType_list, kb_bool_list, kb_int_list, kb_str_list, kb_tuple_list, kb_list_list, kb_dict_list, kb_NoneType_int, kb_bool_int, kb_int_int, kb_str_int, kb_tuple_int, kb_list_int, kb_dict_int, kb_NoneType_bool, kb_bool_bool, kb_int_bool, kb_str_bool, kb_tuple_bool, kb_list_bool, kb_dict_bool, kb_NoneType_tuple, kb_bool_tuple, kb_int_tuple, kb_str_tuple, kb_tuple_tuple, kb_list_tuple, kb_dict_tuple, if_true, if_false, Bool.false_eq_true, ite_true, ite_false, Bool.not_true, Bool.not_false])
/-! ### a drawn cutting of a small measure -/
/-! ### all deeds of a cutting -/
theorem allowed_mono {b c e q q' : Int} (hb : 1 ≤ b) (hc : 1 ≤ c) (h1 : 1 ≤ q) (h2 : q ≤ q') (h : 0 < b - q' * e - q' * q' * c) : 0 < b - q * e - q * q * c := by
  have e1 : q' * (b - q * e - q * q * c) = q * (b - q' * e - q' * q' * c) + (q' - q) * b + q * q' * (q' - q) * c := by grind
  have p1 : 0 < q * (b - q' * e - q' * q' * c) := Int.mul_pos (by omega) h
  have p2 : 0 ≤ (q' - q) * b := Int.mul_nonneg (by omega) (by omega)
  have p3 : 0 ≤ q * q' * (q' - q) * c := Int.mul_nonneg (Int.mul_nonneg (Int.mul_nonneg (by omega) (by omega)) (by omega)) (by omega)
  by_cases z : 0 < b - q * e - q * q * c
  · exact z
  · have : q' * (b - q * e - q * q * c) ≤ 0 := Int.mul_nonpos_of_nonneg_of_nonpos (by omega) (by omega)
    omega
def CovD (b c e : Int) (l : List (List Int)) (k : Int) : Prop := l.Nodup ∧ ∀ x, x ∈ l ↔ ∃ p q, x = [p, q] ∧ isDeed b c e p q = true ∧ q < k
structure AllD (b c e : Int) (l : List (List Int)) : Prop where
  nd : l.Nodup
  mem : ∀ x, x ∈ l ↔ ∃ p q, x = [p, q] ∧ isDeed b c e p q = true
  srt : LSorted l
  len : l.length ≤ 10000000
theorem AllD.of {b c e k : Int} {l l' : List (List Int)} (hb : 1 ≤ b) (hc : 1 ≤ c) (hk : 1 ≤ k) (h : CovD b c e l k) (hn : ¬ 0 < b - k * e - k * k * c) (hl : l.length ≤ 10000000) (pm : l'.Perm l) (sd : LSorted l') : AllD b c e l' := by
  refine ⟨(pm.nodup_iff).mpr h.1, fun x => ?_, sd, by rw [pm.length_eq]; exact hl⟩
  rw [pm.mem_iff, h.2]
  constructor
  · rintro ⟨p, q, rfl, h1, _⟩; exact ⟨p, q, rfl, h1⟩
  · rintro ⟨p, q, rfl, h1⟩
    refine ⟨p, q, rfl, h1, ?_⟩
    by_cases z : q < k
    · exact z
    · exact (hn (allowed_mono hb hc hk (by omega) (isDeed_parts h1).1.al)).elim
/-! ### deeds judged -/
theorem len2 {l : List D} (h : l.length = 2) : ∃ a b, l = [a, b] := by
  match l, h with
  | [a, b], _ => exact ⟨a, b, rfl⟩
/-! ### columns led down -/
end DL
namespace DL
open PySem PySem.Spec PyProof.Rows L2
local macro_rules | `(tactic| walk_at "rd") => `(tactic| simp only [startD, List.map, List.replicate, List.length_cons, List.length_nil, List.append_eq, List.append_nil, List.nil_append, List.cons_append, Nat.reduceSub, Nat.reduceAdd, List.getElem?_cons_zero, List.getElem?_cons_succ, List.set_cons_zero, List.set_cons_succ,
  dC, dVar, dOp, dTru, gTru, tru, dChain, dAnd, dOr, dNot, dAndV, dOrV, dNotV, dIf, dNeg, gNeg, dNil, dCons, dTup, dLst, dOwn, gIx, rBin, gAdd, gCmpI, dCall, dCallK, dSeq, dNext, dDrop, dRet, dRetN, dIfS, dName, dGNil, dGCons, dGTup, dSub, gSetL, dAsg, dPar, dPar3, dAug, gIpI, dSeqI, gSeqI, dRngI, gRng1, gRng2, dCB, gAbs, gInt, gMax, gMin, gGcd, gLen, lenD, gIsi, tyM, tyD, dBits, gBits, dMet, gAppend, dPart, dNoPart, dSl, gSl_tup, gSl_lst, cut_1, dEnds, gIs, isB, dNever, dFor, dLc, wipeD, dYes,
  sizeLine_eq, Nat.reduceLeDiff, gEq_int, gNe_int, gEq_strs, gNe_strs, gIn_two, gRepr_bl, rs_lst, rs_tup, rs_scr, rs_int, atI_0, atI_1, atI_2, atI_3, atI_4, atI_5, ixN_30, ixN_31, ixN_32, gEq_bl, gNe_bl, decide_eq_true_eq, beq_iff_eq, Bool.not_eq_true', beq_eq_false_iff_ne, decide_eq_false_iff_not, Bool.not_true, Bool.not_false, if_true, if_false, Bool.false_eq_true, ite_true, ite_false, true_and, and_true, ne_eq, Bool.bne_false, Bool.bne_true, reduceCtorEq])
local macro_rules | `(tactic| walk_at "rh") => `(tactic| simp only [*, startD, List.map, List.replicate, List.length_cons, List.length_nil, List.append_eq, List.append_nil, List.nil_append, List.cons_append, Nat.reduceSub, Nat.reduceAdd, List.getElem?_cons_zero, List.getElem?_cons_succ, List.set_cons_zero, List.set_cons_succ,
  dC, dVar, dOp, dTru, gTru, tru, dChain, dAnd, dOr, dNot, dAndV, dOrV, dNotV, dIf, dNeg, gNeg, dNil, dCons, dTup, dLst, dOwn, gIx, rBin, gAdd, gCmpI, dCall, dCallK, dSeq, dNext, dDrop, dRet, dRetN, dIfS, dName, dGNil, dGCons, dGTup, dSub, gSetL, dAsg, dPar, dPar3, dAug, gIpI, dSeqI, gSeqI, dRngI, gRng1, gRng2, dCB, gAbs, gInt, gMax, gMin, gGcd, gLen, lenD, gIsi, tyM, tyD, dBits, gBits, dMet, gAppend, dPart, dNoPart, dSl, gSl_tup, gSl_lst, cut_1, dEnds, gIs, isB, dNever, dFor, dLc, wipeD, dYes,
  sizeLine_eq, Nat.reduceLeDiff, gEq_int, gNe_int, gEq_strs, gNe_strs, gIn_two, gRepr_bl, rs_lst, rs_tup, rs_scr, rs_int, atI_0, atI_1, atI_2, atI_3, atI_4, atI_5, ixN_30, ixN_31, ixN_32, gEq_bl, gNe_bl, decide_eq_true_eq, beq_iff_eq, Bool.not_eq_true', beq_eq_false_iff_ne, decide_eq_false_iff_not, Bool.not_true, Bool.not_false, if_true, if_false, Bool.false_eq_true, ite_true, ite_false, true_and, and_true, ne_eq, Bool.bne_false, Bool.bne_true, reduceCtorEq])
local macro_rules | `(tactic| walk_at "kb") => `(tactic| simp only [kb_NoneType_list, kb_bool_list, kb_int_list, kb_str_list, kb_tuple_list, kb_list_list, kb_dict_list, kb_NoneType_int, kb_bool_int, kb_int_int, kb_str_int, kb_tuple_int, kb_list_int, kb_dict_int, kb_NoneType_bool, kb_bool_bool, kb_int_bool, kb_str_bool, kb_tuple_bool, kb_list_bool, kb_dict_bool, kb_NoneType_tuple, kb_bool_tuple, kb_int_tuple, kb_str_tuple, kb_tuple_tuple, kb_list_tuple, kb_dict_tuple, if_true, if_false, Bool.false_eq_true, ite_true, ite_false, Bool.not_true, Bool.not_false])
/-! ### columns of a deed's table, led down -/
/-! ### x in l -/
end DL
/-! MF: the deed that leads back; plain -/
namespace DL
end DL
namespace DL
open PySem PySem.Spec PyProof.Rows L2
local macro_rules | `(tactic| walk_at "rd") => `(tactic| simp only [startD, List.map, List.replicate, List.length_cons, List.length_nil, List.append_eq, List.append_nil, List.nil_append, List.cons_append, Nat.reduceSub, Nat.reduceAdd, List.getElem?_cons_zero, List.getElem?_cons_succ, List.set_cons_zero, List.set_cons_succ,
  dC, dVar, dOp, dTru, gTru, tru, dChain, dAnd, dOr, dNot, dAndV, dOrV, dNotV, dIf, dNeg, gNeg, dNil, dCons, dTup, dLst, dOwn, gIx, rBin, gAdd, gCmpI, dCall, dCallK, dSeq, dNext, dDrop, dRet, dRetN, dIfS, dName, dGNil, dGCons, dGTup, dSub, gSetL, dAsg, dPar, dPar3, dAug, gIpI, dSeqI, gSeqI, dRngI, gRng1, gRng2, dCB, gAbs, gInt, gMax, gMin, gGcd, gLen, lenD, gIsi, tyM, tyD, dBits, gBits, dMet, gAppend, dPart, dNoPart, dSl, gSl_tup, gSl_lst, cut_1, dEnds, gIs, isB, dNever, dFor, dLc, wipeD, dYes,
  sizeLine_eq, Nat.reduceLeDiff, gEq_int, gNe_int, gEq_strs, gNe_strs, gIn_two, gRepr_bl, rs_lst, rs_tup, rs_scr, rs_int, atI_0, atI_1, atI_2, atI_3, atI_4, atI_5, ixN_30, ixN_31, ixN_32, gEq_bl, gNe_bl, decide_eq_true_eq, beq_iff_eq, Bool.not_eq_true', beq_eq_false_iff_ne, decide_eq_false_iff_not, Bool.not_true, Bool.not_false, if_true, if_false, Bool.false_eq_true, ite_true, ite_false, true_and, and_true, ne_eq, Bool.bne_false, Bool.bne_true, reduceCtorEq])
local macro_rules | `(tactic| walk_at "rh") => `(tactic| simp only [*, startD, List.map, List.replicate, List.length_cons, List.length_nil, List.append_eq, List.append_nil, List.nil_append, List.cons_append, Nat.reduceSub, Nat.reduceAdd, List.getElem?_cons_zero, List.getElem?_cons_succ, List.set_cons_zero, List.set_cons_succ,
  dC, dVar, dOp, dTru, gTru, tru, dChain, dAnd, dOr, dNot, dAndV, dOrV, dNotV, dIf, dNeg, gNeg, dNil, dCons, dTup, dLst, dOwn, gIx, rBin, gAdd, gCmpI, dCall, dCallK, dSeq, dNext, dDrop, dRet, dRetN, dIfS, dName, dGNil, dGCons, dGTup, dSub, gSetL, dAsg, dPar, dPar3, dAug, gIpI, dSeqI, gSeqI, dRngI, gRng1, gRng2, dCB, gAbs, gInt, gMax, gMin, gGcd, gLen, lenD, gIsi, tyM, tyD, dBits, gBits, dMet, gAppend, dPart, dNoPart, dSl, gSl_tup, gSl_lst, cut_1, dEnds, gIs, isB, dNever, dFor, dLc, wipeD, dYes,
  sizeLine_eq, Nat.reduceLeDiff, gEq_int, gNe_int, gEq_strs, gNe_strs, gIn_two, gRepr_bl, rs_lst, rs_tup, rs_scr, rs_int, atI_0, atI_1, atI_2, atI_3, atI_4, atI_5, ixN_30, ixN_31, ixN_32, gEq_bl, gNe_bl, decide_eq_true_eq, beq_iff_eq, Bool.not_eq_true', beq_eq_false_iff_ne, decide_eq_false_iff_not, Bool.not_true, Bool.not_false, if_true, if_false, Bool.false_eq_true, ite_true, ite_false, true_and, and_true, ne_eq, Bool.bne_false, Bool.bne_true, reduceCtorEq])
local macro_rules | `(tactic| walk_at "kb") => `(tactic| simp only [kb_NoneType_list, kb_bool_list, kb_int_list, kb_str_list, kb_tuple_list, kb_list_list, kb_dict_list, kb_NoneType_int, kb_bool_int, kb_int_int, kb_str_int, kb_tuple_int, kb_list_int, kb_dict_int, kb_NoneType_bool, kb_bool_bool, kb_int_bool, kb_str_bool, kb_tuple_bool, kb_list_bool, kb_dict_bool, kb_NoneType_tuple, kb_bool_tuple, kb_int_tuple, kb_str_tuple, kb_tuple_tuple, kb_list_tuple, kb_dict_tuple, if_true, if_false, Bool.false_eq_true, ite_true, ite_false, Bool.not_true, Bool.not_false])
mutual
/-- data without truth values and dicts -/
def nb : PyData → Bool
  | .none => true
  | .int _ => true
  | .str _ => true
  | .list l => nbAll l
  | .tuple l => nbAll l
  | _ => false
def nbAll : List PyData → Bool
  | [] => true
  | d :: ds => nb d && nbAll ds
end
end DL
/-! MG: how many numbers below n are free of n; plain -/
namespace DL
open Classical in
noncomputable def cnt (n : Nat) (P : Nat → Prop) : Nat := (List.range n).countP fun i => decide (P i)
/-- no divisor of n below k divides i -/
def Free (n k i : Nat) : Prop := ∀ d, 2 ≤ d → d < k → d ∣ n → ¬ d ∣ i
/-- the state of the reckoning -/
structure Fst (n k left c : Nat) : Prop where
  l1 : 1 ≤ left
  ln : left ∣ n
  low : ∀ d, 2 ≤ d → d < k → ¬ d ∣ left
  up : ∀ d, d ∣ n → (∀ e, 2 ≤ e → e < k → ¬ e ∣ d) → d ∣ left
  ct : c = cnt n (Free n k)
open Classical in
theorem Fst.start {n : Nat} (hn : 1 ≤ n) : Fst n 2 n n := by
  refine ⟨hn, Nat.dvd_refl _, fun d d2 d3 => by omega, fun d h _ => h, ?_⟩
  unfold cnt
  rw [List.countP_eq_length.mpr, List.length_range]
  intro i _
  rw [decide_eq_true_iff]
  intro d d2 d3
  omega
end DL
namespace DL
open PySem PySem.Spec PyProof.Rows L2
local macro_rules | `(tactic| walk_at "rd") => `(tactic| simp only [startD, List.map, List.replicate, List.length_cons, List.length_nil, List.append_eq, List.append_nil, List.nil_append, List.cons_append, Nat.reduceSub, Nat.reduceAdd, List.getElem?_cons_zero, List.getElem?_cons_succ, List.set_cons_zero, List.set_cons_succ,
  dC, dVar, dOp, dTru, gTru, tru, dChain, dAnd, dOr, dNot, dAndV, dOrV, dNotV, dIf, dNeg, gNeg, dNil, dCons, dTup, dLst, dOwn, gIx, rBin, gAdd, gCmpI, dCall, dCallK, dSeq, dNext, dDrop, dRet, dRetN, dIfS, dName, dGNil, dGCons, dGTup, dSub, gSetL, dAsg, dPar, dPar3, dAug, gIpI, dSeqI, gSeqI, dRngI, gRng1, gRng2, dCB, gAbs, gInt, gMax, gMin, gGcd, gLen, lenD, gIsi, tyM, tyD, dBits, gBits, dMet, gAppend, dPart, dNoPart, dSl, gSl_tup, gSl_lst, cut_1, dEnds, gIs, isB, dNever, dFor, dLc, wipeD, dYes,
  sizeLine_eq, Nat.reduceLeDiff, gEq_int, gNe_int, gEq_strs, gNe_strs, gIn_two, gRepr_bl, rs_lst, rs_tup, rs_scr, rs_int, atI_0, atI_1, atI_2, atI_3, atI_4, atI_5, ixN_30, ixN_31, ixN_32, gEq_bl, gNe_bl, decide_eq_true_eq, beq_iff_eq, Bool.not_eq_true', beq_eq_false_iff_ne, decide_eq_false_iff_not, Bool.not_true, Bool.not_false, if_true, if_false, Bool.false_eq_true, ite_true, ite_false, true_and, and_true, ne_eq, Bool.bne_false, Bool.bne_true, reduceCtorEq])
local macro_rules | `(tactic| walk_at "rh") => `(tactic| simp only [*, startD, List.map, List.replicate, List.length_cons, List.length_nil, List.append_eq, List.append_nil, List.nil_append, List.cons_append, Nat.reduceSub, Nat.reduceAdd, List.getElem?_cons_zero, List.getElem?_cons_succ, List.set_cons_zero, List.set_cons_succ,
  dC, dVar, dOp, dTru, gTru, tru, dChain, dAnd, dOr, dNot, dAndV, dOrV, dNotV, dIf, dNeg, gNeg, dNil, dCons, dTup, dLst, dOwn, gIx, rBin, gAdd, gCmpI, dCall, dCallK, dSeq, dNext, dDrop, dRet, dRetN, dIfS, dName, dGNil, dGCons, dGTup, dSub, gSetL, dAsg, dPar, dPar3, dAug, gIpI, dSeqI, gSeqI, dRngI, gRng1, gRng2, dCB, gAbs, gInt, gMax, gMin, gGcd, gLen, lenD, gIsi, tyM, tyD, dBits, gBits, dMet, gAppend, dPart, dNoPart, dSl, gSl_tup, gSl_lst, cut_1, dEnds, gIs, isB, dNever, dFor, dLc, wipeD, dYes,
  sizeLine_eq, Nat.reduceLeDiff, gEq_int, gNe_int, gEq_strs, gNe_strs, gIn_two, gRepr_bl, rs_lst, rs_tup, rs_scr, rs_int, atI_0, atI_1, atI_2, atI_3, atI_4, atI_5, ixN_30, ixN_31, ixN_32, gEq_bl, gNe_bl, decide_eq_true_eq, beq_iff_eq, Bool.not_eq_true', beq_eq_false_iff_ne, decide_eq_false_iff_not, Bool.not_true, Bool.not_false, if_true, if_false, Bool.false_eq_true, ite_true, ite_false, true_and, and_true, ne_eq, Bool.bne_false, Bool.bne_true, reduceCtorEq])
local macro_rules | `(tactic| walk_at "kb") => `(tactic| simp only [kb_NoneType_list, kb_bool_list, kb_int_list, kb_str_list, kb_tuple_list, kb_list_list, kb_dict_list, kb_NoneType_int, kb_bool_int, kb_int_int, kb_str_int, kb_tuple_int, kb_list_int, kb_dict_int, kb_NoneType_bool, kb_bool_bool, kb_int_bool, kb_str_bool, kb_tuple_bool, kb_list_bool, kb_dict_bool, kb_NoneType_tuple, kb_bool_tuple, kb_int_tuple, kb_str_tuple, kb_tuple_tuple, kb_list_tuple, kb_dict_tuple, if_true, if_false, Bool.false_eq_true, ite_true, ite_false, Bool.not_true, Bool.not_false])
end DL
/-! MH: mirrored cuttings, mirrored deeds; plain -/
namespace DL
end DL
namespace DL
open PySem PySem.Spec PyProof.Rows L2
local macro_rules | `(tactic| walk_at "rd") => `(tactic| simp only [startD, List.map, List.replicate, List.length_cons, List.length_nil, List.append_eq, List.append_nil, List.nil_append, List.cons_append, Nat.reduceSub, Nat.reduceAdd, List.getElem?_cons_zero, List.getElem?_cons_succ, List.set_cons_zero, List.set_cons_succ,
  dC, dVar, dOp, dTru, gTru, tru, dChain, dAnd, dOr, dNot, dAndV, dOrV, dNotV, dIf, dNeg, gNeg, dNil, dCons, dTup, dLst, dOwn, gIx, rBin, gAdd, gCmpI, dCall, dCallK, dSeq, dNext, dDrop, dRet, dRetN, dIfS, dName, dGNil, dGCons, dGTup, dSub, gSetL, dAsg, dPar, dPar3, dAug, gIpI, dSeqI, gSeqI, dRngI, gRng1, gRng2, dCB, gAbs, gInt, gMax, gMin, gGcd, gLen, lenD, gIsi, tyM, tyD, dBits, gBits, dMet, gAppend, dPart, dNoPart, dSl, gSl_tup, gSl_lst, cut_1, dEnds, gIs, isB, dNever, dFor, dLc, wipeD, dYes,
  sizeLine_eq, Nat.reduceLeDiff, gEq_int, gNe_int, gEq_strs, gNe_strs, gIn_two, gRepr_bl, rs_lst, rs_tup, rs_scr, rs_int, atI_0, atI_1, atI_2, atI_3, atI_4, atI_5, ixN_30, ixN_31, ixN_32, gEq_bl, gNe_bl, decide_eq_true_eq, beq_iff_eq, Bool.not_eq_true', beq_eq_false_iff_ne, decide_eq_false_iff_not, Bool.not_true, Bool.not_false, if_true, if_false, Bool.false_eq_true, ite_true, ite_false, true_and, and_true, ne_eq, Bool.bne_false, Bool.bne_true, reduceCtorEq])
local macro_rules | `(tactic| walk_at "rh") => `(tactic| simp only [*, startD, List.map, List.replicate, List.length_cons, List.length_nil, List.append_eq, List.append_nil, List.nil_append, List.cons_append, Nat.reduceSub, Nat.reduceAdd, List.getElem?_cons_zero, List.getElem?_cons_succ, List.set_cons_zero, List.set_cons_succ,
  dC, dVar, dOp, dTru, gTru, tru, dChain, dAnd, dOr, dNot, dAndV, dOrV, dNotV, dIf, dNeg, gNeg, dNil, dCons, dTup, dLst, dOwn, gIx, rBin, gAdd, gCmpI, dCall, dCallK, dSeq, dNext, dDrop, dRet, dRetN, dIfS, dName, dGNil, dGCons, dGTup, dSub, gSetL, dAsg, dPar, dPar3, dAug, gIpI, dSeqI, gSeqI, dRngI, gRng1, gRng2, dCB, gAbs, gInt, gMax, gMin, gGcd, gLen, lenD, gIsi, tyM, tyD, dBits, gBits, dMet, gAppend, dPart, dNoPart, dSl, gSl_tup, gSl_lst, cut_1, dEnds, gIs, isB, dNever, dFor, dLc, wipeD, dYes,
  sizeLine_eq, Nat.reduceLeDiff, gEq_int, gNe_int, gEq_strs, gNe_strs, gIn_two, gRepr_bl, rs_lst, rs_tup, rs_scr, rs_int, atI_0, atI_1, atI_2, atI_3, atI_4, atI_5, ixN_30, ixN_31, ixN_32, gEq_bl, gNe_bl, decide_eq_true_eq, beq_iff_eq, Bool.not_eq_true', beq_eq_false_iff_ne, decide_eq_false_iff_not, Bool.not_true, Bool.not_false, if_true, if_false, Bool.false_eq_true, ite_true, ite_false, true_and, and_true, ne_eq, Bool.bne_false, Bool.bne_true, reduceCtorEq])
local macro_rules | `(tactic| walk_at "kb") => `(tactic| simp only [kb_NoneType_list, kb_bool_list, kb_int_list, kb_str_list, kb_tuple_list, kb_list_list, kb_dict_list, kb_NoneType_int, kb_bool_int, kb_int_int, kb_str_int, kb_tuple_int, kb_list_int, kb_dict_int, kb_NoneType_bool, kb_bool_bool, kb_int_bool, kb_str_bool, kb_tuple_bool, kb_list_bool, kb_dict_bool, kb_NoneType_tuple, kb_bool_tuple, kb_int_tuple, kb_str_tuple, kb_tuple_tuple, kb_list_tuple, kb_dict_tuple, if_true, if_false, Bool.false_eq_true, ite_true, ite_false, Bool.not_true, Bool.not_false])
/-! calls whose answers are known -/
end DL
namespace DL
open PySem PySem.Spec PyProof.Rows L2
local macro_rules | `(tactic| walk_at "rd") => `(tactic| simp only [startD, List.map, List.replicate, List.length_cons, List.length_nil, List.append_eq, List.append_nil, List.nil_append, List.cons_append, Nat.reduceSub, Nat.reduceAdd, List.getElem?_cons_zero, List.getElem?_cons_succ, List.set_cons_zero, List.set_cons_succ,
  dC, dVar, dOp, dTru, gTru, tru, dChain, dAnd, dOr, dNot, dAndV, dOrV, dNotV, dIf, dNeg, gNeg, dNil, dCons, dTup, dLst, dOwn, gIx, rBin, gAdd, gCmpI, dCall, dCallK, dSeq, dNext, dDrop, dRet, dRetN, dIfS, dName, dGNil, dGCons, dGTup, dSub, gSetL, dAsg, dPar, dPar3, dAug, gIpI, dSeqI, gSeqI, dRngI, gRng1, gRng2, dCB, gAbs, gInt, gMax, gMin, gGcd, gLen, lenD, gIsi, tyM, tyD, dBits, gBits, dMet, gAppend, dPart, dNoPart, dSl, gSl_tup, gSl_lst, cut_1, dEnds, gIs, isB, dNever, dFor, dLc, wipeD, dYes,
  sizeLine_eq, Nat.reduceLeDiff, gEq_int, gNe_int, gEq_strs, gNe_strs, gIn_two, gRepr_bl, rs_lst, rs_tup, rs_scr, rs_int, atI_0, atI_1, atI_2, atI_3, atI_4, atI_5, ixN_30, ixN_31, ixN_32, gEq_bl, gNe_bl, decide_eq_true_eq, beq_iff_eq, Bool.not_eq_true', beq_eq_false_iff_ne, decide_eq_false_iff_not, Bool.not_true, Bool.not_false, if_true, if_false, Bool.false_eq_true, ite_true, ite_false, true_and, and_true, ne_eq, Bool.bne_false, Bool.bne_true, reduceCtorEq])
local macro_rules | `(tactic| walk_at "rh") => `(tactic| simp only [*, startD, List.map, List.replicate, List.length_cons, List.length_nil, List.append_eq, List.append_nil, List.nil_append, List.cons_append, Nat.reduceSub, Nat.reduceAdd, List.getElem?_cons_zero, List.getElem?_cons_succ, List.set_cons_zero, List.set_cons_succ,
  dC, dVar, dOp, dTru, gTru, tru, dChain, dAnd, dOr, dNot, dAndV, dOrV, dNotV, dIf, dNeg, gNeg, dNil, dCons, dTup, dLst, dOwn, gIx, rBin, gAdd, gCmpI, dCall, dCallK, dSeq, dNext, dDrop, dRet, dRetN, dIfS, dName, dGNil, dGCons, dGTup, dSub, gSetL, dAsg, dPar, dPar3, dAug, gIpI, dSeqI, gSeqI, dRngI, gRng1, gRng2, dCB, gAbs, gInt, gMax, gMin, gGcd, gLen, lenD, gIsi, tyM, tyD, dBits, gBits, dMet, gAppend, dPart, dNoPart, dSl, gSl_tup, gSl_lst, cut_1, dEnds, gIs, isB, dNever, dFor, dLc, wipeD, dYes,
  sizeLine_eq, Nat.reduceLeDiff, gEq_int, gNe_int, gEq_strs, gNe_strs, gIn_two, gRepr_bl, rs_lst, rs_tup, rs_scr, rs_int, atI_0, atI_1, atI_2, atI_3, atI_4, atI_5, ixN_30, ixN_31, ixN_32, gEq_bl, gNe_bl, decide_eq_true_eq, beq_iff_eq, Bool.not_eq_true', beq_eq_false_iff_ne, decide_eq_false_iff_not, Bool.not_true, Bool.not_false, if_true, if_false, Bool.false_eq_true, ite_true, ite_false, true_and, and_true, ne_eq, Bool.bne_false, Bool.bne_true, reduceCtorEq])
local macro_rules | `(tactic| walk_at "kb") => `(tactic| simp only [kb_NoneType_list, kb_bool_list, kb_int_list, kb_str_list, kb_tuple_list, kb_list_list, kb_dict_list, kb_NoneType_int, kb_bool_int, kb_int_int, kb_str_int, kb_tuple_int, kb_list_int, kb_dict_int, kb_NoneType_bool, kb_bool_bool, kb_int_bool, kb_str_bool, kb_tuple_bool, kb_list_bool, kb_dict_bool, kb_NoneType_tuple, kb_bool_tuple, kb_int_tuple, kb_str_tuple, kb_tuple_tuple, kb_list_tuple, kb_dict_tuple, if_true, if_false, Bool.false_eq_true, ite_true, ite_false, Bool.not_true, Bool.not_false])
/-! ### the sides of cuttings -/
/-! ### what the first numbers may be -/
/-! ### all turns -/
structure TurnsOK (m : Int) (l : List Int) : Prop where
  nd : l.Nodup
  bd : ∀ e ∈ l, -128 ≤ e ∧ e ≤ 128
  all : ∀ e : Int, e * e < m → (m - e) % 2 = 0 → e ∈ l
  len : l.length ≤ 260
theorem CovX.start {m : Int} {T : List Int} : CovX m [] fun _ e' => e' ∈ T.take 0 := CovX.nil fun a b c e _ _ h => by rw [List.take_zero] at h; cases h
theorem CovX.all {m : Int} {l : List (List Int)} {T : List Int} (h : CovX m l fun _ e' => e' ∈ T) (hT : TurnsOK m T) : CovX m l fun _ _ => True :=
  h.iff fun a b c e h1 h2 => ⟨fun _ => by
    obtain ⟨k1, k2, _⟩ := cut_parts h1
    have h3 := meas_bc.mp h2
    have h4 : 1 * 1 ≤ b * c := Int.mul_le_mul k1 k2 (by decide) (by omega)
    have h5 : (e - m) % 2 = 0 := by rw [← h2]; exact meas_par (a := a)
    exact hT.all e (by omega) (by omega), fun _ => trivial⟩
theorem CovX.len {m : Int} {l l' : List (List Int)} (h : CovX m l fun _ _ => True) (g : AllC m l') : l'.length = l.length := by
  refine ((List.perm_ext_iff_of_nodup g.nd h.1).mpr fun x => ?_).length_eq
  rw [g.mem, h.2]
  constructor
  · rintro ⟨a, b, c, e, rfl, h1, h2⟩; exact ⟨a, b, c, e, rfl, h1, h2, trivial⟩
  · rintro ⟨a, b, c, e, rfl, h1, h2, _⟩; exact ⟨a, b, c, e, rfl, h1, h2⟩
/-! ### how many cuttings there are -/
theorem CovX.same {m : Int} {l l' : List (List Int)} {P : Int → Int → Prop} (h : CovX m l P) (g : CovX m l' P) : l.length = l'.length :=
  ((List.perm_ext_iff_of_nodup h.1 g.1).mpr fun x => (h.2 x).trans (g.2 x).symm).length_eq
end DL
/-! MI: how many cuttings have a told last number; plain -/
namespace DL
end DL
namespace DL
open PySem PySem.Spec PyProof.Rows L2
local macro_rules | `(tactic| walk_at "rd") => `(tactic| simp only [startD, List.map, List.replicate, List.length_cons, List.length_nil, List.append_eq, List.append_nil, List.nil_append, List.cons_append, Nat.reduceSub, Nat.reduceAdd, List.getElem?_cons_zero, List.getElem?_cons_succ, List.set_cons_zero, List.set_cons_succ,
  dC, dVar, dOp, dTru, gTru, tru, dChain, dAnd, dOr, dNot, dAndV, dOrV, dNotV, dIf, dNeg, gNeg, dNil, dCons, dTup, dLst, dOwn, gIx, rBin, gAdd, gCmpI, dCall, dCallK, dSeq, dNext, dDrop, dRet, dRetN, dIfS, dName, dGNil, dGCons, dGTup, dSub, gSetL, dAsg, dPar, dPar3, dAug, gIpI, dSeqI, gSeqI, dRngI, gRng1, gRng2, dCB, gAbs, gInt, gMax, gMin, gGcd, gLen, lenD, gIsi, tyM, tyD, dBits, gBits, dMet, gAppend, dPart, dNoPart, dSl, gSl_tup, gSl_lst, cut_1, dEnds, gIs, isB, dNever, dFor, dLc, wipeD, dYes,
  sizeLine_eq, Nat.reduceLeDiff, gEq_int, gNe_int, gEq_strs, gNe_strs, gIn_two, gRepr_bl, rs_lst, rs_tup, rs_scr, rs_int, atI_0, atI_1, atI_2, atI_3, atI_4, atI_5, ixN_30, ixN_31, ixN_32, gEq_bl, gNe_bl, decide_eq_true_eq, beq_iff_eq, Bool.not_eq_true', beq_eq_false_iff_ne, decide_eq_false_iff_not, Bool.not_true, Bool.not_false, if_true, if_false, Bool.false_eq_true, ite_true, ite_false, true_and, and_true, ne_eq, Bool.bne_false, Bool.bne_true, reduceCtorEq])
local macro_rules | `(tactic| walk_at "rh") => `(tactic| simp only [*, startD, List.map, List.replicate, List.length_cons, List.length_nil, List.append_eq, List.append_nil, List.nil_append, List.cons_append, Nat.reduceSub, Nat.reduceAdd, List.getElem?_cons_zero, List.getElem?_cons_succ, List.set_cons_zero, List.set_cons_succ,
  dC, dVar, dOp, dTru, gTru, tru, dChain, dAnd, dOr, dNot, dAndV, dOrV, dNotV, dIf, dNeg, gNeg, dNil, dCons, dTup, dLst, dOwn, gIx, rBin, gAdd, gCmpI, dCall, dCallK, dSeq, dNext, dDrop, dRet, dRetN, dIfS, dName, dGNil, dGCons, dGTup, dSub, gSetL, dAsg, dPar, dPar3, dAug, gIpI, dSeqI, gSeqI, dRngI, gRng1, gRng2, dCB, gAbs, gInt, gMax, gMin, gGcd, gLen, lenD, gIsi, tyM, tyD, dBits, gBits, dMet, gAppend, dPart, dNoPart, dSl, gSl_tup, gSl_lst, cut_1, dEnds, gIs, isB, dNever, dFor, dLc, wipeD, dYes,
  sizeLine_eq, Nat.reduceLeDiff, gEq_int, gNe_int, gEq_strs, gNe_strs, gIn_two, gRepr_bl, rs_lst, rs_tup, rs_scr, rs_int, atI_0, atI_1, atI_2, atI_3, atI_4, atI_5, ixN_30, ixN_31, ixN_32, gEq_bl, gNe_bl, decide_eq_true_eq, beq_iff_eq, Bool.not_eq_true', beq_eq_false_iff_ne, decide_eq_false_iff_not, Bool.not_true, Bool.not_false, if_true, if_false, Bool.false_eq_true, ite_true, ite_false, true_and, and_true, ne_eq, Bool.bne_false, Bool.bne_true, reduceCtorEq])
local macro_rules | `(tactic| walk_at "kb") => `(tactic| simp only [kb_NoneType_list, kb_bool_list, kb_int_list, kb_str_list, kb_tuple_list, kb_list_list, kb_dict_list, kb_NoneType_int, kb_bool_int, kb_int_int, kb_str_int, kb_tuple_int, kb_list_int, kb_dict_int, kb_NoneType_bool, kb_bool_bool, kb_int_bool, kb_str_bool, kb_tuple_bool, kb_list_bool, kb_dict_bool, kb_NoneType_tuple, kb_bool_tuple, kb_int_tuple, kb_str_tuple, kb_tuple_tuple, kb_list_tuple, kb_dict_tuple, if_true, if_false, Bool.false_eq_true, ite_true, ite_false, Bool.not_true, Bool.not_false])
end DL
namespace DL
open PySem PySem.Spec PyProof.Rows L2
local macro_rules | `(tactic| walk_at "rd") => `(tactic| simp only [startD, List.map, List.replicate, List.length_cons, List.length_nil, List.append_eq, List.append_nil, List.nil_append, List.cons_append, Nat.reduceSub, Nat.reduceAdd, List.getElem?_cons_zero, List.getElem?_cons_succ, List.set_cons_zero, List.set_cons_succ,
  dC, dVar, dOp, dTru, gTru, tru, dChain, dAnd, dOr, dNot, dAndV, dOrV, dNotV, dIf, dNeg, gNeg, dNil, dCons, dTup, dLst, dOwn, gIx, rBin, gAdd, gCmpI, dCall, dCallK, dSeq, dNext, dDrop, dRet, dRetN, dIfS, dName, dGNil, dGCons, dGTup, dSub, gSetL, dAsg, dPar, dPar3, dAug, gIpI, dSeqI, gSeqI, dRngI, gRng1, gRng2, dCB, gAbs, gInt, gMax, gMin, gGcd, gLen, lenD, gIsi, tyM, tyD, dBits, gBits, dMet, gAppend, dPart, dNoPart, dSl, gSl_tup, gSl_lst, cut_1, dEnds, gIs, isB, dNever, dCallX, dRaise, dTry, dFld, dCallV, gLRng, gFrz, dFrz, dFor, dLc, wipeD, dYes,
  sizeLine_eq, Nat.reduceLeDiff, gEq_int, gNe_int, gEq_strs, gNe_strs, gIn_two, gRepr_bl, rs_lst, rs_tup, rs_scr, rs_int, atI_0, atI_1, atI_2, atI_3, atI_4, atI_5, ixN_30, ixN_31, ixN_32, gEq_bl, gNe_bl, decide_eq_true_eq, beq_iff_eq, Bool.not_eq_true', beq_eq_false_iff_ne, decide_eq_false_iff_not, Bool.not_true, Bool.not_false, if_true, if_false, Bool.false_eq_true, ite_true, ite_false, true_and, and_true, ne_eq, Bool.bne_false, Bool.bne_true, reduceCtorEq])
local macro_rules | `(tactic| walk_at "rh") => `(tactic| simp only [*, startD, List.map, List.replicate, List.length_cons, List.length_nil, List.append_eq, List.append_nil, List.nil_append, List.cons_append, Nat.reduceSub, Nat.reduceAdd, List.getElem?_cons_zero, List.getElem?_cons_succ, List.set_cons_zero, List.set_cons_succ,
  dC, dVar, dOp, dTru, gTru, tru, dChain, dAnd, dOr, dNot, dAndV, dOrV, dNotV, dIf, dNeg, gNeg, dNil, dCons, dTup, dLst, dOwn, gIx, rBin, gAdd, gCmpI, dCall, dCallK, dSeq, dNext, dDrop, dRet, dRetN, dIfS, dName, dGNil, dGCons, dGTup, dSub, gSetL, dAsg, dPar, dPar3, dAug, gIpI, dSeqI, gSeqI, dRngI, gRng1, gRng2, dCB, gAbs, gInt, gMax, gMin, gGcd, gLen, lenD, gIsi, tyM, tyD, dBits, gBits, dMet, gAppend, dPart, dNoPart, dSl, gSl_tup, gSl_lst, cut_1, dEnds, gIs, isB, dNever, dCallX, dRaise, dTry, dFld, dCallV, gLRng, gFrz, dFrz, dFor, dLc, wipeD, dYes,
  sizeLine_eq, Nat.reduceLeDiff, gEq_int, gNe_int, gEq_strs, gNe_strs, gIn_two, gRepr_bl, rs_lst, rs_tup, rs_scr, rs_int, atI_0, atI_1, atI_2, atI_3, atI_4, atI_5, ixN_30, ixN_31, ixN_32, gEq_bl, gNe_bl, decide_eq_true_eq, beq_iff_eq, Bool.not_eq_true', beq_eq_false_iff_ne, decide_eq_false_iff_not, Bool.not_true, Bool.not_false, if_true, if_false, Bool.false_eq_true, ite_true, ite_false, true_and, and_true, ne_eq, Bool.bne_false, Bool.bne_true, reduceCtorEq])
local macro_rules | `(tactic| walk_at "kb") => `(tactic| simp only [kb_NoneType_list, kb_bool_list, kb_int_list, kb_str_list, kb_tuple_list, kb_list_list, kb_dict_list, kb_NoneType_int, kb_bool_int, kb_int_int, kb_str_int, kb_tuple_int, kb_list_int, kb_dict_int, kb_NoneType_bool, kb_bool_bool, kb_int_bool, kb_str_bool, kb_tuple_bool, kb_list_bool, kb_dict_bool, kb_NoneType_tuple, kb_bool_tuple, kb_int_tuple, kb_str_tuple, kb_tuple_tuple, kb_list_tuple, kb_dict_tuple, if_true, if_false, Bool.false_eq_true, ite_true, ite_false, Bool.not_true, Bool.not_false])
/-! RdZ: the checks with their errors -/
/-! ### the heart's numbers -/
/-! ### the heart's functions -/
end DL
namespace DL
open PySem PySem.Spec PyProof.Rows L2
local macro_rules | `(tactic| walk_at "rd") => `(tactic| simp only [startD, List.map, List.replicate, List.length_cons, List.length_nil, List.append_eq, List.append_nil, List.nil_append, List.cons_append, Nat.reduceSub, Nat.reduceAdd, List.getElem?_cons_zero, List.getElem?_cons_succ, List.set_cons_zero, List.set_cons_succ,
  dC, dVar, dOp, dTru, gTru, tru, dChain, dAnd, dOr, dNot, dAndV, dOrV, dNotV, dIf, dNeg, gNeg, dNil, dCons, dTup, dLst, dOwn, gIx, rBin, gAdd, gCmpI, dCall, dCallK, dSeq, dNext, dDrop, dRet, dRetN, dIfS, dName, dGNil, dGCons, dGTup, dSub, gSetL, dAsg, dPar, dPar3, dAug, gIpI, dSeqI, gSeqI, dRngI, gRng1, gRng2, dCB, gAbs, gInt, gMax, gMin, gGcd, gLen, lenD, gIsi, tyM, tyD, dBits, gBits, dMet, gAppend, dPart, dNoPart, dSl, gSl_tup, gSl_lst, cut_1, dEnds, gIs, isB, dNever, dCallX, dRaise, dTry, dFld, dCallV, gLRng, gFrz, dFrz, dFor, dLc, wipeD, dYes,
  sizeLine_eq, Nat.reduceLeDiff, gEq_int, gNe_int, gEq_strs, gNe_strs, gIn_two, gRepr_bl, rs_lst, rs_tup, rs_scr, rs_int, atI_0, atI_1, atI_2, atI_3, atI_4, atI_5, ixN_30, ixN_31, ixN_32, gEq_bl, gNe_bl, decide_eq_true_eq, beq_iff_eq, Bool.not_eq_true', beq_eq_false_iff_ne, decide_eq_false_iff_not, Bool.not_true, Bool.not_false, if_true, if_false, Bool.false_eq_true, ite_true, ite_false, true_and, and_true, ne_eq, Bool.bne_false, Bool.bne_true, reduceCtorEq])
local macro_rules | `(tactic| walk_at "rh") => `(tactic| simp only [*, startD, List.map, List.replicate, List.length_cons, List.length_nil, List.append_eq, List.append_nil, List.nil_append, List.cons_append, Nat.reduceSub, Nat.reduceAdd, List.getElem?_cons_zero, List.getElem?_cons_succ, List.set_cons_zero, List.set_cons_succ,
  dC, dVar, dOp, dTru, gTru, tru, dChain, dAnd, dOr, dNot, dAndV, dOrV, dNotV, dIf, dNeg, gNeg, dNil, dCons, dTup, dLst, dOwn, gIx, rBin, gAdd, gCmpI, dCall, dCallK, dSeq, dNext, dDrop, dRet, dRetN, dIfS, dName, dGNil, dGCons, dGTup, dSub, gSetL, dAsg, dPar, dPar3, dAug, gIpI, dSeqI, gSeqI, dRngI, gRng1, gRng2, dCB, gAbs, gInt, gMax, gMin, gGcd, gLen, lenD, gIsi, tyM, tyD, dBits, gBits, dMet, gAppend, dPart, dNoPart, dSl, gSl_tup, gSl_lst, cut_1, dEnds, gIs, isB, dNever, dCallX, dRaise, dTry, dFld, dCallV, gLRng, gFrz, dFrz, dFor, dLc, wipeD, dYes,
  sizeLine_eq, Nat.reduceLeDiff, gEq_int, gNe_int, gEq_strs, gNe_strs, gIn_two, gRepr_bl, rs_lst, rs_tup, rs_scr, rs_int, atI_0, atI_1, atI_2, atI_3, atI_4, atI_5, ixN_30, ixN_31, ixN_32, gEq_bl, gNe_bl, decide_eq_true_eq, beq_iff_eq, Bool.not_eq_true', beq_eq_false_iff_ne, decide_eq_false_iff_not, Bool.not_true, Bool.not_false, if_true, if_false, Bool.false_eq_true, ite_true, ite_false, true_and, and_true, ne_eq, Bool.bne_false, Bool.bne_true, reduceCtorEq])
local macro_rules | `(tactic| walk_at "kb") => `(tactic| simp only [kb_NoneType_list, kb_bool_list, kb_int_list, kb_str_list, kb_tuple_list, kb_list_list, kb_dict_list, kb_NoneType_int, kb_bool_int, kb_int_int, kb_str_int, kb_tuple_int, kb_list_int, kb_dict_int, kb_NoneType_bool, kb_bool_bool, kb_int_bool, kb_str_bool, kb_tuple_bool, kb_list_bool, kb_dict_bool, kb_NoneType_tuple, kb_bool_tuple, kb_int_tuple, kb_str_tuple, kb_tuple_tuple, kb_list_tuple, kb_dict_tuple, if_true, if_false, Bool.false_eq_true, ite_true, ite_false, Bool.not_true, Bool.not_false])
/-! RdDD: data that is shown, dicts among them (X_k11 has its own copy) -/
abbrev er (x : Str) (d : D) : Option (Str × D) := some (x, d)
theorem gReprZ_res {d : D} {M : Mem} {Q : DQ} {z : Str} (h : shwnZ (resD M d) = some z) (q : Q (.str z) M) : gReprZ [d] M Q := by
  unfold gReprZ
  dsimp only
  rw [h]
  exact q
/-! ### data that is shown -/
structure Sh (d : D) : Prop where
  f : fine 10 d = true
  l : lit 200 d = true
  w : wt 200 d ≤ 10000
mutual
theorem resD_fine (M : Mem) : ∀ (n : Nat) (d : D), fine n d = true → resD M d = d
  | _, .non, _ => rfl
  | _, .bl _, _ => rfl
  | _, .int _, _ => rfl
  | _, .str _, _ => rfl
  | 0, .tup l, h => by simp [fine] at h
  | 0, .lst l, h => by simp [fine] at h
  | n + 1, .tup l, h => by unfold resD; rw [resDA_fine M n l (by simpa only [fine] using h)]
  | n + 1, .lst l, h => by unfold resD; rw [resDA_fine M n l (by simpa only [fine] using h)]
  | _, .dct0, h => rfl
  | _, .scr _, h => by simp [fine] at h
  | _, .own _, h => by simp [fine] at h
  | _, .exc _ _, h => by simp [fine] at h
  | _, .glb _, h => by simp [fine] at h
  | _, .val _, h => by simp [fine] at h
theorem resDA_fine (M : Mem) : ∀ (n : Nat) (ds : List D), fineAll n ds = true → resDA M ds = ds
  | _, [], _ => rfl
  | n, d :: ds, h => by
    have h' : fine n d = true ∧ fineAll n ds = true := by simpa only [fineAll, Bool.and_eq_true] using h
    unfold resDA
    rw [resD_fine M n d h'.1, resDA_fine M n ds h'.2]
end
theorem Sh.shown {d : D} (h : Sh d) (M : Mem) : ∃ z, shwnZ (resD M d) = some z := by
  rw [resD_fine M 10 d h.f]
  obtain ⟨z, hz⟩ := shw_of 200 10 h.f h.l (by have := h.w; omega)
  exact ⟨z, shwnZ_of hz⟩
end DL
namespace DL
open PySem PySem.Spec PyProof.Rows L2
local macro_rules | `(tactic| walk_at "rd") => `(tactic| simp only [startD, List.map, List.replicate, List.length_cons, List.length_nil, List.append_eq, List.append_nil, List.nil_append, List.cons_append, Nat.reduceSub, Nat.reduceAdd, List.getElem?_cons_zero, List.getElem?_cons_succ, List.set_cons_zero, List.set_cons_succ,
  dC, dVar, dOp, dTru, gTru, tru, dChain, dAnd, dOr, dNot, dAndV, dOrV, dNotV, dIf, dNeg, gNeg, dNil, dCons, dTup, dLst, dOwn, gIx, rBin, gAdd, gCmpI, dCall, dCallK, dSeq, dNext, dDrop, dRet, dRetN, dIfS, dName, dGNil, dGCons, dGTup, dSub, gSetL, dAsg, dPar, dPar3, dAug, gIpI, dSeqI, gSeqI, dRngI, gRng1, gRng2, dCB, gAbs, gInt, gMax, gMin, gGcd, gLen, lenD, gIsi, tyM, tyD, dBits, gBits, dMet, gAppend, dPart, dNoPart, dSl, gSl_tup, gSl_lst, cut_1, dEnds, gIs, isB, dNever, dCallX, dRaise, dTry, dFld, dCallV, gLRng, gFrz, dFrz, dFor, dLc, wipeD, dYes,
  sizeLine_eq, Nat.reduceLeDiff, gEq_int, gNe_int, gEq_strs, gNe_strs, gIn_two, gRepr_bl, rs_lst, rs_tup, rs_scr, rs_int, atI_0, atI_1, atI_2, atI_3, atI_4, atI_5, ixN_30, ixN_31, ixN_32, gEq_bl, gNe_bl, decide_eq_true_eq, beq_iff_eq, Bool.not_eq_true', beq_eq_false_iff_ne, decide_eq_false_iff_not, Bool.not_true, Bool.not_false, if_true, if_false, Bool.false_eq_true, ite_true, ite_false, true_and, and_true, ne_eq, Bool.bne_false, Bool.bne_true, reduceCtorEq])
local macro_rules | `(tactic| walk_at "rh") => `(tactic| simp only [*, startD, List.map, List.replicate, List.length_cons, List.length_nil, List.append_eq, List.append_nil, List.nil_append, List.cons_append, Nat.reduceSub, Nat.reduceAdd, List.getElem?_cons_zero, List.getElem?_cons_succ, List.set_cons_zero, List.set_cons_succ,
  dC, dVar, dOp, dTru, gTru, tru, dChain, dAnd, dOr, dNot, dAndV, dOrV, dNotV, dIf, dNeg, gNeg, dNil, dCons, dTup, dLst, dOwn, gIx, rBin, gAdd, gCmpI, dCall, dCallK, dSeq, dNext, dDrop, dRet, dRetN, dIfS, dName, dGNil, dGCons, dGTup, dSub, gSetL, dAsg, dPar, dPar3, dAug, gIpI, dSeqI, gSeqI, dRngI, gRng1, gRng2, dCB, gAbs, gInt, gMax, gMin, gGcd, gLen, lenD, gIsi, tyM, tyD, dBits, gBits, dMet, gAppend, dPart, dNoPart, dSl, gSl_tup, gSl_lst, cut_1, dEnds, gIs, isB, dNever, dCallX, dRaise, dTry, dFld, dCallV, gLRng, gFrz, dFrz, dFor, dLc, wipeD, dYes,
  sizeLine_eq, Nat.reduceLeDiff, gEq_int, gNe_int, gEq_strs, gNe_strs, gIn_two, gRepr_bl, rs_lst, rs_tup, rs_scr, rs_int, atI_0, atI_1, atI_2, atI_3, atI_4, atI_5, ixN_30, ixN_31, ixN_32, gEq_bl, gNe_bl, decide_eq_true_eq, beq_iff_eq, Bool.not_eq_true', beq_eq_false_iff_ne, decide_eq_false_iff_not, Bool.not_true, Bool.not_false, if_true, if_false, Bool.false_eq_true, ite_true, ite_false, true_and, and_true, ne_eq, Bool.bne_false, Bool.bne_true, reduceCtorEq])
local macro_rules | `(tactic| walk_at "kb") => `(tactic| simp only [kb_NoneType_list, kb_bool_list, kb_int_list, kb_str_list, kb_tuple_list, kb_list_list, kb_dict_list, kb_NoneType_int, kb_bool_int, kb_int_int, kb_str_int, kb_tuple_int, kb_list_int, kb_dict_int, kb_NoneType_bool, kb_bool_bool, kb_int_bool, kb_str_bool, kb_tuple_bool, kb_list_bool, kb_dict_bool, kb_NoneType_tuple, kb_bool_tuple, kb_int_tuple, kb_str_tuple, kb_tuple_tuple, kb_list_tuple, kb_dict_tuple, if_true, if_false, Bool.false_eq_true, ite_true, ite_false, Bool.not_true, Bool.not_false])
/-- a comprehension, item by item -/
theorem lcW_idx {ds ys : List D} {C : Mem → Prop} {g : DTG} {tt : DTT} {te : DTE} {r : Env} {M : Mem} {Q : DQ} (hlen : ds.length = ys.length) (hC : C M) (hl : ds.length ≤ sizeLine)
    (step : ∀ (i : Nat) (d y : D), ds[i]? = some d → ys[i]? = some y → ∀ (Y : D → Mem → Prop) (N : Mem → Prop), Y y M → g d r M fun r2 M2 => tt r2 M2 fun b M3 => if b = true then te r2 M3 Y else N M3)
    (q : Q (.lst ys) M) : lcW false ds C g tt te r M Q := by
  refine ⟨fun i acc M' => M' = M ∧ acc = ys.take i ∧ i ≤ ds.length, ⟨rfl, rfl, Nat.zero_le _⟩, ?_⟩
  rintro i acc M' ⟨rfl, rfl, hi⟩
  refine ⟨hC, fun hd => ?_, fun d ed => ?_⟩
  · rw [if_neg Bool.false_ne_true]
    rw [List.take_of_length_le (by omega)]; exact q
  · have hlt : i < ds.length := (List.getElem?_eq_some_iff.mp ed).1
    have ey : ys[i]? = some ys[i] := List.getElem?_eq_getElem (by omega)
    have ht : ys.take (i + 1) = ys.take i ++ [ys[i]] := by rw [List.take_add_one, ey]; rfl
    refine step i d _ ed ey _ _ ⟨?_, rfl, ht.symm, hlt⟩
    rw [List.length_take]; omega
/-! ### root numbers as what they stand for: d stands for (X + Y times the root) / B -/
structure RV (m : Int) (nx nb : Nat) (d : D) (X Y B : Int) : Prop where
  eq : d = rootN m X Y B
  b0 : B ≠ 0
  bx : Bi nx X
  bY : Bi nx Y
  bB : Bi nb B
/-- the triple itself -/
structure RT (m : Int) (nx nb : Nat) (d : D) (X Y B t1 t2 t3 k : Int) : Prop where
  eq : d = T3 t1 t2 t3
  nf : NF m t1 t2 t3
  k0 : k ≠ 0
  e1 : rnX m X Y = k * t1
  e2 : rnY m Y = k * t2
  e3 : B = k * t3
  sz : Bi (nx + 103) t1 ∧ Bi nx t2 ∧ Bi nb t3
theorem Bi.up {n k : Nat} {i : Int} (h : Bi n i) (hk : n ≤ k) : Bi k i := h.mono hk
theorem isq_100 {m : Int} (m0 : 0 ≤ m) (h : Bi 200 m) : Bi 102 (isq m) := by
  have h1 := isq_le m0
  have h2 := isq_nn m
  unfold Bi at h ⊢
  rcases Nat.lt_or_ge (isq m).natAbs (2 ^ 102) with z | z
  · exact z
  · have z' : (2 : Int) ^ 102 ≤ isq m := by
      have : ((2 ^ 102 : Nat) : Int) = (2 : Int) ^ 102 := by rw [Int.natCast_pow]; rfl
      omega
    have : (2 : Int) ^ 102 * 2 ^ 102 ≤ isq m * isq m := Int.mul_le_mul z' z' (by decide) h2
    have e : ((2 ^ 200 : Nat) : Int) = (2 : Int) ^ 200 := by rw [Int.natCast_pow]; rfl
    have : (2 : Int) ^ 200 ≤ 2 ^ 102 * 2 ^ 102 := by decide +kernel
    omega
theorem RV.t3 {m X Y B : Int} {nx nb : Nat} {d : D} (h : RV m nx nb d X Y B) (m0 : 0 ≤ m) (hm : Bi 200 m) : ∃ t1 t2 t3 k, RT m nx nb d X Y B t1 t2 t3 k := by
  obtain ⟨k, t1, t2, t3, k0, e1, e2, e3, e4, hn⟩ := rootN_partsX (m := m) (x := X) (y := Y) h.b0
  refine ⟨t1, t2, t3, k, by rw [h.eq, e4], hn, k0, e1, e2, e3, ?_, ?_, ?_⟩
  · refine Bi.of_dvd (n := nx + 103) (c := k) ?_ k0 e1
    unfold rnX
    split
    · have h1 := h.bY.mul (isq_100 m0 hm)
      exact ((h.bx.up (by omega : nx ≤ nx + 102)).add h1)
    · exact h.bx.up (by omega)
  · refine Bi.of_dvd (n := nx) (c := k) ?_ k0 e2
    unfold rnY
    split
    · unfold Bi; rw [show (0 : Int).natAbs = 0 from rfl]; exact Nat.pow_pos (by decide)
    · exact h.bY
  · exact Bi.of_dvd h.bB k0 e3
theorem rv_int {m i : Int} {n : Nat} (h : Bi n i) : RV m n 1 (T3 i 0 1) i 0 1 := ⟨by
    have hn : NF m i 0 1 := ⟨by decide, by rw [Int.gcd_one_right], fun _ => rfl⟩
    rw [hn.self], by decide, h, by unfold Bi; exact Nat.pow_pos (by decide), Bi.of_abs 1 (by decide) (by decide)⟩
theorem rn_eq {m X Y B X' Y' B' : Int} (b0 : B ≠ 0) (b0' : B' ≠ 0) (h1 : X * B' = X' * B) (h2 : Y * B' = Y' * B) : rootN m X Y B = rootN m X' Y' B' := by
  rw [rootN_nf, rootN_nf]
  refine nf_eq b0 b0' ?_ ?_
  · unfold rnX
    split
    · have : (X + Y * isq m) * B' = X * B' + Y * B' * isq m := by grind
      rw [this, h1, h2]; grind
    · exact h1
  · unfold rnY
    split
    · rw [Int.zero_mul, Int.zero_mul]
    · exact h2
theorem rn_plus {m X Y B t1 t2 t3 k X' Y' B' s1 s2 s3 j : Int} (k0 : k ≠ 0) (j0 : j ≠ 0) (b0 : B ≠ 0) (b0' : B' ≠ 0) (h : NF m t1 t2 t3) (g : NF m s1 s2 s3) (e1 : rnX m X Y = k * t1) (e2 : rnY m Y = k * t2) (e3 : B = k * t3) (f1 : rnX m X' Y' = j * s1) (f2 : rnY m Y' = j * s2) (f3 : B' = j * s3) :
    rnPlus m t1 t2 t3 s1 s2 s3 = rootN m (X * B' + X' * B) (Y * B' + Y' * B) (B * B') := by
  have ht := h.pos
  have hs := g.pos
  unfold rnPlus
  rw [rootN_nf, rootN_nf]
  have hb : t3 * s3 ≠ 0 := Int.mul_ne_zero (by omega) (by omega)
  refine nf_eq hb (Int.mul_ne_zero b0 b0') ?_ ?_
  · unfold rnX at *
    by_cases hq : isSq m
    · rw [if_pos hq] at *
      have z1 := h.pr hq
      have z2 := g.pr hq
      subst z1 z2
      have x1 : X * B' + X' * B + (Y * B' + Y' * B) * isq m = (X + Y * isq m) * B' + (X' + Y' * isq m) * B := by grind
      rw [x1, e1, f1, e3, f3]; grind
    · rw [if_neg hq] at *
      rw [e1, f1, e3, f3]; grind
  · unfold rnY at *
    by_cases hq : isSq m
    · have z1 := h.pr hq
      have z2 := g.pr hq
      subst z1 z2
      simp only [if_pos hq, Int.zero_mul, Int.add_zero]
    · rw [if_neg hq] at *
      rw [e2, f2, e3, f3]; grind
theorem rn_times {m X Y B t1 t2 t3 k X' Y' B' s1 s2 s3 j : Int} (k0 : k ≠ 0) (j0 : j ≠ 0) (b0 : B ≠ 0) (b0' : B' ≠ 0) (h : NF m t1 t2 t3) (g : NF m s1 s2 s3) (e1 : rnX m X Y = k * t1) (e2 : rnY m Y = k * t2) (e3 : B = k * t3) (f1 : rnX m X' Y' = j * s1) (f2 : rnY m Y' = j * s2) (f3 : B' = j * s3) :
    rnTimes m t1 t2 t3 s1 s2 s3 = rootN m (X * X' + m * Y * Y') (X * Y' + Y * X') (B * B') := by
  have ht := h.pos
  have hs := g.pos
  unfold rnTimes
  rw [rootN_nf, rootN_nf]
  have hb : t3 * s3 ≠ 0 := Int.mul_ne_zero (by omega) (by omega)
  refine nf_eq hb (Int.mul_ne_zero b0 b0') ?_ ?_
  · unfold rnX at *
    by_cases hq : isSq m
    · rw [if_pos hq] at *
      have z1 := h.pr hq
      have z2 := g.pr hq
      subst z1 z2
      have hq' : isq m * isq m = m := hq
      have x1 : X * X' + m * Y * Y' + (X * Y' + Y * X') * isq m = (X + Y * isq m) * (X' + Y' * isq m) := by
        have : (X + Y * isq m) * (X' + Y' * isq m) = X * X' + (isq m * isq m) * Y * Y' + (X * Y' + Y * X') * isq m := by grind
        rw [this, hq']
      rw [x1, e1, f1, e3, f3]; grind
    · rw [if_neg hq] at *
      rw [rnY, if_neg hq] at e2 f2
      rw [e1, f1, e2, f2, e3, f3]; grind
  · unfold rnY at *
    by_cases hq : isSq m
    · have z1 := h.pr hq
      have z2 := g.pr hq
      subst z1 z2
      simp only [if_pos hq, Int.zero_mul, Int.mul_zero, Int.add_zero]
    · rw [if_neg hq] at *
      rw [rnX, if_neg hq] at e1 f1
      rw [e1, f1, e2, f2, e3, f3]; grind
/-! ### the calls -/
section
variable {m X Y B X' Y' B' : Int} {nx nb mx mb : Nat} {x y : D} {M : Mem} {Q : DQ} {E : DX}
theorem plusC (m0 : 0 ≤ m) (hm : Bi 200 m) (hx : RV m nx nb x X Y B) (hy : RV m mx mb y X' Y' B') (q : ∀ d, RV m (max (nx + mb) (mx + nb) + 1) (nb + mb) d (X * B' + X' * B) (Y * B' + Y' * B) (B * B') → Q d M)
    (h1 : nx ≤ 1690 ∧ nb ≤ 1800 ∧ mx ≤ 1690 ∧ mb ≤ 1800 := by decide) : sp_plus_by [.int m, x, y] M Q E := by
  obtain ⟨t1, t2, t3, k, T⟩ := hx.t3 m0 hm
  obtain ⟨s1, s2, s3, j, S⟩ := hy.t3 m0 hm
  refine ⟨m, t1, t2, t3, s1, s2, s3, by rw [T.eq, S.eq], m0, hm, by have := T.nf.pos; omega, by have := S.nf.pos; omega, ⟨T.sz.1.up (by omega), T.sz.2.1.up (by omega), T.sz.2.2.up (by omega)⟩, ⟨S.sz.1.up (by omega), S.sz.2.1.up (by omega), S.sz.2.2.up (by omega)⟩, ?_⟩
  rw [rn_plus T.k0 S.k0 hx.b0 hy.b0 T.nf S.nf T.e1 T.e2 T.e3 S.e1 S.e2 S.e3]
  exact q _ ⟨rfl, Int.mul_ne_zero hx.b0 hy.b0, ((hx.bx.mul hy.bB).up (Nat.le_max_left _ _)).add ((hy.bx.mul hx.bB).up (Nat.le_max_right _ _)), ((hx.bY.mul hy.bB).up (Nat.le_max_left _ _)).add ((hy.bY.mul hx.bB).up (Nat.le_max_right _ _)), hx.bB.mul hy.bB⟩
theorem minusC (m0 : 0 ≤ m) (hm : Bi 200 m) (hx : RV m nx nb x X Y B) (hy : RV m mx mb y X' Y' B') (q : ∀ d, RV m (max (nx + mb) (mx + nb) + 1) (nb + mb) d (X * B' - X' * B) (Y * B' - Y' * B) (B * B') → Q d M)
    (h1 : nx ≤ 1690 ∧ nb ≤ 1800 ∧ mx ≤ 1690 ∧ mb ≤ 1800 := by decide) : sp_minus_by [.int m, x, y] M Q E := by
  obtain ⟨t1, t2, t3, k, T⟩ := hx.t3 m0 hm
  obtain ⟨s1, s2, s3, j, S⟩ := hy.t3 m0 hm
  refine ⟨m, t1, t2, t3, s1, s2, s3, by rw [T.eq, S.eq], m0, hm, by have := T.nf.pos; omega, by have := S.nf.pos; omega, ⟨T.sz.1.up (by omega), T.sz.2.1.up (by omega), T.sz.2.2.up (by omega)⟩, ⟨S.sz.1.up (by omega), S.sz.2.1.up (by omega), S.sz.2.2.up (by omega)⟩, ?_⟩
  have nX : rnX m (0 - X') (0 - Y') = j * (0 - s1) := by
    have := S.e1
    unfold rnX at this ⊢
    split
    · rw [if_pos (by assumption)] at this
      have e : (0 - X') + (0 - Y') * isq m = 0 - (X' + Y' * isq m) := by grind
      rw [e, this]; grind
    · rw [if_neg (by assumption)] at this
      rw [this]; grind
  have nY : rnY m (0 - Y') = j * (0 - s2) := by
    have := S.e2
    unfold rnY at this ⊢
    split
    · rw [if_pos (by assumption)] at this
      have : j * s2 = 0 := this.symm
      have e : j * (0 - s2) = 0 - j * s2 := by grind
      rw [e, this]; rfl
    · rw [if_neg (by assumption)] at this
      rw [this]; grind
  rw [rn_plus T.k0 S.k0 hx.b0 hy.b0 T.nf S.nf.neg T.e1 T.e2 T.e3 nX nY S.e3]
  have e1 : X * B' + (0 - X') * B = X * B' - X' * B := by grind
  have e2 : Y * B' + (0 - Y') * B = Y * B' - Y' * B := by grind
  rw [e1, e2]
  exact q _ ⟨rfl, Int.mul_ne_zero hx.b0 hy.b0, ((hx.bx.mul hy.bB).up (Nat.le_max_left _ _)).sub ((hy.bx.mul hx.bB).up (Nat.le_max_right _ _)), ((hx.bY.mul hy.bB).up (Nat.le_max_left _ _)).sub ((hy.bY.mul hx.bB).up (Nat.le_max_right _ _)), hx.bB.mul hy.bB⟩
theorem timesC (m0 : 0 ≤ m) (hm : Bi 200 m) (hx : RV m nx nb x X Y B) (hy : RV m mx mb y X' Y' B') (q : ∀ d, RV m (200 + nx + mx + 1) (nb + mb) d (X * X' + m * Y * Y') (X * Y' + Y * X') (B * B') → Q d M)
    (h1 : nx ≤ 1690 ∧ nb ≤ 1800 ∧ mx ≤ 1690 ∧ mb ≤ 1800 := by decide) : sp_times_by [.int m, x, y] M Q E := by
  obtain ⟨t1, t2, t3, k, T⟩ := hx.t3 m0 hm
  obtain ⟨s1, s2, s3, j, S⟩ := hy.t3 m0 hm
  refine ⟨m, t1, t2, t3, s1, s2, s3, by rw [T.eq, S.eq], m0, hm, by have := T.nf.pos; omega, by have := S.nf.pos; omega, ⟨T.sz.1.up (by omega), T.sz.2.1.up (by omega), T.sz.2.2.up (by omega)⟩, ⟨S.sz.1.up (by omega), S.sz.2.1.up (by omega), S.sz.2.2.up (by omega)⟩, ?_⟩
  rw [rn_times T.k0 S.k0 hx.b0 hy.b0 T.nf S.nf T.e1 T.e2 T.e3 S.e1 S.e2 S.e3]
  exact q _ ⟨rfl, Int.mul_ne_zero hx.b0 hy.b0, ((hx.bx.mul hy.bx).up (by omega)).add (((hm.mul hx.bY).mul hy.bY).up (by omega)), ((hx.bx.mul hy.bY).up (by omega : nx + mx ≤ 200 + nx + mx)).add ((hx.bY.mul hy.bx).up (by omega : nx + mx ≤ 200 + nx + mx)), hx.bB.mul hy.bB⟩
theorem rootC (m0 : 0 ≤ m) (hm : Bi 200 m) (b0 : B ≠ 0) (bx : Bi nx X) (bY : Bi nx Y) (bB : Bi nb B) (q : ∀ d, RV m nx nb d X Y B → Q d M) (h1 : nx ≤ 3990 ∧ nb ≤ 3990 := by decide) : sp_root_by [.int m, .int X, .int Y, .int B] M Q E := by
  have y := (bY.up h1.1).big
  have b := (bB.up h1.2).big
  exact ⟨m, X, Y, B, rfl, m0, hm.big.2, y.1, y.2, b.1, b.2, b0, q _ ⟨rfl, b0, bx, bY, bB⟩⟩
end
end DL
namespace DL
open PySem PySem.Spec PyProof.Rows L2
local macro_rules | `(tactic| walk_at "rd") => `(tactic| simp only [startD, List.map, List.replicate, List.length_cons, List.length_nil, List.append_eq, List.append_nil, List.nil_append, List.cons_append, Nat.reduceSub, Nat.reduceAdd, List.getElem?_cons_zero, List.getElem?_cons_succ, List.set_cons_zero, List.set_cons_succ,
  dC, dVar, dOp, dTru, gTru, tru, dChain, dAnd, dOr, dNot, dAndV, dOrV, dNotV, dIf, dNeg, gNeg, dNil, dCons, dTup, dLst, dOwn, gIx, rBin, gAdd, gCmpI, dCall, dCallK, dSeq, dNext, dDrop, dRet, dRetN, dIfS, dName, dGNil, dGCons, dGTup, dSub, gSetL, dAsg, dPar, dPar3, dAug, gIpI, dSeqI, gSeqI, dRngI, gRng1, gRng2, dCB, gAbs, gInt, gMax, gMin, gGcd, gLen, lenD, gIsi, tyM, tyD, dBits, gBits, dMet, gAppend, dPart, dNoPart, dSl, gSl_tup, gSl_lst, cut_1, dEnds, gIs, isB, dNever, dCallX, dRaise, dTry, dFld, dCallV, gLRng, gFrz, dFrz, dFor, dLc, wipeD, dYes,
  sizeLine_eq, Nat.reduceLeDiff, gEq_int, gNe_int, gEq_strs, gNe_strs, gIn_two, gRepr_bl, rs_lst, rs_tup, rs_scr, rs_int, atI_0, atI_1, atI_2, atI_3, atI_4, atI_5, ixN_30, ixN_31, ixN_32, gEq_bl, gNe_bl, decide_eq_true_eq, beq_iff_eq, Bool.not_eq_true', beq_eq_false_iff_ne, decide_eq_false_iff_not, Bool.not_true, Bool.not_false, if_true, if_false, Bool.false_eq_true, ite_true, ite_false, true_and, and_true, ne_eq, Bool.bne_false, Bool.bne_true, reduceCtorEq])
local macro_rules | `(tactic| walk_at "rh") => `(tactic| simp only [*, startD, List.map, List.replicate, List.length_cons, List.length_nil, List.append_eq, List.append_nil, List.nil_append, List.cons_append, Nat.reduceSub, Nat.reduceAdd, List.getElem?_cons_zero, List.getElem?_cons_succ, List.set_cons_zero, List.set_cons_succ,
  dC, dVar, dOp, dTru, gTru, tru, dChain, dAnd, dOr, dNot, dAndV, dOrV, dNotV, dIf, dNeg, gNeg, dNil, dCons, dTup, dLst, dOwn, gIx, rBin, gAdd, gCmpI, dCall, dCallK, dSeq, dNext, dDrop, dRet, dRetN, dIfS, dName, dGNil, dGCons, dGTup, dSub, gSetL, dAsg, dPar, dPar3, dAug, gIpI, dSeqI, gSeqI, dRngI, gRng1, gRng2, dCB, gAbs, gInt, gMax, gMin, gGcd, gLen, lenD, gIsi, tyM, tyD, dBits, gBits, dMet, gAppend, dPart, dNoPart, dSl, gSl_tup, gSl_lst, cut_1, dEnds, gIs, isB, dNever, dCallX, dRaise, dTry, dFld, dCallV, gLRng, gFrz, dFrz, dFor, dLc, wipeD, dYes,
  sizeLine_eq, Nat.reduceLeDiff, gEq_int, gNe_int, gEq_strs, gNe_strs, gIn_two, gRepr_bl, rs_lst, rs_tup, rs_scr, rs_int, atI_0, atI_1, atI_2, atI_3, atI_4, atI_5, ixN_30, ixN_31, ixN_32, gEq_bl, gNe_bl, decide_eq_true_eq, beq_iff_eq, Bool.not_eq_true', beq_eq_false_iff_ne, decide_eq_false_iff_not, Bool.not_true, Bool.not_false, if_true, if_false, Bool.false_eq_true, ite_true, ite_false, true_and, and_true, ne_eq, Bool.bne_false, Bool.bne_true, reduceCtorEq])
local macro_rules | `(tactic| walk_at "kb") => `(tactic| simp only [kb_NoneType_list, kb_bool_list, kb_int_list, kb_str_list, kb_tuple_list, kb_list_list, kb_dict_list, kb_NoneType_int, kb_bool_int, kb_int_int, kb_str_int, kb_tuple_int, kb_list_int, kb_dict_int, kb_NoneType_bool, kb_bool_bool, kb_int_bool, kb_str_bool, kb_tuple_bool, kb_list_bool, kb_dict_bool, kb_NoneType_tuple, kb_bool_tuple, kb_int_tuple, kb_str_tuple, kb_tuple_tuple, kb_list_tuple, kb_dict_tuple, if_true, if_false, Bool.false_eq_true, ite_true, ite_false, Bool.not_true, Bool.not_false])
/-! RdGG: what the sheets' laws reckon with -/
theorem rd_l_common_ec6e : ∀ ds M Q, ds.length = 2 → sp_gcd ds M Q DX0 → t_l_common_ec6e (dEnds M Q) (startD 4 ds) M := by
  rintro _ M Q - ⟨a, b, rfl, q⟩
  unfold t_l_common_ec6e
  refine dSeq_open fun B hB => ?_
  walk_at "rd"
  rw [← hB]
  clear hB B
  refine dSeq_open fun B hB => ?_
  have hab : Int.gcd (if 0 - a > a then 0 - a else a) (if 0 - b > b then 0 - b else b) = Int.gcd a b := by
    have e1 : (if 0 - a > a then 0 - a else a) = (a.natAbs : Int) := by split <;> omega
    have e2 : (if 0 - b > b then 0 - b else b) = (b.natAbs : Int) := by split <;> omega
    rw [e1, e2]; simp [Int.gcd]
  refine dwhile_of (fun n r M' => ∃ l h : Int, r = [some (.int a), some (.int b), some (.int l), some (.int h)] ∧ M' = M ∧ 0 ≤ l ∧ 0 ≤ h ∧ Int.gcd l h = Int.gcd a b ∧ n = h.toNat) _ ⟨_, _, rfl, rfl, by split <;> omega, by split <;> omega, hab, rfl⟩ ?_
  · rintro n r M' ⟨l, h, rfl, rfl, hl, hh, hg, rfl⟩
    walk_at "rd"
    by_cases h0 : 0 < h
    · rw [if_pos h0]
      refine ⟨(by omega : h ≠ 0), _, ?_, h, l.fmod h, rfl, hh, ?_, (gcd_step hl h0).trans hg, rfl⟩
      · have := fm_range (a := l) h0
        omega
      · exact (fm_range (a := l) h0).1
    · rw [if_neg h0, ← hB]
      have h0 : h = 0 := by omega
      subst h0
      rw [← hg, gcd_end hl] at q
      walk_at "rd"
      exact rtq q
theorem rd_l_root_of_fba3 : ∀ ds M Q, ds.length = 1 → sp_isq ds M Q DX0 → t_l_root_of_fba3 (dEnds M Q) (startD 4 ds) M := by
  rintro _ M Q - ⟨n, rfl, h0, hB, q⟩
  unfold t_l_root_of_fba3
  refine dSeq_open fun B hB0 => ?_
  walk_at "rd"
  rw [← hB0]
  clear hB0 B
  refine dSeq_open fun B hB0 => ?_
  refine dwhile_of (fun m r M' => ∃ f : Int, r = [some (.int n), some (.int 0), some (.int f), none] ∧ M' = M ∧ 1 ≤ f ∧ f ≤ 2 * n + 1 ∧ m = (2 * n + 2 - f).toNat) _ ⟨1, rfl, rfl, by omega, by omega, rfl⟩ ?_
  rintro m r M' ⟨f, rfl, rfl, hf, hf2, rfl⟩
  walk_at "rd"
  have sf : Sm f := sm_big8 (by have := big_ge 1; omega) (by have := big_ge 1; omega)
  refine ⟨⟨sf, sf⟩, ?_⟩
  split
  · rename_i hc
    have : f * 1 ≤ f * f := Int.mul_le_mul_of_nonneg_left hf (by omega)
    exact ⟨⟨Sm.of 4 (by decide), sf⟩, _, by omega, 2 * f, rfl, by omega, by omega, rfl⟩
  · rename_i hc
    rw [← hB0]
    clear hB0 B
    refine dSeq_open fun B hB0 => ?_
    refine dwhile_of (fun m r M'' => ∃ lo hi : Int, ∃ mi, r = [some (.int n), some (.int lo), some (.int hi), mi] ∧ M'' = M' ∧ 0 ≤ lo ∧ lo < hi ∧ hi ≤ 2 * n + 1 ∧ lo * lo ≤ n ∧ n < hi * hi ∧ m = (hi - lo).toNat) _ ⟨0, f, none, rfl, rfl, by omega, by omega, hf2, by omega, by omega, rfl⟩ ?_
    rintro m r M'' ⟨lo, hi, mi, rfl, rfl, g1, g2, g3, g4, g5, rfl⟩
    walk_at "rd"
    split
    · rename_i hlt
      have e2 : (lo + hi).fdiv 2 = (lo + hi) / 2 := fdiv_pos (by decide)
      rw [e2]
      have sm : Sm ((lo + hi) / 2) := sm_big8 (by have := big_ge 1; omega) (by have := big_ge 1; omega)
      refine ⟨⟨by decide, by decide⟩, ⟨sm, sm⟩, ?_⟩
      split
      · rename_i hm
        exact ⟨_, by omega, (lo + hi) / 2, hi, _, rfl, by omega, by omega, by omega, hm, g5, rfl⟩
      · rename_i hm
        exact ⟨_, by omega, lo, (lo + hi) / 2, _, rfl, by omega, by omega, by omega, g4, by omega, rfl⟩
    · rename_i hge
      have e : hi = lo + 1 := by omega
      subst e
      have e : isq n = lo := isq_uni (by omega) g4 g5
      rw [e] at q
      rw [← hB0]
      clear hB0 B
      walk_at "rd"
      exact rtq q
theorem rd_l_made_ecf7 : ∀ ds M Q, ds.length = 4 → sp_root_by ds M Q DX0 → t_l_made_ecf7 sp_isq sp_gcd (dEnds M Q) (startD 6 ds) M := rd_root_by
theorem rd_l_measure_d993 : ∀ ds M Q, ds.length = 1 → sp_measure_by ds M Q DX0 → t_l_measure_d993 (dEnds M Q) (startD 1 ds) M := rd_measure_by
theorem rd_l_times_3146 : ∀ ds M Q, ds.length = 3 → sp_times_by ds M Q DX0 → t_l_times_3146 sp_root_by (dEnds M Q) (startD 4 ds) M := rd_times_by
/-- one plus so many times the other -/
def sp_lplusT : DSp := fun ds M Q _ => ∃ m a1 a2 a3 b1 b2 b3 s : Int, ds = [.int m, T3 a1 a2 a3, T3 b1 b2 b3, .int s] ∧ 0 ≤ m ∧ Bi 200 m ∧ a3 ≠ 0 ∧ b3 ≠ 0 ∧ (s = 1 ∨ s = -1) ∧ Sz 1800 a1 a2 a3 ∧ Sz 1800 b1 b2 b3 ∧ Q (rnPlus m a1 a2 a3 (s * b1) (s * b2) b3) M
theorem rd_l_plus_46d9 : ∀ ds M Q, ds.length = 4 → sp_lplusT ds M Q DX0 → t_l_plus_46d9 sp_root_by (dEnds M Q) (startD 5 ds) M := by
  rintro _ M Q - ⟨m, a1, a2, a3, b1, b2, b3, s, rfl, h0, hm, a0, b0, hs, ⟨sa1, sa2, sa3⟩, ⟨sb1, sb2, sb3⟩, q⟩
  unfold t_l_plus_46d9
  walk_at "rd"
  have ss : Bi 2 s := by rcases hs with rfl | rfl <;> exact Bi.of_abs 1 (by decide)
  have s1 : Bi 1802 (s * b1) := by have := ss.mul sb1; rwa [Nat.add_comm] at this
  have s2 : Bi 1802 (s * b2) := by have := ss.mul sb2; rwa [Nat.add_comm] at this
  have y := (((sa2.mul sb3).mono (k := 3602)).add (s2.mul sa3)).big
  have b := (sa3.mul sb3).big
  exact ⟨⟨sa1.sm, sb3.sm⟩, ⟨ss.sm, sb1.sm⟩, ⟨s1.sm, sa3.sm⟩, ⟨sa2.sm, sb3.sm⟩, ⟨ss.sm, sb2.sm⟩, ⟨s2.sm, sa3.sm⟩, ⟨sa3.sm, sb3.sm⟩, m, _, _, _, rfl, h0, hm.big.2, y.1, y.2, b.1, b.2, Int.mul_ne_zero a0 b0, rtq q⟩
section
variable {m X Y B X' Y' B' : Int} {nx nb mx mb : Nat} {x y : D} {M : Mem} {Q : DQ} {E : DX}
theorem lplusC (m0 : 0 ≤ m) (hm : Bi 200 m) (hx : RV m nx nb x X Y B) (hy : RV m mx mb y X' Y' B') (q : ∀ d, RV m (max (nx + mb) (mx + nb) + 1) (nb + mb) d (X * B' + X' * B) (Y * B' + Y' * B) (B * B') → Q d M)
    (h1 : nx ≤ 1690 ∧ nb ≤ 1800 ∧ mx ≤ 1690 ∧ mb ≤ 1800 := by decide) : sp_lplusT [.int m, x, y, .int 1] M Q E := by
  obtain ⟨_, a1, a2, a3, b1, b2, b3, e, h0, hm', a0, b0, sa, sb, h⟩ := plusC (E := E) m0 hm hx hy q h1
  simp only [List.cons.injEq, D.int.injEq, and_true] at e
  obtain ⟨rfl, rfl, rfl⟩ := e
  exact ⟨_, _, _, _, _, _, _, 1, rfl, h0, hm', a0, b0, .inl rfl, sa, sb, by rw [Int.one_mul, Int.one_mul]; exact h⟩
theorem lminusC (m0 : 0 ≤ m) (hm : Bi 200 m) (hx : RV m nx nb x X Y B) (hy : RV m mx mb y X' Y' B') (q : ∀ d, RV m (max (nx + mb) (mx + nb) + 1) (nb + mb) d (X * B' - X' * B) (Y * B' - Y' * B) (B * B') → Q d M)
    (h1 : nx ≤ 1690 ∧ nb ≤ 1800 ∧ mx ≤ 1690 ∧ mb ≤ 1800 := by decide) : sp_lplusT [.int m, x, y, .int (-1)] M Q E := by
  obtain ⟨_, a1, a2, a3, b1, b2, b3, e, h0, hm', a0, b0, sa, sb, h⟩ := minusC (E := E) m0 hm hx hy q h1
  simp only [List.cons.injEq, D.int.injEq, and_true] at e
  obtain ⟨rfl, rfl, rfl⟩ := e
  refine ⟨_, _, _, _, _, _, _, -1, rfl, h0, hm', a0, b0, .inr rfl, sa, sb, ?_⟩
  have e1 : ∀ x : Int, -1 * x = 0 - x := fun x => by omega
  rw [e1, e1]
  exact h
end
theorem RV.same {m X Y B X' Y' B' : Int} {nx nb mx mb : Nat} {d d' : D} (h : RV m nx nb d X Y B) (h' : RV m mx mb d' X' Y' B') (h1 : X * B' = X' * B) (h2 : Y * B' = Y' * B) : d = d' := by
  rw [h.eq, h'.eq, rn_eq h.b0 h'.b0 h1 h2]
/-! ### the side told by the law -/
def sp_lside28 : DSp := fun ds M Q _ => ∃ m x y b : Int, ds = [.int m, T3 x y b] ∧ Bi 500 m ∧ Bi 1900 x ∧ Bi 1900 y ∧ 0 ≤ m ∧ NF m x y b ∧ Q (.int (sideV m x y)) M
theorem rd_l_side_28b2 : ∀ ds M Q, ds.length = 2 → sp_lside28 ds M Q DX0 → t_l_side_28b2 (dEnds M Q) (startD 5 ds) M := by
  rintro _ M Q - ⟨m, x, y, b, rfl, bm, bx, by', m0, hn, q⟩
  unfold t_l_side_28b2
  refine dSeq_open fun B hB => ?_
  walk_at "rd"
  rw [← hB]
  clear hB B
  refine dSeq_open fun B hB => ?_
  walk_at "rd"
  refine ⟨⟨bx.sm, by'.sm⟩, ?_⟩
  by_cases hxy : 0 ≤ x * y
  · rw [if_pos hxy]
    refine rtq ?_
    have hs : (0 ≤ x ∧ 0 ≤ y) ∨ (x ≤ 0 ∧ y ≤ 0) := by
      by_cases h1 : 0 ≤ x
      · by_cases h2 : 0 ≤ y
        · exact .inl ⟨h1, h2⟩
        · by_cases h3 : x = 0
          · exact .inr ⟨by omega, by omega⟩
          · have := Int.mul_neg_of_pos_of_neg (show 0 < x by omega) (show y < 0 by omega)
            omega
      · by_cases h2 : y ≤ 0
        · exact .inr ⟨by omega, h2⟩
        · have := Int.mul_neg_of_neg_of_pos (show x < 0 by omega) (show 0 < y by omega)
          omega
    have e : ((if 0 < x + y then 1 else 0) - if x + y < 0 then 1 else 0 : Int) = sideV m x y := by
      unfold sideV
      (repeat' split) <;> omega
    rw [e]
    exact q
  · rw [if_neg hxy, ← hB]
    clear hB B
    have h0 : ¬ (x = 0 ∧ y = 0) := fun h => hxy (by rw [h.1]; simp)
    have hw := norm_ne m0 hn.pr h0
    have hs : (0 < x ∧ y < 0) ∨ (x < 0 ∧ 0 < y) := by
      rcases (by omega : x = 0 ∨ 0 < x ∨ x < 0) with h | h | h
      · rw [h] at hxy; simp at hxy
      · rcases (by omega : 0 ≤ y ∨ y < 0) with g | g
        · exact absurd (Int.mul_nonneg (by omega) g) hxy
        · exact .inl ⟨h, g⟩
      · rcases (by omega : y ≤ 0 ∨ 0 < y) with g | g
        · exact absurd (Int.mul_nonneg_of_nonpos_of_nonpos (by omega) g) hxy
        · exact .inr ⟨h, g⟩
    refine dSeq_open fun B hB => ?_
    walk_at "rd"
    refine ⟨⟨bx.sm, bx.sm⟩, ⟨bm.sm, by'.sm⟩, ⟨(bm.mul by').sm, by'.sm⟩, ?_⟩
    rw [← hB]
    clear hB B
    walk_at "rd"
    have hq : ∀ W : Int, W = x * x - m * y * y → CMul ((if 0 < W then 1 else 0) - if W < 0 then 1 else 0) 1 ∧ CMul ((if 0 < W then 1 else 0) - if W < 0 then 1 else 0) (-1) := fun W _ => by
      have b1 : Bi 4 ((if 0 < W then 1 else 0) - if W < 0 then 1 else 0) := Bi.of_abs 2 (by split <;> split <;> decide) (by decide)
      exact ⟨⟨b1.sm, (Bi.of_abs (n := 4) 2 (by decide) (by decide)).sm⟩, ⟨b1.sm, (Bi.of_abs (n := 4) 2 (by decide) (by decide)).sm⟩⟩
    have hv : sideV m x y = ((if 0 < x * x - m * y * y then 1 else 0) - if x * x - m * y * y < 0 then 1 else 0) * (if 0 < x then 1 else -1) := by
      unfold sideV
      generalize x * x - m * y * y = W at hw
      (repeat' split) <;> omega
    by_cases h1 : 0 < x
    · rw [if_pos h1] at hv
      rw [if_pos h1]
      refine ⟨(hq _ rfl).1, rtq ?_⟩
      rw [← hv]; exact q
    · rw [if_neg h1] at hv
      rw [if_neg h1]
      refine ⟨(hq _ rfl).2, rtq ?_⟩
      rw [← hv]; exact q
theorem sideV_scale {m k x y : Int} (hk : 0 < k) : sideV m (k * x) (k * y) = sideV m x y := by
  have z : ∀ t : Int, (0 ≤ k * t ↔ 0 ≤ t) ∧ (k * t ≤ 0 ↔ t ≤ 0) ∧ (0 < k * t ↔ 0 < t) ∧ (k * t < 0 ↔ t < 0) := fun t => by
    rcases (by omega : t = 0 ∨ 0 < t ∨ t < 0) with h | h | h
    · rw [h]; simp
    · have := Int.mul_pos hk h; omega
    · have := Int.mul_neg_of_pos_of_neg hk h; omega
  have e : k * x * (k * x) - m * (k * y) * (k * y) = k * k * (x * x - m * y * y) := by grind
  have zz : ∀ t : Int, (0 < k * k * t ↔ 0 < t) ∧ (k * k * t < 0 ↔ t < 0) := fun t => by
    have h1 := z (k * t)
    have h2 := z t
    have e2 : k * k * t = k * (k * t) := by grind
    rw [e2]
    omega
  unfold sideV
  rw [e]
  simp only [(z x).1, (z y).1, (z x).2.1, (z y).2.1, (z x).2.2.1, (z y).2.2.1, (zz _).1, (zz _).2]
/-- the side of a value, told by what it is made of -/
theorem RT.side {m X Y B t1 t2 t3 k : Int} {nx nb : Nat} {d : D} (h : RT m nx nb d X Y B t1 t2 t3 k) (hB : 0 < B) : sideV m t1 t2 = sideV m (rnX m X Y) (rnY m Y) := by
  have hk : 0 < k := by
    have h3 := h.nf.pos
    have e3 := h.e3
    rcases (by omega : 0 < k ∨ k ≤ 0) with g | g
    · exact g
    · have : k * t3 ≤ 0 := Int.mul_nonpos_of_nonpos_of_nonneg g (by omega)
      omega
  rw [h.e1, h.e2, sideV_scale hk]
section
variable {m X Y B : Int} {nx nb : Nat} {x : D} {M : Mem} {Q : DQ} {E : DX}
theorem lsideC (m0 : 0 ≤ m) (hm : Bi 200 m) (hx : RV m nx nb x X Y B) (hB : 0 < B) (q : Q (.int (sideV m (rnX m X Y) (rnY m Y))) M) (h1 : nx ≤ 1790 := by decide) : sp_lside28 [.int m, x] M Q E := by
  obtain ⟨t1, t2, t3, k, T⟩ := hx.t3 m0 hm
  refine ⟨m, t1, t2, t3, by rw [T.eq], hm.mono, T.sz.1.up (by omega), T.sz.2.1.up (by omega), m0, T.nf, ?_⟩
  rw [T.side hB]
  exact q
end
/-! ### the side of the square -/
/-- a cutting of items of up to 99 bits -/
structure CK (a b c e : Int) : Prop where
  cut : isCut a b c e = true
  ba : Bi 100 a
  bb : Bi 100 b
  bc : Bi 100 c
  be : Bi 100 e
  bm : Bi 200 (meas4 b c e)
  m0 : 0 ≤ meas4 b c e
def sp_slit : DSp := fun ds M Q _ => ∃ a b c e : Int, ds = [T4 a b c e] ∧ CK a b c e ∧ ∀ d, RV (meas4 b c e) 100 2 d e 1 2 → Q d M
theorem rd_slit_by : ∀ ds M Q, ds.length = 1 → sp_slit ds M Q DX0 → t_slit_by sp_root_by sp_measure_by (dEnds M Q) (startD 1 ds) M := by
  rintro _ M Q - ⟨a, b, c, e, rfl, h, q⟩
  unfold t_slit_by
  walk_at "rd"
  refine ⟨a, b, c, e, rfl, h.bb.mono, h.bc.mono, h.be.mono, ?_⟩
  have b1 : Bi 100 1 := Bi.of_abs 1 (by decide) (by decide)
  have b2 : Bi 2 2 := Bi.of_abs 2 (by decide) (by decide)
  exact rootC h.m0 h.bm (by decide) h.be b1 b2 fun d hd => rtq (q d hd) (by rw [hd.eq]; rfl)
theorem rd_l_side_of_cf54 : ∀ ds M Q, ds.length = 1 → sp_slit ds M Q DX0 → t_l_side_of_cf54 sp_root_by sp_measure_by (dEnds M Q) (startD 1 ds) M := rd_slit_by
def sp_square_side : DSp := sp_slit
theorem rd_square_side : ∀ ds M Q, ds.length = 1 → sp_square_side ds M Q DX0 → t_square_side sp_check_cutting sp_slit (dEnds M Q) (startD 1 ds) M := by
  rintro _ M Q - ⟨a, b, c, e, rfl, h, q⟩
  unfold t_square_side
  refine dSeq_open fun B hB => ?_
  walk_at "rd"
  refine ⟨a, b, c, e, rfl, h.cut, ?_⟩
  rw [← hB]
  clear hB B
  walk_at "rd"
  exact ⟨a, b, c, e, rfl, h, fun d hd => rtq (q d hd) (by rw [hd.eq]; rfl)⟩
def sp_lwhole : DSp := fun ds M Q _ => ∃ i : Int, ds = [.int i] ∧ Q (T3 i 0 1) M
theorem rd_l_whole_43a8 : ∀ ds M Q, ds.length = 1 → sp_lwhole ds M Q DX0 → t_l_whole_43a8 (dEnds M Q) (startD 1 ds) M := by
  rintro _ M Q - ⟨i, rfl, q⟩
  unfold t_l_whole_43a8
  walk_at "rd"
  exact rtq q
/-! ### a drawn cutting -/
def sp_lcutting34 : DSp := fun ds M Q _ => ∃ (k : Nat) (f g n : Int), ds = [.own k, .int f, .int g] ∧ 1 ≤ f ∧ f ≤ 10 ^ 29 ∧ 1 ≤ g ∧ g ≤ 10 ^ 29 ∧ Gn k n M ∧ n ≤ P40 - 400 ∧ ∀ a b c e M', CK a b c e → Gst k (n + 160) M M' → Q (T4 a b c e) M'
theorem rd_l_cutting_bb00 : ∀ ds M Q, ds.length = 3 → sp_lcutting34 ds M Q DX0 → t_l_cutting_bb00 sp_random sp_gcd (dEnds M Q) (startD 7 ds) M := by
  rintro _ M Q - ⟨k, f, g, n, rfl, f1, f2, g1, g2, hg, hn, q⟩
  unfold t_l_cutting_bb00
  have p9 := p400_900
  have p29 := p400_ten (i := 29) (by decide)
  refine dSeq_open fun B hB => ?_
  walk_at "rd"
  refine ⟨k, g, n, rfl, by omega, by omega, hg, by omega, fun v M1 v0 v1 h1 => ?_⟩
  dsimp only
  obtain ⟨c, hc⟩ : ∃ c, 1 + v = c := ⟨_, rfl⟩
  rw [hc, ← hB]
  clear hB B
  refine dSeq_open fun B hB => ?_
  walk_at "rd"
  refine ⟨⟨(Bi.of_abs (n := 4) 2 (by decide) (by decide)).sm, (Bi.of_abs (n := 100) (10 ^ 29) (by omega) (by decide +kernel)).sm⟩, k, 2 * f + 1, _, rfl, by omega, by omega, h1.2.1, by omega, fun v2 M2 w0 w1 h2 => ?_⟩
  dsimp only
  obtain ⟨e, he⟩ : ∃ e, v2 - f = e := ⟨_, rfl⟩
  rw [he, ← hB]
  clear hB B
  refine dSeq_open fun B hB => ?_
  walk_at "rd"
  refine ⟨k, f, _, rfl, by omega, by omega, h2.2.1, by omega, fun v3 M3 x0 x1 h3 => ?_⟩
  dsimp only
  obtain ⟨b, hb⟩ : ∃ b, (if 0 > c + e then 0 else c + e) + 1 + v3 = b := ⟨_, rfl⟩
  rw [hb, ← hB]
  clear hB B
  have hb1 : 1 ≤ b ∧ c + e < b ∧ b ≤ 3 * 10 ^ 29 + 2 := by split at hb <;> omega
  have G0 : 1 ≤ (Int.gcd b c : Int) := by
    have := Int.gcd_pos_of_ne_zero_right b (show c ≠ 0 by omega)
    omega
  have G1 : (Int.gcd b c : Int) ≤ c := Int.le_of_dvd (by omega) (Int.gcd_dvd_right b c)
  refine dSeq_open fun B hB => ?_
  walk_at "rd"
  refine ⟨b, c, rfl, ?_⟩
  dsimp only
  refine ⟨k, Int.gcd b c, _, rfl, by omega, by omega, h3.2.1, by omega, fun a M4 a0 a1 h4 => ?_⟩
  dsimp only
  rw [← hB]
  clear hB B
  have gg := ((h1.trans h2).trans h3).trans h4
  refine dSeq_open fun B hB => ?_
  obtain ⟨G, hG⟩ : ∃ G : Int, ((Int.gcd (Int.gcd a b : Int) c : Nat) : Int) = G := ⟨_, rfl⟩
  have Gp : 1 ≤ G := by
    have := Int.gcd_pos_of_ne_zero_right (Int.gcd a b : Int) (show c ≠ 0 by omega)
    omega
  have hGe : ∀ e : Int, (Int.gcd (Int.gcd a b : Int) (Int.gcd c e : Int) : Int) = (Int.gcd G e : Int) := fun e => by rw [← hG]; simp only [Int.gcd_assoc]
  refine dwhile_of (fun n r M' => M' = M4 ∧ ∃ e2 : Int, r = [some (.own k), some (.int f), some (.int g), some (.int c), some (.int e2), some (.int b), some (.int a)] ∧ e2 ≤ e ∧ e - e2 + (e2 - 1) % G = (e - 1) % G ∧ n = ((e2 - 1) % G).toNat) _ ⟨rfl, e, rfl, Int.le_refl _, by omega, rfl⟩ ?_
  rintro _ r M' ⟨rfl, e2, rfl, he2, hsum, rfl⟩
  walk_at "rd"
  refine ⟨a, b, rfl, ⟨c, e2, rfl, ⟨_, _, rfl, ?_⟩⟩⟩
  dsimp only
  rw [gNe_int, hGe]
  dsimp only
  have r0 := Int.emod_nonneg (e2 - 1) (show G ≠ 0 by omega)
  have r1 := Int.emod_lt_of_pos (e2 - 1) (show 0 < G by omega)
  have r2 := Int.emod_lt_of_pos (e - 1) (show 0 < G by omega)
  by_cases h : (Int.gcd G e2 : Int) = 1
  · rw [if_neg (by simp [h]), ← hB]
    clear hB B
    walk_at "rd"
    have hGc : G ≤ c := by rw [← hG]; exact Int.le_of_dvd (by omega) (Int.gcd_dvd_right _ c)
    have hcut : isCut a b c e2 = true := by
      simp only [isCut, Bool.and_eq_true, decide_eq_true_eq, beq_iff_eq]
      refine ⟨hb1.1, by omega, by omega, a0, a1, ?_⟩
      rw [← h, ← hG, Int.gcd_assoc a b c]
    have be2 : -(3 * 10 ^ 29) ≤ e2 ∧ e2 ≤ 10 ^ 29 := by omega
    have mm : meas4 b c e2 = e2 * e2 + 4 * (b * c) := by unfold meas4; grind
    have q1 : e2 * e2 ≤ (3 * 10 ^ 29) * (3 * 10 ^ 29) := by
      rcases (by omega : 0 ≤ e2 ∨ e2 ≤ 0) with h | h
      · exact Int.mul_le_mul (by omega) (by omega) h (by decide)
      · have : e2 * e2 = (0 - e2) * (0 - e2) := by grind
        rw [this]
        exact Int.mul_le_mul (by omega) (by omega) (by omega) (by decide)
    have q0 : 0 ≤ e2 * e2 := by rcases (by omega : 0 ≤ e2 ∨ e2 ≤ 0) with h | h; exact Int.mul_nonneg h h; exact Int.mul_nonneg_of_nonpos_of_nonpos h h
    have q2 : b * c ≤ (3 * 10 ^ 29 + 2) * 10 ^ 29 := Int.mul_le_mul hb1.2.2 (by omega) (by omega) (by decide)
    have q3 : 0 ≤ b * c := Int.mul_nonneg (by omega) (by omega)
    have e9 : (3 * 10 ^ 29 : Int) * (3 * 10 ^ 29) = 9 * 10 ^ 58 := by decide +kernel
    have e10 : ((3 * 10 ^ 29 + 2) * 10 ^ 29 : Int) ≤ 4 * 10 ^ 58 := by decide +kernel
    refine gg.rtq (q a b c e2 _ ⟨hcut, Bi.of_abs (4 * 10 ^ 29) (by omega) (by decide +kernel), Bi.of_abs (4 * 10 ^ 29) (by omega) (by decide +kernel), Bi.of_abs (4 * 10 ^ 29) (by omega) (by decide +kernel), Bi.of_abs (4 * 10 ^ 29) (by omega) (by decide +kernel), Bi.of_abs (10 ^ 60) (by omega) (by decide +kernel), by omega⟩ (gg.le (by omega)))
  · rw [if_pos (by simp [h])]
    have hr : (e2 - 1) % G ≠ 0 := fun hz => h (by
      obtain ⟨j, hj⟩ := Int.dvd_of_emod_eq_zero hz
      have d1 := Int.gcd_dvd_left G e2
      have d2 := Int.gcd_dvd_right G e2
      have d3 : ((Int.gcd G e2 : Nat) : Int) ∣ 1 := by
        have e1 : (1 : Int) = e2 - G * j := by omega
        rw [e1]
        exact Int.dvd_sub d2 (Int.dvd_trans d1 (Int.dvd_mul_right _ _))
      have := Int.le_of_dvd (by decide) d3
      have := Int.gcd_pos_of_ne_zero_left e2 (show G ≠ 0 by omega)
      omega)
    have hstep : (e2 - 1 - 1) % G = (e2 - 1) % G - 1 := by
      have h1 := Int.mul_ediv_add_emod (e2 - 1) G
      have e3 : e2 - 1 - 1 = ((e2 - 1) % G - 1) + G * ((e2 - 1) / G) := by omega
      rw [e3, Int.add_mul_emod_self_left]
      exact Int.emod_eq_of_lt (by omega) (by omega)
    exact ⟨((e2 - 1 - 1) % G).toNat, by omega, rfl, e2 - 1, rfl, by omega, by omega, rfl⟩
end DL
namespace DL
open PySem PySem.Spec PyProof.Rows L2
local macro_rules | `(tactic| walk_at "rd") => `(tactic| simp only [startD, List.map, List.replicate, List.length_cons, List.length_nil, List.append_eq, List.append_nil, List.nil_append, List.cons_append, Nat.reduceSub, Nat.reduceAdd, List.getElem?_cons_zero, List.getElem?_cons_succ, List.set_cons_zero, List.set_cons_succ,
  dC, dVar, dOp, dTru, gTru, tru, dChain, dAnd, dOr, dNot, dAndV, dOrV, dNotV, dIf, dNeg, gNeg, dNil, dCons, dTup, dLst, dOwn, gIx, rBin, gAdd, gCmpI, dCall, dCallK, dSeq, dNext, dDrop, dRet, dRetN, dIfS, dName, dGNil, dGCons, dGTup, dSub, gSetL, dAsg, dPar, dPar3, dAug, gIpI, dSeqI, gSeqI, dRngI, gRng1, gRng2, dCB, gAbs, gInt, gMax, gMin, gGcd, gLen, lenD, gIsi, tyM, tyD, dBits, gBits, dMet, gAppend, dPart, dNoPart, dSl, gSl_tup, gSl_lst, cut_1, dEnds, gIs, isB, dNever, dCallX, dRaise, dTry, dFld, dCallV, gLRng, gFrz, dFrz, dFor, dLc, wipeD, dYes,
  sizeLine_eq, Nat.reduceLeDiff, gEq_int, gNe_int, gEq_strs, gNe_strs, gIn_two, gRepr_bl, rs_lst, rs_tup, rs_scr, rs_int, atI_0, atI_1, atI_2, atI_3, atI_4, atI_5, ixN_30, ixN_31, ixN_32, gEq_bl, gNe_bl, decide_eq_true_eq, beq_iff_eq, Bool.not_eq_true', beq_eq_false_iff_ne, decide_eq_false_iff_not, Bool.not_true, Bool.not_false, if_true, if_false, Bool.false_eq_true, ite_true, ite_false, true_and, and_true, ne_eq, Bool.bne_false, Bool.bne_true, reduceCtorEq])
local macro_rules | `(tactic| walk_at "rh") => `(tactic| simp only [*, startD, List.map, List.replicate, List.length_cons, List.length_nil, List.append_eq, List.append_nil, List.nil_append, List.cons_append, Nat.reduceSub, Nat.reduceAdd, List.getElem?_cons_zero, List.getElem?_cons_succ, List.set_cons_zero, List.set_cons_succ,
  dC, dVar, dOp, dTru, gTru, tru, dChain, dAnd, dOr, dNot, dAndV, dOrV, dNotV, dIf, dNeg, gNeg, dNil, dCons, dTup, dLst, dOwn, gIx, rBin, gAdd, gCmpI, dCall, dCallK, dSeq, dNext, dDrop, dRet, dRetN, dIfS, dName, dGNil, dGCons, dGTup, dSub, gSetL, dAsg, dPar, dPar3, dAug, gIpI, dSeqI, gSeqI, dRngI, gRng1, gRng2, dCB, gAbs, gInt, gMax, gMin, gGcd, gLen, lenD, gIsi, tyM, tyD, dBits, gBits, dMet, gAppend, dPart, dNoPart, dSl, gSl_tup, gSl_lst, cut_1, dEnds, gIs, isB, dNever, dCallX, dRaise, dTry, dFld, dCallV, gLRng, gFrz, dFrz, dFor, dLc, wipeD, dYes,
  sizeLine_eq, Nat.reduceLeDiff, gEq_int, gNe_int, gEq_strs, gNe_strs, gIn_two, gRepr_bl, rs_lst, rs_tup, rs_scr, rs_int, atI_0, atI_1, atI_2, atI_3, atI_4, atI_5, ixN_30, ixN_31, ixN_32, gEq_bl, gNe_bl, decide_eq_true_eq, beq_iff_eq, Bool.not_eq_true', beq_eq_false_iff_ne, decide_eq_false_iff_not, Bool.not_true, Bool.not_false, if_true, if_false, Bool.false_eq_true, ite_true, ite_false, true_and, and_true, ne_eq, Bool.bne_false, Bool.bne_true, reduceCtorEq])
local macro_rules | `(tactic| walk_at "kb") => `(tactic| simp only [kb_NoneType_list, kb_bool_list, kb_int_list, kb_str_list, kb_tuple_list, kb_list_list, kb_dict_list, kb_NoneType_int, kb_bool_int, kb_int_int, kb_str_int, kb_tuple_int, kb_list_int, kb_dict_int, kb_NoneType_bool, kb_bool_bool, kb_int_bool, kb_str_bool, kb_tuple_bool, kb_list_bool, kb_dict_bool, kb_NoneType_tuple, kb_bool_tuple, kb_int_tuple, kb_str_tuple, kb_tuple_tuple, kb_list_tuple, kb_dict_tuple, if_true, if_false, Bool.false_eq_true, ite_true, ite_false, Bool.not_true, Bool.not_false])
/-! ### the outline -/
abbrev zT : D := T3 0 0 1
def cS (m e : Int) : D := rootN m e 1 2
def cR (m a e : Int) : D := rootN m (2 * a + e) 1 2
def cN (m e : Int) : D := rootN m (0 - e) (-1) 2
def cornD (m a b c e : Int) : List D := [.tup [zT, zT], .tup [cS m e, zT], .tup [T3 b 0 1, zT], .tup [T3 (a + b) 0 1, T3 c 0 1], .tup [cR m a e, T3 c 0 1], .tup [cR m a e, cR m c e], .tup [T3 a 0 1, cR m c e], .tup [T3 a 0 1, T3 c 0 1]]
def glueD (m a b c e : Int) : List D := [.tup [.int 0, .int 5, .tup [T3 a 0 1, cR m c e]], .tup [.int 1, .int 3, .tup [T3 a 0 1, T3 c 0 1]], .tup [.int 2, .int 7, .tup [T3 (0 - b) 0 1, zT]], .tup [.int 4, .int 6, .tup [cN m e, zT]]]
theorem rvS {m e : Int} (h : Bi 100 e) : RV m 100 2 (cS m e) e 1 2 := ⟨rfl, by decide, h, Bi.of_abs 1 (by decide) (by decide), Bi.of_abs 2 (by decide) (by decide)⟩
theorem rvR {m a e : Int} (h : Bi 100 a) (g : Bi 100 e) : RV m 103 2 (cR m a e) (2 * a + e) 1 2 :=
  ⟨rfl, by decide, ((((Bi.of_abs 2 (by decide) (by decide) : Bi 2 2).mul h).add (g.mono (k := 102))).mono : Bi 103 _), Bi.of_abs 1 (by decide) (by decide), Bi.of_abs 2 (by decide) (by decide)⟩
theorem rvN {m e : Int} (h : Bi 100 e) : RV m 100 2 (cN m e) (0 - e) (-1) 2 := ⟨rfl, by decide, h.neg, Bi.of_abs 1 (by decide) (by decide), Bi.of_abs 2 (by decide) (by decide)⟩
def sp_corners_o : DSp := fun ds M Q _ => ∃ a b c e : Int, ds = [T4 a b c e] ∧ CK a b c e ∧ Q (.own M.length) (M ++ [.lst (cornD (meas4 b c e) a b c e)])
theorem below_cornD {n : Nat} {m a b c e : Int} : belowAll n (cornD m a b c e) = true := rfl
theorem below_glueD {n : Nat} {m a b c e : Int} : belowAll n (glueD m a b c e) = true := rfl
theorem rtqN {M : Mem} {Q : DQ} {l : List D} (q : Q (.own M.length) (M ++ [.lst l])) (h : ∀ n, belowAll n l = true) : Rtq M Q (.own M.length) (M ++ [.lst l]) := by
  refine rtqC q (by simp) (by simp only [below, List.length_append, List.length_singleton]; exact decide_eq_true (by omega)) fun i c hc => ?_
  rw [List.getElem?_append] at hc
  split at hc
  · exact .inl hc
  · right
    rcases (by have := (List.getElem?_eq_some_iff.mp hc).1; simp at this; omega : i - M.length = 0) with z
    rw [z] at hc
    cases hc
    exact h _
theorem rd_corners_by_o : ∀ ds M Q, ds.length = 1 → sp_corners_o ds M Q DX0 → t_corners_by_o sp_measure_by sp_slit sp_plus_by (dEnds M Q) (startD 10 ds) M := by
  rintro _ M Q - ⟨a, b, c, e, rfl, h, q⟩
  unfold t_corners_by_o
  refine dSeq_open fun B hB => ?_
  walk_at "rd"
  rw [← hB]
  clear hB B
  refine dSeq_open fun B hB => ?_
  walk_at "rd"
  refine ⟨a, b, c, e, rfl, h.bb.mono, h.bc.mono, h.be.mono, ?_⟩
  refine ⟨a, b, c, e, rfl, h, fun S hS => ?_⟩
  have eS : S = cS (meas4 b c e) e := hS.eq
  subst eS
  dsimp only
  rw [← hB]
  clear hB B
  have m0 := h.m0
  have bm := h.bm
  generalize hm : meas4 b c e = m at *
  refine dSeq_open fun B hB => ?_
  walk_at "rd"
  refine plusC m0 bm (rv_int h.ba) hS fun d hd => ?_
  have ed : d = cR m a e := hd.eq.trans (rn_eq hd.b0 (by decide) (by grind) (by grind))
  subst ed
  refine plusC m0 bm (rv_int h.bc) hS fun d hd => ?_
  have ed : d = cR m c e := hd.eq.trans (rn_eq hd.b0 (by decide) (by grind) (by grind))
  subst ed
  rw [← hB]
  clear hB B
  refine dSeq_open fun B hB => ?_
  walk_at "rd"
  rw [← hB]
  clear hB B
  unfold dStar
  walk_at "rd"
  refine ⟨_, .inl rfl, ?_⟩
  refine ⟨Nat.le_of_ble_eq_true rfl, ?_⟩
  exact rtqN (l := cornD m a b c e) q fun n => below_cornD
theorem rd_corners_o : ∀ ds M Q, ds.length = 1 → sp_corners_o ds M Q DX0 → t_corners_o sp_check_cutting sp_corners_o (dEnds M Q) (startD 1 ds) M := by
  rintro _ M Q - ⟨a, b, c, e, rfl, h, q⟩
  unfold t_corners_o
  refine dSeq_open fun B hB => ?_
  walk_at "rd"
  refine ⟨a, b, c, e, rfl, h.cut, ?_⟩
  rw [← hB]
  clear hB B
  walk_at "rd"
  exact ⟨a, b, c, e, rfl, h, rtqN q fun n => below_cornD⟩
def sp_gluings_o : DSp := fun ds M Q _ => ∃ a b c e : Int, ds = [T4 a b c e] ∧ CK a b c e ∧ Q (.own M.length) (M ++ [.lst (glueD (meas4 b c e) a b c e)])
theorem rd_gluings_o : ∀ ds M Q, ds.length = 1 → sp_gluings_o ds M Q DX0 → t_gluings_o sp_check_cutting sp_measure_by sp_slit sp_plus_by sp_minus_by (dEnds M Q) (startD 9 ds) M := by
  rintro _ M Q - ⟨a, b, c, e, rfl, h, q⟩
  unfold t_gluings_o
  refine dSeq_open fun B hB => ?_
  walk_at "rd"
  refine ⟨a, b, c, e, rfl, h.cut, ?_⟩
  rw [← hB]
  clear hB B
  refine dSeq_open fun B hB => ?_
  walk_at "rd"
  rw [← hB]
  clear hB B
  refine dSeq_open fun B hB => ?_
  walk_at "rd"
  refine ⟨a, b, c, e, rfl, h.bb.mono, h.bc.mono, h.be.mono, ?_⟩
  refine ⟨a, b, c, e, rfl, h, fun S hS => ?_⟩
  have eS : S = cS (meas4 b c e) e := hS.eq
  subst eS
  dsimp only
  rw [← hB]
  clear hB B
  have m0 := h.m0
  have bm := h.bm
  generalize hm : meas4 b c e = m at *
  refine dSeq_open fun B hB => ?_
  walk_at "rd"
  refine plusC m0 bm (rv_int h.bc) hS fun d hd => ?_
  have ed : d = cR m c e := hd.eq.trans (rn_eq hd.b0 (by decide) (by grind) (by grind))
  subst ed
  rw [← hB]
  clear hB B
  refine dSeq_open fun B hB => ?_
  walk_at "rd"
  rw [← hB]
  clear hB B
  unfold dStar
  walk_at "rd"
  refine ⟨_, .inl rfl, ?_⟩
  refine minusC m0 bm (rv_int (i := 0) (n := 100) (Bi.of_abs 0 (by decide) (by decide))) hS fun d hd => ?_
  have ed : d = cN m e := hd.eq.trans (rn_eq hd.b0 (by decide) (by grind) (by grind))
  subst ed
  refine ⟨Nat.le_of_ble_eq_true rfl, ?_⟩
  exact rtqN (l := glueD m a b c e) q fun n => below_glueD
/-! ### the law's own outline -/
def sp_lcorners : DSp := fun ds M Q _ => ∃ a b c e : Int, ds = [T4 a b c e] ∧ CK a b c e ∧ Q (.lst (cornD (meas4 b c e) a b c e)) M
theorem rd_l_corners_f045 : ∀ ds M Q, ds.length = 1 → sp_lcorners ds M Q DX0 → t_l_corners_f045 sp_slit sp_measure_by sp_lwhole sp_lplusT (dEnds M Q) (startD 11 ds) M := by
  rintro _ M Q - ⟨a, b, c, e, rfl, h, q⟩
  unfold t_l_corners_f045
  refine dSeq_open fun B hB => ?_
  walk_at "rd"
  rw [← hB]
  clear hB B
  refine dSeq_open fun B hB => ?_
  walk_at "rd"
  refine ⟨a, b, c, e, rfl, h, fun S hS => ?_⟩
  have eS : S = cS (meas4 b c e) e := hS.eq
  subst eS
  rw [← hB]
  clear hB B
  refine dSeq_open fun B hB => ?_
  walk_at "rd"
  refine ⟨a, b, c, e, rfl, h.bb.mono, h.bc.mono, h.be.mono, ?_⟩
  refine ⟨0, rfl, ?_⟩
  dsimp only
  rw [← hB]
  clear hB B
  have m0 := h.m0
  have bm := h.bm
  generalize hm : meas4 b c e = m at *
  refine dSeq_open fun B hB => ?_
  walk_at "rd"
  refine ⟨a, rfl, ?_⟩
  refine lplusC m0 bm (rv_int h.ba) hS fun d hd => ?_
  have ed : d = cR m a e := hd.eq.trans (rn_eq hd.b0 (by decide) (by grind) (by grind))
  subst ed
  refine ⟨c, rfl, ?_⟩
  refine lplusC m0 bm (rv_int h.bc) hS fun d hd => ?_
  have ed : d = cR m c e := hd.eq.trans (rn_eq hd.b0 (by decide) (by grind) (by grind))
  subst ed
  rw [← hB]
  clear hB B
  refine dSeq_open fun B hB => ?_
  walk_at "rd"
  refine ⟨b, rfl, ⟨a + b, rfl, ⟨c, rfl, ?_⟩⟩⟩
  rw [← hB]
  clear hB B
  walk_at "rd"
  refine ⟨c, rfl, ⟨a, rfl, ⟨a, rfl, ⟨c, rfl, ?_⟩⟩⟩⟩
  exact rtq q rfl
/-- the difference, the sum of two places -/
def sp_ladded : DSp := fun ds M Q _ => ∃ (m : Int) (x y x' y' : D) (s X Y B X1 Y1 B1 X' Y' B' X1' Y1' B1' : Int) (nx nb : Nat), ds = [.int m, .tup [x, y], .tup [x', y'], .int s] ∧ 0 ≤ m ∧ Bi 200 m ∧ (s = 1 ∨ s = -1) ∧ nx ≤ 400 ∧ nb ≤ 400 ∧
  RV m nx nb x X Y B ∧ RV m nx nb y X1 Y1 B1 ∧ RV m nx nb x' X' Y' B' ∧ RV m nx nb y' X1' Y1' B1' ∧
  Q (.tup [rootN m (X * B' + s * X' * B) (Y * B' + s * Y' * B) (B * B'), rootN m (X1 * B1' + s * X1' * B1) (Y1 * B1' + s * Y1' * B1) (B1 * B1')]) M
theorem rd_l_added_a47b : ∀ ds M Q, ds.length = 4 → sp_ladded ds M Q DX0 → t_l_added_a47b sp_lplusT (dEnds M Q) (startD 6 ds) M := by
  rintro _ M Q - ⟨m, x, y, x', y', s, X, Y, B, X1, Y1, B1, X', Y', B', X1', Y1', B1', nx, nb, rfl, m0, bm, hs, hnx, hnb, hx, hy, hx', hy', q⟩
  unfold t_l_added_a47b
  walk_at "rd"
  have key : ∀ (u v : D) (X Y B X' Y' B' : Int), RV m nx nb u X Y B → RV m nx nb v X' Y' B' → ∀ Q : DQ, Q (rootN m (X * B' + s * X' * B) (Y * B' + s * Y' * B) (B * B')) M → sp_lplusT [.int m, u, v, .int s] M Q DX0 := fun u v X Y B X' Y' B' hu hv Q q => by
    rcases hs with rfl | rfl
    · refine lplusC m0 bm hu hv (fun d hd => ?_) (by omega)
      rw [hd.eq]
      have e1 : X * B' + X' * B = X * B' + 1 * X' * B := by grind
      have e2 : Y * B' + Y' * B = Y * B' + 1 * Y' * B := by grind
      rw [e1, e2]; exact q
    · refine lminusC m0 bm hu hv (fun d hd => ?_) (by omega)
      rw [hd.eq]
      have e1 : X * B' - X' * B = X * B' + -1 * X' * B := by grind
      have e2 : Y * B' - Y' * B = Y * B' + -1 * Y' * B := by grind
      rw [e1, e2]; exact q
  unfold gZipT
  dsimp only
  show lcW false [pairD x x', pairD y y'] _ _ _ _ _ _ _
  unfold pairD
  refine lcW_idx (ys := [rootN m (X * B' + s * X' * B) (Y * B' + s * Y' * B) (B * B'), rootN m (X1 * B1' + s * X1' * B1) (Y1 * B1' + s * Y1' * B1) (B1 * B1')]) rfl trivial (by rw [sizeLine_eq]; exact Nat.le_of_ble_eq_true rfl) (fun i d w hd hw Z N' hz => ?_) ?_
  · rcases (by have := (List.getElem?_eq_some_iff.mp hd).1; simp at this; omega : i = 0 ∨ i = 1) with rfl | rfl
    · cases hd
      cases hw
      walk_at "rd"
      exact key x x' X Y B X' Y' B' hx hx' _ hz
    · cases hd
      cases hw
      walk_at "rd"
      exact key y y' X1 Y1 B1 X1' Y1' B1' hy hy' _ hz
  unfold gTuple
  exact rtq q rfl
theorem RV.up {m X Y B : Int} {nx nb mx mb : Nat} {d : D} (h : RV m nx nb d X Y B) (h1 : nx ≤ mx := by decide) (h2 : nb ≤ mb := by decide) : RV m mx mb d X Y B := ⟨h.eq, h.b0, h.bx.up h1, h.bY.up h1, h.bB.up h2⟩
theorem t3_rn {m i : Int} : T3 i 0 1 = rootN m i 0 1 := by
  have hn : NF m i 0 1 := ⟨by decide, by rw [Int.gcd_one_right], fun _ => rfl⟩
  rw [hn.self]
theorem rvI {m i : Int} {n : Nat} (h : Bi n i) (hn : n ≤ 103 := by decide) : RV m 103 2 (T3 i 0 1) i 0 1 := (rv_int h).up hn (by decide)
theorem b0 : Bi 100 0 := Bi.of_abs 0 (by decide) (by decide)
theorem glue_item {ed ot : Int} {u1 u2 r1 r2 : D} (h1 : r1 = u1) (h2 : r2 = u2) : some (D.tup [.int ed, .int ot, .tup [u1, u2]]) = some (D.tup [.int ed, .int ot, .tup [r1, r2]]) := by rw [h1, h2]
theorem rnI {m P Q R i : Int} (hR : R ≠ 0) (h1 : P = i * R) (h2 : Q = 0) : rootN m P Q R = T3 i 0 1 := (rn_eq hR (by decide) (by rw [h1]; grind) (by rw [h2]; grind)).trans t3_rn.symm
def sp_lshifts : DSp := fun ds M Q _ => ∃ a b c e : Int, ds = [T4 a b c e] ∧ CK a b c e ∧ ∀ G, Q (.lst (glueD (meas4 b c e) a b c e)) (M ++ G)
theorem rd_l_shifts_c8b1 : ∀ ds M Q, ds.length = 1 → sp_lshifts ds M Q DX0 → t_l_shifts_c8b1 sp_measure_by sp_lcorners sp_ladded (dEnds M Q) (startD 8 ds) M := by
  rintro _ M Q - ⟨a, b, c, e, rfl, h, q⟩
  unfold t_l_shifts_c8b1
  refine dSeq_open fun B hB => ?_
  walk_at "rd"
  refine ⟨a, b, c, e, rfl, h.bb.mono, h.bc.mono, h.be.mono, ?_⟩
  refine ⟨a, b, c, e, rfl, h, ?_⟩
  dsimp only
  rw [← hB]
  clear hB B
  have m0 := h.m0
  have bm := h.bm
  generalize hm : meas4 b c e = m at *
  have hS := (rvS (m := m) h.be).up (mx := 103) (mb := 2)
  have hR := rvR (m := m) h.ba h.be
  have hT := rvR (m := m) h.bc h.be
  have hZ : RV m 103 2 zT 0 0 1 := rvI b0
  have mK : ∀ x : Own, (M ++ [x])[M.length]? = some x := fun x => by rw [List.getElem?_append_right (Nat.le_refl _), Nat.sub_self]; rfl
  refine dSeq_open fun B hB => ?_
  walk_at "rd"
  refine ⟨fun i r M' => i ≤ 4 ∧ M' = M ++ [.lst ((glueD m a b c e).take i)] ∧ ∃ t4 t5 t6 t7 : Option D, r = [some (T4 a b c e), some (.int m), some (.own M.length), some (.lst (cornD m a b c e)), t4, t5, t6, t7], ⟨by decide, rfl, none, none, none, none, rfl⟩, ?_⟩
  rintro i r M' ⟨hi, rfl, t4, t5, t6, t7, rfl⟩
  refine ⟨trivial, fun hli => ?_, fun d hd => ?_⟩
  · have hi4 : i = 4 := by simp only [List.length_cons, List.length_nil] at hli; omega
    subst hi4
    dsimp only
    rw [← hB]
    clear hB B
    walk_at "rd"
    rw [mK]
    dsimp only
    have hset : List.set (M ++ [Own.lst ((glueD m a b c e).take 4)]) M.length Own.dead = M ++ [Own.dead] := by
      rw [List.set_append_right _ _ (Nat.le_refl _), Nat.sub_self]
      rfl
    rw [hset]
    exact rtqG (by have := q []; rw [List.append_nil] at this; exact this) (by simp only [below]; exact below_glueD)
  · have hset : ∀ (l : List D) (x : D), List.set (M ++ [Own.lst l]) M.length (Own.lst (l ++ [x])) = M ++ [Own.lst (l ++ [x])] := fun l x => by
      rw [List.set_append_right _ _ (Nat.le_refl _), Nat.sub_self]
      rfl
    clear hB
    have hlt : i < 4 := (List.getElem?_eq_some_iff.mp hd).1
    have hz := rvI (m := m) b0
    have hx : ∃ (ed ot : Int) (x y x' y' : D) (X Y B X1 Y1 B1 X' Y' B' X1' Y1' B1' : Int), d = .tup [.int ed, .int ot] ∧ atI (cornD m a b c e) ed = some (.tup [x', y']) ∧ atI (cornD m a b c e) ((ot + 1) % 8) = some (.tup [x, y]) ∧
        RV m 103 2 x X Y B ∧ RV m 103 2 y X1 Y1 B1 ∧ RV m 103 2 x' X' Y' B' ∧ RV m 103 2 y' X1' Y1' B1' ∧
        (glueD m a b c e)[i]? = some (.tup [.int ed, .int ot, .tup [rootN m (X * B' + -1 * X' * B) (Y * B' + -1 * Y' * B) (B * B'), rootN m (X1 * B1' + -1 * X1' * B1) (Y1 * B1' + -1 * Y1' * B1) (B1 * B1')]]) := by
      rcases (by omega : i = 0 ∨ i = 1 ∨ i = 2 ∨ i = 3) with rfl | rfl | rfl | rfl
      · cases hd
        exact ⟨0, 5, T3 a 0 1, cR m c e, zT, zT, a, 0, 1, 2 * c + e, 1, 2, 0, 0, 1, 0, 0, 1, rfl, rfl, rfl, rvI h.ba, hT, hz, hz, glue_item (rnI (by decide) (by grind) (by grind)) (rn_eq (by decide) (by decide) (by grind) (by grind))⟩
      · cases hd
        exact ⟨1, 3, cR m a e, T3 c 0 1, cS m e, zT, 2 * a + e, 1, 2, c, 0, 1, e, 1, 2, 0, 0, 1, rfl, rfl, rfl, hR, rvI h.bc, hS, hz, glue_item (rnI (by decide) (by grind) (by grind)) (rnI (by decide) (by grind) (by grind))⟩
      · cases hd
        exact ⟨2, 7, zT, zT, T3 b 0 1, zT, 0, 0, 1, 0, 0, 1, b, 0, 1, 0, 0, 1, rfl, rfl, rfl, hz, hz, rvI h.bb, hz, glue_item (rnI (by decide) (by grind) (by grind)) (rnI (by decide) (by grind) (by grind))⟩
      · cases hd
        exact ⟨4, 6, T3 a 0 1, T3 c 0 1, cR m a e, T3 c 0 1, a, 0, 1, c, 0, 1, 2 * a + e, 1, 2, c, 0, 1, rfl, rfl, rfl, rvI h.ba, rvI h.bc, hR, rvI h.bc, glue_item (rn_eq (by decide) (by decide) (by grind) (by grind)) (rnI (by decide) (by grind) (by grind))⟩
    obtain ⟨ed, ot, x, y, x', y', X, Y, B0, X1, Y1, B1, X', Y', B', X1', Y1', B1', rfl, a1, a2, rx, ry, rx', ry', hg⟩ := hx
    walk_at "rd"
    rw [a1]
    dsimp only
    refine ⟨(by decide : (8 : Int) ≠ 0), ?_⟩
    rw [fmod_pos (by decide), a2]
    dsimp only
    refine ⟨⟨_, _, rfl, mK _⟩, m, x, y, x', y', -1, X, Y, B0, X1, Y1, B1, X', Y', B', X1', Y1', B1', 103, 2, rfl, m0, bm, .inr rfl, by decide, by decide, rx, ry, rx', ry', ?_⟩
    dsimp only
    rw [mK]
    dsimp only
    refine ⟨by rw [List.length_take]; omega, by omega, ?_, _, _, _, _, rfl⟩
    rw [hset]
    congr 2
    rw [List.take_add_one, hg]
    rfl
/-! ### the area -/
def cA (m e : Int) : D := rootN m m e 2
def sp_area : DSp := fun ds M Q _ => ∃ a b c e : Int, ds = [T4 a b c e] ∧ CK a b c e ∧ Q (cA (meas4 b c e) e) M
theorem rd_area_by : ∀ ds M Q, ds.length = 1 → sp_area ds M Q DX0 → t_area_by sp_measure_by sp_times_by sp_root_by sp_slit (dEnds M Q) (startD 2 ds) M := by
  rintro _ M Q - ⟨a, b, c, e, rfl, h, q⟩
  unfold t_area_by
  refine dSeq_open fun B hB => ?_
  walk_at "rd"
  refine ⟨a, b, c, e, rfl, h.bb.mono, h.bc.mono, h.be.mono, ?_⟩
  rw [← hB]
  clear hB B
  walk_at "rd"
  refine ⟨a, b, c, e, rfl, h, fun S hS => ?_⟩
  have m0 := h.m0
  have bm := h.bm
  generalize hm : meas4 b c e = m at *
  refine rootC m0 bm (nx := 100) (nb := 1) (by decide) (Bi.of_abs 0 (by decide) (by decide)) (Bi.of_abs 1 (by decide) (by decide)) (Bi.of_abs 1 (by decide) (by decide)) fun d hd => ?_
  refine timesC m0 bm hS hd fun d hd => ?_
  have ed : d = cA m e := hd.eq.trans (rn_eq hd.b0 (by decide) (by grind) (by grind))
  subst ed
  exact rtq q rfl
theorem rd_area : ∀ ds M Q, ds.length = 1 → sp_area ds M Q DX0 → t_area sp_check_cutting sp_area (dEnds M Q) (startD 1 ds) M := by
  rintro _ M Q - ⟨a, b, c, e, rfl, h, q⟩
  unfold t_area
  refine dSeq_open fun B hB => ?_
  walk_at "rd"
  refine ⟨a, b, c, e, rfl, h.cut, ?_⟩
  rw [← hB]
  clear hB B
  walk_at "rd"
  exact ⟨a, b, c, e, rfl, h, rtq q rfl⟩
/-! ### less than -/
def sp_lleast : DSp := fun ds M Q _ => ∃ (m : Int) (x y : D) (X Y B X' Y' B' : Int) (nx nb : Nat), ds = [.int m, x, y] ∧ 0 ≤ m ∧ Bi 200 m ∧ nx ≤ 400 ∧ nb ≤ 400 ∧ RV m nx nb x X Y B ∧ RV m nx nb y X' Y' B' ∧ 0 < B * B' ∧
  Q (.bl (decide (sideV m (rnX m (X * B' - X' * B) (Y * B' - Y' * B)) (rnY m (Y * B' - Y' * B)) < 0))) M
theorem rd_l_least_bda1 : ∀ ds M Q, ds.length = 3 → sp_lleast ds M Q DX0 → t_l_least_bda1 sp_lside28 sp_lplusT (dEnds M Q) (startD 3 ds) M := by
  rintro _ M Q - ⟨m, x, y, X, Y, B, X', Y', B', nx, nb, rfl, m0, bm, h1, h2, hx, hy, hB, q⟩
  unfold t_l_least_bda1
  walk_at "rd"
  refine lminusC m0 bm hx hy (fun d hd => ?_) (by omega)
  refine lsideC m0 bm hd hB ?_ (by omega)
  exact rtq q
/-- the area of the outline, by its corners -/
def oX (m a b c e : Int) : Nat → Int
  | 0 => 0 | 1 => 0 | 2 => 0
  | 3 => 4 * b * c
  | 4 => 4 * b * c + 2 * c * (2 * b - e)
  | 5 => 4 * b * c + 2 * c * (2 * b - e) + ((2 * a + e) * e + m)
  | 6 => 4 * b * c + 2 * c * (2 * b - e) + ((2 * a + e) * e + m) + ((2 * c + e) * e + m)
  | _ => 4 * b * c + 2 * c * (2 * b - e) + ((2 * a + e) * e + m) + ((2 * c + e) * e + m) - 2 * a * e
def oY (a c e : Int) : Nat → Int
  | 0 => 0 | 1 => 0 | 2 => 0 | 3 => 0
  | 4 => 0 - 2 * c
  | 5 => 0 - 2 * c + (2 * a + 2 * e)
  | 6 => 0 - 2 * c + (2 * a + 2 * e) + (2 * c + 2 * e)
  | _ => 0 - 2 * c + (2 * a + 2 * e) + (2 * c + 2 * e) - 2 * a
theorem b_n {n : Nat} (i : Int) (k : Nat) (h : i.natAbs ≤ k := by decide) (hk : k < 2 ^ n := by decide) : Bi n i := Bi.of_abs k h hk
theorem o_bd {m a b c e : Int} (h : CK a b c e) (hm : meas4 b c e = m) (i : Nat) : Bi 420 (oX m a b c e i) ∧ Bi 420 (oY a c e i) := by
  have b2 : Bi 3 2 := b_n 2 2
  have b4 : Bi 3 4 := b_n 4 4
  have bm : Bi 200 m := by rw [← hm]; exact h.bm
  have bc4 : Bi 203 (4 * b * c) := (b4.mul h.bb).mul h.bc
  have t1 : Bi 103 (2 * b) := b2.mul h.bb
  have t2 : Bi 104 (2 * b - e) := t1.sub h.be.mono
  have t3 : Bi 207 (2 * c * (2 * b - e)) := (b2.mul h.bc).mul t2
  have t4 : Bi 104 (2 * a + e) := (b2.mul h.ba).add (h.be.mono)
  have t5 : Bi 205 ((2 * a + e) * e + m) := (t4.mul h.be).add (bm.mono)
  have t6 : Bi 104 (2 * c + e) := (b2.mul h.bc).add (h.be.mono)
  have t7 : Bi 205 ((2 * c + e) * e + m) := (t6.mul h.be).add (bm.mono)
  have t8 : Bi 203 (2 * a * e) := (b2.mul h.ba).mul h.be
  have z : Bi 420 0 := b_n 0 0
  have x4 : Bi 208 (4 * b * c + 2 * c * (2 * b - e)) := (bc4.mono (k := 207)).add t3
  have x5 := x4.add (t5.mono (k := 208))
  have x6 := x5.add (t7.mono (k := 209))
  have x7 := x6.sub (t8.mono (k := 210))
  have u1 : Bi 103 (2 * c) := b2.mul h.bc
  have u4 : Bi 104 (0 - 2 * c) := u1.neg.mono
  have u5a : Bi 104 (2 * a + 2 * e) := (b2.mul h.ba).add (b2.mul h.be)
  have u6a : Bi 104 (2 * c + 2 * e) := (b2.mul h.bc).add (b2.mul h.be)
  have u5 := u4.add u5a
  have u6 := u5.add (u6a.mono (k := 105))
  have u7 := u6.sub ((b2.mul h.ba).mono (k := 106))
  match i with
  | 0 => exact ⟨z, z⟩
  | 1 => exact ⟨z, z⟩
  | 2 => exact ⟨z, z⟩
  | 3 => exact ⟨bc4.mono, z⟩
  | 4 => exact ⟨x4.mono, u4.mono⟩
  | 5 => exact ⟨x5.mono, u5.mono⟩
  | 6 => exact ⟨x6.mono, u6.mono⟩
  | i + 7 => exact ⟨x7.mono, u7.mono⟩
def sp_loutline : DSp := fun ds M Q _ => ∃ (a b c e : Int) (k : Nat), ds = [.int (meas4 b c e), .own k] ∧ CK a b c e ∧ M[k]? = some (.lst (cornD (meas4 b c e) a b c e)) ∧ Q (cA (meas4 b c e) e) M
theorem rd_l_outline_area_700f : ∀ ds M Q, ds.length = 2 → sp_loutline ds M Q DX0 → t_l_outline_area_700f sp_lwhole sp_lplusT sp_times_by (dEnds M Q) (startD 8 ds) M := by
  rintro _ M Q - ⟨a, b, c, e, k, rfl, h, hk, q⟩
  unfold t_l_outline_area_700f
  have m0 := h.m0
  have bm := h.bm
  have hm0 : meas4 b c e = e * e + 4 * b * c := rfl
  have hob := o_bd h rfl
  generalize hm : meas4 b c e = m at *
  have hS := (rvS (m := m) h.be).up (mx := 103) (mb := 2)
  have hR := rvR (m := m) h.ba h.be
  have hT := rvR (m := m) h.bc h.be
  have hz : RV m 103 2 zT 0 0 1 := rvI b0
  have bab : Bi 103 (a + b) := (h.ba.add h.bb).mono
  refine dSeq_open fun B hB => ?_
  walk_at "rd"
  refine ⟨0, rfl, ?_⟩
  rw [← hB]
  clear hB B
  refine dSeq_open fun B hB => ?_
  walk_at "rd"
  refine ⟨by unfold Rg; decide, fun i r M' => i ≤ 8 ∧ M' = M ∧ ∃ t3 t4 t5 t6 t7 : Option D, r = [some (.int m), some (.own k), some (rootN m (oX m a b c e i) (oY a c e i) 4), t3, t4, t5, t6, t7], ⟨by decide, rfl, none, none, none, none, none, by
    have e0 : rootN m (oX m a b c e 0) (oY a c e 0) 4 = T3 0 0 1 := rnI (by decide) (by show (0 : Int) = 0 * 4; decide) rfl
    rw [e0]⟩, ?_⟩
  rintro i r M' ⟨hi, rfl, t3, t4, t5, t6, t7, rfl⟩
  refine ⟨trivial, fun hli => ?_, fun d hd => ?_⟩
  · have hi8 : i = 8 := by have : 8 ≤ i := hli; omega
    subst hi8
    dsimp only
    rw [← hB]
    clear hB B
    walk_at "rd"
    have hl : RV m 420 3 (rootN m (oX m a b c e 8) (oY a c e 8) 4) (oX m a b c e 8) (oY a c e 8) 4 := ⟨rfl, by decide, (hob 8).1, (hob 8).2, b_n 4 4⟩
    have h12 : RV m 103 2 (T3 1 0 2) 1 0 2 := by
      have hn : NF m 1 0 2 := ⟨by decide, by decide, fun _ => rfl⟩
      exact ⟨hn.self.symm, by decide, b_n 1 1, b_n 0 0, b_n 2 2⟩
    refine timesC m0 bm hl h12 fun d hd => ?_
    have ed : d = cA m e := by
      refine hd.eq.trans (rn_eq hd.b0 (by decide) ?_ ?_)
      · show ((4 * b * c + 2 * c * (2 * b - e) + ((2 * a + e) * e + m) + ((2 * c + e) * e + m) - 2 * a * e) * 1 + m * (0 - 2 * c + (2 * a + 2 * e) + (2 * c + 2 * e) - 2 * a) * 0) * 2 = m * (4 * 2)
        rw [hm0]
        grind
      · show ((4 * b * c + 2 * c * (2 * b - e) + ((2 * a + e) * e + m) + ((2 * c + e) * e + m) - 2 * a * e) * 0 + (0 - 2 * c + (2 * a + 2 * e) + (2 * c + 2 * e) - 2 * a) * 1) * 2 = e * (4 * 2)
        grind
    subst ed
    exact rtq q rfl
  · clear hB
    obtain ⟨hlt, rfl⟩ := rng_get.mp hd
    have hlt : i < 8 := hlt
    have hx : ∃ (x y z w : D) (X Y B X1 Y1 B1 X2 Y2 B2 X3 Y3 B3 : Int), atI (cornD m a b c e) (i : Nat) = some (.tup [x, y]) ∧ atI (cornD m a b c e) (((i : Nat) + 1) % 8) = some (.tup [z, w]) ∧
        RV m 103 2 x X Y B ∧ RV m 103 2 y X1 Y1 B1 ∧ RV m 103 2 z X2 Y2 B2 ∧ RV m 103 2 w X3 Y3 B3 ∧
        (oX m a b c e i * ((B * B3) * (B1 * B2)) + ((X * X3 + m * Y * Y3) * (B1 * B2) - (X1 * X2 + m * Y1 * Y2) * (B * B3)) * 4) * 4 = oX m a b c e (i + 1) * (4 * ((B * B3) * (B1 * B2))) ∧
        (oY a c e i * ((B * B3) * (B1 * B2)) + ((X * Y3 + Y * X3) * (B1 * B2) - (X1 * Y2 + Y1 * X2) * (B * B3)) * 4) * 4 = oY a c e (i + 1) * (4 * ((B * B3) * (B1 * B2))) := by
      rcases (by omega : i = 0 ∨ i = 1 ∨ i = 2 ∨ i = 3 ∨ i = 4 ∨ i = 5 ∨ i = 6 ∨ i = 7) with rfl | rfl | rfl | rfl | rfl | rfl | rfl | rfl
      · exact ⟨zT, zT, cS m e, zT, 0, 0, 1, 0, 0, 1, e, 1, 2, 0, 0, 1, rfl, rfl, hz, hz, hS, hz, by simp only [oX]; grind, by simp only [oY]; grind⟩
      · exact ⟨cS m e, zT, T3 b 0 1, zT, e, 1, 2, 0, 0, 1, b, 0, 1, 0, 0, 1, rfl, rfl, hS, hz, rvI h.bb, hz, by simp only [oX]; grind, by simp only [oY]; grind⟩
      · exact ⟨T3 b 0 1, zT, T3 (a + b) 0 1, T3 c 0 1, b, 0, 1, 0, 0, 1, a + b, 0, 1, c, 0, 1, rfl, rfl, rvI h.bb, hz, rvI bab, rvI h.bc, by simp only [oX]; grind, by simp only [oY]; grind⟩
      · exact ⟨T3 (a + b) 0 1, T3 c 0 1, cR m a e, T3 c 0 1, a + b, 0, 1, c, 0, 1, 2 * a + e, 1, 2, c, 0, 1, rfl, rfl, rvI bab, rvI h.bc, hR, rvI h.bc, by simp only [oX]; grind, by simp only [oY]; grind⟩
      · exact ⟨cR m a e, T3 c 0 1, cR m a e, cR m c e, 2 * a + e, 1, 2, c, 0, 1, 2 * a + e, 1, 2, 2 * c + e, 1, 2, rfl, rfl, hR, rvI h.bc, hR, hT, by simp only [oX]; grind, by simp only [oY]; grind⟩
      · exact ⟨cR m a e, cR m c e, T3 a 0 1, cR m c e, 2 * a + e, 1, 2, 2 * c + e, 1, 2, a, 0, 1, 2 * c + e, 1, 2, rfl, rfl, hR, hT, rvI h.ba, hT, by simp only [oX]; grind, by simp only [oY]; grind⟩
      · exact ⟨T3 a 0 1, cR m c e, T3 a 0 1, T3 c 0 1, a, 0, 1, 2 * c + e, 1, 2, a, 0, 1, c, 0, 1, rfl, rfl, rvI h.ba, hT, rvI h.ba, rvI h.bc, by simp only [oX]; grind, by simp only [oY]; grind⟩
      · exact ⟨T3 a 0 1, T3 c 0 1, zT, zT, a, 0, 1, c, 0, 1, 0, 0, 1, 0, 0, 1, rfl, rfl, rvI h.ba, rvI h.bc, hz, hz, by simp only [oX]; grind, by simp only [oY]; grind⟩
    obtain ⟨x, y, z, w, X, Y, B0, X1, Y1, B1, X2, Y2, B2, X3, Y3, B3, a1, a2, rx, ry, rz, rw', p1, p2⟩ := hx
    have hl : RV m 420 3 (rootN m (oX m a b c e i) (oY a c e i) 4) (oX m a b c e i) (oY a c e i) 4 := ⟨rfl, by decide, (hob i).1, (hob i).2, b_n 4 4⟩
    rw [Int.zero_add]
    simp only [dName, List.set_cons_zero, List.set_cons_succ]
    refine dSeq_open fun B hB => ?_
    have r1 : res M' (.own k) = .lst (cornD m a b c e) := by unfold res; dsimp only; rw [hk]
    walk_at "rd"
    simp only [r1]
    rw [a1]
    dsimp only
    refine ⟨(by decide : (8 : Int) ≠ 0), ?_⟩
    rw [fmod_pos (by decide), a2]
    simp only [rs_tup]
    refine ⟨rfl, rfl, ?_⟩
    rw [← hB]
    clear hB B
    walk_at "rd"
    refine timesC m0 bm rx rw' fun d1 h1 => ?_
    refine timesC m0 bm ry rz fun d2 h2 => ?_
    refine lminusC m0 bm h1 h2 fun d3 h3 => ?_
    refine lplusC m0 bm hl h3 fun d4 h4 => ?_
    have e4 : d4 = rootN m (oX m a b c e (i + 1)) (oY a c e (i + 1)) 4 := by
      refine h4.eq.trans (rn_eq h4.b0 (by decide) ?_ ?_)
      · rw [← p1]
      · rw [← p2]
    exact ⟨by omega, rfl, _, _, _, _, _, by rw [e4]⟩
/-! ### all ends are one -/
theorem filterMap_intsK {g : Int → D} {f : D → Option D} (h : ∀ i, f (.int i) = some (g i)) : ∀ l : List Int, (l.map D.int).filterMap f = l.map g
  | [] => rfl
  | i :: l => by rw [List.map_cons, List.filterMap_cons, h, List.map_cons, filterMap_intsK h l]
def mrg (ns : List Int) (lo hi : Int) : List Int := ns.map fun x => if x = hi then lo else x
def sp_ljoined : DSp := fun ds M Q _ => ∃ (m a b c e : Int) (k : Nat), ds = [.own k] ∧ M[k]? = some (.lst (glueD m a b c e)) ∧ Q (.bl true) M
def nmL : Nat → List Int
  | 0 => [0, 1, 2, 3, 4, 5, 6, 7]
  | 1 => [0, 1, 2, 3, 4, 1, 0, 7]
  | 2 => [0, 1, 2, 2, 1, 1, 0, 7]
  | 3 => [2, 1, 2, 2, 1, 1, 2, 2]
  | _ => [1, 1, 1, 1, 1, 1, 1, 1]
def nmH : Nat → List Int
  | 0 => [0, 1, 2, 3, 4, 5, 0, 7]
  | 1 => [0, 1, 2, 3, 1, 1, 0, 7]
  | 2 => [2, 1, 2, 2, 1, 1, 2, 7]
  | _ => [1, 1, 1, 1, 1, 1, 1, 1]
theorem rd_l_joined_ends_68e6 : ∀ ds M Q, ds.length = 1 → sp_ljoined ds M Q DX0 → t_l_joined_ends_68e6 (dEnds M Q) (startD 10 ds) M := by
  rintro _ M Q - ⟨m, a, b, c, e, k, rfl, hk, q⟩
  unfold t_l_joined_ends_68e6
  refine dSeq_open fun B hB => ?_
  walk_at "rd"
  refine ⟨by unfold RgOk; decide, ?_⟩
  have e0 : rng 0 (Int.toNat 8) = (nmL 0).map D.int := rfl
  rw [e0, ← hB]
  clear hB B
  refine dSeq_open fun B hB => ?_
  walk_at "rd"
  rw [hk]
  dsimp only
  refine ⟨fun i r M' => i ≤ 4 ∧ M' = M ∧ ∃ t2 t3 t4 t5 t6 t7 t8 t9 : Option D, r = [some (.own k), some (.lst ((nmL i).map D.int)), t2, t3, t4, t5, t6, t7, t8, t9], ⟨by decide, rfl, _, _, _, _, _, _, _, _, rfl⟩, ?_⟩
  rintro i r M' ⟨hi, rfl, t2, t3, t4, t5, t6, t7, t8, t9, rfl⟩
  refine ⟨hk, fun hli => ?_, fun d hd => ?_⟩
  · have hi4 : i = 4 := by have : 4 ≤ i := hli; omega
    subst hi4
    dsimp only
    rw [← hB]
    clear hB B
    walk_at "rd"
    unfold dLenSet
    walk_at "rd"
    refine ⟨nmL 4, rfl, by decide, ?_⟩
    rw [show manyOf (nmL 4) = 1 from by decide +kernel]
    exact rtq q
  · clear hB
    have hlt : i < 4 := (List.getElem?_eq_some_iff.mp hd).1
    have hx : ∃ (ed ot : Int) (s : D), d = .tup [.int ed, .int ot, s] ∧ 0 ≤ ed ∧ ed ≤ 7 ∧ 0 ≤ ot ∧ ot ≤ 7 ∧ (∃ lo hi, atI (nmL i) ed = some lo ∧ atI (nmL i) ((ot + 1) % 8) = some hi ∧ mrg (nmL i) lo hi = nmH i) ∧ (∃ lo hi, atI (nmH i) ((ed + 1) % 8) = some lo ∧ atI (nmH i) ot = some hi ∧ mrg (nmH i) lo hi = nmL (i + 1)) := by
      rcases (by omega : i = 0 ∨ i = 1 ∨ i = 2 ∨ i = 3) with rfl | rfl | rfl | rfl
      all_goals
        cases hd
        exact ⟨_, _, _, rfl, by decide, by decide, by decide, by decide, ⟨_, _, rfl, rfl, by decide⟩, ⟨_, _, rfl, rfl, by decide⟩⟩
    obtain ⟨ed, ot, s, rfl, d1, d2, d3, d4, ⟨lo, hi', n1, n2, n3⟩, ⟨lo2, hi2, m1, m2, m3⟩⟩ := hx
    walk_at "rd"
    refine ⟨(by decide : (8 : Int) ≠ 0), (by decide : (8 : Int) ≠ 0), ?_⟩
    rw [fmod_pos (by decide), fmod_pos (by decide)]
    let sel : Nat → List Int := fun j => match j with | 0 => nmL i | 1 => nmH i | _ => nmL (i + 1)
    have hsl : ∀ j, (sel j).length = 8 := fun j => by
      have l1 : ∀ i, (nmL i).length = 8 := fun i => by unfold nmL; split <;> rfl
      have l2 : ∀ i, (nmH i).length = 8 := fun i => by unfold nmH; split <;> rfl
      match j with
      | 0 => exact l1 _
      | 1 => exact l2 _
      | j + 2 => exact l1 _
    refine ⟨fun j r M'' => j ≤ 2 ∧ M'' = M' ∧ ∃ t5 t6 t7 t8 t9 : Option D, r = [some (.own k), some (.lst ((sel j).map D.int)), some (.int ed), some (.int ot), some s, t5, t6, t7, t8, t9], ⟨by decide, rfl, _, _, _, _, _, rfl⟩, ?_⟩
    rintro j r M'' ⟨hj, rfl, t5, t6, t7, t8, t9, rfl⟩
    refine ⟨trivial, fun hlj => ?_, fun d hd => ?_⟩
    · have hj2 : j = 2 := by have : 2 ≤ j := hlj; omega
      subst hj2
      exact ⟨by omega, rfl, _, _, _, _, _, _, _, _, rfl⟩
    · have hjlt : j < 2 := (List.getElem?_eq_some_iff.mp hd).1
      have hy : ∃ u v lo hi : Int, d = .tup [.int u, .int v] ∧ atI (sel j) u = some lo ∧ atI (sel j) v = some hi ∧ mrg (sel j) lo hi = sel (j + 1) := by
        rcases (by omega : j = 0 ∨ j = 1) with rfl | rfl
        · cases hd
          exact ⟨_, _, lo, hi', rfl, n1, n2, n3⟩
        · cases hd
          exact ⟨_, _, lo2, hi2, rfl, m1, m2, m3⟩
      obtain ⟨u, v, lo', hi'', rfl, a1, a2, a3⟩ := hy
      have g1 : ∀ (u x : Int), atI (sel j) u = some x → atI ((sel j).map D.int) u = some (.int x) := fun u x h => atI_map h
      walk_at "rd"
      rw [g1 _ _ a1]
      dsimp only
      rw [g1 _ _ a2]
      dsimp only
      refine lcW_pure (fun d => match d with | .int x => some (.int (if x = hi'' then lo' else x)) | _ => none) trivial (by rw [List.length_map, hsl, sizeLine_eq]; decide) (fun d hd Y N' hy => ?_) ?_
      · obtain ⟨x, hx, rfl⟩ := List.mem_map.mp hd
        walk_at "rd"
        dsimp only at hy
        by_cases hxe : x = hi''
        · rw [if_pos hxe] at hy ⊢
          exact hy
        · rw [if_neg hxe] at hy ⊢
          exact hy
      rw [filterMap_intsK (g := fun x => .int (if x = hi'' then lo' else x)) (fun i => rfl)]
      have e3 : (sel j).map (fun x => D.int (if x = hi'' then lo' else x)) = (sel (j + 1)).map D.int := by
        rw [← a3]
        unfold mrg
        rw [List.map_map]
        rfl
      rw [e3]
      exact ⟨by omega, rfl, _, _, _, _, _, rfl⟩
/-! ### one cutting's outline is right -/
structure Sh4 (d : D) : Prop where
  f : fine 10 d = true
  l : lit 400 d = true
  w : wt 400 d ≤ 40000
theorem Sh4.shown {d : D} (h : Sh4 d) (M : Mem) : ∃ z, shwnZ (resD M d) = some z := by
  rw [resD_fine M 10 d h.f]
  obtain ⟨z, hz⟩ := shw_of 400 10 h.f h.l (by have := h.w; omega)
  exact ⟨z, shwnZ_of hz⟩
theorem lit4 {n : Nat} {i : Int} (h : Bi n i) (hn : n ≤ 399 := by decide) : lit 400 (.int i) = true := decide_eq_true (Nat.lt_of_lt_of_le (log2_of 399 (h.mono hn) (by decide)) (by decide))
/-- the triple of a value -/
theorem RV.shape {m X Y B : Int} {nx nb : Nat} {d : D} (h : RV m nx nb d X Y B) (m0 : 0 ≤ m) (hm : Bi 200 m) (h1 : nx ≤ 250 := by decide) (h2 : nb ≤ 250 := by decide) : ∃ t1 t2 t3 : Int, d = T3 t1 t2 t3 ∧ lit 400 (T3 t1 t2 t3) = true := by
  obtain ⟨t1, t2, t3, k, T⟩ := h.t3 m0 hm
  exact ⟨t1, t2, t3, T.eq, lit_cons (lit4 T.sz.1 (by omega)) (lit_cons (lit4 T.sz.2.1 (by omega)) (lit_cons (lit4 T.sz.2.2 (by omega)) rfl))⟩
theorem litI {i : Int} {n : Nat} (h : Bi n i) (hn : n ≤ 399 := by decide) : lit 400 (T3 i 0 1) = true := lit_cons (lit4 h hn) (lit_cons rfl (lit_cons rfl rfl))
theorem lit2 {x y : D} (h : lit 400 x = true) (g : lit 400 y = true) : lit 400 (.tup [x, y]) = true := lit_cons h (lit_cons g rfl)
theorem lit3e {i j : Int} {y : D} (h : lit 400 (.int i) = true) (h2 : lit 400 (.int j) = true) (g : lit 400 y = true) : lit 400 (.tup [.int i, .int j, y]) = true := lit_cons h (lit_cons h2 (lit_cons g rfl))
theorem bc_pos {b c : Int} (k1 : 1 ≤ b) (k2 : 1 ≤ c) : 1 ≤ b * c := by
  have : 1 * 1 ≤ b * c := Int.mul_le_mul k1 k2 (by decide) (by omega)
  omega
theorem side_pos {b c e : Int} (k1 : 1 ≤ b) (k2 : 1 ≤ c) : sideV (meas4 b c e) (rnX (meas4 b c e) e 1) (rnY (meas4 b c e) 1) = 1 := by
  have hbc := bc_pos k1 k2
  have hm0 : meas4 b c e = e * e + 4 * (b * c) := by unfold meas4; grind
  have he : 0 ≤ e * e := by rcases (by omega : 0 ≤ e ∨ e ≤ 0) with h | h; exact Int.mul_nonneg h h; exact Int.mul_nonneg_of_nonpos_of_nonpos h h
  generalize meas4 b c e = m at *
  unfold rnX rnY
  by_cases hq : isSq m
  · rw [if_pos hq, if_pos hq]
    have hq' : isq m * isq m = m := hq
    have r0 := isq_nn m
    have hr : 0 < e + 1 * isq m := by
      rcases (by omega : 0 < e + isq m ∨ isq m ≤ 0 - e) with h | h
      · omega
      · have h1 := Int.mul_le_mul h h r0 (by omega)
        have h2 : (0 - e) * (0 - e) = e * e := by grind
        omega
    generalize e + 1 * isq m = t at hr
    unfold sideV
    rw [if_pos ⟨by omega, by decide⟩, if_pos (.inl hr)]
  · rw [if_neg hq, if_neg hq]
    have ew : e * e - m * 1 * 1 < 0 := by rw [Int.mul_one, Int.mul_one]; omega
    unfold sideV
    by_cases h1 : 0 ≤ e ∧ (0 : Int) ≤ 1
    · rw [if_pos h1, if_pos (.inr (by decide))]
    · rw [if_neg h1, if_neg (by omega), if_neg (by omega), if_pos ew]
theorem side_less {b c e : Int} (k1 : 1 ≤ b) (k2 : 1 ≤ c) (k3 : c + e < b) : sideV (meas4 b c e) (rnX (meas4 b c e) (e * 1 - b * 2) (1 * 1 - 0 * 2)) (rnY (meas4 b c e) (1 * 1 - 0 * 2)) < 0 := by
  have hbc := bc_pos k1 k2
  have hm0 : meas4 b c e = e * e + 4 * (b * c) := by unfold meas4; grind
  have hb2 : 1 ≤ b * (b - e - c) := bc_pos k1 (by omega)
  have ek : (2 * b - e) * (2 * b - e) = meas4 b c e + 4 * (b * (b - e - c)) := by rw [hm0]; grind
  generalize meas4 b c e = m at *
  have eY : (1 * 1 - 0 * 2 : Int) = 1 := by decide
  have eX : e * 1 - b * 2 = e - 2 * b := by omega
  rw [eY, eX]
  unfold rnX rnY
  by_cases hq : isSq m
  · rw [if_pos hq, if_pos hq]
    have hq' : isq m * isq m = m := hq
    have r0 := isq_nn m
    have hr : e - 2 * b + 1 * isq m < 0 := by
      rcases (by omega : isq m < 2 * b - e ∨ 2 * b - e ≤ isq m) with h | h
      · omega
      · have h1 := Int.mul_le_mul h h (by omega) r0
        omega
    generalize e - 2 * b + 1 * isq m = t at hr
    unfold sideV
    rw [if_neg (by omega), if_pos ⟨by omega, by decide⟩]
    decide
  · rw [if_neg hq, if_neg hq]
    have ew : 0 < (e - 2 * b) * (e - 2 * b) - m * 1 * 1 := by
      have : (e - 2 * b) * (e - 2 * b) = (2 * b - e) * (2 * b - e) := by grind
      rw [this, Int.mul_one, Int.mul_one]; omega
    unfold sideV
    rw [if_neg (by omega), if_neg (by omega), if_neg (by omega), if_neg (by omega)]
    decide
theorem shown_same {d : D} (h : Sh4 d) : ∃ z, (∀ M, shwnZ (resD M d) = some z) ∧ ∀ (M : Mem) (k : Nat) (l : List D), d = .lst l → M[k]? = some (.lst l) → shwnZ (resD M (.own k)) = some z := by
  obtain ⟨z, hz⟩ := h.shown []
  rw [resD_fine [] 10 d h.f] at hz
  refine ⟨z, fun M => by rw [resD_fine M 10 d h.f]; exact hz, fun M k l e hk => ?_⟩
  subst e
  have : resD M (.own k) = .lst l := by simp only [resD, cellL, hk]
  rw [this]; exact hz
theorem gNe_str_same {z : Str} {M : Mem} {Q : DQ} (q : Q (.bl false) M) : gNe (.str z) (.str z) M Q := by rw [gNe_strs, str_self]; exact q
theorem gNe_int_same {i : Int} {M : Mem} {Q : DQ} (q : Q (.bl false) M) : gNe (.int i) (.int i) M Q := by rw [gNe_int]; simpa using q
def sp_right34 : DSp := fun ds M Q _ => ∃ a b c e : Int, ds = [T4 a b c e] ∧ CK a b c e ∧ Q (.bl true) M
theorem rd_l_right_11de : ∀ ds M Q, ds.length = 1 → sp_right34 ds M Q DX0 → t_l_right_11de sp_measure_by sp_slit sp_square_side sp_corners_o sp_gluings_o sp_lcorners sp_lshifts sp_lside28 sp_lleast sp_lwhole sp_times_by sp_root_by sp_area sp_loutline sp_ljoined sp_ladded (dEnds M Q) (startD 11 ds) M := by
  rintro _ M Q - ⟨a, b, c, e, rfl, h, q⟩
  unfold t_l_right_11de
  have m0 := h.m0
  have bm := h.bm
  obtain ⟨k1, k2, k3, k4, k5, k6⟩ := cut_parts h.cut
  refine dSeq_open fun B hB => ?_
  walk_at "rd"
  refine ⟨a, b, c, e, rfl, h.bb.mono, h.bc.mono, h.be.mono, ?_⟩
  refine ⟨a, b, c, e, rfl, h, fun S hS => ?_⟩
  have eS : S = cS (meas4 b c e) e := hS.eq
  subst eS
  dsimp only
  rw [← hB]
  clear hB B
  have hm0 : meas4 b c e = e * e + 4 * b * c := rfl
  refine dSeq_open fun B hB => ?_
  walk_at "rd"
  refine ⟨a, b, c, e, rfl, h, fun S' hS' => ?_⟩
  have eS' : S' = cS (meas4 b c e) e := hS'.eq
  subst eS'
  refine ⟨a, b, c, e, rfl, h, ?_⟩
  refine ⟨a, b, c, e, rfl, h, ?_⟩
  rw [← hB]
  clear hB B
  dsimp only
  obtain ⟨M1, hM1⟩ : ∃ M1, M ++ [Own.lst (cornD (meas4 b c e) a b c e)] ++ [Own.lst (glueD (meas4 b c e) a b c e)] = M1 := ⟨_, rfl⟩
  have c1 : M1[M.length]? = some (.lst (cornD (meas4 b c e) a b c e)) := by
    rw [← hM1, List.append_assoc, List.getElem?_append_right (Nat.le_refl _), Nat.sub_self]; rfl
  have kl : (M ++ [Own.lst (cornD (meas4 b c e) a b c e)]).length = M.length + 1 := by simp
  have c2 : M1[M.length + 1]? = some (.lst (glueD (meas4 b c e) a b c e)) := by
    rw [← hM1, List.getElem?_append_right (by rw [kl]; exact Nat.le_refl _), kl, Nat.sub_self]; rfl
  have hM : ∃ G, M1 = M ++ G := ⟨_, by rw [← hM1, List.append_assoc]⟩
  rw [hM1, kl]
  clear hM1 kl
  generalize hk1 : M.length = k1' at *
  -- the shapes
  have rS := rvS (m := meas4 b c e) h.be
  have rR := rvR (m := meas4 b c e) h.ba h.be
  have rT := rvR (m := meas4 b c e) h.bc h.be
  have rN := rvN (m := meas4 b c e) h.be
  generalize hm : meas4 b c e = m at *
  obtain ⟨s1, s2, s3, es, ls⟩ := rS.shape m0 bm
  obtain ⟨r1, r2, r3, er, lr⟩ := rR.shape m0 bm
  obtain ⟨t1, t2, t3, et, lt⟩ := rT.shape m0 bm
  obtain ⟨n1, n2, n3, en, ln⟩ := rN.shape m0 bm
  have lz : lit 400 zT = true := rfl
  have la := litI h.ba
  have lb := litI h.bb
  have lc := litI h.bc
  have lnb := litI h.bb.neg
  have lab := litI (h.ba.add h.bb)
  have shC : Sh4 (.lst (cornD m a b c e)) := by
    unfold cornD
    rw [es, er, et]
    refine ⟨rfl, ?_, by simp only [wt, wtAll]; decide⟩
    exact lit_cons (lit2 lz lz) (lit_cons (lit2 ls lz) (lit_cons (lit2 lb lz) (lit_cons (lit2 lab lc) (lit_cons (lit2 lr lc) (lit_cons (lit2 lr lt) (lit_cons (lit2 la lt) (lit_cons (lit2 la lc) rfl)))))))
  have shG : Sh4 (.lst (glueD m a b c e)) := by
    unfold glueD
    rw [et, en]
    refine ⟨rfl, ?_, by simp only [wt, wtAll]; decide⟩
    have l0 : ∀ i : Int, i.natAbs ≤ 100 → lit 400 (.int i) = true := fun i h => lit4 (Bi.of_abs (n := 10) 100 h (by decide))
    exact lit_cons (lit3e (l0 _ (by decide)) (l0 _ (by decide)) (lit2 la lt)) (lit_cons (lit3e (l0 _ (by decide)) (l0 _ (by decide)) (lit2 la lc)) (lit_cons (lit3e (l0 _ (by decide)) (l0 _ (by decide)) (lit2 lnb lz)) (lit_cons (lit3e (l0 _ (by decide)) (l0 _ (by decide)) (lit2 ln lz)) rfl)))
  have shS : Sh4 (cS m e) := by
    rw [es]
    exact ⟨rfl, ls, by simp only [wt, wtAll]; decide⟩
  refine dSeq_open fun B hB => ?_
  walk_at "rd"
  obtain ⟨zS, hzS, _⟩ := shown_same shS
  obtain ⟨zC, hzC, hzCo⟩ := shown_same shC
  obtain ⟨zG, hzG, hzGo⟩ := shown_same shG
  have shP : Sh4 (.lst [.lst (cornD m a b c e), .lst (glueD m a b c e)]) := by
    refine ⟨rfl, lit_cons shC.l (lit_cons shG.l rfl), ?_⟩
    unfold cornD glueD
    rw [es, er, et, en]
    simp only [wt, wtAll]
    decide
  obtain ⟨zP, hzP, _⟩ := shown_same shP
  refine gReprZ_res (hzS _) (gReprZ_res (hzS _) (gNe_str_same ?_))
  dsimp only
  rw [if_neg (by decide)]
  refine gReprZ_res (hzCo _ _ _ rfl c1) ?_
  refine ⟨a, b, c, e, rfl, h, ?_⟩
  rw [hm]
  refine gReprZ_res (hzC _) (gNe_str_same ?_)
  dsimp only
  rw [if_neg (by decide)]
  refine gReprZ_res (hzGo _ _ _ rfl c2) ?_
  refine ⟨a, b, c, e, rfl, h, fun G => ?_⟩
  rw [hm]
  refine gReprZ_res (hzG _) (gNe_str_same ?_)
  dsimp only
  rw [if_neg (by decide), ← hB]
  clear hB B
  obtain ⟨M2, hM2⟩ : ∃ M2, M1 ++ G = M2 := ⟨_, rfl⟩
  have hlt1 := (List.getElem?_eq_some_iff.mp c1).1
  have hlt2 := (List.getElem?_eq_some_iff.mp c2).1
  have c1' : M2[k1']? = some (.lst (cornD m a b c e)) := by rw [← hM2, List.getElem?_append_left hlt1]; exact c1
  have c2' : M2[k1' + 1]? = some (.lst (glueD m a b c e)) := by rw [← hM2, List.getElem?_append_left hlt2]; exact c2
  have hM' : ∃ G, M2 = M ++ G := by
    obtain ⟨G0, h0⟩ := hM
    exact ⟨G0 ++ G, by rw [← hM2, h0, List.append_assoc]⟩
  rw [hM2]
  clear hM2 c1 c2 hM hlt1 hlt2 M1 G
  refine dSeq_open fun B hB => ?_
  walk_at "rd"
  refine lsideC m0 bm rS (by decide) ?_
  rw [← hm, side_pos k1 k2, hm]
  refine gNe_int_same ?_
  dsimp only
  rw [if_neg (by decide)]
  refine ⟨b, rfl, ?_⟩
  refine ⟨m, _, _, _, _, _, _, _, _, 100, 2, rfl, m0, bm, by decide, by decide, rS, (rv_int h.bb).up (by decide) (by decide), by decide, ?_⟩
  rw [← hm, decide_eq_true (side_less k1 k2 k3), hm]
  dsimp only
  rw [if_neg (by decide), ← hB]
  clear hB B
  refine dSeq_open fun B hB => ?_
  walk_at "rd"
  refine rootC m0 bm (nx := 100) (nb := 1) (by decide) (Bi.of_abs 0 (by decide) (by decide)) (Bi.of_abs 1 (by decide) (by decide)) (Bi.of_abs 1 (by decide) (by decide)) fun d hd => ?_
  refine timesC m0 bm rS hd fun d hd => ?_
  have ed : d = cA m e := hd.eq.trans (rn_eq hd.b0 (by decide) (by grind) (by grind))
  subst ed
  rw [← hB]
  clear hB B
  refine dSeq_open fun B hB => ?_
  walk_at "rd"
  have rA : RV m 200 2 (cA m e) m e 2 := ⟨rfl, by decide, bm, h.be.mono, Bi.of_abs 2 (by decide) (by decide)⟩
  obtain ⟨a1, a2, a3, ea, lA⟩ := rA.shape m0 bm
  have shA : Sh4 (cA m e) := by
    rw [ea]
    exact ⟨rfl, lA, by simp only [wt, wtAll]; decide⟩
  obtain ⟨zA, hzA, _⟩ := shown_same shA
  refine ⟨a, b, c, e, rfl, h, ?_⟩
  rw [hm]
  refine gReprZ_res (hzA _) (gReprZ_res (hzA _) (gNe_str_same ?_))
  dsimp only
  rw [if_neg (by decide)]
  refine ⟨a, b, c, e, k1', by rw [hm], h, by rw [hm]; exact c1', ?_⟩
  rw [hm, ea]
  refine gNe_same (n := 2) rfl ?_
  dsimp only
  rw [if_neg (by decide)]
  refine ⟨m, a, b, c, e, _, rfl, c2', ?_⟩
  dsimp only
  rw [if_neg (by decide), ← hB]
  clear hB B
  refine dSeq_open fun B hB => ?_
  walk_at "rd"
  rw [c2']
  dsimp only
  refine ⟨fun i r M' => i ≤ 4 ∧ M' = M2 ∧ ∃ t7 t8 t9 t10 : Option D, r = [some (T4 a b c e), some (.int m), some (cS m e), some (cS m e), some (.own k1'), some (.own (k1' + 1)), some (T3 a1 a2 a3), t7, t8, t9, t10], ⟨by decide, rfl, none, none, none, none, rfl⟩, ?_⟩
  rintro i r M' ⟨hi, rfl, t7, t8, t9, t10, rfl⟩
  refine ⟨c2', fun hli => ?_, fun d hd => ?_⟩
  · clear hi hli
    dsimp only
    rw [← hB]
    clear hB B
    refine dSeq_open fun B hB => ?_
    walk_at "rd"
    refine gReprZ_res (z := zP) (by
      have e1 : cellL M' k1' = some (cornD m a b c e) := by simp only [cellL, c1']
      have e2 : cellL M' (k1' + 1) = some (glueD m a b c e) := by simp only [cellL, c2']
      have : resD M' (.lst [.own k1', .own (k1' + 1)]) = .lst [.lst (cornD m a b c e), .lst (glueD m a b c e)] := by
        simp only [resDA, resD, e1, e2]
      rw [this]
      have := hzP []
      rw [resD_fine [] 10 _ shP.f] at this
      exact this) ?_
    rw [← hB]
    clear hB B
    refine dSeq_open fun B hB => ?_
    walk_at "rd"
    refine ⟨⟨_, _, rfl, c1'⟩, ?_⟩
    rw [c1']
    refine ⟨by show (8 : Nat) < 16777216; decide, ?_⟩
    rw [← hB]
    clear hB B
    refine dSeq_open fun B hB => ?_
    walk_at "rd"
    have c2'' : (List.set M' k1' (Own.lst (cornD m a b c e ++ [D.non])))[k1' + 1]? = some (.lst (glueD m a b c e)) := by
      rw [List.getElem?_set_ne (by omega)]
      exact c2'
    refine ⟨⟨_, _, rfl, c2''⟩, ?_⟩
    rw [c2'']
    refine ⟨by show (4 : Nat) < 16777216; decide, ?_⟩
    rw [← hB]
    clear hB B
    obtain ⟨M3, hM3, hMM⟩ : ∃ M3, List.set (List.set M' k1' (Own.lst (cornD m a b c e ++ [D.non]))) (k1' + 1) (Own.lst (glueD m a b c e ++ [D.non])) = M3 ∧ ∃ G, M3 = M ++ G := by
      refine ⟨_, rfl, ?_⟩
      obtain ⟨G0, h0⟩ := hM'
      rw [h0, List.set_append_right _ _ (by omega), List.set_append_right _ _ (by omega)]
      exact ⟨_, rfl⟩
    rw [hM3]
    obtain ⟨G3, hG3⟩ := hMM
    walk_at "rd"
    refine ⟨rfl, a, b, c, e, rfl, h, rfl, a, b, c, e, rfl, h, ?_⟩
    rw [hm]
    dsimp only
    obtain ⟨M4, hM4⟩ : ∃ M4, M3 ++ [Own.lst (cornD m a b c e)] ++ [Own.lst (glueD m a b c e)] = M4 := ⟨_, rfl⟩
    have kl : (M3 ++ [Own.lst (cornD m a b c e)]).length = M3.length + 1 := by simp
    have d1 : M4[M3.length]? = some (.lst (cornD m a b c e)) := by
      rw [← hM4, List.append_assoc, List.getElem?_append_right (Nat.le_refl _), Nat.sub_self]; rfl
    have d2 : M4[M3.length + 1]? = some (.lst (glueD m a b c e)) := by
      rw [← hM4, List.getElem?_append_right (by rw [kl]; exact Nat.le_refl _), kl, Nat.sub_self]; rfl
    have hM4' : ∃ G, M4 = M ++ G := ⟨_, by rw [← hM4, hG3, List.append_assoc, List.append_assoc]⟩
    rw [kl, hM4]
    refine gReprZ_res (z := zP) (by
      have e1 : cellL M4 M3.length = some (cornD m a b c e) := by simp only [cellL, d1]
      have e2 : cellL M4 (M3.length + 1) = some (glueD m a b c e) := by simp only [cellL, d2]
      have : resD M4 (.lst [.own M3.length, .own (M3.length + 1)]) = .lst [.lst (cornD m a b c e), .lst (glueD m a b c e)] := by
        simp only [resDA, resD, e1, e2]
      rw [this]
      have := hzP []
      rw [resD_fine [] 10 _ shP.f] at this
      exact this) ?_
    rw [gEq_strs, str_self]
    dsimp only
    rw [if_pos rfl]
    refine ⟨rfl, a, b, c, e, rfl, h, ?_⟩
    rw [hm, ea]
    refine gEq_same (n := 2) rfl ?_
    dsimp only
    rw [if_pos rfl]
    refine ⟨rfl, a, b, c, e, rfl, h, fun S2 hS2 => ?_⟩
    have eS2 : S2 = cS m e := by rw [hm] at hS2; exact hS2.eq
    rw [eS2]
    refine gEq_same (n := 2) rfl ?_
    obtain ⟨G4, h4⟩ := hM4'
    rw [h4]
    exact rtqG q
  · clear hB
    have hlt : i < 4 := (List.getElem?_eq_some_iff.mp hd).1
    have hz := rvI (m := m) b0
    have hNb := rvI (m := m) h.bb.neg
    have rN' := rN.up (mx := 103) (mb := 2)
    have rS' := rS.up (mx := 103) (mb := 2)
    have hx : ∃ (ed ot : Int) (x y x' y' z w : D) (X Y B X1 Y1 B1 X' Y' B' X1' Y1' B1' : Int), d = .tup [.int ed, .int ot, .tup [x', y']] ∧ atI (cornD m a b c e) ((ed + 1) % 8) = some (.tup [x, y]) ∧ atI (cornD m a b c e) ot = some (.tup [z, w]) ∧
        RV m 103 2 x X Y B ∧ RV m 103 2 y X1 Y1 B1 ∧ RV m 103 2 x' X' Y' B' ∧ RV m 103 2 y' X1' Y1' B1' ∧
        rootN m (X * B' + 1 * X' * B) (Y * B' + 1 * Y' * B) (B * B') = z ∧ rootN m (X1 * B1' + 1 * X1' * B1) (Y1 * B1' + 1 * Y1' * B1) (B1 * B1') = w := by
      rcases (by omega : i = 0 ∨ i = 1 ∨ i = 2 ∨ i = 3) with rfl | rfl | rfl | rfl
      · cases hd
        exact ⟨0, 5, cS m e, zT, T3 a 0 1, cR m c e, cR m a e, cR m c e, e, 1, 2, 0, 0, 1, a, 0, 1, 2 * c + e, 1, 2, rfl, rfl, rfl, rS', hz, rvI h.ba, rT, rn_eq (by decide) (by decide) (by grind) (by grind), rn_eq (by decide) (by decide) (by grind) (by grind)⟩
      · cases hd
        exact ⟨1, 3, T3 b 0 1, zT, T3 a 0 1, T3 c 0 1, T3 (a + b) 0 1, T3 c 0 1, b, 0, 1, 0, 0, 1, a, 0, 1, c, 0, 1, rfl, rfl, rfl, rvI h.bb, hz, rvI h.ba, rvI h.bc, rnI (by decide) (by grind) (by grind), rnI (by decide) (by grind) (by grind)⟩
      · cases hd
        exact ⟨2, 7, T3 (a + b) 0 1, T3 c 0 1, T3 (0 - b) 0 1, zT, T3 a 0 1, T3 c 0 1, a + b, 0, 1, c, 0, 1, 0 - b, 0, 1, 0, 0, 1, rfl, rfl, rfl, rvI (h.ba.add h.bb), rvI h.bc, hNb, hz, rnI (by decide) (by grind) (by grind), rnI (by decide) (by grind) (by grind)⟩
      · cases hd
        exact ⟨4, 6, cR m a e, cR m c e, cN m e, zT, T3 a 0 1, cR m c e, 2 * a + e, 1, 2, 2 * c + e, 1, 2, 0 - e, -1, 2, 0, 0, 1, rfl, rfl, rfl, rR, rT, rN', hz, rnI (by decide) (by grind) (by grind), rn_eq (by decide) (by decide) (by grind) (by grind)⟩
    obtain ⟨ed, ot, x, y, x', y', z, w, X, Y, B0, X1, Y1, B1, X', Y', B', X1', Y1', B1', rfl, a1, a2, rx, ry, rx', ry', ez, ew⟩ := hx
    have e1 : res M' (.own k1') = .lst (cornD m a b c e) := by simp only [res, c1']
    walk_at "rd"
    rw [e1]
    dsimp only
    refine ⟨(by decide : (8 : Int) ≠ 0), ?_⟩
    rw [fmod_pos (by decide), a1]
    dsimp only
    refine ⟨m, x, y, x', y', 1, X, Y, B0, X1, Y1, B1, X', Y', B', X1', Y1', B1', 103, 2, rfl, m0, bm, .inl rfl, by decide, by decide, rx, ry, rx', ry', ?_⟩
    subst ez
    subst ew
    try dsimp only
    rw [e1]
    try dsimp only
    rw [a2]
    try dsimp only
    refine gNe_same (n := 3) rfl ?_
    dsimp only
    rw [if_neg (by decide)]
    exact ⟨by omega, rfl, _, _, _, _, rfl⟩
/-! ### the law -/
theorem rnT {m x y b p q r : Int} (h1 : (rnX m x y).fdiv (rnC m x y b) = p) (h2 : (rnY m y).fdiv (rnC m x y b) = q) (h3 : b.fdiv (rnC m x y b) = r) : rootN m x y b = T3 p q r := by
  unfold rootN
  rw [h1, h2, h3]
theorem L1 : cS 9 (-1) = T3 1 0 1 := rnT (by decide +kernel) (by decide +kernel) (by decide +kernel)
theorem L2' : cA 9 (-1) = T3 3 0 1 := rnT (by decide +kernel) (by decide +kernel) (by decide +kernel)
theorem L3 : cR 17 1 (-1) = T3 1 1 2 := rnT (by decide +kernel) (by decide +kernel) (by decide +kernel)
theorem L4 : cR 17 2 (-1) = T3 3 1 2 := rnT (by decide +kernel) (by decide +kernel) (by decide +kernel)
theorem L5 : cA 17 (-1) = T3 17 (-1) 2 := rnT (by decide +kernel) (by decide +kernel) (by decide +kernel)
theorem c34_12 : CPow 10 12 := by first | decide | exact ⟨by decide, by decide⟩
theorem c34_6 : CPow 10 6 := by first | decide | exact ⟨by decide, by decide⟩
theorem c34_29 : CPow 10 29 := by first | decide | exact ⟨by decide, by decide⟩
theorem ck1 : CK 0 2 1 (-1) := ⟨by decide, Bi.of_abs 2 (by decide) (by decide), Bi.of_abs 2 (by decide) (by decide), Bi.of_abs 2 (by decide) (by decide), Bi.of_abs 2 (by decide) (by decide), Bi.of_abs 200 (by decide) (by decide), by decide⟩
theorem ck2 : CK 1 2 2 (-1) := ⟨by decide, Bi.of_abs 2 (by decide) (by decide), Bi.of_abs 2 (by decide) (by decide), Bi.of_abs 2 (by decide) (by decide), Bi.of_abs 2 (by decide) (by decide), Bi.of_abs 200 (by decide) (by decide), by decide⟩
theorem rd_l_law_a011 : ∀ ds M Q, ds.length = 1 → spLaw ds M Q DX0 → t_l_law_a011 sp_generator sp_right34 sp_lcutting34 sp_square_side sp_area sp_corners_o (dEnds M Q) (startD 2 ds) M := by
  rintro _ M Q - ⟨rfl, ⟨ns, rfl⟩, q⟩
  unfold t_l_law_a011
  have fin : ∀ M2, Rtq [] Q (.bl true) M2 := fun M2 => ⟨[], M2, rfl, Nat.zero_le _, rfl, fun i c h => by simp at h, q⟩
  refine dSeq_open fun B hB => ?_
  walk_at "rd"
  refine ⟨ns, _, rfl, by decide, by unfold P31; decide, fun M1 ml hg hold => ?_⟩
  rw [← hB]
  clear hB B
  refine dSeq_open fun B hB => ?_
  walk_at "rd"
  refine ⟨0, 12, 8, _, rfl, by decide, by decide, by decide, by decide, hg, by unfold P40; omega, fun a b c e M2 hc g2 => ?_⟩
  refine ⟨a, b, c, e, rfl, hc, ?_⟩
  dsimp only
  rw [if_neg (by decide)]
  refine ⟨c34_12, c34_6, 0, 10 ^ 12, 10 ^ 6, _, rfl, by decide +kernel, by decide +kernel, by decide +kernel, by decide +kernel, g2.2.1, by unfold P40; omega, fun a b c e M3 hc g3 => ?_⟩
  refine ⟨a, b, c, e, rfl, hc, ?_⟩
  dsimp only
  rw [if_neg (by decide), ← hB]
  clear hB B
  refine dSeq_open fun B hB => ?_
  walk_at "rd"
  refine ⟨c34_29, c34_29, 0, 10 ^ 29, 10 ^ 29, _, rfl, by decide +kernel, by decide +kernel, by decide +kernel, by decide +kernel, g3.2.1, by unfold P40; omega, fun a b c e M4 hc g4 => ?_⟩
  refine ⟨a, b, c, e, rfl, hc, ?_⟩
  dsimp only
  rw [if_neg (by decide), ← hB]
  clear hB B
  refine dSeq_open fun B hB => ?_
  walk_at "rd"
  refine ⟨0, 2, 1, -1, rfl, ck1, fun d hd => ?_⟩
  have ed : d = T3 1 0 1 := hd.eq.trans L1
  rw [ed]
  refine gNe_same (n := 2) rfl ?_
  dsimp only
  rw [if_neg (by decide)]
  refine ⟨0, 2, 1, -1, rfl, ck1, ?_⟩
  rw [show meas4 2 1 (-1) = 9 from rfl, L2']
  refine gNe_same (n := 2) rfl ?_
  dsimp only
  rw [if_neg (by decide), ← hB]
  clear hB B
  walk_at "rd"
  refine ⟨1, 2, 2, -1, rfl, ck2, ?_⟩
  rw [show meas4 2 2 (-1) = 17 from rfl]
  dsimp only
  have hk : (M4 ++ [Own.lst (cornD 17 1 2 2 (-1))])[M4.length]? = some (.lst (cornD 17 1 2 2 (-1))) := by rw [List.getElem?_append_right (Nat.le_refl _), Nat.sub_self]; rfl
  generalize hN : M4 ++ [Own.lst (cornD 17 1 2 2 (-1))] = N at hk ⊢
  have hr : res N (.own M4.length) = .lst (cornD 17 1 2 2 (-1)) := by simp only [res, hk]
  have hcut : cutD (cornD 17 1 2 2 (-1)) (some 4) (some 6) = [.tup [T3 1 1 2, T3 2 0 1], .tup [T3 1 1 2, T3 3 1 2]] := by
    unfold cornD
    rw [L3, L4]
    rfl
  unfold gSl gSlL
  dsimp only
  rw [hr]
  dsimp only
  rw [if_neg (by decide), hcut]
  refine gEq_same (n := 4) rfl ?_
  dsimp only
  rw [if_pos rfl]
  refine ⟨1, 2, 2, -1, rfl, ck2, ?_⟩
  rw [show meas4 2 2 (-1) = 17 from rfl, L5]
  exact gEq_same (n := 2) rfl (fin _)
end DL
namespace C_k34
open PySem PySem.Spec PyProof.Rows L2 DL
theorem law_ok {P : Program} {w : World} {K : PySem.W.Frag} {mg : Str → Option Value} {base : Heap} (T : Txt K mg base) : Def P w K mg base CX0 7 "law" s_l_law_a011 ["_law_script"] spLaw := by
  have D_l_cell_cf3b := ok_l_cell_cf3b (P := P) (w := w) T  rd_l_cell_cf3b
  have D_l_generator_b324 := ok_l_generator_b324 (P := P) (w := w) T D_l_cell_cf3b rd_l_generator_b324
  have D_l_measure_d993 := ok_l_measure_d993 (P := P) (w := w) T  rd_l_measure_d993
  have D_l_root_of_fba3 := ok_l_root_of_fba3 (P := P) (w := w) T  rd_l_root_of_fba3
  have D_l_common_ec6e := ok_l_common_ec6e (P := P) (w := w) T  rd_l_common_ec6e
  have D_l_made_ecf7 := ok_l_made_ecf7 (P := P) (w := w) T D_l_root_of_fba3 D_l_common_ec6e rd_l_made_ecf7
  have D_l_side_of_cf54 := ok_l_side_of_cf54 (P := P) (w := w) T D_l_made_ecf7 D_l_measure_d993 rd_l_side_of_cf54
  have D_is_whole := ok_is_whole (P := P) (w := w) T  rd_is_whole
  have D_common_by := ok_common_by (P := P) (w := w) T  rd_common_by
  have D_is_cutting_by := ok_is_cutting_by (P := P) (w := w) T D_is_whole D_common_by rd_is_cutting_by
  have D_check_cutting := ok_check_cutting (P := P) (w := w) T D_is_cutting_by rd_check_cutting
  have D_root_floor_by := ok_root_floor_by (P := P) (w := w) T  rd_root_floor_by
  have D_root_by := ok_root_by (P := P) (w := w) T D_root_floor_by D_common_by rd_root_by
  have D_measure_by := ok_measure_by (P := P) (w := w) T  rd_measure_by
  have D_slit_by := ok_slit_by (P := P) (w := w) T D_root_by D_measure_by rd_slit_by
  have D_square_side := ok_square_side (P := P) (w := w) T D_check_cutting D_slit_by rd_square_side
  have D_plus_by := ok_plus_by (P := P) (w := w) T D_root_by rd_plus_by
  have D_corners_by_o := ok_corners_by_o (P := P) (w := w) T D_measure_by D_slit_by D_plus_by rd_corners_by_o
  have D_corners_o := ok_corners_o (P := P) (w := w) T D_check_cutting D_corners_by_o rd_corners_o
  have D_minus_by := ok_minus_by (P := P) (w := w) T D_plus_by rd_minus_by
  have D_gluings_o := ok_gluings_o (P := P) (w := w) T D_check_cutting D_measure_by D_slit_by D_plus_by D_minus_by rd_gluings_o
  have D_l_whole_43a8 := ok_l_whole_43a8 (P := P) (w := w) T  rd_l_whole_43a8
  have D_l_plus_46d9 := ok_l_plus_46d9 (P := P) (w := w) T D_l_made_ecf7 rd_l_plus_46d9
  have D_l_corners_f045 := ok_l_corners_f045 (P := P) (w := w) T D_l_side_of_cf54 D_l_measure_d993 D_l_whole_43a8 D_l_plus_46d9 rd_l_corners_f045
  have D_l_added_a47b := ok_l_added_a47b (P := P) (w := w) T D_l_plus_46d9 rd_l_added_a47b
  have D_l_shifts_c8b1 := ok_l_shifts_c8b1 (P := P) (w := w) T D_l_measure_d993 D_l_corners_f045 D_l_added_a47b rd_l_shifts_c8b1
  have D_l_side_28b2 := ok_l_side_28b2 (P := P) (w := w) T  rd_l_side_28b2
  have D_l_least_bda1 := ok_l_least_bda1 (P := P) (w := w) T D_l_side_28b2 D_l_plus_46d9 rd_l_least_bda1
  have D_l_times_3146 := ok_l_times_3146 (P := P) (w := w) T D_l_made_ecf7 rd_l_times_3146
  have D_times_by := ok_times_by (P := P) (w := w) T D_root_by rd_times_by
  have D_area_by := ok_area_by (P := P) (w := w) T D_measure_by D_times_by D_root_by D_slit_by rd_area_by
  have D_area := ok_area (P := P) (w := w) T D_check_cutting D_area_by rd_area
  have D_l_outline_area_700f := ok_l_outline_area_700f (P := P) (w := w) T D_l_whole_43a8 D_l_plus_46d9 D_l_times_3146 rd_l_outline_area_700f
  have D_l_joined_ends_68e6 := ok_l_joined_ends_68e6 (P := P) (w := w) T  rd_l_joined_ends_68e6
  have D_l_right_11de := ok_l_right_11de (P := P) (w := w) T D_l_measure_d993 D_l_side_of_cf54 D_square_side D_corners_o D_gluings_o D_l_corners_f045 D_l_shifts_c8b1 D_l_side_28b2 D_l_least_bda1 D_l_whole_43a8 D_l_times_3146 D_l_made_ecf7 D_area D_l_outline_area_700f D_l_joined_ends_68e6 D_l_added_a47b rd_l_right_11de
  have D_l_hash_d8d1 := ok_l_hash_d8d1 (P := P) (w := w) T  rd_l_hash_d8d1
  have D_l_random_7821 := ok_l_random_7821 (P := P) (w := w) T D_l_hash_d8d1 rd_l_random_7821
  have D_l_cutting_bb00 := ok_l_cutting_bb00 (P := P) (w := w) T D_l_random_7821 D_l_common_ec6e rd_l_cutting_bb00
  exact ok_l_law_a011 T D_l_generator_b324 D_l_right_11de D_l_cutting_bb00 D_square_side D_area D_corners_o rd_l_law_a011
end C_k34
namespace C_k34
open PySem PySem.Spec PyProof.Rows L2 DL
theorem all_mk {K : PySem.W.Frag} {h : Heap} {mg : Str → Option Value} (X : K.In h) (G : h.Ns mainGlobals mg)
    (n_abs : PySem.W.nsIn K mainGlobals "abs" = some none)
    (n_bool : PySem.W.nsIn K mainGlobals "bool" = some none)
    (n_int : PySem.W.nsIn K mainGlobals "int" = some none)
    (n_isinstance : PySem.W.nsIn K mainGlobals "isinstance" = some none)
    (n_len : PySem.W.nsIn K mainGlobals "len" = some none)
    (n_list : PySem.W.nsIn K mainGlobals "list" = some none)
    (n_max : PySem.W.nsIn K mainGlobals "max" = some none)
    (n_range : PySem.W.nsIn K mainGlobals "range" = some none)
    (n_repr : PySem.W.nsIn K mainGlobals "repr" = some none)
    (n_set : PySem.W.nsIn K mainGlobals "set" = some none)
    (n_sum : PySem.W.nsIn K mainGlobals "sum" = some none)
    (n_tuple : PySem.W.nsIn K mainGlobals "tuple" = some none)
    (n_zip : PySem.W.nsIn K mainGlobals "zip" = some none)
    {ct_NOUGHT_0 : Tok}
    {ct_NOUGHT_1 : Tok}
    {ct_NOUGHT_2 : Tok}
    {ca_NOUGHT : Addr} {cd_NOUGHT : Option Addr} {cn_NOUGHT : Nat} {cs_NOUGHT : Array (Option Value)} (cl_NOUGHT : K.lookup ca_NOUGHT = some ⟨.type "tuple", cd_NOUGHT, .seq #[.int 0 ct_NOUGHT_0, .int 0 ct_NOUGHT_1, .int 1 ct_NOUGHT_2] cn_NOUGHT, cs_NOUGHT⟩)
    (c_NOUGHT : PySem.W.nsIn K mainGlobals "NOUGHT" = some (some (.ref ca_NOUGHT)))
    {f_l_cell_cf3b : Addr} {oc_l_cell_cf3b kV_l_cell_cf3b dc_l_cell_cf3b pm_l_cell_cf3b cd_l_cell_cf3b ct_l_cell_cf3b : Value} {od_l_cell_cf3b an_l_cell_cf3b : Option Addr} {sl_l_cell_cf3b : Array (Option Value)}
    (a_l_cell_cf3b : PySem.W.nsIn K mainGlobals "_law_cell" = some (some (.ref f_l_cell_cf3b))) (l_l_cell_cf3b : K.lookup f_l_cell_cf3b = some ⟨oc_l_cell_cf3b, od_l_cell_cf3b, .func (PySem.W.fnOf "_law_cell" "_law_cell" (defArgs s_l_cell_cf3b) (defBody s_l_cell_cf3b) (defScope s_l_cell_cf3b) .none kV_l_cell_cf3b dc_l_cell_cf3b pm_l_cell_cf3b an_l_cell_cf3b cd_l_cell_cf3b ct_l_cell_cf3b), sl_l_cell_cf3b⟩) (e_l_cell_cf3b : PySem.W.codeIn K cd_l_cell_cf3b "_law_cell" = true) (k_l_cell_cf3b : PySem.W.keepIn K (.ref f_l_cell_cf3b) = true)
    {f_l_generator_b324 : Addr} {oc_l_generator_b324 kV_l_generator_b324 dc_l_generator_b324 pm_l_generator_b324 cd_l_generator_b324 ct_l_generator_b324 : Value} {od_l_generator_b324 an_l_generator_b324 : Option Addr} {sl_l_generator_b324 : Array (Option Value)}
    (a_l_generator_b324 : PySem.W.nsIn K mainGlobals "_law_generator" = some (some (.ref f_l_generator_b324))) (l_l_generator_b324 : K.lookup f_l_generator_b324 = some ⟨oc_l_generator_b324, od_l_generator_b324, .func (PySem.W.fnOf "_law_generator" "_law_generator" (defArgs s_l_generator_b324) (defBody s_l_generator_b324) (defScope s_l_generator_b324) .none kV_l_generator_b324 dc_l_generator_b324 pm_l_generator_b324 an_l_generator_b324 cd_l_generator_b324 ct_l_generator_b324), sl_l_generator_b324⟩) (e_l_generator_b324 : PySem.W.codeIn K cd_l_generator_b324 "_law_generator" = true) (k_l_generator_b324 : PySem.W.keepIn K (.ref f_l_generator_b324) = true)
    {f_l_measure_d993 : Addr} {oc_l_measure_d993 kV_l_measure_d993 dc_l_measure_d993 pm_l_measure_d993 cd_l_measure_d993 ct_l_measure_d993 : Value} {od_l_measure_d993 an_l_measure_d993 : Option Addr} {sl_l_measure_d993 : Array (Option Value)}
    (a_l_measure_d993 : PySem.W.nsIn K mainGlobals "_law_measure" = some (some (.ref f_l_measure_d993))) (l_l_measure_d993 : K.lookup f_l_measure_d993 = some ⟨oc_l_measure_d993, od_l_measure_d993, .func (PySem.W.fnOf "_law_measure" "_law_measure" (defArgs s_l_measure_d993) (defBody s_l_measure_d993) (defScope s_l_measure_d993) .none kV_l_measure_d993 dc_l_measure_d993 pm_l_measure_d993 an_l_measure_d993 cd_l_measure_d993 ct_l_measure_d993), sl_l_measure_d993⟩) (e_l_measure_d993 : PySem.W.codeIn K cd_l_measure_d993 "_law_measure" = true) (k_l_measure_d993 : PySem.W.keepIn K (.ref f_l_measure_d993) = true)
    {f_l_root_of_fba3 : Addr} {oc_l_root_of_fba3 kV_l_root_of_fba3 dc_l_root_of_fba3 pm_l_root_of_fba3 cd_l_root_of_fba3 ct_l_root_of_fba3 : Value} {od_l_root_of_fba3 an_l_root_of_fba3 : Option Addr} {sl_l_root_of_fba3 : Array (Option Value)}
    (a_l_root_of_fba3 : PySem.W.nsIn K mainGlobals "_law_root_of" = some (some (.ref f_l_root_of_fba3))) (l_l_root_of_fba3 : K.lookup f_l_root_of_fba3 = some ⟨oc_l_root_of_fba3, od_l_root_of_fba3, .func (PySem.W.fnOf "_law_root_of" "_law_root_of" (defArgs s_l_root_of_fba3) (defBody s_l_root_of_fba3) (defScope s_l_root_of_fba3) .none kV_l_root_of_fba3 dc_l_root_of_fba3 pm_l_root_of_fba3 an_l_root_of_fba3 cd_l_root_of_fba3 ct_l_root_of_fba3), sl_l_root_of_fba3⟩) (e_l_root_of_fba3 : PySem.W.codeIn K cd_l_root_of_fba3 "_law_root_of" = true) (k_l_root_of_fba3 : PySem.W.keepIn K (.ref f_l_root_of_fba3) = true)
    {f_l_common_ec6e : Addr} {oc_l_common_ec6e kV_l_common_ec6e dc_l_common_ec6e pm_l_common_ec6e cd_l_common_ec6e ct_l_common_ec6e : Value} {od_l_common_ec6e an_l_common_ec6e : Option Addr} {sl_l_common_ec6e : Array (Option Value)}
    (a_l_common_ec6e : PySem.W.nsIn K mainGlobals "_law_common" = some (some (.ref f_l_common_ec6e))) (l_l_common_ec6e : K.lookup f_l_common_ec6e = some ⟨oc_l_common_ec6e, od_l_common_ec6e, .func (PySem.W.fnOf "_law_common" "_law_common" (defArgs s_l_common_ec6e) (defBody s_l_common_ec6e) (defScope s_l_common_ec6e) .none kV_l_common_ec6e dc_l_common_ec6e pm_l_common_ec6e an_l_common_ec6e cd_l_common_ec6e ct_l_common_ec6e), sl_l_common_ec6e⟩) (e_l_common_ec6e : PySem.W.codeIn K cd_l_common_ec6e "_law_common" = true) (k_l_common_ec6e : PySem.W.keepIn K (.ref f_l_common_ec6e) = true)
    {f_l_made_ecf7 : Addr} {oc_l_made_ecf7 kV_l_made_ecf7 dc_l_made_ecf7 pm_l_made_ecf7 cd_l_made_ecf7 ct_l_made_ecf7 : Value} {od_l_made_ecf7 an_l_made_ecf7 : Option Addr} {sl_l_made_ecf7 : Array (Option Value)}
    (a_l_made_ecf7 : PySem.W.nsIn K mainGlobals "_law_made" = some (some (.ref f_l_made_ecf7))) (l_l_made_ecf7 : K.lookup f_l_made_ecf7 = some ⟨oc_l_made_ecf7, od_l_made_ecf7, .func (PySem.W.fnOf "_law_made" "_law_made" (defArgs s_l_made_ecf7) (defBody s_l_made_ecf7) (defScope s_l_made_ecf7) .none kV_l_made_ecf7 dc_l_made_ecf7 pm_l_made_ecf7 an_l_made_ecf7 cd_l_made_ecf7 ct_l_made_ecf7), sl_l_made_ecf7⟩) (e_l_made_ecf7 : PySem.W.codeIn K cd_l_made_ecf7 "_law_made" = true) (k_l_made_ecf7 : PySem.W.keepIn K (.ref f_l_made_ecf7) = true)
    {f_l_side_of_cf54 : Addr} {oc_l_side_of_cf54 kV_l_side_of_cf54 dc_l_side_of_cf54 pm_l_side_of_cf54 cd_l_side_of_cf54 ct_l_side_of_cf54 : Value} {od_l_side_of_cf54 an_l_side_of_cf54 : Option Addr} {sl_l_side_of_cf54 : Array (Option Value)}
    (a_l_side_of_cf54 : PySem.W.nsIn K mainGlobals "_law_side_of" = some (some (.ref f_l_side_of_cf54))) (l_l_side_of_cf54 : K.lookup f_l_side_of_cf54 = some ⟨oc_l_side_of_cf54, od_l_side_of_cf54, .func (PySem.W.fnOf "_law_side_of" "_law_side_of" (defArgs s_l_side_of_cf54) (defBody s_l_side_of_cf54) (defScope s_l_side_of_cf54) .none kV_l_side_of_cf54 dc_l_side_of_cf54 pm_l_side_of_cf54 an_l_side_of_cf54 cd_l_side_of_cf54 ct_l_side_of_cf54), sl_l_side_of_cf54⟩) (e_l_side_of_cf54 : PySem.W.codeIn K cd_l_side_of_cf54 "_law_side_of" = true) (k_l_side_of_cf54 : PySem.W.keepIn K (.ref f_l_side_of_cf54) = true)
    {f_is_whole : Addr} {oc_is_whole kV_is_whole dc_is_whole pm_is_whole cd_is_whole ct_is_whole : Value} {od_is_whole an_is_whole : Option Addr} {sl_is_whole : Array (Option Value)}
    (a_is_whole : PySem.W.nsIn K mainGlobals "is_whole" = some (some (.ref f_is_whole))) (l_is_whole : K.lookup f_is_whole = some ⟨oc_is_whole, od_is_whole, .func (PySem.W.fnOf "is_whole" "is_whole" (defArgs s_is_whole) (defBody s_is_whole) (defScope s_is_whole) .none kV_is_whole dc_is_whole pm_is_whole an_is_whole cd_is_whole ct_is_whole), sl_is_whole⟩) (e_is_whole : PySem.W.codeIn K cd_is_whole "is_whole" = true) (k_is_whole : PySem.W.keepIn K (.ref f_is_whole) = true)
    {f_common_by : Addr} {oc_common_by kV_common_by dc_common_by pm_common_by cd_common_by ct_common_by : Value} {od_common_by an_common_by : Option Addr} {sl_common_by : Array (Option Value)}
    (a_common_by : PySem.W.nsIn K mainGlobals "common_by" = some (some (.ref f_common_by))) (l_common_by : K.lookup f_common_by = some ⟨oc_common_by, od_common_by, .func (PySem.W.fnOf "common_by" "common_by" (defArgs s_common_by) (defBody s_common_by) (defScope s_common_by) .none kV_common_by dc_common_by pm_common_by an_common_by cd_common_by ct_common_by), sl_common_by⟩) (e_common_by : PySem.W.codeIn K cd_common_by "common_by" = true) (k_common_by : PySem.W.keepIn K (.ref f_common_by) = true)
    {f_is_cutting_by : Addr} {oc_is_cutting_by kV_is_cutting_by dc_is_cutting_by pm_is_cutting_by cd_is_cutting_by ct_is_cutting_by : Value} {od_is_cutting_by an_is_cutting_by : Option Addr} {sl_is_cutting_by : Array (Option Value)}
    (a_is_cutting_by : PySem.W.nsIn K mainGlobals "is_cutting_by" = some (some (.ref f_is_cutting_by))) (l_is_cutting_by : K.lookup f_is_cutting_by = some ⟨oc_is_cutting_by, od_is_cutting_by, .func (PySem.W.fnOf "is_cutting_by" "is_cutting_by" (defArgs s_is_cutting_by) (defBody s_is_cutting_by) (defScope s_is_cutting_by) .none kV_is_cutting_by dc_is_cutting_by pm_is_cutting_by an_is_cutting_by cd_is_cutting_by ct_is_cutting_by), sl_is_cutting_by⟩) (e_is_cutting_by : PySem.W.codeIn K cd_is_cutting_by "is_cutting_by" = true) (k_is_cutting_by : PySem.W.keepIn K (.ref f_is_cutting_by) = true)
    {f_check_cutting : Addr} {oc_check_cutting kV_check_cutting dc_check_cutting pm_check_cutting cd_check_cutting ct_check_cutting : Value} {od_check_cutting an_check_cutting : Option Addr} {sl_check_cutting : Array (Option Value)}
    (a_check_cutting : PySem.W.nsIn K mainGlobals "check_cutting" = some (some (.ref f_check_cutting))) (l_check_cutting : K.lookup f_check_cutting = some ⟨oc_check_cutting, od_check_cutting, .func (PySem.W.fnOf "check_cutting" "check_cutting" (defArgs s_check_cutting) (defBody s_check_cutting) (defScope s_check_cutting) .none kV_check_cutting dc_check_cutting pm_check_cutting an_check_cutting cd_check_cutting ct_check_cutting), sl_check_cutting⟩) (e_check_cutting : PySem.W.codeIn K cd_check_cutting "check_cutting" = true) (k_check_cutting : PySem.W.keepIn K (.ref f_check_cutting) = true)
    {f_root_floor_by : Addr} {oc_root_floor_by kV_root_floor_by dc_root_floor_by pm_root_floor_by cd_root_floor_by ct_root_floor_by : Value} {od_root_floor_by an_root_floor_by : Option Addr} {sl_root_floor_by : Array (Option Value)}
    (a_root_floor_by : PySem.W.nsIn K mainGlobals "root_floor_by" = some (some (.ref f_root_floor_by))) (l_root_floor_by : K.lookup f_root_floor_by = some ⟨oc_root_floor_by, od_root_floor_by, .func (PySem.W.fnOf "root_floor_by" "root_floor_by" (defArgs s_root_floor_by) (defBody s_root_floor_by) (defScope s_root_floor_by) .none kV_root_floor_by dc_root_floor_by pm_root_floor_by an_root_floor_by cd_root_floor_by ct_root_floor_by), sl_root_floor_by⟩) (e_root_floor_by : PySem.W.codeIn K cd_root_floor_by "root_floor_by" = true) (k_root_floor_by : PySem.W.keepIn K (.ref f_root_floor_by) = true)
    {f_root_by : Addr} {oc_root_by kV_root_by dc_root_by pm_root_by cd_root_by ct_root_by : Value} {od_root_by an_root_by : Option Addr} {sl_root_by : Array (Option Value)}
    (a_root_by : PySem.W.nsIn K mainGlobals "root_by" = some (some (.ref f_root_by))) (l_root_by : K.lookup f_root_by = some ⟨oc_root_by, od_root_by, .func (PySem.W.fnOf "root_by" "root_by" (defArgs s_root_by) (defBody s_root_by) (defScope s_root_by) .none kV_root_by dc_root_by pm_root_by an_root_by cd_root_by ct_root_by), sl_root_by⟩) (e_root_by : PySem.W.codeIn K cd_root_by "root_by" = true) (k_root_by : PySem.W.keepIn K (.ref f_root_by) = true)
    {f_measure_by : Addr} {oc_measure_by kV_measure_by dc_measure_by pm_measure_by cd_measure_by ct_measure_by : Value} {od_measure_by an_measure_by : Option Addr} {sl_measure_by : Array (Option Value)}
    (a_measure_by : PySem.W.nsIn K mainGlobals "measure_by" = some (some (.ref f_measure_by))) (l_measure_by : K.lookup f_measure_by = some ⟨oc_measure_by, od_measure_by, .func (PySem.W.fnOf "measure_by" "measure_by" (defArgs s_measure_by) (defBody s_measure_by) (defScope s_measure_by) .none kV_measure_by dc_measure_by pm_measure_by an_measure_by cd_measure_by ct_measure_by), sl_measure_by⟩) (e_measure_by : PySem.W.codeIn K cd_measure_by "measure_by" = true) (k_measure_by : PySem.W.keepIn K (.ref f_measure_by) = true)
    {f_slit_by : Addr} {oc_slit_by kV_slit_by dc_slit_by pm_slit_by cd_slit_by ct_slit_by : Value} {od_slit_by an_slit_by : Option Addr} {sl_slit_by : Array (Option Value)}
    (a_slit_by : PySem.W.nsIn K mainGlobals "slit_by" = some (some (.ref f_slit_by))) (l_slit_by : K.lookup f_slit_by = some ⟨oc_slit_by, od_slit_by, .func (PySem.W.fnOf "slit_by" "slit_by" (defArgs s_slit_by) (defBody s_slit_by) (defScope s_slit_by) .none kV_slit_by dc_slit_by pm_slit_by an_slit_by cd_slit_by ct_slit_by), sl_slit_by⟩) (e_slit_by : PySem.W.codeIn K cd_slit_by "slit_by" = true) (k_slit_by : PySem.W.keepIn K (.ref f_slit_by) = true)
    {f_square_side : Addr} {oc_square_side kV_square_side dc_square_side pm_square_side cd_square_side ct_square_side : Value} {od_square_side an_square_side : Option Addr} {sl_square_side : Array (Option Value)}
    (a_square_side : PySem.W.nsIn K mainGlobals "square_side" = some (some (.ref f_square_side))) (l_square_side : K.lookup f_square_side = some ⟨oc_square_side, od_square_side, .func (PySem.W.fnOf "square_side" "square_side" (defArgs s_square_side) (defBody s_square_side) (defScope s_square_side) .none kV_square_side dc_square_side pm_square_side an_square_side cd_square_side ct_square_side), sl_square_side⟩) (e_square_side : PySem.W.codeIn K cd_square_side "square_side" = true) (k_square_side : PySem.W.keepIn K (.ref f_square_side) = true)
    {f_plus_by : Addr} {oc_plus_by kV_plus_by dc_plus_by pm_plus_by cd_plus_by ct_plus_by : Value} {od_plus_by an_plus_by : Option Addr} {sl_plus_by : Array (Option Value)}
    (a_plus_by : PySem.W.nsIn K mainGlobals "plus_by" = some (some (.ref f_plus_by))) (l_plus_by : K.lookup f_plus_by = some ⟨oc_plus_by, od_plus_by, .func (PySem.W.fnOf "plus_by" "plus_by" (defArgs s_plus_by) (defBody s_plus_by) (defScope s_plus_by) .none kV_plus_by dc_plus_by pm_plus_by an_plus_by cd_plus_by ct_plus_by), sl_plus_by⟩) (e_plus_by : PySem.W.codeIn K cd_plus_by "plus_by" = true) (k_plus_by : PySem.W.keepIn K (.ref f_plus_by) = true)
    {f_corners_by_o : Addr} {oc_corners_by_o kV_corners_by_o dc_corners_by_o pm_corners_by_o cd_corners_by_o ct_corners_by_o : Value} {od_corners_by_o an_corners_by_o : Option Addr} {sl_corners_by_o : Array (Option Value)}
    (a_corners_by_o : PySem.W.nsIn K mainGlobals "corners_by" = some (some (.ref f_corners_by_o))) (l_corners_by_o : K.lookup f_corners_by_o = some ⟨oc_corners_by_o, od_corners_by_o, .func (PySem.W.fnOf "corners_by" "corners_by" (defArgs s_corners_by_o) (defBody s_corners_by_o) (defScope s_corners_by_o) .none kV_corners_by_o dc_corners_by_o pm_corners_by_o an_corners_by_o cd_corners_by_o ct_corners_by_o), sl_corners_by_o⟩) (e_corners_by_o : PySem.W.codeIn K cd_corners_by_o "corners_by" = true) (k_corners_by_o : PySem.W.keepIn K (.ref f_corners_by_o) = true)
    {f_corners_o : Addr} {oc_corners_o kV_corners_o dc_corners_o pm_corners_o cd_corners_o ct_corners_o : Value} {od_corners_o an_corners_o : Option Addr} {sl_corners_o : Array (Option Value)}
    (a_corners_o : PySem.W.nsIn K mainGlobals "corners" = some (some (.ref f_corners_o))) (l_corners_o : K.lookup f_corners_o = some ⟨oc_corners_o, od_corners_o, .func (PySem.W.fnOf "corners" "corners" (defArgs s_corners_o) (defBody s_corners_o) (defScope s_corners_o) .none kV_corners_o dc_corners_o pm_corners_o an_corners_o cd_corners_o ct_corners_o), sl_corners_o⟩) (e_corners_o : PySem.W.codeIn K cd_corners_o "corners" = true) (k_corners_o : PySem.W.keepIn K (.ref f_corners_o) = true)
    {f_minus_by : Addr} {oc_minus_by kV_minus_by dc_minus_by pm_minus_by cd_minus_by ct_minus_by : Value} {od_minus_by an_minus_by : Option Addr} {sl_minus_by : Array (Option Value)}
    (a_minus_by : PySem.W.nsIn K mainGlobals "minus_by" = some (some (.ref f_minus_by))) (l_minus_by : K.lookup f_minus_by = some ⟨oc_minus_by, od_minus_by, .func (PySem.W.fnOf "minus_by" "minus_by" (defArgs s_minus_by) (defBody s_minus_by) (defScope s_minus_by) .none kV_minus_by dc_minus_by pm_minus_by an_minus_by cd_minus_by ct_minus_by), sl_minus_by⟩) (e_minus_by : PySem.W.codeIn K cd_minus_by "minus_by" = true) (k_minus_by : PySem.W.keepIn K (.ref f_minus_by) = true)
    {f_gluings_o : Addr} {oc_gluings_o kV_gluings_o dc_gluings_o pm_gluings_o cd_gluings_o ct_gluings_o : Value} {od_gluings_o an_gluings_o : Option Addr} {sl_gluings_o : Array (Option Value)}
    (a_gluings_o : PySem.W.nsIn K mainGlobals "gluings" = some (some (.ref f_gluings_o))) (l_gluings_o : K.lookup f_gluings_o = some ⟨oc_gluings_o, od_gluings_o, .func (PySem.W.fnOf "gluings" "gluings" (defArgs s_gluings_o) (defBody s_gluings_o) (defScope s_gluings_o) .none kV_gluings_o dc_gluings_o pm_gluings_o an_gluings_o cd_gluings_o ct_gluings_o), sl_gluings_o⟩) (e_gluings_o : PySem.W.codeIn K cd_gluings_o "gluings" = true) (k_gluings_o : PySem.W.keepIn K (.ref f_gluings_o) = true)
    {f_l_whole_43a8 : Addr} {oc_l_whole_43a8 kV_l_whole_43a8 dc_l_whole_43a8 pm_l_whole_43a8 cd_l_whole_43a8 ct_l_whole_43a8 : Value} {od_l_whole_43a8 an_l_whole_43a8 : Option Addr} {sl_l_whole_43a8 : Array (Option Value)}
    (a_l_whole_43a8 : PySem.W.nsIn K mainGlobals "_law_whole" = some (some (.ref f_l_whole_43a8))) (l_l_whole_43a8 : K.lookup f_l_whole_43a8 = some ⟨oc_l_whole_43a8, od_l_whole_43a8, .func (PySem.W.fnOf "_law_whole" "_law_whole" (defArgs s_l_whole_43a8) (defBody s_l_whole_43a8) (defScope s_l_whole_43a8) .none kV_l_whole_43a8 dc_l_whole_43a8 pm_l_whole_43a8 an_l_whole_43a8 cd_l_whole_43a8 ct_l_whole_43a8), sl_l_whole_43a8⟩) (e_l_whole_43a8 : PySem.W.codeIn K cd_l_whole_43a8 "_law_whole" = true) (k_l_whole_43a8 : PySem.W.keepIn K (.ref f_l_whole_43a8) = true)
    {f_l_plus_46d9 : Addr} {oc_l_plus_46d9 kV_l_plus_46d9 dc_l_plus_46d9 pm_l_plus_46d9 cd_l_plus_46d9 ct_l_plus_46d9 : Value} {od_l_plus_46d9 an_l_plus_46d9 : Option Addr} {sl_l_plus_46d9 : Array (Option Value)}
    (a_l_plus_46d9 : PySem.W.nsIn K mainGlobals "_law_plus" = some (some (.ref f_l_plus_46d9))) (l_l_plus_46d9 : K.lookup f_l_plus_46d9 = some ⟨oc_l_plus_46d9, od_l_plus_46d9, .func (PySem.W.fnOf "_law_plus" "_law_plus" (defArgs s_l_plus_46d9) (defBody s_l_plus_46d9) (defScope s_l_plus_46d9) .none kV_l_plus_46d9 dc_l_plus_46d9 pm_l_plus_46d9 an_l_plus_46d9 cd_l_plus_46d9 ct_l_plus_46d9), sl_l_plus_46d9⟩) (e_l_plus_46d9 : PySem.W.codeIn K cd_l_plus_46d9 "_law_plus" = true) (k_l_plus_46d9 : PySem.W.keepIn K (.ref f_l_plus_46d9) = true)
    {f_l_corners_f045 : Addr} {oc_l_corners_f045 kV_l_corners_f045 dc_l_corners_f045 pm_l_corners_f045 cd_l_corners_f045 ct_l_corners_f045 : Value} {od_l_corners_f045 an_l_corners_f045 : Option Addr} {sl_l_corners_f045 : Array (Option Value)}
    (a_l_corners_f045 : PySem.W.nsIn K mainGlobals "_law_corners" = some (some (.ref f_l_corners_f045))) (l_l_corners_f045 : K.lookup f_l_corners_f045 = some ⟨oc_l_corners_f045, od_l_corners_f045, .func (PySem.W.fnOf "_law_corners" "_law_corners" (defArgs s_l_corners_f045) (defBody s_l_corners_f045) (defScope s_l_corners_f045) .none kV_l_corners_f045 dc_l_corners_f045 pm_l_corners_f045 an_l_corners_f045 cd_l_corners_f045 ct_l_corners_f045), sl_l_corners_f045⟩) (e_l_corners_f045 : PySem.W.codeIn K cd_l_corners_f045 "_law_corners" = true) (k_l_corners_f045 : PySem.W.keepIn K (.ref f_l_corners_f045) = true)
    {f_l_added_a47b : Addr} {oc_l_added_a47b kV_l_added_a47b dc_l_added_a47b pm_l_added_a47b cd_l_added_a47b ct_l_added_a47b : Value} {od_l_added_a47b an_l_added_a47b : Option Addr} {sl_l_added_a47b : Array (Option Value)}
    (a_l_added_a47b : PySem.W.nsIn K mainGlobals "_law_added" = some (some (.ref f_l_added_a47b))) (l_l_added_a47b : K.lookup f_l_added_a47b = some ⟨oc_l_added_a47b, od_l_added_a47b, .func (PySem.W.fnOf "_law_added" "_law_added" (defArgs s_l_added_a47b) (defBody s_l_added_a47b) (defScope s_l_added_a47b) .none kV_l_added_a47b dc_l_added_a47b pm_l_added_a47b an_l_added_a47b cd_l_added_a47b ct_l_added_a47b), sl_l_added_a47b⟩) (e_l_added_a47b : PySem.W.codeIn K cd_l_added_a47b "_law_added" = true) (k_l_added_a47b : PySem.W.keepIn K (.ref f_l_added_a47b) = true)
    {f_l_shifts_c8b1 : Addr} {oc_l_shifts_c8b1 kV_l_shifts_c8b1 dc_l_shifts_c8b1 pm_l_shifts_c8b1 cd_l_shifts_c8b1 ct_l_shifts_c8b1 : Value} {od_l_shifts_c8b1 an_l_shifts_c8b1 : Option Addr} {sl_l_shifts_c8b1 : Array (Option Value)}
    (a_l_shifts_c8b1 : PySem.W.nsIn K mainGlobals "_law_shifts" = some (some (.ref f_l_shifts_c8b1))) (l_l_shifts_c8b1 : K.lookup f_l_shifts_c8b1 = some ⟨oc_l_shifts_c8b1, od_l_shifts_c8b1, .func (PySem.W.fnOf "_law_shifts" "_law_shifts" (defArgs s_l_shifts_c8b1) (defBody s_l_shifts_c8b1) (defScope s_l_shifts_c8b1) .none kV_l_shifts_c8b1 dc_l_shifts_c8b1 pm_l_shifts_c8b1 an_l_shifts_c8b1 cd_l_shifts_c8b1 ct_l_shifts_c8b1), sl_l_shifts_c8b1⟩) (e_l_shifts_c8b1 : PySem.W.codeIn K cd_l_shifts_c8b1 "_law_shifts" = true) (k_l_shifts_c8b1 : PySem.W.keepIn K (.ref f_l_shifts_c8b1) = true)
    {f_l_side_28b2 : Addr} {oc_l_side_28b2 kV_l_side_28b2 dc_l_side_28b2 pm_l_side_28b2 cd_l_side_28b2 ct_l_side_28b2 : Value} {od_l_side_28b2 an_l_side_28b2 : Option Addr} {sl_l_side_28b2 : Array (Option Value)}
    (a_l_side_28b2 : PySem.W.nsIn K mainGlobals "_law_side" = some (some (.ref f_l_side_28b2))) (l_l_side_28b2 : K.lookup f_l_side_28b2 = some ⟨oc_l_side_28b2, od_l_side_28b2, .func (PySem.W.fnOf "_law_side" "_law_side" (defArgs s_l_side_28b2) (defBody s_l_side_28b2) (defScope s_l_side_28b2) .none kV_l_side_28b2 dc_l_side_28b2 pm_l_side_28b2 an_l_side_28b2 cd_l_side_28b2 ct_l_side_28b2), sl_l_side_28b2⟩) (e_l_side_28b2 : PySem.W.codeIn K cd_l_side_28b2 "_law_side" = true) (k_l_side_28b2 : PySem.W.keepIn K (.ref f_l_side_28b2) = true)
    {f_l_least_bda1 : Addr} {oc_l_least_bda1 kV_l_least_bda1 dc_l_least_bda1 pm_l_least_bda1 cd_l_least_bda1 ct_l_least_bda1 : Value} {od_l_least_bda1 an_l_least_bda1 : Option Addr} {sl_l_least_bda1 : Array (Option Value)}
    (a_l_least_bda1 : PySem.W.nsIn K mainGlobals "_law_least" = some (some (.ref f_l_least_bda1))) (l_l_least_bda1 : K.lookup f_l_least_bda1 = some ⟨oc_l_least_bda1, od_l_least_bda1, .func (PySem.W.fnOf "_law_least" "_law_least" (defArgs s_l_least_bda1) (defBody s_l_least_bda1) (defScope s_l_least_bda1) .none kV_l_least_bda1 dc_l_least_bda1 pm_l_least_bda1 an_l_least_bda1 cd_l_least_bda1 ct_l_least_bda1), sl_l_least_bda1⟩) (e_l_least_bda1 : PySem.W.codeIn K cd_l_least_bda1 "_law_least" = true) (k_l_least_bda1 : PySem.W.keepIn K (.ref f_l_least_bda1) = true)
    {f_l_times_3146 : Addr} {oc_l_times_3146 kV_l_times_3146 dc_l_times_3146 pm_l_times_3146 cd_l_times_3146 ct_l_times_3146 : Value} {od_l_times_3146 an_l_times_3146 : Option Addr} {sl_l_times_3146 : Array (Option Value)}
    (a_l_times_3146 : PySem.W.nsIn K mainGlobals "_law_times" = some (some (.ref f_l_times_3146))) (l_l_times_3146 : K.lookup f_l_times_3146 = some ⟨oc_l_times_3146, od_l_times_3146, .func (PySem.W.fnOf "_law_times" "_law_times" (defArgs s_l_times_3146) (defBody s_l_times_3146) (defScope s_l_times_3146) .none kV_l_times_3146 dc_l_times_3146 pm_l_times_3146 an_l_times_3146 cd_l_times_3146 ct_l_times_3146), sl_l_times_3146⟩) (e_l_times_3146 : PySem.W.codeIn K cd_l_times_3146 "_law_times" = true) (k_l_times_3146 : PySem.W.keepIn K (.ref f_l_times_3146) = true)
    {f_times_by : Addr} {oc_times_by kV_times_by dc_times_by pm_times_by cd_times_by ct_times_by : Value} {od_times_by an_times_by : Option Addr} {sl_times_by : Array (Option Value)}
    (a_times_by : PySem.W.nsIn K mainGlobals "times_by" = some (some (.ref f_times_by))) (l_times_by : K.lookup f_times_by = some ⟨oc_times_by, od_times_by, .func (PySem.W.fnOf "times_by" "times_by" (defArgs s_times_by) (defBody s_times_by) (defScope s_times_by) .none kV_times_by dc_times_by pm_times_by an_times_by cd_times_by ct_times_by), sl_times_by⟩) (e_times_by : PySem.W.codeIn K cd_times_by "times_by" = true) (k_times_by : PySem.W.keepIn K (.ref f_times_by) = true)
    {f_area_by : Addr} {oc_area_by kV_area_by dc_area_by pm_area_by cd_area_by ct_area_by : Value} {od_area_by an_area_by : Option Addr} {sl_area_by : Array (Option Value)}
    (a_area_by : PySem.W.nsIn K mainGlobals "area_by" = some (some (.ref f_area_by))) (l_area_by : K.lookup f_area_by = some ⟨oc_area_by, od_area_by, .func (PySem.W.fnOf "area_by" "area_by" (defArgs s_area_by) (defBody s_area_by) (defScope s_area_by) .none kV_area_by dc_area_by pm_area_by an_area_by cd_area_by ct_area_by), sl_area_by⟩) (e_area_by : PySem.W.codeIn K cd_area_by "area_by" = true) (k_area_by : PySem.W.keepIn K (.ref f_area_by) = true)
    {f_area : Addr} {oc_area kV_area dc_area pm_area cd_area ct_area : Value} {od_area an_area : Option Addr} {sl_area : Array (Option Value)}
    (a_area : PySem.W.nsIn K mainGlobals "area" = some (some (.ref f_area))) (l_area : K.lookup f_area = some ⟨oc_area, od_area, .func (PySem.W.fnOf "area" "area" (defArgs s_area) (defBody s_area) (defScope s_area) .none kV_area dc_area pm_area an_area cd_area ct_area), sl_area⟩) (e_area : PySem.W.codeIn K cd_area "area" = true) (k_area : PySem.W.keepIn K (.ref f_area) = true)
    {f_l_outline_area_700f : Addr} {oc_l_outline_area_700f kV_l_outline_area_700f dc_l_outline_area_700f pm_l_outline_area_700f cd_l_outline_area_700f ct_l_outline_area_700f : Value} {od_l_outline_area_700f an_l_outline_area_700f : Option Addr} {sl_l_outline_area_700f : Array (Option Value)}
    (a_l_outline_area_700f : PySem.W.nsIn K mainGlobals "_law_outline_area" = some (some (.ref f_l_outline_area_700f))) (l_l_outline_area_700f : K.lookup f_l_outline_area_700f = some ⟨oc_l_outline_area_700f, od_l_outline_area_700f, .func (PySem.W.fnOf "_law_outline_area" "_law_outline_area" (defArgs s_l_outline_area_700f) (defBody s_l_outline_area_700f) (defScope s_l_outline_area_700f) .none kV_l_outline_area_700f dc_l_outline_area_700f pm_l_outline_area_700f an_l_outline_area_700f cd_l_outline_area_700f ct_l_outline_area_700f), sl_l_outline_area_700f⟩) (e_l_outline_area_700f : PySem.W.codeIn K cd_l_outline_area_700f "_law_outline_area" = true) (k_l_outline_area_700f : PySem.W.keepIn K (.ref f_l_outline_area_700f) = true)
    {f_l_joined_ends_68e6 : Addr} {oc_l_joined_ends_68e6 kV_l_joined_ends_68e6 dc_l_joined_ends_68e6 pm_l_joined_ends_68e6 cd_l_joined_ends_68e6 ct_l_joined_ends_68e6 : Value} {od_l_joined_ends_68e6 an_l_joined_ends_68e6 : Option Addr} {sl_l_joined_ends_68e6 : Array (Option Value)}
    (a_l_joined_ends_68e6 : PySem.W.nsIn K mainGlobals "_law_joined_ends" = some (some (.ref f_l_joined_ends_68e6))) (l_l_joined_ends_68e6 : K.lookup f_l_joined_ends_68e6 = some ⟨oc_l_joined_ends_68e6, od_l_joined_ends_68e6, .func (PySem.W.fnOf "_law_joined_ends" "_law_joined_ends" (defArgs s_l_joined_ends_68e6) (defBody s_l_joined_ends_68e6) (defScope s_l_joined_ends_68e6) .none kV_l_joined_ends_68e6 dc_l_joined_ends_68e6 pm_l_joined_ends_68e6 an_l_joined_ends_68e6 cd_l_joined_ends_68e6 ct_l_joined_ends_68e6), sl_l_joined_ends_68e6⟩) (e_l_joined_ends_68e6 : PySem.W.codeIn K cd_l_joined_ends_68e6 "_law_joined_ends" = true) (k_l_joined_ends_68e6 : PySem.W.keepIn K (.ref f_l_joined_ends_68e6) = true)
    {f_l_right_11de : Addr} {oc_l_right_11de kV_l_right_11de dc_l_right_11de pm_l_right_11de cd_l_right_11de ct_l_right_11de : Value} {od_l_right_11de an_l_right_11de : Option Addr} {sl_l_right_11de : Array (Option Value)}
    (a_l_right_11de : PySem.W.nsIn K mainGlobals "_law_right" = some (some (.ref f_l_right_11de))) (l_l_right_11de : K.lookup f_l_right_11de = some ⟨oc_l_right_11de, od_l_right_11de, .func (PySem.W.fnOf "_law_right" "_law_right" (defArgs s_l_right_11de) (defBody s_l_right_11de) (defScope s_l_right_11de) .none kV_l_right_11de dc_l_right_11de pm_l_right_11de an_l_right_11de cd_l_right_11de ct_l_right_11de), sl_l_right_11de⟩) (e_l_right_11de : PySem.W.codeIn K cd_l_right_11de "_law_right" = true) (k_l_right_11de : PySem.W.keepIn K (.ref f_l_right_11de) = true)
    {f_l_hash_d8d1 : Addr} {oc_l_hash_d8d1 kV_l_hash_d8d1 dc_l_hash_d8d1 pm_l_hash_d8d1 cd_l_hash_d8d1 ct_l_hash_d8d1 : Value} {od_l_hash_d8d1 an_l_hash_d8d1 : Option Addr} {sl_l_hash_d8d1 : Array (Option Value)}
    (a_l_hash_d8d1 : PySem.W.nsIn K mainGlobals "_law_hash" = some (some (.ref f_l_hash_d8d1))) (l_l_hash_d8d1 : K.lookup f_l_hash_d8d1 = some ⟨oc_l_hash_d8d1, od_l_hash_d8d1, .func (PySem.W.fnOf "_law_hash" "_law_hash" (defArgs s_l_hash_d8d1) (defBody s_l_hash_d8d1) (defScope s_l_hash_d8d1) .none kV_l_hash_d8d1 dc_l_hash_d8d1 pm_l_hash_d8d1 an_l_hash_d8d1 cd_l_hash_d8d1 ct_l_hash_d8d1), sl_l_hash_d8d1⟩) (e_l_hash_d8d1 : PySem.W.codeIn K cd_l_hash_d8d1 "_law_hash" = true) (k_l_hash_d8d1 : PySem.W.keepIn K (.ref f_l_hash_d8d1) = true)
    {f_l_random_7821 : Addr} {oc_l_random_7821 kV_l_random_7821 dc_l_random_7821 pm_l_random_7821 cd_l_random_7821 ct_l_random_7821 : Value} {od_l_random_7821 an_l_random_7821 : Option Addr} {sl_l_random_7821 : Array (Option Value)}
    (a_l_random_7821 : PySem.W.nsIn K mainGlobals "_law_random" = some (some (.ref f_l_random_7821))) (l_l_random_7821 : K.lookup f_l_random_7821 = some ⟨oc_l_random_7821, od_l_random_7821, .func (PySem.W.fnOf "_law_random" "_law_random" (defArgs s_l_random_7821) (defBody s_l_random_7821) (defScope s_l_random_7821) .none kV_l_random_7821 dc_l_random_7821 pm_l_random_7821 an_l_random_7821 cd_l_random_7821 ct_l_random_7821), sl_l_random_7821⟩) (e_l_random_7821 : PySem.W.codeIn K cd_l_random_7821 "_law_random" = true) (k_l_random_7821 : PySem.W.keepIn K (.ref f_l_random_7821) = true)
    {f_l_cutting_bb00 : Addr} {oc_l_cutting_bb00 kV_l_cutting_bb00 dc_l_cutting_bb00 pm_l_cutting_bb00 cd_l_cutting_bb00 ct_l_cutting_bb00 : Value} {od_l_cutting_bb00 an_l_cutting_bb00 : Option Addr} {sl_l_cutting_bb00 : Array (Option Value)}
    (a_l_cutting_bb00 : PySem.W.nsIn K mainGlobals "_law_cutting" = some (some (.ref f_l_cutting_bb00))) (l_l_cutting_bb00 : K.lookup f_l_cutting_bb00 = some ⟨oc_l_cutting_bb00, od_l_cutting_bb00, .func (PySem.W.fnOf "_law_cutting" "_law_cutting" (defArgs s_l_cutting_bb00) (defBody s_l_cutting_bb00) (defScope s_l_cutting_bb00) .none kV_l_cutting_bb00 dc_l_cutting_bb00 pm_l_cutting_bb00 an_l_cutting_bb00 cd_l_cutting_bb00 ct_l_cutting_bb00), sl_l_cutting_bb00⟩) (e_l_cutting_bb00 : PySem.W.codeIn K cd_l_cutting_bb00 "_law_cutting" = true) (k_l_cutting_bb00 : PySem.W.keepIn K (.ref f_l_cutting_bb00) = true)
    {f_l_law_a011 : Addr} {oc_l_law_a011 kV_l_law_a011 dc_l_law_a011 pm_l_law_a011 cd_l_law_a011 ct_l_law_a011 : Value} {od_l_law_a011 an_l_law_a011 : Option Addr} {sl_l_law_a011 : Array (Option Value)}
    (a_l_law_a011 : PySem.W.nsIn K mainGlobals "law" = some (some (.ref f_l_law_a011))) (l_l_law_a011 : K.lookup f_l_law_a011 = some ⟨oc_l_law_a011, od_l_law_a011, .func (PySem.W.fnOf "law" "law" (defArgs s_l_law_a011) (defBody s_l_law_a011) (defScope s_l_law_a011) .none kV_l_law_a011 dc_l_law_a011 pm_l_law_a011 an_l_law_a011 cd_l_law_a011 ct_l_law_a011), sl_l_law_a011⟩) (e_l_law_a011 : PySem.W.codeIn K cd_l_law_a011 "law" = true) (k_l_law_a011 : PySem.W.keepIn K (.ref f_l_law_a011) = true)
    (base : Heap) (Xb : K.In base) : Txt K mg base where
  n_abs := PySem.W.mg_none_of X G n_abs
  n_bool := PySem.W.mg_none_of X G n_bool
  n_int := PySem.W.mg_none_of X G n_int
  n_isinstance := PySem.W.mg_none_of X G n_isinstance
  n_len := PySem.W.mg_none_of X G n_len
  n_list := PySem.W.mg_none_of X G n_list
  n_max := PySem.W.mg_none_of X G n_max
  n_range := PySem.W.mg_none_of X G n_range
  n_repr := PySem.W.mg_none_of X G n_repr
  n_set := PySem.W.mg_none_of X G n_set
  n_sum := PySem.W.mg_none_of X G n_sum
  n_tuple := PySem.W.mg_none_of X G n_tuple
  n_zip := PySem.W.mg_none_of X G n_zip
  c_NOUGHT := ⟨_, PySem.W.mg_of X G c_NOUGHT, .tup cl_NOUGHT (.cons .int (.cons .int (.cons .int (.nil)))) (Nat.le_of_ble_eq_true rfl)⟩
  h_l_cell_cf3b := here_of (st := s_l_cell_cf3b) X G a_l_cell_cf3b l_l_cell_cf3b e_l_cell_cf3b k_l_cell_cf3b fun _ _ _ _ _ _ us hl => match us, hl with | [_, _], _ => rfl
  h_l_generator_b324 := here_of (st := s_l_generator_b324) X G a_l_generator_b324 l_l_generator_b324 e_l_generator_b324 k_l_generator_b324 fun _ _ _ _ _ _ us hl => match us, hl with | [_, _], _ => rfl
  h_l_measure_d993 := here_of (st := s_l_measure_d993) X G a_l_measure_d993 l_l_measure_d993 e_l_measure_d993 k_l_measure_d993 fun _ _ _ _ _ _ us hl => match us, hl with | [_], _ => rfl
  h_l_root_of_fba3 := here_of (st := s_l_root_of_fba3) X G a_l_root_of_fba3 l_l_root_of_fba3 e_l_root_of_fba3 k_l_root_of_fba3 fun _ _ _ _ _ _ us hl => match us, hl with | [_], _ => rfl
  h_l_common_ec6e := here_of (st := s_l_common_ec6e) X G a_l_common_ec6e l_l_common_ec6e e_l_common_ec6e k_l_common_ec6e fun _ _ _ _ _ _ us hl => match us, hl with | [_, _], _ => rfl
  h_l_made_ecf7 := here_of (st := s_l_made_ecf7) X G a_l_made_ecf7 l_l_made_ecf7 e_l_made_ecf7 k_l_made_ecf7 fun _ _ _ _ _ _ us hl => match us, hl with | [_, _, _, _], _ => rfl
  h_l_side_of_cf54 := here_of (st := s_l_side_of_cf54) X G a_l_side_of_cf54 l_l_side_of_cf54 e_l_side_of_cf54 k_l_side_of_cf54 fun _ _ _ _ _ _ us hl => match us, hl with | [_], _ => rfl
  h_is_whole := here_of (st := s_is_whole) X G a_is_whole l_is_whole e_is_whole k_is_whole fun _ _ _ _ _ _ us hl => match us, hl with | [_], _ => rfl
  h_common_by := here_of (st := s_common_by) X G a_common_by l_common_by e_common_by k_common_by fun _ _ _ _ _ _ us hl => match us, hl with | [_, _], _ => rfl
  h_is_cutting_by := here_of (st := s_is_cutting_by) X G a_is_cutting_by l_is_cutting_by e_is_cutting_by k_is_cutting_by fun _ _ _ _ _ _ us hl => match us, hl with | [_], _ => rfl
  h_check_cutting := here_of (st := s_check_cutting) X G a_check_cutting l_check_cutting e_check_cutting k_check_cutting fun _ _ _ _ _ _ us hl => match us, hl with | [_], _ => rfl
  h_root_floor_by := here_of (st := s_root_floor_by) X G a_root_floor_by l_root_floor_by e_root_floor_by k_root_floor_by fun _ _ _ _ _ _ us hl => match us, hl with | [_], _ => rfl
  h_root_by := here_of (st := s_root_by) X G a_root_by l_root_by e_root_by k_root_by fun _ _ _ _ _ _ us hl => match us, hl with | [_, _, _, _], _ => rfl
  h_measure_by := here_of (st := s_measure_by) X G a_measure_by l_measure_by e_measure_by k_measure_by fun _ _ _ _ _ _ us hl => match us, hl with | [_], _ => rfl
  h_slit_by := here_of (st := s_slit_by) X G a_slit_by l_slit_by e_slit_by k_slit_by fun _ _ _ _ _ _ us hl => match us, hl with | [_], _ => rfl
  h_square_side := here_of (st := s_square_side) X G a_square_side l_square_side e_square_side k_square_side fun _ _ _ _ _ _ us hl => match us, hl with | [_], _ => rfl
  h_plus_by := here_of (st := s_plus_by) X G a_plus_by l_plus_by e_plus_by k_plus_by fun _ _ _ _ _ _ us hl => match us, hl with | [_, _, _], _ => rfl
  h_corners_by_o := here_of (st := s_corners_by_o) X G a_corners_by_o l_corners_by_o e_corners_by_o k_corners_by_o fun _ _ _ _ _ _ us hl => match us, hl with | [_], _ => rfl
  h_corners_o := here_of (st := s_corners_o) X G a_corners_o l_corners_o e_corners_o k_corners_o fun _ _ _ _ _ _ us hl => match us, hl with | [_], _ => rfl
  h_minus_by := here_of (st := s_minus_by) X G a_minus_by l_minus_by e_minus_by k_minus_by fun _ _ _ _ _ _ us hl => match us, hl with | [_, _, _], _ => rfl
  h_gluings_o := here_of (st := s_gluings_o) X G a_gluings_o l_gluings_o e_gluings_o k_gluings_o fun _ _ _ _ _ _ us hl => match us, hl with | [_], _ => rfl
  h_l_whole_43a8 := here_of (st := s_l_whole_43a8) X G a_l_whole_43a8 l_l_whole_43a8 e_l_whole_43a8 k_l_whole_43a8 fun _ _ _ _ _ _ us hl => match us, hl with | [_], _ => rfl
  h_l_plus_46d9 := here_of (st := s_l_plus_46d9) X G a_l_plus_46d9 l_l_plus_46d9 e_l_plus_46d9 k_l_plus_46d9 fun _ _ _ _ _ _ us hl => match us, hl with | [_, _, _, _], _ => rfl
  h_l_corners_f045 := here_of (st := s_l_corners_f045) X G a_l_corners_f045 l_l_corners_f045 e_l_corners_f045 k_l_corners_f045 fun _ _ _ _ _ _ us hl => match us, hl with | [_], _ => rfl
  h_l_added_a47b := here_of (st := s_l_added_a47b) X G a_l_added_a47b l_l_added_a47b e_l_added_a47b k_l_added_a47b fun _ _ _ _ _ _ us hl => match us, hl with | [_, _, _, _], _ => rfl
  h_l_shifts_c8b1 := here_of (st := s_l_shifts_c8b1) X G a_l_shifts_c8b1 l_l_shifts_c8b1 e_l_shifts_c8b1 k_l_shifts_c8b1 fun _ _ _ _ _ _ us hl => match us, hl with | [_], _ => rfl
  h_l_side_28b2 := here_of (st := s_l_side_28b2) X G a_l_side_28b2 l_l_side_28b2 e_l_side_28b2 k_l_side_28b2 fun _ _ _ _ _ _ us hl => match us, hl with | [_, _], _ => rfl
  h_l_least_bda1 := here_of (st := s_l_least_bda1) X G a_l_least_bda1 l_l_least_bda1 e_l_least_bda1 k_l_least_bda1 fun _ _ _ _ _ _ us hl => match us, hl with | [_, _, _], _ => rfl
  h_l_times_3146 := here_of (st := s_l_times_3146) X G a_l_times_3146 l_l_times_3146 e_l_times_3146 k_l_times_3146 fun _ _ _ _ _ _ us hl => match us, hl with | [_, _, _], _ => rfl
  h_times_by := here_of (st := s_times_by) X G a_times_by l_times_by e_times_by k_times_by fun _ _ _ _ _ _ us hl => match us, hl with | [_, _, _], _ => rfl
  h_area_by := here_of (st := s_area_by) X G a_area_by l_area_by e_area_by k_area_by fun _ _ _ _ _ _ us hl => match us, hl with | [_], _ => rfl
  h_area := here_of (st := s_area) X G a_area l_area e_area k_area fun _ _ _ _ _ _ us hl => match us, hl with | [_], _ => rfl
  h_l_outline_area_700f := here_of (st := s_l_outline_area_700f) X G a_l_outline_area_700f l_l_outline_area_700f e_l_outline_area_700f k_l_outline_area_700f fun _ _ _ _ _ _ us hl => match us, hl with | [_, _], _ => rfl
  h_l_joined_ends_68e6 := here_of (st := s_l_joined_ends_68e6) X G a_l_joined_ends_68e6 l_l_joined_ends_68e6 e_l_joined_ends_68e6 k_l_joined_ends_68e6 fun _ _ _ _ _ _ us hl => match us, hl with | [_], _ => rfl
  h_l_right_11de := here_of (st := s_l_right_11de) X G a_l_right_11de l_l_right_11de e_l_right_11de k_l_right_11de fun _ _ _ _ _ _ us hl => match us, hl with | [_], _ => rfl
  h_l_hash_d8d1 := here_of (st := s_l_hash_d8d1) X G a_l_hash_d8d1 l_l_hash_d8d1 e_l_hash_d8d1 k_l_hash_d8d1 fun _ _ _ _ _ _ us hl => match us, hl with | [_, _], _ => rfl
  h_l_random_7821 := here_of (st := s_l_random_7821) X G a_l_random_7821 l_l_random_7821 e_l_random_7821 k_l_random_7821 fun _ _ _ _ _ _ us hl => match us, hl with | [_, _], _ => rfl
  h_l_cutting_bb00 := here_of (st := s_l_cutting_bb00) X G a_l_cutting_bb00 l_l_cutting_bb00 e_l_cutting_bb00 k_l_cutting_bb00 fun _ _ _ _ _ _ us hl => match us, hl with | [_, _, _], _ => rfl
  h_l_law_a011 := here_of (st := s_l_law_a011) X G a_l_law_a011 l_l_law_a011 e_l_law_a011 k_l_law_a011 fun _ _ _ _ _ _ us hl => match us, hl with | [_], _ => rfl
end C_k34
open PySem PySem.W PyProof.Rows
set_option maxHeartbeats 0 in
theorem PySem.Challenge.cw_slitsheets_k34_whole_outlines_holds : PySem.Challenge.rw_slitsheets_k34_whole_outlines.Holds := by
  w_on; o_law; k_head; (case hw => w_witness2)
  k_fill
  refine DL.walkD (l := PySem.Challenge.rw_slitsheets_k34_whole_outlines) (n := 63) (k := 7) (x := "_law_script") (st := C_k34.s_l_law_a011) rfl (by decide) rfl ⟨rfl, by decide, by decide⟩ (fun w h Y => PySem.W.kIn_of Y) ?F (fun _ _ _ _ _ _ _ => rfl)
  case F =>
    intro w mg h KX G base Xb Gb
    refine' C_k34.law_ok (C_k34.all_mk KX G ?n_abs ?n_bool ?n_int ?n_isinstance ?n_len ?n_list ?n_max ?n_range ?n_repr ?n_set ?n_sum ?n_tuple ?n_zip ?cl_NOUGHT ?c_NOUGHT ?a_l_cell_cf3b ?l_l_cell_cf3b ?e_l_cell_cf3b ?k_l_cell_cf3b ?a_l_generator_b324 ?l_l_generator_b324 ?e_l_generator_b324 ?k_l_generator_b324 ?a_l_measure_d993 ?l_l_measure_d993 ?e_l_measure_d993 ?k_l_measure_d993 ?a_l_root_of_fba3 ?l_l_root_of_fba3 ?e_l_root_of_fba3 ?k_l_root_of_fba3 ?a_l_common_ec6e ?l_l_common_ec6e ?e_l_common_ec6e ?k_l_common_ec6e ?a_l_made_ecf7 ?l_l_made_ecf7 ?e_l_made_ecf7 ?k_l_made_ecf7 ?a_l_side_of_cf54 ?l_l_side_of_cf54 ?e_l_side_of_cf54 ?k_l_side_of_cf54 ?a_is_whole ?l_is_whole ?e_is_whole ?k_is_whole ?a_common_by ?l_common_by ?e_common_by ?k_common_by ?a_is_cutting_by ?l_is_cutting_by ?e_is_cutting_by ?k_is_cutting_by ?a_check_cutting ?l_check_cutting ?e_check_cutting ?k_check_cutting ?a_root_floor_by ?l_root_floor_by ?e_root_floor_by ?k_root_floor_by ?a_root_by ?l_root_by ?e_root_by ?k_root_by ?a_measure_by ?l_measure_by ?e_measure_by ?k_measure_by ?a_slit_by ?l_slit_by ?e_slit_by ?k_slit_by ?a_square_side ?l_square_side ?e_square_side ?k_square_side ?a_plus_by ?l_plus_by ?e_plus_by ?k_plus_by ?a_corners_by_o ?l_corners_by_o ?e_corners_by_o ?k_corners_by_o ?a_corners_o ?l_corners_o ?e_corners_o ?k_corners_o ?a_minus_by ?l_minus_by ?e_minus_by ?k_minus_by ?a_gluings_o ?l_gluings_o ?e_gluings_o ?k_gluings_o ?a_l_whole_43a8 ?l_l_whole_43a8 ?e_l_whole_43a8 ?k_l_whole_43a8 ?a_l_plus_46d9 ?l_l_plus_46d9 ?e_l_plus_46d9 ?k_l_plus_46d9 ?a_l_corners_f045 ?l_l_corners_f045 ?e_l_corners_f045 ?k_l_corners_f045 ?a_l_added_a47b ?l_l_added_a47b ?e_l_added_a47b ?k_l_added_a47b ?a_l_shifts_c8b1 ?l_l_shifts_c8b1 ?e_l_shifts_c8b1 ?k_l_shifts_c8b1 ?a_l_side_28b2 ?l_l_side_28b2 ?e_l_side_28b2 ?k_l_side_28b2 ?a_l_least_bda1 ?l_l_least_bda1 ?e_l_least_bda1 ?k_l_least_bda1 ?a_l_times_3146 ?l_l_times_3146 ?e_l_times_3146 ?k_l_times_3146 ?a_times_by ?l_times_by ?e_times_by ?k_times_by ?a_area_by ?l_area_by ?e_area_by ?k_area_by ?a_area ?l_area ?e_area ?k_area ?a_l_outline_area_700f ?l_l_outline_area_700f ?e_l_outline_area_700f ?k_l_outline_area_700f ?a_l_joined_ends_68e6 ?l_l_joined_ends_68e6 ?e_l_joined_ends_68e6 ?k_l_joined_ends_68e6 ?a_l_right_11de ?l_l_right_11de ?e_l_right_11de ?k_l_right_11de ?a_l_hash_d8d1 ?l_l_hash_d8d1 ?e_l_hash_d8d1 ?k_l_hash_d8d1 ?a_l_random_7821 ?l_l_random_7821 ?e_l_random_7821 ?k_l_random_7821 ?a_l_cutting_bb00 ?l_l_cutting_bb00 ?e_l_cutting_bb00 ?k_l_cutting_bb00 ?a_l_law_a011 ?l_l_law_a011 ?e_l_law_a011 ?k_l_law_a011 base Xb)
    (case c_NOUGHT => k_is)
    (case cl_NOUGHT => k_is)
    (case n_abs => k_is)
    (case n_bool => k_is)
    (case n_int => k_is)
    (case n_isinstance => k_is)
    (case n_len => k_is)
    (case n_list => k_is)
    (case n_max => k_is)
    (case n_range => k_is)
    (case n_repr => k_is)
    (case n_set => k_is)
    (case n_sum => k_is)
    (case n_tuple => k_is)
    (case n_zip => k_is)
    (case a_l_cell_cf3b => k_is)
    (case l_l_cell_cf3b => k_is)
    (case e_l_cell_cf3b => k_is)
    (case k_l_cell_cf3b => k_is)
    (case a_l_generator_b324 => k_is)
    (case l_l_generator_b324 => k_is)
    (case e_l_generator_b324 => k_is)
    (case k_l_generator_b324 => k_is)
    (case a_l_measure_d993 => k_is)
    (case l_l_measure_d993 => k_is)
    (case e_l_measure_d993 => k_is)
    (case k_l_measure_d993 => k_is)
    (case a_l_root_of_fba3 => k_is)
    (case l_l_root_of_fba3 => k_is)
    (case e_l_root_of_fba3 => k_is)
    (case k_l_root_of_fba3 => k_is)
    (case a_l_common_ec6e => k_is)
    (case l_l_common_ec6e => k_is)
    (case e_l_common_ec6e => k_is)
    (case k_l_common_ec6e => k_is)
    (case a_l_made_ecf7 => k_is)
    (case l_l_made_ecf7 => k_is)
    (case e_l_made_ecf7 => k_is)
    (case k_l_made_ecf7 => k_is)
    (case a_l_side_of_cf54 => k_is)
    (case l_l_side_of_cf54 => k_is)
    (case e_l_side_of_cf54 => k_is)
    (case k_l_side_of_cf54 => k_is)
    (case a_is_whole => k_is)
    (case l_is_whole => k_is)
    (case e_is_whole => k_is)
    (case k_is_whole => k_is)
    (case a_common_by => k_is)
    (case l_common_by => k_is)
    (case e_common_by => k_is)
    (case k_common_by => k_is)
    (case a_is_cutting_by => k_is)
    (case l_is_cutting_by => k_is)
    (case e_is_cutting_by => k_is)
    (case k_is_cutting_by => k_is)
    (case a_check_cutting => k_is)
    (case l_check_cutting => k_is)
    (case e_check_cutting => k_is)
    (case k_check_cutting => k_is)
    (case a_root_floor_by => k_is)
    (case l_root_floor_by => k_is)
    (case e_root_floor_by => k_is)
    (case k_root_floor_by => k_is)
    (case a_root_by => k_is)
    (case l_root_by => k_is)
    (case e_root_by => k_is)
    (case k_root_by => k_is)
    (case a_measure_by => k_is)
    (case l_measure_by => k_is)
    (case e_measure_by => k_is)
    (case k_measure_by => k_is)
    (case a_slit_by => k_is)
    (case l_slit_by => k_is)
    (case e_slit_by => k_is)
    (case k_slit_by => k_is)
    (case a_square_side => k_is)
    (case l_square_side => k_is)
    (case e_square_side => k_is)
    (case k_square_side => k_is)
    (case a_plus_by => k_is)
    (case l_plus_by => k_is)
    (case e_plus_by => k_is)
    (case k_plus_by => k_is)
    (case a_corners_by_o => k_is)
    (case l_corners_by_o => k_is)
    (case e_corners_by_o => k_is)
    (case k_corners_by_o => k_is)
    (case a_corners_o => k_is)
    (case l_corners_o => k_is)
    (case e_corners_o => k_is)
    (case k_corners_o => k_is)
    (case a_minus_by => k_is)
    (case l_minus_by => k_is)
    (case e_minus_by => k_is)
    (case k_minus_by => k_is)
    (case a_gluings_o => k_is)
    (case l_gluings_o => k_is)
    (case e_gluings_o => k_is)
    (case k_gluings_o => k_is)
    (case a_l_whole_43a8 => k_is)
    (case l_l_whole_43a8 => k_is)
    (case e_l_whole_43a8 => k_is)
    (case k_l_whole_43a8 => k_is)
    (case a_l_plus_46d9 => k_is)
    (case l_l_plus_46d9 => k_is)
    (case e_l_plus_46d9 => k_is)
    (case k_l_plus_46d9 => k_is)
    (case a_l_corners_f045 => k_is)
    (case l_l_corners_f045 => k_is)
    (case e_l_corners_f045 => k_is)
    (case k_l_corners_f045 => k_is)
    (case a_l_added_a47b => k_is)
    (case l_l_added_a47b => k_is)
    (case e_l_added_a47b => k_is)
    (case k_l_added_a47b => k_is)
    (case a_l_shifts_c8b1 => k_is)
    (case l_l_shifts_c8b1 => k_is)
    (case e_l_shifts_c8b1 => k_is)
    (case k_l_shifts_c8b1 => k_is)
    (case a_l_side_28b2 => k_is)
    (case l_l_side_28b2 => k_is)
    (case e_l_side_28b2 => k_is)
    (case k_l_side_28b2 => k_is)
    (case a_l_least_bda1 => k_is)
    (case l_l_least_bda1 => k_is)
    (case e_l_least_bda1 => k_is)
    (case k_l_least_bda1 => k_is)
    (case a_l_times_3146 => k_is)
    (case l_l_times_3146 => k_is)
    (case e_l_times_3146 => k_is)
    (case k_l_times_3146 => k_is)
    (case a_times_by => k_is)
    (case l_times_by => k_is)
    (case e_times_by => k_is)
    (case k_times_by => k_is)
    (case a_area_by => k_is)
    (case l_area_by => k_is)
    (case e_area_by => k_is)
    (case k_area_by => k_is)
    (case a_area => k_is)
    (case l_area => k_is)
    (case e_area => k_is)
    (case k_area => k_is)
    (case a_l_outline_area_700f => k_is)
    (case l_l_outline_area_700f => k_is)
    (case e_l_outline_area_700f => k_is)
    (case k_l_outline_area_700f => k_is)
    (case a_l_joined_ends_68e6 => k_is)
    (case l_l_joined_ends_68e6 => k_is)
    (case e_l_joined_ends_68e6 => k_is)
    (case k_l_joined_ends_68e6 => k_is)
    (case a_l_right_11de => k_is)
    (case l_l_right_11de => k_is)
    (case e_l_right_11de => k_is)
    (case k_l_right_11de => k_is)
    (case a_l_hash_d8d1 => k_is)
    (case l_l_hash_d8d1 => k_is)
    (case e_l_hash_d8d1 => k_is)
    (case k_l_hash_d8d1 => k_is)
    (case a_l_random_7821 => k_is)
    (case l_l_random_7821 => k_is)
    (case e_l_random_7821 => k_is)
    (case k_l_random_7821 => k_is)
    (case a_l_cutting_bb00 => k_is)
    (case l_l_cutting_bb00 => k_is)
    (case e_l_cutting_bb00 => k_is)
    (case k_l_cutting_bb00 => k_is)
    (case a_l_law_a011 => k_is)
    (case l_l_law_a011 => k_is)
    (case e_l_law_a011 => k_is)
    (case k_l_law_a011 => k_is)
