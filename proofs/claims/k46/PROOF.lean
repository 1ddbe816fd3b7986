import PyProof.Rows.All
import Wide.All
import OpenK.AllK
import Wide.FinOn
import HandS.ForMost
import HandS.Exc
import HandS.ExcInit
import HandS.ExcField
import HandS.ExcIs
import KE.KExcSuper
import KE.KSuper
import HandS.Wide
import HandS.Flow
import HandS.Style
import HandS.Deep
import HandS.TupAny
import HandS.NoneIn
import HandS.IsInst
import HandS.WideBits
import HandS.Gcd
import HandS.Conv
import HandS.Zip
import HandS.SortRule
import HandS.SortInts
import KE.KSortTupAny
import HandS.TupSets
import KE.KSetDisp
import HandS.SetIn
import KE.KExcIs
import HandS.Iter
import KE.DataFind
import PyProof.ReprRoads
import PyProof.NeKinds
import PyProof.FactsAll.dict_2
import PyProof.FactsAll.subtypes_1
import HandS.Star
import KE.GoesEnumKw
import PySem.Challenge.RW_slitsheets_k46_whole_shears_between_deed
set_option Elab.async false
set_option linter.all false
set_option maxRecDepth 100000
set_option maxHeartbeats 4000000
/-! XA: the package's own errors: their classes, and how one is made -/
namespace XA
open PySem PySem.W PySem.Calls PyProof.Rows PySem.HandSPX
def sheetTail : List Value := [.type "ValueError", .type "Exception", .type "BaseException", .type "object"]
def errTail (S : Addr) : List Value := .ref S :: sheetTail
/-- the common class of the errors stands at S -/
structure ShC (K : Frag) (S : Addr) : Prop where
  ns : nsIn K mainGlobals "SheetError" = some (some (.ref S))
  cls : ∃ q N bs sn sub ab col dd k0 k1 k2 k3 k5, K.lookup S = some (excClassObj "SheetError" q S N bs sheetTail true sn sub ab col dd k0 k1 k2 k3 k5 "ValueError.__new__")
/-- the error class x stands at C -/
structure ErC (K : Frag) (x : Str) (C S : Addr) : Prop where
  ns : nsIn K mainGlobals x = some (some (.ref C))
  sh : ShC K S
  ne : x ≠ "SheetError"
  cls : ∃ q N bs sn sub ab col dd k0 k1 k2 k3 k5, K.lookup C = some (excClassObj x q C N bs (errTail S) true sn sub ab col dd k0 k1 k2 k3 k5 "ValueError.__new__")
  sa : findIn K (.ref C) "__setattr__" = some (some (.builtin "object.__setattr__"))
  ga : findIn K (.ref C) "__getattribute__" = some (some (.builtin "BaseException.__getattribute__"))
  gg : findIn K (.ref C) "__getattr__" = some none
  nv : findIn K (.ref C) "value" = some none
  kp : keepIn K (.ref C) = true
  hc : findIn K (.ref C) "__class__" = some (some (.builtin "object.__class__"))
  gs : specialIn K (.builtin "object.__class__") "__get__" = some (some (.builtin "getset_descriptor.__get__"))
  tk : takesIn K (.builtin "object.__class__") = some true
section
variable {K : Frag} {x y : Str} {C D S S' : Addr}
theorem ErC.clsIn (T : ErC K x C S) : ∃ cd, PySem.W.clsIn K C = some cd ∧ cd.mro = .ref C :: errTail S ∧ cd.hasDict = true ∧ cd.name = x := by
  obtain ⟨q, N, bs, sn, sub, ab, col, dd, k0, k1, k2, k3, k5, h⟩ := T.cls
  exact ⟨_, by unfold PySem.W.clsIn; rw [h], rfl, rfl, rfl⟩
theorem ShC.clsIn (T : ShC K S) : ∃ cd, PySem.W.clsIn K S = some cd ∧ cd.mro = .ref S :: sheetTail ∧ cd.name = "SheetError" := by
  obtain ⟨q, N, bs, sn, sub, ab, col, dd, k0, k1, k2, k3, k5, h⟩ := T.cls
  exact ⟨_, by unfold PySem.W.clsIn; rw [h], rfl, rfl⟩
theorem ErC.ty (T : ErC K x C S) : typeIn K (.ref C) = some (.type "type") := by
  obtain ⟨q, N, bs, sn, sub, ab, col, dd, k0, k1, k2, k3, k5, h⟩ := T.cls
  show (K.lookup C).map (·.cls) = _
  rw [h]; rfl
theorem ShC.ty (T : ShC K S) : typeIn K (.ref S) = some (.type "type") := by
  obtain ⟨q, N, bs, sn, sub, ab, col, dd, k0, k1, k2, k3, k5, h⟩ := T.cls
  show (K.lookup S).map (·.cls) = _
  rw [h]; rfl
theorem ErC.sub (T : ErC K x C S) (b : Value) : subIn K (.ref C) b = some ((Value.ref C :: errTail S).contains b) := by
  obtain ⟨cd, h, hm, _⟩ := T.clsIn
  show mroIn K C b = _
  unfold mroIn
  rw [h, Option.bind_some, hm]; rfl
theorem ShC.sub (T : ShC K S) (b : Value) : subIn K (.ref S) b = some ((Value.ref S :: sheetTail).contains b) := by
  obtain ⟨cd, h, hm, _⟩ := T.clsIn
  show mroIn K S b = _
  unfold mroIn
  rw [h, Option.bind_some, hm]; rfl
theorem ErC.subT (T : ErC K x C S) (n : String) (h : sheetTail.contains (.type n) = true) : subIn K (.ref C) (.type n) = some true := by
  rw [T.sub]; show some (Value.type n == Value.ref C || (Value.type n == Value.ref S || sheetTail.contains (.type n))) = _
  rw [h, Bool.or_true, Bool.or_true]
/-- is an error of the class x one of the class y -/
def under (x y : Str) : Bool := x == y || y == "SheetError"
/-- a class of errors, with its name: one of them, or their common one -/
def AnyC (K : Frag) (y : Str) (D : Addr) : Prop := (∃ S, ErC K y D S) ∨ (y = "SheetError" ∧ ShC K D)
theorem AnyC.ty (A : AnyC K y D) : typeIn K (.ref D) = some (.type "type") := by
  rcases A with ⟨S', T'⟩ | ⟨rfl, T'⟩
  · exact T'.ty
  · exact T'.ty
theorem AnyC.base (A : AnyC K y D) : subIn K (.ref D) (.type "BaseException") = some true := by
  rcases A with ⟨S', T'⟩ | ⟨rfl, T'⟩
  · exact T'.subT "BaseException" (by decide)
  · rw [T'.sub]; show some (Value.type "BaseException" == Value.ref D || sheetTail.contains (.type "BaseException")) = _
    rw [show sheetTail.contains (.type "BaseException") = true by decide, Bool.or_true]
end
/-! ### an error is made -/
end XA
/-! XB: errors over the hand layer: one is made and raised; a try whose error stays known behind it -/
namespace XA
open PySem PySem.W PySem.Calls PyProof.Rows PySem.HandSPX
end XA
namespace L2
open PySem PySem.Spec PyProof.Rows XA
/-! ### try: the error is tracked from the suite on -/
/-- at a: an error of the class at C with its own dict at dd -/
def ErAt (a C dd : Addr) (h : Heap) : Prop := ∃ vs sl, h.get? a = some { cls := .ref C, dict := some dd, data := .fields vs, slots := sl }
def erO (a C dd : Addr) : HO := .ext (ErAt a C dd)
end L2
namespace XA
open PySem PySem.W PySem.Calls PyProof.Rows PySem.HandSPX
end XA
/-! DL1: data D, what represents it, the state of a def as plain data, the judgements -/
namespace DL
open PySem PySem.Spec PyProof.Rows L2
inductive D where
  | non
  | bl (b : Bool)
  | int (i : Int)
  | str (x : Str)
  | tup (l : List D)
  | lst (l : List D)
  | dct0
  | scr (ns : List Int)
  | own (k : Nat)
  | exc (x : Str) (d : D)
  | glb (x : Str)
  | val (v : V)
abbrev St := L2.St
abbrev Env := List (Option D)
inductive Own where
  | lst (ds : List D)
  | dead
abbrev Mem := List Own
/-- where the owned cells stand; the lists that are being made out of sight -/
structure Ph where
  cells : List Addr
  hid : List (Addr × HO)
abbrev Ph.add (ph : Ph) (p : Addr) : Ph := { ph with cells := ph.cells ++ [p] }
abbrev Ph.cut (ph : Ph) (n : Nat) : Ph := { ph with cells := ph.cells.take n }
abbrev fVal : Str := "value"
/-- a tuple that stands still: one that was made, or one of the module's -/
def TupK (K : PySem.W.Frag) (S : Hp) (a : Addr) (xs : List V) : Prop := S a = some (.tup xs) ∨
  ∃ (o : Obj) (its : Array Value) (n : Nat), K.lookup a = some o ∧ o.cls = .type "tuple" ∧ o.data = .seq its n ∧ its.size ≤ sizeLine ∧ Vals xs its.toList
theorem TupK.ext {K : PySem.W.Frag} {S S' : Hp} {a : Addr} {xs : List V} (h : TupK K S a xs) (s : Same S S') : TupK K S' a xs := h.imp (fun z => s _ _ z) fun z => z
theorem TupK.sq {K : PySem.W.Frag} {S H : Hp} {a : Addr} {xs : List V} (h : TupK K S a xs) (s : Same S H) : SqT K H a xs := h.elim (fun z => SqT.of (s _ _ z)) .inr
mutual
inductive Rep (K : PySem.W.Frag) (ph : Ph) (S : Hp) : V → D → Prop
  | non : Rep K ph S .non .non
  | bl (b : Bool) : Rep K ph S (.bl b) (.bl b)
  | int (i : Int) : Rep K ph S (.int i) (.int i)
  | str (x : Str) : Rep K ph S (.str x) (.str x)
  | tup {a : Addr} {xs : List V} {ds : List D} : TupK K S a xs → RepAll K ph S xs ds → Rep K ph S (.ref a) (.tup ds)
  | lst {a : Addr} {xs : List V} {ds : List D} : S a = some (.lst xs) → RepAll K ph S xs ds → Rep K ph S (.ref a) (.lst ds)
  | scr {a : Addr} {ns : List Int} : SqL K S a (ns.map V.int) → Rep K ph S (.ref a) (.scr ns)
  | dct0 {a : Addr} : S a = some (.dK []) → Rep K ph S (.ref a) .dct0
  | own {a : Addr} {k : Nat} : ph.cells[k]? = some a → Rep K ph S (.ref a) (.own k)
  | exc {a C T dd : Addr} {x : Str} {v : V} {d : D} : XA.ErC K x C T → S a = some (erO a C dd) → S dd = some (.xd [(fVal, v)]) → Rep K ph S v d → Rep K ph S (.ref a) (.exc x d)
  | glb {a : Addr} {x : Str} : PySem.W.nsIn K mainGlobals x = some (some (.ref a)) → Rep K ph S (.ref a) (.glb x)
  | val (v : V) : Rep K ph S v (.val v)
inductive RepAll (K : PySem.W.Frag) (ph : Ph) (S : Hp) : List V → List D → Prop
  | nil : RepAll K ph S [] []
  | cons {v : V} {vs : List V} {d : D} {ds : List D} : Rep K ph S v d → RepAll K ph S vs ds → RepAll K ph S (v :: vs) (d :: ds)
end
structure Ext (ph : Ph) (S : Hp) (ph' : Ph) (S' : Hp) : Prop where
  pre : ∀ (k : Nat) (a : Addr), ph.cells[k]? = some a → ph'.cells[k]? = some a
  same : Same S S'
  hid : ph'.hid = ph.hid
theorem Ext.refl {ph : Ph} {S : Hp} : Ext ph S ph S := ⟨fun _ _ h => h, fun _ _ h => h, rfl⟩
theorem Ext.trans {ph ph1 ph2 : Ph} {S S1 S2 : Hp} (a : Ext ph S ph1 S1) (b : Ext ph1 S1 ph2 S2) : Ext ph S ph2 S2 :=
  ⟨fun k x h => b.pre k x (a.pre k x h), a.same.trans b.same, b.hid.trans a.hid⟩
section
variable {K : PySem.W.Frag} {ph ph' : Ph} {S S' : Hp}
mutual
theorem Rep.ext (x : Ext ph S ph' S') : ∀ (d : D) (v : V), Rep K ph S v d → Rep K ph' S' v d
  | .non, _, h => by cases h; exact .non
  | .bl _, _, h => by cases h; exact .bl _
  | .int _, _, h => by cases h; exact .int _
  | .str _, _, h => by cases h; exact .str _
  | .tup ds, _, h => by
    cases h with
    | tup h1 h2 => exact .tup (h1.ext x.same) (RepAll.ext x ds _ h2)
  | .lst ds, _, h => by
    cases h with
    | lst h1 h2 => exact .lst (x.same _ _ h1) (RepAll.ext x ds _ h2)
  | .dct0, _, h => by
    cases h with
    | dct0 h1 => exact .dct0 (x.same _ _ h1)
  | .scr ns, _, h => by
    cases h with
    | scr h1 => exact .scr (x.same.seq h1)
  | .own k, _, h => by
    cases h with
    | own h1 => exact .own (x.pre _ _ h1)
  | .glb _, _, h => by
    cases h with
    | glb h1 => exact .glb h1
  | .exc C d, _, h => by
    cases h with
    | exc h0 h1 h2 h3 => exact .exc h0 (x.same _ _ h1) (x.same _ _ h2) (Rep.ext x d _ h3)
  | .val v, _, h => by cases h; exact .val _
theorem RepAll.ext (x : Ext ph S ph' S') : ∀ (ds : List D) (vs : List V), RepAll K ph S vs ds → RepAll K ph' S' vs ds
  | [], _, h => by cases h; exact .nil
  | d :: ds, _, h => by
    cases h with
    | cons h1 h2 => exact .cons (Rep.ext x d _ h1) (RepAll.ext x ds _ h2)
end
theorem Rep.up {d : D} {v : V} (h : Rep K ph S v d) (x : Ext ph S ph' S') : Rep K ph' S' v d := Rep.ext x d v h
theorem RepAll.up {ds : List D} {vs : List V} (h : RepAll K ph S vs ds) (x : Ext ph S ph' S') : RepAll K ph' S' vs ds := RepAll.ext x ds vs h
theorem RepAll.len : ∀ {vs : List V} {ds : List D}, RepAll K ph S vs ds → vs.length = ds.length
  | _, _, .nil => rfl
  | _, _, .cons _ t => by rw [List.length_cons, List.length_cons, RepAll.len t]
theorem RepAll.get : ∀ {vs : List V} {ds : List D} {i : Nat} {d : D}, RepAll K ph S vs ds → ds[i]? = some d → ∃ v, vs[i]? = some v ∧ Rep K ph S v d
  | _, _, _, _, .nil, e => by simp at e
  | _, _, 0, _, .cons r _, e => by simp at e; subst e; exact ⟨_, rfl, r⟩
  | _, _, i + 1, _, .cons _ t, e => by
    obtain ⟨v, e1, r⟩ := RepAll.get (i := i) t (by simpa using e)
    exact ⟨v, by simpa using e1, r⟩
theorem RepAll.app : ∀ {vs ws : List V} {ds es : List D}, RepAll K ph S vs ds → RepAll K ph S ws es → RepAll K ph S (vs ++ ws) (ds ++ es)
  | _, _, _, _, .nil, q => q
  | _, _, _, _, .cons r t, q => .cons r (RepAll.app t q)
theorem RepAll.take : ∀ {vs : List V} {ds : List D} (n : Nat), RepAll K ph S vs ds → RepAll K ph S (vs.take n) (ds.take n)
  | _, _, 0, _ => .nil
  | _, _, _ + 1, .nil => .nil
  | _, _, n + 1, .cons r t => .cons r (RepAll.take n t)
theorem RepAll.drop : ∀ {vs : List V} {ds : List D} (n : Nat), RepAll K ph S vs ds → RepAll K ph S (vs.drop n) (ds.drop n)
  | _, _, 0, r => r
  | _, _, _ + 1, .nil => .nil
  | _, _, n + 1, .cons r t => RepAll.drop n t
theorem RepAll.set {v : V} {d : D} (r : Rep K ph S v d) : ∀ {vs : List V} {ds : List D} (i : Nat), RepAll K ph S vs ds → RepAll K ph S (vs.set i v) (ds.set i d)
  | _, _, _, .nil => .nil
  | _, _, 0, .cons _ t => .cons r t
  | _, _, i + 1, .cons q t => .cons q (RepAll.set r i t)
theorem RepAll.rep {v : V} {d : D} (r : Rep K ph S v d) : ∀ n : Nat, RepAll K ph S (List.replicate n v) (List.replicate n d)
  | 0 => .nil
  | n + 1 => .cons r (RepAll.rep r n)
theorem RepAll.ints : ∀ ns : List Int, RepAll K ph S (ns.map V.int) (ns.map D.int)
  | [] => .nil
  | n :: ns => .cons (.int n) (RepAll.ints ns)
end
/-- the state (σ, H) is told by the names' data ρ and the owned cells M -/
structure Sat (K : PySem.W.Frag) (ph : Ph) (S : Hp) (r : Env) (M : Mem) (σ : St) (H : Hp) : Prop where
  sub : Same S H
  len : ph.cells.length = M.length
  nd : ph.cells.Nodup
  trk : ∀ (k : Nat) (a : Addr), ph.cells[k]? = some a → ∃ o, H a = some o
  cell : ∀ (k : Nat) (ds : List D), M[k]? = some (.lst ds) → ∃ a xs, ph.cells[k]? = some a ∧ S a = none ∧ H a = some (.lst xs) ∧ RepAll K ph S xs ds
  hid : ∀ p ∈ ph.hid, H p.1 = some p.2 ∧ S p.1 = none ∧ p.1 ∉ ph.cells
  hnd : (ph.hid.map (·.1)).Nodup
  el : r.length = σ.length
  env : ∀ (i : Nat) (d : D), r[i]? = some (some d) → ∃ v, σ[i]? = some (some v) ∧ Rep K ph S v d
abbrev DQ := D → Mem → Prop
abbrev DTE := Env → Mem → DQ → Prop
abbrev DTT := Env → Mem → (Bool → Mem → Prop) → Prop
abbrev DTA := Env → Mem → (List D → Mem → Prop) → Prop
structure DEnds where
  nx : Env → Mem → Prop
  rt : DQ
  bk : Env → Mem → Prop := fun _ _ => False
  ct : Env → Mem → Prop := fun _ _ => False
abbrev DTS := DEnds → Env → Mem → Prop
/-- behind a piece, from (ph, S): the state as it is then, and what is wanted of it -/
def Aft (K : PySem.W.Frag) (ph : Ph) (S : Hp) (r : Env) (σ : St) (H : Hp) (Q : Ph → Hp → Mem → Prop) : Prop :=
  ∃ ph' S' M, Ext ph S ph' S' ∧ Sat K ph' S' r M σ H ∧ Q ph' S' M
def post (K : PySem.W.Frag) (ph : Ph) (S : Hp) (r : Env) (σ : St) (Q : DQ) : VK := fun v H => Aft K ph S r σ H fun ph' S' M => ∃ d, Rep K ph' S' v d ∧ Q d M
def postT (K : PySem.W.Frag) (ph : Ph) (S : Hp) (r : Env) (σ : St) (Q : Bool → Mem → Prop) : Bool → Hp → Prop := fun b H => Aft K ph S r σ H fun _ _ M => Q b M
def postA (K : PySem.W.Frag) (ph : Ph) (S : Hp) (r : Env) (σ : St) (Q : List D → Mem → Prop) : List V → Hp → Prop := fun vs H => Aft K ph S r σ H fun ph' S' M => ∃ ds, RepAll K ph' S' vs ds ∧ Q ds M
def postN (K : PySem.W.Frag) (ph : Ph) (S : Hp) (Q : Env → Mem → Prop) : St → Hp → Prop := fun σ H => ∃ r, Aft K ph S r σ H fun _ _ M => Q r M
/-- behind a return the names are gone -/
def postR (K : PySem.W.Frag) (ph : Ph) (S : Hp) (Q : DQ) : VK := fun v H => ∃ r σ, post K ph S r σ Q v H
structure DE (X : Cx) (e : Expr) (t : DTE) : Prop where
  pe : PE X e (fun σ H Q => ∃ ph S r M Q0, Sat X.K ph S r M σ H ∧ t r M Q0 ∧ ∀ v H', post X.K ph S r σ Q0 v H' → Q v H')
structure DT (X : Cx) (e : Expr) (t : DTT) : Prop where
  pt : PT X e (fun σ H Q => ∃ ph S r M Q0, Sat X.K ph S r M σ H ∧ t r M Q0 ∧ ∀ b H', postT X.K ph S r σ Q0 b H' → Q b H')
structure DW (X : Cx) (e : Expr) (t : DTT) : Prop where
  pw : PW X e (fun σ H Q => ∃ ph S r M Q0, Sat X.K ph S r M σ H ∧ t r M Q0 ∧ ∀ b H', postT X.K ph S r σ Q0 b H' → Q b H')
structure DA (X : Cx) (es : List Expr) (t : DTA) : Prop where
  pa : PA X es (fun σ H Q => ∃ ph S r M Q0, Sat X.K ph S r M σ H ∧ t r M Q0 ∧ ∀ vs H', postA X.K ph S r σ Q0 vs H' → Q vs H')
def lfS (K : PySem.W.Frag) (t : DTS) : TS := fun E σ H => ∃ ph S r M E0, Sat K ph S r M σ H ∧ t E0 r M ∧ (∀ σ' H', postN K ph S E0.nx σ' H' → E.nx σ' H') ∧ (∀ v H', postR K ph S E0.rt v H' → E.rt v H') ∧ (∀ σ' H', postN K ph S E0.bk σ' H' → E.bk σ' H') ∧ (∀ σ' H', postN K ph S E0.ct σ' H' → E.ct σ' H')
structure DS (X : Cx) (st : Stmt) (t : DTS) : Prop where
  ps : PS X st (lfS X.K t)
structure DSs (X : Cx) (sts : List Stmt) (t : DTS) : Prop where
  pss : PSs X sts (lfS X.K t)
/-! ### weakening the hand layer's judgements -/
section
variable {X : Cx}
theorem PE.weak {e : Expr} {t t' : TE} (h : PE X e t) (w : ∀ σ H Q, t' σ H Q → t σ H Q) : PE X e t' := ⟨fun pins s σ H Q I q => h.run pins s σ H Q I (w _ _ _ q)⟩
theorem PT.weak {e : Expr} {t t' : TT} (h : PT X e t) (w : ∀ σ H Q, t' σ H Q → t σ H Q) : PT X e t' := ⟨fun pins s σ H Q I q => h.run pins s σ H Q I (w _ _ _ q)⟩
theorem PW.weak {e : Expr} {t t' : TT} (h : PW X e t) (w : ∀ σ H Q, t' σ H Q → t σ H Q) : PW X e t' := ⟨fun wh pins s σ H Q I q => h.run wh pins s σ H Q I (w _ _ _ q)⟩
theorem PA.weak {e : List Expr} {t t' : TA} (h : PA X e t) (w : ∀ σ H Q, t' σ H Q → t σ H Q) : PA X e t' := ⟨fun pos pins s σ H Q I q => h.run pos pins s σ H Q I (w _ _ _ q)⟩
theorem PS.weak {e : Stmt} {t t' : TS} (h : PS X e t) (w : ∀ E σ H, t' E σ H → t E σ H) : PS X e t' := ⟨fun pins s σ H Q I q => h.run pins s σ H Q I (w _ _ _ q)⟩
theorem PSs.weak {e : List Stmt} {t t' : TS} (h : PSs X e t) (w : ∀ E σ H, t' E σ H → t E σ H) : PSs X e t' := ⟨fun pins s σ H Q I q => h.run pins s σ H Q I (w _ _ _ q)⟩
/-- from a rule of the hand layer -/
theorem DE.of {e : Expr} {t' : TE} {t : DTE} (h : PE X e t') (w : ∀ ph S r M σ H Q, Sat X.K ph S r M σ H → t r M Q → ∀ Q', (∀ v H', post X.K ph S r σ Q v H' → Q' v H') → t' σ H Q') : DE X e t :=
  ⟨PE.weak h fun σ H Q ⟨ph, S, r, M, Q0, hs, ht, hq⟩ => w ph S r M σ H Q0 hs ht Q hq⟩
theorem DT.of {e : Expr} {t' : TT} {t : DTT} (h : PT X e t') (w : ∀ ph S r M σ H Q, Sat X.K ph S r M σ H → t r M Q → ∀ Q', (∀ v H', postT X.K ph S r σ Q v H' → Q' v H') → t' σ H Q') : DT X e t :=
  ⟨PT.weak h fun σ H Q ⟨ph, S, r, M, Q0, hs, ht, hq⟩ => w ph S r M σ H Q0 hs ht Q hq⟩
theorem DW.of {e : Expr} {t' : TT} {t : DTT} (h : PW X e t') (w : ∀ ph S r M σ H Q, Sat X.K ph S r M σ H → t r M Q → ∀ Q', (∀ v H', postT X.K ph S r σ Q v H' → Q' v H') → t' σ H Q') : DW X e t :=
  ⟨PW.weak h fun σ H Q ⟨ph, S, r, M, Q0, hs, ht, hq⟩ => w ph S r M σ H Q0 hs ht Q hq⟩
theorem DA.of {e : List Expr} {t' : TA} {t : DTA} (h : PA X e t') (w : ∀ ph S r M σ H Q, Sat X.K ph S r M σ H → t r M Q → ∀ Q', (∀ v H', postA X.K ph S r σ Q v H' → Q' v H') → t' σ H Q') : DA X e t :=
  ⟨PA.weak h fun σ H Q ⟨ph, S, r, M, Q0, hs, ht, hq⟩ => w ph S r M σ H Q0 hs ht Q hq⟩
/-- the end of a reading: this value, this state -/
theorem Aft.here {K : PySem.W.Frag} {ph : Ph} {S : Hp} {r : Env} {σ : St} {H : Hp} {M : Mem} {Q : Ph → Hp → Mem → Prop} (h : Sat K ph S r M σ H) (q : Q ph S M) : Aft K ph S r σ H Q := ⟨ph, S, M, .refl, h, q⟩
theorem Aft.up {K : PySem.W.Frag} {ph ph1 : Ph} {S S1 : Hp} {r : Env} {σ : St} {H : Hp} {Q : Ph → Hp → Mem → Prop} (x : Ext ph S ph1 S1) (h : Aft K ph1 S1 r σ H Q) : Aft K ph S r σ H Q :=
  let ⟨ph', S', M, x', hs, q⟩ := h
  ⟨ph', S', M, x.trans x', hs, q⟩
/-! ### the simplest expressions -/
def dC (d : D) : DTE := fun _ M Q => Q d M
theorem de_c {e : Expr} {v : V} {d : D} (h : PE X e (tC v)) (hr : ∀ ph S, Rep X.K ph S v d) : DE X e (dC d) :=
  DE.of h fun ph S r M σ H Q hs ht Q' hq => hq _ _ (Aft.here hs ⟨d, hr _ _, ht⟩)
theorem de_int {i j pos} : DE X (.Constant (.int i) j pos) (dC (.int i)) := de_c pe_int fun _ _ => .int _
theorem de_bl {b j pos} : DE X (.Constant (.bool b) j pos) (dC (.bl b)) := de_c pe_bl fun _ _ => .bl _
theorem de_non {j pos} : DE X (.Constant .none j pos) (dC .non) := de_c pe_non fun _ _ => .non
def dVar (i : Nat) : DTE := fun r M Q => match r[i]? with
  | some (some d) => Q d M
  | _ => False
theorem de_var {e : Expr} (i : Nat) (h : PE X e (tVar i)) : DE X e (dVar i) :=
  DE.of h fun ph S r M σ H Q hs ht Q' hq => by
    unfold dVar at ht
    split at ht
    · rename_i d e
      obtain ⟨v, e1, rv⟩ := hs.env i d e
      exact ⟨v, e1, hq _ _ (Aft.here hs ⟨d, rv, ht⟩)⟩
    · exact ht.elim
/-- the name in slot i -/
theorem dv (i : Nat) {x : Str} {pos : Pos} (hN : X.N[i]? = some x := by rfl) (hv : Vis X.env.scope x := by first | exact Or.inl rfl | exact Or.inr (Or.inl rfl) | exact Or.inr (Or.inr rfl)) (hd : (x == ("__debug__" : Str)) = false := by decide)
    (hcd : (x == ("__classdict__" : Str)) = false := by decide) : DE X (.Name x pos) (dVar i) := de_var i (pe_var hN hv hd hcd)
end
end DL
/-! DL2: heaps that change; data as PyData; operators -/
namespace DL
open PySem PySem.Spec PyProof.Rows L2
mutual
def toPy : D → Option PyData
  | .non => some .none
  | .bl b => some (.bool b)
  | .int i => some (.int i)
  | .str x => some (.str x)
  | .tup l => match toPyAll l with
    | some ps => some (.tuple ps)
    | none => none
  | .lst l => match toPyAll l with
    | some ps => some (.list ps)
    | none => none
  | .dct0 => some (.dict [])
  | .scr _ => none
  | .own _ => none
  | .exc _ _ => none
  | .glb _ => none
  | .val _ => none
def toPyAll : List D → Option (List PyData)
  | [] => some []
  | d :: ds => match toPy d, toPyAll ds with
    | some p, some ps => some (p :: ps)
    | _, _ => none
end
section
variable {K : PySem.W.Frag} {ph ph' : Ph} {S S' : Hp} {r : Env} {M : Mem} {σ : St} {H : Hp} {p : Addr}
mutual
theorem Rep.hidP {c : List Addr} {l l' : List (Addr × HO)} : ∀ (d : D) (v : V), Rep K ⟨c, l⟩ S v d → Rep K ⟨c, l'⟩ S v d
  | .non, _, h => by cases h; exact .non
  | .bl _, _, h => by cases h; exact .bl _
  | .int _, _, h => by cases h; exact .int _
  | .str _, _, h => by cases h; exact .str _
  | .tup ds, _, h => by
    cases h with
    | tup h1 h2 => exact .tup h1 (RepAll.hidP ds _ h2)
  | .lst ds, _, h => by
    cases h with
    | lst h1 h2 => exact .lst h1 (RepAll.hidP ds _ h2)
  | .dct0, _, h => by
    cases h with
    | dct0 h1 => exact .dct0 h1
  | .scr ns, _, h => by
    cases h with
    | scr h1 => exact .scr h1
  | .own k, _, h => by
    cases h with
    | own h1 => exact .own h1
  | .glb _, _, h => by
    cases h with
    | glb h1 => exact .glb h1
  | .exc C d, _, h => by
    cases h with
    | exc h0 h1 h2 h3 => exact .exc h0 h1 h2 (Rep.hidP d _ h3)
  | .val v, _, h => by cases h; exact .val _
theorem RepAll.hidP {c : List Addr} {l l' : List (Addr × HO)} : ∀ (ds : List D) (vs : List V), RepAll K ⟨c, l⟩ S vs ds → RepAll K ⟨c, l'⟩ S vs ds
  | [], _, h => by cases h; exact .nil
  | d :: ds, _, h => by
    cases h with
    | cons h1 h2 => exact .cons (Rep.hidP d _ h1) (RepAll.hidP ds _ h2)
end
theorem Rep.hid {c : List Addr} {l l' : List (Addr × HO)} {d : D} {v : V} (h : Rep K ⟨c, l⟩ S v d) : Rep K ⟨c, l'⟩ S v d := Rep.hidP d v h
theorem RepAll.hid {c : List Addr} {l l' : List (Addr × HO)} {d : List D} {v : List V} (h : RepAll K ⟨c, l⟩ S v d) : RepAll K ⟨c, l'⟩ S v d := RepAll.hidP d v h
theorem Sat.read {d : D} {v : V} (h : Sat K ph S r M σ H) (q : Rep K ph S v d) : Rep K ph H v d := q.up ⟨fun _ _ e => e, h.sub, rfl⟩
theorem Sat.readAll {d : List D} {v : List V} (h : Sat K ph S r M σ H) (q : RepAll K ph S v d) : RepAll K ph H v d := q.up ⟨fun _ _ e => e, h.sub, rfl⟩
theorem Sat.noS (h : Sat K ph S r M σ H) (hp : H p = none) : S p = none := h.sub.free hp
theorem Sat.notin (h : Sat K ph S r M σ H) (hp : H p = none) : ∀ (k : Nat), ph.cells[k]? ≠ some p := fun k e => by
  obtain ⟨o, ho⟩ := h.trk k p e
  rw [hp] at ho; cases ho
theorem sameUpd {p : Addr} {o : HO} (h : H p = none) : Same H (upd H p o) := fun b x e => by
  rw [upd_ne (ne_of_none e h)]
  exact e
/-- a new object that is only read -/
theorem Sat.frz (h : Sat K ph S r M σ H) (hp : H p = none) (o : HO) : Ext ph S ph (upd S p o) ∧ Sat K ph (upd S p o) r M σ (upd H p o) := by
  have x : Ext ph S ph (upd S p o) := ⟨fun _ _ e => e, sameUpd (h.noS hp), rfl⟩
  refine ⟨x, fun b y e => ?_, h.len, h.nd, fun k a e => ?_, fun k ds e => ?_, fun q hq => ?_, h.hnd, h.el, fun i d e => ?_⟩
  · by_cases hb : b = p
    · rw [hb, upd_same] at e ⊢
      exact e
    · rw [upd_ne hb] at e ⊢
      exact h.sub b y e
  · obtain ⟨u, hu⟩ := h.trk k a e
    exact ⟨u, sameUpd hp _ _ hu⟩
  · obtain ⟨a, xs, h1, h2, h3, h4⟩ := h.cell k ds e
    have ne : a ≠ p := fun z => by rw [z, hp] at h3; cases h3
    refine ⟨a, xs, h1, ?_, ?_, h4.up x⟩
    · rw [upd_ne ne]; exact h2
    · rw [upd_ne ne]; exact h3
  · obtain ⟨h1, h2, h3⟩ := h.hid q hq
    have ne : q.1 ≠ p := fun z => by rw [z, hp] at h1; cases h1
    exact ⟨by rw [upd_ne ne]; exact h1, by rw [upd_ne ne]; exact h2, h3⟩
  · obtain ⟨v, e1, q⟩ := h.env i d e
    exact ⟨v, e1, q.up x⟩
/-- a new list that may be changed -/
theorem Sat.new (h : Sat K ph S r M σ H) (hp : H p = none) {xs : List V} {ds : List D} (hr : RepAll K ph S xs ds) :
    Ext ph S (ph.add p) S ∧ Sat K (ph.add p) S r (M ++ [.lst ds]) σ (upd H p (.lst xs)) ∧ (ph.add p).cells[M.length]? = some p := by
  have x : Ext ph S (ph.add p) S := ⟨fun k a e => by
    rw [List.getElem?_append_left (List.getElem?_eq_some_iff.mp e).1]; exact e, fun _ _ e => e, rfl⟩
  have here : (ph.add p).cells[M.length]? = some p := by
    rw [← h.len, List.getElem?_append_right (Nat.le_refl _), Nat.sub_self]; rfl
  have old : ∀ (k : Nat) (a : Addr), (ph.add p).cells[k]? = some a → ph.cells[k]? = some a ∨ (k = ph.cells.length ∧ a = p) := fun k a e => by
    by_cases hk : k < ph.cells.length
    · rw [List.getElem?_append_left hk] at e
      exact .inl e
    · rw [List.getElem?_append_right (by omega)] at e
      cases hk' : k - ph.cells.length with
      | zero =>
        rw [hk'] at e
        exact .inr ⟨by omega, (Option.some.inj e).symm⟩
      | succ n => rw [hk'] at e; simp at e
  refine ⟨x, ⟨fun b y e => sameUpd hp _ _ (h.sub b y e), by rw [List.length_append, List.length_append, h.len]; rfl, ?_, fun k a e => ?_, fun k es e => ?_, fun q hq => ?_, h.hnd, h.el, fun i d e => ?_⟩, here⟩
  · rw [List.nodup_append]
    refine ⟨h.nd, by simp, fun a ha b hb z => ?_⟩
    have hb' : b = p := by simpa using hb
    obtain ⟨k, hk⟩ := List.mem_iff_getElem?.mp ha
    exact h.notin hp k (by rw [hk, z, hb'])
  · rcases old k a e with q | ⟨_, q⟩
    · obtain ⟨u, hu⟩ := h.trk k a q
      exact ⟨u, sameUpd hp _ _ hu⟩
    · exact ⟨_, by rw [q, upd_same]⟩
  · by_cases hk : k < M.length
    · rw [List.getElem?_append_left hk] at e
      obtain ⟨a, ys, h1, h2, h3, h4⟩ := h.cell k es e
      exact ⟨a, ys, x.pre _ _ h1, h2, sameUpd hp _ _ h3, h4.up x⟩
    · rw [List.getElem?_append_right (by omega)] at e
      cases hk' : k - M.length with
      | succ n => rw [hk'] at e; simp at e
      | zero =>
        rw [hk'] at e
        have e' : ds = es := by simpa using e
        have k' : k = M.length := by omega
        subst e'
        subst k'
        exact ⟨p, xs, here, h.noS hp, upd_same, hr.up x⟩
  · obtain ⟨h1, h2, h3⟩ := h.hid q hq
    have ne : q.1 ≠ p := fun z => by rw [z, hp] at h1; cases h1
    exact ⟨by rw [upd_ne ne]; exact h1, h2, fun z => (List.mem_append.mp z).elim h3 fun z => ne (by simpa using z)⟩
  · obtain ⟨v, e1, q⟩ := h.env i d e
    exact ⟨v, e1, q.up x⟩
theorem nd_ix {l : List Addr} (hN : l.Nodup) {i j : Nat} {x : Addr} (a : l[i]? = some x) (b : l[j]? = some x) : i = j := by
  obtain ⟨h1, e1⟩ := List.getElem?_eq_some_iff.mp a
  obtain ⟨h2, e2⟩ := List.getElem?_eq_some_iff.mp b
  exact (List.getElem_inj hN).mp (e1.trans e2.symm)
/-- an owned list is changed -/
theorem Sat.put (h : Sat K ph S r M σ H) {k : Nat} {ds es : List D} {xs : List V} (hk : M[k]? = some (.lst ds)) {a : Addr} (ha : ph.cells[k]? = some a) (hr : RepAll K ph S xs es) :
    Sat K ph S r (M.set k (.lst es)) σ (upd H a (.lst xs)) := by
  obtain ⟨a', ys, h1, h2, h3, h4⟩ := h.cell k ds hk
  rw [ha] at h1
  cases h1
  have kl : k < M.length := (List.getElem?_eq_some_iff.mp hk).1
  refine ⟨fun b y e => ?_, by rw [List.length_set]; exact h.len, h.nd, fun j b e => ?_, fun j fs e => ?_, fun q hq => ?_, h.hnd, h.el, h.env⟩
  · rw [upd_ne (fun z => by rw [z, h2] at e; cases e)]
    exact h.sub b y e
  · by_cases hb : b = a
    · exact ⟨_, by rw [hb, upd_same]⟩
    · rw [upd_ne hb]; exact h.trk j b e
  · by_cases hj : j = k
    · subst hj
      rw [List.getElem?_set_self kl] at e
      cases e
      exact ⟨a, xs, ha, h2, upd_same, hr⟩
    · rw [List.getElem?_set_ne (Ne.symm hj)] at e
      obtain ⟨b, zs, q1, q2, q3, q4⟩ := h.cell j fs e
      have nb : b ≠ a := fun z => by rw [z] at q1; exact hj (nd_ix h.nd q1 ha)
      exact ⟨b, zs, q1, q2, by rw [upd_ne nb]; exact q3, q4⟩
  · obtain ⟨h1, h2, h3⟩ := h.hid q hq
    have ne : q.1 ≠ a := fun z => h3 (by rw [z]; exact List.mem_of_getElem? ha)
    exact ⟨by rw [upd_ne ne]; exact h1, h2, h3⟩
/-- the names change -/
theorem Sat.setN (h : Sat K ph S r M σ H) {i : Nat} {d : D} {v : V} (q : Rep K ph S v d) : Sat K ph S (r.set i (some d)) M (σ.set i (some v)) H := by
  refine ⟨h.sub, h.len, h.nd, h.trk, h.cell, h.hid, h.hnd, by rw [List.length_set, List.length_set]; exact h.el, fun j e hj => ?_⟩
  by_cases hi : j = i
  · subst hi
    have jl : j < r.length := by
      have := (List.getElem?_eq_some_iff.mp hj).1
      rwa [List.length_set] at this
    rw [List.getElem?_set_self jl] at hj
    cases hj
    exact ⟨v, by rw [List.getElem?_set_self (by rw [← h.el]; exact jl)], q⟩
  · rw [List.getElem?_set_ne (Ne.symm hi)] at hj
    rw [List.getElem?_set_ne (Ne.symm hi)]
    exact h.env j e hj
/-- a new list, out of sight while it is made -/
theorem Sat.hide (h : Sat K ph S r M σ H) (hp : H p = none) (o : HO) : Sat K { ph with hid := (p, o) :: ph.hid } S r M σ (upd H p o) := by
  refine ⟨fun b y e => sameUpd hp _ _ (h.sub b y e), h.len, h.nd, fun k a e => ?_, fun k ds e => ?_, fun q hq => ?_, ?_, h.el, fun i d e => ?_⟩
  · obtain ⟨u, hu⟩ := h.trk k a e
    exact ⟨u, sameUpd hp _ _ hu⟩
  · obtain ⟨a, xs, h1, h2, h3, h4⟩ := h.cell k ds e
    exact ⟨a, xs, h1, h2, sameUpd hp _ _ h3, RepAll.hid h4⟩
  · rcases List.mem_cons.mp hq with e | hq
    · rw [e]
      exact ⟨upd_same, h.noS hp, fun z => by
        obtain ⟨k, hk⟩ := List.mem_iff_getElem?.mp z
        exact h.notin hp k hk⟩
    · obtain ⟨h1, h2, h3⟩ := h.hid q hq
      exact ⟨sameUpd hp _ _ h1, h2, h3⟩
  · refine List.nodup_cons.mpr ⟨fun z => ?_, h.hnd⟩
    obtain ⟨q, hq, e⟩ := List.mem_map.mp z
    obtain ⟨h1, _, _⟩ := h.hid q hq
    have e' : q.1 = p := e
    rw [e', hp] at h1; cases h1
  · obtain ⟨v, e1, q⟩ := h.env i d e
    exact ⟨v, e1, Rep.hid q⟩
theorem hid_ne {p : Addr} {o : HO} {l : List (Addr × HO)} (h : ((p, o) :: l).map (·.1) |>.Nodup) : ∀ q ∈ l, q.1 ≠ p := fun q hq e =>
  (List.nodup_cons.mp h).1 (List.mem_map.mpr ⟨q, hq, e⟩)
/-- the hidden list changes -/
theorem Sat.hset {o o' : HO} {l : List (Addr × HO)} {c : List Addr} (h : Sat K ⟨c, (p, o) :: l⟩ S r M σ H) : Sat K ⟨c, (p, o') :: l⟩ S r M σ (upd H p o') := by
  obtain ⟨g1, g2, g3⟩ := h.hid _ List.mem_cons_self
  have nS : ∀ b y, S b = some y → b ≠ p := fun b y e z => by rw [z, g2] at e; cases e
  have nc : ∀ (k : Nat) (a : Addr), c[k]? = some a → a ≠ p := fun k a e z => g3 (by rw [← z]; exact List.mem_of_getElem? e)
  refine ⟨fun b y e => by rw [upd_ne (nS b y e)]; exact h.sub b y e, h.len, h.nd, fun k a e => ?_, fun k ds e => ?_, fun q hq => ?_, h.hnd, h.el, fun i d e => ?_⟩
  · obtain ⟨u, hu⟩ := h.trk k a e
    exact ⟨u, by rw [upd_ne (nc k a e)]; exact hu⟩
  · obtain ⟨a, xs, h1, h2, h3, h4⟩ := h.cell k ds e
    exact ⟨a, xs, h1, h2, by rw [upd_ne (nc k a h1)]; exact h3, RepAll.hid h4⟩
  · rcases List.mem_cons.mp hq with e | hq
    · rw [e]
      exact ⟨upd_same, g2, g3⟩
    · obtain ⟨h1, h2, h3⟩ := h.hid q (List.mem_cons_of_mem _ hq)
      exact ⟨by rw [upd_ne (hid_ne h.hnd q hq)]; exact h1, h2, h3⟩
  · obtain ⟨v, e1, q⟩ := h.env i d e
    exact ⟨v, e1, Rep.hid q⟩
/-- the hidden list is done: it is only read from now on -/
theorem Sat.hfrz {o : HO} {l : List (Addr × HO)} {c : List Addr} (h : Sat K ⟨c, (p, o) :: l⟩ S r M σ H) : Ext ⟨c, l⟩ S ⟨c, l⟩ (upd S p o) ∧ Sat K ⟨c, l⟩ (upd S p o) r M σ H := by
  obtain ⟨g1, g2, g3⟩ := h.hid _ List.mem_cons_self
  have x : Ext ⟨c, l⟩ S ⟨c, l⟩ (upd S p o) := ⟨fun _ _ e => e, sameUpd g2, rfl⟩
  refine ⟨x, fun b y e => ?_, h.len, h.nd, h.trk, fun k ds e => ?_, fun q hq => ?_, (List.nodup_cons.mp h.hnd).2, h.el, fun i d e => ?_⟩
  · by_cases hb : b = p
    · rw [hb, upd_same] at e
      rw [hb, ← e]; exact g1
    · rw [upd_ne hb] at e
      exact h.sub b y e
  · obtain ⟨a, xs, h1, h2, h3, h4⟩ := h.cell k ds e
    have ne : a ≠ p := fun z => g3 (by rw [← z]; exact List.mem_of_getElem? h1)
    exact ⟨a, xs, h1, by rw [upd_ne ne]; exact h2, h3, (RepAll.hid h4).up x⟩
  · obtain ⟨h1, h2, h3⟩ := h.hid q (List.mem_cons_of_mem _ hq)
    exact ⟨h1, by rw [upd_ne (hid_ne h.hnd q hq)]; exact h2, h3⟩
  · obtain ⟨v, e1, q⟩ := h.env i d e
    exact ⟨v, e1, (Rep.hid q).up x⟩
/-- .. or it is owned from now on -/
theorem Sat.hown {xs : List V} {ds : List D} {l : List (Addr × HO)} {c : List Addr} (h : Sat K ⟨c, (p, .lst xs) :: l⟩ S r M σ H) (q : RepAll K ⟨c, l⟩ S xs ds) :
    Ext ⟨c, l⟩ S ⟨c ++ [p], l⟩ S ∧ Sat K ⟨c ++ [p], l⟩ S r (M ++ [.lst ds]) σ H ∧ (c ++ [p])[M.length]? = some p := by
  obtain ⟨g1, g2, g3⟩ := h.hid _ List.mem_cons_self
  have hl : c.length = M.length := h.len
  have x : Ext ⟨c, l⟩ S ⟨c ++ [p], l⟩ S := ⟨fun k a e => by
    show (c ++ [p])[k]? = _
    rw [List.getElem?_append_left (List.getElem?_eq_some_iff.mp e).1]; exact e, fun _ _ e => e, rfl⟩
  have here : (c ++ [p])[M.length]? = some p := by rw [← hl, List.getElem?_append_right (Nat.le_refl _), Nat.sub_self]; rfl
  have old : ∀ (k : Nat) (a : Addr), (c ++ [p])[k]? = some a → c[k]? = some a ∨ a = p := fun k a e => by
    by_cases hk : k < c.length
    · rw [List.getElem?_append_left hk] at e
      exact .inl e
    · rw [List.getElem?_append_right (by omega)] at e
      cases hk' : k - c.length with
      | zero => rw [hk'] at e; exact .inr (Option.some.inj e).symm
      | succ n => rw [hk'] at e; simp at e
  refine ⟨x, ⟨h.sub, ?_, ?_, fun k a e => ?_, fun k es e => ?_, fun q hq => ?_, (List.nodup_cons.mp h.hnd).2, h.el, fun i d e => ?_⟩, here⟩
  · show (c ++ [p]).length = _
    rw [List.length_append, List.length_append, hl]; rfl
  · show (c ++ [p]).Nodup
    rw [List.nodup_append]
    exact ⟨h.nd, by simp, fun a ha b hb z => g3 (by rw [show b = p by simpa using hb] at z; rw [← z]; exact ha)⟩
  · rcases old k a e with z | z
    · exact h.trk k a z
    · exact ⟨_, by rw [z]; exact g1⟩
  · by_cases hk : k < M.length
    · rw [List.getElem?_append_left hk] at e
      obtain ⟨a, ys, h1, h2, h3, h4⟩ := h.cell k es e
      exact ⟨a, ys, x.pre _ _ h1, h2, h3, (RepAll.hid h4).up x⟩
    · rw [List.getElem?_append_right (by omega)] at e
      cases hk' : k - M.length with
      | succ n => rw [hk'] at e; simp at e
      | zero =>
        rw [hk'] at e
        have e' : ds = es := by simpa using e
        have k' : k = M.length := by omega
        subst e'
        subst k'
        exact ⟨p, xs, here, g2, g1, q.up x⟩
  · obtain ⟨h1, h2, h3⟩ := h.hid q (List.mem_cons_of_mem _ hq)
    exact ⟨h1, h2, fun z => by
      rcases List.mem_append.mp z with z | z
      · exact h3 z
      · exact hid_ne h.hnd q hq (by simpa using z)⟩
  · obtain ⟨v, e1, q⟩ := h.env i d e
    exact ⟨v, e1, (Rep.hid q).up x⟩
/-! ### data as the library's data -/
variable {X : Cx} {pins : List (Addr × Obj)} {s : Shared}
mutual
theorem Rep.reads (I : Inv X pins σ H s) : ∀ (d : D) (v : V) (u : Value) (p : PyData), Rep X.K ph H v d → RelV v u → toPy d = some p → ∃ as, Reads s.heap u p as ∧ ∀ a ∈ as, H a ≠ none
  | .non, _, _, _, h, rv, e => by cases h; cases rv; cases e; exact ⟨_, .none, fun _ z => nomatch z⟩
  | .bl _, _, _, _, h, rv, e => by cases h; cases rv; cases e; exact ⟨_, .bool _, fun _ z => nomatch z⟩
  | .int _, _, _, _, h, rv, e => by cases h; obtain ⟨t, rfl⟩ := rv; cases e; exact ⟨_, .int _ _, fun _ z => nomatch z⟩
  | .str _, _, _, _, h, rv, e => by cases h; obtain ⟨t, rfl⟩ := rv; cases e; exact ⟨_, .str _ _, fun _ z => nomatch z⟩
  | .tup ds, _, _, _, h, rv, e => by
    cases h with
    | tup h1 h2 =>
      cases rv
      simp only [toPy] at e
      split at e
      · rename_i ps ep
        cases e
        obtain ⟨its, rx, ⟨o, ho, hc, n, hd⟩, _⟩ := I.tuple (h1.sq fun _ _ z => z)
        obtain ⟨as, q, qa⟩ := RepAll.reads I ds _ its ps h2 rx ep
        exact ⟨_, .tuple ho hc hd q, qa⟩
      · cases e
  | .lst ds, _, _, _, h, rv, e => by
    cases h with
    | lst h1 h2 =>
      cases rv
      simp only [toPy] at e
      split at e
      · rename_i ps ep
        cases e
        obtain ⟨its, rx, ⟨o, n, ho, hc, _, hd⟩, _⟩ := I.list (SqL.of h1)
        obtain ⟨as, q, qa⟩ := RepAll.reads I ds _ its ps h2 rx ep
        refine ⟨_, .list ho hc hd q, fun a ha => ?_⟩
        rcases List.mem_cons.mp ha with e | ha
        · rw [e, h1]; exact fun z => nomatch z
        · exact qa a ha
      · cases e
  | .dct0, _, _, _, h, rv, e => by
    cases h with
    | dct0 h1 =>
      cases rv
      cases e
      obtain ⟨_, _, vs, hk, o, es, ep, ho, hx, hd, _, he, _⟩ := I.hok _ _ h1
      cases hk
      have e0 : es = #[] := by
        cases es with
        | mk l =>
          cases l with
          | nil => rfl
          | cons x l => exact nomatch he
      subst e0
      refine ⟨_, .dict ho hx.1 hd .nil .nil, fun a ha => ?_⟩
      simp at ha
      rw [ha, h1]; exact fun z => nomatch z
  | .scr ns, _, _, _, _, _, e => by cases e
  | .own _, _, _, _, _, _, e => by cases e
  | .exc _ _, _, _, _, _, _, e => by cases e
  | .glb _, _, _, _, _, _, e => by cases e
  | .val _, _, _, _, _, _, e => by cases e
theorem RepAll.reads (I : Inv X pins σ H s) : ∀ (ds : List D) (vs : List V) (us : List Value) (ps : List PyData), RepAll X.K ph H vs ds → Vals vs us → toPyAll ds = some ps → ∃ as, ReadsAll s.heap us ps as ∧ ∀ a ∈ as, H a ≠ none
  | [], _, _, _, h, rv, e => by cases h; cases rv; cases e; exact ⟨_, .nil, fun _ z => nomatch z⟩
  | d :: ds, _, _, _, h, rv, e => by
    cases h with
    | cons h1 h2 =>
      cases rv with
      | cons r1 r2 =>
        simp only [toPyAll] at e
        split at e
        · rename_i p ps ep eps
          cases e
          obtain ⟨as, q1, a1⟩ := Rep.reads I d _ _ p h1 r1 ep
          obtain ⟨bs, q2, a2⟩ := RepAll.reads I ds _ _ ps h2 r2 eps
          refine ⟨_, .cons q1 q2, fun a ha => ?_⟩
          rcases List.mem_append.mp ha with ha | ha
          · exact a1 a ha
          · exact a2 a ha
        · cases e
end
end
end DL
/-! DL3: operators, comparisons, truth, displays -/
namespace DL
open PySem PySem.Spec PyProof.Rows L2
variable {X : Cx}
/-! ### two values -/
abbrev G2 := D → D → Mem → DQ → Prop
def OpD (X : Cx) (f : Value → Value → Sem Value) (g : G2) : Prop :=
  ∀ (pins : List (Addr × Obj)) (s : Shared) (σ : St) (H : Hp) (ph : Ph) (S : Hp) (r : Env) (M : Mem) (x y : V) (dx dy : D) (v u : Value) (Q : DQ),
    Inv X pins σ H s → Sat X.K ph S r M σ H → RelV x v → RelV y u → Rep X.K ph S x dx → Rep X.K ph S y dy → g dx dy M Q →
    wpAny (model X.prog X.w) X.A (f v u) (EP X pins σ (post X.K ph S r σ Q)) X.xe s
theorem OpD.of {f : Value → Value → Sem Value} {r2 : R2} {g : G2} (h : OpR X f r2)
    (w : ∀ (σ : St) (H : Hp) (ph : Ph) (S : Hp) (r : Env) (M : Mem) (x y : V) (dx dy : D) (Q : DQ), Sat X.K ph S r M σ H → Rep X.K ph S x dx → Rep X.K ph S y dy → g dx dy M Q → r2 x y H (post X.K ph S r σ Q)) : OpD X f g :=
  fun pins s σ H ph S r M x y dx dy v u Q I hs rx ry qx qy hg => h pins s σ H x y v u _ I rx ry (w σ H ph S r M x y dx dy Q hs qx qy hg)
theorem binD {a b : Expr} {ta tb : DTE} (ha : DE X a ta) (hb : DE X b tb) {pins : List (Addr × Obj)} {s : Shared} {σ : St} {H : Hp} {ph : Ph} {S : Hp} {r : Env} {M : Mem} {g : D → D → Mem → Prop}
    (I : Inv X pins σ H s) (hs : Sat X.K ph S r M σ H) (h : ta r M fun x M1 => tb r M1 fun y M2 => g x y M2) {α : Type} {Q : α → Shared → Prop} {f : Value → Value → Sem α}
    (hf : ∀ v u s2 x y dx dy H2 ph2 S2 M2, Ext ph S ph2 S2 → Inv X pins σ H2 s2 → Sat X.K ph2 S2 r M2 σ H2 → RelV x v → RelV y u → Rep X.K ph2 S2 x dx → Rep X.K ph2 S2 y dy → g dx dy M2 → wpAny (model X.prog X.w) X.A (f v u) Q X.xe s2) :
    wpAny (model X.prog X.w) X.A (eval a X.env) (fun v s1 => wpAny (model X.prog X.w) X.A (eval b X.env) (fun u s2 => wpAny (model X.prog X.w) X.A (f v u) Q X.xe s2) X.xe s1) X.xe s := by
  refine thn (ha.pe.run pins s σ H _ I ⟨ph, S, r, M, _, hs, h, fun _ _ q => q⟩) fun v s1 ⟨x, H1, I1, r1, ph1, S1, M1, x1, hs1, dx, q1, h1⟩ => ?_
  refine thn (hb.pe.run pins s1 σ H1 _ I1 ⟨ph1, S1, r, M1, _, hs1, h1, fun _ _ q => q⟩) fun u s2 ⟨y, H2, I2, r2, ph2, S2, M2, x2, hs2, dy, q2, h2⟩ => ?_
  exact hf v u s2 x y dx dy H2 ph2 S2 M2 (x1.trans x2) I2 hs2 r1 r2 (q1.up x2) q2 h2
def dOp (g : G2) (ta tb : DTE) : DTE := fun r M Q => ta r M fun x M1 => tb r M1 fun y M2 => g x y M2 Q
theorem EP.up {pins : List (Addr × Obj)} {σ : St} {ph ph1 : Ph} {S S1 : Hp} {r : Env} {Q : DQ} {u : Value} {s : Shared} (x : Ext ph S ph1 S1) (h : EP X pins σ (post X.K ph1 S1 r σ Q) u s) {Q' : VK} (w : ∀ v H', post X.K ph S r σ Q v H' → Q' v H') : EP X pins σ Q' u s :=
  let ⟨v, H', I, rv, q⟩ := h
  ⟨v, H', I, rv, w _ _ (Aft.up x q)⟩
theorem de_op {a b : Expr} {ta tb : DTE} {op : Operator} {g : G2} {pos : Pos} (ho : OpD X (binaryOp op) g) (ha : DE X a ta) (hb : DE X b tb) : DE X (.BinOp a op b pos) (dOp g ta tb) :=
  ⟨⟨fun pins s σ H Q I ⟨ph, S, r, M, Q0, hs, ht, hq⟩ => wpAny_BinOp (binD ha hb I hs ht fun v u s2 x y dx dy H2 ph2 S2 M2 x2 I2 hs2 rx ry qx qy h =>
    thn (ho pins s2 σ H2 ph2 S2 r M2 x y dx dy v u Q0 I2 hs2 rx ry qx qy h) fun _ _ q => EP.up x2 q hq)⟩⟩
theorem de_cmp {a b : Expr} {ta tb : DTE} {op : CmpOp} {g : G2} {pos : Pos} (ho : OpD X (compareOp op) g) (ha : DE X a ta) (hb : DE X b tb) (hm : behindInMarks op b = false) : DE X (.Compare a [op] [b] pos) (dOp g ta tb) :=
  ⟨⟨fun pins s σ H Q I ⟨ph, S, r, M, Q0, hs, ht, hq⟩ => wpAny_Compare1 (binD ha hb I hs ht fun v u s2 x y dx dy H2 ph2 S2 M2 x2 I2 hs2 rx ry qx qy h =>
    thn (ho pins s2 σ H2 ph2 S2 r M2 x y dx dy v u Q0 I2 hs2 rx ry qx qy h) fun _ _ q => EP.up x2 q hq) hm⟩⟩
/-! ### arithmetic -/
/-- of moderate size -/
def Sm (i : Int) : Prop := i.natAbs.log2 < 400000
theorem Sm.of {i : Int} (n : Nat) (h : i.natAbs < 2 ^ n) (hn : n ≤ 400000 := by decide) : Sm i := by
  unfold Sm
  by_cases h0 : i.natAbs = 0
  · rw [h0]; decide
  · exact Nat.lt_of_lt_of_le ((Nat.log2_lt h0).mpr h) hn
def rBin (C : Int → Int → Prop) (f : Int → Int → Int) : G2 := fun x y M Q => match x, y with
  | .int i, .int j => C i j ∧ Q (.int (f i j)) M
  | _, _ => False
theorem opd_int {F : Value → Value → Sem Value} {C : Int → Int → Prop} {f : Int → Int → Int} (h : OpR X F (rI C fun i j => .int (f i j))) : OpD X F (rBin C f) :=
  OpD.of h fun σ H ph S r M x y dx dy Q hs rx ry hg => by
    cases dx <;> cases dy <;> first | exact hg.elim | skip
    cases rx; cases ry
    exact ⟨_, _, rfl, rfl, hg.1, Aft.here hs ⟨_, .int _, hg.2⟩⟩
theorem opd_sub : OpD X (binaryOp .Sub) (rBin (fun _ _ => True) fun i j => i - j) := opd_int (fun pins s σ H x y v u Q I r1 r2 ⟨i, j, e1, e2, _, q⟩ => op_sub pins s σ H x y v u Q I r1 r2 ⟨i, j, e1, e2, q⟩)
def CMul (i j : Int) : Prop := Sm i ∧ Sm j
def CDiv (_ j : Int) : Prop := j ≠ 0 ∧ j.natAbs.log2 < 9000
def CMod (_ j : Int) : Prop := j ≠ 0
def CPow (a n : Int) : Prop := 0 ≤ n ∧ (Builtin.Int.intBits a : Int) * n ≤ 2 ^ 27
theorem opd_mulI : OpD X (binaryOp .Mult) (rBin CMul fun i j => i * j) := opd_int (fun pins s σ H x y v u Q I r1 r2 ⟨i, j, e1, e2, c, q⟩ => op_mulW pins s σ H x y v u Q I r1 r2 ⟨i, j, e1, e2, by have h1 := c.1; have h2 := c.2; unfold Sm at h1 h2; unfold L2.CMulW; omega, q⟩)
theorem op_fdivG : OpR X (binaryOp .FloorDiv) (rI CDiv fun i j => .int (i.fdiv j)) := opI fun i j _ _ _ _ _ hc q => floordiv_int hc.1 q (.inl (PyProof.noPylong_of_log2 hc.2))
theorem opd_fdiv : OpD X (binaryOp .FloorDiv) (rBin CDiv fun i j => i.fdiv j) := opd_int op_fdivG
theorem opd_mod : OpD X (binaryOp .Mod) (rBin CMod fun i j => i.fmod j) := opd_int op_modN
theorem op_powG : OpR X (binaryOp .Pow) (rI CPow fun i j => .int (i ^ j.toNat)) := opI fun i j _ _ _ _ _ hc q => pow_int hc.1 hc.2 q
theorem opd_pow : OpD X (binaryOp .Pow) (rBin CPow fun i j => i ^ j.toNat) := opd_int op_powG
/-- x + y -/
def gAdd : G2 := fun x y M Q => match x, y with
  | .int i, .int j => Q (.int (i + j)) M
  | .str a, .str b => a.length + b.length ≤ sizeLine ∧ Q (.str (a ++ b)) M
  | .lst a, .lst b => a.length + b.length ≤ sizeLine ∧ Q (.lst (a ++ b)) M
  | .tup a, .tup b => a.length + b.length ≤ sizeLine ∧ Q (.tup (a ++ b)) M
  | .own k, .lst b => match M[k]? with
    | some (.lst a) => a.length + b.length ≤ sizeLine ∧ Q (.lst (a ++ b)) M
    | _ => False
  | .lst b, .own k => match M[k]? with
    | some (.lst a) => b.length + a.length ≤ sizeLine ∧ Q (.lst (b ++ a)) M
    | _ => False
  | _, _ => False
theorem Aft.frz {K : PySem.W.Frag} {ph : Ph} {S : Hp} {r : Env} {σ : St} {H : Hp} {M : Mem} {p : Addr} {o : HO} {Q : Ph → Hp → Mem → Prop} (h : Sat K ph S r M σ H) (hp : H p = none) (q : Ext ph S ph (upd S p o) → Q ph (upd S p o) M) : Aft K ph S r σ (upd H p o) Q :=
  let ⟨x, hs⟩ := h.frz hp o
  ⟨ph, _, M, x, hs, q x⟩
theorem opd_add : OpD X (binaryOp .Add) gAdd := by
  intro pins s σ H ph S r M x y dx dy v u Q I hs rx ry qx qy hg
  cases dx <;> cases dy <;> first | exact hg.elim | skip
  · cases qx; cases qy
    exact op_add pins s σ H _ _ v u _ I rx ry ⟨_, _, rfl, rfl, Aft.here hs ⟨_, .int _, hg⟩⟩
  · cases qx; cases qy
    exact op_add_str pins s σ H _ _ v u _ I rx ry ⟨_, _, rfl, rfl, hg.1, Aft.here hs ⟨_, .str _, hg.2⟩⟩
  · cases qx with
    | tup h1 h2 =>
      cases qy with
      | tup h3 h4 =>
        obtain ⟨hz, q⟩ := hg
        rename_i xs _ ys
        have e1 := h2.len
        have e2 := h4.len
        refine op_catA pins s σ H _ _ v u _ I rx ry ⟨_, _, xs, ys, rfl, rfl, h1.sq hs.sub, h3.sq hs.sub, by omega, fun z => ?_, fun _ z => ?_, fun _ _ p hp => Aft.frz hs hp fun x => ⟨_, .tup (.inl upd_same) ((h2.app h4).up x), q⟩⟩
        · refine Aft.here hs ⟨_, .tup h3 ?_, q⟩
          rw [z] at h2
          cases h2
          exact h4
        · refine Aft.here hs ⟨_, .tup h1 ?_, q⟩
          rw [z] at h4
          cases h4
          rw [List.append_nil]; exact h2
  · cases qx with
    | lst h1 h2 =>
      cases qy with
      | lst h3 h4 =>
        have e1 := h2.len
        have e2 := h4.len
        exact op_cat pins s σ H _ _ v u _ I rx ry ⟨_, _, _, _, rfl, rfl, hs.sub _ _ h1, hs.sub _ _ h3, by have := hg.1; omega, fun p hp => Aft.frz hs hp fun x => ⟨_, .lst upd_same ((h2.app h4).up x), hg.2⟩⟩
  · cases qx with
    | lst h1 h2 =>
      cases qy with
      | own h3 =>
        rename_i b k _ _ _
        simp only [gAdd] at hg
        split at hg
        · rename_i a hk
          obtain ⟨a1, xs1, c1, c2, c3, c4⟩ := hs.cell k a hk
          rw [h3] at c1; cases c1
          have e1 := h2.len
          have e2 := c4.len
          exact op_cat pins s σ H _ _ v u _ I rx ry ⟨_, _, _, _, rfl, rfl, hs.sub _ _ h1, c3, by have := hg.1; omega, fun p hp => Aft.frz hs hp fun x => ⟨_, .lst upd_same ((h2.app c4).up x), hg.2⟩⟩
        · exact hg.elim
  · cases qx with
    | own h3 =>
      cases qy with
      | lst h1 h2 =>
        rename_i k b _ _ _
        simp only [gAdd] at hg
        split at hg
        · rename_i a hk
          obtain ⟨a1, xs1, c1, c2, c3, c4⟩ := hs.cell k a hk
          rw [h3] at c1; cases c1
          have e1 := h2.len
          have e2 := c4.len
          exact op_cat pins s σ H _ _ v u _ I rx ry ⟨_, _, _, _, rfl, rfl, c3, hs.sub _ _ h1, by have := hg.1; omega, fun p hp => Aft.frz hs hp fun x => ⟨_, .lst upd_same ((c4.app h2).up x), hg.2⟩⟩
        · exact hg.elim
/-! ### comparisons -/
def gCmpI (p : Int → Int → Bool) : G2 := fun x y M Q => match x, y with
  | .int i, .int j => Q (.bl (p i j)) M
  | _, _ => False
theorem opd_cmpI {F : Value → Value → Sem Value} {p : Int → Int → Bool} (h : OpR X F (rI0 fun i j => .bl (p i j))) : OpD X F (gCmpI p) :=
  OpD.of h fun σ H ph S r M x y dx dy Q hs rx ry hg => by
    cases dx <;> cases dy <;> first | exact hg.elim | skip
    cases rx; cases ry
    exact ⟨_, _, rfl, rfl, Aft.here hs ⟨_, .bl _, hg⟩⟩
theorem opd_lt : OpD X (compareOp .Lt) (gCmpI fun i j => decide (i < j)) := opd_cmpI op_lt
theorem opd_le : OpD X (compareOp .LtE) (gCmpI fun i j => decide (i ≤ j)) := opd_cmpI op_le
theorem opd_gt : OpD X (compareOp .Gt) (gCmpI fun i j => decide (j < i)) := opd_cmpI op_gt
theorem opd_ge : OpD X (compareOp .GtE) (gCmpI fun i j => decide (j ≤ i)) := opd_cmpI op_ge
/-- an owned list as it stands -/
def res (M : Mem) : D → D
  | .own k => match M[k]? with
    | some (.lst ds) => .lst ds
    | _ => .own k
  | d => d
theorem Rep.res {K : PySem.W.Frag} {ph : Ph} {S : Hp} {r : Env} {M : Mem} {σ : St} {H : Hp} {v : V} {d : D} (hs : Sat K ph S r M σ H) (q : Rep K ph S v d) : Rep K ph H v (res M d) := by
  cases d <;> first | exact hs.read q | skip
  rename_i k
  unfold DL.res
  dsimp only
  split
  · rename_i ds hk
    cases q with
    | own h =>
      obtain ⟨a, xs, c1, c2, c3, c4⟩ := hs.cell k ds hk
      rw [h] at c1; cases c1
      exact .lst c3 (hs.readAll c4)
  · exact hs.read q
/-- data that may be compared -/
def cmpd (d : D) : Option PyData := match toPy d with
  | some p => if SeqAt.shaped p = true then some p else none
  | none => none
theorem cmpd_some {d : D} {p : PyData} (h : cmpd d = some p) : toPy d = some p ∧ SeqAt.shaped p = true := by
  unfold cmpd at h
  split at h
  · rename_i p' e
    by_cases hs : SeqAt.shaped p' = true
    · rw [if_pos hs] at h; cases h; exact ⟨e, hs⟩
    · rw [if_neg hs] at h; cases h
  · cases h
/-- x == y of two data read; none: not covered -/
def eqB (x y : D) : Option Bool := match x, y with
  | .str a, .str b => some (a == b)
  | x, y => match cmpd x, cmpd y with
    | some p, some q => some (PyData.eqv p q)
    | _, _ => none
theorem eqB_of {x y : D} {b : Bool} (h : eqB x y = some b) : (∃ p q, x = .str p ∧ y = .str q ∧ b = (p == q)) ∨ ∃ p q, cmpd x = some p ∧ cmpd y = some q ∧ b = PyData.eqv p q := by
  unfold eqB at h
  split at h
  · exact .inl ⟨_, _, rfl, rfl, (Option.some.inj h).symm⟩
  · split at h
    · rename_i e1 e2; exact .inr ⟨_, _, e1, e2, (Option.some.inj h).symm⟩
    · cases h
def gEq : G2 := fun x y M Q => match eqB (res M x) (res M y) with
  | some b => Q (.bl b) M
  | none => False
def gNe : G2 := fun x y M Q => match eqB (res M x) (res M y) with
  | some b => Q (.bl (!b)) M
  | none => False
theorem res_str {M : Mem} {d : D} {z : Str} (h : res M d = .str z) : d = .str z := by
  cases d <;> first | exact h | skip
  rename_i k
  unfold res at h
  dsimp only at h
  split at h <;> cases h
theorem opd_eq (hu : X.A.units + 64 < cLine) : OpD X (compareOp .Eq) gEq := by
  intro pins s σ H ph S r M x y dx dy v u Q I hs rx ry qx qy hg
  unfold gEq at hg
  split at hg
  · rename_i b e
    rcases eqB_of e with ⟨p, q, e1, e2, rfl⟩ | ⟨p, q, e1, e2, rfl⟩
    · cases res_str e1; cases res_str e2
      cases qx; cases qy
      obtain ⟨_, rfl⟩ := rx
      obtain ⟨_, rfl⟩ := ry
      exact PyProof.Rows.eq_str ⟨.bl _, H, I, rfl, Aft.here hs ⟨_, .bl _, hg⟩⟩
    · obtain ⟨as, h1, _⟩ := Rep.reads I _ _ _ _ (Rep.res hs qx) rx (cmpd_some e1).1
      obtain ⟨bs, h2, _⟩ := Rep.reads I _ _ _ _ (Rep.res hs qy) ry (cmpd_some e2).1
      exact SeqAt.compareEq_shaped h1 h2 (cmpd_some e1).2 (cmpd_some e2).2 hu ⟨.bl _, H, I, rfl, Aft.here hs ⟨_, .bl _, hg⟩⟩
  · exact hg.elim
theorem opd_ne (hu : X.A.units + 64 < cLine) : OpD X (compareOp .NotEq) gNe := by
  intro pins s σ H ph S r M x y dx dy v u Q I hs rx ry qx qy hg
  unfold gNe at hg
  split at hg
  · rename_i b e
    rcases eqB_of e with ⟨p, q, e1, e2, rfl⟩ | ⟨p, q, e1, e2, rfl⟩
    · cases res_str e1; cases res_str e2
      cases qx; cases qy
      obtain ⟨_, rfl⟩ := rx
      obtain ⟨_, rfl⟩ := ry
      exact PyProof.Rows.ne_str ⟨.bl _, H, I, rfl, Aft.here hs ⟨_, .bl _, hg⟩⟩
    · obtain ⟨as, h1, _⟩ := Rep.reads I _ _ _ _ (Rep.res hs qx) rx (cmpd_some e1).1
      obtain ⟨bs, h2, _⟩ := Rep.reads I _ _ _ _ (Rep.res hs qy) ry (cmpd_some e2).1
      exact SeqAt.compareNe_shaped h1 h2 (cmpd_some e1).2 (cmpd_some e2).2 hu ⟨.bl _, H, I, rfl, Aft.here hs ⟨_, .bl _, hg⟩⟩
  · exact hg.elim
/-- x in y, y a list -/
def gIn (neg : Bool) : G2 := fun x y M Q => match cmpd (res M x), cmpd (res M y) with
  | some p, some (.list ps) => Q (.bl ((ps.any fun z => PyData.eqv z p) != neg)) M
  | _, _ => False
end DL
/-! DL4: is, truth, chains, and/or/not, displays, subscripts, argument lists -/
namespace DL
open PySem PySem.Spec PyProof.Rows L2
variable {X : Cx}
/-! ### is -/
/-- x is y, y written None, True or False -/
def isB (x y : D) : Option Bool := match x, y with
  | .non, .non => some true
  | .bl b, .non => some false
  | .int _, .non => some false
  | .str _, .non => some false
  | .tup _, .non => some false
  | .lst _, .non => some false
  | .own _, .non => some false
  | .dct0, .non => some false
  | .exc _ _, .non => some false
  | .bl a, .bl b => some (decide (a = b))
  | .non, .bl _ => some false
  | .int _, .bl _ => some false
  | .str _, .bl _ => some false
  | .tup _, .bl _ => some false
  | .lst _, .bl _ => some false
  | .own _, .bl _ => some false
  | .dct0, .bl _ => some false
  | _, _ => none
def gIs (neg : Bool) : G2 := fun x y M Q => match isB x y with
  | some b => Q (.bl (b != neg)) M
  | none => False
/-! ### truth -/
def tru (M : Mem) : D → Option Bool
  | .non => some false
  | .bl b => some b
  | .int i => some (i != 0)
  | .str x => if x.length ≤ sizeLine then some ((x.length : Int) != 0) else none
  | .tup l => some (!l.isEmpty)
  | .lst l => some (!l.isEmpty)
  | .own k => match M[k]? with
    | some (.lst l) => some (!l.isEmpty)
    | _ => none
  | .dct0 => some false
  | _ => none
theorem isEmp {K : PySem.W.Frag} {ph : Ph} {S : Hp} {xs : List V} {ds : List D} (h : RepAll K ph S xs ds) : (!ds.isEmpty) = !xs.isEmpty := by cases h <;> rfl
theorem tru_V {K : PySem.W.Frag} {ph : Ph} {S : Hp} {r : Env} {M : Mem} {σ : St} {H : Hp} {x : V} {d : D} {k : Bool} (hs : Sat K ph S r M σ H) (q : Rep K ph S x d) (h : tru M d = some k) : TruV K x H k := by
  cases d with
  | non => cases q; exact (Option.some.inj h).symm
  | bl b => cases q; exact (Option.some.inj h).symm
  | int i => cases q; exact (Option.some.inj h).symm
  | str z =>
    cases q
    have h' : (if z.length ≤ sizeLine then some ((z.length : Int) != 0) else none) = some k := h
    by_cases hz : z.length ≤ sizeLine
    · rw [if_pos hz] at h'
      exact ⟨hz, (Option.some.inj h').symm⟩
    · rw [if_neg hz] at h'; cases h'
  | tup l =>
    cases q with
    | tup h1 h2 => exact .inr (.inl ⟨_, h1.sq hs.sub, by rw [← isEmp h2]; exact (Option.some.inj h).symm⟩)
  | lst l =>
    cases q with
    | lst h1 h2 => exact .inl ⟨_, SqL.of (hs.sub _ _ h1), by rw [← isEmp h2]; exact (Option.some.inj h).symm⟩
  | dct0 =>
    cases q with
    | dct0 h1 => exact .inr (.inr ⟨_, hs.sub _ _ h1, (Option.some.inj h).symm⟩)
  | own j =>
    cases q with
    | own h1 =>
      unfold tru at h
      dsimp only at h
      split at h
      · rename_i l hk
        obtain ⟨a, xs, c1, c2, c3, c4⟩ := hs.cell j l hk
        rw [h1] at c1; cases c1
        exact .inl ⟨_, SqL.of c3, by rw [← isEmp c4]; exact (Option.some.inj h).symm⟩
      · cases h
  | scr ns => cases h
  | exc C d => cases h
  | glb x => cases h
  | val v => cases h
/-- what d's truth is -/
def gTru (d : D) (M : Mem) (Q : Bool → Prop) : Prop := match tru M d with
  | some b => Q b
  | none => False
def dTru (t : DTE) : DTT := fun r M Q => t r M fun d M1 => gTru d M1 fun b => Q b M1
theorem gTru_some {d : D} {M : Mem} {Q : Bool → Prop} (h : gTru d M Q) : ∃ b, tru M d = some b ∧ Q b := by
  unfold gTru at h
  split at h
  · rename_i b e; exact ⟨b, e, h⟩
  · exact h.elim
/-- an expression as a test -/
theorem dt_tru {e : Expr} {t : DTE} (h : DE X e t) (he : ∀ whole, isTrue e X.env whole = (do let v ← whole; standAt e.pos; holding [v] (truthy v)) := by intro _; rfl) : DT X e (dTru t) :=
  DT.of (pt_truth h.pe he) fun ph S r M σ H Q hs ht Q' hq => ⟨ph, S, r, M, _, hs, ht, fun v H1 h1 => by
    obtain ⟨ph1, S1, M1, x1, hs1, d, q1, g1⟩ := h1
    obtain ⟨b, eb, qb⟩ := gTru_some g1
    exact ⟨b, tru_V hs1 q1 eb, hq _ _ ⟨ph1, S1, M1, x1, hs1, qb⟩⟩⟩
/-- a comparison as a test -/
theorem dt_cmp {a b : Expr} {ta tb : DTE} {op : CmpOp} {g : G2} {pos : Pos} (ho : OpD X (compareOp op) g) (ha : DE X a ta) (hb : DE X b tb) (hm : behindInMarks op b = false) : DT X (.Compare a [op] [b] pos) (dTru (dOp g ta tb)) :=
  ⟨⟨fun pins s σ H Q I ⟨ph, S, r, M, Q0, hs, ht, hq⟩ => wpAny_isTrue_Compare1 (binD ha hb I hs ht fun v u s2 x y dx dy H2 ph2 S2 M2 x2 I2 hs2 rx ry qx qy h =>
    thn (ho pins s2 σ H2 ph2 S2 r M2 x y dx dy v u _ I2 hs2 rx ry qx qy h) fun c s3 ⟨z, H3, I3, r3, ph3, S3, M3, x3, hs3, d, q3, g3⟩ => by
      obtain ⟨k, ek, qk⟩ := gTru_some g3
      exact tru_ok pins s3 σ H3 z c Q I3 r3 ⟨k, tru_V hs3 q3 ek, hq _ _ ⟨ph3, S3, M3, x2.trans x3, hs3, qk⟩⟩) hm⟩⟩
/-! ### a < b < c -/
def dChain (g g' : G2) (ta tb tc : DTE) : DTE := fun r M Q => ta r M fun x M1 => tb r M1 fun y M2 => g x y M2 fun z M3 => gTru z M3 fun k => if k = true then tc r M3 fun w M4 => g' y w M4 Q else Q z M3
theorem dt_chain {a b c : Expr} {ta tb tc : DTE} {op op' : CmpOp} {g g' : G2} {pos : Pos} (ho : OpD X (compareOp op) g) (ho' : OpD X (compareOp op') g') (ha : DE X a ta) (hb : DE X b tb) (hc : DE X c tc)
    (hm : lastMarks [op, op'] [b, c] = false := by with_unfolding_all rfl) : DT X (.Compare a [op, op'] [b, c] pos) (dTru (dChain g g' ta tb tc)) := by
  refine ⟨⟨fun pins s σ H Q I ⟨ph, S, r, M, Q0, hs, ht, hq⟩ => ?_⟩⟩
  refine isTrue_chain (thn (ha.pe.run pins s σ H _ I ⟨ph, S, r, M, _, hs, ht, fun _ _ q => q⟩) fun v s1 ⟨x, H1, I1, r1, ph1, S1, M1, x1, hs1, dx, q1, h1⟩ =>
    test_link (thn (hb.pe.run pins s1 σ H1 _ I1 ⟨ph1, S1, r, M1, _, hs1, h1, fun _ _ q => q⟩) fun u s2 ⟨y, H2, I2, r2, ph2, S2, M2, x2, hs2, dy, q2, h2⟩ =>
      thn (ho pins s2 σ H2 ph2 S2 r M2 x y dx dy v u _ I2 hs2 r1 r2 (q1.up x2) q2 h2) fun d s3 ⟨z, H3, I3, r3, ph3, S3, M3, x3, hs3, dz, q3, h3⟩ => ?_)) hm
  obtain ⟨k, ek, qk⟩ := gTru_some h3
  refine thn (tru_ok pins s3 σ H3 z d (fun b H' => b = k ∧ H' = H3) I3 r3 ⟨k, tru_V hs3 q3 ek, rfl, rfl⟩) fun b s4 ⟨H4, I4, eb, eH⟩ => ?_
  rw [eH] at I4
  rw [← eb] at qk ek
  cases b with
  | false =>
    have qk' : gTru dz M3 fun b => Q0 b M3 := qk
    obtain ⟨k2, e2, q2'⟩ := gTru_some qk'
    rw [ek] at e2
    cases e2
    exact ite_ff ⟨H3, I4, hq _ _ ⟨ph3, S3, M3, x1.trans (x2.trans x3), hs3, q2'⟩⟩
  | true =>
    refine ite_tt (test_last (thn (hc.pe.run pins s4 σ H3 _ I4 ⟨ph3, S3, r, M3, _, hs3, qk, fun _ _ q => q⟩) fun w' s5 ⟨z', H5, I5, r5, ph5, S5, M5, x5, hs5, dw, q5, h5⟩ =>
      thn (ho' pins s5 σ H5 ph5 S5 r M5 y z' dy dw u w' _ I5 hs5 r2 r5 (q2.up (x3.trans x5)) q5 h5) fun d' s6 ⟨z2, H6, I6, r6, ph6, S6, M6, x6, hs6, d6, q6, h6⟩ => ?_))
    obtain ⟨k2, e2, q2'⟩ := gTru_some h6
    exact tru_ok pins s6 σ H6 z2 d' Q I6 r6 ⟨k2, tru_V hs6 q6 e2, hq _ _ ⟨ph6, S6, M6, x1.trans (x2.trans (x3.trans (x5.trans x6))), hs6, q2'⟩⟩
theorem de_chain {a b c : Expr} {ta tb tc : DTE} {op op' : CmpOp} {g g' : G2} {pos : Pos} (ho : OpD X (compareOp op) g) (ho' : OpD X (compareOp op') g') (ha : DE X a ta) (hb : DE X b tb) (hc : DE X c tc)
    (hm : lastMarks [op, op'] [b, c] = false := by with_unfolding_all rfl) : DE X (.Compare a [op, op'] [b, c] pos) (dChain g g' ta tb tc) := by
  refine ⟨⟨fun pins s σ H Q I ⟨ph, S, r, M, Q0, hs, ht, hq⟩ => ?_⟩⟩
  refine Compare_chain (thn (ha.pe.run pins s σ H _ I ⟨ph, S, r, M, _, hs, ht, fun _ _ q => q⟩) fun v s1 ⟨x, H1, I1, r1, ph1, S1, M1, x1, hs1, dx, q1, h1⟩ =>
    chain_link (thn (hb.pe.run pins s1 σ H1 _ I1 ⟨ph1, S1, r, M1, _, hs1, h1, fun _ _ q => q⟩) fun u s2 ⟨y, H2, I2, r2, ph2, S2, M2, x2, hs2, dy, q2, h2⟩ =>
      thn (ho pins s2 σ H2 ph2 S2 r M2 x y dx dy v u _ I2 hs2 r1 r2 (q1.up x2) q2 h2) fun d s3 ⟨z, H3, I3, r3, ph3, S3, M3, x3, hs3, dz, q3, h3⟩ => ?_)) hm
  obtain ⟨k, ek, qk⟩ := gTru_some h3
  refine thn (tru_ok pins s3 σ H3 z d (fun b H' => b = k ∧ H' = H3) I3 r3 ⟨k, tru_V hs3 q3 ek, rfl, rfl⟩) fun b s4 ⟨H4, I4, eb, eH⟩ => ?_
  rw [eH] at I4
  rw [← eb] at qk
  cases b with
  | false => exact ite_ff ⟨z, H3, I4, r3, hq _ _ ⟨ph3, S3, M3, x1.trans (x2.trans x3), hs3, _, q3, qk⟩⟩
  | true =>
    exact ite_tt (chain_last (thn (hc.pe.run pins s4 σ H3 _ I4 ⟨ph3, S3, r, M3, _, hs3, qk, fun _ _ q => q⟩) fun w' s5 ⟨z', H5, I5, r5, ph5, S5, M5, x5, hs5, dw, q5, h5⟩ =>
      thn (ho' pins s5 σ H5 ph5 S5 r M5 y z' dy dw u w' _ I5 hs5 r2 r5 (q2.up (x3.trans x5)) q5 h5) fun d' s6 q6 => EP.up (x1.trans (x2.trans (x3.trans x5))) q6 hq))
/-! ### and, or, not -/
def dAnd (t u : DTT) : DTT := fun r M Q => t r M fun c M1 => if c = true then u r M1 Q else Q false M1
def dOr (t u : DTT) : DTT := fun r M Q => t r M fun c M1 => if c = true then Q true M1 else u r M1 Q
def dNot (t : DTT) : DTT := fun r M Q => t r M fun c M1 => Q (!c) M1
variable {a b : Expr} {rest : List Expr} {pos : Pos}
theorem DW.dt {e : Expr} {t : DTT} (h : DW X e t) : DT X e t := ⟨h.pw.pt⟩
theorem dw_and1 {t : DTT} (h : DT X a t) : DW X (.BoolOp .And [a] pos) t := ⟨pw_and1 h.pt⟩
theorem dw_or1 {t : DTT} (h : DT X a t) : DW X (.BoolOp .Or [a] pos) t := ⟨pw_or1 h.pt⟩
theorem dw_and {t u : DTT} (h : DT X a t) (h2 : DW X (.BoolOp .And (b :: rest) pos) u) : DW X (.BoolOp .And (a :: b :: rest) pos) (dAnd t u) :=
  DW.of (pw_and h.pt h2.pw) fun ph S r M σ H Q hs ht Q' hq => ⟨ph, S, r, M, _, hs, ht, fun c H1 ⟨ph1, S1, M1, x1, hs1, h1⟩ => by
    cases c with
    | true => exact ⟨ph1, S1, r, M1, _, hs1, h1, fun c' H2 h2 => hq _ _ (Aft.up x1 h2)⟩
    | false => exact hq _ _ ⟨ph1, S1, M1, x1, hs1, h1⟩⟩
theorem dw_or {t u : DTT} (h : DT X a t) (h2 : DW X (.BoolOp .Or (b :: rest) pos) u) : DW X (.BoolOp .Or (a :: b :: rest) pos) (dOr t u) :=
  DW.of (pw_or h.pt h2.pw) fun ph S r M σ H Q hs ht Q' hq => ⟨ph, S, r, M, _, hs, ht, fun c H1 ⟨ph1, S1, M1, x1, hs1, h1⟩ => by
    cases c with
    | false => exact ⟨ph1, S1, r, M1, _, hs1, h1, fun c' H2 h2 => hq _ _ (Aft.up x1 h2)⟩
    | true => exact hq _ _ ⟨ph1, S1, M1, x1, hs1, h1⟩⟩
theorem dt_not {t : DTT} (h : DT X a t) : DT X (.UnaryOp .Not a pos) (dNot t) :=
  DT.of (pt_not h.pt) fun ph S r M σ H Q hs ht Q' hq => ⟨ph, S, r, M, _, hs, ht, fun c H1 h1 => hq _ _ h1⟩
/-- as values -/
def dAndV (t u : DTE) : DTE := fun r M Q => t r M fun d M1 => gTru d M1 fun c => if c = true then u r M1 Q else Q d M1
def dOrV (t u : DTE) : DTE := fun r M Q => t r M fun d M1 => gTru d M1 fun c => if c = true then Q d M1 else u r M1 Q
def dNotV (t : DTE) : DTE := fun r M Q => t r M fun d M1 => gTru d M1 fun c => Q (.bl (!c)) M1
theorem de_one {op} {t : DTE} (h : DE X a t) : DE X (.BoolOp op [a] pos) t := ⟨pe_one h.pe⟩
theorem de_and {t u : DTE} (h : DE X a t) (h2 : DE X (.BoolOp .And (b :: rest) pos) u) : DE X (.BoolOp .And (a :: b :: rest) pos) (dAndV t u) :=
  DE.of (pe_andT h.pe h2.pe) fun ph S r M σ H Q hs ht Q' hq => ⟨ph, S, r, M, _, hs, ht, fun v H1 ⟨ph1, S1, M1, x1, hs1, d, q1, g1⟩ => by
    obtain ⟨c, ec, qc⟩ := gTru_some g1
    refine ⟨c, tru_V hs1 q1 ec, ?_⟩
    cases c with
    | true => exact ⟨ph1, S1, r, M1, _, hs1, qc, fun c' H2 h2 => hq _ _ (Aft.up x1 h2)⟩
    | false => exact hq _ _ ⟨ph1, S1, M1, x1, hs1, _, q1, qc⟩⟩
theorem de_not {t : DTE} (h : DE X a t) : DE X (.UnaryOp .Not a pos) (dNotV t) :=
  DE.of (pe_notT h.pe) fun ph S r M σ H Q hs ht Q' hq => ⟨ph, S, r, M, _, hs, ht, fun v H1 ⟨ph1, S1, M1, x1, hs1, d, q1, g1⟩ => by
    obtain ⟨c, ec, qc⟩ := gTru_some g1
    exact ⟨c, tru_V hs1 q1 ec, hq _ _ ⟨ph1, S1, M1, x1, hs1, _, .bl _, qc⟩⟩⟩
/-- a if t else b -/
def dIf (t : DTT) (u w : DTE) : DTE := fun r M Q => t r M fun c M1 => if c = true then u r M1 Q else w r M1 Q
theorem de_if {c : Expr} {t : DTT} {u w : DTE} (h : DT X c t) (h1 : DE X a u) (h2 : DE X b w) : DE X (.IfExp c a b pos) (dIf t u w) :=
  DE.of (pe_ifExp h.pt h1.pe h2.pe) fun ph S r M σ H Q hs ht Q' hq => ⟨ph, S, r, M, _, hs, ht, fun c H1 ⟨ph1, S1, M1, x1, hs1, g1⟩ => by
    cases c with
    | true => exact ⟨ph1, S1, r, M1, _, hs1, g1, fun c' H2 h2 => hq _ _ (Aft.up x1 h2)⟩
    | false => exact ⟨ph1, S1, r, M1, _, hs1, g1, fun c' H2 h2 => hq _ _ (Aft.up x1 h2)⟩⟩
/-- -a -/
def gNeg (d : D) (M : Mem) (Q : DQ) : Prop := match d with
  | .int i => Q (.int (-i)) M
  | _ => False
def dNeg (t : DTE) : DTE := fun r M Q => t r M fun d M1 => gNeg d M1 Q
theorem de_neg {t : DTE} (h : DE X a t) : DE X (.UnaryOp .USub a pos) (dNeg t) :=
  DE.of (pe_un un_neg h.pe) fun ph S r M σ H Q hs ht Q' hq => ⟨ph, S, r, M, _, hs, ht, fun v H1 ⟨ph1, S1, M1, x1, hs1, d, q1, g1⟩ => by
    cases d <;> first | exact g1.elim | skip
    cases q1
    exact ⟨_, rfl, hq _ _ ⟨ph1, S1, M1, x1, hs1, _, .int _, g1⟩⟩⟩
/-! ### argument lists, displays -/
def dNil : DTA := fun _ M Q => Q [] M
def dCons (t : DTE) (u : DTA) : DTA := fun r M Q => t r M fun d M1 => u r M1 fun ds M2 => Q (d :: ds) M2
theorem da_nil : DA X [] dNil := DA.of pa_nil fun ph S r M σ H Q hs ht Q' hq => hq _ _ (Aft.here hs ⟨_, .nil, ht⟩)
theorem da_cons {e : Expr} {es : List Expr} {t : DTE} {u : DTA} (h : DE X e t) (h2 : DA X es u) (hs : starEach (e :: es) X.env = (false, eval e X.env) :: starEach es X.env := by rfl) : DA X (e :: es) (dCons t u) :=
  DA.of (pa_cons h.pe h2.pa hs) fun ph S r M σ H Q hs ht Q' hq => ⟨ph, S, r, M, _, hs, ht, fun v H1 ⟨ph1, S1, M1, x1, hs1, d, q1, g1⟩ =>
    ⟨ph1, S1, r, M1, _, hs1, g1, fun vs H2 ⟨ph2, S2, M2, x2, hs2, ds, q2, g2⟩ => hq _ _ ⟨ph2, S2, M2, x1.trans x2, hs2, _, .cons (q1.up x2) q2, g2⟩⟩⟩
def dTup (t : DTA) : DTE := fun r M Q => t r M fun ds M1 => ds.length ≤ sizeLine ∧ Q (.tup ds) M1
def dLst (t : DTA) : DTE := fun r M Q => t r M fun ds M1 => ds.length ≤ sizeLine ∧ Q (.lst ds) M1
/-- a list that will be changed -/
def dOwn (t : DTA) : DTE := fun r M Q => t r M fun ds M1 => ds.length ≤ sizeLine ∧ Q (.own M1.length) (M1 ++ [.lst ds])
theorem de_tup {es : List Expr} {x1} {t : DTA} (h : DA X es t) : DE X (.Tuple es x1 pos) (dTup t) :=
  DE.of (pe_tup h.pa) fun ph S r M σ H Q hs ht Q' hq => ⟨ph, S, r, M, _, hs, ht, fun vs H1 ⟨ph1, S1, M1, x1, hs1, ds, q1, hz, g1⟩ =>
    ⟨by rw [q1.len]; exact hz, fun p hp => hq _ _ (Aft.up x1 (Aft.frz hs1 hp fun x => ⟨_, .tup (.inl upd_same) (q1.up x), g1⟩))⟩⟩
theorem de_lst {es : List Expr} {t : DTA} (h : DA X es t) : DE X (.List es pos) (dLst t) :=
  DE.of (pe_lst h.pa) fun ph S r M σ H Q hs ht Q' hq => ⟨ph, S, r, M, _, hs, ht, fun vs H1 ⟨ph1, S1, M1, x1, hs1, ds, q1, hz, g1⟩ =>
    ⟨by rw [q1.len]; exact hz, fun p hp => hq _ _ (Aft.up x1 (Aft.frz hs1 hp fun x => ⟨_, .lst upd_same (q1.up x), g1⟩))⟩⟩
theorem Aft.own {K : PySem.W.Frag} {ph : Ph} {S : Hp} {r : Env} {σ : St} {H : Hp} {M : Mem} {p : Addr} {xs : List V} {ds : List D} {Q : DQ} (h : Sat K ph S r M σ H) (hp : H p = none) (hr : RepAll K ph S xs ds) (q : Q (.own M.length) (M ++ [.lst ds])) :
    post K ph S r σ Q (.ref p) (upd H p (.lst xs)) :=
  let ⟨x, hs, e⟩ := h.new hp hr
  ⟨_, _, _, x, hs, _, .own e, q⟩
theorem de_own {es : List Expr} {t : DTA} (h : DA X es t) : DE X (.List es pos) (dOwn t) :=
  DE.of (pe_lst h.pa) fun ph S r M σ H Q hs ht Q' hq => ⟨ph, S, r, M, _, hs, ht, fun vs H1 ⟨ph1, S1, M1, x1, hs1, ds, q1, hz, g1⟩ =>
    ⟨by rw [q1.len]; exact hz, fun p hp => hq _ _ (Aft.up x1 (Aft.own hs1 hp q1 g1))⟩⟩
/-! ### subscripts -/
/-- d's item at i, for every kind of sequence -/
def gIx : G2 := fun x y M Q => match res M x, y with
  | .lst l, .int i => match atI l i with
    | some d => Q d M
    | none => False
  | .tup l, .int i => match atI l i with
    | some d => Q d M
    | none => False
  | .scr ns, .int i => match atI ns i with
    | some n => Q (.int n) M
    | none => False
  | _, _ => False
theorem atI_rep {K : PySem.W.Frag} {ph : Ph} {S : Hp} {vs : List V} {ds : List D} {i : Int} {d : D} (h : RepAll K ph S vs ds) (e : atI ds i = some d) : ∃ v, atI vs i = some v ∧ Rep K ph S v d := by
  unfold atI at e ⊢
  rw [h.len]
  cases q : ixN ds.length i with
  | none => rw [q] at e; cases e
  | some j =>
    rw [q] at e
    exact h.get e
theorem atI_map {α β : Type} {f : α → β} {l : List α} {i : Int} {x : α} (e : atI l i = some x) : atI (l.map f) i = some (f x) := by
  unfold atI at e ⊢
  rw [List.length_map]
  cases q : ixN l.length i with
  | none => rw [q] at e; cases e
  | some j =>
    rw [q] at e
    show (l.map f)[j]? = _
    rw [List.getElem?_map]
    rw [show l[j]? = some x from e]
    rfl
/-- an owned list's items represent over S -/
theorem res_lst {K : PySem.W.Frag} {ph : Ph} {S : Hp} {r : Env} {M : Mem} {σ : St} {H : Hp} {v : V} {d : D} {l : List D} (hs : Sat K ph S r M σ H) (q : Rep K ph S v d) (e : res M d = .lst l) : ∃ a xs, v = .ref a ∧ H a = some (.lst xs) ∧ RepAll K ph S xs l := by
  cases d <;> first | (unfold res at e; cases e; done) | skip
  · cases e
    cases q with
    | lst h1 h2 => exact ⟨_, _, rfl, hs.sub _ _ h1, h2⟩
  · rename_i k
    unfold res at e
    dsimp only at e
    split at e
    · rename_i ds hk
      cases e
      cases q with
      | own h =>
        obtain ⟨a, xs, c1, c2, c3, c4⟩ := hs.cell k _ hk
        rw [h] at c1; cases c1
        exact ⟨_, _, rfl, c3, c4⟩
    · cases e
theorem res_tup {M : Mem} {d : D} {l : List D} (e : res M d = .tup l) : d = .tup l := by
  cases d <;> first | exact e | skip
  unfold res at e
  dsimp only at e
  split at e <;> cases e
theorem res_scr {M : Mem} {d : D} {l : List Int} (e : res M d = .scr l) : d = .scr l := by
  cases d <;> first | exact e | skip
  unfold res at e
  dsimp only at e
  split at e <;> cases e
theorem de_ix {ta tb : DTE} (ha : DE X a ta) (hb : DE X b tb) (hs : PlainIx b := by exact fun _ _ => rfl) : DE X (.Subscript a b pos) (dOp gIx ta tb) :=
  DE.of (pe_ix (ix_list.or ix_tup) ha.pe hb.pe hs) fun ph S r M σ H Q hs ht Q' hq => ⟨ph, S, r, M, _, hs, ht, fun v H1 ⟨ph1, S1, M1, x1, hs1, d, q1, g1⟩ =>
    ⟨ph1, S1, r, M1, _, hs1, g1, fun u H2 ⟨ph2, S2, M2, x2, hs2, e, q2, g2⟩ => by
      have q1' := q1.up x2
      have xx := x1.trans x2
      replace g2 : gIx d e M2 Q := g2
      unfold gIx at g2
      split at g2
      · rename_i l i er
        cases q2
        split at g2
        · rename_i d' ei
          obtain ⟨p, xs, rfl, hp, hx⟩ := res_lst hs2 q1' er
          obtain ⟨w, ew, qw⟩ := atI_rep hx ei
          exact .inl ⟨p, xs, i, w, rfl, rfl, SqL.of hp, ew, hq _ _ ⟨ph2, S2, M2, xx, hs2, _, qw, g2⟩⟩
        · exact g2.elim
      · rename_i l i er
        cases q2
        split at g2
        · rename_i d' ei
          cases res_tup er
          cases q1' with
          | tup h1 h2 =>
            obtain ⟨w, ew, qw⟩ := atI_rep h2 ei
            exact .inr ⟨_, _, i, w, rfl, rfl, h1.sq hs2.sub, ew, hq _ _ ⟨ph2, S2, M2, xx, hs2, _, qw, g2⟩⟩
        · exact g2.elim
      · rename_i ns i er
        cases q2
        split at g2
        · rename_i n ei
          cases res_scr er
          cases q1' with
          | scr h1 => exact .inl ⟨_, _, i, _, rfl, rfl, hs2.sub.seq h1, atI_map ei, hq _ _ ⟨ph2, S2, M2, xx, hs2, _, .int _, g2⟩⟩
        · exact g2.elim
      · exact g2.elim⟩⟩
end DL
/-! DL5: defs and their calls -/
namespace DL
open PySem PySem.Spec PyProof.Rows L2
/-! ### a def's promise over the hand layer, where no guard runs -/
structure FnG (P : Program) (w : World) (K : PySem.W.Frag) (mg : Str → Option Value) (base : Heap) (CX : CXT) (k : Nat) (f : Addr) (fd : FuncData) (ps : List Str) (sp : Sp) : Prop where
  len : ∀ vs H Q E, sp vs H Q E → vs.length = ps.length
  run : ∀ (A : Around) (outer : List PySem.Env) (s : Shared) (H : Hp) (args : Args) (us : List Value) (vs : List V) (Q : VK) (E : XK), Room k A → A.guards = some [] → Env0 P w K mg base A outer s H → BindsTo s fd args (ps.zip us) → Vals vs us → sp vs H Q E →
    codeAny (model P w) A (.call (.ref f) args) (CR CX outer P w H s Q E) s
theorem FnG.mono {P : Program} {w : World} {K : PySem.W.Frag} {mg : Str → Option Value} {base : Heap} {CX : CXT} {j k : Nat} {f : Addr} {fd : FuncData} {ps : List Str} {sp : Sp} (F : FnG P w K mg base CX j f fd ps sp) (h : j ≤ k) :
    FnG P w K mg base CX k f fd ps sp := ⟨F.len, fun A outer s H args us vs Q E hr => F.run A outer s H args us vs Q E (hr.mono h)⟩
section
variable {X : Cx} {CX : CXT} {k : Nat} {f : Addr} {fd : FuncData} {ps : List Str} {sp : Sp} {dvs : List V} {ds : List Value} {E : XK} {x : Str} {p pos : Pos} {e : Expr} {es : List Expr} {t : TA}
theorem run_fnG {pins : List (Addr × Obj)} {σ : St} {H : Hp} {s : Shared} {Q : VK} {us : List Value} {vs : List V} (F : FnG X.prog X.w X.K X.mg X.base CX k f fd ps sp) (hr : Room k X.A) (gd : X.A.guards = some []) (hb : Binds X.K fd ps ds) (hd : Vals dvs ds) (hx : Passes CX X E)
    (I : Inv X pins σ H s) (r : Vals vs us) (h : sp (vs ++ dvs) H Q E) : wpAny (model X.prog X.w) X.A (call (.ref f) us) (EP X pins σ Q) X.xe s := by
  have r2 : Vals (vs ++ dvs) (us ++ ds) := r.append hd
  have hl : (us ++ ds).length = ps.length := by rw [← r2.length]; exact F.len _ _ _ _ h
  refine wpAny_call (codeAny_mono (F.run X.A X.stack s H ⟨us, []⟩ (us ++ ds) (vs ++ dvs) Q E hr gd I.env0 (hb s us I.kIn hl) r2 h) fun r s' hq => ?_)
  match r, hq with
  | .error e, hq => exact hx pins σ H s e s' I hq
  | .ok (.ret u), hq => exact I.after hq
  | .ok .next, hq => exact False.elim hq
  | .ok .brk, hq => exact False.elim hq
  | .ok .cont, hq => exact False.elim hq
theorem pe_callG (F : FnG X.prog X.w X.K X.mg X.base CX k f fd ps sp) (hr : Room k X.A) (gd : X.A.guards = some []) (hg : Gl X x) (hm : X.mg x = some (.ref f)) (hk : PySem.W.keepIn X.K (.ref f) = true) (hb : Binds X.K fd ps ds) (hd : Vals dvs ds) (hx : Passes CX X E)
    (ha : PA X (e :: es) t) (hdb : (x == ("__debug__" : Str)) = false := by decide) (he : starEach (e :: es) X.env = (false, eval e X.env) :: starEach es X.env := by rfl) (hpl : (backTo pos (starEach es X.env)).any (·.1) = false := by rfl) :
    PE X (.Call (.Name x p) (e :: es) [] pos) (tCall sp dvs E t) :=
  ⟨fun pins s σ H Q I h => wpAny_Call_Name_kw (ld_glob I hg hm (PySem.W.callWith_K (h₀ := X.base) I.ok.mod.kin hk (thn (ha.run pos pins s σ H _ I h) fun us s1 ⟨vs, H1, I1, r, q⟩ => ⟨I1.kIn, run_fnG F hr gd hb hd hx I1 r q⟩) he hpl) hdb)⟩
theorem pe_callG0 (F : FnG X.prog X.w X.K X.mg X.base CX k f fd ps sp) (hr : Room k X.A) (gd : X.A.guards = some []) (hg : Gl X x) (hm : X.mg x = some (.ref f)) (hk : PySem.W.keepIn X.K (.ref f) = true) (hb : Binds X.K fd ps ds) (hd : Vals dvs ds) (hx : Passes CX X E)
    (hdb : (x == ("__debug__" : Str)) = false := by decide) : PE X (.Call (.Name x p) [] [] pos) (tCall sp dvs E tNil) :=
  ⟨fun pins s σ H Q I h => wpAny_Call_Name_kw (ld_glob I hg hm (PySem.W.callWith_K0 I.kIn hk (run_fnG (us := []) F hr gd hb hd hx I .nil h)) hdb)⟩
end
/-- a def by its body -/
theorem fnG_of {CX : CXT} {P : Program} {w : World} {K : PySem.W.Frag} {mg : Str → Option Value} {base : Heap} {k : Nat} {f : Addr} {name qual : Str} {params : Arguments} {body : List Stmt} {scope : Scope} {dV kV doc pm cdv ct oc : Value} {an od : Option Addr}
    {osl : Array (Option Value)} {N ps : List Str} {sp : Sp} (lk : K.lookup f = some ⟨oc, od, .func (PySem.W.fnOf name qual params body scope dV kV doc pm an cdv ct), osl⟩) (hcd : PySem.W.codeIn K cdv qual = true) (S : FnScope N ps scope)
    (len : ∀ vs H Q E, sp vs H Q E → vs.length = ps.length)
    (hbody : ∀ (A : Around) (outer : List PySem.Env) (s : Shared) (H : Hp) (vs : List V) (Q : VK) (E : XK), Room k (A.deeper (envOfC qual scope s.heap.objs.size f cdv)) → A.guards = some [] → sp vs H Q E →
      ∃ t, PSs (cxOf CX P w K mg base N qual scope f cdv A outer s H E) body t ∧ t { nx := fun _ H' => Q .non H', rt := Q } (start N vs) H) :
    FnG P w K mg base CX (k + 1) f (PySem.W.fnOf name qual params body scope dV kV doc pm an cdv ct) ps sp := by
  refine ⟨len, fun A outer s H args us vs Q E hr gd e0 hb r hsp => ?_⟩
  have hl := len _ _ _ _ hsp
  have KX : K.In s.heap := e0.mod.kin.keeps fun b o e => (e0.bs b o e).1
  have lim : s.heap.NoLimit := e0.mod.nolimit.keeps fun b o e => (e0.bs b o e).1
  refine codeAny_call_function hr.depth (KX _ _ lk) rfl S.co S.gen rfl (PySem.W.codeRec_of KX hcd) (hb _ _ _ _ ?_)
  refine wpAny_newFunctionEnv_cells S.kind (fun y hy => ?_) fun env he s1 x => ?_
  · rcases S.par y.1 (List.of_mem_zip (a := y.1) (b := y.2) hy).1 with q | q
    · exact .inl q
    · exact .inr ⟨q, PySem.W.cellsFrom_some _ _ _ (.inl q)⟩
  subst he
  refine ⟨lim.keeps x.toInCall.keep, codeAny_func ?_⟩
  obtain ⟨t, ht, hq⟩ := hbody A outer s H vs Q E (hr.deeper _) gd hsp
  have I : Inv (cxOf CX P w K mg base N qual scope f cdv A outer s H E) [] (start N vs) H s1 := inv_start S hr.hd e0 hl r x
  refine wpAny_mono (ht.run [] s1 (start N vs) H _ I hq) (fun fl s' hs => ?_) fun e s' hs => hs
  match fl, hs with
  | .ret u, ⟨v, σ', H', J, rv, q⟩ => exact ⟨v, H', J.os, J.bare, J.base, J.hok, rv, q⟩
  | .next, ⟨σ', H', J, q⟩ => exact ⟨V.non, H', J.os, J.bare, J.base, J.hok, rfl, q⟩
  | .brk, ⟨_, _, _, q⟩ => exact False.elim q
  | .cont, ⟨_, _, _, q⟩ => exact False.elim q
/-! ### a def's promise over data -/
/-- what is wanted of an exception: its class, its value, the cells -/
abbrev DX := Str → D → Mem → Prop
abbrev DSp := List D → Mem → DQ → DX → Prop
def DX0 : DX := fun _ _ _ => False
def postM (K : PySem.W.Frag) (ph : Ph) (S : Hp) (Q : DQ) : VK := post K ph S [] [] Q
def postX (K : PySem.W.Frag) (ph : Ph) (S : Hp) (E : DX) : XK := fun cls d H => ∃ (x : Str) (C T dd : Addr) (v : V) (dv : D), XA.ErC K x C T ∧ cls = .ref C ∧ d = some dd ∧
  Aft K ph S [] [] H fun ph' S' M => S' dd = some (.xd [(fVal, v)]) ∧ Rep K ph' S' v dv ∧ E x dv M
def lfSp (K : PySem.W.Frag) (n : Nat) (sp : DSp) : Sp := fun vs H Q E => ∃ ph S M ds Q0 E0, ds.length = n ∧ Sat K ph S [] M [] H ∧ RepAll K ph S vs ds ∧ sp ds M Q0 E0 ∧ (∀ v H', postM K ph S Q0 v H' → Q v H') ∧ (∀ cls d H', postX K ph S E0 cls d H' → E cls d H')
abbrev FnD (P : Program) (w : World) (K : PySem.W.Frag) (mg : Str → Option Value) (base : Heap) (CX : CXT) (k : Nat) (f : Addr) (fd : FuncData) (ps : List Str) (sp : DSp) : Prop :=
  FnG P w K mg base CX k f fd ps (lfSp K ps.length sp)
theorem Sat.drop {K : PySem.W.Frag} {ph : Ph} {S : Hp} {r : Env} {M : Mem} {σ : St} {H : Hp} (h : Sat K ph S r M σ H) : Sat K ph S [] M [] H :=
  ⟨h.sub, h.len, h.nd, h.trk, h.cell, h.hid, h.hnd, rfl, fun i d e => by simp at e⟩
/-- behind a call the names are as they were -/
theorem Sat.back {K : PySem.W.Frag} {ph ph' : Ph} {S S' : Hp} {r : Env} {M M' : Mem} {σ : St} {H H' : Hp} (h : Sat K ph S r M σ H) (x : Ext ph S ph' S') (h' : Sat K ph' S' [] M' [] H') : Sat K ph' S' r M' σ H' :=
  ⟨h'.sub, h'.len, h'.nd, h'.trk, h'.cell, h'.hid, h'.hnd, h.el, fun i d e => let ⟨v, e1, q⟩ := h.env i d e; ⟨v, e1, q.up x⟩⟩
section
variable {X : Cx} {CX : CXT} {k : Nat} {f : Addr} {fd : FuncData} {ps : List Str} {sp : DSp} {x : Str} {p pos : Pos} {e : Expr} {es : List Expr} {t : DTA}
/-- f(..), then the defaults -/
def dCall (n : Nat) (sp : DSp) (dvs : List D) (E : DX) (t : DTA) : DTE := fun r M Q => t r M fun ds M1 => (ds ++ dvs).length = n ∧ sp (ds ++ dvs) M1 Q E
/-- a value that is the same everywhere -/
def Cst (K : PySem.W.Frag) (v : V) (d : D) : Prop := ∀ ph S, Rep K ph S v d
inductive Csts (K : PySem.W.Frag) : List V → List D → Prop
  | nil : Csts K [] []
  | cons {v : V} {d : D} {vs : List V} {ds : List D} : Cst K v d → Csts K vs ds → Csts K (v :: vs) (d :: ds)
theorem Csts.rep {K : PySem.W.Frag} {ph : Ph} {S : Hp} : ∀ {vs : List V} {ds : List D}, Csts K vs ds → RepAll K ph S vs ds
  | _, _, .nil => .nil
  | _, _, .cons h t => .cons (h _ _) t.rep
theorem lf_call {t' : TA} {dvs : List V} {dds : List D} {E' : XK} {E : DX} (hE : ∀ ph S cls d H', postX X.K ph S E cls d H' → E' cls d H') (hc : Csts X.K dvs dds) {ph : Ph} {S : Hp} {r : Env} {M : Mem} {σ : St} {H : Hp} {Q : DQ} {Q' : VK} (hs : Sat X.K ph S r M σ H) (ht : dCall ps.length sp dds E t r M Q) (hq : ∀ v H', post X.K ph S r σ Q v H' → Q' v H')
    (w : ∀ Q1 : List V → Hp → Prop, (∀ vs H', postA X.K ph S r σ (fun ds M1 => (ds ++ dds).length = ps.length ∧ sp (ds ++ dds) M1 Q E) vs H' → Q1 vs H') → t' σ H Q1) : tCall (lfSp X.K ps.length sp) dvs E' t' σ H Q' :=
  w _ fun vs H1 ⟨ph1, S1, M1, x1, hs1, ds, q1, hl, h1⟩ => ⟨ph1, S1, M1, ds ++ dds, Q, E, hl, hs1.drop, q1.app hc.rep, h1, fun v H2 ⟨ph2, S2, M2, x2, hs2, d, q2, h2⟩ => hq _ _ ⟨ph2, S2, M2, x1.trans x2, hs1.back x2 hs2, d, q2, h2⟩, fun cls d H2 h2 => hE _ _ _ _ _ h2⟩
theorem de_callX {dvs : List V} {dds : List D} {ds : List Value} {E' : XK} {E : DX} (F : FnD X.prog X.w X.K X.mg X.base CX k f fd ps sp) (hr : Room k X.A) (gd : X.A.guards = some []) (hm : X.mg x = some (.ref f)) (hk : PySem.W.keepIn X.K (.ref f) = true) (hb : Binds X.K fd ps ds) (hd : Vals dvs ds) (hc : Csts X.K dvs dds) (hx : Passes CX X E') (hE : ∀ ph S cls d H', postX X.K ph S E cls d H' → E' cls d H')
    (ha : DA X (e :: es) t) (hg : Gl X x := by rfl) (hdb : (x == ("__debug__" : Str)) = false := by decide) (he : starEach (e :: es) X.env = (false, eval e X.env) :: starEach es X.env := by rfl) (hpl : (backTo pos (starEach es X.env)).any (·.1) = false := by rfl) :
    DE X (.Call (.Name x p) (e :: es) [] pos) (dCall ps.length sp dds E t) :=
  DE.of (pe_callG F hr gd hg hm hk hb hd hx ha.pa hdb he hpl) fun ph S r M σ H Q hs ht Q' hq => lf_call hE hc hs ht hq fun Q1 hQ1 => ⟨ph, S, r, M, _, hs, ht, hQ1⟩
theorem de_call0X {dvs : List V} {dds : List D} {ds : List Value} {E' : XK} {E : DX} (F : FnD X.prog X.w X.K X.mg X.base CX k f fd ps sp) (hr : Room k X.A) (gd : X.A.guards = some []) (hm : X.mg x = some (.ref f)) (hk : PySem.W.keepIn X.K (.ref f) = true) (hb : Binds X.K fd ps ds) (hd : Vals dvs ds) (hc : Csts X.K dvs dds) (hx : Passes CX X E') (hE : ∀ ph S cls d H', postX X.K ph S E cls d H' → E' cls d H')
    (hg : Gl X x := by rfl) (hdb : (x == ("__debug__" : Str)) = false := by decide) : DE X (.Call (.Name x p) [] [] pos) (dCall ps.length sp dds E dNil) :=
  DE.of (pe_callG0 F hr gd hg hm hk hb hd hx hdb) fun ph S r M σ H Q hs ht Q' hq => lf_call hE hc hs ht hq fun Q1 hQ1 => hQ1 _ _ (Aft.here hs ⟨_, .nil, ht⟩)
theorem pX0 : ∀ ph S cls d H', postX X.K ph S DX0 cls d H' → E0 cls d H' := fun _ _ _ _ _ ⟨_, _, _, _, _, _, _, _, _, _, _, _, _, _, _, _, z⟩ => z
/-- what is told of a def of the module, for its callers -/
structure Def (P : Program) (w : World) (K : PySem.W.Frag) (mg : Str → Option Value) (base : Heap) (CX : CXT) (k : Nat) (x : Str) (st : Stmt) (ps : List Str) (sp : DSp) : Prop where
  ex : ∃ (f : Addr) (fd : FuncData), FnD P w K mg base CX k f fd ps sp ∧ mg x = some (.ref f) ∧ PySem.W.keepIn K (.ref f) = true ∧ Binds K fd ps [] ∧ Fun K x x st f fd
/-- a call of a def from which nothing is raised -/
theorem dcall {n : Nat} {st : Stmt} {P : Program} {w : World} {K : PySem.W.Frag} {mg : Str → Option Value} {base : Heap} (F : Def P w K mg base CX0 k x st ps sp) {j : Nat} (hr : Room j X.A) (gd : X.A.guards = some []) (ha : DA X (e :: es) t) (hj : k ≤ j := by decide) (hn : ps.length = n := by rfl)
    (h1 : P = X.prog := by rfl) (h2 : w = X.w := by rfl) (h3 : K = X.K := by rfl) (h4 : mg = X.mg := by rfl) (h5 : base = X.base := by rfl) (hg : Gl X x := by rfl) (hdb : (x == ("__debug__" : Str)) = false := by decide) (he : starEach (e :: es) X.env = (false, eval e X.env) :: starEach es X.env := by rfl)
    (hpl : (backTo pos (starEach es X.env)).any (·.1) = false := by rfl) : DE X (.Call (.Name x p) (e :: es) [] pos) (dCall n sp [] DX0 t) := by
  subst h1 h2 h3 h4 h5 hn
  obtain ⟨f, fd, h1, h2, h3, h4, _⟩ := F.ex
  exact de_callX h1 (hr.mono hj) gd h2 h3 h4 .nil .nil pass0 pX0 ha hg hdb he hpl
theorem dcall0 {n : Nat} {st : Stmt} {P : Program} {w : World} {K : PySem.W.Frag} {mg : Str → Option Value} {base : Heap} (F : Def P w K mg base CX0 k x st ps sp) {j : Nat} (hr : Room j X.A) (gd : X.A.guards = some []) (hj : k ≤ j := by decide) (hn : ps.length = n := by rfl)
    (h1 : P = X.prog := by rfl) (h2 : w = X.w := by rfl) (h3 : K = X.K := by rfl) (h4 : mg = X.mg := by rfl) (h5 : base = X.base := by rfl) (hg : Gl X x := by rfl) (hdb : (x == ("__debug__" : Str)) = false := by decide) :
    DE X (.Call (.Name x p) [] [] pos) (dCall n sp [] DX0 dNil) := by
  subst h1 h2 h3 h4 h5 hn
  obtain ⟨f, fd, h1, h2, h3, h4, _⟩ := F.ex
  exact de_call0X h1 (hr.mono hj) gd h2 h3 h4 .nil .nil pass0 pX0 hg hdb
end
/-! ### at the end of a def: the cells that it made are left behind -/
mutual
def below (n : Nat) : D → Bool
  | .tup l => belowAll n l
  | .lst l => belowAll n l
  | .own k => decide (k < n)
  | .exc _ d => below n d
  | _ => true
def belowAll (n : Nat) : List D → Bool
  | [] => true
  | d :: ds => below n d && belowAll n ds
end
def belowO (n : Nat) : Own → Bool
  | .lst l => belowAll n l
  | .dead => true
section
variable {K : PySem.W.Frag} {ph : Ph} {S : Hp} {n : Nat}
mutual
theorem Rep.take : ∀ (d : D) (v : V), below n d = true → Rep K ph S v d → Rep K (ph.cut n) S v d
  | .non, _, _, h => by cases h; exact .non
  | .bl _, _, _, h => by cases h; exact .bl _
  | .int _, _, _, h => by cases h; exact .int _
  | .str _, _, _, h => by cases h; exact .str _
  | .tup ds, _, e, h => by
    cases h with
    | tup h1 h2 => exact .tup h1 (RepAll.takeP ds _ (by simpa only [below] using e) h2)
  | .lst ds, _, e, h => by
    cases h with
    | lst h1 h2 => exact .lst h1 (RepAll.takeP ds _ (by simpa only [below] using e) h2)
  | .dct0, _, _, h => by
    cases h with
    | dct0 h1 => exact .dct0 h1
  | .scr ns, _, _, h => by
    cases h with
    | scr h1 => exact .scr h1
  | .own k, _, e, h => by
    cases h with
    | own h1 =>
      have e' : k < n := of_decide_eq_true (by simpa only [below] using e)
      exact .own (by show (ph.cells.take n)[k]? = _; rw [List.getElem?_take_of_lt e']; exact h1)
  | .glb _, _, _, h => by
    cases h with
    | glb h1 => exact .glb h1
  | .exc C d, _, e, h => by
    cases h with
    | exc h0 h1 h2 h3 => exact .exc h0 h1 h2 (Rep.take d _ (by simpa only [below] using e) h3)
  | .val v, _, _, h => by cases h; exact .val _
theorem RepAll.takeP : ∀ (ds : List D) (vs : List V), belowAll n ds = true → RepAll K ph S vs ds → RepAll K (ph.cut n) S vs ds
  | [], _, _, h => by cases h; exact .nil
  | d :: ds, _, e, h => by
    have e' : below n d = true ∧ belowAll n ds = true := by simpa only [belowAll, Bool.and_eq_true] using e
    cases h with
    | cons h1 h2 => exact .cons (Rep.take d _ e'.1 h1) (RepAll.takeP ds _ e'.2 h2)
end
mutual
theorem Rep.belowP : ∀ (d : D) (v : V), Rep K ph S v d → below ph.cells.length d = true
  | .non, _, _ => by simp only [below]
  | .bl _, _, _ => by simp only [below]
  | .int _, _, _ => by simp only [below]
  | .str _, _, _ => by simp only [below]
  | .tup ds, _, h => by
    cases h with
    | tup h1 h2 => simp only [below]; exact RepAll.belowP ds _ h2
  | .lst ds, _, h => by
    cases h with
    | lst h1 h2 => simp only [below]; exact RepAll.belowP ds _ h2
  | .dct0, _, _ => by simp only [below]
  | .scr ns, _, _ => by simp only [below]
  | .own k, _, h => by
    cases h with
    | own h1 => simp only [below]; exact decide_eq_true (List.getElem?_eq_some_iff.mp h1).1
  | .glb _, _, _ => by simp only [below]
  | .exc C d, _, h => by
    cases h with
    | exc h0 h1 h2 h3 => simp only [below]; exact Rep.belowP d _ h3
  | .val v, _, _ => by simp only [below]
theorem RepAll.belowP : ∀ (ds : List D) (vs : List V), RepAll K ph S vs ds → belowAll ph.cells.length ds = true
  | [], _, _ => by simp only [belowAll]
  | d :: ds, _, h => by
    cases h with
    | cons h1 h2 => simp only [belowAll, Bool.and_eq_true]; exact ⟨Rep.belowP d _ h1, RepAll.belowP ds _ h2⟩
end
end
mutual
theorem below.mono {m n : Nat} (hmn : m ≤ n) : ∀ d : D, below m d = true → below n d = true
  | .non, _ => by simp only [below]
  | .bl _, _ => by simp only [below]
  | .int _, _ => by simp only [below]
  | .str _, _ => by simp only [below]
  | .tup ds, h => by
    simp only [below] at h ⊢
    exact belowAll.mono hmn ds h
  | .lst ds, h => by
    simp only [below] at h ⊢
    exact belowAll.mono hmn ds h
  | .dct0, _ => by simp only [below]
  | .scr _, _ => by simp only [below]
  | .own k, h => by
    simp only [below] at h ⊢
    have := of_decide_eq_true h
    exact decide_eq_true (by omega)
  | .glb _, _ => by simp only [below]
  | .exc _ d, h => by
    simp only [below] at h ⊢
    exact below.mono hmn d h
  | .val _, _ => by simp only [below]
theorem belowAll.mono {m n : Nat} (hmn : m ≤ n) : ∀ ds : List D, belowAll m ds = true → belowAll n ds = true
  | [], _ => by simp only [belowAll]
  | d :: ds, h => by
    simp only [belowAll, Bool.and_eq_true] at h ⊢
    exact ⟨below.mono hmn d h.1, belowAll.mono hmn ds h.2⟩
end
/-- d and the cells M1 are what stays of M': all else was made by the def -/
def Rtq (M : Mem) (Q : DQ) : DQ := fun d M' => ∃ M1 G, M' = M1 ++ G ∧ M.length ≤ M1.length ∧ below M1.length d = true ∧ (∀ (i : Nat) (c : Own), M1[i]? = some c → M[i]? = some c ∨ belowO M1.length c = true) ∧ Q d M1
theorem Sat.leave {K : PySem.W.Frag} {ph ph1 : Ph} {S S1 : Hp} {r : Env} {M M1 G : Mem} {σ : St} {H H1 : Hp} (h0 : Sat K ph S [] M [] H) (x : Ext ph S ph1 S1) (h : Sat K ph1 S1 r (M1 ++ G) σ H1) (hl : M.length ≤ M1.length) (hc : ∀ (i : Nat) (c : Own), M1[i]? = some c → M[i]? = some c ∨ belowO M1.length c = true) :
    Ext ph S (ph1.cut M1.length) S1 ∧ Sat K (ph1.cut M1.length) S1 [] M1 [] H1 := by
  have hpl : M1.length ≤ ph1.cells.length := by have := h.len; rw [List.length_append] at this; omega
  have up : ∀ (k : Nat) (a : Addr), k < M1.length → ph1.cells[k]? = some a → (ph1.cut M1.length).cells[k]? = some a := fun k a hk e => by show (ph1.cells.take M1.length)[k]? = _; rw [List.getElem?_take_of_lt hk]; exact e
  have dn : ∀ (k : Nat) (a : Addr), (ph1.cut M1.length).cells[k]? = some a → ph1.cells[k]? = some a := fun k a e => by
    replace e : (ph1.cells.take M1.length)[k]? = some a := e
    have hk : k < M1.length := by
      have := (List.getElem?_eq_some_iff.mp e).1
      rw [List.length_take] at this; omega
    rw [List.getElem?_take_of_lt hk] at e; exact e
  refine ⟨⟨fun k a e => up k a ?_ (x.pre k a e), x.same, x.hid⟩, h.sub, ?_, h.nd.sublist (List.take_sublist _ _), fun k a e => h.trk k a (dn k a e), fun k ds e => ?_, fun q hq => ?_, h.hnd, rfl, fun i d e => by simp at e⟩
  · refine Nat.lt_of_lt_of_le ?_ hl
    rw [← h0.len]; exact (List.getElem?_eq_some_iff.mp e).1
  · show (ph1.cells.take M1.length).length = _
    rw [List.length_take]; omega
  · have kl : k < M1.length := (List.getElem?_eq_some_iff.mp e).1
    obtain ⟨a, xs, c1, c2, c3, c4⟩ := h.cell k ds (by rw [List.getElem?_append_left kl]; exact e)
    refine ⟨a, xs, up k a (by omega) c1, c2, c3, RepAll.takeP ds xs ?_ c4⟩
    rcases hc k _ e with q | q
    · obtain ⟨_, _, _, _, _, b4⟩ := h0.cell k ds q
      refine belowAll.mono hl _ ?_
      rw [← h0.len]; exact RepAll.belowP _ _ b4
    · simpa only [belowO] using q
  · obtain ⟨h1, h2, h3⟩ := h.hid q hq
    exact ⟨h1, h2, fun z => h3 (List.mem_of_mem_take z)⟩
theorem Rtq.out {K : PySem.W.Frag} {ph : Ph} {S : Hp} {M : Mem} {H : Hp} {Q : DQ} (h0 : Sat K ph S [] M [] H) {v : V} {H1 : Hp} (h : postR K ph S (Rtq M Q) v H1) : postM K ph S Q v H1 := by
  obtain ⟨r, σ, ph1, S1, M', x, hs, d, q, M1, G, rfl, hl, hb, hc, hq⟩ := h
  obtain ⟨x2, hs2⟩ := Sat.leave h0 x hs hl hc
  exact ⟨_, _, _, x2, hs2, d, Rep.take d v hb q, hq⟩
/-- the names at the entry -/
def startD (n : Nat) (ds : List D) : Env := ds.map some ++ List.replicate (n - ds.length) none
theorem Sat.start {K : PySem.W.Frag} {ph : Ph} {S : Hp} {M : Mem} {H : Hp} {vs : List V} {ds : List D} (h : Sat K ph S [] M [] H) (q : RepAll K ph S vs ds) (N : List Str) : Sat K ph S (startD N.length ds) M (L2.start N vs) H := by
  refine ⟨h.sub, h.len, h.nd, h.trk, h.cell, h.hid, h.hnd, ?_, fun i d e => ?_⟩
  · unfold startD L2.start
    rw [List.length_append, List.length_append, List.length_map, List.length_map, List.length_replicate, List.length_replicate, q.len]
  · unfold startD at e
    by_cases hi : i < ds.length
    · rw [List.getElem?_append_left (by rw [List.length_map]; exact hi), List.getElem?_map] at e
      cases e' : ds[i]? with
      | none => rw [e'] at e; cases e
      | some d' =>
        rw [e'] at e
        have e2 : d' = d := by simpa using e
        subst e2
        obtain ⟨v, ev, qv⟩ := q.get e'
        refine ⟨v, ?_, qv⟩
        unfold L2.start
        rw [List.getElem?_append_left (by rw [List.length_map, q.len]; exact hi), List.getElem?_map, ev]
        rfl
    · rw [List.getElem?_append_right (by rw [List.length_map]; omega), List.getElem?_replicate] at e
      split at e <;> cases e
/-- what the body's end is for the def -/
def dEnds (M : Mem) (Q : DQ) : DEnds := { nx := fun _ M' => Rtq M Q .non M', rt := Rtq M Q }
section
variable {P : Program} {w : World} {K : PySem.W.Frag} {mg : Str → Option Value} {base : Heap}
/-- THE RULE: a def from which nothing is raised, by its body; its end leaves its own cells behind -/
theorem Fun.okD {x qual : Str} {st : Stmt} {f : Addr} {fd : FuncData} {N ps : List Str} {k : Nat} {sp : DSp} {t : DTS} (F : Fun K x qual st f fd) (S : FnScope N ps (defScope st))
    (hder : ∀ (cdv : Value) (A : Around) (outer : List PySem.Env) (s : Shared) (H : Hp) (E : XK), Room k (A.deeper (envOfC qual (defScope st) s.heap.objs.size f cdv)) → (A.deeper (envOfC qual (defScope st) s.heap.objs.size f cdv)).guards = some [] →
      DSs (cxOf CX0 P w K mg base N qual (defScope st) f cdv A outer s H E).nox (defBody st) t)
    (hread : ∀ ds M Q, ds.length = ps.length → sp ds M Q DX0 → t (dEnds M Q) (startD N.length ds) M)
    (hX : ∀ ds M Q E, sp ds M Q E → sp ds M Q DX0 := by exact fun _ _ _ _ h => h) : FnD P w K mg base CX0 (k + 1) f fd ps sp := by
  obtain ⟨oc, od, kV, doc, pm, an, cdv, ct, osl, rfl, lk, hcd⟩ := F.ex
  refine fnG_of lk hcd S (fun vs H Q E h => ?_) fun A outer s H vs Q E hr gd hsp => ?_
  · obtain ⟨_, _, _, _, _, _, hl, _, q, _⟩ := h
    rw [q.len]; exact hl
  · obtain ⟨ph, S0, M, ds, Q0, E0, hl, hs, hq, h, h1, h2⟩ := hsp
    refine ⟨_, (hder cdv A outer s H E hr gd).pss.nox, ph, S0, startD N.length ds, M, dEnds M Q0, hs.start hq N, hread ds M Q0 hl (hX _ _ _ _ h), ?_, ?_, ?_, ?_⟩
    · rintro σ' H' ⟨r, ph1, S1, M1, x, hs1, z⟩
      exact h1 _ _ (Rtq.out hs ⟨r, σ', ph1, S1, M1, x, hs1, .non, .non, z⟩)
    · exact fun v H' z => h1 _ _ (Rtq.out hs z)
    · rintro σ' H' ⟨r, ph1, S1, M1, x, hs1, z⟩
      exact z.elim
    · rintro σ' H' ⟨r, ph1, S1, M1, x, hs1, z⟩
      exact z.elim
end
end DL
/-! DL6: statements, loops, comprehensions -/
namespace DL
open PySem PySem.Spec PyProof.Rows L2
variable {X : Cx}
theorem DS.of {st : Stmt} {t' : TS} {t : DTS} (h : PS X st t') (w : ∀ ph S r M σ H E, Sat X.K ph S r M σ H → t E r M → ∀ E', (∀ σ' H', postN X.K ph S E.nx σ' H' → E'.nx σ' H') → (∀ v H', postR X.K ph S E.rt v H' → E'.rt v H') → (∀ σ' H', postN X.K ph S E.bk σ' H' → E'.bk σ' H') → (∀ σ' H', postN X.K ph S E.ct σ' H' → E'.ct σ' H') → t' E' σ H) : DS X st t :=
  ⟨PS.weak h fun E σ H ⟨ph, S, r, M, E0, hs, ht, h1, h2, h3, h4⟩ => w ph S r M σ H E0 hs ht E h1 h2 h3 h4⟩
theorem postN.up {K : PySem.W.Frag} {ph ph1 : Ph} {S S1 : Hp} {Q : Env → Mem → Prop} {σ : St} {H : Hp} (x : Ext ph S ph1 S1) (h : postN K ph1 S1 Q σ H) : postN K ph S Q σ H := let ⟨r, q⟩ := h; ⟨r, Aft.up x q⟩
theorem postR.up {K : PySem.W.Frag} {ph ph1 : Ph} {S S1 : Hp} {Q : DQ} {v : V} {H : Hp} (x : Ext ph S ph1 S1) (h : postR K ph1 S1 Q v H) : postR K ph S Q v H := let ⟨r, σ, q⟩ := h; ⟨r, σ, Aft.up x q⟩
/-! ### blocks -/
def dNext : DTS := fun E r M => E.nx r M
def dSeq (t u : DTS) : DTS := fun E r M => t { E with nx := u E } r M
theorem dss_nil : DSs X [] dNext := ⟨PSs.weak pss_nil fun E σ H ⟨ph, S, r, M, E0, hs, ht, h1, _, _, _⟩ => h1 _ _ ⟨r, Aft.here hs ht⟩⟩
theorem lf_on {ph ph1 : Ph} {S S1 : Hp} {r : Env} {M : Mem} {σ : St} {H : Hp} {t : DTS} {E : DEnds} {E' : Ends} (x : Ext ph S ph1 S1) (hs : Sat X.K ph1 S1 r M σ H) (ht : t E r M)
    (h1 : ∀ σ' H', postN X.K ph S E.nx σ' H' → E'.nx σ' H') (h2 : ∀ v H', postR X.K ph S E.rt v H' → E'.rt v H') (h3 : ∀ σ' H', postN X.K ph S E.bk σ' H' → E'.bk σ' H') (h4 : ∀ σ' H', postN X.K ph S E.ct σ' H' → E'.ct σ' H') : lfS X.K t E' σ H :=
  ⟨ph1, S1, r, M, E, hs, ht, fun _ _ z => h1 _ _ (z.up x), fun _ _ z => h2 _ _ (z.up x), fun _ _ z => h3 _ _ (z.up x), fun _ _ z => h4 _ _ (z.up x)⟩
theorem dss_cons {st : Stmt} {rest : List Stmt} {t u : DTS} (h : DS X st t) (h' : DSs X rest u) : DSs X (st :: rest) (dSeq t u) :=
  ⟨PSs.weak (pss_cons h.ps h'.pss) fun E σ H ⟨ph, S, r, M, E0, hs, ht, h1, h2, h3, h4⟩ =>
    ⟨ph, S, r, M, { E0 with nx := u E0 }, hs, ht, fun σ' H' ⟨r1, ph1, S1, M1, x, hs1, z⟩ => lf_on x hs1 z h1 h2 h3 h4, h2, h3, h4⟩⟩
theorem dss_one {st : Stmt} {t : DTS} (h : DS X st t) : DSs X [st] t := ⟨pss_one h.ps⟩
def dNever : DTS := fun _ _ _ => False
theorem ds_never {st : Stmt} : DS X st dNever := ⟨PS.weak ps_never fun E σ H ⟨ph, S, r, M, E0, hs, ht, _⟩ => ht.elim⟩
section
variable {pos : Pos}
/-- an expression whose value is dropped -/
def dDrop (t : DTE) : DTS := fun E r M => t r M fun _ M1 => E.nx r M1
theorem ds_expr {e : Expr} {t : DTE} (he : DE X e t) (hs : swapsWith e none pos.line X.env = pure false := by rfl) : DS X (.Expr e pos) (dDrop t) :=
  DS.of (ps_expr he.pe hs) fun ph S r M σ H E hs ht E' h1 _ _ _ => ⟨ph, S, r, M, _, hs, ht, fun v H' ⟨ph1, S1, M1, x, hs1, d, _, z⟩ => h1 _ _ ⟨r, ph1, S1, M1, x, hs1, z⟩⟩
def dRet (t : DTE) : DTS := fun E r M => t r M E.rt
theorem ds_ret {e : Expr} {t : DTE} (he : DE X e t) : DS X (.Return (some e) pos) (dRet t) :=
  DS.of (ps_ret he.pe) fun ph S r M σ H E hs ht E' _ h2 _ _ => ⟨ph, S, r, M, _, hs, ht, fun v H' z => h2 _ _ ⟨r, σ, z⟩⟩
def dRetN : DTS := fun E _ M => E.rt .non M
def dIfS (c : DTT) (t u : DTS) : DTS := fun E r M => c r M fun b M1 => if b = true then t E r M1 else u E r M1
theorem ds_if {c : Expr} {a b : List Stmt} {tc : DTT} {t u : DTS} (hc : DT X c tc) (ha : DSs X a t) (hb : DSs X b u) : DS X (.If c a b pos) (dIfS tc t u) :=
  DS.of (ps_if hc.pt ha.pss hb.pss) fun ph S r M σ H E hs ht E' h1 h2 h3 h4 => ⟨ph, S, r, M, _, hs, ht, fun k H1 ⟨ph1, S1, M1, x, hs1, z⟩ => by
    cases k with
    | true => exact lf_on x hs1 z h1 h2 h3 h4
    | false => exact lf_on x hs1 z h1 h2 h3 h4⟩
end
/-! ### targets -/
abbrev DTG := D → Env → Mem → (Env → Mem → Prop) → Prop
structure DG (X : Cx) (target : Expr) (g : DTG) : Prop where
  pg : PG X target (fun v σ H Q => ∃ ph S r M d Q0, Sat X.K ph S r M σ H ∧ Rep X.K ph S v d ∧ g d r M Q0 ∧ ∀ σ' H', postN X.K ph S Q0 σ' H' → Q σ' H')
def dName (i : Nat) : DTG := fun d r M Q => Q (r.set i (some d)) M
theorem dg_name {i : Nat} {x : Str} {pos : Pos} (hN : X.N.Nodup) (hi : X.N[i]? = some x := by rfl) (hx : Loc X.env.scope x := by first | exact Or.inl rfl | exact Or.inr rfl) (hf : X.fn x = true ∨ X.env.scope.names.lookup x = some .local := by first | exact .inl rfl | exact .inr rfl | assumption) : DG X (.Name x pos) (dName i) :=
  ⟨⟨fun pins s σ H v u Q I rv ⟨ph, S, r, M, d, Q0, hs, q, hg, h1⟩ => (pg_name hN hi hx hf).run pins s σ H v u Q I rv (h1 _ _ ⟨_, Aft.here (hs.setN q) hg⟩)⟩⟩
abbrev DTGs := List D → Env → Mem → (Env → Mem → Prop) → Prop
structure DGs (X : Cx) (ts : List Expr) (g : DTGs) : Prop where
  pgs : PGs X ts (fun vs σ H Q => ∃ ph S r M ds Q0, Sat X.K ph S r M σ H ∧ RepAll X.K ph S vs ds ∧ g ds r M Q0 ∧ ∀ σ' H', postN X.K ph S Q0 σ' H' → Q σ' H')
def dGNil : DTGs := fun ds r M Q => match ds with
  | [] => Q r M
  | _ => False
def dGCons (g : DTG) (u : DTGs) : DTGs := fun ds r M Q => match ds with
  | d :: rest => g d r M fun r1 M1 => u rest r1 M1 Q
  | _ => False
theorem dgs_nil : DGs X [] dGNil := ⟨⟨fun pins s σ H vs us Q I rv ⟨ph, S, r, M, ds, Q0, hs, q, hg, h1⟩ => pgs_nil.run pins s σ H vs us Q I rv (by
  cases ds with
  | cons d ds => exact hg.elim
  | nil =>
    cases q
    exact ⟨rfl, h1 _ _ ⟨r, Aft.here hs hg⟩⟩)⟩⟩
theorem dgs_cons {e : Expr} {es : List Expr} {g : DTG} {u : DTGs} (h : DG X e g) (h' : DGs X es u) (hst : (assignEach (e :: es) X.env).map (·.2) = assign e X.env :: (assignEach es X.env).map (·.2) := by rfl) : DGs X (e :: es) (dGCons g u) :=
  ⟨⟨fun pins s σ H vs us Q I rv ⟨ph, S, r, M, ds, Q0, hs, q, hg, h1⟩ => (pgs_cons h.pg h'.pgs hst).run pins s σ H vs us Q I rv (by
    cases ds with
    | nil => exact hg.elim
    | cons d ds =>
      cases q with
      | cons q1 q2 => exact ⟨_, _, rfl, ph, S, r, M, d, _, hs, q1, hg, fun σ1 H1 ⟨r1, ph1, S1, M1, x1, hs1, z⟩ => ⟨ph1, S1, r1, M1, ds, Q0, hs1, q2.up x1, z, fun σ2 H2 z2 => h1 _ _ (z2.up x1)⟩⟩)⟩⟩
/-- (a, b, ..) = a tuple, or a list -/
def dGTup (n : Nat) (u : DTGs) : DTG := fun d r M Q => match res M d with
  | .tup ds => ds.length = n ∧ u ds r M Q
  | .lst ds => ds.length = n ∧ u ds r M Q
  | _ => False
theorem dg_tup {es : List Expr} {k : Nat} {u : DTGs} {n : Nat} {pos : Pos} (hc : X.calm = true) (h : DGs X es u) (hn : (assignEach es X.env).length = n := by rfl) (hst : (assignEach es X.env).findIdx? (·.1) = none := by rfl) : DG X (.Tuple es k pos) (dGTup n u) :=
  ⟨⟨fun pins s σ H v u' Q I rv ⟨ph, S, r, M, d, Q0, hs, q, hg, h1⟩ => by
    unfold dGTup at hg
    split at hg
    · rename_i ds e
      have e' := res_tup e
      subst e'
      refine (pg_tup hc h.pgs hn hst).run pins s σ H v u' Q I rv ?_
      cases q with
      | tup q1 q2 => exact ⟨_, _, rfl, q1.sq hs.sub, by rw [q2.len]; exact hg.1, ph, S, r, M, _, Q0, hs, q2, hg.2, h1⟩
    · rename_i ds e
      obtain ⟨a, xs, e1, e2, q2⟩ := res_lst hs q e
      refine (pg_unl hc h.pgs hn hst).run pins s σ H v u' Q I rv ?_
      exact ⟨a, xs, e1, SqL.of e2, by rw [q2.len]; exact hg.1, ph, S, r, M, _, Q0, hs, q2, hg.2, h1⟩
    · exact hg.elim⟩⟩
/-- o[i] = .., o an owned list -/
def gSetL (o i d : D) (M : Mem) (Q : Mem → Prop) : Prop := match o, i with
  | .own k, .int j => match M[k]? with
    | some (.lst l) => match ixN l.length j with
      | some n => Q (M.set k (.lst (l.set n d)))
      | none => False
    | _ => False
  | _, _ => False
def dSub (to ti : DTE) : DTG := fun d r M Q => to r M fun o M1 => ti r M1 fun i M2 => gSetL o i d M2 fun M3 => Q r M3
theorem dg_sub {o i : Expr} {to ti : DTE} {pos : Pos} (ho : DE X o to) (hi : DE X i ti)
    (ha : ∀ v, assign (.Subscript o i pos) X.env v = (do
      let ov ← holding [v] (eval o X.env)
      let iv ← holding [v, ov] (eval i X.env)
      standAt pos
      holding [v, ov, iv] (setItem ov iv v)
      release [v, ov, iv] []) := by intro _; rfl) : DG X (.Subscript o i pos) (dSub to ti) :=
  ⟨⟨fun pins s σ H v u Q I rv ⟨ph, S, r, M, d, Q0, hs, q, hg, h1⟩ => (pg_sub ho.pe hi.pe set_list ha).run pins s σ H v u Q I rv
    ⟨ph, S, r, M, _, hs, hg, fun ov H1 ⟨ph1, S1, M1, x1, hs1, od, q1, g1⟩ => ⟨ph1, S1, r, M1, _, hs1, g1, fun iv H2 ⟨ph2, S2, M2, x2, hs2, id', q2, g2⟩ => by
      replace g2 : gSetL od id' d M2 fun M3 => Q0 r M3 := g2
      cases od with
      | own k =>
        cases id' with
        | int j =>
          unfold gSetL at g2
          dsimp only at g2
          split at g2
          · rename_i l hk
            split at g2
            · rename_i n hn
              cases q2
              cases q1 with
              | own hp =>
                have hp2 := x2.pre _ _ hp
                obtain ⟨a, xs, c1, c2, c3, c4⟩ := hs2.cell k l hk
                rw [hp2] at c1; cases c1
                exact ⟨_, xs, j, n, rfl, rfl, c3, by rw [c4.len]; exact hn, h1 _ _ ⟨r, ph2, S2, _, x1.trans x2, hs2.put hk hp2 (RepAll.set (q.up (x1.trans x2)) n c4), g2⟩⟩
            · exact g2.elim
          · exact g2.elim
        | _ => exact g2.elim
      | _ => exact g2.elim⟩⟩⟩⟩
/-- target = value -/
def dAsg (t : DTE) (g : DTG) : DTS := fun E r M => t r M fun d M1 => g d r M1 E.nx
section
variable {pos : Pos}
theorem ds_asg {tg e : Expr} {t : DTE} {g : DTG} (he : DE X e t) (hg : DG X tg g) (hs : swapsWithSole [tg] e pos.line X.env = pure false := by rfl) (hw : swappedStores [tg] e X.env = pure none := by rfl)
    (h1 : (assignEach [tg] X.env).map (·.2) = [assign tg X.env] := by rfl) : DS X (.Assign [tg] e pos) (dAsg t g) :=
  DS.of (ps_asg he.pe hg.pg hs hw h1) fun ph S r M σ H E hs ht E' h1 _ _ _ => ⟨ph, S, r, M, _, hs, ht, fun v H' ⟨ph1, S1, M1, x, hs1, d, q, z⟩ => ⟨ph1, S1, r, M1, d, E.nx, hs1, q, z, fun σ2 H2 z2 => h1 _ _ (z2.up x)⟩⟩
/-- name = value -/
theorem ds_set {i : Nat} {x : Str} {e : Expr} {t : DTE} {pos' : Pos} (hN : X.N.Nodup) (he : DE X e t) (hi : X.N[i]? = some x := by rfl) (hx : Loc X.env.scope x := by first | exact Or.inl rfl | exact Or.inr rfl) (hs : swapsWith e (some (.Name x pos')) pos.line X.env = pure false := by rfl) (hf : X.fn x = true ∨ X.env.scope.names.lookup x = some .local := by first | exact .inl rfl | exact .inr rfl | assumption) :
    DS X (.Assign [.Name x pos'] e pos) (dAsg t (dName i)) :=
  DS.of (ps_set hN hi hx he.pe hs hf) fun ph S r M σ H E hs ht E' h1 _ _ _ => ⟨ph, S, r, M, _, hs, ht, fun v H' ⟨ph1, S1, M1, x, hs1, d, q, z⟩ => h1 _ _ ⟨_, ph1, S1, M1, x, hs1.setN q, z⟩⟩
/-- a, b = x, y -/
def dPar (i j : Nat) (t : DTA) : DTS := fun E r M => t r M fun ds M1 => match ds with
  | [d, e] => E.nx ((r.set i (some d)).set j (some e)) M1
  | _ => False
theorem ds_par {i j : Nat} {x y : Str} {a b : Expr} {t : DTA} {px py pt : Pos} {kt k2 pt2} (hc : X.calm = true) (hN : X.N.Nodup) (ha : DA X [a, b] t) (hi : X.N[i]? = some x := by rfl) (hj : X.N[j]? = some y := by rfl) (hij : i ≠ j := by decide)
    (hx : X.env.scope.names.lookup x = some .local := by rfl) (hy : X.env.scope.names.lookup y = some .local := by rfl)
    (hw : swappedStores [.Tuple [.Name x px, .Name y py] kt pt] (.Tuple [a, b] k2 pt2) X.env = pure (some [x, y]) := by rfl)
    (hs : swapsWithSole [.Tuple [.Name x px, .Name y py] kt pt] (.Tuple [a, b] k2 pt2) pos.line X.env = pure false := by rfl) :
    DS X (.Assign [.Tuple [.Name x px, .Name y py] kt pt] (.Tuple [a, b] k2 pt2) pos) (dPar i j t) :=
  DS.of (ps_par hc hN hi hj hij hx hy ha.pa hw hs) fun ph S r M σ H E hs ht E' h1 _ _ _ => ⟨ph, S, r, M, _, hs, ht, fun vs H' ⟨ph1, S1, M1, x, hs1, ds, q, z⟩ => by
    match ds, q, z with
    | [d, e], .cons q1 (.cons q2 .nil), z => exact ⟨_, _, rfl, h1 _ _ ⟨_, ph1, S1, M1, x, (hs1.setN q1).setN q2, z⟩⟩⟩
def dPar3 (i j l : Nat) (t : DTA) : DTS := fun E r M => t r M fun ds M1 => match ds with
  | [d, e, f] => E.nx (((r.set i (some d)).set j (some e)).set l (some f)) M1
  | _ => False
theorem ds_par3 {i j l : Nat} {x y z : Str} {a b c : Expr} {t : DTA} {px py pz pt : Pos} {kt k2 pt2} (hc : X.calm = true) (hN : X.N.Nodup) (ha : DA X [a, b, c] t) (hi : X.N[i]? = some x := by rfl) (hj : X.N[j]? = some y := by rfl) (hl : X.N[l]? = some z := by rfl) (hij : i ≠ j := by decide) (hil : i ≠ l := by decide) (hjl : j ≠ l := by decide)
    (hx : X.env.scope.names.lookup x = some .local := by rfl) (hy : X.env.scope.names.lookup y = some .local := by rfl) (hz : X.env.scope.names.lookup z = some .local := by rfl)
    (hw : swappedStores [.Tuple [.Name x px, .Name y py, .Name z pz] kt pt] (.Tuple [a, b, c] k2 pt2) X.env = pure (some [x, y, z]) := by rfl)
    (hs : swapsWithSole [.Tuple [.Name x px, .Name y py, .Name z pz] kt pt] (.Tuple [a, b, c] k2 pt2) pos.line X.env = pure false := by rfl) :
    DS X (.Assign [.Tuple [.Name x px, .Name y py, .Name z pz] kt pt] (.Tuple [a, b, c] k2 pt2) pos) (dPar3 i j l t) :=
  DS.of (ps_par3 hc hN hi hj hl hij hil hjl hx hy hz ha.pa hw hs) fun ph S r M σ H E hs ht E' h1 _ _ _ => ⟨ph, S, r, M, _, hs, ht, fun vs H' ⟨ph1, S1, M1, x, hs1, ds, q, z⟩ => by
    match ds, q, z with
    | [d, e, f], .cons q1 (.cons q2 (.cons q3 .nil)), z => exact ⟨_, _, _, rfl, h1 _ _ ⟨_, ph1, S1, M1, x, ((hs1.setN q1).setN q2).setN q3, z⟩⟩⟩
/-- name op= e (ints) -/
def gIpI (f : Int → Int → Int) (x y : D) (M : Mem) (Q : DQ) : Prop := match x, y with
  | .int i, .int j => Q (.int (f i j)) M
  | _, _ => False
def dAug (i : Nat) (t : DTE) (f : Int → Int → Int) : DTS := fun E r M => match r[i]? with
  | some (some (.int a)) => t r M fun d M1 => gIpI f (.int a) d M1 fun z M2 => E.nx (r.set i (some z)) M2
  | _ => False
/-! ### while -/
def dWhile (c : DTT) (t : DTS) : DTS := fun E r M => ∃ W : Nat → Env → Mem → Prop, (∃ m, W m r M) ∧ ∀ m r M, W m r M →
  c r M fun b M1 => if b = true then t { E with nx := fun r' M' => ∃ m', m' < m ∧ W m' r' M', ct := fun r' M' => ∃ m', m' < m ∧ W m' r' M', bk := E.nx } r M1 else E.nx r M1
theorem ds_while {c : Expr} {body : List Stmt} {tc : DTT} {t : DTS} (hc : DT X c tc) (hb : DSs X body t) (hp : PassesOwn (model X.prog X.w) X.A X.env X.xe := by exact PassesOwn.never) : DS X (.While c body [] pos) (dWhile tc t) :=
  DS.of (ps_while hp hc.pt hb.pss) fun ph S r M σ H E hs ht E' h1 h2 h3 h4 => by
    obtain ⟨W, ⟨m0, w0⟩, turn⟩ := ht
    refine ⟨fun m σ H => postN X.K ph S (W m) σ H, ⟨m0, r, Aft.here hs w0⟩, fun m σ1 H1 ⟨r1, ph1, S1, M1, x1, hs1, w1⟩ => ?_⟩
    refine ⟨ph1, S1, r1, M1, _, hs1, turn m r1 M1 w1, fun b H2 ⟨ph2, S2, M2, x2, hs2, z⟩ => ?_⟩
    cases b with
    | false =>
      rw [if_neg Bool.false_ne_true] at z ⊢
      exact h1 _ _ ⟨r1, ph2, S2, M2, x1.trans x2, hs2, z⟩
    | true =>
      rw [if_pos rfl] at z ⊢
      refine ⟨fun σ' H' => ∃ m', m' < m ∧ postN X.K ph S (W m') σ' H', fun _ _ q => q, ?_⟩
      exact lf_on (x1.trans x2) hs2 z (fun σ' H' ⟨r', ph', S', M', x', hs', m', hm, w'⟩ => ⟨m', hm, r', ph', S', M', x', hs', w'⟩) h2 h1 (fun σ' H' ⟨r', ph', S', M', x', hs', m', hm, w'⟩ => ⟨m', hm, r', ph', S', M', x', hs', w'⟩)
end
/-! ### what is walked -/
/-- J walks the items ds, while C holds of the cells -/
def Wlk (K : PySem.W.Frag) (ph : Ph) (S : Hp) (J : It) (ds : List D) (C : Mem → Prop) : Prop :=
  ∀ (ph' : Ph) S' r M σ H, (∀ (k : Nat) (a : Addr), ph.cells[k]? = some a → ph'.cells[k]? = some a) → Same S S' → Sat K ph' S' r M σ H → C M →
    (∀ i, ds.length ≤ i → J.stop i H) ∧ ∀ i d, ds[i]? = some d → J.go i H ∧ ∀ x H', J.yld i H x H' → Aft K ph' S' r σ H' fun ph2 S2 M2 => M2 = M ∧ Rep K ph2 S2 x d
abbrev DTI := Env → Mem → (List D → (Mem → Prop) → Mem → Prop) → Prop
structure DI (X : Cx) (tg iter : Expr) (t : DTI) : Prop where
  pi : PI X tg iter (fun σ H R => ∃ ph S r M Q0, Sat X.K ph S r M σ H ∧ t r M Q0 ∧ ∀ J H', (Aft X.K ph S r σ H' fun ph' S' M' => ∃ ds C, Wlk X.K ph' S' J ds C ∧ Q0 ds C M') → R J H')
/-- for: W holds ahead of turn i -/
def forW (ds : List D) (C : Mem → Prop) (g : DTG) (t : DTS) (E : DEnds) (r : Env) (M0 : Mem) : Prop := ∃ W : Nat → Env → Mem → Prop, W 0 r M0 ∧ ∀ i r M, W i r M → C M ∧ (ds.length ≤ i → E.nx r M) ∧
  ∀ d, ds[i]? = some d → g d r M fun r2 M2 => t { E with nx := W (i + 1), ct := W (i + 1), bk := E.nx } r2 M2
def dFor (wi : DTI) (g : DTG) (t : DTS) : DTS := fun E r M => wi r M fun ds C M0 => forW ds C g t E r M0
theorem ds_for {tg iter : Expr} {body : List Stmt} {wi : DTI} {g : DTG} {t : DTS} {pos : Pos} (hc : X.calm = true) (hi : DI X tg iter wi) (hg : DG X tg g) (hb : DSs X body t)
    (hs : ∀ x, foldedSetIterable iter X.env x = pure x := by intro _; rfl) (hp : PassesOwn (model X.prog X.w) X.A X.env X.xe := by exact PassesOwn.never) : DS X (.For tg iter body [] pos) (dFor wi g t) :=
  DS.of (ps_for hp hc hi.pi hg.pg hb.pss hs) fun ph S r M σ H E hs ht E' h1 h2 h3 h4 => by
    refine ⟨ph, S, r, M, _, hs, ht, fun J H1 ⟨ph1, S1, M1, x1, hs1, ds, C, wk, W, w0, turn⟩ => ?_⟩
    refine ⟨fun i m σ H => m = ds.length - i ∧ ∃ r', Aft X.K ph1 S1 r' σ H fun _ _ M => W i r' M, ⟨ds.length, by omega, r, Aft.here hs1 w0⟩, ?_⟩
    rintro i m σ3 H3 ⟨rfl, r3, ph3, S3, M3, x3, hs3, w3⟩
    obtain ⟨c3, f3, g3⟩ := turn i r3 M3 w3
    obtain ⟨k1, k2⟩ := wk ph3 S3 r3 M3 σ3 H3 x3.pre x3.same hs3 c3
    by_cases hl : ds.length ≤ i
    · exact .inl ⟨k1 i hl, h1 _ _ ⟨r3, ph3, S3, M3, x1.trans x3, hs3, f3 hl⟩⟩
    · obtain ⟨d, ed⟩ : ∃ d, ds[i]? = some d := ⟨ds[i]'(by omega), List.getElem?_eq_getElem (by omega)⟩
      obtain ⟨k3, k4⟩ := k2 i d ed
      refine .inr ⟨k3, fun σ' H' => ∃ r', Aft X.K ph1 S1 r' σ' H' fun _ _ M => W (i + 1) r' M, fun σ' H' z => ⟨ds.length - (i + 1), by omega, rfl, z⟩, fun x H4 hy => ?_⟩
      obtain ⟨ph4, S4, M4, x4, hs4, rfl, q4⟩ := k4 x H4 hy
      refine ⟨ph4, S4, r3, M4, d, _, hs4, q4, g3 d ed, fun σ5 H5 ⟨r5, ph5, S5, M5, x5, hs5, z5⟩ => ?_⟩
      have xx : Ext ph1 S1 ph5 S5 := x3.trans (x4.trans x5)
      refine ⟨ph5, S5, r5, M5, _, hs5, z5, ?_, ?_, ?_, ?_⟩
      · exact fun σ6 H6 ⟨r6, z6⟩ => ⟨r6, Aft.up xx z6⟩
      · exact fun v H6 z6 => h2 _ _ (z6.up (x1.trans xx))
      · exact fun σ6 H6 z6 => h1 _ _ (z6.up (x1.trans xx))
      · exact fun σ6 H6 ⟨r6, z6⟩ => ⟨r6, Aft.up xx z6⟩
/-! ### comprehensions -/
/-- the tests behind if -/
def dYes : DTT := fun _ M Q => Q true M
structure DTs (X : Cx) (ifs : List Expr) (t : DTT) : Prop where
  pts : PTs X ifs (fun σ H Q => ∃ ph S r M Q0, Sat X.K ph S r M σ H ∧ t r M Q0 ∧ ∀ b H', postT X.K ph S r σ Q0 b H' → Q b H')
theorem dts_nil : DTs X [] dYes := ⟨⟨fun pins s σ H Q I ⟨ph, S, r, M, Q0, hs, ht, hq⟩ => pts_nil.run pins s σ H Q I (hq _ _ (Aft.here hs ht))⟩⟩
theorem dts_one {c : Expr} {t : DTT} (h : DT X c t) : DTs X [c] t := ⟨pts_one h.pt⟩
def wipeD (r : Env) : List Nat → Env
  | [] => r
  | v :: vs => (wipeD r vs).set v none
theorem Sat.clr {K : PySem.W.Frag} {ph : Ph} {S : Hp} {r : Env} {M : Mem} {σ : St} {H : Hp} (h : Sat K ph S r M σ H) (i : Nat) : Sat K ph S (r.set i none) M (σ.set i none) H := by
  refine ⟨h.sub, h.len, h.nd, h.trk, h.cell, h.hid, h.hnd, by rw [List.length_set, List.length_set]; exact h.el, fun j e hj => ?_⟩
  by_cases hi : j = i
  · subst hi
    have jl : j < r.length := by
      have := (List.getElem?_eq_some_iff.mp hj).1
      rwa [List.length_set] at this
    rw [List.getElem?_set_self jl] at hj
    cases hj
  · rw [List.getElem?_set_ne (Ne.symm hi)] at hj
    rw [List.getElem?_set_ne (Ne.symm hi)]
    exact h.env j e hj
theorem Sat.wipe {K : PySem.W.Frag} {ph : Ph} {S : Hp} {r : Env} {M : Mem} {σ : St} {H : Hp} (h : Sat K ph S r M σ H) : ∀ vs : List Nat, Sat K ph S (wipeD r vs) M (L2.wipe σ vs) H
  | [] => h
  | v :: vs => (Sat.wipe h vs).clr v
/-- a target whose names are the comprehension's own (places vs) -/
structure DCG (X : Cx) (target : Expr) (vs : List Nat) (g : DTG) : Prop where
  pg : PG X target (fun v σ H Q => ∃ ph S r M d Q0, Sat X.K ph S r M σ H ∧ Rep X.K ph S v d ∧ g d r M Q0 ∧ ∀ σ' H', postN X.K ph S Q0 σ' H' → L2.wipe σ' vs = L2.wipe σ vs → Q σ' H')
theorem wipe_set {σ : St} {i : Nat} {x : Option V} : ∀ {vs : List Nat}, i ∈ vs → L2.wipe (σ.set i x) vs = L2.wipe σ vs
  | [], h => by cases h
  | v :: vs, h => by
    unfold L2.wipe
    by_cases hv : i ∈ vs
    · rw [wipe_set hv]
    · have e : i = v := (List.mem_cons.mp h).resolve_right hv
      subst e
      have key : ∀ (us : List Nat), i ∉ us → L2.wipe (σ.set i x) us = (L2.wipe σ us).set i x := by
        intro us
        induction us with
        | nil => intro _; rfl
        | cons u us ih =>
          intro hu
          unfold L2.wipe
          rw [ih (fun z => hu (List.mem_cons_of_mem _ z)), List.set_comm _ _ (fun e => hu (by rw [e]; exact List.mem_cons_self))]
      rw [key vs hv, List.set_set]
theorem dcg_name {i : Nat} {x : Str} {pos : Pos} {vs : List Nat} (hN : X.N.Nodup) (hi : X.N[i]? = some x := by rfl) (hv : i ∈ vs := by decide) (hx : Loc X.env.scope x := by first | exact Or.inl rfl | exact Or.inr rfl) (hf : X.fn x = true ∨ X.env.scope.names.lookup x = some .local := by first | exact .inl rfl | exact .inr rfl | assumption) : DCG X (.Name x pos) vs (dName i) :=
  ⟨⟨fun pins s σ H v u Q I rv ⟨ph, S, r, M, d, Q0, hs, q, hg, h1⟩ => (pg_name hN hi hx hf).run pins s σ H v u Q I rv (h1 _ _ ⟨_, Aft.here (hs.setN q) hg⟩ (wipe_set hv))⟩⟩
structure DCGs (X : Cx) (ts : List Expr) (vs : List Nat) (g : DTGs) : Prop where
  pgs : PGs X ts (fun us σ H Q => ∃ ph S r M ds Q0, Sat X.K ph S r M σ H ∧ RepAll X.K ph S us ds ∧ g ds r M Q0 ∧ ∀ σ' H', postN X.K ph S Q0 σ' H' → L2.wipe σ' vs = L2.wipe σ vs → Q σ' H')
theorem dcgs_nil {vs : List Nat} : DCGs X [] vs dGNil := ⟨⟨fun pins s σ H us us' Q I rv ⟨ph, S, r, M, ds, Q0, hs, q, hg, h1⟩ => pgs_nil.run pins s σ H us us' Q I rv (by
  cases ds with
  | cons d ds => exact hg.elim
  | nil =>
    cases q
    exact ⟨rfl, h1 _ _ ⟨r, Aft.here hs hg⟩ rfl⟩)⟩⟩
theorem dcgs_cons {e : Expr} {es : List Expr} {vs : List Nat} {g : DTG} {u : DTGs} (h : DCG X e vs g) (h' : DCGs X es vs u) (hst : (assignEach (e :: es) X.env).map (·.2) = assign e X.env :: (assignEach es X.env).map (·.2) := by rfl) : DCGs X (e :: es) vs (dGCons g u) :=
  ⟨⟨fun pins s σ H us us' Q I rv ⟨ph, S, r, M, ds, Q0, hs, q, hg, h1⟩ => (pgs_cons h.pg h'.pgs hst).run pins s σ H us us' Q I rv (by
    cases ds with
    | nil => exact hg.elim
    | cons d ds =>
      cases q with
      | cons q1 q2 => exact ⟨_, _, rfl, ph, S, r, M, d, _, hs, q1, hg, fun σ1 H1 ⟨r1, ph1, S1, M1, x1, hs1, z⟩ e1 => ⟨ph1, S1, r1, M1, ds, Q0, hs1, q2.up x1, z, fun σ2 H2 z2 e2 => h1 _ _ (z2.up x1) (e2.trans e1)⟩⟩)⟩⟩
theorem dcg_tup {es : List Expr} {k : Nat} {u : DTGs} {n : Nat} {pos : Pos} {vs : List Nat} (hc : X.calm = true) (h : DCGs X es vs u) (hn : (assignEach es X.env).length = n := by rfl) (hst : (assignEach es X.env).findIdx? (·.1) = none := by rfl) : DCG X (.Tuple es k pos) vs (dGTup n u) :=
  ⟨⟨fun pins s σ H v u' Q I rv ⟨ph, S, r, M, d, Q0, hs, q, hg, h1⟩ => by
    unfold dGTup at hg
    split at hg
    · rename_i ds e
      have e' := res_tup e
      subst e'
      refine (pg_tup hc h.pgs hn hst).run pins s σ H v u' Q I rv ?_
      cases q with
      | tup q1 q2 => exact ⟨_, _, rfl, q1.sq hs.sub, by rw [q2.len]; exact hg.1, ph, S, r, M, _, Q0, hs, q2, hg.2, h1⟩
    · rename_i ds e
      obtain ⟨a, xs, e1, e2, q2⟩ := res_lst hs q e
      refine (pg_unl hc h.pgs hn hst).run pins s σ H v u' Q I rv ?_
      exact ⟨a, xs, e1, SqL.of e2, by rw [q2.len]; exact hg.1, ph, S, r, M, _, Q0, hs, q2, hg.2, h1⟩
    · exact hg.elim⟩⟩
/-- [e for target in iter if ..]: W holds ahead of turn i with the items made so far; own: the list will be changed -/
def lcW (own : Bool) (ds : List D) (C : Mem → Prop) (g : DTG) (tt : DTT) (te : DTE) (r : Env) (M0 : Mem) (Q : DQ) : Prop := ∃ W : Nat → List D → Mem → Prop, W 0 [] M0 ∧ ∀ i acc M, W i acc M → C M ∧
  (ds.length ≤ i → if own = true then Q (.own M.length) (M ++ [.lst acc]) else Q (.lst acc) M) ∧
  ∀ d, ds[i]? = some d → g d r M fun r2 M2 => tt r2 M2 fun b M3 => if b = true then te r2 M3 fun e M4 => acc.length < sizeLine ∧ W (i + 1) (acc ++ [e]) M4 else W (i + 1) acc M3
def dLc (own : Bool) (wi : DTI) (g : DTG) (tt : DTT) (te : DTE) (vs : List Nat) : DTE := fun r M Q => wi r M fun ds C M0 => lcW own ds C g tt te (wipeD r vs) M0 Q
theorem wipe_at {σ : St} {i : Nat} : ∀ {vs : List Nat}, i ∈ vs → i < σ.length → (L2.wipe σ vs)[i]? = some none
  | [], h, _ => by cases h
  | v :: vs, h, hl => by
    unfold L2.wipe
    by_cases e : v = i
    · subst e
      rw [List.getElem?_set_self (by rw [wipe_length]; exact hl)]
    · rw [List.getElem?_set_ne e]
      exact wipe_at ((List.mem_cons.mp h).resolve_left (fun z => e z.symm)) hl
theorem wipe_wipe (σ : St) (vs : List Nat) : L2.wipe (L2.wipe σ vs) vs = L2.wipe σ vs := by
  refine List.ext_getElem? fun i => ?_
  by_cases hi : i ∈ vs
  · by_cases hl : i < σ.length
    · rw [wipe_at hi (by rw [wipe_length]; exact hl), wipe_at hi hl]
    · rw [List.getElem?_eq_none (by rw [wipe_length, wipe_length]; omega), List.getElem?_eq_none (by rw [wipe_length]; omega)]
  · rw [wipe_out hi]
theorem lc_read (o : Bool) {wi : DTI} {g : DTG} {tt : DTT} {te : DTE} {vs : List Nat} {ph : Ph} {S : Hp} {r : Env} {M : Mem} {σ : St} {H : Hp} {Q : DQ} (hs : Sat X.K ph S r M σ H) (ht : dLc o wi g tt te vs r M Q) (Q' : VK) (hq : ∀ v H', post X.K ph S r σ Q v H' → Q' v H') :
    tLc (fun σ H R => ∃ ph S r M Q0, Sat X.K ph S r M σ H ∧ wi r M Q0 ∧ ∀ J H', (Aft X.K ph S r σ H' fun ph' S' M' => ∃ ds C, Wlk X.K ph' S' J ds C ∧ Q0 ds C M') → R J H')
      (fun v σ H Q => ∃ ph S r M d Q0, Sat X.K ph S r M σ H ∧ Rep X.K ph S v d ∧ g d r M Q0 ∧ ∀ σ' H', postN X.K ph S Q0 σ' H' → L2.wipe σ' vs = L2.wipe σ vs → Q σ' H')
      (fun σ H Q => ∃ ph S r M Q0, Sat X.K ph S r M σ H ∧ tt r M Q0 ∧ ∀ b H', postT X.K ph S r σ Q0 b H' → Q b H')
      (fun σ H Q => ∃ ph S r M Q0, Sat X.K ph S r M σ H ∧ te r M Q0 ∧ ∀ v H', post X.K ph S r σ Q0 v H' → Q v H') vs σ H Q' := by
  refine ⟨ph, S, r, M, _, hs, ht, fun J H1 ⟨ph1, S1, M1, x1, hs1, ds, C, wk, W, w0, turn⟩ => ?_⟩
  intro p hp
  refine ⟨fun i m H => m = ds.length - i ∧ ∃ (ph2 : Ph) (S2 : Hp) (M2 : Mem) (xs : List V) (acc : List D), Ext ph1 S1 ⟨ph2.cells, ph1.hid⟩ S2 ∧ ph2.hid = (p, .lst xs) :: ph1.hid ∧ Sat X.K ph2 S2 r M2 σ H ∧ RepAll X.K ph2 S2 xs acc ∧ W i acc M2,
    ⟨ds.length, by omega, { ph1 with hid := (p, .lst []) :: ph1.hid }, S1, M1, [], [], .refl, rfl, hs1.hide hp _, .nil, w0⟩, ?_⟩
  rintro i m H3 ⟨rfl, ph3, S3, M3, xs, acc, x3, eh, hs3, qa, w3⟩
  obtain ⟨c3, f3, g3⟩ := turn i acc M3 w3
  obtain ⟨k1, k2⟩ := wk ph3 S3 r M3 σ H3 x3.pre x3.same hs3 c3
  by_cases hl : ds.length ≤ i
  · refine .inl ⟨k1 i hl, ?_⟩
    have f := f3 hl
    obtain ⟨c, hd⟩ := ph3
    cases eh
    cases o with
    | false =>
      rw [if_neg Bool.false_ne_true] at f
      obtain ⟨x4, hs4⟩ := hs3.hfrz
      exact hq _ _ ⟨⟨c, ph1.hid⟩, _, M3, x1.trans (x3.trans x4), hs4, _, .lst upd_same ((RepAll.hid qa).up x4), f⟩
    | true =>
      rw [if_pos rfl] at f
      obtain ⟨x4, hs4, e4⟩ := hs3.hown (RepAll.hid qa)
      exact hq _ _ ⟨⟨c ++ [p], ph1.hid⟩, _, _, x1.trans (x3.trans x4), hs4, _, .own e4, f⟩
  · obtain ⟨d, ed⟩ : ∃ d, ds[i]? = some d := ⟨ds[i]'(by omega), List.getElem?_eq_getElem (by omega)⟩
    obtain ⟨k3, k4⟩ := k2 i d ed
    refine .inr ⟨k3, fun H' => ∃ (ph2 : Ph) (S2 : Hp) (M2 : Mem) (xs : List V) (acc : List D), Ext ph1 S1 ⟨ph2.cells, ph1.hid⟩ S2 ∧ ph2.hid = (p, .lst xs) :: ph1.hid ∧ Sat X.K ph2 S2 r M2 σ H' ∧ RepAll X.K ph2 S2 xs acc ∧ W (i + 1) acc M2, fun H' z => ⟨ds.length - (i + 1), by omega, rfl, z⟩, fun x H4 hy => ?_⟩
    obtain ⟨ph4, S4, M4, x4, hs4, rfl, q4⟩ := k4 x H4 hy
    refine ⟨ph4, S4, wipeD r vs, M4, d, _, hs4.wipe vs, q4, g3 d ed, fun σ5 H5 ⟨r5, ph5, S5, M5, x5, hs5, z5⟩ e5 => ⟨e5.trans (wipe_wipe σ vs), ?_⟩⟩
    refine ⟨ph5, S5, r5, M5, _, hs5, z5, fun b H6 ⟨ph6, S6, M6, x6, hs6, z6⟩ => ?_⟩
    cases b with
    | false =>
      have xx := x4.trans (x5.trans x6)
      rw [if_neg Bool.false_ne_true] at z6 ⊢
      exact ⟨ph6, S6, M6, xs, acc, ⟨fun k a e => xx.pre k a (x3.pre k a e), x3.same.trans xx.same, rfl⟩, xx.hid.trans eh, hs3.back xx hs6.drop, qa.up xx, z6⟩
    | true =>
      rw [if_pos rfl] at z6 ⊢
      refine ⟨ph6, S6, r5, M6, _, hs6, z6, fun v H7 ⟨ph7, S7, M7, x7, hs7, e, q7, hlt, w7⟩ => ?_⟩
      have xx := x4.trans (x5.trans (x6.trans x7))
      have eh7 : ph7.hid = (p, .lst xs) :: ph1.hid := xx.hid.trans eh
      obtain ⟨c, hd⟩ := ph7
      cases eh7
      have hb : Sat X.K ⟨c, (p, .lst xs) :: ph1.hid⟩ S7 r M7 σ H7 := hs3.back xx hs7.drop
      obtain ⟨g1, _, _⟩ := hb.hid _ List.mem_cons_self
      refine ⟨xs, g1, by rw [qa.len]; exact hlt, ⟨c, (p, .lst (xs ++ [v])) :: ph1.hid⟩, S7, M7, xs ++ [v], acc ++ [e], ⟨fun k a e => xx.pre k a (x3.pre k a e), x3.same.trans xx.same, rfl⟩, rfl, hb.hset, ?_, w7⟩
      exact (RepAll.hid (qa.up xx)).app (.cons (Rep.hid q7) .nil)
theorem de_lc (o : Bool) {elt tg iter : Expr} {ifs : List Expr} {scope : Scope} {own : List (Str × Nat)} {pos : Pos} {wi : DTI} {g : DTG} {tt : DTT} {te : DTE} (hc : X.calm = true) (hN : X.N.Nodup) (ok : BlkOk X.N X.env.scope scope own) (hi : DI X tg iter wi)
    (hg : ∀ (s : Shared) (H : Hp) (C : Addr) (cl : List (Str × Addr)) (fp : List Addr), DCG (X.blk s H scope (compEnvC scope cl C X.env) fp) tg (own.map (·.2)) g)
    (ht : ∀ (s : Shared) (H : Hp) (C : Addr) (cl : List (Str × Addr)) (fp : List Addr), DTs (X.blk s H scope (compEnvC scope cl C X.env) fp) ifs tt)
    (he : ∀ (s : Shared) (H : Hp) (C : Addr) (cl : List (Str × Addr)) (fp : List Addr), DE (X.blk s H scope (compEnvC scope cl C X.env) fp) elt te)
    (hs : ∀ x, foldedSetIterable iter X.env x = pure x := by intro _; rfl) : DE X (.ListComp elt [⟨tg, iter, ifs, 0⟩] scope pos) (dLc o wi g tt te (own.map (·.2))) :=
  DE.of (pe_lc hc hN hi.pi ok (fun s H C cl fp => (hg s H C cl fp).pg) (fun s H C cl fp => (ht s H C cl fp).pts) (fun s H C cl fp => (he s H C cl fp).pe) hs) fun ph S r M σ H Q hs ht Q' hq => lc_read (X := X) o hs ht Q' hq
end DL
/-! DL7: what is walked; built-ins; methods; slices; repr -/
namespace DL
open PySem PySem.Spec PyProof.Rows L2
variable {X : Cx}
/-! ### what is walked -/
theorem Wlk.list {K : PySem.W.Frag} {ph : Ph} {S : Hp} {a : Addr} {ds : List D} {C : Mem → Prop} (h : ∀ (ph' : Ph) (S' : Hp) (r : Env) (M : Mem) (σ : St) (H : Hp), (∀ (k : Nat) (a : Addr), ph.cells[k]? = some a → ph'.cells[k]? = some a) → Same S S' → Sat K ph' S' r M σ H → C M → ∃ xs, SqL K H a xs ∧ RepAll K ph' S' xs ds) : Wlk K ph S (Itl K a) ds C :=
  fun ph' S' r M σ H h1 h2 hs hc => by
    obtain ⟨xs, q, qa⟩ := h ph' S' r M σ H h1 h2 hs hc
    refine ⟨fun i hi => ⟨xs, q, by rw [qa.len]; exact hi⟩, fun i d e => ?_⟩
    obtain ⟨x, ex, qx⟩ := qa.get e
    refine ⟨⟨xs, x, q, ex⟩, fun y H' ⟨e1, e2⟩ => ?_⟩
    subst e1
    have ey := e2 xs q
    rw [ex] at ey
    cases ey
    exact Aft.here hs ⟨rfl, qx⟩
theorem Wlk.tup {K : PySem.W.Frag} {ph : Ph} {S : Hp} {a : Addr} {ds : List D} {C : Mem → Prop} (h : ∀ (ph' : Ph) (S' : Hp) (r : Env) (M : Mem) (σ : St) (H : Hp), (∀ (k : Nat) (a : Addr), ph.cells[k]? = some a → ph'.cells[k]? = some a) → Same S S' → Sat K ph' S' r M σ H → C M → ∃ xs, SqT K H a xs ∧ RepAll K ph' S' xs ds) : Wlk K ph S (Itt K a) ds C :=
  fun ph' S' r M σ H h1 h2 hs hc => by
    obtain ⟨xs, q, qa⟩ := h ph' S' r M σ H h1 h2 hs hc
    refine ⟨fun i hi => ⟨xs, q, by rw [qa.len]; exact hi⟩, fun i d e => ?_⟩
    obtain ⟨x, ex, qx⟩ := qa.get e
    refine ⟨⟨xs, x, q, ex⟩, fun y H' ⟨e1, e2⟩ => ?_⟩
    subst e1
    have ey := e2 xs q
    rw [ex] at ey
    cases ey
    exact Aft.here hs ⟨rfl, qx⟩
theorem RepAll.ext0 {K : PySem.W.Frag} {ph ph' : Ph} {S S' : Hp} {d : List D} {v : List V} (h1 : ∀ (k : Nat) (a : Addr), ph.cells[k]? = some a → ph'.cells[k]? = some a) (h2 : Same S S') (q : RepAll K ph S v d) : RepAll K ph' S' v d :=
  RepAll.hid (c := ph'.cells) (l := ph.hid) (l' := ph'.hid) (q.up (ph' := ⟨ph'.cells, ph.hid⟩) ⟨h1, h2, rfl⟩)
/-- a list, a tuple, the script -/
def gSeqI (d : D) (M : Mem) (R : List D → (Mem → Prop) → Mem → Prop) : Prop := match d with
  | .lst ds => R ds (fun _ => True) M
  | .tup ds => R ds (fun _ => True) M
  | .scr ns => R (ns.map D.int) (fun _ => True) M
  | .own k => match M[k]? with
    | some (.lst ds) => R ds (fun M' => M'[k]? = some (.lst ds)) M
    | _ => False
  | _ => False
def dSeqI (t : DTE) : DTI := fun r M R => t r M fun d M1 => gSeqI d M1 R
/-- it is a list at a, or a tuple -/
theorem pi_seq {tg l : Expr} {tl : TE} (hl : PE X l tl) : PI X tg l (fun σ H R => tl σ H fun x H1 => ∃ a, x = .ref a ∧ (((∃ xs, SqL X.K H1 a xs) ∧ R (Itl X.K a) H1) ∨ ((∃ xs, SqT X.K H1 a xs) ∧ R (Itt X.K a) H1))) := by
  refine ⟨fun pins s σ H R I h => thn (hl.run pins s σ H _ I h) fun v s1 ⟨x, H1, I1, r1, a, ex, q1⟩ => ?_⟩
  subst ex
  cases r1
  have fp : ∀ b ∈ [s1.heap.objs.size], FpOk X pins H1 b := fun b hb => by
    have e : b = s1.heap.objs.size := by simpa using hb
    rw [e]
    exact I1.fpOk (Nat.le_refl _) (I1.hok.fresh (Nat.le_refl _))
  rcases q1 with ⟨⟨xs, hq⟩, q⟩ | ⟨⟨xs, hq⟩, q⟩
  · obtain ⟨its, rv, p, hz⟩ := I1.list hq
    exact wpAny_pyIter_list p.isList ⟨s1.heap.objs.size, [s1.heap.objs.size], _, _, H1, rfl, I1.kept (t' := s1.toks) fun b o e => Heap.get?_push_of_some _ e, turn_list a _, ⟨_, Heap.get?_push_size _ rfl, rfl, rfl⟩, fp, q⟩
  · obtain ⟨its, rv, p, hz⟩ := I1.tuple hq
    exact wpAny_pyIter_tuple (show s1.heap.IsTuple a its.toArray from p) ⟨s1.heap.objs.size, [s1.heap.objs.size], _, _, H1, rfl, I1.kept (t' := s1.toks) fun b o e => Heap.get?_push_of_some _ e, turn_tuple a _, ⟨_, Heap.get?_push_size _ rfl, rfl, rfl⟩, fp, q⟩
theorem PI.weak {tg l : Expr} {t t' : TI} (h : PI X tg l t) (w : ∀ σ H R, t' σ H R → t σ H R) : PI X tg l t' := ⟨fun pins s σ H R I q => h.run pins s σ H R I (w _ _ _ q)⟩
theorem di_seq {tg l : Expr} {t : DTE} (h : DE X l t) : DI X tg l (dSeqI t) :=
  ⟨PI.weak (pi_seq h.pe) fun σ H R ⟨ph, S, r, M, Q0, hs, ht, hq⟩ => ⟨ph, S, r, M, _, hs, ht, fun v H1 ⟨ph1, S1, M1, x1, hs1, d, q1, g1⟩ => by
    cases d <;> first | exact g1.elim | skip
    · cases q1 with
      | tup h1 h2 => exact ⟨_, rfl, .inr ⟨⟨_, h1.sq hs1.sub⟩, hq _ _ ⟨ph1, S1, M1, x1, hs1, _, _, Wlk.tup (fun ph' S' r' M' σ' H' e1 e2 hs' _ => ⟨_, (h1.ext e2).sq hs'.sub, h2.ext0 e1 e2⟩), g1⟩⟩⟩
    · cases q1 with
      | lst h1 h2 => exact ⟨_, rfl, .inl ⟨⟨_, SqL.of (hs1.sub _ _ h1)⟩, hq _ _ ⟨ph1, S1, M1, x1, hs1, _, _, Wlk.list (fun ph' S' r' M' σ' H' e1 e2 hs' _ => ⟨_, SqL.of (hs'.sub _ _ (e2 _ _ h1)), h2.ext0 e1 e2⟩), g1⟩⟩⟩
    · cases q1 with
      | scr h1 => exact ⟨_, rfl, .inl ⟨⟨_, hs1.sub.seq h1⟩, hq _ _ ⟨ph1, S1, M1, x1, hs1, _, _, Wlk.list (fun ph' S' r' M' σ' H' e1 e2 hs' _ => ⟨_, hs'.sub.seq (e2.seq h1), RepAll.ints _⟩), g1⟩⟩⟩
    · rename_i k
      cases q1 with
      | own h1 =>
        replace g1 : gSeqI (.own k) M1 Q0 := g1
        unfold gSeqI at g1
        dsimp only at g1
        split at g1
        · rename_i ds hk
          obtain ⟨a, xs, c1, c2, c3, c4⟩ := hs1.cell k ds hk
          rw [h1] at c1; cases c1
          refine ⟨_, rfl, .inl ⟨⟨_, SqL.of c3⟩, hq _ _ ⟨ph1, S1, M1, x1, hs1, _, _, Wlk.list (fun ph' S' r' M' σ' H' e1 e2 hs' hc => ?_), g1⟩⟩⟩
          obtain ⟨a', xs', b1, b2, b3, b4⟩ := hs'.cell k ds hc
          rw [e1 _ _ h1] at b1; cases b1
          exact ⟨xs', SqL.of b3, b4⟩
        · exact g1.elim⟩⟩
/-- lo, lo + 1, .. -/
def rng (lo : Int) (n : Nat) : List D := (List.range n).map fun i => D.int (lo + (i : Nat))
theorem rng_len (lo : Int) (n : Nat) : (rng lo n).length = n := by unfold rng; rw [List.length_map, List.length_range]
theorem rng_get {lo : Int} {n i : Nat} {d : D} : (rng lo n)[i]? = some d ↔ i < n ∧ d = .int (lo + (i : Nat)) := by
  unfold rng
  rw [List.getElem?_map]
  constructor
  · intro e
    cases h : (List.range n)[i]? with
    | none => rw [h] at e; cases e
    | some j =>
      rw [h] at e
      obtain ⟨h1, h2⟩ := List.getElem?_eq_some_iff.mp h
      rw [List.length_range] at h1
      rw [List.getElem_range] at h2
      exact ⟨h1, by rw [h2]; exact (Option.some.inj e).symm⟩
  · rintro ⟨h1, rfl⟩
    rw [List.getElem?_eq_getElem (by rw [List.length_range]; exact h1), List.getElem_range]
    rfl
theorem Wlk.range {K : PySem.W.Frag} {ph : Ph} {S : Hp} {lo : Int} {n : Nat} {C : Mem → Prop} : Wlk K ph S (Itr lo n) (rng lo n) C := fun ph' S' r M σ H h1 h2 hs hc => by
  refine ⟨fun i hi => by rw [rng_len] at hi; exact hi, fun i d e => ?_⟩
  obtain ⟨hi, rfl⟩ := rng_get.mp e
  refine ⟨hi, fun x H' ⟨e1, e2⟩ => ?_⟩
  subst e1 e2
  exact Aft.here hs ⟨rfl, .int _⟩
def Rg (i : Int) : Prop := -(2 ^ 62) ≤ i ∧ i < 2 ^ 62
def gRng1 (ds : List D) (M : Mem) (R : List D → (Mem → Prop) → Mem → Prop) : Prop := match ds with
  | [.int n] => Rg n ∧ R (rng 0 n.toNat) (fun _ => True) M
  | _ => False
def gRng2 (ds : List D) (M : Mem) (R : List D → (Mem → Prop) → Mem → Prop) : Prop := match ds with
  | [.int a, .int b] => (Rg a ∧ Rg b) ∧ R (rng a (b - a).toNat) (fun _ => True) M
  | _ => False
def dRngI (g : List D → Mem → (List D → (Mem → Prop) → Mem → Prop) → Prop) (t : DTA) : DTI := fun r M R => t r M fun ds M1 => g ds M1 R
theorem di_range1 {tg a : Expr} {t : DTA} {p pos : Pos} (hm : X.mg "range" = none) (ha : DA X [a] t) (hg : Gl X "range" := by rfl) (hst : starEach [a] X.env = [(false, eval a X.env)] := by rfl) : DI X tg (.Call (.Name "range" p) [a] [] pos) (dRngI gRng1 t) :=
  ⟨PI.weak (pi_range1 hg hm ha.pa hst) fun σ H R ⟨ph, S, r, M, Q0, hs, ht, hq⟩ => ⟨ph, S, r, M, _, hs, ht, fun vs H1 ⟨ph1, S1, M1, x1, hs1, ds, q1, g1⟩ => by
    match ds, q1, g1 with
    | [.int n], .cons q .nil, ⟨⟨h1, h2⟩, g⟩ =>
      cases q
      exact ⟨n, rfl, h1, h2, hq _ _ ⟨ph1, S1, M1, x1, hs1, _, _, Wlk.range, g⟩⟩⟩⟩
/-! ### calls of what is built in -/
abbrev GA := List D → Mem → DQ → Prop
def CallD (X : Cx) (f : Value) (g : GA) : Prop :=
  ∀ (pins : List (Addr × Obj)) (s : Shared) (σ : St) (H : Hp) (ph : Ph) (S : Hp) (r : Env) (M : Mem) (vs : List V) (us : List Value) (ds : List D) (Q : DQ), Inv X pins σ H s → Sat X.K ph S r M σ H → Vals vs us → RepAll X.K ph S vs ds → g ds M Q →
    wpAny (model X.prog X.w) X.A (call f us) (EP X pins σ (post X.K ph S r σ Q)) X.xe s
theorem CallD.of {f : Value} {r' : List V → Hp → VK → Prop} {g : GA} (h : CallR X f r')
    (w : ∀ (σ : St) (H : Hp) (ph : Ph) (S : Hp) (r : Env) (M : Mem) (vs : List V) (ds : List D) (Q : DQ), Sat X.K ph S r M σ H → RepAll X.K ph S vs ds → g ds M Q → r' vs H (post X.K ph S r σ Q)) : CallD X f g :=
  fun pins s σ H ph S r M vs us ds Q I hs rv q hg => h pins s σ H vs us _ I rv (w σ H ph S r M vs ds Q hs q hg)
def dCB (g : GA) (t : DTA) : DTE := fun r M Q => t r M fun ds M1 => g ds M1 Q
section
variable {x : Str} {p pos : Pos} {e : Expr} {es : List Expr} {t : DTA} {id T : String} {g : GA}
theorem de_blt (hc : CallD X (.builtin id) g) (hm : X.mg x = none) (ha : DA X (e :: es) t) (hv : bootBuiltins x = some (.builtin id) := by decide +kernel) (hg : Gl X x := by rfl) (hn : x ≠ "__name__" := by decide) (hdb : (x == ("__debug__" : Str)) = false := by decide)
    (he : starEach (e :: es) X.env = (false, eval e X.env) :: starEach es X.env := by rfl) (hpl : (backTo pos (starEach es X.env)).any (·.1) = false := by rfl) : DE X (.Call (.Name x p) (e :: es) [] pos) (dCB g t) :=
  ⟨⟨fun pins s σ H Q I ⟨ph, S, r, M, Q0, hs, ht, hq⟩ => wpAny_Call_Name_kw (ld_blt I hg hm hv (PyProof.Rows.callWith_builtin1 (thn (ha.pa.run pos pins s σ H _ I ⟨ph, S, r, M, _, hs, ht, fun _ _ z => z⟩)
    fun us s1 ⟨vs, H1, I1, r1, ph1, S1, M1, x1, hs1, ds, q1, g1⟩ => thn (hc pins s1 σ H1 ph1 S1 r M1 vs us ds Q0 I1 hs1 r1 q1 g1) fun _ _ z => EP.up x1 z hq) he hpl) hn hdb)⟩⟩
theorem de_ty (hc : CallD X (.type T) g) (hm : X.mg x = none) (ha : DA X (e :: es) t) (hv : bootBuiltins x = some (.type T) := by decide +kernel) (hg : Gl X x := by rfl) (hn : x ≠ "__name__" := by decide) (hdb : (x == ("__debug__" : Str)) = false := by decide)
    (he : starEach (e :: es) X.env = (false, eval e X.env) :: starEach es X.env := by rfl) (hpl : (backTo pos (starEach es X.env)).any (·.1) = false := by rfl) : DE X (.Call (.Name x p) (e :: es) [] pos) (dCB g t) :=
  ⟨⟨fun pins s σ H Q I ⟨ph, S, r, M, Q0, hs, ht, hq⟩ => wpAny_Call_Name_kw (ld_blt I hg hm hv (PyProof.Rows.callWith_type1 (thn (ha.pa.run pos pins s σ H _ I ⟨ph, S, r, M, _, hs, ht, fun _ _ z => z⟩)
    fun us s1 ⟨vs, H1, I1, r1, ph1, S1, M1, x1, hs1, ds, q1, g1⟩ => thn (hc pins s1 σ H1 ph1 S1 r M1 vs us ds Q0 I1 hs1 r1 q1 g1) fun _ _ z => EP.up x1 z hq) he hpl) hn hdb)⟩⟩
/-- a module's name for a built-in function (gcd) -/
theorem de_bfun (hc : CallD X (.builtin id) g) (hm : X.mg x = some (.builtin id)) (ha : DA X (e :: es) t) (hg : Gl X x := by rfl) (hdb : (x == ("__debug__" : Str)) = false := by decide)
    (he : starEach (e :: es) X.env = (false, eval e X.env) :: starEach es X.env := by rfl) (hpl : (backTo pos (starEach es X.env)).any (·.1) = false := by rfl) : DE X (.Call (.Name x p) (e :: es) [] pos) (dCB g t) :=
  ⟨⟨fun pins s σ H Q I ⟨ph, S, r, M, Q0, hs, ht, hq⟩ => wpAny_Call_Name_kw (ld_glob I hg hm (PyProof.Rows.callWith_builtin1 (thn (ha.pa.run pos pins s σ H _ I ⟨ph, S, r, M, _, hs, ht, fun _ _ z => z⟩)
    fun us s1 ⟨vs, H1, I1, r1, ph1, S1, M1, x1, hs1, ds, q1, g1⟩ => thn (hc pins s1 σ H1 ph1 S1 r M1 vs us ds Q0 I1 hs1 r1 q1 g1) fun _ _ z => EP.up x1 z hq) he hpl) hdb)⟩⟩
/-- a built-in name as a value -/
theorem de_bltn {v : V} {u : Value} (hm : X.mg x = none) (r : RelV v u) (hv : bootBuiltins x = some u := by decide +kernel) (hg : Gl X x := by rfl) (hn : x ≠ "__name__" := by decide) (hd : (x == ("__debug__" : Str)) = false := by decide) : DE X (.Name x pos) (dC (.val v)) :=
  de_c (pe_bltn hg hm hv r hn hd) fun _ _ => .val _
end
def gAbs : GA := fun ds M Q => match ds with
  | [.int i] => Q (.int (if i < 0 then -i else i)) M
  | _ => False
theorem cd_abs : CallD X (.builtin "abs") gAbs := CallD.of call_abs fun σ H ph S r M vs ds Q hs q hg => by
  match ds, q, hg with
  | [.int i], .cons q .nil, hg => cases q; exact ⟨_, rfl, Aft.here hs ⟨_, .int _, hg⟩⟩
def gInt : GA := fun ds M Q => match ds with
  | [.int i] => Q (.int i) M
  | [.bl b] => Q (.int (if b then 1 else 0)) M
  | _ => False
theorem cd_int : CallD X (.type "int") gInt := CallD.of call_int1 fun σ H ph S r M vs ds Q hs q hg => by
  match ds, q, hg with
  | [.int i], .cons q .nil, hg => cases q; exact .inl ⟨_, rfl, Aft.here hs ⟨_, .int _, hg⟩⟩
  | [.bl i], .cons q .nil, hg => cases q; exact .inr ⟨_, rfl, Aft.here hs ⟨_, .int _, hg⟩⟩
def gMax : GA := fun ds M Q => match ds with
  | [.int i, .int j] => Q (.int (if j > i then j else i)) M
  | _ => False
theorem cd_max (hc : X.calm = true) : CallD X (.builtin "max") gMax := CallD.of (call_max2 hc) fun σ H ph S r M vs ds Q hs q hg => by
  match ds, q, hg with
  | [.int i, .int j], .cons q (.cons q' .nil), hg => cases q; cases q'; exact ⟨_, _, rfl, Aft.here hs ⟨_, .int _, hg⟩⟩
def gMin : GA := fun ds M Q => match ds with
  | [.int i, .int j] => Q (.int (if j < i then j else i)) M
  | _ => False
def gGcd : GA := fun ds M Q => match ds with
  | [.int i, .int j] => Q (.int (Int.gcd i j)) M
  | _ => False
theorem cd_gcd : CallD X (.builtin "math.gcd") gGcd := CallD.of cr_gcd fun σ H ph S r M vs ds Q hs q hg => by
  match ds, q, hg with
  | [.int i, .int j], .cons q (.cons q' .nil), hg => cases q; cases q'; exact ⟨_, _, rfl, Aft.here hs ⟨_, .int _, hg⟩⟩
/-- the length of a list, a tuple, a text -/
def lenD (M : Mem) : D → Option Nat
  | .lst l => some l.length
  | .tup l => some l.length
  | .scr l => some l.length
  | .own k => match M[k]? with
    | some (.lst l) => some l.length
    | _ => none
  | .str x => if x.length ≤ sizeLine then some x.length else none
  | _ => none
def gLen : GA := fun ds M Q => match ds with
  | [d] => match lenD M d with
    | some n => Q (.int n) M
    | none => False
  | _ => False
theorem len_V {K : PySem.W.Frag} {ph : Ph} {S : Hp} {r : Env} {M : Mem} {σ : St} {H : Hp} {v : V} {d : D} {n : Nat} (hs : Sat K ph S r M σ H) (q : Rep K ph S v d) (e : lenD M d = some n) : LenV K v H n := by
  cases d <;> first | (cases e; done) | skip
  · rename_i x
    cases q
    have e' : (if x.length ≤ sizeLine then some x.length else none) = some n := e
    by_cases h : x.length ≤ sizeLine
    · rw [if_pos h] at e'
      exact ⟨h, (Option.some.inj e').symm⟩
    · rw [if_neg h] at e'; cases e'
  · cases q with
    | tup h1 h2 => exact .inr ⟨_, h1.sq hs.sub, by rw [h2.len]; exact (Option.some.inj e).symm⟩
  · cases q with
    | lst h1 h2 => exact .inl ⟨_, SqL.of (hs.sub _ _ h1), by rw [h2.len]; exact (Option.some.inj e).symm⟩
  · cases q with
    | scr h1 => exact .inl ⟨_, hs.sub.seq h1, by rw [List.length_map]; exact (Option.some.inj e).symm⟩
  · rename_i k
    cases q with
    | own h1 =>
      unfold lenD at e
      dsimp only at e
      split at e
      · rename_i l hk
        obtain ⟨a, xs, c1, c2, c3, c4⟩ := hs.cell k l hk
        rw [h1] at c1; cases c1
        exact .inl ⟨_, SqL.of c3, by rw [c4.len]; exact (Option.some.inj e).symm⟩
      · cases e
theorem cd_len : CallD X (.builtin "len") gLen := CallD.of call_len fun σ H ph S r M vs ds Q hs q hg => by
  match ds, q, hg with
  | [d], .cons q .nil, hg =>
    unfold gLen at hg
    dsimp only at hg
    split at hg
    · rename_i n e
      exact ⟨_, n, rfl, len_V hs q e, Aft.here hs ⟨_, .int _, hg⟩⟩
    · exact hg.elim
/-- the ints of a list of ints -/
def intsD : List D → Option (List Int)
  | [] => some []
  | .int i :: ds => match intsD ds with
    | some is => some (i :: is)
    | none => none
  | _ :: _ => none
theorem intsD_rep {K : PySem.W.Frag} {ph : Ph} {S : Hp} : ∀ {vs : List V} {ds : List D} {is : List Int}, RepAll K ph S vs ds → intsD ds = some is → vs = is.map V.int
  | _, [], _, .nil, e => by cases e; rfl
  | _, d :: ds, is, .cons q t, e => by
    cases d <;> first | (cases e; done) | skip
    unfold intsD at e
    split at e
    · rename_i is' e'
      cases e
      cases q
      rw [intsD_rep t e']; rfl
    · cases e
def gSum : GA := fun ds M Q => match ds with
  | [d] => match res M d with
    | .lst l => match intsD l with
      | some is => Q (.int is.sum) M
      | none => False
    | .scr ns => Q (.int ns.sum) M
    | _ => False
  | _ => False
theorem cd_sum (hc : X.calm = true) : CallD X (.builtin "sum") gSum := CallD.of (cr_sum hc) fun σ H ph S r M vs ds Q hs q hg => by
  match ds, q, hg with
  | [d], .cons q .nil, hg =>
    unfold gSum at hg
    dsimp only at hg
    split at hg
    · rename_i l e
      split at hg
      · rename_i is e2
        obtain ⟨a, xs, rfl, h1, h2⟩ := res_lst hs q e
        exact ⟨a, is, rfl, by rw [← intsD_rep h2 e2]; exact SqL.of h1, Aft.here hs ⟨_, .int _, hg⟩⟩
      · exact hg.elim
    · rename_i ns e
      cases res_scr e
      cases q with
      | scr h1 => exact ⟨_, ns, rfl, hs.sub.seq h1, Aft.here hs ⟨_, .int _, hg⟩⟩
    · exact hg.elim
/-- list(x): a list that is only read, or one that will be changed -/
def seqD (M : Mem) (d : D) : Option (List D) := match res M d with
  | .lst l => some l
  | .tup l => some l
  | .scr ns => some (ns.map D.int)
  | _ => none
theorem seq_V {K : PySem.W.Frag} {ph : Ph} {S : Hp} {r : Env} {M : Mem} {σ : St} {H : Hp} {v : V} {d : D} {l : List D} (hs : Sat K ph S r M σ H) (q : Rep K ph S v d) (e : seqD M d = some l) : ∃ a xs, v = .ref a ∧ (SqL K H a xs ∨ SqT K H a xs) ∧ RepAll K ph S xs l := by
  unfold seqD at e
  split at e
  · rename_i l' e1
    cases e
    obtain ⟨a, xs, rfl, h1, h2⟩ := res_lst hs q e1
    exact ⟨a, xs, rfl, .inl (SqL.of h1), h2⟩
  · rename_i l' e1
    cases e
    cases res_tup e1
    cases q with
    | tup h1 h2 => exact ⟨_, _, rfl, .inr (h1.sq hs.sub), h2⟩
  · rename_i ns e1
    cases e
    cases res_scr e1
    cases q with
    | scr h1 => exact ⟨_, _, rfl, .inl (hs.sub.seq h1), RepAll.ints _⟩
  · cases e
def gList (own : Bool) : GA := fun ds M Q => match ds with
  | [d] => match seqD M d with
    | some l => if own = true then Q (.own M.length) (M ++ [.lst l]) else Q (.lst l) M
    | none => False
  | _ => False
theorem cd_list (own : Bool) : CallD X (.type "list") (gList own) := CallD.of call_list_of fun σ H ph S r M vs ds Q hs q hg => by
  match ds, q, hg with
  | [d], .cons q .nil, hg =>
    unfold gList at hg
    dsimp only at hg
    split at hg
    · rename_i l e
      obtain ⟨a, xs, rfl, h1, h2⟩ := seq_V hs q e
      refine ⟨a, xs, rfl, h1, fun p hp => ?_⟩
      cases own with
      | false => exact Aft.frz hs hp fun x => ⟨_, .lst upd_same (h2.up x), hg⟩
      | true => exact Aft.own hs hp h2 hg
    · exact hg.elim
/-- isinstance(x, T), T a built-in class -/
def tyD : D → Option String
  | .non => some "NoneType"
  | .bl _ => some "bool"
  | .int _ => some "int"
  | .str _ => some "str"
  | .tup _ => some "tuple"
  | .lst _ => some "list"
  | .dct0 => some "dict"
  | _ => none
def tyM (M : Mem) : D → Option String
  | .own k => match M[k]? with
    | some (.lst _) => some "list"
    | _ => none
  | d => tyD d
def gIsi : GA := fun ds M Q => match ds with
  | [d, .val (.ty n)] => match tyM M d with
    | some T => match kitB T n with
      | some b => Q (.bl b) M
      | none => False
    | none => False
  | _ => False
theorem ty_V {K : PySem.W.Frag} {ph : Ph} {S : Hp} {r : Env} {M : Mem} {σ : St} {H : Hp} {v : V} {d : D} {T : String} (hs : Sat K ph S r M σ H) (q : Rep K ph S v d) (e : tyM M d = some T) : TyX K H v (.type T) := by
  cases d <;> first | (cases e; done) | skip
  · cases q; cases e; exact .base .non
  · cases q; cases e; exact .base (.bl _)
  · cases q; cases e; exact .base (.int _)
  · cases q; cases e; exact .base (.str _)
  · cases q with
    | tup h1 h2 => cases e; exact h1.elim (fun z => .base (.tup (hs.sub _ _ z))) fun ⟨_, _, _, l, c, _⟩ => .kTuple l c
  · cases q with
    | lst h1 h2 => cases e; exact .base (.lst (hs.sub _ _ h1))
  · cases q with
    | dct0 h1 => cases e; exact .base (.dK (hs.sub _ _ h1))
  · rename_i k
    cases q with
    | own h1 =>
      unfold tyM at e
      dsimp only at e
      split at e
      · rename_i l hk
        cases e
        obtain ⟨a, xs, c1, c2, c3, c4⟩ := hs.cell k l hk
        rw [h1] at c1; cases c1
        exact .base (.lst c3)
      · cases e
theorem cd_isi : CallD X (.builtin "isinstance") gIsi := CallD.of call_isi fun σ H ph S r M vs ds Q hs q hg => by
  match ds, q, hg with
  | [d, .val (.ty n)], .cons q (.cons q' .nil), hg =>
    unfold gIsi at hg
    dsimp only at hg
    split at hg
    · rename_i T e
      split at hg
      · rename_i b eb
        cases q'
        exact ⟨_, _, _, _, b, rfl, .ty n, ty_V hs q e, kit_ty eb, Aft.here hs ⟨_, .bl _, hg⟩⟩
      · exact hg.elim
    · exact hg.elim
/-- n.bit_length() -/
def gBits (d : D) (M : Mem) (Q : DQ) : Prop := match d with
  | .int i => Q (.int (Builtin.Int.intBits i : Nat)) M
  | _ => False
def dBits (t : DTE) : DTE := fun r M Q => t r M fun d M1 => gBits d M1 Q
theorem de_bits {o : Expr} {t : DTE} {apos pos : Pos} (ho : DE X o t) (hbase : attributeBase o "bit_length" X.env (eval o X.env) = eval o X.env := by rfl) (hline : (apos.endLine == pos.line) = true := by rfl) : DE X (.Call (.Attribute o "bit_length" apos) [] [] pos) (dBits t) :=
  DE.of (pe_bits ho.pe hbase hline) fun ph S r M σ H Q hs ht Q' hq => ⟨ph, S, r, M, _, hs, ht, fun v H1 ⟨ph1, S1, M1, x1, hs1, d, q1, g1⟩ => by
    cases d <;> first | exact g1.elim | skip
    cases q1
    exact ⟨_, rfl, hq _ _ ⟨ph1, S1, M1, x1, hs1, _, .int _, g1⟩⟩⟩
/-! ### methods of lists -/
def gAppend (o : D) (ds : List D) (M : Mem) (Q : DQ) : Prop := match o, ds with
  | .own k, [d] => match M[k]? with
    | some (.lst l) => l.length < sizeLine ∧ Q .non (M.set k (.lst (l ++ [d])))
    | _ => False
  | _, _ => False
def dMet (g : D → List D → Mem → DQ → Prop) (to : DTE) (t : DTA) : DTE := fun r M Q => to r M fun o M1 => (∃ k l, o = .own k ∧ M1[k]? = some (.lst l)) ∧ t r M1 fun ds M2 => g o ds M2 Q
theorem de_append {o e : Expr} {to : DTE} {t : DTA} {apos cpos : Pos} (ho : DE X o to) (ha : DA X [e] t) (h1 : attributeBase o "append" X.env (eval o X.env) = eval o X.env := by rfl)
    (h2 : (((backTo cpos (starEach [e] X.env)).all fun x => !x.1) && (backToKw cpos (keywordEach [] X.env)).all (fun x => x.1.isSome) && decide (([e] : List Expr).length + ([] : List Keyword).length + (if ([] : List Keyword).isEmpty then 0 else 1) < 30)) = true := by rfl) (h3 : (apos.endLine == cpos.line) = true := by rfl)
    (h4 : starEach [e] X.env = (false, eval e X.env) :: starEach [] X.env := by rfl) (h5 : (backTo cpos (starEach [] X.env)).any (·.1) = false := by rfl) : DE X (.Call (.Attribute o "append" apos) [e] [] cpos) (dMet gAppend to t) :=
  DE.of (pe_bm PySem.F.plainAttrs_list PySem.F.slot_list_append PySem.F.type_list_append mt_append ho.pe ha.pa h1 h2 h3 h4 h5) fun ph S r M σ H Q hs ht Q' hq => ⟨ph, S, r, M, _, hs, ht, fun v H1 ⟨ph1, S1, M1, x1, hs1, d, q1, ⟨k, l, e1, ek⟩, g1⟩ => by
    subst e1
    cases q1 with
    | own hp =>
      obtain ⟨a, xs, c1, c2, c3, c4⟩ := hs1.cell k l ek
      rw [hp] at c1; cases c1
      refine ⟨.inl ⟨rfl, _, SqL.of c3⟩, ph1, S1, r, M1, _, hs1, g1, fun vs H2 ⟨ph2, S2, M2, x2, hs2, ds, q2, g2⟩ => ?_⟩
      match ds, q2, g2 with
      | [d], .cons q3 .nil, g2 =>
        replace g2 : gAppend (.own k) [d] M2 Q := g2
        unfold gAppend at g2
        dsimp only at g2
        split at g2
        · rename_i l2 hk2
          have hp2 := x2.pre _ _ hp
          obtain ⟨a2, xs2, d1, d2, d3, d4⟩ := hs2.cell k l2 hk2
          rw [hp2] at d1; cases d1
          exact ⟨_, xs2, _, rfl, rfl, d3, by rw [d4.len]; exact g2.1, hq _ _ ⟨ph2, S2, _, x1.trans x2, hs2.put hk2 hp2 (d4.app (.cons q3 .nil)), _, .non, g2.2⟩⟩
        · exact g2.elim⟩
/-! ### slices -/
def cutD (l : List D) (lo hi : Option Int) : List D := List.take (HT.sIx l.length l.length hi - HT.sIx l.length 0 lo) (List.drop (HT.sIx l.length 0 lo) l)
abbrev DTO := Env → Mem → (Option Int → Mem → Prop) → Prop
structure DO (X : Cx) (e : Option Expr) (t : DTO) : Prop where
  po : PO X e (fun σ H Q => ∃ ph S r M Q0, Sat X.K ph S r M σ H ∧ t r M Q0 ∧ ∀ o H', (Aft X.K ph S r σ H' fun _ _ M' => Q0 o M') → Q o H')
def dPart (t : DTE) : DTO := fun r M Q => t r M fun d M1 => match d with
  | .int i => Q (some i) M1
  | _ => False
def dNoPart : DTO := fun _ M Q => Q none M
theorem do_some {e : Expr} {t : DTE} (h : DE X e t) : DO X (some e) (dPart t) :=
  ⟨⟨fun pins s σ H Q I ⟨ph, S, r, M, Q0, hs, ht, hq⟩ => (po_some h.pe).run pins s σ H Q I ⟨ph, S, r, M, _, hs, ht, fun v H1 ⟨ph1, S1, M1, x1, hs1, d, q1, g1⟩ => by
    cases d <;> first | exact g1.elim | skip
    cases q1
    exact ⟨_, rfl, hq _ _ ⟨ph1, S1, M1, x1, hs1, g1⟩⟩⟩⟩⟩
theorem do_none : DO X none dNoPart := ⟨⟨fun pins s σ H Q I ⟨ph, S, r, M, Q0, hs, ht, hq⟩ => po_none.run pins s σ H Q I (hq _ _ (Aft.here hs ht))⟩⟩
/-- l[a:b], a list -/
def gSlL (own : Bool) (d : D) (lo hi : Option Int) (M : Mem) (Q : DQ) : Prop := match res M d with
  | .lst l => if own = true then Q (.own M.length) (M ++ [.lst (cutD l lo hi)]) else Q (.lst (cutD l lo hi)) M
  | .scr ns => if own = true then Q (.own M.length) (M ++ [.lst (cutD (ns.map D.int) lo hi)]) else Q (.lst (cutD (ns.map D.int) lo hi)) M
  | _ => False
def dSl (g : D → Option Int → Option Int → Mem → DQ → Prop) (t : DTE) (tl th : DTO) : DTE := fun r M Q => t r M fun d M1 => tl r M1 fun lo M2 => th r M2 fun hi M3 => g d lo hi M3 Q
theorem cut_rep {K : PySem.W.Frag} {ph : Ph} {S : Hp} {xs : List V} {l : List D} {lo hi : Option Int} (q : RepAll K ph S xs l) : RepAll K ph S (cutV xs lo hi) (cutD l lo hi) := by
  unfold cutV cutD
  rw [q.len]
  exact (q.drop _).take _
theorem de_slL (own : Bool) {e : Expr} {lo hi : Option Expr} {t : DTE} {tl th : DTO} {pos p2 : Pos} (h : DE X e t) (h1 : DO X lo tl) (h2 : DO X hi th) : DE X (.Subscript e (.Slice lo hi none p2) pos) (dSl (gSlL own) t tl th) :=
  DE.of (pe_slice sl_list h.pe h1.po h2.po) fun ph S r M σ H Q hs ht Q' hq => ⟨ph, S, r, M, _, hs, ht, fun v H1 ⟨ph1, S1, M1, x1, hs1, d, q1, g1⟩ =>
    ⟨ph1, S1, r, M1, _, hs1, g1, fun lo H2 ⟨ph2, S2, M2, x2, hs2, g2⟩ => ⟨ph2, S2, r, M2, _, hs2, g2, fun hi H3 ⟨ph3, S3, M3, x3, hs3, g3⟩ => by
      replace g3 : gSlL own d lo hi M3 Q := g3
      have xx := x1.trans (x2.trans x3)
      have q3 := q1.up (x2.trans x3)
      unfold gSlL at g3
      split at g3
      · rename_i l er
        obtain ⟨p, xs, rfl, hp, hx⟩ := res_lst hs3 q3 er
        refine ⟨p, xs, rfl, SqL.of hp, fun b hb => ?_⟩
        cases own with
        | false => exact hq _ _ (Aft.up xx (Aft.frz hs3 hb fun x => ⟨_, .lst upd_same ((cut_rep hx).up x), g3⟩))
        | true => exact hq _ _ (Aft.up xx (Aft.own hs3 hb (cut_rep hx) g3))
      · rename_i ns er
        cases res_scr er
        cases q3 with
        | scr h1 =>
          refine ⟨_, _, rfl, hs3.sub.seq h1, fun b hb => ?_⟩
          cases own with
          | false => exact hq _ _ (Aft.up xx (Aft.frz hs3 hb fun x => ⟨_, .lst upd_same (cut_rep (RepAll.ints _)), g3⟩))
          | true => exact hq _ _ (Aft.up xx (Aft.own hs3 hb (cut_rep (RepAll.ints _)) g3))
      · exact g3.elim⟩⟩⟩
theorem cut_whole {α : Type} {l : List α} {lo hi : Option Int} (h : HT.sIx l.length 0 lo = 0 ∧ HT.sIx l.length l.length hi = l.length) : List.take (HT.sIx l.length l.length hi - HT.sIx l.length 0 lo) (List.drop (HT.sIx l.length 0 lo) l) = l := by
  rw [h.1, h.2]; simp
/-! ### repr -/
/-- data whose repr may be told -/
def shwn (d : D) : Option Str := match toPy d with
  | some p => if p.showable = true ∧ p.depth ≤ 64 ∧ p.shown.length ≤ sizeLine ∧ p.hasDict = false then some p.shown else none
  | none => none
def gRepr : GA := fun ds M Q => match ds with
  | [d] => match shwn (res M d) with
    | some z => Q (.str z) M
    | none => False
  | _ => False
theorem shown_flat {p : PyData} {u : Value} {h : Heap} {as : List Addr} (r : Reads h u p as) (hn : ∀ a, u ≠ .ref a) {A : Around} {P : Program} {w : World} {E : Value → Shared → Prop} {s : Shared} {Q : Value → Shared → Prop} (hs : p.showable = true) (hz : p.shown.length ≤ sizeLine)
    (q : ∀ tk tk', Q (.str p.shown tk) { s with toks := tk' }) : wpAny (model P w) A (call (.builtin "repr") [u]) Q E s := by
  cases r with
  | none => exact PySem.P.repr_of_none (q _ _)
  | bool b => exact PySem.P.repr_of_bool (q _ _)
  | int i t => exact PySem.P.repr_of_int (of_decide_eq_true hs) (q _ _)
  | str x t => exact PySem.P.repr_of_str (q _ _) hz
  | list _ _ _ _ => exact absurd rfl (hn _)
  | tuple _ _ _ _ => exact absurd rfl (hn _)
  | dict _ _ _ _ _ => exact absurd rfl (hn _)
end DL
/-! DL8: calls with keywords alone; a def for its callers; the end of a law -/
namespace DL
open PySem PySem.Spec PyProof.Rows L2
section
variable {X : Cx}
structure DK (X : Cx) (kws : List Keyword) (t : DTA) : Prop where
  pk : PK X kws (fun σ H Q => ∃ ph S r M Q0, Sat X.K ph S r M σ H ∧ t r M Q0 ∧ ∀ vs H', postA X.K ph S r σ Q0 vs H' → Q vs H')
theorem PK.weak {kws : List Keyword} {t t' : TA} (h : PK X kws t) (w : ∀ σ H Q, t' σ H Q → t σ H Q) : PK X kws t' := ⟨fun pos pins s σ H Q I q => h.run pos pins s σ H Q I (w _ _ _ q)⟩
theorem dk_nil : DK X [] dNil := ⟨PK.weak pk_nil fun σ H Q ⟨ph, S, r, M, Q0, hs, ht, hq⟩ => hq _ _ (Aft.here hs ⟨_, .nil, ht⟩)⟩
theorem dk_cons {e : Expr} {kws : List Keyword} {nm : Option Str} {kpos : Pos} {t : DTE} {u : DTA} (h : DE X e t) (h2 : DK X kws u) : DK X (⟨nm, e, kpos⟩ :: kws) (dCons t u) :=
  ⟨PK.weak (pk_cons h.pe h2.pk) fun σ H Q ⟨ph, S, r, M, Q0, hs, ht, hq⟩ => ⟨ph, S, r, M, _, hs, ht, fun v H1 ⟨ph1, S1, M1, x1, hs1, d, q1, g1⟩ =>
    ⟨ph1, S1, r, M1, _, hs1, g1, fun vs H2 ⟨ph2, S2, M2, x2, hs2, ds, q2, g2⟩ => hq _ _ ⟨ph2, S2, M2, x1.trans x2, hs2, _, .cons (q1.up x2) q2, g2⟩⟩⟩⟩
/-- the values by place -/
def pick {α : Type} (l : List Nat) (xs : List α) : List α := l.filterMap fun i => xs[i]?
theorem pick_vals {vs : List V} {us : List Value} (r : Vals vs us) : ∀ l : List Nat, Vals (pick l vs) (pick l us)
  | [] => .nil
  | i :: l => by
    unfold pick
    rw [List.filterMap_cons, List.filterMap_cons]
    cases e : vs[i]? with
    | none => rw [r.none_of e]; exact pick_vals r l
    | some v =>
      obtain ⟨u, eu, ru⟩ := r.get e
      rw [eu]
      exact .cons ru (pick_vals r l)
theorem pick_rep {K : PySem.W.Frag} {ph : Ph} {S : Hp} {vs : List V} {ds : List D} (r : RepAll K ph S vs ds) : ∀ l : List Nat, RepAll K ph S (pick l vs) (pick l ds)
  | [] => .nil
  | i :: l => by
    unfold pick
    rw [List.filterMap_cons, List.filterMap_cons]
    cases e : ds[i]? with
    | none =>
      have e' : vs[i]? = none := by
        have := List.getElem?_eq_none_iff.mp e
        exact List.getElem?_eq_none_iff.mpr (by rw [r.len]; exact this)
      rw [e']; exact pick_rep r l
    | some d =>
      obtain ⟨u, eu, ru⟩ := r.get e
      rw [eu]
      exact .cons ru (pick_rep r l)
def dCallK (m n : Nat) (sp : DSp) (l : List Nat) (E : DX) (t : DTA) : DTE := fun r M Q => t r M fun ds M1 => ds.length = m ∧ (pick l ds).length = n ∧ sp (pick l ds) M1 Q E
variable {k : Nat} {ps ks : List Str} {sp : DSp} {x : Str} {p pos : Pos} {kws : List Keyword} {t : DTA}
/-- f(k = v, ..): all arguments by their names -/
theorem dcallK {m n : Nat} {st : Stmt} (l : List Nat) {P : Program} {w : World} {K : PySem.W.Frag} {mg : Str → Option Value} {base : Heap} (F : Def P w K mg base CX0 k x st ps sp) {j : Nat} (hr : Room j X.A) (gd : X.A.guards = some []) (hkw : DK X kws t)
    (hks : (backToKw pos (keywordEach kws X.env)).filterMap (·.1) = ks)
    (hb : ∀ (kV doc pm : Value) (an : Option Addr) (cdv ct : Value) (us : List Value), us.length = ks.length → bindArgs (PySem.W.fnOf x x (defArgs st) (defBody st) (defScope st) .none kV doc pm an cdv ct) ⟨[], ks.zip us⟩ = pure (ps.zip (pick l us)))
    (hj : k ≤ j := by decide) (hm : ks.length = m := by rfl) (hn : ps.length = n := by rfl)
    (h1 : P = X.prog := by rfl) (h2 : w = X.w := by rfl) (h3 : K = X.K := by rfl) (h4 : mg = X.mg := by rfl) (h5 : base = X.base := by rfl) (hg : Gl X x := by rfl) (hdb : (x == ("__debug__" : Str)) = false := by decide) (hall : (backToKw pos (keywordEach kws X.env)).all (·.1.isSome) = true := by rfl)
    (hpl : ((backTo pos (starEach [] X.env)).any (·.1) || (backToKw pos (keywordEach kws X.env)).any (·.1.isNone)) = false := by rfl) : DE X (.Call (.Name x p) [] kws pos) (dCallK m n sp l DX0 t) := by
  subst h1 h2 h3 h4 h5 hn hm
  obtain ⟨f, fd, h1, h2, h3, h4, h5⟩ := F.ex
  refine ⟨⟨fun pins s σ H Q I ⟨ph, S, r, M, Q0, hs, ht, hq⟩ => wpAny_Call_Name_kw (ld_glob I hg h2 ?_ hdb)⟩⟩
  refine PySem.W.callWith_KW0 (h₀ := X.base) I.ok.mod.kin h3 hall (thn (hkw.pk.run pos pins s σ H _ I ⟨ph, S, r, M, _, hs, ht, fun _ _ z => z⟩) fun us s1 ⟨vs, H1, I1, r1, ph1, S1, M1, x1, hs1, ds, q1, hl, hp, g1⟩ => ⟨I1.kIn, ?_⟩) hpl
  rw [hks]
  obtain ⟨oc, od, kV, doc, pm, an, cdv, ct, osl, efd, lk, hcd⟩ := h5.ex
  have hul : us.length = ks.length := by rw [← Paired.length r1, q1.len]; exact hl
  have hb' : BindsTo s1 fd ⟨[], ks.zip us⟩ (ps.zip (pick l us)) := by
    rw [efd]
    exact .of_eq (hb kV doc pm an cdv ct us hul)
  refine wpAny_call (codeAny_mono (h1.run X.A X.stack s1 H1 ⟨[], ks.zip us⟩ (pick l us) (pick l vs) (post X.K ph1 S1 r σ Q0) E0 (hr.mono hj) gd I1.env0 hb' (pick_vals r1 l) ?_) fun r s' hz => ?_)
  · exact ⟨ph1, S1, M1, pick l ds, Q0, DX0, hp, hs1.drop, pick_rep q1 l, g1, fun v H2 ⟨ph2, S2, M2, x2, hs2, d, q2, h2⟩ => ⟨ph2, S2, M2, x2, hs1.back x2 hs2, d, q2, h2⟩, pX0 _ _⟩
  · match r, hz with
    | .error e, hz => exact pass0 pins σ H1 s1 e s' I1 hz
    | .ok (.ret u), hz => exact EP.up x1 (I1.after hz) hq
    | .ok .next, hz => exact False.elim hz
    | .ok .brk, hz => exact False.elim hz
    | .ok .cont, hz => exact False.elim hz
end
/-! ### a def, made known to its callers -/
theorem Def.mk' {P : Program} {w : World} {K : PySem.W.Frag} {mg : Str → Option Value} {base : Heap} {k : Nat} {x : Str} {st : Stmt} {ps : List Str} {sp : DSp} {f : Addr} {fd : FuncData} (F : Fun K x x st f fd) (h : FnD P w K mg base CX0 k f fd ps sp) (hm : mg x = some (.ref f)) (hb : Binds K fd ps []) : Def P w K mg base CX0 k x st ps sp :=
  ⟨f, fd, h, hm, F.kp, hb, F⟩
/-- a def that stands in the module -/
structure Here (K : PySem.W.Frag) (mg : Str → Option Value) (x : Str) (st : Stmt) (ps : List Str) : Prop where
  ex : ∃ (f : Addr) (fd : FuncData), Fun K x x st f fd ∧ mg x = some (.ref f) ∧ Binds K fd ps []
theorem here_of {K : PySem.W.Frag} {h : Heap} {mg : Str → Option Value} {x : Str} {st : Stmt} {ps : List Str} {f : Addr} {oc : Value} {od an : Option Addr} {osl : Array (Option Value)} {kV doc pm cdv ct : Value} (X : K.In h) (G : h.Ns mainGlobals mg)
    (a : PySem.W.nsIn K mainGlobals x = some (some (.ref f))) (l : K.lookup f = some ⟨oc, od, .func (PySem.W.fnOf x x (defArgs st) (defBody st) (defScope st) .none kV doc pm an cdv ct), osl⟩) (c : PySem.W.codeIn K cdv x = true) (k : PySem.W.keepIn K (.ref f) = true)
    (hb : ∀ (kV doc pm : Value) (an : Option Addr) (cdv ct : Value) (us : List Value), us.length = ps.length → bindArgs (PySem.W.fnOf x x (defArgs st) (defBody st) (defScope st) .none kV doc pm an cdv ct) ⟨us, []⟩ = pure (ps.zip us)) : Here K mg x st ps :=
  ⟨f, _, fun_mk (st := st) l c k, PySem.W.mg_of X G a, (fun_mk (st := st) l c k).binds hb⟩
section
variable {P : Program} {w : World} {K : PySem.W.Frag} {mg : Str → Option Value} {base : Heap}
/-- THE RULE for a def of the module -/
theorem Here.ok {x : Str} {st : Stmt} {N ps : List Str} {k : Nat} {sp : DSp} {t : DTS} (F : Here K mg x st ps) (S : FnScope N ps (defScope st))
    (hder : ∀ (f : Addr) (cdv : Value) (A : Around) (outer : List PySem.Env) (s : Shared) (H : Hp) (E : XK), Room k (A.deeper (envOfC x (defScope st) s.heap.objs.size f cdv)) → (A.deeper (envOfC x (defScope st) s.heap.objs.size f cdv)).guards = some [] →
      DSs (cxOf CX0 P w K mg base N x (defScope st) f cdv A outer s H E).nox (defBody st) t)
    (hread : ∀ ds M Q, ds.length = ps.length → sp ds M Q DX0 → t (dEnds M Q) (startD N.length ds) M)
    (hX : ∀ ds M Q E, sp ds M Q E → sp ds M Q DX0 := by exact fun _ _ _ _ h => h) : Def P w K mg base CX0 (k + 1) x st ps sp :=
  let ⟨f, fd, h1, h2, h3⟩ := F.ex
  Def.mk' h1 (Fun.okD h1 S (hder f) hread hX) h2 h3
end
/-! ### the end of a law -/
def spLaw : DSp := fun ds M Q _ => M = [] ∧ (∃ ns, ds = [.scr ns]) ∧ Q (.bl true) []
theorem law_callG {P : Program} {w : World} {K : PySem.W.Frag} {mg mb : Str → Option Value} {k : Nat} {fa a : Addr} {fd : FuncData} {x : Str} {s1 : Shared} {vs : List Value} {ns : List Int}
    (KX : K.In s1.heap) (hns : s1.heap.Ns mainGlobals mg) (hb : s1.heap.Ns builtinsNs mb) (hbb : ∀ x : Str, x ≠ "__name__" → mb x = bootBuiltins x) (hlim : s1.heap.NoLimit) (hg : s1.gens = #[])
    (ha : s1.heap.get? a = some { cls := .type "list", data := .seq vs.toArray }) (hi : IntsAre vs ns) (hl : ns.length ≤ sizeLine) (hr : Room k callerA)
    (F : ∀ base : Heap, K.In base → base.Ns mainGlobals mg → FnD P w K mg base CX0 k fa fd [x] spLaw) (hbind : ∀ (s : Shared) (u : Value), BindsTo s fd ⟨[u], []⟩ [(x, u)]) :
    codeAny (model P w) callerA (.call (.ref fa) ⟨[.ref a], []⟩) (fun r s' => r = .ok (.ret (.bool true)) ∧ OldK s1.heap s'.heap ∧ s'.os = s1.os ∧ AllBare s'.gens) s1 := by
  have rv := vals_ints hi
  have lenV := hi.length
  have core : ∀ H : Hp, Only H → SqL K H a (ns.map V.int) → HOk P w H s1.heap → (∀ b, H b ≠ none → b = a) → (H a ≠ none → K.lookup a = none) →
      codeAny (model P w) callerA (.call (.ref fa) ⟨[.ref a], []⟩) (fun r s' => r = .ok (.ret (.bool true)) ∧ OldK s1.heap s'.heap ∧ s'.os = s1.os ∧ AllBare s'.gens) s1 := by
    intro H hO hS hok hA hK
    have at_ : ∀ {b : Addr}, H b ≠ none → b = a := fun {b} z => hA b z
    have noA : ∀ {b : Addr} {o : Obj} {es : Array DictEntry} {ep : Nat}, s1.heap.get? b = some o → o.data = .dict es ep → H b = none := fun {b o es ep} e d => by
      by_cases z : H b = none
      · exact z
      · have e' := at_ z
        rw [e', ha] at e
        rw [← Option.some.inj e] at d
        exact nomatch d
    have nsK : ∀ {b : Addr} {m : Str → Option Value}, s1.heap.Ns b m → (hidT s1.heap H).Ns b m := fun {b m} ⟨o, es, ep, e, d, r⟩ => ⟨o, es, ep, hidT_get e (noA e d), d, r⟩
    have hKb : K.In (hidT s1.heap H) := fun b o e => hidT_get (KX b o e) (by
      by_cases z : H b = none
      · exact z
      · have e' := at_ z
        rw [e'] at e z
        rw [hK z] at e
        cases e)
    have hM : Mod K mg (hidT s1.heap H) := ⟨hKb, nsK hns, ⟨mb, nsK hb, hbb⟩, let ⟨mc, g1, g2⟩ := hlim; ⟨mc, nsK g1, g2⟩⟩
    have e0 : Env0 P w K mg (hidT s1.heap H) callerA [] s1 H := ⟨rfl, hM, fun b o e => of_hidT e, Nat.le_of_eq (hidT_size _ _), trivial, fun b hb => absurd (show b ∈ ([] : List Addr) from hb) (by simp), hok, .of_eq hg⟩
    have st0 : Sat K ⟨[], []⟩ H [] [] [] H := ⟨fun _ _ e => e, rfl, List.nodup_nil, fun k a e => by simp at e, fun k ds e => by simp at e, fun _ hp => (nomatch hp), List.nodup_nil, rfl, fun i d e => by simp at e⟩
    have sp0 : lfSp K 1 spLaw [.ref a] H (fun v _ => v = .bl true) E0 := ⟨⟨[], []⟩, H, [], [.scr ns], fun d M => d = .bl true, DX0, rfl, st0, .cons (.scr hS) .nil, ⟨rfl, ⟨ns, rfl⟩, rfl⟩, fun v H' ⟨_, _, _, _, _, d, q, e⟩ => by
      rw [e] at q
      cases q
      rfl, fun cls d H' ⟨_, _, _, _, _, _, _, _, _, _, _, _, _, _, _, _, z⟩ => z⟩
    refine codeAny_mono ((F _ hKb (nsK hns)).run callerA [] s1 H ⟨[.ref a], []⟩ [.ref a] [.ref a] _ _ hr rfl e0 (hbind s1 (.ref a)) (.cons rfl .nil) sp0) fun r s' h => ?_
    match r, h with
    | .error e, h => exact False.elim h
    | .ok .next, h => exact False.elim h
    | .ok .brk, h => exact False.elim h
    | .ok .cont, h => exact False.elim h
    | .ok (.ret u), ⟨v, H', os, bare, un, hok', r', q⟩ =>
      have q' : v = .bl true := q
      subst q'
      obtain rfl : u = Value.bool true := r'
      refine ⟨rfl, OldK.of_keep fun b o e => ?_, os, bare⟩
      rcases hO b with q | ⟨ob, xs, q⟩
      · exact un.keep b o e q (fun z => nomatch z) (fun z => nomatch z)
      · obtain ⟨e1, _⟩ := hok b _ q
        obtain ⟨e2, _⟩ := hok' b _ (un.frzs b ob _ q)
        rw [e] at e1
        cases e1
        exact e2
  cases hk : K.lookup a with
  | some o =>
    have e := KX a o hk
    rw [ha] at e
    cases e
    exact core (fun _ => none) (fun _ => .inl rfl) (.inr ⟨_, vs.toArray, _, hk, rfl, rfl, rfl, by rw [List.size_toArray, lenV]; exact hl, by simpa using rv⟩) (fun b u z => (nomatch z)) (fun b z => absurd rfl z) fun z => absurd rfl z
  | none =>
    refine core (fun b => if b = a then some (.frz { cls := .type "list", data := .seq vs.toArray } (.lst (ns.map V.int))) else none) (fun b => ?_) (.inl (.inr ⟨{ cls := .type "list", data := .seq vs.toArray }, if_pos rfl⟩)) (fun b u z => ?_) (fun b z => ?_) fun _ => hk
    · by_cases hb : b = a
      · exact .inr ⟨_, _, if_pos hb⟩
      · exact .inl (if_neg hb)
    · by_cases hb : b = a
      · have z := (if_pos hb).symm.trans z
        cases z
        rw [hb]
        exact ⟨ha, by rw [List.length_map]; exact hl, vs, _, rv, ha⟩
      · have z := (if_neg hb).symm.trans z
        cases z
    · by_cases hb : b = a
      · exact hb
      · exact absurd (if_neg hb) z
/-- the goal that k_head leaves -/
theorem walkD {l : PySem.W.OpenLaw} {n k : Nat} {q : Program} {loose : List Str} {XP : (Str → Option Value) → Heap → Prop} {YP : World → Heap → Prop} {d : DefRec} {K : Params → PySem.W.Frag} {x : Str} {st : Stmt}
    (hn : l.most = some n) (hn2 : n ≤ sizeLine) (hdf : d.params.defaults = []) (hr : Room k callerA) (hY : ∀ (w : World) (h : Heap), YP w h → (K w.params).In h)
    (F : ∀ (w : World) (mg : Str → Option Value) (h : Heap), (K w.params).In h → h.Ns mainGlobals mg → ∀ base : Heap, (K w.params).In base → base.Ns mainGlobals mg → Def l.prog w (K w.params) mg base CX0 k d.name st [x] spLaw)
    (hb : ∀ (kV doc pm : Value) (an : Option Addr) (cdv ct : Value) (u : Value), bindArgs (PySem.W.fnOf d.name d.name (defArgs st) (defBody st) (defScope st) .none kV doc pm an cdv ct) ⟨[u], []⟩ = pure [(x, u)]) :
    PySem.W.WalkO q loose XP YP l.row.toRowW d [] (fun f vs => PySem.call f vs) := by
  refine Att.attach_call hn hdf fun w s0 s1 mg mb fa o pm cd doc a vs ns G Y ho hd hcd hmg hobj hints hlen hg => ?_
  have KX := hY w _ Y
  obtain ⟨f0, fd, g1, g2, g3, g4, g5⟩ := (F w mg _ KX G.T.g _ KX G.T.g).ex
  have ef : f0 = fa := by
    rw [g2] at hmg
    exact Value.ref.inj (Option.some.inj hmg)
  subst ef
  obtain ⟨oc, od, kV, doc', pm', an, cdv, ct, osl, efd, lk, hcd'⟩ := g5.ex
  refine law_callG (fd := fd) (k := k) (x := x) KX G.T.g G.T.b G.T.builtins G.T.nolimit hg hobj hints (Nat.le_trans hlen hn2) hr (fun base h1 h2 => ?_) fun s u => ?_
  · obtain ⟨f1, fd1, k1, k2, k3, k4, k5⟩ := (F w mg _ KX G.T.g base h1 h2).ex
    have e1 : f1 = f0 := by
      rw [g2] at k2
      exact (Value.ref.inj (Option.some.inj k2)).symm
    subst e1
    obtain ⟨_, _, _, _, _, _, _, _, _, _, lk1, _⟩ := k5.ex
    rw [lk] at lk1
    have e2 : fd = fd1 := by
      have := Option.some.inj lk1
      injection this with _ _ z _
      exact Data.func.inj z
    rw [e2]
    exact k1
  · rw [efd]
    exact .of_eq (hb kV doc' pm' an cdv ct u)
end DL
/-! DL9: further rules; lemmas for readings -/
namespace DL
open PySem PySem.Spec PyProof.Rows L2
theorem u64 {A : Around} {k : Nat} (hr : Room k A) : A.units + 64 < cLine := hr.units
theorem ux {A : Around} {k : Nat} (hr : Room k A) : A.units + 200 < cLine := by have := hr.un; omega
section
variable {X : Cx}
/-- an owned list is handed on: it is changed no more -/
def gFrz (d : D) (M : Mem) (Q : DQ) : Prop := match d with
  | .own k => match M[k]? with
    | some (.lst l) => Q (.lst l) (M.set k .dead)
    | _ => False
  | d => Q d M
def dFrz (t : DTE) : DTE := fun r M Q => t r M fun d M1 => gFrz d M1 Q
end
variable {X : Cx}
/-! ### zip, enumerate -/
/-- a list's items, and what must hold of the cells that they stay so -/
def lsqD (M : Mem) : D → Option (List D × (Mem → Prop))
  | .lst ds => some (ds, fun _ => True)
  | .scr ns => some (ns.map D.int, fun _ => True)
  | .own k => match M[k]? with
    | some (.lst ds) => some (ds, fun M' => M'[k]? = some (.lst ds))
    | _ => none
  | _ => none
theorem lsq_rep {K : PySem.W.Frag} {ph : Ph} {S : Hp} {r : Env} {M : Mem} {σ : St} {H : Hp} {v : V} {d : D} {ds : List D} {C : Mem → Prop} (hs : Sat K ph S r M σ H) (q : Rep K ph S v d) (e : lsqD M d = some (ds, C)) :
    ∃ a, v = .ref a ∧ (∃ xs, SqL K H a xs) ∧ ∀ (ph' : Ph) (S' : Hp) (r' : Env) (M' : Mem) (σ' : St) (H' : Hp), (∀ (k : Nat) (a : Addr), ph.cells[k]? = some a → ph'.cells[k]? = some a) → Same S S' → Sat K ph' S' r' M' σ' H' → C M' → ∃ xs, SqL K H' a xs ∧ RepAll K ph' S' xs ds := by
  cases d <;> first | (cases e; done) | skip
  · cases q with
    | lst h1 h2 =>
      cases e
      exact ⟨_, rfl, ⟨_, SqL.of (hs.sub _ _ h1)⟩, fun ph' S' r' M' σ' H' e1 e2 hs' _ => ⟨_, SqL.of (hs'.sub _ _ (e2 _ _ h1)), h2.ext0 e1 e2⟩⟩
  · cases q with
    | scr h1 =>
      cases e
      exact ⟨_, rfl, ⟨_, hs.sub.seq h1⟩, fun ph' S' r' M' σ' H' e1 e2 hs' _ => ⟨_, hs'.sub.seq (e2.seq h1), RepAll.ints _⟩⟩
  · rename_i k
    cases q with
    | own h1 =>
      unfold lsqD at e
      dsimp only at e
      split at e
      · rename_i ds' hk
        cases e
        obtain ⟨a, xs, c1, c2, c3, c4⟩ := hs.cell k _ hk
        rw [h1] at c1; cases c1
        refine ⟨_, rfl, ⟨_, SqL.of c3⟩, fun ph' S' r' M' σ' H' e1 e2 hs' hc => ?_⟩
        obtain ⟨a', xs', b1, b2, b3, b4⟩ := hs'.cell k _ hc
        rw [e1 _ _ h1] at b1; cases b1
        exact ⟨xs', SqL.of b3, b4⟩
      · cases e
def pairD (x y : D) : D := .tup [x, y]
theorem RepAll.two {K : PySem.W.Frag} {ph : Ph} {S : Hp} {x y : V} {d e : D} (h : Rep K ph S x d) (g : Rep K ph S y e) : RepAll K ph S [x, y] [d, e] := .cons h (.cons g .nil)
theorem zip_get {l1 l2 : List D} {i : Nat} {d : D} (h : (List.zipWith pairD l1 l2)[i]? = some d) : ∃ x y, l1[i]? = some x ∧ l2[i]? = some y ∧ d = pairD x y := by
  rw [List.getElem?_zipWith] at h
  cases e1 : l1[i]? with
  | none => rw [e1] at h; cases h
  | some x =>
    cases e2 : l2[i]? with
    | none => rw [e1, e2] at h; cases h
    | some y =>
      rw [e1, e2] at h
      exact ⟨x, y, rfl, rfl, (Option.some.inj h).symm⟩
theorem Wlk.zip {K : PySem.W.Frag} {ph : Ph} {S : Hp} {a b : Addr} {d1 d2 : List D} {C1 C2 : Mem → Prop}
    (h1 : ∀ (ph' : Ph) (S' : Hp) (r' : Env) (M' : Mem) (σ' : St) (H' : Hp), (∀ (k : Nat) (a : Addr), ph.cells[k]? = some a → ph'.cells[k]? = some a) → Same S S' → Sat K ph' S' r' M' σ' H' → C1 M' → ∃ xs, SqL K H' a xs ∧ RepAll K ph' S' xs d1)
    (h2 : ∀ (ph' : Ph) (S' : Hp) (r' : Env) (M' : Mem) (σ' : St) (H' : Hp), (∀ (k : Nat) (a : Addr), ph.cells[k]? = some a → ph'.cells[k]? = some a) → Same S S' → Sat K ph' S' r' M' σ' H' → C2 M' → ∃ xs, SqL K H' b xs ∧ RepAll K ph' S' xs d2) :
    Wlk K ph S (Itz K a b) (List.zipWith pairD d1 d2) (fun M => C1 M ∧ C2 M) := fun ph' S' r M σ H e1 e2 hs hc => by
  obtain ⟨xs, q1, qa1⟩ := h1 ph' S' r M σ H e1 e2 hs hc.1
  obtain ⟨ys, q2, qa2⟩ := h2 ph' S' r M σ H e1 e2 hs hc.2
  refine ⟨fun i hi => ⟨xs, ys, q1, q2, by rw [qa1.len, qa2.len]; rw [List.length_zipWith] at hi; omega⟩, fun i d e => ?_⟩
  obtain ⟨x, y, ex, ey, rfl⟩ := zip_get e
  obtain ⟨u, eu, qu⟩ := qa1.get ex
  obtain ⟨w, ew, qw⟩ := qa2.get ey
  refine ⟨⟨xs, ys, u, w, q1, q2, eu, ew⟩, fun z H' ⟨T, u', w', ez, hT, eH, f1, f2⟩ => ?_⟩
  have e3 := f1 xs q1
  have e4 := f2 ys q2
  rw [eu] at e3; cases e3
  rw [ew] at e4; cases e4
  subst ez eH
  obtain ⟨x1, hs1⟩ := hs.frz hT (.tup [u, w])
  exact ⟨_, _, _, x1, hs1, rfl, .tup (.inl upd_same) ((RepAll.two qu qw).up x1)⟩
/-- zip of two lists -/
def gZip (ds : List D) (M : Mem) (R : List D → (Mem → Prop) → Mem → Prop) : Prop := match ds with
  | [x, y] => match lsqD M x, lsqD M y with
    | some (xs, C1), some (ys, C2) => R (List.zipWith pairD xs ys) (fun M' => C1 M' ∧ C2 M') M
    | _, _ => False
  | _ => False
theorem di_zip {a b : Expr} {t : DTA} {p pos tpos : Pos} {elts : List Expr} {kk : Nat} (hm : X.mg "zip" = none) (ha : DA X [a, b] t) (hg : Gl X "zip" := by rfl)
    (hs : starEach [a, b] X.env = (false, eval a X.env) :: starEach [b] X.env := by rfl) (hpl : (backTo pos (starEach [b] X.env)).any (·.1) = false := by rfl) : DI X (.Tuple elts kk tpos) (.Call (.Name "zip" p) [a, b] [] pos) (dRngI gZip t) :=
  ⟨PI.weak (RZ.pi_zipA hg hm ha.pa hs hpl) fun σ H R ⟨ph, S, r, M, Q0, hs, ht, hq⟩ => ⟨ph, S, r, M, _, hs, ht, fun vs H1 ⟨ph1, S1, M1, x1, hs1, ds, q1, g1⟩ => by
    match ds, q1, g1 with
    | [x, y], .cons qx (.cons qy .nil), g =>
      unfold gZip at g
      dsimp only at g
      split at g
      · rename_i xs C1 ys C2 e1 e2
        obtain ⟨u, rfl, ⟨us, hu⟩, w1⟩ := lsq_rep hs1 qx e1
        obtain ⟨w, rfl, ⟨ws, hw⟩, w2⟩ := lsq_rep hs1 qy e2
        exact ⟨u, w, us, ws, rfl, .inl ⟨hu, hw, hq _ _ ⟨ph1, S1, M1, x1, hs1, _, _, Wlk.zip w1 w2, g⟩⟩⟩
      · exact g.elim⟩⟩
end DL
namespace DL
open PySem PySem.Spec PyProof.Rows L2
def t_is_whole : DTS :=
 (dRet (dAndV (dCB gIsi (dCons (dVar 0) (dCons (dC (.val (.ty "int"))) dNil))) (dNotV (dCB gIsi (dCons (dVar 0) (dCons (dC (.val (.ty "bool"))) dNil))))))
def t_common_by : DTS :=
 (dSeq (dPar 2 3 (dCons (dCB gAbs (dCons (dVar 0) dNil)) (dCons (dCB gAbs (dCons (dVar 1) dNil)) dNil)))
 (dSeq (dWhile (dTru (dOp gNe (dVar 3) (dC (.int 0)))) (dPar 2 3 (dCons (dVar 3) (dCons (dOp (rBin CMod fun i j => i.fmod j) (dVar 2) (dVar 3)) dNil))))
 (dRet (dVar 2))))
def t_l_random_7821 (c_l_hash_9cde : DSp) : DTS :=
 (dSeq (dIfS (dTru (dOp (gCmpI fun i j => decide (j < i)) (dOp gIx (dVar 0) (dC (.int 0))) (dC (.int 0)))) (dSeq (dAsg (dOp (rBin CMod fun i j => i.fmod j) (dCB gInt (dCons (dOp gIx (dVar 0) (dC (.int 0))) dNil)) (dVar 1)) (dName 2))
 (dSeq (dAsg (dOp (rBin CDiv fun i j => i.fdiv j) (dOp gIx (dVar 0) (dC (.int 0))) (dVar 1)) (dSub (dVar 0) (dC (.int 0))))
 (dRet (dVar 2)))) dNext)
 (dSeq (dAsg (dC (.int 0)) (dName 2))
 (dSeq (dFor (dRngI gRng1 (dCons (dOp gAdd (dC (.int 1)) (dOp (rBin CDiv fun i j => i.fdiv j) (dBits (dVar 1)) (dC (.int 30)))) dNil)) (dName 3) (dSeq (dAsg (dOp gAdd (dOp gIx (dVar 0) (dC (.int 2))) (dC (.int 1))) (dSub (dVar 0) (dC (.int 2))))
 (dAsg (dOp gAdd (dOp (rBin CMul fun i j => i * j) (dVar 2) (dC (.int 2147483587))) (dCall 2 c_l_hash_9cde [] DX0 (dCons (dOp gIx (dVar 0) (dC (.int 1))) (dCons (dOp gIx (dVar 0) (dC (.int 2))) dNil)))) (dName 2))))
 (dRet (dOp (rBin CMod fun i j => i.fmod j) (dCB gInt (dCons (dVar 2) dNil)) (dVar 1))))))
def t_l_cell_cf3b : DTS :=
 (dSeq (dIfS (dTru (dOp (gCmpI fun i j => decide (i < j)) (dVar 1) (dCB gLen (dCons (dVar 0) dNil)))) (dRet (dOp gIx (dVar 0) (dVar 1))) dNext)
 (dRet (dOp (rBin CMod fun i j => i.fmod j) (dCB gSum (dCons (dSl (gSlL false) (dVar 0) dNoPart (dPart (dC (.int 1)))) dNil)) (dC (.int 1000003)))))
def t_l_generator_b324 (c_l_cell_cf3b : DSp) : DTS :=
 (dSeq (dAsg (dCall 2 c_l_cell_cf3b [] DX0 (dCons (dVar 0) (dCons (dVar 1) dNil))) (dName 2))
 (dRet (dOwn (dCons (dOp (rBin CMod fun i j => i.fmod j) (dCB gInt (dCons (dCB gMax (dCons (dOp (rBin (fun _ _ => True) fun i j => i - j) (dVar 2) (dOp (rBin CPow fun i j => i ^ j.toNat) (dC (.int 10)) (dC (.int 18)))) (dCons (dC (.int 0)) dNil))) dNil)) (dOp (rBin CPow fun i j => i ^ j.toNat) (dOp (rBin CPow fun i j => i ^ j.toNat) (dC (.int 10)) (dC (.int 60))) (dC (.int 10)))) (dCons (dOp (rBin CMod fun i j => i.fmod j) (dCB gInt (dCons (dVar 2) dNil)) (dC (.int 2147483647))) (dCons (dOp (rBin CMul fun i j => i * j) (dC (.int 1000)) (dVar 1)) dNil))))))
end DL
namespace DL
open PySem PySem.Spec PyProof.Rows L2
end DL
namespace DL
open PySem PySem.Spec PyProof.Rows L2
end DL
namespace DL
open PySem PySem.Spec PyProof.Rows L2
def t_l_hash_d8d1 : DTS :=
 (dSeq (dAsg (dOp (rBin CMod fun i j => i.fmod j) (dCB gInt (dCons (dOp gAdd (dOp gAdd (dOp gAdd (dOp (rBin CMul fun i j => i * j) (dVar 0) (dC (.int 1140671))) (dOp (rBin CMul fun i j => i * j) (dOp (rBin CMul fun i j => i * j) (dC (.int 27644437)) (dVar 1)) (dVar 1))) (dOp (rBin CMul fun i j => i * j) (dC (.int 131)) (dVar 1))) (dC (.int 19))) dNil)) (dC (.int 2147483629))) (dName 2))
 (dSeq (dAsg (dOp (rBin CMod fun i j => i.fmod j) (dCB gInt (dCons (dOp gAdd (dOp gAdd (dOp (rBin CMul fun i j => i * j) (dVar 2) (dVar 2)) (dOp (rBin CMul fun i j => i * j) (dC (.int 62089)) (dVar 1))) (dC (.int 32416187))) dNil)) (dC (.int 2147483587))) (dName 2))
 (dRet (dOp (rBin CMod fun i j => i.fmod j) (dCB gInt (dCons (dOp (rBin CMul fun i j => i * j) (dVar 2) (dC (.int 48271))) dNil)) (dC (.int 2147483647))))))
def t_l_is_cutting_19aa (c_l_common_7348 : DSp) : DTS :=
 (dSeq (dIfS (dOr (dTru (dOp (gCmpI fun i j => decide (i < j)) (dVar 1) (dC (.int 1)))) (dOr (dTru (dOp (gCmpI fun i j => decide (i < j)) (dVar 2) (dC (.int 1)))) (dOr (dTru (dOp (gCmpI fun i j => decide (j ≤ i)) (dOp gAdd (dVar 2) (dVar 3)) (dVar 1))) (dNot (dTru (dChain (gCmpI fun i j => decide (i ≤ j)) (gCmpI fun i j => decide (i < j)) (dC (.int 0)) (dVar 0) (dCall 2 c_l_common_7348 [] DX0 (dCons (dVar 1) (dCons (dVar 2) dNil))))))))) (dRet (dC (.bl false))) dNext)
 (dRet (dOp gEq (dCall 2 c_l_common_7348 [] DX0 (dCons (dCall 2 c_l_common_7348 [] DX0 (dCons (dVar 0) (dCons (dVar 1) dNil))) (dCons (dCall 2 c_l_common_7348 [] DX0 (dCons (dVar 2) (dCons (dVar 3) dNil))) dNil))) (dC (.int 1)))))
def t_is_cutting_by (c_is_whole : DSp) (c_common_by : DSp) : DTS :=
 (dSeq (dIfS (dOr (dNot (dTru (dCB gIsi (dCons (dVar 0) (dCons (dC (.val (.ty "tuple"))) dNil))))) (dOr (dTru (dOp gNe (dCB gLen (dCons (dVar 0) dNil)) (dC (.int 4)))) (dTru (dOp gNe (dLc false (dSeqI (dVar 0)) (dName 1) (dNot (dTru (dCall 1 c_is_whole [] DX0 (dCons (dVar 1) dNil)))) (dVar 1) [1]) (dLst dNil))))) (dRet (dC (.bl false))) dNext)
 (dSeq (dAsg (dVar 0) (dGTup 4 (dGCons (dName 2) (dGCons (dName 3) (dGCons (dName 4) (dGCons (dName 5) dGNil))))))
 (dSeq (dIfS (dOr (dTru (dOp (gCmpI fun i j => decide (i < j)) (dVar 3) (dC (.int 1)))) (dOr (dTru (dOp (gCmpI fun i j => decide (i < j)) (dVar 4) (dC (.int 1)))) (dNot (dTru (dOp (gCmpI fun i j => decide (i < j)) (dOp gAdd (dVar 4) (dVar 5)) (dVar 3)))))) (dRet (dC (.bl false))) dNext)
 (dSeq (dAsg (dCall 2 c_common_by [] DX0 (dCons (dVar 3) (dCons (dVar 4) dNil))) (dName 6))
 (dRet (dAndV (dChain (gCmpI fun i j => decide (i ≤ j)) (gCmpI fun i j => decide (i < j)) (dC (.int 0)) (dVar 2) (dVar 6)) (dOp gEq (dCall 2 c_common_by [] DX0 (dCons (dCall 2 c_common_by [] DX0 (dCons (dVar 2) (dCons (dVar 6) dNil))) (dCons (dVar 5) dNil))) (dC (.int 1)))))))))
def t_check_cutting (c_is_cutting_by : DSp) : DTS :=
 (dIfS (dNot (dTru (dCall 1 c_is_cutting_by [] DX0 (dCons (dVar 0) dNil)))) dNever dNext)
end DL
namespace DL
open PySem PySem.Spec PyProof.Rows L2
def t_l_common_b8b4 : DTS :=
 (dSeq (dPar 2 3 (dCons (dCB gAbs (dCons (dVar 0) dNil)) (dCons (dCB gAbs (dCons (dVar 1) dNil)) dNil)))
 (dSeq (dWhile (dTru (dOp (gCmpI fun i j => decide (j < i)) (dVar 3) (dC (.int 0)))) (dPar 2 3 (dCons (dVar 3) (dCons (dOp (rBin CMod fun i j => i.fmod j) (dCB gInt (dCons (dVar 2) dNil)) (dVar 3)) dNil))))
 (dRet (dVar 2))))
def t_l_cutting_f2c0 (c_l_random_7821 : DSp) (c_l_common_b8b4 : DSp) (c_l_is_cutting_19aa : DSp) : DTS :=
 (dSeq (dFor (dRngI gRng1 (dCons (dC (.int 30)) dNil)) (dName 2) (dSeq (dPar 3 4 (dCons (dOp gAdd (dC (.int 1)) (dCall 2 c_l_random_7821 [] DX0 (dCons (dVar 0) (dCons (dVar 1) dNil)))) (dCons (dOp gAdd (dC (.int 1)) (dCall 2 c_l_random_7821 [] DX0 (dCons (dVar 0) (dCons (dVar 1) dNil)))) dNil)))
 (dSeq (dIfS (dTru (dOp gEq (dCall 2 c_l_random_7821 [] DX0 (dCons (dVar 0) (dCons (dC (.int 3)) dNil))) (dC (.int 0)))) (dSeq (dAsg (dOp gAdd (dC (.int 2)) (dCall 2 c_l_random_7821 [] DX0 (dCons (dVar 0) (dCons (dC (.int 3)) dNil)))) (dName 5))
 (dPar 3 4 (dCons (dOp (rBin CMul fun i j => i * j) (dVar 3) (dVar 5)) (dCons (dOp (rBin CMul fun i j => i * j) (dVar 4) (dVar 5)) dNil)))) dNext)
 (dSeq (dAsg (dOp (rBin (fun _ _ => True) fun i j => i - j) (dOp (rBin (fun _ _ => True) fun i j => i - j) (dOp (rBin (fun _ _ => True) fun i j => i - j) (dVar 3) (dVar 4)) (dC (.int 1))) (dCall 2 c_l_random_7821 [] DX0 (dCons (dVar 0) (dCons (dOp (rBin CMul fun i j => i * j) (dC (.int 2)) (dVar 1)) dNil)))) (dName 6))
 (dSeq (dAsg (dCall 2 c_l_random_7821 [] DX0 (dCons (dVar 0) (dCons (dCall 2 c_l_common_b8b4 [] DX0 (dCons (dVar 3) (dCons (dVar 4) dNil))) dNil))) (dName 7))
 (dIfS (dTru (dCall 4 c_l_is_cutting_19aa [] DX0 (dCons (dVar 7) (dCons (dVar 3) (dCons (dVar 4) (dCons (dVar 6) dNil)))))) (dRet (dTup (dCons (dVar 7) (dCons (dVar 3) (dCons (dVar 4) (dCons (dVar 6) dNil)))))) dNext))))))
 (dRet (dTup (dCons (dC (.int 0)) (dCons (dOp gAdd (dC (.int 1)) (dVar 1)) (dCons (dC (.int 1)) (dCons (dOp (rBin (fun _ _ => True) fun i j => i - j) (dC (.int 0)) (dC (.int 1))) dNil)))))))
def t_is_path_list (c_is_whole : DSp) : DTS :=
 (dRet (dAndV (dCB gIsi (dCons (dVar 0) (dCons (dC (.val (.ty "list"))) dNil))) (dAndV (dOp gEq (dCB gLen (dCons (dVar 0) dNil)) (dC (.int 4))) (dOp gEq (dLc false (dSeqI (dVar 0)) (dName 1) (dNot (dTru (dCall 1 c_is_whole [] DX0 (dCons (dVar 1) dNil)))) (dVar 1) [1]) (dLst dNil)))))
def t_l_crossing_3f18 : DTS :=
 (dRet (dOp (rBin (fun _ _ => True) fun i j => i - j) (dOp gAdd (dOp (rBin (fun _ _ => True) fun i j => i - j) (dOp (rBin CMul fun i j => i * j) (dOp gIx (dVar 0) (dC (.int 0))) (dOp gIx (dVar 1) (dC (.int 1)))) (dOp (rBin CMul fun i j => i * j) (dOp gIx (dVar 0) (dC (.int 1))) (dOp gIx (dVar 1) (dC (.int 0))))) (dOp (rBin CMul fun i j => i * j) (dOp gIx (dVar 0) (dC (.int 2))) (dOp gIx (dVar 1) (dC (.int 3))))) (dOp (rBin CMul fun i j => i * j) (dOp gIx (dVar 0) (dC (.int 3))) (dOp gIx (dVar 1) (dC (.int 2))))))
end DL
/-! DLS: sorted of ints, of tuples of ints -/
namespace DL
open PySem PySem.Spec PyProof.Rows L2
/-- by the first unlike number -/
def lexL : List Int → List Int → Bool
  | [], [] => false
  | [], _ :: _ => true
  | _ :: _, [] => false
  | x :: xs, y :: ys => if x = y then lexL xs ys else decide (x < y)
/-- at v: a tuple of these ints -/
def IsTupI (h : Heap) (v : Value) (ns : List Int) : Prop := ∃ a o us n, v = .ref a ∧ h.get? a = some o ∧ o.cls = .type "tuple" ∧ o.data = .seq (List.toArray us) n ∧ Vals (ns.map V.int) us
theorem IsTupI.keeps {h h' : Heap} {v : Value} {ns : List Int} (p : IsTupI h v ns) (k : ∀ b o, h.get? b = some o → o.cls = .type "tuple" → h'.get? b = some o) : IsTupI h' v ns := by
  obtain ⟨a, o, us, n, e, ho, hc, hd, r⟩ := p
  exact ⟨a, o, us, n, e, k _ _ ho hc, hc, hd, r⟩
/-- the ints of a tuple, as H tells -/
def kV (K : PySem.W.Frag) (H : Hp) (v : V) : List Int := match v with
  | .ref t => match H t with
    | some (.tup xs) => xs.map fun x => match x with
      | .int i => i
      | _ => 0
    | _ => match K.lookup t with
      | some ⟨_, _, .seq its _, _⟩ => its.toList.map fun u => match u with
        | .int i _ => i
        | _ => 0
      | _ => []
  | _ => []
/-! ### as a rule for data -/
/-! ### slices of lists and tuples alike -/
section
variable {X : Cx}
def gSl (own : Bool) (d : D) (lo hi : Option Int) (M : Mem) (Q : DQ) : Prop := match d with
  | .tup l => Q (.tup (cutD l lo hi)) M
  | d => gSlL own d lo hi M Q
theorem de_sl (own : Bool) {e : Expr} {lo hi : Option Expr} {t : DTE} {tl th : DTO} {pos p2 : Pos} (h : DE X e t) (h1 : DO X lo tl) (h2 : DO X hi th) : DE X (.Subscript e (.Slice lo hi none p2) pos) (dSl (gSl own) t tl th) :=
  DE.of (pe_slice (SlR.or sl_list sl_tupA) h.pe h1.po h2.po) fun ph S r M σ H Q hs ht Q' hq => ⟨ph, S, r, M, _, hs, ht, fun v H1 ⟨ph1, S1, M1, x1, hs1, d, q1, g1⟩ =>
    ⟨ph1, S1, r, M1, _, hs1, g1, fun lo H2 ⟨ph2, S2, M2, x2, hs2, g2⟩ => ⟨ph2, S2, r, M2, _, hs2, g2, fun hi H3 ⟨ph3, S3, M3, x3, hs3, g3⟩ => by
      replace g3 : gSl own d lo hi M3 Q := g3
      have xx := x1.trans (x2.trans x3)
      have q3 := q1.up (x2.trans x3)
      by_cases htup : ∃ l, d = .tup l
      · obtain ⟨l, rfl⟩ := htup
        cases q3 with
        | tup h1 h2 =>
          refine .inr ⟨_, _, rfl, h1.sq hs3.sub, fun hw => ?_, fun _ b hb => hq _ _ (Aft.up xx (Aft.frz hs3 hb fun x => ⟨_, .tup (.inl upd_same) ((cut_rep h2).up x), g3⟩))⟩
          have hw' : HT.sIx l.length 0 lo = 0 ∧ HT.sIx l.length l.length hi = l.length := by rw [← h2.len]; exact hw
          refine hq _ _ (Aft.up xx (Aft.here hs3 ⟨_, .tup h1 ?_, g3⟩))
          unfold cutD
          rw [cut_whole hw']
          exact h2
      · left
        have g4 : gSlL own d lo hi M3 Q := by cases d <;> first | exact g3 | exact absurd ⟨_, rfl⟩ htup
        unfold gSlL at g4
        split at g4
        · rename_i l er
          obtain ⟨p, xs, rfl, hp, hx⟩ := res_lst hs3 q3 er
          refine ⟨p, xs, rfl, SqL.of hp, fun b hb => ?_⟩
          cases own with
          | false => exact hq _ _ (Aft.up xx (Aft.frz hs3 hb fun x => ⟨_, .lst upd_same ((cut_rep hx).up x), g4⟩))
          | true => exact hq _ _ (Aft.up xx (Aft.own hs3 hb (cut_rep hx) g4))
        · rename_i ns er
          have er' := res_scr er
          subst er'
          cases q3 with
          | scr h1 =>
            refine ⟨_, _, rfl, hs3.sub.seq h1, fun b hb => ?_⟩
            cases own with
            | false => exact hq _ _ (Aft.up xx (Aft.frz hs3 hb fun x => ⟨_, .lst upd_same (cut_rep (RepAll.ints _)), g4⟩))
            | true => exact hq _ _ (Aft.up xx (Aft.own hs3 hb (cut_rep (RepAll.ints _)) g4))
        · exact g4.elim⟩⟩⟩
theorem gSl_tup {own : Bool} {l : List D} {lo hi : Option Int} {M : Mem} {Q : DQ} : gSl own (.tup l) lo hi M Q = Q (.tup (cutD l lo hi)) M := rfl
theorem gSl_lst {l : List D} {lo hi : Option Int} {M : Mem} {Q : DQ} : gSl false (.lst l) lo hi M Q = Q (.lst (cutD l lo hi)) M := rfl
theorem cut_1 {a : D} {l : List D} : cutD (a :: l) (some 1) none = l := by
  unfold cutD
  have e1 : HT.sIx (a :: l).length 0 (some 1) = 1 := by
    have := HT.sIx_nat (a :: l).length 0 1
    rw [show ((1 : Nat) : Int) = 1 from rfl] at this
    rw [this, List.length_cons]
    omega
  have e2 : HT.sIx (a :: l).length (a :: l).length none = (a :: l).length := rfl
  rw [e1, e2]
  simp
end
/-! ### x + y, lists, the sum to be changed -/
end DL
namespace DL
open PySem PySem.Spec PyProof.Rows L2
def t_shared : DTS :=
 (dSeq (dAsg (dTup (dCons (dVar 0) (dCons (dVar 1) (dCons (dC (.int 1)) (dCons (dC (.int 0)) (dCons (dC (.int 0)) (dCons (dC (.int 1)) dNil))))))) (dGTup 6 (dGCons (dName 2) (dGCons (dName 3) (dGCons (dName 4) (dGCons (dName 5) (dGCons (dName 6) (dGCons (dName 7) dGNil))))))))
 (dSeq (dWhile (dTru (dOp gNe (dVar 3) (dC (.int 0)))) (dSeq (dAsg (dOp (rBin CDiv fun i j => i.fdiv j) (dVar 2) (dVar 3)) (dName 8))
 (dSeq (dPar 2 3 (dCons (dVar 3) (dCons (dOp (rBin (fun _ _ => True) fun i j => i - j) (dVar 2) (dOp (rBin CMul fun i j => i * j) (dVar 8) (dVar 3))) dNil)))
 (dSeq (dPar 4 5 (dCons (dVar 5) (dCons (dOp (rBin (fun _ _ => True) fun i j => i - j) (dVar 4) (dOp (rBin CMul fun i j => i * j) (dVar 8) (dVar 5))) dNil)))
 (dPar 6 7 (dCons (dVar 7) (dCons (dOp (rBin (fun _ _ => True) fun i j => i - j) (dVar 6) (dOp (rBin CMul fun i j => i * j) (dVar 8) (dVar 7))) dNil)))))))
 (dRet (dIf (dTru (dOp (gCmpI fun i j => decide (j < i)) (dVar 2) (dC (.int 0)))) (dTup (dCons (dVar 2) (dCons (dVar 4) (dCons (dVar 6) dNil)))) (dTup (dCons (dNeg (dVar 2)) (dCons (dNeg (dVar 4)) (dCons (dNeg (dVar 6)) dNil))))))))
def t_opposite_by (c_shared : DSp) : DTS :=
 (dRet (dOp (rBin CMod fun i j => i.fmod j) (dOp gIx (dCall 2 c_shared [] DX0 (dCons (dOp (rBin CMod fun i j => i.fmod j) (dVar 0) (dVar 1)) (dCons (dVar 1) dNil))) (dC (.int 1))) (dVar 1)))
def t_beside (c_opposite_by : DSp) : DTS :=
 (dSeq (dAsg (dVar 0) (dGTup 2 (dGCons (dName 1) (dGCons (dName 2) dGNil))))
 (dSeq (dAsg (dIf (dTru (dOp (gCmpI fun i j => decide (j < i)) (dVar 2) (dC (.int 1)))) (dCall 2 c_opposite_by [] DX0 (dCons (dVar 1) (dCons (dVar 2) dNil))) (dC (.int 0))) (dName 3))
 (dRet (dTup (dCons (dOp (rBin CDiv fun i j => i.fdiv j) (dOp (rBin (fun _ _ => True) fun i j => i - j) (dOp (rBin CMul fun i j => i * j) (dVar 1) (dVar 3)) (dC (.int 1))) (dVar 2)) (dCons (dVar 3) dNil))))))
def t_table_by (c_beside : DSp) : DTS :=
 (dSeq (dAsg (dVar 0) (dGTup 4 (dGCons (dName 2) (dGCons (dName 3) (dGCons (dName 4) (dGCons (dName 5) dGNil))))))
 (dSeq (dAsg (dVar 1) (dGTup 2 (dGCons (dName 6) (dGCons (dName 7) dGNil))))
 (dSeq (dAsg (dCall 1 c_beside [] DX0 (dCons (dVar 1) dNil)) (dGTup 2 (dGCons (dName 8) (dGCons (dName 9) dGNil))))
 (dSeq (dAsg (dOp gAdd (dOp gAdd (dOp gAdd (dOp (rBin CMul fun i j => i * j) (dVar 8) (dVar 3)) (dOp (rBin CMul fun i j => i * j) (dVar 9) (dVar 2))) (dVar 5)) (dOp (rBin CMul fun i j => i * j) (dVar 7) (dVar 4))) (dName 10))
 (dRet (dTup (dCons (dTup (dCons (dOp gAdd (dOp (rBin CMul fun i j => i * j) (dVar 6) (dVar 3)) (dOp (rBin CMul fun i j => i * j) (dVar 7) (dVar 2))) (dCons (dOp (rBin CMul fun i j => i * j) (dVar 7) (dVar 4)) (dCons (dVar 10) (dCons (dOp (rBin CMul fun i j => i * j) (dVar 9) (dVar 4)) dNil))))) (dCons (dVar 8) (dCons (dVar 9) dNil)))))))))
def t_full_by (c_table_by : DSp) (c_shared : DSp) (c_opposite_by : DSp) : DTS :=
 (dSeq (dAsg (dCall 2 c_table_by [] DX0 (dCons (dVar 0) (dCons (dVar 1) dNil))) (dGTup 3 (dGCons (dGTup 4 (dGCons (dName 2) (dGCons (dName 3) (dGCons (dName 4) (dGCons (dName 5) dGNil))))) (dGCons (dName 6) (dGCons (dName 7) dGNil)))))
 (dSeq (dAsg (dCall 2 c_shared [] DX0 (dCons (dVar 2) (dCons (dVar 3) dNil))) (dGTup 3 (dGCons (dName 8) (dGCons (dName 9) (dGCons (dName 10) dGNil)))))
 (dSeq (dAsg (dOp (rBin CDiv fun i j => i.fdiv j) (dOp (rBin (fun _ _ => True) fun i j => i - j) (dOp (rBin CMul fun i j => i * j) (dVar 2) (dVar 5)) (dOp (rBin CMul fun i j => i * j) (dVar 3) (dVar 4))) (dVar 8)) (dName 11))
 (dSeq (dPar 12 13 (dCons (dCB gGcd (dCons (dVar 11) (dCons (dVar 8) dNil))) (dCons (dNeg (dOp gAdd (dOp (rBin CMul fun i j => i * j) (dVar 9) (dVar 4)) (dOp (rBin CMul fun i j => i * j) (dVar 10) (dVar 5)))) dNil)))
 (dSeq (dPar 14 15 (dCons (dOp (rBin CMod fun i j => i.fmod j) (dVar 13) (dVar 12)) (dCons (dOp (rBin CDiv fun i j => i.fdiv j) (dVar 8) (dVar 12)) dNil)))
 (dSeq (dAsg (dIf (dTru (dOp (gCmpI fun i j => decide (j < i)) (dVar 15) (dC (.int 1)))) (dOp (rBin CMod fun i j => i.fmod j) (dOp (rBin CMul fun i j => i * j) (dOp (rBin CDiv fun i j => i.fdiv j) (dOp (rBin (fun _ _ => True) fun i j => i - j) (dVar 14) (dVar 13)) (dVar 12)) (dCall 2 c_opposite_by [] DX0 (dCons (dOp (rBin CDiv fun i j => i.fdiv j) (dVar 11) (dVar 12)) (dCons (dVar 15) dNil)))) (dVar 15)) (dC (.int 0))) (dName 16))
 (dSeq (dPar3 9 10 13 (dCons (dOp gAdd (dVar 9) (dOp (rBin CMul fun i j => i * j) (dVar 16) (dOp (rBin CDiv fun i j => i.fdiv j) (dVar 3) (dVar 8)))) (dCons (dOp (rBin (fun _ _ => True) fun i j => i - j) (dVar 10) (dOp (rBin CMul fun i j => i * j) (dVar 16) (dOp (rBin CDiv fun i j => i.fdiv j) (dVar 2) (dVar 8)))) (dCons (dOp gAdd (dVar 13) (dOp (rBin CMul fun i j => i * j) (dVar 16) (dVar 11))) dNil))))
 (dSeq (dAsg (dTup (dCons (dVar 14) (dCons (dVar 11) (dCons (dVar 8) (dCons (dOp (rBin (fun _ _ => True) fun i j => i - j) (dNeg (dOp gIx (dVar 0) (dC (.int 3)))) (dOp (rBin CMul fun i j => i * j) (dOp (rBin CMul fun i j => i * j) (dC (.int 2)) (dOp gIx (dVar 1) (dC (.int 1)))) (dOp gIx (dVar 0) (dC (.int 2))))) dNil))))) (dName 17))
 (dRet (dTup (dCons (dVar 17) (dCons (dTup (dCons (dTup (dCons (dVar 9) (dCons (dVar 10) dNil))) (dCons (dTup (dCons (dNeg (dOp (rBin CDiv fun i j => i.fdiv j) (dVar 3) (dVar 8))) (dCons (dOp (rBin CDiv fun i j => i.fdiv j) (dVar 2) (dVar 8)) dNil))) dNil))) (dCons (dOp (rBin CDiv fun i j => i.fdiv j) (dOp (rBin (fun _ _ => True) fun i j => i - j) (dVar 13) (dVar 14)) (dVar 8)) (dCons (dVar 6) (dCons (dVar 7) dNil)))))))))))))))
def t_done_by (c_full_by : DSp) : DTS :=
 (dRet (dOp gIx (dCall 2 c_full_by [] DX0 (dCons (dVar 0) (dCons (dVar 1) dNil))) (dC (.int 0))))
end DL
namespace DL
open PySem PySem.Spec PyProof.Rows L2
end DL
namespace DL
open PySem PySem.Spec PyProof.Rows L2
def t_l_allowed_c76c : DTS :=
 (dSeq (dAsg (dVar 0) (dGTup 4 (dGCons (dName 2) (dGCons (dName 3) (dGCons (dName 4) (dGCons (dName 5) dGNil))))))
 (dRet (dOp (gCmpI fun i j => decide (j < i)) (dOp (rBin (fun _ _ => True) fun i j => i - j) (dOp (rBin (fun _ _ => True) fun i j => i - j) (dVar 3) (dOp (rBin CMul fun i j => i * j) (dVar 1) (dVar 5))) (dOp (rBin CMul fun i j => i * j) (dOp (rBin CMul fun i j => i * j) (dVar 1) (dVar 1)) (dVar 4))) (dC (.int 0)))))
def t_allowed_by : DTS :=
 (dSeq (dAsg (dVar 0) (dGTup 4 (dGCons (dName 2) (dGCons (dName 3) (dGCons (dName 4) (dGCons (dName 5) dGNil))))))
 (dRet (dOp (gCmpI fun i j => decide (j < i)) (dOp (rBin (fun _ _ => True) fun i j => i - j) (dOp (rBin (fun _ _ => True) fun i j => i - j) (dVar 3) (dOp (rBin CMul fun i j => i * j) (dVar 1) (dVar 5))) (dOp (rBin CMul fun i j => i * j) (dOp (rBin CMul fun i j => i * j) (dVar 1) (dVar 1)) (dVar 4))) (dC (.int 0)))))
def t_round_of : DTS :=
 (dRet (dOp (rBin CDiv fun i j => i.fdiv j) (dOp gIx (dVar 0) (dC (.int 2))) (dCB gGcd (dCons (dOp gIx (dVar 0) (dC (.int 1))) (dCons (dOp gIx (dVar 0) (dC (.int 2))) dNil)))))
def t_is_deed_by (c_allowed_by : DSp) (c_round_of : DSp) : DTS :=
 (dSeq (dIfS (dOr (dNot (dTru (dCB gIsi (dCons (dVar 1) (dCons (dC (.val (.ty "tuple"))) dNil))))) (dTru (dOp gNe (dCB gLen (dCons (dVar 1) dNil)) (dC (.int 2))))) (dRet (dC (.bl false))) dNext)
 (dSeq (dIfS (dTru (dOp gNe (dLc false (dSeqI (dVar 1)) (dName 2) (dOr (dNot (dTru (dCB gIsi (dCons (dVar 2) (dCons (dC (.val (.ty "int"))) dNil))))) (dTru (dCB gIsi (dCons (dVar 2) (dCons (dC (.val (.ty "bool"))) dNil))))) (dVar 2) [2]) (dLst dNil))) (dRet (dC (.bl false))) dNext)
 (dSeq (dAsg (dVar 1) (dGTup 2 (dGCons (dName 3) (dGCons (dName 4) dGNil))))
 (dSeq (dIfS (dOr (dTru (dOp (gCmpI fun i j => decide (i < j)) (dVar 4) (dC (.int 1)))) (dOr (dNot (dTru (dCall 2 c_allowed_by [] DX0 (dCons (dVar 0) (dCons (dVar 4) dNil))))) (dNot (dTru (dChain (gCmpI fun i j => decide (i ≤ j)) (gCmpI fun i j => decide (i < j)) (dC (.int 0)) (dVar 3) (dOp (rBin CMul fun i j => i * j) (dVar 4) (dCall 1 c_round_of [] DX0 (dCons (dVar 0) dNil)))))))) (dRet (dC (.bl false))) dNext)
 (dRet (dOp gEq (dCB gGcd (dCons (dVar 3) (dCons (dVar 4) dNil))) (dC (.int 1))))))))
def t_check_deed (c_check_cutting : DSp) (c_is_deed_by : DSp) : DTS :=
 (dSeq (dDrop (dCall 1 c_check_cutting [] DX0 (dCons (dVar 0) dNil)))
 (dIfS (dNot (dTru (dCall 2 c_is_deed_by [] DX0 (dCons (dVar 0) (dCons (dVar 1) dNil))))) dNever dNext))
end DL
namespace DL
open PySem PySem.Spec PyProof.Rows L2
def t_back_by (c_full_by : DSp) (c_round_of : DSp) : DTS :=
 (dSeq (dAsg (dCall 2 c_full_by [] DX0 (dCons (dVar 0) (dCons (dVar 1) dNil))) (dGTup 5 (dGCons (dName 2) (dGCons (dName 3) (dGCons (dName 4) (dGCons (dName 4) (dGCons (dName 4) dGNil)))))))
 (dSeq (dAsg (dNeg (dOp gIx (dOp gIx (dVar 3) (dC (.int 1))) (dC (.int 0)))) (dName 5))
 (dRet (dTup (dCons (dOp (rBin CMod fun i j => i.fmod j) (dNeg (dOp gIx (dOp gIx (dVar 3) (dC (.int 0))) (dC (.int 0)))) (dOp (rBin CMul fun i j => i * j) (dVar 5) (dCall 1 c_round_of [] DX0 (dCons (dVar 2) dNil)))) (dCons (dVar 5) dNil))))))
def t_back (c_check_deed : DSp) (c_back_by : DSp) : DTS :=
 (dSeq (dDrop (dCall 2 c_check_deed [] DX0 (dCons (dVar 0) (dCons (dVar 1) dNil))))
 (dRet (dCall 2 c_back_by [] DX0 (dCons (dVar 0) (dCons (dVar 1) dNil)))))
end DL
/-! DLU: max and min of a list of ints -/
namespace DL
open PySem PySem.Spec PyProof.Rows L2
end DL
namespace DL
open PySem PySem.Spec PyProof.Rows L2
end DL
namespace DL
open PySem PySem.Spec PyProof.Rows L2
end DL
/-! DLV: sorted({(a, b), (c, d)}) -/
namespace DL
open PySem PySem.Spec PyProof.Rows L2
/-! ### a def whose own code must be known -/
end DL
namespace DL
open PySem PySem.Spec PyProof.Rows L2
end DL
namespace DL
open PySem PySem.Spec PyProof.Rows L2
end DL
/-! DLX: errors over data: raised, passed on, caught, asked -/
namespace DL
open PySem PySem.Spec PyProof.Rows L2
section
variable {X : Cx} {pos : Pos}
/-! ### names of the module as values; an error's value and kind -/
def dFld (t : DTE) : DTE := fun r M Q => t r M fun d M1 => match d with
  | .exc _ v => Q v M1
  | _ => False
end
/-! ### what may leave -/
abbrev DXE := Env → Str → D → Mem → Prop
def postE (K : PySem.W.Frag) (ph : Ph) (S : Hp) (E : DXE) : WX := fun cls d σ H => ∃ (x : Str) (C T dd : Addr) (v : V) (dv : D) (r : Env), XA.ErC K x C T ∧ cls = .ref C ∧ d = some dd ∧
  Aft K ph S r σ H fun ph' S' M => S' dd = some (.xd [(fVal, v)]) ∧ Rep K ph' S' v dv ∧ E r x dv M
theorem postE.up {K : PySem.W.Frag} {ph ph1 : Ph} {S S1 : Hp} {E : DXE} {cls : Value} {d : Option Addr} {σ : St} {H : Hp} (x : Ext ph S ph1 S1) (h : postE K ph1 S1 E cls d σ H) : postE K ph S E cls d σ H :=
  let ⟨y, C, T, dd, v, dv, r, h1, h2, h3, h4⟩ := h
  ⟨y, C, T, dd, v, dv, r, h1, h2, h3, Aft.up x h4⟩
section
variable {X : Cx} {pos : Pos}
theorem postE.back {K : PySem.W.Frag} {ph ph1 : Ph} {S S1 : Hp} {E : DXE} {cls : Value} {d : Option Addr} {σ : St} {H : Hp} (x : Ext ph S ph1 S1) (h : postE K ph1 S1 E cls d σ H) : postE K ph S E cls d σ H := h.up x
/-- a def's error, in our frame -/
theorem postX.at {K : PySem.W.Frag} {ph : Ph} {S : Hp} {r : Env} {M : Mem} {σ : St} {H H' : Hp} {E : DX} {cls : Value} {d : Option Addr} (hs : Sat K ph S r M σ H) (h : postX K ph S E cls d H') : postE K ph S (fun r' x dv M' => r' = r ∧ E x dv M') cls d σ H' :=
  let ⟨x, C, T, dd, v, dv, h1, h2, h3, ph', S', M', y, hs', e1, e2, e3⟩ := h
  ⟨x, C, T, dd, v, dv, r, h1, h2, h3, ph', S', M', y, hs.back y hs', e1, e2, rfl, e3⟩
variable {k : Nat} {f : Addr} {fd : FuncData} {ps : List Str} {sp : DSp} {x : Str} {p : Pos} {e : Expr} {es : List Expr} {t : DXE → DTA}
/-- f(..), f may raise -/
def dCallX (n : Nat) (sp : DSp) (t : DXE → DTA) : DXE → DTE := fun E r M Q => t E r M fun ds M1 => ds.length = n ∧ sp ds M1 Q (fun y dv M2 => E r y dv M2)
end
end DL
/-! DLY: statements that may raise; try; a def that raises -/
namespace DL
open PySem PySem.Spec PyProof.Rows L2
section
variable {X : Cx} {pos : Pos}
/-- raise x(e) -/
def dRaise (x : Str) (t : DTA) : DXE → DTS := fun E _ r M => t r M fun ds M1 => ∃ d, ds = [d] ∧ E r x d M1
/-! ### try -/
/-- try: t / except c as (slot i): ts, all that t raises being of the class c -/
def dTry (c : Str) (i : Nat) (t : DXE → DTS) (ts : DTS) : DTS := fun E r M => t (fun r' x dv M' => XA.under x c = true ∧
  ts { nx := fun r2 M2 => E.nx (r2.set i none) M2, rt := E.rt, bk := fun r2 M2 => E.bk (r2.set i none) M2, ct := fun r2 M2 => E.ct (r2.set i none) M2 } (r'.set i (some (.exc x dv))) M') E r M
end
/-! ### a def that may raise -/
/-! ### a def that may raise, called where it doesn't -/
section
variable {X : Cx} {k : Nat} {ps ks : List Str} {sp : DSp} {x : Str} {p pos : Pos} {e : Expr} {es : List Expr} {kws : List Keyword} {t : DTA}
/-! ### a call of what an expression tells (a def out of a list of defs) -/
/-- the defs that may be meant: name, number of parameters, contract -/
abbrev Tab := List (Str × Nat × DSp)
def dCallV (L : Tab) (tf : DTE) (t : DXE → DTA) : DXE → DTE := fun E r M Q => tf r M fun d M0 => match d with
  | .glb x => ∃ n sp, (x, n, sp) ∈ L ∧ t E r M0 fun ds M1 => ds.length = n ∧ sp ds M1 Q (fun y dv M2 => E r y dv M2)
  | _ => False
end
end DL
namespace DL
open PySem PySem.Spec PyProof.Rows L2
end DL
namespace DL
open PySem PySem.Spec PyProof.Rows L2
end DL
/-! DLZ: list(range), range with a step, enumerate, xs[::-1], xs.index -/
namespace DL
open PySem PySem.Spec PyProof.Rows L2
section
variable {X : Cx} {pos : Pos}
/-! ### list(range(..)) -/
def gLRng (own : Bool) : GA := fun ds M Q => match ds with
  | [.int b] => RgOk 0 b ∧ (if own = true then Q (.own M.length) (M ++ [.lst (rng 0 b.toNat)]) else Q (.lst (rng 0 b.toNat)) M)
  | [.int a, .int b] => RgOk a b ∧ (if own = true then Q (.own M.length) (M ++ [.lst (rng a (b - a).toNat)]) else Q (.lst (rng a (b - a).toNat)) M)
  | _ => False
/-! ### range(a, b, c) -/
/-! ### enumerate -/
/-! ### xs[::-1] -/
/-! ### xs.index(y) -/
end
end DL
namespace DL
open PySem PySem.Spec PyProof.Rows L2
end DL
namespace DL
open PySem PySem.Spec PyProof.Rows L2
end DL
/-! XC: list(range(a, b, c)); xs.count(y) -/
namespace L2
open PySem PySem.Spec PyProof.Rows PyProof
end L2
/-! DLC: list(range(a, b, c)), xs.count(y), comparisons and reprs of data with owned lists within -/
namespace DL
open PySem PySem.Spec PyProof.Rows L2
section
variable {X : Cx} {pos : Pos}
/-! ### xs.count(y) -/
/-! ### owned lists within -/
def cellL (M : Mem) (k : Nat) : Option (List D) := match M[k]? with
  | some (.lst ds) => some ds
  | _ => none
mutual
/-- every owned list within as it stands -/
def resD (M : Mem) : D → D
  | .own k => match cellL M k with
    | some ds => .lst ds
    | none => .own k
  | .tup l => .tup (resDA M l)
  | .lst l => .lst (resDA M l)
  | d => d
def resDA (M : Mem) : List D → List D
  | [] => []
  | d :: ds => resD M d :: resDA M ds
end
end
end DL
namespace DL
open PySem PySem.Spec PyProof.Rows L2
end DL
/-! XD: repr of a list whose items may be dicts, where no list within is asked about -/
namespace L2
open PySem PySem.Spec PyProof.Rows PyProof
section
variable {prog : Program} {w : World} {A : Around} {E : Value → Shared → Prop} {s : Shared} {Q : Value → Shared → Prop}
theorem repr_listZ {a : Addr} {o : Obj} {vs : Array Value} {n : Nat} {xs : List PyData} {as : List Addr} (ho : s.heap.get? a = some o) (oc : o.cls = .type "list") (od : o.data = .seq vs n) (rs : ReadsAll s.heap vs.toList xs as)
    (sh : PyData.showableAll xs = true) (no : sysModules ∉ as) (gd : A.guards = some []) (un : A.units + (PyData.depthAll xs + 3) < cLine) (len : (PyData.list xs).shown.length ≤ sizeLine)
    (q : ∀ h' u tk, (∀ b o, s.heap.get? b = some o → h'.get? b = some o) → Q (.str (PyData.list xs).shown u) { s with heap := h', toks := tk }) :
    wpAny (model prog w) A (call (.builtin "repr") [.ref a]) Q E s := by
  have len2 : (listText (PyData.shownAll xs)).length ≤ sizeLine := by simpa only [PyData.shown] using len
  obtain ⟨cs, deep, each⟩ := ReprAllK.of_readsAll (prog := prog) (w := w) rs sh (fun _ => no) (fun t ht => Nat.le_trans (listText_mem_le ht) len2)
  have away : a ∉ cs := not_mem_of_deeper (.list ho oc od rs) (by simp only [PyData.depth]; omega) deep
  refine call_repr_slot (by omega) ⟨o, ho, oc⟩ F.slot_list_repr.toG ?_
  simp only [PyData.shown] at q
  cases vs with
  | mk l =>
    cases l with
    | nil =>
      cases (show ReadsAll s.heap [] xs as from rs)
      simp only [PyData.shownAll, listText_nil] at q
      exact call_list_repr_empty ⟨o, ho, oc⟩ ho od ⟨_, _, rfl, q s.heap _ _ fun _ _ z => z⟩
    | cons x l =>
      refine call_list_reprK ho oc od away (by simpa using each.length_eq) (fun i y z => each.item i y (by simpa using z)) gd (fun b _ => Clear.nil b) ?_ (fun _ _ z => z) (fun h' u tk kp => ⟨_, _, rfl, q h' u tk kp⟩) len2
      show A.units + 1 + (PyData.depthAll xs + 1) < cLine
      omega
end
end L2
/-! DLR: how readings are shown -/
namespace DL
open PySem PySem.Spec PyProof.Rows L2
/-! ### while -/
/-- the same, the measure told apart -/
theorem dwhile_of {c : DTT} {t : DTS} {E : DEnds} {r : Env} {M : Mem} (W : Nat → Env → Mem → Prop) (n : Nat) (h0 : W n r M)
    (step : ∀ n r M, W n r M → c r M fun b M1 => if b = true then t { E with nx := fun r' M' => ∃ m', m' < n ∧ W m' r' M', ct := fun r' M' => ∃ m', m' < n ∧ W m' r' M', bk := E.nx } r M1 else E.nx r M1) : dWhile c t E r M := ⟨W, ⟨n, h0⟩, step⟩
/-! ### comparing plain data -/
theorem gEq_int {i j : Int} {M : Mem} {Q : DQ} : gEq (.int i) (.int j) M Q = Q (.bl (i == j)) M := rfl
theorem gNe_int {i j : Int} {M : Mem} {Q : DQ} : gNe (.int i) (.int j) M Q = Q (.bl (!(i == j))) M := rfl
theorem gEq_bl {i j : Bool} {M : Mem} {Q : DQ} : gEq (.bl i) (.bl j) M Q = Q (.bl (i == j)) M := rfl
theorem gNe_bl {i j : Bool} {M : Mem} {Q : DQ} : gNe (.bl i) (.bl j) M Q = Q (.bl (!(i == j))) M := rfl
/-! ### the end of a def -/
theorem rtq {M : Mem} {Q : DQ} {d : D} (q : Q d M) (hb : below M.length d = true := by rfl) : Rtq M Q d M := ⟨M, [], (List.append_nil M).symm, Nat.le_refl _, hb, fun _ _ h => .inl h, q⟩
theorem rtqG {M G : Mem} {Q : DQ} {d : D} (q : Q d M) (hb : below M.length d = true := by rfl) : Rtq M Q d (M ++ G) := ⟨M, G, rfl, Nat.le_refl _, hb, fun _ _ h => .inl h, q⟩
/-- new cells stay, others were changed: all of them plain -/
theorem rtqC {M M1 : Mem} {Q : DQ} {d : D} (q : Q d M1) (hl : M.length ≤ M1.length) (hb : below M1.length d = true) (hc : ∀ (i : Nat) (c : Own), M1[i]? = some c → M[i]? = some c ∨ belowO M1.length c = true) : Rtq M Q d M1 := ⟨M1, [], (List.append_nil _).symm, hl, hb, hc, q⟩
end DL
namespace DL
open PySem PySem.Spec PyProof.Rows L2
/-! ### comprehensions -/
theorem lcW_pure {ds : List D} {C : Mem → Prop} {g : DTG} {tt : DTT} {te : DTE} {r : Env} {M : Mem} {Q : DQ} (f : D → Option D) (hC : C M) (hl : ds.length ≤ sizeLine)
    (step : ∀ d ∈ ds, ∀ (Y : D → Mem → Prop) (N : Mem → Prop), (match f d with | some e => Y e M | none => N M) → g d r M fun r2 M2 => tt r2 M2 fun b M3 => if b = true then te r2 M3 Y else N M3)
    (q : Q (.lst (ds.filterMap f)) M) : lcW false ds C g tt te r M Q := by
  refine ⟨fun i acc M' => M' = M ∧ acc = (ds.take i).filterMap f ∧ i ≤ ds.length, ⟨rfl, rfl, Nat.zero_le _⟩, ?_⟩
  rintro i acc M' ⟨rfl, rfl, hi⟩
  refine ⟨hC, fun hd => ?_, fun d ed => ?_⟩
  · rw [if_neg Bool.false_ne_true]
    rw [List.take_of_length_le hd]; exact q
  · have hlt : i < ds.length := (List.getElem?_eq_some_iff.mp ed).1
    have ht : ds.take (i + 1) = ds.take i ++ [d] := by rw [List.take_add_one, ed]; rfl
    refine step d (List.mem_of_getElem? ed) _ _ ?_
    split
    · rename_i e he
      refine ⟨?_, rfl, ?_, hlt⟩
      · have h1 : ((ds.take i).filterMap f).length ≤ (ds.take i).length := List.length_filterMap_le _ _
        have h2 : (ds.take i).length ≤ i := by rw [List.length_take]; omega
        omega
      · rw [ht, List.filterMap_append]
        simp [he]
    · rename_i he
      refine ⟨rfl, ?_, hlt⟩
      rw [ht, List.filterMap_append]
      simp [he]
/-! ### data that may be compared -/
mutual
def fine (n : Nat) : D → Bool
  | .non => true
  | .bl _ => true
  | .int _ => true
  | .str x => PyData.strOk x
  | .tup l => match n with
    | 0 => false
    | n + 1 => fineAll n l
  | .lst l => match n with
    | 0 => false
    | n + 1 => fineAll n l
  | _ => false
def fineAll (n : Nat) : List D → Bool
  | [] => true
  | d :: ds => fine n d && fineAll n ds
end
mutual
theorem fine_py : ∀ (n : Nat) (d : D), fine n d = true → ∃ p, toPy d = some p ∧ p.canLay0 = true ∧ p.depth ≤ n
  | n, .non, _ => ⟨.none, rfl, by simp only [PyData.canLay0], by simp only [PyData.depth]; omega⟩
  | n, .bl b, _ => ⟨.bool b, rfl, by simp only [PyData.canLay0], by simp only [PyData.depth]; omega⟩
  | n, .int i, _ => ⟨.int i, rfl, by simp only [PyData.canLay0], by simp only [PyData.depth]; omega⟩
  | n, .str x, h => ⟨.str x, rfl, by simpa only [PyData.canLay0, fine] using h, by simp only [PyData.depth]; omega⟩
  | 0, .tup l, h => by simp [fine] at h
  | n + 1, .tup l, h => by
    obtain ⟨ps, h1, h2, h3, _⟩ := fine_pyAll n l (by simpa only [fine] using h)
    exact ⟨.tuple ps, by simp only [toPy, h1], by simpa only [PyData.canLay0] using h2, by simp only [PyData.depth]; omega⟩
  | 0, .lst l, h => by simp [fine] at h
  | n + 1, .lst l, h => by
    obtain ⟨ps, h1, h2, h3, _⟩ := fine_pyAll n l (by simpa only [fine] using h)
    exact ⟨.list ps, by simp only [toPy, h1], by simpa only [PyData.canLay0] using h2, by simp only [PyData.depth]; omega⟩
  | n, .dct0, h => by simp [fine] at h
  | n, .scr _, h => by simp [fine] at h
  | n, .own _, h => by simp [fine] at h
  | n, .exc _ _, h => by simp [fine] at h
  | n, .glb _, h => by simp [fine] at h
  | n, .val _, h => by simp [fine] at h
theorem fine_pyAll : ∀ (n : Nat) (ds : List D), fineAll n ds = true → ∃ ps, toPyAll ds = some ps ∧ PyData.canLayAll0 ps = true ∧ PyData.depthAll ps ≤ n ∧ ps.length = ds.length
  | n, [], _ => ⟨[], rfl, by simp only [PyData.canLayAll0], by simp only [PyData.depthAll]; omega, rfl⟩
  | n, d :: ds, h => by
    have h' : fine n d = true ∧ fineAll n ds = true := by simpa only [fineAll, Bool.and_eq_true] using h
    obtain ⟨p, a1, a2, a3⟩ := fine_py n d h'.1
    obtain ⟨ps, b1, b2, b3, b4⟩ := fine_pyAll n ds h'.2
    exact ⟨p :: ps, by simp only [toPyAll, a1, b1], by simp only [PyData.canLayAll0, a2, b2, Bool.and_self], by simp only [PyData.depthAll]; omega, by rw [List.length_cons, List.length_cons, b4]⟩
end
theorem cmpd_fine {n : Nat} {d : D} (h : fine n d = true) (hn : n ≤ 64 := by decide) : ∃ p, toPy d = some p ∧ cmpd d = some p := by
  obtain ⟨p, h1, h2, h3⟩ := fine_py n d h
  refine ⟨p, h1, ?_⟩
  unfold cmpd
  rw [h1]
  have : SeqAt.shaped p = true := by unfold SeqAt.shaped; rw [h2]; simp; omega
  simp only [this, if_true]
theorem fineAll_iff {n : Nat} : ∀ {l : List D}, fineAll n l = true ↔ ∀ d ∈ l, fine n d = true
  | [] => by simp [fineAll]
  | d :: l => by simp only [fineAll, Bool.and_eq_true, List.mem_cons, forall_eq_or_imp, fineAll_iff (l := l)]
theorem res_fine {n : Nat} {d : D} {M : Mem} (h : fine n d = true) : res M d = d := by
  cases d <;> first | rfl | (simp [fine] at h)
theorem eqv_self {n : Nat} {d : D} {p : PyData} (h : fine n d = true) (hp : toPy d = some p) : PyData.eqv p p = true := by
  obtain ⟨p', h1, h2, _⟩ := fine_py n d h
  rw [hp] at h1; cases h1
  exact SeqAt.eqv_refl p h2
theorem eqB_self {n : Nat} {d : D} (h : fine n d = true) (hn : n ≤ 64 := by decide) : eqB d d = some true := by
  obtain ⟨p, h1, h2⟩ := cmpd_fine h hn
  unfold eqB
  split
  · simp_all
  · rw [h2]
    show some (PyData.eqv p p) = _
    rw [eqv_self h h1]
/-- the same data compared -/
theorem gNe_same {n : Nat} {d : D} {M : Mem} {Q : DQ} (h : fine n d = true) (q : Q (.bl false) M) (hn : n ≤ 64 := by decide) : gNe d d M Q := by
  unfold gNe
  rw [res_fine h, eqB_self h hn]
  exact q
theorem gEq_same {n : Nat} {d : D} {M : Mem} {Q : DQ} (h : fine n d = true) (q : Q (.bl true) M) (hn : n ≤ 64 := by decide) : gEq d d M Q := by
  unfold gEq
  rw [res_fine h, eqB_self h hn]
  exact q
theorem eqB_nil {n : Nat} {l : List D} (h : fineAll n l = true) (hn : n ≤ 60 := by decide) : eqB (.lst l) (.lst []) = some l.isEmpty := by
  have hf : fine (n + 1) (.lst l) = true := by simpa only [fine] using h
  obtain ⟨p, h1, h2⟩ := cmpd_fine hf (by omega)
  obtain ⟨ps, b1, _, _, b4⟩ := fine_pyAll n l h
  have e : p = .list ps := by simp only [toPy, b1] at h1; exact (Option.some.inj h1).symm
  subst e
  show (match cmpd (.lst l), cmpd (.lst []) with
    | some p, some q => some (PyData.eqv p q)
    | _, _ => none) = _
  rw [h2]
  show some (PyData.eqv (.list ps) (.list [])) = _
  cases l with
  | nil => cases ps with
    | nil => rfl
    | cons _ _ => simp at b4
  | cons _ _ => cases ps with
    | nil => simp at b4
    | cons _ _ => rfl
/-- a list beside the empty one -/
theorem gNe_nil' {n : Nat} {l : List D} {M : Mem} {Q : DQ} (h : fineAll n l = true) (q : Q (.bl (!l.isEmpty)) M) (hn : n ≤ 60 := by decide) : gNe (.lst l) (.lst []) M Q := by
  unfold gNe
  show match eqB (.lst l) (.lst []) with | some b => Q (.bl (!b)) M | none => False
  rw [eqB_nil h hn]
  exact q
theorem gNe_strs {a b : Str} {M : Mem} {Q : DQ} : gNe (.str a) (.str b) M Q = Q (.bl (!(a == b))) M := rfl
theorem gEq_strs {a b : Str} {M : Mem} {Q : DQ} : gEq (.str a) (.str b) M Q = Q (.bl (a == b)) M := rfl
/-! ### data that may be shown -/
mutual
def lit (B : Nat) : D → Bool
  | .int i => decide (i.natAbs.log2 < B)
  | .tup l => litAll B l
  | .lst l => litAll B l
  | _ => true
def litAll (B : Nat) : List D → Bool
  | [] => true
  | d :: ds => lit B d && litAll B ds
end
mutual
def wt (B : Nat) : D → Nat
  | .int _ => B + 1
  | .str x => x.cps.size
  | .tup l => wtAll B l
  | .lst l => wtAll B l
  | _ => 0
def wtAll (B : Nat) : List D → Nat
  | [] => 0
  | d :: ds => wt B d + 1 + wtAll B ds
end
theorem strOk_short {x : Str} (h : PyData.strOk x = true) : ∀ c ∈ x.cps.toList, c < 16 ^ 8 := by
  have h0 : x.cps.all (· < 0x110000) = true := h
  intro c hc
  have h1 := (Array.all_eq_true_iff_forall_mem.mp h0) c (Array.mem_toList_iff.mp hc)
  have h2 : c < 0x110000 := by simpa using h1
  have e : (16 : Nat) ^ 8 = 4294967296 := by decide
  omega
mutual
theorem lit_py (B : Nat) (hB : B ≤ 1919) : ∀ (n : Nat) (d : D) (p : PyData), fine n d = true → lit B d = true → toPy d = some p → p.showable = true ∧ p.leavesShort (B + 8) = true ∧ p.weight ≤ wt B d
  | n, .non, p, _, _, e => by cases e; exact ⟨by simp only [PyData.showable], by simp only [PyData.leavesShort], by simp only [PyData.weight]; omega⟩
  | n, .bl b, p, _, _, e => by cases e; exact ⟨by simp only [PyData.showable], by simp only [PyData.leavesShort], by simp only [PyData.weight]; omega⟩
  | n, .int i, p, _, h, e => by
    cases e
    have h' : i.natAbs.log2 < B := by simpa only [lit, decide_eq_true_eq] using h
    refine ⟨?_, ?_, ?_⟩
    · simp only [PyData.showable, decide_eq_true_eq]; omega
    · simp only [PyData.leavesShort, decide_eq_true_eq]
      show (Str.ofString (toString i)).length ≤ _
      rw [PySem.ofString_length]
      have := int_text_length_le (a := i) (k := B) (by omega) h'
      omega
    · simp only [PyData.weight, wt]
      split <;> omega
  | n, .str x, p, hf, _, e => by
    cases e
    refine ⟨by simp only [PyData.showable], ?_, by simp only [PyData.weight, wt]; omega⟩
    simp only [PyData.leavesShort, List.all_eq_true, decide_eq_true_eq]
    exact strOk_short (by simpa only [fine] using hf)
  | 0, .tup l, p, h, _, _ => by simp [fine] at h
  | 0, .lst l, p, h, _, _ => by simp [fine] at h
  | n + 1, .tup l, p, h, h2, e => by
    obtain ⟨ps, e1, _⟩ := fine_pyAll n l (by simpa only [fine] using h)
    have e' : p = .tuple ps := by simp only [toPy, e1] at e; exact (Option.some.inj e).symm
    subst e'
    obtain ⟨a, b, c⟩ := lit_pyAll B hB n l ps (by simpa only [fine] using h) (by simpa only [lit] using h2) e1
    exact ⟨by simpa only [PyData.showable] using a, by simpa only [PyData.leavesShort] using b, by simpa only [PyData.weight, wt] using c⟩
  | n + 1, .lst l, p, h, h2, e => by
    obtain ⟨ps, e1, _⟩ := fine_pyAll n l (by simpa only [fine] using h)
    have e' : p = .list ps := by simp only [toPy, e1] at e; exact (Option.some.inj e).symm
    subst e'
    obtain ⟨a, b, c⟩ := lit_pyAll B hB n l ps (by simpa only [fine] using h) (by simpa only [lit] using h2) e1
    exact ⟨by simpa only [PyData.showable] using a, by simpa only [PyData.leavesShort] using b, by simpa only [PyData.weight, wt] using c⟩
  | n, .dct0, _, h, _, _ => by simp [fine] at h
  | n, .scr _, _, h, _, _ => by simp [fine] at h
  | n, .own _, _, h, _, _ => by simp [fine] at h
  | n, .exc _ _, _, h, _, _ => by simp [fine] at h
  | n, .glb _, _, h, _, _ => by simp [fine] at h
  | n, .val _, _, h, _, _ => by simp [fine] at h
theorem lit_pyAll (B : Nat) (hB : B ≤ 1919) : ∀ (n : Nat) (ds : List D) (ps : List PyData), fineAll n ds = true → litAll B ds = true → toPyAll ds = some ps → PyData.showableAll ps = true ∧ PyData.leavesShortAll (B + 8) ps = true ∧ PyData.weightAll ps ≤ wtAll B ds
  | n, [], ps, _, _, e => by cases e; exact ⟨by simp only [PyData.showableAll], by simp only [PyData.leavesShortAll], by simp only [PyData.weightAll]; omega⟩
  | n, d :: ds, ps, h, h2, e => by
    have h' : fine n d = true ∧ fineAll n ds = true := by simpa only [fineAll, Bool.and_eq_true] using h
    have h2' : lit B d = true ∧ litAll B ds = true := by simpa only [litAll, Bool.and_eq_true] using h2
    obtain ⟨p, a1, _, _⟩ := fine_py n d h'.1
    obtain ⟨qs, b1, _, _, _⟩ := fine_pyAll n ds h'.2
    have e' : ps = p :: qs := by simp only [toPyAll, a1, b1] at e; exact (Option.some.inj e).symm
    subst e'
    obtain ⟨c1, c2, c3⟩ := lit_py B hB n d p h'.1 h2'.1 a1
    obtain ⟨d1, d2, d3⟩ := lit_pyAll B hB n ds qs h'.2 h2'.2 b1
    refine ⟨by simp only [PyData.showableAll, c1, d1, Bool.and_self], by simp only [PyData.leavesShortAll, c2, d2, Bool.and_self], ?_⟩
    simp only [PyData.weightAll, wtAll]; omega
end
/-- d's repr is covered: ints of B bits, at most -/
theorem shw_of (B n : Nat) {d : D} (h : fine n d = true) (hl : lit B d = true) (hw : (B + 10) * wt B d + B + 8 ≤ 16777216) (hB : B ≤ 1919 := by decide) (hn : n ≤ 64 := by decide) : ∃ z, shwn d = some z := by
  obtain ⟨p, e1, e2, e3⟩ := fine_py n d h
  obtain ⟨a, b, c⟩ := lit_py B hB n d p h hl e1
  have h1 := PyData.shown_le (B + 8) (by omega) p b
  have h2 : (B + 8 + 2) * p.weight ≤ (B + 10) * wt B d := Nat.mul_le_mul (by omega) c
  refine ⟨p.shown, ?_⟩
  unfold shwn
  rw [e1]
  dsimp only
  rw [if_pos ⟨a, by omega, by rw [sizeLine_eq]; omega, PyData.hasDict_of_canLay p e2⟩]
/-! ### items by a written index -/
section
variable {α : Type}
theorem atI_of (n : Nat) {l : List α} (h : n < l.length) : atI l (n : Int) = l[n]? := by
  unfold atI ixN
  rw [if_pos (by omega), if_pos (by omega)]
  rfl
theorem atI_0 {a : α} {l : List α} : atI (a :: l) 0 = some a := atI_of 0 (by simp)
theorem atI_1 {a b : α} {l : List α} : atI (a :: b :: l) 1 = some b := atI_of 1 (by simp)
theorem atI_2 {a b c : α} {l : List α} : atI (a :: b :: c :: l) 2 = some c := atI_of 2 (by simp)
theorem atI_3 {a b c d : α} {l : List α} : atI (a :: b :: c :: d :: l) 3 = some d := atI_of 3 (by simp)
theorem atI_4 {a b c d e : α} {l : List α} : atI (a :: b :: c :: d :: e :: l) 4 = some e := atI_of 4 (by simp)
theorem atI_5 {a b c d e f : α} {l : List α} : atI (a :: b :: c :: d :: e :: f :: l) 5 = some f := atI_of 5 (by simp)
theorem ixN_30 : ixN 3 0 = some 0 := by decide
theorem ixN_31 : ixN 3 1 = some 1 := by decide
theorem ixN_32 : ixN 3 2 = some 2 := by decide
end
theorem rs_lst {M : Mem} {l : List D} : res M (.lst l) = .lst l := rfl
theorem rs_tup {M : Mem} {l : List D} : res M (.tup l) = .tup l := rfl
theorem rs_scr {M : Mem} {l : List Int} : res M (.scr l) = .scr l := rfl
theorem rs_int {M : Mem} {i : Int} : res M (.int i) = .int i := rfl
theorem intsD_map : ∀ ns : List Int, intsD (ns.map D.int) = some ns
  | [] => rfl
  | n :: ns => by rw [List.map_cons]; unfold intsD; rw [intsD_map ns]
theorem cut_map (ns : List Int) (lo hi : Option Int) : ∃ xs : List Int, cutD (ns.map D.int) lo hi = xs.map D.int := by
  unfold cutD
  rw [← List.map_drop, ← List.map_take]
  exact ⟨_, rfl⟩
end DL
/-! DLD: repr of data with empty dicts -/
namespace DL
open PySem PySem.Spec PyProof.Rows L2
mutual
/-- no list within -/
def nolst : D → Bool
  | .lst _ => false
  | .own _ => false
  | .tup l => nolstA l
  | _ => true
def nolstA : List D → Bool
  | [] => true
  | d :: ds => nolst d && nolstA ds
end
section
variable {X : Cx} {pins : List (Addr × Obj)} {s : Shared} {ph : Ph} {σ : St} {H : Hp}
mutual
theorem Rep.readsZ (I : Inv X pins σ H s) : ∀ (d : D) (v : V) (u : Value) (p : PyData), Rep X.K ph H v d → RelV v u → toPy d = some p → nolst d = true → ∃ as, Reads s.heap u p as ∧ sysModules ∉ as
  | .non, _, _, _, h, rv, e, _ => by cases h; cases rv; cases e; exact ⟨_, .none, by simp⟩
  | .bl _, _, _, _, h, rv, e, _ => by cases h; cases rv; cases e; exact ⟨_, .bool _, by simp⟩
  | .int _, _, _, _, h, rv, e, _ => by cases h; obtain ⟨t, rfl⟩ := rv; cases e; exact ⟨_, .int _ _, by simp⟩
  | .str _, _, _, _, h, rv, e, _ => by cases h; obtain ⟨t, rfl⟩ := rv; cases e; exact ⟨_, .str _ _, by simp⟩
  | .tup ds, _, _, _, h, rv, e, n => by
    cases h with
    | tup h1 h2 =>
      cases rv
      simp only [toPy] at e
      split at e
      · rename_i ps ep
        cases e
        obtain ⟨its, rx, ⟨o, ho, hc, n', hd⟩, _⟩ := I.tuple (h1.sq fun _ _ z => z)
        obtain ⟨as, q, qa⟩ := RepAll.readsZ I ds _ its ps h2 rx ep (by simpa only [nolst] using n)
        exact ⟨_, .tuple ho hc hd q, qa⟩
      · cases e
  | .lst ds, _, _, _, _, _, _, n => by simp [nolst] at n
  | .dct0, _, _, _, h, rv, e, _ => by
    cases h with
    | dct0 h1 =>
      cases rv
      cases e
      obtain ⟨_, hs, vs, hk, o, es, ep, ho, hx, hd, _, he, _⟩ := I.hok _ _ h1
      cases hk
      have e0 : es = #[] := by
        cases es with
        | mk l =>
          cases l with
          | nil => rfl
          | cons x l => exact nomatch he
      subst e0
      refine ⟨_, .dict ho hx.1 hd .nil .nil, fun ha => ?_⟩
      simp at ha
      rw [← ha] at hs
      exact absurd hs (by decide)
  | .scr ns, _, _, _, _, _, e, _ => by cases e
  | .own _, _, _, _, _, _, e, _ => by cases e
  | .exc _ _, _, _, _, _, _, e, _ => by cases e
  | .glb _, _, _, _, _, _, e, _ => by cases e
  | .val _, _, _, _, _, _, e, _ => by cases e
theorem RepAll.readsZ (I : Inv X pins σ H s) : ∀ (ds : List D) (vs : List V) (us : List Value) (ps : List PyData), RepAll X.K ph H vs ds → Vals vs us → toPyAll ds = some ps → nolstA ds = true → ∃ as, ReadsAll s.heap us ps as ∧ sysModules ∉ as
  | [], _, _, _, h, rv, e, _ => by cases h; cases rv; cases e; exact ⟨_, .nil, by simp⟩
  | d :: ds, _, _, _, h, rv, e, n => by
    have n' : nolst d = true ∧ nolstA ds = true := by simpa only [nolstA, Bool.and_eq_true] using n
    cases h with
    | cons h1 h2 =>
      cases rv with
      | cons r1 r2 =>
        simp only [toPyAll] at e
        split at e
        · rename_i p ps ep eps
          cases e
          obtain ⟨as, q1, a1⟩ := Rep.readsZ I d _ _ p h1 r1 ep n'.1
          obtain ⟨bs, q2, a2⟩ := RepAll.readsZ I ds _ _ ps h2 r2 eps n'.2
          refine ⟨_, .cons q1 q2, fun ha => ?_⟩
          rcases List.mem_append.mp ha with ha | ha
          · exact a1 ha
          · exact a2 ha
        · cases e
end
end
/-- dicts may stand within -/
def okZ : D → Bool
  | .lst l => nolstA l
  | d => nolst d
def shwnZ (d : D) : Option Str := match toPy d with
  | some p => if p.showable = true ∧ p.depth ≤ 64 ∧ p.shown.length ≤ sizeLine ∧ (p.hasDict = false ∨ okZ d = true) then some p.shown else none
  | none => none
theorem shwnZ_of {d : D} {z : Str} (h : shwn d = some z) : shwnZ d = some z := by
  unfold shwn at h
  unfold shwnZ
  split at h
  · rename_i p ep
    by_cases hp : p.showable = true ∧ p.depth ≤ 64 ∧ p.shown.length ≤ sizeLine ∧ p.hasDict = false
    · rw [if_pos hp] at h
      try rw [ep]
      try dsimp only
      rw [if_pos ⟨hp.1, hp.2.1, hp.2.2.1, .inl hp.2.2.2⟩]
      exact h
    · rw [if_neg hp] at h; cases h
  · cases h
end DL
namespace DL
open PySem PySem.Spec PyProof.Rows L2
end DL
/-! XE: a dict beside an int -/
namespace L2
open PySem PySem.Spec PyProof.Rows PyProof
open PySem.SeqAt PySem.AutoSeq1 PySem.Sem
end L2
/-! DLG: an empty dict beside an int -/
namespace DL
open PySem PySem.Spec PyProof.Rows L2
end DL
namespace DL
open PySem PySem.Spec PyProof.Rows L2
end DL
/-! DLK: the module's own tuples, starred items, len(set(..)) of ints -/
namespace DL
open PySem PySem.Spec PyProof.Rows L2
/-- the module's value at a is the data d -/
def KRep (K : PySem.W.Frag) (u : Value) (d : D) : Prop := ∃ v : V, RelV v u ∧ ∀ ph S, Rep K ph S v d
theorem KRep.int {K : PySem.W.Frag} {i : Int} {t : Tok} : KRep K (.int i t) (.int i) := ⟨.int i, ⟨t, rfl⟩, fun _ _ => .int _⟩
inductive KReps (K : PySem.W.Frag) : List Value → List D → Prop
  | nil : KReps K [] []
  | cons {u : Value} {us : List Value} {d : D} {ds : List D} : KRep K u d → KReps K us ds → KReps K (u :: us) (d :: ds)
theorem KRep.all {K : PySem.W.Frag} : ∀ {us : List Value} {ds : List D}, KReps K us ds → ∃ vs, Vals vs us ∧ ∀ ph S, RepAll K ph S vs ds
  | _, _, .nil => ⟨[], .nil, fun _ _ => .nil⟩
  | _, _, .cons ⟨v, r, q⟩ t => by
    obtain ⟨vs, rs, qs⟩ := KRep.all t
    exact ⟨v :: vs, .cons r rs, fun ph S => .cons (q ph S) (qs ph S)⟩
theorem KRep.tup {K : PySem.W.Frag} {a : Addr} {dd : Option Addr} {its : Array Value} {n : Nat} {sl : Array (Option Value)} {ds : List D} (l : K.lookup a = some ⟨.type "tuple", dd, .seq its n, sl⟩)
    (h : KReps K its.toList ds) (hz : its.size ≤ 100 := by decide) : KRep K (.ref a) (.tup ds) := by
  obtain ⟨vs, rs, qs⟩ := KRep.all h
  exact ⟨.ref a, rfl, fun ph S => .tup (.inr ⟨_, its, n, l, rfl, rfl, by rw [sizeLine_eq]; omega, rs⟩) (qs ph S)⟩
section
variable {X : Cx} {pos : Pos}
/-- a global whose value is data of the module -/
theorem de_globK {x : Str} {u : Value} {d : D} (hg : Gl X x) (hm : X.mg x = some u) (h : KRep X.K u d) (hd : (x == ("__debug__" : Str)) = false := by decide) : DE X (.Name x pos) (dC d) := by
  obtain ⟨v, r, q⟩ := h
  exact de_c (pe_glob hg hm r hd) q
/-! ### zip of two tuples -/
/-! ### len(set(xs)), ints -/
end
end DL
namespace DL
open PySem PySem.Spec PyProof.Rows L2
end DL
namespace DL
open PySem PySem.Spec PyProof.Rows L2
end DL
namespace DL
open PySem PySem.Spec PyProof.Rows L2
end DL
/-! ZS: zip(xs, ys, strict=True) of two lists of one length -/
namespace PySem
open Sem (wp)
abbrev IsZipS (h : Heap) (z TI TO : Addr) (f0 : Value) : Prop :=
  h.get? z = some { cls := .type "zip", dict := none, data := .fields #[f0, .bool false, .bool true, .ref TI, .ref TO], slots := #[] }
section
variable {prog : Program} {w : World} {A : Around} {E : Value → Shared → Prop} {s : Shared}
theorem nextOrEnd_list_item {it l : Addr} {i : Nat} {items} {x : Value} {Q : Option Value → Shared → Prop} (hit : s.heap.IsListIter it l i)
    (hl : s.heap.IsList l items) (hx : items[i]? = some x)
    (hQ : ∀ h', h'.IsListIter it l (i + 1) → Heap.SameBut it s.heap h' → Q (some x) { s with heap := h' }) :
    wpAny (model prog w) A (Builtin.SmallTypes.nextOrEnd (.ref it)) Q E s := by
  unfold Builtin.SmallTypes.nextOrEnd
  exact wpAny_bind (wpAny_attempt (wpAny_nextOf_list_item hit hl hx fun h' a b => wpAny_pure (hQ h' a b)))
theorem nextOrEnd_list_end {it l : Addr} {i : Nat} {items} {Q : Option Value → Shared → Prop} (hh : A.handled = none) (hit : s.heap.IsListIter it l i)
    (hl : s.heap.IsList l items) (hx : items[i]? = none)
    (hQ : ∀ h', Heap.ExtBut it s.heap h' → Q none { s with heap := h' }) :
    wpAny (model prog w) A (Builtin.SmallTypes.nextOrEnd (.ref it)) Q E s := by
  unfold Builtin.SmallTypes.nextOrEnd
  refine wpAny_bind (wpAny_attempt (wpAny_nextOf_list_end hh hit hl hx fun h' e hk he => ?_))
  obtain ⟨o, ho, hc⟩ := he
  refine wpAny_bind (wpAny_isInstance (T := "StopIteration") (b := true) ⟨o, ho, hc⟩ isSubtype_stop ?_)
  exact wpAny_pure (hQ _ hk)
theorem stopIteration_run {α : Type} {Q : α → Shared → Prop} (hh : A.handled = none)
    (hE : ∀ h' e, (∀ c o, s.heap.get? c = some o → h'.get? c = some o) → (∃ o, h'.get? e = some o ∧ o.cls = .type "StopIteration") → E (.ref e) { s with heap := h' }) :
    wpAny (model prog w) A (Builtin.SmallTypes.stopIteration : Sem α) Q E s := by
  unfold Builtin.SmallTypes.stopIteration
  refine wpAny_bind ?_
  simp only [newExc, newTuple]
  refine wpAny_bind (wpAny_newObj_type ?_ (by size_fits))
  refine wpAny_bind (m := firstArgMember _ _) (wpAny_of_eq (a := Value.none) (by first | rfl | (simp only [firstArgMember]; rfl)) ?_)
  refine wpAny_newObj_type ?_ (by size_fits)
  simp only [raiseNew]
  refine wpAny_bind (wpAny_handled ?_)
  first | rw [show A.in1.handled = none from hh] | rw [hh]
  refine wpAny_bind (wpAny_pure (wpAny_throw ?_))
  exact hE _ _ (fun c o x => Heap.get?_push_of_some _ (Heap.get?_push_of_some _ x)) ⟨_, Heap.get?_push_size _ rfl, rfl⟩
theorem zipS_next_item {z TI TO i1 i2 l1 l2 : Addr} {k1 k2 : Nat} {xs ys : Array Value} {x y a b : Value} {Q : Value → Shared → Prop} (D : ZipApart z TI TO i1 i2 l1 l2)
    (hz : IsZipS s.heap z TI TO .none) (hTI : IsPair s.heap TI (.ref i1) (.ref i2)) (hTO : IsPair s.heap TO a b)
    (h1 : s.heap.IsListIter i1 l1 k1) (h2 : s.heap.IsListIter i2 l2 k2) (hl1 : s.heap.IsList l1 xs) (hl2 : s.heap.IsList l2 ys) (hx : xs[k1]? = some x) (hy : ys[k2]? = some y)
    (hQ : ∀ h', IsZipS h' z TI TO (rawInt s.heap.objs.size) → IsPair h' TO x y → h'.IsListIter i1 l1 (k1 + 1) → h'.IsListIter i2 l2 (k2 + 1) → IsPair h' s.heap.objs.size x y → h'.objs.size = s.heap.objs.size + 1 →
      (∀ c o, c ≠ z → c ≠ TO → c ≠ i1 → c ≠ i2 → s.heap.get? c = some o → h'.get? c = some o) → Q (.ref s.heap.objs.size) { s with heap := h' }) :
    wpAny (model prog w) A (Builtin.«zip.__next__» ⟨[.ref z], []⟩) (fun fin s' => ∃ v, fin = .done (.ret v) ∧ Q v s') E s := by
  show wpAny _ _ (field (.ref z) 2 >>= _) _ _ _
  refine wpAny_bind (wpAny_field hz rfl (x := .bool true) rfl ?_)
  show wpAny _ _ (field (.ref z) 3 >>= _) _ _ _
  refine wpAny_bind (wpAny_field hz rfl (x := .ref TI) rfl ?_)
  refine wpAny_bind (wpAny_seqItems hTI rfl ?_)
  show wpAny _ _ (Builtin.SmallTypes.ownedTupleIsFree (.ref z) >>= _) _ _ _
  refine wpAny_bind ?_
  unfold Builtin.SmallTypes.ownedTupleIsFree
  refine wpAny_bind (wpAny_field hz rfl (x := .none) rfl (wpAny_pure ?_))
  simp only [if_true]
  refine wpAny_bind (wpAny_rule ?_)
  refine wpAny_bind (wpAny_field hz rfl (x := .ref TO) rfl ?_)
  refine wpAny_bind (wpAny_setField_rec hz (by simp) fun h₁ hz₁ hs₁ => ?_)
  replace hz₁ : IsZipS h₁ z TI TO .ellipsis := hz₁
  refine wpAny_bind ?_
  simp only [List.zipIdx_cons, List.zipIdx_nil, List.forIn_cons, List.forIn_nil]

  refine wpAny_bind (wpAny_bind (wpAny_onRaise ?_))
  show wpAny _ _ (Builtin.SmallTypes.nextOrEnd (.ref i1)) _ _ _
  refine nextOrEnd_list_item (h1.extBut hs₁.extBut D.i1z) (hl1.extBut hs₁.extBut D.l1z) hx fun h₂ h1₂ hs₂ => ?_
  have hTO₂ : IsPair h₂ TO a b := hs₂.extBut _ _ D.TOi1 (hs₁.extBut _ _ D.TOz hTO)
  refine wpAny_bind (wpAny_seqItems hTO₂ rfl ?_)
  refine wpAny_bind (wpAny_updateSeq_pair hTO₂ fun h₃ hTO₃ hs₃ => ?_)
  replace hTO₃ : IsPair h₃ TO x b := hTO₃
  refine wpAny_bind (wpAny_letGo (wpAny_pure ?_))

  refine wpAny_bind (wpAny_bind (wpAny_onRaise ?_))
  show wpAny _ _ (Builtin.SmallTypes.nextOrEnd (.ref i2)) _ _ _
  refine nextOrEnd_list_item (((h2.extBut hs₁.extBut D.i2z).extBut hs₂.extBut D.i12.symm).extBut hs₃.extBut D.TOi2.symm)
    (((hl2.extBut hs₁.extBut D.l2z).extBut hs₂.extBut D.l2i1).extBut hs₃.extBut D.l2TO) hy fun h₄ h2₄ hs₄ => ?_
  have hTO₄ : IsPair h₄ TO x b := hs₄.extBut _ _ D.TOi2 hTO₃
  refine wpAny_bind (wpAny_seqItems hTO₄ rfl ?_)
  refine wpAny_bind (wpAny_updateSeq_pair hTO₄ fun h₅ hTO₅ hs₅ => ?_)
  replace hTO₅ : IsPair h₅ TO x y := hTO₅
  refine wpAny_bind (wpAny_letGo (wpAny_pure (wpAny_pure ?_)))

  refine wpAny_bind (wpAny_seqItems hTO₅ rfl ?_)
  refine wpAny_bind (wpAny_newTuple ?_)
  have hsz : h₅.objs.size = s.heap.objs.size := by rw [hs₅.1, hs₄.1, hs₃.1, hs₂.1, hs₁.1]
  have hz₅ : IsZipS h₅ z TI TO .ellipsis := hs₅.extBut _ _ D.TOz.symm (hs₄.extBut _ _ D.i2z.symm (hs₃.extBut _ _ D.TOz.symm (hs₂.extBut _ _ D.i1z.symm hz₁)))
  have hk₅ : ∀ c o, c ≠ z → c ≠ TO → c ≠ i1 → c ≠ i2 → s.heap.get? c = some o → h₅.get? c = some o := fun c o c1 c2 c3 c4 e =>
    hs₅.extBut _ _ c2 (hs₄.extBut _ _ c4 (hs₃.extBut _ _ c2 (hs₂.extBut _ _ c3 (hs₁.extBut _ _ c1 e))))
  have h1₅ : h₅.IsListIter i1 l1 (k1 + 1) := ((h1₂.extBut hs₃.extBut D.TOi1.symm).extBut hs₄.extBut D.i12).extBut hs₅.extBut D.TOi1.symm
  have h2₅ : h₅.IsListIter i2 l2 (k2 + 1) := h2₄.extBut hs₅.extBut D.TOi2.symm
  have hzlt : z < h₅.objs.size := Heap.lt_size hz₅
  have hTOlt : TO < h₅.objs.size := Heap.lt_size hTO₅
  have hi1lt : i1 < h₅.objs.size := by obtain ⟨_, e, _⟩ := h1₅; exact Heap.lt_size e
  have hi2lt : i2 < h₅.objs.size := by obtain ⟨_, e, _⟩ := h2₅; exact Heap.lt_size e
  show wpAny _ _ (Builtin.SmallTypes.ownedTupleHandOut (.ref z) (.ref h₅.objs.size) >>= _) _ _ _
  refine wpAny_bind ?_
  unfold Builtin.SmallTypes.ownedTupleHandOut
  have hz₆ : IsZipS (h₅.push { cls := .type "tuple", data := .seq #[x, y] }) z TI TO .ellipsis := Heap.get?_push_of_some _ hz₅
  refine wpAny_bind (wpAny_setField_rec hz₆ (by simp) fun h₇ hz₇ hs₇ => ?_)
  replace hz₇ : IsZipS h₇ z TI TO (rawInt h₅.objs.size) := hz₇
  refine wpAny_setField_rec hz₇ (by simp) fun h₈ hz₈ hs₈ => ?_
  replace hz₈ : IsZipS h₈ z TI TO (rawInt h₅.objs.size) := hz₈
  have up : ∀ c o, c ≠ z → h₅.get? c = some o → h₈.get? c = some o := fun c o c1 e => hs₈.extBut _ _ c1 (hs₇.extBut _ _ c1 (Heap.get?_push_of_some _ e))
  have hT₈ : IsPair h₈ h₅.objs.size x y := hs₈.extBut _ _ (Nat.ne_of_gt hzlt) (hs₇.extBut _ _ (Nat.ne_of_gt hzlt) (Heap.get?_push_size _ rfl))
  have hz8 : h₈.objs.size = h₅.objs.size + 1 := by rw [hs₈.1, hs₇.1, Heap.size_push]
  rw [hsz] at hz₈ hT₈ hz8
  refine wpAny_pure ⟨_, rfl, ?_⟩
  show Q (.ref h₅.objs.size) _
  rw [hsz]
  exact hQ h₈ hz₈ (up _ _ D.TOz hTO₅) (h1₅.at fun o e => up _ o D.i1z e) (h2₅.at fun o e => up _ o D.i2z e) hT₈ hz8 fun c o c1 c2 c3 c4 e => up c o c1 (hk₅ c o c1 c2 c3 c4 e)
theorem zipS_next_end {z TI TO i1 i2 l1 l2 : Addr} {k1 k2 : Nat} {xs ys : Array Value} {a b : Value} {Q : Fin → Shared → Prop} (hh : A.handled = none) (D : ZipApart z TI TO i1 i2 l1 l2)
    (hz : IsZipS s.heap z TI TO .none) (hTI : IsPair s.heap TI (.ref i1) (.ref i2)) (hTO : IsPair s.heap TO a b)
    (h1 : s.heap.IsListIter i1 l1 k1) (h2 : s.heap.IsListIter i2 l2 k2) (hl1 : s.heap.IsList l1 xs) (hl2 : s.heap.IsList l2 ys) (hx : xs[k1]? = none) (hy : ys[k2]? = none)
    (hE : ∀ h' e, (∀ c o, c ≠ z → c ≠ TO → c ≠ i1 → c ≠ i2 → s.heap.get? c = some o → h'.get? c = some o) → (∃ o, h'.get? e = some o ∧ o.cls = .type "StopIteration") → E (.ref e) { s with heap := h' }) :
    wpAny (model prog w) A (Builtin.«zip.__next__» ⟨[.ref z], []⟩) Q E s := by
  show wpAny _ _ (field (.ref z) 2 >>= _) _ _ _
  refine wpAny_bind (wpAny_field hz rfl (x := .bool true) rfl ?_)
  show wpAny _ _ (field (.ref z) 3 >>= _) _ _ _
  refine wpAny_bind (wpAny_field hz rfl (x := .ref TI) rfl ?_)
  refine wpAny_bind (wpAny_seqItems hTI rfl ?_)
  show wpAny _ _ (Builtin.SmallTypes.ownedTupleIsFree (.ref z) >>= _) _ _ _
  refine wpAny_bind ?_
  unfold Builtin.SmallTypes.ownedTupleIsFree
  refine wpAny_bind (wpAny_field hz rfl (x := .none) rfl (wpAny_pure ?_))
  simp only [if_true]
  refine wpAny_bind (wpAny_rule ?_)
  refine wpAny_bind (wpAny_field hz rfl (x := .ref TO) rfl ?_)
  refine wpAny_bind (wpAny_setField_rec hz (by simp) fun h₁ hz₁ hs₁ => ?_)
  replace hz₁ : IsZipS h₁ z TI TO .ellipsis := hz₁
  refine wpAny_bind ?_
  simp only [List.zipIdx_cons, List.zipIdx_nil, List.forIn_cons, List.forIn_nil]
  refine wpAny_bind (wpAny_bind (wpAny_onRaise ?_))
  show wpAny _ _ (Builtin.SmallTypes.nextOrEnd (.ref i1)) _ _ _
  refine nextOrEnd_list_end hh (h1.extBut hs₁.extBut D.i1z) (hl1.extBut hs₁.extBut D.l1z) hx fun h₂ hs₂ => ?_
  have hz₂ : IsZipS h₂ z TI TO .ellipsis := hs₂ _ _ D.i1z.symm hz₁
  refine wpAny_bind (wpAny_setField_rec hz₂ (by simp) fun h₃ hz₃ hs₃ => ?_)
  refine wpAny_bind ?_
  refine wpAny_bind ?_
  refine wpAny_bind ?_
  refine wpAny_bind (nextOrEnd_list_end hh (((h2.extBut hs₁.extBut D.i2z).extBut hs₂ D.i12.symm).extBut hs₃.extBut D.i2z)
    (((hl2.extBut hs₁.extBut D.l2z).extBut hs₂ D.l2i1).extBut hs₃.extBut D.l2z) hy fun h₄ hs₄ => ?_)
  refine wpAny_pure ?_
  refine wpAny_pure ?_
  refine wpAny_bind (wpAny_rule ?_)
  refine stopIteration_run hh fun h₅ e hk₅ he => ?_
  exact hE h₅ e (fun c o c1 c2 c3 c4 x => hk₅ _ _ (hs₄ _ _ c4 (hs₃.extBut _ _ c1 (hs₂ _ _ c3 (hs₁.extBut _ _ c1 x))))) he
theorem pyNext_zipS_item {z TI TO i1 i2 l1 l2 : Addr} {k1 k2 : Nat} {xs ys : Array Value} {x y a b : Value} {Q : Option Value → Shared → Prop} (D : ZipApart z TI TO i1 i2 l1 l2)
    (hz : IsZipS s.heap z TI TO .none) (hTI : IsPair s.heap TI (.ref i1) (.ref i2)) (hTO : IsPair s.heap TO a b)
    (h1 : s.heap.IsListIter i1 l1 k1) (h2 : s.heap.IsListIter i2 l2 k2) (hl1 : s.heap.IsList l1 xs) (hl2 : s.heap.IsList l2 ys) (hx : xs[k1]? = some x) (hy : ys[k2]? = some y)
    (hQ : ∀ h', IsZipS h' z TI TO (rawInt s.heap.objs.size) → IsPair h' TO x y → h'.IsListIter i1 l1 (k1 + 1) → h'.IsListIter i2 l2 (k2 + 1) → IsPair h' s.heap.objs.size x y → h'.objs.size = s.heap.objs.size + 1 →
      (∀ c o, c ≠ z → c ≠ TO → c ≠ i1 → c ≠ i2 → s.heap.get? c = some o → h'.get? c = some o) → Q (some (.ref s.heap.objs.size)) { s with heap := h' }) :
    wpAny (model prog w) A (pyNext (.ref z)) Q E s := by
  have hT : s.TypeIs (.ref z) "zip" := ⟨_, hz, rfl⟩
  unfold pyNext
  exact wpAny_bind (wpAny_attempt (wpAny_callSpecial?_slot (name := Str.ofString "__next__") hT F.slot_zip_next
    (wpAny_call_entry F.slot_zip_next hT F.entry_zip_next
      (zipS_next_item D hz hTI hTO h1 h2 hl1 hl2 hx hy fun h' a1 a2 a3 a4 a5 a6 a7 => wpAny_pure (hQ h' a1 a2 a3 a4 a5 a6 a7)) (F.args_zip_next_1 _))))
theorem pyNext_zipS_end {z TI TO i1 i2 l1 l2 : Addr} {k1 k2 : Nat} {xs ys : Array Value} {a b : Value} {Q : Option Value → Shared → Prop} (hh : A.handled = none) (D : ZipApart z TI TO i1 i2 l1 l2)
    (hz : IsZipS s.heap z TI TO .none) (hTI : IsPair s.heap TI (.ref i1) (.ref i2)) (hTO : IsPair s.heap TO a b)
    (h1 : s.heap.IsListIter i1 l1 k1) (h2 : s.heap.IsListIter i2 l2 k2) (hl1 : s.heap.IsList l1 xs) (hl2 : s.heap.IsList l2 ys) (hx : xs[k1]? = none) (hy : ys[k2]? = none)
    (hQ : ∀ h', (∀ c o, c ≠ z → c ≠ TO → c ≠ i1 → c ≠ i2 → s.heap.get? c = some o → h'.get? c = some o) → Q none { s with heap := h' }) : wpAny (model prog w) A (pyNext (.ref z)) Q E s := by
  have hT : s.TypeIs (.ref z) "zip" := ⟨_, hz, rfl⟩
  unfold pyNext
  refine wpAny_bind (wpAny_attempt (wpAny_callSpecial?_slot (name := Str.ofString "__next__") hT F.slot_zip_next
    (wpAny_call_entry F.slot_zip_next hT F.entry_zip_next (zipS_next_end hh D hz hTI hTO h1 h2 hl1 hl2 hx hy fun h' e hk he => ?_) (F.args_zip_next_1 _))))
  obtain ⟨o, ho, hc⟩ := he
  refine wpAny_bind (wpAny_isInstance (T := "StopIteration") (b := true) ⟨o, ho, hc⟩ isSubtype_stop ?_)
  exact wpAny_pure (hQ _ hk)
theorem letOwnedTupleGo_zipS {elts : List Expr} {x1} {pos : Pos} {z TI TO T : Addr} {Q : Unit → Shared → Prop} (hz : IsZipS s.heap z TI TO (rawInt T))
    (hQ : ∀ h', IsZipS h' z TI TO .none → Heap.SameBut z s.heap h' → Q () { s with heap := h' }) :
    wpAny (model prog w) A (letOwnedTupleGo (.Tuple elts x1 pos) (.ref z) (.ref T)) Q E s := by
  unfold letOwnedTupleGo
  refine wpAny_bind (wpAny_load hz ?_)
  show wpAny _ _ (if (["enumerate", "zip", "dict_itemiterator", "dict_reverseitemiterator", "odict_iterator", "itertools.zip_longest", "itertools.pairwise"].contains "zip" &&
      (#[rawInt T, .bool false, .bool true, .ref TI, .ref TO] : Array Value)[0]? == some (rawInt T)) = true then _ else _) Q E s
  rw [if_pos (by simp)]
  refine wpAny_bind (wpAny_rule ?_)
  show wpAny _ _ (setField (.ref z) 0 .none) Q E s
  exact wpAny_setField_rec hz (by simp) fun h' hz' hs' => hQ h' hz' hs'
theorem pyIter_zipS {z TI TO : Addr} {f0 : Value} {Q : Value → Shared → Prop} (hz : IsZipS s.heap z TI TO f0) (h : Q (.ref z) s) : wpAny (model prog w) A (pyIter (.ref z)) Q E s := by
  have hT : s.TypeIs (.ref z) "zip" := ⟨_, hz, rfl⟩
  refine wpAny_pyIter_slot hT F.slot_zip_iter (wpAny_call_entry F.slot_zip_iter hT F.entry_zip_iter ?_ (F.args_zip_iter_1 _))
  show wpAny _ _ (ret (.ref z)) _ _ s
  exact wpAny_pure ⟨_, rfl, "zip", _, hT, F.slot_zip_next.lookup, h⟩
end
namespace F
theorem typeCall_zip_strict (a b c : Value) : checkTypeCall "zip" ⟨[a, b], [(Str.ofString "strict", c)]⟩ = pure () := by kernel_rfl
theorem newCall_zip_strict (a b c : Value) : checkBuiltinCall "zip.__new__" ⟨[.type "zip", a, b], [(Str.ofString "strict", c)]⟩ = pure () := by kernel_rfl
theorem args_object_init_strict (obj a b c : Value) : argsOk "object.__init__" ⟨[obj, a, b], [(Str.ofString "strict", c)]⟩ := by unfold argsOk; kernel_rfl
end F
abbrev zipS5 (h : Heap) (l1 l2 : Addr) : Heap := (zipH4 h l1 l2).push { cls := .type "zip", data := .fields #[.none, .bool false, .bool true, .ref (zipH2 h l1 l2).objs.size, .ref (zipH3 h l1 l2).objs.size] }
theorem meets_zipS_new (l1 l2 : Addr) (xs ys : Array Value) :
    Meets (Builtin.«zip.__new__» ⟨[.type "zip", .ref l1, .ref l2], [(Str.ofString "strict", .bool true)]⟩) (fun _ R s => s.heap.IsList l1 xs ∧ s.heap.IsList l2 ys ∧
      R (.ok (.ret (.ref (zipH4 s.heap l1 l2).objs.size))) { s with heap := zipS5 s.heap l1 l2 }) :=
  .of_wp fun prog w A R s h => by
    obtain ⟨hp, g, d, tk, os⟩ := s; obtain ⟨hl1, hl2, h⟩ := h
    have hsub := sub_zip
    have e1 : (Str.ofString "strict" != ("strict" : Str)) = false := by decide +kernel
    have hL1 : Heap.IsList (Shared.heap ⟨hp, g, d, tk, os⟩) l1 xs := hl1
    have hL2 : Heap.IsList (Shared.heap ⟨hp.push { cls := .type "list_iterator", data := .fields #[.ref l1, .int 0 0] }, g, d, tk, os⟩) l2 ys := Heap.IsList.push hl2 _
    wp_walk using wpAny_pyIter_list hL1, wpAny_pyIter_list hL2
    exact ⟨_, rfl, h⟩
section
variable {prog : Program} {w : World} {A : Around} {E : Value → Shared → Prop} {s : Shared}
theorem call_zipS {l1 l2 : Addr} {xs ys : Array Value} {Q : Value → Shared → Prop} (hl1 : s.heap.IsList l1 xs) (hl2 : s.heap.IsList l2 ys)
    (h : ∀ h', IsZipS h' (s.heap.objs.size + 4) (s.heap.objs.size + 2) (s.heap.objs.size + 3) .none → IsPair h' (s.heap.objs.size + 2) (.ref s.heap.objs.size) (.ref (s.heap.objs.size + 1)) →
      IsPair h' (s.heap.objs.size + 3) .none .none → h'.IsListIter s.heap.objs.size l1 0 → h'.IsListIter (s.heap.objs.size + 1) l2 0 → h'.objs.size = s.heap.objs.size + 5 →
      (∀ c o, s.heap.get? c = some o → h'.get? c = some o) → Q (.ref (s.heap.objs.size + 4)) { s with heap := h' }) :
    wpAny (model prog w) A (call (.type "zip") [.ref l1, .ref l2] [(Str.ofString "strict", .bool true)]) Q E s := by
  refine callType_newKw F.called_zip (by decide) (F.typeCall_zip_strict _ _ _) (F.newCall_zip_strict _ _ _) (fun obj => F.args_object_init_strict obj _ _ _) F.entry_zip_new
    (meets_zipS_new l1 l2 xs ys) ⟨hl1, hl2, ?_⟩
  have z1 : (zipH1 s.heap l1).objs.size = s.heap.objs.size + 1 := Heap.size_push ..
  have z2 : (zipH2 s.heap l1 l2).objs.size = s.heap.objs.size + 2 := by rw [Heap.size_push, z1]
  have z3 : (zipH3 s.heap l1 l2).objs.size = s.heap.objs.size + 3 := by rw [Heap.size_push, z2]
  have z4 : (zipH4 s.heap l1 l2).objs.size = s.heap.objs.size + 4 := by rw [Heap.size_push, z3]
  have z5 : (zipS5 s.heap l1 l2).objs.size = s.heap.objs.size + 5 := by rw [Heap.size_push, z4]
  have g5 : (zipS5 s.heap l1 l2).get? (zipH4 s.heap l1 l2).objs.size = some _ := Heap.get?_push_size _ rfl
  have g4 : (zipS5 s.heap l1 l2).get? (zipH3 s.heap l1 l2).objs.size = some _ := Heap.get?_push_of_some _ (Heap.get?_push_size _ rfl)
  have g3 : (zipS5 s.heap l1 l2).get? (zipH2 s.heap l1 l2).objs.size = some _ := Heap.get?_push_of_some _ (Heap.get?_push_of_some _ (Heap.get?_push_size _ rfl))
  have g2 : (zipS5 s.heap l1 l2).get? (zipH1 s.heap l1).objs.size = some _ := Heap.get?_push_of_some _ (Heap.get?_push_of_some _ (Heap.get?_push_of_some _ (Heap.get?_push_size _ rfl)))
  have g1 : (zipS5 s.heap l1 l2).get? s.heap.objs.size = some _ := Heap.get?_push_of_some _ (Heap.get?_push_of_some _ (Heap.get?_push_of_some _ (Heap.get?_push_of_some _ (Heap.get?_push_size _ rfl))))
  show _ ∧ _
  rw [z2, z3, z4] at g5
  rw [z1, z2] at g3
  rw [z3] at g4
  rw [z1] at g2
  rw [z4]
  exact ⟨⟨_, g5, rfl⟩, h _ g5 g3 g4 ⟨_, g1, rfl, rfl⟩ ⟨_, g2, rfl, rfl⟩ z5 fun c o x =>
    Heap.get?_push_of_some _ (Heap.get?_push_of_some _ (Heap.get?_push_of_some _ (Heap.get?_push_of_some _ (Heap.get?_push_of_some _ x))))⟩
theorem callWith_type_kwB {M : Model} {A : Around} {E : Value → Shared → Prop} {s : Shared} {pos : Pos} {T : String} {first : List Value} {args : List (Bool × Sem Value)} {keywords : List (Option Str × Sem Value)} {Q : Value → Shared → Prop}
    (hplain : args.any (·.1) = false) (hkw : keywords.any (·.1.isNone) = false)
    (h : wpAny M A (evalArgs (.type T) true args keywords) (fun a s₁ => wpAny M A (call (.type T) (first ++ a.pos) a.kw) Q E s₁) E s) :
    wpAny M A (callWith pos (.type T) first args keywords) Q E s := by
  unfold callWith
  refine wpAny_bind (wpAny_holding (wpAny_mono h (fun a s₁ h₁ => wpAny_bind (wpAny_standAt ?_)) fun _ _ x => x))
  simp only [hplain, hkw, Bool.or_false]
  refine wpAny_bind (wpAny_pure ?_)
  exact wpAny_bind (wpAny_mono h₁ (fun r s₂ hr => wpAny_bind (wpAny_holding (wpAny_point (wpAny_pure hr)))) fun _ _ x => x)
theorem callWith_typeKw {M : Model} {A : Around} {E : Value → Shared → Prop} {s : Shared} {env : Env} {pos : Pos} {T : String} {e : Expr} {rest : List Expr} {kws : List Keyword} {Q : Value → Shared → Prop}
    (h : wpAny M A (spliced (backTo pos (starEach (e :: rest) env))) (fun vs s₁ => wpAny M A (evalAll ((backToKw pos (keywordEach kws env)).map (·.2)))
      (fun kvs s₂ => wpAny M A (call (.type T) vs (((backToKw pos (keywordEach kws env)).filterMap (·.1)).zip kvs)) Q E s₂) E s₁) E s)
    (he : starEach (e :: rest) env = (false, eval e env) :: starEach rest env)
    (hplain : (backTo pos (starEach rest env)).any (·.1) = false)
    (hall : (backToKw pos (keywordEach kws env)).all (·.1.isSome) = true := by rfl)
    (hkw : (backToKw pos (keywordEach kws env)).any (·.1.isNone) = false := by rfl) :
    wpAny M A (callWith pos (.type T) [] (backTo pos (starEach (e :: rest) env)) (backToKw pos (keywordEach kws env))) Q E s := by
  rw [he] at h ⊢
  exact callWith_type_kwB (by show (false || (backTo pos (starEach rest env)).any (·.1)) = false; rw [hplain]; rfl) hkw (PyProof.Rows.evalArgs_kwB hall h)
end
end PySem
namespace RZ
open PySem PySem.Spec PyProof.Rows L2
/-- zip, strict: the lists at a and b as they stand at each turn, the items in new pairs; both end at once -/
def ItzS (K : PySem.W.Frag) (a b : Addr) : It :=
  ⟨(Itz K a b).go, (Itz K a b).yld, fun i H => ∃ xs ys : List V, SqL K H a xs ∧ SqL K H b ys ∧ xs.length ≤ i ∧ ys.length ≤ i⟩
theorem turn_zipS {P : Program} {w : World} {K : PySem.W.Frag} {elts : List Expr} {kk : Nat} {tpos : Pos} {a b z TI TO i1 i2 : Addr} (D : ZipApart z TI TO i1 i2 a b) :
    Turn P w K (.Tuple elts kk tpos) (ItzS K a b) [z, TI, TO, i1, i2] z (fun i h => IsZipS h z TI TO .none ∧ IsPair h TI (.ref i1) (.ref i2) ∧ (∃ x y, IsPair h TO x y) ∧ h.IsListIter i1 a i ∧ h.IsListIter i2 b i) where
  mem := by simp
  obj := fun i h st c hc => by
    obtain ⟨hz, hTI, ⟨x, y, hTO⟩, ⟨o1, e1, _, d1⟩, ⟨o2, e2, _, d2⟩⟩ := st
    have e' : c = z ∨ c = TI ∨ c = TO ∨ c = i1 ∨ c = i2 := by simpa using hc
    rcases e' with q | q | q | q | q
    · rw [q]; exact ⟨_, hz, fun v q => nomatch q⟩
    · rw [q]; exact ⟨_, hTI, fun v q => nomatch q⟩
    · rw [q]; exact ⟨_, hTO, fun v q => nomatch q⟩
    · rw [q]; exact ⟨o1, e1, fun v q => by rw [d1] at q; cases q⟩
    · rw [q]; exact ⟨o2, e2, fun v q => by rw [d2] at q; cases q⟩
  keep := fun i h h' st k => by
    obtain ⟨hz, hTI, ⟨x, y, hTO⟩, h1, h2⟩ := st
    exact ⟨k z (by simp) _ hz, k TI (by simp) _ hTI, ⟨x, y, k TO (by simp) _ hTO⟩, h1.at fun o q => k i1 (by simp) o q, h2.at fun o q => k i2 (by simp) o q⟩
  item := by
    intro X hP hw hK hc i pins s σ H E I hf st hg
    subst hP hw hK
    obtain ⟨hz, hTI, ⟨x0, y0, hTO⟩, h1, h2⟩ := st
    obtain ⟨xs, ys, x, y, hqx, hqy, hx, hy⟩ := hg
    obtain ⟨its, rv, p, _⟩ := I.list hqx
    obtain ⟨its2, rv2, p2, _⟩ := I.list hqy
    obtain ⟨u, hu, ru⟩ := rv.get hx
    obtain ⟨u2, hu2, ru2⟩ := rv2.get hy
    have hzl : z < s.heap.objs.size := Heap.lt_size hz
    refine pyNext_zipS_item D hz hTI hTO h1 h2 p.isList p2.isList (x := u) (y := u2) (by simpa using hu) (by simpa using hu2) fun h' z' TO' h1' h2' hT hsz hk => ?_
    refine ⟨_, rfl, letOwnedTupleGo_zipS (s := { s with heap := h' }) z' fun h'' z'' sb => ?_⟩
    have hT2 : h''.get? s.heap.objs.size = some { cls := .type "tuple", data := .seq #[u, u2] } := (sb.2 _ (Nat.ne_of_gt hzl)).trans hT
    have new : ObjOk X.prog X.w (upd H s.heap.objs.size (.tup [x, y])) h'' s.heap.objs.size (.tup [x, y]) :=
      ⟨by show 2 ≤ sizeLine; decide, [u, u2], .cons ru (.cons ru2 .nil), ⟨_, hT2, rfl, _, rfl⟩⟩
    have I1 : Inv X pins σ (upd H s.heap.objs.size (.tup [x, y])) { s with heap := h'' } :=
      I.turnedNew (t' := s.toks) (ch := [z, TI, TO, i1, i2]) (fun c o hb q => (sb.2 c (fun q' => hb (by simp [q']))).trans (hk c o (fun q' => hb (by simp [q'])) (fun q' => hb (by simp [q'])) (fun q' => hb (by simp [q'])) (fun q' => hb (by simp [q'])) q)) hf (Nat.le_refl _) new
    refine ⟨.ref s.heap.objs.size, _, I1, rfl, ⟨_, x, y, rfl, I.hok.fresh (Nat.le_refl _), rfl, fun l hl => by rw [I.list_inj hl hqx]; exact hx, fun l hl => by rw [I.list_inj hl hqy]; exact hy⟩, ⟨z'', ?_, ⟨u, u2, ?_⟩, ?_, ?_⟩, fun c hcm => ?_⟩
    · exact (sb.2 _ D.TIz).trans (hk _ _ D.TIz D.TITO D.TIi1 D.TIi2 hTI)
    · exact (sb.2 _ D.TOz).trans TO'
    · exact h1'.at fun o q => (sb.2 _ D.i1z).trans q
    · exact h2'.at fun o q => (sb.2 _ D.i2z).trans q
    · have hlt : c < s.heap.objs.size := by
        have e' : c = z ∨ c = TI ∨ c = TO ∨ c = i1 ∨ c = i2 := by simpa using hcm
        rcases e' with q | q | q | q | q
        · rw [q]; exact hzl
        · rw [q]; exact Heap.lt_size hTI
        · rw [q]; exact Heap.lt_size hTO
        · rw [q]; obtain ⟨_, e1, _⟩ := h1; exact Heap.lt_size e1
        · rw [q]; obtain ⟨_, e2, _⟩ := h2; exact Heap.lt_size e2
      rw [upd_ne (Nat.ne_of_lt hlt)]
      exact (hf c hcm).1
  done := by
    intro X hP hw hK hc i pins s σ H E I hf st hg
    subst hP hw hK
    obtain ⟨hz, hTI, ⟨x0, y0, hTO⟩, h1, h2⟩ := st
    obtain ⟨xs, ys, hqx, hqy, hx, hy⟩ := hg
    obtain ⟨its, rv, p, _⟩ := I.list hqx
    obtain ⟨its2, rv2, p2, _⟩ := I.list hqy
    have l1 := rv.length
    have l2 := rv2.length
    exact pyNext_zipS_end (I.ok.hd hc) D hz hTI hTO h1 h2 p.isList p2.isList (by simp; omega) (by simp; omega) fun h' hk => ⟨rfl, I.turnedL (t' := s.toks) (ch := [z, TI, TO, i1, i2]) (fun c o hb q =>
      hk c o (fun q' => hb (by simp [q'])) (fun q' => hb (by simp [q'])) (fun q' => hb (by simp [q'])) (fun q' => hb (by simp [q'])) q) hf⟩
  self := fun A i s Q E st h => pyIter_zipS st.1 h
def iZipS (K : PySem.W.Frag) (ta : TA) : TI := fun σ H R => ta σ H fun vs H1 => ∃ a b xs ys, vs = [.ref a, .ref b] ∧ SqL K H1 a xs ∧ SqL K H1 b ys ∧ R (ItzS K a b) H1
theorem pi_zipS {X : Cx} {e e2 : Expr} {ta : TA} {p pos tpos kp cp : Pos} {ck : Nat} {elts : List Expr} {kk : Nat} (hg : Gl X "zip") (hm : X.mg "zip" = none) (ha : PA X [e, e2] ta)
    (hs : starEach [e, e2] X.env = (false, eval e X.env) :: starEach [e2] X.env := by rfl) (hpl : (backTo pos (starEach [e2] X.env)).any (·.1) = false := by rfl)
    (hall : (backToKw pos (keywordEach [⟨some (Str.ofString "strict"), .Constant (.bool true) ck cp, kp⟩] X.env)).all (·.1.isSome) = true := by rfl)
    (hkw : (backToKw pos (keywordEach [⟨some (Str.ofString "strict"), .Constant (.bool true) ck cp, kp⟩] X.env)).any (·.1.isNone) = false := by rfl) :
    PI X (.Tuple elts kk tpos) (.Call (.Name "zip" p) [e, e2] [⟨some (Str.ofString "strict"), .Constant (.bool true) ck cp, kp⟩] pos) (iZipS X.K ta) := by
  refine ⟨fun pins s σ H R I h => ?_⟩
  refine wpAny_Call_Name_kw (ld_blt I hg hm PyProof.Rows.boot_zip (callWith_typeKw (thn (ha.run pos pins s σ H _ I h) fun us s1 ⟨vs, H1, I1, r1, q1⟩ => ?_) hs hpl hall hkw))
  refine PyProof.Rows.kws_cons (Constant_bool (PyProof.Rows.kws_nil ?_))
  obtain ⟨a, b, xs, ys, ex, hqx, hqy, q⟩ := q1
  subst ex
  cases r1 with
  | cons r rr =>
    cases rr with
    | cons r' rr =>
      cases rr
      cases r
      cases r'
      obtain ⟨its, rv, p1, _⟩ := I1.list hqx
      obtain ⟨its2, rv2, p2, _⟩ := I1.list hqy
      have la : a < s1.heap.objs.size := p1.lt
      have lb : b < s1.heap.objs.size := p2.lt
      refine call_zipS p1.isList p2.isList fun h' hz hTI hTO h1 h2 hsz hk => pyIter_zipS hz ?_
      have I2 : Inv X pins σ H1 { s1 with heap := h' } := I1.kept (t' := s1.toks) hk
      refine ⟨s1.heap.objs.size + 4, [s1.heap.objs.size + 4, s1.heap.objs.size + 2, s1.heap.objs.size + 3, s1.heap.objs.size, s1.heap.objs.size + 1], _, _, H1, rfl, I2, turn_zipS (PySem.W.ktu_apart s1.heap.objs.size a b la lb), ⟨hz, hTI, ⟨_, _, hTO⟩, h1, h2⟩, fun c hcm => ?_, q⟩
      have e' : c = s1.heap.objs.size + 4 ∨ c = s1.heap.objs.size + 2 ∨ c = s1.heap.objs.size + 3 ∨ c = s1.heap.objs.size ∨ c = s1.heap.objs.size + 1 := by simpa using hcm
      have hle : s1.heap.objs.size ≤ c := by
        rcases e' with z | z | z | z | z
        · rw [z]; exact Nat.le_add_right _ _
        · rw [z]; exact Nat.le_add_right _ _
        · rw [z]; exact Nat.le_add_right _ _
        · rw [z]; exact Nat.le_refl _
        · rw [z]; exact Nat.le_add_right _ _
      exact I1.fpOk hle (I1.hok.fresh hle)
end RZ
namespace DL
open PySem PySem.Spec PyProof.Rows L2
/-! DLM: zip(xs, ys, strict=True) of two lists of one length -/
theorem Wlk.zipS {K : PySem.W.Frag} {ph : Ph} {S : Hp} {a b : Addr} {d1 d2 : List D} {C1 C2 : Mem → Prop} (hl : d1.length = d2.length)
    (h1 : ∀ (ph' : Ph) (S' : Hp) (r' : Env) (M' : Mem) (σ' : St) (H' : Hp), (∀ (k : Nat) (a : Addr), ph.cells[k]? = some a → ph'.cells[k]? = some a) → Same S S' → Sat K ph' S' r' M' σ' H' → C1 M' → ∃ xs, SqL K H' a xs ∧ RepAll K ph' S' xs d1)
    (h2 : ∀ (ph' : Ph) (S' : Hp) (r' : Env) (M' : Mem) (σ' : St) (H' : Hp), (∀ (k : Nat) (a : Addr), ph.cells[k]? = some a → ph'.cells[k]? = some a) → Same S S' → Sat K ph' S' r' M' σ' H' → C2 M' → ∃ xs, SqL K H' b xs ∧ RepAll K ph' S' xs d2) :
    Wlk K ph S (RZ.ItzS K a b) (List.zipWith pairD d1 d2) (fun M => C1 M ∧ C2 M) := fun ph' S' r M σ H e1 e2 hs hc => by
  obtain ⟨xs, q1, qa1⟩ := h1 ph' S' r M σ H e1 e2 hs hc.1
  obtain ⟨ys, q2, qa2⟩ := h2 ph' S' r M σ H e1 e2 hs hc.2
  refine ⟨fun i hi => ⟨xs, ys, q1, q2, by rw [qa1.len]; rw [List.length_zipWith] at hi; omega, by rw [qa2.len]; rw [List.length_zipWith] at hi; omega⟩, fun i d e => ?_⟩
  obtain ⟨x, y, ex, ey, rfl⟩ := zip_get e
  obtain ⟨u, eu, qu⟩ := qa1.get ex
  obtain ⟨w, ew, qw⟩ := qa2.get ey
  refine ⟨⟨xs, ys, u, w, q1, q2, eu, ew⟩, fun z H' ⟨T, u', w', ez, hT, eH, f1, f2⟩ => ?_⟩
  have e3 := f1 xs q1
  have e4 := f2 ys q2
  rw [eu] at e3; cases e3
  rw [ew] at e4; cases e4
  subst ez eH
  obtain ⟨x1, hs1⟩ := hs.frz hT (.tup [u, w])
  exact ⟨_, _, _, x1, hs1, rfl, .tup (.inl upd_same) ((RepAll.two qu qw).up x1)⟩
def gZipS (ds : List D) (M : Mem) (R : List D → (Mem → Prop) → Mem → Prop) : Prop := match ds with
  | [x, y] => match lsqD M x, lsqD M y with
    | some (xs, C1), some (ys, C2) => xs.length = ys.length ∧ R (List.zipWith pairD xs ys) (fun M' => C1 M' ∧ C2 M') M
    | _, _ => False
  | _ => False
section
variable {X : Cx}
theorem di_zipS {a b : Expr} {t : DTA} {p pos tpos kp cp : Pos} {ck : Nat} {elts : List Expr} {kk : Nat} (hm : X.mg "zip" = none) (ha : DA X [a, b] t) (hg : Gl X "zip" := by rfl)
    (hs : starEach [a, b] X.env = (false, eval a X.env) :: starEach [b] X.env := by rfl) (hpl : (backTo pos (starEach [b] X.env)).any (·.1) = false := by rfl)
    (hall : (backToKw pos (keywordEach [⟨some (Str.ofString "strict"), .Constant (.bool true) ck cp, kp⟩] X.env)).all (·.1.isSome) = true := by rfl)
    (hkw : (backToKw pos (keywordEach [⟨some (Str.ofString "strict"), .Constant (.bool true) ck cp, kp⟩] X.env)).any (·.1.isNone) = false := by rfl) : DI X (.Tuple elts kk tpos) (.Call (.Name "zip" p) [a, b] [⟨some (Str.ofString "strict"), .Constant (.bool true) ck cp, kp⟩] pos) (dRngI gZipS t) :=
  ⟨PI.weak (RZ.pi_zipS hg hm ha.pa hs hpl hall hkw) fun σ H R ⟨ph, S, r, M, Q0, hs, ht, hq⟩ => ⟨ph, S, r, M, _, hs, ht, fun vs H1 ⟨ph1, S1, M1, x1, hs1, ds, q1, g1⟩ => by
    match ds, q1, g1 with
    | [x, y], .cons qx (.cons qy .nil), g =>
      unfold gZipS at g
      dsimp only at g
      split at g
      · rename_i xs C1 ys C2 e1 e2
        obtain ⟨hl, g⟩ := g
        obtain ⟨u, rfl, ⟨us, hu⟩, w1⟩ := lsq_rep hs1 qx e1
        obtain ⟨w, rfl, ⟨ws, hw⟩, w2⟩ := lsq_rep hs1 qy e2
        exact ⟨u, w, us, ws, rfl, hu, hw, hq _ _ ⟨ph1, S1, M1, x1, hs1, _, _, Wlk.zipS hl w1 w2, g⟩⟩
      · exact g.elim⟩⟩
end
end DL
namespace DL
open PySem PySem.Spec PyProof.Rows L2
end DL
namespace DL
open PySem PySem.Spec PyProof.Rows L2
def t_led_down : DTS :=
 (dSeq (dAsg (dTup (dCons (dVar 0) (dCons (dVar 1) (dCons (dTup (dCons (dC (.int 1)) (dCons (dC (.int 0)) dNil))) (dCons (dTup (dCons (dC (.int 0)) (dCons (dC (.int 1)) dNil))) dNil))))) (dGTup 4 (dGCons (dName 2) (dGCons (dName 3) (dGCons (dName 4) (dGCons (dName 5) dGNil))))))
 (dSeq (dWhile (dTru (dOp gNe (dOp gIx (dVar 3) (dC (.int 0))) (dC (.int 0)))) (dSeq (dAsg (dOp (rBin CDiv fun i j => i.fdiv j) (dOp gIx (dVar 2) (dC (.int 0))) (dOp gIx (dVar 3) (dC (.int 0)))) (dName 6))
 (dSeq (dAsg (dTup (dCons (dOp (rBin (fun _ _ => True) fun i j => i - j) (dOp (rBin CMul fun i j => i * j) (dVar 6) (dOp gIx (dVar 3) (dC (.int 0)))) (dOp gIx (dVar 2) (dC (.int 0)))) (dCons (dOp (rBin (fun _ _ => True) fun i j => i - j) (dOp (rBin CMul fun i j => i * j) (dVar 6) (dOp gIx (dVar 3) (dC (.int 1)))) (dOp gIx (dVar 2) (dC (.int 1)))) dNil))) (dName 7))
 (dSeq (dAsg (dTup (dCons (dOp (rBin (fun _ _ => True) fun i j => i - j) (dOp (rBin CMul fun i j => i * j) (dVar 6) (dOp gIx (dVar 5) (dC (.int 0)))) (dOp gIx (dVar 4) (dC (.int 0)))) (dCons (dOp (rBin (fun _ _ => True) fun i j => i - j) (dOp (rBin CMul fun i j => i * j) (dVar 6) (dOp gIx (dVar 5) (dC (.int 1)))) (dOp gIx (dVar 4) (dC (.int 1)))) dNil))) (dName 8))
 (dAsg (dTup (dCons (dVar 3) (dCons (dVar 7) (dCons (dVar 5) (dCons (dVar 8) dNil))))) (dGTup 4 (dGCons (dName 2) (dGCons (dName 3) (dGCons (dName 4) (dGCons (dName 5) dGNil))))))))))
 (dSeq (dAsg (dIf (dTru (dOp (gCmpI fun i j => decide (j < i)) (dOp gIx (dVar 2) (dC (.int 0))) (dC (.int 0)))) (dC (.int 1)) (dNeg (dC (.int 1)))) (dName 9))
 (dSeq (dPar 2 3 (dCons (dTup (dCons (dOp (rBin CMul fun i j => i * j) (dVar 9) (dOp gIx (dVar 2) (dC (.int 0)))) (dCons (dOp (rBin CMul fun i j => i * j) (dVar 9) (dOp gIx (dVar 2) (dC (.int 1)))) dNil))) (dCons (dTup (dCons (dOp (rBin CMul fun i j => i * j) (dVar 9) (dOp gIx (dVar 3) (dC (.int 0)))) (dCons (dOp (rBin CMul fun i j => i * j) (dVar 9) (dOp gIx (dVar 3) (dC (.int 1)))) dNil))) dNil)))
 (dRet (dTup (dCons (dVar 2) (dCons (dVar 3) (dCons (dTup (dCons (dOp (rBin CMul fun i j => i * j) (dVar 9) (dOp gIx (dVar 4) (dC (.int 0)))) (dCons (dOp (rBin CMul fun i j => i * j) (dVar 9) (dOp gIx (dVar 4) (dC (.int 1)))) dNil))) (dCons (dTup (dCons (dOp (rBin CMul fun i j => i * j) (dVar 9) (dOp gIx (dVar 5) (dC (.int 0)))) (dCons (dOp (rBin CMul fun i j => i * j) (dVar 9) (dOp gIx (dVar 5) (dC (.int 1)))) dNil))) dNil))))))))))
def t_turned_about : DTS :=
 (dRet (dLc false (dRngI gRng1 (dCons (dC (.int 4)) dNil)) (dName 1) dYes (dLc false (dSeqI (dVar 0)) (dName 2) dYes (dOp gIx (dVar 2) (dVar 1)) [2]) [1]))
def t_deed_table_by (c_opposite_by : DSp) (c_led_down : DSp) (c_done_by : DSp) (c_turned_about : DSp) : DTS :=
 (dSeq (dAsg (dVar 0) (dGTup 4 (dGCons (dName 2) (dGCons (dName 3) (dGCons (dName 4) (dGCons (dName 5) dGNil))))))
 (dSeq (dAsg (dVar 1) (dGTup 2 (dGCons (dName 6) (dGCons (dName 7) dGNil))))
 (dSeq (dAsg (dIf (dTru (dOp gEq (dVar 6) (dC (.int 0)))) (dNeg (dC (.int 1))) (dOp (rBin CMod fun i j => i.fmod j) (dNeg (dCall 2 c_opposite_by [] DX0 (dCons (dVar 7) (dCons (dVar 6) dNil)))) (dVar 6))) (dName 8))
 (dSeq (dAsg (dIf (dTru (dOp gEq (dVar 6) (dC (.int 0)))) (dC (.int 0)) (dOp (rBin CDiv fun i j => i.fdiv j) (dOp gAdd (dC (.int 1)) (dOp (rBin CMul fun i j => i * j) (dVar 7) (dVar 8))) (dVar 6))) (dName 9))
 (dSeq (dAsg (dCall 2 c_led_down [] DX0 (dCons (dTup (dCons (dOp gAdd (dOp (rBin CMul fun i j => i * j) (dVar 6) (dVar 3)) (dOp (rBin CMul fun i j => i * j) (dVar 7) (dVar 2))) (dCons (dOp gAdd (dOp gAdd (dOp gAdd (dOp (rBin CMul fun i j => i * j) (dVar 8) (dVar 3)) (dOp (rBin CMul fun i j => i * j) (dVar 9) (dVar 2))) (dVar 5)) (dOp (rBin CMul fun i j => i * j) (dVar 7) (dVar 4))) dNil))) (dCons (dTup (dCons (dOp (rBin CMul fun i j => i * j) (dVar 7) (dVar 4)) (dCons (dOp (rBin CMul fun i j => i * j) (dVar 9) (dVar 4)) dNil))) dNil))) (dGTup 4 (dGCons (dName 10) (dGCons (dName 11) (dGCons (dName 12) (dGCons (dName 13) dGNil))))))
 (dSeq (dAsg (dCall 2 c_done_by [] DX0 (dCons (dVar 0) (dCons (dVar 1) dNil))) (dName 14))
 (dSeq (dPar 15 16 (dCons (dOp gIx (dVar 11) (dC (.int 1))) (dCons (dCB gGcd (dCons (dOp gIx (dVar 11) (dC (.int 1))) (dCons (dOp gIx (dVar 10) (dC (.int 0))) dNil))) dNil)))
 (dSeq (dAsg (dOp (rBin CDiv fun i j => i.fdiv j) (dVar 15) (dVar 16)) (dName 17))
 (dSeq (dAsg (dIf (dTru (dOp (gCmpI fun i j => decide (j < i)) (dVar 17) (dC (.int 1)))) (dOp (rBin CMod fun i j => i.fmod j) (dOp (rBin CMul fun i j => i * j) (dOp (rBin CDiv fun i j => i.fdiv j) (dOp (rBin (fun _ _ => True) fun i j => i - j) (dNeg (dOp gIx (dVar 10) (dC (.int 1)))) (dOp gIx (dVar 14) (dC (.int 0)))) (dVar 16)) (dCall 2 c_opposite_by [] DX0 (dCons (dOp (rBin CDiv fun i j => i.fdiv j) (dOp gIx (dVar 10) (dC (.int 0))) (dVar 16)) (dCons (dVar 17) dNil)))) (dVar 17)) (dC (.int 0))) (dName 18))
 (dSeq (dAsg (dOp (rBin (fun _ _ => True) fun i j => i - j) (dVar 18) (dOp (rBin CMul fun i j => i * j) (dOp (rBin CDiv fun i j => i.fdiv j) (dOp gAdd (dVar 9) (dOp (rBin CMul fun i j => i * j) (dVar 18) (dVar 7))) (dOp (rBin CMul fun i j => i * j) (dVar 7) (dVar 17))) (dVar 17))) (dName 18))
 (dSeq (dAsg (dOp (rBin CDiv fun i j => i.fdiv j) (dOp gAdd (dOp gAdd (dOp gIx (dVar 14) (dC (.int 0))) (dOp gIx (dVar 10) (dC (.int 1)))) (dOp (rBin CMul fun i j => i * j) (dVar 18) (dOp gIx (dVar 10) (dC (.int 0))))) (dVar 15)) (dName 19))
 (dSeq (dAsg (dTup (dCons (dOp (rBin (fun _ _ => True) fun i j => i - j) (dOp gIx (dVar 12) (dC (.int 0))) (dOp (rBin CMul fun i j => i * j) (dVar 19) (dOp gIx (dVar 13) (dC (.int 0))))) (dCons (dOp (rBin (fun _ _ => True) fun i j => i - j) (dOp gIx (dVar 12) (dC (.int 1))) (dOp (rBin CMul fun i j => i * j) (dVar 19) (dOp gIx (dVar 13) (dC (.int 1))))) dNil))) (dName 12))
 (dSeq (dAsg (dOwn (dCons (dLst (dCons (dC (.int 0)) (dCons (dC (.int 0)) (dCons (dVar 6) (dCons (dVar 7) dNil))))) (dCons (dLst (dCons (dC (.int 1)) (dCons (dC (.int 0)) (dCons (dOp gAdd (dVar 8) (dOp (rBin CMul fun i j => i * j) (dVar 18) (dVar 6))) (dCons (dOp gAdd (dVar 9) (dOp (rBin CMul fun i j => i * j) (dVar 18) (dVar 7))) dNil))))) dNil))) (dName 20))
 (dSeq (dFor (dSeqI (dLst (dCons (dTup (dCons (dOp gIx (dVar 13) (dC (.int 1))) (dCons (dNeg (dOp gIx (dVar 13) (dC (.int 0)))) dNil))) (dCons (dTup (dCons (dNeg (dOp gIx (dVar 12) (dC (.int 1)))) (dCons (dOp gIx (dVar 12) (dC (.int 0))) dNil))) dNil)))) (dGTup 2 (dGCons (dName 21) (dGCons (dName 22) dGNil))) (dDrop (dMet gAppend (dVar 20) (dCons (dLst (dCons (dVar 21) (dCons (dVar 22) (dCons (dOp (rBin CMul fun i j => i * j) (dVar 22) (dVar 6)) (dCons (dOp (rBin CMul fun i j => i * j) (dVar 22) (dVar 7)) dNil))))) dNil))))
 (dRet (dCall 1 c_turned_about [] DX0 (dCons (dVar 20) dNil)))))))))))))))))
end DL
namespace DL
open PySem PySem.Spec PyProof.Rows L2
/-! DLE: owned lists within owned lists: comparisons and reprs -/
def resE (M : Mem) : Nat → D → D
  | 0, d => d
  | n + 1, .own k => match cellL M k with
    | some ds => .lst (ds.map (resE M n))
    | none => .own k
  | n + 1, .tup l => .tup (l.map (resE M n))
  | n + 1, .lst l => .lst (l.map (resE M n))
  | _ + 1, d => d
section
variable {K : PySem.W.Frag} {ph : Ph} {S : Hp} {r : Env} {M : Mem} {σ : St} {H : Hp}
theorem RepAll.mapE {f : D → D} (h : ∀ (d : D) (v : V), Rep K ph S v d → Rep K ph H v (f d)) : ∀ (ds : List D) (vs : List V), RepAll K ph S vs ds → RepAll K ph H vs (ds.map f)
  | [], _, .nil => .nil
  | d :: ds, _, .cons q t => .cons (h d _ q) (RepAll.mapE h ds _ t)
theorem Rep.resE (hs : Sat K ph S r M σ H) : ∀ (n : Nat) (d : D) (v : V), Rep K ph S v d → Rep K ph H v (resE M n d)
  | 0, d, v, q => hs.read q
  | n + 1, .own k, v, q => by
    unfold DL.resE
    split
    · rename_i ds hk
      have hk' : M[k]? = some (.lst ds) := by
        unfold cellL at hk
        split at hk
        · rename_i e; cases hk; exact e
        · cases hk
      cases q with
      | own h =>
        obtain ⟨a, xs, c1, c2, c3, c4⟩ := hs.cell k ds hk'
        rw [h] at c1; cases c1
        exact .lst c3 (RepAll.mapE (fun d v q => Rep.resE hs n d v q) _ _ c4)
    · exact hs.read q
  | n + 1, .tup l, _, .tup h1 h2 => by
    unfold DL.resE
    exact .tup (h1.ext hs.sub) (RepAll.mapE (fun d v q => Rep.resE hs n d v q) _ _ h2)
  | n + 1, .lst l, _, .lst h1 h2 => by
    unfold DL.resE
    exact .lst (hs.sub _ _ h1) (RepAll.mapE (fun d v q => Rep.resE hs n d v q) _ _ h2)
  | _ + 1, .non, _, q => hs.read q
  | _ + 1, .bl _, _, q => hs.read q
  | _ + 1, .int _, _, q => hs.read q
  | _ + 1, .str _, _, q => hs.read q
  | _ + 1, .dct0, _, q => hs.read q
  | _ + 1, .scr _, _, q => hs.read q
  | _ + 1, .exc _ _, _, q => hs.read q
  | _ + 1, .glb _, _, q => hs.read q
  | _ + 1, .val _, _, q => hs.read q
end
section
variable {X : Cx} {K : PySem.W.Frag} {ph : Ph} {S : Hp} {r : Env} {M : Mem} {σ : St} {H : Hp}
theorem resE_str {d : D} {z : Str} (h : DL.resE M 4 d = .str z) : d = .str z := by
  cases d <;> unfold DL.resE at h <;> first | exact h | (split at h <;> cases h) | cases h
end
def gEqE : G2 := fun x y M Q => match eqB (resE M 4 x) (resE M 4 y) with
  | some b => Q (.bl b) M
  | none => False
def gNeE : G2 := fun x y M Q => match eqB (resE M 4 x) (resE M 4 y) with
  | some b => Q (.bl (!b)) M
  | none => False
theorem opd_eqE (hu : X.A.units + 64 < cLine) : OpD X (compareOp .Eq) gEqE := by
  intro pins s σ H ph S r M x y dx dy v u Q I hs rx ry qx qy hg
  unfold gEqE at hg
  split at hg
  · rename_i b e
    rcases eqB_of e with ⟨p, q, e1, e2, rfl⟩ | ⟨p, q, e1, e2, rfl⟩
    · cases resE_str e1; cases resE_str e2
      cases qx; cases qy
      obtain ⟨_, rfl⟩ := rx
      obtain ⟨_, rfl⟩ := ry
      exact PyProof.Rows.eq_str ⟨.bl _, H, I, rfl, Aft.here hs ⟨_, .bl _, hg⟩⟩
    · obtain ⟨as, h1, _⟩ := Rep.reads I _ _ _ _ (Rep.resE hs 4 _ _ qx) rx (cmpd_some e1).1
      obtain ⟨bs, h2, _⟩ := Rep.reads I _ _ _ _ (Rep.resE hs 4 _ _ qy) ry (cmpd_some e2).1
      exact SeqAt.compareEq_shaped h1 h2 (cmpd_some e1).2 (cmpd_some e2).2 hu ⟨.bl _, H, I, rfl, Aft.here hs ⟨_, .bl _, hg⟩⟩
  · exact hg.elim
theorem opd_neE (hu : X.A.units + 64 < cLine) : OpD X (compareOp .NotEq) gNeE := by
  intro pins s σ H ph S r M x y dx dy v u Q I hs rx ry qx qy hg
  unfold gNeE at hg
  split at hg
  · rename_i b e
    rcases eqB_of e with ⟨p, q, e1, e2, rfl⟩ | ⟨p, q, e1, e2, rfl⟩
    · cases resE_str e1; cases resE_str e2
      cases qx; cases qy
      obtain ⟨_, rfl⟩ := rx
      obtain ⟨_, rfl⟩ := ry
      exact PyProof.Rows.ne_str ⟨.bl _, H, I, rfl, Aft.here hs ⟨_, .bl _, hg⟩⟩
    · obtain ⟨as, h1, _⟩ := Rep.reads I _ _ _ _ (Rep.resE hs 4 _ _ qx) rx (cmpd_some e1).1
      obtain ⟨bs, h2, _⟩ := Rep.reads I _ _ _ _ (Rep.resE hs 4 _ _ qy) ry (cmpd_some e2).1
      exact SeqAt.compareNe_shaped h1 h2 (cmpd_some e1).2 (cmpd_some e2).2 hu ⟨.bl _, H, I, rfl, Aft.here hs ⟨_, .bl _, hg⟩⟩
  · exact hg.elim
def gReprE : GA := fun ds M Q => match ds with
  | [d] => match shwnZ (resE M 4 d) with
    | some z => Q (.str z) M
    | none => False
  | _ => False
section
variable {X : Cx}
theorem cd_reprE (gd : X.A.guards = some []) (hu : X.A.units + 200 < cLine) : CallD X (.builtin "repr") gReprE := by
  intro pins s σ H ph S r M vs us ds Q I hs rv q hg
  match ds, vs, us, rv, q, hg with
  | [d], [v], [u], .cons ru .nil, .cons q .nil, hg =>
    unfold gReprE at hg
    dsimp only at hg
    split at hg
    · rename_i z ez
      unfold shwnZ at ez
      split at ez
      · rename_i p ep
        by_cases hp : p.showable = true ∧ p.depth ≤ 64 ∧ p.shown.length ≤ sizeLine ∧ (p.hasDict = false ∨ okZ (resE M 4 d) = true)
        · rw [if_pos hp] at ez
          cases ez
          have qd := Rep.resE hs 4 _ _ q
          have plain : ∀ as, Reads s.heap u p as → (p.hasDict = true → sysModules ∉ as) → wpAny (model X.prog X.w) X.A (call (.builtin "repr") [u]) (fun x s' => ∃ v H', Inv X pins σ H' s' ∧ RelV v x ∧ Aft X.K ph S r σ H' fun ph' S' M' => ∃ d', Rep X.K ph' S' v d' ∧ Q d' M') X.xe s := fun as h1 hn => by
            by_cases hr : ∃ a, u = .ref a
            · obtain ⟨a, rfl⟩ := hr
              refine PySem.repr_of_reads' h1 hp.1 hn gd ?_ (fun _ _ e => e) (fun h' u tk k => ⟨.str p.shown, H, I.kept k, ⟨_, rfl⟩, Aft.here hs ⟨_, .str _, hg⟩⟩) hp.2.2.1
              have := hp.2.1; omega
            · exact shown_flat h1 (fun a e => hr ⟨a, e⟩) hp.1 hp.2.2.1 fun tk tk' => ⟨.str p.shown, H, I.tok _, ⟨_, rfl⟩, Aft.here hs ⟨_, .str _, hg⟩⟩
          rcases hp.2.2.2 with h0 | h0
          · obtain ⟨as, h1, _⟩ := Rep.reads I _ _ _ _ qd ru ep
            exact plain as h1 fun z => by rw [h0] at z; cases z
          · by_cases hl : nolst (resE M 4 d) = true
            · obtain ⟨as, h1, h2⟩ := Rep.readsZ I _ _ _ _ qd ru ep hl
              exact plain as h1 fun _ => h2
            · generalize resE M 4 d = dd at *
              cases dd with
              | lst l =>
                cases qd with
                | lst g1 g2 =>
                  cases ru
                  simp only [toPy] at ep
                  split at ep
                  · rename_i ps eps
                    cases ep
                    obtain ⟨its, rx, ⟨o, n, ho, hc, _, hd⟩, _⟩ := I.list (SqL.of g1)
                    obtain ⟨as, q2, qa⟩ := RepAll.readsZ I l _ its ps g2 rx eps h0
                    refine repr_listZ ho hc hd q2 (by simpa only [PyData.showable] using hp.1) qa gd ?_ hp.2.2.1 fun h' u tk k => ⟨.str _, H, I.kept k, ⟨_, rfl⟩, Aft.here hs ⟨_, .str _, hg⟩⟩
                    have := hp.2.1
                    simp only [PyData.depth] at this
                    omega
                  · cases ep
              | _ => exact absurd h0 hl
        · rw [if_neg hp] at ez; cases ez
      · cases ez
    · exact hg.elim
end
end DL
namespace DL
open PySem PySem.Spec PyProof.Rows L2
def t_l_allows_0877 : DTS :=
 (dSeq (dAsg (dVar 0) (dGTup 4 (dGCons (dName 2) (dGCons (dName 3) (dGCons (dName 4) (dGCons (dName 5) dGNil))))))
 (dRet (dAndV (dOp (gCmpI fun i j => decide (j < i)) (dVar 1) (dC (.int 0))) (dOp (gCmpI fun i j => decide (j < i)) (dOp (rBin (fun _ _ => True) fun i j => i - j) (dOp (rBin (fun _ _ => True) fun i j => i - j) (dVar 3) (dOp (rBin CMul fun i j => i * j) (dVar 1) (dVar 5))) (dOp (rBin CMul fun i j => i * j) (dOp (rBin CMul fun i j => i * j) (dVar 1) (dVar 1)) (dVar 4))) (dC (.int 0))))))
def t_l_deed_593a (c_l_common_b8b4 : DSp) (c_l_random_7821 : DSp) (c_l_allows_0877 : DSp) : DTS :=
 (dSeq (dAsg (dVar 1) (dGTup 4 (dGCons (dName 2) (dGCons (dName 3) (dGCons (dName 4) (dGCons (dName 5) dGNil))))))
 (dSeq (dPar 6 7 (dCons (dC (.int 1)) (dCons (dOp (rBin CDiv fun i j => i.fdiv j) (dVar 4) (dCall 2 c_l_common_b8b4 [] DX0 (dCons (dVar 3) (dCons (dVar 4) dNil)))) dNil)))
 (dSeq (dFor (dRngI gRng1 (dCons (dC (.int 40)) dNil)) (dName 8) (dSeq (dAsg (dOp gAdd (dC (.int 1)) (dCall 2 c_l_random_7821 [] DX0 (dCons (dVar 0) (dCons (dOp gIx (dLst (dCons (dC (.int 3)) (dCons (dC (.int 50)) (dCons (dOp (rBin CPow fun i j => i ^ j.toNat) (dC (.int 10)) (dC (.int 9))) dNil)))) (dCall 2 c_l_random_7821 [] DX0 (dCons (dVar 0) (dCons (dC (.int 3)) dNil)))) dNil)))) (dName 9))
 (dIfS (dAnd (dTru (dCall 2 c_l_allows_0877 [] DX0 (dCons (dVar 1) (dCons (dOp gAdd (dVar 6) (dVar 9)) dNil)))) (dTru (dOp (gCmpI fun i j => decide (j < i)) (dCall 2 c_l_random_7821 [] DX0 (dCons (dVar 0) (dCons (dC (.int 3)) dNil))) (dC (.int 0))))) (dAsg (dOp gAdd (dVar 6) (dVar 9)) (dName 6)) dNext)))
 (dSeq (dFor (dRngI gRng1 (dCons (dC (.int 40)) dNil)) (dName 8) (dSeq (dAsg (dCall 2 c_l_random_7821 [] DX0 (dCons (dVar 0) (dCons (dOp (rBin CMul fun i j => i * j) (dVar 6) (dVar 7)) dNil))) (dName 10))
 (dIfS (dTru (dOp gEq (dCall 2 c_l_common_b8b4 [] DX0 (dCons (dVar 10) (dCons (dVar 6) dNil))) (dC (.int 1)))) (dRet (dTup (dCons (dVar 10) (dCons (dVar 6) dNil)))) dNext)))
 (dRet (dIf (dTru (dOp (gCmpI fun i j => decide (j < i)) (dOp (rBin CMul fun i j => i * j) (dVar 6) (dVar 7)) (dC (.int 1)))) (dTup (dCons (dC (.int 1)) (dCons (dVar 6) dNil))) (dTup (dCons (dC (.int 0)) (dCons (dC (.int 1)) dNil)))))))))
def t_l_opposite_30e8 : DTS :=
 (dSeq (dAsg (dTup (dCons (dOp (rBin CMod fun i j => i.fmod j) (dCB gInt (dCons (dVar 0) dNil)) (dVar 1)) (dCons (dVar 1) (dCons (dC (.int 1)) (dCons (dC (.int 0)) dNil))))) (dGTup 4 (dGCons (dName 2) (dGCons (dName 3) (dGCons (dName 4) (dGCons (dName 5) dGNil))))))
 (dSeq (dWhile (dTru (dOp (gCmpI fun i j => decide (j < i)) (dVar 3) (dC (.int 0)))) (dSeq (dAsg (dOp (rBin CDiv fun i j => i.fdiv j) (dVar 2) (dVar 3)) (dName 6))
 (dAsg (dTup (dCons (dVar 3) (dCons (dOp (rBin (fun _ _ => True) fun i j => i - j) (dVar 2) (dOp (rBin CMul fun i j => i * j) (dVar 6) (dVar 3))) (dCons (dVar 5) (dCons (dOp (rBin (fun _ _ => True) fun i j => i - j) (dVar 4) (dOp (rBin CMul fun i j => i * j) (dVar 6) (dVar 5))) dNil))))) (dGTup 4 (dGCons (dName 2) (dGCons (dName 3) (dGCons (dName 4) (dGCons (dName 5) dGNil))))))))
 (dRet (dOp (rBin CMod fun i j => i.fmod j) (dCB gInt (dCons (dVar 4) dNil)) (dVar 1)))))
def t_l_beside_26c0 (c_l_opposite_30e8 : DSp) : DTS :=
 (dSeq (dAsg (dVar 0) (dGTup 2 (dGCons (dName 1) (dGCons (dName 2) dGNil))))
 (dSeq (dIfS (dTru (dOp gEq (dVar 1) (dC (.int 0)))) (dRet (dTup (dCons (dOp (rBin (fun _ _ => True) fun i j => i - j) (dC (.int 0)) (dC (.int 1))) (dCons (dC (.int 0)) dNil)))) dNext)
 (dSeq (dAsg (dOp (rBin CMod fun i j => i.fmod j) (dCB gInt (dCons (dOp (rBin (fun _ _ => True) fun i j => i - j) (dC (.int 0)) (dCall 2 c_l_opposite_30e8 [] DX0 (dCons (dVar 2) (dCons (dVar 1) dNil)))) dNil)) (dVar 1)) (dName 3))
 (dRet (dTup (dCons (dVar 3) (dCons (dOp (rBin CDiv fun i j => i.fdiv j) (dOp gAdd (dC (.int 1)) (dOp (rBin CMul fun i j => i * j) (dVar 2) (dVar 3))) (dVar 1)) dNil)))))))
def t_l_bezout_3658 : DTS :=
 (dSeq (dAsg (dTup (dCons (dVar 0) (dCons (dVar 1) (dCons (dTup (dCons (dC (.int 1)) (dCons (dC (.int 0)) dNil))) (dCons (dTup (dCons (dC (.int 0)) (dCons (dC (.int 1)) dNil))) dNil))))) (dGTup 4 (dGCons (dName 2) (dGCons (dName 3) (dGCons (dName 4) (dGCons (dName 5) dGNil))))))
 (dSeq (dWhile (dTru (dOp gNe (dVar 3) (dC (.int 0)))) (dSeq (dAsg (dOp (rBin CDiv fun i j => i.fdiv j) (dVar 2) (dVar 3)) (dName 6))
 (dAsg (dTup (dCons (dVar 3) (dCons (dOp (rBin (fun _ _ => True) fun i j => i - j) (dVar 2) (dOp (rBin CMul fun i j => i * j) (dVar 6) (dVar 3))) (dCons (dVar 5) (dCons (dTup (dCons (dOp (rBin (fun _ _ => True) fun i j => i - j) (dOp gIx (dVar 4) (dC (.int 0))) (dOp (rBin CMul fun i j => i * j) (dVar 6) (dOp gIx (dVar 5) (dC (.int 0))))) (dCons (dOp (rBin (fun _ _ => True) fun i j => i - j) (dOp gIx (dVar 4) (dC (.int 1))) (dOp (rBin CMul fun i j => i * j) (dVar 6) (dOp gIx (dVar 5) (dC (.int 1))))) dNil))) dNil))))) (dGTup 4 (dGCons (dName 2) (dGCons (dName 3) (dGCons (dName 4) (dGCons (dName 5) dGNil))))))))
 (dRet (dIf (dTru (dOp (gCmpI fun i j => decide (j < i)) (dVar 2) (dC (.int 0)))) (dTup (dCons (dVar 4) (dCons (dVar 2) dNil))) (dTup (dCons (dTup (dCons (dOp (rBin (fun _ _ => True) fun i j => i - j) (dC (.int 0)) (dOp gIx (dVar 4) (dC (.int 0)))) (dCons (dOp (rBin (fun _ _ => True) fun i j => i - j) (dC (.int 0)) (dOp gIx (dVar 4) (dC (.int 1)))) dNil))) (dCons (dOp (rBin (fun _ _ => True) fun i j => i - j) (dC (.int 0)) (dVar 2)) dNil)))))))
def t_l_done_855c (c_l_beside_26c0 : DSp) (c_l_bezout_3658 : DSp) (c_l_common_b8b4 : DSp) : DTS :=
 (dSeq (dAsg (dVar 0) (dGTup 4 (dGCons (dName 2) (dGCons (dName 3) (dGCons (dName 4) (dGCons (dName 5) dGNil))))))
 (dSeq (dAsg (dTup (dCons (dVar 1) (dCons (dCall 1 c_l_beside_26c0 [] DX0 (dCons (dVar 1) dNil)) dNil))) (dGTup 2 (dGCons (dGTup 2 (dGCons (dName 6) (dGCons (dName 7) dGNil))) (dGCons (dGTup 2 (dGCons (dName 8) (dGCons (dName 9) dGNil))) dGNil))))
 (dSeq (dAsg (dTup (dCons (dOp gAdd (dOp (rBin CMul fun i j => i * j) (dVar 6) (dVar 3)) (dOp (rBin CMul fun i j => i * j) (dVar 7) (dVar 2))) (dCons (dOp (rBin CMul fun i j => i * j) (dVar 7) (dVar 4)) (dCons (dOp gAdd (dOp gAdd (dOp gAdd (dOp (rBin CMul fun i j => i * j) (dVar 8) (dVar 3)) (dOp (rBin CMul fun i j => i * j) (dVar 9) (dVar 2))) (dVar 5)) (dOp (rBin CMul fun i j => i * j) (dVar 7) (dVar 4))) (dCons (dOp (rBin CMul fun i j => i * j) (dVar 9) (dVar 4)) dNil))))) (dGTup 4 (dGCons (dName 10) (dGCons (dName 11) (dGCons (dName 12) (dGCons (dName 13) dGNil))))))
 (dSeq (dAsg (dCall 2 c_l_bezout_3658 [] DX0 (dCons (dVar 10) (dCons (dVar 11) dNil))) (dGTup 2 (dGCons (dGTup 2 (dGCons (dName 14) (dGCons (dName 15) dGNil))) (dGCons (dName 16) dGNil))))
 (dSeq (dAsg (dOp (rBin CDiv fun i j => i.fdiv j) (dOp (rBin (fun _ _ => True) fun i j => i - j) (dOp (rBin CMul fun i j => i * j) (dVar 10) (dVar 13)) (dOp (rBin CMul fun i j => i * j) (dVar 11) (dVar 12))) (dVar 16)) (dName 17))
 (dRet (dTup (dCons (dOp (rBin CMod fun i j => i.fmod j) (dCB gInt (dCons (dOp (rBin (fun _ _ => True) fun i j => i - j) (dC (.int 0)) (dOp gAdd (dOp (rBin CMul fun i j => i * j) (dVar 14) (dVar 12)) (dOp (rBin CMul fun i j => i * j) (dVar 15) (dVar 13)))) dNil)) (dCall 2 c_l_common_b8b4 [] DX0 (dCons (dVar 17) (dCons (dVar 16) dNil)))) (dCons (dVar 17) (dCons (dVar 16) (dCons (dOp (rBin (fun _ _ => True) fun i j => i - j) (dOp (rBin (fun _ _ => True) fun i j => i - j) (dC (.int 0)) (dVar 5)) (dOp (rBin CMul fun i j => i * j) (dOp (rBin CMul fun i j => i * j) (dC (.int 2)) (dVar 7)) (dVar 4))) dNil)))))))))))
def t_l_is_table_0704 : DTS :=
 (dSeq (dIfS (dOr (dNot (dTru (dCB gIsi (dCons (dVar 0) (dCons (dC (.val (.ty "list"))) dNil))))) (dTru (dOp gNe (dCB gLen (dCons (dVar 0) dNil)) (dC (.int 4))))) (dRet (dC (.bl false))) dNext)
 (dSeq (dFor (dSeqI (dVar 0)) (dName 1) (dIfS (dOr (dNot (dTru (dCB gIsi (dCons (dVar 1) (dCons (dC (.val (.ty "list"))) dNil))))) (dOr (dTru (dOp gNe (dCB gLen (dCons (dVar 1) dNil)) (dC (.int 4)))) (dTru (dOp gNe (dLc false (dSeqI (dVar 1)) (dName 2) (dOr (dTru (dCB gIsi (dCons (dVar 2) (dCons (dC (.val (.ty "bool"))) dNil)))) (dNot (dTru (dCB gIsi (dCons (dVar 2) (dCons (dC (.val (.ty "int"))) dNil)))))) (dVar 2) [2]) (dLst dNil))))) (dRet (dC (.bl false))) dNext))
 (dRet (dC (.bl true)))))
def t_l_columns_d906 : DTS :=
 (dRet (dLc false (dRngI gRng1 (dCons (dC (.int 4)) dNil)) (dName 1) dYes (dLc false (dSeqI (dVar 0)) (dName 2) dYes (dOp gIx (dVar 2) (dVar 1)) [2]) [1]))
def t_l_base_3ec4 : DTS :=
 (dRet (dLc false (dRngI gRng1 (dCons (dC (.int 4)) dNil)) (dName 1) dYes (dCB gInt (dCons (dOp gEq (dVar 0) (dVar 1)) dNil)) [1]))
def t_l_keeps_2d4c (c_l_columns_d906 : DSp) (c_l_crossing_3f18 : DSp) (c_l_base_3ec4 : DSp) : DTS :=
 (dSeq (dAsg (dCall 1 c_l_columns_d906 [] DX0 (dCons (dVar 0) dNil)) (dName 1))
 (dSeq (dFor (dRngI gRng1 (dCons (dC (.int 4)) dNil)) (dName 2) (dFor (dRngI gRng1 (dCons (dC (.int 4)) dNil)) (dName 3) (dIfS (dTru (dOp gNe (dCall 2 c_l_crossing_3f18 [] DX0 (dCons (dOp gIx (dVar 1) (dVar 2)) (dCons (dOp gIx (dVar 1) (dVar 3)) dNil))) (dCall 2 c_l_crossing_3f18 [] DX0 (dCons (dCall 1 c_l_base_3ec4 [] DX0 (dCons (dVar 2) dNil)) (dCons (dCall 1 c_l_base_3ec4 [] DX0 (dCons (dVar 3) dNil)) dNil))))) (dRet (dC (.bl false))) dNext)))
 (dRet (dC (.bl true)))))
def t_l_led_3b4c : DTS :=
 (dRet (dLc false (dSeqI (dVar 0)) (dName 2) dYes (dCB gSum (dCons (dLc false (dRngI gZip (dCons (dVar 2) (dCons (dVar 1) dNil))) (dGTup 2 (dGCons (dName 3) (dGCons (dName 4) dGNil))) dYes (dOp (rBin CMul fun i j => i * j) (dVar 3) (dVar 4)) [3, 4]) dNil)) [2]))
def t_l_rooted_a87a : DTS :=
 (dSeq (dAsg (dVar 0) (dGTup 4 (dGCons (dName 2) (dGCons (dName 3) (dGCons (dName 4) (dGCons (dName 5) dGNil))))))
 (dRet (dLst (dCons (dOp gAdd (dOp gAdd (dOp (rBin CMul fun i j => i * j) (dVar 5) (dOp gIx (dVar 1) (dC (.int 0)))) (dOp (rBin CMul fun i j => i * j) (dVar 3) (dOp gIx (dVar 1) (dC (.int 2))))) (dOp (rBin CMul fun i j => i * j) (dVar 2) (dOp gIx (dVar 1) (dC (.int 3))))) (dCons (dOp gAdd (dOp (rBin CMul fun i j => i * j) (dVar 5) (dOp gIx (dVar 1) (dC (.int 1)))) (dOp (rBin CMul fun i j => i * j) (dVar 4) (dOp gIx (dVar 1) (dC (.int 3))))) (dCons (dOp (rBin (fun _ _ => True) fun i j => i - j) (dOp (rBin CMul fun i j => i * j) (dVar 4) (dOp gIx (dVar 1) (dC (.int 0)))) (dOp (rBin CMul fun i j => i * j) (dVar 2) (dOp gIx (dVar 1) (dC (.int 1))))) (dCons (dOp (rBin CMul fun i j => i * j) (dVar 3) (dOp gIx (dVar 1) (dC (.int 1)))) dNil)))))))
def t_l_is_deed_table_6abb (c_l_is_table_0704 : DSp) (c_l_keeps_2d4c : DSp) (c_l_done_855c : DSp) (c_l_columns_d906 : DSp) (c_l_common_b8b4 : DSp) (c_l_led_3b4c : DSp) (c_l_rooted_a87a : DSp) (c_l_base_3ec4 : DSp) : DTS :=
 (dSeq (dIfS (dOr (dNot (dTru (dCall 1 c_l_is_table_0704 [] DX0 (dCons (dVar 2) dNil)))) (dNot (dTru (dCall 1 c_l_keeps_2d4c [] DX0 (dCons (dVar 2) dNil))))) (dRet (dC (.bl false))) dNext)
 (dSeq (dAsg (dTup (dCons (dVar 1) (dCons (dCall 2 c_l_done_855c [] DX0 (dCons (dVar 0) (dCons (dVar 1) dNil))) (dCons (dCall 1 c_l_columns_d906 [] DX0 (dCons (dVar 2) dNil)) dNil)))) (dGTup 3 (dGCons (dGTup 2 (dGCons (dName 3) (dGCons (dName 4) dGNil))) (dGCons (dName 5) (dGCons (dName 6) dGNil)))))
 (dSeq (dAsg (dOp (rBin CMul fun i j => i * j) (dVar 4) (dOp (rBin CDiv fun i j => i.fdiv j) (dOp gIx (dVar 5) (dC (.int 1))) (dCall 2 c_l_common_b8b4 [] DX0 (dCons (dOp gIx (dVar 5) (dC (.int 1))) (dCons (dOp gIx (dVar 5) (dC (.int 2))) dNil))))) (dName 7))
 (dSeq (dIfS (dOr (dTru (dOp gNe (dOp gIx (dVar 6) (dC (.int 0))) (dLst (dCons (dC (.int 0)) (dCons (dC (.int 0)) (dCons (dVar 3) (dCons (dVar 4) dNil))))))) (dOr (dTru (dOp gNe (dSl (gSl false) (dOp gIx (dVar 6) (dC (.int 1))) dNoPart (dPart (dC (.int 2)))) (dLst (dCons (dC (.int 1)) (dCons (dC (.int 0)) dNil))))) (dOr (dTru (dOp gNe (dOp (rBin (fun _ _ => True) fun i j => i - j) (dOp (rBin CMul fun i j => i * j) (dVar 3) (dOp gIx (dOp gIx (dVar 6) (dC (.int 1))) (dC (.int 3)))) (dOp (rBin CMul fun i j => i * j) (dVar 4) (dOp gIx (dOp gIx (dVar 6) (dC (.int 1))) (dC (.int 2))))) (dC (.int 1)))) (dNot (dTru (dChain (gCmpI fun i j => decide (i ≤ j)) (gCmpI fun i j => decide (i < j)) (dC (.int 0)) (dOp gIx (dOp gIx (dVar 6) (dC (.int 1))) (dC (.int 3))) (dVar 7))))))) (dRet (dC (.bl false))) dNext)
 (dSeq (dFor (dSeqI (dSl (gSl false) (dVar 6) (dPart (dC (.int 2))) dNoPart)) (dName 8) (dIfS (dTru (dOp gNe (dSl (gSl false) (dVar 8) (dPart (dC (.int 2))) dNoPart) (dLst (dCons (dOp (rBin CMul fun i j => i * j) (dOp gIx (dVar 8) (dC (.int 1))) (dVar 3)) (dCons (dOp (rBin CMul fun i j => i * j) (dOp gIx (dVar 8) (dC (.int 1))) (dVar 4)) dNil))))) (dRet (dC (.bl false))) dNext))
 (dSeq (dAsg (dOp gAdd (dOp gIx (dVar 0) (dC (.int 3))) (dOp (rBin CMul fun i j => i * j) (dVar 4) (dOp gIx (dVar 0) (dC (.int 2))))) (dName 9))
 (dSeq (dFor (dRngI gRng1 (dCons (dC (.int 4)) dNil)) (dName 10) (dSeq (dAsg (dCall 2 c_l_led_3b4c [] DX0 (dCons (dVar 2) (dCons (dCall 2 c_l_rooted_a87a [] DX0 (dCons (dVar 5) (dCons (dCall 1 c_l_base_3ec4 [] DX0 (dCons (dVar 10) dNil)) dNil))) dNil))) (dName 11))
 (dIfS (dTru (dOp gNe (dCall 2 c_l_rooted_a87a [] DX0 (dCons (dVar 0) (dCons (dOp gIx (dVar 6) (dVar 10)) dNil))) (dLc false (dRngI gZip (dCons (dVar 11) (dCons (dOp gIx (dVar 6) (dVar 10)) dNil))) (dGTup 2 (dGCons (dName 12) (dGCons (dName 13) dGNil))) dYes (dOp gAdd (dVar 12) (dOp (rBin CMul fun i j => i * j) (dVar 9) (dVar 13))) [12, 13]))) (dRet (dC (.bl false))) dNext)))
 (dRet (dC (.bl true))))))))))
def t_check_table (c_is_path_list : DSp) : DTS :=
 (dIfS (dOr (dNot (dTru (dCB gIsi (dCons (dVar 0) (dCons (dC (.val (.ty "list"))) dNil))))) (dOr (dTru (dOp gNe (dCB gLen (dCons (dVar 0) dNil)) (dC (.int 4)))) (dTru (dOp gNe (dLc false (dSeqI (dVar 0)) (dName 1) (dNot (dTru (dCall 1 c_is_path_list [] DX0 (dCons (dVar 1) dNil)))) (dVar 1) [1]) (dLst dNil))))) dNever dNext)
def t_path_led : DTS :=
 (dRet (dLc false (dSeqI (dVar 0)) (dName 2) dYes (dCB gSum (dCons (dLc false (dRngI gZipS (dCons (dVar 2) (dCons (dVar 1) dNil))) (dGTup 2 (dGCons (dName 3) (dGCons (dName 4) dGNil))) dYes (dOp (rBin CMul fun i j => i * j) (dVar 3) (dVar 4)) [3, 4]) dNil)) [2]))
end DL
namespace DL
open PySem PySem.Spec PyProof.Rows L2
def t_self_table_o : DTS :=
 (dRet (dLc true (dSeqI (dC (.tup [(.tup [.int 1, .int 0, .int 0, .int 0]), (.tup [.int 0, .int 1, .int 0, .int 0]), (.tup [.int 0, .int 0, .int 1, .int 0]), (.tup [.int 0, .int 0, .int 0, .int 1])]))) (dName 0) dYes (dCB (gList true) (dCons (dVar 0) dNil)) [0]))
def t_shear_by_o (c_self_table_o : DSp) : DTS :=
 (dSeq (dAsg (dCB gGcd (dCons (dOp gIx (dVar 0) (dC (.int 1))) (dCons (dOp gIx (dVar 0) (dC (.int 2))) dNil))) (dName 2))
 (dSeq (dAsg (dCall 0 c_self_table_o [] DX0 dNil) (dName 3))
 (dSeq (dAsg (dOp (rBin CMul fun i j => i * j) (dVar 1) (dOp (rBin CDiv fun i j => i.fdiv j) (dOp gIx (dVar 0) (dC (.int 1))) (dVar 2))) (dSub (dOp gIx (dVar 3) (dC (.int 0))) (dC (.int 1))))
 (dSeq (dAsg (dOp (rBin CMul fun i j => i * j) (dVar 1) (dOp (rBin CDiv fun i j => i.fdiv j) (dOp gIx (dVar 0) (dC (.int 2))) (dVar 2))) (dSub (dOp gIx (dVar 3) (dC (.int 2))) (dC (.int 3))))
 (dRet (dVar 3))))))
def t_shear_table_o (c_check_cutting : DSp) (c_is_whole : DSp) (c_shear_by_o : DSp) : DTS :=
 (dSeq (dDrop (dCall 1 c_check_cutting [] DX0 (dCons (dVar 0) dNil)))
 (dSeq (dIfS (dNot (dTru (dCall 1 c_is_whole [] DX0 (dCons (dVar 1) dNil)))) dNever dNext)
 (dRet (dCall 2 c_shear_by_o [] DX0 (dCons (dVar 0) (dCons (dVar 1) dNil))))))
def t_l_base_3ec4_o : DTS :=
 (dRet (dLc true (dRngI gRng1 (dCons (dC (.int 4)) dNil)) (dName 1) dYes (dCB gInt (dCons (dOp gEq (dVar 0) (dVar 1)) dNil)) [1]))
def t_l_self_a3eb_o (c_l_base_3ec4_o : DSp) : DTS :=
 (dRet (dLc true (dRngI gRng1 (dCons (dC (.int 4)) dNil)) (dName 0) dYes (dCall 1 c_l_base_3ec4_o [] DX0 (dCons (dVar 0) dNil)) [0]))
def t_l_shear_1435 (c_l_common_b8b4 : DSp) (c_l_self_a3eb_o : DSp) : DTS :=
 (dSeq (dPar 2 3 (dCons (dCall 2 c_l_common_b8b4 [] DX0 (dCons (dOp gIx (dVar 0) (dC (.int 1))) (dCons (dOp gIx (dVar 0) (dC (.int 2))) dNil))) (dCons (dCall 0 c_l_self_a3eb_o [] DX0 dNil) dNil)))
 (dSeq (dAsg (dTup (dCons (dOp (rBin CMul fun i j => i * j) (dVar 1) (dOp (rBin CDiv fun i j => i.fdiv j) (dOp gIx (dVar 0) (dC (.int 1))) (dVar 2))) (dCons (dOp (rBin CMul fun i j => i * j) (dVar 1) (dOp (rBin CDiv fun i j => i.fdiv j) (dOp gIx (dVar 0) (dC (.int 2))) (dVar 2))) dNil))) (dGTup 2 (dGCons (dSub (dOp gIx (dVar 3) (dC (.int 0))) (dC (.int 1))) (dGCons (dSub (dOp gIx (dVar 3) (dC (.int 2))) (dC (.int 3))) dGNil))))
 (dRet (dVar 3))))
def t_table_times (c_turned_about : DSp) (c_path_led : DSp) : DTS :=
 (dRet (dCall 1 c_turned_about [] DX0 (dCons (dLc false (dSeqI (dCall 1 c_turned_about [] DX0 (dCons (dVar 1) dNil))) (dName 2) dYes (dCall 2 c_path_led [] DX0 (dCons (dVar 0) (dCons (dVar 2) dNil))) [2]) dNil)))
def t_table_product (c_check_table : DSp) (c_table_times : DSp) : DTS :=
 (dSeq (dDrop (dCall 1 c_check_table [] DX0 (dCons (dVar 0) dNil)))
 (dSeq (dDrop (dCall 1 c_check_table [] DX0 (dCons (dVar 1) dNil)))
 (dRet (dCall 2 c_table_times [] DX0 (dCons (dVar 0) (dCons (dVar 1) dNil))))))
def t_l_self_a3eb (c_l_base_3ec4 : DSp) : DTS :=
 (dRet (dLc false (dRngI gRng1 (dCons (dC (.int 4)) dNil)) (dName 0) dYes (dCall 1 c_l_base_3ec4 [] DX0 (dCons (dVar 0) dNil)) [0]))
def t_deed_table (c_check_cutting : DSp) (c_check_deed : DSp) (c_deed_table_by : DSp) : DTS :=
 (dSeq (dDrop (dCall 1 c_check_cutting [] DX0 (dCons (dVar 0) dNil)))
 (dSeq (dDrop (dCall 2 c_check_deed [] DX0 (dCons (dVar 0) (dCons (dVar 1) dNil))))
 (dRet (dCall 2 c_deed_table_by [] DX0 (dCons (dVar 0) (dCons (dVar 1) dNil))))))
def t_back_of_o : DTS :=
 (dSeq (dAsg (dOwn dNil) (dName 1))
 (dSeq (dFor (dRngI gRng1 (dCons (dC (.int 4)) dNil)) (dName 2) (dSeq (dAsg (dIf (dTru (dOp gEq (dOp (rBin CMod fun i j => i.fmod j) (dVar 2) (dC (.int 2))) (dC (.int 0)))) (dOp gAdd (dVar 2) (dC (.int 1))) (dOp (rBin (fun _ _ => True) fun i j => i - j) (dVar 2) (dC (.int 1)))) (dName 3))
 (dSeq (dAsg (dIf (dTru (dOp gEq (dOp (rBin CMod fun i j => i.fmod j) (dVar 2) (dC (.int 2))) (dC (.int 0)))) (dC (.int 1)) (dNeg (dC (.int 1)))) (dName 4))
 (dSeq (dAsg (dOwn dNil) (dName 5))
 (dSeq (dFor (dRngI gRng1 (dCons (dC (.int 4)) dNil)) (dName 6) (dSeq (dAsg (dIf (dTru (dOp gEq (dOp (rBin CMod fun i j => i.fmod j) (dVar 6) (dC (.int 2))) (dC (.int 0)))) (dOp gAdd (dVar 6) (dC (.int 1))) (dOp (rBin (fun _ _ => True) fun i j => i - j) (dVar 6) (dC (.int 1)))) (dName 7))
 (dDrop (dMet gAppend (dVar 5) (dCons (dOp (rBin CMul fun i j => i * j) (dOp (rBin CMul fun i j => i * j) (dVar 4) (dIf (dTru (dOp gEq (dOp (rBin CMod fun i j => i.fmod j) (dVar 6) (dC (.int 2))) (dC (.int 0)))) (dC (.int 1)) (dNeg (dC (.int 1))))) (dOp gIx (dOp gIx (dVar 0) (dVar 7)) (dVar 3))) dNil)))))
 (dDrop (dMet gAppend (dVar 1) (dCons (dVar 5) dNil))))))))
 (dRet (dVar 1))))
def t_back_shear_by (c_back_of_o : DSp) (c_deed_table_by : DSp) (c_done_by : DSp) : DTS :=
 (dSeq (dPar 2 3 (dCons (dCall 1 c_back_of_o [] DX0 (dCons (dCall 2 c_deed_table_by [] DX0 (dCons (dVar 0) (dCons (dVar 1) dNil))) dNil)) (dCons (dCall 2 c_done_by [] DX0 (dCons (dVar 0) (dCons (dVar 1) dNil))) dNil)))
 (dSeq (dPar 4 5 (dCons (dOp gIx (dOp gIx (dVar 2) (dC (.int 2))) (dC (.int 0))) (dCons (dOp gIx (dOp gIx (dVar 2) (dC (.int 3))) (dC (.int 0))) dNil)))
 (dSeq (dIfS (dTru (dOp (gCmpI fun i j => decide (i < j)) (dVar 5) (dC (.int 0)))) (dPar 4 5 (dCons (dNeg (dVar 4)) (dCons (dNeg (dVar 5)) dNil))) dNext)
 (dRet (dOp (rBin CDiv fun i j => i.fdiv j) (dVar 4) (dOp (rBin CMul fun i j => i * j) (dVar 5) (dOp (rBin CDiv fun i j => i.fdiv j) (dOp gIx (dVar 3) (dC (.int 2))) (dCB gGcd (dCons (dOp gIx (dVar 3) (dC (.int 1))) (dCons (dOp gIx (dVar 3) (dC (.int 2))) dNil))))))))))
def t_back_shear (c_check_cutting : DSp) (c_check_deed : DSp) (c_back_shear_by : DSp) : DTS :=
 (dSeq (dDrop (dCall 1 c_check_cutting [] DX0 (dCons (dVar 0) dNil)))
 (dSeq (dDrop (dCall 2 c_check_deed [] DX0 (dCons (dVar 0) (dCons (dVar 1) dNil))))
 (dRet (dCall 2 c_back_shear_by [] DX0 (dCons (dVar 0) (dCons (dVar 1) dNil))))))
def t_l_product_063e (c_l_columns_d906 : DSp) (c_l_led_3b4c : DSp) : DTS :=
 (dRet (dCall 1 c_l_columns_d906 [] DX0 (dCons (dLc false (dSeqI (dCall 1 c_l_columns_d906 [] DX0 (dCons (dVar 1) dNil))) (dName 2) dYes (dCall 2 c_l_led_3b4c [] DX0 (dCons (dVar 0) (dCons (dVar 2) dNil))) [2]) dNil)))
def t_l_right_1f94 (c_l_cutting_f2c0 : DSp) (c_l_random_7821 : DSp) (c_l_deed_593a : DSp) (c_shear_table_o : DSp) (c_l_shear_1435 : DSp) (c_l_keeps_2d4c : DSp) (c_l_rooted_a87a : DSp) (c_l_led_3b4c : DSp) (c_l_base_3ec4 : DSp) (c_table_product : DSp) (c_l_done_855c : DSp) (c_back : DSp) (c_l_self_a3eb : DSp) (c_deed_table : DSp) (c_back_shear : DSp) (c_l_is_deed_table_6abb : DSp) (c_l_product_063e : DSp) : DTS :=
 (dSeq (dAsg (dCall 2 c_l_cutting_f2c0 [] DX0 (dCons (dVar 0) (dCons (dOp gIx (dLst (dCons (dC (.int 30)) (dCons (dOp (rBin CPow fun i j => i ^ j.toNat) (dC (.int 10)) (dC (.int 9))) dNil))) (dCall 2 c_l_random_7821 [] DX0 (dCons (dVar 0) (dCons (dC (.int 2)) dNil)))) dNil))) (dName 1))
 (dSeq (dPar 2 3 (dCons (dCall 2 c_l_deed_593a [] DX0 (dCons (dVar 0) (dCons (dVar 1) dNil))) (dCons (dOp (rBin (fun _ _ => True) fun i j => i - j) (dCall 2 c_l_random_7821 [] DX0 (dCons (dVar 0) (dCons (dOp (rBin CMul fun i j => i * j) (dC (.int 2)) (dOp (rBin CPow fun i j => i ^ j.toNat) (dC (.int 10)) (dC (.int 12)))) dNil))) (dOp (rBin CPow fun i j => i ^ j.toNat) (dC (.int 10)) (dC (.int 12)))) dNil)))
 (dSeq (dAsg (dCall 2 c_shear_table_o [] DX0 (dCons (dVar 1) (dCons (dVar 3) dNil))) (dName 4))
 (dSeq (dIfS (dOr (dTru (dOp gNeE (dCB gReprE (dCons (dVar 4) dNil)) (dCB gReprE (dCons (dCall 2 c_l_shear_1435 [] DX0 (dCons (dVar 1) (dCons (dVar 3) dNil))) dNil)))) (dOr (dTru (dOp gNeE (dCallK 2 2 c_shear_table_o [1, 0] DX0 (dCons (dVar 3) (dCons (dVar 1) dNil))) (dVar 4))) (dNot (dTru (dCall 1 c_l_keeps_2d4c [] DX0 (dCons (dVar 4) dNil)))))) (dRet (dC (.bl false))) dNext)
 (dSeq (dFor (dRngI gRng1 (dCons (dC (.int 4)) dNil)) (dName 5) (dIfS (dTru (dOp gNeE (dCall 2 c_l_rooted_a87a [] DX0 (dCons (dVar 1) (dCons (dCall 2 c_l_led_3b4c [] DX0 (dCons (dVar 4) (dCons (dCall 1 c_l_base_3ec4 [] DX0 (dCons (dVar 5) dNil)) dNil))) dNil))) (dCall 2 c_l_led_3b4c [] DX0 (dCons (dVar 4) (dCons (dCall 2 c_l_rooted_a87a [] DX0 (dCons (dVar 1) (dCons (dCall 1 c_l_base_3ec4 [] DX0 (dCons (dVar 5) dNil)) dNil))) dNil))))) (dRet (dC (.bl false))) dNext))
 (dSeq (dIfS (dTru (dOp gNeE (dCall 2 c_table_product [] DX0 (dCons (dVar 4) (dCons (dCall 2 c_shear_table_o [] DX0 (dCons (dVar 1) (dCons (dOp (rBin (fun _ _ => True) fun i j => i - j) (dC (.int 3)) (dVar 3)) dNil))) dNil))) (dCall 2 c_l_shear_1435 [] DX0 (dCons (dVar 1) (dCons (dC (.int 3)) dNil))))) (dRet (dC (.bl false))) dNext)
 (dSeq (dDrop (dMet gAppend (dOp gIx (dVar 4) (dC (.int 0))) (dCons (dC .non) dNil)))
 (dSeq (dPar 6 7 (dCons (dCall 2 c_l_done_855c [] DX0 (dCons (dVar 1) (dCons (dVar 2) dNil))) (dCons (dCall 2 c_back [] DX0 (dCons (dVar 1) (dCons (dVar 2) dNil))) dNil)))
 (dSeq (dIfS (dOr (dTru (dOp gNeE (dCall 2 c_shear_table_o [] DX0 (dCons (dVar 1) (dCons (dC (.int 0)) dNil))) (dCall 0 c_l_self_a3eb [] DX0 dNil))) (dTru (dOp gNeE (dCall 2 c_l_done_855c [] DX0 (dCons (dVar 6) (dCons (dVar 7) dNil))) (dVar 1)))) (dRet (dC (.bl false))) dNext)
 (dSeq (dPar3 8 9 10 (dCons (dCall 2 c_deed_table [] DX0 (dCons (dVar 1) (dCons (dVar 2) dNil))) (dCons (dCall 2 c_deed_table [] DX0 (dCons (dVar 6) (dCons (dVar 7) dNil))) (dCons (dCall 2 c_back_shear [] DX0 (dCons (dVar 1) (dCons (dVar 2) dNil))) dNil))))
 (dSeq (dIfS (dOr (dNot (dTru (dCall 3 c_l_is_deed_table_6abb [] DX0 (dCons (dVar 1) (dCons (dVar 2) (dCons (dVar 8) dNil)))))) (dNot (dTru (dCall 3 c_l_is_deed_table_6abb [] DX0 (dCons (dVar 6) (dCons (dVar 7) (dCons (dVar 9) dNil))))))) (dRet (dC (.bl false))) dNext)
 (dSeq (dIfS (dOr (dTru (dCB gIsi (dCons (dVar 10) (dCons (dC (.val (.ty "bool"))) dNil)))) (dOr (dNot (dTru (dCB gIsi (dCons (dVar 10) (dCons (dC (.val (.ty "int"))) dNil))))) (dOr (dNot (dTru (dChain (gCmpI fun i j => decide (i ≤ j)) (gCmpI fun i j => decide (i ≤ j)) (dNeg (dC (.int 2))) (dVar 10) (dC (.int 0))))) (dTru (dOp gNeE (dCallK 2 2 c_back_shear [1, 0] DX0 (dCons (dVar 2) (dCons (dVar 1) dNil))) (dVar 10)))))) (dRet (dC (.bl false))) dNext)
 (dSeq (dFor (dSeqI (dLst (dCons (dOp (rBin (fun _ _ => True) fun i j => i - j) (dVar 10) (dC (.int 1))) (dCons (dVar 10) (dCons (dOp gAdd (dVar 10) (dC (.int 1))) dNil))))) (dName 11) (dSeq (dAsg (dCall 2 c_l_led_3b4c [] DX0 (dCons (dVar 8) (dCons (dCall 2 c_l_led_3b4c [] DX0 (dCons (dCall 2 c_l_shear_1435 [] DX0 (dCons (dVar 6) (dCons (dVar 11) dNil))) (dCons (dCall 2 c_l_led_3b4c [] DX0 (dCons (dVar 9) (dCons (dCall 1 c_l_base_3ec4 [] DX0 (dCons (dC (.int 0)) dNil)) dNil))) dNil))) dNil))) (dName 12))
 (dIfS (dTru (dOp gNeE (dOp gEqE (dVar 12) (dLst (dCons (dNeg (dC (.int 1))) (dCons (dC (.int 0)) (dCons (dC (.int 0)) (dCons (dC (.int 0)) dNil)))))) (dOp gEqE (dVar 11) (dVar 10)))) (dRet (dC (.bl false))) dNext)))
 (dSeq (dAsg (dCall 2 c_l_product_063e [] DX0 (dCons (dCall 2 c_l_product_063e [] DX0 (dCons (dVar 8) (dCons (dCall 2 c_l_shear_1435 [] DX0 (dCons (dVar 6) (dCons (dVar 10) dNil))) dNil))) (dCons (dCall 2 c_l_product_063e [] DX0 (dCons (dVar 9) (dCons (dCall 2 c_l_shear_1435 [] DX0 (dCons (dVar 1) (dCons (dCall 2 c_back_shear [] DX0 (dCons (dVar 6) (dCons (dVar 7) dNil))) dNil))) dNil))) dNil))) (dName 13))
 (dRet (dOp gEqE (dVar 13) (dLc false (dSeqI (dCall 0 c_l_self_a3eb [] DX0 dNil)) (dName 14) dYes (dLc false (dSeqI (dVar 14)) (dName 15) dYes (dOp (rBin (fun _ _ => True) fun i j => i - j) (dC (.int 0)) (dVar 15)) [15]) [14])))))))))))))))))
def t_l_law_e1ea (c_l_right_1f94 : DSp) (c_l_generator_b324 : DSp) (c_back_shear : DSp) (c_shear_table_o : DSp) : DTS :=
 (dSeq (dFor (dRngI gRng1 (dCons (dC (.int 3)) dNil)) (dName 1) (dIfS (dNot (dTru (dCall 1 c_l_right_1f94 [] DX0 (dCons (dCall 2 c_l_generator_b324 [] DX0 (dCons (dVar 0) (dCons (dVar 1) dNil))) dNil)))) (dRet (dC (.bl false))) dNext))
 (dSeq (dAsg (dTup (dCons (dC (.int 0)) (dCons (dC (.int 2)) (dCons (dC (.int 1)) (dCons (dNeg (dC (.int 3))) dNil))))) (dName 2))
 (dSeq (dIfS (dTru (dOp gNeE (dCall 2 c_back_shear [] DX0 (dCons (dTup (dCons (dC (.int 1)) (dCons (dC (.int 2)) (dCons (dC (.int 2)) (dCons (dNeg (dC (.int 8))) dNil))))) (dCons (dTup (dCons (dC (.int 3)) (dCons (dC (.int 4)) dNil))) dNil))) (dNeg (dC (.int 2))))) (dRet (dC (.bl false))) dNext)
 (dSeq (dIfS (dTru (dOp gNeE (dLc false (dSeqI (dLst (dCons (dTup (dCons (dC (.int 0)) (dCons (dC (.int 1)) dNil))) (dCons (dTup (dCons (dC (.int 1)) (dCons (dC (.int 2)) dNil))) (dCons (dTup (dCons (dC (.int 1)) (dCons (dC (.int 3)) dNil))) (dCons (dTup (dCons (dC (.int 2)) (dCons (dC (.int 3)) dNil))) dNil)))))) (dName 3) dYes (dCall 2 c_back_shear [] DX0 (dCons (dVar 2) (dCons (dVar 3) dNil))) [3]) (dLst (dCons (dC (.int 0)) (dCons (dNeg (dC (.int 1))) (dCons (dNeg (dC (.int 1))) (dCons (dNeg (dC (.int 1))) dNil))))))) (dRet (dC (.bl false))) dNext)
 (dRet (dOp gEqE (dCall 2 c_shear_table_o [] DX0 (dCons (dTup (dCons (dC (.int 1)) (dCons (dC (.int 2)) (dCons (dC (.int 2)) (dCons (dNeg (dC (.int 1))) dNil))))) (dCons (dC (.int 3)) dNil))) (dLst (dCons (dLst (dCons (dC (.int 1)) (dCons (dC (.int 3)) (dCons (dC (.int 0)) (dCons (dC (.int 0)) dNil))))) (dCons (dLst (dCons (dC (.int 0)) (dCons (dC (.int 1)) (dCons (dC (.int 0)) (dCons (dC (.int 0)) dNil))))) (dCons (dLst (dCons (dC (.int 0)) (dCons (dC (.int 0)) (dCons (dC (.int 1)) (dCons (dC (.int 3)) dNil))))) (dCons (dLst (dCons (dC (.int 0)) (dCons (dC (.int 0)) (dCons (dC (.int 0)) (dCons (dC (.int 1)) dNil))))) dNil)))))))))))
end DL
namespace C_k46
open PySem PySem.Spec PyProof.Rows L2 DL
def topS (i : Nat) : Stmt := PySem.Challenge.pw_slitsheets_k46_whole_shears_between_deed.main.body.getD i (.Pass ⟨0, 0, 0, 0⟩)
abbrev s_l_hash_d8d1 : Stmt := topS 45
theorem sc_l_hash_d8d1 : FnScope ["_law_seed", "_law_index", "_law_mixed"] ["_law_seed", "_law_index"] (defScope s_l_hash_d8d1) := ⟨rfl, rfl, rfl, by decide +kernel, rfl, by decide +kernel, by decide +kernel⟩
abbrev s_l_random_7821 : Stmt := topS 46
theorem sc_l_random_7821 : FnScope ["_law_generator_here", "_law_bound", "_law_drawn", "_law_turn"] ["_law_generator_here", "_law_bound"] (defScope s_l_random_7821) := ⟨rfl, rfl, rfl, by decide +kernel, rfl, by decide +kernel, by decide +kernel⟩
abbrev s_l_common_b8b4 : Stmt := topS 49
theorem sc_l_common_b8b4 : FnScope ["_law_one", "_law_other", "_law_low", "_law_high"] ["_law_one", "_law_other"] (defScope s_l_common_b8b4) := ⟨rfl, rfl, rfl, by decide +kernel, rfl, by decide +kernel, by decide +kernel⟩
abbrev s_l_is_cutting_19aa : Stmt := topS 50
theorem sc_l_is_cutting_19aa : FnScope ["_law_a", "_law_b", "_law_c", "_law_e"] ["_law_a", "_law_b", "_law_c", "_law_e"] (defScope s_l_is_cutting_19aa) := ⟨rfl, rfl, rfl, by decide +kernel, rfl, by decide +kernel, by decide +kernel⟩
abbrev s_l_cutting_f2c0 : Stmt := topS 51
theorem sc_l_cutting_f2c0 : FnScope ["_law_generator_here", "_law_most", "_law_turn", "_law_b", "_law_c", "_law_part", "_law_e", "_law_a"] ["_law_generator_here", "_law_most"] (defScope s_l_cutting_f2c0) := ⟨rfl, rfl, rfl, by decide +kernel, rfl, by decide +kernel, by decide +kernel⟩
abbrev s_l_allows_0877 : Stmt := topS 52
theorem sc_l_allows_0877 : FnScope ["_law_cutting_here", "_law_far", "_law_a", "_law_b", "_law_c", "_law_e"] ["_law_cutting_here", "_law_far"] (defScope s_l_allows_0877) := ⟨rfl, rfl, rfl, by decide +kernel, rfl, by decide +kernel, by decide +kernel⟩
abbrev s_l_deed_593a : Stmt := topS 53
theorem sc_l_deed_593a : FnScope ["_law_generator_here", "_law_cutting_here", "_law_a", "_law_b", "_law_c", "_law_e", "_law_far", "_law_lap", "_law_turn", "_law_more", "_law_low"] ["_law_generator_here", "_law_cutting_here"] (defScope s_l_deed_593a) := ⟨rfl, rfl, rfl, by decide +kernel, rfl, by decide +kernel, by decide +kernel⟩
abbrev s_is_whole : Stmt := topS 8
theorem sc_is_whole : FnScope ["value"] ["value"] (defScope s_is_whole) := ⟨rfl, rfl, rfl, by decide +kernel, rfl, by decide +kernel, by decide +kernel⟩
abbrev s_common_by : Stmt := topS 9
theorem sc_common_by : FnScope ["one", "other", "low", "high"] ["one", "other"] (defScope s_common_by) := ⟨rfl, rfl, rfl, by decide +kernel, rfl, by decide +kernel, by decide +kernel⟩
abbrev s_is_cutting_by : Stmt := topS 11
theorem sc_is_cutting_by : FnScope ["value", "item", "low", "high", "side", "turn", "both"] ["value"] (defScope s_is_cutting_by) := ⟨rfl, rfl, rfl, by decide +kernel, rfl, by decide +kernel, by decide +kernel⟩
abbrev s_check_cutting : Stmt := topS 12
theorem sc_check_cutting : FnScope ["cutting"] ["cutting"] (defScope s_check_cutting) := ⟨rfl, rfl, rfl, by decide +kernel, rfl, by decide +kernel, by decide +kernel⟩
abbrev s_self_table_o : Stmt := topS 31
theorem sc_self_table_o : FnScope ["row"] [] (defScope s_self_table_o) := ⟨rfl, rfl, rfl, by decide +kernel, rfl, by decide +kernel, by decide +kernel⟩
abbrev s_shear_by_o : Stmt := topS 38
theorem sc_shear_by_o : FnScope ["cutting", "times", "shared", "found"] ["cutting", "times"] (defScope s_shear_by_o) := ⟨rfl, rfl, rfl, by decide +kernel, rfl, by decide +kernel, by decide +kernel⟩
abbrev s_shear_table_o : Stmt := topS 42
theorem sc_shear_table_o : FnScope ["cutting", "times"] ["cutting", "times"] (defScope s_shear_table_o) := ⟨rfl, rfl, rfl, by decide +kernel, rfl, by decide +kernel, by decide +kernel⟩
abbrev s_l_base_3ec4_o : Stmt := topS 63
theorem sc_l_base_3ec4_o : FnScope ["_law_at", "_law_number"] ["_law_at"] (defScope s_l_base_3ec4_o) := ⟨rfl, rfl, rfl, by decide +kernel, rfl, by decide +kernel, by decide +kernel⟩
abbrev s_l_self_a3eb_o : Stmt := topS 64
theorem sc_l_self_a3eb_o : FnScope ["_law_at"] [] (defScope s_l_self_a3eb_o) := ⟨rfl, rfl, rfl, by decide +kernel, rfl, by decide +kernel, by decide +kernel⟩
abbrev s_l_shear_1435 : Stmt := topS 68
theorem sc_l_shear_1435 : FnScope ["_law_cutting_here", "_law_times", "_law_part", "_law_found"] ["_law_cutting_here", "_law_times"] (defScope s_l_shear_1435) := ⟨rfl, rfl, rfl, by decide +kernel, rfl, by decide +kernel, by decide +kernel⟩
abbrev s_l_columns_d906 : Stmt := topS 61
theorem sc_l_columns_d906 : FnScope ["_law_table", "_law_at", "_law_row"] ["_law_table"] (defScope s_l_columns_d906) := ⟨rfl, rfl, rfl, by decide +kernel, rfl, by decide +kernel, by decide +kernel⟩
abbrev s_l_crossing_3f18 : Stmt := topS 58
theorem sc_l_crossing_3f18 : FnScope ["_law_one", "_law_other"] ["_law_one", "_law_other"] (defScope s_l_crossing_3f18) := ⟨rfl, rfl, rfl, by decide +kernel, rfl, by decide +kernel, by decide +kernel⟩
abbrev s_l_base_3ec4 : Stmt := topS 63
theorem sc_l_base_3ec4 : FnScope ["_law_at", "_law_number"] ["_law_at"] (defScope s_l_base_3ec4) := ⟨rfl, rfl, rfl, by decide +kernel, rfl, by decide +kernel, by decide +kernel⟩
abbrev s_l_keeps_2d4c : Stmt := topS 65
theorem sc_l_keeps_2d4c : FnScope ["_law_table", "_law_led_here", "_law_at", "_law_number"] ["_law_table"] (defScope s_l_keeps_2d4c) := ⟨rfl, rfl, rfl, by decide +kernel, rfl, by decide +kernel, by decide +kernel⟩
abbrev s_l_rooted_a87a : Stmt := topS 59
theorem sc_l_rooted_a87a : FnScope ["_law_cutting_here", "_law_path", "_law_a", "_law_b", "_law_c", "_law_e"] ["_law_cutting_here", "_law_path"] (defScope s_l_rooted_a87a) := ⟨rfl, rfl, rfl, by decide +kernel, rfl, by decide +kernel, by decide +kernel⟩
abbrev s_l_led_3b4c : Stmt := topS 60
theorem sc_l_led_3b4c : FnScope ["_law_table", "_law_path", "_law_row", "_law_item", "_law_often"] ["_law_table", "_law_path"] (defScope s_l_led_3b4c) := ⟨rfl, rfl, rfl, by decide +kernel, rfl, by decide +kernel, by decide +kernel⟩
abbrev s_is_path_list : Stmt := topS 27
theorem sc_is_path_list : FnScope ["value", "item"] ["value"] (defScope s_is_path_list) := ⟨rfl, rfl, rfl, by decide +kernel, rfl, by decide +kernel, by decide +kernel⟩
abbrev s_check_table : Stmt := topS 30
theorem sc_check_table : FnScope ["table", "row"] ["table"] (defScope s_check_table) := ⟨rfl, rfl, rfl, by decide +kernel, rfl, by decide +kernel, by decide +kernel⟩
abbrev s_turned_about : Stmt := topS 33
theorem sc_turned_about : FnScope ["table", "at", "row"] ["table"] (defScope s_turned_about) := ⟨rfl, rfl, rfl, by decide +kernel, rfl, by decide +kernel, by decide +kernel⟩
abbrev s_path_led : Stmt := topS 32
theorem sc_path_led : FnScope ["table", "path", "row", "item", "often"] ["table", "path"] (defScope s_path_led) := ⟨rfl, rfl, rfl, by decide +kernel, rfl, by decide +kernel, by decide +kernel⟩
abbrev s_table_times : Stmt := topS 34
theorem sc_table_times : FnScope ["one", "other", "path"] ["one", "other"] (defScope s_table_times) := ⟨rfl, rfl, rfl, by decide +kernel, rfl, by decide +kernel, by decide +kernel⟩
abbrev s_table_product : Stmt := topS 40
theorem sc_table_product : FnScope ["one", "other"] ["one", "other"] (defScope s_table_product) := ⟨rfl, rfl, rfl, by decide +kernel, rfl, by decide +kernel, by decide +kernel⟩
abbrev s_l_opposite_30e8 : Stmt := topS 54
theorem sc_l_opposite_30e8 : FnScope ["_law_number", "_law_modulus", "_law_low", "_law_high", "_law_one", "_law_other", "_law_times"] ["_law_number", "_law_modulus"] (defScope s_l_opposite_30e8) := ⟨rfl, rfl, rfl, by decide +kernel, rfl, by decide +kernel, by decide +kernel⟩
abbrev s_l_beside_26c0 : Stmt := topS 55
theorem sc_l_beside_26c0 : FnScope ["_law_deed_here", "_law_p", "_law_q", "_law_x"] ["_law_deed_here"] (defScope s_l_beside_26c0) := ⟨rfl, rfl, rfl, by decide +kernel, rfl, by decide +kernel, by decide +kernel⟩
abbrev s_l_bezout_3658 : Stmt := topS 56
theorem sc_l_bezout_3658 : FnScope ["_law_one", "_law_other", "_law_low", "_law_high", "_law_left", "_law_right_here", "_law_times"] ["_law_one", "_law_other"] (defScope s_l_bezout_3658) := ⟨rfl, rfl, rfl, by decide +kernel, rfl, by decide +kernel, by decide +kernel⟩
abbrev s_l_done_855c : Stmt := topS 57
theorem sc_l_done_855c : FnScope ["_law_cutting_here", "_law_deed_here", "_law_a", "_law_b", "_law_c", "_law_e", "_law_p", "_law_q", "_law_x", "_law_z", "_law_i", "_law_j", "_law_k", "_law_l", "_law_s", "_law_t", "_law_side", "_law_wide"] ["_law_cutting_here", "_law_deed_here"] (defScope s_l_done_855c) := ⟨rfl, rfl, rfl, by decide +kernel, rfl, by decide +kernel, by decide +kernel⟩
abbrev s_allowed_by : Stmt := topS 14
theorem sc_allowed_by : FnScope ["cutting", "far", "_", "wide", "high", "shift"] ["cutting", "far"] (defScope s_allowed_by) := ⟨rfl, rfl, rfl, by decide +kernel, rfl, by decide +kernel, by decide +kernel⟩
abbrev s_round_of : Stmt := topS 15
theorem sc_round_of : FnScope ["cutting"] ["cutting"] (defScope s_round_of) := ⟨rfl, rfl, rfl, by decide +kernel, rfl, by decide +kernel, by decide +kernel⟩
abbrev s_is_deed_by : Stmt := topS 16
theorem sc_is_deed_by : FnScope ["cutting", "value", "part", "near", "far"] ["cutting", "value"] (defScope s_is_deed_by) := ⟨rfl, rfl, rfl, by decide +kernel, rfl, by decide +kernel, by decide +kernel⟩
abbrev s_check_deed : Stmt := topS 24
theorem sc_check_deed : FnScope ["cutting", "deed"] ["cutting", "deed"] (defScope s_check_deed) := ⟨rfl, rfl, rfl, by decide +kernel, rfl, by decide +kernel, by decide +kernel⟩
abbrev s_shared : Stmt := topS 17
theorem sc_shared : FnScope ["one", "other", "low", "high", "first", "second", "third", "fourth", "turn"] ["one", "other"] (defScope s_shared) := ⟨rfl, rfl, rfl, by decide +kernel, rfl, by decide +kernel, by decide +kernel⟩
abbrev s_opposite_by : Stmt := topS 18
theorem sc_opposite_by : FnScope ["number", "modulus"] ["number", "modulus"] (defScope s_opposite_by) := ⟨rfl, rfl, rfl, by decide +kernel, rfl, by decide +kernel, by decide +kernel⟩
abbrev s_beside : Stmt := topS 19
theorem sc_beside : FnScope ["deed", "near", "far", "high"] ["deed"] (defScope s_beside) := ⟨rfl, rfl, rfl, by decide +kernel, rfl, by decide +kernel, by decide +kernel⟩
abbrev s_table_by : Stmt := topS 20
theorem sc_table_by : FnScope ["cutting", "deed", "slant", "wide", "high", "shift", "near", "far", "left", "right", "low"] ["cutting", "deed"] (defScope s_table_by) := ⟨rfl, rfl, rfl, by decide +kernel, rfl, by decide +kernel, by decide +kernel⟩
abbrev s_full_by : Stmt := topS 21
theorem sc_full_by : FnScope ["cutting", "deed", "one", "two", "three", "four", "left", "right", "high", "first", "second", "wide", "common", "found", "slant", "lot", "turn", "new"] ["cutting", "deed"] (defScope s_full_by) := ⟨rfl, rfl, rfl, by decide +kernel, rfl, by decide +kernel, by decide +kernel⟩
abbrev s_back_by : Stmt := topS 23
theorem sc_back_by : FnScope ["cutting", "deed", "new", "columns", "_", "far"] ["cutting", "deed"] (defScope s_back_by) := ⟨rfl, rfl, rfl, by decide +kernel, rfl, by decide +kernel, by decide +kernel⟩
abbrev s_back : Stmt := topS 25
theorem sc_back : FnScope ["cutting", "deed"] ["cutting", "deed"] (defScope s_back) := ⟨rfl, rfl, rfl, by decide +kernel, rfl, by decide +kernel, by decide +kernel⟩
abbrev s_l_self_a3eb : Stmt := topS 64
theorem sc_l_self_a3eb : FnScope ["_law_at"] [] (defScope s_l_self_a3eb) := ⟨rfl, rfl, rfl, by decide +kernel, rfl, by decide +kernel, by decide +kernel⟩
abbrev s_led_down : Stmt := topS 36
theorem sc_led_down : FnScope ["first", "second", "low", "high", "one", "other", "times", "less", "came", "sign"] ["first", "second"] (defScope s_led_down) := ⟨rfl, rfl, rfl, by decide +kernel, rfl, by decide +kernel, by decide +kernel⟩
abbrev s_done_by : Stmt := topS 22
theorem sc_done_by : FnScope ["cutting", "deed"] ["cutting", "deed"] (defScope s_done_by) := ⟨rfl, rfl, rfl, by decide +kernel, rfl, by decide +kernel, by decide +kernel⟩
abbrev s_deed_table_by : Stmt := topS 37
theorem sc_deed_table_by : FnScope ["cutting", "deed", "a", "b", "c", "e", "p", "q", "x", "z", "low", "high", "one", "other", "after", "whole", "shared", "step", "times", "more", "led", "left", "right"] ["cutting", "deed"] (defScope s_deed_table_by) := ⟨rfl, rfl, rfl, by decide +kernel, rfl, by decide +kernel, by decide +kernel⟩
abbrev s_deed_table : Stmt := topS 41
theorem sc_deed_table : FnScope ["cutting", "deed"] ["cutting", "deed"] (defScope s_deed_table) := ⟨rfl, rfl, rfl, by decide +kernel, rfl, by decide +kernel, by decide +kernel⟩
abbrev s_back_of_o : Stmt := topS 35
theorem sc_back_of_o : FnScope ["table", "found", "at", "partner", "sign", "row", "number", "other"] ["table"] (defScope s_back_of_o) := ⟨rfl, rfl, rfl, by decide +kernel, rfl, by decide +kernel, by decide +kernel⟩
abbrev s_back_shear_by : Stmt := topS 39
theorem sc_back_shear_by : FnScope ["cutting", "deed", "back", "after", "along", "up"] ["cutting", "deed"] (defScope s_back_shear_by) := ⟨rfl, rfl, rfl, by decide +kernel, rfl, by decide +kernel, by decide +kernel⟩
abbrev s_back_shear : Stmt := topS 43
theorem sc_back_shear : FnScope ["cutting", "deed"] ["cutting", "deed"] (defScope s_back_shear) := ⟨rfl, rfl, rfl, by decide +kernel, rfl, by decide +kernel, by decide +kernel⟩
abbrev s_l_is_table_0704 : Stmt := topS 66
theorem sc_l_is_table_0704 : FnScope ["_law_value", "_law_row", "_law_item"] ["_law_value"] (defScope s_l_is_table_0704) := ⟨rfl, rfl, rfl, by decide +kernel, rfl, by decide +kernel, by decide +kernel⟩
abbrev s_l_is_deed_table_6abb : Stmt := topS 67
theorem sc_l_is_deed_table_6abb : FnScope ["_law_cutting_here", "_law_deed_here", "_law_table", "_law_p", "_law_q", "_law_after", "_law_led_here", "_law_step", "_law_path", "_law_shift", "_law_at", "_law_due", "_law_item", "_law_other"] ["_law_cutting_here", "_law_deed_here", "_law_table"] (defScope s_l_is_deed_table_6abb) := ⟨rfl, rfl, rfl, by decide +kernel, rfl, by decide +kernel, by decide +kernel⟩
abbrev s_l_product_063e : Stmt := topS 62
theorem sc_l_product_063e : FnScope ["_law_one", "_law_other", "_law_path"] ["_law_one", "_law_other"] (defScope s_l_product_063e) := ⟨rfl, rfl, rfl, by decide +kernel, rfl, by decide +kernel, by decide +kernel⟩
abbrev s_l_right_1f94 : Stmt := topS 69
theorem sc_l_right_1f94 : FnScope ["_law_generator_here", "_law_cutting_here", "_law_deed_here", "_law_times", "_law_shear_here", "_law_at", "_law_after", "_law_mate", "_law_low", "_law_high", "_law_number", "_law_near", "_law_first", "_law_whole", "_law_row", "_law_item"] ["_law_generator_here"] (defScope s_l_right_1f94) := ⟨rfl, rfl, rfl, by decide +kernel, rfl, by decide +kernel, by decide +kernel⟩
abbrev s_l_cell_cf3b : Stmt := topS 47
theorem sc_l_cell_cf3b : FnScope ["_law_script", "_law_index"] ["_law_script", "_law_index"] (defScope s_l_cell_cf3b) := ⟨rfl, rfl, rfl, by decide +kernel, rfl, by decide +kernel, by decide +kernel⟩
abbrev s_l_generator_b324 : Stmt := topS 48
theorem sc_l_generator_b324 : FnScope ["_law_script", "_law_index", "_law_seed"] ["_law_script", "_law_index"] (defScope s_l_generator_b324) := ⟨rfl, rfl, rfl, by decide +kernel, rfl, by decide +kernel, by decide +kernel⟩
abbrev s_l_law_e1ea : Stmt := topS 70
theorem sc_l_law_e1ea : FnScope ["_law_script", "_law_index", "_law_low", "_law_deed_here"] ["_law_script"] (defScope s_l_law_e1ea) := ⟨rfl, rfl, rfl, by decide +kernel, rfl, by decide +kernel, by decide +kernel⟩
/-- what the top has left -/
structure Txt (K : PySem.W.Frag) (mg : Str → Option Value) (base : Heap) : Prop where
  n_abs : mg "abs" = none
  n_bool : mg "bool" = none
  n_int : mg "int" = none
  n_isinstance : mg "isinstance" = none
  n_len : mg "len" = none
  n_list : mg "list" = none
  n_max : mg "max" = none
  n_range : mg "range" = none
  n_repr : mg "repr" = none
  n_sum : mg "sum" = none
  n_tuple : mg "tuple" = none
  n_zip : mg "zip" = none
  g_gcd : mg "gcd" = some (.builtin "math.gcd")
  c_SELF : ∃ u, mg "SELF" = some u ∧ KRep K u (.tup [(.tup [.int 1, .int 0, .int 0, .int 0]), (.tup [.int 0, .int 1, .int 0, .int 0]), (.tup [.int 0, .int 0, .int 1, .int 0]), (.tup [.int 0, .int 0, .int 0, .int 1])])
  h_l_hash_d8d1 : Here K mg "_law_hash" s_l_hash_d8d1 ["_law_seed", "_law_index"]
  h_l_random_7821 : Here K mg "_law_random" s_l_random_7821 ["_law_generator_here", "_law_bound"]
  h_l_common_b8b4 : Here K mg "_law_common" s_l_common_b8b4 ["_law_one", "_law_other"]
  h_l_is_cutting_19aa : Here K mg "_law_is_cutting" s_l_is_cutting_19aa ["_law_a", "_law_b", "_law_c", "_law_e"]
  h_l_cutting_f2c0 : Here K mg "_law_cutting" s_l_cutting_f2c0 ["_law_generator_here", "_law_most"]
  h_l_allows_0877 : Here K mg "_law_allows" s_l_allows_0877 ["_law_cutting_here", "_law_far"]
  h_l_deed_593a : Here K mg "_law_deed" s_l_deed_593a ["_law_generator_here", "_law_cutting_here"]
  h_is_whole : Here K mg "is_whole" s_is_whole ["value"]
  h_common_by : Here K mg "common_by" s_common_by ["one", "other"]
  h_is_cutting_by : Here K mg "is_cutting_by" s_is_cutting_by ["value"]
  h_check_cutting : Here K mg "check_cutting" s_check_cutting ["cutting"]
  h_self_table_o : Here K mg "self_table" s_self_table_o []
  h_shear_by_o : Here K mg "shear_by" s_shear_by_o ["cutting", "times"]
  h_shear_table_o : Here K mg "shear_table" s_shear_table_o ["cutting", "times"]
  h_l_base_3ec4_o : Here K mg "_law_base" s_l_base_3ec4_o ["_law_at"]
  h_l_self_a3eb_o : Here K mg "_law_self" s_l_self_a3eb_o []
  h_l_shear_1435 : Here K mg "_law_shear" s_l_shear_1435 ["_law_cutting_here", "_law_times"]
  h_l_columns_d906 : Here K mg "_law_columns" s_l_columns_d906 ["_law_table"]
  h_l_crossing_3f18 : Here K mg "_law_crossing" s_l_crossing_3f18 ["_law_one", "_law_other"]
  h_l_base_3ec4 : Here K mg "_law_base" s_l_base_3ec4 ["_law_at"]
  h_l_keeps_2d4c : Here K mg "_law_keeps" s_l_keeps_2d4c ["_law_table"]
  h_l_rooted_a87a : Here K mg "_law_rooted" s_l_rooted_a87a ["_law_cutting_here", "_law_path"]
  h_l_led_3b4c : Here K mg "_law_led" s_l_led_3b4c ["_law_table", "_law_path"]
  h_is_path_list : Here K mg "is_path_list" s_is_path_list ["value"]
  h_check_table : Here K mg "check_table" s_check_table ["table"]
  h_turned_about : Here K mg "turned_about" s_turned_about ["table"]
  h_path_led : Here K mg "path_led" s_path_led ["table", "path"]
  h_table_times : Here K mg "table_times" s_table_times ["one", "other"]
  h_table_product : Here K mg "table_product" s_table_product ["one", "other"]
  h_l_opposite_30e8 : Here K mg "_law_opposite" s_l_opposite_30e8 ["_law_number", "_law_modulus"]
  h_l_beside_26c0 : Here K mg "_law_beside" s_l_beside_26c0 ["_law_deed_here"]
  h_l_bezout_3658 : Here K mg "_law_bezout" s_l_bezout_3658 ["_law_one", "_law_other"]
  h_l_done_855c : Here K mg "_law_done" s_l_done_855c ["_law_cutting_here", "_law_deed_here"]
  h_allowed_by : Here K mg "allowed_by" s_allowed_by ["cutting", "far"]
  h_round_of : Here K mg "round_of" s_round_of ["cutting"]
  h_is_deed_by : Here K mg "is_deed_by" s_is_deed_by ["cutting", "value"]
  h_check_deed : Here K mg "check_deed" s_check_deed ["cutting", "deed"]
  h_shared : Here K mg "shared" s_shared ["one", "other"]
  h_opposite_by : Here K mg "opposite_by" s_opposite_by ["number", "modulus"]
  h_beside : Here K mg "beside" s_beside ["deed"]
  h_table_by : Here K mg "table_by" s_table_by ["cutting", "deed"]
  h_full_by : Here K mg "full_by" s_full_by ["cutting", "deed"]
  h_back_by : Here K mg "back_by" s_back_by ["cutting", "deed"]
  h_back : Here K mg "back" s_back ["cutting", "deed"]
  h_l_self_a3eb : Here K mg "_law_self" s_l_self_a3eb []
  h_led_down : Here K mg "led_down" s_led_down ["first", "second"]
  h_done_by : Here K mg "done_by" s_done_by ["cutting", "deed"]
  h_deed_table_by : Here K mg "deed_table_by" s_deed_table_by ["cutting", "deed"]
  h_deed_table : Here K mg "deed_table" s_deed_table ["cutting", "deed"]
  h_back_of_o : Here K mg "back_of" s_back_of_o ["table"]
  h_back_shear_by : Here K mg "back_shear_by" s_back_shear_by ["cutting", "deed"]
  h_back_shear : Here K mg "back_shear" s_back_shear ["cutting", "deed"]
  h_l_is_table_0704 : Here K mg "_law_is_table" s_l_is_table_0704 ["_law_value"]
  h_l_is_deed_table_6abb : Here K mg "_law_is_deed_table" s_l_is_deed_table_6abb ["_law_cutting_here", "_law_deed_here", "_law_table"]
  h_l_product_063e : Here K mg "_law_product" s_l_product_063e ["_law_one", "_law_other"]
  h_l_right_1f94 : Here K mg "_law_right" s_l_right_1f94 ["_law_generator_here"]
  h_l_cell_cf3b : Here K mg "_law_cell" s_l_cell_cf3b ["_law_script", "_law_index"]
  h_l_generator_b324 : Here K mg "_law_generator" s_l_generator_b324 ["_law_script", "_law_index"]
  h_l_law_e1ea : Here K mg "law" s_l_law_e1ea ["_law_script"]
section
variable {P : Program} {w : World} {K : PySem.W.Frag} {mg : Str → Option Value} {base : Heap}
theorem ok_l_hash_d8d1 {sp : DSp} (T : Txt K mg base) (hread : ∀ ds M Q, ds.length = 2 → sp ds M Q DX0 → t_l_hash_d8d1 (dEnds M Q) (startD 3 ds) M) (hX : ∀ ds M Q E, sp ds M Q E → sp ds M Q DX0 := by exact fun _ _ _ _ h => h) : Def P w K mg base CX0 1 "_law_hash" s_l_hash_d8d1 ["_law_seed", "_law_index"] sp :=
 T.h_l_hash_d8d1.ok (t := t_l_hash_d8d1) sc_l_hash_d8d1 (fun f cdv A outer s H E hr gd => (dss_cons (ds_set (i := 2) sc_l_hash_d8d1.nd (de_op opd_mod (de_ty cd_int T.n_int (da_cons (de_op opd_add (de_op opd_add (de_op opd_add (de_op opd_mulI (dv 0) de_int) (de_op opd_mulI (de_op opd_mulI de_int (dv 1)) (dv 1))) (de_op opd_mulI de_int (dv 1))) de_int) da_nil)) de_int))
 (dss_cons (ds_set (i := 2) sc_l_hash_d8d1.nd (de_op opd_mod (de_ty cd_int T.n_int (da_cons (de_op opd_add (de_op opd_add (de_op opd_mulI (dv 2) (dv 2)) (de_op opd_mulI de_int (dv 1))) de_int) da_nil)) de_int))
 (dss_one (ds_ret (de_op opd_mod (de_ty cd_int T.n_int (da_cons (de_op opd_mulI (dv 2) de_int) da_nil)) de_int)))))) hread hX
theorem ok_l_random_7821 {c_l_hash_d8d1 : DSp} {sp : DSp} (T : Txt K mg base) (D_l_hash_d8d1 : Def P w K mg base CX0 1 "_law_hash" s_l_hash_d8d1 ["_law_seed", "_law_index"] c_l_hash_d8d1) (hread : ∀ ds M Q, ds.length = 2 → sp ds M Q DX0 → t_l_random_7821 c_l_hash_d8d1 (dEnds M Q) (startD 4 ds) M) (hX : ∀ ds M Q E, sp ds M Q E → sp ds M Q DX0 := by exact fun _ _ _ _ h => h) : Def P w K mg base CX0 2 "_law_random" s_l_random_7821 ["_law_generator_here", "_law_bound"] sp :=
 T.h_l_random_7821.ok (t := t_l_random_7821 c_l_hash_d8d1) sc_l_random_7821 (fun f cdv A outer s H E hr gd => (dss_cons (ds_if (dt_cmp opd_gt (de_ix (dv 0) de_int) de_int (nomark _)) (dss_cons (ds_set (i := 2) sc_l_random_7821.nd (de_op opd_mod (de_ty cd_int T.n_int (da_cons (de_ix (dv 0) de_int) da_nil)) (dv 1)))
 (dss_cons (ds_asg (de_op opd_fdiv (de_ix (dv 0) de_int) (dv 1)) (dg_sub (dv 0) de_int))
 (dss_one (ds_ret (dv 2))))) dss_nil)
 (dss_cons (ds_set (i := 2) sc_l_random_7821.nd de_int)
 (dss_cons (ds_for rfl (di_range1 T.n_range (da_cons (de_op opd_add de_int (de_op opd_fdiv (de_bits (dv 1)) de_int)) da_nil)) (dg_name (i := 3) sc_l_random_7821.nd) (dss_cons (ds_asg (de_op opd_add (de_ix (dv 0) de_int) de_int) (dg_sub (dv 0) de_int))
 (dss_one (ds_set (i := 2) sc_l_random_7821.nd (de_op opd_add (de_op opd_mulI (dv 2) de_int) (dcall D_l_hash_d8d1 hr gd (da_cons (de_ix (dv 0) de_int) (da_cons (de_ix (dv 0) de_int) da_nil))))))))
 (dss_one (ds_ret (de_op opd_mod (de_ty cd_int T.n_int (da_cons (dv 2) da_nil)) (dv 1)))))))) hread hX
theorem ok_l_common_b8b4 {sp : DSp} (T : Txt K mg base) (hread : ∀ ds M Q, ds.length = 2 → sp ds M Q DX0 → t_l_common_b8b4 (dEnds M Q) (startD 4 ds) M) (hX : ∀ ds M Q E, sp ds M Q E → sp ds M Q DX0 := by exact fun _ _ _ _ h => h) : Def P w K mg base CX0 1 "_law_common" s_l_common_b8b4 ["_law_one", "_law_other"] sp :=
 T.h_l_common_b8b4.ok (t := t_l_common_b8b4) sc_l_common_b8b4 (fun f cdv A outer s H E hr gd => (dss_cons (ds_par (i := 2) (j := 3) rfl sc_l_common_b8b4.nd (da_cons (de_blt cd_abs T.n_abs (da_cons (dv 0) da_nil)) (da_cons (de_blt cd_abs T.n_abs (da_cons (dv 1) da_nil)) da_nil)))
 (dss_cons (ds_while (dt_cmp opd_gt (dv 3) de_int (nomark _)) (dss_one (ds_par (i := 2) (j := 3) rfl sc_l_common_b8b4.nd (da_cons (dv 3) (da_cons (de_op opd_mod (de_ty cd_int T.n_int (da_cons (dv 2) da_nil)) (dv 3)) da_nil)))))
 (dss_one (ds_ret (dv 2)))))) hread hX
theorem ok_l_is_cutting_19aa {c_l_common_b8b4 : DSp} {sp : DSp} (T : Txt K mg base) (D_l_common_b8b4 : Def P w K mg base CX0 1 "_law_common" s_l_common_b8b4 ["_law_one", "_law_other"] c_l_common_b8b4) (hread : ∀ ds M Q, ds.length = 4 → sp ds M Q DX0 → t_l_is_cutting_19aa c_l_common_b8b4 (dEnds M Q) (startD 4 ds) M) (hX : ∀ ds M Q E, sp ds M Q E → sp ds M Q DX0 := by exact fun _ _ _ _ h => h) : Def P w K mg base CX0 2 "_law_is_cutting" s_l_is_cutting_19aa ["_law_a", "_law_b", "_law_c", "_law_e"] sp :=
 T.h_l_is_cutting_19aa.ok (t := t_l_is_cutting_19aa c_l_common_b8b4) sc_l_is_cutting_19aa (fun f cdv A outer s H E hr gd => (dss_cons (ds_if (DW.dt (dw_or (dt_cmp opd_lt (dv 1) de_int (nomark _)) (dw_or (dt_cmp opd_lt (dv 2) de_int (nomark _)) (dw_or (dt_cmp opd_ge (de_op opd_add (dv 2) (dv 3)) (dv 1) (nomark _)) (dw_or1 (dt_not (dt_chain opd_le opd_lt de_int (dv 0) (dcall D_l_common_b8b4 hr gd (da_cons (dv 1) (da_cons (dv 2) da_nil)))))))))) (dss_one (ds_ret de_bl)) dss_nil)
 (dss_one (ds_ret (de_cmp (opd_eq (u64 hr)) (dcall D_l_common_b8b4 hr gd (da_cons (dcall D_l_common_b8b4 hr gd (da_cons (dv 0) (da_cons (dv 1) da_nil))) (da_cons (dcall D_l_common_b8b4 hr gd (da_cons (dv 2) (da_cons (dv 3) da_nil))) da_nil))) de_int (nomark _)))))) hread hX
theorem ok_l_cutting_f2c0 {c_l_random_7821 c_l_common_b8b4 c_l_is_cutting_19aa : DSp} {sp : DSp} (T : Txt K mg base) (D_l_random_7821 : Def P w K mg base CX0 2 "_law_random" s_l_random_7821 ["_law_generator_here", "_law_bound"] c_l_random_7821) (D_l_common_b8b4 : Def P w K mg base CX0 1 "_law_common" s_l_common_b8b4 ["_law_one", "_law_other"] c_l_common_b8b4) (D_l_is_cutting_19aa : Def P w K mg base CX0 2 "_law_is_cutting" s_l_is_cutting_19aa ["_law_a", "_law_b", "_law_c", "_law_e"] c_l_is_cutting_19aa) (hread : ∀ ds M Q, ds.length = 2 → sp ds M Q DX0 → t_l_cutting_f2c0 c_l_random_7821 c_l_common_b8b4 c_l_is_cutting_19aa (dEnds M Q) (startD 8 ds) M) (hX : ∀ ds M Q E, sp ds M Q E → sp ds M Q DX0 := by exact fun _ _ _ _ h => h) : Def P w K mg base CX0 3 "_law_cutting" s_l_cutting_f2c0 ["_law_generator_here", "_law_most"] sp :=
 T.h_l_cutting_f2c0.ok (t := t_l_cutting_f2c0 c_l_random_7821 c_l_common_b8b4 c_l_is_cutting_19aa) sc_l_cutting_f2c0 (fun f cdv A outer s H E hr gd => (dss_cons (ds_for rfl (di_range1 T.n_range (da_cons de_int da_nil)) (dg_name (i := 2) sc_l_cutting_f2c0.nd) (dss_cons (ds_par (i := 3) (j := 4) rfl sc_l_cutting_f2c0.nd (da_cons (de_op opd_add de_int (dcall D_l_random_7821 hr gd (da_cons (dv 0) (da_cons (dv 1) da_nil)))) (da_cons (de_op opd_add de_int (dcall D_l_random_7821 hr gd (da_cons (dv 0) (da_cons (dv 1) da_nil)))) da_nil)))
 (dss_cons (ds_if (dt_cmp (opd_eq (u64 hr)) (dcall D_l_random_7821 hr gd (da_cons (dv 0) (da_cons de_int da_nil))) de_int (nomark _)) (dss_cons (ds_set (i := 5) sc_l_cutting_f2c0.nd (de_op opd_add de_int (dcall D_l_random_7821 hr gd (da_cons (dv 0) (da_cons de_int da_nil)))))
 (dss_one (ds_par (i := 3) (j := 4) rfl sc_l_cutting_f2c0.nd (da_cons (de_op opd_mulI (dv 3) (dv 5)) (da_cons (de_op opd_mulI (dv 4) (dv 5)) da_nil))))) dss_nil)
 (dss_cons (ds_set (i := 6) sc_l_cutting_f2c0.nd (de_op opd_sub (de_op opd_sub (de_op opd_sub (dv 3) (dv 4)) de_int) (dcall D_l_random_7821 hr gd (da_cons (dv 0) (da_cons (de_op opd_mulI de_int (dv 1)) da_nil)))))
 (dss_cons (ds_set (i := 7) sc_l_cutting_f2c0.nd (dcall D_l_random_7821 hr gd (da_cons (dv 0) (da_cons (dcall D_l_common_b8b4 hr gd (da_cons (dv 3) (da_cons (dv 4) da_nil))) da_nil))))
 (dss_one (ds_if (dt_tru (dcall D_l_is_cutting_19aa hr gd (da_cons (dv 7) (da_cons (dv 3) (da_cons (dv 4) (da_cons (dv 6) da_nil)))))) (dss_one (ds_ret (de_tup (da_cons (dv 7) (da_cons (dv 3) (da_cons (dv 4) (da_cons (dv 6) da_nil))))))) dss_nil)))))))
 (dss_one (ds_ret (de_tup (da_cons de_int (da_cons (de_op opd_add de_int (dv 1)) (da_cons de_int (da_cons (de_op opd_sub de_int de_int) da_nil))))))))) hread hX
theorem ok_l_allows_0877 {sp : DSp} (T : Txt K mg base) (hread : ∀ ds M Q, ds.length = 2 → sp ds M Q DX0 → t_l_allows_0877 (dEnds M Q) (startD 6 ds) M) (hX : ∀ ds M Q E, sp ds M Q E → sp ds M Q DX0 := by exact fun _ _ _ _ h => h) : Def P w K mg base CX0 1 "_law_allows" s_l_allows_0877 ["_law_cutting_here", "_law_far"] sp :=
 T.h_l_allows_0877.ok (t := t_l_allows_0877) sc_l_allows_0877 (fun f cdv A outer s H E hr gd => (dss_cons (ds_asg (dv 0) (dg_tup rfl (dgs_cons (dg_name (i := 2) sc_l_allows_0877.nd) (dgs_cons (dg_name (i := 3) sc_l_allows_0877.nd) (dgs_cons (dg_name (i := 4) sc_l_allows_0877.nd) (dgs_cons (dg_name (i := 5) sc_l_allows_0877.nd) dgs_nil))))))
 (dss_one (ds_ret (de_and (de_cmp opd_gt (dv 1) de_int (nomark _)) (de_one (de_cmp opd_gt (de_op opd_sub (de_op opd_sub (dv 3) (de_op opd_mulI (dv 1) (dv 5))) (de_op opd_mulI (de_op opd_mulI (dv 1) (dv 1)) (dv 4))) de_int (nomark _)))))))) hread hX
theorem ok_l_deed_593a {c_l_common_b8b4 c_l_random_7821 c_l_allows_0877 : DSp} {sp : DSp} (T : Txt K mg base) (D_l_common_b8b4 : Def P w K mg base CX0 1 "_law_common" s_l_common_b8b4 ["_law_one", "_law_other"] c_l_common_b8b4) (D_l_random_7821 : Def P w K mg base CX0 2 "_law_random" s_l_random_7821 ["_law_generator_here", "_law_bound"] c_l_random_7821) (D_l_allows_0877 : Def P w K mg base CX0 1 "_law_allows" s_l_allows_0877 ["_law_cutting_here", "_law_far"] c_l_allows_0877) (hread : ∀ ds M Q, ds.length = 2 → sp ds M Q DX0 → t_l_deed_593a c_l_common_b8b4 c_l_random_7821 c_l_allows_0877 (dEnds M Q) (startD 11 ds) M) (hX : ∀ ds M Q E, sp ds M Q E → sp ds M Q DX0 := by exact fun _ _ _ _ h => h) : Def P w K mg base CX0 3 "_law_deed" s_l_deed_593a ["_law_generator_here", "_law_cutting_here"] sp :=
 T.h_l_deed_593a.ok (t := t_l_deed_593a c_l_common_b8b4 c_l_random_7821 c_l_allows_0877) sc_l_deed_593a (fun f cdv A outer s H E hr gd => (dss_cons (ds_asg (dv 1) (dg_tup rfl (dgs_cons (dg_name (i := 2) sc_l_deed_593a.nd) (dgs_cons (dg_name (i := 3) sc_l_deed_593a.nd) (dgs_cons (dg_name (i := 4) sc_l_deed_593a.nd) (dgs_cons (dg_name (i := 5) sc_l_deed_593a.nd) dgs_nil))))))
 (dss_cons (ds_par (i := 6) (j := 7) rfl sc_l_deed_593a.nd (da_cons de_int (da_cons (de_op opd_fdiv (dv 4) (dcall D_l_common_b8b4 hr gd (da_cons (dv 3) (da_cons (dv 4) da_nil)))) da_nil)))
 (dss_cons (ds_for rfl (di_range1 T.n_range (da_cons de_int da_nil)) (dg_name (i := 8) sc_l_deed_593a.nd) (dss_cons (ds_set (i := 9) sc_l_deed_593a.nd (de_op opd_add de_int (dcall D_l_random_7821 hr gd (da_cons (dv 0) (da_cons (de_ix (de_lst (da_cons de_int (da_cons de_int (da_cons (de_op opd_pow de_int de_int) da_nil)))) (dcall D_l_random_7821 hr gd (da_cons (dv 0) (da_cons de_int da_nil)))) da_nil)))))
 (dss_one (ds_if (DW.dt (dw_and (dt_tru (dcall D_l_allows_0877 hr gd (da_cons (dv 1) (da_cons (de_op opd_add (dv 6) (dv 9)) da_nil)))) (dw_and1 (dt_cmp opd_gt (dcall D_l_random_7821 hr gd (da_cons (dv 0) (da_cons de_int da_nil))) de_int (nomark _))))) (dss_one (ds_set (i := 6) sc_l_deed_593a.nd (de_op opd_add (dv 6) (dv 9)))) dss_nil))))
 (dss_cons (ds_for rfl (di_range1 T.n_range (da_cons de_int da_nil)) (dg_name (i := 8) sc_l_deed_593a.nd) (dss_cons (ds_set (i := 10) sc_l_deed_593a.nd (dcall D_l_random_7821 hr gd (da_cons (dv 0) (da_cons (de_op opd_mulI (dv 6) (dv 7)) da_nil))))
 (dss_one (ds_if (dt_cmp (opd_eq (u64 hr)) (dcall D_l_common_b8b4 hr gd (da_cons (dv 10) (da_cons (dv 6) da_nil))) de_int (nomark _)) (dss_one (ds_ret (de_tup (da_cons (dv 10) (da_cons (dv 6) da_nil))))) dss_nil))))
 (dss_one (ds_ret (de_if (dt_cmp opd_gt (de_op opd_mulI (dv 6) (dv 7)) de_int (nomark _)) (de_tup (da_cons de_int (da_cons (dv 6) da_nil))) (de_tup (da_cons de_int (da_cons de_int da_nil))))))))))) hread hX
theorem ok_is_whole {sp : DSp} (T : Txt K mg base) (hread : ∀ ds M Q, ds.length = 1 → sp ds M Q DX0 → t_is_whole (dEnds M Q) (startD 1 ds) M) (hX : ∀ ds M Q E, sp ds M Q E → sp ds M Q DX0 := by exact fun _ _ _ _ h => h) : Def P w K mg base CX0 1 "is_whole" s_is_whole ["value"] sp :=
 T.h_is_whole.ok (t := t_is_whole) sc_is_whole (fun f cdv A outer s H E hr gd => (dss_one (ds_ret (de_and (de_blt cd_isi T.n_isinstance (da_cons (dv 0) (da_cons (de_bltn (v := .ty "int") T.n_int rfl) da_nil))) (de_one (de_not (de_blt cd_isi T.n_isinstance (da_cons (dv 0) (da_cons (de_bltn (v := .ty "bool") T.n_bool rfl) da_nil))))))))) hread hX
theorem ok_common_by {sp : DSp} (T : Txt K mg base) (hread : ∀ ds M Q, ds.length = 2 → sp ds M Q DX0 → t_common_by (dEnds M Q) (startD 4 ds) M) (hX : ∀ ds M Q E, sp ds M Q E → sp ds M Q DX0 := by exact fun _ _ _ _ h => h) : Def P w K mg base CX0 1 "common_by" s_common_by ["one", "other"] sp :=
 T.h_common_by.ok (t := t_common_by) sc_common_by (fun f cdv A outer s H E hr gd => (dss_cons (ds_par (i := 2) (j := 3) rfl sc_common_by.nd (da_cons (de_blt cd_abs T.n_abs (da_cons (dv 0) da_nil)) (da_cons (de_blt cd_abs T.n_abs (da_cons (dv 1) da_nil)) da_nil)))
 (dss_cons (ds_while (dt_cmp (opd_ne (u64 hr)) (dv 3) de_int (nomark _)) (dss_one (ds_par (i := 2) (j := 3) rfl sc_common_by.nd (da_cons (dv 3) (da_cons (de_op opd_mod (dv 2) (dv 3)) da_nil)))))
 (dss_one (ds_ret (dv 2)))))) hread hX
theorem ok_is_cutting_by {c_is_whole c_common_by : DSp} {sp : DSp} (T : Txt K mg base) (D_is_whole : Def P w K mg base CX0 1 "is_whole" s_is_whole ["value"] c_is_whole) (D_common_by : Def P w K mg base CX0 1 "common_by" s_common_by ["one", "other"] c_common_by) (hread : ∀ ds M Q, ds.length = 1 → sp ds M Q DX0 → t_is_cutting_by c_is_whole c_common_by (dEnds M Q) (startD 7 ds) M) (hX : ∀ ds M Q E, sp ds M Q E → sp ds M Q DX0 := by exact fun _ _ _ _ h => h) : Def P w K mg base CX0 2 "is_cutting_by" s_is_cutting_by ["value"] sp :=
 T.h_is_cutting_by.ok (t := t_is_cutting_by c_is_whole c_common_by) sc_is_cutting_by (fun f cdv A outer s H E hr gd => (dss_cons (ds_if (DW.dt (dw_or (dt_not (dt_tru (de_blt cd_isi T.n_isinstance (da_cons (dv 0) (da_cons (de_bltn (v := .ty "tuple") T.n_tuple rfl) da_nil))))) (dw_or (dt_cmp (opd_ne (u64 hr)) (de_blt cd_len T.n_len (da_cons (dv 0) da_nil)) de_int (nomark _)) (dw_or1 (dt_cmp (opd_ne (u64 hr)) (de_lc false (own := [("item", 1)]) rfl sc_is_cutting_by.nd (blkOk_by (N := ["value", "item", "low", "high", "side", "turn", "both"]) (own := [("item", 1)]) (sc := (defScope s_is_cutting_by)) (by decide +kernel)) (di_seq (dv 0)) (fun _ _ _ _ _ => (dcg_name (i := 1) sc_is_cutting_by.nd)) (fun _ _ _ _ _ => (dts_one (dt_not (dt_tru (dcall D_is_whole hr gd (da_cons (dv 1) da_nil)))))) (fun _ _ _ _ _ => (dv 1))) (de_lst da_nil) (nomark _)))))) (dss_one (ds_ret de_bl)) dss_nil)
 (dss_cons (ds_asg (dv 0) (dg_tup rfl (dgs_cons (dg_name (i := 2) sc_is_cutting_by.nd) (dgs_cons (dg_name (i := 3) sc_is_cutting_by.nd) (dgs_cons (dg_name (i := 4) sc_is_cutting_by.nd) (dgs_cons (dg_name (i := 5) sc_is_cutting_by.nd) dgs_nil))))))
 (dss_cons (ds_if (DW.dt (dw_or (dt_cmp opd_lt (dv 3) de_int (nomark _)) (dw_or (dt_cmp opd_lt (dv 4) de_int (nomark _)) (dw_or1 (dt_not (dt_cmp opd_lt (de_op opd_add (dv 4) (dv 5)) (dv 3) (nomark _))))))) (dss_one (ds_ret de_bl)) dss_nil)
 (dss_cons (ds_set (i := 6) sc_is_cutting_by.nd (dcall D_common_by hr gd (da_cons (dv 3) (da_cons (dv 4) da_nil))))
 (dss_one (ds_ret (de_and (de_chain opd_le opd_lt de_int (dv 2) (dv 6)) (de_one (de_cmp (opd_eq (u64 hr)) (dcall D_common_by hr gd (da_cons (dcall D_common_by hr gd (da_cons (dv 2) (da_cons (dv 6) da_nil))) (da_cons (dv 5) da_nil))) de_int (nomark _))))))))))) hread hX
theorem ok_check_cutting {c_is_cutting_by : DSp} {sp : DSp} (T : Txt K mg base) (D_is_cutting_by : Def P w K mg base CX0 2 "is_cutting_by" s_is_cutting_by ["value"] c_is_cutting_by) (hread : ∀ ds M Q, ds.length = 1 → sp ds M Q DX0 → t_check_cutting c_is_cutting_by (dEnds M Q) (startD 1 ds) M) (hX : ∀ ds M Q E, sp ds M Q E → sp ds M Q DX0 := by exact fun _ _ _ _ h => h) : Def P w K mg base CX0 3 "check_cutting" s_check_cutting ["cutting"] sp :=
 T.h_check_cutting.ok (t := t_check_cutting c_is_cutting_by) sc_check_cutting (fun f cdv A outer s H E hr gd => (dss_one (ds_if (dt_not (dt_tru (dcall D_is_cutting_by hr gd (da_cons (dv 0) da_nil)))) (dss_one ds_never) dss_nil))) hread hX
theorem ok_self_table_o {sp : DSp} (T : Txt K mg base) (hread : ∀ ds M Q, ds.length = 0 → sp ds M Q DX0 → t_self_table_o (dEnds M Q) (startD 1 ds) M) (hX : ∀ ds M Q E, sp ds M Q E → sp ds M Q DX0 := by exact fun _ _ _ _ h => h) : Def P w K mg base CX0 1 "self_table" s_self_table_o [] sp :=
 T.h_self_table_o.ok (t := t_self_table_o) sc_self_table_o (fun f cdv A outer s H E hr gd => (dss_one (ds_ret (de_lc true (own := [("row", 0)]) rfl sc_self_table_o.nd (blkOk_by (N := ["row"]) (own := [("row", 0)]) (sc := (defScope s_self_table_o)) (by decide +kernel)) (di_seq (let ⟨_, h, h2⟩ := T.c_SELF; de_globK rfl h h2)) (fun _ _ _ _ _ => (dcg_name (i := 0) sc_self_table_o.nd)) (fun _ _ _ _ _ => dts_nil) (fun _ _ _ _ _ => (de_ty (cd_list true) T.n_list (da_cons (dv 0) da_nil))))))) hread hX
theorem ok_shear_by_o {c_self_table_o : DSp} {sp : DSp} (T : Txt K mg base) (D_self_table_o : Def P w K mg base CX0 1 "self_table" s_self_table_o [] c_self_table_o) (hread : ∀ ds M Q, ds.length = 2 → sp ds M Q DX0 → t_shear_by_o c_self_table_o (dEnds M Q) (startD 4 ds) M) (hX : ∀ ds M Q E, sp ds M Q E → sp ds M Q DX0 := by exact fun _ _ _ _ h => h) : Def P w K mg base CX0 2 "shear_by" s_shear_by_o ["cutting", "times"] sp :=
 T.h_shear_by_o.ok (t := t_shear_by_o c_self_table_o) sc_shear_by_o (fun f cdv A outer s H E hr gd => (dss_cons (ds_set (i := 2) sc_shear_by_o.nd (de_bfun cd_gcd T.g_gcd (da_cons (de_ix (dv 0) de_int) (da_cons (de_ix (dv 0) de_int) da_nil))))
 (dss_cons (ds_set (i := 3) sc_shear_by_o.nd (dcall0 D_self_table_o hr gd))
 (dss_cons (ds_asg (de_op opd_mulI (dv 1) (de_op opd_fdiv (de_ix (dv 0) de_int) (dv 2))) (dg_sub (de_ix (dv 3) de_int) de_int))
 (dss_cons (ds_asg (de_op opd_mulI (dv 1) (de_op opd_fdiv (de_ix (dv 0) de_int) (dv 2))) (dg_sub (de_ix (dv 3) de_int) de_int))
 (dss_one (ds_ret (dv 3)))))))) hread hX
theorem ok_shear_table_o {c_check_cutting c_is_whole c_shear_by_o : DSp} {sp : DSp} (T : Txt K mg base) (D_check_cutting : Def P w K mg base CX0 3 "check_cutting" s_check_cutting ["cutting"] c_check_cutting) (D_is_whole : Def P w K mg base CX0 1 "is_whole" s_is_whole ["value"] c_is_whole) (D_shear_by_o : Def P w K mg base CX0 2 "shear_by" s_shear_by_o ["cutting", "times"] c_shear_by_o) (hread : ∀ ds M Q, ds.length = 2 → sp ds M Q DX0 → t_shear_table_o c_check_cutting c_is_whole c_shear_by_o (dEnds M Q) (startD 2 ds) M) (hX : ∀ ds M Q E, sp ds M Q E → sp ds M Q DX0 := by exact fun _ _ _ _ h => h) : Def P w K mg base CX0 4 "shear_table" s_shear_table_o ["cutting", "times"] sp :=
 T.h_shear_table_o.ok (t := t_shear_table_o c_check_cutting c_is_whole c_shear_by_o) sc_shear_table_o (fun f cdv A outer s H E hr gd => (dss_cons (ds_expr (dcall D_check_cutting hr gd (da_cons (dv 0) da_nil)))
 (dss_cons (ds_if (dt_not (dt_tru (dcall D_is_whole hr gd (da_cons (dv 1) da_nil)))) (dss_one ds_never) dss_nil)
 (dss_one (ds_ret (dcall D_shear_by_o hr gd (da_cons (dv 0) (da_cons (dv 1) da_nil)))))))) hread hX
theorem ok_l_base_3ec4_o {sp : DSp} (T : Txt K mg base) (hread : ∀ ds M Q, ds.length = 1 → sp ds M Q DX0 → t_l_base_3ec4_o (dEnds M Q) (startD 2 ds) M) (hX : ∀ ds M Q E, sp ds M Q E → sp ds M Q DX0 := by exact fun _ _ _ _ h => h) : Def P w K mg base CX0 1 "_law_base" s_l_base_3ec4_o ["_law_at"] sp :=
 T.h_l_base_3ec4_o.ok (t := t_l_base_3ec4_o) sc_l_base_3ec4_o (fun f cdv A outer s H E hr gd => (dss_one (ds_ret (de_lc true (own := [("_law_number", 1)]) rfl sc_l_base_3ec4_o.nd (blkOk_by (N := ["_law_at", "_law_number"]) (own := [("_law_number", 1)]) (sc := (defScope s_l_base_3ec4_o)) (by decide +kernel)) (di_range1 T.n_range (da_cons de_int da_nil)) (fun _ _ _ _ _ => (dcg_name (i := 1) sc_l_base_3ec4_o.nd)) (fun _ _ _ _ _ => dts_nil) (fun _ _ _ _ _ => (de_ty cd_int T.n_int (da_cons (de_cmp (opd_eq (u64 hr)) (dv 0) (dv 1) (nomark _)) da_nil))))))) hread hX
theorem ok_l_self_a3eb_o {c_l_base_3ec4_o : DSp} {sp : DSp} (T : Txt K mg base) (D_l_base_3ec4_o : Def P w K mg base CX0 1 "_law_base" s_l_base_3ec4_o ["_law_at"] c_l_base_3ec4_o) (hread : ∀ ds M Q, ds.length = 0 → sp ds M Q DX0 → t_l_self_a3eb_o c_l_base_3ec4_o (dEnds M Q) (startD 1 ds) M) (hX : ∀ ds M Q E, sp ds M Q E → sp ds M Q DX0 := by exact fun _ _ _ _ h => h) : Def P w K mg base CX0 2 "_law_self" s_l_self_a3eb_o [] sp :=
 T.h_l_self_a3eb_o.ok (t := t_l_self_a3eb_o c_l_base_3ec4_o) sc_l_self_a3eb_o (fun f cdv A outer s H E hr gd => (dss_one (ds_ret (de_lc true (own := [("_law_at", 0)]) rfl sc_l_self_a3eb_o.nd (blkOk_by (N := ["_law_at"]) (own := [("_law_at", 0)]) (sc := (defScope s_l_self_a3eb_o)) (by decide +kernel)) (di_range1 T.n_range (da_cons de_int da_nil)) (fun _ _ _ _ _ => (dcg_name (i := 0) sc_l_self_a3eb_o.nd)) (fun _ _ _ _ _ => dts_nil) (fun _ _ _ _ _ => (dcall D_l_base_3ec4_o hr gd (da_cons (dv 0) da_nil))))))) hread hX
theorem ok_l_shear_1435 {c_l_common_b8b4 c_l_self_a3eb_o : DSp} {sp : DSp} (T : Txt K mg base) (D_l_common_b8b4 : Def P w K mg base CX0 1 "_law_common" s_l_common_b8b4 ["_law_one", "_law_other"] c_l_common_b8b4) (D_l_self_a3eb_o : Def P w K mg base CX0 2 "_law_self" s_l_self_a3eb_o [] c_l_self_a3eb_o) (hread : ∀ ds M Q, ds.length = 2 → sp ds M Q DX0 → t_l_shear_1435 c_l_common_b8b4 c_l_self_a3eb_o (dEnds M Q) (startD 4 ds) M) (hX : ∀ ds M Q E, sp ds M Q E → sp ds M Q DX0 := by exact fun _ _ _ _ h => h) : Def P w K mg base CX0 3 "_law_shear" s_l_shear_1435 ["_law_cutting_here", "_law_times"] sp :=
 T.h_l_shear_1435.ok (t := t_l_shear_1435 c_l_common_b8b4 c_l_self_a3eb_o) sc_l_shear_1435 (fun f cdv A outer s H E hr gd => (dss_cons (ds_par (i := 2) (j := 3) rfl sc_l_shear_1435.nd (da_cons (dcall D_l_common_b8b4 hr gd (da_cons (de_ix (dv 0) de_int) (da_cons (de_ix (dv 0) de_int) da_nil))) (da_cons (dcall0 D_l_self_a3eb_o hr gd) da_nil)))
 (dss_cons (ds_asg (de_tup (da_cons (de_op opd_mulI (dv 1) (de_op opd_fdiv (de_ix (dv 0) de_int) (dv 2))) (da_cons (de_op opd_mulI (dv 1) (de_op opd_fdiv (de_ix (dv 0) de_int) (dv 2))) da_nil))) (dg_tup rfl (dgs_cons (dg_sub (de_ix (dv 3) de_int) de_int) (dgs_cons (dg_sub (de_ix (dv 3) de_int) de_int) dgs_nil))))
 (dss_one (ds_ret (dv 3)))))) hread hX
theorem ok_l_columns_d906 {sp : DSp} (T : Txt K mg base) (hread : ∀ ds M Q, ds.length = 1 → sp ds M Q DX0 → t_l_columns_d906 (dEnds M Q) (startD 3 ds) M) (hX : ∀ ds M Q E, sp ds M Q E → sp ds M Q DX0 := by exact fun _ _ _ _ h => h) : Def P w K mg base CX0 1 "_law_columns" s_l_columns_d906 ["_law_table"] sp :=
 T.h_l_columns_d906.ok (t := t_l_columns_d906) sc_l_columns_d906 (fun f cdv A outer s H E hr gd => (dss_one (ds_ret (de_lc false (own := [("_law_at", 1)]) rfl sc_l_columns_d906.nd (blkOk_by (N := ["_law_table", "_law_at", "_law_row"]) (own := [("_law_at", 1)]) (sc := (defScope s_l_columns_d906)) (by decide +kernel)) (di_range1 T.n_range (da_cons de_int da_nil)) (fun _ _ _ _ _ => (dcg_name (i := 1) sc_l_columns_d906.nd)) (fun _ _ _ _ _ => dts_nil) (fun _ _ _ _ _ => (de_lc false (own := [("_law_row", 2)]) rfl sc_l_columns_d906.nd (blkOk_by (N := ["_law_table", "_law_at", "_law_row"]) (own := [("_law_row", 2)]) (by rfl)) (di_seq (dv 0)) (fun _ _ _ _ _ => (dcg_name (i := 2) sc_l_columns_d906.nd)) (fun _ _ _ _ _ => dts_nil) (fun _ _ _ _ _ => (de_ix (dv 2) (dv 1))))))))) hread hX
theorem ok_l_crossing_3f18 {sp : DSp} (T : Txt K mg base) (hread : ∀ ds M Q, ds.length = 2 → sp ds M Q DX0 → t_l_crossing_3f18 (dEnds M Q) (startD 2 ds) M) (hX : ∀ ds M Q E, sp ds M Q E → sp ds M Q DX0 := by exact fun _ _ _ _ h => h) : Def P w K mg base CX0 1 "_law_crossing" s_l_crossing_3f18 ["_law_one", "_law_other"] sp :=
 T.h_l_crossing_3f18.ok (t := t_l_crossing_3f18) sc_l_crossing_3f18 (fun f cdv A outer s H E hr gd => (dss_one (ds_ret (de_op opd_sub (de_op opd_add (de_op opd_sub (de_op opd_mulI (de_ix (dv 0) de_int) (de_ix (dv 1) de_int)) (de_op opd_mulI (de_ix (dv 0) de_int) (de_ix (dv 1) de_int))) (de_op opd_mulI (de_ix (dv 0) de_int) (de_ix (dv 1) de_int))) (de_op opd_mulI (de_ix (dv 0) de_int) (de_ix (dv 1) de_int)))))) hread hX
theorem ok_l_base_3ec4 {sp : DSp} (T : Txt K mg base) (hread : ∀ ds M Q, ds.length = 1 → sp ds M Q DX0 → t_l_base_3ec4 (dEnds M Q) (startD 2 ds) M) (hX : ∀ ds M Q E, sp ds M Q E → sp ds M Q DX0 := by exact fun _ _ _ _ h => h) : Def P w K mg base CX0 1 "_law_base" s_l_base_3ec4 ["_law_at"] sp :=
 T.h_l_base_3ec4.ok (t := t_l_base_3ec4) sc_l_base_3ec4 (fun f cdv A outer s H E hr gd => (dss_one (ds_ret (de_lc false (own := [("_law_number", 1)]) rfl sc_l_base_3ec4.nd (blkOk_by (N := ["_law_at", "_law_number"]) (own := [("_law_number", 1)]) (sc := (defScope s_l_base_3ec4)) (by decide +kernel)) (di_range1 T.n_range (da_cons de_int da_nil)) (fun _ _ _ _ _ => (dcg_name (i := 1) sc_l_base_3ec4.nd)) (fun _ _ _ _ _ => dts_nil) (fun _ _ _ _ _ => (de_ty cd_int T.n_int (da_cons (de_cmp (opd_eq (u64 hr)) (dv 0) (dv 1) (nomark _)) da_nil))))))) hread hX
theorem ok_l_keeps_2d4c {c_l_columns_d906 c_l_crossing_3f18 c_l_base_3ec4 : DSp} {sp : DSp} (T : Txt K mg base) (D_l_columns_d906 : Def P w K mg base CX0 1 "_law_columns" s_l_columns_d906 ["_law_table"] c_l_columns_d906) (D_l_crossing_3f18 : Def P w K mg base CX0 1 "_law_crossing" s_l_crossing_3f18 ["_law_one", "_law_other"] c_l_crossing_3f18) (D_l_base_3ec4 : Def P w K mg base CX0 1 "_law_base" s_l_base_3ec4 ["_law_at"] c_l_base_3ec4) (hread : ∀ ds M Q, ds.length = 1 → sp ds M Q DX0 → t_l_keeps_2d4c c_l_columns_d906 c_l_crossing_3f18 c_l_base_3ec4 (dEnds M Q) (startD 4 ds) M) (hX : ∀ ds M Q E, sp ds M Q E → sp ds M Q DX0 := by exact fun _ _ _ _ h => h) : Def P w K mg base CX0 2 "_law_keeps" s_l_keeps_2d4c ["_law_table"] sp :=
 T.h_l_keeps_2d4c.ok (t := t_l_keeps_2d4c c_l_columns_d906 c_l_crossing_3f18 c_l_base_3ec4) sc_l_keeps_2d4c (fun f cdv A outer s H E hr gd => (dss_cons (ds_set (i := 1) sc_l_keeps_2d4c.nd (dcall D_l_columns_d906 hr gd (da_cons (dv 0) da_nil)))
 (dss_cons (ds_for rfl (di_range1 T.n_range (da_cons de_int da_nil)) (dg_name (i := 2) sc_l_keeps_2d4c.nd) (dss_one (ds_for rfl (di_range1 T.n_range (da_cons de_int da_nil)) (dg_name (i := 3) sc_l_keeps_2d4c.nd) (dss_one (ds_if (dt_cmp (opd_ne (u64 hr)) (dcall D_l_crossing_3f18 hr gd (da_cons (de_ix (dv 1) (dv 2)) (da_cons (de_ix (dv 1) (dv 3)) da_nil))) (dcall D_l_crossing_3f18 hr gd (da_cons (dcall D_l_base_3ec4 hr gd (da_cons (dv 2) da_nil)) (da_cons (dcall D_l_base_3ec4 hr gd (da_cons (dv 3) da_nil)) da_nil))) (nomark _)) (dss_one (ds_ret de_bl)) dss_nil)))))
 (dss_one (ds_ret de_bl))))) hread hX
theorem ok_l_rooted_a87a {sp : DSp} (T : Txt K mg base) (hread : ∀ ds M Q, ds.length = 2 → sp ds M Q DX0 → t_l_rooted_a87a (dEnds M Q) (startD 6 ds) M) (hX : ∀ ds M Q E, sp ds M Q E → sp ds M Q DX0 := by exact fun _ _ _ _ h => h) : Def P w K mg base CX0 1 "_law_rooted" s_l_rooted_a87a ["_law_cutting_here", "_law_path"] sp :=
 T.h_l_rooted_a87a.ok (t := t_l_rooted_a87a) sc_l_rooted_a87a (fun f cdv A outer s H E hr gd => (dss_cons (ds_asg (dv 0) (dg_tup rfl (dgs_cons (dg_name (i := 2) sc_l_rooted_a87a.nd) (dgs_cons (dg_name (i := 3) sc_l_rooted_a87a.nd) (dgs_cons (dg_name (i := 4) sc_l_rooted_a87a.nd) (dgs_cons (dg_name (i := 5) sc_l_rooted_a87a.nd) dgs_nil))))))
 (dss_one (ds_ret (de_lst (da_cons (de_op opd_add (de_op opd_add (de_op opd_mulI (dv 5) (de_ix (dv 1) de_int)) (de_op opd_mulI (dv 3) (de_ix (dv 1) de_int))) (de_op opd_mulI (dv 2) (de_ix (dv 1) de_int))) (da_cons (de_op opd_add (de_op opd_mulI (dv 5) (de_ix (dv 1) de_int)) (de_op opd_mulI (dv 4) (de_ix (dv 1) de_int))) (da_cons (de_op opd_sub (de_op opd_mulI (dv 4) (de_ix (dv 1) de_int)) (de_op opd_mulI (dv 2) (de_ix (dv 1) de_int))) (da_cons (de_op opd_mulI (dv 3) (de_ix (dv 1) de_int)) da_nil))))))))) hread hX
theorem ok_l_led_3b4c {sp : DSp} (T : Txt K mg base) (hread : ∀ ds M Q, ds.length = 2 → sp ds M Q DX0 → t_l_led_3b4c (dEnds M Q) (startD 5 ds) M) (hX : ∀ ds M Q E, sp ds M Q E → sp ds M Q DX0 := by exact fun _ _ _ _ h => h) : Def P w K mg base CX0 1 "_law_led" s_l_led_3b4c ["_law_table", "_law_path"] sp :=
 T.h_l_led_3b4c.ok (t := t_l_led_3b4c) sc_l_led_3b4c (fun f cdv A outer s H E hr gd => (dss_one (ds_ret (de_lc false (own := [("_law_row", 2)]) rfl sc_l_led_3b4c.nd (blkOk_by (N := ["_law_table", "_law_path", "_law_row", "_law_item", "_law_often"]) (own := [("_law_row", 2)]) (sc := (defScope s_l_led_3b4c)) (by decide +kernel)) (di_seq (dv 0)) (fun _ _ _ _ _ => (dcg_name (i := 2) sc_l_led_3b4c.nd)) (fun _ _ _ _ _ => dts_nil) (fun _ _ _ _ _ => (de_blt (cd_sum rfl) T.n_sum (da_cons (de_lc false (own := [("_law_item", 3), ("_law_often", 4)]) rfl sc_l_led_3b4c.nd (blkOk_by (N := ["_law_table", "_law_path", "_law_row", "_law_item", "_law_often"]) (own := [("_law_item", 3), ("_law_often", 4)]) (by rfl)) (di_zip T.n_zip (da_cons (dv 2) (da_cons (dv 1) da_nil))) (fun _ _ _ _ _ => (dcg_tup rfl (dcgs_cons (dcg_name (i := 3) sc_l_led_3b4c.nd) (dcgs_cons (dcg_name (i := 4) sc_l_led_3b4c.nd) dcgs_nil)))) (fun _ _ _ _ _ => dts_nil) (fun _ _ _ _ _ => (de_op opd_mulI (dv 3) (dv 4)))) da_nil))))))) hread hX
theorem ok_is_path_list {c_is_whole : DSp} {sp : DSp} (T : Txt K mg base) (D_is_whole : Def P w K mg base CX0 1 "is_whole" s_is_whole ["value"] c_is_whole) (hread : ∀ ds M Q, ds.length = 1 → sp ds M Q DX0 → t_is_path_list c_is_whole (dEnds M Q) (startD 2 ds) M) (hX : ∀ ds M Q E, sp ds M Q E → sp ds M Q DX0 := by exact fun _ _ _ _ h => h) : Def P w K mg base CX0 2 "is_path_list" s_is_path_list ["value"] sp :=
 T.h_is_path_list.ok (t := t_is_path_list c_is_whole) sc_is_path_list (fun f cdv A outer s H E hr gd => (dss_one (ds_ret (de_and (de_blt cd_isi T.n_isinstance (da_cons (dv 0) (da_cons (de_bltn (v := .ty "list") T.n_list rfl) da_nil))) (de_and (de_cmp (opd_eq (u64 hr)) (de_blt cd_len T.n_len (da_cons (dv 0) da_nil)) de_int (nomark _)) (de_one (de_cmp (opd_eq (u64 hr)) (de_lc false (own := [("item", 1)]) rfl sc_is_path_list.nd (blkOk_by (N := ["value", "item"]) (own := [("item", 1)]) (sc := (defScope s_is_path_list)) (by decide +kernel)) (di_seq (dv 0)) (fun _ _ _ _ _ => (dcg_name (i := 1) sc_is_path_list.nd)) (fun _ _ _ _ _ => (dts_one (dt_not (dt_tru (dcall D_is_whole hr gd (da_cons (dv 1) da_nil)))))) (fun _ _ _ _ _ => (dv 1))) (de_lst da_nil) (nomark _)))))))) hread hX
theorem ok_check_table {c_is_path_list : DSp} {sp : DSp} (T : Txt K mg base) (D_is_path_list : Def P w K mg base CX0 2 "is_path_list" s_is_path_list ["value"] c_is_path_list) (hread : ∀ ds M Q, ds.length = 1 → sp ds M Q DX0 → t_check_table c_is_path_list (dEnds M Q) (startD 2 ds) M) (hX : ∀ ds M Q E, sp ds M Q E → sp ds M Q DX0 := by exact fun _ _ _ _ h => h) : Def P w K mg base CX0 3 "check_table" s_check_table ["table"] sp :=
 T.h_check_table.ok (t := t_check_table c_is_path_list) sc_check_table (fun f cdv A outer s H E hr gd => (dss_one (ds_if (DW.dt (dw_or (dt_not (dt_tru (de_blt cd_isi T.n_isinstance (da_cons (dv 0) (da_cons (de_bltn (v := .ty "list") T.n_list rfl) da_nil))))) (dw_or (dt_cmp (opd_ne (u64 hr)) (de_blt cd_len T.n_len (da_cons (dv 0) da_nil)) de_int (nomark _)) (dw_or1 (dt_cmp (opd_ne (u64 hr)) (de_lc false (own := [("row", 1)]) rfl sc_check_table.nd (blkOk_by (N := ["table", "row"]) (own := [("row", 1)]) (sc := (defScope s_check_table)) (by decide +kernel)) (di_seq (dv 0)) (fun _ _ _ _ _ => (dcg_name (i := 1) sc_check_table.nd)) (fun _ _ _ _ _ => (dts_one (dt_not (dt_tru (dcall D_is_path_list hr gd (da_cons (dv 1) da_nil)))))) (fun _ _ _ _ _ => (dv 1))) (de_lst da_nil) (nomark _)))))) (dss_one ds_never) dss_nil))) hread hX
theorem ok_turned_about {sp : DSp} (T : Txt K mg base) (hread : ∀ ds M Q, ds.length = 1 → sp ds M Q DX0 → t_turned_about (dEnds M Q) (startD 3 ds) M) (hX : ∀ ds M Q E, sp ds M Q E → sp ds M Q DX0 := by exact fun _ _ _ _ h => h) : Def P w K mg base CX0 1 "turned_about" s_turned_about ["table"] sp :=
 T.h_turned_about.ok (t := t_turned_about) sc_turned_about (fun f cdv A outer s H E hr gd => (dss_one (ds_ret (de_lc false (own := [("at", 1)]) rfl sc_turned_about.nd (blkOk_by (N := ["table", "at", "row"]) (own := [("at", 1)]) (sc := (defScope s_turned_about)) (by decide +kernel)) (di_range1 T.n_range (da_cons de_int da_nil)) (fun _ _ _ _ _ => (dcg_name (i := 1) sc_turned_about.nd)) (fun _ _ _ _ _ => dts_nil) (fun _ _ _ _ _ => (de_lc false (own := [("row", 2)]) rfl sc_turned_about.nd (blkOk_by (N := ["table", "at", "row"]) (own := [("row", 2)]) (by rfl)) (di_seq (dv 0)) (fun _ _ _ _ _ => (dcg_name (i := 2) sc_turned_about.nd)) (fun _ _ _ _ _ => dts_nil) (fun _ _ _ _ _ => (de_ix (dv 2) (dv 1))))))))) hread hX
theorem ok_path_led {sp : DSp} (T : Txt K mg base) (hread : ∀ ds M Q, ds.length = 2 → sp ds M Q DX0 → t_path_led (dEnds M Q) (startD 5 ds) M) (hX : ∀ ds M Q E, sp ds M Q E → sp ds M Q DX0 := by exact fun _ _ _ _ h => h) : Def P w K mg base CX0 1 "path_led" s_path_led ["table", "path"] sp :=
 T.h_path_led.ok (t := t_path_led) sc_path_led (fun f cdv A outer s H E hr gd => (dss_one (ds_ret (de_lc false (own := [("row", 2)]) rfl sc_path_led.nd (blkOk_by (N := ["table", "path", "row", "item", "often"]) (own := [("row", 2)]) (sc := (defScope s_path_led)) (by decide +kernel)) (di_seq (dv 0)) (fun _ _ _ _ _ => (dcg_name (i := 2) sc_path_led.nd)) (fun _ _ _ _ _ => dts_nil) (fun _ _ _ _ _ => (de_blt (cd_sum rfl) T.n_sum (da_cons (de_lc false (own := [("item", 3), ("often", 4)]) rfl sc_path_led.nd (blkOk_by (N := ["table", "path", "row", "item", "often"]) (own := [("item", 3), ("often", 4)]) (by rfl)) (di_zipS T.n_zip (da_cons (dv 2) (da_cons (dv 1) da_nil))) (fun _ _ _ _ _ => (dcg_tup rfl (dcgs_cons (dcg_name (i := 3) sc_path_led.nd) (dcgs_cons (dcg_name (i := 4) sc_path_led.nd) dcgs_nil)))) (fun _ _ _ _ _ => dts_nil) (fun _ _ _ _ _ => (de_op opd_mulI (dv 3) (dv 4)))) da_nil))))))) hread hX
theorem ok_table_times {c_turned_about c_path_led : DSp} {sp : DSp} (T : Txt K mg base) (D_turned_about : Def P w K mg base CX0 1 "turned_about" s_turned_about ["table"] c_turned_about) (D_path_led : Def P w K mg base CX0 1 "path_led" s_path_led ["table", "path"] c_path_led) (hread : ∀ ds M Q, ds.length = 2 → sp ds M Q DX0 → t_table_times c_turned_about c_path_led (dEnds M Q) (startD 3 ds) M) (hX : ∀ ds M Q E, sp ds M Q E → sp ds M Q DX0 := by exact fun _ _ _ _ h => h) : Def P w K mg base CX0 2 "table_times" s_table_times ["one", "other"] sp :=
 T.h_table_times.ok (t := t_table_times c_turned_about c_path_led) sc_table_times (fun f cdv A outer s H E hr gd => (dss_one (ds_ret (dcall D_turned_about hr gd (da_cons (de_lc false (own := [("path", 2)]) rfl sc_table_times.nd (blkOk_by (N := ["one", "other", "path"]) (own := [("path", 2)]) (sc := (defScope s_table_times)) (by decide +kernel)) (di_seq (dcall D_turned_about hr gd (da_cons (dv 1) da_nil))) (fun _ _ _ _ _ => (dcg_name (i := 2) sc_table_times.nd)) (fun _ _ _ _ _ => dts_nil) (fun _ _ _ _ _ => (dcall D_path_led hr gd (da_cons (dv 0) (da_cons (dv 2) da_nil))))) da_nil))))) hread hX
theorem ok_table_product {c_check_table c_table_times : DSp} {sp : DSp} (T : Txt K mg base) (D_check_table : Def P w K mg base CX0 3 "check_table" s_check_table ["table"] c_check_table) (D_table_times : Def P w K mg base CX0 2 "table_times" s_table_times ["one", "other"] c_table_times) (hread : ∀ ds M Q, ds.length = 2 → sp ds M Q DX0 → t_table_product c_check_table c_table_times (dEnds M Q) (startD 2 ds) M) (hX : ∀ ds M Q E, sp ds M Q E → sp ds M Q DX0 := by exact fun _ _ _ _ h => h) : Def P w K mg base CX0 4 "table_product" s_table_product ["one", "other"] sp :=
 T.h_table_product.ok (t := t_table_product c_check_table c_table_times) sc_table_product (fun f cdv A outer s H E hr gd => (dss_cons (ds_expr (dcall D_check_table hr gd (da_cons (dv 0) da_nil)))
 (dss_cons (ds_expr (dcall D_check_table hr gd (da_cons (dv 1) da_nil)))
 (dss_one (ds_ret (dcall D_table_times hr gd (da_cons (dv 0) (da_cons (dv 1) da_nil)))))))) hread hX
theorem ok_l_opposite_30e8 {sp : DSp} (T : Txt K mg base) (hread : ∀ ds M Q, ds.length = 2 → sp ds M Q DX0 → t_l_opposite_30e8 (dEnds M Q) (startD 7 ds) M) (hX : ∀ ds M Q E, sp ds M Q E → sp ds M Q DX0 := by exact fun _ _ _ _ h => h) : Def P w K mg base CX0 1 "_law_opposite" s_l_opposite_30e8 ["_law_number", "_law_modulus"] sp :=
 T.h_l_opposite_30e8.ok (t := t_l_opposite_30e8) sc_l_opposite_30e8 (fun f cdv A outer s H E hr gd => (dss_cons (ds_asg (de_tup (da_cons (de_op opd_mod (de_ty cd_int T.n_int (da_cons (dv 0) da_nil)) (dv 1)) (da_cons (dv 1) (da_cons de_int (da_cons de_int da_nil))))) (dg_tup rfl (dgs_cons (dg_name (i := 2) sc_l_opposite_30e8.nd) (dgs_cons (dg_name (i := 3) sc_l_opposite_30e8.nd) (dgs_cons (dg_name (i := 4) sc_l_opposite_30e8.nd) (dgs_cons (dg_name (i := 5) sc_l_opposite_30e8.nd) dgs_nil))))))
 (dss_cons (ds_while (dt_cmp opd_gt (dv 3) de_int (nomark _)) (dss_cons (ds_set (i := 6) sc_l_opposite_30e8.nd (de_op opd_fdiv (dv 2) (dv 3)))
 (dss_one (ds_asg (de_tup (da_cons (dv 3) (da_cons (de_op opd_sub (dv 2) (de_op opd_mulI (dv 6) (dv 3))) (da_cons (dv 5) (da_cons (de_op opd_sub (dv 4) (de_op opd_mulI (dv 6) (dv 5))) da_nil))))) (dg_tup rfl (dgs_cons (dg_name (i := 2) sc_l_opposite_30e8.nd) (dgs_cons (dg_name (i := 3) sc_l_opposite_30e8.nd) (dgs_cons (dg_name (i := 4) sc_l_opposite_30e8.nd) (dgs_cons (dg_name (i := 5) sc_l_opposite_30e8.nd) dgs_nil)))))))))
 (dss_one (ds_ret (de_op opd_mod (de_ty cd_int T.n_int (da_cons (dv 4) da_nil)) (dv 1))))))) hread hX
theorem ok_l_beside_26c0 {c_l_opposite_30e8 : DSp} {sp : DSp} (T : Txt K mg base) (D_l_opposite_30e8 : Def P w K mg base CX0 1 "_law_opposite" s_l_opposite_30e8 ["_law_number", "_law_modulus"] c_l_opposite_30e8) (hread : ∀ ds M Q, ds.length = 1 → sp ds M Q DX0 → t_l_beside_26c0 c_l_opposite_30e8 (dEnds M Q) (startD 4 ds) M) (hX : ∀ ds M Q E, sp ds M Q E → sp ds M Q DX0 := by exact fun _ _ _ _ h => h) : Def P w K mg base CX0 2 "_law_beside" s_l_beside_26c0 ["_law_deed_here"] sp :=
 T.h_l_beside_26c0.ok (t := t_l_beside_26c0 c_l_opposite_30e8) sc_l_beside_26c0 (fun f cdv A outer s H E hr gd => (dss_cons (ds_asg (dv 0) (dg_tup rfl (dgs_cons (dg_name (i := 1) sc_l_beside_26c0.nd) (dgs_cons (dg_name (i := 2) sc_l_beside_26c0.nd) dgs_nil))))
 (dss_cons (ds_if (dt_cmp (opd_eq (u64 hr)) (dv 1) de_int (nomark _)) (dss_one (ds_ret (de_tup (da_cons (de_op opd_sub de_int de_int) (da_cons de_int da_nil))))) dss_nil)
 (dss_cons (ds_set (i := 3) sc_l_beside_26c0.nd (de_op opd_mod (de_ty cd_int T.n_int (da_cons (de_op opd_sub de_int (dcall D_l_opposite_30e8 hr gd (da_cons (dv 2) (da_cons (dv 1) da_nil)))) da_nil)) (dv 1)))
 (dss_one (ds_ret (de_tup (da_cons (dv 3) (da_cons (de_op opd_fdiv (de_op opd_add de_int (de_op opd_mulI (dv 2) (dv 3))) (dv 1)) da_nil))))))))) hread hX
theorem ok_l_bezout_3658 {sp : DSp} (T : Txt K mg base) (hread : ∀ ds M Q, ds.length = 2 → sp ds M Q DX0 → t_l_bezout_3658 (dEnds M Q) (startD 7 ds) M) (hX : ∀ ds M Q E, sp ds M Q E → sp ds M Q DX0 := by exact fun _ _ _ _ h => h) : Def P w K mg base CX0 1 "_law_bezout" s_l_bezout_3658 ["_law_one", "_law_other"] sp :=
 T.h_l_bezout_3658.ok (t := t_l_bezout_3658) sc_l_bezout_3658 (fun f cdv A outer s H E hr gd => (dss_cons (ds_asg (de_tup (da_cons (dv 0) (da_cons (dv 1) (da_cons (de_tup (da_cons de_int (da_cons de_int da_nil))) (da_cons (de_tup (da_cons de_int (da_cons de_int da_nil))) da_nil))))) (dg_tup rfl (dgs_cons (dg_name (i := 2) sc_l_bezout_3658.nd) (dgs_cons (dg_name (i := 3) sc_l_bezout_3658.nd) (dgs_cons (dg_name (i := 4) sc_l_bezout_3658.nd) (dgs_cons (dg_name (i := 5) sc_l_bezout_3658.nd) dgs_nil))))))
 (dss_cons (ds_while (dt_cmp (opd_ne (u64 hr)) (dv 3) de_int (nomark _)) (dss_cons (ds_set (i := 6) sc_l_bezout_3658.nd (de_op opd_fdiv (dv 2) (dv 3)))
 (dss_one (ds_asg (de_tup (da_cons (dv 3) (da_cons (de_op opd_sub (dv 2) (de_op opd_mulI (dv 6) (dv 3))) (da_cons (dv 5) (da_cons (de_tup (da_cons (de_op opd_sub (de_ix (dv 4) de_int) (de_op opd_mulI (dv 6) (de_ix (dv 5) de_int))) (da_cons (de_op opd_sub (de_ix (dv 4) de_int) (de_op opd_mulI (dv 6) (de_ix (dv 5) de_int))) da_nil))) da_nil))))) (dg_tup rfl (dgs_cons (dg_name (i := 2) sc_l_bezout_3658.nd) (dgs_cons (dg_name (i := 3) sc_l_bezout_3658.nd) (dgs_cons (dg_name (i := 4) sc_l_bezout_3658.nd) (dgs_cons (dg_name (i := 5) sc_l_bezout_3658.nd) dgs_nil)))))))))
 (dss_one (ds_ret (de_if (dt_cmp opd_gt (dv 2) de_int (nomark _)) (de_tup (da_cons (dv 4) (da_cons (dv 2) da_nil))) (de_tup (da_cons (de_tup (da_cons (de_op opd_sub de_int (de_ix (dv 4) de_int)) (da_cons (de_op opd_sub de_int (de_ix (dv 4) de_int)) da_nil))) (da_cons (de_op opd_sub de_int (dv 2)) da_nil))))))))) hread hX
theorem ok_l_done_855c {c_l_beside_26c0 c_l_bezout_3658 c_l_common_b8b4 : DSp} {sp : DSp} (T : Txt K mg base) (D_l_beside_26c0 : Def P w K mg base CX0 2 "_law_beside" s_l_beside_26c0 ["_law_deed_here"] c_l_beside_26c0) (D_l_bezout_3658 : Def P w K mg base CX0 1 "_law_bezout" s_l_bezout_3658 ["_law_one", "_law_other"] c_l_bezout_3658) (D_l_common_b8b4 : Def P w K mg base CX0 1 "_law_common" s_l_common_b8b4 ["_law_one", "_law_other"] c_l_common_b8b4) (hread : ∀ ds M Q, ds.length = 2 → sp ds M Q DX0 → t_l_done_855c c_l_beside_26c0 c_l_bezout_3658 c_l_common_b8b4 (dEnds M Q) (startD 18 ds) M) (hX : ∀ ds M Q E, sp ds M Q E → sp ds M Q DX0 := by exact fun _ _ _ _ h => h) : Def P w K mg base CX0 3 "_law_done" s_l_done_855c ["_law_cutting_here", "_law_deed_here"] sp :=
 T.h_l_done_855c.ok (t := t_l_done_855c c_l_beside_26c0 c_l_bezout_3658 c_l_common_b8b4) sc_l_done_855c (fun f cdv A outer s H E hr gd => (dss_cons (ds_asg (dv 0) (dg_tup rfl (dgs_cons (dg_name (i := 2) sc_l_done_855c.nd) (dgs_cons (dg_name (i := 3) sc_l_done_855c.nd) (dgs_cons (dg_name (i := 4) sc_l_done_855c.nd) (dgs_cons (dg_name (i := 5) sc_l_done_855c.nd) dgs_nil))))))
 (dss_cons (ds_asg (de_tup (da_cons (dv 1) (da_cons (dcall D_l_beside_26c0 hr gd (da_cons (dv 1) da_nil)) da_nil))) (dg_tup rfl (dgs_cons (dg_tup rfl (dgs_cons (dg_name (i := 6) sc_l_done_855c.nd) (dgs_cons (dg_name (i := 7) sc_l_done_855c.nd) dgs_nil))) (dgs_cons (dg_tup rfl (dgs_cons (dg_name (i := 8) sc_l_done_855c.nd) (dgs_cons (dg_name (i := 9) sc_l_done_855c.nd) dgs_nil))) dgs_nil))))
 (dss_cons (ds_asg (de_tup (da_cons (de_op opd_add (de_op opd_mulI (dv 6) (dv 3)) (de_op opd_mulI (dv 7) (dv 2))) (da_cons (de_op opd_mulI (dv 7) (dv 4)) (da_cons (de_op opd_add (de_op opd_add (de_op opd_add (de_op opd_mulI (dv 8) (dv 3)) (de_op opd_mulI (dv 9) (dv 2))) (dv 5)) (de_op opd_mulI (dv 7) (dv 4))) (da_cons (de_op opd_mulI (dv 9) (dv 4)) da_nil))))) (dg_tup rfl (dgs_cons (dg_name (i := 10) sc_l_done_855c.nd) (dgs_cons (dg_name (i := 11) sc_l_done_855c.nd) (dgs_cons (dg_name (i := 12) sc_l_done_855c.nd) (dgs_cons (dg_name (i := 13) sc_l_done_855c.nd) dgs_nil))))))
 (dss_cons (ds_asg (dcall D_l_bezout_3658 hr gd (da_cons (dv 10) (da_cons (dv 11) da_nil))) (dg_tup rfl (dgs_cons (dg_tup rfl (dgs_cons (dg_name (i := 14) sc_l_done_855c.nd) (dgs_cons (dg_name (i := 15) sc_l_done_855c.nd) dgs_nil))) (dgs_cons (dg_name (i := 16) sc_l_done_855c.nd) dgs_nil))))
 (dss_cons (ds_set (i := 17) sc_l_done_855c.nd (de_op opd_fdiv (de_op opd_sub (de_op opd_mulI (dv 10) (dv 13)) (de_op opd_mulI (dv 11) (dv 12))) (dv 16)))
 (dss_one (ds_ret (de_tup (da_cons (de_op opd_mod (de_ty cd_int T.n_int (da_cons (de_op opd_sub de_int (de_op opd_add (de_op opd_mulI (dv 14) (dv 12)) (de_op opd_mulI (dv 15) (dv 13)))) da_nil)) (dcall D_l_common_b8b4 hr gd (da_cons (dv 17) (da_cons (dv 16) da_nil)))) (da_cons (dv 17) (da_cons (dv 16) (da_cons (de_op opd_sub (de_op opd_sub de_int (dv 5)) (de_op opd_mulI (de_op opd_mulI de_int (dv 7)) (dv 4))) da_nil))))))))))))) hread hX
theorem ok_allowed_by {sp : DSp} (T : Txt K mg base) (hread : ∀ ds M Q, ds.length = 2 → sp ds M Q DX0 → t_allowed_by (dEnds M Q) (startD 6 ds) M) (hX : ∀ ds M Q E, sp ds M Q E → sp ds M Q DX0 := by exact fun _ _ _ _ h => h) : Def P w K mg base CX0 1 "allowed_by" s_allowed_by ["cutting", "far"] sp :=
 T.h_allowed_by.ok (t := t_allowed_by) sc_allowed_by (fun f cdv A outer s H E hr gd => (dss_cons (ds_asg (dv 0) (dg_tup rfl (dgs_cons (dg_name (i := 2) sc_allowed_by.nd) (dgs_cons (dg_name (i := 3) sc_allowed_by.nd) (dgs_cons (dg_name (i := 4) sc_allowed_by.nd) (dgs_cons (dg_name (i := 5) sc_allowed_by.nd) dgs_nil))))))
 (dss_one (ds_ret (de_cmp opd_gt (de_op opd_sub (de_op opd_sub (dv 3) (de_op opd_mulI (dv 1) (dv 5))) (de_op opd_mulI (de_op opd_mulI (dv 1) (dv 1)) (dv 4))) de_int (nomark _)))))) hread hX
theorem ok_round_of {sp : DSp} (T : Txt K mg base) (hread : ∀ ds M Q, ds.length = 1 → sp ds M Q DX0 → t_round_of (dEnds M Q) (startD 1 ds) M) (hX : ∀ ds M Q E, sp ds M Q E → sp ds M Q DX0 := by exact fun _ _ _ _ h => h) : Def P w K mg base CX0 1 "round_of" s_round_of ["cutting"] sp :=
 T.h_round_of.ok (t := t_round_of) sc_round_of (fun f cdv A outer s H E hr gd => (dss_one (ds_ret (de_op opd_fdiv (de_ix (dv 0) de_int) (de_bfun cd_gcd T.g_gcd (da_cons (de_ix (dv 0) de_int) (da_cons (de_ix (dv 0) de_int) da_nil))))))) hread hX
theorem ok_is_deed_by {c_allowed_by c_round_of : DSp} {sp : DSp} (T : Txt K mg base) (D_allowed_by : Def P w K mg base CX0 1 "allowed_by" s_allowed_by ["cutting", "far"] c_allowed_by) (D_round_of : Def P w K mg base CX0 1 "round_of" s_round_of ["cutting"] c_round_of) (hread : ∀ ds M Q, ds.length = 2 → sp ds M Q DX0 → t_is_deed_by c_allowed_by c_round_of (dEnds M Q) (startD 5 ds) M) (hX : ∀ ds M Q E, sp ds M Q E → sp ds M Q DX0 := by exact fun _ _ _ _ h => h) : Def P w K mg base CX0 2 "is_deed_by" s_is_deed_by ["cutting", "value"] sp :=
 T.h_is_deed_by.ok (t := t_is_deed_by c_allowed_by c_round_of) sc_is_deed_by (fun f cdv A outer s H E hr gd => (dss_cons (ds_if (DW.dt (dw_or (dt_not (dt_tru (de_blt cd_isi T.n_isinstance (da_cons (dv 1) (da_cons (de_bltn (v := .ty "tuple") T.n_tuple rfl) da_nil))))) (dw_or1 (dt_cmp (opd_ne (u64 hr)) (de_blt cd_len T.n_len (da_cons (dv 1) da_nil)) de_int (nomark _))))) (dss_one (ds_ret de_bl)) dss_nil)
 (dss_cons (ds_if (dt_cmp (opd_ne (u64 hr)) (de_lc false (own := [("part", 2)]) rfl sc_is_deed_by.nd (blkOk_by (N := ["cutting", "value", "part", "near", "far"]) (own := [("part", 2)]) (sc := (defScope s_is_deed_by)) (by decide +kernel)) (di_seq (dv 1)) (fun _ _ _ _ _ => (dcg_name (i := 2) sc_is_deed_by.nd)) (fun _ _ _ _ _ => (dts_one (DW.dt (dw_or (dt_not (dt_tru (de_blt cd_isi T.n_isinstance (da_cons (dv 2) (da_cons (de_bltn (v := .ty "int") T.n_int rfl) da_nil))))) (dw_or1 (dt_tru (de_blt cd_isi T.n_isinstance (da_cons (dv 2) (da_cons (de_bltn (v := .ty "bool") T.n_bool rfl) da_nil))))))))) (fun _ _ _ _ _ => (dv 2))) (de_lst da_nil) (nomark _)) (dss_one (ds_ret de_bl)) dss_nil)
 (dss_cons (ds_asg (dv 1) (dg_tup rfl (dgs_cons (dg_name (i := 3) sc_is_deed_by.nd) (dgs_cons (dg_name (i := 4) sc_is_deed_by.nd) dgs_nil))))
 (dss_cons (ds_if (DW.dt (dw_or (dt_cmp opd_lt (dv 4) de_int (nomark _)) (dw_or (dt_not (dt_tru (dcall D_allowed_by hr gd (da_cons (dv 0) (da_cons (dv 4) da_nil))))) (dw_or1 (dt_not (dt_chain opd_le opd_lt de_int (dv 3) (de_op opd_mulI (dv 4) (dcall D_round_of hr gd (da_cons (dv 0) da_nil))))))))) (dss_one (ds_ret de_bl)) dss_nil)
 (dss_one (ds_ret (de_cmp (opd_eq (u64 hr)) (de_bfun cd_gcd T.g_gcd (da_cons (dv 3) (da_cons (dv 4) da_nil))) de_int (nomark _))))))))) hread hX
theorem ok_check_deed {c_check_cutting c_is_deed_by : DSp} {sp : DSp} (T : Txt K mg base) (D_check_cutting : Def P w K mg base CX0 3 "check_cutting" s_check_cutting ["cutting"] c_check_cutting) (D_is_deed_by : Def P w K mg base CX0 2 "is_deed_by" s_is_deed_by ["cutting", "value"] c_is_deed_by) (hread : ∀ ds M Q, ds.length = 2 → sp ds M Q DX0 → t_check_deed c_check_cutting c_is_deed_by (dEnds M Q) (startD 2 ds) M) (hX : ∀ ds M Q E, sp ds M Q E → sp ds M Q DX0 := by exact fun _ _ _ _ h => h) : Def P w K mg base CX0 4 "check_deed" s_check_deed ["cutting", "deed"] sp :=
 T.h_check_deed.ok (t := t_check_deed c_check_cutting c_is_deed_by) sc_check_deed (fun f cdv A outer s H E hr gd => (dss_cons (ds_expr (dcall D_check_cutting hr gd (da_cons (dv 0) da_nil)))
 (dss_one (ds_if (dt_not (dt_tru (dcall D_is_deed_by hr gd (da_cons (dv 0) (da_cons (dv 1) da_nil))))) (dss_one ds_never) dss_nil)))) hread hX
theorem ok_shared {sp : DSp} (T : Txt K mg base) (hread : ∀ ds M Q, ds.length = 2 → sp ds M Q DX0 → t_shared (dEnds M Q) (startD 9 ds) M) (hX : ∀ ds M Q E, sp ds M Q E → sp ds M Q DX0 := by exact fun _ _ _ _ h => h) : Def P w K mg base CX0 1 "shared" s_shared ["one", "other"] sp :=
 T.h_shared.ok (t := t_shared) sc_shared (fun f cdv A outer s H E hr gd => (dss_cons (ds_asg (de_tup (da_cons (dv 0) (da_cons (dv 1) (da_cons de_int (da_cons de_int (da_cons de_int (da_cons de_int da_nil))))))) (dg_tup rfl (dgs_cons (dg_name (i := 2) sc_shared.nd) (dgs_cons (dg_name (i := 3) sc_shared.nd) (dgs_cons (dg_name (i := 4) sc_shared.nd) (dgs_cons (dg_name (i := 5) sc_shared.nd) (dgs_cons (dg_name (i := 6) sc_shared.nd) (dgs_cons (dg_name (i := 7) sc_shared.nd) dgs_nil))))))))
 (dss_cons (ds_while (dt_cmp (opd_ne (u64 hr)) (dv 3) de_int (nomark _)) (dss_cons (ds_set (i := 8) sc_shared.nd (de_op opd_fdiv (dv 2) (dv 3)))
 (dss_cons (ds_par (i := 2) (j := 3) rfl sc_shared.nd (da_cons (dv 3) (da_cons (de_op opd_sub (dv 2) (de_op opd_mulI (dv 8) (dv 3))) da_nil)))
 (dss_cons (ds_par (i := 4) (j := 5) rfl sc_shared.nd (da_cons (dv 5) (da_cons (de_op opd_sub (dv 4) (de_op opd_mulI (dv 8) (dv 5))) da_nil)))
 (dss_one (ds_par (i := 6) (j := 7) rfl sc_shared.nd (da_cons (dv 7) (da_cons (de_op opd_sub (dv 6) (de_op opd_mulI (dv 8) (dv 7))) da_nil))))))))
 (dss_one (ds_ret (de_if (dt_cmp opd_gt (dv 2) de_int (nomark _)) (de_tup (da_cons (dv 2) (da_cons (dv 4) (da_cons (dv 6) da_nil)))) (de_tup (da_cons (de_neg (dv 2)) (da_cons (de_neg (dv 4)) (da_cons (de_neg (dv 6)) da_nil)))))))))) hread hX
theorem ok_opposite_by {c_shared : DSp} {sp : DSp} (T : Txt K mg base) (D_shared : Def P w K mg base CX0 1 "shared" s_shared ["one", "other"] c_shared) (hread : ∀ ds M Q, ds.length = 2 → sp ds M Q DX0 → t_opposite_by c_shared (dEnds M Q) (startD 2 ds) M) (hX : ∀ ds M Q E, sp ds M Q E → sp ds M Q DX0 := by exact fun _ _ _ _ h => h) : Def P w K mg base CX0 2 "opposite_by" s_opposite_by ["number", "modulus"] sp :=
 T.h_opposite_by.ok (t := t_opposite_by c_shared) sc_opposite_by (fun f cdv A outer s H E hr gd => (dss_one (ds_ret (de_op opd_mod (de_ix (dcall D_shared hr gd (da_cons (de_op opd_mod (dv 0) (dv 1)) (da_cons (dv 1) da_nil))) de_int) (dv 1))))) hread hX
theorem ok_beside {c_opposite_by : DSp} {sp : DSp} (T : Txt K mg base) (D_opposite_by : Def P w K mg base CX0 2 "opposite_by" s_opposite_by ["number", "modulus"] c_opposite_by) (hread : ∀ ds M Q, ds.length = 1 → sp ds M Q DX0 → t_beside c_opposite_by (dEnds M Q) (startD 4 ds) M) (hX : ∀ ds M Q E, sp ds M Q E → sp ds M Q DX0 := by exact fun _ _ _ _ h => h) : Def P w K mg base CX0 3 "beside" s_beside ["deed"] sp :=
 T.h_beside.ok (t := t_beside c_opposite_by) sc_beside (fun f cdv A outer s H E hr gd => (dss_cons (ds_asg (dv 0) (dg_tup rfl (dgs_cons (dg_name (i := 1) sc_beside.nd) (dgs_cons (dg_name (i := 2) sc_beside.nd) dgs_nil))))
 (dss_cons (ds_set (i := 3) sc_beside.nd (de_if (dt_cmp opd_gt (dv 2) de_int (nomark _)) (dcall D_opposite_by hr gd (da_cons (dv 1) (da_cons (dv 2) da_nil))) de_int))
 (dss_one (ds_ret (de_tup (da_cons (de_op opd_fdiv (de_op opd_sub (de_op opd_mulI (dv 1) (dv 3)) de_int) (dv 2)) (da_cons (dv 3) da_nil)))))))) hread hX
theorem ok_table_by {c_beside : DSp} {sp : DSp} (T : Txt K mg base) (D_beside : Def P w K mg base CX0 3 "beside" s_beside ["deed"] c_beside) (hread : ∀ ds M Q, ds.length = 2 → sp ds M Q DX0 → t_table_by c_beside (dEnds M Q) (startD 11 ds) M) (hX : ∀ ds M Q E, sp ds M Q E → sp ds M Q DX0 := by exact fun _ _ _ _ h => h) : Def P w K mg base CX0 4 "table_by" s_table_by ["cutting", "deed"] sp :=
 T.h_table_by.ok (t := t_table_by c_beside) sc_table_by (fun f cdv A outer s H E hr gd => (dss_cons (ds_asg (dv 0) (dg_tup rfl (dgs_cons (dg_name (i := 2) sc_table_by.nd) (dgs_cons (dg_name (i := 3) sc_table_by.nd) (dgs_cons (dg_name (i := 4) sc_table_by.nd) (dgs_cons (dg_name (i := 5) sc_table_by.nd) dgs_nil))))))
 (dss_cons (ds_asg (dv 1) (dg_tup rfl (dgs_cons (dg_name (i := 6) sc_table_by.nd) (dgs_cons (dg_name (i := 7) sc_table_by.nd) dgs_nil))))
 (dss_cons (ds_asg (dcall D_beside hr gd (da_cons (dv 1) da_nil)) (dg_tup rfl (dgs_cons (dg_name (i := 8) sc_table_by.nd) (dgs_cons (dg_name (i := 9) sc_table_by.nd) dgs_nil))))
 (dss_cons (ds_set (i := 10) sc_table_by.nd (de_op opd_add (de_op opd_add (de_op opd_add (de_op opd_mulI (dv 8) (dv 3)) (de_op opd_mulI (dv 9) (dv 2))) (dv 5)) (de_op opd_mulI (dv 7) (dv 4))))
 (dss_one (ds_ret (de_tup (da_cons (de_tup (da_cons (de_op opd_add (de_op opd_mulI (dv 6) (dv 3)) (de_op opd_mulI (dv 7) (dv 2))) (da_cons (de_op opd_mulI (dv 7) (dv 4)) (da_cons (dv 10) (da_cons (de_op opd_mulI (dv 9) (dv 4)) da_nil))))) (da_cons (dv 8) (da_cons (dv 9) da_nil))))))))))) hread hX
theorem ok_full_by {c_table_by c_shared c_opposite_by : DSp} {sp : DSp} (T : Txt K mg base) (D_table_by : Def P w K mg base CX0 4 "table_by" s_table_by ["cutting", "deed"] c_table_by) (D_shared : Def P w K mg base CX0 1 "shared" s_shared ["one", "other"] c_shared) (D_opposite_by : Def P w K mg base CX0 2 "opposite_by" s_opposite_by ["number", "modulus"] c_opposite_by) (hread : ∀ ds M Q, ds.length = 2 → sp ds M Q DX0 → t_full_by c_table_by c_shared c_opposite_by (dEnds M Q) (startD 18 ds) M) (hX : ∀ ds M Q E, sp ds M Q E → sp ds M Q DX0 := by exact fun _ _ _ _ h => h) : Def P w K mg base CX0 5 "full_by" s_full_by ["cutting", "deed"] sp :=
 T.h_full_by.ok (t := t_full_by c_table_by c_shared c_opposite_by) sc_full_by (fun f cdv A outer s H E hr gd => (dss_cons (ds_asg (dcall D_table_by hr gd (da_cons (dv 0) (da_cons (dv 1) da_nil))) (dg_tup rfl (dgs_cons (dg_tup rfl (dgs_cons (dg_name (i := 2) sc_full_by.nd) (dgs_cons (dg_name (i := 3) sc_full_by.nd) (dgs_cons (dg_name (i := 4) sc_full_by.nd) (dgs_cons (dg_name (i := 5) sc_full_by.nd) dgs_nil))))) (dgs_cons (dg_name (i := 6) sc_full_by.nd) (dgs_cons (dg_name (i := 7) sc_full_by.nd) dgs_nil)))))
 (dss_cons (ds_asg (dcall D_shared hr gd (da_cons (dv 2) (da_cons (dv 3) da_nil))) (dg_tup rfl (dgs_cons (dg_name (i := 8) sc_full_by.nd) (dgs_cons (dg_name (i := 9) sc_full_by.nd) (dgs_cons (dg_name (i := 10) sc_full_by.nd) dgs_nil)))))
 (dss_cons (ds_set (i := 11) sc_full_by.nd (de_op opd_fdiv (de_op opd_sub (de_op opd_mulI (dv 2) (dv 5)) (de_op opd_mulI (dv 3) (dv 4))) (dv 8)))
 (dss_cons (ds_par (i := 12) (j := 13) rfl sc_full_by.nd (da_cons (de_bfun cd_gcd T.g_gcd (da_cons (dv 11) (da_cons (dv 8) da_nil))) (da_cons (de_neg (de_op opd_add (de_op opd_mulI (dv 9) (dv 4)) (de_op opd_mulI (dv 10) (dv 5)))) da_nil)))
 (dss_cons (ds_par (i := 14) (j := 15) rfl sc_full_by.nd (da_cons (de_op opd_mod (dv 13) (dv 12)) (da_cons (de_op opd_fdiv (dv 8) (dv 12)) da_nil)))
 (dss_cons (ds_set (i := 16) sc_full_by.nd (de_if (dt_cmp opd_gt (dv 15) de_int (nomark _)) (de_op opd_mod (de_op opd_mulI (de_op opd_fdiv (de_op opd_sub (dv 14) (dv 13)) (dv 12)) (dcall D_opposite_by hr gd (da_cons (de_op opd_fdiv (dv 11) (dv 12)) (da_cons (dv 15) da_nil)))) (dv 15)) de_int))
 (dss_cons (ds_par3 (i := 9) (j := 10) (l := 13) rfl sc_full_by.nd (da_cons (de_op opd_add (dv 9) (de_op opd_mulI (dv 16) (de_op opd_fdiv (dv 3) (dv 8)))) (da_cons (de_op opd_sub (dv 10) (de_op opd_mulI (dv 16) (de_op opd_fdiv (dv 2) (dv 8)))) (da_cons (de_op opd_add (dv 13) (de_op opd_mulI (dv 16) (dv 11))) da_nil))))
 (dss_cons (ds_set (i := 17) sc_full_by.nd (de_tup (da_cons (dv 14) (da_cons (dv 11) (da_cons (dv 8) (da_cons (de_op opd_sub (de_neg (de_ix (dv 0) de_int)) (de_op opd_mulI (de_op opd_mulI de_int (de_ix (dv 1) de_int)) (de_ix (dv 0) de_int))) da_nil))))))
 (dss_one (ds_ret (de_tup (da_cons (dv 17) (da_cons (de_tup (da_cons (de_tup (da_cons (dv 9) (da_cons (dv 10) da_nil))) (da_cons (de_tup (da_cons (de_neg (de_op opd_fdiv (dv 3) (dv 8))) (da_cons (de_op opd_fdiv (dv 2) (dv 8)) da_nil))) da_nil))) (da_cons (de_op opd_fdiv (de_op opd_sub (dv 13) (dv 14)) (dv 8)) (da_cons (dv 6) (da_cons (dv 7) da_nil))))))))))))))))) hread hX
theorem ok_back_by {c_full_by c_round_of : DSp} {sp : DSp} (T : Txt K mg base) (D_full_by : Def P w K mg base CX0 5 "full_by" s_full_by ["cutting", "deed"] c_full_by) (D_round_of : Def P w K mg base CX0 1 "round_of" s_round_of ["cutting"] c_round_of) (hread : ∀ ds M Q, ds.length = 2 → sp ds M Q DX0 → t_back_by c_full_by c_round_of (dEnds M Q) (startD 6 ds) M) (hX : ∀ ds M Q E, sp ds M Q E → sp ds M Q DX0 := by exact fun _ _ _ _ h => h) : Def P w K mg base CX0 6 "back_by" s_back_by ["cutting", "deed"] sp :=
 T.h_back_by.ok (t := t_back_by c_full_by c_round_of) sc_back_by (fun f cdv A outer s H E hr gd => (dss_cons (ds_asg (dcall D_full_by hr gd (da_cons (dv 0) (da_cons (dv 1) da_nil))) (dg_tup rfl (dgs_cons (dg_name (i := 2) sc_back_by.nd) (dgs_cons (dg_name (i := 3) sc_back_by.nd) (dgs_cons (dg_name (i := 4) sc_back_by.nd) (dgs_cons (dg_name (i := 4) sc_back_by.nd) (dgs_cons (dg_name (i := 4) sc_back_by.nd) dgs_nil)))))))
 (dss_cons (ds_set (i := 5) sc_back_by.nd (de_neg (de_ix (de_ix (dv 3) de_int) de_int)))
 (dss_one (ds_ret (de_tup (da_cons (de_op opd_mod (de_neg (de_ix (de_ix (dv 3) de_int) de_int)) (de_op opd_mulI (dv 5) (dcall D_round_of hr gd (da_cons (dv 2) da_nil)))) (da_cons (dv 5) da_nil)))))))) hread hX
theorem ok_back {c_check_deed c_back_by : DSp} {sp : DSp} (T : Txt K mg base) (D_check_deed : Def P w K mg base CX0 4 "check_deed" s_check_deed ["cutting", "deed"] c_check_deed) (D_back_by : Def P w K mg base CX0 6 "back_by" s_back_by ["cutting", "deed"] c_back_by) (hread : ∀ ds M Q, ds.length = 2 → sp ds M Q DX0 → t_back c_check_deed c_back_by (dEnds M Q) (startD 2 ds) M) (hX : ∀ ds M Q E, sp ds M Q E → sp ds M Q DX0 := by exact fun _ _ _ _ h => h) : Def P w K mg base CX0 7 "back" s_back ["cutting", "deed"] sp :=
 T.h_back.ok (t := t_back c_check_deed c_back_by) sc_back (fun f cdv A outer s H E hr gd => (dss_cons (ds_expr (dcall D_check_deed hr gd (da_cons (dv 0) (da_cons (dv 1) da_nil))))
 (dss_one (ds_ret (dcall D_back_by hr gd (da_cons (dv 0) (da_cons (dv 1) da_nil))))))) hread hX
theorem ok_l_self_a3eb {c_l_base_3ec4 : DSp} {sp : DSp} (T : Txt K mg base) (D_l_base_3ec4 : Def P w K mg base CX0 1 "_law_base" s_l_base_3ec4 ["_law_at"] c_l_base_3ec4) (hread : ∀ ds M Q, ds.length = 0 → sp ds M Q DX0 → t_l_self_a3eb c_l_base_3ec4 (dEnds M Q) (startD 1 ds) M) (hX : ∀ ds M Q E, sp ds M Q E → sp ds M Q DX0 := by exact fun _ _ _ _ h => h) : Def P w K mg base CX0 2 "_law_self" s_l_self_a3eb [] sp :=
 T.h_l_self_a3eb.ok (t := t_l_self_a3eb c_l_base_3ec4) sc_l_self_a3eb (fun f cdv A outer s H E hr gd => (dss_one (ds_ret (de_lc false (own := [("_law_at", 0)]) rfl sc_l_self_a3eb.nd (blkOk_by (N := ["_law_at"]) (own := [("_law_at", 0)]) (sc := (defScope s_l_self_a3eb)) (by decide +kernel)) (di_range1 T.n_range (da_cons de_int da_nil)) (fun _ _ _ _ _ => (dcg_name (i := 0) sc_l_self_a3eb.nd)) (fun _ _ _ _ _ => dts_nil) (fun _ _ _ _ _ => (dcall D_l_base_3ec4 hr gd (da_cons (dv 0) da_nil))))))) hread hX
theorem ok_led_down {sp : DSp} (T : Txt K mg base) (hread : ∀ ds M Q, ds.length = 2 → sp ds M Q DX0 → t_led_down (dEnds M Q) (startD 10 ds) M) (hX : ∀ ds M Q E, sp ds M Q E → sp ds M Q DX0 := by exact fun _ _ _ _ h => h) : Def P w K mg base CX0 1 "led_down" s_led_down ["first", "second"] sp :=
 T.h_led_down.ok (t := t_led_down) sc_led_down (fun f cdv A outer s H E hr gd => (dss_cons (ds_asg (de_tup (da_cons (dv 0) (da_cons (dv 1) (da_cons (de_tup (da_cons de_int (da_cons de_int da_nil))) (da_cons (de_tup (da_cons de_int (da_cons de_int da_nil))) da_nil))))) (dg_tup rfl (dgs_cons (dg_name (i := 2) sc_led_down.nd) (dgs_cons (dg_name (i := 3) sc_led_down.nd) (dgs_cons (dg_name (i := 4) sc_led_down.nd) (dgs_cons (dg_name (i := 5) sc_led_down.nd) dgs_nil))))))
 (dss_cons (ds_while (dt_cmp (opd_ne (u64 hr)) (de_ix (dv 3) de_int) de_int (nomark _)) (dss_cons (ds_set (i := 6) sc_led_down.nd (de_op opd_fdiv (de_ix (dv 2) de_int) (de_ix (dv 3) de_int)))
 (dss_cons (ds_set (i := 7) sc_led_down.nd (de_tup (da_cons (de_op opd_sub (de_op opd_mulI (dv 6) (de_ix (dv 3) de_int)) (de_ix (dv 2) de_int)) (da_cons (de_op opd_sub (de_op opd_mulI (dv 6) (de_ix (dv 3) de_int)) (de_ix (dv 2) de_int)) da_nil))))
 (dss_cons (ds_set (i := 8) sc_led_down.nd (de_tup (da_cons (de_op opd_sub (de_op opd_mulI (dv 6) (de_ix (dv 5) de_int)) (de_ix (dv 4) de_int)) (da_cons (de_op opd_sub (de_op opd_mulI (dv 6) (de_ix (dv 5) de_int)) (de_ix (dv 4) de_int)) da_nil))))
 (dss_one (ds_asg (de_tup (da_cons (dv 3) (da_cons (dv 7) (da_cons (dv 5) (da_cons (dv 8) da_nil))))) (dg_tup rfl (dgs_cons (dg_name (i := 2) sc_led_down.nd) (dgs_cons (dg_name (i := 3) sc_led_down.nd) (dgs_cons (dg_name (i := 4) sc_led_down.nd) (dgs_cons (dg_name (i := 5) sc_led_down.nd) dgs_nil)))))))))))
 (dss_cons (ds_set (i := 9) sc_led_down.nd (de_if (dt_cmp opd_gt (de_ix (dv 2) de_int) de_int (nomark _)) de_int (de_neg de_int)))
 (dss_cons (ds_par (i := 2) (j := 3) rfl sc_led_down.nd (da_cons (de_tup (da_cons (de_op opd_mulI (dv 9) (de_ix (dv 2) de_int)) (da_cons (de_op opd_mulI (dv 9) (de_ix (dv 2) de_int)) da_nil))) (da_cons (de_tup (da_cons (de_op opd_mulI (dv 9) (de_ix (dv 3) de_int)) (da_cons (de_op opd_mulI (dv 9) (de_ix (dv 3) de_int)) da_nil))) da_nil)))
 (dss_one (ds_ret (de_tup (da_cons (dv 2) (da_cons (dv 3) (da_cons (de_tup (da_cons (de_op opd_mulI (dv 9) (de_ix (dv 4) de_int)) (da_cons (de_op opd_mulI (dv 9) (de_ix (dv 4) de_int)) da_nil))) (da_cons (de_tup (da_cons (de_op opd_mulI (dv 9) (de_ix (dv 5) de_int)) (da_cons (de_op opd_mulI (dv 9) (de_ix (dv 5) de_int)) da_nil))) da_nil)))))))))))) hread hX
theorem ok_done_by {c_full_by : DSp} {sp : DSp} (T : Txt K mg base) (D_full_by : Def P w K mg base CX0 5 "full_by" s_full_by ["cutting", "deed"] c_full_by) (hread : ∀ ds M Q, ds.length = 2 → sp ds M Q DX0 → t_done_by c_full_by (dEnds M Q) (startD 2 ds) M) (hX : ∀ ds M Q E, sp ds M Q E → sp ds M Q DX0 := by exact fun _ _ _ _ h => h) : Def P w K mg base CX0 6 "done_by" s_done_by ["cutting", "deed"] sp :=
 T.h_done_by.ok (t := t_done_by c_full_by) sc_done_by (fun f cdv A outer s H E hr gd => (dss_one (ds_ret (de_ix (dcall D_full_by hr gd (da_cons (dv 0) (da_cons (dv 1) da_nil))) de_int)))) hread hX
theorem ok_deed_table_by {c_opposite_by c_led_down c_done_by c_turned_about : DSp} {sp : DSp} (T : Txt K mg base) (D_opposite_by : Def P w K mg base CX0 2 "opposite_by" s_opposite_by ["number", "modulus"] c_opposite_by) (D_led_down : Def P w K mg base CX0 1 "led_down" s_led_down ["first", "second"] c_led_down) (D_done_by : Def P w K mg base CX0 6 "done_by" s_done_by ["cutting", "deed"] c_done_by) (D_turned_about : Def P w K mg base CX0 1 "turned_about" s_turned_about ["table"] c_turned_about) (hread : ∀ ds M Q, ds.length = 2 → sp ds M Q DX0 → t_deed_table_by c_opposite_by c_led_down c_done_by c_turned_about (dEnds M Q) (startD 23 ds) M) (hX : ∀ ds M Q E, sp ds M Q E → sp ds M Q DX0 := by exact fun _ _ _ _ h => h) : Def P w K mg base CX0 7 "deed_table_by" s_deed_table_by ["cutting", "deed"] sp :=
 T.h_deed_table_by.ok (t := t_deed_table_by c_opposite_by c_led_down c_done_by c_turned_about) sc_deed_table_by (fun f cdv A outer s H E hr gd => (dss_cons (ds_asg (dv 0) (dg_tup rfl (dgs_cons (dg_name (i := 2) sc_deed_table_by.nd) (dgs_cons (dg_name (i := 3) sc_deed_table_by.nd) (dgs_cons (dg_name (i := 4) sc_deed_table_by.nd) (dgs_cons (dg_name (i := 5) sc_deed_table_by.nd) dgs_nil))))))
 (dss_cons (ds_asg (dv 1) (dg_tup rfl (dgs_cons (dg_name (i := 6) sc_deed_table_by.nd) (dgs_cons (dg_name (i := 7) sc_deed_table_by.nd) dgs_nil))))
 (dss_cons (ds_set (i := 8) sc_deed_table_by.nd (de_if (dt_cmp (opd_eq (u64 hr)) (dv 6) de_int (nomark _)) (de_neg de_int) (de_op opd_mod (de_neg (dcall D_opposite_by hr gd (da_cons (dv 7) (da_cons (dv 6) da_nil)))) (dv 6))))
 (dss_cons (ds_set (i := 9) sc_deed_table_by.nd (de_if (dt_cmp (opd_eq (u64 hr)) (dv 6) de_int (nomark _)) de_int (de_op opd_fdiv (de_op opd_add de_int (de_op opd_mulI (dv 7) (dv 8))) (dv 6))))
 (dss_cons (ds_asg (dcall D_led_down hr gd (da_cons (de_tup (da_cons (de_op opd_add (de_op opd_mulI (dv 6) (dv 3)) (de_op opd_mulI (dv 7) (dv 2))) (da_cons (de_op opd_add (de_op opd_add (de_op opd_add (de_op opd_mulI (dv 8) (dv 3)) (de_op opd_mulI (dv 9) (dv 2))) (dv 5)) (de_op opd_mulI (dv 7) (dv 4))) da_nil))) (da_cons (de_tup (da_cons (de_op opd_mulI (dv 7) (dv 4)) (da_cons (de_op opd_mulI (dv 9) (dv 4)) da_nil))) da_nil))) (dg_tup rfl (dgs_cons (dg_name (i := 10) sc_deed_table_by.nd) (dgs_cons (dg_name (i := 11) sc_deed_table_by.nd) (dgs_cons (dg_name (i := 12) sc_deed_table_by.nd) (dgs_cons (dg_name (i := 13) sc_deed_table_by.nd) dgs_nil))))))
 (dss_cons (ds_set (i := 14) sc_deed_table_by.nd (dcall D_done_by hr gd (da_cons (dv 0) (da_cons (dv 1) da_nil))))
 (dss_cons (ds_par (i := 15) (j := 16) rfl sc_deed_table_by.nd (da_cons (de_ix (dv 11) de_int) (da_cons (de_bfun cd_gcd T.g_gcd (da_cons (de_ix (dv 11) de_int) (da_cons (de_ix (dv 10) de_int) da_nil))) da_nil)))
 (dss_cons (ds_set (i := 17) sc_deed_table_by.nd (de_op opd_fdiv (dv 15) (dv 16)))
 (dss_cons (ds_set (i := 18) sc_deed_table_by.nd (de_if (dt_cmp opd_gt (dv 17) de_int (nomark _)) (de_op opd_mod (de_op opd_mulI (de_op opd_fdiv (de_op opd_sub (de_neg (de_ix (dv 10) de_int)) (de_ix (dv 14) de_int)) (dv 16)) (dcall D_opposite_by hr gd (da_cons (de_op opd_fdiv (de_ix (dv 10) de_int) (dv 16)) (da_cons (dv 17) da_nil)))) (dv 17)) de_int))
 (dss_cons (ds_set (i := 18) sc_deed_table_by.nd (de_op opd_sub (dv 18) (de_op opd_mulI (de_op opd_fdiv (de_op opd_add (dv 9) (de_op opd_mulI (dv 18) (dv 7))) (de_op opd_mulI (dv 7) (dv 17))) (dv 17))))
 (dss_cons (ds_set (i := 19) sc_deed_table_by.nd (de_op opd_fdiv (de_op opd_add (de_op opd_add (de_ix (dv 14) de_int) (de_ix (dv 10) de_int)) (de_op opd_mulI (dv 18) (de_ix (dv 10) de_int))) (dv 15)))
 (dss_cons (ds_set (i := 12) sc_deed_table_by.nd (de_tup (da_cons (de_op opd_sub (de_ix (dv 12) de_int) (de_op opd_mulI (dv 19) (de_ix (dv 13) de_int))) (da_cons (de_op opd_sub (de_ix (dv 12) de_int) (de_op opd_mulI (dv 19) (de_ix (dv 13) de_int))) da_nil))))
 (dss_cons (ds_set (i := 20) sc_deed_table_by.nd (de_own (da_cons (de_lst (da_cons de_int (da_cons de_int (da_cons (dv 6) (da_cons (dv 7) da_nil))))) (da_cons (de_lst (da_cons de_int (da_cons de_int (da_cons (de_op opd_add (dv 8) (de_op opd_mulI (dv 18) (dv 6))) (da_cons (de_op opd_add (dv 9) (de_op opd_mulI (dv 18) (dv 7))) da_nil))))) da_nil))))
 (dss_cons (ds_for rfl (di_seq (de_lst (da_cons (de_tup (da_cons (de_ix (dv 13) de_int) (da_cons (de_neg (de_ix (dv 13) de_int)) da_nil))) (da_cons (de_tup (da_cons (de_neg (de_ix (dv 12) de_int)) (da_cons (de_ix (dv 12) de_int) da_nil))) da_nil)))) (dg_tup rfl (dgs_cons (dg_name (i := 21) sc_deed_table_by.nd) (dgs_cons (dg_name (i := 22) sc_deed_table_by.nd) dgs_nil))) (dss_one (ds_expr (de_append (dv 20) (da_cons (de_lst (da_cons (dv 21) (da_cons (dv 22) (da_cons (de_op opd_mulI (dv 22) (dv 6)) (da_cons (de_op opd_mulI (dv 22) (dv 7)) da_nil))))) da_nil)))))
 (dss_one (ds_ret (dcall D_turned_about hr gd (da_cons (dv 20) da_nil))))))))))))))))))) hread hX
theorem ok_deed_table {c_check_cutting c_check_deed c_deed_table_by : DSp} {sp : DSp} (T : Txt K mg base) (D_check_cutting : Def P w K mg base CX0 3 "check_cutting" s_check_cutting ["cutting"] c_check_cutting) (D_check_deed : Def P w K mg base CX0 4 "check_deed" s_check_deed ["cutting", "deed"] c_check_deed) (D_deed_table_by : Def P w K mg base CX0 7 "deed_table_by" s_deed_table_by ["cutting", "deed"] c_deed_table_by) (hread : ∀ ds M Q, ds.length = 2 → sp ds M Q DX0 → t_deed_table c_check_cutting c_check_deed c_deed_table_by (dEnds M Q) (startD 2 ds) M) (hX : ∀ ds M Q E, sp ds M Q E → sp ds M Q DX0 := by exact fun _ _ _ _ h => h) : Def P w K mg base CX0 8 "deed_table" s_deed_table ["cutting", "deed"] sp :=
 T.h_deed_table.ok (t := t_deed_table c_check_cutting c_check_deed c_deed_table_by) sc_deed_table (fun f cdv A outer s H E hr gd => (dss_cons (ds_expr (dcall D_check_cutting hr gd (da_cons (dv 0) da_nil)))
 (dss_cons (ds_expr (dcall D_check_deed hr gd (da_cons (dv 0) (da_cons (dv 1) da_nil))))
 (dss_one (ds_ret (dcall D_deed_table_by hr gd (da_cons (dv 0) (da_cons (dv 1) da_nil)))))))) hread hX
theorem ok_back_of_o {sp : DSp} (T : Txt K mg base) (hread : ∀ ds M Q, ds.length = 1 → sp ds M Q DX0 → t_back_of_o (dEnds M Q) (startD 8 ds) M) (hX : ∀ ds M Q E, sp ds M Q E → sp ds M Q DX0 := by exact fun _ _ _ _ h => h) : Def P w K mg base CX0 1 "back_of" s_back_of_o ["table"] sp :=
 T.h_back_of_o.ok (t := t_back_of_o) sc_back_of_o (fun f cdv A outer s H E hr gd => (dss_cons (ds_set (i := 1) sc_back_of_o.nd (de_own da_nil))
 (dss_cons (ds_for rfl (di_range1 T.n_range (da_cons de_int da_nil)) (dg_name (i := 2) sc_back_of_o.nd) (dss_cons (ds_set (i := 3) sc_back_of_o.nd (de_if (dt_cmp (opd_eq (u64 hr)) (de_op opd_mod (dv 2) de_int) de_int (nomark _)) (de_op opd_add (dv 2) de_int) (de_op opd_sub (dv 2) de_int)))
 (dss_cons (ds_set (i := 4) sc_back_of_o.nd (de_if (dt_cmp (opd_eq (u64 hr)) (de_op opd_mod (dv 2) de_int) de_int (nomark _)) de_int (de_neg de_int)))
 (dss_cons (ds_set (i := 5) sc_back_of_o.nd (de_own da_nil))
 (dss_cons (ds_for rfl (di_range1 T.n_range (da_cons de_int da_nil)) (dg_name (i := 6) sc_back_of_o.nd) (dss_cons (ds_set (i := 7) sc_back_of_o.nd (de_if (dt_cmp (opd_eq (u64 hr)) (de_op opd_mod (dv 6) de_int) de_int (nomark _)) (de_op opd_add (dv 6) de_int) (de_op opd_sub (dv 6) de_int)))
 (dss_one (ds_expr (de_append (dv 5) (da_cons (de_op opd_mulI (de_op opd_mulI (dv 4) (de_if (dt_cmp (opd_eq (u64 hr)) (de_op opd_mod (dv 6) de_int) de_int (nomark _)) de_int (de_neg de_int))) (de_ix (de_ix (dv 0) (dv 7)) (dv 3))) da_nil))))))
 (dss_one (ds_expr (de_append (dv 1) (da_cons (dv 5) da_nil)))))))))
 (dss_one (ds_ret (dv 1)))))) hread hX
theorem ok_back_shear_by {c_back_of_o c_deed_table_by c_done_by : DSp} {sp : DSp} (T : Txt K mg base) (D_back_of_o : Def P w K mg base CX0 1 "back_of" s_back_of_o ["table"] c_back_of_o) (D_deed_table_by : Def P w K mg base CX0 7 "deed_table_by" s_deed_table_by ["cutting", "deed"] c_deed_table_by) (D_done_by : Def P w K mg base CX0 6 "done_by" s_done_by ["cutting", "deed"] c_done_by) (hread : ∀ ds M Q, ds.length = 2 → sp ds M Q DX0 → t_back_shear_by c_back_of_o c_deed_table_by c_done_by (dEnds M Q) (startD 6 ds) M) (hX : ∀ ds M Q E, sp ds M Q E → sp ds M Q DX0 := by exact fun _ _ _ _ h => h) : Def P w K mg base CX0 8 "back_shear_by" s_back_shear_by ["cutting", "deed"] sp :=
 T.h_back_shear_by.ok (t := t_back_shear_by c_back_of_o c_deed_table_by c_done_by) sc_back_shear_by (fun f cdv A outer s H E hr gd => (dss_cons (ds_par (i := 2) (j := 3) rfl sc_back_shear_by.nd (da_cons (dcall D_back_of_o hr gd (da_cons (dcall D_deed_table_by hr gd (da_cons (dv 0) (da_cons (dv 1) da_nil))) da_nil)) (da_cons (dcall D_done_by hr gd (da_cons (dv 0) (da_cons (dv 1) da_nil))) da_nil)))
 (dss_cons (ds_par (i := 4) (j := 5) rfl sc_back_shear_by.nd (da_cons (de_ix (de_ix (dv 2) de_int) de_int) (da_cons (de_ix (de_ix (dv 2) de_int) de_int) da_nil)))
 (dss_cons (ds_if (dt_cmp opd_lt (dv 5) de_int (nomark _)) (dss_one (ds_par (i := 4) (j := 5) rfl sc_back_shear_by.nd (da_cons (de_neg (dv 4)) (da_cons (de_neg (dv 5)) da_nil)))) dss_nil)
 (dss_one (ds_ret (de_op opd_fdiv (dv 4) (de_op opd_mulI (dv 5) (de_op opd_fdiv (de_ix (dv 3) de_int) (de_bfun cd_gcd T.g_gcd (da_cons (de_ix (dv 3) de_int) (da_cons (de_ix (dv 3) de_int) da_nil)))))))))))) hread hX
theorem ok_back_shear {c_check_cutting c_check_deed c_back_shear_by : DSp} {sp : DSp} (T : Txt K mg base) (D_check_cutting : Def P w K mg base CX0 3 "check_cutting" s_check_cutting ["cutting"] c_check_cutting) (D_check_deed : Def P w K mg base CX0 4 "check_deed" s_check_deed ["cutting", "deed"] c_check_deed) (D_back_shear_by : Def P w K mg base CX0 8 "back_shear_by" s_back_shear_by ["cutting", "deed"] c_back_shear_by) (hread : ∀ ds M Q, ds.length = 2 → sp ds M Q DX0 → t_back_shear c_check_cutting c_check_deed c_back_shear_by (dEnds M Q) (startD 2 ds) M) (hX : ∀ ds M Q E, sp ds M Q E → sp ds M Q DX0 := by exact fun _ _ _ _ h => h) : Def P w K mg base CX0 9 "back_shear" s_back_shear ["cutting", "deed"] sp :=
 T.h_back_shear.ok (t := t_back_shear c_check_cutting c_check_deed c_back_shear_by) sc_back_shear (fun f cdv A outer s H E hr gd => (dss_cons (ds_expr (dcall D_check_cutting hr gd (da_cons (dv 0) da_nil)))
 (dss_cons (ds_expr (dcall D_check_deed hr gd (da_cons (dv 0) (da_cons (dv 1) da_nil))))
 (dss_one (ds_ret (dcall D_back_shear_by hr gd (da_cons (dv 0) (da_cons (dv 1) da_nil)))))))) hread hX
theorem ok_l_is_table_0704 {sp : DSp} (T : Txt K mg base) (hread : ∀ ds M Q, ds.length = 1 → sp ds M Q DX0 → t_l_is_table_0704 (dEnds M Q) (startD 3 ds) M) (hX : ∀ ds M Q E, sp ds M Q E → sp ds M Q DX0 := by exact fun _ _ _ _ h => h) : Def P w K mg base CX0 1 "_law_is_table" s_l_is_table_0704 ["_law_value"] sp :=
 T.h_l_is_table_0704.ok (t := t_l_is_table_0704) sc_l_is_table_0704 (fun f cdv A outer s H E hr gd => (dss_cons (ds_if (DW.dt (dw_or (dt_not (dt_tru (de_blt cd_isi T.n_isinstance (da_cons (dv 0) (da_cons (de_bltn (v := .ty "list") T.n_list rfl) da_nil))))) (dw_or1 (dt_cmp (opd_ne (u64 hr)) (de_blt cd_len T.n_len (da_cons (dv 0) da_nil)) de_int (nomark _))))) (dss_one (ds_ret de_bl)) dss_nil)
 (dss_cons (ds_for rfl (di_seq (dv 0)) (dg_name (i := 1) sc_l_is_table_0704.nd) (dss_one (ds_if (DW.dt (dw_or (dt_not (dt_tru (de_blt cd_isi T.n_isinstance (da_cons (dv 1) (da_cons (de_bltn (v := .ty "list") T.n_list rfl) da_nil))))) (dw_or (dt_cmp (opd_ne (u64 hr)) (de_blt cd_len T.n_len (da_cons (dv 1) da_nil)) de_int (nomark _)) (dw_or1 (dt_cmp (opd_ne (u64 hr)) (de_lc false (own := [("_law_item", 2)]) rfl sc_l_is_table_0704.nd (blkOk_by (N := ["_law_value", "_law_row", "_law_item"]) (own := [("_law_item", 2)]) (sc := (defScope s_l_is_table_0704)) (by decide +kernel)) (di_seq (dv 1)) (fun _ _ _ _ _ => (dcg_name (i := 2) sc_l_is_table_0704.nd)) (fun _ _ _ _ _ => (dts_one (DW.dt (dw_or (dt_tru (de_blt cd_isi T.n_isinstance (da_cons (dv 2) (da_cons (de_bltn (v := .ty "bool") T.n_bool rfl) da_nil)))) (dw_or1 (dt_not (dt_tru (de_blt cd_isi T.n_isinstance (da_cons (dv 2) (da_cons (de_bltn (v := .ty "int") T.n_int rfl) da_nil)))))))))) (fun _ _ _ _ _ => (dv 2))) (de_lst da_nil) (nomark _)))))) (dss_one (ds_ret de_bl)) dss_nil)))
 (dss_one (ds_ret de_bl))))) hread hX
theorem ok_l_is_deed_table_6abb {c_l_is_table_0704 c_l_keeps_2d4c c_l_done_855c c_l_columns_d906 c_l_common_b8b4 c_l_led_3b4c c_l_rooted_a87a c_l_base_3ec4 : DSp} {sp : DSp} (T : Txt K mg base) (D_l_is_table_0704 : Def P w K mg base CX0 1 "_law_is_table" s_l_is_table_0704 ["_law_value"] c_l_is_table_0704) (D_l_keeps_2d4c : Def P w K mg base CX0 2 "_law_keeps" s_l_keeps_2d4c ["_law_table"] c_l_keeps_2d4c) (D_l_done_855c : Def P w K mg base CX0 3 "_law_done" s_l_done_855c ["_law_cutting_here", "_law_deed_here"] c_l_done_855c) (D_l_columns_d906 : Def P w K mg base CX0 1 "_law_columns" s_l_columns_d906 ["_law_table"] c_l_columns_d906) (D_l_common_b8b4 : Def P w K mg base CX0 1 "_law_common" s_l_common_b8b4 ["_law_one", "_law_other"] c_l_common_b8b4) (D_l_led_3b4c : Def P w K mg base CX0 1 "_law_led" s_l_led_3b4c ["_law_table", "_law_path"] c_l_led_3b4c) (D_l_rooted_a87a : Def P w K mg base CX0 1 "_law_rooted" s_l_rooted_a87a ["_law_cutting_here", "_law_path"] c_l_rooted_a87a) (D_l_base_3ec4 : Def P w K mg base CX0 1 "_law_base" s_l_base_3ec4 ["_law_at"] c_l_base_3ec4) (hread : ∀ ds M Q, ds.length = 3 → sp ds M Q DX0 → t_l_is_deed_table_6abb c_l_is_table_0704 c_l_keeps_2d4c c_l_done_855c c_l_columns_d906 c_l_common_b8b4 c_l_led_3b4c c_l_rooted_a87a c_l_base_3ec4 (dEnds M Q) (startD 14 ds) M) (hX : ∀ ds M Q E, sp ds M Q E → sp ds M Q DX0 := by exact fun _ _ _ _ h => h) : Def P w K mg base CX0 4 "_law_is_deed_table" s_l_is_deed_table_6abb ["_law_cutting_here", "_law_deed_here", "_law_table"] sp :=
 T.h_l_is_deed_table_6abb.ok (t := t_l_is_deed_table_6abb c_l_is_table_0704 c_l_keeps_2d4c c_l_done_855c c_l_columns_d906 c_l_common_b8b4 c_l_led_3b4c c_l_rooted_a87a c_l_base_3ec4) sc_l_is_deed_table_6abb (fun f cdv A outer s H E hr gd => (dss_cons (ds_if (DW.dt (dw_or (dt_not (dt_tru (dcall D_l_is_table_0704 hr gd (da_cons (dv 2) da_nil)))) (dw_or1 (dt_not (dt_tru (dcall D_l_keeps_2d4c hr gd (da_cons (dv 2) da_nil))))))) (dss_one (ds_ret de_bl)) dss_nil)
 (dss_cons (ds_asg (de_tup (da_cons (dv 1) (da_cons (dcall D_l_done_855c hr gd (da_cons (dv 0) (da_cons (dv 1) da_nil))) (da_cons (dcall D_l_columns_d906 hr gd (da_cons (dv 2) da_nil)) da_nil)))) (dg_tup rfl (dgs_cons (dg_tup rfl (dgs_cons (dg_name (i := 3) sc_l_is_deed_table_6abb.nd) (dgs_cons (dg_name (i := 4) sc_l_is_deed_table_6abb.nd) dgs_nil))) (dgs_cons (dg_name (i := 5) sc_l_is_deed_table_6abb.nd) (dgs_cons (dg_name (i := 6) sc_l_is_deed_table_6abb.nd) dgs_nil)))))
 (dss_cons (ds_set (i := 7) sc_l_is_deed_table_6abb.nd (de_op opd_mulI (dv 4) (de_op opd_fdiv (de_ix (dv 5) de_int) (dcall D_l_common_b8b4 hr gd (da_cons (de_ix (dv 5) de_int) (da_cons (de_ix (dv 5) de_int) da_nil))))))
 (dss_cons (ds_if (DW.dt (dw_or (dt_cmp (opd_ne (u64 hr)) (de_ix (dv 6) de_int) (de_lst (da_cons de_int (da_cons de_int (da_cons (dv 3) (da_cons (dv 4) da_nil))))) (nomark _)) (dw_or (dt_cmp (opd_ne (u64 hr)) (de_sl false (de_ix (dv 6) de_int) do_none (do_some de_int)) (de_lst (da_cons de_int (da_cons de_int da_nil))) (nomark _)) (dw_or (dt_cmp (opd_ne (u64 hr)) (de_op opd_sub (de_op opd_mulI (dv 3) (de_ix (de_ix (dv 6) de_int) de_int)) (de_op opd_mulI (dv 4) (de_ix (de_ix (dv 6) de_int) de_int))) de_int (nomark _)) (dw_or1 (dt_not (dt_chain opd_le opd_lt de_int (de_ix (de_ix (dv 6) de_int) de_int) (dv 7)))))))) (dss_one (ds_ret de_bl)) dss_nil)
 (dss_cons (ds_for rfl (di_seq (de_sl false (dv 6) (do_some de_int) do_none)) (dg_name (i := 8) sc_l_is_deed_table_6abb.nd) (dss_one (ds_if (dt_cmp (opd_ne (u64 hr)) (de_sl false (dv 8) (do_some de_int) do_none) (de_lst (da_cons (de_op opd_mulI (de_ix (dv 8) de_int) (dv 3)) (da_cons (de_op opd_mulI (de_ix (dv 8) de_int) (dv 4)) da_nil))) (nomark _)) (dss_one (ds_ret de_bl)) dss_nil)))
 (dss_cons (ds_set (i := 9) sc_l_is_deed_table_6abb.nd (de_op opd_add (de_ix (dv 0) de_int) (de_op opd_mulI (dv 4) (de_ix (dv 0) de_int))))
 (dss_cons (ds_for rfl (di_range1 T.n_range (da_cons de_int da_nil)) (dg_name (i := 10) sc_l_is_deed_table_6abb.nd) (dss_cons (ds_set (i := 11) sc_l_is_deed_table_6abb.nd (dcall D_l_led_3b4c hr gd (da_cons (dv 2) (da_cons (dcall D_l_rooted_a87a hr gd (da_cons (dv 5) (da_cons (dcall D_l_base_3ec4 hr gd (da_cons (dv 10) da_nil)) da_nil))) da_nil))))
 (dss_one (ds_if (dt_cmp (opd_ne (u64 hr)) (dcall D_l_rooted_a87a hr gd (da_cons (dv 0) (da_cons (de_ix (dv 6) (dv 10)) da_nil))) (de_lc false (own := [("_law_item", 12), ("_law_other", 13)]) rfl sc_l_is_deed_table_6abb.nd (blkOk_by (N := ["_law_cutting_here", "_law_deed_here", "_law_table", "_law_p", "_law_q", "_law_after", "_law_led_here", "_law_step", "_law_path", "_law_shift", "_law_at", "_law_due", "_law_item", "_law_other"]) (own := [("_law_item", 12), ("_law_other", 13)]) (sc := (defScope s_l_is_deed_table_6abb)) (by decide +kernel)) (di_zip T.n_zip (da_cons (dv 11) (da_cons (de_ix (dv 6) (dv 10)) da_nil))) (fun _ _ _ _ _ => (dcg_tup rfl (dcgs_cons (dcg_name (i := 12) sc_l_is_deed_table_6abb.nd) (dcgs_cons (dcg_name (i := 13) sc_l_is_deed_table_6abb.nd) dcgs_nil)))) (fun _ _ _ _ _ => dts_nil) (fun _ _ _ _ _ => (de_op opd_add (dv 12) (de_op opd_mulI (dv 9) (dv 13))))) (nomark _)) (dss_one (ds_ret de_bl)) dss_nil))))
 (dss_one (ds_ret de_bl)))))))))) hread hX
theorem ok_l_product_063e {c_l_columns_d906 c_l_led_3b4c : DSp} {sp : DSp} (T : Txt K mg base) (D_l_columns_d906 : Def P w K mg base CX0 1 "_law_columns" s_l_columns_d906 ["_law_table"] c_l_columns_d906) (D_l_led_3b4c : Def P w K mg base CX0 1 "_law_led" s_l_led_3b4c ["_law_table", "_law_path"] c_l_led_3b4c) (hread : ∀ ds M Q, ds.length = 2 → sp ds M Q DX0 → t_l_product_063e c_l_columns_d906 c_l_led_3b4c (dEnds M Q) (startD 3 ds) M) (hX : ∀ ds M Q E, sp ds M Q E → sp ds M Q DX0 := by exact fun _ _ _ _ h => h) : Def P w K mg base CX0 2 "_law_product" s_l_product_063e ["_law_one", "_law_other"] sp :=
 T.h_l_product_063e.ok (t := t_l_product_063e c_l_columns_d906 c_l_led_3b4c) sc_l_product_063e (fun f cdv A outer s H E hr gd => (dss_one (ds_ret (dcall D_l_columns_d906 hr gd (da_cons (de_lc false (own := [("_law_path", 2)]) rfl sc_l_product_063e.nd (blkOk_by (N := ["_law_one", "_law_other", "_law_path"]) (own := [("_law_path", 2)]) (sc := (defScope s_l_product_063e)) (by decide +kernel)) (di_seq (dcall D_l_columns_d906 hr gd (da_cons (dv 1) da_nil))) (fun _ _ _ _ _ => (dcg_name (i := 2) sc_l_product_063e.nd)) (fun _ _ _ _ _ => dts_nil) (fun _ _ _ _ _ => (dcall D_l_led_3b4c hr gd (da_cons (dv 0) (da_cons (dv 2) da_nil))))) da_nil))))) hread hX
theorem ok_l_right_1f94 {c_l_cutting_f2c0 c_l_random_7821 c_l_deed_593a c_shear_table_o c_l_shear_1435 c_l_keeps_2d4c c_l_rooted_a87a c_l_led_3b4c c_l_base_3ec4 c_table_product c_l_done_855c c_back c_l_self_a3eb c_deed_table c_back_shear c_l_is_deed_table_6abb c_l_product_063e : DSp} {sp : DSp} (T : Txt K mg base) (D_l_cutting_f2c0 : Def P w K mg base CX0 3 "_law_cutting" s_l_cutting_f2c0 ["_law_generator_here", "_law_most"] c_l_cutting_f2c0) (D_l_random_7821 : Def P w K mg base CX0 2 "_law_random" s_l_random_7821 ["_law_generator_here", "_law_bound"] c_l_random_7821) (D_l_deed_593a : Def P w K mg base CX0 3 "_law_deed" s_l_deed_593a ["_law_generator_here", "_law_cutting_here"] c_l_deed_593a) (D_shear_table_o : Def P w K mg base CX0 4 "shear_table" s_shear_table_o ["cutting", "times"] c_shear_table_o) (D_l_shear_1435 : Def P w K mg base CX0 3 "_law_shear" s_l_shear_1435 ["_law_cutting_here", "_law_times"] c_l_shear_1435) (D_l_keeps_2d4c : Def P w K mg base CX0 2 "_law_keeps" s_l_keeps_2d4c ["_law_table"] c_l_keeps_2d4c) (D_l_rooted_a87a : Def P w K mg base CX0 1 "_law_rooted" s_l_rooted_a87a ["_law_cutting_here", "_law_path"] c_l_rooted_a87a) (D_l_led_3b4c : Def P w K mg base CX0 1 "_law_led" s_l_led_3b4c ["_law_table", "_law_path"] c_l_led_3b4c) (D_l_base_3ec4 : Def P w K mg base CX0 1 "_law_base" s_l_base_3ec4 ["_law_at"] c_l_base_3ec4) (D_table_product : Def P w K mg base CX0 4 "table_product" s_table_product ["one", "other"] c_table_product) (D_l_done_855c : Def P w K mg base CX0 3 "_law_done" s_l_done_855c ["_law_cutting_here", "_law_deed_here"] c_l_done_855c) (D_back : Def P w K mg base CX0 7 "back" s_back ["cutting", "deed"] c_back) (D_l_self_a3eb : Def P w K mg base CX0 2 "_law_self" s_l_self_a3eb [] c_l_self_a3eb) (D_deed_table : Def P w K mg base CX0 8 "deed_table" s_deed_table ["cutting", "deed"] c_deed_table) (D_back_shear : Def P w K mg base CX0 9 "back_shear" s_back_shear ["cutting", "deed"] c_back_shear) (D_l_is_deed_table_6abb : Def P w K mg base CX0 4 "_law_is_deed_table" s_l_is_deed_table_6abb ["_law_cutting_here", "_law_deed_here", "_law_table"] c_l_is_deed_table_6abb) (D_l_product_063e : Def P w K mg base CX0 2 "_law_product" s_l_product_063e ["_law_one", "_law_other"] c_l_product_063e) (hread : ∀ ds M Q, ds.length = 1 → sp ds M Q DX0 → t_l_right_1f94 c_l_cutting_f2c0 c_l_random_7821 c_l_deed_593a c_shear_table_o c_l_shear_1435 c_l_keeps_2d4c c_l_rooted_a87a c_l_led_3b4c c_l_base_3ec4 c_table_product c_l_done_855c c_back c_l_self_a3eb c_deed_table c_back_shear c_l_is_deed_table_6abb c_l_product_063e (dEnds M Q) (startD 16 ds) M) (hX : ∀ ds M Q E, sp ds M Q E → sp ds M Q DX0 := by exact fun _ _ _ _ h => h) : Def P w K mg base CX0 10 "_law_right" s_l_right_1f94 ["_law_generator_here"] sp :=
 T.h_l_right_1f94.ok (t := t_l_right_1f94 c_l_cutting_f2c0 c_l_random_7821 c_l_deed_593a c_shear_table_o c_l_shear_1435 c_l_keeps_2d4c c_l_rooted_a87a c_l_led_3b4c c_l_base_3ec4 c_table_product c_l_done_855c c_back c_l_self_a3eb c_deed_table c_back_shear c_l_is_deed_table_6abb c_l_product_063e) sc_l_right_1f94 (fun f cdv A outer s H E hr gd => (dss_cons (ds_set (i := 1) sc_l_right_1f94.nd (dcall D_l_cutting_f2c0 hr gd (da_cons (dv 0) (da_cons (de_ix (de_lst (da_cons de_int (da_cons (de_op opd_pow de_int de_int) da_nil))) (dcall D_l_random_7821 hr gd (da_cons (dv 0) (da_cons de_int da_nil)))) da_nil))))
 (dss_cons (ds_par (i := 2) (j := 3) rfl sc_l_right_1f94.nd (da_cons (dcall D_l_deed_593a hr gd (da_cons (dv 0) (da_cons (dv 1) da_nil))) (da_cons (de_op opd_sub (dcall D_l_random_7821 hr gd (da_cons (dv 0) (da_cons (de_op opd_mulI de_int (de_op opd_pow de_int de_int)) da_nil))) (de_op opd_pow de_int de_int)) da_nil)))
 (dss_cons (ds_set (i := 4) sc_l_right_1f94.nd (dcall D_shear_table_o hr gd (da_cons (dv 1) (da_cons (dv 3) da_nil))))
 (dss_cons (ds_if (DW.dt (dw_or (dt_cmp (opd_neE (u64 hr)) (de_blt (cd_reprE gd (ux hr)) T.n_repr (da_cons (dv 4) da_nil)) (de_blt (cd_reprE gd (ux hr)) T.n_repr (da_cons (dcall D_l_shear_1435 hr gd (da_cons (dv 1) (da_cons (dv 3) da_nil))) da_nil)) (nomark _)) (dw_or (dt_cmp (opd_neE (u64 hr)) (dcallK [1, 0] D_shear_table_o hr gd (dk_cons (dv 3) (dk_cons (dv 1) dk_nil)) (ks := ["times", "cutting"]) rfl (fun _ _ _ _ _ _ us hl => match us, hl with | [_, _], _ => rfl)) (dv 4) (nomark _)) (dw_or1 (dt_not (dt_tru (dcall D_l_keeps_2d4c hr gd (da_cons (dv 4) da_nil)))))))) (dss_one (ds_ret de_bl)) dss_nil)
 (dss_cons (ds_for rfl (di_range1 T.n_range (da_cons de_int da_nil)) (dg_name (i := 5) sc_l_right_1f94.nd) (dss_one (ds_if (dt_cmp (opd_neE (u64 hr)) (dcall D_l_rooted_a87a hr gd (da_cons (dv 1) (da_cons (dcall D_l_led_3b4c hr gd (da_cons (dv 4) (da_cons (dcall D_l_base_3ec4 hr gd (da_cons (dv 5) da_nil)) da_nil))) da_nil))) (dcall D_l_led_3b4c hr gd (da_cons (dv 4) (da_cons (dcall D_l_rooted_a87a hr gd (da_cons (dv 1) (da_cons (dcall D_l_base_3ec4 hr gd (da_cons (dv 5) da_nil)) da_nil))) da_nil))) (nomark _)) (dss_one (ds_ret de_bl)) dss_nil)))
 (dss_cons (ds_if (dt_cmp (opd_neE (u64 hr)) (dcall D_table_product hr gd (da_cons (dv 4) (da_cons (dcall D_shear_table_o hr gd (da_cons (dv 1) (da_cons (de_op opd_sub de_int (dv 3)) da_nil))) da_nil))) (dcall D_l_shear_1435 hr gd (da_cons (dv 1) (da_cons de_int da_nil))) (nomark _)) (dss_one (ds_ret de_bl)) dss_nil)
 (dss_cons (ds_expr (de_append (de_ix (dv 4) de_int) (da_cons de_non da_nil)))
 (dss_cons (ds_par (i := 6) (j := 7) rfl sc_l_right_1f94.nd (da_cons (dcall D_l_done_855c hr gd (da_cons (dv 1) (da_cons (dv 2) da_nil))) (da_cons (dcall D_back hr gd (da_cons (dv 1) (da_cons (dv 2) da_nil))) da_nil)))
 (dss_cons (ds_if (DW.dt (dw_or (dt_cmp (opd_neE (u64 hr)) (dcall D_shear_table_o hr gd (da_cons (dv 1) (da_cons de_int da_nil))) (dcall0 D_l_self_a3eb hr gd) (nomark _)) (dw_or1 (dt_cmp (opd_neE (u64 hr)) (dcall D_l_done_855c hr gd (da_cons (dv 6) (da_cons (dv 7) da_nil))) (dv 1) (nomark _))))) (dss_one (ds_ret de_bl)) dss_nil)
 (dss_cons (ds_par3 (i := 8) (j := 9) (l := 10) rfl sc_l_right_1f94.nd (da_cons (dcall D_deed_table hr gd (da_cons (dv 1) (da_cons (dv 2) da_nil))) (da_cons (dcall D_deed_table hr gd (da_cons (dv 6) (da_cons (dv 7) da_nil))) (da_cons (dcall D_back_shear hr gd (da_cons (dv 1) (da_cons (dv 2) da_nil))) da_nil))))
 (dss_cons (ds_if (DW.dt (dw_or (dt_not (dt_tru (dcall D_l_is_deed_table_6abb hr gd (da_cons (dv 1) (da_cons (dv 2) (da_cons (dv 8) da_nil)))))) (dw_or1 (dt_not (dt_tru (dcall D_l_is_deed_table_6abb hr gd (da_cons (dv 6) (da_cons (dv 7) (da_cons (dv 9) da_nil))))))))) (dss_one (ds_ret de_bl)) dss_nil)
 (dss_cons (ds_if (DW.dt (dw_or (dt_tru (de_blt cd_isi T.n_isinstance (da_cons (dv 10) (da_cons (de_bltn (v := .ty "bool") T.n_bool rfl) da_nil)))) (dw_or (dt_not (dt_tru (de_blt cd_isi T.n_isinstance (da_cons (dv 10) (da_cons (de_bltn (v := .ty "int") T.n_int rfl) da_nil))))) (dw_or (dt_not (dt_chain opd_le opd_le (de_neg de_int) (dv 10) de_int)) (dw_or1 (dt_cmp (opd_neE (u64 hr)) (dcallK [1, 0] D_back_shear hr gd (dk_cons (dv 2) (dk_cons (dv 1) dk_nil)) (ks := ["deed", "cutting"]) rfl (fun _ _ _ _ _ _ us hl => match us, hl with | [_, _], _ => rfl)) (dv 10) (nomark _))))))) (dss_one (ds_ret de_bl)) dss_nil)
 (dss_cons (ds_for rfl (di_seq (de_lst (da_cons (de_op opd_sub (dv 10) de_int) (da_cons (dv 10) (da_cons (de_op opd_add (dv 10) de_int) da_nil))))) (dg_name (i := 11) sc_l_right_1f94.nd) (dss_cons (ds_set (i := 12) sc_l_right_1f94.nd (dcall D_l_led_3b4c hr gd (da_cons (dv 8) (da_cons (dcall D_l_led_3b4c hr gd (da_cons (dcall D_l_shear_1435 hr gd (da_cons (dv 6) (da_cons (dv 11) da_nil))) (da_cons (dcall D_l_led_3b4c hr gd (da_cons (dv 9) (da_cons (dcall D_l_base_3ec4 hr gd (da_cons de_int da_nil)) da_nil))) da_nil))) da_nil))))
 (dss_one (ds_if (dt_cmp (opd_neE (u64 hr)) (de_cmp (opd_eqE (u64 hr)) (dv 12) (de_lst (da_cons (de_neg de_int) (da_cons de_int (da_cons de_int (da_cons de_int da_nil))))) (nomark _)) (de_cmp (opd_eqE (u64 hr)) (dv 11) (dv 10) (nomark _)) (nomark _)) (dss_one (ds_ret de_bl)) dss_nil))))
 (dss_cons (ds_set (i := 13) sc_l_right_1f94.nd (dcall D_l_product_063e hr gd (da_cons (dcall D_l_product_063e hr gd (da_cons (dv 8) (da_cons (dcall D_l_shear_1435 hr gd (da_cons (dv 6) (da_cons (dv 10) da_nil))) da_nil))) (da_cons (dcall D_l_product_063e hr gd (da_cons (dv 9) (da_cons (dcall D_l_shear_1435 hr gd (da_cons (dv 1) (da_cons (dcall D_back_shear hr gd (da_cons (dv 6) (da_cons (dv 7) da_nil))) da_nil))) da_nil))) da_nil))))
 (dss_one (ds_ret (de_cmp (opd_eqE (u64 hr)) (dv 13) (de_lc false (own := [("_law_row", 14)]) rfl sc_l_right_1f94.nd (blkOk_by (N := ["_law_generator_here", "_law_cutting_here", "_law_deed_here", "_law_times", "_law_shear_here", "_law_at", "_law_after", "_law_mate", "_law_low", "_law_high", "_law_number", "_law_near", "_law_first", "_law_whole", "_law_row", "_law_item"]) (own := [("_law_row", 14)]) (sc := (defScope s_l_right_1f94)) (by decide +kernel)) (di_seq (dcall0 D_l_self_a3eb hr gd)) (fun _ _ _ _ _ => (dcg_name (i := 14) sc_l_right_1f94.nd)) (fun _ _ _ _ _ => dts_nil) (fun _ _ _ _ _ => (de_lc false (own := [("_law_item", 15)]) rfl sc_l_right_1f94.nd (blkOk_by (N := ["_law_generator_here", "_law_cutting_here", "_law_deed_here", "_law_times", "_law_shear_here", "_law_at", "_law_after", "_law_mate", "_law_low", "_law_high", "_law_number", "_law_near", "_law_first", "_law_whole", "_law_row", "_law_item"]) (own := [("_law_item", 15)]) (by rfl)) (di_seq (dv 14)) (fun _ _ _ _ _ => (dcg_name (i := 15) sc_l_right_1f94.nd)) (fun _ _ _ _ _ => dts_nil) (fun _ _ _ _ _ => (de_op opd_sub de_int (dv 15)))))) (nomark _))))))))))))))))))) hread hX
theorem ok_l_cell_cf3b {sp : DSp} (T : Txt K mg base) (hread : ∀ ds M Q, ds.length = 2 → sp ds M Q DX0 → t_l_cell_cf3b (dEnds M Q) (startD 2 ds) M) (hX : ∀ ds M Q E, sp ds M Q E → sp ds M Q DX0 := by exact fun _ _ _ _ h => h) : Def P w K mg base CX0 1 "_law_cell" s_l_cell_cf3b ["_law_script", "_law_index"] sp :=
 T.h_l_cell_cf3b.ok (t := t_l_cell_cf3b) sc_l_cell_cf3b (fun f cdv A outer s H E hr gd => (dss_cons (ds_if (dt_cmp opd_lt (dv 1) (de_blt cd_len T.n_len (da_cons (dv 0) da_nil)) (nomark _)) (dss_one (ds_ret (de_ix (dv 0) (dv 1)))) dss_nil)
 (dss_one (ds_ret (de_op opd_mod (de_blt (cd_sum rfl) T.n_sum (da_cons (de_slL false (dv 0) do_none (do_some de_int)) da_nil)) de_int))))) hread hX
theorem ok_l_generator_b324 {c_l_cell_cf3b : DSp} {sp : DSp} (T : Txt K mg base) (D_l_cell_cf3b : Def P w K mg base CX0 1 "_law_cell" s_l_cell_cf3b ["_law_script", "_law_index"] c_l_cell_cf3b) (hread : ∀ ds M Q, ds.length = 2 → sp ds M Q DX0 → t_l_generator_b324 c_l_cell_cf3b (dEnds M Q) (startD 3 ds) M) (hX : ∀ ds M Q E, sp ds M Q E → sp ds M Q DX0 := by exact fun _ _ _ _ h => h) : Def P w K mg base CX0 2 "_law_generator" s_l_generator_b324 ["_law_script", "_law_index"] sp :=
 T.h_l_generator_b324.ok (t := t_l_generator_b324 c_l_cell_cf3b) sc_l_generator_b324 (fun f cdv A outer s H E hr gd => (dss_cons (ds_set (i := 2) sc_l_generator_b324.nd (dcall D_l_cell_cf3b hr gd (da_cons (dv 0) (da_cons (dv 1) da_nil))))
 (dss_one (ds_ret (de_own (da_cons (de_op opd_mod (de_ty cd_int T.n_int (da_cons (de_blt (cd_max rfl) T.n_max (da_cons (de_op opd_sub (dv 2) (de_op opd_pow de_int de_int)) (da_cons de_int da_nil))) da_nil)) (de_op opd_pow (de_op opd_pow de_int de_int) de_int)) (da_cons (de_op opd_mod (de_ty cd_int T.n_int (da_cons (dv 2) da_nil)) de_int) (da_cons (de_op opd_mulI de_int (dv 1)) da_nil)))))))) hread hX
theorem ok_l_law_e1ea {c_l_right_1f94 c_l_generator_b324 c_back_shear c_shear_table_o : DSp} {sp : DSp} (T : Txt K mg base) (D_l_right_1f94 : Def P w K mg base CX0 10 "_law_right" s_l_right_1f94 ["_law_generator_here"] c_l_right_1f94) (D_l_generator_b324 : Def P w K mg base CX0 2 "_law_generator" s_l_generator_b324 ["_law_script", "_law_index"] c_l_generator_b324) (D_back_shear : Def P w K mg base CX0 9 "back_shear" s_back_shear ["cutting", "deed"] c_back_shear) (D_shear_table_o : Def P w K mg base CX0 4 "shear_table" s_shear_table_o ["cutting", "times"] c_shear_table_o) (hread : ∀ ds M Q, ds.length = 1 → sp ds M Q DX0 → t_l_law_e1ea c_l_right_1f94 c_l_generator_b324 c_back_shear c_shear_table_o (dEnds M Q) (startD 4 ds) M) (hX : ∀ ds M Q E, sp ds M Q E → sp ds M Q DX0 := by exact fun _ _ _ _ h => h) : Def P w K mg base CX0 11 "law" s_l_law_e1ea ["_law_script"] sp :=
 T.h_l_law_e1ea.ok (t := t_l_law_e1ea c_l_right_1f94 c_l_generator_b324 c_back_shear c_shear_table_o) sc_l_law_e1ea (fun f cdv A outer s H E hr gd => (dss_cons (ds_for rfl (di_range1 T.n_range (da_cons de_int da_nil)) (dg_name (i := 1) sc_l_law_e1ea.nd) (dss_one (ds_if (dt_not (dt_tru (dcall D_l_right_1f94 hr gd (da_cons (dcall D_l_generator_b324 hr gd (da_cons (dv 0) (da_cons (dv 1) da_nil))) da_nil)))) (dss_one (ds_ret de_bl)) dss_nil)))
 (dss_cons (ds_set (i := 2) sc_l_law_e1ea.nd (de_tup (da_cons de_int (da_cons de_int (da_cons de_int (da_cons (de_neg de_int) da_nil))))))
 (dss_cons (ds_if (dt_cmp (opd_neE (u64 hr)) (dcall D_back_shear hr gd (da_cons (de_tup (da_cons de_int (da_cons de_int (da_cons de_int (da_cons (de_neg de_int) da_nil))))) (da_cons (de_tup (da_cons de_int (da_cons de_int da_nil))) da_nil))) (de_neg de_int) (nomark _)) (dss_one (ds_ret de_bl)) dss_nil)
 (dss_cons (ds_if (dt_cmp (opd_neE (u64 hr)) (de_lc false (own := [("_law_deed_here", 3)]) rfl sc_l_law_e1ea.nd (blkOk_by (N := ["_law_script", "_law_index", "_law_low", "_law_deed_here"]) (own := [("_law_deed_here", 3)]) (sc := (defScope s_l_law_e1ea)) (by decide +kernel)) (di_seq (de_lst (da_cons (de_tup (da_cons de_int (da_cons de_int da_nil))) (da_cons (de_tup (da_cons de_int (da_cons de_int da_nil))) (da_cons (de_tup (da_cons de_int (da_cons de_int da_nil))) (da_cons (de_tup (da_cons de_int (da_cons de_int da_nil))) da_nil)))))) (fun _ _ _ _ _ => (dcg_name (i := 3) sc_l_law_e1ea.nd)) (fun _ _ _ _ _ => dts_nil) (fun _ _ _ _ _ => (dcall D_back_shear hr gd (da_cons (dv 2) (da_cons (dv 3) da_nil))))) (de_lst (da_cons de_int (da_cons (de_neg de_int) (da_cons (de_neg de_int) (da_cons (de_neg de_int) da_nil))))) (nomark _)) (dss_one (ds_ret de_bl)) dss_nil)
 (dss_one (ds_ret (de_cmp (opd_eqE (u64 hr)) (dcall D_shear_table_o hr gd (da_cons (de_tup (da_cons de_int (da_cons de_int (da_cons de_int (da_cons (de_neg de_int) da_nil))))) (da_cons de_int da_nil))) (de_lst (da_cons (de_lst (da_cons de_int (da_cons de_int (da_cons de_int (da_cons de_int da_nil))))) (da_cons (de_lst (da_cons de_int (da_cons de_int (da_cons de_int (da_cons de_int da_nil))))) (da_cons (de_lst (da_cons de_int (da_cons de_int (da_cons de_int (da_cons de_int da_nil))))) (da_cons (de_lst (da_cons de_int (da_cons de_int (da_cons de_int (da_cons de_int da_nil))))) da_nil))))) (nomark _))))))))) hread hX
end
end C_k46
/-! MA: whole roots, common divisors, sizes; plain -/
namespace DL
/-! ### a great number, by its name -/
theorem log2_of {i : Int} (n : Nat) (h : i.natAbs < 2 ^ n) (h0 : 0 < n) : i.natAbs.log2 < n := by
  by_cases z : i.natAbs = 0
  · rw [z]; simpa using h0
  · exact (Nat.log2_lt z).mpr h
/-! ### whole roots -/
def isqN (n : Nat) : Nat :=
  if h : n = 0 then 0
  else
    let r := 2 * isqN (n / 4)
    if (r + 1) * (r + 1) ≤ n then r + 1 else r
termination_by n
decreasing_by omega
theorem isqN_spec (n : Nat) : isqN n * isqN n ≤ n ∧ n < (isqN n + 1) * (isqN n + 1) := by
  induction n using Nat.strongRecOn with
  | ind n ih =>
    unfold isqN
    split
    · rename_i h; subst h; decide
    · rename_i h
      obtain ⟨h1, h2⟩ := ih (n / 4) (by omega)
      generalize isqN (n / 4) = s at *
      have e1 : 4 * (s * s) ≤ n := by omega
      have e2 : n < 4 * ((s + 1) * (s + 1)) := by omega
      have x1 : (2 * s) * (2 * s) = 4 * (s * s) := by rw [Nat.mul_mul_mul_comm]
      have x2 : (2 * s + 1) * (2 * s + 1) = 4 * (s * s) + 4 * s + 1 := by
        rw [Nat.add_mul, Nat.mul_add, x1]; omega
      have x3 : (s + 1) * (s + 1) = s * s + 2 * s + 1 := by
        rw [Nat.add_mul, Nat.mul_add]; omega
      have x4 : (2 * s + 1 + 1) * (2 * s + 1 + 1) = 4 * (s * s) + 8 * s + 4 := by
        rw [Nat.add_mul, Nat.mul_add, Nat.add_mul, Nat.mul_add, x1]; omega
      dsimp only
      split
      · rename_i hc
        exact ⟨hc, by rw [x4]; omega⟩
      · rename_i hc
        exact ⟨by rw [x1]; omega, by omega⟩
theorem isqN_uni {n r : Nat} (h1 : r * r ≤ n) (h2 : n < (r + 1) * (r + 1)) : isqN n = r := by
  obtain ⟨g1, g2⟩ := isqN_spec n
  rcases Nat.lt_trichotomy (isqN n) r with h | h | h
  · have : (isqN n + 1) * (isqN n + 1) ≤ r * r := Nat.mul_le_mul h h
    omega
  · exact h
  · have : (r + 1) * (r + 1) ≤ isqN n * isqN n := Nat.mul_le_mul h h
    omega
/-- the greatest count whose square is at most n -/
def isq (n : Int) : Int := (isqN n.toNat : Nat)
theorem isq_uni {n r : Int} (h0 : 0 ≤ r) (h1 : r * r ≤ n) (h2 : n < (r + 1) * (r + 1)) : isq n = r := by
  obtain ⟨k, rfl⟩ := Int.eq_ofNat_of_zero_le h0
  have h1' : ((k * k : Nat) : Int) ≤ n := by rw [Int.natCast_mul]; exact h1
  have h2' : n < (((k + 1) * (k + 1) : Nat) : Int) := by rw [Int.natCast_mul]; exact h2
  unfold isq
  rw [isqN_uni (n := n.toNat) (r := k) (by omega) (by omega)]
/-! ### common divisors -/
theorem gcd_step {l h : Int} (hl : 0 ≤ l) (hh : 0 < h) : Int.gcd h (l.fmod h) = Int.gcd l h := by
  obtain ⟨a, rfl⟩ := Int.eq_ofNat_of_zero_le hl
  obtain ⟨b, rfl⟩ := Int.eq_ofNat_of_zero_le (Int.le_of_lt hh)
  rw [Int.fmod_eq_emod_of_nonneg _ (by omega)]
  show Nat.gcd (b : Int).natAbs ((a : Int) % (b : Int)).natAbs = Nat.gcd (a : Int).natAbs (b : Int).natAbs
  rw [← Int.natCast_emod, Int.natAbs_natCast, Int.natAbs_natCast, Int.natAbs_natCast, Nat.gcd_comm b, Nat.gcd_comm a b]
  exact (Nat.gcd_rec b a).symm
theorem gcd_end {l : Int} (hl : 0 ≤ l) : ((Int.gcd l 0 : Nat) : Int) = l := by
  rw [Int.gcd_zero_right]; omega
end DL
namespace DL
open PySem PySem.Spec PyProof.Rows L2
theorem gIn_two {i a b : Int} {M : Mem} {Q : DQ} : gIn false (.int i) (.lst [.int a, .int b]) M Q = Q (.bl (i == a || i == b)) M := by
  show Q (.bl ((a == i || (b == i || false)) != false)) M = _
  have e : ((a == i || (b == i || false)) != false) = (i == a || i == b) := by
    rw [Bool.bne_false, Bool.or_false, Bool.beq_comm (a := a), Bool.beq_comm (a := b)]
  rw [e]
theorem gRepr_bl {b : Bool} {M : Mem} {Q : DQ} : gRepr [.bl b] M Q = Q (.str (PyData.shown (.bool b))) M := by
  cases b <;> rfl
local macro_rules | `(tactic| walk_at "rd") => `(tactic| simp only [startD, List.map, List.replicate, List.length_cons, List.length_nil, List.append_eq, List.append_nil, List.nil_append, List.cons_append, Nat.reduceSub, Nat.reduceAdd, List.getElem?_cons_zero, List.getElem?_cons_succ, List.set_cons_zero, List.set_cons_succ,
  dC, dVar, dOp, dTru, gTru, tru, dChain, dAnd, dOr, dNot, dAndV, dOrV, dNotV, dIf, dNeg, gNeg, dNil, dCons, dTup, dLst, dOwn, gIx, rBin, gAdd, gCmpI, dCall, dCallK, dSeq, dNext, dDrop, dRet, dRetN, dIfS, dName, dGNil, dGCons, dGTup, dSub, gSetL, dAsg, dPar, dPar3, dAug, gIpI, dSeqI, gSeqI, dRngI, gRng1, gRng2, dCB, gAbs, gInt, gMax, gMin, gGcd, gLen, lenD, gIsi, tyM, tyD, dBits, gBits, dMet, gAppend, dPart, dNoPart, dSl, dEnds, gIs, isB, dNever, dFor, dLc, wipeD, dYes,
  sizeLine_eq, Nat.reduceLeDiff, gEq_int, gNe_int, gEq_strs, gNe_strs, gIn_two, gRepr_bl, rs_lst, rs_tup, rs_scr, rs_int, atI_0, atI_1, atI_2, atI_3, atI_4, atI_5, ixN_30, ixN_31, ixN_32, gEq_bl, gNe_bl, decide_eq_true_eq, beq_iff_eq, Bool.not_eq_true', beq_eq_false_iff_ne, decide_eq_false_iff_not, Bool.not_true, Bool.not_false, if_true, if_false, Bool.false_eq_true, ite_true, ite_false, true_and, and_true, ne_eq, Bool.bne_false, Bool.bne_true, reduceCtorEq])
/-! ### sizes -/
theorem fdiv_pos {a b : Int} (h : 0 < b) : a.fdiv b = a / b := Int.fdiv_eq_ediv_of_nonneg a (Int.le_of_lt h)
theorem fmod_pos {a b : Int} (h : 0 < b) : a.fmod b = a % b := Int.fmod_eq_emod_of_nonneg a (Int.le_of_lt h)
/-! ### kinds -/
theorem kb_NoneType_int : kitB "NoneType" "int" = some false := by decide +kernel
theorem kb_bool_int : kitB "bool" "int" = some true := by decide +kernel
theorem kb_int_int : kitB "int" "int" = some true := by decide +kernel
theorem kb_str_int : kitB "str" "int" = some false := by decide +kernel
theorem kb_tuple_int : kitB "tuple" "int" = some false := by decide +kernel
theorem kb_list_int : kitB "list" "int" = some false := by decide +kernel
theorem kb_dict_int : kitB "dict" "int" = some false := by decide +kernel
theorem kb_NoneType_bool : kitB "NoneType" "bool" = some false := by decide +kernel
theorem kb_bool_bool : kitB "bool" "bool" = some true := by decide +kernel
theorem kb_int_bool : kitB "int" "bool" = some false := by decide +kernel
theorem kb_str_bool : kitB "str" "bool" = some false := by decide +kernel
theorem kb_tuple_bool : kitB "tuple" "bool" = some false := by decide +kernel
theorem kb_list_bool : kitB "list" "bool" = some false := by decide +kernel
theorem kb_dict_bool : kitB "dict" "bool" = some false := by decide +kernel
theorem kb_NoneType_tuple : kitB "NoneType" "tuple" = some false := by decide +kernel
theorem kb_bool_tuple : kitB "bool" "tuple" = some false := by decide +kernel
theorem kb_int_tuple : kitB "int" "tuple" = some false := by decide +kernel
theorem kb_str_tuple : kitB "str" "tuple" = some false := by decide +kernel
theorem kb_tuple_tuple : kitB "tuple" "tuple" = some true := by decide +kernel
theorem kb_list_tuple : kitB "list" "tuple" = some false := by decide +kernel
theorem kb_dict_tuple : kitB "dict" "tuple" = some false := by decide +kernel
theorem kb_NoneType_list : kitB "NoneType" "list" = some false := by decide +kernel
theorem kb_bool_list : kitB "bool" "list" = some false := by decide +kernel
theorem kb_int_list : kitB "int" "list" = some false := by decide +kernel
theorem kb_str_list : kitB "str" "list" = some false := by decide +kernel
theorem kb_tuple_list : kitB "tuple" "list" = some false := by decide +kernel
theorem kb_list_list : kitB "list" "list" = some true := by decide +kernel
theorem kb_dict_list : kitB "dict" "list" = some false := by decide +kernel
local macro_rules | `(tactic| walk_at "kb") => `(tactic| simp only [kb_NoneType_list, kb_bool_list, kb_int_list, kb_str_list, kb_tuple_list, kb_list_list, kb_dict_list, kb_NoneType_int, kb_bool_int, kb_int_int, kb_str_int, kb_tuple_int, kb_list_int, kb_dict_int, kb_NoneType_bool, kb_bool_bool, kb_int_bool, kb_str_bool, kb_tuple_bool, kb_list_bool, kb_dict_bool, kb_NoneType_tuple, kb_bool_tuple, kb_int_tuple, kb_str_tuple, kb_tuple_tuple, kb_list_tuple, kb_dict_tuple, if_true, if_false, Bool.false_eq_true, ite_true, ite_false, Bool.not_true, Bool.not_false])
/-! ### measures -/
def isW : D → Bool
  | .int _ => true
  | _ => false
/-- is_whole(d), d any data -/
def sp_is_whole : DSp := fun ds M Q _ => ∃ d T, ds = [d] ∧ tyM M d = some T ∧ Q (.bl (isW d)) M
theorem rd_is_whole : ∀ ds M Q, ds.length = 1 → sp_is_whole ds M Q DX0 → t_is_whole (dEnds M Q) (startD 1 ds) M := by
  rintro _ M Q _ ⟨d, T, rfl, ht, q⟩
  unfold t_is_whole
  cases d <;> first | (cases ht; done) | skip
  all_goals walk_at "rd"
  case own k =>
    unfold tyM at ht
    dsimp only at ht
    split at ht
    · rename_i ds hk
      simp only [hk]
      walk_at "kb"
      exact rtq q
    · cases ht
  all_goals walk_at "kb"
  all_goals exact rtq q
/-- the common divisor of two ints -/
def sp_gcd : DSp := fun ds M Q _ => ∃ a b : Int, ds = [.int a, .int b] ∧ Q (.int (Int.gcd a b)) M
theorem gcd_abs (a b : Int) : Int.gcd (if a < 0 then -a else a) (if b < 0 then -b else b) = Int.gcd a b := by
  split <;> split <;> simp
theorem rd_common_by : ∀ ds M Q, ds.length = 2 → sp_gcd ds M Q DX0 → t_common_by (dEnds M Q) (startD 4 ds) M := by
  rintro _ M Q _ ⟨a, b, rfl, q⟩
  unfold t_common_by
  walk_at "rd"
  refine dwhile_of (fun n r M' => ∃ l h : Int, r = [some (.int a), some (.int b), some (.int l), some (.int h)] ∧ M' = M ∧ 0 ≤ l ∧ 0 ≤ h ∧ Int.gcd l h = Int.gcd a b ∧ n = h.toNat) _ ⟨_, _, rfl, rfl, ?_, ?_, gcd_abs a b, rfl⟩ ?_
  · split <;> omega
  · split <;> omega
  · rintro n r M' ⟨l, h, rfl, rfl, hl, hh, hg, rfl⟩
    walk_at "rd"
    split
    · rename_i h0
      have hp : 0 < h := by omega
      refine ⟨h0, _, ?_, h, l.fmod h, rfl, hh, ?_, (gcd_step hl hp).trans hg, rfl⟩
      · rw [fmod_pos hp]
        have := Int.emod_lt_of_pos l hp
        have := Int.emod_nonneg l h0
        omega
      · rw [fmod_pos hp]; exact Int.emod_nonneg l h0
    · rename_i h0
      have h0 : h = 0 := by omega
      subst h0
      rw [← hg, gcd_end hl] at q
      exact rtq q
end DL
namespace DL
open PySem PySem.Spec PyProof.Rows L2
local macro_rules | `(tactic| walk_at "rd") => `(tactic| simp only [startD, List.map, List.replicate, List.length_cons, List.length_nil, List.append_eq, List.append_nil, List.nil_append, List.cons_append, Nat.reduceSub, Nat.reduceAdd, List.getElem?_cons_zero, List.getElem?_cons_succ, List.set_cons_zero, List.set_cons_succ,
  dC, dVar, dOp, dTru, gTru, tru, dChain, dAnd, dOr, dNot, dAndV, dOrV, dNotV, dIf, dNeg, gNeg, dNil, dCons, dTup, dLst, dOwn, gIx, rBin, gAdd, gCmpI, dCall, dCallK, dSeq, dNext, dDrop, dRet, dRetN, dIfS, dName, dGNil, dGCons, dGTup, dSub, gSetL, dAsg, dPar, dPar3, dAug, gIpI, dSeqI, gSeqI, dRngI, gRng1, gRng2, dCB, gAbs, gInt, gMax, gMin, gGcd, gLen, lenD, gIsi, tyM, tyD, dBits, gBits, dMet, gAppend, dPart, dNoPart, dSl, dEnds, gIs, isB, dNever, dFor, dLc, wipeD, dYes,
  sizeLine_eq, Nat.reduceLeDiff, gEq_int, gNe_int, gEq_strs, gNe_strs, gIn_two, gRepr_bl, rs_lst, rs_tup, rs_scr, rs_int, atI_0, atI_1, atI_2, atI_3, atI_4, atI_5, ixN_30, ixN_31, ixN_32, gEq_bl, gNe_bl, decide_eq_true_eq, beq_iff_eq, Bool.not_eq_true', beq_eq_false_iff_ne, decide_eq_false_iff_not, Bool.not_true, Bool.not_false, if_true, if_false, Bool.false_eq_true, ite_true, ite_false, true_and, and_true, ne_eq, Bool.bne_false, Bool.bne_true, reduceCtorEq])
local macro_rules | `(tactic| walk_at "rh") => `(tactic| simp only [*, startD, List.map, List.replicate, List.length_cons, List.length_nil, List.append_eq, List.append_nil, List.nil_append, List.cons_append, Nat.reduceSub, Nat.reduceAdd, List.getElem?_cons_zero, List.getElem?_cons_succ, List.set_cons_zero, List.set_cons_succ,
  dC, dVar, dOp, dTru, gTru, tru, dChain, dAnd, dOr, dNot, dAndV, dOrV, dNotV, dIf, dNeg, gNeg, dNil, dCons, dTup, dLst, dOwn, gIx, rBin, gAdd, gCmpI, dCall, dCallK, dSeq, dNext, dDrop, dRet, dRetN, dIfS, dName, dGNil, dGCons, dGTup, dSub, gSetL, dAsg, dPar, dPar3, dAug, gIpI, dSeqI, gSeqI, dRngI, gRng1, gRng2, dCB, gAbs, gInt, gMax, gMin, gGcd, gLen, lenD, gIsi, tyM, tyD, dBits, gBits, dMet, gAppend, dPart, dNoPart, dSl, dEnds, gIs, isB, dNever, dFor, dLc, wipeD, dYes,
  sizeLine_eq, Nat.reduceLeDiff, gEq_int, gNe_int, gEq_strs, gNe_strs, gIn_two, gRepr_bl, rs_lst, rs_tup, rs_scr, rs_int, atI_0, atI_1, atI_2, atI_3, atI_4, atI_5, ixN_30, ixN_31, ixN_32, gEq_bl, gNe_bl, decide_eq_true_eq, beq_iff_eq, Bool.not_eq_true', beq_eq_false_iff_ne, decide_eq_false_iff_not, Bool.not_true, Bool.not_false, if_true, if_false, Bool.false_eq_true, ite_true, ite_false, true_and, and_true, ne_eq, Bool.bne_false, Bool.bne_true, reduceCtorEq])
local macro_rules | `(tactic| walk_at "kb") => `(tactic| simp only [kb_NoneType_list, kb_bool_list, kb_int_list, kb_str_list, kb_tuple_list, kb_list_list, kb_dict_list, kb_NoneType_int, kb_bool_int, kb_int_int, kb_str_int, kb_tuple_int, kb_list_int, kb_dict_int, kb_NoneType_bool, kb_bool_bool, kb_int_bool, kb_str_bool, kb_tuple_bool, kb_list_bool, kb_dict_bool, kb_NoneType_tuple, kb_bool_tuple, kb_int_tuple, kb_str_tuple, kb_tuple_tuple, kb_list_tuple, kb_dict_tuple, if_true, if_false, Bool.false_eq_true, ite_true, ite_false, Bool.not_true, Bool.not_false])
/-! ### bounds and measures -/
theorem isW_iff {d : D} : isW d = true ↔ ∃ i, d = .int i := by cases d <;> simp [isW]
/-! ### root numbers -/
/-- the items that are no whole numbers -/
def bads (l : List D) : List D := l.filterMap fun e => if isW e = true then none else some e
theorem bads_fine {n : Nat} {l : List D} (h : ∀ e ∈ l, fine n e = true) : fineAll n (bads l) = true := by
  rw [fineAll_iff]
  intro d hd
  obtain ⟨e, he, hs⟩ := List.mem_filterMap.mp hd
  split at hs
  · cases hs
  · cases hs; exact h _ he
theorem bads_nil {l : List D} (h : (bads l).isEmpty = true) : ∀ e ∈ l, isW e = true := by
  intro e he
  have h0 : bads l = [] := List.isEmpty_iff.mp h
  by_cases hw : isW e = true
  · exact hw
  · have : e ∈ bads l := List.mem_filterMap.mpr ⟨e, he, by rw [if_neg hw]⟩
    rw [h0] at this; cases this
theorem bads_some {l : List D} (h : (bads l).isEmpty = false) : ∃ e ∈ l, isW e = false := by
  cases hb : bads l with
  | nil => rw [hb] at h; cases h
  | cons x xs =>
    have : x ∈ bads l := by rw [hb]; exact List.mem_cons_self
    obtain ⟨e, he, hs⟩ := List.mem_filterMap.mp this
    refine ⟨e, he, ?_⟩
    split at hs
    · cases hs
    · rename_i hw; exact Bool.eq_false_iff.mpr hw
/-! ### the least form of a root number -/
def isSq (m : Int) : Prop := isq m * isq m = m
instance (m : Int) : Decidable (isSq m) := inferInstanceAs (Decidable (_ = _))
def rnX (m x y : Int) : Int := if isSq m then x + y * isq m else x
def rnY (m y : Int) : Int := if isSq m then 0 else y
def rnC (m x y b : Int) : Int := if b < 0 then 0 - (Int.gcd (Int.gcd (rnX m x y) (rnY m y) : Int) b : Int) else (Int.gcd (Int.gcd (rnX m x y) (rnY m y) : Int) b : Int)
def rootN (m x y b : Int) : D := .tup [.int ((rnX m x y).fdiv (rnC m x y b)), .int ((rnY m y).fdiv (rnC m x y b)), .int (b.fdiv (rnC m x y b))]
theorem gcd_bound {g b : Int} (hb : b ≠ 0) : (1 : Int) ≤ Int.gcd g b ∧ (Int.gcd g b : Int) ≤ b.natAbs := by
  have h1 : 0 < Int.gcd g b := Int.gcd_pos_of_ne_zero_right g hb
  have h2 : Int.gcd g b ≤ b.natAbs := Nat.le_of_dvd (by omega) (Int.gcd_dvd_natAbs_right g b)
  omega
end DL
namespace DL
open PySem PySem.Spec PyProof.Rows L2
local macro_rules | `(tactic| walk_at "rd") => `(tactic| simp only [startD, List.map, List.replicate, List.length_cons, List.length_nil, List.append_eq, List.append_nil, List.nil_append, List.cons_append, Nat.reduceSub, Nat.reduceAdd, List.getElem?_cons_zero, List.getElem?_cons_succ, List.set_cons_zero, List.set_cons_succ,
  dC, dVar, dOp, dTru, gTru, tru, dChain, dAnd, dOr, dNot, dAndV, dOrV, dNotV, dIf, dNeg, gNeg, dNil, dCons, dTup, dLst, dOwn, gIx, rBin, gAdd, gCmpI, dCall, dCallK, dSeq, dNext, dDrop, dRet, dRetN, dIfS, dName, dGNil, dGCons, dGTup, dSub, gSetL, dAsg, dPar, dPar3, dAug, gIpI, dSeqI, gSeqI, dRngI, gRng1, gRng2, dCB, gAbs, gInt, gMax, gMin, gGcd, gLen, lenD, gIsi, tyM, tyD, dBits, gBits, dMet, gAppend, dPart, dNoPart, dSl, dEnds, gIs, isB, dNever, dFor, dLc, wipeD, dYes,
  sizeLine_eq, Nat.reduceLeDiff, gEq_int, gNe_int, gEq_strs, gNe_strs, gIn_two, gRepr_bl, rs_lst, rs_tup, rs_scr, rs_int, atI_0, atI_1, atI_2, atI_3, atI_4, atI_5, ixN_30, ixN_31, ixN_32, gEq_bl, gNe_bl, decide_eq_true_eq, beq_iff_eq, Bool.not_eq_true', beq_eq_false_iff_ne, decide_eq_false_iff_not, Bool.not_true, Bool.not_false, if_true, if_false, Bool.false_eq_true, ite_true, ite_false, true_and, and_true, ne_eq, Bool.bne_false, Bool.bne_true, reduceCtorEq])
local macro_rules | `(tactic| walk_at "rh") => `(tactic| simp only [*, startD, List.map, List.replicate, List.length_cons, List.length_nil, List.append_eq, List.append_nil, List.nil_append, List.cons_append, Nat.reduceSub, Nat.reduceAdd, List.getElem?_cons_zero, List.getElem?_cons_succ, List.set_cons_zero, List.set_cons_succ,
  dC, dVar, dOp, dTru, gTru, tru, dChain, dAnd, dOr, dNot, dAndV, dOrV, dNotV, dIf, dNeg, gNeg, dNil, dCons, dTup, dLst, dOwn, gIx, rBin, gAdd, gCmpI, dCall, dCallK, dSeq, dNext, dDrop, dRet, dRetN, dIfS, dName, dGNil, dGCons, dGTup, dSub, gSetL, dAsg, dPar, dPar3, dAug, gIpI, dSeqI, gSeqI, dRngI, gRng1, gRng2, dCB, gAbs, gInt, gMax, gMin, gGcd, gLen, lenD, gIsi, tyM, tyD, dBits, gBits, dMet, gAppend, dPart, dNoPart, dSl, dEnds, gIs, isB, dNever, dFor, dLc, wipeD, dYes,
  sizeLine_eq, Nat.reduceLeDiff, gEq_int, gNe_int, gEq_strs, gNe_strs, gIn_two, gRepr_bl, rs_lst, rs_tup, rs_scr, rs_int, atI_0, atI_1, atI_2, atI_3, atI_4, atI_5, ixN_30, ixN_31, ixN_32, gEq_bl, gNe_bl, decide_eq_true_eq, beq_iff_eq, Bool.not_eq_true', beq_eq_false_iff_ne, decide_eq_false_iff_not, Bool.not_true, Bool.not_false, if_true, if_false, Bool.false_eq_true, ite_true, ite_false, true_and, and_true, ne_eq, Bool.bne_false, Bool.bne_true, reduceCtorEq])
local macro_rules | `(tactic| walk_at "kb") => `(tactic| simp only [kb_NoneType_list, kb_bool_list, kb_int_list, kb_str_list, kb_tuple_list, kb_list_list, kb_dict_list, kb_NoneType_int, kb_bool_int, kb_int_int, kb_str_int, kb_tuple_int, kb_list_int, kb_dict_int, kb_NoneType_bool, kb_bool_bool, kb_int_bool, kb_str_bool, kb_tuple_bool, kb_list_bool, kb_dict_bool, kb_NoneType_tuple, kb_bool_tuple, kb_int_tuple, kb_str_tuple, kb_tuple_tuple, kb_list_tuple, kb_dict_tuple, if_true, if_false, Bool.false_eq_true, ite_true, ite_false, Bool.not_true, Bool.not_false])
/-! ### the law's own draws -/
theorem sm_of {i : Int} (n : Nat) (h1 : -(2 ^ n : Int) < i) (h2 : i < 2 ^ n) (hn : n ≤ 400000 := by decide) : Sm i := by
  refine Sm.of n ?_ hn
  have e : ((2 ^ n : Nat) : Int) = (2 : Int) ^ n := by rw [Int.natCast_pow]; rfl
  omega
theorem fm_range {a b : Int} (h : 0 < b) : 0 ≤ a.fmod b ∧ a.fmod b < b := by
  rw [fmod_pos h]
  exact ⟨Int.emod_nonneg _ (by omega), Int.emod_lt_of_pos _ h⟩
def P31 : Int := 2147483648
def P40 : Int := 1099511627776
def sp_hash : DSp := fun ds M Q _ => ∃ s c : Int, ds = [.int s, .int c] ∧ 0 ≤ s ∧ s < P31 ∧ 0 ≤ c ∧ c ≤ P40 ∧ ∀ v, 0 ≤ v → v < P31 → Q (.int v) M
/-- cell k is a generator that has counted n, at most -/
def Gn (k : Nat) (n : Int) (M : Mem) : Prop := ∃ a s c : Int, M[k]? = some (.lst [.int a, .int s, .int c]) ∧ 0 ≤ s ∧ s < P31 ∧ 0 ≤ c ∧ c ≤ n
/-- cell k alone has changed -/
def Gst (k : Nat) (n : Int) (M M' : Mem) : Prop := M'.length = M.length ∧ Gn k n M' ∧ ∀ i, i ≠ k → M'[i]? = M[i]?
theorem Gn.le {k : Nat} {n m : Int} {M : Mem} (h : Gn k n M) (hn : n ≤ m) : Gn k m M := by
  obtain ⟨a, s, c, h1, h2, h3, h4, h5⟩ := h
  exact ⟨a, s, c, h1, h2, h3, h4, by omega⟩
theorem Gst.refl {k : Nat} {n : Int} {M : Mem} (h : Gn k n M) : Gst k n M M := ⟨rfl, h, fun _ _ => rfl⟩
theorem Gst.trans {k : Nat} {n m : Int} {M M' M'' : Mem} (h : Gst k n M M') (g : Gst k m M' M'') : Gst k m M M'' :=
  ⟨g.1.trans h.1, g.2.1, fun i hi => (g.2.2 i hi).trans (h.2.2 i hi)⟩
theorem Gst.le {k : Nat} {n m : Int} {M M' : Mem} (h : Gst k n M M') (hn : n ≤ m) : Gst k m M M' := ⟨h.1, h.2.1.le hn, h.2.2⟩
theorem Gst.set {k : Nat} {n : Int} {M : Mem} {a s c : Int} (hk : k < M.length) (h2 : 0 ≤ s) (h3 : s < P31) (h4 : 0 ≤ c) (h5 : c ≤ n) : Gst k n M (M.set k (.lst [.int a, .int s, .int c])) :=
  ⟨List.length_set, ⟨a, s, c, List.getElem?_set_self hk, h2, h3, h4, h5⟩, fun _ hi => List.getElem?_set_ne (Ne.symm hi)⟩
/-- a def that has changed the generator alone -/
theorem Gst.rtq {k : Nat} {n : Int} {M M' : Mem} {Q : DQ} {d : D} (h : Gst k n M M') (q : Q d M') (hb : below M'.length d = true := by rfl) : Rtq M Q d M' := by
  refine rtqC q (Nat.le_of_eq h.1.symm) hb fun i c hc => ?_
  by_cases hi : i = k
  · subst hi
    obtain ⟨a, s, c', e, _⟩ := h.2.1
    rw [e] at hc
    cases hc
    exact .inr rfl
  · rw [h.2.2 i hi] at hc
    exact .inl hc
def sp_random : DSp := fun ds M Q _ => ∃ (k : Nat) (b n : Int), ds = [.own k, .int b] ∧ 0 < b ∧ b < 2 ^ 900 ∧ Gn k n M ∧ n ≤ P40 - 40 ∧ ∀ v M', 0 ≤ v → v < b → Gst k (n + 40) M M' → Q (.int v) M'
theorem bits_le {b : Int} {n : Nat} (h0 : 0 < b) (h : b < 2 ^ n) : Builtin.Int.intBits b ≤ n := by
  unfold Builtin.Int.intBits
  rw [if_neg (by simp; omega)]
  have h1 : b.natAbs < 2 ^ n := by
    have e : ((2 ^ n : Nat) : Int) = (2 : Int) ^ n := by rw [Int.natCast_pow]; rfl
    omega
  have := (Nat.log2_lt (by omega)).mpr h1
  omega
theorem rd_l_random_7821 : ∀ ds M Q, ds.length = 2 → sp_random ds M Q DX0 → t_l_random_7821 sp_hash (dEnds M Q) (startD 4 ds) M := by
  rintro _ M Q - ⟨k, b, n, rfl, b0, b1, ⟨a, s, c, hk, s0, s1, c0, c1⟩, hn, q⟩
  have kl : k < M.length := (List.getElem?_eq_some_iff.mp hk).1
  unfold t_l_random_7821
  walk_at "rd"
  have e0 : res M (.own k) = .lst [.int a, .int s, .int c] := by unfold res; dsimp only; rw [hk]
  simp only [e0, hk]
  walk_at "rd"
  by_cases ha : 0 < a
  · rw [if_pos ha]
    have := fm_range (a := a) b0
    refine ⟨(by omega : b ≠ 0), ⟨by omega, Nat.lt_of_lt_of_le (log2_of 900 (by
      have e : ((2 ^ 900 : Nat) : Int) = (2 : Int) ^ 900 := by rw [Int.natCast_pow]; rfl
      omega) (by decide)) (by decide)⟩, ?_⟩
    exact (Gst.set kl s0 s1 c0 (by omega)).rtq (q _ _ this.1 this.2 (Gst.set kl s0 s1 c0 (by omega)))
  · rw [if_neg ha]
    have hb := bits_le b0 b1
    generalize hbits : Builtin.Int.intBits b = bits at hb
    have ef : ((bits : Nat) : Int).fdiv 30 = (bits / 30 : Nat) := by rw [fdiv_pos (by decide)]; omega
    rw [ef]
    refine ⟨⟨by decide, by decide⟩, ⟨by omega, by omega⟩, ?_⟩
    have eT : (1 + ((bits / 30 : Nat) : Int)).toNat = 1 + bits / 30 := by omega
    rw [eT]
    generalize hT : 1 + bits / 30 = T
    have hT1 : T ≤ 31 := by omega
    refine ⟨fun i r M' => i ≤ T ∧ Gst k (n + i) M M' ∧ ∃ dr tn, r = [some (.own k), some (.int b), some (.int dr), tn] ∧ 0 ≤ dr ∧ dr < 2 ^ (32 * i), ⟨by omega, ⟨rfl, ⟨a, s, c, hk, s0, s1, c0, by omega⟩, fun _ _ => rfl⟩, 0, _, rfl, by decide, by decide⟩, ?_⟩
    rintro i r M' ⟨hi, hg, dr, tn, rfl, d0, d1⟩
    refine ⟨trivial, fun hl => ?_, fun d hd => ?_⟩
    · walk_at "rd"
      have := fm_range (a := dr) b0
      exact ⟨(by omega : b ≠ 0), hg.rtq (q _ _ this.1 this.2 (hg.le (by omega)))⟩
    · obtain ⟨hi2, rfl⟩ := rng_get.mp hd
      obtain ⟨a', s', c', hk', s0', s1', c0', c1'⟩ := hg.2.1
      have kl' : k < M'.length := (List.getElem?_eq_some_iff.mp hk').1
      have e1 : res M' (.own k) = .lst [.int a', .int s', .int c'] := by unfold res; dsimp only; rw [hk']
      walk_at "rd"
      simp only [e1, hk']
      walk_at "rd"
      have e2 : res (M'.set k (.lst [.int a', .int s', .int (c' + 1)])) (.own k) = .lst [.int a', .int s', .int (c' + 1)] := by unfold res; dsimp only; rw [List.getElem?_set_self kl']
      simp only [e2]
      walk_at "rd"
      have sd : Sm dr := sm_of (32 * i) (by have := Int.pow_pos (n := 2) (m := 32 * i) (by decide); omega) d1 (by omega)
      unfold P40 at hn
      refine ⟨⟨sd, sm_of 32 (by decide) (by decide)⟩, s', c' + 1, rfl, s0', s1', by omega, by unfold P40; omega, fun v v0 v1 => ?_⟩
      refine ⟨by omega, hg.trans (Gst.set kl' s0' s1' (by omega) (by omega)), _, _, rfl, by omega, ?_⟩
      unfold P31 at v1
      have e3 : (2 : Int) ^ (32 * (i + 1)) = 2 ^ (32 * i) * 4294967296 := by rw [Nat.mul_add, Int.pow_add]; rfl
      rw [e3]
      omega
def sp_cell : DSp := fun ds M Q _ => ∃ (ns : List Int) (i : Int), ds = [.scr ns, .int i] ∧ 0 ≤ i ∧ ∀ v, Q (.int v) M
theorem rd_l_cell_cf3b : ∀ ds M Q, ds.length = 2 → sp_cell ds M Q DX0 → t_l_cell_cf3b (dEnds M Q) (startD 2 ds) M := by
  rintro _ M Q - ⟨ns, i, rfl, i0, q⟩
  unfold t_l_cell_cf3b
  walk_at "rd"
  by_cases hi : i < (ns.length : Nat)
  · rw [if_pos hi]
    have e : i = (i.toNat : Nat) := by omega
    have hl : i.toNat < ns.length := by omega
    rw [e, atI_of _ hl, List.getElem?_eq_getElem hl]
    exact rtq (q _)
  · rw [if_neg hi]
    obtain ⟨xs, ex⟩ := cut_map ns none (some 1)
    unfold gSlL
    walk_at "rd"
    rw [ex]
    unfold gSum
    walk_at "rd"
    rw [intsD_map]
    exact ⟨(by decide : (1000003 : Int) ≠ 0), rtq (q _)⟩
def sp_generator : DSp := fun ds M Q _ => ∃ (ns : List Int) (i : Int), ds = [.scr ns, .int i] ∧ 0 ≤ i ∧ i < P31 ∧ ∀ M', M'.length = M.length + 1 → Gn M.length (1000 * i) M' → (∀ j, j < M.length → M'[j]? = M[j]?) → Q (.own M.length) M'
theorem rd_l_generator_b324 : ∀ ds M Q, ds.length = 2 → sp_generator ds M Q DX0 → t_l_generator_b324 sp_cell (dEnds M Q) (startD 3 ds) M := by
  rintro _ M Q - ⟨ns, i, rfl, i0, i1, q⟩
  unfold t_l_generator_b324
  walk_at "rd"
  refine ⟨ns, i, rfl, i0, fun v => ?_⟩
  dsimp only
  have cp : CPow 10 18 ∧ CPow 10 60 ∧ CPow (10 ^ Int.toNat 60) 10 := by refine ⟨?_, ?_, ?_⟩ <;> (unfold CPow; decide)
  have hi : Sm i := by unfold P31 at i1; exact sm_of 32 (by omega) (by omega)
  refine ⟨cp.1, cp.2.1, cp.2.2, ?_, (by decide : (2147483647 : Int) ≠ 0), ⟨Sm.of 20 (by decide), hi⟩, ?_⟩
  · have h1 : (0 : Int) < (10 ^ Int.toNat 60) ^ Int.toNat 10 := Int.pow_pos (Int.pow_pos (by decide))
    exact fun e => by rw [e] at h1; exact absurd h1 (by decide)
  · have g := fm_range (a := v) (b := 2147483647) (by decide)
    have hl : ∀ c : Own, (M ++ [c])[M.length]? = some c := fun c => by rw [List.getElem?_append_right (Nat.le_refl _), Nat.sub_self]; rfl
    refine rtqC (q _ (by simp) ⟨_, _, _, hl _, g.1, by unfold P31; omega, by omega, Int.le_refl _⟩ fun j hj => List.getElem?_append_left hj) (by simp) (by simp only [below]; exact decide_eq_true (by simp)) fun j c hc => ?_
    by_cases hj : j < M.length
    · rw [List.getElem?_append_left hj] at hc; exact .inl hc
    · have hj2 : j < M.length + 1 := by
        have := (List.getElem?_eq_some_iff.mp hc).1
        simpa using this
      have e : j = M.length := by omega
      subst e
      rw [hl] at hc
      cases hc
      exact .inr rfl
def P400 : Int := 2 ^ 400
theorem p400_900 : P400 < 2 ^ 900 := by
  unfold P400
  have h : (2 : Nat) ^ 400 < 2 ^ 900 := Nat.pow_lt_pow_right (by decide) (by decide)
  have e : ((2 ^ 400 : Nat) : Int) = (2 : Int) ^ 400 := by rw [Int.natCast_pow]; rfl
  have e2 : ((2 ^ 900 : Nat) : Int) = (2 : Int) ^ 900 := by rw [Int.natCast_pow]; rfl
  omega
theorem p400_ten {i : Nat} (h : i ≤ 110) : 5 * (10 : Int) ^ i + 10 ≤ P400 := by
  have h1 : (10 : Int) ^ i ≤ 10 ^ 110 := by
    have h0 : (10 : Nat) ^ i ≤ 10 ^ 110 := Nat.pow_le_pow_right (by decide) h
    have e : ((10 ^ i : Nat) : Int) = (10 : Int) ^ i := by rw [Int.natCast_pow]; rfl
    have e2 : ((10 ^ 110 : Nat) : Int) = (10 : Int) ^ 110 := by rw [Int.natCast_pow]; rfl
    omega
  have h2 : 5 * (10 : Int) ^ 110 + 10 ≤ P400 := by unfold P400; decide +kernel
  omega
end DL
namespace DL
open PySem PySem.Spec PyProof.Rows L2
local macro_rules | `(tactic| walk_at "rd") => `(tactic| simp only [startD, List.map, List.replicate, List.length_cons, List.length_nil, List.append_eq, List.append_nil, List.nil_append, List.cons_append, Nat.reduceSub, Nat.reduceAdd, List.getElem?_cons_zero, List.getElem?_cons_succ, List.set_cons_zero, List.set_cons_succ,
  dC, dVar, dOp, dTru, gTru, tru, dChain, dAnd, dOr, dNot, dAndV, dOrV, dNotV, dIf, dNeg, gNeg, dNil, dCons, dTup, dLst, dOwn, gIx, rBin, gAdd, gCmpI, dCall, dCallK, dSeq, dNext, dDrop, dRet, dRetN, dIfS, dName, dGNil, dGCons, dGTup, dSub, gSetL, dAsg, dPar, dPar3, dAug, gIpI, dSeqI, gSeqI, dRngI, gRng1, gRng2, dCB, gAbs, gInt, gMax, gMin, gGcd, gLen, lenD, gIsi, tyM, tyD, dBits, gBits, dMet, gAppend, dPart, dNoPart, dSl, dEnds, gIs, isB, dNever, dFor, dLc, wipeD, dYes,
  sizeLine_eq, Nat.reduceLeDiff, gEq_int, gNe_int, gEq_strs, gNe_strs, gIn_two, gRepr_bl, rs_lst, rs_tup, rs_scr, rs_int, atI_0, atI_1, atI_2, atI_3, atI_4, atI_5, ixN_30, ixN_31, ixN_32, gEq_bl, gNe_bl, decide_eq_true_eq, beq_iff_eq, Bool.not_eq_true', beq_eq_false_iff_ne, decide_eq_false_iff_not, Bool.not_true, Bool.not_false, if_true, if_false, Bool.false_eq_true, ite_true, ite_false, true_and, and_true, ne_eq, Bool.bne_false, Bool.bne_true, reduceCtorEq])
local macro_rules | `(tactic| walk_at "rh") => `(tactic| simp only [*, startD, List.map, List.replicate, List.length_cons, List.length_nil, List.append_eq, List.append_nil, List.nil_append, List.cons_append, Nat.reduceSub, Nat.reduceAdd, List.getElem?_cons_zero, List.getElem?_cons_succ, List.set_cons_zero, List.set_cons_succ,
  dC, dVar, dOp, dTru, gTru, tru, dChain, dAnd, dOr, dNot, dAndV, dOrV, dNotV, dIf, dNeg, gNeg, dNil, dCons, dTup, dLst, dOwn, gIx, rBin, gAdd, gCmpI, dCall, dCallK, dSeq, dNext, dDrop, dRet, dRetN, dIfS, dName, dGNil, dGCons, dGTup, dSub, gSetL, dAsg, dPar, dPar3, dAug, gIpI, dSeqI, gSeqI, dRngI, gRng1, gRng2, dCB, gAbs, gInt, gMax, gMin, gGcd, gLen, lenD, gIsi, tyM, tyD, dBits, gBits, dMet, gAppend, dPart, dNoPart, dSl, dEnds, gIs, isB, dNever, dFor, dLc, wipeD, dYes,
  sizeLine_eq, Nat.reduceLeDiff, gEq_int, gNe_int, gEq_strs, gNe_strs, gIn_two, gRepr_bl, rs_lst, rs_tup, rs_scr, rs_int, atI_0, atI_1, atI_2, atI_3, atI_4, atI_5, ixN_30, ixN_31, ixN_32, gEq_bl, gNe_bl, decide_eq_true_eq, beq_iff_eq, Bool.not_eq_true', beq_eq_false_iff_ne, decide_eq_false_iff_not, Bool.not_true, Bool.not_false, if_true, if_false, Bool.false_eq_true, ite_true, ite_false, true_and, and_true, ne_eq, Bool.bne_false, Bool.bne_true, reduceCtorEq])
local macro_rules | `(tactic| walk_at "kb") => `(tactic| simp only [kb_NoneType_list, kb_bool_list, kb_int_list, kb_str_list, kb_tuple_list, kb_list_list, kb_dict_list, kb_NoneType_int, kb_bool_int, kb_int_int, kb_str_int, kb_tuple_int, kb_list_int, kb_dict_int, kb_NoneType_bool, kb_bool_bool, kb_int_bool, kb_str_bool, kb_tuple_bool, kb_list_bool, kb_dict_bool, kb_NoneType_tuple, kb_bool_tuple, kb_int_tuple, kb_str_tuple, kb_tuple_tuple, kb_list_tuple, kb_dict_tuple, if_true, if_false, Bool.false_eq_true, ite_true, ite_false, Bool.not_true, Bool.not_false])
theorem fine_ty {n : Nat} {d : D} (M : Mem) (h : fine n d = true) : ∃ T, tyM M d = some T := by
  cases d <;> first | exact ⟨_, rfl⟩ | (simp [fine] at h)
theorem dSeq_open {a b : DTS} {E : DEnds} {r : Env} {M : Mem} (h : ∀ B : Env → Mem → Prop, b E = B → a { E with nx := B } r M) : dSeq a b E r M := h _ rfl
/-! ### the least form: scaled, its size -/
theorem gcd_dvd3 (X Y b : Int) : (Int.gcd (Int.gcd X Y : Int) b : Int) ∣ X ∧ (Int.gcd (Int.gcd X Y : Int) b : Int) ∣ Y ∧ (Int.gcd (Int.gcd X Y : Int) b : Int) ∣ b :=
  ⟨Int.dvd_trans (Int.gcd_dvd_left _ _) (Int.gcd_dvd_left _ _), Int.dvd_trans (Int.gcd_dvd_left _ _) (Int.gcd_dvd_right _ _), Int.gcd_dvd_right _ _⟩
theorem rnC_dvd (m x y b : Int) : rnC m x y b ∣ rnX m x y ∧ rnC m x y b ∣ rnY m y ∧ rnC m x y b ∣ b := by
  have h := gcd_dvd3 (rnX m x y) (rnY m y) b
  unfold rnC
  split
  · rw [Int.zero_sub]
    exact ⟨Int.neg_dvd.mpr h.1, Int.neg_dvd.mpr h.2.1, Int.neg_dvd.mpr h.2.2⟩
  · exact h
theorem rnC_ne {m x y b : Int} (hb : b ≠ 0) : rnC m x y b ≠ 0 := by
  have := gcd_bound (g := (Int.gcd (rnX m x y) (rnY m y) : Int)) hb
  unfold rnC
  split <;> omega
theorem fdiv_scale {k a c : Int} (hk : k ≠ 0) (hc : c ≠ 0) (h : c ∣ a) : (k * a).fdiv (k * c) = a.fdiv c := by
  obtain ⟨t, rfl⟩ := h
  rw [Int.mul_fdiv_cancel_left _ hc, ← Int.mul_assoc, Int.mul_fdiv_cancel_left]
  exact Int.mul_ne_zero hk hc
theorem rnX_scale (k m x y : Int) : rnX m (k * x) (k * y) = k * rnX m x y := by
  unfold rnX
  split
  · rw [Int.mul_add, Int.mul_assoc]
  · rfl
theorem rnY_scale (k m y : Int) : rnY m (k * y) = k * rnY m y := by
  unfold rnY
  split
  · rw [Int.mul_zero]
  · rfl
theorem mul_neg_iff {k b : Int} (hk : k < 0) : k * b < 0 ↔ 0 < b := by
  constructor
  · intro h
    by_cases z : 0 < b
    · exact z
    · have := Int.mul_nonneg_of_nonpos_of_nonpos (a := k) (b := b) (by omega) (by omega)
      omega
  · exact fun h => Int.mul_neg_of_neg_of_pos hk h
theorem mul_pos_iff' {k b : Int} (hk : 0 < k) : k * b < 0 ↔ b < 0 := by
  constructor
  · intro h
    by_cases z : b < 0
    · exact z
    · have := Int.mul_nonneg (a := k) (b := b) (by omega) (by omega)
      omega
  · exact fun h => Int.mul_neg_of_pos_of_neg hk h
theorem rnC_scale {k m x y b : Int} (hk : k ≠ 0) (hb : b ≠ 0) : rnC m (k * x) (k * y) (k * b) = k * rnC m x y b := by
  unfold rnC
  rw [rnX_scale, rnY_scale]
  have e : (Int.gcd (Int.gcd (k * rnX m x y) (k * rnY m y) : Int) (k * b) : Int) = k.natAbs * (Int.gcd (Int.gcd (rnX m x y) (rnY m y) : Int) b : Int) := by
    rw [Int.gcd_mul_left]
    have e2 : ((k.natAbs * Int.gcd (rnX m x y) (rnY m y) : Nat) : Int) = (k.natAbs : Int) * (Int.gcd (rnX m x y) (rnY m y) : Int) := Int.natCast_mul _ _
    have e3 : ∀ (u v : Int), Int.gcd ((k.natAbs : Int) * u) (k * v) = k.natAbs * Int.gcd u v := by
      intro u v
      unfold Int.gcd
      rw [Int.natAbs_mul, Int.natAbs_mul, Int.natAbs_natCast, Nat.gcd_mul_left]
    rw [e2, e3, Int.natCast_mul]
  rw [e]
  generalize (Int.gcd (Int.gcd (rnX m x y) (rnY m y) : Int) b : Int) = g
  rcases (by omega : 0 < k ∨ k < 0) with h | h
  · have ek : (k.natAbs : Int) = k := by omega
    rw [ek]
    simp only [mul_pos_iff' h]
    split
    · rw [Int.mul_sub, Int.mul_zero]
    · rfl
  · have ek : (k.natAbs : Int) = -k := by omega
    rw [ek]
    simp only [mul_neg_iff h]
    by_cases z : 0 < b
    · rw [if_pos z, if_neg (by omega), Int.neg_mul]; omega
    · rw [if_neg z, if_pos (by omega), Int.neg_mul, Int.mul_sub]; omega
theorem rootN_scale {k m x y b : Int} (hk : k ≠ 0) (hb : b ≠ 0) : rootN m (k * x) (k * y) (k * b) = rootN m x y b := by
  have h := rnC_dvd m x y b
  have h0 := rnC_ne (m := m) (x := x) (y := y) hb
  unfold rootN
  rw [rnC_scale hk hb, rnX_scale, rnY_scale, fdiv_scale hk h0 h.1, fdiv_scale hk h0 h.2.1, fdiv_scale hk h0 h.2.2]
theorem str_self (z : Str) : (z == z) = true := by simp
theorem lit_cons {B : Nat} {d : D} {l : List D} (h : lit B d = true) (h2 : litAll B l = true) : litAll B (d :: l) = true := by
  simp only [litAll, h, h2, Bool.and_self]
end DL
namespace DL
open PySem PySem.Spec PyProof.Rows L2
local macro_rules | `(tactic| walk_at "rd") => `(tactic| simp only [startD, List.map, List.replicate, List.length_cons, List.length_nil, List.append_eq, List.append_nil, List.nil_append, List.cons_append, Nat.reduceSub, Nat.reduceAdd, List.getElem?_cons_zero, List.getElem?_cons_succ, List.set_cons_zero, List.set_cons_succ,
  dC, dVar, dOp, dTru, gTru, tru, dChain, dAnd, dOr, dNot, dAndV, dOrV, dNotV, dIf, dNeg, gNeg, dNil, dCons, dTup, dLst, dOwn, gIx, rBin, gAdd, gCmpI, dCall, dCallK, dSeq, dNext, dDrop, dRet, dRetN, dIfS, dName, dGNil, dGCons, dGTup, dSub, gSetL, dAsg, dPar, dPar3, dAug, gIpI, dSeqI, gSeqI, dRngI, gRng1, gRng2, dCB, gAbs, gInt, gMax, gMin, gGcd, gLen, lenD, gIsi, tyM, tyD, dBits, gBits, dMet, gAppend, dPart, dNoPart, dSl, dEnds, gIs, isB, dNever, dFor, dLc, wipeD, dYes,
  sizeLine_eq, Nat.reduceLeDiff, gEq_int, gNe_int, gEq_strs, gNe_strs, gIn_two, gRepr_bl, rs_lst, rs_tup, rs_scr, rs_int, atI_0, atI_1, atI_2, atI_3, atI_4, atI_5, ixN_30, ixN_31, ixN_32, gEq_bl, gNe_bl, decide_eq_true_eq, beq_iff_eq, Bool.not_eq_true', beq_eq_false_iff_ne, decide_eq_false_iff_not, Bool.not_true, Bool.not_false, if_true, if_false, Bool.false_eq_true, ite_true, ite_false, true_and, and_true, ne_eq, Bool.bne_false, Bool.bne_true, reduceCtorEq])
local macro_rules | `(tactic| walk_at "rh") => `(tactic| simp only [*, startD, List.map, List.replicate, List.length_cons, List.length_nil, List.append_eq, List.append_nil, List.nil_append, List.cons_append, Nat.reduceSub, Nat.reduceAdd, List.getElem?_cons_zero, List.getElem?_cons_succ, List.set_cons_zero, List.set_cons_succ,
  dC, dVar, dOp, dTru, gTru, tru, dChain, dAnd, dOr, dNot, dAndV, dOrV, dNotV, dIf, dNeg, gNeg, dNil, dCons, dTup, dLst, dOwn, gIx, rBin, gAdd, gCmpI, dCall, dCallK, dSeq, dNext, dDrop, dRet, dRetN, dIfS, dName, dGNil, dGCons, dGTup, dSub, gSetL, dAsg, dPar, dPar3, dAug, gIpI, dSeqI, gSeqI, dRngI, gRng1, gRng2, dCB, gAbs, gInt, gMax, gMin, gGcd, gLen, lenD, gIsi, tyM, tyD, dBits, gBits, dMet, gAppend, dPart, dNoPart, dSl, dEnds, gIs, isB, dNever, dFor, dLc, wipeD, dYes,
  sizeLine_eq, Nat.reduceLeDiff, gEq_int, gNe_int, gEq_strs, gNe_strs, gIn_two, gRepr_bl, rs_lst, rs_tup, rs_scr, rs_int, atI_0, atI_1, atI_2, atI_3, atI_4, atI_5, ixN_30, ixN_31, ixN_32, gEq_bl, gNe_bl, decide_eq_true_eq, beq_iff_eq, Bool.not_eq_true', beq_eq_false_iff_ne, decide_eq_false_iff_not, Bool.not_true, Bool.not_false, if_true, if_false, Bool.false_eq_true, ite_true, ite_false, true_and, and_true, ne_eq, Bool.bne_false, Bool.bne_true, reduceCtorEq])
local macro_rules | `(tactic| walk_at "kb") => `(tactic| simp only [kb_NoneType_list, kb_bool_list, kb_int_list, kb_str_list, kb_tuple_list, kb_list_list, kb_dict_list, kb_NoneType_int, kb_bool_int, kb_int_int, kb_str_int, kb_tuple_int, kb_list_int, kb_dict_int, kb_NoneType_bool, kb_bool_bool, kb_int_bool, kb_str_bool, kb_tuple_bool, kb_list_bool, kb_dict_bool, kb_NoneType_tuple, kb_bool_tuple, kb_int_tuple, kb_str_tuple, kb_tuple_tuple, kb_list_tuple, kb_dict_tuple, if_true, if_false, Bool.false_eq_true, ite_true, ite_false, Bool.not_true, Bool.not_false])
/-! ### bits -/
def Bi (n : Nat) (i : Int) : Prop := i.natAbs < 2 ^ n
theorem Bi.mono {n k : Nat} {i : Int} (h : Bi n i) (hk : n ≤ k := by decide) : Bi k i := Nat.lt_of_lt_of_le h (Nat.pow_le_pow_right (by decide) hk)
theorem Bi.mul {n k : Nat} {i j : Int} (h : Bi n i) (g : Bi k j) : Bi (n + k) (i * j) := by
  unfold Bi at *
  rw [Int.natAbs_mul, Nat.pow_add]
  exact Nat.mul_lt_mul'' h g
theorem Bi.add {n : Nat} {i j : Int} (h : Bi n i) (g : Bi n j) : Bi (n + 1) (i + j) := by
  unfold Bi at *
  rw [Nat.pow_succ]
  omega
theorem Bi.sub {n : Nat} {i j : Int} (h : Bi n i) (g : Bi n j) : Bi (n + 1) (i - j) := by
  unfold Bi at *
  rw [Nat.pow_succ]
  omega
theorem Bi.neg {n : Nat} {i : Int} (h : Bi n i) : Bi n (0 - i) := by
  unfold Bi at *
  omega
theorem Bi.sm {n : Nat} {i : Int} (h : Bi n i) (hn : n ≤ 400000 := by decide) : Sm i := Sm.of n h hn
theorem Bi.of_dvd {n : Nat} {c a x : Int} (h : Bi n x) (hc : c ≠ 0) (e : x = c * a) : Bi n a := by
  unfold Bi at *
  rw [e, Int.natAbs_mul] at h
  exact Nat.lt_of_le_of_lt (Nat.le_mul_of_pos_left _ (by omega)) h
theorem Bi.of_abs {n : Nat} {i : Int} (k : Nat) (h : i.natAbs ≤ k) (hk : k < 2 ^ n := by decide) : Bi n i := Nat.lt_of_le_of_lt h hk
/-! ### normal forms -/
abbrev T3 (a b c : Int) : D := .tup [.int a, .int b, .int c]
/-- (a, b, c) in least terms, over the measure m -/
structure NF (m a b c : Int) : Prop where
  pos : 1 ≤ c
  cop : Int.gcd (Int.gcd a b : Int) c = 1
  pr : isSq m → b = 0
def nC (X Y b : Int) : Int := if b < 0 then 0 - (Int.gcd (Int.gcd X Y : Int) b : Int) else (Int.gcd (Int.gcd X Y : Int) b : Int)
def nf (X Y b : Int) : D := T3 (X.fdiv (nC X Y b)) (Y.fdiv (nC X Y b)) (b.fdiv (nC X Y b))
theorem rootN_nf (m x y b : Int) : rootN m x y b = nf (rnX m x y) (rnY m y) b := rfl
theorem rootN_pr {m x y : Int} (b : Int) (h : isSq m → y = 0) : rootN m x y b = nf x y b := by
  rw [rootN_nf]
  by_cases hq : isSq m
  · have e := h hq
    subst e
    unfold rnX rnY
    rw [if_pos hq, if_pos hq, Int.zero_mul, Int.add_zero]
  · unfold rnX rnY
    rw [if_neg hq, if_neg hq]
theorem nf_scale {k X Y b : Int} (hk : k ≠ 0) (hb : b ≠ 0) : nf (k * X) (k * Y) (k * b) = nf X Y b := by
  have h : ¬ isSq 2 := by
    have e : isq 2 = 1 := isq_uni (by decide) (by decide) (by decide)
    unfold isSq; rw [e]; decide
  rw [← rootN_pr (m := 2) (k * b) (fun z => absurd z h), ← rootN_pr (m := 2) b (fun z => absurd z h)]
  exact rootN_scale hk hb
theorem nf_eq {X Y b X' Y' b' : Int} (hb : b ≠ 0) (hb' : b' ≠ 0) (h1 : X * b' = X' * b) (h2 : Y * b' = Y' * b) : nf X Y b = nf X' Y' b' := by
  rw [← nf_scale hb' hb, ← nf_scale (X := X') (Y := Y') hb hb']
  have e1 : b' * X = b * X' := by rw [Int.mul_comm, h1, Int.mul_comm]
  have e2 : b' * Y = b * Y' := by rw [Int.mul_comm, h2, Int.mul_comm]
  rw [e1, e2, Int.mul_comm b' b]
/-! ### sums, products, quotients -/
def Sz (n : Nat) (a b c : Int) : Prop := Bi n a ∧ Bi n b ∧ Bi n c
/-! ### the law's drawn root numbers -/
/-! ### sizes and values, for the laws -/
theorem NF.neg {m a b c : Int} (h : NF m a b c) : NF m (0 - a) (0 - b) c := by
  refine ⟨h.pos, ?_, fun q => by rw [h.pr q]; rfl⟩
  rw [Int.zero_sub, Int.zero_sub, Int.gcd_neg, Int.neg_gcd]
  exact h.cop
theorem Sz.neg {n : Nat} {a b c : Int} (h : Sz n a b c) : Sz n (0 - a) (0 - b) c := ⟨h.1.neg, h.2.1.neg, h.2.2⟩
theorem Sz.mono {n k : Nat} {a b c : Int} (h : Sz n a b c) (hk : n ≤ k := by decide) : Sz k a b c := ⟨h.1.mono hk, h.2.1.mono hk, h.2.2.mono hk⟩
end DL
namespace DL
open PySem PySem.Spec PyProof.Rows L2
local macro_rules | `(tactic| walk_at "rd") => `(tactic| simp only [startD, List.map, List.replicate, List.length_cons, List.length_nil, List.append_eq, List.append_nil, List.nil_append, List.cons_append, Nat.reduceSub, Nat.reduceAdd, List.getElem?_cons_zero, List.getElem?_cons_succ, List.set_cons_zero, List.set_cons_succ,
  dC, dVar, dOp, dTru, gTru, tru, dChain, dAnd, dOr, dNot, dAndV, dOrV, dNotV, dIf, dNeg, gNeg, dNil, dCons, dTup, dLst, dOwn, gIx, rBin, gAdd, gCmpI, dCall, dCallK, dSeq, dNext, dDrop, dRet, dRetN, dIfS, dName, dGNil, dGCons, dGTup, dSub, gSetL, dAsg, dPar, dPar3, dAug, gIpI, dSeqI, gSeqI, dRngI, gRng1, gRng2, dCB, gAbs, gInt, gMax, gMin, gGcd, gLen, lenD, gIsi, tyM, tyD, dBits, gBits, dMet, gAppend, dPart, dNoPart, dSl, dEnds, gIs, isB, dNever, dFor, dLc, wipeD, dYes,
  sizeLine_eq, Nat.reduceLeDiff, gEq_int, gNe_int, gEq_strs, gNe_strs, gIn_two, gRepr_bl, rs_lst, rs_tup, rs_scr, rs_int, atI_0, atI_1, atI_2, atI_3, atI_4, atI_5, ixN_30, ixN_31, ixN_32, gEq_bl, gNe_bl, decide_eq_true_eq, beq_iff_eq, Bool.not_eq_true', beq_eq_false_iff_ne, decide_eq_false_iff_not, Bool.not_true, Bool.not_false, if_true, if_false, Bool.false_eq_true, ite_true, ite_false, true_and, and_true, ne_eq, Bool.bne_false, Bool.bne_true, reduceCtorEq])
local macro_rules | `(tactic| walk_at "rh") => `(tactic| simp only [*, startD, List.map, List.replicate, List.length_cons, List.length_nil, List.append_eq, List.append_nil, List.nil_append, List.cons_append, Nat.reduceSub, Nat.reduceAdd, List.getElem?_cons_zero, List.getElem?_cons_succ, List.set_cons_zero, List.set_cons_succ,
  dC, dVar, dOp, dTru, gTru, tru, dChain, dAnd, dOr, dNot, dAndV, dOrV, dNotV, dIf, dNeg, gNeg, dNil, dCons, dTup, dLst, dOwn, gIx, rBin, gAdd, gCmpI, dCall, dCallK, dSeq, dNext, dDrop, dRet, dRetN, dIfS, dName, dGNil, dGCons, dGTup, dSub, gSetL, dAsg, dPar, dPar3, dAug, gIpI, dSeqI, gSeqI, dRngI, gRng1, gRng2, dCB, gAbs, gInt, gMax, gMin, gGcd, gLen, lenD, gIsi, tyM, tyD, dBits, gBits, dMet, gAppend, dPart, dNoPart, dSl, dEnds, gIs, isB, dNever, dFor, dLc, wipeD, dYes,
  sizeLine_eq, Nat.reduceLeDiff, gEq_int, gNe_int, gEq_strs, gNe_strs, gIn_two, gRepr_bl, rs_lst, rs_tup, rs_scr, rs_int, atI_0, atI_1, atI_2, atI_3, atI_4, atI_5, ixN_30, ixN_31, ixN_32, gEq_bl, gNe_bl, decide_eq_true_eq, beq_iff_eq, Bool.not_eq_true', beq_eq_false_iff_ne, decide_eq_false_iff_not, Bool.not_true, Bool.not_false, if_true, if_false, Bool.false_eq_true, ite_true, ite_false, true_and, and_true, ne_eq, Bool.bne_false, Bool.bne_true, reduceCtorEq])
local macro_rules | `(tactic| walk_at "kb") => `(tactic| simp only [kb_NoneType_list, kb_bool_list, kb_int_list, kb_str_list, kb_tuple_list, kb_list_list, kb_dict_list, kb_NoneType_int, kb_bool_int, kb_int_int, kb_str_int, kb_tuple_int, kb_list_int, kb_dict_int, kb_NoneType_bool, kb_bool_bool, kb_int_bool, kb_str_bool, kb_tuple_bool, kb_list_bool, kb_dict_bool, kb_NoneType_tuple, kb_bool_tuple, kb_int_tuple, kb_str_tuple, kb_tuple_tuple, kb_list_tuple, kb_dict_tuple, if_true, if_false, Bool.false_eq_true, ite_true, ite_false, Bool.not_true, Bool.not_false])
/-! ### the side of x + y root m -/
/-! ### the floor -/
end DL
namespace DL
open PySem PySem.Spec PyProof.Rows L2
local macro_rules | `(tactic| walk_at "rd") => `(tactic| simp only [startD, List.map, List.replicate, List.length_cons, List.length_nil, List.append_eq, List.append_nil, List.nil_append, List.cons_append, Nat.reduceSub, Nat.reduceAdd, List.getElem?_cons_zero, List.getElem?_cons_succ, List.set_cons_zero, List.set_cons_succ,
  dC, dVar, dOp, dTru, gTru, tru, dChain, dAnd, dOr, dNot, dAndV, dOrV, dNotV, dIf, dNeg, gNeg, dNil, dCons, dTup, dLst, dOwn, gIx, rBin, gAdd, gCmpI, dCall, dCallK, dSeq, dNext, dDrop, dRet, dRetN, dIfS, dName, dGNil, dGCons, dGTup, dSub, gSetL, dAsg, dPar, dPar3, dAug, gIpI, dSeqI, gSeqI, dRngI, gRng1, gRng2, dCB, gAbs, gInt, gMax, gMin, gGcd, gLen, lenD, gIsi, tyM, tyD, dBits, gBits, dMet, gAppend, dPart, dNoPart, dSl, dEnds, gIs, isB, dNever, dFor, dLc, wipeD, dYes,
  sizeLine_eq, Nat.reduceLeDiff, gEq_int, gNe_int, gEq_strs, gNe_strs, gIn_two, gRepr_bl, rs_lst, rs_tup, rs_scr, rs_int, atI_0, atI_1, atI_2, atI_3, atI_4, atI_5, ixN_30, ixN_31, ixN_32, gEq_bl, gNe_bl, decide_eq_true_eq, beq_iff_eq, Bool.not_eq_true', beq_eq_false_iff_ne, decide_eq_false_iff_not, Bool.not_true, Bool.not_false, if_true, if_false, Bool.false_eq_true, ite_true, ite_false, true_and, and_true, ne_eq, Bool.bne_false, Bool.bne_true, reduceCtorEq])
local macro_rules | `(tactic| walk_at "rh") => `(tactic| simp only [*, startD, List.map, List.replicate, List.length_cons, List.length_nil, List.append_eq, List.append_nil, List.nil_append, List.cons_append, Nat.reduceSub, Nat.reduceAdd, List.getElem?_cons_zero, List.getElem?_cons_succ, List.set_cons_zero, List.set_cons_succ,
  dC, dVar, dOp, dTru, gTru, tru, dChain, dAnd, dOr, dNot, dAndV, dOrV, dNotV, dIf, dNeg, gNeg, dNil, dCons, dTup, dLst, dOwn, gIx, rBin, gAdd, gCmpI, dCall, dCallK, dSeq, dNext, dDrop, dRet, dRetN, dIfS, dName, dGNil, dGCons, dGTup, dSub, gSetL, dAsg, dPar, dPar3, dAug, gIpI, dSeqI, gSeqI, dRngI, gRng1, gRng2, dCB, gAbs, gInt, gMax, gMin, gGcd, gLen, lenD, gIsi, tyM, tyD, dBits, gBits, dMet, gAppend, dPart, dNoPart, dSl, dEnds, gIs, isB, dNever, dFor, dLc, wipeD, dYes,
  sizeLine_eq, Nat.reduceLeDiff, gEq_int, gNe_int, gEq_strs, gNe_strs, gIn_two, gRepr_bl, rs_lst, rs_tup, rs_scr, rs_int, atI_0, atI_1, atI_2, atI_3, atI_4, atI_5, ixN_30, ixN_31, ixN_32, gEq_bl, gNe_bl, decide_eq_true_eq, beq_iff_eq, Bool.not_eq_true', beq_eq_false_iff_ne, decide_eq_false_iff_not, Bool.not_true, Bool.not_false, if_true, if_false, Bool.false_eq_true, ite_true, ite_false, true_and, and_true, ne_eq, Bool.bne_false, Bool.bne_true, reduceCtorEq])
local macro_rules | `(tactic| walk_at "kb") => `(tactic| simp only [kb_NoneType_list, kb_bool_list, kb_int_list, kb_str_list, kb_tuple_list, kb_list_list, kb_dict_list, kb_NoneType_int, kb_bool_int, kb_int_int, kb_str_int, kb_tuple_int, kb_list_int, kb_dict_int, kb_NoneType_bool, kb_bool_bool, kb_int_bool, kb_str_bool, kb_tuple_bool, kb_list_bool, kb_dict_bool, kb_NoneType_tuple, kb_bool_tuple, kb_int_tuple, kb_str_tuple, kb_tuple_tuple, kb_list_tuple, kb_dict_tuple, if_true, if_false, Bool.false_eq_true, ite_true, ite_false, Bool.not_true, Bool.not_false])
theorem rd_l_hash_d8d1 : ∀ ds M Q, ds.length = 2 → sp_hash ds M Q DX0 → t_l_hash_d8d1 (dEnds M Q) (startD 3 ds) M := by
  rintro _ M Q - ⟨s, c, rfl, s0, s1, c0, c1, q⟩
  unfold P31 P40 at *
  unfold t_l_hash_d8d1
  walk_at "rd"
  have ss : Sm s := sm_of 32 (by omega) (by omega)
  have sc : Sm c := sm_of 42 (by omega) (by omega)
  have hm : ∀ a : Int, 0 ≤ a.fmod 2147483629 ∧ a.fmod 2147483629 < 2147483629 := fun a => fm_range (by decide)
  have k1 : Sm (27644437 * c) := sm_of 72 (by omega) (by omega)
  refine ⟨⟨ss, sm_of 32 (by decide) (by decide)⟩, ⟨sm_of 32 (by decide) (by decide), sc⟩, ⟨k1, sc⟩, ⟨sm_of 32 (by decide) (by decide), sc⟩, (by decide : (2147483629 : Int) ≠ 0), ?_⟩
  generalize hv : Int.fmod _ 2147483629 = v
  have v1 : 0 ≤ v ∧ v < 2147483629 := by rw [← hv]; exact hm _
  have sv : Sm v := sm_of 32 (by omega) (by omega)
  refine ⟨⟨sv, sv⟩, ⟨sm_of 32 (by decide) (by decide), sc⟩, (by decide : (2147483587 : Int) ≠ 0), ?_⟩
  generalize hw : Int.fmod _ 2147483587 = w
  have w1 : 0 ≤ w ∧ w < 2147483587 := by rw [← hw]; exact fm_range (by decide)
  refine ⟨⟨sm_of 32 (by omega) (by omega), sm_of 32 (by decide) (by decide)⟩, (by decide : (2147483647 : Int) ≠ 0), ?_⟩
  have r1 : 0 ≤ (w * 48271).fmod 2147483647 ∧ (w * 48271).fmod 2147483647 < 2147483647 := fm_range (by decide)
  exact rtq (q _ r1.1 (by omega))
/-! ### cuttings -/
/-- a cutting: (a, b, c, e) -/
def isCut (a b c e : Int) : Bool := decide (1 ≤ b) && (decide (1 ≤ c) && (decide (c + e < b) && (decide (0 ≤ a) && (decide (a < (Int.gcd b c : Int)) && (Int.gcd (Int.gcd a (Int.gcd b c : Int) : Int) e : Int) == 1))))
def isCutD (d : D) : Bool := match d with
  | .tup [.int a, .int b, .int c, .int e] => isCut a b c e
  | _ => false
/-- d may be asked: no tuple, or of another length, or of plain data -/
def Askable (n : Nat) (M : Mem) (d : D) : Prop := (∃ T, tyM M d = some T) ∧ (∀ l, d = .tup l → l.length = n → ∀ e ∈ l, (fine 40 e = true ∧ ∃ T, tyM M e = some T))
theorem ask_fine {n : Nat} {d : D} (M : Mem) (h : fine 41 d = true) : Askable n M d := by
  refine ⟨fine_ty M h, ?_⟩
  rintro l rfl h3 e he
  have h' : fineAll 40 l = true := by simpa only [fine] using h
  have := fineAll_iff.mp h' e he
  exact ⟨this, fine_ty M this⟩
abbrev T4 (a b c e : Int) : D := .tup [.int a, .int b, .int c, .int e]
theorem len4 {l : List D} (h : l.length = 4) : ∃ a b c d, l = [a, b, c, d] := by
  match l, h with
  | [a, b, c, d], _ => exact ⟨a, b, c, d, rfl⟩
theorem isCutD_notup {d : D} (h : ∀ l, d ≠ .tup l) : isCutD d = false := by
  cases d <;> first | rfl | exact absurd rfl (h _)
theorem isCutD_len {l : List D} (h : l.length ≠ 4) : isCutD (.tup l) = false := by
  unfold isCutD
  split
  · rename_i e; cases e; exact absurd rfl h
  · rfl
theorem isCutD_bad {l : List D} (h : ∃ e ∈ l, isW e = false) : isCutD (.tup l) = false := by
  unfold isCutD
  split
  · rename_i e
    cases e
    obtain ⟨e, he, hw⟩ := h
    simp only [List.mem_cons, List.not_mem_nil, or_false] at he
    rcases he with rfl | rfl | rfl | rfl <;> cases hw
  · rfl
def sp_is_cutting : DSp := fun ds M Q _ => ∃ d, ds = [d] ∧ Askable 4 M d ∧ Q (.bl (isCutD d)) M
theorem rd_is_cutting_by : ∀ ds M Q, ds.length = 1 → sp_is_cutting ds M Q DX0 → t_is_cutting_by sp_is_whole sp_gcd (dEnds M Q) (startD 7 ds) M := by
  rintro _ M Q - ⟨d, rfl, ⟨⟨T, ht⟩, hr⟩, q⟩
  unfold t_is_cutting_by
  walk_at "rd"
  by_cases htup : ∃ l, d = .tup l
  · obtain ⟨l, rfl⟩ := htup
    walk_at "rd"
    walk_at "kb"
    by_cases h3 : l.length = 4
    · obtain ⟨da, db, dc, de, rfl⟩ := len4 h3
      have hr' := hr _ rfl rfl
      walk_at "rd"
      rw [if_neg (by decide)]
      refine lcW_pure (fun e => if isW e = true then none else some e) trivial (by rw [sizeLine_eq]; exact (by decide : (4 : Nat) ≤ 16777216)) (fun d hd Y N hy => ?_) ?_
      · walk_at "rd"
        obtain ⟨_, T', hT⟩ := hr' d hd
        refine ⟨d, T', rfl, hT, ?_⟩
        by_cases hw : isW d = true
        · simp only [hw, if_true] at hy ⊢
          exact hy
        · rw [Bool.not_eq_true] at hw
          simp only [hw, Bool.false_eq_true, if_false, Bool.not_false, if_true] at hy ⊢
          exact hy
      · refine gNe_nil' (n := 40) (bads_fine fun e he => (hr' e he).1) ?_
        show if (!(bads [da, db, dc, de]).isEmpty) = true then _ else _
        cases hb : (bads [da, db, dc, de]).isEmpty with
        | false =>
          rw [if_pos (by decide)]
          rw [isCutD_bad (bads_some hb)] at q
          exact rtq q
        | true =>
          rw [if_neg (by decide)]
          have hw := bads_nil hb
          obtain ⟨a, rfl⟩ := isW_iff.mp (hw da (by simp))
          obtain ⟨b, rfl⟩ := isW_iff.mp (hw db (by simp))
          obtain ⟨c, rfl⟩ := isW_iff.mp (hw dc (by simp))
          obtain ⟨e, rfl⟩ := isW_iff.mp (hw de (by simp))
          walk_at "rd"
          have fin : ∀ v, v = isCut a b c e → Rtq M Q (.bl v) M := by rintro _ rfl; exact rtq q
          by_cases h1 : b < 1
          · rw [if_pos h1]
            exact fin _ (by unfold isCut; rw [decide_eq_false (show ¬ 1 ≤ b by omega)]; rfl)
          · rw [if_neg h1]
            have e1 := decide_eq_true (show 1 ≤ b by omega)
            by_cases h2 : c < 1
            · rw [if_pos h2]
              exact fin _ (by unfold isCut; rw [e1, decide_eq_false (show ¬ 1 ≤ c by omega)]; rfl)
            · rw [if_neg h2]
              have e2 := decide_eq_true (show 1 ≤ c by omega)
              by_cases h3 : c + e < b
              · rw [if_neg (fun z => z h3)]
                have e3 := decide_eq_true h3
                refine ⟨b, c, rfl, ?_⟩
                dsimp only
                by_cases h4 : 0 ≤ a
                · rw [if_pos h4]
                  have e4 := decide_eq_true h4
                  by_cases h5 : a < (Int.gcd b c : Int)
                  · rw [if_pos h5]
                    have e5 := decide_eq_true h5
                    refine ⟨a, _, rfl, _, e, rfl, ?_⟩
                    dsimp only
                    rw [gEq_int]
                    exact fin _ (by unfold isCut; rw [e1, e2, e3, e4, e5]; rfl)
                  · rw [if_neg h5]
                    exact fin _ (by unfold isCut; rw [e1, e2, e3, e4, decide_eq_false h5]; rfl)
                · rw [if_neg h4, if_neg h4]
                  exact fin _ (by unfold isCut; rw [e1, e2, e3, decide_eq_false h4]; rfl)
              · rw [if_pos h3]
                exact fin _ (by unfold isCut; rw [e1, e2, decide_eq_false h3]; rfl)
    · have h3' : ¬ ((l.length : Nat) : Int) = 4 := by omega
      simp only [h3', not_false_eq_true, if_true]
      rw [isCutD_len h3] at q
      exact rtq q
  · have q' : Q (.bl false) M := by rwa [isCutD_notup fun l e => htup ⟨l, e⟩] at q
    cases d <;> first | exact absurd ⟨_, rfl⟩ htup | (cases ht; done) | skip
    all_goals walk_at "rd"
    case own k =>
      unfold tyM at ht
      dsimp only at ht
      split at ht
      · rename_i ds hk
        simp only [hk]
        walk_at "kb"
        exact rtq q'
      · cases ht
    all_goals walk_at "kb"
    all_goals exact rtq q'
/-- check_cutting of a cutting -/
def sp_check_cutting : DSp := fun ds M Q _ => ∃ a b c e : Int, ds = [T4 a b c e] ∧ isCut a b c e = true ∧ Q .non M
theorem rd_check_cutting : ∀ ds M Q, ds.length = 1 → sp_check_cutting ds M Q DX0 → t_check_cutting sp_is_cutting (dEnds M Q) (startD 1 ds) M := by
  rintro _ M Q - ⟨a, b, c, e, rfl, h, q⟩
  unfold t_check_cutting
  walk_at "rd"
  refine ⟨_, rfl, ask_fine M rfl, ?_⟩
  rw [show isCutD (T4 a b c e) = true from h]
  walk_at "rd"
  exact rtq q
def meas4 (b c e : Int) : Int := e * e + 4 * b * c
theorem cut_parts {a b c e : Int} (h : isCut a b c e = true) : 1 ≤ b ∧ 1 ≤ c ∧ c + e < b ∧ 0 ≤ a ∧ a < (Int.gcd b c : Int) ∧ (Int.gcd (Int.gcd a (Int.gcd b c : Int) : Int) e : Int) = 1 := by
  simpa only [isCut, Bool.and_eq_true, decide_eq_true_eq, beq_iff_eq] using h
theorem gcd4 (a b c e : Int) : (Int.gcd (Int.gcd a b : Int) (Int.gcd c e : Int) : Int) = (Int.gcd (Int.gcd a (Int.gcd b c : Int) : Int) e : Int) := by
  unfold Int.gcd
  simp only [Int.natAbs_natCast, Nat.gcd_assoc]
def sp_lis_cutting : DSp := fun ds M Q _ => ∃ a b c e : Int, ds = [.int a, .int b, .int c, .int e] ∧ Q (.bl (isCut a b c e)) M
theorem rd_l_is_cutting_19aa : ∀ ds M Q, ds.length = 4 → sp_lis_cutting ds M Q DX0 → t_l_is_cutting_19aa sp_gcd (dEnds M Q) (startD 4 ds) M := by
  rintro _ M Q - ⟨a, b, c, e, rfl, q⟩
  unfold t_l_is_cutting_19aa
  walk_at "rd"
  have fin : ∀ v, v = isCut a b c e → Rtq M Q (.bl v) M := by rintro _ rfl; exact rtq q
  by_cases h1 : b < 1
  · rw [if_pos h1]
    exact fin _ (by unfold isCut; rw [decide_eq_false (show ¬ 1 ≤ b by omega)]; rfl)
  · rw [if_neg h1]
    have e1 := decide_eq_true (show 1 ≤ b by omega)
    by_cases h2 : c < 1
    · rw [if_pos h2]
      exact fin _ (by unfold isCut; rw [e1, decide_eq_false (show ¬ 1 ≤ c by omega)]; rfl)
    · rw [if_neg h2]
      have e2 := decide_eq_true (show 1 ≤ c by omega)
      by_cases h3 : c + e < b
      · rw [if_neg (show ¬ b ≤ c + e by omega)]
        have e3 := decide_eq_true h3
        by_cases h4 : 0 ≤ a
        · have e4 := decide_eq_true h4
          rw [if_pos h4]
          refine ⟨b, c, rfl, ?_⟩
          dsimp only
          by_cases h5 : a < (Int.gcd b c : Int)
          · have e5 := decide_eq_true h5
            rw [if_neg (fun z => z h5)]
            refine ⟨a, b, rfl, c, e, rfl, _, _, rfl, ?_⟩
            dsimp only
            rw [gEq_int, gcd4]
            exact fin _ (by unfold isCut; rw [e1, e2, e3, e4, e5]; rfl)
          · rw [if_pos h5]
            exact fin _ (by unfold isCut; rw [e1, e2, e3, e4, decide_eq_false h5]; rfl)
        · rw [if_neg h4, if_pos h4]
          exact fin _ (by unfold isCut; rw [e1, e2, e3, decide_eq_false h4]; rfl)
      · rw [if_pos (by omega)]
        exact fin _ (by unfold isCut; rw [e1, e2, decide_eq_false h3]; rfl)
end DL
/-! MB: what a deed makes of a cutting; plain -/
namespace DL
/-- two ways to write the common divisor differ by a multiple of the other two -/
theorem bez_diff {m n g u v u' v' : Int} (hg : g ≠ 0) (hm : g ∣ m) (hn : g ∣ n) (h : u * m + v * n = g) (h' : u' * m + v' * n = g) : ∃ t, (u - u') * g = t * n ∧ (v - v') * g = -(t * m) := by
  -- t = u v' - u' v
  refine ⟨u * v' - u' * v, ?_, ?_⟩
  · have : (u - u') * g = u * (u' * m + v' * n) - u' * (u * m + v * n) := by rw [h, h']; grind
    rw [this]; grind
  · have : (v - v') * g = v * (u' * m + v' * n) - v' * (u * m + v * n) := by rw [h, h']; grind
    rw [this]; grind
theorem row_diff {p q x z x' z' : Int} (f1 : p * z - q * x = 1) (f1' : p * z' - q * x' = 1) : ∃ s, x - x' = s * p ∧ z - z' = s * q := by
  refine ⟨x * z' - x' * z, ?_, ?_⟩
  · have : x - x' = x * (p * z' - q * x') - x' * (p * z - q * x) := by rw [f1, f1']; omega
    rw [this]; grind
  · have : z - z' = z * (p * z' - q * x') - z' * (p * z - q * x) := by rw [f1, f1']; omega
    rw [this]; grind
/-- (a', w, g, e') is where the deed (p, q) leads from (a, b, c, e) -/
structure IsDone (a b c e p q a' w g e' : Int) : Prop where
  gc : g = (Int.gcd (p * b + q * a) (q * c) : Int)
  wi : w * g = c * (b - q * e - q * q * c)
  tu : e' = 0 - e - 2 * q * c
  lo : 0 ≤ a'
  hi : a' < (Int.gcd w g : Int)
  ex : ∃ u v x z : Int, p * z - q * x = 1 ∧ u * (p * b + q * a) + v * (q * c) = g ∧ (Int.gcd w g : Int) ∣ a' + (u * (x * b + z * a + e + q * c) + v * (z * c))
theorem isDone_unique {a b c e p q a1 w1 g1 e1 a2 w2 g2 e2 : Int} (hg : g1 ≠ 0) (h1 : IsDone a b c e p q a1 w1 g1 e1) (h2 : IsDone a b c e p q a2 w2 g2 e2) : a1 = a2 ∧ w1 = w2 ∧ g1 = g2 ∧ e1 = e2 := by
  have eg : g1 = g2 := h1.gc.trans h2.gc.symm
  subst eg
  have ew : w1 = w2 := Int.eq_of_mul_eq_mul_right hg (h1.wi.trans h2.wi.symm)
  subst ew
  refine ⟨?_, rfl, rfl, h1.tu.trans h2.tu.symm⟩
  obtain ⟨u, v, x, z, f1, f2, f3⟩ := h1.ex
  obtain ⟨u', v', x', z', f1', f2', f3'⟩ := h2.ex
  have dm : g1 ∣ p * b + q * a := by rw [h1.gc]; exact Int.gcd_dvd_left _ _
  have dn : g1 ∣ q * c := by rw [h1.gc]; exact Int.gcd_dvd_right _ _
  obtain ⟨t, t1, t2⟩ := bez_diff hg dm dn f2 f2'
  -- the second rows differ by a multiple of the first
  have hs := row_diff f1 f1'
  obtain ⟨s, s1, s2⟩ := hs
  have hw : w1 * g1 = (p * b + q * a) * (z' * c) - (q * c) * (x' * b + z' * a + e + q * c) := by
    rw [h1.wi]
    have : (p * b + q * a) * (z' * c) - (q * c) * (x' * b + z' * a + e + q * c) = c * (b * (p * z' - q * x') - q * e - q * q * c) := by grind
    rw [this, f1', Int.mul_one]
  -- the difference of the two rests
  have hd : ∃ k, (u * (x * b + z * a + e + q * c) + v * (z * c)) - (u' * (x' * b + z' * a + e + q * c) + v' * (z' * c)) = s * g1 + k * w1 := by
    refine ⟨-t, ?_⟩
    refine Int.eq_of_mul_eq_mul_right hg ?_
    have ex' : x = x' + s * p := by omega
    have ez' : z = z' + s * q := by omega
    have l1 : ((u * (x * b + z * a + e + q * c) + v * (z * c)) - (u' * (x' * b + z' * a + e + q * c) + v' * (z' * c))) = s * (u * (p * b + q * a) + v * (q * c)) + ((u - u') * (x' * b + z' * a + e + q * c) + (v - v') * (z' * c)) := by
      rw [ex', ez']; grind
    rw [l1, f2]
    have l2 : (s * g1 + ((u - u') * (x' * b + z' * a + e + q * c) + (v - v') * (z' * c))) * g1 = s * g1 * g1 + (((u - u') * g1) * (x' * b + z' * a + e + q * c) + ((v - v') * g1) * (z' * c)) := by grind
    rw [l2, t1, t2]
    have l3 : (s * g1 + -t * w1) * g1 = s * g1 * g1 + -t * (w1 * g1) := by grind
    rw [l3, hw]
    grind
  obtain ⟨k, hk⟩ := hd
  have dG : (Int.gcd w1 g1 : Int) ∣ a1 - a2 := by
    have d1 := Int.dvd_sub f3 f3'
    have d2 : (Int.gcd w1 g1 : Int) ∣ s * g1 + k * w1 := Int.dvd_add (Int.dvd_trans (Int.gcd_dvd_right _ _) (Int.dvd_mul_left _ _)) (Int.dvd_trans (Int.gcd_dvd_left _ _) (Int.dvd_mul_left _ _))
    have d3 := Int.dvd_sub d1 d2
    have e3 : a1 + (u * (x * b + z * a + e + q * c) + v * (z * c)) - (a2 + (u' * (x' * b + z' * a + e + q * c) + v' * (z' * c))) - (s * g1 + k * w1) = a1 - a2 := by rw [← hk]; omega
    rwa [e3] at d3
  obtain ⟨j, hj⟩ := dG
  have l1 := h1.lo
  have l2 := h2.lo
  have u1 := h1.hi
  have u2 := h2.hi
  generalize (Int.gcd w1 g1 : Int) = G at *
  by_cases hj0 : j = 0
  · subst hj0; omega
  · exfalso
    rcases (by omega : 1 ≤ j ∨ j ≤ -1) with q | q
    · have : G * 1 ≤ G * j := Int.mul_le_mul_of_nonneg_left q (by omega)
      omega
    · have : G * j ≤ G * (-1) := Int.mul_le_mul_of_nonneg_left q (by omega)
      omega
/-- a concave form is positive between two places where it is -/
theorem between_pos {b c e q s : Int} (hb : 0 < b) (hc : 0 < c) (hq : 0 < q) (hf : 0 < b - q * e - q * q * c) (s0 : 0 ≤ s) (s1 : s ≤ q * c) : 0 < c * b - s * e - s * s := by
  have hqc : 0 < q * c := Int.mul_pos hq hc
  have e1 : q * c * (c * b - s * e - s * s) = (q * c - s) * (c * b) + s * (c * (b - q * e - q * q * c)) + s * ((q * c - s) * (q * c)) := by grind
  have h1 : 0 < c * b := Int.mul_pos hc hb
  have h2 : 0 < c * (b - q * e - q * q * c) := Int.mul_pos hc hf
  have h3 : 0 ≤ s * ((q * c - s) * (q * c)) := Int.mul_nonneg s0 (Int.mul_nonneg (by omega) (by omega))
  have h4 : 0 < (q * c - s) * (c * b) + s * (c * (b - q * e - q * q * c)) := by
    by_cases z : s = 0
    · subst z
      have := Int.mul_pos hqc h1
      simp only [Int.sub_zero, Int.zero_mul, Int.add_zero]
      exact this
    · have h5 : 0 ≤ (q * c - s) * (c * b) := Int.mul_nonneg (by omega) (by omega)
      have h6 : 0 < s * (c * (b - q * e - q * q * c)) := Int.mul_pos (by omega) h2
      omega
  have h7 : 0 < q * c * (c * b - s * e - s * s) := by omega
  by_cases z : 0 < c * b - s * e - s * s
  · exact z
  · have : q * c * (c * b - s * e - s * s) ≤ 0 := Int.mul_nonpos_of_nonneg_of_nonpos (by omega) (by omega)
    omega
/-- where a deed leads, the side is less wide than it must be -/
theorem done_room {b c e q w g : Int} (hb : 0 < b) (hc : 0 < c) (hq : 0 < q) (hg : 0 < g) (hf : 0 < b - q * e - q * q * c) (hd : g ∣ q * c) (hw : w * g = c * (b - q * e - q * q * c)) : 0 < w ∧ g + (0 - e - 2 * q * c) < w := by
  have h2 : 0 < c * (b - q * e - q * q * c) := Int.mul_pos hc hf
  have hle : g ≤ q * c := Int.le_of_dvd (Int.mul_pos hq hc) hd
  have hp := between_pos (s := q * c - g) hb hc hq hf (by omega) (by omega)
  have e1 : c * b - (q * c - g) * e - (q * c - g) * (q * c - g) = w * g - g * (g + (0 - e - 2 * q * c)) := by rw [hw]; grind
  rw [e1] at hp
  refine ⟨?_, ?_⟩
  · by_cases z : 0 < w
    · exact z
    · have : w * g ≤ 0 := Int.mul_nonpos_of_nonpos_of_nonneg (by omega) (by omega)
      omega
  · by_cases z : g + (0 - e - 2 * q * c) < w
    · exact z
    · have h3 : g * w ≤ g * (g + (0 - e - 2 * q * c)) := Int.mul_le_mul_of_nonneg_left (by omega) (by omega)
      have h4 : g * w = w * g := Int.mul_comm _ _
      omega
/-- what divides all of the new cutting divides all of the old one -/
theorem done_dvd {a b c e p q a' w g e' d : Int} (hg : g ≠ 0) (h : IsDone a b c e p q a' w g e') (d1 : d ∣ a') (d2 : d ∣ w) (d3 : d ∣ g) (d4 : d ∣ e') : d ∣ a ∧ d ∣ b ∧ d ∣ c ∧ d ∣ e := by
  obtain ⟨u, v, x, z, f1, f2, f3⟩ := h.ex
  have dm : g ∣ p * b + q * a := by rw [h.gc]; exact Int.gcd_dvd_left _ _
  have dn : g ∣ q * c := by rw [h.gc]; exact Int.gcd_dvd_right _ _
  obtain ⟨m', hm⟩ := dm
  obtain ⟨n', hn⟩ := dn
  have hu : u * m' + v * n' = 1 := by
    have : g * (u * m' + v * n') = g * 1 := by
      have e1 : g * (u * m' + v * n') = u * (g * m') + v * (g * n') := by grind
      rw [e1, ← hm, ← hn, f2, Int.mul_one]
    exact Int.eq_of_mul_eq_mul_left hg this
  generalize hr3 : x * b + z * a + e + q * c = r3 at f3
  generalize hr4 : z * c = r4 at f3
  have hW : w = m' * r4 - n' * r3 := by
    refine Int.eq_of_mul_eq_mul_right hg ?_
    rw [h.wi]
    have e1 : (m' * r4 - n' * r3) * g = (g * m') * r4 - (g * n') * r3 := by grind
    rw [e1, ← hm, ← hn, ← hr3, ← hr4]
    have e2 : (p * b + q * a) * (z * c) - (q * c) * (x * b + z * a + e + q * c) = c * (b * (p * z - q * x) - q * e - q * q * c) := by grind
    rw [e2, f1, Int.mul_one]
  have dR : d ∣ u * r3 + v * r4 := by
    have h1 : d ∣ (Int.gcd w g : Int) := Int.dvd_coe_gcd d2 d3
    have h2 := Int.dvd_sub (Int.dvd_trans h1 f3) d1
    have e1 : a' + (u * r3 + v * r4) - a' = u * r3 + v * r4 := by omega
    rwa [e1] at h2
  generalize hR : u * r3 + v * r4 = R at dR
  have e3 : r3 = m' * R - v * w := by
    have : m' * R - v * w = (u * m' + v * n') * r3 := by rw [← hR, hW]; grind
    rw [this, hu, Int.one_mul]
  have e4 : r4 = n' * R + u * w := by
    have : n' * R + u * w = (u * m' + v * n') * r4 := by rw [← hR, hW]; grind
    rw [this, hu, Int.one_mul]
  have D3 : d ∣ r3 := by rw [e3]; exact Int.dvd_sub (Int.dvd_mul_of_dvd_right dR) (Int.dvd_mul_of_dvd_right d2)
  have D4 : d ∣ r4 := by rw [e4]; exact Int.dvd_add (Int.dvd_mul_of_dvd_right dR) (Int.dvd_mul_of_dvd_right d2)
  have Dm : d ∣ p * b + q * a := by rw [hm]; exact Int.dvd_mul_of_dvd_left d3
  have Dn : d ∣ q * c := by rw [hn]; exact Int.dvd_mul_of_dvd_left d3
  have De : d ∣ e := by
    have h1 : e = 0 - e' - 2 * (q * c) := by have := h.tu; have e1 : 2 * q * c = 2 * (q * c) := Int.mul_assoc _ _ _; omega
    rw [h1, Int.zero_sub]
    exact Int.dvd_sub (Int.dvd_neg.mpr d4) (Int.dvd_mul_of_dvd_right Dn)
  have Dc : d ∣ c := by
    have h1 : c = p * r4 - x * (q * c) := by
      have : p * r4 - x * (q * c) = c * (p * z - q * x) := by rw [← hr4]; grind
      rw [this, f1, Int.mul_one]
    rw [h1]
    exact Int.dvd_sub (Int.dvd_mul_of_dvd_right D4) (Int.dvd_mul_of_dvd_right Dn)
  have Dx : d ∣ x * b + z * a := by
    have h1 : x * b + z * a = r3 - e - q * c := by omega
    rw [h1]
    exact Int.dvd_sub (Int.dvd_sub D3 De) Dn
  refine ⟨?_, ?_, Dc, De⟩
  · have h1 : a = p * (x * b + z * a) - x * (p * b + q * a) := by
      have : p * (x * b + z * a) - x * (p * b + q * a) = a * (p * z - q * x) := by grind
      rw [this, f1, Int.mul_one]
    rw [h1]
    exact Int.dvd_sub (Int.dvd_mul_of_dvd_right Dx) (Int.dvd_mul_of_dvd_right Dm)
  · have h1 : b = z * (p * b + q * a) - q * (x * b + z * a) := by
      have : z * (p * b + q * a) - q * (x * b + z * a) = b * (p * z - q * x) := by grind
      rw [this, f1, Int.mul_one]
    rw [h1]
    exact Int.dvd_sub (Int.dvd_mul_of_dvd_right Dm) (Int.dvd_mul_of_dvd_right Dx)
end DL
namespace DL
open PySem PySem.Spec PyProof.Rows L2
local macro_rules | `(tactic| walk_at "rd") => `(tactic| simp only [startD, List.map, List.replicate, List.length_cons, List.length_nil, List.append_eq, List.append_nil, List.nil_append, List.cons_append, Nat.reduceSub, Nat.reduceAdd, List.getElem?_cons_zero, List.getElem?_cons_succ, List.set_cons_zero, List.set_cons_succ,
  dC, dVar, dOp, dTru, gTru, tru, dChain, dAnd, dOr, dNot, dAndV, dOrV, dNotV, dIf, dNeg, gNeg, dNil, dCons, dTup, dLst, dOwn, gIx, rBin, gAdd, gCmpI, dCall, dCallK, dSeq, dNext, dDrop, dRet, dRetN, dIfS, dName, dGNil, dGCons, dGTup, dSub, gSetL, dAsg, dPar, dPar3, dAug, gIpI, dSeqI, gSeqI, dRngI, gRng1, gRng2, dCB, gAbs, gInt, gMax, gMin, gGcd, gLen, lenD, gIsi, tyM, tyD, dBits, gBits, dMet, gAppend, dPart, dNoPart, dSl, dEnds, gIs, isB, dNever, dFor, dLc, wipeD, dYes,
  sizeLine_eq, Nat.reduceLeDiff, gEq_int, gNe_int, gEq_strs, gNe_strs, gIn_two, gRepr_bl, rs_lst, rs_tup, rs_scr, rs_int, atI_0, atI_1, atI_2, atI_3, atI_4, atI_5, ixN_30, ixN_31, ixN_32, gEq_bl, gNe_bl, decide_eq_true_eq, beq_iff_eq, Bool.not_eq_true', beq_eq_false_iff_ne, decide_eq_false_iff_not, Bool.not_true, Bool.not_false, if_true, if_false, Bool.false_eq_true, ite_true, ite_false, true_and, and_true, ne_eq, Bool.bne_false, Bool.bne_true, reduceCtorEq])
local macro_rules | `(tactic| walk_at "rh") => `(tactic| simp only [*, startD, List.map, List.replicate, List.length_cons, List.length_nil, List.append_eq, List.append_nil, List.nil_append, List.cons_append, Nat.reduceSub, Nat.reduceAdd, List.getElem?_cons_zero, List.getElem?_cons_succ, List.set_cons_zero, List.set_cons_succ,
  dC, dVar, dOp, dTru, gTru, tru, dChain, dAnd, dOr, dNot, dAndV, dOrV, dNotV, dIf, dNeg, gNeg, dNil, dCons, dTup, dLst, dOwn, gIx, rBin, gAdd, gCmpI, dCall, dCallK, dSeq, dNext, dDrop, dRet, dRetN, dIfS, dName, dGNil, dGCons, dGTup, dSub, gSetL, dAsg, dPar, dPar3, dAug, gIpI, dSeqI, gSeqI, dRngI, gRng1, gRng2, dCB, gAbs, gInt, gMax, gMin, gGcd, gLen, lenD, gIsi, tyM, tyD, dBits, gBits, dMet, gAppend, dPart, dNoPart, dSl, dEnds, gIs, isB, dNever, dFor, dLc, wipeD, dYes,
  sizeLine_eq, Nat.reduceLeDiff, gEq_int, gNe_int, gEq_strs, gNe_strs, gIn_two, gRepr_bl, rs_lst, rs_tup, rs_scr, rs_int, atI_0, atI_1, atI_2, atI_3, atI_4, atI_5, ixN_30, ixN_31, ixN_32, gEq_bl, gNe_bl, decide_eq_true_eq, beq_iff_eq, Bool.not_eq_true', beq_eq_false_iff_ne, decide_eq_false_iff_not, Bool.not_true, Bool.not_false, if_true, if_false, Bool.false_eq_true, ite_true, ite_false, true_and, and_true, ne_eq, Bool.bne_false, Bool.bne_true, reduceCtorEq])
local macro_rules | `(tactic| walk_at "kb") => `(tactic| simp only [kb_NoneType_list, kb_bool_list, kb_int_list, kb_str_list, kb_tuple_list, kb_list_list, kb_dict_list, kb_NoneType_int, kb_bool_int, kb_int_int, kb_str_int, kb_tuple_int, kb_list_int, kb_dict_int, kb_NoneType_bool, kb_bool_bool, kb_int_bool, kb_str_bool, kb_tuple_bool, kb_list_bool, kb_dict_bool, kb_NoneType_tuple, kb_bool_tuple, kb_int_tuple, kb_str_tuple, kb_tuple_tuple, kb_list_tuple, kb_dict_tuple, if_true, if_false, Bool.false_eq_true, ite_true, ite_false, Bool.not_true, Bool.not_false])
/-! ### deeds -/
/-- where a deed leads is a cutting of the same measure -/
theorem done_cut {a b c e p q a' w g e' : Int} (h : isCut a b c e = true) (hq : 1 ≤ q) (hf : 0 < b - q * e - q * q * c) (hd : IsDone a b c e p q a' w g e') : isCut a' w g e' = true ∧ meas4 w g e' = meas4 b c e := by
  obtain ⟨h1, h2, h3, h4, h5, h6⟩ := cut_parts h
  have hqc : 0 < q * c := Int.mul_pos (by omega) (by omega)
  have dn : g ∣ q * c := by rw [hd.gc]; exact Int.gcd_dvd_right _ _
  have hg : 0 < g := by
    have := Int.gcd_pos_of_ne_zero_right (p * b + q * a) (show q * c ≠ 0 by omega)
    rw [hd.gc]; omega
  obtain ⟨w0, room⟩ := done_room (by omega : 0 < b) (by omega : 0 < c) (by omega : 0 < q) hg hf dn hd.wi
  have hprim : (Int.gcd (Int.gcd a' (Int.gcd w g : Int) : Int) e' : Int) = 1 := by
    have d0 : (Int.gcd (Int.gcd a' (Int.gcd w g : Int) : Int) e' : Int) ∣ (Int.gcd a' (Int.gcd w g : Int) : Int) := Int.gcd_dvd_left _ _
    have d4 : (Int.gcd (Int.gcd a' (Int.gcd w g : Int) : Int) e' : Int) ∣ e' := Int.gcd_dvd_right _ _
    have d1 := Int.dvd_trans d0 (Int.gcd_dvd_left _ _)
    have d5 := Int.dvd_trans d0 (Int.gcd_dvd_right _ _)
    have d2 := Int.dvd_trans d5 (Int.gcd_dvd_left _ _)
    have d3 := Int.dvd_trans d5 (Int.gcd_dvd_right _ _)
    obtain ⟨k1, k2, k3, k4⟩ := done_dvd (by omega) hd d1 d2 d3 d4
    have k5 : (Int.gcd (Int.gcd a' (Int.gcd w g : Int) : Int) e' : Int) ∣ 1 := by
      rw [← h6]
      exact Int.dvd_coe_gcd (Int.dvd_coe_gcd k1 (Int.dvd_coe_gcd k2 k3)) k4
    have k6 := Int.le_of_dvd (by decide) k5
    have k7 : (Int.gcd (Int.gcd a' (Int.gcd w g : Int) : Int) e' : Int) ≠ 0 := by
      intro z
      rw [z] at k5
      exact absurd (Int.zero_dvd.mp k5) (by decide)
    omega
  refine ⟨?_, ?_⟩
  · unfold isCut
    rw [decide_eq_true (show 1 ≤ w by omega), decide_eq_true (show 1 ≤ g by omega), decide_eq_true (show g + e' < w by have := hd.tu; omega), decide_eq_true hd.lo, decide_eq_true hd.hi, hprim]
    rfl
  · unfold meas4
    rw [hd.tu]
    have e1 : 4 * w * g = 4 * (w * g) := Int.mul_assoc _ _ _
    rw [e1, hd.wi]
    grind
end DL
/-! MC: Euclid's rule with the factors; plain -/
namespace DL
theorem fmod_pos' {a b : Int} (h : 0 < b) : a.fmod b = a % b := Int.fmod_eq_emod_of_nonneg a (Int.le_of_lt h)
/-- the state of the rule: low = f m + t n, high = s m + h n, the sizes bounded -/
structure Euc (m n low high f s t h : Int) : Prop where
  e1 : low = f * m + t * n
  e2 : high = s * m + h * n
  l0 : 0 < low
  h0 : 0 ≤ high
  sg : (0 ≤ f ∧ s ≤ 0 ∧ f * high - s * low = n) ∨ (f ≤ 0 ∧ 0 ≤ s ∧ s * low - f * high = n)
  fb : -n ≤ f ∧ f ≤ n
  gc : (Int.gcd low high : Int) = Int.gcd m n
theorem Euc.sb {m n low high f s t h : Int} (E : Euc m n low high f s t h) : -n ≤ s ∧ s ≤ n := by
  have l0 := E.l0
  rcases E.sg with ⟨a, b, c⟩ | ⟨a, b, c⟩
  · have h1 : 0 ≤ f * high := Int.mul_nonneg a E.h0
    have h2 : (-s) * 1 ≤ (-s) * low := Int.mul_le_mul_of_nonneg_left l0 (by omega)
    have h3 : (-s) * low = -(s * low) := Int.neg_mul _ _
    omega
  · have h1 : 0 ≤ (-f) * high := Int.mul_nonneg (by omega) E.h0
    have h1' : (-f) * high = -(f * high) := Int.neg_mul _ _
    have h2 : s * 1 ≤ s * low := Int.mul_le_mul_of_nonneg_left l0 b
    omega
theorem Euc.step {m n low high f s t h : Int} (E : Euc m n low high f s t h) (hz : high ≠ 0) : Euc m n high (low - low / high * high) s (f - low / high * s) h (t - low / high * h) := by
  have h0 := E.h0
  have hp : 0 < high := by omega
  have k0 : 0 ≤ low / high := Int.ediv_nonneg (Int.le_of_lt E.l0) h0
  have r0 := Int.emod_nonneg low hz
  have rm : low - low / high * high = low % high := by
    have := Int.mul_ediv_add_emod low high
    have e : low / high * high = high * (low / high) := Int.mul_comm _ _
    omega
  refine ⟨E.e2, ?_, hp, by rw [rm]; exact r0, ?_, E.sb, ?_⟩
  · have e1 := E.e1
    have e2 := E.e2
    generalize low / high = k at *
    rw [e1, e2]
    grind
  · have sg := E.sg
    generalize low / high = k at *
    rcases sg with ⟨a, b, c⟩ | ⟨a, b, c⟩
    · right
      have : k * s ≤ 0 := Int.mul_nonpos_of_nonneg_of_nonpos k0 b
      refine ⟨b, by omega, ?_⟩
      rw [← c]; grind
    · left
      have : 0 ≤ k * s := Int.mul_nonneg k0 b
      refine ⟨b, by omega, ?_⟩
      rw [← c]; grind
  · rw [rm, ← E.gc, ← fmod_pos' hp]
    exact congrArg _ (gcd_step (Int.le_of_lt E.l0) hp)
theorem gcd_emod' (m n : Int) : (Int.gcd n (m % n) : Int) = Int.gcd m n := by
  have h := Int.mul_ediv_add_emod m n
  refine congrArg _ (Nat.dvd_antisymm ?_ ?_)
  · refine Int.natCast_dvd_natCast.mp (Int.dvd_coe_gcd ?_ (Int.gcd_dvd_left _ _))
    have h1 : (Int.gcd n (m % n) : Int) ∣ n * (m / n) + m % n := Int.dvd_add (Int.dvd_mul_of_dvd_left (Int.gcd_dvd_left _ _)) (Int.gcd_dvd_right _ _)
    rwa [h] at h1
  · refine Int.natCast_dvd_natCast.mp (Int.dvd_coe_gcd (Int.gcd_dvd_right _ _) ?_)
    have e : m % n = m - n * (m / n) := by omega
    rw [e]
    exact Int.dvd_sub (Int.gcd_dvd_left _ _) (Int.dvd_mul_of_dvd_left (Int.gcd_dvd_right _ _))
/-- behind the first turn -/
theorem Euc.first {m n : Int} (hn : 0 < n) : Euc m n n (m - m / n * n) 0 (1 - m / n * 0) 1 (0 - m / n * 1) := by
  have hm := Int.mul_ediv_add_emod m n
  have e : m / n * n = n * (m / n) := Int.mul_comm _ _
  have rm : m - m / n * n = m % n := by omega
  refine ⟨by omega, ?_, hn, by rw [rm]; exact Int.emod_nonneg _ (by omega), ?_, by omega, ?_⟩
  · rw [Int.mul_zero, Int.mul_one, Int.sub_zero, Int.one_mul, Int.zero_sub, Int.neg_mul]; omega
  · right
    rw [Int.mul_zero, Int.sub_zero, Int.one_mul, Int.zero_mul]
    omega
  · rw [rm]; exact gcd_emod' m n
/-- the other factors are bounded too -/
theorem Euc.tb {m n low high f s t h : Int} (hn : 0 < n) (E : Euc m n low high f s t h) (hl : low ≤ n) (hh : high ≤ n) : t.natAbs ≤ m.natAbs + 1 ∧ h.natAbs ≤ m.natAbs + 1 := by
  have key : ∀ x y z : Int, 0 ≤ x → x ≤ n → x = y * m + z * n → -n ≤ y → y ≤ n → z.natAbs ≤ m.natAbs + 1 := by
    intro x y z x0 x1 e y0 y1
    have h1 : z * n = x - y * m := by omega
    have h2 : z.natAbs * n.natAbs ≤ (m.natAbs + 1) * n.natAbs := by
      rw [← Int.natAbs_mul, h1]
      have h3 : (x - y * m).natAbs ≤ x.natAbs + (y * m).natAbs := by omega
      have h4 : (y * m).natAbs ≤ n.natAbs * m.natAbs := by rw [Int.natAbs_mul]; exact Nat.mul_le_mul_right _ (by omega)
      have h5 : (m.natAbs + 1) * n.natAbs = n.natAbs * m.natAbs + n.natAbs := by rw [Nat.add_mul, Nat.one_mul, Nat.mul_comm]
      omega
    exact Nat.le_of_mul_le_mul_right h2 (by omega)
  exact ⟨key low f t (Int.le_of_lt E.l0) hl E.e1 E.fb.1 E.fb.2, key high s h E.h0 hh E.e2 E.sb.1 E.sb.2⟩
end DL
namespace DL
open PySem PySem.Spec PyProof.Rows L2
local macro_rules | `(tactic| walk_at "rd") => `(tactic| simp only [startD, List.map, List.replicate, List.length_cons, List.length_nil, List.append_eq, List.append_nil, List.nil_append, List.cons_append, Nat.reduceSub, Nat.reduceAdd, List.getElem?_cons_zero, List.getElem?_cons_succ, List.set_cons_zero, List.set_cons_succ,
  dC, dVar, dOp, dTru, gTru, tru, dChain, dAnd, dOr, dNot, dAndV, dOrV, dNotV, dIf, dNeg, gNeg, dNil, dCons, dTup, dLst, dOwn, gIx, rBin, gAdd, gCmpI, dCall, dCallK, dSeq, dNext, dDrop, dRet, dRetN, dIfS, dName, dGNil, dGCons, dGTup, dSub, gSetL, dAsg, dPar, dPar3, dAug, gIpI, dSeqI, gSeqI, dRngI, gRng1, gRng2, dCB, gAbs, gInt, gMax, gMin, gGcd, gLen, lenD, gIsi, tyM, tyD, dBits, gBits, dMet, gAppend, dPart, dNoPart, dSl, dEnds, gIs, isB, dNever, dFor, dLc, wipeD, dYes,
  sizeLine_eq, Nat.reduceLeDiff, gEq_int, gNe_int, gEq_strs, gNe_strs, gIn_two, gRepr_bl, rs_lst, rs_tup, rs_scr, rs_int, atI_0, atI_1, atI_2, atI_3, atI_4, atI_5, ixN_30, ixN_31, ixN_32, gEq_bl, gNe_bl, decide_eq_true_eq, beq_iff_eq, Bool.not_eq_true', beq_eq_false_iff_ne, decide_eq_false_iff_not, Bool.not_true, Bool.not_false, if_true, if_false, Bool.false_eq_true, ite_true, ite_false, true_and, and_true, ne_eq, Bool.bne_false, Bool.bne_true, reduceCtorEq])
local macro_rules | `(tactic| walk_at "rh") => `(tactic| simp only [*, startD, List.map, List.replicate, List.length_cons, List.length_nil, List.append_eq, List.append_nil, List.nil_append, List.cons_append, Nat.reduceSub, Nat.reduceAdd, List.getElem?_cons_zero, List.getElem?_cons_succ, List.set_cons_zero, List.set_cons_succ,
  dC, dVar, dOp, dTru, gTru, tru, dChain, dAnd, dOr, dNot, dAndV, dOrV, dNotV, dIf, dNeg, gNeg, dNil, dCons, dTup, dLst, dOwn, gIx, rBin, gAdd, gCmpI, dCall, dCallK, dSeq, dNext, dDrop, dRet, dRetN, dIfS, dName, dGNil, dGCons, dGTup, dSub, gSetL, dAsg, dPar, dPar3, dAug, gIpI, dSeqI, gSeqI, dRngI, gRng1, gRng2, dCB, gAbs, gInt, gMax, gMin, gGcd, gLen, lenD, gIsi, tyM, tyD, dBits, gBits, dMet, gAppend, dPart, dNoPart, dSl, dEnds, gIs, isB, dNever, dFor, dLc, wipeD, dYes,
  sizeLine_eq, Nat.reduceLeDiff, gEq_int, gNe_int, gEq_strs, gNe_strs, gIn_two, gRepr_bl, rs_lst, rs_tup, rs_scr, rs_int, atI_0, atI_1, atI_2, atI_3, atI_4, atI_5, ixN_30, ixN_31, ixN_32, gEq_bl, gNe_bl, decide_eq_true_eq, beq_iff_eq, Bool.not_eq_true', beq_eq_false_iff_ne, decide_eq_false_iff_not, Bool.not_true, Bool.not_false, if_true, if_false, Bool.false_eq_true, ite_true, ite_false, true_and, and_true, ne_eq, Bool.bne_false, Bool.bne_true, reduceCtorEq])
local macro_rules | `(tactic| walk_at "kb") => `(tactic| simp only [kb_NoneType_list, kb_bool_list, kb_int_list, kb_str_list, kb_tuple_list, kb_list_list, kb_dict_list, kb_NoneType_int, kb_bool_int, kb_int_int, kb_str_int, kb_tuple_int, kb_list_int, kb_dict_int, kb_NoneType_bool, kb_bool_bool, kb_int_bool, kb_str_bool, kb_tuple_bool, kb_list_bool, kb_dict_bool, kb_NoneType_tuple, kb_bool_tuple, kb_int_tuple, kb_str_tuple, kb_tuple_tuple, kb_list_tuple, kb_dict_tuple, if_true, if_false, Bool.false_eq_true, ite_true, ite_false, Bool.not_true, Bool.not_false])
/-! ### the common divisor with its two factors -/
/-- ds = two ints, not both 0: any two factors will do -/
def sp_shared : DSp := fun ds M Q _ => ∃ m n : Int, ds = [.int m, .int n] ∧ 0 < n ∧ Bi 2000 m ∧ Bi 2000 n ∧ ∀ u v, u * m + v * n = (Int.gcd m n : Int) → Bi 4100 u → Bi 4100 v → Q (.tup [.int (Int.gcd m n), .int u, .int v]) M
theorem rd_shared : ∀ ds M Q, ds.length = 2 → sp_shared ds M Q DX0 → t_shared (dEnds M Q) (startD 9 ds) M := by
  rintro _ M Q - ⟨m, n, rfl, n0, bm, bn, q⟩
  unfold t_shared
  walk_at "rd"
  have sN : ∀ {x : Int}, Bi 4100 x → Sm x := fun h => h.sm
  have bound : ∀ {x : Int}, -n ≤ x → x ≤ n → Bi 4100 x := by
    intro x h1 h2
    have h3 : Bi 4100 n := bn.mono
    unfold Bi at h3 ⊢
    omega
  have bound2 : ∀ {x : Int}, x.natAbs ≤ m.natAbs + 1 → Bi 4100 x := by
    intro x h1
    have h3 : Bi 2001 m := bm.mono
    have h4 : Bi 2002 x := by
      unfold Bi at h3 bm ⊢
      rw [Nat.pow_succ 2 2001]
      have : 0 < 2 ^ 2001 := Nat.pow_pos (by decide)
      omega
    exact h4.mono
  refine dwhile_of (fun k r M' => ∃ low high f s t h : Int, ∃ tn, r = [some (.int m), some (.int n), some (.int low), some (.int high), some (.int f), some (.int s), some (.int t), some (.int h), tn] ∧ M' = M ∧ k = high.toNat ∧ ((low = m ∧ high = n ∧ f = 1 ∧ s = 0 ∧ t = 0 ∧ h = 1) ∨ (Euc m n low high f s t h ∧ low ≤ n ∧ high ≤ n))) _ ⟨m, n, 1, 0, 0, 1, none, rfl, rfl, rfl, .inl ⟨rfl, rfl, rfl, rfl, rfl, rfl⟩⟩ ?_
  rintro k r M' ⟨low, high, f, s, t, h, tn, rfl, rfl, rfl, hh⟩
  walk_at "rd"
  have hpos : high ≠ 0 → 0 < high := by
    intro z
    rcases hh with ⟨_, rfl, _⟩ | ⟨E, _⟩
    · exact n0
    · have := E.h0; omega
  have next : high ≠ 0 → (Euc m n high (low - low / high * high) s (f - low / high * s) h (t - low / high * h) ∧ high ≤ n ∧ low - low / high * high < high ∧ 0 ≤ low - low / high * high) := by
    intro z
    have hp := hpos z
    have rm : low - low / high * high = low % high := by
      have := Int.mul_ediv_add_emod low high
      have e : low / high * high = high * (low / high) := Int.mul_comm _ _
      omega
    have r1 := Int.emod_lt_of_pos low hp
    have r0 := Int.emod_nonneg low z
    rcases hh with ⟨rfl, rfl, rfl, rfl, rfl, rfl⟩ | ⟨E, h1, h2⟩
    · exact ⟨Euc.first n0, Int.le_refl _, by omega, by omega⟩
    · exact ⟨E.step z, h2, by omega, by omega⟩
  by_cases z : high = 0
  · subst z
    rw [if_neg (fun w => w rfl)]
    rcases hh with ⟨_, z, _⟩ | ⟨E, h1, h2⟩
    · omega
    · have eg : low = (Int.gcd m n : Int) := by
        have := E.gc
        rw [← this, gcd_end (Int.le_of_lt E.l0)]
      have l0 := E.l0
      rw [if_pos l0]
      rw [eg]
      have tb := E.tb n0 h1 h2
      exact rtq (q f t (by rw [← eg]; exact E.e1.symm) (bound E.fb.1 E.fb.2) (bound2 tb.1))
  · rw [if_pos z]
    have hp := hpos z
    obtain ⟨E, h1, h2, h3⟩ := next z
    have ef : low.fdiv high = low / high := fdiv_pos hp
    rw [ef]
    have bl : Bi 4100 low ∧ Bi 4100 high ∧ Bi 4100 s ∧ Bi 4100 h := by
      rcases hh with ⟨rfl, rfl, rfl, rfl, rfl, rfl⟩ | ⟨E, h1, h2⟩
      · exact ⟨bm.mono, bn.mono, Bi.of_abs 0 (by decide) (Nat.pow_pos (by decide)), bound2 (by omega)⟩
      · have tb := E.tb n0 h1 h2
        have l0 := E.l0
        have h0 := E.h0
        exact ⟨bound (by omega) h1, bound (by omega) h2, bound E.sb.1 E.sb.2, bound2 tb.2⟩
    obtain ⟨b1, b2, b3, b4⟩ := bl
    have bk : Bi 4100 (low / high) := Nat.lt_of_le_of_lt (Int.natAbs_ediv_le_natAbs _ _) b1
    refine ⟨⟨z, Nat.lt_of_lt_of_le (log2_of 4100 b2 (by decide)) (by decide)⟩, ⟨bk.sm, b2.sm⟩, ⟨bk.sm, b3.sm⟩, ⟨bk.sm, b4.sm⟩, _, ?_, _, _, _, _, _, _, _, rfl, rfl, .inr ⟨E, h1, by omega⟩⟩
    omega
end DL
namespace DL
open PySem PySem.Spec PyProof.Rows L2
local macro_rules | `(tactic| walk_at "rd") => `(tactic| simp only [startD, List.map, List.replicate, List.length_cons, List.length_nil, List.append_eq, List.append_nil, List.nil_append, List.cons_append, Nat.reduceSub, Nat.reduceAdd, List.getElem?_cons_zero, List.getElem?_cons_succ, List.set_cons_zero, List.set_cons_succ,
  dC, dVar, dOp, dTru, gTru, tru, dChain, dAnd, dOr, dNot, dAndV, dOrV, dNotV, dIf, dNeg, gNeg, dNil, dCons, dTup, dLst, dOwn, gIx, rBin, gAdd, gCmpI, dCall, dCallK, dSeq, dNext, dDrop, dRet, dRetN, dIfS, dName, dGNil, dGCons, dGTup, dSub, gSetL, dAsg, dPar, dPar3, dAug, gIpI, dSeqI, gSeqI, dRngI, gRng1, gRng2, dCB, gAbs, gInt, gMax, gMin, gGcd, gLen, lenD, gIsi, tyM, tyD, dBits, gBits, dMet, gAppend, dPart, dNoPart, dSl, dEnds, gIs, isB, dNever, dFor, dLc, wipeD, dYes,
  sizeLine_eq, Nat.reduceLeDiff, gEq_int, gNe_int, gEq_strs, gNe_strs, gIn_two, gRepr_bl, rs_lst, rs_tup, rs_scr, rs_int, atI_0, atI_1, atI_2, atI_3, atI_4, atI_5, ixN_30, ixN_31, ixN_32, gEq_bl, gNe_bl, decide_eq_true_eq, beq_iff_eq, Bool.not_eq_true', beq_eq_false_iff_ne, decide_eq_false_iff_not, Bool.not_true, Bool.not_false, if_true, if_false, Bool.false_eq_true, ite_true, ite_false, true_and, and_true, ne_eq, Bool.bne_false, Bool.bne_true, reduceCtorEq])
local macro_rules | `(tactic| walk_at "rh") => `(tactic| simp only [*, startD, List.map, List.replicate, List.length_cons, List.length_nil, List.append_eq, List.append_nil, List.nil_append, List.cons_append, Nat.reduceSub, Nat.reduceAdd, List.getElem?_cons_zero, List.getElem?_cons_succ, List.set_cons_zero, List.set_cons_succ,
  dC, dVar, dOp, dTru, gTru, tru, dChain, dAnd, dOr, dNot, dAndV, dOrV, dNotV, dIf, dNeg, gNeg, dNil, dCons, dTup, dLst, dOwn, gIx, rBin, gAdd, gCmpI, dCall, dCallK, dSeq, dNext, dDrop, dRet, dRetN, dIfS, dName, dGNil, dGCons, dGTup, dSub, gSetL, dAsg, dPar, dPar3, dAug, gIpI, dSeqI, gSeqI, dRngI, gRng1, gRng2, dCB, gAbs, gInt, gMax, gMin, gGcd, gLen, lenD, gIsi, tyM, tyD, dBits, gBits, dMet, gAppend, dPart, dNoPart, dSl, dEnds, gIs, isB, dNever, dFor, dLc, wipeD, dYes,
  sizeLine_eq, Nat.reduceLeDiff, gEq_int, gNe_int, gEq_strs, gNe_strs, gIn_two, gRepr_bl, rs_lst, rs_tup, rs_scr, rs_int, atI_0, atI_1, atI_2, atI_3, atI_4, atI_5, ixN_30, ixN_31, ixN_32, gEq_bl, gNe_bl, decide_eq_true_eq, beq_iff_eq, Bool.not_eq_true', beq_eq_false_iff_ne, decide_eq_false_iff_not, Bool.not_true, Bool.not_false, if_true, if_false, Bool.false_eq_true, ite_true, ite_false, true_and, and_true, ne_eq, Bool.bne_false, Bool.bne_true, reduceCtorEq])
local macro_rules | `(tactic| walk_at "kb") => `(tactic| simp only [kb_NoneType_list, kb_bool_list, kb_int_list, kb_str_list, kb_tuple_list, kb_list_list, kb_dict_list, kb_NoneType_int, kb_bool_int, kb_int_int, kb_str_int, kb_tuple_int, kb_list_int, kb_dict_int, kb_NoneType_bool, kb_bool_bool, kb_int_bool, kb_str_bool, kb_tuple_bool, kb_list_bool, kb_dict_bool, kb_NoneType_tuple, kb_bool_tuple, kb_int_tuple, kb_str_tuple, kb_tuple_tuple, kb_list_tuple, kb_dict_tuple, if_true, if_false, Bool.false_eq_true, ite_true, ite_false, Bool.not_true, Bool.not_false])
def sp_opposite_by : DSp := fun ds M Q _ => ∃ x k : Int, ds = [.int x, .int k] ∧ 0 < k ∧ Bi 1900 k ∧ ∀ r, 0 ≤ r → r < k → k ∣ r * x - (Int.gcd x k : Int) → Q (.int r) M
theorem rd_opposite_by : ∀ ds M Q, ds.length = 2 → sp_opposite_by ds M Q DX0 → t_opposite_by sp_shared (dEnds M Q) (startD 2 ds) M := by
  rintro _ M Q - ⟨x, k, rfl, k0, bk, q⟩
  unfold t_opposite_by
  walk_at "rd"
  have hx := fm_range (a := x) k0
  have bx : Bi 2000 (x.fmod k) := by
    have h3 : Bi 2000 k := bk.mono
    unfold Bi at h3 ⊢
    omega
  refine ⟨(show k ≠ 0 by omega), x.fmod k, k, rfl, k0, bx, bk.mono, fun u v e _ _ => ?_⟩
  walk_at "rd"
  refine ⟨(show k ≠ 0 by omega), rtq (q _ (fm_range k0).1 (fm_range k0).2 ?_)⟩
  have eg : (Int.gcd (x.fmod k) k : Int) = Int.gcd x k := by
    rw [fmod_pos k0, Int.gcd_comm, gcd_emod']
  rw [eg] at e
  rw [fmod_pos k0] at e ⊢
  have m1 := Int.mul_ediv_add_emod x k
  have m2 := Int.mul_ediv_add_emod u k
  generalize u / k = i at m2
  generalize u % k = r at m2 ⊢
  generalize x / k = j at m1
  generalize x % k = y at m1 e
  refine ⟨r * j - i * y - v, ?_⟩
  rw [← e, ← m1, ← m2]
  grind
/-- ds = a deed: any row that goes with it will do -/
def sp_beside : DSp := fun ds M Q _ => ∃ p q : Int, ds = [.tup [.int p, .int q]] ∧ 1 ≤ q ∧ Int.gcd p q = 1 ∧ Bi 1900 p ∧ Bi 1900 q ∧ ∀ x z, p * z - q * x = 1 → 0 ≤ z → z ≤ q → Q (.tup [.int x, .int z]) M
theorem rd_beside : ∀ ds M Q, ds.length = 1 → sp_beside ds M Q DX0 → t_beside sp_opposite_by (dEnds M Q) (startD 4 ds) M := by
  rintro _ M Q - ⟨p, q, rfl, q1, hg, bp, bq, h⟩
  unfold t_beside
  walk_at "rd"
  have fin : ∀ z, 0 ≤ z → z ≤ q → q ∣ p * z - 1 → CDiv (p * z - 1) q ∧ Rtq M Q (.tup [.int ((p * z - 1).fdiv q), .int z]) M := by
    intro z z0 z1 ⟨t, ht⟩
    refine ⟨⟨by omega, Nat.lt_of_lt_of_le (log2_of 1900 bq (by decide)) (by decide)⟩, ?_⟩
    have e : (p * z - 1).fdiv q = t := by rw [ht]; exact Int.mul_fdiv_cancel_left _ (by omega)
    rw [e]
    exact rtq (h t z (by omega) z0 z1)
  have bz : ∀ z : Int, 0 ≤ z → z ≤ q → Sm z := by
    intro z z0 z1
    have : Bi 1900 z := by unfold Bi at bq ⊢; omega
    exact this.sm
  by_cases hq : 1 < q
  · rw [if_pos hq]
    refine ⟨p, q, rfl, by omega, bq, fun r r0 r1 hd => ?_⟩
    rw [hg] at hd
    dsimp only
    refine ⟨⟨bp.sm, bz r r0 (by omega)⟩, fin r r0 (by omega) ?_⟩
    rw [Int.mul_comm p r]
    exact hd
  · rw [if_neg hq]
    have e : q = 1 := by omega
    subst e
    refine ⟨⟨bp.sm, bz 0 (by omega) (by omega)⟩, fin 0 (by omega) (by omega) ?_⟩
    exact Int.one_dvd _
theorem row_bound {p q x z : Int} (hq : 1 ≤ q) (h : p * z - q * x = 1) (z0 : 0 ≤ z) (z1 : z ≤ q) : x.natAbs ≤ p.natAbs + 1 := by
  have h1 : q * x = p * z - 1 := by omega
  have h2 : q.natAbs * x.natAbs ≤ q.natAbs * (p.natAbs + 1) := by
    rw [← Int.natAbs_mul, h1]
    have h3 : (p * z - 1).natAbs ≤ (p * z).natAbs + 1 := by omega
    have h4 : (p * z).natAbs ≤ q.natAbs * p.natAbs := by rw [Int.natAbs_mul, Nat.mul_comm]; exact Nat.mul_le_mul_right _ (by omega)
    have h5 : q.natAbs * (p.natAbs + 1) = q.natAbs * p.natAbs + q.natAbs := by rw [Nat.mul_add, Nat.mul_one]
    omega
  exact Nat.le_of_mul_le_mul_left h2 (by omega)
/-- the two rows of a deed's table -/
def sp_table_by : DSp := fun ds M Q _ => ∃ a b c e p q : Int, ds = [T4 a b c e, .tup [.int p, .int q]] ∧ 1 ≤ q ∧ Int.gcd p q = 1 ∧ (Bi 450 a ∧ Bi 450 b ∧ Bi 450 c ∧ Bi 450 e) ∧ Bi 450 p ∧ Bi 450 q ∧
  ∀ x z, p * z - q * x = 1 → 0 ≤ z → z ≤ q → Q (.tup [T4 (p * b + q * a) (q * c) (x * b + z * a + e + q * c) (z * c), .int x, .int z]) M
theorem rd_table_by : ∀ ds M Q, ds.length = 2 → sp_table_by ds M Q DX0 → t_table_by sp_beside (dEnds M Q) (startD 11 ds) M := by
  rintro _ M Q - ⟨a, b, c, e, p, q, rfl, q1, hg, ⟨ba, bb, bc, be⟩, bp, bq, h⟩
  unfold t_table_by
  walk_at "rd"
  refine ⟨p, q, rfl, q1, hg, bp.mono, bq.mono, fun x z hxz z0 z1 => ?_⟩
  have bx : Bi 451 x := by
    have := row_bound q1 hxz z0 z1
    unfold Bi at bp ⊢
    rw [Nat.pow_succ]
    have : 0 < 2 ^ 450 := Nat.pow_pos (by decide)
    omega
  have bz : Bi 450 z := by unfold Bi at bq ⊢; omega
  walk_at "rd"
  exact ⟨⟨bx.sm, bb.sm⟩, ⟨bz.sm, ba.sm⟩, ⟨bq.sm, bc.sm⟩, ⟨bp.sm, bb.sm⟩, ⟨bq.sm, ba.sm⟩, ⟨bq.sm, bc.sm⟩, ⟨bz.sm, bc.sm⟩, rtq (h x z hxz z0 z1)⟩
end DL
namespace DL
open PySem PySem.Spec PyProof.Rows L2
local macro_rules | `(tactic| walk_at "rd") => `(tactic| simp only [startD, List.map, List.replicate, List.length_cons, List.length_nil, List.append_eq, List.append_nil, List.nil_append, List.cons_append, Nat.reduceSub, Nat.reduceAdd, List.getElem?_cons_zero, List.getElem?_cons_succ, List.set_cons_zero, List.set_cons_succ,
  dC, dVar, dOp, dTru, gTru, tru, dChain, dAnd, dOr, dNot, dAndV, dOrV, dNotV, dIf, dNeg, gNeg, dNil, dCons, dTup, dLst, dOwn, gIx, rBin, gAdd, gCmpI, dCall, dCallK, dSeq, dNext, dDrop, dRet, dRetN, dIfS, dName, dGNil, dGCons, dGTup, dSub, gSetL, dAsg, dPar, dPar3, dAug, gIpI, dSeqI, gSeqI, dRngI, gRng1, gRng2, dCB, gAbs, gInt, gMax, gMin, gGcd, gLen, lenD, gIsi, tyM, tyD, dBits, gBits, dMet, gAppend, dPart, dNoPart, dSl, dEnds, gIs, isB, dNever, dFor, dLc, wipeD, dYes,
  sizeLine_eq, Nat.reduceLeDiff, gEq_int, gNe_int, gEq_strs, gNe_strs, gIn_two, gRepr_bl, rs_lst, rs_tup, rs_scr, rs_int, atI_0, atI_1, atI_2, atI_3, atI_4, atI_5, ixN_30, ixN_31, ixN_32, gEq_bl, gNe_bl, decide_eq_true_eq, beq_iff_eq, Bool.not_eq_true', beq_eq_false_iff_ne, decide_eq_false_iff_not, Bool.not_true, Bool.not_false, if_true, if_false, Bool.false_eq_true, ite_true, ite_false, true_and, and_true, ne_eq, Bool.bne_false, Bool.bne_true, reduceCtorEq])
local macro_rules | `(tactic| walk_at "rh") => `(tactic| simp only [*, startD, List.map, List.replicate, List.length_cons, List.length_nil, List.append_eq, List.append_nil, List.nil_append, List.cons_append, Nat.reduceSub, Nat.reduceAdd, List.getElem?_cons_zero, List.getElem?_cons_succ, List.set_cons_zero, List.set_cons_succ,
  dC, dVar, dOp, dTru, gTru, tru, dChain, dAnd, dOr, dNot, dAndV, dOrV, dNotV, dIf, dNeg, gNeg, dNil, dCons, dTup, dLst, dOwn, gIx, rBin, gAdd, gCmpI, dCall, dCallK, dSeq, dNext, dDrop, dRet, dRetN, dIfS, dName, dGNil, dGCons, dGTup, dSub, gSetL, dAsg, dPar, dPar3, dAug, gIpI, dSeqI, gSeqI, dRngI, gRng1, gRng2, dCB, gAbs, gInt, gMax, gMin, gGcd, gLen, lenD, gIsi, tyM, tyD, dBits, gBits, dMet, gAppend, dPart, dNoPart, dSl, dEnds, gIs, isB, dNever, dFor, dLc, wipeD, dYes,
  sizeLine_eq, Nat.reduceLeDiff, gEq_int, gNe_int, gEq_strs, gNe_strs, gIn_two, gRepr_bl, rs_lst, rs_tup, rs_scr, rs_int, atI_0, atI_1, atI_2, atI_3, atI_4, atI_5, ixN_30, ixN_31, ixN_32, gEq_bl, gNe_bl, decide_eq_true_eq, beq_iff_eq, Bool.not_eq_true', beq_eq_false_iff_ne, decide_eq_false_iff_not, Bool.not_true, Bool.not_false, if_true, if_false, Bool.false_eq_true, ite_true, ite_false, true_and, and_true, ne_eq, Bool.bne_false, Bool.bne_true, reduceCtorEq])
local macro_rules | `(tactic| walk_at "kb") => `(tactic| simp only [kb_NoneType_list, kb_bool_list, kb_int_list, kb_str_list, kb_tuple_list, kb_list_list, kb_dict_list, kb_NoneType_int, kb_bool_int, kb_int_int, kb_str_int, kb_tuple_int, kb_list_int, kb_dict_int, kb_NoneType_bool, kb_bool_bool, kb_int_bool, kb_str_bool, kb_tuple_bool, kb_list_bool, kb_dict_bool, kb_NoneType_tuple, kb_bool_tuple, kb_int_tuple, kb_str_tuple, kb_tuple_tuple, kb_list_tuple, kb_dict_tuple, if_true, if_false, Bool.false_eq_true, ite_true, ite_false, Bool.not_true, Bool.not_false])
/-! ### all that a deed makes -/
structure Full (a b c e p q a' w g e' x z f s t m n : Int) : Prop where
  dn : IsDone a b c e p q a' w g e'
  row : p * z - q * x = 1
  z0 : 0 ≤ z
  z1 : z ≤ q
  g0 : 0 < g
  im : p * b + q * a = g * m
  jn : q * c = g * n
  bz : f * (p * b + q * a) + s * (q * c) = g
  tr : -(f * (x * b + z * a + e + q * c) + s * (z * c)) = a' + t * g
theorem gcd_quot {w g G w' lot : Int} (hG : (Int.gcd w g : Int) = G) (h0 : 0 < G) (hw : w = G * w') (hg : g = G * lot) : (Int.gcd w' lot : Int) = 1 := by
  have h1 : G * (Int.gcd w' lot : Int) ∣ G := by
    have d1 : G * (Int.gcd w' lot : Int) ∣ w := by rw [hw]; exact Int.mul_dvd_mul_left _ (Int.gcd_dvd_left _ _)
    have d2 : G * (Int.gcd w' lot : Int) ∣ g := by rw [hg]; exact Int.mul_dvd_mul_left _ (Int.gcd_dvd_right _ _)
    have := Int.dvd_coe_gcd d1 d2
    rwa [hG] at this
  have h2 : G * (Int.gcd w' lot : Int) ∣ G * 1 := by rw [Int.mul_one]; exact h1
  have h3 : (Int.gcd w' lot : Int) ∣ 1 := Int.dvd_of_mul_dvd_mul_left (by omega) h2
  have h4 := Int.le_of_dvd (by decide) h3
  have h5 : (Int.gcd w' lot : Int) ≠ 0 := by
    intro z
    rw [z] at h3
    exact absurd (Int.zero_dvd.mp h3) (by decide)
  omega
/-- the turn by which the found rest becomes the told one -/
theorem turn_ok {w G w' lot found slant turn : Int} (hG : 0 < G) (hl : 0 < lot) (hw : w = G * w') (hs : slant = found % G)
    (ht : (lot = 1 ∧ turn = 0) ∨ ∃ r, lot ∣ r * w' - 1 ∧ turn = ((slant - found) / G * r) % lot) : ∃ t, found + turn * w = slant + t * (G * lot) := by
  have hm := Int.mul_ediv_add_emod found G
  rcases ht with ⟨rfl, rfl⟩ | ⟨r, ⟨y, hy⟩, rfl⟩
  · refine ⟨found / G, ?_⟩
    rw [hs, Int.mul_one, Int.zero_mul, Int.add_zero, Int.mul_comm (found / G) G]
    omega
  · have e1 : slant - found = G * (-(found / G)) := by rw [hs, Int.mul_neg]; omega
    have e2 : (slant - found) / G = -(found / G) := by rw [e1]; exact Int.mul_ediv_cancel_left _ (by omega)
    rw [e2]
    generalize found / G = k at *
    have e3 := Int.mul_ediv_add_emod (-k * r) lot
    generalize (-k * r) / lot = i at e3
    generalize (-k * r) % lot = tn at e3 ⊢
    have e4 : found = slant + G * k := by rw [hs]; omega
    refine ⟨-(k * y) - i * w', ?_⟩
    have e5 : r * w' = lot * y + 1 := by omega
    have e6 : tn = -k * r - lot * i := by omega
    rw [e4, hw, e6]
    have e7 : slant + G * k + (-k * r - lot * i) * (G * w') = slant + G * k - G * k * (r * w') - lot * i * G * w' := by grind
    rw [e7, e5]
    grind
theorem Bi.of_dvd' {n : Nat} {c x : Int} (h : Bi n x) (hx : x ≠ 0) (e : c ∣ x) : Bi n c := by
  unfold Bi at h ⊢
  have := Nat.le_of_dvd (by omega) (Int.natAbs_dvd_natAbs.mpr e)
  omega
def sp_full_by : DSp := fun ds M Q _ => ∃ a b c e p q : Int, ds = [T4 a b c e, .tup [.int p, .int q]] ∧ 1 ≤ q ∧ 1 ≤ c ∧ Int.gcd p q = 1 ∧ (Bi 450 a ∧ Bi 450 b ∧ Bi 450 c ∧ Bi 450 e) ∧ Bi 450 p ∧ Bi 450 q ∧
  ∀ a' w g e' x z f s t m n, Full a b c e p q a' w g e' x z f s t m n → Bi 4200 f → Bi 4200 s → Q (.tup [T4 a' w g e', .tup [.tup [.int f, .int s], .tup [.int (-n), .int m]], .int t, .int x, .int z]) M
theorem rd_full_by : ∀ ds M Q, ds.length = 2 → sp_full_by ds M Q DX0 → t_full_by sp_table_by sp_shared sp_opposite_by (dEnds M Q) (startD 18 ds) M := by
  rintro _ M Q - ⟨a, b, c, e, p, q, rfl, q1, c1, hg, ⟨ba, bb, bc, be⟩, bp, bq, h⟩
  unfold t_full_by
  refine dSeq_open fun B hB => ?_
  walk_at "rd"
  refine ⟨a, b, c, e, p, q, rfl, q1, hg, ⟨ba, bb, bc, be⟩, bp, bq, fun x z hxz z0 z1 => ?_⟩
  walk_at "rd"
  have bx : Bi 451 x := by
    have := row_bound q1 hxz z0 z1
    unfold Bi at bp ⊢
    rw [Nat.pow_succ]
    have : 0 < 2 ^ 450 := Nat.pow_pos (by decide)
    omega
  have bz : Bi 450 z := by unfold Bi at bq ⊢; omega
  have hwi : (p * b + q * a) * (z * c) - (q * c) * (x * b + z * a + e + q * c) = c * (b - q * e - q * q * c) := by
    have : (p * b + q * a) * (z * c) - (q * c) * (x * b + z * a + e + q * c) = c * (b * (p * z - q * x) - q * e - q * q * c) := by grind
    rw [this, hxz, Int.mul_one]
  have bi : Bi 901 (p * b + q * a) := (bp.mul bb).add (bq.mul ba)
  have bj : Bi 900 (q * c) := bq.mul bc
  have bk : Bi 904 (x * b + z * a + e + q * c) := by
    have h1 : Bi 902 (x * b + z * a) := (bx.mul bb).add ((bz.mul ba).mono)
    have h2 : Bi 903 (x * b + z * a + e) := h1.add be.mono
    exact h2.add bj.mono
  have bl : Bi 900 (z * c) := bz.mul bc
  have j0 : 0 < q * c := Int.mul_pos (by omega) (by omega)
  generalize hi : p * b + q * a = i at *
  generalize hj : q * c = j at *
  generalize hk : x * b + z * a + e + j = k at *
  generalize hl : z * c = l at *
  rw [← hB]
  clear hB B
  refine dSeq_open fun B hB => ?_
  walk_at "rd"
  refine ⟨i, j, rfl, j0, bi.mono, bj.mono, fun u v huv bu bv => ?_⟩
  walk_at "rd"
  have g0 : 0 < (Int.gcd i j : Int) := by
    have := Int.gcd_pos_of_ne_zero_right i (show j ≠ 0 by omega)
    omega
  have di : (Int.gcd i j : Int) ∣ i := Int.gcd_dvd_left _ _
  have dj : (Int.gcd i j : Int) ∣ j := Int.gcd_dvd_right _ _
  generalize hg' : (Int.gcd i j : Int) = g at *
  obtain ⟨m, hm⟩ := di
  obtain ⟨n, hn⟩ := dj
  have bg : Bi 900 g := bj.of_dvd' (by omega) ⟨n, hn⟩
  have bm : Bi 901 m := bi.of_dvd (by omega) hm
  have bn : Bi 900 n := bj.of_dvd (by omega) hn
  have cg : ∀ t : Int, CDiv t g := fun t => ⟨by omega, Nat.lt_of_lt_of_le (log2_of 900 bg (by decide)) (by decide)⟩
  have ew : i * l - j * k = g * (m * l - n * k) := by rw [hm, hn]; grind
  have fw : (i * l - j * k).fdiv g = m * l - n * k := by rw [ew]; exact Int.mul_fdiv_cancel_left _ (by omega)
  have fm : i.fdiv g = m := by rw [hm]; exact Int.mul_fdiv_cancel_left _ (by omega)
  have fn : j.fdiv g = n := by rw [hn]; exact Int.mul_fdiv_cancel_left _ (by omega)
  rw [← hB]
  clear hB B
  refine dSeq_open fun B hB => ?_
  walk_at "rd"
  refine ⟨⟨bi.sm, bl.sm⟩, ⟨bj.sm, bk.sm⟩, cg _, ?_⟩
  rw [fw]
  generalize hw : m * l - n * k = w at *
  have wg : w * g = c * (b - q * e - q * q * c) := by rw [← hwi, ew, Int.mul_comm]
  rw [← hB]
  clear hB B
  refine dSeq_open fun B hB => ?_
  walk_at "rd"
  refine ⟨⟨bu.sm, bk.sm⟩, ⟨bv.sm, bl.sm⟩, ?_⟩
  have G0 : 0 < (Int.gcd w g : Int) := by
    have := Int.gcd_pos_of_ne_zero_right w (show g ≠ 0 by omega)
    omega
  have dw : (Int.gcd w g : Int) ∣ w := Int.gcd_dvd_left _ _
  have dg : (Int.gcd w g : Int) ∣ g := Int.gcd_dvd_right _ _
  generalize hG : (Int.gcd w g : Int) = G at *
  obtain ⟨w', hw'⟩ := dw
  obtain ⟨lot, hlot⟩ := dg
  have l0 : 0 < lot := by
    by_cases zz : 0 < lot
    · exact zz
    · have : G * lot ≤ 0 := Int.mul_nonpos_of_nonneg_of_nonpos (by omega) (by omega)
      omega
  have bG : Bi 900 G := bg.of_dvd' (by omega) ⟨lot, hlot⟩
  have blot : Bi 900 lot := bg.of_dvd (by omega) hlot
  have cG : ∀ t : Int, CDiv t G := fun t => ⟨by omega, Nat.lt_of_lt_of_le (log2_of 900 bG (by decide)) (by decide)⟩
  have flot : g.fdiv G = lot := by rw [hlot]; exact Int.mul_fdiv_cancel_left _ (by omega)
  have fw' : w.fdiv G = w' := by rw [hw']; exact Int.mul_fdiv_cancel_left _ (by omega)
  have cop := gcd_quot hG G0 hw' hlot
  generalize hfd : -(u * k + v * l) = found at *
  have bfd : Bi 5010 found := by
    rw [← hfd]
    have h1 : Bi 5004 (u * k) := (bu.mul bk).mono
    have h2 : Bi 5004 (v * l) := (bv.mul bl).mono
    have := (h1.add h2).neg
    rw [Int.zero_sub] at this
    exact this.mono
  rw [← hB]
  clear hB B
  refine dSeq_open fun B hB => ?_
  walk_at "rd"
  refine ⟨(show G ≠ 0 by omega), cG _, ?_⟩
  rw [flot, fmod_pos G0]
  have s0 := Int.emod_nonneg found (show G ≠ 0 by omega)
  have s1 := Int.emod_lt_of_pos found G0
  generalize hs : found % G = slant at *
  have bs : Bi 900 slant := by unfold Bi at bG ⊢; omega
  rw [← hB]
  clear hB B
  refine dSeq_open fun B hB => ?_
  -- the turn
  have fin : ∀ turn : Int, 0 ≤ turn → turn < lot ∨ turn = 0 → ((lot = 1 ∧ turn = 0) ∨ ∃ r, lot ∣ r * w' - 1 ∧ turn = ((slant - found) / G * r) % lot) → B
      [some (T4 a b c e), some (.tup [.int p, .int q]), some (.int i), some (.int j), some (.int k), some (.int l), some (.int x), some (.int z), some (.int g), some (.int u), some (.int v), some (.int w), some (.int G), some (.int found), some (.int slant), some (.int lot), some (.int turn), none] M := by
    intro turn t0 t1 ht
    have bt : Bi 900 turn := by unfold Bi at blot ⊢; omega
    have btn : Bi 1800 (turn * n) := bt.mul bn
    have btm : Bi 1801 (turn * m) := bt.mul bm
    obtain ⟨t, ht'⟩ := turn_ok G0 l0 hw' hs.symm ht
    rw [← hlot] at ht'
    have bw : Bi 2000 w := by
      rw [← hw]
      exact Bi.mono (k := 2000) (((bm.mul bl).mono (k := 1804)).sub ((bn.mul bk).mono (k := 1804)))
    rw [← hB]
    clear hB B
    refine dSeq_open fun B hB => ?_
    walk_at "rd"
    refine ⟨cg _, ⟨bt.sm, (by rw [fn]; exact bn.sm)⟩, cg _, ⟨bt.sm, (by rw [fm]; exact bm.sm)⟩, ⟨bt.sm, bw.sm⟩, ?_⟩
    rw [fm, fn]
    rw [← hB]
    clear hB B
    refine dSeq_open fun B hB => ?_
    walk_at "rd"
    have b2 : Bi 3 2 := Bi.of_abs 2 (by decide)
    refine ⟨⟨b2.sm, bq.sm⟩, ⟨(b2.mul bq).sm, bc.sm⟩, ?_⟩
    rw [← hB]
    clear hB B
    walk_at "rd"
    refine ⟨cg _, cg _, cg _, ?_⟩
    rw [fm, fn]
    have et : (found + turn * w - slant).fdiv g = t := by
      have : found + turn * w - slant = g * t := by rw [ht', Int.mul_comm]; omega
      rw [this]; exact Int.mul_fdiv_cancel_left _ (by omega)
    rw [et]
    refine rtq (h slant w g (-e - 2 * q * c) x z (u + turn * n) (v - turn * m) t m n ⟨⟨?_, wg, ?_, ?_, ?_, u, v, x, z, hxz, ?_, ?_⟩, hxz, z0, z1, g0, ?_, ?_, ?_, ?_⟩ ?_ ?_)
    · rw [hi, hj, hg']
    · omega
    · exact s0
    · rw [hG]; exact s1
    · rw [hi, hj]; exact huv
    · rw [hG]
      have e1 : x * b + z * a + e + q * c = k := by rw [hj]; exact hk
      rw [e1, hl]
      have e2 := Int.mul_ediv_add_emod found G
      refine ⟨-(found / G), ?_⟩
      rw [Int.mul_neg]
      omega
    · rw [hi]; exact hm
    · rw [hj]; exact hn
    · rw [hi, hj]
      have : (u + turn * n) * i + (v - turn * m) * j = u * i + v * j + turn * (n * i - m * j) := by grind
      rw [this, huv]
      have : n * i - m * j = 0 := by rw [hm, hn]; grind
      rw [this, Int.mul_zero, Int.add_zero]
    · have e1 : x * b + z * a + e + q * c = k := by rw [hj]; exact hk
      rw [e1, hl]
      have : -((u + turn * n) * k + (v - turn * m) * l) = -(u * k + v * l) + turn * (m * l - n * k) := by grind
      rw [this, hfd, hw, ht']
    · exact ((bu.mono (k := 4100)).add (btn.mono (k := 4100))).mono
    · exact ((bv.mono (k := 4100)).sub (btm.mono (k := 4100))).mono
  walk_at "rd"
  by_cases hl1 : 1 < lot
  · rw [if_pos hl1]
    refine ⟨cG _, cG _, w', lot, by rw [fw'], l0, blot.mono, fun r r0 r1 hd => ?_⟩
    rw [cop] at hd
    dsimp only
    have e1 : (slant - found).fdiv G = (slant - found) / G := fdiv_pos G0
    rw [e1]
    have bq1 : Bi 5011 ((slant - found) / G) := Nat.lt_of_le_of_lt (Int.natAbs_ediv_le_natAbs _ _) ((bs.mono (k := 5010)).sub bfd)
    have br : Bi 900 r := by unfold Bi at blot ⊢; omega
    refine ⟨⟨bq1.sm, br.sm⟩, (show lot ≠ 0 by omega), ?_⟩
    rw [fmod_pos l0]
    exact fin _ (Int.emod_nonneg _ (by omega)) (.inl (Int.emod_lt_of_pos _ l0)) (.inr ⟨r, hd, rfl⟩)
  · rw [if_neg hl1]
    exact fin 0 (Int.le_refl _) (.inr rfl) (.inl ⟨by omega, rfl⟩)
end DL
/-! MD: deeds with q = 1 that lead nearer to the heart; columns led down; plain -/
namespace DL
end DL
/-! ME: two columns led down; plain -/
namespace DL
/-- (o1, o2), (t1, t2) came of (i, k), (j, l) -/
structure Led (i k j l o1 o2 t1 t2 : Int) : Prop where
  ex : ∃ u v u' v' : Int, o1 = u * i + v * j ∧ o2 = u * k + v * l ∧ t1 = u' * i + v' * j ∧ t2 = u' * k + v' * l ∧ (u * v' - u' * v = 1 ∨ u * v' - u' * v = -1)
theorem Led.start (i k j l : Int) : Led i k j l i k j l := ⟨1, 0, 0, 1, by omega, by omega, by omega, by omega, .inl (by omega)⟩
theorem Led.step {i k j l o1 o2 t1 t2 : Int} (h : Led i k j l o1 o2 t1 t2) (T : Int) : Led i k j l t1 t2 (o1 - T * t1) (o2 - T * t2) := by
  obtain ⟨u, v, u', v', e1, e2, e3, e4, e5⟩ := h.ex
  refine ⟨u', v', u - T * u', v - T * v', e3, e4, ?_, ?_, ?_⟩
  · rw [e1, e3]; grind
  · rw [e2, e4]; grind
  · have : u' * (v - T * v') - (u - T * u') * v' = -(u * v' - u' * v) := by grind
    rw [this]
    omega
end DL
namespace DL
open PySem PySem.Spec PyProof.Rows L2
local macro_rules | `(tactic| walk_at "rd") => `(tactic| simp only [startD, List.map, List.replicate, List.length_cons, List.length_nil, List.append_eq, List.append_nil, List.nil_append, List.cons_append, Nat.reduceSub, Nat.reduceAdd, List.getElem?_cons_zero, List.getElem?_cons_succ, List.set_cons_zero, List.set_cons_succ,
  dC, dVar, dOp, dTru, gTru, tru, dChain, dAnd, dOr, dNot, dAndV, dOrV, dNotV, dIf, dNeg, gNeg, dNil, dCons, dTup, dLst, dOwn, gIx, rBin, gAdd, gCmpI, dCall, dCallK, dSeq, dNext, dDrop, dRet, dRetN, dIfS, dName, dGNil, dGCons, dGTup, dSub, gSetL, dAsg, dPar, dPar3, dAug, gIpI, dSeqI, gSeqI, dRngI, gRng1, gRng2, dCB, gAbs, gInt, gMax, gMin, gGcd, gLen, lenD, gIsi, tyM, tyD, dBits, gBits, dMet, gAppend, dPart, dNoPart, dSl, gSl_tup, gSl_lst, cut_1, dEnds, gIs, isB, dNever, dFor, dLc, wipeD, dYes,
  sizeLine_eq, Nat.reduceLeDiff, gEq_int, gNe_int, gEq_strs, gNe_strs, gIn_two, gRepr_bl, rs_lst, rs_tup, rs_scr, rs_int, atI_0, atI_1, atI_2, atI_3, atI_4, atI_5, ixN_30, ixN_31, ixN_32, gEq_bl, gNe_bl, decide_eq_true_eq, beq_iff_eq, Bool.not_eq_true', beq_eq_false_iff_ne, decide_eq_false_iff_not, Bool.not_true, Bool.not_false, if_true, if_false, Bool.false_eq_true, ite_true, ite_false, true_and, and_true, ne_eq, Bool.bne_false, Bool.bne_true, reduceCtorEq])
local macro_rules | `(tactic| walk_at "rh") => `(tactic| simp only [*, startD, List.map, List.replicate, List.length_cons, List.length_nil, List.append_eq, List.append_nil, List.nil_append, List.cons_append, Nat.reduceSub, Nat.reduceAdd, List.getElem?_cons_zero, List.getElem?_cons_succ, List.set_cons_zero, List.set_cons_succ,
  dC, dVar, dOp, dTru, gTru, tru, dChain, dAnd, dOr, dNot, dAndV, dOrV, dNotV, dIf, dNeg, gNeg, dNil, dCons, dTup, dLst, dOwn, gIx, rBin, gAdd, gCmpI, dCall, dCallK, dSeq, dNext, dDrop, dRet, dRetN, dIfS, dName, dGNil, dGCons, dGTup, dSub, gSetL, dAsg, dPar, dPar3, dAug, gIpI, dSeqI, gSeqI, dRngI, gRng1, gRng2, dCB, gAbs, gInt, gMax, gMin, gGcd, gLen, lenD, gIsi, tyM, tyD, dBits, gBits, dMet, gAppend, dPart, dNoPart, dSl, gSl_tup, gSl_lst, cut_1, dEnds, gIs, isB, dNever, dFor, dLc, wipeD, dYes,
  sizeLine_eq, Nat.reduceLeDiff, gEq_int, gNe_int, gEq_strs, gNe_strs, gIn_two, gRepr_bl, rs_lst, rs_tup, rs_scr, rs_int, atI_0, atI_1, atI_2, atI_3, atI_4, atI_5, ixN_30, ixN_31, ixN_32, gEq_bl, gNe_bl, decide_eq_true_eq, beq_iff_eq, Bool.not_eq_true', beq_eq_false_iff_ne, decide_eq_false_iff_not, Bool.not_true, Bool.not_false, if_true, if_false, Bool.false_eq_true, ite_true, ite_false, true_and, and_true, ne_eq, Bool.bne_false, Bool.bne_true, reduceCtorEq])
local macro_rules | `(tactic| walk_at "kb") => `(tactic| simp only [kb_NoneType_list, kb_bool_list, kb_int_list, kb_str_list, kb_tuple_list, kb_list_list, kb_dict_list, kb_NoneType_int, kb_bool_int, kb_int_int, kb_str_int, kb_tuple_int, kb_list_int, kb_dict_int, kb_NoneType_bool, kb_bool_bool, kb_int_bool, kb_str_bool, kb_tuple_bool, kb_list_bool, kb_dict_bool, kb_NoneType_tuple, kb_bool_tuple, kb_int_tuple, kb_str_tuple, kb_tuple_tuple, kb_list_tuple, kb_dict_tuple, if_true, if_false, Bool.false_eq_true, ite_true, ite_false, Bool.not_true, Bool.not_false])
/-! ### sizes of cuttings by their measure -/
theorem sq_nn (e : Int) : 0 ≤ e * e := by rcases (by omega : 0 ≤ e ∨ e ≤ 0) with h | h; exact Int.mul_nonneg h h; exact Int.mul_nonneg_of_nonpos_of_nonpos h h
theorem abs_le_sq (e : Int) : (e.natAbs : Int) ≤ e * e := by
  rcases (by omega : e = 0 ∨ 1 ≤ e ∨ e ≤ -1) with h | h | h
  · subst h; decide
  · have : e * 1 ≤ e * e := Int.mul_le_mul_of_nonneg_left h (by omega); omega
  · have : (-e) * 1 ≤ (-e) * (-e) := Int.mul_le_mul_of_nonneg_left (by omega) (by omega)
    rw [Int.neg_mul_neg] at this; omega
theorem cut_le {a b c e : Int} (h : isCut a b c e = true) : 0 ≤ a ∧ a < c ∧ a < b ∧ b ≤ meas4 b c e ∧ c ≤ meas4 b c e ∧ (e.natAbs : Int) ≤ meas4 b c e ∧ e * e < meas4 b c e := by
  obtain ⟨h1, h2, h3, h4, h5, _⟩ := cut_parts h
  have g1 : (Int.gcd b c : Int) ≤ c := Int.le_of_dvd (by omega) (Int.gcd_dvd_right _ _)
  have g2 : (Int.gcd b c : Int) ≤ b := Int.le_of_dvd (by omega) (Int.gcd_dvd_left _ _)
  have e1 : 4 * b * c = 4 * (b * c) := Int.mul_assoc _ _ _
  have hb : b * 1 ≤ b * c := Int.mul_le_mul_of_nonneg_left h2 (by omega)
  have hc : 1 * c ≤ b * c := Int.mul_le_mul_of_nonneg_right h1 (by omega)
  have he := abs_le_sq e
  have hs := sq_nn e
  unfold meas4
  refine ⟨h4, by omega, by omega, by omega, by omega, by omega, by omega⟩
def CutB (n : Nat) (a b c e : Int) : Prop := Bi n a ∧ Bi n b ∧ Bi n c ∧ Bi n e
theorem cut_bi {n : Nat} {a b c e : Int} (h : isCut a b c e = true) (hm : Bi n (meas4 b c e)) : CutB n a b c e := by
  obtain ⟨h1, h2, h3, h4, h5, h6, h7⟩ := cut_le h
  have h8 := (cut_parts h).1
  have h9 := (cut_parts h).2.1
  have hs := sq_nn e
  unfold CutB Bi at *
  omega
theorem CutB.mono {n k : Nat} {a b c e : Int} (h : CutB n a b c e) (hk : n ≤ k := by decide) : CutB k a b c e := ⟨h.1.mono hk, h.2.1.mono hk, h.2.2.1.mono hk, h.2.2.2.mono hk⟩
/-- a deed's numbers, but for the bound of the first -/
structure DeedQ (b c e p q : Int) : Prop where
  q1 : 1 ≤ q
  al : 0 < b - q * e - q * q * c
  p0 : 0 ≤ p
  cp : Int.gcd p q = 1
def sp_done_by : DSp := fun ds M Q _ => ∃ a b c e p q : Int, ds = [T4 a b c e, .tup [.int p, .int q]] ∧ 1 ≤ q ∧ 1 ≤ c ∧ Int.gcd p q = 1 ∧ CutB 450 a b c e ∧ Bi 450 p ∧ Bi 450 q ∧
  ∀ a' w g e', IsDone a b c e p q a' w g e' → Q (T4 a' w g e') M
theorem rd_done_by : ∀ ds M Q, ds.length = 2 → sp_done_by ds M Q DX0 → t_done_by sp_full_by (dEnds M Q) (startD 2 ds) M := by
  rintro _ M Q - ⟨a, b, c, e, p, q, rfl, q1, c1, hg, hb, bp, bq, h⟩
  unfold t_done_by
  walk_at "rd"
  refine ⟨a, b, c, e, p, q, rfl, q1, c1, hg, hb, bp, bq, fun a' w g e' x z f s t m n hF _ _ => ?_⟩
  walk_at "rd"
  exact rtq (h a' w g e' hF.dn)
theorem done_g {a b c e p q a' w g e' : Int} (hc : 1 ≤ c) (hq : 1 ≤ q) (h : IsDone a b c e p q a' w g e') : 0 < g := by
  have := Int.gcd_pos_of_ne_zero_right (p * b + q * a) (show q * c ≠ 0 by have := Int.mul_pos (show 0 < q by omega) (show 0 < c by omega); omega)
  have := h.gc
  omega
theorem lot_le {b c : Int} (hc : 1 ≤ c) : 1 ≤ c / (Int.gcd b c : Int) ∧ c / (Int.gcd b c : Int) ≤ c := by
  have G0 : 0 < (Int.gcd b c : Int) := by
    have := Int.gcd_pos_of_ne_zero_right b (show c ≠ 0 by omega)
    omega
  exact ⟨Int.ediv_pos_of_pos_of_dvd (by omega) (by omega) (Int.gcd_dvd_right _ _), Int.ediv_le_self _ (by omega)⟩
end DL
namespace DL
open PySem PySem.Spec PyProof.Rows L2
local macro_rules | `(tactic| walk_at "rd") => `(tactic| simp only [startD, List.map, List.replicate, List.length_cons, List.length_nil, List.append_eq, List.append_nil, List.nil_append, List.cons_append, Nat.reduceSub, Nat.reduceAdd, List.getElem?_cons_zero, List.getElem?_cons_succ, List.set_cons_zero, List.set_cons_succ,
  dC, dVar, dOp, dTru, gTru, tru, dChain, dAnd, dOr, dNot, dAndV, dOrV, dNotV, dIf, dNeg, gNeg, dNil, dCons, dTup, dLst, dOwn, gIx, rBin, gAdd, gCmpI, dCall, dCallK, dSeq, dNext, dDrop, dRet, dRetN, dIfS, dName, dGNil, dGCons, dGTup, dSub, gSetL, dAsg, dPar, dPar3, dAug, gIpI, dSeqI, gSeqI, dRngI, gRng1, gRng2, dCB, gAbs, gInt, gMax, gMin, gGcd, gLen, lenD, gIsi, tyM, tyD, dBits, gBits, dMet, gAppend, dPart, dNoPart, dSl, gSl_tup, gSl_lst, cut_1, dEnds, gIs, isB, dNever, dFor, dLc, wipeD, dYes,
  sizeLine_eq, Nat.reduceLeDiff, gEq_int, gNe_int, gEq_strs, gNe_strs, gIn_two, gRepr_bl, rs_lst, rs_tup, rs_scr, rs_int, atI_0, atI_1, atI_2, atI_3, atI_4, atI_5, ixN_30, ixN_31, ixN_32, gEq_bl, gNe_bl, decide_eq_true_eq, beq_iff_eq, Bool.not_eq_true', beq_eq_false_iff_ne, decide_eq_false_iff_not, Bool.not_true, Bool.not_false, if_true, if_false, Bool.false_eq_true, ite_true, ite_false, true_and, and_true, ne_eq, Bool.bne_false, Bool.bne_true, reduceCtorEq])
local macro_rules | `(tactic| walk_at "rh") => `(tactic| simp only [*, startD, List.map, List.replicate, List.length_cons, List.length_nil, List.append_eq, List.append_nil, List.nil_append, List.cons_append, Nat.reduceSub, Nat.reduceAdd, List.getElem?_cons_zero, List.getElem?_cons_succ, List.set_cons_zero, List.set_cons_succ,
  dC, dVar, dOp, dTru, gTru, tru, dChain, dAnd, dOr, dNot, dAndV, dOrV, dNotV, dIf, dNeg, gNeg, dNil, dCons, dTup, dLst, dOwn, gIx, rBin, gAdd, gCmpI, dCall, dCallK, dSeq, dNext, dDrop, dRet, dRetN, dIfS, dName, dGNil, dGCons, dGTup, dSub, gSetL, dAsg, dPar, dPar3, dAug, gIpI, dSeqI, gSeqI, dRngI, gRng1, gRng2, dCB, gAbs, gInt, gMax, gMin, gGcd, gLen, lenD, gIsi, tyM, tyD, dBits, gBits, dMet, gAppend, dPart, dNoPart, dSl, gSl_tup, gSl_lst, cut_1, dEnds, gIs, isB, dNever, dFor, dLc, wipeD, dYes,
  sizeLine_eq, Nat.reduceLeDiff, gEq_int, gNe_int, gEq_strs, gNe_strs, gIn_two, gRepr_bl, rs_lst, rs_tup, rs_scr, rs_int, atI_0, atI_1, atI_2, atI_3, atI_4, atI_5, ixN_30, ixN_31, ixN_32, gEq_bl, gNe_bl, decide_eq_true_eq, beq_iff_eq, Bool.not_eq_true', beq_eq_false_iff_ne, decide_eq_false_iff_not, Bool.not_true, Bool.not_false, if_true, if_false, Bool.false_eq_true, ite_true, ite_false, true_and, and_true, ne_eq, Bool.bne_false, Bool.bne_true, reduceCtorEq])
local macro_rules | `(tactic| walk_at "kb") => `(tactic| simp only [kb_NoneType_list, kb_bool_list, kb_int_list, kb_str_list, kb_tuple_list, kb_list_list, kb_dict_list, kb_NoneType_int, kb_bool_int, kb_int_int, kb_str_int, kb_tuple_int, kb_list_int, kb_dict_int, kb_NoneType_bool, kb_bool_bool, kb_int_bool, kb_str_bool, kb_tuple_bool, kb_list_bool, kb_dict_bool, kb_NoneType_tuple, kb_bool_tuple, kb_int_tuple, kb_str_tuple, kb_tuple_tuple, kb_list_tuple, kb_dict_tuple, if_true, if_false, Bool.false_eq_true, ite_true, ite_false, Bool.not_true, Bool.not_false])
/-! ### the way to the heart -/
end DL
namespace DL
open PySem PySem.Spec PyProof.Rows L2
local macro_rules | `(tactic| walk_at "rd") => `(tactic| simp only [startD, List.map, List.replicate, List.length_cons, List.length_nil, List.append_eq, List.append_nil, List.nil_append, List.cons_append, Nat.reduceSub, Nat.reduceAdd, List.getElem?_cons_zero, List.getElem?_cons_succ, List.set_cons_zero, List.set_cons_succ,
  dC, dVar, dOp, dTru, gTru, tru, dChain, dAnd, dOr, dNot, dAndV, dOrV, dNotV, dIf, dNeg, gNeg, dNil, dCons, dTup, dLst, dOwn, gIx, rBin, gAdd, gCmpI, dCall, dCallK, dSeq, dNext, dDrop, dRet, dRetN, dIfS, dName, dGNil, dGCons, dGTup, dSub, gSetL, dAsg, dPar, dPar3, dAug, gIpI, dSeqI, gSeqI, dRngI, gRng1, gRng2, dCB, gAbs, gInt, gMax, gMin, gGcd, gLen, lenD, gIsi, tyM, tyD, dBits, gBits, dMet, gAppend, dPart, dNoPart, dSl, gSl_tup, gSl_lst, cut_1, dEnds, gIs, isB, dNever, dFor, dLc, wipeD, dYes,
  sizeLine_eq, Nat.reduceLeDiff, gEq_int, gNe_int, gEq_strs, gNe_strs, gIn_two, gRepr_bl, rs_lst, rs_tup, rs_scr, rs_int, atI_0, atI_1, atI_2, atI_3, atI_4, atI_5, ixN_30, ixN_31, ixN_32, gEq_bl, gNe_bl, decide_eq_true_eq, beq_iff_eq, Bool.not_eq_true', beq_eq_false_iff_ne, decide_eq_false_iff_not, Bool.not_true, Bool.not_false, if_true, if_false, Bool.false_eq_true, ite_true, ite_false, true_and, and_true, ne_eq, Bool.bne_false, Bool.bne_true, reduceCtorEq])
local macro_rules | `(tactic| walk_at "rh") => `(tactic| simp only [*, startD, List.map, List.replicate, List.length_cons, List.length_nil, List.append_eq, List.append_nil, List.nil_append, List.cons_append, Nat.reduceSub, Nat.reduceAdd, List.getElem?_cons_zero, List.getElem?_cons_succ, List.set_cons_zero, List.set_cons_succ,
  dC, dVar, dOp, dTru, gTru, tru, dChain, dAnd, dOr, dNot, dAndV, dOrV, dNotV, dIf, dNeg, gNeg, dNil, dCons, dTup, dLst, dOwn, gIx, rBin, gAdd, gCmpI, dCall, dCallK, dSeq, dNext, dDrop, dRet, dRetN, dIfS, dName, dGNil, dGCons, dGTup, dSub, gSetL, dAsg, dPar, dPar3, dAug, gIpI, dSeqI, gSeqI, dRngI, gRng1, gRng2, dCB, gAbs, gInt, gMax, gMin, gGcd, gLen, lenD, gIsi, tyM, tyD, dBits, gBits, dMet, gAppend, dPart, dNoPart, dSl, gSl_tup, gSl_lst, cut_1, dEnds, gIs, isB, dNever, dFor, dLc, wipeD, dYes,
  sizeLine_eq, Nat.reduceLeDiff, gEq_int, gNe_int, gEq_strs, gNe_strs, gIn_two, gRepr_bl, rs_lst, rs_tup, rs_scr, rs_int, atI_0, atI_1, atI_2, atI_3, atI_4, atI_5, ixN_30, ixN_31, ixN_32, gEq_bl, gNe_bl, decide_eq_true_eq, beq_iff_eq, Bool.not_eq_true', beq_eq_false_iff_ne, decide_eq_false_iff_not, Bool.not_true, Bool.not_false, if_true, if_false, Bool.false_eq_true, ite_true, ite_false, true_and, and_true, ne_eq, Bool.bne_false, Bool.bne_true, reduceCtorEq])
local macro_rules | `(tactic| walk_at "kb") => `(tactic| simp only [kb_NoneType_list, kb_bool_list, kb_int_list, kb_str_list, kb_tuple_list, kb_list_list, kb_dict_list, kb_NoneType_int, kb_bool_int, kb_int_int, kb_str_int, kb_tuple_int, kb_list_int, kb_dict_int, kb_NoneType_bool, kb_bool_bool, kb_int_bool, kb_str_bool, kb_tuple_bool, kb_list_bool, kb_dict_bool, kb_NoneType_tuple, kb_bool_tuple, kb_int_tuple, kb_str_tuple, kb_tuple_tuple, kb_list_tuple, kb_dict_tuple, if_true, if_false, Bool.false_eq_true, ite_true, ite_false, Bool.not_true, Bool.not_false])
/-! ### the law's own deeds -/
end DL
namespace DL
open PySem PySem.Spec PyProof.Rows L2
local macro_rules | `(tactic| walk_at "rd") => `(tactic| simp only [startD, List.map, List.replicate, List.length_cons, List.length_nil, List.append_eq, List.append_nil, List.nil_append, List.cons_append, Nat.reduceSub, Nat.reduceAdd, List.getElem?_cons_zero, List.getElem?_cons_succ, List.set_cons_zero, List.set_cons_succ,
  dC, dVar, dOp, dTru, gTru, tru, dChain, dAnd, dOr, dNot, dAndV, dOrV, dNotV, dIf, dNeg, gNeg, dNil, dCons, dTup, dLst, dOwn, gIx, rBin, gAdd, gCmpI, dCall, dCallK, dSeq, dNext, dDrop, dRet, dRetN, dIfS, dName, dGNil, dGCons, dGTup, dSub, gSetL, dAsg, dPar, dPar3, dAug, gIpI, dSeqI, gSeqI, dRngI, gRng1, gRng2, dCB, gAbs, gInt, gMax, gMin, gGcd, gLen, lenD, gIsi, tyM, tyD, dBits, gBits, dMet, gAppend, dPart, dNoPart, dSl, gSl_tup, gSl_lst, cut_1, dEnds, gIs, isB, dNever, dFor, dLc, wipeD, dYes,
  sizeLine_eq, Nat.reduceLeDiff, gEq_int, gNe_int, gEq_strs, gNe_strs, gIn_two, gRepr_bl, rs_lst, rs_tup, rs_scr, rs_int, atI_0, atI_1, atI_2, atI_3, atI_4, atI_5, ixN_30, ixN_31, ixN_32, gEq_bl, gNe_bl, decide_eq_true_eq, beq_iff_eq, Bool.not_eq_true', beq_eq_false_iff_ne, decide_eq_false_iff_not, Bool.not_true, Bool.not_false, if_true, if_false, Bool.false_eq_true, ite_true, ite_false, true_and, and_true, ne_eq, Bool.bne_false, Bool.bne_true, reduceCtorEq])
local macro_rules | `(tactic| walk_at "rh") => `(tactic| simp only [*, startD, List.map, List.replicate, List.length_cons, List.length_nil, List.append_eq, List.append_nil, List.nil_append, List.cons_append, Nat.reduceSub, Nat.reduceAdd, List.getElem?_cons_zero, List.getElem?_cons_succ, List.set_cons_zero, List.set_cons_succ,
  dC, dVar, dOp, dTru, gTru, tru, dChain, dAnd, dOr, dNot, dAndV, dOrV, dNotV, dIf, dNeg, gNeg, dNil, dCons, dTup, dLst, dOwn, gIx, rBin, gAdd, gCmpI, dCall, dCallK, dSeq, dNext, dDrop, dRet, dRetN, dIfS, dName, dGNil, dGCons, dGTup, dSub, gSetL, dAsg, dPar, dPar3, dAug, gIpI, dSeqI, gSeqI, dRngI, gRng1, gRng2, dCB, gAbs, gInt, gMax, gMin, gGcd, gLen, lenD, gIsi, tyM, tyD, dBits, gBits, dMet, gAppend, dPart, dNoPart, dSl, gSl_tup, gSl_lst, cut_1, dEnds, gIs, isB, dNever, dFor, dLc, wipeD, dYes,
  sizeLine_eq, Nat.reduceLeDiff, gEq_int, gNe_int, gEq_strs, gNe_strs, gIn_two, gRepr_bl, rs_lst, rs_tup, rs_scr, rs_int, atI_0, atI_1, atI_2, atI_3, atI_4, atI_5, ixN_30, ixN_31, ixN_32, gEq_bl, gNe_bl, decide_eq_true_eq, beq_iff_eq, Bool.not_eq_true', beq_eq_false_iff_ne, decide_eq_false_iff_not, Bool.not_true, Bool.not_false, if_true, if_false, Bool.false_eq_true, ite_true, ite_false, true_and, and_true, ne_eq, Bool.bne_false, Bool.bne_true, reduceCtorEq])
local macro_rules | `(tactic| walk_at "kb") => `(tactic| simp only [kb_NoneType_list, kb_bool_list, kb_int_list, kb_str_list, kb_tuple_list, kb_list_list, kb_dict_list, kb_NoneType_int, kb_bool_int, kb_int_int, kb_str_int, kb_tuple_int, kb_list_int, kb_dict_int, kb_NoneType_bool, kb_bool_bool, kb_int_bool, kb_str_bool, kb_tuple_bool, kb_list_bool, kb_dict_bool, kb_NoneType_tuple, kb_bool_tuple, kb_int_tuple, kb_str_tuple, kb_tuple_tuple, kb_list_tuple, kb_dict_tuple, if_true, if_false, Bool.false_eq_true, ite_true, ite_false, Bool.not_true, Bool.not_false])
/-! ### k63: drawn deeds, the heart's numbers -/
/-- a deed: (p, q) is one of (a, b, c, e) -/
def isDeed (b c e p q : Int) : Bool := decide (1 ≤ q) && (decide (0 < b - q * e - q * q * c) && (decide (0 ≤ p) && (decide (p < q * (c / (Int.gcd b c : Int))) && (Int.gcd p q : Int) == 1)))
theorem meas_par {a b c e : Int} : (e - meas4 b c e) % 2 = 0 := by
  unfold meas4
  have e1 : 4 * b * c = 4 * (b * c) := Int.mul_assoc _ _ _
  rw [e1]
  rcases (by omega : e % 2 = 0 ∨ e % 2 = 1) with q | q
  · obtain ⟨t, rfl⟩ : ∃ t, e = 2 * t := ⟨e / 2, by omega⟩
    have : 2 * t * (2 * t) = 4 * (t * t) := by grind
    omega
  · obtain ⟨t, rfl⟩ : ∃ t, e = 2 * t + 1 := ⟨e / 2, by omega⟩
    have : (2 * t + 1) * (2 * t + 1) = 4 * (t * t + t) + 1 := by grind
    omega
end DL
namespace DL
open PySem PySem.Spec PyProof.Rows L2
local macro_rules | `(tactic| walk_at "rd") => `(tactic| simp only [startD, List.map, List.replicate, List.length_cons, List.length_nil, List.append_eq, List.append_nil, List.nil_append, List.cons_append, Nat.reduceSub, Nat.reduceAdd, List.getElem?_cons_zero, List.getElem?_cons_succ, List.set_cons_zero, List.set_cons_succ,
  dC, dVar, dOp, dTru, gTru, tru, dChain, dAnd, dOr, dNot, dAndV, dOrV, dNotV, dIf, dNeg, gNeg, dNil, dCons, dTup, dLst, dOwn, gIx, rBin, gAdd, gCmpI, dCall, dCallK, dSeq, dNext, dDrop, dRet, dRetN, dIfS, dName, dGNil, dGCons, dGTup, dSub, gSetL, dAsg, dPar, dPar3, dAug, gIpI, dSeqI, gSeqI, dRngI, gRng1, gRng2, dCB, gAbs, gInt, gMax, gMin, gGcd, gLen, lenD, gIsi, tyM, tyD, dBits, gBits, dMet, gAppend, dPart, dNoPart, dSl, gSl_tup, gSl_lst, cut_1, dEnds, gIs, isB, dNever, dFor, dLc, wipeD, dYes,
  sizeLine_eq, Nat.reduceLeDiff, gEq_int, gNe_int, gEq_strs, gNe_strs, gIn_two, gRepr_bl, rs_lst, rs_tup, rs_scr, rs_int, atI_0, atI_1, atI_2, atI_3, atI_4, atI_5, ixN_30, ixN_31, ixN_32, gEq_bl, gNe_bl, decide_eq_true_eq, beq_iff_eq, Bool.not_eq_true', beq_eq_false_iff_ne, decide_eq_false_iff_not, Bool.not_true, Bool.not_false, if_true, if_false, Bool.false_eq_true, ite_true, ite_false, true_and, and_true, ne_eq, Bool.bne_false, Bool.bne_true, reduceCtorEq])
local macro_rules | `(tactic| walk_at "rh") => `(tactic| simp only [*, startD, List.map, List.replicate, List.length_cons, List.length_nil, List.append_eq, List.append_nil, List.nil_append, List.cons_append, Nat.reduceSub, Nat.reduceAdd, List.getElem?_cons_zero, List.getElem?_cons_succ, List.set_cons_zero, List.set_cons_succ,
  dC, dVar, dOp, dTru, gTru, tru, dChain, dAnd, dOr, dNot, dAndV, dOrV, dNotV, dIf, dNeg, gNeg, dNil, dCons, dTup, dLst, dOwn, gIx, rBin, gAdd, gCmpI, dCall, dCallK, dSeq, dNext, dDrop, dRet, dRetN, dIfS, dName, dGNil, dGCons, dGTup, dSub, gSetL, dAsg, dPar, dPar3, dAug, gIpI, dSeqI, gSeqI, dRngI, gRng1, gRng2, dCB, gAbs, gInt, gMax, gMin, gGcd, gLen, lenD, gIsi, tyM, tyD, dBits, gBits, dMet, gAppend, dPart, dNoPart, dSl, gSl_tup, gSl_lst, cut_1, dEnds, gIs, isB, dNever, dFor, dLc, wipeD, dYes,
  sizeLine_eq, Nat.reduceLeDiff, gEq_int, gNe_int, gEq_strs, gNe_strs, gIn_two, gRepr_bl, rs_lst, rs_tup, rs_scr, rs_int, atI_0, atI_1, atI_2, atI_3, atI_4, atI_5, ixN_30, ixN_31, ixN_32, gEq_bl, gNe_bl, decide_eq_true_eq, beq_iff_eq, Bool.not_eq_true', beq_eq_false_iff_ne, decide_eq_false_iff_not, Bool.not_true, Bool.not_false, if_true, if_false, Bool.false_eq_true, ite_true, ite_false, true_and, and_true, ne_eq, Bool.bne_false, Bool.bne_true, reduceCtorEq])
local macro_rules | `(tactic| walk_at "kb") => `(tactic| simp only [kb_NoneType_list, kb_bool_list, kb_int_list, kb_str_list, kb_tuple_list, kb_list_list, kb_dict_list, kb_NoneType_int, kb_bool_int, kb_int_int, kb_str_int, kb_tuple_int, kb_list_int, kb_dict_int, kb_NoneType_bool, kb_bool_bool, kb_int_bool, kb_str_bool, kb_tuple_bool, kb_list_bool, kb_dict_bool, kb_NoneType_tuple, kb_bool_tuple, kb_int_tuple, kb_str_tuple, kb_tuple_tuple, kb_list_tuple, kb_dict_tuple, if_true, if_false, Bool.false_eq_true, ite_true, ite_false, Bool.not_true, Bool.not_false])
/-! ### all cuttings of a measure, as laws list them -/
def IsC (m : Int) (x : List Int) : Prop := ∃ a b c e, x = [a, b, c, e] ∧ isCut a b c e = true ∧ meas4 b c e = m
/-- l: cuttings of the measure m, among them all with P c e -/
def Cov (m : Int) (l : List (List Int)) (P : Int → Int → Prop) : Prop := (∀ x ∈ l, IsC m x) ∧ ∀ a b c e, isCut a b c e = true → meas4 b c e = m → P c e → [a, b, c, e] ∈ l
theorem Cov.app {m : Int} {l l2 : List (List Int)} {P P' : Int → Int → Prop} (h : Cov m l P) (g : Cov m l2 P') : Cov m (l ++ l2) fun c e => P c e ∨ P' c e :=
  ⟨fun x hx => (List.mem_append.mp hx).elim (h.1 x) (g.1 x), fun a b c e h1 h2 h3 => List.mem_append.mpr (h3.imp (h.2 a b c e h1 h2) (g.2 a b c e h1 h2))⟩
theorem Cov.nil {m : Int} : Cov m [] fun _ _ => False := ⟨fun x hx => (by cases hx), fun _ _ _ _ _ _ h => h.elim⟩
theorem meas_bc {b c e m : Int} : meas4 b c e = m ↔ 4 * (b * c) = m - e * e := by
  unfold meas4
  rw [Int.mul_assoc]
  omega
/-! ### k28's own lists -/
/-! every deed leads somewhere -/
theorem bez_ex : ∀ (k : Nat) (m n : Int), n.natAbs ≤ k → ∃ u v : Int, u * m + v * n = (Int.gcd m n : Int)
  | 0, m, n, h => by
    have : n = 0 := by omega
    subst this
    rw [Int.gcd_zero_right]
    rcases (by omega : 0 ≤ m ∨ m ≤ 0) with h | h
    · exact ⟨1, 0, by omega⟩
    · exact ⟨-1, 0, by omega⟩
  | k + 1, m, n, h => by
    by_cases z : n = 0
    · subst z
      exact bez_ex k m 0 (by simp)
    · have r0 := Int.emod_nonneg m z
      have r1 := Int.emod_lt m z
      obtain ⟨u, v, e⟩ := bez_ex k n (m % n) (by omega)
      have eg : (Int.gcd n (m % n) : Int) = Int.gcd m n := gcd_emod' m n
      rw [eg] at e
      have em := Int.mul_ediv_add_emod m n
      refine ⟨v, u - v * (m / n), ?_⟩
      have : v * m + (u - v * (m / n)) * n = u * n + v * (m - n * (m / n)) := by grind
      rw [this, ← e]
      have : m - n * (m / n) = m % n := by omega
      rw [this]
theorem done_ex {a b c e p q : Int} (hc : 1 ≤ c) (hq : 1 ≤ q) (cp : Int.gcd p q = 1) : ∃ a' w g e', IsDone a b c e p q a' w g e' := by
  obtain ⟨z, y, hz⟩ := bez_ex q.natAbs p q (Nat.le_refl _)
  rw [cp] at hz
  have row : p * z - q * (-y) = 1 := by
    have : p * z - q * (-y) = z * p + y * q := by grind
    rw [this]; exact hz
  obtain ⟨u, v, huv⟩ := bez_ex (q * c).natAbs (p * b + q * a) (q * c) (Nat.le_refl _)
  have j0 : 0 < q * c := Int.mul_pos (by omega) (by omega)
  have g0 : 0 < (Int.gcd (p * b + q * a) (q * c) : Int) := by
    have := Int.gcd_pos_of_ne_zero_right (p * b + q * a) (show q * c ≠ 0 by omega)
    omega
  have dg : (Int.gcd (p * b + q * a) (q * c) : Int) ∣ c * (b - q * e - q * q * c) := by
    have h1 : c * (b - q * e - q * q * c) = (p * b + q * a) * (z * c) - (q * c) * ((-y) * b + z * a + e + q * c) := by
      have : (p * b + q * a) * (z * c) - (q * c) * ((-y) * b + z * a + e + q * c) = c * (b * (p * z - q * (-y)) - q * e - q * q * c) := by grind
      rw [this, row, Int.mul_one]
    rw [h1]
    exact Int.dvd_sub (Int.dvd_mul_of_dvd_left (Int.gcd_dvd_left _ _)) (Int.dvd_mul_of_dvd_left (Int.gcd_dvd_right _ _))
  obtain ⟨w, hw⟩ := dg
  have G0 : 0 < (Int.gcd w (Int.gcd (p * b + q * a) (q * c) : Int) : Int) := by
    have := Int.gcd_pos_of_ne_zero_right w (show (Int.gcd (p * b + q * a) (q * c) : Int) ≠ 0 by omega)
    omega
  refine ⟨_, w, _, _, rfl, by rw [hw, Int.mul_comm], rfl, Int.emod_nonneg (0 - (u * ((-y) * b + z * a + e + q * c) + v * (z * c))) (by omega), Int.emod_lt_of_pos _ G0, u, v, -y, z, row, huv, ?_⟩
  have := Int.mul_ediv_add_emod (0 - (u * ((-y) * b + z * a + e + q * c) + v * (z * c))) (Int.gcd w (Int.gcd (p * b + q * a) (q * c) : Int) : Int)
  refine ⟨-((0 - (u * ((-y) * b + z * a + e + q * c) + v * (z * c))) / (Int.gcd w (Int.gcd (p * b + q * a) (q * c) : Int) : Int)), ?_⟩
  rw [Int.mul_neg]
  omega
/-! where a deed leads, as a function -/
theorem isDeed_parts {b c e p q : Int} (h : isDeed b c e p q = true) : DeedQ b c e p q ∧ p < q * (c / (Int.gcd b c : Int)) := by
  simp only [isDeed, Bool.and_eq_true, decide_eq_true_eq, beq_iff_eq] at h
  obtain ⟨h1, h2, h3, h4, h5⟩ := h
  exact ⟨⟨h1, h2, h3, by omega⟩, h4⟩
theorem isDeed_mk {b c e p q : Int} (h : DeedQ b c e p q) (h2 : p < q * (c / (Int.gcd b c : Int))) : isDeed b c e p q = true := by
  simp only [isDeed, Bool.and_eq_true, decide_eq_true_eq, beq_iff_eq]
  exact ⟨h.q1, h.al, h.p0, h2, by rw [h.cp]; rfl⟩
end DL
namespace DL
open PySem PySem.Spec PyProof.Rows L2
local macro_rules | `(tactic| walk_at "rd") => `(tactic| simp only [startD, List.map, List.replicate, List.length_cons, List.length_nil, List.append_eq, List.append_nil, List.nil_append, List.cons_append, Nat.reduceSub, Nat.reduceAdd, List.getElem?_cons_zero, List.getElem?_cons_succ, List.set_cons_zero, List.set_cons_succ,
  dC, dVar, dOp, dTru, gTru, tru, dChain, dAnd, dOr, dNot, dAndV, dOrV, dNotV, dIf, dNeg, gNeg, dNil, dCons, dTup, dLst, dOwn, gIx, rBin, gAdd, gCmpI, dCall, dCallK, dSeq, dNext, dDrop, dRet, dRetN, dIfS, dName, dGNil, dGCons, dGTup, dSub, gSetL, dAsg, dPar, dPar3, dAug, gIpI, dSeqI, gSeqI, dRngI, gRng1, gRng2, dCB, gAbs, gInt, gMax, gMin, gGcd, gLen, lenD, gIsi, tyM, tyD, dBits, gBits, dMet, gAppend, dPart, dNoPart, dSl, gSl_tup, gSl_lst, cut_1, dEnds, gIs, isB, dNever, dFor, dLc, wipeD, dYes,
  sizeLine_eq, Nat.reduceLeDiff, gEq_int, gNe_int, gEq_strs, gNe_strs, gIn_two, gRepr_bl, rs_lst, rs_tup, rs_scr, rs_int, atI_0, atI_1, atI_2, atI_3, atI_4, atI_5, ixN_30, ixN_31, ixN_32, gEq_bl, gNe_bl, decide_eq_true_eq, beq_iff_eq, Bool.not_eq_true', beq_eq_false_iff_ne, decide_eq_false_iff_not, Bool.not_true, Bool.not_false, if_true, if_false, Bool.false_eq_true, ite_true, ite_false, true_and, and_true, ne_eq, Bool.bne_false, Bool.bne_true, reduceCtorEq])
local macro_rules | `(tactic| walk_at "rh") => `(tactic| simp only [*, startD, List.map, List.replicate, List.length_cons, List.length_nil, List.append_eq, List.append_nil, List.nil_append, List.cons_append, Nat.reduceSub, Nat.reduceAdd, List.getElem?_cons_zero, List.getElem?_cons_succ, List.set_cons_zero, List.set_cons_succ,
  dC, dVar, dOp, dTru, gTru, tru, dChain, dAnd, dOr, dNot, dAndV, dOrV, dNotV, dIf, dNeg, gNeg, dNil, dCons, dTup, dLst, dOwn, gIx, rBin, gAdd, gCmpI, dCall, dCallK, dSeq, dNext, dDrop, dRet, dRetN, dIfS, dName, dGNil, dGCons, dGTup, dSub, gSetL, dAsg, dPar, dPar3, dAug, gIpI, dSeqI, gSeqI, dRngI, gRng1, gRng2, dCB, gAbs, gInt, gMax, gMin, gGcd, gLen, lenD, gIsi, tyM, tyD, dBits, gBits, dMet, gAppend, dPart, dNoPart, dSl, gSl_tup, gSl_lst, cut_1, dEnds, gIs, isB, dNever, dFor, dLc, wipeD, dYes,
  sizeLine_eq, Nat.reduceLeDiff, gEq_int, gNe_int, gEq_strs, gNe_strs, gIn_two, gRepr_bl, rs_lst, rs_tup, rs_scr, rs_int, atI_0, atI_1, atI_2, atI_3, atI_4, atI_5, ixN_30, ixN_31, ixN_32, gEq_bl, gNe_bl, decide_eq_true_eq, beq_iff_eq, Bool.not_eq_true', beq_eq_false_iff_ne, decide_eq_false_iff_not, Bool.not_true, Bool.not_false, if_true, if_false, Bool.false_eq_true, ite_true, ite_false, true_and, and_true, ne_eq, Bool.bne_false, Bool.bne_true, reduceCtorEq])
local macro_rules | `(tactic| walk_at "kb") => `(tactic| simp only [kb_NoneType_list, kb_bool_list, kb_int_list, kb_str_list, kb_tuple_list, kb_list_list, kb_dict_list, kb_NoneType_int, kb_bool_int, kb_int_int, kb_str_int, kb_tuple_int, kb_list_int, kb_dict_int, kb_NoneType_bool, kb_bool_bool, kb_int_bool, kb_str_bool, kb_tuple_bool, kb_list_bool, kb_dict_bool, kb_NoneType_tuple, kb_bool_tuple, kb_int_tuple, kb_str_tuple, kb_tuple_tuple, kb_list_tuple, kb_dict_tuple, if_true, if_false, Bool.false_eq_true, ite_true, ite_false, Bool.not_true, Bool.not_false])
/-! ### cells are only added -/
def Plus (M M' : Mem) : Prop := ∃ G, M' = M ++ G ∧ ∀ c ∈ G, ∀ n, belowO n c = true
theorem Plus.refl (M : Mem) : Plus M M := ⟨[], (List.append_nil M).symm, fun c h => (by cases h)⟩
theorem Plus.trans {M M' M'' : Mem} (h : Plus M M') (g : Plus M' M'') : Plus M M'' := by
  obtain ⟨G, rfl, h1⟩ := h
  obtain ⟨G', rfl, h2⟩ := g
  exact ⟨G ++ G', List.append_assoc _ _ _, fun c hc => (List.mem_append.mp hc).elim (h1 c) (h2 c)⟩
theorem Plus.add {M M' : Mem} {l : List D} (h : Plus M M') (hl : ∀ n, belowAll n l = true) : Plus M (M' ++ [.lst l]) :=
  h.trans ⟨[.lst l], rfl, fun c hc n => by rw [List.mem_singleton.mp hc]; exact hl n⟩
theorem Plus.get {M M' : Mem} (h : Plus M M') {i : Nat} (hi : i < M.length) : M'[i]? = M[i]? := by
  obtain ⟨G, rfl, _⟩ := h
  exact List.getElem?_append_left hi
theorem Plus.len {M M' : Mem} (h : Plus M M') : M.length ≤ M'.length := by
  obtain ⟨G, rfl, _⟩ := h
  rw [List.length_append]; omega
theorem Plus.rtq {M M' : Mem} {Q : DQ} {d : D} (h : Plus M M') (q : Q d M') (hb : below M'.length d = true := by rfl) : Rtq M Q d M' := by
  refine rtqC q h.len hb fun i c hc => ?_
  obtain ⟨G, rfl, h1⟩ := h
  by_cases hi : i < M.length
  · rw [List.getElem?_append_left hi] at hc
    exact .inl hc
  · rw [List.getElem?_append_right (by omega)] at hc
    exact .inr (h1 c (List.mem_of_getElem? hc) _)
/-- the new cells are let go -/
theorem Plus.drop {M M' : Mem} {Q : DQ} {d : D} (h : Plus M M') (q : Q d M) (hb : below M.length d = true := by rfl) : Rtq M Q d M' := by
  obtain ⟨G, rfl, _⟩ := h
  exact rtqG q hb
theorem Plus.set {M M' : Mem} {k : Nat} {l : List D} (h : Plus M M') (hk : M.length ≤ k) (hl : ∀ n, belowAll n l = true) : Plus M (M'.set k (.lst l)) := by
  obtain ⟨G, rfl, h1⟩ := h
  refine ⟨G.set (k - M.length) (.lst l), ?_, fun c hc n => ?_⟩
  · rw [List.set_append_right _ _ hk]
  · rcases List.mem_or_eq_of_mem_set hc with hc | rfl
    · exact h1 c hc n
    · exact hl n
/-! ### the way to the heart, as a list of the caller's -/
/-! ### k28 -/
end DL
namespace DL
open PySem PySem.Spec PyProof.Rows L2
local macro_rules | `(tactic| walk_at "rd") => `(tactic| simp only [startD, List.map, List.replicate, List.length_cons, List.length_nil, List.append_eq, List.append_nil, List.nil_append, List.cons_append, Nat.reduceSub, Nat.reduceAdd, List.getElem?_cons_zero, List.getElem?_cons_succ, List.set_cons_zero, List.set_cons_succ,
  dC, dVar, dOp, dTru, gTru, tru, dChain, dAnd, dOr, dNot, dAndV, dOrV, dNotV, dIf, dNeg, gNeg, dNil, dCons, dTup, dLst, dOwn, gIx, rBin, gAdd, gCmpI, dCall, dCallK, dSeq, dNext, dDrop, dRet, dRetN, dIfS, dName, dGNil, dGCons, dGTup, dSub, gSetL, dAsg, dPar, dPar3, dAug, gIpI, dSeqI, gSeqI, dRngI, gRng1, gRng2, dCB, gAbs, gInt, gMax, gMin, gGcd, gLen, lenD, gIsi, tyM, tyD, dBits, gBits, dMet, gAppend, dPart, dNoPart, dSl, gSl_tup, gSl_lst, cut_1, dEnds, gIs, isB, dNever, dFor, dLc, wipeD, dYes,
  sizeLine_eq, Nat.reduceLeDiff, gEq_int, gNe_int, gEq_strs, gNe_strs, gIn_two, gRepr_bl, rs_lst, rs_tup, rs_scr, rs_int, atI_0, atI_1, atI_2, atI_3, atI_4, atI_5, ixN_30, ixN_31, ixN_32, gEq_bl, gNe_bl, decide_eq_true_eq, beq_iff_eq, Bool.not_eq_true', beq_eq_false_iff_ne, decide_eq_false_iff_not, Bool.not_true, Bool.not_false, if_true, if_false, Bool.false_eq_true, ite_true, ite_false, true_and, and_true, ne_eq, Bool.bne_false, Bool.bne_true, reduceCtorEq])
local macro_rules | `(tactic| walk_at "rh") => `(tactic| simp only [*, startD, List.map, List.replicate, List.length_cons, List.length_nil, List.append_eq, List.append_nil, List.nil_append, List.cons_append, Nat.reduceSub, Nat.reduceAdd, List.getElem?_cons_zero, List.getElem?_cons_succ, List.set_cons_zero, List.set_cons_succ,
  dC, dVar, dOp, dTru, gTru, tru, dChain, dAnd, dOr, dNot, dAndV, dOrV, dNotV, dIf, dNeg, gNeg, dNil, dCons, dTup, dLst, dOwn, gIx, rBin, gAdd, gCmpI, dCall, dCallK, dSeq, dNext, dDrop, dRet, dRetN, dIfS, dName, dGNil, dGCons, dGTup, dSub, gSetL, dAsg, dPar, dPar3, dAug, gIpI, dSeqI, gSeqI, dRngI, gRng1, gRng2, dCB, gAbs, gInt, gMax, gMin, gGcd, gLen, lenD, gIsi, tyM, tyD, dBits, gBits, dMet, gAppend, dPart, dNoPart, dSl, gSl_tup, gSl_lst, cut_1, dEnds, gIs, isB, dNever, dFor, dLc, wipeD, dYes,
  sizeLine_eq, Nat.reduceLeDiff, gEq_int, gNe_int, gEq_strs, gNe_strs, gIn_two, gRepr_bl, rs_lst, rs_tup, rs_scr, rs_int, atI_0, atI_1, atI_2, atI_3, atI_4, atI_5, ixN_30, ixN_31, ixN_32, gEq_bl, gNe_bl, decide_eq_true_eq, beq_iff_eq, Bool.not_eq_true', beq_eq_false_iff_ne, decide_eq_false_iff_not, Bool.not_true, Bool.not_false, if_true, if_false, Bool.false_eq_true, ite_true, ite_false, true_and, and_true, ne_eq, Bool.bne_false, Bool.bne_true, reduceCtorEq])
local macro_rules | `(tactic| walk_at "kb") => `(tactic| simp only [kb_NoneType_list, kb_bool_list, kb_int_list, kb_str_list, kb_tuple_list, kb_list_list, kb_dict_list, kb_NoneType_int, kb_bool_int, kb_int_int, kb_str_int, kb_tuple_int, kb_list_int, kb_dict_int, kb_NoneType_bool, kb_bool_bool, kb_int_bool, kb_str_bool, kb_tuple_bool, kb_list_bool, kb_dict_bool, kb_NoneType_tuple, kb_bool_tuple, kb_int_tuple, kb_str_tuple, kb_tuple_tuple, kb_list_tuple, kb_dict_tuple, if_true, if_false, Bool.false_eq_true, ite_true, ite_false, Bool.not_true, Bool.not_false])
/-! ### sorted lists of tuples of ints -/
abbrev LSorted (l : List (List Int)) : Prop := l.Pairwise fun x y => lexL y x = false
/-! ### all cuttings of a measure, each once -/
def CovX (m : Int) (l : List (List Int)) (P : Int → Int → Prop) : Prop := l.Nodup ∧ ∀ x, x ∈ l ↔ ∃ a b c e, x = [a, b, c, e] ∧ isCut a b c e = true ∧ meas4 b c e = m ∧ P c e
theorem CovX.nil {m : Int} {P : Int → Int → Prop} (h : ∀ a b c e, isCut a b c e = true → meas4 b c e = m → ¬ P c e) : CovX m [] P :=
  ⟨List.nodup_nil, fun x => ⟨fun h => (by cases h), by rintro ⟨a, b, c, e, rfl, h1, h2, h3⟩; exact (h a b c e h1 h2 h3).elim⟩⟩
theorem CovX.iff {m : Int} {l : List (List Int)} {P P' : Int → Int → Prop} (h : CovX m l P) (w : ∀ a b c e, isCut a b c e = true → meas4 b c e = m → (P' c e ↔ P c e)) : CovX m l P' := by
  refine ⟨h.1, fun x => (h.2 x).trans ?_⟩
  constructor
  · rintro ⟨a, b, c, e, rfl, h1, h2, h3⟩; exact ⟨a, b, c, e, rfl, h1, h2, (w a b c e h1 h2).mpr h3⟩
  · rintro ⟨a, b, c, e, rfl, h1, h2, h3⟩; exact ⟨a, b, c, e, rfl, h1, h2, (w a b c e h1 h2).mp h3⟩
theorem CovX.app {m : Int} {l l2 : List (List Int)} {P P' : Int → Int → Prop} (h : CovX m l P) (g : CovX m l2 P') (w : ∀ c e, P c e → P' c e → False) : CovX m (l ++ l2) fun c e => P c e ∨ P' c e := by
  refine ⟨List.nodup_append.mpr ⟨h.1, g.1, fun x hx y hy e => ?_⟩, fun x => ?_⟩
  · subst e
    obtain ⟨a, b, c, e, rfl, _, _, h3⟩ := (h.2 x).mp hx
    obtain ⟨a', b', c', e', h4, _, _, h5⟩ := (g.2 _).mp hy
    cases h4
    exact w c e h3 h5
  · rw [List.mem_append, h.2, g.2]
    constructor
    · rintro (⟨a, b, c, e, rfl, h1, h2, h3⟩ | ⟨a, b, c, e, rfl, h1, h2, h3⟩)
      · exact ⟨a, b, c, e, rfl, h1, h2, .inl h3⟩
      · exact ⟨a, b, c, e, rfl, h1, h2, .inr h3⟩
    · rintro ⟨a, b, c, e, rfl, h1, h2, h3 | h3⟩
      · exact .inl ⟨a, b, c, e, rfl, h1, h2, h3⟩
      · exact .inr ⟨a, b, c, e, rfl, h1, h2, h3⟩
/-- the whole of them, sorted -/
structure AllC (m : Int) (l : List (List Int)) : Prop where
  nd : l.Nodup
  mem : ∀ x, x ∈ l ↔ IsC m x
  srt : LSorted l
  len : l.length ≤ 10000000
theorem AllC.of {m : Int} {l l' : List (List Int)} {P : Int → Int → Prop} (h : CovX m l P) (w : ∀ a b c e, isCut a b c e = true → meas4 b c e = m → P c e) (hl : l.length ≤ 10000000) (pm : l'.Perm l) (sd : LSorted l') : AllC m l' := by
  refine ⟨(pm.nodup_iff).mpr h.1, fun x => ?_, sd, by rw [pm.length_eq]; exact hl⟩
  rw [pm.mem_iff, h.2]
  constructor
  · rintro ⟨a, b, c, e, rfl, h1, h2, _⟩; exact ⟨a, b, c, e, rfl, h1, h2⟩
  · rintro ⟨a, b, c, e, rfl, h1, h2⟩; exact ⟨a, b, c, e, rfl, h1, h2, w a b c e h1 h2⟩
/-! ### the functions of k13 to k16 -/
end DL
namespace DL
open PySem PySem.Spec PyProof.Rows L2
local macro_rules | `(tactic| walk_at "rd") => `(tactic| simp only [startD, List.map, List.replicate, List.length_cons, List.length_nil, List.append_eq, List.append_nil, List.nil_append, List.cons_append, Nat.reduceSub, Nat.reduceAdd, List.getElem?_cons_zero, List.getElem?_cons_succ, List.set_cons_zero, List.set_cons_succ,
  dC, dVar, dOp, dTru, gTru, tru, dChain, dAnd, dOr, dNot, dAndV, dOrV, dNotV, dIf, dNeg, gNeg, dNil, dCons, dTup, dLst, dOwn, gIx, rBin, gAdd, gCmpI, dCall, dCallK, dSeq, dNext, dDrop, dRet, dRetN, dIfS, dName, dGNil, dGCons, dGTup, dSub, gSetL, dAsg, dPar, dPar3, dAug, gIpI, dSeqI, gSeqI, dRngI, gRng1, gRng2, dCB, gAbs, gInt, gMax, gMin, gGcd, gLen, lenD, gIsi, tyM, tyD, dBits, gBits, dMet, gAppend, dPart, dNoPart, dSl, gSl_tup, gSl_lst, cut_1, dEnds, gIs, isB, dNever, dFor, dLc, wipeD, dYes,
  sizeLine_eq, Nat.reduceLeDiff, gEq_int, gNe_int, gEq_strs, gNe_strs, gIn_two, gRepr_bl, rs_lst, rs_tup, rs_scr, rs_int, atI_0, atI_1, atI_2, atI_3, atI_4, atI_5, ixN_30, ixN_31, ixN_32, gEq_bl, gNe_bl, decide_eq_true_eq, beq_iff_eq, Bool.not_eq_true', beq_eq_false_iff_ne, decide_eq_false_iff_not, Bool.not_true, Bool.not_false, if_true, if_false, Bool.false_eq_true, ite_true, ite_false, true_and, and_true, ne_eq, Bool.bne_false, Bool.bne_true, reduceCtorEq])
local macro_rules | `(tactic| walk_at "rh") => `(tactic| simp only [*, startD, List.map, List.replicate, List.length_cons, List.length_nil, List.append_eq, List.append_nil, List.nil_append, List.cons_append, Nat.reduceSub, Nat.reduceAdd, List.getElem?_cons_zero, List.getElem?_cons_succ, List.set_cons_zero, List.set_cons_succ,
  dC, dVar, dOp, dTru, gTru, tru, dChain, dAnd, dOr, dNot, dAndV, dOrV, dNotV, dIf, dNeg, gNeg, dNil, dCons, dTup, dLst, dOwn, gIx, rBin, gAdd, gCmpI, dCall, dCallK, dSeq, dNext, dDrop, dRet, dRetN, dIfS, dName, dGNil, dGCons, dGTup, dSub, gSetL, dAsg, dPar, dPar3, dAug, gIpI, dSeqI, gSeqI, dRngI, gRng1, gRng2, dCB, gAbs, gInt, gMax, gMin, gGcd, gLen, lenD, gIsi, tyM, tyD, dBits, gBits, dMet, gAppend, dPart, dNoPart, dSl, gSl_tup, gSl_lst, cut_1, dEnds, gIs, isB, dNever, dFor, dLc, wipeD, dYes,
  sizeLine_eq, Nat.reduceLeDiff, gEq_int, gNe_int, gEq_strs, gNe_strs, gIn_two, gRepr_bl, rs_lst, rs_tup, rs_scr, rs_int, atI_0, atI_1, atI_2, atI_3, atI_4, atI_5, ixN_30, ixN_31, ixN_32, gEq_bl, gNe_bl, decide_eq_true_eq, beq_iff_eq, Bool.not_eq_true', beq_eq_false_iff_ne, decide_eq_false_iff_not, Bool.not_true, Bool.not_false, if_true, if_false, Bool.false_eq_true, ite_true, ite_false, true_and, and_true, ne_eq, Bool.bne_false, Bool.bne_true, reduceCtorEq])
local macro_rules | `(tactic| walk_at "kb") => `(tactic| simp only [kb_NoneType_list, kb_bool_list, kb_int_list, kb_str_list, kb_tuple_list, kb_list_list, kb_dict_list, kb_NoneType_int, kb_bool_int, kb_int_int, kb_str_int, kb_tuple_int, kb_list_int, kb_dict_int, kb_NoneType_bool, kb_bool_bool, kb_int_bool, kb_str_bool, kb_tuple_bool, kb_list_bool, kb_dict_bool, kb_NoneType_tuple, kb_bool_tuple, kb_int_tuple, kb_str_tuple, kb_tuple_tuple, kb_list_tuple, kb_dict_tuple, if_true, if_false, Bool.false_eq_true, ite_true, ite_false, Bool.not_true, Bool.not_false])
/-! ### a drawn cutting of a small measure -/
/-! ### all deeds of a cutting -/
theorem allowed_mono {b c e q q' : Int} (hb : 1 ≤ b) (hc : 1 ≤ c) (h1 : 1 ≤ q) (h2 : q ≤ q') (h : 0 < b - q' * e - q' * q' * c) : 0 < b - q * e - q * q * c := by
  have e1 : q' * (b - q * e - q * q * c) = q * (b - q' * e - q' * q' * c) + (q' - q) * b + q * q' * (q' - q) * c := by grind
  have p1 : 0 < q * (b - q' * e - q' * q' * c) := Int.mul_pos (by omega) h
  have p2 : 0 ≤ (q' - q) * b := Int.mul_nonneg (by omega) (by omega)
  have p3 : 0 ≤ q * q' * (q' - q) * c := Int.mul_nonneg (Int.mul_nonneg (Int.mul_nonneg (by omega) (by omega)) (by omega)) (by omega)
  by_cases z : 0 < b - q * e - q * q * c
  · exact z
  · have : q' * (b - q * e - q * q * c) ≤ 0 := Int.mul_nonpos_of_nonneg_of_nonpos (by omega) (by omega)
    omega
def CovD (b c e : Int) (l : List (List Int)) (k : Int) : Prop := l.Nodup ∧ ∀ x, x ∈ l ↔ ∃ p q, x = [p, q] ∧ isDeed b c e p q = true ∧ q < k
/-- the deeds with a told second number -/
def rowD (N : Nat) (q : Int) : List (List Int) := (List.range N).filterMap fun (i : Nat) => if (Int.gcd (i : Int) q : Int) = 1 then some [(i : Int), q] else none
theorem rowD_mem {N : Nat} {q : Int} {x : List Int} : x ∈ rowD N q ↔ ∃ i : Nat, i < N ∧ (Int.gcd (i : Int) q : Int) = 1 ∧ x = [(i : Int), q] := by
  unfold rowD
  rw [List.mem_filterMap]
  constructor
  · rintro ⟨i, hi, h⟩
    by_cases hc : (Int.gcd (i : Int) q : Int) = 1
    · rw [if_pos hc] at h
      exact ⟨i, List.mem_range.mp hi, hc, (Option.some.inj h).symm⟩
    · rw [if_neg hc] at h; cases h
  · rintro ⟨i, hi, hc, rfl⟩
    exact ⟨i, List.mem_range.mpr hi, by rw [if_pos hc]⟩
theorem rowD_nodup {N : Nat} {q : Int} : (rowD N q).Nodup := by
  unfold rowD
  refine List.Pairwise.filterMap _ (fun a a' (hne : a ≠ a') x hx y hy => ?_) List.nodup_range
  by_cases h1 : (Int.gcd (a : Int) q : Int) = 1
  · by_cases h2 : (Int.gcd (a' : Int) q : Int) = 1
    · rw [if_pos h1] at hx
      rw [if_pos h2] at hy
      cases hx; cases hy
      intro z
      have := List.cons.inj z
      omega
    · rw [if_neg h2] at hy; cases hy
  · rw [if_neg h1] at hx; cases hx
theorem CovD.step {b c e k : Int} {l : List (List Int)} (h : CovD b c e l k) (hk : 1 ≤ k) (ha : 0 < b - k * e - k * k * c) : CovD b c e (l ++ rowD (k * (c / (Int.gcd b c : Int))).toNat k) (k + 1) := by
  refine ⟨List.nodup_append.mpr ⟨h.1, rowD_nodup, fun x hx y hy z => ?_⟩, fun x => ?_⟩
  · subst z
    obtain ⟨p, q, rfl, _, h3⟩ := (h.2 x).mp hx
    obtain ⟨i, _, _, h4⟩ := rowD_mem.mp hy
    cases h4
    omega
  · rw [List.mem_append, h.2, rowD_mem]
    constructor
    · rintro (⟨p, q, rfl, h1, h2⟩ | ⟨i, h1, h2, rfl⟩)
      · exact ⟨p, q, rfl, h1, by omega⟩
      · exact ⟨i, k, rfl, isDeed_mk ⟨hk, ha, by omega, by omega⟩ (by omega), by omega⟩
    · rintro ⟨p, q, rfl, h1, h2⟩
      by_cases z : q < k
      · exact .inl ⟨p, q, rfl, h1, z⟩
      · have : q = k := by omega
        subst this
        obtain ⟨⟨q1, q2, q3, q4⟩, q5⟩ := isDeed_parts h1
        exact .inr ⟨p.toNat, by omega, by rw [Int.toNat_of_nonneg q3]; omega, by rw [Int.toNat_of_nonneg q3]⟩
structure AllD (b c e : Int) (l : List (List Int)) : Prop where
  nd : l.Nodup
  mem : ∀ x, x ∈ l ↔ ∃ p q, x = [p, q] ∧ isDeed b c e p q = true
  srt : LSorted l
  len : l.length ≤ 10000000
theorem AllD.of {b c e k : Int} {l l' : List (List Int)} (hb : 1 ≤ b) (hc : 1 ≤ c) (hk : 1 ≤ k) (h : CovD b c e l k) (hn : ¬ 0 < b - k * e - k * k * c) (hl : l.length ≤ 10000000) (pm : l'.Perm l) (sd : LSorted l') : AllD b c e l' := by
  refine ⟨(pm.nodup_iff).mpr h.1, fun x => ?_, sd, by rw [pm.length_eq]; exact hl⟩
  rw [pm.mem_iff, h.2]
  constructor
  · rintro ⟨p, q, rfl, h1, _⟩; exact ⟨p, q, rfl, h1⟩
  · rintro ⟨p, q, rfl, h1⟩
    refine ⟨p, q, rfl, h1, ?_⟩
    by_cases z : q < k
    · exact z
    · exact (hn (allowed_mono hb hc hk (by omega) (isDeed_parts h1).1.al)).elim
def sp_lallowed : DSp := fun ds M Q _ => ∃ a b c e q : Int, ds = [T4 a b c e, .int q] ∧ CutB 450 a b c e ∧ Bi 450 q ∧ Q (.bl (decide (0 < b - q * e - q * q * c))) M
theorem rd_l_allowed_c76c : ∀ ds M Q, ds.length = 2 → sp_lallowed ds M Q DX0 → t_l_allowed_c76c (dEnds M Q) (startD 6 ds) M := by
  rintro _ M Q - ⟨a, b, c, e, q, rfl, ⟨ba, bb, bc, be⟩, bq, h⟩
  unfold t_l_allowed_c76c
  walk_at "rd"
  exact ⟨⟨bq.sm, be.sm⟩, ⟨bq.sm, bq.sm⟩, ⟨(bq.mul bq).sm, bc.sm⟩, rtq h⟩
theorem rd_allowed_by : ∀ ds M Q, ds.length = 2 → sp_lallowed ds M Q DX0 → t_allowed_by (dEnds M Q) (startD 6 ds) M := rd_l_allowed_c76c
/-! ### deeds judged -/
def isDeedD (b c e : Int) (d : D) : Bool := match d with
  | .tup [.int p, .int q] => isDeed b c e p q
  | _ => false
theorem isDeedD_notup {b c e : Int} {d : D} (h : ∀ l, d ≠ .tup l) : isDeedD b c e d = false := by
  cases d <;> first | rfl | exact absurd rfl (h _)
theorem isDeedD_len {b c e : Int} {l : List D} (h : l.length ≠ 2) : isDeedD b c e (.tup l) = false := by
  unfold isDeedD
  split
  · rename_i z; cases z; exact absurd rfl h
  · rfl
theorem isDeedD_bad {b c e : Int} {l : List D} (h : ∃ x ∈ l, isW x = false) : isDeedD b c e (.tup l) = false := by
  unfold isDeedD
  split
  · rename_i z
    cases z
    obtain ⟨x, hx, hw⟩ := h
    simp only [List.mem_cons, List.not_mem_nil, or_false] at hx
    rcases hx with rfl | rfl <;> cases hw
  · rfl
theorem len2 {l : List D} (h : l.length = 2) : ∃ a b, l = [a, b] := by
  match l, h with
  | [a, b], _ => exact ⟨a, b, rfl⟩
def sp_round_of : DSp := fun ds M Q _ => ∃ a b c e : Int, ds = [T4 a b c e] ∧ 1 ≤ c ∧ Bi 1000 c ∧ Q (.int (c / (Int.gcd b c : Int))) M
theorem rd_round_of : ∀ ds M Q, ds.length = 1 → sp_round_of ds M Q DX0 → t_round_of (dEnds M Q) (startD 1 ds) M := by
  rintro _ M Q - ⟨a, b, c, e, rfl, c1, bc, q⟩
  unfold t_round_of
  walk_at "rd"
  have G0 : 0 < (Int.gcd b c : Int) := by
    have := Int.gcd_pos_of_ne_zero_right b (show c ≠ 0 by omega)
    omega
  have bG : Bi 1000 (Int.gcd b c : Int) := bc.of_dvd' (by omega) (Int.gcd_dvd_right _ _)
  rw [← fdiv_pos G0] at q
  exact ⟨⟨by omega, Nat.lt_of_lt_of_le (log2_of 1000 bG (by decide)) (by decide)⟩, rtq q⟩
def sp_is_deed_by : DSp := fun ds M Q _ => ∃ (a b c e : Int) (d : D), ds = [T4 a b c e, d] ∧ 1 ≤ c ∧ CutB 450 a b c e ∧ Askable 2 M d ∧ (∀ p q, d = .tup [.int p, .int q] → Bi 450 q) ∧ Q (.bl (isDeedD b c e d)) M
theorem rd_is_deed_by : ∀ ds M Q, ds.length = 2 → sp_is_deed_by ds M Q DX0 → t_is_deed_by sp_lallowed sp_round_of (dEnds M Q) (startD 5 ds) M := by
  rintro _ M Q - ⟨a, b, c, e, d, rfl, c1, cb, ⟨⟨T, ht⟩, hr⟩, hq, h⟩
  unfold t_is_deed_by
  by_cases htup : ∃ l, d = .tup l
  · obtain ⟨l, rfl⟩ := htup
    refine dSeq_open fun B hB => ?_
    walk_at "rd"
    walk_at "kb"
    by_cases h2 : l.length = 2
    · obtain ⟨dp, dq, rfl⟩ := len2 h2
      have hr' := hr _ rfl rfl
      rw [if_neg (by decide), if_neg (fun z => z rfl), ← hB]
      clear hB B
      refine dSeq_open fun B hB => ?_
      walk_at "rd"
      refine lcW_pure (fun e => if isW e = true then none else some e) trivial (by rw [sizeLine_eq]; exact (by decide : (2 : Nat) ≤ 16777216)) (fun x hx Y N hy => ?_) ?_
      · obtain ⟨_, T', hT⟩ := hr' x hx
        cases x <;> first | (cases hT; done) | skip
        all_goals walk_at "rd"
        case own k =>
          unfold tyM at hT
          dsimp only at hT
          split at hT
          · rename_i ds hk
            simp only [hk]
            walk_at "kb"
            exact hy
          · cases hT
        all_goals walk_at "kb"
        all_goals exact hy
      · refine gNe_nil' (n := 40) (bads_fine fun e he => (hr' e he).1) ?_
        show if (!(bads [dp, dq]).isEmpty) = true then _ else _
        cases hb : (bads [dp, dq]).isEmpty with
        | false =>
          rw [if_pos (by decide)]
          rw [isDeedD_bad (bads_some hb)] at h
          exact rtq h
        | true =>
          rw [if_neg (by decide), ← hB]
          clear hB B
          have hw := bads_nil hb
          obtain ⟨p, rfl⟩ := isW_iff.mp (hw dp (by simp))
          obtain ⟨q, rfl⟩ := isW_iff.mp (hw dq (by simp))
          have bq := hq p q rfl
          replace h : Q (.bl (isDeed b c e p q)) M := h
          have fin : ∀ v, v = isDeed b c e p q → Rtq M Q (.bl v) M := by rintro _ rfl; exact rtq h
          obtain ⟨l1, l2⟩ := lot_le (b := b) c1
          have bl : Bi 450 (c / (Int.gcd b c : Int)) := by have := cb.2.2.1; unfold Bi at this ⊢; omega
          walk_at "rd"
          by_cases h1 : q < 1
          · rw [if_pos h1]
            exact fin _ (by unfold isDeed; rw [decide_eq_false (show ¬ 1 ≤ q by omega)]; rfl)
          · rw [if_neg h1]
            have e1 := decide_eq_true (show 1 ≤ q by omega)
            refine ⟨a, b, c, e, q, rfl, cb, bq, ?_⟩
            dsimp only
            by_cases h2 : 0 < b - q * e - q * q * c
            · have e2 := decide_eq_true h2
              rw [e2, if_neg (by decide)]
              by_cases h3 : 0 ≤ p
              · have e3 := decide_eq_true h3
                rw [if_pos h3]
                refine ⟨a, b, c, e, rfl, c1, cb.2.2.1.mono, ?_⟩
                dsimp only
                refine ⟨⟨bq.sm, bl.sm⟩, ?_⟩
                by_cases h4 : p < q * (c / (Int.gcd b c : Int))
                · have e4 := decide_eq_true h4
                  rw [if_neg (fun z => z h4)]
                  exact fin _ (by unfold isDeed; rw [e1, e2, e3, e4]; rfl)
                · rw [if_pos h4]
                  exact fin _ (by unfold isDeed; rw [e1, e2, e3, decide_eq_false h4]; rfl)
              · rw [if_neg h3, if_pos h3]
                exact fin _ (by unfold isDeed; rw [e1, e2, decide_eq_false h3]; rfl)
            · have e2 := decide_eq_false h2
              rw [e2, if_pos (by decide)]
              exact fin _ (by unfold isDeed; rw [e1, e2]; rfl)
    · rw [if_neg (by decide), if_pos (by intro z; apply h2; omega)]
      rw [isDeedD_len h2] at h
      exact rtq h
  · have h' : Q (.bl false) M := by rwa [isDeedD_notup fun l z => htup ⟨l, z⟩] at h
    cases d <;> first | exact absurd ⟨_, rfl⟩ htup | (cases ht; done) | skip
    all_goals walk_at "rd"
    case own k =>
      unfold tyM at ht
      dsimp only at ht
      split at ht
      · rename_i ds hk
        simp only [hk]
        walk_at "kb"
        exact rtq h'
      · cases ht
    all_goals walk_at "kb"
    all_goals exact rtq h'
/-- check_deed of a deed -/
def sp_check_deed : DSp := fun ds M Q _ => ∃ a b c e p q : Int, ds = [T4 a b c e, .tup [.int p, .int q]] ∧ isCut a b c e = true ∧ CutB 450 a b c e ∧ Bi 450 q ∧ isDeed b c e p q = true ∧ Q .non M
theorem rd_check_deed : ∀ ds M Q, ds.length = 2 → sp_check_deed ds M Q DX0 → t_check_deed sp_check_cutting sp_is_deed_by (dEnds M Q) (startD 2 ds) M := by
  rintro _ M Q - ⟨a, b, c, e, p, q, rfl, hcut, cb, bq, hd, h⟩
  unfold t_check_deed
  walk_at "rd"
  refine ⟨a, b, c, e, rfl, hcut, a, b, c, e, _, rfl, (cut_parts hcut).2.1, cb, ask_fine M rfl, fun p' q' z => (by cases z; exact bq), ?_⟩
  rw [show isDeedD b c e (.tup [.int p, .int q]) = true from hd]
  walk_at "rd"
  exact rtq h
/-! ### columns led down -/
end DL
namespace DL
open PySem PySem.Spec PyProof.Rows L2
local macro_rules | `(tactic| walk_at "rd") => `(tactic| simp only [startD, List.map, List.replicate, List.length_cons, List.length_nil, List.append_eq, List.append_nil, List.nil_append, List.cons_append, Nat.reduceSub, Nat.reduceAdd, List.getElem?_cons_zero, List.getElem?_cons_succ, List.set_cons_zero, List.set_cons_succ,
  dC, dVar, dOp, dTru, gTru, tru, dChain, dAnd, dOr, dNot, dAndV, dOrV, dNotV, dIf, dNeg, gNeg, dNil, dCons, dTup, dLst, dOwn, gIx, rBin, gAdd, gCmpI, dCall, dCallK, dSeq, dNext, dDrop, dRet, dRetN, dIfS, dName, dGNil, dGCons, dGTup, dSub, gSetL, dAsg, dPar, dPar3, dAug, gIpI, dSeqI, gSeqI, dRngI, gRng1, gRng2, dCB, gAbs, gInt, gMax, gMin, gGcd, gLen, lenD, gIsi, tyM, tyD, dBits, gBits, dMet, gAppend, dPart, dNoPart, dSl, gSl_tup, gSl_lst, cut_1, dEnds, gIs, isB, dNever, dFor, dLc, wipeD, dYes,
  sizeLine_eq, Nat.reduceLeDiff, gEq_int, gNe_int, gEq_strs, gNe_strs, gIn_two, gRepr_bl, rs_lst, rs_tup, rs_scr, rs_int, atI_0, atI_1, atI_2, atI_3, atI_4, atI_5, ixN_30, ixN_31, ixN_32, gEq_bl, gNe_bl, decide_eq_true_eq, beq_iff_eq, Bool.not_eq_true', beq_eq_false_iff_ne, decide_eq_false_iff_not, Bool.not_true, Bool.not_false, if_true, if_false, Bool.false_eq_true, ite_true, ite_false, true_and, and_true, ne_eq, Bool.bne_false, Bool.bne_true, reduceCtorEq])
local macro_rules | `(tactic| walk_at "rh") => `(tactic| simp only [*, startD, List.map, List.replicate, List.length_cons, List.length_nil, List.append_eq, List.append_nil, List.nil_append, List.cons_append, Nat.reduceSub, Nat.reduceAdd, List.getElem?_cons_zero, List.getElem?_cons_succ, List.set_cons_zero, List.set_cons_succ,
  dC, dVar, dOp, dTru, gTru, tru, dChain, dAnd, dOr, dNot, dAndV, dOrV, dNotV, dIf, dNeg, gNeg, dNil, dCons, dTup, dLst, dOwn, gIx, rBin, gAdd, gCmpI, dCall, dCallK, dSeq, dNext, dDrop, dRet, dRetN, dIfS, dName, dGNil, dGCons, dGTup, dSub, gSetL, dAsg, dPar, dPar3, dAug, gIpI, dSeqI, gSeqI, dRngI, gRng1, gRng2, dCB, gAbs, gInt, gMax, gMin, gGcd, gLen, lenD, gIsi, tyM, tyD, dBits, gBits, dMet, gAppend, dPart, dNoPart, dSl, gSl_tup, gSl_lst, cut_1, dEnds, gIs, isB, dNever, dFor, dLc, wipeD, dYes,
  sizeLine_eq, Nat.reduceLeDiff, gEq_int, gNe_int, gEq_strs, gNe_strs, gIn_two, gRepr_bl, rs_lst, rs_tup, rs_scr, rs_int, atI_0, atI_1, atI_2, atI_3, atI_4, atI_5, ixN_30, ixN_31, ixN_32, gEq_bl, gNe_bl, decide_eq_true_eq, beq_iff_eq, Bool.not_eq_true', beq_eq_false_iff_ne, decide_eq_false_iff_not, Bool.not_true, Bool.not_false, if_true, if_false, Bool.false_eq_true, ite_true, ite_false, true_and, and_true, ne_eq, Bool.bne_false, Bool.bne_true, reduceCtorEq])
local macro_rules | `(tactic| walk_at "kb") => `(tactic| simp only [kb_NoneType_list, kb_bool_list, kb_int_list, kb_str_list, kb_tuple_list, kb_list_list, kb_dict_list, kb_NoneType_int, kb_bool_int, kb_int_int, kb_str_int, kb_tuple_int, kb_list_int, kb_dict_int, kb_NoneType_bool, kb_bool_bool, kb_int_bool, kb_str_bool, kb_tuple_bool, kb_list_bool, kb_dict_bool, kb_NoneType_tuple, kb_bool_tuple, kb_int_tuple, kb_str_tuple, kb_tuple_tuple, kb_list_tuple, kb_dict_tuple, if_true, if_false, Bool.false_eq_true, ite_true, ite_false, Bool.not_true, Bool.not_false])
/-! ### columns of a deed's table, led down -/
/-! ### x in l -/
theorem done_of {a b c e p q a' w g e' : Int} (h : isCut a b c e = true) (hd : isDeed b c e p q = true) (hdn : IsDone a b c e p q a' w g e') : isCut a' w g e' = true ∧ meas4 w g e' = meas4 b c e ∧ 0 < g :=
  have hp := (isDeed_parts hd).1
  let ⟨h1, h2⟩ := done_cut h hp.q1 hp.al hdn
  ⟨h1, h2, done_g (cut_parts h).2.1 hp.q1 hdn⟩
end DL
/-! MF: the deed that leads back; plain -/
namespace DL
/-- (p1, q1) is the deed of (a', w, g, _) that undoes (p, q) at (a, b, c, e) -/
structure IsBack (a b c e p q a' w g p1 q1 : Int) : Prop where
  nq : q1 * g = q * c
  lo : 0 ≤ p1
  hi : p1 < q1 * (g / (Int.gcd w g : Int))
  ex : ∃ x z t : Int, p * z - q * x = 1 ∧ (-p1) * (p * b + q * a) + t * (q * c) = g ∧ g ∣ (-p1) * (x * b + z * a + e + q * c) + t * (z * c) + a'
theorem wide_of {a b c e p q w g x z : Int} (hw : w * g = c * (b - q * e - q * q * c)) (hr : p * z - q * x = 1) : (p * b + q * a) * (z * c) - (q * c) * (x * b + z * a + e + q * c) = w * g := by
  have h1 : (p * b + q * a) * (z * c) - (q * c) * (x * b + z * a + e + q * c) = c * (b * (p * z - q * x) - q * e - q * q * c) := by grind
  rw [h1, hr, Int.mul_one, hw]
/-- the rest does not hang on the second row -/
theorem rest_row {a b c e p q g u t x z x' z' a' : Int} (hr : p * z - q * x = 1) (hr' : p * z' - q * x' = 1) (hb : u * (p * b + q * a) + t * (q * c) = g)
    (hd : g ∣ u * (x * b + z * a + e + q * c) + t * (z * c) + a') : g ∣ u * (x' * b + z' * a + e + q * c) + t * (z' * c) + a' := by
  obtain ⟨s, s1, s2⟩ := row_diff hr' hr
  have ex : x' = x + s * p := by omega
  have ez : z' = z + s * q := by omega
  have : u * (x' * b + z' * a + e + q * c) + t * (z' * c) + a' = (u * (x * b + z * a + e + q * c) + t * (z * c) + a') + s * (u * (p * b + q * a) + t * (q * c)) := by rw [ex, ez]; grind
  rw [this, hb]
  exact Int.dvd_add hd (Int.dvd_mul_left _ _)
theorem lot_mul {w g : Int} (hg : 0 < g) : ∃ w' lot : Int, w = (Int.gcd w g : Int) * w' ∧ g = (Int.gcd w g : Int) * lot ∧ g / (Int.gcd w g : Int) = lot ∧ 0 < lot ∧ lot * w = g * w' ∧ (Int.gcd w' lot : Int) = 1 := by
  have G0 : 0 < (Int.gcd w g : Int) := by
    have := Int.gcd_pos_of_ne_zero_right w (show g ≠ 0 by omega)
    omega
  obtain ⟨w', hw⟩ := Int.gcd_dvd_left w g
  obtain ⟨lot, hl⟩ := Int.gcd_dvd_right w g
  have e1 : g / (Int.gcd w g : Int) = lot := by
    have : g / (Int.gcd w g : Int) = ((Int.gcd w g : Int) * lot) / (Int.gcd w g : Int) := by rw [← hl]
    rw [this]; exact Int.mul_ediv_cancel_left _ (by omega)
  refine ⟨w', lot, hw, hl, e1, ?_, ?_, gcd_quot rfl G0 hw hl⟩
  · rw [← e1]; exact Int.ediv_pos_of_pos_of_dvd hg (by omega) (Int.gcd_dvd_right _ _)
  · generalize (Int.gcd w g : Int) = G at *
    subst hw
    rw [hl]; grind
theorem dvd_cop {w k t : Int} (h : (Int.gcd w k : Int) = 1) (hd : k ∣ w * t) : k ∣ t := by
  have h1 := Int.natAbs_dvd_natAbs.mpr hd
  rw [Int.natAbs_mul] at h1
  have h2 : Nat.Coprime k.natAbs w.natAbs := by
    show Nat.gcd k.natAbs w.natAbs = 1
    rw [Nat.gcd_comm]
    have : Int.gcd w k = 1 := by omega
    exact this
  exact Int.natAbs_dvd_natAbs.mp (Nat.Coprime.dvd_of_dvd_mul_left h2 h1)
theorem back_unique {a b c e p q a' w g p1 q1 p2 q2 : Int} (hg : 0 < g) (hw : w * g = c * (b - q * e - q * q * c)) (hgI : g ∣ p * b + q * a)
    (h1 : IsBack a b c e p q a' w g p1 q1) (h2 : IsBack a b c e p q a' w g p2 q2) : p1 = p2 ∧ q1 = q2 := by
  have eq : q1 = q2 := Int.eq_of_mul_eq_mul_right (show g ≠ 0 by omega) (h1.nq.trans h2.nq.symm)
  subst eq
  refine ⟨?_, rfl⟩
  obtain ⟨x, z, t, f1, f2, f3⟩ := h1.ex
  obtain ⟨x', z', t', f1', f2', f3'⟩ := h2.ex
  have f3 := rest_row f1 f1' f2 f3
  have hgn : g ∣ q * c := ⟨q1, by rw [← h1.nq, Int.mul_comm]⟩
  obtain ⟨T, t1, t2⟩ := bez_diff (show g ≠ 0 by omega) hgI hgn f2 f2'
  obtain ⟨w', lot, e1, e2, e3, e4, e5, e6⟩ := lot_mul (w := w) hg
  have k1 : (-p1 - -p2) = T * q1 := by
    refine Int.eq_of_mul_eq_mul_right (show g ≠ 0 by omega) ?_
    rw [t1, ← h1.nq, Int.mul_assoc]
  have hwide := wide_of (a := a) hw f1'
  have k2 : (-p1 - -p2) * (x' * b + z' * a + e + q * c) + (t - t') * (z' * c) = -(T * w) := by
    refine Int.eq_of_mul_eq_mul_right (show g ≠ 0 by omega) ?_
    have : ((-p1 - -p2) * (x' * b + z' * a + e + q * c) + (t - t') * (z' * c)) * g = ((-p1 - -p2) * g) * (x' * b + z' * a + e + q * c) + ((t - t') * g) * (z' * c) := by grind
    rw [this, t1, t2]
    have : -(T * w) * g = -(T * (w * g)) := by grind
    rw [this, ← hwide]
    grind
  have k3 : g ∣ T * w := by
    have := Int.dvd_sub f3' f3
    have e : ((-p2 * (x' * b + z' * a + e + q * c) + t' * (z' * c) + a') - (-p1 * (x' * b + z' * a + e + q * c) + t * (z' * c) + a')) = T * w := by
      have : ((-p2 * (x' * b + z' * a + e + q * c) + t' * (z' * c) + a') - (-p1 * (x' * b + z' * a + e + q * c) + t * (z' * c) + a')) = -((-p1 - -p2) * (x' * b + z' * a + e + q * c) + (t - t') * (z' * c)) := by grind
      rw [this, k2]; omega
    rwa [e] at this
  have G0 : 0 < (Int.gcd w g : Int) := by
    have := Int.gcd_pos_of_ne_zero_right w (show g ≠ 0 by omega)
    omega
  have k4 : lot ∣ T := by
    have : (Int.gcd w g : Int) * lot ∣ (Int.gcd w g : Int) * (w' * T) := by
      rw [← e2, ← Int.mul_assoc, ← e1, Int.mul_comm w T]; exact k3
    have := Int.dvd_of_mul_dvd_mul_left (by omega) this
    exact dvd_cop e6 this
  obtain ⟨y, hy⟩ := k4
  have l1 := h1.lo
  have l2 := h2.lo
  have l3 := h1.hi
  have l4 := h2.hi
  rw [e3] at l3 l4
  have k5 : p2 - p1 = q1 * lot * y := by
    have : p2 - p1 = T * q1 := by omega
    rw [this, hy]; grind
  rcases (by omega : y = 0 ∨ 1 ≤ y ∨ y ≤ -1) with rfl | hy | hy
  · omega
  · have := Int.mul_le_mul_of_nonneg_left hy (show 0 ≤ q1 * lot by omega)
    omega
  · have := Int.mul_le_mul_of_nonneg_left hy (show 0 ≤ q1 * lot by omega)
    rw [Int.mul_neg] at this
    omega
/-- what the program's columns give -/
theorem back_of {a b c e p q a' w g x z f s t m n : Int} (hq : 1 ≤ q) (hc : 1 ≤ c) (hg : 0 < g) (hwi : w * g = c * (b - q * e - q * q * c)) (row : p * z - q * x = 1) (im : p * b + q * a = g * m) (jn : q * c = g * n)
    (bz : f * (p * b + q * a) + s * (q * c) = g) (tr : -(f * (x * b + z * a + e + q * c) + s * (z * c)) = a' + t * g) : IsBack a b c e p q a' w g ((-f) % (n * (g / (Int.gcd w g : Int)))) n := by
  obtain ⟨w', lot, e1, e2, e3, e4, e5, e6⟩ := lot_mul (w := w) hg
  have hn : 0 < n := by
    have h1 : 0 < q * c := Int.mul_pos (by omega) (by omega)
    rw [jn] at h1
    exact Int.pos_of_mul_pos_right h1 (by omega)
  have hN : 0 < n * lot := Int.mul_pos hn e4
  rw [e3]
  refine ⟨by rw [jn, Int.mul_comm], Int.emod_nonneg _ (by omega), by rw [e3]; exact Int.emod_lt_of_pos _ hN, x, z, s - ((-f) / (n * lot)) * m * lot, row, ?_, ?_⟩
  · have hd := Int.mul_ediv_add_emod (-f) (n * lot)
    generalize (-f) / (n * lot) = k at *
    have en : -((-f) % (n * lot)) = f + k * (n * lot) := by rw [Int.mul_comm k]; omega
    rw [en]
    have : (f + k * (n * lot)) * (p * b + q * a) + (s - k * m * lot) * (q * c) = (f * (p * b + q * a) + s * (q * c)) + k * lot * (n * (p * b + q * a) - m * (q * c)) := by grind
    rw [this, bz, im, jn]
    grind
  · have hd := Int.mul_ediv_add_emod (-f) (n * lot)
    generalize (-f) / (n * lot) = k at *
    have en : -((-f) % (n * lot)) = f + k * (n * lot) := by rw [Int.mul_comm k]; omega
    rw [en]
    have hwide := wide_of (a := a) hwi row
    have hn2 : m * (z * c) - n * (x * b + z * a + e + q * c) = w := by
      refine Int.eq_of_mul_eq_mul_right (show g ≠ 0 by omega) ?_
      have : (m * (z * c) - n * (x * b + z * a + e + q * c)) * g = (g * m) * (z * c) - (g * n) * (x * b + z * a + e + q * c) := by grind
      rw [this, ← im, ← jn, hwide]
    have : (f + k * (n * lot)) * (x * b + z * a + e + q * c) + (s - k * m * lot) * (z * c) + a' = (f * (x * b + z * a + e + q * c) + s * (z * c) + a') - k * lot * (m * (z * c) - n * (x * b + z * a + e + q * c)) := by grind
    rw [this, hn2]
    have h3 := tr
    have h4 : f * (x * b + z * a + e + q * c) + s * (z * c) + a' = g * (-t) := by rw [Int.mul_neg, Int.mul_comm g]; omega
    rw [h4, show k * lot * w = k * (lot * w) from Int.mul_assoc _ _ _, e5]
    exact Int.dvd_sub (Int.dvd_mul_right _ _) ⟨k * w', by grind⟩
theorem back_of_full {a b c e p q a' w g e' x z f s t m n : Int} (hq : 1 ≤ q) (hc : 1 ≤ c) (h : Full a b c e p q a' w g e' x z f s t m n) : IsBack a b c e p q a' w g ((-f) % (n * (g / (Int.gcd w g : Int)))) n :=
  back_of hq hc h.g0 h.dn.wi h.row h.im h.jn h.bz h.tr
/-- what leads back, and where -/
theorem back_facts {a b c e p q a' w g e' p1 q1 : Int} (hcut : isCut a b c e = true) (hd : isDeed b c e p q = true) (hdn : IsDone a b c e p q a' w g e') (h : IsBack a b c e p q a' w g p1 q1) :
    isDeed w g e' p1 q1 = true ∧ IsDone a' w g e' p1 q1 a b c e ∧ IsBack a' w g e' p1 q1 a b c p q := by
  obtain ⟨⟨hq, hal, hp0, hcp⟩, hpr⟩ := isDeed_parts hd
  obtain ⟨k1, k2, k3, k4, k5, k6⟩ := cut_parts hcut
  have hg := done_g k2 hq hdn
  obtain ⟨x, z, t, f1, f2, f3⟩ := h.ex
  obtain ⟨lo, hi⟩ := And.intro h.lo h.hi
  have hq1 : 1 ≤ q1 := by
    have h1 : 0 < q * c := Int.mul_pos (by omega) (by omega)
    rw [← h.nq] at h1
    exact Int.pos_of_mul_pos_left h1 (by omega)
  have hgI : g ∣ p * b + q * a := by rw [hdn.gc]; exact Int.gcd_dvd_left _ _
  obtain ⟨m, hm⟩ := hgI
  have hnq := h.nq
  have hwide := wide_of (a := a) hdn.wi f1
  have f4 : -p1 * m + t * q1 = 1 := by
    refine Int.eq_of_mul_eq_mul_right (show g ≠ 0 by omega) ?_
    rw [Int.one_mul]
    have : (-p1 * m + t * q1) * g = -p1 * (g * m) + t * (q1 * g) := by grind
    rw [this, ← hm, hnq]
    exact f2
  have cp : Int.gcd p1 q1 = 1 := by
    have d : (Int.gcd p1 q1 : Int) ∣ 1 := by
      rw [← f4]
      refine Int.dvd_add ?_ (Int.dvd_mul_of_dvd_right (Int.gcd_dvd_right _ _))
      rw [Int.neg_mul]
      exact Int.dvd_neg.mpr (Int.dvd_mul_of_dvd_left (Int.gcd_dvd_left _ _))
    have := Int.le_of_dvd (by decide) d
    have := Int.gcd_pos_of_ne_zero_right p1 (show q1 ≠ 0 by omega)
    omega
  obtain ⟨y, hy⟩ := f3
  have hn2 : m * (z * c) - q1 * (x * b + z * a + e + q * c) = w := by
    refine Int.eq_of_mul_eq_mul_right (show g ≠ 0 by omega) ?_
    have : (m * (z * c) - q1 * (x * b + z * a + e + q * c)) * g = (g * m) * (z * c) - (q1 * g) * (x * b + z * a + e + q * c) := by grind
    rw [this, ← hm, hnq, hwide]
  have hJ : a' = g * y + p1 * (x * b + z * a + e + q * c) - t * (z * c) := by
    have : -p1 * (x * b + z * a + e + q * c) = -(p1 * (x * b + z * a + e + q * c)) := Int.neg_mul _ _
    omega
  have eI : p1 * w + q1 * a' = q * c * y - z * c := by
    have h1 : p1 * w + q1 * a' = q1 * g * y - (t * q1 - p1 * m) * (z * c) + (p1 * w - p1 * (m * (z * c) - q1 * (x * b + z * a + e + q * c))) := by rw [hJ]; grind
    have h2 : t * q1 - p1 * m = 1 := by rw [Int.neg_mul] at f4; omega
    rw [h1, hn2, h2, hnq]; omega
  have eU : -p * (p1 * w + q1 * a') + (p * y - x) * (q1 * g) = c := by
    rw [eI, hnq]
    have : -p * (q * c * y - z * c) + (p * y - x) * (q * c) = (p * z - q * x) * c := by grind
    rw [this, f1, Int.one_mul]
  have eR : p1 * (-m) - q1 * (-t) = 1 := by rw [← f4]; grind
  have hwi : b * c = g * (w - q1 * e' - q1 * q1 * g) := by
    have h1 : g * (w - q1 * e' - q1 * q1 * g) = w * g - (q1 * g) * e' - (q1 * g) * (q1 * g) := by grind
    rw [h1, hnq, hdn.wi, hdn.tu]; grind
  have eA : -p * (-t * w + -m * a' + e' + q1 * g) + (p * y - x) * (-m * g) = -a := by
    have h2 : t * q1 - p1 * m = 1 := by rw [Int.neg_mul] at f4; omega
    have h3 : m * a' = (p * b + q * a) * y - (x * b + z * a + e + q * c) - t * w := by
      have h1 : m * a' = g * m * y + (p1 * m - t * q1) * (x * b + z * a + e + q * c) - t * (m * (z * c) - q1 * (x * b + z * a + e + q * c)) := by rw [hJ]; grind
      rw [h1, hn2, hm, show p1 * m - t * q1 = -1 by omega]; omega
    have h4 : -p * (-t * w + -m * a' + e' + q1 * g) + (p * y - x) * (-m * g) = p * (t * w) + p * (m * a') - p * e' - p * (q1 * g) - (p * y - x) * (g * m) := by grind
    rw [h4, h3, hnq, ← hm, hdn.tu]
    have h5 : p * (t * w) + p * ((p * b + q * a) * y - (x * b + z * a + e + q * c) - t * w) - p * (0 - e - 2 * q * c) - p * (q * c) - (p * y - x) * (p * b + q * a) = -(a * (p * z - q * x)) := by grind
    rw [h5, f1]; omega
  have hal1 : 0 < w - q1 * e' - q1 * q1 * g := by
    have h1 : 0 < b * c := Int.mul_pos (by omega) (by omega)
    rw [hwi] at h1
    exact Int.pos_of_mul_pos_right h1 (by omega)
  refine ⟨isDeed_mk ⟨hq1, hal1, lo, cp⟩ hi, ⟨?_, hwi, ?_, k4, k5, -p, p * y - x, -t, -m, eR, eU, ?_⟩, ⟨hnq.symm, hp0, hpr, -t, -m, p * y - x, eR, eU, ?_⟩⟩
  · have d1 : c ∣ p1 * w + q1 * a' := by rw [eI]; exact ⟨q * y - z, by grind⟩
    have d2 : c ∣ q1 * g := by rw [hnq]; exact Int.dvd_mul_left _ _
    have d3 := Int.dvd_coe_gcd d1 d2
    have d4 : (Int.gcd (p1 * w + q1 * a') (q1 * g) : Int) ∣ c := by
      have : (Int.gcd (p1 * w + q1 * a') (q1 * g) : Int) ∣ -p * (p1 * w + q1 * a') + (p * y - x) * (q1 * g) := Int.dvd_add (Int.dvd_mul_of_dvd_right (Int.gcd_dvd_left _ _)) (Int.dvd_mul_of_dvd_right (Int.gcd_dvd_right _ _))
      rwa [eU] at this
    exact Int.dvd_antisymm (by omega) (by omega) d3 d4
  · rw [hdn.tu, Int.mul_assoc 2 q1 g, hnq, Int.mul_assoc 2 q c]; omega
  · rw [eA]; exact ⟨0, by rw [Int.mul_zero]; omega⟩
  · rw [eA]; exact ⟨0, by rw [Int.mul_zero]; omega⟩
theorem back_ex {a b c e p q a' w g e' : Int} (hcut : isCut a b c e = true) (hd : isDeed b c e p q = true) (hdn : IsDone a b c e p q a' w g e') : ∃ p1 q1, IsBack a b c e p q a' w g p1 q1 := by
  obtain ⟨⟨hq, hal, hp0, hcp⟩, hpr⟩ := isDeed_parts hd
  obtain ⟨k1, k2, k3, k4, k5, k6⟩ := cut_parts hcut
  have hg := done_g k2 hq hdn
  obtain ⟨u, v, x, z, f1, f2, d, f3⟩ := hdn.ex
  have dm : g ∣ p * b + q * a := by rw [hdn.gc]; exact Int.gcd_dvd_left _ _
  have dn : g ∣ q * c := by rw [hdn.gc]; exact Int.gcd_dvd_right _ _
  obtain ⟨m, hm⟩ := dm
  obtain ⟨n, hn⟩ := dn
  obtain ⟨α, β, hab⟩ := bez_ex g.natAbs w g (Nat.le_refl _)
  have hwide := wide_of (a := a) hdn.wi f1
  have hn2 : m * (z * c) - n * (x * b + z * a + e + q * c) = w := by
    refine Int.eq_of_mul_eq_mul_right (show g ≠ 0 by omega) ?_
    have : (m * (z * c) - n * (x * b + z * a + e + q * c)) * g = (g * m) * (z * c) - (g * n) * (x * b + z * a + e + q * c) := by grind
    rw [this, ← hm, ← hn, hwide]
  refine ⟨_, _, back_of (f := u + d * α * n) (s := v - d * α * m) (t := -(d * β)) hq k2 hg hdn.wi f1 hm hn ?_ ?_⟩
  · have : (u + d * α * n) * (p * b + q * a) + (v - d * α * m) * (q * c) = (u * (p * b + q * a) + v * (q * c)) + d * α * (n * (p * b + q * a) - m * (q * c)) := by grind
    rw [this, f2, hm, hn]
    grind
  · have : -((u + d * α * n) * (x * b + z * a + e + q * c) + (v - d * α * m) * (z * c)) = -(u * (x * b + z * a + e + q * c) + v * (z * c)) + d * α * (m * (z * c) - n * (x * b + z * a + e + q * c)) := by grind
    rw [this, hn2]
    have h4 : u * (x * b + z * a + e + q * c) + v * (z * c) = d * (α * w + β * g) - a' := by rw [hab, Int.mul_comm d]; omega
    rw [h4]; grind
end DL
namespace DL
open PySem PySem.Spec PyProof.Rows L2
local macro_rules | `(tactic| walk_at "rd") => `(tactic| simp only [startD, List.map, List.replicate, List.length_cons, List.length_nil, List.append_eq, List.append_nil, List.nil_append, List.cons_append, Nat.reduceSub, Nat.reduceAdd, List.getElem?_cons_zero, List.getElem?_cons_succ, List.set_cons_zero, List.set_cons_succ,
  dC, dVar, dOp, dTru, gTru, tru, dChain, dAnd, dOr, dNot, dAndV, dOrV, dNotV, dIf, dNeg, gNeg, dNil, dCons, dTup, dLst, dOwn, gIx, rBin, gAdd, gCmpI, dCall, dCallK, dSeq, dNext, dDrop, dRet, dRetN, dIfS, dName, dGNil, dGCons, dGTup, dSub, gSetL, dAsg, dPar, dPar3, dAug, gIpI, dSeqI, gSeqI, dRngI, gRng1, gRng2, dCB, gAbs, gInt, gMax, gMin, gGcd, gLen, lenD, gIsi, tyM, tyD, dBits, gBits, dMet, gAppend, dPart, dNoPart, dSl, gSl_tup, gSl_lst, cut_1, dEnds, gIs, isB, dNever, dFor, dLc, wipeD, dYes,
  sizeLine_eq, Nat.reduceLeDiff, gEq_int, gNe_int, gEq_strs, gNe_strs, gIn_two, gRepr_bl, rs_lst, rs_tup, rs_scr, rs_int, atI_0, atI_1, atI_2, atI_3, atI_4, atI_5, ixN_30, ixN_31, ixN_32, gEq_bl, gNe_bl, decide_eq_true_eq, beq_iff_eq, Bool.not_eq_true', beq_eq_false_iff_ne, decide_eq_false_iff_not, Bool.not_true, Bool.not_false, if_true, if_false, Bool.false_eq_true, ite_true, ite_false, true_and, and_true, ne_eq, Bool.bne_false, Bool.bne_true, reduceCtorEq])
local macro_rules | `(tactic| walk_at "rh") => `(tactic| simp only [*, startD, List.map, List.replicate, List.length_cons, List.length_nil, List.append_eq, List.append_nil, List.nil_append, List.cons_append, Nat.reduceSub, Nat.reduceAdd, List.getElem?_cons_zero, List.getElem?_cons_succ, List.set_cons_zero, List.set_cons_succ,
  dC, dVar, dOp, dTru, gTru, tru, dChain, dAnd, dOr, dNot, dAndV, dOrV, dNotV, dIf, dNeg, gNeg, dNil, dCons, dTup, dLst, dOwn, gIx, rBin, gAdd, gCmpI, dCall, dCallK, dSeq, dNext, dDrop, dRet, dRetN, dIfS, dName, dGNil, dGCons, dGTup, dSub, gSetL, dAsg, dPar, dPar3, dAug, gIpI, dSeqI, gSeqI, dRngI, gRng1, gRng2, dCB, gAbs, gInt, gMax, gMin, gGcd, gLen, lenD, gIsi, tyM, tyD, dBits, gBits, dMet, gAppend, dPart, dNoPart, dSl, gSl_tup, gSl_lst, cut_1, dEnds, gIs, isB, dNever, dFor, dLc, wipeD, dYes,
  sizeLine_eq, Nat.reduceLeDiff, gEq_int, gNe_int, gEq_strs, gNe_strs, gIn_two, gRepr_bl, rs_lst, rs_tup, rs_scr, rs_int, atI_0, atI_1, atI_2, atI_3, atI_4, atI_5, ixN_30, ixN_31, ixN_32, gEq_bl, gNe_bl, decide_eq_true_eq, beq_iff_eq, Bool.not_eq_true', beq_eq_false_iff_ne, decide_eq_false_iff_not, Bool.not_true, Bool.not_false, if_true, if_false, Bool.false_eq_true, ite_true, ite_false, true_and, and_true, ne_eq, Bool.bne_false, Bool.bne_true, reduceCtorEq])
local macro_rules | `(tactic| walk_at "kb") => `(tactic| simp only [kb_NoneType_list, kb_bool_list, kb_int_list, kb_str_list, kb_tuple_list, kb_list_list, kb_dict_list, kb_NoneType_int, kb_bool_int, kb_int_int, kb_str_int, kb_tuple_int, kb_list_int, kb_dict_int, kb_NoneType_bool, kb_bool_bool, kb_int_bool, kb_str_bool, kb_tuple_bool, kb_list_bool, kb_dict_bool, kb_NoneType_tuple, kb_bool_tuple, kb_int_tuple, kb_str_tuple, kb_tuple_tuple, kb_list_tuple, kb_dict_tuple, if_true, if_false, Bool.false_eq_true, ite_true, ite_false, Bool.not_true, Bool.not_false])
theorem toPy_tupE {l : List D} {p : PyData} (h : toPy (.tup l) = some p) : ∃ ps, toPyAll l = some ps ∧ p = .tuple ps := by
  unfold toPy at h
  cases hl : toPyAll l with
  | none => rw [hl] at h; cases h
  | some ps => rw [hl] at h; cases h; exact ⟨ps, rfl, rfl⟩
theorem toPy_lstE {l : List D} {p : PyData} (h : toPy (.lst l) = some p) : ∃ ps, toPyAll l = some ps ∧ p = .list ps := by
  unfold toPy at h
  cases hl : toPyAll l with
  | none => rw [hl] at h; cases h
  | some ps => rw [hl] at h; cases h; exact ⟨ps, rfl, rfl⟩
theorem toPyAll_cons {d : D} {ds : List D} {ps : List PyData} (h : toPyAll (d :: ds) = some ps) : ∃ p qs, toPy d = some p ∧ toPyAll ds = some qs ∧ ps = p :: qs := by
  unfold toPyAll at h
  cases h1 : toPy d with
  | none => rw [h1] at h; cases h
  | some p =>
    cases h2 : toPyAll ds with
    | none => rw [h1, h2] at h; cases h
    | some qs => rw [h1, h2] at h; cases h; exact ⟨p, qs, rfl, rfl, rfl⟩
theorem toPy_non {d : D}  {p : PyData} (h : toPy d = some p) (e : p = .none) : d = .non := by
  cases d with
  | non => subst e; first | (cases h; done) | (cases h; rfl)
  | bl b => subst e; first | (cases h; done) | (cases h; rfl)
  | int i => subst e; first | (cases h; done) | (cases h; rfl)
  | str x => subst e; first | (cases h; done) | (cases h; rfl)
  | dct0 => subst e; first | (cases h; done) | (cases h; rfl)
  | scr ns => subst e; first | (cases h; done) | (cases h; rfl)
  | own k => subst e; first | (cases h; done) | (cases h; rfl)
  | exc C d => subst e; first | (cases h; done) | (cases h; rfl)
  | glb x => subst e; first | (cases h; done) | (cases h; rfl)
  | val v => subst e; first | (cases h; done) | (cases h; rfl)
  | tup l => obtain ⟨ps, h1, h2⟩ := toPy_tupE h; subst e; first | (cases h2; done) | (cases h2; exact ⟨l, rfl, h1⟩)
  | lst l => obtain ⟨ps, h1, h2⟩ := toPy_lstE h; subst e; first | (cases h2; done) | (cases h2; exact ⟨l, rfl, h1⟩)
theorem toPy_bl {d : D} {b : Bool} {p : PyData} (h : toPy d = some p) (e : p = .bool b) : d = .bl b := by
  cases d with
  | non => subst e; first | (cases h; done) | (cases h; rfl)
  | bl b => subst e; first | (cases h; done) | (cases h; rfl)
  | int i => subst e; first | (cases h; done) | (cases h; rfl)
  | str x => subst e; first | (cases h; done) | (cases h; rfl)
  | dct0 => subst e; first | (cases h; done) | (cases h; rfl)
  | scr ns => subst e; first | (cases h; done) | (cases h; rfl)
  | own k => subst e; first | (cases h; done) | (cases h; rfl)
  | exc C d => subst e; first | (cases h; done) | (cases h; rfl)
  | glb x => subst e; first | (cases h; done) | (cases h; rfl)
  | val v => subst e; first | (cases h; done) | (cases h; rfl)
  | tup l => obtain ⟨ps, h1, h2⟩ := toPy_tupE h; subst e; first | (cases h2; done) | (cases h2; exact ⟨l, rfl, h1⟩)
  | lst l => obtain ⟨ps, h1, h2⟩ := toPy_lstE h; subst e; first | (cases h2; done) | (cases h2; exact ⟨l, rfl, h1⟩)
theorem toPy_int {d : D} {i : Int} {p : PyData} (h : toPy d = some p) (e : p = .int i) : d = .int i := by
  cases d with
  | non => subst e; first | (cases h; done) | (cases h; rfl)
  | bl b => subst e; first | (cases h; done) | (cases h; rfl)
  | int i => subst e; first | (cases h; done) | (cases h; rfl)
  | str x => subst e; first | (cases h; done) | (cases h; rfl)
  | dct0 => subst e; first | (cases h; done) | (cases h; rfl)
  | scr ns => subst e; first | (cases h; done) | (cases h; rfl)
  | own k => subst e; first | (cases h; done) | (cases h; rfl)
  | exc C d => subst e; first | (cases h; done) | (cases h; rfl)
  | glb x => subst e; first | (cases h; done) | (cases h; rfl)
  | val v => subst e; first | (cases h; done) | (cases h; rfl)
  | tup l => obtain ⟨ps, h1, h2⟩ := toPy_tupE h; subst e; first | (cases h2; done) | (cases h2; exact ⟨l, rfl, h1⟩)
  | lst l => obtain ⟨ps, h1, h2⟩ := toPy_lstE h; subst e; first | (cases h2; done) | (cases h2; exact ⟨l, rfl, h1⟩)
theorem toPy_str {d : D} {x : Str} {p : PyData} (h : toPy d = some p) (e : p = .str x) : d = .str x := by
  cases d with
  | non => subst e; first | (cases h; done) | (cases h; rfl)
  | bl b => subst e; first | (cases h; done) | (cases h; rfl)
  | int i => subst e; first | (cases h; done) | (cases h; rfl)
  | str x => subst e; first | (cases h; done) | (cases h; rfl)
  | dct0 => subst e; first | (cases h; done) | (cases h; rfl)
  | scr ns => subst e; first | (cases h; done) | (cases h; rfl)
  | own k => subst e; first | (cases h; done) | (cases h; rfl)
  | exc C d => subst e; first | (cases h; done) | (cases h; rfl)
  | glb x => subst e; first | (cases h; done) | (cases h; rfl)
  | val v => subst e; first | (cases h; done) | (cases h; rfl)
  | tup l => obtain ⟨ps, h1, h2⟩ := toPy_tupE h; subst e; first | (cases h2; done) | (cases h2; exact ⟨l, rfl, h1⟩)
  | lst l => obtain ⟨ps, h1, h2⟩ := toPy_lstE h; subst e; first | (cases h2; done) | (cases h2; exact ⟨l, rfl, h1⟩)
theorem toPy_list {d : D} {qs : List PyData} {p : PyData} (h : toPy d = some p) (e : p = .list qs) : ∃ l, d = .lst l ∧ toPyAll l = some qs := by
  cases d with
  | non => subst e; first | (cases h; done) | (cases h; rfl)
  | bl b => subst e; first | (cases h; done) | (cases h; rfl)
  | int i => subst e; first | (cases h; done) | (cases h; rfl)
  | str x => subst e; first | (cases h; done) | (cases h; rfl)
  | dct0 => subst e; first | (cases h; done) | (cases h; rfl)
  | scr ns => subst e; first | (cases h; done) | (cases h; rfl)
  | own k => subst e; first | (cases h; done) | (cases h; rfl)
  | exc C d => subst e; first | (cases h; done) | (cases h; rfl)
  | glb x => subst e; first | (cases h; done) | (cases h; rfl)
  | val v => subst e; first | (cases h; done) | (cases h; rfl)
  | tup l => obtain ⟨ps, h1, h2⟩ := toPy_tupE h; subst e; first | (cases h2; done) | (cases h2; exact ⟨l, rfl, h1⟩)
  | lst l => obtain ⟨ps, h1, h2⟩ := toPy_lstE h; subst e; first | (cases h2; done) | (cases h2; exact ⟨l, rfl, h1⟩)
theorem toPy_tuple {d : D} {qs : List PyData} {p : PyData} (h : toPy d = some p) (e : p = .tuple qs) : ∃ l, d = .tup l ∧ toPyAll l = some qs := by
  cases d with
  | non => subst e; first | (cases h; done) | (cases h; rfl)
  | bl b => subst e; first | (cases h; done) | (cases h; rfl)
  | int i => subst e; first | (cases h; done) | (cases h; rfl)
  | str x => subst e; first | (cases h; done) | (cases h; rfl)
  | dct0 => subst e; first | (cases h; done) | (cases h; rfl)
  | scr ns => subst e; first | (cases h; done) | (cases h; rfl)
  | own k => subst e; first | (cases h; done) | (cases h; rfl)
  | exc C d => subst e; first | (cases h; done) | (cases h; rfl)
  | glb x => subst e; first | (cases h; done) | (cases h; rfl)
  | val v => subst e; first | (cases h; done) | (cases h; rfl)
  | tup l => obtain ⟨ps, h1, h2⟩ := toPy_tupE h; subst e; first | (cases h2; done) | (cases h2; exact ⟨l, rfl, h1⟩)
  | lst l => obtain ⟨ps, h1, h2⟩ := toPy_lstE h; subst e; first | (cases h2; done) | (cases h2; exact ⟨l, rfl, h1⟩)
theorem toPy_dict {d : D} {qs : List (PyData × PyData)} {p : PyData} (h : toPy d = some p) (e : p = .dict qs) : d = .dct0 := by
  cases d with
  | non => subst e; first | (cases h; done) | (cases h; rfl)
  | bl b => subst e; first | (cases h; done) | (cases h; rfl)
  | int i => subst e; first | (cases h; done) | (cases h; rfl)
  | str x => subst e; first | (cases h; done) | (cases h; rfl)
  | dct0 => subst e; first | (cases h; done) | (cases h; rfl)
  | scr ns => subst e; first | (cases h; done) | (cases h; rfl)
  | own k => subst e; first | (cases h; done) | (cases h; rfl)
  | exc C d => subst e; first | (cases h; done) | (cases h; rfl)
  | glb x => subst e; first | (cases h; done) | (cases h; rfl)
  | val v => subst e; first | (cases h; done) | (cases h; rfl)
  | tup l => obtain ⟨ps, h1, h2⟩ := toPy_tupE h; subst e; first | (cases h2; done) | (cases h2; exact ⟨l, rfl, h1⟩)
  | lst l => obtain ⟨ps, h1, h2⟩ := toPy_lstE h; subst e; first | (cases h2; done) | (cases h2; exact ⟨l, rfl, h1⟩)
mutual
/-- data without truth values and dicts -/
def nb : PyData → Bool
  | .none => true
  | .int _ => true
  | .str _ => true
  | .list l => nbAll l
  | .tuple l => nbAll l
  | _ => false
def nbAll : List PyData → Bool
  | [] => true
  | d :: ds => nb d && nbAll ds
end
mutual
theorem eqv_iff : ∀ p q : PyData, nb p = true → nb q = true → (PyData.eqv p q = true ↔ p = q)
  | .none, .none, _, _ => by simp [PyData.eqv]
  | .none, .int _, _, _ => by simp [PyData.eqv]
  | .none, .str _, _, _ => by simp [PyData.eqv]
  | .none, .list _, _, _ => by simp [PyData.eqv]
  | .none, .tuple _, _, _ => by simp [PyData.eqv]
  | .int _, .none, _, _ => by simp [PyData.eqv]
  | .int _, .int _, _, _ => by simp [PyData.eqv]
  | .int _, .str _, _, _ => by simp [PyData.eqv]
  | .int _, .list _, _, _ => by simp [PyData.eqv]
  | .int _, .tuple _, _, _ => by simp [PyData.eqv]
  | .str _, .none, _, _ => by simp [PyData.eqv]
  | .str _, .int _, _, _ => by simp [PyData.eqv]
  | .str _, .str _, _, _ => by simp [PyData.eqv]
  | .str _, .list _, _, _ => by simp [PyData.eqv]
  | .str _, .tuple _, _, _ => by simp [PyData.eqv]
  | .list _, .none, _, _ => by simp [PyData.eqv]
  | .list _, .int _, _, _ => by simp [PyData.eqv]
  | .list _, .str _, _, _ => by simp [PyData.eqv]
  | .list xs, .list ys, h, g => by
    rw [PyData.eqv, eqv_iffAll xs ys (by simpa only [nb] using h) (by simpa only [nb] using g)]
    simp
  | .list _, .tuple _, _, _ => by simp [PyData.eqv]
  | .tuple _, .none, _, _ => by simp [PyData.eqv]
  | .tuple _, .int _, _, _ => by simp [PyData.eqv]
  | .tuple _, .str _, _, _ => by simp [PyData.eqv]
  | .tuple _, .list _, _, _ => by simp [PyData.eqv]
  | .tuple xs, .tuple ys, h, g => by
    rw [PyData.eqv, eqv_iffAll xs ys (by simpa only [nb] using h) (by simpa only [nb] using g)]
    simp
  | .bool _, _, h, _ => by simp [nb] at h
  | .dict _, _, h, _ => by simp [nb] at h
  | _, .bool _, _, h => by simp [nb] at h
  | _, .dict _, _, h => by simp [nb] at h
theorem eqv_iffAll : ∀ ps qs : List PyData, nbAll ps = true → nbAll qs = true → (PyData.eqvAll ps qs = true ↔ ps = qs)
  | [], [], _, _ => by simp [PyData.eqvAll]
  | [], _ :: _, _, _ => by simp [PyData.eqvAll]
  | _ :: _, [], _, _ => by simp [PyData.eqvAll]
  | p :: ps, q :: qs, h, g => by
    have h' : nb p = true ∧ nbAll ps = true := by simpa only [nbAll, Bool.and_eq_true] using h
    have g' : nb q = true ∧ nbAll qs = true := by simpa only [nbAll, Bool.and_eq_true] using g
    rw [PyData.eqvAll, Bool.and_eq_true, eqv_iff p q h'.1 g'.1, eqv_iffAll ps qs h'.2 g'.2]
    simp
end
mutual
/-- .. among our data -/
def nbD : D → Bool
  | .non => true
  | .int _ => true
  | .str _ => true
  | .tup l => nbDAll l
  | .lst l => nbDAll l
  | _ => false
def nbDAll : List D → Bool
  | [] => true
  | d :: ds => nbD d && nbDAll ds
end
mutual
theorem nb_py : ∀ (d : D) (p : PyData), nbD d = true → toPy d = some p → nb p = true
  | .non, _, _, h => by cases h; rfl
  | .int _, _, _, h => by cases h; rfl
  | .str _, _, _, h => by cases h; rfl
  | .tup l, p, g, h => by
    unfold toPy at h
    cases hl : toPyAll l with
    | none => rw [hl] at h; cases h
    | some ps =>
      rw [hl] at h
      cases h
      simp only [nb]
      exact nb_pyAll l ps (by simpa only [nbD] using g) hl
  | .lst l, p, g, h => by
    unfold toPy at h
    cases hl : toPyAll l with
    | none => rw [hl] at h; cases h
    | some ps =>
      rw [hl] at h
      cases h
      simp only [nb]
      exact nb_pyAll l ps (by simpa only [nbD] using g) hl
  | .bl _, _, g, _ => by simp [nbD] at g
  | .dct0, _, g, _ => by simp [nbD] at g
  | .scr _, _, g, _ => by simp [nbD] at g
  | .own _, _, g, _ => by simp [nbD] at g
  | .exc _ _, _, g, _ => by simp [nbD] at g
  | .glb _, _, g, _ => by simp [nbD] at g
  | .val _, _, g, _ => by simp [nbD] at g
theorem nb_pyAll : ∀ (ds : List D) (ps : List PyData), nbDAll ds = true → toPyAll ds = some ps → nbAll ps = true
  | [], _, _, h => by cases h; rfl
  | d :: ds, ps, g, h => by
    have g' : nbD d = true ∧ nbDAll ds = true := by simpa only [nbDAll, Bool.and_eq_true] using g
    unfold toPyAll at h
    cases h1 : toPy d with
    | none => rw [h1] at h; cases h
    | some p =>
      cases h2 : toPyAll ds with
      | none => rw [h1, h2] at h; cases h
      | some ps' =>
        rw [h1, h2] at h
        cases h
        simp only [nbAll, Bool.and_eq_true]
        exact ⟨nb_py d p g'.1 h1, nb_pyAll ds ps' g'.2 h2⟩
end
mutual
theorem toPy_inj : ∀ (d d' : D) (p : PyData), toPy d = some p → toPy d' = some p → d = d'
  | d, d', .none, h, h' => by
    rw [toPy_non h rfl, toPy_non h' rfl]
  | d, d', .bool b, h, h' => by rw [toPy_bl h rfl, toPy_bl h' rfl]
  | d, d', .int i, h, h' => by rw [toPy_int h rfl, toPy_int h' rfl]
  | d, d', .str x, h, h' => by rw [toPy_str h rfl, toPy_str h' rfl]
  | d, d', .list ps, h, h' => by
    obtain ⟨l, rfl, e⟩ := toPy_list h rfl
    obtain ⟨l', rfl, e'⟩ := toPy_list h' rfl
    rw [toPy_injAll l l' ps e e']
  | d, d', .tuple ps, h, h' => by
    obtain ⟨l, rfl, e⟩ := toPy_tuple h rfl
    obtain ⟨l', rfl, e'⟩ := toPy_tuple h' rfl
    rw [toPy_injAll l l' ps e e']
  | d, d', .dict ps, h, h' => by rw [toPy_dict h rfl, toPy_dict h' rfl]
theorem toPy_injAll : ∀ (l l' : List D) (ps : List PyData), toPyAll l = some ps → toPyAll l' = some ps → l = l'
  | [], [], _, _, _ => rfl
  | [], d :: ds, ps, h, h' => by
    cases h
    obtain ⟨p, ps, h1, h2, e⟩ := toPyAll_cons h'
    cases e
  | d :: ds, [], ps, h, h' => by
    cases h'
    obtain ⟨p, ps, h1, h2, e⟩ := toPyAll_cons h
    cases e
  | d :: ds, d' :: ds', ps, h, h' => by
    obtain ⟨p, qs, h1, h2, rfl⟩ := toPyAll_cons h
    obtain ⟨p', qs', h1', h2', e⟩ := toPyAll_cons h'
    cases e
    rw [toPy_inj d d' p h1 h1', toPy_injAll ds ds' qs h2 h2']
end
/-- equality of plain data -/
theorem eqB_iff {n : Nat} {d d' : D} (h : fine n d = true) (h' : fine n d' = true) (g : nbD d = true) (g' : nbD d' = true) (hn : n ≤ 64 := by decide) : ∃ b, eqB d d' = some b ∧ (b = true ↔ d = d') := by
  obtain ⟨p, h1, h2⟩ := cmpd_fine h hn
  obtain ⟨p', h1', h2'⟩ := cmpd_fine h' hn
  unfold eqB
  split
  · refine ⟨_, rfl, ?_⟩
    rw [beq_iff_eq]
    exact ⟨fun e => by rw [e], fun e => by cases e; rfl⟩
  · rw [h2, h2']
    refine ⟨_, rfl, ?_⟩
    rw [eqv_iff p p' (nb_py d p g h1) (nb_py d' p' g' h1')]
    refine ⟨fun e => ?_, fun e => ?_⟩
    · subst e
      exact toPy_inj d d' p h1 h1'
    · subst e
      rw [h1] at h1'
      exact Option.some.inj h1'
theorem gEq_iff {n : Nat} {d d' : D} {M : Mem} {Q : DQ} (h : fine n d = true) (h' : fine n d' = true) (g : nbD d = true) (g' : nbD d' = true) (q : ∀ b, (b = true ↔ d = d') → Q (.bl b) M) (hn : n ≤ 64 := by decide) : gEq d d' M Q := by
  obtain ⟨b, e, hb⟩ := eqB_iff h h' g g' hn
  unfold gEq
  rw [res_fine h, res_fine h', e]
  exact q b hb
def sp_back_by : DSp := fun ds M Q _ => ∃ a b c e p q : Int, ds = [T4 a b c e, .tup [.int p, .int q]] ∧ 1 ≤ q ∧ 1 ≤ c ∧ Int.gcd p q = 1 ∧ CutB 450 a b c e ∧ Bi 450 p ∧ Bi 450 q ∧
  ∀ a' w g e' p1 q1, IsDone a b c e p q a' w g e' → IsBack a b c e p q a' w g p1 q1 → Q (.tup [.int p1, .int q1]) M
theorem rd_back_by : ∀ ds M Q, ds.length = 2 → sp_back_by ds M Q DX0 → t_back_by sp_full_by sp_round_of (dEnds M Q) (startD 6 ds) M := by
  rintro _ M Q - ⟨a, b, c, e, p, q, rfl, q1, c1, hg, ⟨ba, bb, bc, be⟩, bp, bq, h⟩
  unfold t_back_by
  refine dSeq_open fun B hB => ?_
  walk_at "rd"
  refine ⟨a, b, c, e, p, q, rfl, q1, c1, hg, ⟨ba, bb, bc, be⟩, bp, bq, fun a' w g e' x z f s t m n hF bf bs => ?_⟩
  walk_at "rd"
  rw [← hB]
  clear hB B
  have g0 := hF.g0
  walk_at "rd"
  have hgd : g ∣ q * c := ⟨n, hF.jn⟩
  have hqc : 0 < q * c := Int.mul_pos (by omega) (by omega)
  have bg : Bi 1000 g := ((bq.mul bc).of_dvd' (by omega) hgd).mono
  have bn : Bi 1000 n := ((bq.mul bc).of_dvd' (by omega) ⟨g, by rw [hF.jn, Int.mul_comm]⟩).mono
  have hn : 0 < n := by
    rw [hF.jn] at hqc
    exact Int.pos_of_mul_pos_right hqc (by omega)
  obtain ⟨l1, l2⟩ := lot_le (b := w) (show 1 ≤ g by omega)
  have bl : Bi 1000 (g / (Int.gcd w g : Int)) := by unfold Bi at bg ⊢; omega
  refine ⟨a', w, g, e', rfl, by omega, bg, ?_⟩
  dsimp only
  rw [Int.neg_neg]
  have hN : 0 < n * (g / (Int.gcd w g : Int)) := Int.mul_pos hn (by omega)
  refine ⟨⟨bn.sm, bl.sm⟩, Int.ne_of_gt hN, rtq ?_⟩
  rw [fmod_pos hN]
  exact h _ _ _ _ _ _ hF.dn (back_of_full q1 c1 hF)
def sp_back : DSp := fun ds M Q _ => ∃ a b c e p q : Int, ds = [T4 a b c e, .tup [.int p, .int q]] ∧ isCut a b c e = true ∧ CutB 450 a b c e ∧ Bi 450 p ∧ Bi 450 q ∧ isDeed b c e p q = true ∧
  ∀ a' w g e' p1 q1, IsDone a b c e p q a' w g e' → IsBack a b c e p q a' w g p1 q1 → Q (.tup [.int p1, .int q1]) M
theorem rd_back : ∀ ds M Q, ds.length = 2 → sp_back ds M Q DX0 → t_back sp_check_deed sp_back_by (dEnds M Q) (startD 2 ds) M := by
  rintro _ M Q - ⟨a, b, c, e, p, q, rfl, hcut, cb, bp, bq, hd, h⟩
  unfold t_back
  walk_at "rd"
  have hp := (isDeed_parts hd).1
  refine ⟨a, b, c, e, p, q, rfl, hcut, cb, bq, hd, a, b, c, e, p, q, rfl, hp.q1, (cut_parts hcut).2.1, hp.cp, cb, bp, bq, fun a' w g e' p1 q1 h1 h2 => ?_⟩
  exact rtq (h _ _ _ _ _ _ h1 h2)
end DL
/-! MG: how many numbers below n are free of n; plain -/
namespace DL
open Classical in
noncomputable def cnt (n : Nat) (P : Nat → Prop) : Nat := (List.range n).countP fun i => decide (P i)
open Classical in
theorem cnt_congr {n : Nat} {P Q : Nat → Prop} (h : ∀ i, i < n → (P i ↔ Q i)) : cnt n P = cnt n Q := by
  unfold cnt
  refine List.countP_congr fun i hi => ?_
  rw [decide_eq_true_iff, decide_eq_true_iff]
  exact h i (List.mem_range.mp hi)
/-- no divisor of n below k divides i -/
def Free (n k i : Nat) : Prop := ∀ d, 2 ≤ d → d < k → d ∣ n → ¬ d ∣ i
noncomputable def phi (n : Nat) : Nat := cnt n fun i => Nat.gcd i n = 1
theorem free_gcd {n k i : Nat} (hn : 1 ≤ n) (hk : n < k) : Free n k i ↔ Nat.gcd i n = 1 := by
  constructor
  · intro h
    have g0 : 0 < Nat.gcd i n := Nat.gcd_pos_of_pos_right _ (by omega)
    have g1 : Nat.gcd i n ≤ n := Nat.le_of_dvd (by omega) (Nat.gcd_dvd_right _ _)
    by_cases z : Nat.gcd i n = 1
    · exact z
    · exact (h (Nat.gcd i n) (by omega) (by omega) (Nat.gcd_dvd_right _ _) (Nat.gcd_dvd_left _ _)).elim
  · intro h d d2 _ dn di
    have := Nat.dvd_gcd di dn
    rw [h] at this
    have := Nat.le_of_dvd (by decide) this
    omega
/-- the state of the reckoning -/
structure Fst (n k left c : Nat) : Prop where
  l1 : 1 ≤ left
  ln : left ∣ n
  low : ∀ d, 2 ≤ d → d < k → ¬ d ∣ left
  up : ∀ d, d ∣ n → (∀ e, 2 ≤ e → e < k → ¬ e ∣ d) → d ∣ left
  ct : c = cnt n (Free n k)
open Classical in
theorem Fst.start {n : Nat} (hn : 1 ≤ n) : Fst n 2 n n := by
  refine ⟨hn, Nat.dvd_refl _, fun d d2 d3 => by omega, fun d h _ => h, ?_⟩
  unfold cnt
  rw [List.countP_eq_length.mpr, List.length_range]
  intro i _
  rw [decide_eq_true_iff]
  intro d d2 d3
  omega
theorem Fst.done {n k left c : Nat} (hn : 1 ≤ n) (hk : n < k) (h : Fst n k left c) : c = phi n := by
  rw [h.ct]
  exact cnt_congr fun i _ => free_gcd hn hk
end DL
namespace DL
open PySem PySem.Spec PyProof.Rows L2
local macro_rules | `(tactic| walk_at "rd") => `(tactic| simp only [startD, List.map, List.replicate, List.length_cons, List.length_nil, List.append_eq, List.append_nil, List.nil_append, List.cons_append, Nat.reduceSub, Nat.reduceAdd, List.getElem?_cons_zero, List.getElem?_cons_succ, List.set_cons_zero, List.set_cons_succ,
  dC, dVar, dOp, dTru, gTru, tru, dChain, dAnd, dOr, dNot, dAndV, dOrV, dNotV, dIf, dNeg, gNeg, dNil, dCons, dTup, dLst, dOwn, gIx, rBin, gAdd, gCmpI, dCall, dCallK, dSeq, dNext, dDrop, dRet, dRetN, dIfS, dName, dGNil, dGCons, dGTup, dSub, gSetL, dAsg, dPar, dPar3, dAug, gIpI, dSeqI, gSeqI, dRngI, gRng1, gRng2, dCB, gAbs, gInt, gMax, gMin, gGcd, gLen, lenD, gIsi, tyM, tyD, dBits, gBits, dMet, gAppend, dPart, dNoPart, dSl, gSl_tup, gSl_lst, cut_1, dEnds, gIs, isB, dNever, dFor, dLc, wipeD, dYes,
  sizeLine_eq, Nat.reduceLeDiff, gEq_int, gNe_int, gEq_strs, gNe_strs, gIn_two, gRepr_bl, rs_lst, rs_tup, rs_scr, rs_int, atI_0, atI_1, atI_2, atI_3, atI_4, atI_5, ixN_30, ixN_31, ixN_32, gEq_bl, gNe_bl, decide_eq_true_eq, beq_iff_eq, Bool.not_eq_true', beq_eq_false_iff_ne, decide_eq_false_iff_not, Bool.not_true, Bool.not_false, if_true, if_false, Bool.false_eq_true, ite_true, ite_false, true_and, and_true, ne_eq, Bool.bne_false, Bool.bne_true, reduceCtorEq])
local macro_rules | `(tactic| walk_at "rh") => `(tactic| simp only [*, startD, List.map, List.replicate, List.length_cons, List.length_nil, List.append_eq, List.append_nil, List.nil_append, List.cons_append, Nat.reduceSub, Nat.reduceAdd, List.getElem?_cons_zero, List.getElem?_cons_succ, List.set_cons_zero, List.set_cons_succ,
  dC, dVar, dOp, dTru, gTru, tru, dChain, dAnd, dOr, dNot, dAndV, dOrV, dNotV, dIf, dNeg, gNeg, dNil, dCons, dTup, dLst, dOwn, gIx, rBin, gAdd, gCmpI, dCall, dCallK, dSeq, dNext, dDrop, dRet, dRetN, dIfS, dName, dGNil, dGCons, dGTup, dSub, gSetL, dAsg, dPar, dPar3, dAug, gIpI, dSeqI, gSeqI, dRngI, gRng1, gRng2, dCB, gAbs, gInt, gMax, gMin, gGcd, gLen, lenD, gIsi, tyM, tyD, dBits, gBits, dMet, gAppend, dPart, dNoPart, dSl, gSl_tup, gSl_lst, cut_1, dEnds, gIs, isB, dNever, dFor, dLc, wipeD, dYes,
  sizeLine_eq, Nat.reduceLeDiff, gEq_int, gNe_int, gEq_strs, gNe_strs, gIn_two, gRepr_bl, rs_lst, rs_tup, rs_scr, rs_int, atI_0, atI_1, atI_2, atI_3, atI_4, atI_5, ixN_30, ixN_31, ixN_32, gEq_bl, gNe_bl, decide_eq_true_eq, beq_iff_eq, Bool.not_eq_true', beq_eq_false_iff_ne, decide_eq_false_iff_not, Bool.not_true, Bool.not_false, if_true, if_false, Bool.false_eq_true, ite_true, ite_false, true_and, and_true, ne_eq, Bool.bne_false, Bool.bne_true, reduceCtorEq])
local macro_rules | `(tactic| walk_at "kb") => `(tactic| simp only [kb_NoneType_list, kb_bool_list, kb_int_list, kb_str_list, kb_tuple_list, kb_list_list, kb_dict_list, kb_NoneType_int, kb_bool_int, kb_int_int, kb_str_int, kb_tuple_int, kb_list_int, kb_dict_int, kb_NoneType_bool, kb_bool_bool, kb_int_bool, kb_str_bool, kb_tuple_bool, kb_list_bool, kb_dict_bool, kb_NoneType_tuple, kb_bool_tuple, kb_int_tuple, kb_str_tuple, kb_tuple_tuple, kb_list_tuple, kb_dict_tuple, if_true, if_false, Bool.false_eq_true, ite_true, ite_false, Bool.not_true, Bool.not_false])
end DL
/-! MH: mirrored cuttings, mirrored deeds; plain -/
namespace DL
end DL
namespace DL
open PySem PySem.Spec PyProof.Rows L2
local macro_rules | `(tactic| walk_at "rd") => `(tactic| simp only [startD, List.map, List.replicate, List.length_cons, List.length_nil, List.append_eq, List.append_nil, List.nil_append, List.cons_append, Nat.reduceSub, Nat.reduceAdd, List.getElem?_cons_zero, List.getElem?_cons_succ, List.set_cons_zero, List.set_cons_succ,
  dC, dVar, dOp, dTru, gTru, tru, dChain, dAnd, dOr, dNot, dAndV, dOrV, dNotV, dIf, dNeg, gNeg, dNil, dCons, dTup, dLst, dOwn, gIx, rBin, gAdd, gCmpI, dCall, dCallK, dSeq, dNext, dDrop, dRet, dRetN, dIfS, dName, dGNil, dGCons, dGTup, dSub, gSetL, dAsg, dPar, dPar3, dAug, gIpI, dSeqI, gSeqI, dRngI, gRng1, gRng2, dCB, gAbs, gInt, gMax, gMin, gGcd, gLen, lenD, gIsi, tyM, tyD, dBits, gBits, dMet, gAppend, dPart, dNoPart, dSl, gSl_tup, gSl_lst, cut_1, dEnds, gIs, isB, dNever, dFor, dLc, wipeD, dYes,
  sizeLine_eq, Nat.reduceLeDiff, gEq_int, gNe_int, gEq_strs, gNe_strs, gIn_two, gRepr_bl, rs_lst, rs_tup, rs_scr, rs_int, atI_0, atI_1, atI_2, atI_3, atI_4, atI_5, ixN_30, ixN_31, ixN_32, gEq_bl, gNe_bl, decide_eq_true_eq, beq_iff_eq, Bool.not_eq_true', beq_eq_false_iff_ne, decide_eq_false_iff_not, Bool.not_true, Bool.not_false, if_true, if_false, Bool.false_eq_true, ite_true, ite_false, true_and, and_true, ne_eq, Bool.bne_false, Bool.bne_true, reduceCtorEq])
local macro_rules | `(tactic| walk_at "rh") => `(tactic| simp only [*, startD, List.map, List.replicate, List.length_cons, List.length_nil, List.append_eq, List.append_nil, List.nil_append, List.cons_append, Nat.reduceSub, Nat.reduceAdd, List.getElem?_cons_zero, List.getElem?_cons_succ, List.set_cons_zero, List.set_cons_succ,
  dC, dVar, dOp, dTru, gTru, tru, dChain, dAnd, dOr, dNot, dAndV, dOrV, dNotV, dIf, dNeg, gNeg, dNil, dCons, dTup, dLst, dOwn, gIx, rBin, gAdd, gCmpI, dCall, dCallK, dSeq, dNext, dDrop, dRet, dRetN, dIfS, dName, dGNil, dGCons, dGTup, dSub, gSetL, dAsg, dPar, dPar3, dAug, gIpI, dSeqI, gSeqI, dRngI, gRng1, gRng2, dCB, gAbs, gInt, gMax, gMin, gGcd, gLen, lenD, gIsi, tyM, tyD, dBits, gBits, dMet, gAppend, dPart, dNoPart, dSl, gSl_tup, gSl_lst, cut_1, dEnds, gIs, isB, dNever, dFor, dLc, wipeD, dYes,
  sizeLine_eq, Nat.reduceLeDiff, gEq_int, gNe_int, gEq_strs, gNe_strs, gIn_two, gRepr_bl, rs_lst, rs_tup, rs_scr, rs_int, atI_0, atI_1, atI_2, atI_3, atI_4, atI_5, ixN_30, ixN_31, ixN_32, gEq_bl, gNe_bl, decide_eq_true_eq, beq_iff_eq, Bool.not_eq_true', beq_eq_false_iff_ne, decide_eq_false_iff_not, Bool.not_true, Bool.not_false, if_true, if_false, Bool.false_eq_true, ite_true, ite_false, true_and, and_true, ne_eq, Bool.bne_false, Bool.bne_true, reduceCtorEq])
local macro_rules | `(tactic| walk_at "kb") => `(tactic| simp only [kb_NoneType_list, kb_bool_list, kb_int_list, kb_str_list, kb_tuple_list, kb_list_list, kb_dict_list, kb_NoneType_int, kb_bool_int, kb_int_int, kb_str_int, kb_tuple_int, kb_list_int, kb_dict_int, kb_NoneType_bool, kb_bool_bool, kb_int_bool, kb_str_bool, kb_tuple_bool, kb_list_bool, kb_dict_bool, kb_NoneType_tuple, kb_bool_tuple, kb_int_tuple, kb_str_tuple, kb_tuple_tuple, kb_list_tuple, kb_dict_tuple, if_true, if_false, Bool.false_eq_true, ite_true, ite_false, Bool.not_true, Bool.not_false])
/-! calls whose answers are known -/
end DL
namespace DL
open PySem PySem.Spec PyProof.Rows L2
local macro_rules | `(tactic| walk_at "rd") => `(tactic| simp only [startD, List.map, List.replicate, List.length_cons, List.length_nil, List.append_eq, List.append_nil, List.nil_append, List.cons_append, Nat.reduceSub, Nat.reduceAdd, List.getElem?_cons_zero, List.getElem?_cons_succ, List.set_cons_zero, List.set_cons_succ,
  dC, dVar, dOp, dTru, gTru, tru, dChain, dAnd, dOr, dNot, dAndV, dOrV, dNotV, dIf, dNeg, gNeg, dNil, dCons, dTup, dLst, dOwn, gIx, rBin, gAdd, gCmpI, dCall, dCallK, dSeq, dNext, dDrop, dRet, dRetN, dIfS, dName, dGNil, dGCons, dGTup, dSub, gSetL, dAsg, dPar, dPar3, dAug, gIpI, dSeqI, gSeqI, dRngI, gRng1, gRng2, dCB, gAbs, gInt, gMax, gMin, gGcd, gLen, lenD, gIsi, tyM, tyD, dBits, gBits, dMet, gAppend, dPart, dNoPart, dSl, gSl_tup, gSl_lst, cut_1, dEnds, gIs, isB, dNever, dFor, dLc, wipeD, dYes,
  sizeLine_eq, Nat.reduceLeDiff, gEq_int, gNe_int, gEq_strs, gNe_strs, gIn_two, gRepr_bl, rs_lst, rs_tup, rs_scr, rs_int, atI_0, atI_1, atI_2, atI_3, atI_4, atI_5, ixN_30, ixN_31, ixN_32, gEq_bl, gNe_bl, decide_eq_true_eq, beq_iff_eq, Bool.not_eq_true', beq_eq_false_iff_ne, decide_eq_false_iff_not, Bool.not_true, Bool.not_false, if_true, if_false, Bool.false_eq_true, ite_true, ite_false, true_and, and_true, ne_eq, Bool.bne_false, Bool.bne_true, reduceCtorEq])
local macro_rules | `(tactic| walk_at "rh") => `(tactic| simp only [*, startD, List.map, List.replicate, List.length_cons, List.length_nil, List.append_eq, List.append_nil, List.nil_append, List.cons_append, Nat.reduceSub, Nat.reduceAdd, List.getElem?_cons_zero, List.getElem?_cons_succ, List.set_cons_zero, List.set_cons_succ,
  dC, dVar, dOp, dTru, gTru, tru, dChain, dAnd, dOr, dNot, dAndV, dOrV, dNotV, dIf, dNeg, gNeg, dNil, dCons, dTup, dLst, dOwn, gIx, rBin, gAdd, gCmpI, dCall, dCallK, dSeq, dNext, dDrop, dRet, dRetN, dIfS, dName, dGNil, dGCons, dGTup, dSub, gSetL, dAsg, dPar, dPar3, dAug, gIpI, dSeqI, gSeqI, dRngI, gRng1, gRng2, dCB, gAbs, gInt, gMax, gMin, gGcd, gLen, lenD, gIsi, tyM, tyD, dBits, gBits, dMet, gAppend, dPart, dNoPart, dSl, gSl_tup, gSl_lst, cut_1, dEnds, gIs, isB, dNever, dFor, dLc, wipeD, dYes,
  sizeLine_eq, Nat.reduceLeDiff, gEq_int, gNe_int, gEq_strs, gNe_strs, gIn_two, gRepr_bl, rs_lst, rs_tup, rs_scr, rs_int, atI_0, atI_1, atI_2, atI_3, atI_4, atI_5, ixN_30, ixN_31, ixN_32, gEq_bl, gNe_bl, decide_eq_true_eq, beq_iff_eq, Bool.not_eq_true', beq_eq_false_iff_ne, decide_eq_false_iff_not, Bool.not_true, Bool.not_false, if_true, if_false, Bool.false_eq_true, ite_true, ite_false, true_and, and_true, ne_eq, Bool.bne_false, Bool.bne_true, reduceCtorEq])
local macro_rules | `(tactic| walk_at "kb") => `(tactic| simp only [kb_NoneType_list, kb_bool_list, kb_int_list, kb_str_list, kb_tuple_list, kb_list_list, kb_dict_list, kb_NoneType_int, kb_bool_int, kb_int_int, kb_str_int, kb_tuple_int, kb_list_int, kb_dict_int, kb_NoneType_bool, kb_bool_bool, kb_int_bool, kb_str_bool, kb_tuple_bool, kb_list_bool, kb_dict_bool, kb_NoneType_tuple, kb_bool_tuple, kb_int_tuple, kb_str_tuple, kb_tuple_tuple, kb_list_tuple, kb_dict_tuple, if_true, if_false, Bool.false_eq_true, ite_true, ite_false, Bool.not_true, Bool.not_false])
/-! ### the sides of cuttings -/
/-! ### what the first numbers may be -/
/-! ### all turns -/
structure TurnsOK (m : Int) (l : List Int) : Prop where
  nd : l.Nodup
  bd : ∀ e ∈ l, -128 ≤ e ∧ e ≤ 128
  all : ∀ e : Int, e * e < m → (m - e) % 2 = 0 → e ∈ l
  len : l.length ≤ 260
theorem CovX.start {m : Int} {T : List Int} : CovX m [] fun _ e' => e' ∈ T.take 0 := CovX.nil fun a b c e _ _ h => by rw [List.take_zero] at h; cases h
theorem CovX.all {m : Int} {l : List (List Int)} {T : List Int} (h : CovX m l fun _ e' => e' ∈ T) (hT : TurnsOK m T) : CovX m l fun _ _ => True :=
  h.iff fun a b c e h1 h2 => ⟨fun _ => by
    obtain ⟨k1, k2, _⟩ := cut_parts h1
    have h3 := meas_bc.mp h2
    have h4 : 1 * 1 ≤ b * c := Int.mul_le_mul k1 k2 (by decide) (by omega)
    have h5 : (e - m) % 2 = 0 := by rw [← h2]; exact meas_par (a := a)
    exact hT.all e (by omega) (by omega), fun _ => trivial⟩
theorem CovX.len {m : Int} {l l' : List (List Int)} (h : CovX m l fun _ _ => True) (g : AllC m l') : l'.length = l.length := by
  refine ((List.perm_ext_iff_of_nodup g.nd h.1).mpr fun x => ?_).length_eq
  rw [g.mem, h.2]
  constructor
  · rintro ⟨a, b, c, e, rfl, h1, h2⟩; exact ⟨a, b, c, e, rfl, h1, h2, trivial⟩
  · rintro ⟨a, b, c, e, rfl, h1, h2, _⟩; exact ⟨a, b, c, e, rfl, h1, h2⟩
/-! ### how many cuttings there are -/
theorem CovX.same {m : Int} {l l' : List (List Int)} {P : Int → Int → Prop} (h : CovX m l P) (g : CovX m l' P) : l.length = l'.length :=
  ((List.perm_ext_iff_of_nodup h.1 g.1).mpr fun x => (h.2 x).trans (g.2 x).symm).length_eq
end DL
/-! MI: how many cuttings have a told last number; plain -/
namespace DL
end DL
namespace DL
open PySem PySem.Spec PyProof.Rows L2
local macro_rules | `(tactic| walk_at "rd") => `(tactic| simp only [startD, List.map, List.replicate, List.length_cons, List.length_nil, List.append_eq, List.append_nil, List.nil_append, List.cons_append, Nat.reduceSub, Nat.reduceAdd, List.getElem?_cons_zero, List.getElem?_cons_succ, List.set_cons_zero, List.set_cons_succ,
  dC, dVar, dOp, dTru, gTru, tru, dChain, dAnd, dOr, dNot, dAndV, dOrV, dNotV, dIf, dNeg, gNeg, dNil, dCons, dTup, dLst, dOwn, gIx, rBin, gAdd, gCmpI, dCall, dCallK, dSeq, dNext, dDrop, dRet, dRetN, dIfS, dName, dGNil, dGCons, dGTup, dSub, gSetL, dAsg, dPar, dPar3, dAug, gIpI, dSeqI, gSeqI, dRngI, gRng1, gRng2, dCB, gAbs, gInt, gMax, gMin, gGcd, gLen, lenD, gIsi, tyM, tyD, dBits, gBits, dMet, gAppend, dPart, dNoPart, dSl, gSl_tup, gSl_lst, cut_1, dEnds, gIs, isB, dNever, dFor, dLc, wipeD, dYes,
  sizeLine_eq, Nat.reduceLeDiff, gEq_int, gNe_int, gEq_strs, gNe_strs, gIn_two, gRepr_bl, rs_lst, rs_tup, rs_scr, rs_int, atI_0, atI_1, atI_2, atI_3, atI_4, atI_5, ixN_30, ixN_31, ixN_32, gEq_bl, gNe_bl, decide_eq_true_eq, beq_iff_eq, Bool.not_eq_true', beq_eq_false_iff_ne, decide_eq_false_iff_not, Bool.not_true, Bool.not_false, if_true, if_false, Bool.false_eq_true, ite_true, ite_false, true_and, and_true, ne_eq, Bool.bne_false, Bool.bne_true, reduceCtorEq])
local macro_rules | `(tactic| walk_at "rh") => `(tactic| simp only [*, startD, List.map, List.replicate, List.length_cons, List.length_nil, List.append_eq, List.append_nil, List.nil_append, List.cons_append, Nat.reduceSub, Nat.reduceAdd, List.getElem?_cons_zero, List.getElem?_cons_succ, List.set_cons_zero, List.set_cons_succ,
  dC, dVar, dOp, dTru, gTru, tru, dChain, dAnd, dOr, dNot, dAndV, dOrV, dNotV, dIf, dNeg, gNeg, dNil, dCons, dTup, dLst, dOwn, gIx, rBin, gAdd, gCmpI, dCall, dCallK, dSeq, dNext, dDrop, dRet, dRetN, dIfS, dName, dGNil, dGCons, dGTup, dSub, gSetL, dAsg, dPar, dPar3, dAug, gIpI, dSeqI, gSeqI, dRngI, gRng1, gRng2, dCB, gAbs, gInt, gMax, gMin, gGcd, gLen, lenD, gIsi, tyM, tyD, dBits, gBits, dMet, gAppend, dPart, dNoPart, dSl, gSl_tup, gSl_lst, cut_1, dEnds, gIs, isB, dNever, dFor, dLc, wipeD, dYes,
  sizeLine_eq, Nat.reduceLeDiff, gEq_int, gNe_int, gEq_strs, gNe_strs, gIn_two, gRepr_bl, rs_lst, rs_tup, rs_scr, rs_int, atI_0, atI_1, atI_2, atI_3, atI_4, atI_5, ixN_30, ixN_31, ixN_32, gEq_bl, gNe_bl, decide_eq_true_eq, beq_iff_eq, Bool.not_eq_true', beq_eq_false_iff_ne, decide_eq_false_iff_not, Bool.not_true, Bool.not_false, if_true, if_false, Bool.false_eq_true, ite_true, ite_false, true_and, and_true, ne_eq, Bool.bne_false, Bool.bne_true, reduceCtorEq])
local macro_rules | `(tactic| walk_at "kb") => `(tactic| simp only [kb_NoneType_list, kb_bool_list, kb_int_list, kb_str_list, kb_tuple_list, kb_list_list, kb_dict_list, kb_NoneType_int, kb_bool_int, kb_int_int, kb_str_int, kb_tuple_int, kb_list_int, kb_dict_int, kb_NoneType_bool, kb_bool_bool, kb_int_bool, kb_str_bool, kb_tuple_bool, kb_list_bool, kb_dict_bool, kb_NoneType_tuple, kb_bool_tuple, kb_int_tuple, kb_str_tuple, kb_tuple_tuple, kb_list_tuple, kb_dict_tuple, if_true, if_false, Bool.false_eq_true, ite_true, ite_false, Bool.not_true, Bool.not_false])
end DL
namespace DL
open PySem PySem.Spec PyProof.Rows L2
local macro_rules | `(tactic| walk_at "rd") => `(tactic| simp only [startD, List.map, List.replicate, List.length_cons, List.length_nil, List.append_eq, List.append_nil, List.nil_append, List.cons_append, Nat.reduceSub, Nat.reduceAdd, List.getElem?_cons_zero, List.getElem?_cons_succ, List.set_cons_zero, List.set_cons_succ,
  dC, dVar, dOp, dTru, gTru, tru, dChain, dAnd, dOr, dNot, dAndV, dOrV, dNotV, dIf, dNeg, gNeg, dNil, dCons, dTup, dLst, dOwn, gIx, rBin, gAdd, gCmpI, dCall, dCallK, dSeq, dNext, dDrop, dRet, dRetN, dIfS, dName, dGNil, dGCons, dGTup, dSub, gSetL, dAsg, dPar, dPar3, dAug, gIpI, dSeqI, gSeqI, dRngI, gRng1, gRng2, dCB, gAbs, gInt, gMax, gMin, gGcd, gLen, lenD, gIsi, tyM, tyD, dBits, gBits, dMet, gAppend, dPart, dNoPart, dSl, gSl_tup, gSl_lst, cut_1, dEnds, gIs, isB, dNever, dCallX, dRaise, dTry, dFld, dCallV, gLRng, gFrz, dFrz, dFor, dLc, wipeD, dYes,
  sizeLine_eq, Nat.reduceLeDiff, gEq_int, gNe_int, gEq_strs, gNe_strs, gIn_two, gRepr_bl, rs_lst, rs_tup, rs_scr, rs_int, atI_0, atI_1, atI_2, atI_3, atI_4, atI_5, ixN_30, ixN_31, ixN_32, gEq_bl, gNe_bl, decide_eq_true_eq, beq_iff_eq, Bool.not_eq_true', beq_eq_false_iff_ne, decide_eq_false_iff_not, Bool.not_true, Bool.not_false, if_true, if_false, Bool.false_eq_true, ite_true, ite_false, true_and, and_true, ne_eq, Bool.bne_false, Bool.bne_true, reduceCtorEq])
local macro_rules | `(tactic| walk_at "rh") => `(tactic| simp only [*, startD, List.map, List.replicate, List.length_cons, List.length_nil, List.append_eq, List.append_nil, List.nil_append, List.cons_append, Nat.reduceSub, Nat.reduceAdd, List.getElem?_cons_zero, List.getElem?_cons_succ, List.set_cons_zero, List.set_cons_succ,
  dC, dVar, dOp, dTru, gTru, tru, dChain, dAnd, dOr, dNot, dAndV, dOrV, dNotV, dIf, dNeg, gNeg, dNil, dCons, dTup, dLst, dOwn, gIx, rBin, gAdd, gCmpI, dCall, dCallK, dSeq, dNext, dDrop, dRet, dRetN, dIfS, dName, dGNil, dGCons, dGTup, dSub, gSetL, dAsg, dPar, dPar3, dAug, gIpI, dSeqI, gSeqI, dRngI, gRng1, gRng2, dCB, gAbs, gInt, gMax, gMin, gGcd, gLen, lenD, gIsi, tyM, tyD, dBits, gBits, dMet, gAppend, dPart, dNoPart, dSl, gSl_tup, gSl_lst, cut_1, dEnds, gIs, isB, dNever, dCallX, dRaise, dTry, dFld, dCallV, gLRng, gFrz, dFrz, dFor, dLc, wipeD, dYes,
  sizeLine_eq, Nat.reduceLeDiff, gEq_int, gNe_int, gEq_strs, gNe_strs, gIn_two, gRepr_bl, rs_lst, rs_tup, rs_scr, rs_int, atI_0, atI_1, atI_2, atI_3, atI_4, atI_5, ixN_30, ixN_31, ixN_32, gEq_bl, gNe_bl, decide_eq_true_eq, beq_iff_eq, Bool.not_eq_true', beq_eq_false_iff_ne, decide_eq_false_iff_not, Bool.not_true, Bool.not_false, if_true, if_false, Bool.false_eq_true, ite_true, ite_false, true_and, and_true, ne_eq, Bool.bne_false, Bool.bne_true, reduceCtorEq])
local macro_rules | `(tactic| walk_at "kb") => `(tactic| simp only [kb_NoneType_list, kb_bool_list, kb_int_list, kb_str_list, kb_tuple_list, kb_list_list, kb_dict_list, kb_NoneType_int, kb_bool_int, kb_int_int, kb_str_int, kb_tuple_int, kb_list_int, kb_dict_int, kb_NoneType_bool, kb_bool_bool, kb_int_bool, kb_str_bool, kb_tuple_bool, kb_list_bool, kb_dict_bool, kb_NoneType_tuple, kb_bool_tuple, kb_int_tuple, kb_str_tuple, kb_tuple_tuple, kb_list_tuple, kb_dict_tuple, if_true, if_false, Bool.false_eq_true, ite_true, ite_false, Bool.not_true, Bool.not_false])
/-! RdZ: the checks with their errors -/
/-! ### the heart's numbers -/
/-! ### the heart's functions -/
end DL
namespace DL
open PySem PySem.Spec PyProof.Rows L2
local macro_rules | `(tactic| walk_at "rd") => `(tactic| simp only [startD, List.map, List.replicate, List.length_cons, List.length_nil, List.append_eq, List.append_nil, List.nil_append, List.cons_append, Nat.reduceSub, Nat.reduceAdd, List.getElem?_cons_zero, List.getElem?_cons_succ, List.set_cons_zero, List.set_cons_succ,
  dC, dVar, dOp, dTru, gTru, tru, dChain, dAnd, dOr, dNot, dAndV, dOrV, dNotV, dIf, dNeg, gNeg, dNil, dCons, dTup, dLst, dOwn, gIx, rBin, gAdd, gCmpI, dCall, dCallK, dSeq, dNext, dDrop, dRet, dRetN, dIfS, dName, dGNil, dGCons, dGTup, dSub, gSetL, dAsg, dPar, dPar3, dAug, gIpI, dSeqI, gSeqI, dRngI, gRng1, gRng2, dCB, gAbs, gInt, gMax, gMin, gGcd, gLen, lenD, gIsi, tyM, tyD, dBits, gBits, dMet, gAppend, dPart, dNoPart, dSl, gSl_tup, gSl_lst, cut_1, dEnds, gIs, isB, dNever, dCallX, dRaise, dTry, dFld, dCallV, gLRng, gFrz, dFrz, dFor, dLc, wipeD, dYes,
  sizeLine_eq, Nat.reduceLeDiff, gEq_int, gNe_int, gEq_strs, gNe_strs, gIn_two, gRepr_bl, rs_lst, rs_tup, rs_scr, rs_int, atI_0, atI_1, atI_2, atI_3, atI_4, atI_5, ixN_30, ixN_31, ixN_32, gEq_bl, gNe_bl, decide_eq_true_eq, beq_iff_eq, Bool.not_eq_true', beq_eq_false_iff_ne, decide_eq_false_iff_not, Bool.not_true, Bool.not_false, if_true, if_false, Bool.false_eq_true, ite_true, ite_false, true_and, and_true, ne_eq, Bool.bne_false, Bool.bne_true, reduceCtorEq])
local macro_rules | `(tactic| walk_at "rh") => `(tactic| simp only [*, startD, List.map, List.replicate, List.length_cons, List.length_nil, List.append_eq, List.append_nil, List.nil_append, List.cons_append, Nat.reduceSub, Nat.reduceAdd, List.getElem?_cons_zero, List.getElem?_cons_succ, List.set_cons_zero, List.set_cons_succ,
  dC, dVar, dOp, dTru, gTru, tru, dChain, dAnd, dOr, dNot, dAndV, dOrV, dNotV, dIf, dNeg, gNeg, dNil, dCons, dTup, dLst, dOwn, gIx, rBin, gAdd, gCmpI, dCall, dCallK, dSeq, dNext, dDrop, dRet, dRetN, dIfS, dName, dGNil, dGCons, dGTup, dSub, gSetL, dAsg, dPar, dPar3, dAug, gIpI, dSeqI, gSeqI, dRngI, gRng1, gRng2, dCB, gAbs, gInt, gMax, gMin, gGcd, gLen, lenD, gIsi, tyM, tyD, dBits, gBits, dMet, gAppend, dPart, dNoPart, dSl, gSl_tup, gSl_lst, cut_1, dEnds, gIs, isB, dNever, dCallX, dRaise, dTry, dFld, dCallV, gLRng, gFrz, dFrz, dFor, dLc, wipeD, dYes,
  sizeLine_eq, Nat.reduceLeDiff, gEq_int, gNe_int, gEq_strs, gNe_strs, gIn_two, gRepr_bl, rs_lst, rs_tup, rs_scr, rs_int, atI_0, atI_1, atI_2, atI_3, atI_4, atI_5, ixN_30, ixN_31, ixN_32, gEq_bl, gNe_bl, decide_eq_true_eq, beq_iff_eq, Bool.not_eq_true', beq_eq_false_iff_ne, decide_eq_false_iff_not, Bool.not_true, Bool.not_false, if_true, if_false, Bool.false_eq_true, ite_true, ite_false, true_and, and_true, ne_eq, Bool.bne_false, Bool.bne_true, reduceCtorEq])
local macro_rules | `(tactic| walk_at "kb") => `(tactic| simp only [kb_NoneType_list, kb_bool_list, kb_int_list, kb_str_list, kb_tuple_list, kb_list_list, kb_dict_list, kb_NoneType_int, kb_bool_int, kb_int_int, kb_str_int, kb_tuple_int, kb_list_int, kb_dict_int, kb_NoneType_bool, kb_bool_bool, kb_int_bool, kb_str_bool, kb_tuple_bool, kb_list_bool, kb_dict_bool, kb_NoneType_tuple, kb_bool_tuple, kb_int_tuple, kb_str_tuple, kb_tuple_tuple, kb_list_tuple, kb_dict_tuple, if_true, if_false, Bool.false_eq_true, ite_true, ite_false, Bool.not_true, Bool.not_false])
/-! RdDD: data that is shown, dicts among them (X_k11 has its own copy) -/
abbrev er (x : Str) (d : D) : Option (Str × D) := some (x, d)
/-! ### data that is shown -/
structure Sh (d : D) : Prop where
  f : fine 10 d = true
  l : lit 200 d = true
  w : wt 200 d ≤ 10000
mutual
theorem resD_fine (M : Mem) : ∀ (n : Nat) (d : D), fine n d = true → resD M d = d
  | _, .non, _ => rfl
  | _, .bl _, _ => rfl
  | _, .int _, _ => rfl
  | _, .str _, _ => rfl
  | 0, .tup l, h => by simp [fine] at h
  | 0, .lst l, h => by simp [fine] at h
  | n + 1, .tup l, h => by unfold resD; rw [resDA_fine M n l (by simpa only [fine] using h)]
  | n + 1, .lst l, h => by unfold resD; rw [resDA_fine M n l (by simpa only [fine] using h)]
  | _, .dct0, h => rfl
  | _, .scr _, h => by simp [fine] at h
  | _, .own _, h => by simp [fine] at h
  | _, .exc _ _, h => by simp [fine] at h
  | _, .glb _, h => by simp [fine] at h
  | _, .val _, h => by simp [fine] at h
theorem resDA_fine (M : Mem) : ∀ (n : Nat) (ds : List D), fineAll n ds = true → resDA M ds = ds
  | _, [], _ => rfl
  | n, d :: ds, h => by
    have h' : fine n d = true ∧ fineAll n ds = true := by simpa only [fineAll, Bool.and_eq_true] using h
    unfold resDA
    rw [resD_fine M n d h'.1, resDA_fine M n ds h'.2]
end
theorem Sh.shown {d : D} (h : Sh d) (M : Mem) : ∃ z, shwnZ (resD M d) = some z := by
  rw [resD_fine M 10 d h.f]
  obtain ⟨z, hz⟩ := shw_of 200 10 h.f h.l (by have := h.w; omega)
  exact ⟨z, shwnZ_of hz⟩
end DL
namespace DL
open PySem PySem.Spec PyProof.Rows L2
local macro_rules | `(tactic| walk_at "rd") => `(tactic| simp only [startD, List.map, List.replicate, List.length_cons, List.length_nil, List.append_eq, List.append_nil, List.nil_append, List.cons_append, Nat.reduceSub, Nat.reduceAdd, List.getElem?_cons_zero, List.getElem?_cons_succ, List.set_cons_zero, List.set_cons_succ,
  dC, dVar, dOp, dTru, gTru, tru, dChain, dAnd, dOr, dNot, dAndV, dOrV, dNotV, dIf, dNeg, gNeg, dNil, dCons, dTup, dLst, dOwn, gIx, rBin, gAdd, gCmpI, dCall, dCallK, dSeq, dNext, dDrop, dRet, dRetN, dIfS, dName, dGNil, dGCons, dGTup, dSub, gSetL, dAsg, dPar, dPar3, dAug, gIpI, dSeqI, gSeqI, dRngI, gRng1, gRng2, dCB, gAbs, gInt, gMax, gMin, gGcd, gLen, lenD, gIsi, tyM, tyD, dBits, gBits, dMet, gAppend, dPart, dNoPart, dSl, gSl_tup, gSl_lst, cut_1, dEnds, gIs, isB, dNever, dCallX, dRaise, dTry, dFld, dCallV, gLRng, gFrz, dFrz, dFor, dLc, wipeD, dYes,
  sizeLine_eq, Nat.reduceLeDiff, gEq_int, gNe_int, gEq_strs, gNe_strs, gIn_two, gRepr_bl, rs_lst, rs_tup, rs_scr, rs_int, atI_0, atI_1, atI_2, atI_3, atI_4, atI_5, ixN_30, ixN_31, ixN_32, gEq_bl, gNe_bl, decide_eq_true_eq, beq_iff_eq, Bool.not_eq_true', beq_eq_false_iff_ne, decide_eq_false_iff_not, Bool.not_true, Bool.not_false, if_true, if_false, Bool.false_eq_true, ite_true, ite_false, true_and, and_true, ne_eq, Bool.bne_false, Bool.bne_true, reduceCtorEq])
local macro_rules | `(tactic| walk_at "rh") => `(tactic| simp only [*, startD, List.map, List.replicate, List.length_cons, List.length_nil, List.append_eq, List.append_nil, List.nil_append, List.cons_append, Nat.reduceSub, Nat.reduceAdd, List.getElem?_cons_zero, List.getElem?_cons_succ, List.set_cons_zero, List.set_cons_succ,
  dC, dVar, dOp, dTru, gTru, tru, dChain, dAnd, dOr, dNot, dAndV, dOrV, dNotV, dIf, dNeg, gNeg, dNil, dCons, dTup, dLst, dOwn, gIx, rBin, gAdd, gCmpI, dCall, dCallK, dSeq, dNext, dDrop, dRet, dRetN, dIfS, dName, dGNil, dGCons, dGTup, dSub, gSetL, dAsg, dPar, dPar3, dAug, gIpI, dSeqI, gSeqI, dRngI, gRng1, gRng2, dCB, gAbs, gInt, gMax, gMin, gGcd, gLen, lenD, gIsi, tyM, tyD, dBits, gBits, dMet, gAppend, dPart, dNoPart, dSl, gSl_tup, gSl_lst, cut_1, dEnds, gIs, isB, dNever, dCallX, dRaise, dTry, dFld, dCallV, gLRng, gFrz, dFrz, dFor, dLc, wipeD, dYes,
  sizeLine_eq, Nat.reduceLeDiff, gEq_int, gNe_int, gEq_strs, gNe_strs, gIn_two, gRepr_bl, rs_lst, rs_tup, rs_scr, rs_int, atI_0, atI_1, atI_2, atI_3, atI_4, atI_5, ixN_30, ixN_31, ixN_32, gEq_bl, gNe_bl, decide_eq_true_eq, beq_iff_eq, Bool.not_eq_true', beq_eq_false_iff_ne, decide_eq_false_iff_not, Bool.not_true, Bool.not_false, if_true, if_false, Bool.false_eq_true, ite_true, ite_false, true_and, and_true, ne_eq, Bool.bne_false, Bool.bne_true, reduceCtorEq])
local macro_rules | `(tactic| walk_at "kb") => `(tactic| simp only [kb_NoneType_list, kb_bool_list, kb_int_list, kb_str_list, kb_tuple_list, kb_list_list, kb_dict_list, kb_NoneType_int, kb_bool_int, kb_int_int, kb_str_int, kb_tuple_int, kb_list_int, kb_dict_int, kb_NoneType_bool, kb_bool_bool, kb_int_bool, kb_str_bool, kb_tuple_bool, kb_list_bool, kb_dict_bool, kb_NoneType_tuple, kb_bool_tuple, kb_int_tuple, kb_str_tuple, kb_tuple_tuple, kb_list_tuple, kb_dict_tuple, if_true, if_false, Bool.false_eq_true, ite_true, ite_false, Bool.not_true, Bool.not_false])
/-- a comprehension, item by item -/
theorem lcW_idx {ds ys : List D} {C : Mem → Prop} {g : DTG} {tt : DTT} {te : DTE} {r : Env} {M : Mem} {Q : DQ} (hlen : ds.length = ys.length) (hC : C M) (hl : ds.length ≤ sizeLine)
    (step : ∀ (i : Nat) (d y : D), ds[i]? = some d → ys[i]? = some y → ∀ (Y : D → Mem → Prop) (N : Mem → Prop), Y y M → g d r M fun r2 M2 => tt r2 M2 fun b M3 => if b = true then te r2 M3 Y else N M3)
    (q : Q (.lst ys) M) : lcW false ds C g tt te r M Q := by
  refine ⟨fun i acc M' => M' = M ∧ acc = ys.take i ∧ i ≤ ds.length, ⟨rfl, rfl, Nat.zero_le _⟩, ?_⟩
  rintro i acc M' ⟨rfl, rfl, hi⟩
  refine ⟨hC, fun hd => ?_, fun d ed => ?_⟩
  · rw [if_neg Bool.false_ne_true]
    rw [List.take_of_length_le (by omega)]; exact q
  · have hlt : i < ds.length := (List.getElem?_eq_some_iff.mp ed).1
    have ey : ys[i]? = some ys[i] := List.getElem?_eq_getElem (by omega)
    have ht : ys.take (i + 1) = ys.take i ++ [ys[i]] := by rw [List.take_add_one, ey]; rfl
    refine step i d _ ed ey _ _ ⟨?_, rfl, ht.symm, hlt⟩
    rw [List.length_take]; omega
/-! ### root numbers as what they stand for: d stands for (X + Y times the root) / B -/
structure RV (m : Int) (nx nb : Nat) (d : D) (X Y B : Int) : Prop where
  eq : d = rootN m X Y B
  b0 : B ≠ 0
  bx : Bi nx X
  bY : Bi nx Y
  bB : Bi nb B
theorem Bi.up {n k : Nat} {i : Int} (h : Bi n i) (hk : n ≤ k) : Bi k i := h.mono hk
theorem rn_eq {m X Y B X' Y' B' : Int} (b0 : B ≠ 0) (b0' : B' ≠ 0) (h1 : X * B' = X' * B) (h2 : Y * B' = Y' * B) : rootN m X Y B = rootN m X' Y' B' := by
  rw [rootN_nf, rootN_nf]
  refine nf_eq b0 b0' ?_ ?_
  · unfold rnX
    split
    · have : (X + Y * isq m) * B' = X * B' + Y * B' * isq m := by grind
      rw [this, h1, h2]; grind
    · exact h1
  · unfold rnY
    split
    · rw [Int.zero_mul, Int.zero_mul]
    · exact h2
/-! ### the calls -/
end DL
namespace DL
open PySem PySem.Spec PyProof.Rows L2
local macro_rules | `(tactic| walk_at "rd") => `(tactic| simp only [startD, List.map, List.replicate, List.length_cons, List.length_nil, List.append_eq, List.append_nil, List.nil_append, List.cons_append, Nat.reduceSub, Nat.reduceAdd, List.getElem?_cons_zero, List.getElem?_cons_succ, List.set_cons_zero, List.set_cons_succ,
  dC, dVar, dOp, dTru, gTru, tru, dChain, dAnd, dOr, dNot, dAndV, dOrV, dNotV, dIf, dNeg, gNeg, dNil, dCons, dTup, dLst, dOwn, gIx, rBin, gAdd, gCmpI, dCall, dCallK, dSeq, dNext, dDrop, dRet, dRetN, dIfS, dName, dGNil, dGCons, dGTup, dSub, gSetL, dAsg, dPar, dPar3, dAug, gIpI, dSeqI, gSeqI, dRngI, gRng1, gRng2, dCB, gAbs, gInt, gMax, gMin, gGcd, gLen, lenD, gIsi, tyM, tyD, dBits, gBits, dMet, gAppend, dPart, dNoPart, dSl, gSl_tup, gSl_lst, cut_1, dEnds, gIs, isB, dNever, dCallX, dRaise, dTry, dFld, dCallV, gLRng, gFrz, dFrz, dFor, dLc, wipeD, dYes,
  sizeLine_eq, Nat.reduceLeDiff, gEq_int, gNe_int, gEq_strs, gNe_strs, gIn_two, gRepr_bl, rs_lst, rs_tup, rs_scr, rs_int, atI_0, atI_1, atI_2, atI_3, atI_4, atI_5, ixN_30, ixN_31, ixN_32, gEq_bl, gNe_bl, decide_eq_true_eq, beq_iff_eq, Bool.not_eq_true', beq_eq_false_iff_ne, decide_eq_false_iff_not, Bool.not_true, Bool.not_false, if_true, if_false, Bool.false_eq_true, ite_true, ite_false, true_and, and_true, ne_eq, Bool.bne_false, Bool.bne_true, reduceCtorEq])
local macro_rules | `(tactic| walk_at "rh") => `(tactic| simp only [*, startD, List.map, List.replicate, List.length_cons, List.length_nil, List.append_eq, List.append_nil, List.nil_append, List.cons_append, Nat.reduceSub, Nat.reduceAdd, List.getElem?_cons_zero, List.getElem?_cons_succ, List.set_cons_zero, List.set_cons_succ,
  dC, dVar, dOp, dTru, gTru, tru, dChain, dAnd, dOr, dNot, dAndV, dOrV, dNotV, dIf, dNeg, gNeg, dNil, dCons, dTup, dLst, dOwn, gIx, rBin, gAdd, gCmpI, dCall, dCallK, dSeq, dNext, dDrop, dRet, dRetN, dIfS, dName, dGNil, dGCons, dGTup, dSub, gSetL, dAsg, dPar, dPar3, dAug, gIpI, dSeqI, gSeqI, dRngI, gRng1, gRng2, dCB, gAbs, gInt, gMax, gMin, gGcd, gLen, lenD, gIsi, tyM, tyD, dBits, gBits, dMet, gAppend, dPart, dNoPart, dSl, gSl_tup, gSl_lst, cut_1, dEnds, gIs, isB, dNever, dCallX, dRaise, dTry, dFld, dCallV, gLRng, gFrz, dFrz, dFor, dLc, wipeD, dYes,
  sizeLine_eq, Nat.reduceLeDiff, gEq_int, gNe_int, gEq_strs, gNe_strs, gIn_two, gRepr_bl, rs_lst, rs_tup, rs_scr, rs_int, atI_0, atI_1, atI_2, atI_3, atI_4, atI_5, ixN_30, ixN_31, ixN_32, gEq_bl, gNe_bl, decide_eq_true_eq, beq_iff_eq, Bool.not_eq_true', beq_eq_false_iff_ne, decide_eq_false_iff_not, Bool.not_true, Bool.not_false, if_true, if_false, Bool.false_eq_true, ite_true, ite_false, true_and, and_true, ne_eq, Bool.bne_false, Bool.bne_true, reduceCtorEq])
local macro_rules | `(tactic| walk_at "kb") => `(tactic| simp only [kb_NoneType_list, kb_bool_list, kb_int_list, kb_str_list, kb_tuple_list, kb_list_list, kb_dict_list, kb_NoneType_int, kb_bool_int, kb_int_int, kb_str_int, kb_tuple_int, kb_list_int, kb_dict_int, kb_NoneType_bool, kb_bool_bool, kb_int_bool, kb_str_bool, kb_tuple_bool, kb_list_bool, kb_dict_bool, kb_NoneType_tuple, kb_bool_tuple, kb_int_tuple, kb_str_tuple, kb_tuple_tuple, kb_list_tuple, kb_dict_tuple, if_true, if_false, Bool.false_eq_true, ite_true, ite_false, Bool.not_true, Bool.not_false])
/-! RdGG: what the sheets' laws reckon with -/
theorem RV.same {m X Y B X' Y' B' : Int} {nx nb mx mb : Nat} {d d' : D} (h : RV m nx nb d X Y B) (h' : RV m mx mb d' X' Y' B') (h1 : X * B' = X' * B) (h2 : Y * B' = Y' * B) : d = d' := by
  rw [h.eq, h'.eq, rn_eq h.b0 h'.b0 h1 h2]
/-! ### the side told by the law -/
/-! ### the side of the square -/
/-- a cutting of items of up to 99 bits -/
structure CK (a b c e : Int) : Prop where
  cut : isCut a b c e = true
  ba : Bi 100 a
  bb : Bi 100 b
  bc : Bi 100 c
  be : Bi 100 e
  bm : Bi 200 (meas4 b c e)
  m0 : 0 ≤ meas4 b c e
/-! ### a drawn cutting -/
end DL
namespace DL
open PySem PySem.Spec PyProof.Rows L2
local macro_rules | `(tactic| walk_at "rd") => `(tactic| simp only [startD, List.map, List.replicate, List.length_cons, List.length_nil, List.append_eq, List.append_nil, List.nil_append, List.cons_append, Nat.reduceSub, Nat.reduceAdd, List.getElem?_cons_zero, List.getElem?_cons_succ, List.set_cons_zero, List.set_cons_succ,
  dC, dVar, dOp, dTru, gTru, tru, dChain, dAnd, dOr, dNot, dAndV, dOrV, dNotV, dIf, dNeg, gNeg, dNil, dCons, dTup, dLst, dOwn, gIx, rBin, gAdd, gCmpI, dCall, dCallK, dSeq, dNext, dDrop, dRet, dRetN, dIfS, dName, dGNil, dGCons, dGTup, dSub, gSetL, dAsg, dPar, dPar3, dAug, gIpI, dSeqI, gSeqI, dRngI, gRng1, gRng2, dCB, gAbs, gInt, gMax, gMin, gGcd, gLen, lenD, gIsi, tyM, tyD, dBits, gBits, dMet, gAppend, dPart, dNoPart, dSl, gSl_tup, gSl_lst, cut_1, dEnds, gIs, isB, dNever, dCallX, dRaise, dTry, dFld, dCallV, gLRng, gFrz, dFrz, dFor, dLc, wipeD, dYes,
  sizeLine_eq, Nat.reduceLeDiff, gEq_int, gNe_int, gEq_strs, gNe_strs, gIn_two, gRepr_bl, rs_lst, rs_tup, rs_scr, rs_int, atI_0, atI_1, atI_2, atI_3, atI_4, atI_5, ixN_30, ixN_31, ixN_32, gEq_bl, gNe_bl, decide_eq_true_eq, beq_iff_eq, Bool.not_eq_true', beq_eq_false_iff_ne, decide_eq_false_iff_not, Bool.not_true, Bool.not_false, if_true, if_false, Bool.false_eq_true, ite_true, ite_false, true_and, and_true, ne_eq, Bool.bne_false, Bool.bne_true, reduceCtorEq])
local macro_rules | `(tactic| walk_at "rh") => `(tactic| simp only [*, startD, List.map, List.replicate, List.length_cons, List.length_nil, List.append_eq, List.append_nil, List.nil_append, List.cons_append, Nat.reduceSub, Nat.reduceAdd, List.getElem?_cons_zero, List.getElem?_cons_succ, List.set_cons_zero, List.set_cons_succ,
  dC, dVar, dOp, dTru, gTru, tru, dChain, dAnd, dOr, dNot, dAndV, dOrV, dNotV, dIf, dNeg, gNeg, dNil, dCons, dTup, dLst, dOwn, gIx, rBin, gAdd, gCmpI, dCall, dCallK, dSeq, dNext, dDrop, dRet, dRetN, dIfS, dName, dGNil, dGCons, dGTup, dSub, gSetL, dAsg, dPar, dPar3, dAug, gIpI, dSeqI, gSeqI, dRngI, gRng1, gRng2, dCB, gAbs, gInt, gMax, gMin, gGcd, gLen, lenD, gIsi, tyM, tyD, dBits, gBits, dMet, gAppend, dPart, dNoPart, dSl, gSl_tup, gSl_lst, cut_1, dEnds, gIs, isB, dNever, dCallX, dRaise, dTry, dFld, dCallV, gLRng, gFrz, dFrz, dFor, dLc, wipeD, dYes,
  sizeLine_eq, Nat.reduceLeDiff, gEq_int, gNe_int, gEq_strs, gNe_strs, gIn_two, gRepr_bl, rs_lst, rs_tup, rs_scr, rs_int, atI_0, atI_1, atI_2, atI_3, atI_4, atI_5, ixN_30, ixN_31, ixN_32, gEq_bl, gNe_bl, decide_eq_true_eq, beq_iff_eq, Bool.not_eq_true', beq_eq_false_iff_ne, decide_eq_false_iff_not, Bool.not_true, Bool.not_false, if_true, if_false, Bool.false_eq_true, ite_true, ite_false, true_and, and_true, ne_eq, Bool.bne_false, Bool.bne_true, reduceCtorEq])
local macro_rules | `(tactic| walk_at "kb") => `(tactic| simp only [kb_NoneType_list, kb_bool_list, kb_int_list, kb_str_list, kb_tuple_list, kb_list_list, kb_dict_list, kb_NoneType_int, kb_bool_int, kb_int_int, kb_str_int, kb_tuple_int, kb_list_int, kb_dict_int, kb_NoneType_bool, kb_bool_bool, kb_int_bool, kb_str_bool, kb_tuple_bool, kb_list_bool, kb_dict_bool, kb_NoneType_tuple, kb_bool_tuple, kb_int_tuple, kb_str_tuple, kb_tuple_tuple, kb_list_tuple, kb_dict_tuple, if_true, if_false, Bool.false_eq_true, ite_true, ite_false, Bool.not_true, Bool.not_false])
/-! ### the outline -/
/-! ### the law's own outline -/
theorem RV.up {m X Y B : Int} {nx nb mx mb : Nat} {d : D} (h : RV m nx nb d X Y B) (h1 : nx ≤ mx := by decide) (h2 : nb ≤ mb := by decide) : RV m mx mb d X Y B := ⟨h.eq, h.b0, h.bx.up h1, h.bY.up h1, h.bB.up h2⟩
theorem b0 : Bi 100 0 := Bi.of_abs 0 (by decide) (by decide)
/-! ### the area -/
/-! ### less than -/
/-! ### all ends are one -/
/-! ### one cutting's outline is right -/
structure Sh4 (d : D) : Prop where
  f : fine 10 d = true
  l : lit 400 d = true
  w : wt 400 d ≤ 40000
theorem Sh4.shown {d : D} (h : Sh4 d) (M : Mem) : ∃ z, shwnZ (resD M d) = some z := by
  rw [resD_fine M 10 d h.f]
  obtain ⟨z, hz⟩ := shw_of 400 10 h.f h.l (by have := h.w; omega)
  exact ⟨z, shwnZ_of hz⟩
theorem gNe_str_same {z : Str} {M : Mem} {Q : DQ} (q : Q (.bl false) M) : gNe (.str z) (.str z) M Q := by rw [gNe_strs, str_self]; exact q
/-! ### the law -/
end DL
namespace DL
open PySem PySem.Spec PyProof.Rows L2
local macro_rules | `(tactic| walk_at "rd") => `(tactic| simp only [startD, List.map, List.replicate, List.length_cons, List.length_nil, List.append_eq, List.append_nil, List.nil_append, List.cons_append, Nat.reduceSub, Nat.reduceAdd, List.getElem?_cons_zero, List.getElem?_cons_succ, List.set_cons_zero, List.set_cons_succ,
  dC, dVar, dOp, dTru, gTru, tru, dChain, dAnd, dOr, dNot, dAndV, dOrV, dNotV, dIf, dNeg, gNeg, dNil, dCons, dTup, dLst, dOwn, gIx, rBin, gAdd, gCmpI, dCall, dCallK, dSeq, dNext, dDrop, dRet, dRetN, dIfS, dName, dGNil, dGCons, dGTup, dSub, gSetL, dAsg, dPar, dPar3, dAug, gIpI, dSeqI, gSeqI, dRngI, gRng1, gRng2, dCB, gAbs, gInt, gMax, gMin, gGcd, gLen, lenD, gIsi, tyM, tyD, dBits, gBits, dMet, gAppend, dPart, dNoPart, dSl, gSl_tup, gSl_lst, cut_1, dEnds, gIs, isB, dNever, dCallX, dRaise, dTry, dFld, dCallV, gLRng, gFrz, dFrz, dFor, dLc, wipeD, dYes,
  sizeLine_eq, Nat.reduceLeDiff, gEq_int, gNe_int, gEq_strs, gNe_strs, gIn_two, gRepr_bl, rs_lst, rs_tup, rs_scr, rs_int, atI_0, atI_1, atI_2, atI_3, atI_4, atI_5, ixN_30, ixN_31, ixN_32, gEq_bl, gNe_bl, decide_eq_true_eq, beq_iff_eq, Bool.not_eq_true', beq_eq_false_iff_ne, decide_eq_false_iff_not, Bool.not_true, Bool.not_false, if_true, if_false, Bool.false_eq_true, ite_true, ite_false, true_and, and_true, ne_eq, Bool.bne_false, Bool.bne_true, reduceCtorEq])
local macro_rules | `(tactic| walk_at "rh") => `(tactic| simp only [*, startD, List.map, List.replicate, List.length_cons, List.length_nil, List.append_eq, List.append_nil, List.nil_append, List.cons_append, Nat.reduceSub, Nat.reduceAdd, List.getElem?_cons_zero, List.getElem?_cons_succ, List.set_cons_zero, List.set_cons_succ,
  dC, dVar, dOp, dTru, gTru, tru, dChain, dAnd, dOr, dNot, dAndV, dOrV, dNotV, dIf, dNeg, gNeg, dNil, dCons, dTup, dLst, dOwn, gIx, rBin, gAdd, gCmpI, dCall, dCallK, dSeq, dNext, dDrop, dRet, dRetN, dIfS, dName, dGNil, dGCons, dGTup, dSub, gSetL, dAsg, dPar, dPar3, dAug, gIpI, dSeqI, gSeqI, dRngI, gRng1, gRng2, dCB, gAbs, gInt, gMax, gMin, gGcd, gLen, lenD, gIsi, tyM, tyD, dBits, gBits, dMet, gAppend, dPart, dNoPart, dSl, gSl_tup, gSl_lst, cut_1, dEnds, gIs, isB, dNever, dCallX, dRaise, dTry, dFld, dCallV, gLRng, gFrz, dFrz, dFor, dLc, wipeD, dYes,
  sizeLine_eq, Nat.reduceLeDiff, gEq_int, gNe_int, gEq_strs, gNe_strs, gIn_two, gRepr_bl, rs_lst, rs_tup, rs_scr, rs_int, atI_0, atI_1, atI_2, atI_3, atI_4, atI_5, ixN_30, ixN_31, ixN_32, gEq_bl, gNe_bl, decide_eq_true_eq, beq_iff_eq, Bool.not_eq_true', beq_eq_false_iff_ne, decide_eq_false_iff_not, Bool.not_true, Bool.not_false, if_true, if_false, Bool.false_eq_true, ite_true, ite_false, true_and, and_true, ne_eq, Bool.bne_false, Bool.bne_true, reduceCtorEq])
local macro_rules | `(tactic| walk_at "kb") => `(tactic| simp only [kb_NoneType_list, kb_bool_list, kb_int_list, kb_str_list, kb_tuple_list, kb_list_list, kb_dict_list, kb_NoneType_int, kb_bool_int, kb_int_int, kb_str_int, kb_tuple_int, kb_list_int, kb_dict_int, kb_NoneType_bool, kb_bool_bool, kb_int_bool, kb_str_bool, kb_tuple_bool, kb_list_bool, kb_dict_bool, kb_NoneType_tuple, kb_bool_tuple, kb_int_tuple, kb_str_tuple, kb_tuple_tuple, kb_list_tuple, kb_dict_tuple, if_true, if_false, Bool.false_eq_true, ite_true, ite_false, Bool.not_true, Bool.not_false])
/-! RdHH: paths; division, vectors, bands -/
abbrev P4 (a b c d : Int) : D := .lst [.int a, .int b, .int c, .int d]
theorem isL {M : Mem} {d : D} {l : List D} (h : res M d = .lst l) : d = .lst l ∨ ∃ k, d = .own k ∧ M[k]? = some (.lst l) := by
  cases d <;> first | (cases h; done) | skip
  · exact .inl h
  · rename_i k
    unfold res at h
    dsimp only at h
    split at h
    · rename_i ds hk
      cases h
      exact .inr ⟨k, rfl, hk⟩
    · cases h
def sp_is_path_list : DSp := fun ds M Q _ => ∃ x a b c d, ds = [x] ∧ res M x = P4 a b c d ∧ Q (.bl true) M
theorem rd_is_path_list : ∀ ds M Q, ds.length = 1 → sp_is_path_list ds M Q DX0 → t_is_path_list sp_is_whole (dEnds M Q) (startD 2 ds) M := by
  rintro _ M Q - ⟨x, a, b, c, d, rfl, hx, q⟩
  unfold t_is_path_list
  have fil : ∀ {r : Env} {Q' : DQ} {C : Mem → Prop}, r.length = 2 → C M → Q' (.lst []) M → lcW false [D.int a, .int b, .int c, .int d] C (dName 1) (dNot (dTru (dCall 1 sp_is_whole [] DX0 (dCons (dVar 1) dNil)))) (dVar 1) r M Q' := by
    intro r Q' C hr hC hq
    refine lcW_pure (fun _ => none) hC (by rw [sizeLine_eq]; exact (by decide : (4 : Nat) ≤ 16777216)) (fun e he Y N hy => ?_) hq
    obtain ⟨j, rfl⟩ : ∃ j, e = .int j := by
      simp only [List.mem_cons, List.not_mem_nil, or_false] at he
      rcases he with rfl | rfl | rfl | rfl <;> exact ⟨_, rfl⟩
    have er : (r.set 1 (some (D.int j)))[1]? = some (some (D.int j)) := List.getElem?_set_self (by omega)
    walk_at "rd"
    simp only [er]
    exact ⟨.int j, _, rfl, rfl, hy⟩
  rcases isL hx with rfl | ⟨k, rfl, hk⟩
  · walk_at "rd"
    walk_at "kb"
    rw [if_pos (show ((4 : Nat) : Int) = 4 from rfl)]
    refine fil (C := fun _ => True) rfl trivial ?_
    exact gEq_same (n := 2) rfl (rtq q)
  · walk_at "rd"
    simp only [hk]
    walk_at "kb"
    rw [if_pos (show (([D.int a, .int b, .int c, .int d].length : Nat) : Int) = 4 from rfl)]
    refine fil (C := fun M' => M'[k]? = some (.lst [.int a, .int b, .int c, .int d])) rfl hk ?_
    exact gEq_same (n := 2) rfl (rtq q)
def crV (a b c d u v w x : Int) : Int := a * v - b * u + c * x - d * w
def sp_crossing : DSp := fun ds M Q _ => ∃ p q a b c d u v w x, ds = [p, q] ∧ res M p = P4 a b c d ∧ res M q = P4 u v w x ∧ (Bi 900 a ∧ Bi 900 b ∧ Bi 900 c ∧ Bi 900 d) ∧ (Bi 900 u ∧ Bi 900 v ∧ Bi 900 w ∧ Bi 900 x) ∧ Q (.int (crV a b c d u v w x)) M
/-! ### the vectors of paths -/
/-! ### a vector, scaled -/
/-! ### both bands -/
/-- a cutting whose measure has up to 96 bits -/
structure CS (a b c e : Int) : Prop where
  cut : isCut a b c e = true
  sm : Bi 96 (meas4 b c e)
theorem CS.cb {a b c e : Int} (h : CS a b c e) : CutB 96 a b c e := cut_bi h.cut h.sm
theorem CS.ck {a b c e : Int} (h : CS a b c e) : CK a b c e := by
  obtain ⟨h1, h2, h3, h4⟩ := h.cb
  exact ⟨h.cut, h1.mono, h2.mono, h3.mono, h4.mono, h.sm.mono, by have := cut_le h.cut; omega⟩
theorem CS.cb4 {a b c e : Int} (h : CS a b c e) : CutB 450 a b c e := by
  obtain ⟨h1, h2, h3, h4⟩ := h.cb
  exact ⟨h1.mono, h2.mono, h3.mono, h4.mono⟩
/-- a cutting, a deed of it, where it leads -/
structure DeS (a b c e p q a' w g e' : Int) : Prop where
  cs : CS a b c e
  deed : isDeed b c e p q = true
  bp : Bi 100 p
  bq : Bi 100 q
  dn : IsDone a b c e p q a' w g e'
theorem DeS.cs' {a b c e p q a' w g e' : Int} (h : DeS a b c e p q a' w g e') : CS a' w g e' ∧ meas4 w g e' = meas4 b c e ∧ 0 < g := by
  obtain ⟨h1, h2, h3⟩ := done_of h.cs.cut h.deed h.dn
  exact ⟨⟨h1, by rw [h2]; exact h.cs.sm⟩, h2, h3⟩
theorem DeS.one {a b c e p q a' w g e' a2 w2 g2 e2 : Int} (h : DeS a b c e p q a' w g e') (k : IsDone a b c e p q a2 w2 g2 e2) : a2 = a' ∧ w2 = w ∧ g2 = g ∧ e2 = e' := by
  have := h.cs'.2.2
  obtain ⟨r1, r2, r3, r4⟩ := isDone_unique (by omega) h.dn k
  exact ⟨r1.symm, r2.symm, r3.symm, r4.symm⟩
/-! ### the law's own way to a common divisor, to what a deed makes -/
def sp_ldone2 : DSp := fun ds M Q _ => ∃ a b c e p q a' w g e' : Int, ds = [T4 a b c e, .tup [.int p, .int q]] ∧ DeS a b c e p q a' w g e' ∧ Q (T4 a' w g e') M
/-! ### a drawn deed -/
end DL
namespace DL
/-! MK: two columns led down by sums of one another -/
structure Lad (I J l h a b c d : Int) : Prop where
  e1 : l = a * I + b * J
  e2 : h = c * I + d * J
  dt : a * d - b * c = 1
  gc : Int.gcd l h = Int.gcd I J
  sg : l * h ≤ 0
  ab : h.natAbs < l.natAbs
  wa : a.natAbs ≤ c.natAbs + 1
  wb : b.natAbs ≤ d.natAbs + 1
  lj : l.natAbs ≤ J.natAbs
theorem fm_neg {l h : Int} (hz : h < 0) : h < l.fmod h ∧ l.fmod h ≤ 0 := by
  have h1 := @Int.fmod_eq_emod l h
  have e0 := Int.emod_nonneg l (show h ≠ 0 by omega)
  have e1 := Int.emod_lt_of_pos l (show 0 < -h by omega)
  rw [Int.emod_neg] at e1
  by_cases hd : 0 ≤ h ∨ h ∣ l
  · rw [if_pos hd] at h1
    have hd : h ∣ l := hd.resolve_left (by omega)
    have := Int.emod_eq_zero_of_dvd hd
    omega
  · rw [if_neg hd] at h1
    have : l % h ≠ 0 := fun z => hd (.inr (Int.dvd_of_emod_eq_zero z))
    omega
theorem gcd_lad {l h t : Int} : Int.gcd h (t * h - l) = Int.gcd l h := by
  have h1 : t * h - l = -l + h * t := by rw [Int.mul_comm]; omega
  rw [h1, Int.gcd_add_mul_left_right, Int.gcd_neg, Int.gcd_comm]
theorem Lad.first {I J : Int} (hI : 0 ≤ I) (hJ : 0 < J) : Lad I J J (I.fdiv J * J - I) 0 1 (I.fdiv J * 0 - 1) (I.fdiv J * 1 - 0) := by
  have h1 := Int.mul_fdiv_add_fmod I J
  have r0 := Int.fmod_nonneg_of_pos I hJ
  have r1 := Int.fmod_lt_of_pos I hJ
  have e : I.fdiv J * J = J * I.fdiv J := Int.mul_comm _ _
  have t0 : 0 ≤ I.fdiv J := Int.fdiv_nonneg hI (by omega)
  have eh : I.fdiv J * J - I = -(I.fmod J) := by omega
  refine ⟨by omega, by rw [Int.mul_zero, Int.mul_one, Int.sub_zero]; omega, by omega, gcd_lad, ?_, by omega, by omega, by omega, by omega⟩
  rw [eh]
  have := Int.mul_nonneg (show 0 ≤ J by omega) r0
  rw [Int.mul_neg]
  omega
theorem Lad.step {I J l h a b c d : Int} (E : Lad I J l h a b c d) (hz : h ≠ 0) : Lad I J h (l.fdiv h * h - l) c d (l.fdiv h * c - a) (l.fdiv h * d - b) := by
  have h1 := Int.mul_fdiv_add_fmod l h
  have e : l.fdiv h * h = h * l.fdiv h := Int.mul_comm _ _
  have eh : l.fdiv h * h - l = -(l.fmod h) := by omega
  have hl := E.ab
  have lne : l ≠ 0 := by omega
  have t2 : 2 ≤ (l.fdiv h).natAbs ∧ 0 ≤ h * l.fmod h ∧ (l.fmod h).natAbs < h.natAbs := by
    have sg := E.sg
    generalize l.fdiv h = t at *
    rcases (by omega : 0 < h ∨ h < 0) with hp | hp
    · have r0 := Int.fmod_nonneg_of_pos l hp
      have r1 := Int.fmod_lt_of_pos l hp
      have ln : l < 0 := by
        rcases (by omega : l < 0 ∨ 0 < l) with z | z
        · exact z
        · have := Int.mul_pos z hp; omega
      refine ⟨?_, Int.mul_nonneg (by omega) r0, by omega⟩
      rcases (by omega : t ≤ -2 ∨ -1 ≤ t) with z | z
      · omega
      · have : h * (-1) ≤ h * t := Int.mul_le_mul_of_nonneg_left z (by omega)
        omega
    · obtain ⟨r1, r0⟩ := fm_neg (l := l) hp
      have ln : 0 < l := by
        rcases (by omega : l < 0 ∨ 0 < l) with z | z
        · have := Int.mul_pos_of_neg_of_neg z hp; omega
        · exact z
      refine ⟨?_, Int.mul_nonneg_of_nonpos_of_nonpos (by omega) r0, by omega⟩
      rcases (by omega : t ≤ -2 ∨ -1 ≤ t) with z | z
      · omega
      · have : h * t ≤ h * (-1) := Int.mul_le_mul_of_nonpos_left (by omega) z
        omega
  obtain ⟨t2, s0, r2⟩ := t2
  have w : ∀ x y : Int, x.natAbs ≤ y.natAbs + 1 → y.natAbs ≤ (l.fdiv h * y - x).natAbs + 1 := fun x y hx => by
    have h3 : (l.fdiv h * y).natAbs = (l.fdiv h).natAbs * y.natAbs := Int.natAbs_mul _ _
    have h4 : 2 * y.natAbs ≤ (l.fdiv h).natAbs * y.natAbs := Nat.mul_le_mul_right _ t2
    omega
  refine ⟨E.e2, ?_, ?_, by rw [gcd_lad]; exact E.gc, by rw [eh, Int.mul_neg]; omega, by omega, w _ _ E.wa, w _ _ E.wb, by have := E.lj; omega⟩
  · have e1 := E.e1
    have e2 := E.e2
    generalize l.fdiv h = t at *
    rw [e1, e2]; grind
  · have dt := E.dt
    generalize l.fdiv h = t at *
    grind
/-- the items' sizes -/
theorem Lad.bd {I J l h a b c d : Int} (E : Lad I J l h a b c d) : c.natAbs ≤ 2 * J.natAbs ∧ d.natAbs ≤ I.natAbs + J.natAbs ∧ a.natAbs ≤ 2 * J.natAbs + 1 ∧ b.natAbs ≤ I.natAbs + J.natAbs + 1 := by
  have hJ : l * c = h * a - J := by
    have e1 := E.e1
    have e2 := E.e2
    have dt := E.dt
    rw [e1, e2]; grind
  have hI : l * d = h * b + I := by
    have e1 := E.e1
    have e2 := E.e2
    have dt := E.dt
    rw [e1, e2]; grind
  have ab := E.ab
  have lj := E.lj
  have wa := E.wa
  have wb := E.wb
  have key : ∀ (x y z : Int), l * y = h * x + z → x.natAbs ≤ y.natAbs + 1 → y.natAbs ≤ z.natAbs + l.natAbs := fun x y z h1 h2 => by
    have a1 : l.natAbs * y.natAbs = (h * x + z).natAbs := by rw [← h1, Int.natAbs_mul]
    have a2 : (h * x + z).natAbs ≤ h.natAbs * x.natAbs + z.natAbs := by
      have := Int.natAbs_mul h x
      omega
    have a3 : h.natAbs * x.natAbs ≤ (l.natAbs - 1) * (y.natAbs + 1) := Nat.mul_le_mul (by omega) h2
    have a4 : (l.natAbs - 1) * (y.natAbs + 1) + (y.natAbs + 1) = l.natAbs * (y.natAbs + 1) := by
      have : l.natAbs = (l.natAbs - 1) + 1 := by omega
      conv => rhs; rw [this, Nat.add_mul, Nat.one_mul]
    have a5 : l.natAbs * (y.natAbs + 1) = l.natAbs * y.natAbs + l.natAbs := by rw [Nat.mul_add, Nat.mul_one]
    generalize (l.natAbs - 1) * (y.natAbs + 1) = u at *
    generalize l.natAbs * (y.natAbs + 1) = v at *
    omega
  have k1 := key a c (-J) (by omega) wa
  have k2 := key b d I hI wb
  omega
end DL
namespace DL
/-! ML: the table of a deed; plain -/
structure DTab (a b c e p q a' w g x z o0 o1 s2 t2 : Int) : Prop where
  pz : p * z - q * x = 1
  z0 : 0 ≤ z
  z1 : z < q * (w / (Int.gcd w g : Int))
  c1 : o0 * (p * b + q * a) + o1 * (q * c) = g
  c2 : s2 * (p * b + q * a) + t2 * (q * c) = 0
  c3 : o0 * (x * b + z * a + e + q * c) + o1 * (z * c) = 0 - a'
  c4 : s2 * (x * b + z * a + e + q * c) + t2 * (z * c) = w
/-- the upper right item is the width -/
theorem tab_w {a b c e p q a' w g e' x z s t s2 t2 : Int} (hg : 0 < g) (h : IsDone a b c e p q a' w g e') (pz : p * z - q * x = 1)
    (h1 : s * (p * b + q * a) + t * (q * c) = g) (h2 : s2 * (p * b + q * a) + t2 * (q * c) = 0) (h3 : s * t2 - t * s2 = 1) : s2 * (x * b + z * a + e + q * c) + t2 * (z * c) = w := by
  have hw := wide_of (a := a) h.wi pz
  generalize hI : p * b + q * a = I at *
  generalize hJ : q * c = J at *
  generalize hK : x * b + z * a + e + J = K at *
  generalize hL : z * c = L at *
  have : g * (s2 * K + t2 * L) = g * w := by
    have e1 : (s * I + t * J) * (s2 * K + t2 * L) - (s2 * I + t2 * J) * (s * K + t * L) = (s * t2 - t * s2) * (I * L - J * K) := by grind
    rw [h1, h2, h3, hw, Int.zero_mul, Int.sub_zero, Int.one_mul, Int.mul_comm w g] at e1
    exact e1
  exact Int.eq_of_mul_eq_mul_left (by omega) this
/-- the shared divisor divides a' + low -/
theorem tab_dvd {a b c e p q a' w g e' x z s t : Int} (hg : 0 < g) (h : IsDone a b c e p q a' w g e') (pz : p * z - q * x = 1)
    (h1 : s * (p * b + q * a) + t * (q * c) = g) : (Int.gcd w g : Int) ∣ a' + (s * (x * b + z * a + e + q * c) + t * (z * c)) := by
  have G0 : 0 < (Int.gcd w g : Int) := by
    have := Int.gcd_pos_of_ne_zero_right w (show g ≠ 0 by omega)
    omega
  obtain ⟨V, hV⟩ : ∃ V, s * (x * b + z * a + e + q * c) + t * (z * c) = V := ⟨_, rfl⟩
  rw [hV]
  have k : IsDone a b c e p q ((0 - V) % (Int.gcd w g : Int)) w g e' := by
    refine ⟨h.gc, h.wi, h.tu, Int.emod_nonneg _ (by omega), Int.emod_lt_of_pos _ G0, s, t, x, z, pz, h1, ?_⟩
    rw [hV]
    exact ⟨-((0 - V) / (Int.gcd w g : Int)), by
      have := Int.mul_ediv_add_emod (0 - V) (Int.gcd w g : Int)
      rw [Int.mul_neg]
      omega⟩
  obtain ⟨e1, _⟩ := isDone_unique (by omega) h k
  rw [e1]
  exact ⟨-((0 - V) / (Int.gcd w g : Int)), by
      have := Int.mul_ediv_add_emod (0 - V) (Int.gcd w g : Int)
      rw [Int.mul_neg]
      omega⟩
/-- the turn -/
theorem tab_turn {w g V S sh A G i T : Int} (hsh : 0 < sh) (hw : w = sh * S) (hg : g = sh * G) (hA : 0 - V = sh * A) (hi : S ∣ i * G - 1) (hT : S ∣ T - A * i) : w ∣ V + T * g := by
  obtain ⟨j, hj⟩ := hi
  obtain ⟨k, hk⟩ := hT
  refine ⟨A * j + k * G, ?_⟩
  have h1 : T = A * i + S * k := by omega
  have h2 : i * G = 1 + S * j := by omega
  have h3 : V = 0 - sh * A := by omega
  rw [hw, hg, h3, h1]
  have : (A * i + S * k) * (sh * G) = sh * A * (i * G) + S * k * (sh * G) := by grind
  rw [this, h2]
  grind
theorem tab_of {a b c e p q a' w g x z s t s2 t2 T m : Int}
    (pz : p * z - q * x = 1) (h1 : s * (p * b + q * a) + t * (q * c) = g) (h2 : s2 * (p * b + q * a) + t2 * (q * c) = 0)
    (h4 : s2 * (x * b + z * a + e + q * c) + t2 * (z * c) = w) (hm : m * w = a' + (s * (x * b + z * a + e + q * c) + t * (z * c)) + T * g)
    (z0 : 0 ≤ z + T * q) (z1 : z + T * q < q * (w / (Int.gcd w g : Int))) : DTab a b c e p q a' w g (x + T * p) (z + T * q) (s - m * s2) (t - m * t2) s2 t2 := by
  have eK : (x + T * p) * b + (z + T * q) * a + e + q * c = (x * b + z * a + e + q * c) + T * (p * b + q * a) := by grind
  have eL : (z + T * q) * c = z * c + T * (q * c) := by grind
  refine ⟨by grind, z0, z1, ?_, h2, ?_, ?_⟩
  · have : (s - m * s2) * (p * b + q * a) + (t - m * t2) * (q * c) = (s * (p * b + q * a) + t * (q * c)) - m * (s2 * (p * b + q * a) + t2 * (q * c)) := by grind
    rw [this, h1, h2]; grind
  · rw [eK, eL]
    generalize p * b + q * a = I at *
    generalize q * c = J at *
    generalize x * b + z * a + e + J = K at *
    generalize z * c = L at *
    have : (s - m * s2) * (K + T * I) + (t - m * t2) * (L + T * J) = (s * K + t * L) + T * (s * I + t * J) - m * ((s2 * K + t2 * L) + T * (s2 * I + t2 * J)) := by grind
    rw [this, h1, h2, h4, Int.mul_zero, Int.add_zero, hm]
    grind
  · rw [eK, eL]
    generalize p * b + q * a = I at *
    generalize q * c = J at *
    generalize x * b + z * a + e + J = K at *
    generalize z * c = L at *
    have : s2 * (K + T * I) + t2 * (L + T * J) = (s2 * K + t2 * L) + T * (s2 * I + t2 * J) := by grind
    rw [this, h2, h4]; grind
end DL
namespace DL
open PySem PySem.Spec PyProof.Rows L2
local macro_rules | `(tactic| walk_at "rd") => `(tactic| simp only [startD, List.map, List.replicate, List.length_cons, List.length_nil, List.append_eq, List.append_nil, List.nil_append, List.cons_append, Nat.reduceSub, Nat.reduceAdd, List.getElem?_cons_zero, List.getElem?_cons_succ, List.set_cons_zero, List.set_cons_succ,
  dC, dVar, dOp, dTru, gTru, tru, dChain, dAnd, dOr, dNot, dAndV, dOrV, dNotV, dIf, dNeg, gNeg, dNil, dCons, dTup, dLst, dOwn, gIx, rBin, gAdd, gCmpI, dCall, dCallK, dSeq, dNext, dDrop, dRet, dRetN, dIfS, dName, dGNil, dGCons, dGTup, dSub, gSetL, dAsg, dPar, dPar3, dAug, gIpI, dSeqI, gSeqI, dRngI, gRng1, gRng2, dCB, gAbs, gInt, gMax, gMin, gGcd, gLen, lenD, gIsi, tyM, tyD, dBits, gBits, dMet, gAppend, dPart, dNoPart, dSl, gSl_tup, gSl_lst, cut_1, dEnds, gIs, isB, dNever, dCallX, dRaise, dTry, dFld, dCallV, gLRng, gFrz, dFrz, dFor, dLc, wipeD, dYes,
  sizeLine_eq, Nat.reduceLeDiff, gEq_int, gNe_int, gEq_strs, gNe_strs, gIn_two, gRepr_bl, rs_lst, rs_tup, rs_scr, rs_int, atI_0, atI_1, atI_2, atI_3, atI_4, atI_5, ixN_30, ixN_31, ixN_32, gEq_bl, gNe_bl, decide_eq_true_eq, beq_iff_eq, Bool.not_eq_true', beq_eq_false_iff_ne, decide_eq_false_iff_not, Bool.not_true, Bool.not_false, if_true, if_false, Bool.false_eq_true, ite_true, ite_false, true_and, and_true, ne_eq, Bool.bne_false, Bool.bne_true, reduceCtorEq])
local macro_rules | `(tactic| walk_at "rh") => `(tactic| simp only [*, startD, List.map, List.replicate, List.length_cons, List.length_nil, List.append_eq, List.append_nil, List.nil_append, List.cons_append, Nat.reduceSub, Nat.reduceAdd, List.getElem?_cons_zero, List.getElem?_cons_succ, List.set_cons_zero, List.set_cons_succ,
  dC, dVar, dOp, dTru, gTru, tru, dChain, dAnd, dOr, dNot, dAndV, dOrV, dNotV, dIf, dNeg, gNeg, dNil, dCons, dTup, dLst, dOwn, gIx, rBin, gAdd, gCmpI, dCall, dCallK, dSeq, dNext, dDrop, dRet, dRetN, dIfS, dName, dGNil, dGCons, dGTup, dSub, gSetL, dAsg, dPar, dPar3, dAug, gIpI, dSeqI, gSeqI, dRngI, gRng1, gRng2, dCB, gAbs, gInt, gMax, gMin, gGcd, gLen, lenD, gIsi, tyM, tyD, dBits, gBits, dMet, gAppend, dPart, dNoPart, dSl, gSl_tup, gSl_lst, cut_1, dEnds, gIs, isB, dNever, dCallX, dRaise, dTry, dFld, dCallV, gLRng, gFrz, dFrz, dFor, dLc, wipeD, dYes,
  sizeLine_eq, Nat.reduceLeDiff, gEq_int, gNe_int, gEq_strs, gNe_strs, gIn_two, gRepr_bl, rs_lst, rs_tup, rs_scr, rs_int, atI_0, atI_1, atI_2, atI_3, atI_4, atI_5, ixN_30, ixN_31, ixN_32, gEq_bl, gNe_bl, decide_eq_true_eq, beq_iff_eq, Bool.not_eq_true', beq_eq_false_iff_ne, decide_eq_false_iff_not, Bool.not_true, Bool.not_false, if_true, if_false, Bool.false_eq_true, ite_true, ite_false, true_and, and_true, ne_eq, Bool.bne_false, Bool.bne_true, reduceCtorEq])
local macro_rules | `(tactic| walk_at "kb") => `(tactic| simp only [kb_NoneType_list, kb_bool_list, kb_int_list, kb_str_list, kb_tuple_list, kb_list_list, kb_dict_list, kb_NoneType_int, kb_bool_int, kb_int_int, kb_str_int, kb_tuple_int, kb_list_int, kb_dict_int, kb_NoneType_bool, kb_bool_bool, kb_int_bool, kb_str_bool, kb_tuple_bool, kb_list_bool, kb_dict_bool, kb_NoneType_tuple, kb_bool_tuple, kb_int_tuple, kb_str_tuple, kb_tuple_tuple, kb_list_tuple, kb_dict_tuple, if_true, if_false, Bool.false_eq_true, ite_true, ite_false, Bool.not_true, Bool.not_false])
/-! RdII: the table of a deed -/
def sp_leddown : DSp := fun ds M Q _ => ∃ I K J L : Int, ds = [.tup [.int I, .int K], .tup [.int J, .int L]] ∧ 0 ≤ I ∧ 0 < J ∧ Bi 203 I ∧ Bi 203 J ∧ Bi 310 K ∧ Bi 310 L ∧
  ∀ s t s2 t2 : Int, s * I + t * J = (Int.gcd I J : Int) → s2 * I + t2 * J = 0 → s * t2 - t * s2 = 1 → Bi 206 s → Bi 206 t → Bi 206 s2 → Bi 206 t2 →
    Q (.tup [.tup [.int (Int.gcd I J : Int), .int (s * K + t * L)], .tup [.int 0, .int (s2 * K + t2 * L)], .tup [.int s, .int t], .tup [.int s2, .int t2]]) M
theorem rd_led_down : ∀ ds M Q, ds.length = 2 → sp_leddown ds M Q DX0 → t_led_down (dEnds M Q) (startD 10 ds) M := by
  rintro _ M Q - ⟨I, K, J, L, rfl, I0, J0, bI, bJ, bK, bL, hq⟩
  unfold t_led_down
  refine dSeq_open fun B hB => ?_
  walk_at "rd"
  rw [← hB]
  clear hB B
  refine dSeq_open fun B hB => ?_
  refine dwhile_of (fun n r M' => ∃ l h a b c d : Int, ∃ t6 t7 t8 t9, r = [some (.tup [.int I, .int K]), some (.tup [.int J, .int L]), some (.tup [.int l, .int (a * K + b * L)]), some (.tup [.int h, .int (c * K + d * L)]), some (.tup [.int a, .int b]), some (.tup [.int c, .int d]), t6, t7, t8, t9] ∧ M' = M ∧ n = h.natAbs ∧ ((l = I ∧ h = J ∧ a = 1 ∧ b = 0 ∧ c = 0 ∧ d = 1) ∨ Lad I J l h a b c d)) _ ⟨I, J, 1, 0, 0, 1, none, none, none, none, ?_, rfl, rfl, .inl ⟨rfl, rfl, rfl, rfl, rfl, rfl⟩⟩ ?_
  · have e1 : 1 * K + 0 * L = K := by omega
    have e2 : 0 * K + 1 * L = L := by omega
    rw [e1, e2]
  rintro n r M' ⟨l, h, a, b, c, d, t6, t7, t8, t9, rfl, rfl, rfl, hh⟩
  walk_at "rd"
  have hs : Bi 204 l ∧ Bi 204 h ∧ Bi 205 a ∧ Bi 205 b ∧ Bi 205 c ∧ Bi 205 d := by
    rcases hh with ⟨rfl, rfl, rfl, rfl, rfl, rfl⟩ | E
    · exact ⟨bI.mono, bJ.mono, Bi.of_abs 1 (by decide) (by decide), Bi.of_abs 1 (by decide) (by decide), Bi.of_abs 1 (by decide) (by decide), Bi.of_abs 1 (by decide) (by decide)⟩
    · obtain ⟨b1, b2, b3, b4⟩ := E.bd
      have lj := E.lj
      have ab := E.ab
      unfold Bi at *
      omega
  obtain ⟨bl, bh, ba, bb, bc, bd⟩ := hs
  by_cases z : h = 0
  · subst z
    rw [if_neg (fun w => w rfl), ← hB]
    clear hB B
    rcases hh with ⟨_, z, _⟩ | E
    · omega
    · have hg : (l.natAbs : Int) = (Int.gcd I J : Int) := by
        have := E.gc
        rw [Int.gcd_zero_right] at this
        omega
      have l0 : l ≠ 0 := by have := E.ab; omega
      have e1 := E.e1
      have e2 := E.e2
      have dt := E.dt
      have b1 : Bi 310 K := bK
      refine dSeq_open fun B hB => ?_
      walk_at "rd"
      have key : ∀ s : Int, (s = 1 ∨ s = -1) → s * l = (Int.gcd I J : Int) → B [some (.tup [.int I, .int K]), some (.tup [.int J, .int L]), some (.tup [.int l, .int (a * K + b * L)]), some (.tup [.int 0, .int (c * K + d * L)]), some (.tup [.int a, .int b]), some (.tup [.int c, .int d]), t6, t7, t8, some (.int s)] M' := fun s hs hsl => by
        rw [← hB]
        clear hB B
        have bs : Bi 2 s := by rcases hs with rfl | rfl <;> exact Bi.of_abs 1 (by decide) (by decide)
        have ss : s * s = 1 := by rcases hs with rfl | rfl <;> decide
        have bx : Bi 517 (a * K + b * L) := ((ba.mul bK).up (by decide : 515 ≤ 516)).add ((bb.mul bL).up (by decide))
        have by' : Bi 517 (c * K + d * L) := ((bc.mul bK).up (by decide : 515 ≤ 516)).add ((bd.mul bL).up (by decide))
        have n : ∀ {x : Int}, Bi 205 x → Bi 206 (s * x) := fun {x} h => by
          rcases hs with rfl | rfl
          · rw [Int.one_mul]; exact h.mono
          · rw [Int.neg_one_mul]; unfold Bi at *; omega
        have f1 : s * (a * K + b * L) = s * a * K + s * b * L := by grind
        have f2 : s * (c * K + d * L) = s * c * K + s * d * L := by grind
        refine dSeq_open fun B hB => ?_
        walk_at "rd"
        rw [Int.mul_zero, hsl, f1, f2]
        refine ⟨⟨bs.sm, bl.sm⟩, ⟨bs.sm, bx.sm⟩, ⟨bs.sm, bh.sm⟩, ⟨bs.sm, by'.sm⟩, ?_⟩
        rw [← hB]
        clear hB B
        walk_at "rd"
        exact ⟨⟨bs.sm, ba.sm⟩, ⟨bs.sm, bb.sm⟩, ⟨bs.sm, bc.sm⟩, ⟨bs.sm, bd.sm⟩, rtq (hq (s * a) (s * b) (s * c) (s * d) (by rw [← hsl, e1]; grind) (by
          have : s * c * I + s * d * J = s * (c * I + d * J) := by grind
          rw [this, ← e2, Int.mul_zero]) (by
          have : s * a * (s * d) - s * b * (s * c) = (s * s) * (a * d - b * c) := by grind
          rw [this, ss, dt]; decide) (n ba) (n bb) (n bc) (n bd)) (by rfl)⟩
      rcases (by omega : 0 < l ∨ l < 0) with hl | hl
      · rw [if_pos hl]
        exact key 1 (.inl rfl) (by omega)
      · rw [if_neg (by omega)]
        exact key (-1) (.inr rfl) (by omega)
  · rw [if_pos z]
    clear hB B
    have ht : Bi 206 (l.fdiv h) := by
      have h1 := Int.mul_fdiv_add_fmod l h
      have rr : (l.fmod h).natAbs < h.natAbs := by
        rcases (by omega : 0 < h ∨ h < 0) with hp | hp
        · have r0 := Int.fmod_nonneg_of_pos l hp
          have r1 := Int.fmod_lt_of_pos l hp
          omega
        · have := fm_neg (l := l) hp
          omega
      have h2 : h.natAbs * (l.fdiv h).natAbs ≤ l.natAbs + h.natAbs := by
        rw [← Int.natAbs_mul]; omega
      have h3 : (l.fdiv h).natAbs ≤ l.natAbs + 1 := by
        rcases Nat.lt_or_ge (l.natAbs + 1) (l.fdiv h).natAbs with w | w
        · have h4 : h.natAbs * (l.natAbs + 2) ≤ h.natAbs * (l.fdiv h).natAbs := Nat.mul_le_mul_left _ w
          have h5 : 1 * l.natAbs ≤ h.natAbs * l.natAbs := Nat.mul_le_mul_right _ (by omega)
          rw [Nat.mul_add] at h4
          omega
        · exact w
      unfold Bi at *
      omega
    have bk : Bi 517 (c * K + d * L) := ((bc.mul bK).up (by decide : 515 ≤ 516)).add ((bd.mul bL).up (by decide))
    refine ⟨⟨z, Nat.lt_of_lt_of_le (log2_of 204 bh (by decide)) (by decide)⟩, ⟨ht.sm, bh.sm⟩, ⟨ht.sm, bk.sm⟩, ⟨ht.sm, bc.sm⟩, ⟨ht.sm, bd.sm⟩, ?_⟩
    have E2 : Lad I J h (l.fdiv h * h - l) c d (l.fdiv h * c - a) (l.fdiv h * d - b) := by
      rcases hh with ⟨rfl, rfl, rfl, rfl, rfl, rfl⟩ | E
      · exact Lad.first I0 J0
      · exact E.step z
    have ek : l.fdiv h * (c * K + d * L) - (a * K + b * L) = (l.fdiv h * c - a) * K + (l.fdiv h * d - b) * L := by grind
    rw [ek]
    exact ⟨(l.fdiv h * h - l).natAbs, E2.ab, h, l.fdiv h * h - l, c, d, l.fdiv h * c - a, l.fdiv h * d - b, _, _, _, _, rfl, rfl, .inr E2⟩
/-! ### turned about -/
abbrev R4 (a b c d : Int) : D := .lst [.int a, .int b, .int c, .int d]
/-! ### the table of a deed -/
def tabD (p q x z o0 o1 s2 t2 : Int) : D := .lst [R4 0 1 t2 (-o1), R4 0 0 (-s2) o0, R4 p x (-s2 * p) (o0 * p), R4 q z (-s2 * q) (o0 * q)]
def sp_deedtable : DSp := fun ds M Q _ => ∃ a b c e p q a' w g e' : Int, ds = [T4 a b c e, .tup [.int p, .int q]] ∧ DeS a b c e p q a' w g e' ∧
  ∀ x z o0 o1 s2 t2, DTab a b c e p q a' w g x z o0 o1 s2 t2 → Bi 420 x → Bi 420 z → Q (tabD p q x z o0 o1 s2 t2) M
/-- the walk through the deed's table, up to the last call -/
theorem deed_walk {spT : DSp} {M : Mem} {Q : DQ} {a b c e p q a' w g e' : Int} (h : DeS a b c e p q a' w g e')
    (hq : ∀ x z o0 o1 s2 t2, DTab a b c e p q a' w g x z o0 o1 s2 t2 → Bi 420 x → Bi 420 z → spT [.own M.length] (M ++ [.lst [R4 0 0 p q, R4 1 0 x z, R4 t2 (-s2) (-s2 * p) (-s2 * q), R4 (-o1) o0 (o0 * p) (o0 * q)]]) (Rtq M Q) DX0) :
    t_deed_table_by sp_opposite_by sp_leddown sp_done_by spT (dEnds M Q) (startD 23 [T4 a b c e, .tup [.int p, .int q]]) M := by
  unfold t_deed_table_by
  have ck := h.cs.ck
  obtain ⟨cs', hm', g0⟩ := h.cs'
  have ck' := cs'.ck
  obtain ⟨k1, k2, k3, k4, k5, k6⟩ := cut_parts h.cs.cut
  have hp := (isDeed_parts h.deed).1
  obtain ⟨l1, l2, _⟩ := cut_parts cs'.cut
  have q1 := hp.q1
  have p0 := hp.p0
  refine dSeq_open fun B hB => ?_
  walk_at "rd"
  rw [← hB]
  clear hB B
  refine dSeq_open fun B hB => ?_
  walk_at "rd"
  rw [← hB]
  clear hB B
  refine dSeq_open fun B hB => ?_
  have hx : ∀ x : Int, 0 ≤ x + 1 → (p = 0 → x = -1) → (p ≠ 0 → x < p ∧ p ∣ 1 + q * x) → B [some (T4 a b c e), some (.tup [.int p, .int q]), some (.int a), some (.int b), some (.int c), some (.int e), some (.int p), some (.int q), some (.int x), none, none, none, none, none, none, none, none, none, none, none, none, none, none] M := by
    intro x x0 xp xd
    rw [← hB]
    clear hB B
    refine dSeq_open fun B hB => ?_
    have bx : Bi 101 x := by
      have bp := h.bp
      by_cases z : p = 0
      · rw [xp z]; exact Bi.of_abs 1 (by decide) (by decide)
      · have := xd z
        unfold Bi at *
        omega
    have hz : ∀ z : Int, p * z - q * x = 1 → Bi 202 z → B [some (T4 a b c e), some (.tup [.int p, .int q]), some (.int a), some (.int b), some (.int c), some (.int e), some (.int p), some (.int q), some (.int x), some (.int z), none, none, none, none, none, none, none, none, none, none, none, none, none] M := by
      intro z pz bz
      rw [← hB]
      clear hB B
      have b1 : Bi 203 (p * b + q * a) := ((h.bp.mul ck.bb).up (by decide : 200 ≤ 202)).add ((h.bq.mul ck.ba).up (by decide))
      have b2 : Bi 203 (q * c) := (h.bq.mul ck.bc).up (by decide)
      have b3 : Bi 310 (x * b + z * a + e + q * c) := (((((bx.mul ck.bb).up (by decide : 201 ≤ 307)).add ((bz.mul ck.ba).up (by decide))).up (by decide : 308 ≤ 308)).add (ck.be.up (by decide))).add (b2.up (by decide))
      have b4 : Bi 310 (z * c) := (bz.mul ck.bc).up (by decide)
      have J0 : 0 < q * c := Int.mul_pos (by omega) (by omega)
      have I0 : 0 ≤ p * b + q * a := Int.add_nonneg (Int.mul_nonneg p0 (by omega)) (Int.mul_nonneg (by omega) k4)
      refine dSeq_open fun B hB => ?_
      walk_at "rd"
      refine ⟨⟨h.bp.sm, ck.bb.sm⟩, ⟨h.bq.sm, ck.ba.sm⟩, ⟨bx.sm, ck.bb.sm⟩, ⟨bz.sm, ck.ba.sm⟩, ⟨h.bq.sm, ck.bc.sm⟩, ⟨h.bq.sm, ck.bc.sm⟩, ⟨bz.sm, ck.bc.sm⟩, ?_⟩
      refine ⟨_, _, _, _, rfl, I0, J0, b1, b2, b3, b4, fun s t s2 t2 r1 r2 r3 bs bt bs2 bt2 => ?_⟩
      walk_at "rd"
      rw [← h.dn.gc] at r1 ⊢
      rw [tab_w g0 h.dn pz r1 r2 r3, ← hB]
      clear hB B
      have hV := tab_dvd g0 h.dn pz r1
      have hW := tab_w g0 h.dn pz r1 r2 r3
      have bV : Bi 518 (s * (x * b + z * a + e + q * c) + t * (z * c)) := ((bs.mul b3).up (by decide : 516 ≤ 517)).add ((bt.mul b4).up (by decide))
      obtain ⟨V, eV⟩ : ∃ V, s * (x * b + z * a + e + q * c) + t * (z * c) = V := ⟨_, rfl⟩
      rw [eV] at hV bV ⊢
      obtain ⟨sh, esh⟩ : ∃ sh : Int, (Int.gcd w g : Int) = sh := ⟨_, rfl⟩
      rw [esh] at hV
      have sh0 : 0 < sh := by
        have := Int.gcd_pos_of_ne_zero_right w (show g ≠ 0 by omega)
        omega
      obtain ⟨S, hS⟩ : sh ∣ w := by rw [← esh]; exact Int.gcd_dvd_left _ _
      obtain ⟨G, hG⟩ : sh ∣ g := by rw [← esh]; exact Int.gcd_dvd_right _ _
      obtain ⟨A, hA⟩ : sh ∣ 0 - (a' + V) := by
        obtain ⟨j, hj⟩ := hV
        exact ⟨-j, by rw [hj, Int.mul_neg]; omega⟩
      have S0 : 0 < S := Int.pos_of_mul_pos_right (by rw [← hS]; omega) (by omega)
      have eS' : w / sh = S := by rw [hS, Int.mul_ediv_cancel_left _ (by omega)]
      have eS : w.fdiv sh = S := by rw [fdiv_pos sh0, hS, Int.mul_ediv_cancel_left _ (by omega)]
      have eG : g.fdiv sh = G := by rw [fdiv_pos sh0, hG, Int.mul_ediv_cancel_left _ (by omega)]
      have eA : (-V - a').fdiv sh = A := by
        have : -V - a' = sh * A := by omega
        rw [fdiv_pos sh0, this, Int.mul_ediv_cancel_left _ (by omega)]
      have cop : (Int.gcd G S : Int) = 1 := by
        have h1 : ((Int.gcd (sh * S) (sh * G) : Nat) : Int) = sh := by rw [← hS, ← hG]; exact esh
        rw [Int.gcd_mul_left, Int.natCast_mul] at h1
        have h2 : ((sh.natAbs : Nat) : Int) = sh := by omega
        rw [h2] at h1
        have h3 : sh * (Int.gcd S G : Int) = sh * 1 := by omega
        rw [Int.gcd_comm]
        exact Int.eq_of_mul_eq_mul_left (by omega) h3
      have bsh : Bi 100 sh := by
        have := ck'.bb
        refine Bi.of_dvd' ck'.bb (by omega) ⟨S, hS⟩
      have bS : Bi 100 S := Bi.of_dvd ck'.bb (by omega) hS
      have bG : Bi 100 G := Bi.of_dvd ck'.bc (by omega) hG
      have bA : Bi 520 A := Bi.of_dvd (n := 520) (((Bi.of_abs 0 (by decide) (by decide) : Bi 519 0)).sub ((ck'.ba.up (by decide : 100 ≤ 518)).add bV)) (by omega) hA
      refine dSeq_open fun B hB => ?_
      walk_at "rd"
      refine ⟨a, b, c, e, p, q, rfl, hp.q1, k2, hp.cp, h.cs.cb4, h.bp.mono, h.bq.mono, fun a2 w2 g2 e2 hd2 => ?_⟩
      obtain ⟨rfl, rfl, rfl, rfl⟩ := h.one hd2
      rw [← hB]
      clear hB B
      refine dSeq_open fun B hB => ?_
      walk_at "rd"
      rw [esh, ← hB]
      clear hB B
      refine dSeq_open fun B hB => ?_
      walk_at "rd"
      rw [eS]
      refine ⟨⟨by omega, Nat.lt_of_lt_of_le (log2_of 100 bsh (by decide)) (by decide)⟩, ?_⟩
      rw [← hB]
      clear hB B
      refine dSeq_open fun B hB => ?_
      have hT : ∀ T0 : Int, 0 ≤ T0 → T0 < S → w2 ∣ (a2 + V) + T0 * g2 → B [some (T4 a b c e), some (.tup [.int p, .int q]), some (.int a), some (.int b), some (.int c), some (.int e), some (.int p), some (.int q), some (.int x), some (.int z), some (.tup [.int g2, .int V]), some (.tup [.int 0, .int w2]), some (.tup [.int s, .int t]), some (.tup [.int s2, .int t2]), some (T4 a2 w2 g2 e2), some (.int w2), some (.int sh), some (.int S), some (.int T0), none, none, none, none] M := by
        intro T0 T00 T01 hdv
        rw [← hB]
        clear hB B
        have bT0 : Bi 100 T0 := by unfold Bi at *; omega
        have qS0 : 0 < q * S := Int.mul_pos (by omega) S0
        have bqS : Bi 200 (q * S) := h.bq.mul bS
        have m0 := Int.emod_nonneg (z + T0 * q) (show q * S ≠ 0 by omega)
        have m1 := Int.emod_lt_of_pos (z + T0 * q) qS0
        have m2 := Int.mul_ediv_add_emod (z + T0 * q) (q * S)
        obtain ⟨k, hk⟩ : ∃ k, (z + T0 * q) / (q * S) = k := ⟨_, rfl⟩
        rw [hk] at m2
        have bzT : Bi 204 (z + T0 * q) := (bz.up (by decide : 202 ≤ 203)).add ((bT0.mul h.bq).up (by decide))
        have bk : Bi 205 k := by
          have : (k).natAbs ≤ (z + T0 * q).natAbs := by rw [← hk]; exact Int.natAbs_ediv_le_natAbs _ _
          unfold Bi at *
          omega
        obtain ⟨T, hT⟩ : ∃ T, T0 - k * S = T := ⟨_, rfl⟩
        have bkS : Bi 305 (k * S) := bk.mul bS
        have bT : Bi 306 T := by rw [← hT]; exact (bT0.up (by decide : 100 ≤ 305)).sub bkS
        have ez : z + T * q = (z + T0 * q) % (q * S) := by
          have : (T0 - k * S) * q = T0 * q - q * S * k := by grind
          rw [← hT, this]; omega
        refine dSeq_open fun B hB => ?_
        walk_at "rd"
        rw [fdiv_pos qS0, hk, hT]
        refine ⟨⟨bT0.sm, h.bq.sm⟩, ⟨h.bq.sm, bS.sm⟩, ⟨by omega, Nat.lt_of_lt_of_le (log2_of 200 bqS (by decide)) (by decide)⟩, ⟨bk.sm, bS.sm⟩, ?_⟩
        rw [← hB]
        clear hB B
        obtain ⟨j, hj⟩ := hdv
        obtain ⟨mo, hmo⟩ : ∃ mo, j - k * G = mo := ⟨_, rfl⟩
        have em : a2 + V + T * g2 = w2 * mo := by
          have : (T0 - k * S) * g2 = T0 * g2 - k * S * (sh * G) := by rw [← hG]; grind
          rw [← hT, this]
          have e2 : w2 * (j - k * G) = w2 * j - sh * S * (k * G) := by rw [← hS]; grind
          rw [← hmo, e2]
          have : sh * S * (k * G) = k * S * (sh * G) := by grind
          omega
        have w0 : w2 ≠ 0 := by omega
        have bm : Bi 520 mo := Bi.of_dvd (n := 520) (((ck'.ba.up (by decide : 100 ≤ 518)).add bV).add ((bT.mul ck'.bc).up (by decide))) w0 em
        have ed : (a2 + V + T * g2).fdiv w2 = mo := by rw [fdiv_pos (by omega), em, Int.mul_ediv_cancel_left _ w0]
        refine dSeq_open fun B hB => ?_
        walk_at "rd"
        rw [ed]
        refine ⟨⟨bT.sm, ck'.bc.sm⟩, ⟨w0, Nat.lt_of_lt_of_le (log2_of 100 ck'.bb (by decide)) (by decide)⟩, ?_⟩
        rw [← hB]
        clear hB B
        have tab : DTab a b c e p q a2 w2 g2 (x + T * p) (z + T * q) (s - mo * s2) (t - mo * t2) s2 t2 :=
          tab_of pz r1 r2 hW (by rw [eV, Int.mul_comm]; omega) (by omega) (by rw [esh, eS', ez]; exact m1)
        refine dSeq_open fun B hB => ?_
        walk_at "rd"
        refine ⟨⟨bm.sm, bs2.sm⟩, ⟨bm.sm, bt2.sm⟩, ?_⟩
        rw [← hB]
        clear hB B
        have fq := hq _ _ _ _ _ _ tab (((bx.up (by decide : 101 ≤ 419)).add ((bT.mul h.bp).up (by decide)))) (((bz.up (by decide : 202 ≤ 419)).add ((bT.mul h.bq).up (by decide))))
        have bo0 : Bi 727 (s - mo * s2) := (bs.up (by decide : 206 ≤ 726)).sub (bm.mul bs2)
        obtain ⟨o0, eo0⟩ : ∃ o, s - mo * s2 = o := ⟨_, rfl⟩
        obtain ⟨o1, eo1⟩ : ∃ o, t - mo * t2 = o := ⟨_, rfl⟩
        rw [eo0] at bo0
        rw [eo0, eo1] at fq ⊢
        refine dSeq_open fun B hB => ?_
        walk_at "rd"
        refine ⟨⟨bT.sm, h.bp.sm⟩, ⟨bT.sm, h.bq.sm⟩, ?_⟩
        rw [← hB]
        clear hB B
        have mK : ∀ y : Own, (M ++ [y])[M.length]? = some y := fun y => by rw [List.getElem?_append_right (Nat.le_refl _), Nat.sub_self]; rfl
        have hset : ∀ (l : List D) (y : D), List.set (M ++ [Own.lst l]) M.length (Own.lst (l ++ [y])) = M ++ [Own.lst (l ++ [y])] := fun l y => by
          rw [List.set_append_right _ _ (Nat.le_refl _), Nat.sub_self]
          rfl
        refine dSeq_open fun B hB => ?_
        walk_at "rd"
        refine ⟨fun i r M' => i ≤ 2 ∧ M' = M ++ [.lst ([R4 0 0 p q, R4 1 0 (x + T * p) (z + T * q), R4 t2 (-s2) (-s2 * p) (-s2 * q), R4 (-o1) o0 (o0 * p) (o0 * q)].take (i + 2))] ∧ ∃ u1 u2 : Option D, r = [some (T4 a b c e), some (.tup [.int p, .int q]), some (.int a), some (.int b), some (.int c), some (.int e), some (.int p), some (.int q), some (.int x), some (.int z), some (.tup [.int g2, .int V]), some (.tup [.int 0, .int w2]), some (.tup [.int o0, .int o1]), some (.tup [.int s2, .int t2]), some (T4 a2 w2 g2 e2), some (.int w2), some (.int sh), some (.int S), some (.int T), some (.int mo), some (.own M.length), u1, u2], ⟨by decide, rfl, none, none, rfl⟩, ?_⟩
        rintro i r M' ⟨hi, rfl, u1, u2, rfl⟩
        refine ⟨trivial, fun hli => ?_, fun d hd => ?_⟩
        · have hi2 : i = 2 := by simp only [List.length_cons, List.length_nil] at hli; omega
          subst hi2
          dsimp only
          rw [← hB]
          clear hB B
          walk_at "rd"
          exact fq
        · clear hB
          have bs2' : Bi 207 (-s2) := by unfold Bi at *; omega
          rcases (by have := (List.getElem?_eq_some_iff.mp hd).1; simp only [List.length_cons, List.length_nil] at this; omega : i = 0 ∨ i = 1) with rfl | rfl
          · cases hd
            walk_at "rd"
            refine ⟨⟨_, _, rfl, mK _⟩, ⟨bs2'.sm, h.bp.sm⟩, ⟨bs2'.sm, h.bq.sm⟩, ?_⟩
            rw [mK]
            exact ⟨by show (2 : Nat) < 16777216; decide, hset _ _, _, _, rfl⟩
          · cases hd
            walk_at "rd"
            refine ⟨⟨_, _, rfl, mK _⟩, ⟨bo0.sm, h.bp.sm⟩, ⟨bo0.sm, h.bq.sm⟩, ?_⟩
            rw [mK]
            exact ⟨by show (3 : Nat) < 16777216; decide, hset _ _, _, _, rfl⟩
      walk_at "rd"
      by_cases hS1 : 1 < S
      · rw [if_pos hS1, eA, eG]
        refine ⟨⟨by omega, Nat.lt_of_lt_of_le (log2_of 100 bsh (by decide)) (by decide)⟩, ⟨by omega, Nat.lt_of_lt_of_le (log2_of 100 bsh (by decide)) (by decide)⟩, G, S, rfl, S0, bS.mono, fun i i0 i1 hi => ?_⟩
        dsimp only
        have bi : Bi 100 i := by unfold Bi at *; omega
        refine ⟨⟨bA.sm, bi.sm⟩, (show S ≠ 0 by omega), ?_⟩
        rw [fmod_pos S0]
        rw [cop] at hi
        refine hT _ (Int.emod_nonneg _ (by omega)) (Int.emod_lt_of_pos _ S0) ?_
        refine tab_turn sh0 hS hG hA hi ⟨-(A * i / S), ?_⟩
        have := Int.mul_ediv_add_emod (A * i) S
        rw [Int.mul_neg]
        omega
      · rw [if_neg hS1]
        have hS2 : S = 1 := by omega
        refine hT 0 (by decide) S0 ?_
        refine tab_turn (S := S) (A := A) (G := G) (i := 0) sh0 hS hG hA ⟨0 * G - 1, by rw [hS2]; omega⟩ ⟨0, by rw [Int.mul_zero, Int.mul_zero]; rfl⟩
    walk_at "rd"
    by_cases hp0 : p = 0
    · rw [if_pos hp0]
      have hq1 : q = 1 := by
        have := hp.cp
        rw [hp0, Int.gcd_zero_left] at this
        omega
      exact hz 0 (by rw [hp0, hq1, xp hp0]; decide) (Bi.of_abs 0 (by decide) (by decide))
    · rw [if_neg hp0]
      obtain ⟨j, hj⟩ := (xd hp0).2
      have ej : (1 + q * x).fdiv p = j := by rw [fdiv_pos (by omega), hj, Int.mul_ediv_cancel_left _ hp0]
      rw [ej]
      refine ⟨⟨h.bq.sm, bx.sm⟩, ⟨hp0, Nat.lt_of_lt_of_le (log2_of 100 h.bp (by decide)) (by decide)⟩, hz j (by omega) ?_⟩
      exact Bi.of_dvd (n := 202) (c := p) (x := 1 + q * x) ((Bi.of_abs 1 (by decide) (by decide) : Bi 201 1).add (h.bq.mul bx)) hp0 hj
  walk_at "rd"
  by_cases hp0 : p = 0
  · rw [if_pos hp0]
    exact hx (-1) (by omega) (fun _ => rfl) (fun z => absurd hp0 z)
  · rw [if_neg hp0]
    refine ⟨q, p, rfl, by omega, h.bp.mono, fun r r0 r1 hr => ?_⟩
    dsimp only
    have e0 := Int.emod_nonneg (-r) hp0
    have e1 := Int.emod_lt_of_pos (-r) (show 0 < p by omega)
    refine ⟨hp0, ?_⟩
    rw [fmod_pos (by omega)]
    refine hx _ (by omega) (fun z => absurd z hp0) (fun _ => ⟨e1, ?_⟩)
    rw [Int.gcd_comm, hp.cp] at hr
    obtain ⟨j, hj⟩ := hr
    have h2 := Int.mul_ediv_add_emod (-r) p
    refine ⟨-j - q * ((-r) / p), ?_⟩
    have h3 : (-r) % p = -r - p * ((-r) / p) := by omega
    rw [h3]
    have h4 : r * q = 1 + p * j := by omega
    grind
end DL
namespace DL
open PySem PySem.Spec PyProof.Rows L2
local macro_rules | `(tactic| walk_at "rd") => `(tactic| simp only [startD, List.map, List.replicate, List.length_cons, List.length_nil, List.append_eq, List.append_nil, List.nil_append, List.cons_append, Nat.reduceSub, Nat.reduceAdd, List.getElem?_cons_zero, List.getElem?_cons_succ, List.set_cons_zero, List.set_cons_succ,
  dC, dVar, dOp, dTru, gTru, tru, dChain, dAnd, dOr, dNot, dAndV, dOrV, dNotV, dIf, dNeg, gNeg, dNil, dCons, dTup, dLst, dOwn, gIx, rBin, gAdd, gCmpI, dCall, dCallK, dSeq, dNext, dDrop, dRet, dRetN, dIfS, dName, dGNil, dGCons, dGTup, dSub, gSetL, dAsg, dPar, dPar3, dAug, gIpI, dSeqI, gSeqI, dRngI, gRng1, gRng2, dCB, gAbs, gInt, gMax, gMin, gGcd, gLen, lenD, gIsi, tyM, tyD, dBits, gBits, dMet, gAppend, dPart, dNoPart, dSl, gSl_tup, gSl_lst, cut_1, dEnds, gIs, isB, dNever, dCallX, dRaise, dTry, dFld, dCallV, gLRng, gFrz, dFrz, dFor, dLc, wipeD, dYes,
  sizeLine_eq, Nat.reduceLeDiff, gEq_int, gNe_int, gEq_strs, gNe_strs, gIn_two, gRepr_bl, rs_lst, rs_tup, rs_scr, rs_int, atI_0, atI_1, atI_2, atI_3, atI_4, atI_5, ixN_30, ixN_31, ixN_32, gEq_bl, gNe_bl, decide_eq_true_eq, beq_iff_eq, Bool.not_eq_true', beq_eq_false_iff_ne, decide_eq_false_iff_not, Bool.not_true, Bool.not_false, if_true, if_false, Bool.false_eq_true, ite_true, ite_false, true_and, and_true, ne_eq, Bool.bne_false, Bool.bne_true, reduceCtorEq])
local macro_rules | `(tactic| walk_at "rh") => `(tactic| simp only [*, startD, List.map, List.replicate, List.length_cons, List.length_nil, List.append_eq, List.append_nil, List.nil_append, List.cons_append, Nat.reduceSub, Nat.reduceAdd, List.getElem?_cons_zero, List.getElem?_cons_succ, List.set_cons_zero, List.set_cons_succ,
  dC, dVar, dOp, dTru, gTru, tru, dChain, dAnd, dOr, dNot, dAndV, dOrV, dNotV, dIf, dNeg, gNeg, dNil, dCons, dTup, dLst, dOwn, gIx, rBin, gAdd, gCmpI, dCall, dCallK, dSeq, dNext, dDrop, dRet, dRetN, dIfS, dName, dGNil, dGCons, dGTup, dSub, gSetL, dAsg, dPar, dPar3, dAug, gIpI, dSeqI, gSeqI, dRngI, gRng1, gRng2, dCB, gAbs, gInt, gMax, gMin, gGcd, gLen, lenD, gIsi, tyM, tyD, dBits, gBits, dMet, gAppend, dPart, dNoPart, dSl, gSl_tup, gSl_lst, cut_1, dEnds, gIs, isB, dNever, dCallX, dRaise, dTry, dFld, dCallV, gLRng, gFrz, dFrz, dFor, dLc, wipeD, dYes,
  sizeLine_eq, Nat.reduceLeDiff, gEq_int, gNe_int, gEq_strs, gNe_strs, gIn_two, gRepr_bl, rs_lst, rs_tup, rs_scr, rs_int, atI_0, atI_1, atI_2, atI_3, atI_4, atI_5, ixN_30, ixN_31, ixN_32, gEq_bl, gNe_bl, decide_eq_true_eq, beq_iff_eq, Bool.not_eq_true', beq_eq_false_iff_ne, decide_eq_false_iff_not, Bool.not_true, Bool.not_false, if_true, if_false, Bool.false_eq_true, ite_true, ite_false, true_and, and_true, ne_eq, Bool.bne_false, Bool.bne_true, reduceCtorEq])
local macro_rules | `(tactic| walk_at "kb") => `(tactic| simp only [kb_NoneType_list, kb_bool_list, kb_int_list, kb_str_list, kb_tuple_list, kb_list_list, kb_dict_list, kb_NoneType_int, kb_bool_int, kb_int_int, kb_str_int, kb_tuple_int, kb_list_int, kb_dict_int, kb_NoneType_bool, kb_bool_bool, kb_int_bool, kb_str_bool, kb_tuple_bool, kb_list_bool, kb_dict_bool, kb_NoneType_tuple, kb_bool_tuple, kb_int_tuple, kb_str_tuple, kb_tuple_tuple, kb_list_tuple, kb_dict_tuple, if_true, if_false, Bool.false_eq_true, ite_true, ite_false, Bool.not_true, Bool.not_false])
/-! RdJJ: the change of a deed -/
/-- the items that a table gives are small -/
theorem tab_bi {a b c e p q a' w g e' x z o0 o1 s2 t2 : Int} (h : DeS a b c e p q a' w g e') (k : DTab a b c e p q a' w g x z o0 o1 s2 t2) : Bi 202 z ∧ Bi 305 x := by
  obtain ⟨cs', hm', g0⟩ := h.cs'
  have bw := cs'.ck.bb
  have hp := (isDeed_parts h.deed).1
  obtain ⟨l1, l2, _⟩ := cut_parts cs'.cut
  have z1 := k.z1
  have z0 := k.z0
  have hS : w / (Int.gcd w g : Int) ≤ w := Int.ediv_le_self _ (by omega)
  have h1 : q * (w / (Int.gcd w g : Int)) ≤ q * w := Int.mul_le_mul_of_nonneg_left hS (by have := hp.q1; omega)
  have b1 : Bi 200 (q * w) := h.bq.mul bw
  have bz : Bi 202 z := by
    have b2 : Bi 202 (q * w) := b1.mono
    unfold Bi at b2 ⊢
    omega
  refine ⟨bz, ?_⟩
  have e1 : p * z - 1 = q * x := by have := k.pz; omega
  exact Bi.of_dvd (n := 305) (((h.bp.mul bz).up (by decide : 302 ≤ 304)).sub (Bi.of_abs 1 (by decide) (by decide))) (by have := hp.q1; omega) e1
/-! ### vectors, looked at -/
/-! ### what a change leads a vector to -/
end DL
namespace DL
/-! MM: one turn is right; plain -/
/-- the table's law, solved for the four numbers -/
theorem DTab.sol {a b c e p q a' w g e' x z o0 o1 s2 t2 : Int} (hg : 0 < g) (hw : 0 < w) (hn : IsDone a b c e p q a' w g e') (k : DTab a b c e p q a' w g x z o0 o1 s2 t2) :
    o0 * t2 - o1 * s2 = 1 ∧ p * b + q * a = t2 * g ∧ q * c = 0 - s2 * g ∧ x * b + z * a + e + q * c = 0 - t2 * a' - o1 * w ∧ z * c = s2 * a' + o0 * w := by
  have hwi := wide_of (a := a) hn.wi k.pz
  have c1 := k.c1
  have c2 := k.c2
  have c3 := k.c3
  have c4 := k.c4
  generalize p * b + q * a = I at *
  generalize q * c = J at *
  generalize x * b + z * a + e + J = K at *
  generalize z * c = L at *
  have hd : o0 * t2 - o1 * s2 = 1 := by
    have h1 : (o0 * t2 - o1 * s2) * (I * L - J * K) = (o0 * I + o1 * J) * (s2 * K + t2 * L) - (s2 * I + t2 * J) * (o0 * K + o1 * L) := by grind
    rw [c1, c2, c4, hwi, Int.zero_mul, Int.sub_zero] at h1
    have h2 : w * g * (o0 * t2 - o1 * s2) = w * g * 1 := by rw [Int.mul_comm (w * g), h1, Int.mul_one, Int.mul_comm]
    exact Int.eq_of_mul_eq_mul_left (by have := Int.mul_pos hw hg; omega) h2
  refine ⟨hd, ?_, ?_, ?_, ?_⟩
  · have : I = t2 * (o0 * I + o1 * J) - o1 * (s2 * I + t2 * J) := by
      have : t2 * (o0 * I + o1 * J) - o1 * (s2 * I + t2 * J) = (o0 * t2 - o1 * s2) * I := by grind
      rw [this, hd, Int.one_mul]
    rw [this, c1, c2, Int.mul_zero, Int.sub_zero]
  · have : J = o0 * (s2 * I + t2 * J) - s2 * (o0 * I + o1 * J) := by
      have : o0 * (s2 * I + t2 * J) - s2 * (o0 * I + o1 * J) = (o0 * t2 - o1 * s2) * J := by grind
      rw [this, hd, Int.one_mul]
    rw [this, c1, c2, Int.mul_zero]
  · have : K = t2 * (o0 * K + o1 * L) - o1 * (s2 * K + t2 * L) := by
      have : t2 * (o0 * K + o1 * L) - o1 * (s2 * K + t2 * L) = (o0 * t2 - o1 * s2) * K := by grind
      rw [this, hd, Int.one_mul]
    rw [this, c3, c4]; grind
  · have : L = o0 * (s2 * K + t2 * L) - s2 * (o0 * K + o1 * L) := by
      have : o0 * (s2 * K + t2 * L) - s2 * (o0 * K + o1 * L) = (o0 * t2 - o1 * s2) * L := by grind
      rw [this, hd, Int.one_mul]
    rw [this, c3, c4]; grind
theorem turn_iff {w g n : Int} (hw : 0 < w) (hg : 0 < g) : w ∣ n * g ↔ (w / (Int.gcd w g : Int)) ∣ n := by
  obtain ⟨sh, esh⟩ : ∃ sh : Int, (Int.gcd w g : Int) = sh := ⟨_, rfl⟩
  have sh0 : 0 < sh := by
    have := Int.gcd_pos_of_ne_zero_right w (show g ≠ 0 by omega)
    omega
  obtain ⟨S, hS⟩ : sh ∣ w := by rw [← esh]; exact Int.gcd_dvd_left _ _
  obtain ⟨G, hG⟩ : sh ∣ g := by rw [← esh]; exact Int.gcd_dvd_right _ _
  have eS : w / sh = S := by rw [hS, Int.mul_ediv_cancel_left _ (by omega)]
  have cop : Int.gcd S G = 1 := by
    have h1 : ((Int.gcd (sh * S) (sh * G) : Nat) : Int) = sh := by rw [← hS, ← hG]; exact esh
    rw [Int.gcd_mul_left, Int.natCast_mul] at h1
    have h2 : ((sh.natAbs : Nat) : Int) = sh := by omega
    rw [h2] at h1
    have h3 : sh * (Int.gcd S G : Int) = sh * 1 := by omega
    have := Int.eq_of_mul_eq_mul_left (by omega) h3
    omega
  rw [esh, eS, hS, hG]
  constructor
  · rintro ⟨j, hj⟩
    have h1 : n * G = S * j := by
      have : sh * (n * G) = sh * (S * j) := by
        have e1 : n * (sh * G) = sh * (n * G) := by grind
        have e2 : sh * S * j = sh * (S * j) := by grind
        omega
      exact Int.eq_of_mul_eq_mul_left (by omega) this
    have h2 : S.natAbs ∣ n.natAbs * G.natAbs := by
      rw [← Int.natAbs_mul, Int.natAbs_dvd_natAbs]
      exact ⟨j, h1⟩
    have h3 : Nat.Coprime S.natAbs G.natAbs := cop
    exact Int.natAbs_dvd_natAbs.mp (h3.dvd_of_dvd_mul_right h2)
  · rintro ⟨j, rfl⟩
    exact ⟨j * G, by grind⟩
/-- which turns are right -/
theorem sums_turn {a b c e p q a' w g e' x z o0 o1 s2 t2 n : Int} (hg : 0 < g) (hw : 0 < w) (hn : IsDone a b c e p q a' w g e') (k : DTab a b c e p q a' w g x z o0 o1 s2 t2) :
    ((g ∣ 0 - q * c ∧ w ∣ (z + n * q) * c - (0 - q * c) / g * a') ∧ (g ∣ p * b + q * a ∧ w ∣ (0 - (q * c + ((x + n * p) * b + (z + n * q) * a) + e)) - (p * b + q * a) / g * a')) ↔ (w / (Int.gcd w g : Int)) ∣ n := by
  obtain ⟨hd, hI, hJ, hK, hL⟩ := k.sol hg hw hn
  rw [← turn_iff hw hg]
  have e1 : (0 - q * c) / g = s2 := by
    have : 0 - (0 - s2 * g) = s2 * g := by omega
    rw [hJ, this, Int.mul_ediv_cancel _ (by omega)]
  have e2 : (p * b + q * a) / g = t2 := by rw [hI, Int.mul_ediv_cancel _ (by omega)]
  have e3 : (z + n * q) * c - s2 * a' = o0 * w - s2 * (n * g) := by
    have : (z + n * q) * c = z * c + n * (q * c) := by grind
    rw [this, hL, hJ]; grind
  have e4 : (0 - (q * c + ((x + n * p) * b + (z + n * q) * a) + e)) - t2 * a' = o1 * w - t2 * (n * g) := by
    have : q * c + ((x + n * p) * b + (z + n * q) * a) + e = (x * b + z * a + e + q * c) + n * (p * b + q * a) := by grind
    rw [this, hK, hI]; grind
  rw [e1, e2, e3, e4]
  have d1 : g ∣ 0 - q * c := ⟨s2, by rw [hJ]; grind⟩
  have d2 : g ∣ p * b + q * a := ⟨t2, by rw [hI]; grind⟩
  have ow : ∀ u : Int, w ∣ u * w := fun u => Int.dvd_mul_left _ _
  constructor
  · rintro ⟨⟨_, h1⟩, _, h2⟩
    have h3 : w ∣ s2 * (n * g) := by
      have := Int.dvd_sub (ow o0) h1
      have e : o0 * w - (o0 * w - s2 * (n * g)) = s2 * (n * g) := by omega
      rwa [e] at this
    have h4 : w ∣ t2 * (n * g) := by
      have := Int.dvd_sub (ow o1) h2
      have e : o1 * w - (o1 * w - t2 * (n * g)) = t2 * (n * g) := by omega
      rwa [e] at this
    have e : n * g = o0 * (t2 * (n * g)) - o1 * (s2 * (n * g)) := by
      have : o0 * (t2 * (n * g)) - o1 * (s2 * (n * g)) = (o0 * t2 - o1 * s2) * (n * g) := by grind
      rw [this, hd, Int.one_mul]
    rw [e]
    exact Int.dvd_sub (Int.dvd_trans h4 (Int.dvd_mul_left _ _)) (Int.dvd_trans h3 (Int.dvd_mul_left _ _))
  · intro h
    exact ⟨⟨d1, Int.dvd_sub (ow _) (Int.dvd_trans h (Int.dvd_mul_left _ _))⟩, d2, Int.dvd_sub (ow _) (Int.dvd_trans h (Int.dvd_mul_left _ _))⟩
end DL
namespace DL
/-! MP: paths and tables as numbers -/
@[ext] structure V4 where
  a : Int
  b : Int
  c : Int
  d : Int
deriving DecidableEq
@[ext] structure M4 where
  a : V4
  b : V4
  c : V4
  d : V4
deriving DecidableEq
def V4.get (v : V4) : Nat → Int
  | 0 => v.a | 1 => v.b | 2 => v.c | _ => v.d
def M4.get (A : M4) : Nat → V4
  | 0 => A.a | 1 => A.b | 2 => A.c | _ => A.d
/-- the columns -/
def M4.T (A : M4) : M4 := ⟨⟨A.a.a, A.b.a, A.c.a, A.d.a⟩, ⟨A.a.b, A.b.b, A.c.b, A.d.b⟩, ⟨A.a.c, A.b.c, A.c.c, A.d.c⟩, ⟨A.a.d, A.b.d, A.c.d, A.d.d⟩⟩
def dot4 (v w : V4) : Int := v.a * w.a + v.b * w.b + v.c * w.c + v.d * w.d
def M4.led (A : M4) (v : V4) : V4 := ⟨dot4 A.a v, dot4 A.b v, dot4 A.c v, dot4 A.d v⟩
def crs (v w : V4) : Int := v.a * w.b - v.b * w.a + v.c * w.d - v.d * w.c
def bse : Nat → V4
  | 0 => ⟨1, 0, 0, 0⟩ | 1 => ⟨0, 1, 0, 0⟩ | 2 => ⟨0, 0, 1, 0⟩ | _ => ⟨0, 0, 0, 1⟩
def M4.one : M4 := ⟨bse 0, bse 1, bse 2, bse 3⟩
def M4.mul (A B : M4) : M4 := M4.T ⟨A.led B.T.a, A.led B.T.b, A.led B.T.c, A.led B.T.d⟩
def Keeps (A : M4) : Prop := ∀ i, i < 4 → ∀ j, j < 4 → crs (A.T.get i) (A.T.get j) = crs (bse i) (bse j)
/-- the root's work on a path -/
def rtd (a b c e : Int) (v : V4) : V4 := ⟨e * v.a + b * v.c + a * v.d, e * v.b + c * v.d, c * v.a - a * v.b, b * v.b⟩
/-- the deed's table -/
def tabM (p q x z o0 o1 s2 t2 : Int) : M4 := ⟨⟨0, 1, t2, -o1⟩, ⟨0, 0, -s2, o0⟩, ⟨p, x, -s2 * p, o0 * p⟩, ⟨q, z, -s2 * q, o0 * q⟩⟩
theorem crs_anti (v w : V4) : crs v w = 0 - crs w v := by unfold crs; grind
theorem keeps_of {A : M4} (h1 : crs A.T.a A.T.b = 1) (h2 : crs A.T.c A.T.d = 1) (h3 : crs A.T.a A.T.c = 0) (h4 : crs A.T.a A.T.d = 0) (h5 : crs A.T.b A.T.c = 0) (h6 : crs A.T.b A.T.d = 0) : Keeps A := by
  intro i hi j hj
  have s : ∀ v : V4, crs v v = 0 := fun v => by unfold crs; grind
  have t : ∀ v w : V4, crs w v = 0 - crs v w := fun v w => crs_anti w v
  rcases (by omega : i = 0 ∨ i = 1 ∨ i = 2 ∨ i = 3) with rfl | rfl | rfl | rfl <;> rcases (by omega : j = 0 ∨ j = 1 ∨ j = 2 ∨ j = 3) with rfl | rfl | rfl | rfl
  · exact s A.T.a
  · exact h1
  · exact h3
  · exact h4
  · exact (t A.T.a A.T.b).trans (congrArg (0 - ·) h1)
  · exact s A.T.b
  · exact h5
  · exact h6
  · exact (t A.T.a A.T.c).trans (congrArg (0 - ·) h3)
  · exact (t A.T.b A.T.c).trans (congrArg (0 - ·) h5)
  · exact s A.T.c
  · exact h2
  · exact (t A.T.a A.T.d).trans (congrArg (0 - ·) h4)
  · exact (t A.T.b A.T.d).trans (congrArg (0 - ·) h6)
  · exact (t A.T.c A.T.d).trans (congrArg (0 - ·) h2)
  · exact s A.T.d
def V4.lin (u : V4) (s : Int) (v : V4) : V4 := ⟨u.a + s * v.a, u.b + s * v.b, u.c + s * v.c, u.d + s * v.d⟩
theorem tab_keeps {a b c e p q a' w g e' x z o0 o1 s2 t2 : Int} (hg : 0 < g) (hw : 0 < w) (hn : IsDone a b c e p q a' w g e') (k : DTab a b c e p q a' w g x z o0 o1 s2 t2) : Keeps (tabM p q x z o0 o1 s2 t2) := by
  obtain ⟨hd, _⟩ := k.sol hg hw hn
  have pz := k.pz
  refine keeps_of ?_ ?_ ?_ ?_ ?_ ?_ <;> simp only [crs, M4.T, tabM]
  · grind
  · grind
  · grind
  · grind
  · have : 1 * -s2 - 0 * t2 + x * (-s2 * q) - z * (-s2 * p) = -s2 + s2 * (p * z - q * x) := by grind
    rw [this, pz]; grind
  · have : 1 * o0 - 0 * -o1 + x * (o0 * q) - z * (o0 * p) = o0 - o0 * (p * z - q * x) := by grind
    rw [this, pz]; grind
theorem tab_root {a b c e p q a' w g e' x z o0 o1 s2 t2 : Int} (hg : 0 < g) (hw : 0 < w) (hn : IsDone a b c e p q a' w g e') (k : DTab a b c e p q a' w g x z o0 o1 s2 t2) (i : Nat) (hi : i < 4) :
    rtd a b c e ((tabM p q x z o0 o1 s2 t2).T.get i) = ((tabM p q x z o0 o1 s2 t2).led (rtd a' w g e' (bse i))).lin (e + q * c) ((tabM p q x z o0 o1 s2 t2).T.get i) := by
  obtain ⟨hd, hI, hJ, hK, hL⟩ := k.sol hg hw hn
  have pz := k.pz
  have tu := hn.tu
  rcases (by omega : i = 0 ∨ i = 1 ∨ i = 2 ∨ i = 3) with rfl | rfl | rfl | rfl
  · ext <;> simp only [rtd, M4.T, tabM, M4.get, V4.lin, M4.led, dot4, bse] <;> grind
  · ext <;> simp only [rtd, M4.T, tabM, M4.get, V4.lin, M4.led, dot4, bse] <;> grind
  · ext <;> simp only [rtd, M4.T, tabM, M4.get, V4.lin, M4.led, dot4, bse] <;> grind
  · ext <;> simp only [rtd, M4.T, tabM, M4.get, V4.lin, M4.led, dot4, bse] <;> grind
end DL
namespace DL
open PySem PySem.Spec PyProof.Rows L2
local macro_rules | `(tactic| walk_at "rd") => `(tactic| simp only [startD, List.map, List.replicate, List.length_cons, List.length_nil, List.append_eq, List.append_nil, List.nil_append, List.cons_append, Nat.reduceSub, Nat.reduceAdd, List.getElem?_cons_zero, List.getElem?_cons_succ, List.set_cons_zero, List.set_cons_succ,
  dC, dVar, dOp, dTru, gTru, tru, dChain, dAnd, dOr, dNot, dAndV, dOrV, dNotV, dIf, dNeg, gNeg, dNil, dCons, dTup, dLst, dOwn, gIx, rBin, gAdd, gCmpI, dCall, dCallK, dSeq, dNext, dDrop, dRet, dRetN, dIfS, dName, dGNil, dGCons, dGTup, dSub, gSetL, dAsg, dPar, dPar3, dAug, gIpI, dSeqI, gSeqI, dRngI, gRng1, gRng2, dCB, gAbs, gInt, gMax, gMin, gGcd, gLen, lenD, gIsi, tyM, tyD, dBits, gBits, dMet, gAppend, dPart, dNoPart, dSl, gSl_tup, gSl_lst, cut_1, dEnds, gIs, isB, dNever, dCallX, dRaise, dTry, dFld, dCallV, gLRng, gFrz, dFrz, dFor, dLc, wipeD, dYes,
  sizeLine_eq, Nat.reduceLeDiff, gEq_int, gNe_int, gEq_strs, gNe_strs, gIn_two, gRepr_bl, rs_lst, rs_tup, rs_scr, rs_int, atI_0, atI_1, atI_2, atI_3, atI_4, atI_5, ixN_30, ixN_31, ixN_32, gEq_bl, gNe_bl, decide_eq_true_eq, beq_iff_eq, Bool.not_eq_true', beq_eq_false_iff_ne, decide_eq_false_iff_not, Bool.not_true, Bool.not_false, if_true, if_false, Bool.false_eq_true, ite_true, ite_false, true_and, and_true, ne_eq, Bool.bne_false, Bool.bne_true, reduceCtorEq])
local macro_rules | `(tactic| walk_at "rh") => `(tactic| simp only [*, startD, List.map, List.replicate, List.length_cons, List.length_nil, List.append_eq, List.append_nil, List.nil_append, List.cons_append, Nat.reduceSub, Nat.reduceAdd, List.getElem?_cons_zero, List.getElem?_cons_succ, List.set_cons_zero, List.set_cons_succ,
  dC, dVar, dOp, dTru, gTru, tru, dChain, dAnd, dOr, dNot, dAndV, dOrV, dNotV, dIf, dNeg, gNeg, dNil, dCons, dTup, dLst, dOwn, gIx, rBin, gAdd, gCmpI, dCall, dCallK, dSeq, dNext, dDrop, dRet, dRetN, dIfS, dName, dGNil, dGCons, dGTup, dSub, gSetL, dAsg, dPar, dPar3, dAug, gIpI, dSeqI, gSeqI, dRngI, gRng1, gRng2, dCB, gAbs, gInt, gMax, gMin, gGcd, gLen, lenD, gIsi, tyM, tyD, dBits, gBits, dMet, gAppend, dPart, dNoPart, dSl, gSl_tup, gSl_lst, cut_1, dEnds, gIs, isB, dNever, dCallX, dRaise, dTry, dFld, dCallV, gLRng, gFrz, dFrz, dFor, dLc, wipeD, dYes,
  sizeLine_eq, Nat.reduceLeDiff, gEq_int, gNe_int, gEq_strs, gNe_strs, gIn_two, gRepr_bl, rs_lst, rs_tup, rs_scr, rs_int, atI_0, atI_1, atI_2, atI_3, atI_4, atI_5, ixN_30, ixN_31, ixN_32, gEq_bl, gNe_bl, decide_eq_true_eq, beq_iff_eq, Bool.not_eq_true', beq_eq_false_iff_ne, decide_eq_false_iff_not, Bool.not_true, Bool.not_false, if_true, if_false, Bool.false_eq_true, ite_true, ite_false, true_and, and_true, ne_eq, Bool.bne_false, Bool.bne_true, reduceCtorEq])
local macro_rules | `(tactic| walk_at "kb") => `(tactic| simp only [kb_NoneType_list, kb_bool_list, kb_int_list, kb_str_list, kb_tuple_list, kb_list_list, kb_dict_list, kb_NoneType_int, kb_bool_int, kb_int_int, kb_str_int, kb_tuple_int, kb_list_int, kb_dict_int, kb_NoneType_bool, kb_bool_bool, kb_int_bool, kb_str_bool, kb_tuple_bool, kb_list_bool, kb_dict_bool, kb_NoneType_tuple, kb_bool_tuple, kb_int_tuple, kb_str_tuple, kb_tuple_tuple, kb_list_tuple, kb_dict_tuple, if_true, if_false, Bool.false_eq_true, ite_true, ite_false, Bool.not_true, Bool.not_false])
/-! RdKK: tables of deeds -/
theorem lsqD_res {M : Mem} {d : D} {l : List D} (h : res M d = .lst l) : ∃ C : Mem → Prop, lsqD M d = some (l, C) ∧ C M := by
  cases d <;> first | (cases h; done) | skip
  · cases h; exact ⟨_, rfl, trivial⟩
  · rename_i k
    unfold res at h
    dsimp only at h
    split at h
    · rename_i ds hk
      cases h
      unfold lsqD
      simp only [hk]
      exact ⟨_, rfl, hk⟩
    · cases h
theorem zip_lcW {x y : D} {l1 l2 : List D} {r : Env} {M : Mem} {Q : DQ} {u1 u2 : Nat} {te : DTE} (hx : res M x = .lst l1) (hy : res M y = .lst l2) (hz : (List.zipWith pairD l1 l2).length ≤ 100) (f : D → D → D) (h12 : u1 < r.length ∧ u2 < r.length)
    (step : ∀ p q, pairD p q ∈ List.zipWith pairD l1 l2 → ∀ (Y : D → Mem → Prop), Y (f p q) M → te ((r.set u1 (some p)).set u2 (some q)) M Y)
    (q : Q (.lst (List.zipWith f l1 l2)) M) : gZip [x, y] M fun ds C M0 => lcW false ds C (dGTup 2 (dGCons (dName u1) (dGCons (dName u2) dGNil))) dYes te r M0 Q := by
  obtain ⟨C1, e1, c1⟩ := lsqD_res hx
  obtain ⟨C2, e2, c2⟩ := lsqD_res hy
  unfold gZip
  simp only [e1, e2]
  have hf : List.filterMap (fun d => match d with | .tup [p, q] => some (f p q) | _ => none) (List.zipWith pairD l1 l2) = List.zipWith f l1 l2 := by
    clear hx hy hz step q e1 e2
    induction l1 generalizing l2 with
    | nil => rfl
    | cons a l ih =>
      cases l2 with
      | nil => rfl
      | cons b m =>
        rw [List.zipWith_cons_cons, List.zipWith_cons_cons, List.filterMap_cons]
        show f a b :: _ = _
        rw [ih]
  refine lcW_pure (fun d => match d with | .tup [p, q] => some (f p q) | _ => none) ⟨c1, c2⟩ (by rw [sizeLine_eq]; omega) (fun d hd Y N hy => ?_) (by rw [hf]; exact q)
  obtain ⟨i, hi⟩ := List.getElem?_of_mem hd
  obtain ⟨p, q', _, _, rfl⟩ := zip_get hi
  walk_at "rd"
  unfold pairD at hy ⊢
  walk_at "rd"
  exact step p q' hd _ hy
theorem res_new {M : Mem} {l : List D} : res (M ++ [.lst l]) (.own M.length) = .lst l := by
  unfold res
  dsimp only
  rw [List.getElem?_append_right (Nat.le_refl _), Nat.sub_self]
  rfl
theorem rd_l_common_b8b4 : ∀ ds M Q, ds.length = 2 → sp_gcd ds M Q DX0 → t_l_common_b8b4 (dEnds M Q) (startD 4 ds) M := by
  rintro _ M Q - ⟨a, b, rfl, q⟩
  unfold t_l_common_b8b4
  walk_at "rd"
  refine dwhile_of (fun n r M' => ∃ l h : Int, r = [some (.int a), some (.int b), some (.int l), some (.int h)] ∧ M' = M ∧ 0 ≤ l ∧ 0 ≤ h ∧ Int.gcd l h = Int.gcd a b ∧ n = h.toNat) _ ⟨_, _, rfl, rfl, ?_, ?_, gcd_abs a b, rfl⟩ ?_
  · split <;> omega
  · split <;> omega
  · rintro n r M' ⟨l, h, rfl, rfl, hl, hh, hg, rfl⟩
    walk_at "rd"
    split
    · rename_i h0
      have hp : 0 < h := by omega
      refine ⟨(show h ≠ 0 by omega), _, ?_, h, l.fmod h, rfl, hh, ?_, (gcd_step hl hp).trans hg, rfl⟩
      · have := fm_range (a := l) hp
        omega
      · exact (fm_range (a := l) hp).1
    · rename_i h0
      have h0 : h = 0 := by omega
      subst h0
      rw [← hg, gcd_end hl] at q
      exact rtq q
theorem rd_l_crossing_3f18 : ∀ ds M Q, ds.length = 2 → sp_crossing ds M Q DX0 → t_l_crossing_3f18 (dEnds M Q) (startD 2 ds) M := by
  rintro _ M Q - ⟨p, q, a, b, c, d, u, v, w, x, rfl, hp, hq, ⟨ba, bb, bc, bd⟩, ⟨bu, bv, bw, bx⟩, h⟩
  unfold t_l_crossing_3f18
  walk_at "rd"
  simp only [hp, hq]
  walk_at "rd"
  exact ⟨⟨ba.sm, bv.sm⟩, ⟨bb.sm, bu.sm⟩, ⟨bc.sm, bx.sm⟩, ⟨bd.sm, bw.sm⟩, rtq h⟩
def sp_lcutting41 : DSp := fun ds M Q _ => ∃ (k : Nat) (t n : Int), ds = [.own k, .int t] ∧ 0 < t ∧ t ≤ 10 ^ 13 ∧ Gn k n M ∧ n ≤ P40 - 20000 ∧ ∀ a b c e M', isCut a b c e = true → (b ≤ 4 * t ∧ c ≤ 4 * t ∧ -(6 * t) ≤ e ∧ e ≤ 4 * t) → Gst k (n + 10000) M M' → Q (T4 a b c e) M'
theorem rd_l_cutting_f2c0 : ∀ ds M Q, ds.length = 2 → sp_lcutting41 ds M Q DX0 → t_l_cutting_f2c0 sp_random sp_gcd sp_lis_cutting (dEnds M Q) (startD 8 ds) M := by
  rintro _ M Q - ⟨k, t, n, rfl, t0, t1, hg, hn, q⟩
  have p20 := p400_ten (i := 20) (by decide)
  have p9 := p400_900
  have bt : Bi 44 t := Bi.of_abs (10 ^ 13) (by omega)
  have s2 : Sm 2 := Sm.of 2 (by decide)
  unfold t_l_cutting_f2c0
  refine dSeq_open fun B0 hB0 => ?_
  walk_at "rd"
  refine ⟨⟨by decide, by decide⟩, ?_⟩
  refine ⟨fun i r M' => i ≤ 30 ∧ Gst k (n + 300 * i) M M' ∧ ∃ a2 a3 a4 a5 a6 a7, r = [some (.own k), some (.int t), a2, a3, a4, a5, a6, a7], ⟨by omega, Gst.refl (hg.le (by omega)), _, _, _, _, _, _, rfl⟩, ?_⟩
  rintro i r M1 ⟨hi, g1, a2, a3, a4, a5, a6, a7, rfl⟩
  refine ⟨trivial, fun hl => ?_, fun d hd => ?_⟩
  · dsimp only
    rw [← hB0]
    walk_at "rd"
    have hc : isCut 0 (1 + t) 1 (0 - 1) = true := by
      have h1 : Int.gcd (1 + t) 1 = 1 := Int.gcd_one_right _
      unfold isCut
      rw [h1]
      rw [decide_eq_true (show 1 ≤ 1 + t by omega), decide_eq_true (show (1 : Int) + (0 - 1) < 1 + t by omega)]
      rfl
    exact g1.rtq (q 0 (1 + t) 1 (0 - 1) M1 hc ⟨by omega, by omega, by omega, by omega⟩ (g1.le (by omega)))
  · clear hB0
    obtain ⟨hi2, rfl⟩ := rng_get.mp hd
    have hi2 : i < 30 := hi2
    refine dSeq_open fun B hB => ?_
    walk_at "rd"
    refine ⟨k, t, _, rfl, t0, by omega, g1.2.1, by omega, fun x M2 x0 x1 g2 => ?_⟩
    dsimp only
    refine ⟨k, t, _, rfl, t0, by omega, g2.2.1, by omega, fun y M3 y0 y1 g3 => ?_⟩
    dsimp only
    rw [← hB]
    clear hB B
    have G3 := (g1.trans g2).trans g3
    refine dSeq_open fun B hB => ?_
    have key : ∀ (b c : Int) (a5 : Option D) (M4 : Mem) (m : Int), 1 ≤ b → 1 ≤ c → b ≤ 4 * t → c ≤ 4 * t → m ≤ n + 300 * i + 160 → Gst k m M M4 → B [some (.own k), some (.int t), some (.int (0 + i)), some (.int b), some (.int c), a5, a6, a7] M4 := by
      intro b c a5 M4 m b0 c0 b1 c1 hm G4
      rw [← hB]
      clear hB B
      refine dSeq_open fun B2 hB2 => ?_
      walk_at "rd"
      refine ⟨⟨s2, bt.sm⟩, k, _, _, rfl, by omega, by omega, G4.2.1, by omega, fun z M5 z0 z1 g5 => ?_⟩
      dsimp only
      rw [← hB2]
      clear hB2 B2
      refine dSeq_open fun B2 hB2 => ?_
      walk_at "rd"
      refine ⟨b, c, rfl, ?_⟩
      dsimp only
      have hgp := gcd_bound (g := b) (b := c) (by omega)
      refine ⟨k, _, _, rfl, by omega, by omega, g5.2.1, by omega, fun w M6 w0 w1 g6 => ?_⟩
      dsimp only
      have G6 := (G4.trans g5).trans g6
      rw [← hB2]
      clear hB2 B2
      walk_at "rd"
      refine ⟨w, b, c, _, rfl, ?_⟩
      dsimp only
      cases hc : isCut w b c (b - c - 1 - z) with
      | true =>
        rw [if_pos rfl]
        exact G6.rtq (q w b c _ M6 hc ⟨by omega, by omega, by omega, by omega⟩ (G6.le (by omega)))
      | false =>
        rw [if_neg (by decide)]
        exact ⟨by omega, G6.le (by omega), _, _, _, _, _, _, rfl⟩
    clear hB
    walk_at "rd"
    refine ⟨k, 3, _, rfl, by decide, by omega, G3.2.1, by omega, fun v M4 v0 v1 g4 => ?_⟩
    have G4 := G3.trans g4
    dsimp only
    rw [gEq_int]
    by_cases hv : v = 0
    · have e : (v == 0) = true := by simp [hv]
      rw [e]
      dsimp only
      rw [if_pos rfl]
      refine ⟨k, 3, _, rfl, by decide, by omega, G4.2.1, by omega, fun w M5 w0 w1 g5 => ?_⟩
      have G5 := G4.trans g5
      dsimp only
      have bx : Bi 44 (1 + x) := Bi.of_abs (10 ^ 13 + 1) (by omega)
      have by' : Bi 44 (1 + y) := Bi.of_abs (10 ^ 13 + 1) (by omega)
      have bw : Bi 3 (2 + w) := Bi.of_abs 4 (by omega)
      have hlo : ∀ u : Int, 0 ≤ u → u < t → 1 ≤ (1 + u) * (2 + w) ∧ (1 + u) * (2 + w) ≤ 4 * t := by
        intro u u0 u1
        rcases (by omega : w = 0 ∨ w = 1 ∨ w = 2) with rfl | rfl | rfl <;> omega
      exact ⟨⟨bx.sm, bw.sm⟩, ⟨by'.sm, bw.sm⟩, key _ _ _ M5 _ (hlo x x0 x1).1 (hlo y y0 y1).1 (hlo x x0 x1).2 (hlo y y0 y1).2 (by omega) G5⟩
    · have e : (v == 0) = false := by simpa using hv
      rw [e]
      dsimp only
      rw [if_neg (by decide)]
      exact key _ _ _ M4 _ (by omega) (by omega) (by omega) (by omega) (by omega) G4
/-! ### tables -/
abbrev V4.D (v : V4) : D := R4 v.a v.b v.c v.d
abbrev M4.D (A : M4) : D := .lst [A.a.D, A.b.D, A.c.D, A.d.D]
structure V4.bi (n : Nat) (v : V4) : Prop where
  a : Bi n v.a
  b : Bi n v.b
  c : Bi n v.c
  d : Bi n v.d
structure M4.bi (n : Nat) (A : M4) : Prop where
  a : A.a.bi n
  b : A.b.bi n
  c : A.c.bi n
  d : A.d.bi n
theorem V4.bi.up {n k : Nat} {v : V4} (h : v.bi n) (hk : n ≤ k) : v.bi k := ⟨h.a.up hk, h.b.up hk, h.c.up hk, h.d.up hk⟩
theorem M4.bi.up {n k : Nat} {A : M4} (h : A.bi n) (hk : n ≤ k) : A.bi k := ⟨h.a.up hk, h.b.up hk, h.c.up hk, h.d.up hk⟩
theorem M4.bi.T {n : Nat} {A : M4} (h : A.bi n) : A.T.bi n := ⟨⟨h.a.a, h.b.a, h.c.a, h.d.a⟩, ⟨h.a.b, h.b.b, h.c.b, h.d.b⟩, ⟨h.a.c, h.b.c, h.c.c, h.d.c⟩, ⟨h.a.d, h.b.d, h.c.d, h.d.d⟩⟩
/-- d stands there for the table A -/
def TabR (M : Mem) (d : D) (A : M4) : Prop := ∃ x0 x1 x2 x3 : D, res M d = .lst [x0, x1, x2, x3] ∧ res M x0 = A.a.D ∧ res M x1 = A.b.D ∧ res M x2 = A.c.D ∧ res M x3 = A.d.D
theorem TabR.pure (M : Mem) (A : M4) : TabR M A.D A := ⟨_, _, _, _, rfl, rfl, rfl, rfl, rfl⟩
theorem res_app {M G : Mem} {x : D} {l : List D} (h : res M x = .lst l) : res (M ++ G) x = .lst l := by
  rcases isL h with rfl | ⟨k, rfl, hk⟩
  · rfl
  · have hl := (List.getElem?_eq_some_iff.mp hk).1
    unfold res
    dsimp only
    rw [List.getElem?_append_left hl, hk]
theorem TabR.app {M : Mem} {d : D} {A : M4} (h : TabR M d A) (G : Mem) : TabR (M ++ G) d A := by
  obtain ⟨x0, x1, x2, x3, e, h0, h1, h2, h3⟩ := h
  exact ⟨x0, x1, x2, x3, res_app e, res_app h0, res_app h1, res_app h2, res_app h3⟩
theorem gIx_lst {x d : D} {l : List D} {i : Int} {M : Mem} {Q : DQ} (h : res M x = .lst l) (hi : atI l i = some d) (q : Q d M) : gIx x (.int i) M Q := by
  unfold gIx
  rw [h]
  dsimp only
  rw [hi]
  exact q
theorem gSeqI_lst {d : D} {l : List D} {M : Mem} {R : List D → (Mem → Prop) → Mem → Prop} (h : res M d = .lst l) (k : ∀ C : Mem → Prop, C M → R l C M) : gSeqI d M R := by
  rcases isL h with rfl | ⟨j, rfl, hj⟩
  · exact k _ trivial
  · unfold gSeqI
    dsimp only
    rw [hj]
    exact k _ hj
def sp_lcols4 : DSp := fun ds M Q _ => ∃ (y : D) (A : M4), ds = [y] ∧ TabR M y A ∧ Q A.T.D M
theorem rd_l_columns_d906 : ∀ ds M Q, ds.length = 1 → sp_lcols4 ds M Q DX0 → t_l_columns_d906 (dEnds M Q) (startD 3 ds) M := by
  rintro _ M Q - ⟨y, A, rfl, ⟨x0, x1, x2, x3, hy, h0, h1, h2, h3⟩, q⟩
  unfold t_l_columns_d906
  have inner : ∀ (i : Int) (r0 r1 r2 r3 : D) (C : Mem → Prop) (Y : DQ), C M → atI [.int A.a.a, .int A.a.b, .int A.a.c, .int A.a.d] i = some r0 → atI [.int A.b.a, .int A.b.b, .int A.b.c, .int A.b.d] i = some r1 →
      atI [.int A.c.a, .int A.c.b, .int A.c.c, .int A.c.d] i = some r2 → atI [.int A.d.a, .int A.d.b, .int A.d.c, .int A.d.d] i = some r3 → Y (.lst [r0, r1, r2, r3]) M →
      lcW false [x0, x1, x2, x3] C (dName 2) dYes (dOp gIx (dVar 2) (dVar 1)) [some y, some (.int i), none] M Y := by
    intro i r0 r1 r2 r3 C Y hC e0 e1 e2 e3 hY
    refine lcW_idx (ys := [r0, r1, r2, r3]) rfl hC (by rw [sizeLine_eq]; exact Nat.le_of_ble_eq_true rfl) (fun j d w hd hw Z N' hz => ?_) hY
    rcases (by have := (List.getElem?_eq_some_iff.mp hw).1; simp only [List.length_cons, List.length_nil] at this; omega : j = 0 ∨ j = 1 ∨ j = 2 ∨ j = 3) with rfl | rfl | rfl | rfl
    · cases hd; cases hw; exact gIx_lst h0 e0 hz
    · cases hd; cases hw; exact gIx_lst h1 e1 hz
    · cases hd; cases hw; exact gIx_lst h2 e2 hz
    · cases hd; cases hw; exact gIx_lst h3 e3 hz
  walk_at "rd"
  refine ⟨by unfold Rg; decide, ?_⟩
  refine lcW_idx (ys := [A.T.a.D, A.T.b.D, A.T.c.D, A.T.d.D]) (by rfl) trivial (by rw [sizeLine_eq]; exact Nat.le_of_ble_eq_true rfl) (fun j d w hd hw Z N' hz => ?_) (rtq q (by rfl))
  obtain ⟨_, rfl⟩ := rng_get.mp hd
  have hj := (List.getElem?_eq_some_iff.mp hw).1
  show gSeqI y M fun ds C M1 => lcW false ds C (dName 2) dYes (dOp gIx (dVar 2) (dVar 1)) [some y, some (.int (0 + (j : Int))), none] M1 Z
  exact gSeqI_lst hy fun C hC => by
    rcases (by simp only [List.length_cons, List.length_nil] at hj; omega : j = 0 ∨ j = 1 ∨ j = 2 ∨ j = 3) with rfl | rfl | rfl | rfl
    · cases hw; exact inner 0 _ _ _ _ C Z hC rfl rfl rfl rfl hz
    · cases hw; exact inner 1 _ _ _ _ C Z hC rfl rfl rfl rfl hz
    · cases hw; exact inner 2 _ _ _ _ C Z hC rfl rfl rfl rfl hz
    · cases hw; exact inner 3 _ _ _ _ C Z hC rfl rfl rfl rfl hz
/-! ### a path led -/
theorem zipS_lcW {x y : D} {l1 l2 : List D} {r : Env} {M : Mem} {Q : DQ} {u1 u2 : Nat} {te : DTE} (hx : res M x = .lst l1) (hy : res M y = .lst l2) (hl : l1.length = l2.length) (hz : (List.zipWith pairD l1 l2).length ≤ 100) (f : D → D → D) (h12 : u1 < r.length ∧ u2 < r.length)
    (step : ∀ p q, pairD p q ∈ List.zipWith pairD l1 l2 → ∀ (Y : D → Mem → Prop), Y (f p q) M → te ((r.set u1 (some p)).set u2 (some q)) M Y)
    (q : Q (.lst (List.zipWith f l1 l2)) M) : gZipS [x, y] M fun ds C M0 => lcW false ds C (dGTup 2 (dGCons (dName u1) (dGCons (dName u2) dGNil))) dYes te r M0 Q := by
  have h := zip_lcW (te := te) (r := r) (u1 := u1) (u2 := u2) (Q := Q) hx hy hz f h12 step q
  obtain ⟨C1, e1, c1⟩ := lsqD_res hx
  obtain ⟨C2, e2, c2⟩ := lsqD_res hy
  unfold gZip at h
  unfold gZipS
  simp only [e1, e2] at h ⊢
  exact ⟨hl, h⟩
def mulD : D → D → D
  | .int i, .int j => .int (i * j)
  | _, _ => .non
def sp_tled : DSp := fun ds M Q _ => ∃ (x y : D) (A : M4) (v : V4), ds = [x, y] ∧ TabR M x A ∧ res M y = v.D ∧ A.bi 900 ∧ v.bi 900 ∧ Q (A.led v).D M
theorem rd_l_led_3b4c : ∀ ds M Q, ds.length = 2 → sp_tled ds M Q DX0 → t_l_led_3b4c (dEnds M Q) (startD 5 ds) M := by
  rintro _ M Q - ⟨x, y, A, v, rfl, ⟨x0, x1, x2, x3, hx, h0, h1, h2, h3⟩, hy, bA, bv, q⟩
  unfold t_l_led_3b4c
  show gSeqI x M fun ds C M1 => lcW false ds C (dName 2) dYes (dCB gSum (dCons (dLc false (dRngI gZip (dCons (dVar 2) (dCons (dVar 1) dNil))) (dGTup 2 (dGCons (dName 3) (dGCons (dName 4) dGNil))) dYes (dOp (rBin CMul fun i j => i * j) (dVar 3) (dVar 4)) [3, 4]) dNil)) [some x, some y, none, none, none] M1 (Rtq M Q)
  refine gSeqI_lst hx fun C hC => ?_
  have row : ∀ (r : D) (w : V4) (u2 u3 u4 : Option D) (Y : D → Mem → Prop), res M r = w.D → w.bi 900 → Y (.int (dot4 w v)) M → dCB gSum (dCons (dLc false (dRngI gZip (dCons (dVar 2) (dCons (dVar 1) dNil))) (dGTup 2 (dGCons (dName 3) (dGCons (dName 4) dGNil))) dYes (dOp (rBin CMul fun i j => i * j) (dVar 3) (dVar 4)) [3, 4]) dNil) [some x, some y, some r, u3, u4] M Y := by
    intro r w u2 u3 u4 Y hr bw hY
    refine zip_lcW (u1 := 3) (u2 := 4) hr hy (Nat.le_of_ble_eq_true rfl) mulD ⟨by show 3 < 5; decide, by show 4 < 5; decide⟩ (fun p q' hpq Y' hY' => ?_) ?_
    · simp only [List.zipWith_cons_cons, List.zipWith_nil_right, List.mem_cons, List.not_mem_nil, or_false, pairD, D.tup.injEq, List.cons.injEq, and_true] at hpq
      rcases hpq with ⟨rfl, rfl⟩ | ⟨rfl, rfl⟩ | ⟨rfl, rfl⟩ | ⟨rfl, rfl⟩
      · exact ⟨⟨bw.a.sm, bv.a.sm⟩, hY'⟩
      · exact ⟨⟨bw.b.sm, bv.b.sm⟩, hY'⟩
      · exact ⟨⟨bw.c.sm, bv.c.sm⟩, hY'⟩
      · exact ⟨⟨bw.d.sm, bv.d.sm⟩, hY'⟩
    · show Y (.int ([w.a * v.a, w.b * v.b, w.c * v.c, w.d * v.d].sum)) M
      rw [show [w.a * v.a, w.b * v.b, w.c * v.c, w.d * v.d].sum = dot4 w v by simp only [List.sum_cons, List.sum_nil, dot4]; omega]
      exact hY
  refine lcW_idx (ys := [.int (dot4 A.a v), .int (dot4 A.b v), .int (dot4 A.c v), .int (dot4 A.d v)]) rfl hC (by rw [sizeLine_eq]; exact Nat.le_of_ble_eq_true rfl) (fun j d w hd hw Z N' hz => ?_) (rtq q (by rfl))
  rcases (by have := (List.getElem?_eq_some_iff.mp hw).1; simp only [List.length_cons, List.length_nil] at this; omega : j = 0 ∨ j = 1 ∨ j = 2 ∨ j = 3) with rfl | rfl | rfl | rfl
  · cases hd; cases hw; exact row _ A.a none none none Z h0 bA.a hz
  · cases hd; cases hw; exact row _ A.b none none none Z h1 bA.b hz
  · cases hd; cases hw; exact row _ A.c none none none Z h2 bA.c hz
  · cases hd; cases hw; exact row _ A.d none none none Z h3 bA.d hz
theorem rd_path_led : ∀ ds M Q, ds.length = 2 → sp_tled ds M Q DX0 → t_path_led (dEnds M Q) (startD 5 ds) M := by
  rintro _ M Q - ⟨x, y, A, v, rfl, ⟨x0, x1, x2, x3, hx, h0, h1, h2, h3⟩, hy, bA, bv, q⟩
  unfold t_path_led
  show gSeqI x M fun ds C M1 => lcW false ds C (dName 2) dYes (dCB gSum (dCons (dLc false (dRngI gZipS (dCons (dVar 2) (dCons (dVar 1) dNil))) (dGTup 2 (dGCons (dName 3) (dGCons (dName 4) dGNil))) dYes (dOp (rBin CMul fun i j => i * j) (dVar 3) (dVar 4)) [3, 4]) dNil)) [some x, some y, none, none, none] M1 (Rtq M Q)
  refine gSeqI_lst hx fun C hC => ?_
  have row : ∀ (r : D) (w : V4) (u2 u3 u4 : Option D) (Y : D → Mem → Prop), res M r = w.D → w.bi 900 → Y (.int (dot4 w v)) M → dCB gSum (dCons (dLc false (dRngI gZipS (dCons (dVar 2) (dCons (dVar 1) dNil))) (dGTup 2 (dGCons (dName 3) (dGCons (dName 4) dGNil))) dYes (dOp (rBin CMul fun i j => i * j) (dVar 3) (dVar 4)) [3, 4]) dNil) [some x, some y, some r, u3, u4] M Y := by
    intro r w u2 u3 u4 Y hr bw hY
    refine zipS_lcW (u1 := 3) (u2 := 4) hr hy rfl (Nat.le_of_ble_eq_true rfl) mulD ⟨by show 3 < 5; decide, by show 4 < 5; decide⟩ (fun p q' hpq Y' hY' => ?_) ?_
    · simp only [List.zipWith_cons_cons, List.zipWith_nil_right, List.mem_cons, List.not_mem_nil, or_false, pairD, D.tup.injEq, List.cons.injEq, and_true] at hpq
      rcases hpq with ⟨rfl, rfl⟩ | ⟨rfl, rfl⟩ | ⟨rfl, rfl⟩ | ⟨rfl, rfl⟩
      · exact ⟨⟨bw.a.sm, bv.a.sm⟩, hY'⟩
      · exact ⟨⟨bw.b.sm, bv.b.sm⟩, hY'⟩
      · exact ⟨⟨bw.c.sm, bv.c.sm⟩, hY'⟩
      · exact ⟨⟨bw.d.sm, bv.d.sm⟩, hY'⟩
    · show Y (.int ([w.a * v.a, w.b * v.b, w.c * v.c, w.d * v.d].sum)) M
      rw [show [w.a * v.a, w.b * v.b, w.c * v.c, w.d * v.d].sum = dot4 w v by simp only [List.sum_cons, List.sum_nil, dot4]; omega]
      exact hY
  refine lcW_idx (ys := [.int (dot4 A.a v), .int (dot4 A.b v), .int (dot4 A.c v), .int (dot4 A.d v)]) rfl hC (by rw [sizeLine_eq]; exact Nat.le_of_ble_eq_true rfl) (fun j d w hd hw Z N' hz => ?_) (rtq q (by rfl))
  rcases (by have := (List.getElem?_eq_some_iff.mp hw).1; simp only [List.length_cons, List.length_nil] at this; omega : j = 0 ∨ j = 1 ∨ j = 2 ∨ j = 3) with rfl | rfl | rfl | rfl
  · cases hd; cases hw; exact row _ A.a none none none Z h0 bA.a hz
  · cases hd; cases hw; exact row _ A.b none none none Z h1 bA.b hz
  · cases hd; cases hw; exact row _ A.c none none none Z h2 bA.c hz
  · cases hd; cases hw; exact row _ A.d none none none Z h3 bA.d hz
/-! ### turned about, with its own rows -/
abbrev V4.O (v : V4) : Own := .lst [.int v.a, .int v.b, .int v.c, .int v.d]
def cells5 (n : Nat) (A : M4) : Mem := [A.a.O, A.b.O, A.c.O, A.d.O, .lst [.own n, .own (n + 1), .own (n + 2), .own (n + 3)]]
theorem rtqA {M G : Mem} {Q : DQ} {d : D} (q : Q d (M ++ G)) (hb : below (M ++ G).length d = true) (hG : ∀ c ∈ G, belowO (M ++ G).length c = true) : Rtq M Q d (M ++ G) :=
  rtqC q (by rw [List.length_append]; omega) hb fun i c h => by
    rcases Nat.lt_or_ge i M.length with z | z
    · rw [List.getElem?_append_left z] at h; exact .inl h
    · rw [List.getElem?_append_right z] at h; exact .inr (hG c (List.mem_of_getElem? h))
theorem lcW_idxO {ds ys : List D} {C : Mem → Prop} {g : DTG} {tt : DTT} {te : DTE} {r : Env} {M : Mem} {Q : DQ} (hlen : ds.length = ys.length) (hC : C M) (hl : ds.length ≤ sizeLine)
    (step : ∀ (i : Nat) (d y : D), ds[i]? = some d → ys[i]? = some y → ∀ (Y : D → Mem → Prop) (N : Mem → Prop), Y y M → g d r M fun r2 M2 => tt r2 M2 fun b M3 => if b = true then te r2 M3 Y else N M3)
    (q : Q (.own M.length) (M ++ [.lst ys])) : lcW true ds C g tt te r M Q := by
  refine ⟨fun i acc M' => M' = M ∧ acc = ys.take i ∧ i ≤ ds.length, ⟨rfl, rfl, Nat.zero_le _⟩, ?_⟩
  rintro i acc M' ⟨rfl, rfl, hi⟩
  refine ⟨hC, fun hd => ?_, fun d ed => ?_⟩
  · rw [if_pos rfl]
    rw [List.take_of_length_le (by omega)]; exact q
  · have hlt : i < ds.length := (List.getElem?_eq_some_iff.mp ed).1
    have ey : ys[i]? = some ys[i] := List.getElem?_eq_getElem (by omega)
    have ht : ys.take (i + 1) = ys.take i ++ [ys[i]] := by rw [List.take_add_one, ey]; rfl
    refine step i d _ ed ey _ _ ⟨?_, rfl, ht.symm, hlt⟩
    rw [List.length_take]; omega
/-! ### the table of a deed, with its own rows -/
def tabOwn (G : Mem) (A : M4) (M : Mem) (Q : DQ) : Prop := Q (.own ((M ++ G).length + 4)) ((M ++ G) ++ cells5 (M ++ G).length A)
def PlainO (G : Mem) : Prop := ∀ c ∈ G, belowO 0 c = true
theorem Rtq.mono {M : Mem} {Q Q' : DQ} {d : D} {M' : Mem} (h : Rtq M Q d M') (k : ∀ d M', Q d M' → Q' d M') : Rtq M Q' d M' := by
  obtain ⟨M2, G, e, h1, h2, h3, q⟩ := h
  exact ⟨M2, G, e, h1, h2, h3, k _ _ q⟩
theorem belowO.mono {m n : Nat} (hmn : m ≤ n) {c : Own} (h : belowO m c = true) : belowO n c = true := by
  cases c with
  | dead => rfl
  | lst l => exact below.mono hmn (.lst l) h
theorem tabOwn.rtq {G : Mem} {A : M4} {M : Mem} {Q : DQ} (h : tabOwn G A M Q) (hG : PlainO G) : Rtq M Q (.own ((M ++ G).length + 4)) ((M ++ G) ++ cells5 (M ++ G).length A) := by
  unfold tabOwn at h
  rw [List.append_assoc] at h ⊢
  refine rtqA h ?_ ?_
  · simp [below, cells5]; omega
  · intro c hc
    rcases List.mem_append.mp hc with r | r
    · exact belowO.mono (Nat.zero_le _) (hG c r)
    · simp only [cells5, List.mem_cons, List.not_mem_nil, or_false] at r
      rcases r with rfl | rfl | rfl | rfl | rfl <;> simp [belowO, belowAll, below, cells5]
      all_goals omega
/-! ### bases, crossings kept -/
def sp_lbase : DSp := fun ds M Q _ => ∃ i : Nat, ds = [.int (i : Int)] ∧ i < 4 ∧ Q (bse i).D M
theorem rd_l_base_3ec4 : ∀ ds M Q, ds.length = 1 → sp_lbase ds M Q DX0 → t_l_base_3ec4 (dEnds M Q) (startD 2 ds) M := by
  rintro _ M Q - ⟨i, rfl, hi, q⟩
  unfold t_l_base_3ec4
  walk_at "rd"
  refine ⟨by unfold Rg; decide, ?_⟩
  refine lcW_idx (ys := [.int (bse i).a, .int (bse i).b, .int (bse i).c, .int (bse i).d]) (by rfl) trivial (by rw [sizeLine_eq]; exact Nat.le_of_ble_eq_true rfl) (fun j d w hd hw Z N' hz => ?_) (rtq q (by rfl))
  obtain ⟨_, rfl⟩ := rng_get.mp hd
  have hj := (List.getElem?_eq_some_iff.mp hw).1
  rcases (by simp only [List.length_cons, List.length_nil] at hj; omega : j = 0 ∨ j = 1 ∨ j = 2 ∨ j = 3) with rfl | rfl | rfl | rfl <;> rcases (by omega : i = 0 ∨ i = 1 ∨ i = 2 ∨ i = 3) with rfl | rfl | rfl | rfl
  all_goals cases hw
  all_goals walk_at "rd"
  all_goals exact hz
theorem atIT {A : M4} (i : Nat) (hi : i < 4) : atI [A.a.D, A.b.D, A.c.D, A.d.D] (0 + (i : Int)) = some (A.get i).D := by
  rcases (by omega : i = 0 ∨ i = 1 ∨ i = 2 ∨ i = 3) with rfl | rfl | rfl | rfl <;> rfl
theorem M4.bi.get {n : Nat} {A : M4} (h : A.bi n) (i : Nat) : (A.get i).bi n := by
  match i with
  | 0 => exact h.a
  | 1 => exact h.b
  | 2 => exact h.c
  | _ + 3 => exact h.d
theorem bse_bi {n : Nat} (hn : 1 ≤ n) (i : Nat) : (bse i).bi n := by
  have b0 : Bi n 0 := Bi.of_abs 0 (by decide) (Nat.pow_pos (by decide))
  have b1 : Bi n 1 := Bi.of_abs 1 (by decide) (Nat.lt_of_lt_of_le (by decide : 1 < 2 ^ 1) (Nat.pow_le_pow_right (by decide) hn))
  match i with
  | 0 => exact ⟨b1, b0, b0, b0⟩
  | 1 => exact ⟨b0, b1, b0, b0⟩
  | 2 => exact ⟨b0, b0, b1, b0⟩
  | _ + 3 => exact ⟨b0, b0, b0, b1⟩
theorem sp_crossV {x y : D} {v w : V4} {M : Mem} {Q : DQ} (hx : res M x = v.D) (hy : res M y = w.D) (bv : v.bi 900) (bw : w.bi 900) (q : Q (.int (crs v w)) M) : sp_crossing [x, y] M Q DX0 :=
  ⟨x, y, v.a, v.b, v.c, v.d, w.a, w.b, w.c, w.d, rfl, hx, hy, ⟨bv.a, bv.b, bv.c, bv.d⟩, ⟨bw.a, bw.b, bw.c, bw.d⟩, q⟩
def sp_lkeeps : DSp := fun ds M Q _ => ∃ (y : D) (A : M4), ds = [y] ∧ TabR M y A ∧ A.bi 900 ∧ ∀ v : Bool, (v = true ↔ Keeps A) → Q (.bl v) M
theorem rd_l_keeps_2d4c : ∀ ds M Q, ds.length = 1 → sp_lkeeps ds M Q DX0 → t_l_keeps_2d4c sp_lcols4 sp_crossing sp_lbase (dEnds M Q) (startD 4 ds) M := by
  rintro _ M Q - ⟨y, A, rfl, hT, bA, q⟩
  unfold t_l_keeps_2d4c
  refine dSeq_open fun B hB => ?_
  walk_at "rd"
  refine ⟨y, A, rfl, hT, ?_⟩
  rw [← hB]
  clear hB B
  refine dSeq_open fun B hB => ?_
  walk_at "rd"
  refine ⟨by unfold Rg; decide, fun i r M' => i ≤ 4 ∧ M' = M ∧ (∀ i', i' < i → ∀ j, j < 4 → crs (A.T.get i') (A.T.get j) = crs (bse i') (bse j)) ∧ ∃ u v : Option D, r = [some y, some A.T.D, u, v], ⟨by decide, rfl, fun _ h => absurd h (Nat.not_lt_zero _), none, none, rfl⟩, ?_⟩
  rintro i r M' ⟨hi, rfl, hk, u, v, rfl⟩
  refine ⟨trivial, fun hl => ?_, fun d hd => ?_⟩
  · have hi4 : i = 4 := by rw [rng_len] at hl; omega
    subst hi4
    dsimp only
    rw [← hB]
    clear hB B
    walk_at "rd"
    exact rtq (q true ⟨fun _ i' h j hj => hk i' h j hj, fun _ => rfl⟩)
  · clear hB
    obtain ⟨hi2, rfl⟩ := rng_get.mp hd
    have hi2 : i < 4 := hi2
    walk_at "rd"
    refine ⟨by unfold Rg; decide, fun j r M1 => j ≤ 4 ∧ M1 = M' ∧ (∀ j', j' < j → crs (A.T.get i) (A.T.get j') = crs (bse i) (bse j')) ∧ ∃ v : Option D, r = [some y, some A.T.D, some (.int (0 + (i : Int))), v], ⟨by decide, rfl, fun _ h => absurd h (Nat.not_lt_zero _), _, rfl⟩, ?_⟩
    rintro j r M1 ⟨hj, rfl, hk2, v, rfl⟩
    refine ⟨trivial, fun hl => ?_, fun d hd => ?_⟩
    · have hj4 : j = 4 := by rw [rng_len] at hl; omega
      subst hj4
      refine ⟨by omega, rfl, fun i' h' j' hj' => ?_, _, _, rfl⟩
      rcases (by omega : i' < i ∨ i' = i) with z | rfl
      · exact hk i' z j' hj'
      · exact hk2 j' hj'
    · obtain ⟨hj2, rfl⟩ := rng_get.mp hd
      have hj2 : j < 4 := hj2
      walk_at "rd"
      rw [atIT (A := A.T) i hi2, atIT (A := A.T) j hj2]
      dsimp only
      refine sp_crossV rfl rfl (bA.T.get i) (bA.T.get j) ?_
      refine ⟨i, by rw [Int.zero_add], hi2, ?_⟩
      refine ⟨j, by rw [Int.zero_add], hj2, ?_⟩
      refine sp_crossV rfl rfl (bse_bi (by decide) i) (bse_bi (by decide) j) ?_
      rw [gNe_int]
      dsimp only
      by_cases hc : crs (A.T.get i) (A.T.get j) = crs (bse i) (bse j)
      · rw [if_neg (by simp [hc])]
        refine ⟨by omega, rfl, fun j' h' => ?_, _, rfl⟩
        rcases (by omega : j' < j ∨ j' = j) with z | rfl
        · exact hk2 j' z
        · exact hc
      · rw [if_pos (by simp [hc])]
        exact rtq (q false ⟨fun h => absurd h (by decide), fun h => absurd (h i hi2 j hj2) hc⟩)
/-- the root's work on a path -/
def sp_lrooted41 : DSp := fun ds M Q _ => ∃ (y : D) (a b c e : Int) (v : V4), ds = [T4 a b c e, y] ∧ res M y = v.D ∧ (Bi 900 a ∧ Bi 900 b ∧ Bi 900 c ∧ Bi 900 e) ∧ v.bi 900 ∧ Q (rtd a b c e v).D M
theorem rd_l_rooted_a87a : ∀ ds M Q, ds.length = 2 → sp_lrooted41 ds M Q DX0 → t_l_rooted_a87a (dEnds M Q) (startD 6 ds) M := by
  rintro _ M Q - ⟨y, a, b, c, e, ⟨p, q, r, s⟩, rfl, hy, ⟨ba, bb, bc, be⟩, ⟨bp, bq, br, bs⟩, h⟩
  unfold t_l_rooted_a87a
  have fin : ∀ d, d = (rtd a b c e ⟨p, q, r, s⟩).D → Rtq M Q d M := by
    rintro _ rfl
    exact rtq h
  clear h
  have hy : res M y = .lst [.int p, .int q, .int r, .int s] := hy
  refine dSeq_open fun B hB => ?_
  walk_at "rd"
  rw [← hB]
  clear hB B
  have hcm : CMul e p ∧ CMul b r ∧ CMul a s ∧ CMul e q ∧ CMul c s ∧ CMul c p ∧ CMul a q ∧ CMul b q := ⟨⟨be.sm, bp.sm⟩, ⟨bb.sm, br.sm⟩, ⟨ba.sm, bs.sm⟩, ⟨be.sm, bq.sm⟩, ⟨bc.sm, bs.sm⟩, ⟨bc.sm, bp.sm⟩, ⟨ba.sm, bq.sm⟩, ⟨bb.sm, bq.sm⟩⟩
  clear ba bb bc be bp bq br bs
  revert hcm
  walk_at "rh"
  rintro ⟨h1, h2, h3, h4, h5, h6, h7, h8⟩
  exact ⟨h1, h2, h3, h4, h5, h6, h7, h8, fin _ rfl⟩
/-- what is looked at as a table -/
def sp_ltable : DSp := fun ds M Q _ => ∃ (y : D) (A : M4), ds = [y] ∧ TabR M y A ∧ Q (.bl true) M
theorem row_of {M : Mem} {x0 x1 x2 x3 d : D} {A : M4} {i : Nat} (h0 : res M x0 = A.a.D) (h1 : res M x1 = A.b.D) (h2 : res M x2 = A.c.D) (h3 : res M x3 = A.d.D) (hd : [x0, x1, x2, x3][i]? = some d) : i < 4 ∧ res M d = (A.get i).D := by
  have hi := (List.getElem?_eq_some_iff.mp hd).1
  simp only [List.length_cons, List.length_nil] at hi
  rcases (by omega : i = 0 ∨ i = 1 ∨ i = 2 ∨ i = 3) with rfl | rfl | rfl | rfl <;> cases hd
  · exact ⟨by decide, h0⟩
  · exact ⟨by decide, h1⟩
  · exact ⟨by decide, h2⟩
  · exact ⟨by decide, h3⟩
theorem rd_l_is_table_0704 : ∀ ds M Q, ds.length = 1 → sp_ltable ds M Q DX0 → t_l_is_table_0704 (dEnds M Q) (startD 3 ds) M := by
  rintro _ M Q - ⟨y, A, rfl, ⟨x0, x1, x2, x3, hy, h0, h1, h2, h3⟩, q⟩
  unfold t_l_is_table_0704
  refine dSeq_open fun B hB => ?_
  have rest : B [some y, none, none] M := by
    rw [← hB]
    clear hB B
    refine dSeq_open fun B hB => ?_
    have rows : ∀ (yy : D) (C : Mem → Prop), C M → forW [x0, x1, x2, x3] C (dName 1)
        (dIfS (dOr (dNot (dTru (dCB gIsi (dCons (dVar 1) (dCons (dC (D.val (V.ty "list"))) dNil)))))
            (dOr (dTru (dOp gNe (dCB gLen (dCons (dVar 1) dNil)) (dC (D.int 4))))
              (dTru (dOp gNe (dLc false (dSeqI (dVar 1)) (dName 2) (dOr (dTru (dCB gIsi (dCons (dVar 2) (dCons (dC (D.val (V.ty "bool"))) dNil)))) (dNot (dTru (dCB gIsi (dCons (dVar 2) (dCons (dC (D.val (V.ty "int"))) dNil)))))) (dVar 2) [2]) (dLst dNil)))))
          (dRet (dC (D.bl false))) dNext) { nx := B, rt := Rtq M Q } [some yy, none, none] M := by
      intro yy C hC
      refine ⟨fun i r M' => i ≤ 4 ∧ M' = M ∧ ∃ u v : Option D, r = [some yy, u, v], ⟨by decide, rfl, none, none, rfl⟩, ?_⟩
      rintro i r M' ⟨hi, rfl, u, v, rfl⟩
      refine ⟨hC, fun hl => ?_, fun d hd => ?_⟩
      · dsimp only
        rw [← hB]
        walk_at "rd"
        exact rtq q
      · clear hB
        obtain ⟨hi4, hr⟩ := row_of h0 h1 h2 h3 hd
        generalize A.get i = w at hr
        have fil : ∀ {C' : Mem → Prop} {u' v' : Option D} {Q' : DQ}, C' M' → Q' (.lst []) M' → lcW false [.int w.a, .int w.b, .int w.c, .int w.d] C' (dName 2) (dOr (dTru (dCB gIsi (dCons (dVar 2) (dCons (dC (D.val (V.ty "bool"))) dNil)))) (dNot (dTru (dCB gIsi (dCons (dVar 2) (dCons (dC (D.val (V.ty "int"))) dNil)))))) (dVar 2) [some yy, u', v'] M' Q' := by
          intro C' u' v' Q' hC' hq'
          refine lcW_pure (fun _ => none) hC' (by rw [sizeLine_eq]; exact (by decide : (4 : Nat) ≤ 16777216)) (fun e he Y N hy => ?_) hq'
          obtain ⟨j, rfl⟩ : ∃ j, e = .int j := by
            simp only [List.mem_cons, List.not_mem_nil, or_false] at he
            rcases he with rfl | rfl | rfl | rfl <;> exact ⟨_, rfl⟩
          walk_at "rd"
          walk_at "kb"
          exact hy
        rcases isL hr with rfl | ⟨k, rfl, hk⟩
        · walk_at "rd"
          walk_at "kb"
          rw [if_neg (by decide), if_neg (by decide)]
          refine fil trivial ?_
          refine gNe_same (n := 2) rfl ?_
          dsimp only
          rw [if_neg (by decide)]
          have hi4' : i ≤ 3 := by omega
          exact ⟨hi4', rfl, _, _, rfl⟩
        · walk_at "rd"
          simp only [hk]
          walk_at "kb"
          rw [if_neg (by decide), if_neg (by simp)]
          refine fil hk ?_
          refine gNe_same (n := 2) rfl ?_
          dsimp only
          rw [if_neg (by decide)]
          have hi4' : i ≤ 3 := by omega
          exact ⟨hi4', rfl, _, _, rfl⟩
    rcases isL hy with rfl | ⟨k, rfl, hk⟩
    · walk_at "rd"
      exact rows _ _ trivial
    · walk_at "rd"
      rw [hk]
      exact rows _ _ hk
  clear hB
  rcases isL hy with rfl | ⟨k, rfl, hk⟩
  · walk_at "rd"
    walk_at "kb"
    exact rest
  · walk_at "rd"
    simp only [hk]
    walk_at "kb"
    exact rest
def sp_ctable : DSp := fun ds M Q _ => ∃ (y : D) (A : M4), ds = [y] ∧ TabR M y A ∧ Q .non M
theorem rd_check_table : ∀ ds M Q, ds.length = 1 → sp_ctable ds M Q DX0 → t_check_table sp_is_path_list (dEnds M Q) (startD 2 ds) M := by
  rintro _ M Q - ⟨y, A, rfl, ⟨x0, x1, x2, x3, hy, h0, h1, h2, h3⟩, q⟩
  unfold t_check_table
  have fil : ∀ {C : Mem → Prop} {Q' : DQ}, C M → Q' (.lst []) M → lcW false [x0, x1, x2, x3] C (dName 1) (dNot (dTru (dCall 1 sp_is_path_list [] DX0 (dCons (dVar 1) dNil)))) (dVar 1) [some y, none] M Q' := by
    intro C Q' hC hq
    refine lcW_pure (fun _ => none) hC (by rw [sizeLine_eq]; exact (by decide : (4 : Nat) ≤ 16777216)) (fun e he Y N hy => ?_) hq
    obtain ⟨i, hi⟩ := List.getElem?_of_mem he
    obtain ⟨hi4, hr⟩ := row_of h0 h1 h2 h3 hi
    walk_at "rd"
    exact ⟨e, _, _, _, _, rfl, hr, hy⟩
  rcases isL hy with rfl | ⟨k, rfl, hk⟩
  · walk_at "rd"
    walk_at "kb"
    rw [if_neg (by decide), if_neg (by decide)]
    refine fil trivial ?_
    exact gNe_same (n := 2) rfl (rtq q)
  · walk_at "rd"
    simp only [hk]
    walk_at "kb"
    rw [if_neg (by decide), if_neg (by simp)]
    refine fil hk ?_
    exact gNe_same (n := 2) rfl (rtq q)
/-! ### crossings kept, by the program -/
theorem tabC (M : Mem) (A : M4) : TabR (M ++ cells5 M.length A) (.own (M.length + 4)) A := by
  have g : ∀ (i : Nat) (c : Own), (cells5 M.length A)[i]? = some c → (M ++ cells5 M.length A)[M.length + i]? = some c := fun i c h => by
    rw [List.getElem?_append_right (by omega), Nat.add_sub_cancel_left]; exact h
  refine ⟨.own M.length, .own (M.length + 1), .own (M.length + 2), .own (M.length + 3), ?_, ?_, ?_, ?_, ?_⟩
  · unfold res; dsimp only; rw [g 4 _ rfl]
  · have := g 0 _ rfl
    rw [Nat.add_zero] at this
    unfold res; dsimp only; rw [this]
  · unfold res; dsimp only; rw [g 1 _ rfl]
  · unfold res; dsimp only; rw [g 2 _ rfl]
  · unfold res; dsimp only; rw [g 3 _ rfl]
end DL
namespace DL
open PySem PySem.Spec PyProof.Rows L2
local macro_rules | `(tactic| walk_at "rd") => `(tactic| simp only [startD, List.map, List.replicate, List.length_cons, List.length_nil, List.append_eq, List.append_nil, List.nil_append, List.cons_append, Nat.reduceSub, Nat.reduceAdd, List.getElem?_cons_zero, List.getElem?_cons_succ, List.set_cons_zero, List.set_cons_succ,
  dC, dVar, dOp, dTru, gTru, tru, dChain, dAnd, dOr, dNot, dAndV, dOrV, dNotV, dIf, dNeg, gNeg, dNil, dCons, dTup, dLst, dOwn, gIx, rBin, gAdd, gCmpI, dCall, dCallK, dSeq, dNext, dDrop, dRet, dRetN, dIfS, dName, dGNil, dGCons, dGTup, dSub, gSetL, dAsg, dPar, dPar3, dAug, gIpI, dSeqI, gSeqI, dRngI, gRng1, gRng2, dCB, gAbs, gInt, gMax, gMin, gGcd, gLen, lenD, gIsi, tyM, tyD, dBits, gBits, dMet, gAppend, dPart, dNoPart, dSl, gSl_tup, gSl_lst, cut_1, dEnds, gIs, isB, dNever, dCallX, dRaise, dTry, dFld, dCallV, gLRng, gFrz, dFrz, dFor, dLc, wipeD, dYes,
  sizeLine_eq, Nat.reduceLeDiff, gEq_int, gNe_int, gEq_strs, gNe_strs, gIn_two, gRepr_bl, rs_lst, rs_tup, rs_scr, rs_int, atI_0, atI_1, atI_2, atI_3, atI_4, atI_5, ixN_30, ixN_31, ixN_32, gEq_bl, gNe_bl, decide_eq_true_eq, beq_iff_eq, Bool.not_eq_true', beq_eq_false_iff_ne, decide_eq_false_iff_not, Bool.not_true, Bool.not_false, if_true, if_false, Bool.false_eq_true, ite_true, ite_false, true_and, and_true, ne_eq, Bool.bne_false, Bool.bne_true, reduceCtorEq])
local macro_rules | `(tactic| walk_at "rh") => `(tactic| simp only [*, startD, List.map, List.replicate, List.length_cons, List.length_nil, List.append_eq, List.append_nil, List.nil_append, List.cons_append, Nat.reduceSub, Nat.reduceAdd, List.getElem?_cons_zero, List.getElem?_cons_succ, List.set_cons_zero, List.set_cons_succ,
  dC, dVar, dOp, dTru, gTru, tru, dChain, dAnd, dOr, dNot, dAndV, dOrV, dNotV, dIf, dNeg, gNeg, dNil, dCons, dTup, dLst, dOwn, gIx, rBin, gAdd, gCmpI, dCall, dCallK, dSeq, dNext, dDrop, dRet, dRetN, dIfS, dName, dGNil, dGCons, dGTup, dSub, gSetL, dAsg, dPar, dPar3, dAug, gIpI, dSeqI, gSeqI, dRngI, gRng1, gRng2, dCB, gAbs, gInt, gMax, gMin, gGcd, gLen, lenD, gIsi, tyM, tyD, dBits, gBits, dMet, gAppend, dPart, dNoPart, dSl, gSl_tup, gSl_lst, cut_1, dEnds, gIs, isB, dNever, dCallX, dRaise, dTry, dFld, dCallV, gLRng, gFrz, dFrz, dFor, dLc, wipeD, dYes,
  sizeLine_eq, Nat.reduceLeDiff, gEq_int, gNe_int, gEq_strs, gNe_strs, gIn_two, gRepr_bl, rs_lst, rs_tup, rs_scr, rs_int, atI_0, atI_1, atI_2, atI_3, atI_4, atI_5, ixN_30, ixN_31, ixN_32, gEq_bl, gNe_bl, decide_eq_true_eq, beq_iff_eq, Bool.not_eq_true', beq_eq_false_iff_ne, decide_eq_false_iff_not, Bool.not_true, Bool.not_false, if_true, if_false, Bool.false_eq_true, ite_true, ite_false, true_and, and_true, ne_eq, Bool.bne_false, Bool.bne_true, reduceCtorEq])
local macro_rules | `(tactic| walk_at "kb") => `(tactic| simp only [kb_NoneType_list, kb_bool_list, kb_int_list, kb_str_list, kb_tuple_list, kb_list_list, kb_dict_list, kb_NoneType_int, kb_bool_int, kb_int_int, kb_str_int, kb_tuple_int, kb_list_int, kb_dict_int, kb_NoneType_bool, kb_bool_bool, kb_int_bool, kb_str_bool, kb_tuple_bool, kb_list_bool, kb_dict_bool, kb_NoneType_tuple, kb_bool_tuple, kb_int_tuple, kb_str_tuple, kb_tuple_tuple, kb_list_tuple, kb_dict_tuple, if_true, if_false, Bool.false_eq_true, ite_true, ite_false, Bool.not_true, Bool.not_false])
/-! RdLL: where a deed leads, told by the law; drawn deeds -/
theorem rd_l_opposite_30e8 : ∀ ds M Q, ds.length = 2 → sp_opposite_by ds M Q DX0 → t_l_opposite_30e8 (dEnds M Q) (startD 7 ds) M := by
  rintro _ M Q - ⟨x, k, rfl, k0, bk, q⟩
  unfold t_l_opposite_30e8
  have lk : CDiv 1 k := ⟨by omega, Nat.lt_of_lt_of_le (log2_of 1900 bk (by decide)) (by decide)⟩
  have m1 := Int.emod_nonneg x (show k ≠ 0 by omega)
  have m2 := Int.emod_lt_of_pos x k0
  have eg : (Int.gcd (x % k) k : Int) = Int.gcd x k := by rw [Int.gcd_comm, gcd_emod']
  refine dSeq_open fun B hB => ?_
  walk_at "rd"
  rw [fmod_pos k0]
  have xe := Int.mul_ediv_add_emod x k
  generalize x / k = xj at xe
  generalize hm : x % k = m at *
  refine ⟨(show k ≠ 0 by omega), ?_⟩
  rw [← hB]
  clear hB B
  have bound : ∀ {y : Int}, -k ≤ y → y ≤ k → Bi 1901 y := by
    intro y h1 h2
    have h3 : Bi 1901 k := bk.mono
    unfold Bi at h3 ⊢
    omega
  refine dSeq_open fun B hB => ?_
  refine dwhile_of (fun n r M' => ∃ low high f s t h : Int, ∃ tn, r = [some (.int x), some (.int k), some (.int low), some (.int high), some (.int f), some (.int s), tn] ∧ M' = M ∧ n = high.toNat ∧ ((low = m ∧ high = k ∧ f = 1 ∧ s = 0 ∧ t = 0 ∧ h = 1) ∨ (Euc m k low high f s t h ∧ low ≤ k ∧ high ≤ k))) _ ⟨m, k, 1, 0, 0, 1, none, rfl, rfl, rfl, .inl ⟨rfl, rfl, rfl, rfl, rfl, rfl⟩⟩ ?_
  rintro n r M' ⟨low, high, f, s, t, h, tn, rfl, rfl, rfl, hh⟩
  walk_at "rd"
  by_cases z : 0 < high
  · rw [if_pos z]
    have next : (Euc m k high (low - low / high * high) s (f - low / high * s) h (t - low / high * h) ∧ high ≤ k ∧ low - low / high * high < high ∧ 0 ≤ low - low / high * high) := by
      have rm : low - low / high * high = low % high := by
        have := Int.mul_ediv_add_emod low high
        have e : low / high * high = high * (low / high) := Int.mul_comm _ _
        omega
      have r1 := Int.emod_lt_of_pos low z
      have r0 := Int.emod_nonneg low (show high ≠ 0 by omega)
      rcases hh with ⟨rfl, rfl, rfl, rfl, rfl, rfl⟩ | ⟨E, h1, h2⟩
      · exact ⟨Euc.first k0, Int.le_refl _, by omega, by omega⟩
      · exact ⟨E.step (by omega), h2, by omega, by omega⟩
    obtain ⟨E, h1, h2, h3⟩ := next
    have ef : low.fdiv high = low / high := fdiv_pos z
    rw [ef]
    have bl : Bi 1901 low ∧ Bi 1901 high ∧ Bi 1901 s := by
      rcases hh with ⟨rfl, rfl, rfl, rfl, rfl, rfl⟩ | ⟨E, h1, h2⟩
      · exact ⟨bound (by omega) (by omega), bk.mono, Bi.of_abs 0 (by decide) (Nat.pow_pos (by decide))⟩
      · have l0 := E.l0
        have h0 := E.h0
        exact ⟨bound (by omega) h1, bound (by omega) h2, bound E.sb.1 E.sb.2⟩
    obtain ⟨b1, b2, b3⟩ := bl
    have bq : Bi 1901 (low / high) := Nat.lt_of_le_of_lt (Int.natAbs_ediv_le_natAbs _ _) b1
    refine ⟨⟨by omega, Nat.lt_of_lt_of_le (log2_of 1901 b2 (by decide)) (by decide)⟩, ⟨bq.sm, b2.sm⟩, ⟨bq.sm, b3.sm⟩, (low - low / high * high).toNat, ?_, _, _, _, _, _, _, _, rfl, rfl, .inr ⟨E, h1, by omega⟩⟩
    omega
  · rw [if_neg z, ← hB]
    clear hB B
    rcases hh with ⟨_, rfl, _⟩ | ⟨E, h1, h2⟩
    · omega
    · have hz : high = 0 := by have := E.h0; omega
      subst hz
      have el : low = (Int.gcd x k : Int) := by
        rw [← eg, ← E.gc, gcd_end (Int.le_of_lt E.l0)]
      have e1 := E.e1
      walk_at "rd"
      rw [fmod_pos k0]
      refine ⟨(show k ≠ 0 by omega), rtq (q _ (Int.emod_nonneg _ (by omega)) (Int.emod_lt_of_pos _ k0) ?_)⟩
      have m2 := Int.mul_ediv_add_emod f k
      generalize f / k = i at m2
      generalize f % k = r at m2 ⊢
      refine ⟨r * xj - i * m - t, ?_⟩
      rw [← el, e1, ← m2, ← xe]
      grind
def sp_bez41 : DSp := fun ds M Q _ => ∃ m n : Int, ds = [.int m, .int n] ∧ 0 < n ∧ Bi 2000 m ∧ Bi 2000 n ∧ ∀ u v, u * m + v * n = (Int.gcd m n : Int) → Bi 4100 u → Bi 4100 v → Q (.tup [.tup [.int u, .int v], .int (Int.gcd m n)]) M
theorem rd_l_bezout_3658 : ∀ ds M Q, ds.length = 2 → sp_bez41 ds M Q DX0 → t_l_bezout_3658 (dEnds M Q) (startD 7 ds) M := by
  rintro _ M Q - ⟨m, n, rfl, n0, bm, bn, q⟩
  unfold t_l_bezout_3658
  refine dSeq_open fun B hB => ?_
  walk_at "rd"
  rw [← hB]
  clear hB B
  refine dSeq_open fun B hB => ?_
  have bound : ∀ {x : Int}, -n ≤ x → x ≤ n → Bi 4100 x := by
    intro x h1 h2
    have h3 : Bi 4100 n := bn.mono
    unfold Bi at h3 ⊢
    omega
  have bound2 : ∀ {x : Int}, x.natAbs ≤ m.natAbs + 1 → Bi 4100 x := by
    intro x h1
    have h3 : Bi 2001 m := bm.mono
    have h4 : Bi 2002 x := by
      unfold Bi at h3 bm ⊢
      rw [Nat.pow_succ 2 2001]
      have : 0 < 2 ^ 2001 := Nat.pow_pos (by decide)
      omega
    exact h4.mono
  refine dwhile_of (fun k r M' => ∃ low high f s t h : Int, ∃ tn, r = [some (.int m), some (.int n), some (.int low), some (.int high), some (.tup [.int f, .int t]), some (.tup [.int s, .int h]), tn] ∧ M' = M ∧ k = high.toNat ∧ ((low = m ∧ high = n ∧ f = 1 ∧ s = 0 ∧ t = 0 ∧ h = 1) ∨ (Euc m n low high f s t h ∧ low ≤ n ∧ high ≤ n))) _ ⟨m, n, 1, 0, 0, 1, none, rfl, rfl, rfl, .inl ⟨rfl, rfl, rfl, rfl, rfl, rfl⟩⟩ ?_
  rintro k r M' ⟨low, high, f, s, t, h, tn, rfl, rfl, rfl, hh⟩
  walk_at "rd"
  have hpos : high ≠ 0 → 0 < high := by
    intro z
    rcases hh with ⟨_, rfl, _⟩ | ⟨E, _⟩
    · exact n0
    · have := E.h0; omega
  have next : high ≠ 0 → (Euc m n high (low - low / high * high) s (f - low / high * s) h (t - low / high * h) ∧ high ≤ n ∧ low - low / high * high < high ∧ 0 ≤ low - low / high * high) := by
    intro z
    have hp := hpos z
    have rm : low - low / high * high = low % high := by
      have := Int.mul_ediv_add_emod low high
      have e : low / high * high = high * (low / high) := Int.mul_comm _ _
      omega
    have r1 := Int.emod_lt_of_pos low hp
    have r0 := Int.emod_nonneg low z
    rcases hh with ⟨rfl, rfl, rfl, rfl, rfl, rfl⟩ | ⟨E, h1, h2⟩
    · exact ⟨Euc.first n0, Int.le_refl _, by omega, by omega⟩
    · exact ⟨E.step z, h2, by omega, by omega⟩
  by_cases z : high = 0
  · subst z
    rw [if_neg (fun w => w rfl), ← hB]
    clear hB B
    walk_at "rd"
    rcases hh with ⟨_, z, _⟩ | ⟨E, h1, h2⟩
    · omega
    · have eg : low = (Int.gcd m n : Int) := by
        have := E.gc
        rw [← this, gcd_end (Int.le_of_lt E.l0)]
      have l0 := E.l0
      rw [if_pos l0]
      rw [eg]
      have tb := E.tb n0 h1 h2
      exact rtq (q f t (by rw [← eg]; exact E.e1.symm) (bound E.fb.1 E.fb.2) (bound2 tb.1))
  · rw [if_pos z]
    have hp := hpos z
    obtain ⟨E, h1, h2, h3⟩ := next z
    have ef : low.fdiv high = low / high := fdiv_pos hp
    rw [ef]
    have bl : Bi 4100 low ∧ Bi 4100 high ∧ Bi 4100 s ∧ Bi 4100 h := by
      rcases hh with ⟨rfl, rfl, rfl, rfl, rfl, rfl⟩ | ⟨E, h1, h2⟩
      · exact ⟨bm.mono, bn.mono, Bi.of_abs 0 (by decide) (Nat.pow_pos (by decide)), bound2 (by omega)⟩
      · have tb := E.tb n0 h1 h2
        have l0 := E.l0
        have h0 := E.h0
        exact ⟨bound (by omega) h1, bound (by omega) h2, bound E.sb.1 E.sb.2, bound2 tb.2⟩
    obtain ⟨b1, b2, b3, b4⟩ := bl
    have bk : Bi 4100 (low / high) := Nat.lt_of_le_of_lt (Int.natAbs_ediv_le_natAbs _ _) b1
    refine ⟨⟨z, Nat.lt_of_lt_of_le (log2_of 4100 b2 (by decide)) (by decide)⟩, ⟨bk.sm, b2.sm⟩, ⟨bk.sm, b3.sm⟩, ⟨bk.sm, b4.sm⟩, (low - low / high * high).toNat, ?_, _, _, _, _, _, _, _, rfl, rfl, .inr ⟨E, h1, by omega⟩⟩
    omega
def sp_lbeside41 : DSp := fun ds M Q _ => ∃ p q : Int, ds = [.tup [.int p, .int q]] ∧ 0 ≤ p ∧ 1 ≤ q ∧ Int.gcd p q = 1 ∧ Bi 100 p ∧ Bi 100 q ∧ ∀ x z, p * z - q * x = 1 → Bi 101 x → Bi 202 z → Q (.tup [.int x, .int z]) M
theorem rd_l_beside_26c0 : ∀ ds M Q, ds.length = 1 → sp_lbeside41 ds M Q DX0 → t_l_beside_26c0 sp_opposite_by (dEnds M Q) (startD 4 ds) M := by
  rintro _ M Q - ⟨p, q, rfl, p0, q1, cp, bp, bq, h⟩
  unfold t_l_beside_26c0
  refine dSeq_open fun B hB => ?_
  walk_at "rd"
  rw [← hB]
  clear hB B
  refine dSeq_open fun B hB => ?_
  walk_at "rd"
  by_cases z : p = 0
  · subst z
    rw [if_pos rfl]
    have hq : q = 1 := by rw [Int.gcd_zero_left] at cp; omega
    subst hq
    exact rtq (h (0 - 1) 0 (by decide) (Bi.of_abs 1 (by decide) (by decide)) (Bi.of_abs 0 (by decide) (by decide))) (by rfl)
  · rw [if_neg z, ← hB]
    clear hB B
    refine dSeq_open fun B hB => ?_
    walk_at "rd"
    refine ⟨q, p, rfl, by omega, bp.mono, fun r r0 r1 hr => ?_⟩
    rw [show (Int.gcd q p : Int) = 1 by rw [Int.gcd_comm, cp]; rfl] at hr
    walk_at "rd"
    have hp : 0 < p := by omega
    rw [fmod_pos hp]
    refine ⟨z, ?_⟩
    rw [← hB]
    clear hB B
    have x0 := Int.emod_nonneg (0 - r) z
    have x1 := Int.emod_lt_of_pos (0 - r) hp
    have x2 := Int.mul_ediv_add_emod (0 - r) p
    generalize (0 - r) / p = j at x2
    generalize (0 - r) % p = x at *
    have hd : p ∣ 1 + q * x := by
      obtain ⟨i, hi⟩ := hr
      have e1 : x = 0 - r - p * j := by omega
      exact ⟨0 - i - q * j, by rw [e1]; grind⟩
    obtain ⟨Z, hZ⟩ := hd
    have bx : Bi 101 x := by
      have : Bi 101 p := bp.mono
      unfold Bi at this ⊢
      omega
    have bZ : Bi 202 Z := Bi.of_dvd (n := 202) (((Bi.of_abs 1 (by decide) (by decide) : Bi 2 1).up (by decide : 2 ≤ 201)).add (bq.mul bx)) z hZ
    walk_at "rd"
    rw [fdiv_pos hp, hZ, Int.mul_ediv_cancel_left _ z]
    exact ⟨⟨bq.sm, bx.sm⟩, ⟨z, Nat.lt_of_lt_of_le (log2_of 100 bp (by decide)) (by decide)⟩, rtq (h x Z (by omega) bx bZ) (by rfl)⟩
theorem rd_l_done_855c : ∀ ds M Q, ds.length = 2 → sp_ldone2 ds M Q DX0 → t_l_done_855c sp_lbeside41 sp_bez41 sp_gcd (dEnds M Q) (startD 18 ds) M := by
  rintro _ M Q - ⟨a, b, c, e, p, q, a', w, g, e', rfl, h, hq⟩
  unfold t_l_done_855c
  have ck := h.cs.ck
  have hp := (isDeed_parts h.deed).1
  obtain ⟨k1, k2, k3, k4, k5, k6⟩ := cut_parts h.cs.cut
  refine dSeq_open fun B hB => ?_
  walk_at "rd"
  rw [← hB]
  clear hB B
  refine dSeq_open fun B hB => ?_
  walk_at "rd"
  refine ⟨p, q, rfl, hp.p0, hp.q1, hp.cp, h.bp, h.bq, fun x z hxz bx bz => ?_⟩
  walk_at "rd"
  rw [← hB]
  clear hB B
  refine dSeq_open fun B hB => ?_
  walk_at "rd"
  have b1 : Bi 203 (p * b + q * a) := ((h.bp.mul ck.bb).up (by decide : 200 ≤ 202)).add ((h.bq.mul ck.ba).up (by decide))
  have b2 : Bi 203 (q * c) := (h.bq.mul ck.bc).up (by decide)
  have b3 : Bi 306 (x * b + z * a + e + q * c) := (((((bx.mul ck.bb).up (by decide : 201 ≤ 303)).add ((bz.mul ck.ba).up (by decide))).up (by decide : 304 ≤ 304)).add (ck.be.up (by decide))).add (b2.up (by decide))
  have b4 : Bi 306 (z * c) := (bz.mul ck.bc).up (by decide)
  refine ⟨⟨h.bp.sm, ck.bb.sm⟩, ⟨h.bq.sm, ck.ba.sm⟩, ⟨h.bq.sm, ck.bc.sm⟩, ⟨bx.sm, ck.bb.sm⟩, ⟨bz.sm, ck.ba.sm⟩, ⟨h.bq.sm, ck.bc.sm⟩, ⟨bz.sm, ck.bc.sm⟩, ?_⟩
  rw [← hB]
  clear hB B
  have J0 : 0 < q * c := Int.mul_pos (by have := hp.q1; omega) (by omega)
  refine dSeq_open fun B hB => ?_
  walk_at "rd"
  refine ⟨_, _, rfl, J0, b1.mono, b2.mono, fun u v huv bu bv => ?_⟩
  walk_at "rd"
  rw [← hB]
  clear hB B
  obtain ⟨I, hI⟩ : ∃ I, p * b + q * a = I := ⟨_, rfl⟩
  obtain ⟨J, hJ⟩ : ∃ J, q * c = J := ⟨_, rfl⟩
  obtain ⟨K, hK⟩ : ∃ K, x * b + z * a + e + q * c = K := ⟨_, rfl⟩
  obtain ⟨L, hL⟩ : ∃ L, z * c = L := ⟨_, rfl⟩
  obtain ⟨G, hG⟩ : ∃ G : Int, ((Int.gcd (p * b + q * a) (q * c) : Nat) : Int) = G := ⟨_, rfl⟩
  have hGd := hG
  rw [hI, hJ] at hGd
  have G1 : 0 < G := by
    have := Int.gcd_pos_of_ne_zero_right I (show J ≠ 0 by omega)
    omega
  have dI : G ∣ I := by rw [← hGd]; exact Int.gcd_dvd_left _ _
  have dJ : G ∣ J := by rw [← hGd]; exact Int.gcd_dvd_right _ _
  have eW : I * L - J * K = c * (b - q * e - q * q * c) := by
    rw [← hI, ← hJ, ← hK, ← hL]
    have h1 : (p * b + q * a) * (z * c) - (q * c) * (x * b + z * a + e + q * c) = c * (b * (p * z - q * x) - q * e - q * q * c) := by grind
    rw [h1, hxz, Int.mul_one]
  have dW : G ∣ I * L - J * K := Int.dvd_sub (Int.dvd_trans dI (Int.dvd_mul_right _ _)) (Int.dvd_trans dJ (Int.dvd_mul_right _ _))
  obtain ⟨W, hW⟩ := dW
  have fW : (I * L - J * K).fdiv G = W := by rw [fdiv_pos G1, hW, Int.mul_ediv_cancel_left _ (by omega)]
  refine dSeq_open fun B hB => ?_
  walk_at "rd"
  rw [hK, hI, hJ, hL]
  rw [hI] at b1
  rw [hJ] at b2
  rw [hK] at b3
  rw [hL] at b4
  rw [hGd, fW]
  have bG : Bi 203 G := by
    refine Bi.of_dvd' b2 (by omega) dJ
  refine ⟨⟨b1.sm, b4.sm⟩, ⟨b2.sm, b3.sm⟩, ⟨by omega, Nat.lt_of_lt_of_le (log2_of 203 bG (by decide)) (by decide)⟩, ?_⟩
  rw [← hB]
  clear hB B
  walk_at "rd"
  have b2' : Bi 2 2 := Bi.of_abs 2 (by decide) (by decide)
  refine ⟨⟨bu.sm, b3.sm⟩, ⟨bv.sm, b4.sm⟩, W, G, rfl, ?_⟩
  dsimp only
  have P0 : 0 < (Int.gcd W G : Int) := by
    have := Int.gcd_pos_of_ne_zero_right W (show G ≠ 0 by omega)
    omega
  refine ⟨(by omega : (Int.gcd W G : Int) ≠ 0), ⟨b2'.sm, h.bq.sm⟩, ⟨(b2'.mul h.bq).sm, ck.bc.sm⟩, ?_⟩
  rw [fmod_pos P0]
  have hd : IsDone a b c e p q ((0 - (u * K + v * L)) % (Int.gcd W G : Int)) W G (0 - e - 2 * q * c) := by
    refine ⟨hG.symm, by rw [← eW, hW, Int.mul_comm], rfl, Int.emod_nonneg _ (by omega), Int.emod_lt_of_pos _ P0, u, v, x, z, hxz, by rw [hI, hJ]; rw [hI, hJ, hGd] at huv; exact huv, ?_⟩
    rw [hK, hL]
    exact ⟨-((0 - (u * K + v * L)) / (Int.gcd W G : Int)), by
      have := Int.mul_ediv_add_emod (0 - (u * K + v * L)) (Int.gcd W G : Int)
      rw [Int.mul_neg]
      omega⟩
  obtain ⟨e1, e2, e3, e4⟩ := h.one hd
  rw [e1, e2, e3, e4]
  exact rtq hq (by rfl)
/-! ### a drawn deed -/
theorem deed_48 {a b c e p q : Int} (h : CS a b c e) (hd : isDeed b c e p q = true) : Bi 50 p ∧ Bi 50 q := by
  have hp := (isDeed_parts hd).1
  obtain ⟨k1, k2, k3, k4, k5, k6⟩ := cut_parts h.cut
  have q1 := hp.q1
  have al := hp.al
  have sm := h.sm
  have hm : meas4 b c e = e * e + 4 * (b * c) := by unfold meas4; grind
  have e1 : (2 * (q * c) + e) * (2 * (q * c) + e) = meas4 b c e - 4 * (c * (b - q * e - q * q * c)) := by rw [hm]; grind
  have h1 : 0 < c * (b - q * e - q * q * c) := Int.mul_pos (by omega) al
  have h2 : 0 < b * c := Int.mul_pos (by omega) (by omega)
  have big : ∀ x : Int, x * x < 2 ^ 96 → x < 2 ^ 48 ∧ -(2 ^ 48) < x := by
    intro x hx
    constructor
    · rcases (by omega : x < 2 ^ 48 ∨ 2 ^ 48 ≤ x) with r | r
      · exact r
      · have : (2 : Int) ^ 48 * 2 ^ 48 ≤ x * x := Int.mul_le_mul r r (by decide) (by omega)
        omega
    · rcases (by omega : -(2 ^ 48) < x ∨ x ≤ -(2 ^ 48)) with r | r
      · exact r
      · have : (2 : Int) ^ 48 * 2 ^ 48 ≤ (-x) * (-x) := Int.mul_le_mul (by omega) (by omega) (by decide) (by omega)
        rw [Int.neg_mul_neg] at this
        omega
  have m96 : meas4 b c e < 2 ^ 96 := by
    unfold Bi at sm
    have : ((2 ^ 96 : Nat) : Int) = (2 : Int) ^ 96 := by decide
    omega
  have b1 := big (2 * (q * c) + e) (by omega)
  have b2 := big e (by omega)
  have h3 : q * 1 ≤ q * c := Int.mul_le_mul_of_nonneg_left (by omega) (by omega)
  have h4 : q * (c / (Int.gcd b c : Int)) ≤ q * c := Int.mul_le_mul_of_nonneg_left (Int.ediv_le_self _ (by omega)) (by omega)
  have p1 := hp.p0
  have hpl : p < q * (c / (Int.gcd b c : Int)) := by
    simp only [isDeed, Bool.and_eq_true, decide_eq_true_eq, beq_iff_eq] at hd
    exact hd.2.2.2.1
  exact ⟨Bi.of_abs (2 ^ 48) (by omega) (by decide), Bi.of_abs (2 ^ 48) (by omega) (by decide)⟩
def sp_lallows : DSp := fun ds M Q _ => ∃ a b c e f : Int, ds = [T4 a b c e, .int f] ∧ CK a b c e ∧ Bi 100 f ∧ Q (.bl (decide (0 < f) && decide (0 < b - f * e - f * f * c))) M
theorem rd_l_allows_0877 : ∀ ds M Q, ds.length = 2 → sp_lallows ds M Q DX0 → t_l_allows_0877 (dEnds M Q) (startD 6 ds) M := by
  rintro _ M Q - ⟨a, b, c, e, f, rfl, ck, bf, q⟩
  unfold t_l_allows_0877
  refine dSeq_open fun B hB => ?_
  walk_at "rd"
  rw [← hB]
  clear hB B
  walk_at "rd"
  by_cases h0 : 0 < f
  · rw [if_pos h0]
    refine ⟨⟨bf.sm, ck.be.sm⟩, ⟨bf.sm, bf.sm⟩, ⟨(bf.mul bf).sm, ck.bc.sm⟩, rtq ?_⟩
    rw [decide_eq_true h0, Bool.true_and] at q
    exact q
  · rw [if_neg h0]
    rw [decide_eq_false h0, Bool.false_and] at q
    rw [decide_eq_false h0]
    exact rtq q
theorem c41_9 : CPow 10 9 := by first | decide | exact ⟨by decide, by decide⟩
def sp_ldeed41 : DSp := fun ds M Q _ => ∃ (k : Nat) (a b c e n : Int), ds = [.own k, T4 a b c e] ∧ CS a b c e ∧ Gn k n M ∧ n ≤ P40 - 20000 ∧ ∀ p q M', isDeed b c e p q = true → Gst k (n + 8000) M M' → Q (.tup [.int p, .int q]) M'
theorem rd_l_deed_593a : ∀ ds M Q, ds.length = 2 → sp_ldeed41 ds M Q DX0 → t_l_deed_593a sp_gcd sp_random sp_lallows (dEnds M Q) (startD 11 ds) M := by
  rintro _ M Q - ⟨k, a, b, c, e, n, rfl, h, hg, hn, hq⟩
  unfold t_l_deed_593a
  have p9 := p400_900
  have p29 := p400_ten (i := 29) (by decide)
  have ck := h.ck
  obtain ⟨k1, k2, k3, k4, k5, k6⟩ := cut_parts h.cut
  have G0 : 1 ≤ (Int.gcd b c : Int) := by
    have := Int.gcd_pos_of_ne_zero_right b (show c ≠ 0 by omega)
    omega
  have G1 : (Int.gcd b c : Int) ≤ c := Int.le_of_dvd (by omega) (Int.gcd_dvd_right b c)
  have C1 : 1 ≤ c / (Int.gcd b c : Int) := (Int.le_ediv_iff_mul_le (by omega)).mpr (by omega)
  have C2 : c / (Int.gcd b c : Int) ≤ c := Int.ediv_le_self _ (by omega)
  have bG : Bi 100 (Int.gcd b c : Int) := by have := ck.bc; unfold Bi at *; omega
  have bC : Bi 100 (c / (Int.gcd b c : Int)) := by have := ck.bc; unfold Bi at *; omega
  refine dSeq_open fun B hB => ?_
  walk_at "rd"
  rw [← hB]
  clear hB B
  refine dSeq_open fun B hB => ?_
  walk_at "rd"
  refine ⟨b, c, rfl, ?_⟩
  dsimp only
  refine ⟨⟨by omega, Nat.lt_of_lt_of_le (log2_of 100 bG (by decide)) (by decide)⟩, ?_⟩
  rw [fdiv_pos (by omega)]
  obtain ⟨L, hL⟩ : ∃ L, c / (Int.gcd b c : Int) = L := ⟨_, rfl⟩
  rw [hL] at C1 C2 bC ⊢
  rw [← hB]
  clear hB B
  refine dSeq_open fun B hB => ?_
  walk_at "rd"
  have G1' : ∀ f : Int, 1 ≤ f → f ≤ 1 + 1000000000 * 40 → Bi 40 f := fun f h1 h2 => Bi.of_abs (1 + 1000000000 * 40) (by omega) (by decide)
  have p40 : (10 : Int) ^ 9 = 1000000000 := by decide
  refine ⟨by unfold Rg; decide, fun i r M' => i ≤ 40 ∧ Gst k (n + 120 * i) M M' ∧ ∃ (f : Int) (u v w : Option D), r = [some (.own k), some (T4 a b c e), some (.int a), some (.int b), some (.int c), some (.int e), some (.int f), some (.int L), u, v, w] ∧ 1 ≤ f ∧ f ≤ 1 + 1000000000 * i ∧ 0 < b - f * e - f * f * c, ⟨by decide, Gst.refl (hg.le (by omega)), 1, none, none, none, rfl, by decide, by omega, by omega⟩, ?_⟩
  rintro i r M1 ⟨hi, g1, f, u, v, w, rfl, f1, f2, al⟩
  refine ⟨trivial, fun hli => ?_, fun d hd => ?_⟩
  · dsimp only
    rw [← hB]
    clear hB B
    have bf := G1' f f1 (by omega)
    refine dSeq_open fun B hB => ?_
    walk_at "rd"
    refine ⟨by unfold Rg; decide, fun j r M' => j ≤ 40 ∧ Gst k (n + 4800 + 40 * j) M M' ∧ ∃ (u v w : Option D), r = [some (.own k), some (T4 a b c e), some (.int a), some (.int b), some (.int c), some (.int e), some (.int f), some (.int L), u, v, w], ⟨by decide, g1.le (by omega), _, _, _, rfl⟩, ?_⟩
    rintro j r M2 ⟨hj, g2, u, v, w, rfl⟩
    have bfL : Bi 140 (f * L) := bf.mul bC
    have fL0 : 1 ≤ f * L := Int.le_trans (by decide) (Int.mul_le_mul f1 C1 (by decide) (by omega))
    refine ⟨trivial, fun hli => ?_, fun d hd => ?_⟩
    · dsimp only
      rw [← hB]
      clear hB B
      walk_at "rd"
      refine ⟨⟨bf.sm, bC.sm⟩, ?_⟩
      have isd : ∀ p q : Int, 1 ≤ q → 0 < b - q * e - q * q * c → 0 ≤ p → p < q * L → Int.gcd p q = 1 → isDeed b c e p q = true := by
        intro p q h1 h2 h3 h4 h5
        simp only [isDeed, Bool.and_eq_true, decide_eq_true_eq, beq_iff_eq]
        exact ⟨h1, h2, h3, by rw [hL]; exact h4, by omega⟩
      by_cases h1 : 1 < f * L
      · rw [if_pos h1]
        exact g2.rtq (hq 1 f _ (isd 1 f f1 al (by decide) h1 (Int.one_gcd)) (g2.le (by omega)))
      · rw [if_neg h1]
        exact g2.rtq (hq 0 1 _ (isd 0 1 (by decide) (by omega) (by decide) (by omega) (by decide)) (g2.le (by omega)))
    · clear hB
      obtain ⟨hj2, rfl⟩ := rng_get.mp hd
      have hj2 : j < 40 := hj2
      have b900 : f * L < 2 ^ 900 := by
        have h1 : f * L < 2 ^ 140 := by
          unfold Bi at bfL
          have : ((2 ^ 140 : Nat) : Int) = (2 : Int) ^ 140 := by decide
          omega
        exact Int.lt_trans h1 (by decide)
      refine dSeq_open fun B hB => ?_
      walk_at "rd"
      refine ⟨⟨bf.sm, bC.sm⟩, k, f * L, _, rfl, by omega, b900, g2.2.1, by omega, fun y M3 y0 y1 g3 => ?_⟩
      have G3 := g2.trans g3
      dsimp only
      rw [← hB]
      clear hB B
      walk_at "rd"
      refine ⟨y, f, rfl, ?_⟩
      dsimp only
      rw [gEq_int]
      dsimp only
      by_cases hc : (Int.gcd y f : Int) = 1
      · rw [if_pos (by simp [hc])]
        refine G3.rtq (hq y f _ ?_ (G3.le (by omega)))
        simp only [isDeed, Bool.and_eq_true, decide_eq_true_eq, beq_iff_eq]
        exact ⟨f1, al, y0, by rw [hL]; exact y1, hc⟩
      · rw [if_neg (by simp [hc])]
        exact ⟨by omega, G3.le (by omega), _, _, _, rfl⟩
  · clear hB
    obtain ⟨hi2, rfl⟩ := rng_get.mp hd
    have hi2 : i < 40 := hi2
    refine dSeq_open fun B hB => ?_
    walk_at "rd"
    refine ⟨c41_9, k, 3, _, rfl, by decide, by omega, g1.2.1, by omega, fun x M2 x0 x1 g2 => ?_⟩
    dsimp only
    obtain ⟨t, et, t0, t1⟩ : ∃ t : Int, atI [D.int 3, D.int 50, D.int (10 ^ Int.toNat 9)] x = some (D.int t) ∧ 0 < t ∧ t ≤ 1000000000 := by
      rcases (by omega : x = 0 ∨ x = 1 ∨ x = 2) with rfl | rfl | rfl
      · exact ⟨3, rfl, by decide, by decide⟩
      · exact ⟨50, rfl, by decide, by decide⟩
      · exact ⟨10 ^ 9, rfl, by decide, by decide⟩
    rw [et]
    dsimp only
    have G2 := g1.trans g2
    refine ⟨k, t, _, rfl, t0, by omega, G2.2.1, by omega, fun y M3 y0 y1 g3 => ?_⟩
    dsimp only
    rw [← hB]
    clear hB B
    have G3 := G2.trans g3
    walk_at "rd"
    refine ⟨a, b, c, e, f + (1 + y), rfl, ck, (G1' _ (by omega) (by omega)).mono, ?_⟩
    dsimp only
    by_cases hal : 0 < b - (f + (1 + y)) * e - (f + (1 + y)) * (f + (1 + y)) * c
    · rw [decide_eq_true hal, decide_eq_true (show 0 < f + (1 + y) by omega), if_pos (by decide)]
      refine ⟨k, 3, _, rfl, by decide, by omega, G3.2.1, by omega, fun s M4 s0 s1 g4 => ?_⟩
      have G4 := (G3.trans g4).le (show n + 120 * (i : Int) + 40 + 40 + 40 ≤ n + 120 * ((i + 1 : Nat) : Int) by omega)
      dsimp only
      by_cases hs : 0 < s
      · rw [if_pos hs]
        exact ⟨by omega, G4, _, _, _, _, rfl, by omega, by omega, hal⟩
      · rw [if_neg hs]
        exact ⟨by omega, G4, _, _, _, _, rfl, f1, by omega, al⟩
    · rw [decide_eq_false hal, Bool.and_false, if_neg (by decide)]
      exact ⟨by omega, G3.le (by omega), _, _, _, _, rfl, f1, by omega, al⟩
end DL
namespace DL
open PySem PySem.Spec PyProof.Rows L2
local macro_rules | `(tactic| walk_at "rd") => `(tactic| simp only [startD, List.map, List.replicate, List.length_cons, List.length_nil, List.append_eq, List.append_nil, List.nil_append, List.cons_append, Nat.reduceSub, Nat.reduceAdd, List.getElem?_cons_zero, List.getElem?_cons_succ, List.set_cons_zero, List.set_cons_succ,
  dC, dVar, dOp, dTru, gTru, tru, dChain, dAnd, dOr, dNot, dAndV, dOrV, dNotV, dIf, dNeg, gNeg, dNil, dCons, dTup, dLst, dOwn, gIx, rBin, gAdd, gCmpI, dCall, dCallK, dSeq, dNext, dDrop, dRet, dRetN, dIfS, dName, dGNil, dGCons, dGTup, dSub, gSetL, dAsg, dPar, dPar3, dAug, gIpI, dSeqI, gSeqI, dRngI, gRng1, gRng2, dCB, gAbs, gInt, gMax, gMin, gGcd, gLen, lenD, gIsi, tyM, tyD, dBits, gBits, dMet, gAppend, dPart, dNoPart, dSl, gSl_tup, gSl_lst, cut_1, dEnds, gIs, isB, dNever, dCallX, dRaise, dTry, dFld, dCallV, gLRng, gFrz, dFrz, dFor, dLc, wipeD, dYes,
  sizeLine_eq, Nat.reduceLeDiff, gEq_int, gNe_int, gEq_strs, gNe_strs, gIn_two, gRepr_bl, rs_lst, rs_tup, rs_scr, rs_int, atI_0, atI_1, atI_2, atI_3, atI_4, atI_5, ixN_30, ixN_31, ixN_32, gEq_bl, gNe_bl, decide_eq_true_eq, beq_iff_eq, Bool.not_eq_true', beq_eq_false_iff_ne, decide_eq_false_iff_not, Bool.not_true, Bool.not_false, if_true, if_false, Bool.false_eq_true, ite_true, ite_false, true_and, and_true, ne_eq, Bool.bne_false, Bool.bne_true, reduceCtorEq])
local macro_rules | `(tactic| walk_at "rh") => `(tactic| simp only [*, startD, List.map, List.replicate, List.length_cons, List.length_nil, List.append_eq, List.append_nil, List.nil_append, List.cons_append, Nat.reduceSub, Nat.reduceAdd, List.getElem?_cons_zero, List.getElem?_cons_succ, List.set_cons_zero, List.set_cons_succ,
  dC, dVar, dOp, dTru, gTru, tru, dChain, dAnd, dOr, dNot, dAndV, dOrV, dNotV, dIf, dNeg, gNeg, dNil, dCons, dTup, dLst, dOwn, gIx, rBin, gAdd, gCmpI, dCall, dCallK, dSeq, dNext, dDrop, dRet, dRetN, dIfS, dName, dGNil, dGCons, dGTup, dSub, gSetL, dAsg, dPar, dPar3, dAug, gIpI, dSeqI, gSeqI, dRngI, gRng1, gRng2, dCB, gAbs, gInt, gMax, gMin, gGcd, gLen, lenD, gIsi, tyM, tyD, dBits, gBits, dMet, gAppend, dPart, dNoPart, dSl, gSl_tup, gSl_lst, cut_1, dEnds, gIs, isB, dNever, dCallX, dRaise, dTry, dFld, dCallV, gLRng, gFrz, dFrz, dFor, dLc, wipeD, dYes,
  sizeLine_eq, Nat.reduceLeDiff, gEq_int, gNe_int, gEq_strs, gNe_strs, gIn_two, gRepr_bl, rs_lst, rs_tup, rs_scr, rs_int, atI_0, atI_1, atI_2, atI_3, atI_4, atI_5, ixN_30, ixN_31, ixN_32, gEq_bl, gNe_bl, decide_eq_true_eq, beq_iff_eq, Bool.not_eq_true', beq_eq_false_iff_ne, decide_eq_false_iff_not, Bool.not_true, Bool.not_false, if_true, if_false, Bool.false_eq_true, ite_true, ite_false, true_and, and_true, ne_eq, Bool.bne_false, Bool.bne_true, reduceCtorEq])
local macro_rules | `(tactic| walk_at "kb") => `(tactic| simp only [kb_NoneType_list, kb_bool_list, kb_int_list, kb_str_list, kb_tuple_list, kb_list_list, kb_dict_list, kb_NoneType_int, kb_bool_int, kb_int_int, kb_str_int, kb_tuple_int, kb_list_int, kb_dict_int, kb_NoneType_bool, kb_bool_bool, kb_int_bool, kb_str_bool, kb_tuple_bool, kb_list_bool, kb_dict_bool, kb_NoneType_tuple, kb_bool_tuple, kb_int_tuple, kb_str_tuple, kb_tuple_tuple, kb_list_tuple, kb_dict_tuple, if_true, if_false, Bool.false_eq_true, ite_true, ite_false, Bool.not_true, Bool.not_false])
/-! k41: tables of deeds -/
theorem tab_bo {a b c e p q a' w g e' x z o0 o1 s2 t2 : Int} (h : DeS a b c e p q a' w g e') (k : DTab a b c e p q a' w g x z o0 o1 s2 t2) : Bi 420 o0 ∧ Bi 420 o1 ∧ Bi 203 s2 ∧ Bi 203 t2 := by
  obtain ⟨cs', hm', g0⟩ := h.cs'
  have ck := h.cs.ck
  have ck' := cs'.ck
  obtain ⟨l1, l2, _⟩ := cut_parts cs'.cut
  obtain ⟨bz, bx⟩ := tab_bi h k
  obtain ⟨hd, hI, hJ, hK, hL⟩ := k.sol g0 (by omega) h.dn
  have b1 : Bi 203 (p * b + q * a) := ((h.bp.mul ck.bb).up (by decide : 200 ≤ 202)).add ((h.bq.mul ck.ba).up (by decide))
  have b2 : Bi 202 (q * c) := (h.bq.mul ck.bc).up (by decide)
  have b4 : Bi 400 (z * c) := (bz.mul ck.bc).up (by decide)
  have b3 : Bi 410 (x * b + z * a + e + q * c) := (((((bx.mul ck.bb).up (by decide : 405 ≤ 407)).add ((bz.mul ck.ba).up (by decide))).up (by decide : 408 ≤ 408)).add (ck.be.up (by decide))).add (b2.up (by decide))
  have bt : Bi 203 t2 := Bi.of_dvd b1 (show g ≠ 0 by omega) (by rw [hI, Int.mul_comm])
  have bs : Bi 203 s2 := Bi.of_dvd (n := 203) ((Bi.of_abs 0 (by decide) (Nat.pow_pos (by decide)) : Bi 202 0).sub b2) (show g ≠ 0 by omega) (by rw [hJ]; grind)
  have bo0 : Bi 420 o0 := Bi.of_dvd (n := 420) ((b4.up (by decide : 400 ≤ 419)).sub ((bs.mul ck'.ba).up (by decide))) (show w ≠ 0 by omega) (by rw [hL]; grind)
  have bo1 : Bi 420 o1 := Bi.of_dvd (n := 420) ((((bt.mul ck'.ba).neg).up (by decide : 303 ≤ 419)).sub (b3.up (by decide))) (show w ≠ 0 by omega) (by rw [hK]; grind)
  exact ⟨bo0, bo1, bs, bt⟩
theorem tab_M {a b c e p q a' w g e' x z o0 o1 s2 t2 : Int} (h : DeS a b c e p q a' w g e') (k : DTab a b c e p q a' w g x z o0 o1 s2 t2) : (tabM p q x z o0 o1 s2 t2).bi 530 := by
  obtain ⟨b0, b1, b2, b3⟩ := tab_bo h k
  obtain ⟨bz, bx⟩ := tab_bi h k
  have z0 : Bi 530 0 := Bi.of_abs 0 (by decide) (Nat.pow_pos (by decide))
  have z1 : Bi 530 1 := (Bi.of_abs 1 (by decide) (by decide) : Bi 1 1).up (by decide)
  have ng : ∀ {n : Nat} {i : Int}, Bi n i → Bi n (-i) := fun {n i} h => by unfold Bi at *; omega
  exact ⟨⟨z0, z1, b3.up (by decide), (ng b1).up (by decide)⟩, ⟨z0, z0, (ng b2).up (by decide), b0.up (by decide)⟩, ⟨h.bp.up (by decide), bx.up (by decide), ((ng b2).mul h.bp).up (by decide), (b0.mul h.bp).up (by decide)⟩, ⟨h.bq.up (by decide), bz.up (by decide), ((ng b2).mul h.bq).up (by decide), (b0.mul h.bq).up (by decide)⟩⟩
def linD (s : Int) : D → D → D
  | .int x, .int y => .int (x + s * y)
  | _, _ => .non
def sp_isdt : DSp := fun ds M Q _ => ∃ (y : D) (a b c e p q a' w g e' x z o0 o1 s2 t2 : Int), ds = [T4 a b c e, .tup [.int p, .int q], y] ∧ DeS a b c e p q a' w g e' ∧ DTab a b c e p q a' w g x z o0 o1 s2 t2 ∧ TabR M y (tabM p q x z o0 o1 s2 t2) ∧ Q (.bl true) M
theorem rd_l_is_deed_table_6abb : ∀ ds M Q, ds.length = 3 → sp_isdt ds M Q DX0 → t_l_is_deed_table_6abb sp_ltable sp_lkeeps sp_ldone2 sp_lcols4 sp_gcd sp_tled sp_lrooted41 sp_lbase (dEnds M Q) (startD 14 ds) M := by
  rintro _ M Q - ⟨y, a, b, c, e, p, q, a', w, g, e', x, z, o0, o1, s2, t2, rfl, h, tab, hT, fq⟩
  unfold t_l_is_deed_table_6abb
  have ck := h.cs.ck
  obtain ⟨cs', hm', g0⟩ := h.cs'
  have ck' := cs'.ck
  obtain ⟨l1, l2, _⟩ := cut_parts cs'.cut
  have bA := tab_M h tab
  have hk := tab_keeps g0 (by omega) h.dn tab
  have hr := tab_root g0 (by omega) h.dn tab
  refine dSeq_open fun B hB => ?_
  walk_at "rd"
  refine ⟨y, _, rfl, hT, ?_⟩
  dsimp only
  rw [if_neg (by decide)]
  refine ⟨y, _, rfl, hT, bA.up (by decide), fun v hv => ?_⟩
  rw [hv.mpr hk]
  dsimp only
  rw [if_neg (by decide), ← hB]
  clear hB B
  refine dSeq_open fun B hB => ?_
  walk_at "rd"
  refine ⟨a, b, c, e, p, q, a', w, g, e', rfl, h, ?_⟩
  refine ⟨y, _, rfl, hT, ?_⟩
  walk_at "rd"
  rw [← hB]
  clear hB B
  refine dSeq_open fun B hB => ?_
  walk_at "rd"
  refine ⟨w, g, rfl, ?_⟩
  dsimp only
  have G0 : 0 < (Int.gcd w g : Int) := by
    have := Int.gcd_pos_of_ne_zero_right w (show g ≠ 0 by omega)
    omega
  have G1 : (Int.gcd w g : Int) ≤ g := Int.le_of_dvd g0 (Int.gcd_dvd_right w g)
  have bG : Bi 100 (Int.gcd w g : Int) := by have := ck'.bc; unfold Bi at *; omega
  have bS : Bi 100 (w / (Int.gcd w g : Int)) := by
    have h1 : w / (Int.gcd w g : Int) ≤ w := Int.ediv_le_self _ (by omega)
    have h2 : 0 ≤ w / (Int.gcd w g : Int) := Int.ediv_nonneg (by omega) (by omega)
    have := ck'.bb
    unfold Bi at *
    omega
  refine ⟨⟨by omega, Nat.lt_of_lt_of_le (log2_of 100 bG (by decide)) (by decide)⟩, ?_⟩
  rw [fdiv_pos G0]
  refine ⟨⟨h.bq.sm, bS.sm⟩, ?_⟩
  rw [← hB]
  clear hB B
  obtain ⟨bz, bx⟩ := tab_bi h tab
  obtain ⟨bo0, bo1, bs2, bt2⟩ := tab_bo h tab
  refine dSeq_open fun B hB => ?_
  unfold M4.D V4.D R4 M4.T tabM
  walk_at "rd"
  refine gNe_same (n := 2) rfl ?_
  dsimp only
  rw [if_neg (by decide)]
  refine gNe_same (n := 2) (d := .lst [.int 1, .int 0]) rfl ?_
  dsimp only
  rw [if_neg (by decide)]
  have pz := tab.pz
  refine ⟨⟨h.bp.sm, bz.sm⟩, ⟨h.bq.sm, bx.sm⟩, ?_⟩
  rw [if_neg (by omega), if_pos tab.z0, if_neg (by have := tab.z1; omega), ← hB]
  clear hB B
  have ng : ∀ {n : Nat} {i : Int}, Bi n i → Bi n (-i) := fun {n i} h => by unfold Bi at *; omega
  obtain ⟨led, hled⟩ : ∃ d, d = D.lst [D.lst [D.int 0, D.int 0, D.int p, D.int q], D.lst [D.int 1, D.int 0, D.int x, D.int z], D.lst [D.int t2, D.int (-s2), D.int (-s2 * p), D.int (-s2 * q)], D.lst [D.int (-o1), D.int o0, D.int (o0 * p), D.int (o0 * q)]] := ⟨_, rfl⟩
  rw [← hled]
  refine dSeq_open fun B hB => ?_
  have loop : forW [D.lst [D.int t2, D.int (-s2), D.int (-s2 * p), D.int (-s2 * q)], D.lst [D.int (-o1), D.int o0, D.int (o0 * p), D.int (o0 * q)]] (fun _ => True) (dName 8)
      (dIfS (dTru (dOp gNe (dSl (gSl false) (dVar 8) (dPart (dC (D.int 2))) dNoPart) (dLst (dCons (dOp (rBin CMul fun i j => i * j) (dOp gIx (dVar 8) (dC (D.int 1))) (dVar 3)) (dCons (dOp (rBin CMul fun i j => i * j) (dOp gIx (dVar 8) (dC (D.int 1))) (dVar 4)) dNil))))) (dRet (dC (D.bl false))) dNext)
      { nx := B, rt := Rtq M Q } [some (T4 a b c e), some (D.tup [D.int p, D.int q]), some y, some (D.int p), some (D.int q), some (T4 a' w g e'), some led, some (D.int (q * (w / ↑(w.gcd g)))), none, none, none, none, none, none] M := by
    refine ⟨fun i r M' => i ≤ 2 ∧ M' = M ∧ ∃ u, r = [some (T4 a b c e), some (D.tup [D.int p, D.int q]), some y, some (D.int p), some (D.int q), some (T4 a' w g e'), some led, some (D.int (q * (w / ↑(w.gcd g)))), u, none, none, none, none, none], ⟨by decide, rfl, none, rfl⟩, ?_⟩
    rintro i r M' ⟨hi, rfl, u, rfl⟩
    refine ⟨trivial, fun hl => ?_, fun d hd => ?_⟩
    · dsimp only
      rw [← hB]
      clear hB B
      refine dSeq_open fun B hB => ?_
      walk_at "rd"
      refine ⟨⟨h.bq.sm, ck.bc.sm⟩, ?_⟩
      rw [← hB]
      clear hB B
      refine dSeq_open fun B hB => ?_
      walk_at "rd"
      refine ⟨by unfold Rg; decide, fun i r M1 => i ≤ 4 ∧ M1 = M' ∧ ∃ (u v w1 : Option D), r = [some (T4 a b c e), some (D.tup [D.int p, D.int q]), some y, some (D.int p), some (D.int q), some (T4 a' w g e'), some led, some (D.int (q * (w / ↑(w.gcd g)))), u, some (D.int (e + q * c)), v, w1, none, none], ⟨by decide, rfl, _, _, _, rfl⟩, ?_⟩
      rintro i r M1 ⟨hi, rfl, u, v, w1, rfl⟩
      refine ⟨trivial, fun hl => ?_, fun d hd => ?_⟩
      · dsimp only
        rw [← hB]
        clear hB B
        walk_at "rd"
        exact rtq fq
      · clear hB
        obtain ⟨hi2, rfl⟩ := rng_get.mp hd
        have hi2 : i < 4 := hi2
        have hr' := hr i hi2
        have bT := bA.T.get i
        obtain ⟨A, hA⟩ : ∃ A, A = tabM p q x z o0 o1 s2 t2 := ⟨_, rfl⟩
        rw [← hA] at hr' bT hT bA
        have ai : atI [D.lst [D.int 0, D.int 0, D.int p, D.int q], D.lst [D.int 1, D.int 0, D.int x, D.int z], D.lst [D.int t2, D.int (-s2), D.int (-s2 * p), D.int (-s2 * q)], D.lst [D.int (-o1), D.int o0, D.int (o0 * p), D.int (o0 * q)]] (0 + (i : Int)) = some (A.T.get i).D := by
          rw [hA]
          exact atIT (A := (tabM p q x z o0 o1 s2 t2).T) i hi2
        have bb := bse_bi (n := 1) (by decide) i
        have b900 : ∀ {j : Int}, Bi 100 j → Bi 900 j := fun h => h.up (by decide)
        have bR : (rtd a' w g e' (bse i)).bi 110 := by
          refine ⟨?_, ?_, ?_, ?_⟩
          · exact ((((ck'.be.mul bb.a).up (by decide : 101 ≤ 101)).add ((ck'.bb.mul bb.c).up (by decide))).up (by decide : 102 ≤ 109)).add ((ck'.ba.mul bb.d).up (by decide))
          · exact (((ck'.be.mul bb.b).up (by decide : 101 ≤ 109)).add ((ck'.bc.mul bb.d).up (by decide)))
          · exact (((ck'.bc.mul bb.a).up (by decide : 101 ≤ 109)).sub ((ck'.ba.mul bb.b).up (by decide)))
          · exact (ck'.bb.mul bb.b).up (by decide)
        refine dSeq_open fun B hB => ?_
        walk_at "rd"
        refine ⟨i, by rw [Int.zero_add], hi2, ?_⟩
        refine ⟨_, a', w, g, e', bse i, rfl, rfl, ⟨b900 ck'.ba, b900 ck'.bb, b900 ck'.bc, b900 ck'.be⟩, bb.up (by decide), ?_⟩
        refine ⟨y, _, A, rtd a' w g e' (bse i), rfl, hT, rfl, bA.up (by decide), bR.up (by decide), ?_⟩
        rw [← hB]
        clear hB B
        rw [hled]
        walk_at "rd"
        rw [ai]
        dsimp only
        rw [← hled]
        refine ⟨_, a, b, c, e, A.T.get i, rfl, rfl, ⟨b900 ck.ba, b900 ck.bb, b900 ck.bc, b900 ck.be⟩, bT.up (by decide), ?_⟩
        have bs : Bi 250 (e + q * c) := (ck.be.up (by decide : 100 ≤ 249)).add ((h.bq.mul ck.bc).up (by decide))
        refine zip_lcW (u1 := 12) (u2 := 13) rfl rfl (Nat.le_of_ble_eq_true rfl) (linD (e + q * c)) ⟨by show 12 < 14; decide, by show 13 < 14; decide⟩ (fun p' q' hpq Y hY => ?_) ?_
        · simp only [List.zipWith_cons_cons, List.zipWith_nil_right, List.mem_cons, List.not_mem_nil, or_false, pairD, D.tup.injEq, List.cons.injEq, and_true] at hpq
          rcases hpq with ⟨rfl, rfl⟩ | ⟨rfl, rfl⟩ | ⟨rfl, rfl⟩ | ⟨rfl, rfl⟩
          · exact ⟨⟨bs.sm, bT.a.sm⟩, hY⟩
          · exact ⟨⟨bs.sm, bT.b.sm⟩, hY⟩
          · exact ⟨⟨bs.sm, bT.c.sm⟩, hY⟩
          · exact ⟨⟨bs.sm, bT.d.sm⟩, hY⟩
        · rw [hr']
          refine gNe_same (n := 2) (d := ((A.led (rtd a' w g e' (bse i))).lin (e + q * c) (A.T.get i)).D) rfl ?_
          dsimp only
          rw [if_neg (by decide)]
          exact ⟨by omega, rfl, _, _, _, rfl⟩
    · clear hB
      have hi2 := (List.getElem?_eq_some_iff.mp hd).1
      simp only [List.length_cons, List.length_nil] at hi2
      rcases (by omega : i = 0 ∨ i = 1) with rfl | rfl
      · cases hd
        walk_at "rd"
        refine ⟨⟨(ng bs2).sm, h.bp.sm⟩, ⟨(ng bs2).sm, h.bq.sm⟩, ?_⟩
        refine gNe_same (n := 2) (d := .lst [.int (-s2 * p), .int (-s2 * q)]) rfl ?_
        dsimp only
        rw [if_neg (by decide)]
        exact ⟨rfl, _, rfl⟩
      · cases hd
        walk_at "rd"
        refine ⟨⟨bo0.sm, h.bp.sm⟩, ⟨bo0.sm, h.bq.sm⟩, ?_⟩
        refine gNe_same (n := 2) (d := .lst [.int (o0 * p), .int (o0 * q)]) rfl ?_
        dsimp only
        rw [if_neg (by decide)]
        exact ⟨rfl, _, rfl⟩
  rw [hled]
  rw [hled] at loop
  exact loop
/-! ### owned rows, looked at deeply -/
theorem gNeE_res {n : Nat} {x y d : D} {M : Mem} {Q : DQ} (hx : resE M 4 x = d) (hy : resE M 4 y = d) (h : fine n d = true) (q : Q (.bl false) M) (hn : n ≤ 64 := by decide) : gNeE x y M Q := by
  unfold gNeE
  rw [hx, hy, eqB_self h hn]
  exact q
theorem gEqE_res {n : Nat} {x y d : D} {M : Mem} {Q : DQ} (hx : resE M 4 x = d) (hy : resE M 4 y = d) (h : fine n d = true) (q : Q (.bl true) M) (hn : n ≤ 64 := by decide) : gEqE x y M Q := by
  unfold gEqE
  rw [hx, hy, eqB_self h hn]
  exact q
theorem gReprE_res {d x : D} {z : Str} {M : Mem} {Q : DQ} (hd : resE M 4 d = x) (hz : shwnZ x = some z) (q : Q (.str z) M) : gReprE [d] M Q := by
  unfold gReprE
  dsimp only
  rw [hd, hz]
  exact q
theorem gNeE_str {z : Str} {M : Mem} {Q : DQ} (q : Q (.bl false) M) : gNeE (.str z) (.str z) M Q := by
  have h := gNe_str_same (z := z) (M := M) (Q := Q) q
  unfold gNe at h
  unfold gNeE
  exact h
theorem row_resE {M : Mem} {x : D} {v : V4} {n : Nat} (h : res M x = v.D) : resE M (n + 2) x = v.D := by
  rcases isL h with rfl | ⟨k, rfl, hk⟩
  · rfl
  · unfold resE cellL
    rw [hk]
    rfl
theorem TabR.resE {M : Mem} {d : D} {A : M4} (h : TabR M d A) : resE M 4 d = A.D := by
  obtain ⟨x0, x1, x2, x3, hd, h0, h1, h2, h3⟩ := h
  have e0 := row_resE (n := 1) h0
  have e1 := row_resE (n := 1) h1
  have e2 := row_resE (n := 1) h2
  have e3 := row_resE (n := 1) h3
  rcases isL hd with rfl | ⟨k, rfl, hk⟩
  · unfold DL.resE
    simp only [List.map_cons, List.map_nil, e0, e1, e2, e3]
  · unfold DL.resE cellL
    dsimp only
    rw [hk]
    simp only [List.map_cons, List.map_nil, e0, e1, e2, e3]
theorem turn_ofK {p q x z x' z' : Int} (q1 : 1 ≤ q) (cp : Int.gcd p q = 1) (h : p * z - q * x = 1) (h' : p * z' - q * x' = 1) : ∃ n, x' = x + n * p ∧ z' = z + n * q := by
  have e1 : p * (z' - z) = q * (x' - x) := by grind
  have d1 : q ∣ z' - z := by
    have h2 : q.natAbs ∣ (z' - z).natAbs * p.natAbs := by
      rw [← Int.natAbs_mul, Int.natAbs_dvd_natAbs]
      exact ⟨x' - x, by rw [Int.mul_comm]; exact e1⟩
    have h3 : Nat.Coprime q.natAbs p.natAbs := by
      have : Nat.gcd p.natAbs q.natAbs = 1 := cp
      rw [Nat.gcd_comm] at this
      exact this
    exact Int.natAbs_dvd_natAbs.mp (h3.dvd_of_dvd_mul_right h2)
  obtain ⟨n, hn⟩ := d1
  refine ⟨n, ?_, by rw [Int.mul_comm]; omega⟩
  have e2 : q * (x' - x) = q * (n * p) := by rw [← e1, hn]; grind
  have := Int.eq_of_mul_eq_mul_left (by omega) e2
  omega
theorem tab_uniqK {a b c e p q a' w g e' x z o0 o1 s2 t2 x' z' o0' o1' s2' t2' : Int} (h : DeS a b c e p q a' w g e') (k : DTab a b c e p q a' w g x z o0 o1 s2 t2) (k' : DTab a b c e p q a' w g x' z' o0' o1' s2' t2') : x' = x ∧ z' = z := by
  obtain ⟨cs', hm', g0⟩ := h.cs'
  have hp := (isDeed_parts h.deed).1
  obtain ⟨l1, l2, _⟩ := cut_parts cs'.cut
  obtain ⟨n, e1, e2⟩ := turn_ofK hp.q1 hp.cp k.pz k'.pz
  have s1 := sums_turn (n := n) g0 (by omega) h.dn k
  have s2 := sums_turn (n := 0) g0 (by omega) h.dn k'
  rw [← e1, ← e2] at s1
  rw [show x' + 0 * p = x' by grind, show z' + 0 * q = z' by grind] at s2
  have hd := s1.mp (s2.mpr (Int.dvd_zero _))
  have a1 := k.z0
  have a2 := k.z1
  have a3 := k'.z0
  have a4 := k'.z1
  generalize w / (Int.gcd w g : Int) = S at *
  obtain ⟨j, hj⟩ := hd
  have q1 := hp.q1
  have S0 : 0 < S := by
    rcases (by omega : 0 < S ∨ S ≤ 0) with r | r
    · exact r
    · have : q * S ≤ 0 := Int.mul_nonpos_of_nonneg_of_nonpos (by omega) r
      omega
  have hn0 : n = 0 := by
    have hz : z' - z = q * S * j := by rw [e2, hj]; grind
    rcases (by omega : j = 0 ∨ 1 ≤ j ∨ j ≤ -1) with r | r | r
    · rw [hj, r]; omega
    · have : q * S * 1 ≤ q * S * j := Int.mul_le_mul_of_nonneg_left r (by omega)
      omega
    · have : q * S * j ≤ q * S * (-1) := Int.mul_le_mul_of_nonneg_left r (by omega)
      omega
  subst hn0
  constructor <;> omega
theorem Gst.rtqK {k : Nat} {n : Int} {M M1 G : Mem} {Q : DQ} {d : D} (h : Gst k n M M1) (q : Q d M1) (hb : below M1.length d = true := by rfl) : Rtq M Q d (M1 ++ G) := by
  obtain ⟨M2, G2, e, h2⟩ := h.rtq q hb
  subst e
  exact ⟨M2, G2 ++ G, List.append_assoc _ _ _, h2⟩
theorem tabM_uniq {a b c e p q a' w g e' x z o0 o1 s2 t2 x' z' o0' o1' s2' t2' : Int} (h : DeS a b c e p q a' w g e') (k : DTab a b c e p q a' w g x z o0 o1 s2 t2) (k' : DTab a b c e p q a' w g x' z' o0' o1' s2' t2') : tabM p q x' z' o0' o1' s2' t2' = tabM p q x z o0 o1 s2 t2 := by
  obtain ⟨cs', hm', g0⟩ := h.cs'
  obtain ⟨l1, l2, _⟩ := cut_parts cs'.cut
  obtain ⟨ex, ez⟩ := tab_uniqK h k k'
  subst ex ez
  obtain ⟨_, a1, a2, a3, a4⟩ := k.sol g0 (by omega) h.dn
  obtain ⟨_, b1, b2, b3, b4⟩ := k'.sol g0 (by omega) h.dn
  have et : t2' = t2 := Int.eq_of_mul_eq_mul_right (show g ≠ 0 by omega) (by rw [← a1, ← b1])
  have es : s2' = s2 := Int.eq_of_mul_eq_mul_right (show g ≠ 0 by omega) (by omega)
  subst et es
  have eo : o1' = o1 := Int.eq_of_mul_eq_mul_right (show w ≠ 0 by omega) (by omega)
  have eo0 : o0' = o0 := Int.eq_of_mul_eq_mul_right (show w ≠ 0 by omega) (by omega)
  subst eo eo0
  rfl
theorem cs_of41 {a b c e t : Int} (h : isCut a b c e = true) (k : b ≤ 4 * t ∧ c ≤ 4 * t ∧ -(6 * t) ≤ e ∧ e ≤ 4 * t) (t0 : 0 < t) (t1 : t ≤ 10 ^ 13) : CS a b c e := by
  obtain ⟨k1, k2, k3, k4, _⟩ := cut_parts h
  refine ⟨h, Bi.of_abs (10 ^ 28) ?_ (by decide +kernel)⟩
  have mm : meas4 b c e = e * e + 4 * (b * c) := by unfold meas4; grind
  have q1 : e * e ≤ (6 * t) * (6 * t) := by
    rcases (by omega : 0 ≤ e ∨ e ≤ 0) with h | h
    · exact Int.mul_le_mul (by omega) (by omega) h (by omega)
    · have : e * e = (0 - e) * (0 - e) := by grind
      rw [this]
      exact Int.mul_le_mul (by omega) (by omega) (by omega) (by omega)
  have q0 := sq_nn e
  have q2 : b * c ≤ (4 * t) * (4 * t) := Int.mul_le_mul (by omega) (by omega) (by omega) (by omega)
  have q3 : 0 ≤ b * c := Int.mul_nonneg (by omega) (by omega)
  have q4 : t * t ≤ 10 ^ 13 * 10 ^ 13 := Int.mul_le_mul t1 t1 (by omega) (by decide)
  have q5 : (6 * t) * (6 * t) = 36 * (t * t) := by grind
  have q6 : (4 * t) * (4 * t) = 16 * (t * t) := by grind
  omega
theorem des_of {a b c e p q : Int} (h : CS a b c e) (hd : isDeed b c e p q = true) : ∃ a' w g e', DeS a b c e p q a' w g e' := by
  have hp := (isDeed_parts hd).1
  obtain ⟨a', w, g, e', hn⟩ := done_ex (a := a) (b := b) (e := e) (cut_parts h.cut).2.1 hp.q1 hp.cp
  obtain ⟨bp, bq⟩ := deed_48 h hd
  exact ⟨a', w, g, e', h, hd, bp.mono, bq.mono, hn⟩
theorem litK {n B : Nat} {i : Int} (h : Bi n i) (hn : n + 1 ≤ B := by decide) (h0 : 0 < n := by decide) : lit B (.int i) = true := decide_eq_true (Nat.lt_of_lt_of_le (Nat.lt_succ_of_le (Nat.le_of_lt (log2_of n h h0))) hn)
end DL
namespace DL
/-! MQ: shears between a deed and its back -/
/-- the shear along the base path 0 -/
def shrM (b c t : Int) : M4 := ⟨⟨1, t * (b / (Int.gcd b c : Int)), 0, 0⟩, ⟨0, 1, 0, 0⟩, ⟨0, 0, 1, t * (c / (Int.gcd b c : Int))⟩, ⟨0, 0, 0, 1⟩⟩
/-- the number told -/
def bsN (s2 o0 w g : Int) : Int := (0 - o0) / ((0 - s2) * (g / (Int.gcd w g : Int)))
def V4.neg (v : V4) : V4 := ⟨0 - v.a, 0 - v.b, 0 - v.c, 0 - v.d⟩
/-- sums of base paths -/
def V4.sum (v : V4) (x0 x1 x2 x3 : V4) : V4 := ⟨v.a * x0.a + v.b * x1.a + v.c * x2.a + v.d * x3.a, v.a * x0.b + v.b * x1.b + v.c * x2.b + v.d * x3.b, v.a * x0.c + v.b * x1.c + v.c * x2.c + v.d * x3.c, v.a * x0.d + v.b * x1.d + v.c * x2.d + v.d * x3.d⟩
theorem led_neg (A : M4) (v : V4) : A.led v.neg = (A.led v).neg := by
  ext <;> simp only [M4.led, dot4, V4.neg] <;> grind
/-- the root's work goes along with a deed's table -/
theorem tab_work {a b c e p q a' w g e' x z o0 o1 s2 t2 : Int} (hg : 0 < g) (hw : 0 < w) (hn : IsDone a b c e p q a' w g e') (k : DTab a b c e p q a' w g x z o0 o1 s2 t2) (v : V4) :
    rtd a b c e ((tabM p q x z o0 o1 s2 t2).led v) = ((tabM p q x z o0 o1 s2 t2).led (rtd a' w g e' v)).lin (e + q * c) ((tabM p q x z o0 o1 s2 t2).led v) := by
  obtain ⟨hd, hI, hJ, hK, hL⟩ := k.sol hg hw hn
  have pz := k.pz
  have tu := hn.tu
  obtain ⟨v0, v1, v2, v3⟩ := v
  ext <;> simp only [rtd, tabM, V4.lin, M4.led, dot4]
  · grind
  · grind
  · grind
  · grind
theorem shr_work {a b c e t : Int} (hc : 1 ≤ c) (v : V4) : rtd a b c e ((shrM b c t).led v) = (shrM b c t).led (rtd a b c e v) := by
  have G0 : 0 < (Int.gcd b c : Int) := by
    have := Int.gcd_pos_of_ne_zero_right b (show c ≠ 0 by omega)
    omega
  obtain ⟨b1, hb⟩ := Int.gcd_dvd_left b c
  obtain ⟨c1, hc1⟩ := Int.gcd_dvd_right b c
  have e1 : b / (Int.gcd b c : Int) = b1 := Int.ediv_eq_of_eq_mul_right (by omega) hb
  have e2 : c / (Int.gcd b c : Int) = c1 := Int.ediv_eq_of_eq_mul_right (by omega) hc1
  unfold shrM
  rw [e1, e2]
  generalize (Int.gcd b c : Int) = G at *
  subst hb hc1
  obtain ⟨v0, v1, v2, v3⟩ := v
  ext <;> simp only [rtd, M4.led, dot4] <;> grind
theorem shr_keeps (b c t : Int) : Keeps (shrM b c t) := by
  refine keeps_of ?_ ?_ ?_ ?_ ?_ ?_ <;> simp only [crs, M4.T, shrM] <;> grind
theorem shr_base (b c t : Int) : (shrM b c t).led (bse 0) = bse 0 := by
  ext <;> simp only [M4.led, dot4, shrM, bse] <;> grind
/-- the deed back, told by the table's numbers -/
theorem back_num {a b c e p q a' w g e' x z o0 o1 s2 t2 p1 q1 : Int} (hg : 0 < g) (hw : 0 < w) (hn : IsDone a b c e p q a' w g e') (k : DTab a b c e p q a' w g x z o0 o1 s2 t2) (h : IsBack a b c e p q a' w g p1 q1) :
    q1 = 0 - s2 ∧ ∃ N, 0 - o0 = p1 + N * (q1 * (g / (Int.gcd w g : Int))) := by
  obtain ⟨hd, hI, hJ, hK, hL⟩ := k.sol hg hw hn
  have nq := h.nq
  have e1 : q1 = 0 - s2 := Int.eq_of_mul_eq_mul_right (show g ≠ 0 by omega) (by rw [nq, hJ]; grind)
  refine ⟨e1, ?_⟩
  obtain ⟨x', z', t, f1, f2, f3⟩ := h.ex
  have f3 := rest_row f1 k.pz f2 f3
  rw [hI, hJ] at f2
  rw [hK, hL] at f3
  have f4 : (-p1) * t2 - t * s2 = 1 := by
    refine Int.eq_of_mul_eq_mul_right (show g ≠ 0 by omega) ?_
    have h1 : ((-p1) * t2 - t * s2) * g = -p1 * (t2 * g) + t * (0 - s2 * g) := by grind
    rw [h1, f2, Int.one_mul]
  -- T
  obtain ⟨T, hT⟩ : ∃ T, T = p1 * o1 + t * o0 := ⟨_, rfl⟩
  have g1 : p1 = 0 - o0 - T * s2 := by
    have h1 : (0 - o0 - T * s2) - p1 = 0 - o0 * (1 - ((-p1) * t2 - t * s2)) - p1 * (1 - (o0 * t2 - o1 * s2)) := by rw [hT]; grind
    rw [f4, hd] at h1
    omega
  have f5 : (-p1) * (0 - t2 * a' - o1 * w) + t * (s2 * a' + o0 * w) + a' = w * T := by
    have h1 : (-p1) * (0 - t2 * a' - o1 * w) + t * (s2 * a' + o0 * w) + a' = w * T + a' * (1 - ((-p1) * t2 - t * s2)) := by rw [hT]; grind
    rw [h1, f4]; omega
  rw [f5] at f3
  obtain ⟨w', lot, i1, i2, i3, i4, i5, i6⟩ := lot_mul (w := w) hg
  have G0 : 0 < (Int.gcd w g : Int) := by
    have := Int.gcd_pos_of_ne_zero_right w (show g ≠ 0 by omega)
    omega
  have d1 : lot ∣ w' * T := by
    obtain ⟨j, hj⟩ := f3
    generalize (Int.gcd w g : Int) = G at *
    refine ⟨j, Int.eq_of_mul_eq_mul_left (show G ≠ 0 by omega) ?_⟩
    have : G * (w' * T) = w * T := by rw [i1]; grind
    rw [this, hj, i2]; grind
  obtain ⟨j, hj⟩ := dvd_cop i6 d1
  rw [i3]
  exact ⟨0 - j, by rw [g1, e1, hj]; grind⟩
theorem bs_eq {a b c e p q a' w g e' x z o0 o1 s2 t2 p1 q1 N : Int} (h : IsBack a b c e p q a' w g p1 q1) (e1 : q1 = 0 - s2) (hN : 0 - o0 = p1 + N * (q1 * (g / (Int.gcd w g : Int)))) : bsN s2 o0 w g = N := by
  have l0 := h.lo
  have l1 := h.hi
  unfold bsN
  rw [← e1, hN]
  generalize q1 * (g / (Int.gcd w g : Int)) = D at *
  rw [Int.add_mul_ediv_right _ _ (show D ≠ 0 by omega), Int.ediv_eq_zero_of_lt l0 l1]
  omega
/-- which shears bring the base path 0 to its opposite -/
theorem first_iff {a b c e p q a' w g e' x z o0 o1 s2 t2 p1 q1 N t : Int} (hg : 0 < g) (hw : 0 < w) (hn : IsDone a b c e p q a' w g e') (k : DTab a b c e p q a' w g x z o0 o1 s2 t2) (h : IsBack a b c e p q a' w g p1 q1) (q0 : 0 < q1)
    (e1 : q1 = 0 - s2) (hN : 0 - o0 = p1 + N * (q1 * (g / (Int.gcd w g : Int)))) :
    (tabM p q x z o0 o1 s2 t2).led ((shrM w g t).led ⟨0, 0, p1, q1⟩) = (bse 0).neg ↔ t = N := by
  obtain ⟨hd, hI, hJ, hK, hL⟩ := k.sol hg hw hn
  have l0 := h.lo
  have l1 := h.hi
  have D0 : 0 < q1 * (g / (Int.gcd w g : Int)) := by omega
  generalize hl : g / (Int.gcd w g : Int) = l at *
  obtain ⟨P, hP⟩ : ∃ P, P = p1 + t * l * q1 := ⟨_, rfl⟩
  have ev : (tabM p q x z o0 o1 s2 t2).led ((shrM w g t).led ⟨0, 0, p1, q1⟩) = ⟨t2 * P - o1 * q1, (0 - s2) * P + o0 * q1, ((0 - s2) * P + o0 * q1) * p, ((0 - s2) * P + o0 * q1) * q⟩ := by
    rw [hP]
    ext <;> simp only [M4.led, dot4, shrM, tabM, hl] <;> grind
  rw [ev]
  constructor
  · intro hv
    have h2 := congrArg V4.b hv
    simp only [V4.neg, bse] at h2
    rw [← e1] at h2
    have h3 : q1 * (P + o0) = q1 * 0 := by
      have : q1 * (P + o0) = q1 * P + o0 * q1 := by grind
      rw [this, h2]; omega
    have h4 := Int.eq_of_mul_eq_mul_left (show q1 ≠ 0 by omega) h3
    have h5 : t * (q1 * l) = N * (q1 * l) := by
      have : t * l * q1 = t * (q1 * l) := by grind
      omega
    exact Int.eq_of_mul_eq_mul_right (by omega) h5
  · rintro rfl
    have hPo : P = 0 - o0 := by
      have : t * l * q1 = t * (q1 * l) := by grind
      omega
    rw [hPo, e1]
    ext <;> simp only [V4.neg, bse] <;> grind
theorem bs_bounds {a b c e p q a' w g e' x z o0 o1 s2 t2 p1 q1 N : Int} (hg : 0 < g) (hw : 0 < w) (hc : 1 ≤ c) (hn : IsDone a b c e p q a' w g e') (k : DTab a b c e p q a' w g x z o0 o1 s2 t2) (h : IsBack a b c e p q a' w g p1 q1) (q0 : 0 < q1)
    (e1 : q1 = 0 - s2) (hN : 0 - o0 = p1 + N * (q1 * (g / (Int.gcd w g : Int)))) : -2 ≤ N ∧ N ≤ 0 := by
  obtain ⟨hd, hI, hJ, hK, hL⟩ := k.sol hg hw hn
  have l0 := h.lo
  have l1 := h.hi
  have nq := h.nq
  have lo := hn.lo
  have hi := hn.hi
  have z0 := k.z0
  have z1 := k.z1
  obtain ⟨w', lot, i1, i2, i3, i4, i5, i6⟩ := lot_mul (w := w) hg
  have G0 : 0 < (Int.gcd w g : Int) := by
    have := Int.gcd_pos_of_ne_zero_right w (show g ≠ 0 by omega)
    omega
  have hw' : w / (Int.gcd w g : Int) = w' := Int.ediv_eq_of_eq_mul_right (by omega) i1
  rw [hw'] at z1
  rw [i3] at hN l1
  generalize (Int.gcd w g : Int) = G at *
  have w1 : 0 < w' := by
    rcases (by omega : 0 < w' ∨ w' ≤ 0) with r | r
    · exact r
    · have := Int.mul_nonpos_of_nonneg_of_nonpos (show 0 ≤ G by omega) r
      omega
  -- o0 w = z c + q1 a'
  have ho : o0 * w = z * c + q1 * a' := by rw [e1, hL]; grind
  have za : 0 ≤ z * c := Int.mul_nonneg z0 (by omega)
  have qa : 0 ≤ q1 * a' := Int.mul_nonneg (by omega) lo
  have o00 : 0 ≤ o0 := by
    rcases (by omega : 0 ≤ o0 ∨ o0 ≤ -1) with r | r
    · exact r
    · have : o0 * w ≤ -1 * w := Int.mul_le_mul_of_nonneg_right r (by omega)
      omega
  -- o0 < 2 q1 lot
  have ub : o0 < 2 * (q1 * lot) := by
    rcases (by omega : o0 < 2 * (q1 * lot) ∨ 2 * (q1 * lot) ≤ o0) with r | r
    · exact r
    · exfalso
      have h1 : 2 * (q1 * lot) * w ≤ o0 * w := Int.mul_le_mul_of_nonneg_right r (by omega)
      have h2 : z * c ≤ (q * w' - 1) * c := Int.mul_le_mul_of_nonneg_right (by omega) (by omega)
      have h3 : q1 * a' ≤ q1 * (G - 1) := Int.mul_le_mul_of_nonneg_left (by omega) (by omega)
      have h4 : (q * w' - 1) * c = q1 * lot * w - c := by
        have : q1 * lot * w = q * c * w' := by rw [← nq, i2, i1]; grind
        rw [this]; grind
      have h5 : q1 * G ≤ q1 * lot * w := by
        have e2 : q1 * lot * w = q1 * G * (lot * w') := by rw [i1]; grind
        have e3 : 1 ≤ lot * w' := Int.mul_pos i4 w1
        have e4 : 0 ≤ q1 * G := Int.mul_nonneg (by omega) (by omega)
        have := Int.mul_le_mul_of_nonneg_left e3 e4
        rw [e2]; omega
      have h6 : q1 * (G - 1) = q1 * G - q1 := by grind
      have h7 : 2 * (q1 * lot) * w = 2 * (q1 * lot * w) := by grind
      omega
  have D0 : 0 < q1 * lot := by omega
  constructor
  · rcases (by omega : -2 ≤ N ∨ N ≤ -3) with r | r
    · exact r
    · have : N * (q1 * lot) ≤ -3 * (q1 * lot) := Int.mul_le_mul_of_nonneg_right r (by omega)
      omega
  · rcases (by omega : N ≤ 0 ∨ 1 ≤ N) with r | r
    · exact r
    · have : 1 * (q1 * lot) ≤ N * (q1 * lot) := Int.mul_le_mul_of_nonneg_right r (by omega)
      omega
/-! ### the whole round -/
def V4.add (u v : V4) : V4 := ⟨u.a + v.a, u.b + v.b, u.c + v.c, u.d + v.d⟩
def V4.sc (s : Int) (v : V4) : V4 := ⟨s * v.a, s * v.b, s * v.c, s * v.d⟩
theorem lin_eq (u : V4) (s : Int) (v : V4) : u.lin s v = u.add (v.sc s) := rfl
theorem led_add (A : M4) (u v : V4) : A.led (u.add v) = (A.led u).add (A.led v) := by
  ext <;> simp only [M4.led, dot4, V4.add] <;> grind
theorem led_sc (A : M4) (s : Int) (v : V4) : A.led (v.sc s) = (A.led v).sc s := by
  ext <;> simp only [M4.led, dot4, V4.sc] <;> grind
theorem mul_led (A B : M4) (v : V4) : (A.mul B).led v = A.led (B.led v) := by
  ext <;> simp only [M4.mul, M4.T, M4.led, dot4] <;> grind
/-- a deed, the shear, the deed back, the other shear -/
def roundM (T1 S1 T2 S2 : M4) : M4 := (T1.mul S1).mul (T2.mul S2)
def M4.neg (A : M4) : M4 := ⟨A.a.neg, A.b.neg, A.c.neg, A.d.neg⟩
/-- what goes along with the root's work and turns two paths about turns all about -/
theorem all_neg {a b c e p q : Int} {X : M4} (hc : 1 ≤ c) (hq : 1 ≤ q) (hR : ∀ v, rtd a b c e (X.led v) = X.led (rtd a b c e v)) (h0 : X.led (bse 0) = (bse 0).neg) (h1 : X.led ⟨0, 0, p, q⟩ = (⟨0, 0, p, q⟩ : V4).neg) : X = M4.one.neg := by
  have c0 : c ≠ 0 := by omega
  have q0 : q ≠ 0 := by omega
  have r0 := hR (bse 0)
  have r3 := hR (bse 3)
  obtain ⟨⟨a0, a1, a2, a3⟩, ⟨b0, b1, b2, b3⟩, ⟨d0, d1, d2, d3⟩, ⟨e0, e1, e2, e3⟩⟩ := X
  have h0a := congrArg V4.a h0
  have h0b := congrArg V4.b h0
  have h0c := congrArg V4.c h0
  have h0d := congrArg V4.d h0
  simp only [M4.led, dot4, bse, V4.neg] at h0a h0b h0c h0d
  obtain ⟨rfl, rfl, rfl, rfl⟩ : a0 = -1 ∧ b0 = 0 ∧ d0 = 0 ∧ e0 = 0 := by omega
  have r0a := congrArg V4.a r0
  have r0b := congrArg V4.b r0
  have r0c := congrArg V4.c r0
  have r0d := congrArg V4.d r0
  simp only [M4.led, dot4, bse, rtd] at r0a r0b r0c r0d
  have m2a : a2 = 0 := Int.eq_of_mul_eq_mul_left c0 (by grind)
  have m2b : b2 = 0 := Int.eq_of_mul_eq_mul_left c0 (by grind)
  have m2c : d2 = -1 := Int.eq_of_mul_eq_mul_left c0 (by grind)
  have m2d : e2 = 0 := Int.eq_of_mul_eq_mul_left c0 (by grind)
  subst m2a m2b m2c m2d
  have h1a := congrArg V4.a h1
  have h1b := congrArg V4.b h1
  have h1c := congrArg V4.c h1
  have h1d := congrArg V4.d h1
  simp only [M4.led, dot4, V4.neg] at h1a h1b h1c h1d
  have m3a : a3 = 0 := Int.eq_of_mul_eq_mul_right q0 (by grind)
  have m3b : b3 = 0 := Int.eq_of_mul_eq_mul_right q0 (by grind)
  have m3c : d3 = 0 := Int.eq_of_mul_eq_mul_right q0 (by grind)
  have m3d : e3 = -1 := Int.eq_of_mul_eq_mul_right q0 (by grind)
  subst m3a m3b m3c m3d
  have r3a := congrArg V4.a r3
  have r3b := congrArg V4.b r3
  have r3c := congrArg V4.c r3
  have r3d := congrArg V4.d r3
  simp only [M4.led, dot4, bse, rtd] at r3a r3b r3c r3d
  have m1a : a1 = 0 := Int.eq_of_mul_eq_mul_right c0 (by grind)
  have m1b : b1 = -1 := Int.eq_of_mul_eq_mul_right c0 (by grind)
  have m1c : d1 = 0 := Int.eq_of_mul_eq_mul_right c0 (by grind)
  have m1d : e1 = 0 := Int.eq_of_mul_eq_mul_right c0 (by grind)
  subst m1a m1b m1c m1d
  rfl
theorem tab_first {p q x z o0 o1 s2 t2 : Int} : (tabM p q x z o0 o1 s2 t2).led (bse 0) = ⟨0, 0, p, q⟩ := by
  ext <;> simp only [M4.led, dot4, tabM, bse] <;> grind
theorem round_neg {a b c e p q a' w g e' p1 q1 x z o0 o1 s2 t2 x' z' o0' o1' s2' t2' N N' : Int} (hg : 0 < g) (hw : 0 < w) (hc : 1 ≤ c) (hb : 0 < b) (hq : 1 ≤ q) (hq1 : 1 ≤ q1)
    (hn : IsDone a b c e p q a' w g e') (k : DTab a b c e p q a' w g x z o0 o1 s2 t2) (h : IsBack a b c e p q a' w g p1 q1)
    (hn' : IsDone a' w g e' p1 q1 a b c e) (k' : DTab a' w g e' p1 q1 a b c x' z' o0' o1' s2' t2') (h' : IsBack a' w g e' p1 q1 a b c p q)
    (e1 : q1 = 0 - s2) (hN : 0 - o0 = p1 + N * (q1 * (g / (Int.gcd w g : Int)))) (e1' : q = 0 - s2') (hN' : 0 - o0' = p + N' * (q * (c / (Int.gcd b c : Int)))) :
    roundM (tabM p q x z o0 o1 s2 t2) (shrM w g N) (tabM p1 q1 x' z' o0' o1' s2' t2') (shrM b c N') = M4.one.neg := by
  have f := (first_iff (t := N) hg hw hn k h (by omega) e1 hN).mpr rfl
  have f' := (first_iff (t := N') (by omega) hb hn' k' h' (by omega) e1' hN').mpr rfl
  have w1 := tab_work hg hw hn k
  have w2 := tab_work (by omega) hb hn' k'
  have tu := hn.tu
  have nq := h.nq
  have t1 : (tabM p q x z o0 o1 s2 t2).led (bse 0) = ⟨0, 0, p, q⟩ := tab_first
  have t2 : (tabM p1 q1 x' z' o0' o1' s2' t2').led (bse 0) = ⟨0, 0, p1, q1⟩ := tab_first
  generalize tabM p q x z o0 o1 s2 _ = T1 at *
  generalize tabM p1 q1 x' z' o0' o1' s2' _ = T2 at *
  have s1 := shr_work (a := a') (b := w) (c := g) (e := e') (t := N) (by omega)
  have s2 := shr_work (a := a) (b := b) (c := c) (e := e) (t := N') hc
  have b1 := shr_base w g N
  have b2 := shr_base b c N'
  generalize shrM w g N = S1 at *
  generalize shrM b c N' = S2 at *
  have hX : ∀ v, (roundM T1 S1 T2 S2).led v = T1.led (S1.led (T2.led (S2.led v))) := fun v => by
    unfold roundM
    rw [mul_led, mul_led, mul_led]
  refine all_neg (a := a) (b := b) (e := e) (p := p) (q := q) hc hq (fun v => ?_) ?_ ?_
  · rw [hX, hX, w1, s1, w2, s2]
    rw [lin_eq, lin_eq, led_add, led_sc, led_add, led_sc]
    have z0 : (e' + q1 * g) + (e + q * c) = 0 := by rw [tu, nq]; grind
    generalize T1.led (S1.led (T2.led (S2.led (rtd a b c e v)))) = Y
    generalize T1.led (S1.led (T2.led (S2.led v))) = Z
    ext <;> simp only [V4.add, V4.sc] <;> grind
  · rw [hX, b2, t2, f]
  · have : (⟨0, 0, p, q⟩ : V4) = T1.led (bse 0) := t1.symm
    rw [hX, f', led_neg, b1, led_neg, t1]
end DL
namespace DL
open PySem PySem.Spec PyProof.Rows L2
local macro_rules | `(tactic| walk_at "rd") => `(tactic| simp only [startD, List.map, List.replicate, List.length_cons, List.length_nil, List.append_eq, List.append_nil, List.nil_append, List.cons_append, Nat.reduceSub, Nat.reduceAdd, List.getElem?_cons_zero, List.getElem?_cons_succ, List.set_cons_zero, List.set_cons_succ,
  dC, dVar, dOp, dTru, gTru, tru, dChain, dAnd, dOr, dNot, dAndV, dOrV, dNotV, dIf, dNeg, gNeg, dNil, dCons, dTup, dLst, dOwn, gIx, rBin, gAdd, gCmpI, dCall, dCallK, dSeq, dNext, dDrop, dRet, dRetN, dIfS, dName, dGNil, dGCons, dGTup, dSub, gSetL, dAsg, dPar, dPar3, dAug, gIpI, dSeqI, gSeqI, dRngI, gRng1, gRng2, dCB, gAbs, gInt, gMax, gMin, gGcd, gLen, lenD, gIsi, tyM, tyD, dBits, gBits, dMet, gAppend, dPart, dNoPart, dSl, gSl_tup, gSl_lst, cut_1, dEnds, gIs, isB, dNever, dCallX, dRaise, dTry, dFld, dCallV, gLRng, gFrz, dFrz, dFor, dLc, wipeD, dYes,
  sizeLine_eq, Nat.reduceLeDiff, gEq_int, gNe_int, gEq_strs, gNe_strs, gIn_two, gRepr_bl, rs_lst, rs_tup, rs_scr, rs_int, atI_0, atI_1, atI_2, atI_3, atI_4, atI_5, ixN_30, ixN_31, ixN_32, gEq_bl, gNe_bl, decide_eq_true_eq, beq_iff_eq, Bool.not_eq_true', beq_eq_false_iff_ne, decide_eq_false_iff_not, Bool.not_true, Bool.not_false, if_true, if_false, Bool.false_eq_true, ite_true, ite_false, true_and, and_true, ne_eq, Bool.bne_false, Bool.bne_true, reduceCtorEq])
local macro_rules | `(tactic| walk_at "rh") => `(tactic| simp only [*, startD, List.map, List.replicate, List.length_cons, List.length_nil, List.append_eq, List.append_nil, List.nil_append, List.cons_append, Nat.reduceSub, Nat.reduceAdd, List.getElem?_cons_zero, List.getElem?_cons_succ, List.set_cons_zero, List.set_cons_succ,
  dC, dVar, dOp, dTru, gTru, tru, dChain, dAnd, dOr, dNot, dAndV, dOrV, dNotV, dIf, dNeg, gNeg, dNil, dCons, dTup, dLst, dOwn, gIx, rBin, gAdd, gCmpI, dCall, dCallK, dSeq, dNext, dDrop, dRet, dRetN, dIfS, dName, dGNil, dGCons, dGTup, dSub, gSetL, dAsg, dPar, dPar3, dAug, gIpI, dSeqI, gSeqI, dRngI, gRng1, gRng2, dCB, gAbs, gInt, gMax, gMin, gGcd, gLen, lenD, gIsi, tyM, tyD, dBits, gBits, dMet, gAppend, dPart, dNoPart, dSl, gSl_tup, gSl_lst, cut_1, dEnds, gIs, isB, dNever, dCallX, dRaise, dTry, dFld, dCallV, gLRng, gFrz, dFrz, dFor, dLc, wipeD, dYes,
  sizeLine_eq, Nat.reduceLeDiff, gEq_int, gNe_int, gEq_strs, gNe_strs, gIn_two, gRepr_bl, rs_lst, rs_tup, rs_scr, rs_int, atI_0, atI_1, atI_2, atI_3, atI_4, atI_5, ixN_30, ixN_31, ixN_32, gEq_bl, gNe_bl, decide_eq_true_eq, beq_iff_eq, Bool.not_eq_true', beq_eq_false_iff_ne, decide_eq_false_iff_not, Bool.not_true, Bool.not_false, if_true, if_false, Bool.false_eq_true, ite_true, ite_false, true_and, and_true, ne_eq, Bool.bne_false, Bool.bne_true, reduceCtorEq])
local macro_rules | `(tactic| walk_at "kb") => `(tactic| simp only [kb_NoneType_list, kb_bool_list, kb_int_list, kb_str_list, kb_tuple_list, kb_list_list, kb_dict_list, kb_NoneType_int, kb_bool_int, kb_int_int, kb_str_int, kb_tuple_int, kb_list_int, kb_dict_int, kb_NoneType_bool, kb_bool_bool, kb_int_bool, kb_str_bool, kb_tuple_bool, kb_list_bool, kb_dict_bool, kb_NoneType_tuple, kb_bool_tuple, kb_int_tuple, kb_str_tuple, kb_tuple_tuple, kb_list_tuple, kb_dict_tuple, if_true, if_false, Bool.false_eq_true, ite_true, ite_false, Bool.not_true, Bool.not_false])
/-! k46: shears between a deed and what leads back -/
theorem rd_turned_aboutT : ∀ ds M Q, ds.length = 1 → sp_lcols4 ds M Q DX0 → t_turned_about (dEnds M Q) (startD 3 ds) M := rd_l_columns_d906
theorem rd_deed_table_byT : ∀ ds M Q, ds.length = 2 → sp_deedtable ds M Q DX0 → t_deed_table_by sp_opposite_by sp_leddown sp_done_by sp_lcols4 (dEnds M Q) (startD 23 ds) M := by
  rintro _ M Q - ⟨a, b, c, e, p, q, a', w, g, e', rfl, h, hq⟩
  refine deed_walk (spT := sp_lcols4) h fun x z o0 o1 s2 t2 tab bx bz => ?_
  refine ⟨_, (tabM p q x z o0 o1 s2 t2).T, rfl, ?_, rtqG (hq x z o0 o1 s2 t2 tab bx bz) (by rfl)⟩
  refine ⟨_, _, _, _, res_new, ?_, ?_, ?_, ?_⟩ <;> rfl
theorem rd_deed_table : ∀ ds M Q, ds.length = 2 → sp_deedtable ds M Q DX0 → t_deed_table sp_check_cutting sp_check_deed sp_deedtable (dEnds M Q) (startD 2 ds) M := by
  rintro _ M Q - ⟨a, b, c, e, p, q, a', w, g, e', rfl, h, hq⟩
  unfold t_deed_table
  refine dSeq_open fun B hB => ?_
  walk_at "rd"
  refine ⟨a, b, c, e, rfl, h.cs.cut, ?_⟩
  rw [← hB]
  clear hB B
  refine dSeq_open fun B hB => ?_
  walk_at "rd"
  refine ⟨a, b, c, e, p, q, rfl, h.cs.cut, h.cs.cb4, h.bq.mono, h.deed, ?_⟩
  rw [← hB]
  clear hB B
  walk_at "rd"
  exact ⟨a, b, c, e, p, q, a', w, g, e', rfl, h, fun x z o0 o1 s2 t2 tab bx bz => rtq (hq x z o0 o1 s2 t2 tab bx bz) (by rfl)⟩
/-! ### tables whose rows are owned, made new -/
def newT (A : M4) (M : Mem) (Q : DQ) : Prop := Q (.own (M.length + 4)) (M ++ cells5 M.length A)
theorem newT.rtq {A : M4} {M : Mem} {Q : DQ} (h : newT A M Q) : Rtq M Q (.own (M.length + 4)) (M ++ cells5 M.length A) := by
  have := tabOwn.rtq (G := []) (A := A) (M := M) (Q := Q) (by unfold tabOwn; rw [List.append_nil]; exact h) (fun c hc => by cases hc)
  rwa [List.append_nil] at this
def sp_self_o : DSp := fun ds M Q _ => ds = [] ∧ newT M4.one M Q
def sp_lbase_o : DSp := fun ds M Q _ => ∃ i : Nat, ds = [.int (i : Int)] ∧ i < 4 ∧ Q (.own M.length) (M ++ [(bse i).O])
theorem rd_l_base_3ec4_o : ∀ ds M Q, ds.length = 1 → sp_lbase_o ds M Q DX0 → t_l_base_3ec4_o (dEnds M Q) (startD 2 ds) M := by
  rintro _ M Q - ⟨i, rfl, hi, q⟩
  unfold t_l_base_3ec4_o
  walk_at "rd"
  refine ⟨by unfold Rg; decide, ?_⟩
  refine lcW_idxO (ys := [.int (bse i).a, .int (bse i).b, .int (bse i).c, .int (bse i).d]) (by rfl) trivial (by rw [sizeLine_eq]; exact Nat.le_of_ble_eq_true rfl) (fun j d w hd hw Z N' hz => ?_) ?_
  · obtain ⟨_, rfl⟩ := rng_get.mp hd
    have hj := (List.getElem?_eq_some_iff.mp hw).1
    rcases (by simp only [List.length_cons, List.length_nil] at hj; omega : j = 0 ∨ j = 1 ∨ j = 2 ∨ j = 3) with rfl | rfl | rfl | rfl <;> rcases (by omega : i = 0 ∨ i = 1 ∨ i = 2 ∨ i = 3) with rfl | rfl | rfl | rfl
    all_goals cases hw
    all_goals walk_at "rd"
    all_goals exact hz
  · refine rtqA (G := [(bse i).O]) q ?_ ?_
    · simp [below]
    · intro c hc
      simp only [List.mem_cons, List.not_mem_nil, or_false] at hc
      subst hc
      rfl
/-- rows made one behind the other, then the list of them -/
theorem four_own {ds : List D} {C : Mem → Prop} {g : DTG} {te : DTE} {r : Env} {M : Mem} {Q : DQ} (A : M4) (hl : ds.length = 4) (hC : ∀ G, C (M ++ G))
    (step : ∀ (i : Nat) (d : D) (G : Mem) (Y : D → Mem → Prop), ds[i]? = some d → Y (.own (M ++ G).length) ((M ++ G) ++ [(A.get i).O]) → g d r (M ++ G) fun r2 M2 => te r2 M2 Y)
    (q : newT A M Q) : lcW true ds C g dYes te r M Q := by
  refine ⟨fun i acc M' => i ≤ 4 ∧ M' = M ++ [A.a.O, A.b.O, A.c.O, A.d.O].take i ∧ acc = [D.own M.length, .own (M.length + 1), .own (M.length + 2), .own (M.length + 3)].take i, ⟨by decide, by simp, rfl⟩, ?_⟩
  rintro i acc M' ⟨hi, rfl, rfl⟩
  refine ⟨hC _, fun hle => ?_, fun d hd => ?_⟩
  · have hi4 : i = 4 := by omega
    subst hi4
    rw [if_pos rfl]
    have hlen : (M ++ List.take 4 [A.a.O, A.b.O, A.c.O, A.d.O]).length = M.length + 4 := by simp
    rw [hlen, List.append_assoc]
    exact q
  · have hi2 : i < 4 := by
      have := (List.getElem?_eq_some_iff.mp hd).1
      omega
    refine step i d _ _ hd ⟨?_, by omega, ?_, ?_⟩
    · rw [sizeLine_eq, List.length_take]
      have : min i [D.own M.length, .own (M.length + 1), .own (M.length + 2), .own (M.length + 3)].length ≤ 4 := Nat.min_le_right _ _
      exact Nat.lt_of_le_of_lt this (by decide)
    · rcases (by omega : i = 0 ∨ i = 1 ∨ i = 2 ∨ i = 3) with rfl | rfl | rfl | rfl <;> (rw [List.append_assoc]; rfl)
    · rcases (by omega : i = 0 ∨ i = 1 ∨ i = 2 ∨ i = 3) with rfl | rfl | rfl | rfl <;> simp
theorem rd_l_self_a3eb_o : ∀ ds M Q, ds.length = 0 → sp_self_o ds M Q DX0 → t_l_self_a3eb_o sp_lbase_o (dEnds M Q) (startD 1 ds) M := by
  rintro _ M Q - ⟨rfl, q⟩
  unfold t_l_self_a3eb_o
  walk_at "rd"
  refine ⟨by unfold Rg; decide, ?_⟩
  refine four_own M4.one rfl (fun _ => trivial) (fun i d G Y hd hY => ?_) q.rtq
  obtain ⟨hi, rfl⟩ := rng_get.mp hd
  have hi : i < 4 := hi
  walk_at "rd"
  refine ⟨i, by rw [Int.zero_add], hi, ?_⟩
  have : M4.one.get i = bse i := by
    rcases (by omega : i = 0 ∨ i = 1 ∨ i = 2 ∨ i = 3) with rfl | rfl | rfl | rfl <;> rfl
  rw [this] at hY
  exact hY
theorem rd_self_table_o : ∀ ds M Q, ds.length = 0 → sp_self_o ds M Q DX0 → t_self_table_o (dEnds M Q) (startD 1 ds) M := by
  rintro _ M Q - ⟨rfl, q⟩
  unfold t_self_table_o
  walk_at "rd"
  refine four_own M4.one rfl (fun _ => trivial) (fun i d G Y hd hY => ?_) q.rtq
  have hi : i < 4 := (List.getElem?_eq_some_iff.mp hd).1
  rcases (by omega : i = 0 ∨ i = 1 ∨ i = 2 ∨ i = 3) with rfl | rfl | rfl | rfl <;> (cases hd; exact hY)
def sp_lself : DSp := fun ds M Q _ => ds = [] ∧ Q M4.one.D M
theorem rd_l_self_a3eb : ∀ ds M Q, ds.length = 0 → sp_lself ds M Q DX0 → t_l_self_a3eb sp_lbase (dEnds M Q) (startD 1 ds) M := by
  rintro _ M Q - ⟨rfl, q⟩
  unfold t_l_self_a3eb
  walk_at "rd"
  refine ⟨by unfold Rg; decide, ?_⟩
  refine lcW_idx (ys := [(bse 0).D, (bse 1).D, (bse 2).D, (bse 3).D]) (by rfl) trivial (by rw [sizeLine_eq]; exact Nat.le_of_ble_eq_true rfl) (fun j d w hd hw Z N' hz => ?_) (rtq q (by rfl))
  obtain ⟨hi, rfl⟩ := rng_get.mp hd
  have hi : j < 4 := hi
  walk_at "rd"
  refine ⟨j, by rw [Int.zero_add], hi, ?_⟩
  rcases (by omega : j = 0 ∨ j = 1 ∨ j = 2 ∨ j = 3) with rfl | rfl | rfl | rfl <;> (cases hw; exact hz)
/-! ### shears -/
theorem topL (M : Mem) (A : M4) : res (M ++ cells5 M.length A) (.own (M.length + 4)) = .lst [.own M.length, .own (M.length + 1), .own (M.length + 2), .own (M.length + 3)] := by
  have : (M ++ cells5 M.length A)[M.length + 4]? = some (.lst [.own M.length, .own (M.length + 1), .own (M.length + 2), .own (M.length + 3)]) := by
    rw [List.getElem?_append_right (by omega), Nat.add_sub_cancel_left]; rfl
  unfold res
  dsimp only
  rw [this]
theorem cget0 (M : Mem) (A : M4) : (M ++ cells5 M.length A)[M.length]? = some A.a.O := by
  rw [List.getElem?_append_right (by omega), Nat.sub_self]; rfl
theorem cget2 (M : Mem) (A : M4) : (M ++ cells5 M.length A)[M.length + 2]? = some A.c.O := by
  rw [List.getElem?_append_right (by omega), Nat.add_sub_cancel_left]; rfl
theorem cset0 (M : Mem) (A : M4) (v : V4) : (M ++ cells5 M.length A).set M.length v.O = M ++ cells5 M.length ⟨v, A.b, A.c, A.d⟩ := by
  rw [List.set_append_right _ _ (by omega), Nat.sub_self]; rfl
theorem cset2 (M : Mem) (A : M4) (v : V4) : (M ++ cells5 M.length A).set (M.length + 2) v.O = M ++ cells5 M.length ⟨A.a, A.b, v, A.d⟩ := by
  rw [List.set_append_right _ _ (by omega), Nat.add_sub_cancel_left]; rfl
def sp_shear_o : DSp := fun ds M Q _ => ∃ a b c e t : Int, ds = [T4 a b c e, .int t] ∧ CK a b c e ∧ Bi 300 t ∧ newT (shrM b c t) M Q
theorem rd_shear_by_o : ∀ ds M Q, ds.length = 2 → sp_shear_o ds M Q DX0 → t_shear_by_o sp_self_o (dEnds M Q) (startD 4 ds) M := by
  rintro _ M Q - ⟨a, b, c, e, t, rfl, ck, bt, q⟩
  unfold t_shear_by_o
  obtain ⟨k1, k2, _⟩ := cut_parts ck.cut
  have G0 : 0 < (Int.gcd b c : Int) := by
    have := Int.gcd_pos_of_ne_zero_right b (show c ≠ 0 by omega)
    omega
  have G1 : (Int.gcd b c : Int) ≤ c := Int.le_of_dvd (by omega) (Int.gcd_dvd_right b c)
  have bG : Bi 100 (Int.gcd b c : Int) := by have := ck.bc; unfold Bi at *; omega
  have dG : CDiv 1 (Int.gcd b c : Int) := ⟨by omega, Nat.lt_of_lt_of_le (log2_of 100 bG (by decide)) (by decide)⟩
  have bb : Bi 100 (b / (Int.gcd b c : Int)) := Nat.lt_of_le_of_lt (Int.natAbs_ediv_le_natAbs _ _) ck.bb
  have bc : Bi 100 (c / (Int.gcd b c : Int)) := Nat.lt_of_le_of_lt (Int.natAbs_ediv_le_natAbs _ _) ck.bc
  refine dSeq_open fun B hB => ?_
  walk_at "rd"
  rw [← hB]
  clear hB B
  refine dSeq_open fun B hB => ?_
  walk_at "rd"
  refine ⟨rfl, ?_⟩
  unfold newT
  rw [← hB]
  clear hB B
  refine dSeq_open fun B hB => ?_
  walk_at "rd"
  rw [fdiv_pos G0]
  refine ⟨dG, ⟨bt.sm, bb.sm⟩, ?_⟩
  rw [topL]
  show (match (M ++ cells5 M.length M4.one)[M.length]? with
    | some (Own.lst l) => match ixN l.length 1 with
      | some n => B [some (T4 a b c e), some (D.int t), some (D.int ↑(b.gcd c)), some (D.own (List.length M + 4))] (List.set (M ++ cells5 M.length M4.one) M.length (Own.lst (l.set n (D.int (t * (b / ↑(b.gcd c)))))))
      | none => False
    | x => False)
  rw [cget0]
  show B [some (T4 a b c e), some (D.int t), some (D.int ↑(b.gcd c)), some (D.own (List.length M + 4))] (List.set (M ++ cells5 M.length M4.one) M.length (V4.O ⟨1, t * (b / ↑(b.gcd c)), 0, 0⟩))
  rw [cset0, ← hB]
  clear hB B
  refine dSeq_open fun B hB => ?_
  walk_at "rd"
  rw [fdiv_pos G0]
  refine ⟨dG, ⟨bt.sm, bc.sm⟩, ?_⟩
  rw [topL]
  show (match (M ++ cells5 M.length ⟨⟨1, t * (b / ↑(b.gcd c)), 0, 0⟩, M4.one.b, M4.one.c, M4.one.d⟩)[M.length + 2]? with
    | some (Own.lst l) => match ixN l.length 3 with
      | some n => B [some (T4 a b c e), some (D.int t), some (D.int ↑(b.gcd c)), some (D.own (List.length M + 4))] (List.set (M ++ cells5 M.length ⟨⟨1, t * (b / ↑(b.gcd c)), 0, 0⟩, M4.one.b, M4.one.c, M4.one.d⟩) (M.length + 2) (Own.lst (l.set n (D.int (t * (c / ↑(b.gcd c)))))))
      | none => False
    | x => False)
  rw [cget2]
  show B [some (T4 a b c e), some (D.int t), some (D.int ↑(b.gcd c)), some (D.own (List.length M + 4))] (List.set (M ++ cells5 M.length ⟨⟨1, t * (b / ↑(b.gcd c)), 0, 0⟩, M4.one.b, M4.one.c, M4.one.d⟩) (M.length + 2) (V4.O ⟨0, 0, 1, t * (c / ↑(b.gcd c))⟩))
  rw [cset2, ← hB]
  clear hB B
  walk_at "rd"
  exact newT.rtq (A := shrM b c t) q
theorem rd_shear_table_o : ∀ ds M Q, ds.length = 2 → sp_shear_o ds M Q DX0 → t_shear_table_o sp_check_cutting sp_is_whole sp_shear_o (dEnds M Q) (startD 2 ds) M := by
  rintro _ M Q - ⟨a, b, c, e, t, rfl, ck, bt, q⟩
  unfold t_shear_table_o
  refine dSeq_open fun B hB => ?_
  walk_at "rd"
  refine ⟨a, b, c, e, rfl, ck.cut, ?_⟩
  rw [← hB]
  clear hB B
  refine dSeq_open fun B hB => ?_
  walk_at "rd"
  refine ⟨.int t, _, rfl, rfl, ?_⟩
  walk_at "rd"
  rw [← hB]
  clear hB B
  walk_at "rd"
  exact ⟨a, b, c, e, t, rfl, ck, bt, q.rtq⟩
theorem rd_l_shear_1435 : ∀ ds M Q, ds.length = 2 → sp_shear_o ds M Q DX0 → t_l_shear_1435 sp_gcd sp_self_o (dEnds M Q) (startD 4 ds) M := by
  rintro _ M Q - ⟨a, b, c, e, t, rfl, ck, bt, q⟩
  unfold t_l_shear_1435
  obtain ⟨k1, k2, _⟩ := cut_parts ck.cut
  have G0 : 0 < (Int.gcd b c : Int) := by
    have := Int.gcd_pos_of_ne_zero_right b (show c ≠ 0 by omega)
    omega
  have G1 : (Int.gcd b c : Int) ≤ c := Int.le_of_dvd (by omega) (Int.gcd_dvd_right b c)
  have bG : Bi 100 (Int.gcd b c : Int) := by have := ck.bc; unfold Bi at *; omega
  have dG : CDiv 1 (Int.gcd b c : Int) := ⟨by omega, Nat.lt_of_lt_of_le (log2_of 100 bG (by decide)) (by decide)⟩
  have bb : Bi 100 (b / (Int.gcd b c : Int)) := Nat.lt_of_le_of_lt (Int.natAbs_ediv_le_natAbs _ _) ck.bb
  have bc : Bi 100 (c / (Int.gcd b c : Int)) := Nat.lt_of_le_of_lt (Int.natAbs_ediv_le_natAbs _ _) ck.bc
  refine dSeq_open fun B hB => ?_
  walk_at "rd"
  refine ⟨b, c, rfl, rfl, ?_⟩
  unfold newT
  try dsimp only
  rw [← hB]
  clear hB B
  refine dSeq_open fun B hB => ?_
  walk_at "rd"
  rw [fdiv_pos G0, fdiv_pos G0]
  refine ⟨dG, ⟨bt.sm, bb.sm⟩, dG, ⟨bt.sm, bc.sm⟩, ?_⟩
  obtain ⟨X, hX⟩ : ∃ X, t * (b / (Int.gcd b c : Int)) = X := ⟨_, rfl⟩
  obtain ⟨Y, hY⟩ : ∃ Y, t * (c / (Int.gcd b c : Int)) = Y := ⟨_, rfl⟩
  rw [hX, hY]
  unfold shrM at q
  rw [hX, hY] at q
  rw [topL]
  simp only [atI_0]
  rw [cget0]
  dsimp only
  rw [show ixN [D.int M4.one.a.a, D.int M4.one.a.b, D.int M4.one.a.c, D.int M4.one.a.d].length 1 = some 1 from rfl]
  dsimp only
  have s0 : List.set (M ++ cells5 M.length M4.one) M.length (Own.lst (List.set [D.int M4.one.a.a, D.int M4.one.a.b, D.int M4.one.a.c, D.int M4.one.a.d] 1 (D.int X))) = M ++ cells5 M.length ⟨⟨1, X, 0, 0⟩, M4.one.b, M4.one.c, M4.one.d⟩ := cset0 M M4.one ⟨1, X, 0, 0⟩
  rw [s0, topL]
  simp only [atI_2]
  rw [cget2]
  show B [some (T4 a b c e), some (D.int t), some (D.int ↑(b.gcd c)), some (D.own (List.length M + 4))] (List.set (M ++ cells5 M.length ⟨⟨1, X, 0, 0⟩, M4.one.b, M4.one.c, M4.one.d⟩) (M.length + 2) (V4.O ⟨0, 0, 1, Y⟩))
  rw [cset2, ← hB]
  clear hB B
  walk_at "rd"
  exact newT.rtq q
/-! ### products -/
theorem mul_bi {A B : M4} {n m : Nat} (hA : A.bi n) (hB : B.bi m) : (A.mul B).bi (n + m + 2) := by
  have d : ∀ v w : V4, v.bi n → w.bi m → Bi (n + m + 2) (dot4 v w) := fun v w hv hw =>
    ((((hv.a.mul hw.a).up (by omega : n + m ≤ n + m)).add ((hv.b.mul hw.b).up (by omega))).up (by omega : n + m + 1 ≤ n + m + 1) |> fun h1 => by
      have h2 := ((hv.c.mul hw.c).up (by omega : n + m ≤ n + m)).add ((hv.d.mul hw.d).up (by omega : n + m ≤ n + m))
      have h3 := h1.add h2
      unfold dot4
      have e : v.a * w.a + v.b * w.b + v.c * w.c + v.d * w.d = v.a * w.a + v.b * w.b + (v.c * w.c + v.d * w.d) := by omega
      rw [e]; exact h3)
  have hT := hB.T
  exact ⟨⟨d _ _ hA.a hT.a, d _ _ hA.a hT.b, d _ _ hA.a hT.c, d _ _ hA.a hT.d⟩, ⟨d _ _ hA.b hT.a, d _ _ hA.b hT.b, d _ _ hA.b hT.c, d _ _ hA.b hT.d⟩, ⟨d _ _ hA.c hT.a, d _ _ hA.c hT.b, d _ _ hA.c hT.c, d _ _ hA.c hT.d⟩, ⟨d _ _ hA.d hT.a, d _ _ hA.d hT.b, d _ _ hA.d hT.c, d _ _ hA.d hT.d⟩⟩
def sp_times4 : DSp := fun ds M Q _ => ∃ (x y : D) (A B : M4), ds = [x, y] ∧ TabR M x A ∧ TabR M y B ∧ A.bi 900 ∧ B.bi 900 ∧ Q (A.mul B).D M
theorem rd_table_times : ∀ ds M Q, ds.length = 2 → sp_times4 ds M Q DX0 → t_table_times sp_lcols4 sp_tled (dEnds M Q) (startD 3 ds) M := by
  rintro _ M Q - ⟨x, y, A, B, rfl, hx, hy, bA, bB, q⟩
  unfold t_table_times
  walk_at "rd"
  refine ⟨y, B, rfl, hy, ?_⟩
  dsimp only
  refine lcW_idx (ys := [(A.led B.T.a).D, (A.led B.T.b).D, (A.led B.T.c).D, (A.led B.T.d).D]) rfl trivial (by rw [sizeLine_eq]; exact Nat.le_of_ble_eq_true rfl) (fun j d w hd hw Z N' hz => ?_) ?_
  · have hj : j < 4 := (List.getElem?_eq_some_iff.mp hw).1
    have bT := bB.T
    rcases (by omega : j = 0 ∨ j = 1 ∨ j = 2 ∨ j = 3) with rfl | rfl | rfl | rfl <;> (cases hd; cases hw)
    · exact ⟨rfl, x, _, A, B.T.a, rfl, hx, rfl, bA, bT.a, hz⟩
    · exact ⟨rfl, x, _, A, B.T.b, rfl, hx, rfl, bA, bT.b, hz⟩
    · exact ⟨rfl, x, _, A, B.T.c, rfl, hx, rfl, bA, bT.c, hz⟩
    · exact ⟨rfl, x, _, A, B.T.d, rfl, hx, rfl, bA, bT.d, hz⟩
  · exact ⟨_, ⟨A.led B.T.a, A.led B.T.b, A.led B.T.c, A.led B.T.d⟩, rfl, TabR.pure M ⟨A.led B.T.a, A.led B.T.b, A.led B.T.c, A.led B.T.d⟩, rtq q (by rfl)⟩
theorem rd_l_product_063e : ∀ ds M Q, ds.length = 2 → sp_times4 ds M Q DX0 → t_l_product_063e sp_lcols4 sp_tled (dEnds M Q) (startD 3 ds) M := rd_table_times
theorem rd_table_product : ∀ ds M Q, ds.length = 2 → sp_times4 ds M Q DX0 → t_table_product sp_ctable sp_times4 (dEnds M Q) (startD 2 ds) M := by
  rintro _ M Q - ⟨x, y, A, B, rfl, hx, hy, bA, bB, q⟩
  unfold t_table_product
  refine dSeq_open fun B' hB => ?_
  walk_at "rd"
  refine ⟨x, A, rfl, hx, ?_⟩
  rw [← hB]
  clear hB B'
  refine dSeq_open fun B' hB => ?_
  walk_at "rd"
  refine ⟨y, B, rfl, hy, ?_⟩
  rw [← hB]
  clear hB B'
  walk_at "rd"
  exact ⟨x, y, A, B, rfl, hx, hy, bA, bB, rtq q (by rfl)⟩
/-! ### back -/
def backM (A : M4) : M4 := ⟨⟨A.b.b, 0 - A.a.b, A.d.b, 0 - A.c.b⟩, ⟨0 - A.b.a, A.a.a, 0 - A.d.a, A.c.a⟩, ⟨A.b.d, 0 - A.a.d, A.d.d, 0 - A.c.d⟩, ⟨0 - A.b.c, A.a.c, 0 - A.d.c, A.c.c⟩⟩
/-- the list of the rows, then the rows -/
def cellsB (n : Nat) (A : M4) : Mem := [.lst [.own (n + 1), .own (n + 2), .own (n + 3), .own (n + 4)], A.a.O, A.b.O, A.c.O, A.d.O]
def cellsBi (n : Nat) (A : M4) (i : Nat) : Mem := .lst ([D.own (n + 1), .own (n + 2), .own (n + 3), .own (n + 4)].take i) :: [A.a.O, A.b.O, A.c.O, A.d.O].take i
theorem tabB (M : Mem) (A : M4) : TabR (M ++ cellsB M.length A) (.own M.length) A := by
  have g : ∀ (i : Nat) (c : Own), (cellsB M.length A)[i]? = some c → (M ++ cellsB M.length A)[M.length + i]? = some c := fun i c h => by
    rw [List.getElem?_append_right (by omega), Nat.add_sub_cancel_left]; exact h
  refine ⟨.own (M.length + 1), .own (M.length + 2), .own (M.length + 3), .own (M.length + 4), ?_, ?_, ?_, ?_, ?_⟩
  · have := g 0 _ rfl
    rw [Nat.add_zero] at this
    unfold res; dsimp only; rw [this]
  · unfold res; dsimp only; rw [g 1 _ rfl]
  · unfold res; dsimp only; rw [g 2 _ rfl]
  · unfold res; dsimp only; rw [g 3 _ rfl]
  · unfold res; dsimp only; rw [g 4 _ rfl]
def pN : Nat → Nat
  | 0 => 1 | 1 => 0 | 2 => 3 | _ => 2
def sI : Nat → Int
  | 0 => 1 | 1 => -1 | 2 => 1 | _ => -1
def sp_back_o : DSp := fun ds M Q _ => ∃ (y : D) (A : M4), ds = [y] ∧ TabR M y A ∧ A.bi 900 ∧ Q (.own M.length) (M ++ cellsB M.length (backM A))
theorem rd_back_of_o : ∀ ds M Q, ds.length = 1 → sp_back_o ds M Q DX0 → t_back_of_o (dEnds M Q) (startD 8 ds) M := by
  rintro _ M Q - ⟨y, A, rfl, hT, bA, q⟩
  unfold t_back_of_o
  refine dSeq_open fun B hB => ?_
  walk_at "rd"
  rw [← hB]
  clear hB B
  refine dSeq_open fun B hB => ?_
  walk_at "rd"
  refine ⟨by unfold Rg; decide, ?_⟩
  refine ⟨fun i r M' => i ≤ 4 ∧ M' = M ++ cellsBi M.length (backM A) i ∧ ∃ u2 u3 u4 u5 u6 u7, r = [some y, some (.own M.length), u2, u3, u4, u5, u6, u7], ⟨by decide, rfl, _, _, _, _, _, _, rfl⟩, ?_⟩
  rintro i r M' ⟨hi, rfl, u2, u3, u4, u5, u6, u7, rfl⟩
  refine ⟨trivial, fun hl => ?_, fun d hd => ?_⟩
  · have hi4 : i = 4 := by rw [rng_len] at hl; omega
    subst hi4
    dsimp only
    rw [← hB]
    clear hB B
    walk_at "rd"
    refine rtqA (G := cellsB M.length (backM A)) q ?_ ?_
    · simp [below, cellsB]
    · intro c hc
      simp only [cellsB, List.mem_cons, List.not_mem_nil, or_false] at hc
      rcases hc with rfl | rfl | rfl | rfl | rfl <;> simp [belowO, belowAll, below, cellsB]
  · clear hB
    obtain ⟨hi2, rfl⟩ := rng_get.mp hd
    have hi2 : i < 4 := hi2
    have hc : ∀ i : Nat, i < 4 → ((0 + (i : Int)).fmod 2 = 0 ∧ (0 + (i : Int)) + 1 = (pN i : Int) ∧ sI i = 1) ∨ (¬ (0 + (i : Int)).fmod 2 = 0 ∧ (0 + (i : Int)) - 1 = (pN i : Int) ∧ sI i = -1) := by
      intro i hi
      rcases (by omega : i = 0 ∨ i = 1 ∨ i = 2 ∨ i = 3) with rfl | rfl | rfl | rfl
      · exact .inl (by decide)
      · exact .inr (by decide)
      · exact .inl (by decide)
      · exact .inr (by decide)
    have c2 : CMod 1 2 := by show (2 : Int) ≠ 0; decide
    refine dSeq_open fun B hB => ?_
    have rest : B [some y, some (.own M.length), some (.int (0 + (i : Int))), some (.int (pN i : Int)), u4, u5, u6, u7] (M ++ cellsBi M.length (backM A) i) := by
      rw [← hB]
      clear hB B
      refine dSeq_open fun B hB => ?_
      have rest : B [some y, some (.own M.length), some (.int (0 + (i : Int))), some (.int (pN i : Int)), some (.int (sI i)), u5, u6, u7] (M ++ cellsBi M.length (backM A) i) := by
        rw [← hB]
        clear hB B
        have hPl : (M ++ cellsBi M.length (backM A) i).length = M.length + i + 1 := by
          rcases (by omega : i = 0 ∨ i = 1 ∨ i = 2 ∨ i = 3) with rfl | rfl | rfl | rfl <;> simp [cellsBi]
        obtain ⟨P, hP⟩ : ∃ P, P = M ++ cellsBi M.length (backM A) i := ⟨_, rfl⟩
        rw [← hP] at hPl ⊢
        refine dSeq_open fun B hB => ?_
        walk_at "rd"
        rw [← hB]
        clear hB B
        refine dSeq_open fun B hB => ?_
        walk_at "rd"
        refine ⟨by unfold Rg; decide, ?_⟩
        obtain ⟨R, hR⟩ : ∃ R, R = (backM A).get i := ⟨_, rfl⟩
        refine ⟨fun j r M1 => j ≤ 4 ∧ M1 = P ++ [.lst ([D.int R.a, .int R.b, .int R.c, .int R.d].take j)] ∧ ∃ v6 v7, r = [some y, some (.own M.length), some (.int (0 + (i : Int))), some (.int (pN i : Int)), some (.int (sI i)), some (.own P.length), v6, v7], ⟨by decide, rfl, _, _, rfl⟩, ?_⟩
        rintro j r M1 ⟨hj, rfl, v6, v7, rfl⟩
        refine ⟨trivial, fun hl => ?_, fun d hd => ?_⟩
        · have hj4 : j = 4 := by rw [rng_len] at hl; omega
          subst hj4
          dsimp only
          rw [← hB]
          clear hB B
          walk_at "rd"
          have hn : (P ++ [Own.lst (List.take 4 [D.int R.a, D.int R.b, D.int R.c, D.int R.d])])[M.length]? = some (.lst (List.take i [D.own (M.length + 1), .own (M.length + 2), .own (M.length + 3), .own (M.length + 4)])) := by
            rw [hP, List.append_assoc, List.getElem?_append_right (Nat.le_refl _), Nat.sub_self]
            rfl
          refine ⟨⟨_, _, rfl, hn⟩, ?_⟩
          rw [hn]
          dsimp only
          refine ⟨?_, by omega, ?_, _, _, _, _, _, _, rfl⟩
          · rw [List.length_take]
            have : min i [D.own (M.length + 1), .own (M.length + 2), .own (M.length + 3), .own (M.length + 4)].length ≤ 4 := Nat.min_le_right _ _
            exact Nat.lt_of_le_of_lt this (by decide)
          · rw [hPl, hP, List.append_assoc, List.set_append_right _ _ (Nat.le_refl _), Nat.sub_self, hR]
            rcases (by omega : i = 0 ∨ i = 1 ∨ i = 2 ∨ i = 3) with rfl | rfl | rfl | rfl <;> rfl
        · clear hB
          obtain ⟨hj2, rfl⟩ := rng_get.mp hd
          have hj2 : j < 4 := hj2
          refine dSeq_open fun B hB => ?_
          have rest : B [some y, some (.own M.length), some (.int (0 + (i : Int))), some (.int (pN i : Int)), some (.int (sI i)), some (.own P.length), some (.int (0 + (j : Int))), some (.int (pN j : Int))] (P ++ [.lst ([D.int R.a, .int R.b, .int R.c, .int R.d].take j)]) := by
            rw [← hB]
            clear hB B
            walk_at "rd"
            obtain ⟨L, hL⟩ : ∃ L, L = [D.int R.a, D.int R.b, D.int R.c, D.int R.d] := ⟨_, rfl⟩
            have hTM : TabR (P ++ [Own.lst (List.take j L)]) y A := by rw [hP, List.append_assoc]; exact hT.app _
            have hl : (P ++ [Own.lst (List.take j L)])[P.length]? = some (.lst (List.take j L)) := by
              rw [List.getElem?_append_right (Nat.le_refl _), Nat.sub_self]; rfl
            have hset : List.set (P ++ [Own.lst (List.take j L)]) P.length (Own.lst (List.take j L ++ [.int (R.get j)])) = P ++ [Own.lst (List.take (j + 1) L)] := by
              rw [List.set_append_right _ _ (Nat.le_refl _), Nat.sub_self, hL]
              rcases (by omega : j = 0 ∨ j = 1 ∨ j = 2 ∨ j = 3) with rfl | rfl | rfl | rfl <;> rfl
            have hlen : (List.take j L).length < 16777216 := by
              rw [List.length_take, hL]
              have : min j [D.int R.a, D.int R.b, D.int R.c, D.int R.d].length ≤ 4 := Nat.min_le_right _ _
              exact Nat.lt_of_le_of_lt this (by decide)
            rw [← hL]
            obtain ⟨x0, x1, x2, x3, hy, h0, h1, h2, h3⟩ := hTM
            obtain ⟨x, ax, rx⟩ : ∃ x, atI [x0, x1, x2, x3] (pN j : Int) = some x ∧ res (P ++ [Own.lst (List.take j L)]) x = (A.get (pN j)).D := by
              rcases (by omega : j = 0 ∨ j = 1 ∨ j = 2 ∨ j = 3) with rfl | rfl | rfl | rfl
              · exact ⟨x1, rfl, h1⟩
              · exact ⟨x0, rfl, h0⟩
              · exact ⟨x3, rfl, h3⟩
              · exact ⟨x2, rfl, h2⟩
            obtain ⟨V, hV⟩ : ∃ V, V = A.get (pN j) := ⟨_, rfl⟩
            have av : atI [D.int V.a, .int V.b, .int V.c, .int V.d] (pN i : Int) = some (.int (V.get (pN i))) := by
              rcases (by omega : i = 0 ∨ i = 1 ∨ i = 2 ∨ i = 3) with rfl | rfl | rfl | rfl <;> rfl
            have bV : V.bi 900 := by rw [hV]; exact bA.get _
            have bv : Bi 900 (V.get (pN i)) := by
              rcases (by omega : i = 0 ∨ i = 1 ∨ i = 2 ∨ i = 3) with rfl | rfl | rfl | rfl
              · exact bV.b
              · exact bV.a
              · exact bV.d
              · exact bV.c
            have ent : sI i * sI j * V.get (pN i) = R.get j := by
              rw [hV, hR]
              rcases (by omega : i = 0 ∨ i = 1 ∨ i = 2 ∨ i = 3) with rfl | rfl | rfl | rfl <;> rcases (by omega : j = 0 ∨ j = 1 ∨ j = 2 ∨ j = 3) with rfl | rfl | rfl | rfl <;> simp only [sI, pN, M4.get, V4.get, backM] <;> omega
            have bs : ∀ i, i < 4 → Bi 2 (sI i) := fun i hi => by
              rcases (by omega : i = 0 ∨ i = 1 ∨ i = 2 ∨ i = 3) with rfl | rfl | rfl | rfl <;> exact Bi.of_abs 1 (by decide) (by decide)
            have b1 : Bi 2 1 := Bi.of_abs 1 (by decide) (by decide)
            have bm : Bi 2 (-1) := Bi.of_abs 1 (by decide) (by decide)
            rw [← hV] at rx
            rw [hy]
            dsimp only
            rw [ax]
            dsimp only
            rw [rx]
            dsimp only
            rw [av]
            dsimp only
            rw [hl]
            dsimp only
            refine ⟨⟨_, _, rfl, hl⟩, c2, ?_⟩
            rcases hc j hj2 with ⟨g1, g2, g3⟩ | ⟨g1, g2, g3⟩
            · rw [if_pos g1]
              rw [g3] at ent
              rw [ent]
              exact ⟨⟨(bs i hi2).sm, b1.sm⟩, ⟨((bs i hi2).mul b1).sm, bv.sm⟩, hlen, by omega, hset, _, _, rfl⟩
            · rw [if_neg g1]
              rw [g3] at ent
              rw [ent]
              exact ⟨⟨(bs i hi2).sm, bm.sm⟩, ⟨((bs i hi2).mul bm).sm, bv.sm⟩, hlen, by omega, hset, _, _, rfl⟩
          walk_at "rd"
          refine ⟨c2, ?_⟩
          rcases hc j hj2 with ⟨h1, h2, h3⟩ | ⟨h1, h2, h3⟩
          · rw [if_pos h1, h2]; exact rest
          · rw [if_neg h1, h2]; exact rest
      walk_at "rd"
      refine ⟨c2, ?_⟩
      rcases hc i hi2 with ⟨h1, h2, h3⟩ | ⟨h1, h2, h3⟩
      · rw [if_pos h1, ← h3]; exact rest
      · rw [if_neg h1, ← h3]; exact rest
    walk_at "rd"
    refine ⟨c2, ?_⟩
    rcases hc i hi2 with ⟨h1, h2, h3⟩ | ⟨h1, h2, h3⟩
    · rw [if_pos h1, h2]; exact rest
    · rw [if_neg h1, h2]; exact rest
/-! ### the number between -/
def sp_backshear : DSp := fun ds M Q _ => ∃ a b c e p q a' w g e' : Int, ds = [T4 a b c e, .tup [.int p, .int q]] ∧ DeS a b c e p q a' w g e' ∧
  ∀ x z o0 o1 s2 t2, DTab a b c e p q a' w g x z o0 o1 s2 t2 → Q (.int (bsN s2 o0 w g)) M
theorem rd_back_shear_by : ∀ ds M Q, ds.length = 2 → sp_backshear ds M Q DX0 → t_back_shear_by sp_back_o sp_deedtable sp_done_by (dEnds M Q) (startD 6 ds) M := by
  rintro _ M Q - ⟨a, b, c, e, p, q, a', w, g, e', rfl, h, hq⟩
  unfold t_back_shear_by
  have ck := h.cs.ck
  obtain ⟨cs', hm', g0⟩ := h.cs'
  have ck' := cs'.ck
  obtain ⟨k1, k2, k3, k4, k5, k6⟩ := cut_parts h.cs.cut
  have hp := (isDeed_parts h.deed).1
  obtain ⟨l1, l2, _⟩ := cut_parts cs'.cut
  refine dSeq_open fun B hB => ?_
  walk_at "rd"
  refine ⟨a, b, c, e, p, q, a', w, g, e', rfl, h, fun x z o0 o1 s2 t2 tab bx bz => ?_⟩
  have bA := tab_M h tab
  obtain ⟨bo0, bo1, bs2, bt2⟩ := tab_bo h tab
  have fq := hq x z o0 o1 s2 t2 tab
  obtain ⟨hd, hI, hJ, hK, hL⟩ := tab.sol g0 (by omega) h.dn
  have hs : s2 < 0 := by
    have h1 : 0 < q * c := Int.mul_pos (by have := hp.q1; omega) (by omega)
    rcases (by omega : s2 < 0 ∨ 0 ≤ s2) with r | r
    · exact r
    · have := Int.mul_nonneg r (show 0 ≤ g by omega)
      omega
  refine ⟨_, tabM p q x z o0 o1 s2 t2, rfl, TabR.pure M (tabM p q x z o0 o1 s2 t2), bA.up (by decide), ?_⟩
  refine ⟨a, b, c, e, p, q, rfl, hp.q1, k2, hp.cp, h.cs.cb4, h.bp.mono, h.bq.mono, fun a2 w2 g2 e2 hd2 => ?_⟩
  obtain ⟨rfl, rfl, rfl, rfl⟩ := h.one hd2
  try dsimp only
  rw [← hB]
  clear hB B
  have hT := tabB M (backM (tabM p q x z o0 o1 s2 t2))
  generalize hMM : M ++ cellsB M.length (backM (tabM p q x z o0 o1 s2 t2)) = MM at *
  obtain ⟨x0, x1, x2, x3, hy, h0, h1, h2, h3⟩ := hT
  have h2' : res MM x2 = .lst [.int o0, .int (0 - -o1), .int (o0 * q), .int (0 - o0 * p)] := h2
  have h3' : res MM x3 = .lst [.int (0 - -s2), .int t2, .int (0 - -s2 * q), .int (-s2 * p)] := h3
  refine dSeq_open fun B hB => ?_
  walk_at "rd"
  rw [hy]
  simp only [atI_2, atI_3, h2', h3', atI_0]
  rw [← hB]
  clear hB B
  refine dSeq_open fun B hB => ?_
  walk_at "rd"
  rw [if_pos (by omega), ← hB]
  clear hB B
  walk_at "rd"
  have G0 : 0 < (Int.gcd w2 g2 : Int) := by
    have := Int.gcd_pos_of_ne_zero_right w2 (show g2 ≠ 0 by omega)
    omega
  have G1 : (Int.gcd w2 g2 : Int) ≤ g2 := Int.le_of_dvd g0 (Int.gcd_dvd_right w2 g2)
  have bG : Bi 100 (Int.gcd w2 g2 : Int) := by have := ck'.bc; unfold Bi at *; omega
  have bl : Bi 100 (g2 / (Int.gcd w2 g2 : Int)) := Nat.lt_of_le_of_lt (Int.natAbs_ediv_le_natAbs _ _) ck'.bc
  have l0 : 0 < g2 / (Int.gcd w2 g2 : Int) := Int.ediv_pos_of_pos_of_dvd g0 (by omega) (Int.gcd_dvd_right _ _)
  rw [fdiv_pos G0]
  have e1 : -(0 - -s2) = 0 - s2 := by omega
  rw [e1]
  have D0 : 0 < (0 - s2) * (g2 / (Int.gcd w2 g2 : Int)) := Int.mul_pos (by omega) l0
  have bD : Bi 304 ((0 - s2) * (g2 / (Int.gcd w2 g2 : Int))) := (((Bi.of_abs 0 (by decide) (Nat.pow_pos (by decide)) : Bi 203 0).sub bs2).mul bl)
  rw [fdiv_pos D0]
  refine ⟨⟨by omega, Nat.lt_of_lt_of_le (log2_of 100 bG (by decide)) (by decide)⟩, ⟨((Bi.of_abs 0 (by decide) (Nat.pow_pos (by decide)) : Bi 203 0).sub bs2).sm, bl.sm⟩, ⟨by omega, Nat.lt_of_lt_of_le (log2_of 304 bD (by decide)) (by decide)⟩, ?_⟩
  rw [← hMM]
  have e2 : (-o0) / ((0 - s2) * (g2 / (Int.gcd w2 g2 : Int))) = bsN s2 o0 w2 g2 := by unfold bsN; rw [show (0 : Int) - o0 = -o0 by omega]
  rw [e2]
  exact rtqG fq
theorem rd_back_shear : ∀ ds M Q, ds.length = 2 → sp_backshear ds M Q DX0 → t_back_shear sp_check_cutting sp_check_deed sp_backshear (dEnds M Q) (startD 2 ds) M := by
  rintro _ M Q - ⟨a, b, c, e, p, q, a', w, g, e', rfl, h, hq⟩
  unfold t_back_shear
  refine dSeq_open fun B hB => ?_
  walk_at "rd"
  refine ⟨a, b, c, e, rfl, h.cs.cut, ?_⟩
  rw [← hB]
  clear hB B
  refine dSeq_open fun B hB => ?_
  walk_at "rd"
  refine ⟨a, b, c, e, p, q, rfl, h.cs.cut, h.cs.cb4, h.bq.mono, h.deed, ?_⟩
  rw [← hB]
  clear hB B
  walk_at "rd"
  exact ⟨a, b, c, e, p, q, a', w, g, e', rfl, h, fun x z o0 o1 s2 t2 tab => rtq (hq x z o0 o1 s2 t2 tab)⟩
/-! ### the law's look at one cutting -/
theorem shr_bi {b c t : Int} {n : Nat} (hb : Bi 100 b) (hc : Bi 100 c) (ht : Bi n t) : (shrM b c t).bi (n + 100) := by
  have z0 : Bi (n + 100) 0 := Bi.of_abs 0 (by decide) (Nat.pow_pos (by decide))
  have z1 : Bi (n + 100) 1 := (Bi.of_abs 1 (by decide) (by decide) : Bi 1 1).up (by omega)
  have bb : Bi 100 (b / (Int.gcd b c : Int)) := Nat.lt_of_le_of_lt (Int.natAbs_ediv_le_natAbs _ _) hb
  have bc : Bi 100 (c / (Int.gcd b c : Int)) := Nat.lt_of_le_of_lt (Int.natAbs_ediv_le_natAbs _ _) hc
  exact ⟨⟨z1, ht.mul bb, z0, z0⟩, ⟨z0, z1, z0, z0⟩, ⟨z0, z0, z1, ht.mul bc⟩, ⟨z0, z0, z0, z1⟩⟩
theorem shr_add (b c t u : Int) : (shrM b c t).mul (shrM b c u) = shrM b c (t + u) := by
  unfold shrM
  generalize b / (Int.gcd b c : Int) = x
  generalize c / (Int.gcd b c : Int) = y
  ext <;> simp only [M4.mul, M4.T, M4.led, dot4] <;> grind
theorem shr_zero (b c : Int) : shrM b c 0 = M4.one := by
  unfold shrM
  ext <;> simp only [M4.one, bse] <;> grind
theorem c46_9 : CPow 10 9 := by first | decide | exact ⟨by decide, by decide⟩
theorem c46_12 : CPow 10 12 := by first | decide | exact ⟨by decide, by decide⟩
theorem shown_tab {A : M4} (h : A.bi 530) : ∃ z, shwnZ A.D = some z := by
  have lr : ∀ v : V4, v.bi 530 → lit 600 v.D = true := fun v hv => lit_cons (litK hv.a) (lit_cons (litK hv.b) (lit_cons (litK hv.c) (lit_cons (litK hv.d) rfl)))
  obtain ⟨z, hz⟩ := shw_of 600 10 (d := A.D) rfl (lit_cons (lr _ h.a) (lit_cons (lr _ h.b) (lit_cons (lr _ h.c) (lit_cons (lr _ h.d) rfl)))) (by simp only [wt, wtAll]; decide) (by decide)
  exact ⟨z, shwnZ_of hz⟩
theorem led_bi {A : M4} {v : V4} {n m : Nat} (hA : A.bi n) (hv : v.bi m) : (A.led v).bi (n + m + 2) := by
  have d : ∀ u w : V4, u.bi n → w.bi m → Bi (n + m + 2) (dot4 u w) := fun u w hv hw => by
    have h1 := ((hv.a.mul hw.a).up (by omega : n + m ≤ n + m)).add ((hv.b.mul hw.b).up (by omega : n + m ≤ n + m))
    have h2 := ((hv.c.mul hw.c).up (by omega : n + m ≤ n + m)).add ((hv.d.mul hw.d).up (by omega : n + m ≤ n + m))
    have h3 := h1.add h2
    unfold dot4
    have e : u.a * w.a + u.b * w.b + u.c * w.c + u.d * w.d = u.a * w.a + u.b * w.b + (u.c * w.c + u.d * w.d) := by omega
    rw [e]; exact h3
  exact ⟨d _ _ hA.a hv, d _ _ hA.b hv, d _ _ hA.c hv, d _ _ hA.d hv⟩
theorem rtd_bi {a b c e : Int} {v : V4} {n : Nat} (ba : Bi 100 a) (bb : Bi 100 b) (bc : Bi 100 c) (be : Bi 100 e) (hv : v.bi n) : (rtd a b c e v).bi (n + 102) := by
  refine ⟨?_, ?_, ?_, ?_⟩
  · exact ((((be.mul hv.a).up (by omega : 100 + n ≤ n + 100)).add ((bb.mul hv.c).up (by omega))).up (by omega : n + 101 ≤ n + 101)).add ((ba.mul hv.d).up (by omega))
  · exact (((be.mul hv.b).up (by omega : 100 + n ≤ n + 101)).add ((bc.mul hv.d).up (by omega)))
  · exact (((bc.mul hv.a).up (by omega : 100 + n ≤ n + 101)).sub ((ba.mul hv.b).up (by omega)))
  · exact (bb.mul hv.b).up (by omega)
theorem bs_uniq {a b c e p q a' w g e' x z o0 o1 s2 t2 x' z' o0' o1' s2' t2' : Int} (h : DeS a b c e p q a' w g e') (k : DTab a b c e p q a' w g x z o0 o1 s2 t2) (k' : DTab a b c e p q a' w g x' z' o0' o1' s2' t2') : bsN s2' o0' w g = bsN s2 o0 w g := by
  have hu := tabM_uniq h k k'
  have h1 : -s2' = -s2 := congrArg (fun A : M4 => A.b.c) hu
  have h2 : o0' = o0 := congrArg (fun A : M4 => A.b.d) hu
  have h3 : s2' = s2 := by omega
  rw [h2, h3]
theorem gEqE_V4 {u w : V4} {M : Mem} {Q : DQ} (q : ∀ v : Bool, (v = true ↔ u = w) → Q (.bl v) M) : gEqE u.D w.D M Q := by
  have h := gEq_iff (n := 2) (d := u.D) (d' := w.D) (M := M) (Q := Q) rfl rfl rfl rfl fun v hv => q v (hv.trans ⟨fun e => by
    simp only [D.lst.injEq, List.cons.injEq, D.int.injEq, and_true] at e
    exact V4.ext e.1 e.2.1 e.2.2.1 e.2.2.2, fun e => by rw [e]⟩)
  unfold gEq at h
  unfold gEqE
  exact h
theorem gEqE_int {i j : Int} {M : Mem} {Q : DQ} : gEqE (.int i) (.int j) M Q = Q (.bl (i == j)) M := rfl
theorem gNeE_int {i j : Int} {M : Mem} {Q : DQ} : gNeE (.int i) (.int j) M Q = Q (.bl (!(i == j))) M := rfl
theorem gNeE_bl {i j : Bool} {M : Mem} {Q : DQ} : gNeE (.bl i) (.bl j) M Q = Q (.bl (!(i == j))) M := rfl
def sp_right46 : DSp := fun ds M Q _ => ∃ (k : Nat) (n : Int), ds = [.own k] ∧ Gn k n M ∧ n ≤ P40 - 60000 ∧ ∀ M', Q (.bl true) M'
theorem rd_l_right_1f94 : ∀ ds M Q, ds.length = 1 → sp_right46 ds M Q DX0 → t_l_right_1f94 sp_lcutting41 sp_random sp_ldeed41 sp_shear_o sp_shear_o sp_lkeeps sp_lrooted41 sp_tled sp_lbase sp_times4 sp_ldone2 sp_back sp_lself sp_deedtable sp_backshear sp_isdt sp_times4 (dEnds M Q) (startD 16 ds) M := by
  rintro _ M Q - ⟨k, n, rfl, hg, hn, fq⟩
  unfold t_l_right_1f94
  have p9 := p400_900
  have p29 := p400_ten (i := 29) (by decide)
  refine dSeq_open fun B hB => ?_
  walk_at "rd"
  refine ⟨c46_9, k, 2, _, rfl, by decide, by omega, hg, by omega, fun v M1 v0 v1 g1 => ?_⟩
  dsimp only
  obtain ⟨t, et, t0, t1⟩ : ∃ t : Int, atI [D.int 30, D.int (10 ^ Int.toNat 9)] v = some (D.int t) ∧ 0 < t ∧ t ≤ 10 ^ 13 := by
    rcases (by omega : v = 0 ∨ v = 1) with rfl | rfl
    · exact ⟨30, rfl, by decide, by decide⟩
    · exact ⟨10 ^ 9, rfl, by decide, by decide⟩
  rw [et]
  dsimp only
  refine ⟨k, t, _, rfl, t0, t1, g1.2.1, by omega, fun a b c e M2 hcut hbd g2 => ?_⟩
  dsimp only
  rw [← hB]
  clear hB B
  have cs := cs_of41 hcut hbd t0 t1
  have ck := cs.ck
  obtain ⟨k1, k2, k3, k4, k5, k6⟩ := cut_parts cs.cut
  have G2 := g1.trans g2
  refine dSeq_open fun B hB => ?_
  walk_at "rd"
  refine ⟨k, a, b, c, e, _, rfl, cs, G2.2.1, by omega, fun p q M3 hd g3 => ?_⟩
  dsimp only
  have G3 := G2.trans g3
  obtain ⟨a', w, g, e', h⟩ := des_of cs hd
  refine ⟨c46_12, ⟨(Bi.of_abs 2 (by decide) (by decide) : Bi 2 2).sm, (Bi.of_abs (10 ^ 12) (by decide) (by decide) : Bi 40 (10 ^ Int.toNat 12)).sm⟩, k, 2 * 10 ^ 12, _, rfl, by decide, by omega, G3.2.1, by omega, fun s M4 s0 s1 g4 => ?_⟩
  dsimp only
  refine ⟨c46_12, ?_⟩
  have G4 := G3.trans g4
  obtain ⟨T, hT⟩ : ∃ T, s - 10 ^ Int.toNat 12 = T := ⟨_, rfl⟩
  have bT : Bi 42 T := Bi.of_abs (10 ^ 12) (by have : (10 : Int) ^ Int.toNat 12 = 10 ^ 12 := rfl; omega) (by decide)
  rw [hT, ← hB]
  clear hB B hT g1 g2 g3 g4 G2 G3
  refine dSeq_open fun B hB => ?_
  walk_at "rd"
  refine ⟨a, b, c, e, T, rfl, ck, bT.up (by decide), ?_⟩
  unfold newT
  rw [← hB]
  clear hB B
  dsimp only
  have bS : (shrM b c T).bi 142 := shr_bi ck.bb ck.bc bT
  have kS := shr_keeps b c T
  have wS : ∀ v, rtd a b c e ((shrM b c T).led v) = (shrM b c T).led (rtd a b c e v) := shr_work k2
  have aS : (shrM b c T).mul (shrM b c (3 - T)) = shrM b c 3 := by rw [shr_add]; congr 1; omega
  obtain ⟨S, hS⟩ : ∃ S, S = shrM b c T := ⟨_, rfl⟩
  rw [← hS] at bS kS aS ⊢
  have wS : ∀ v, rtd a b c e (S.led v) = S.led (rtd a b c e v) := by rw [hS]; exact wS
  have hT0 : ∀ X, TabR (M4 ++ cells5 M4.length S ++ X) (.own (M4.length + 4)) S := fun X => (tabC M4 S).app X
  obtain ⟨P, hP⟩ : ∃ P, P = M4 ++ cells5 M4.length S := ⟨_, rfl⟩
  rw [← hP] at hT0 ⊢
  obtain ⟨zS, hzS⟩ := shown_tab (bS.up (by decide : 142 ≤ 530))
  have b900 : ∀ {j : Int}, Bi 100 j → Bi 900 j := fun h => h.up (by decide)
  refine dSeq_open fun B hB => ?_
  walk_at "rd"
  refine gReprE_res (by have := (hT0 []).resE; rwa [List.append_nil] at this) hzS ?_
  refine ⟨a, b, c, e, T, rfl, ck, bT.up (by decide), ?_⟩
  unfold newT
  rw [← hS]
  refine gReprE_res (tabC P S).resE hzS (gNeE_str ?_)
  dsimp only
  rw [if_neg (by decide)]
  generalize cells5 P.length S = X
  refine ⟨rfl, a, b, c, e, T, rfl, ck, bT.up (by decide), ?_⟩
  unfold newT
  rw [← hS]
  refine gNeE_res (d := S.D) (n := 3) (tabC (P ++ X) S).resE (by rw [List.append_assoc]; exact (hT0 _).resE) rfl ?_
  dsimp only
  rw [if_neg (by decide), List.append_assoc]
  generalize X ++ cells5 (P ++ X).length S = X
  refine ⟨_, S, rfl, hT0 _, bS.up (by decide), fun v hv => ?_⟩
  rw [hv.mpr kS]
  dsimp only
  rw [if_neg (by decide), ← hB]
  clear hB B hv v
  refine dSeq_open fun B hB => ?_
  walk_at "rd"
  refine ⟨by unfold Rg; decide, ?_⟩
  refine ⟨fun i r M' => i ≤ 4 ∧ M' = P ++ X ∧ ∃ u, r = [some (.own k), some (T4 a b c e), some (.tup [.int p, .int q]), some (.int T), some (.own (M4.length + 4)), u, none, none, none, none, none, none, none, none, none, none], ⟨by decide, rfl, none, rfl⟩, ?_⟩
  rintro i r M' ⟨hi, rfl, u, rfl⟩
  refine ⟨trivial, fun hl => ?_, fun d hd => ?_⟩
  case refine_2 =>
    clear hB
    obtain ⟨hi2, rfl⟩ := rng_get.mp hd
    have hi2 : i < 4 := hi2
    have bb := bse_bi (n := 1) (by decide) i
    walk_at "rd"
    refine ⟨i, by rw [Int.zero_add], hi2, ?_⟩
    refine ⟨_, _, S, bse i, rfl, hT0 _, rfl, bS.up (by decide), bb.up (by decide), ?_⟩
    refine ⟨_, a, b, c, e, S.led (bse i), rfl, rfl, ⟨b900 ck.ba, b900 ck.bb, b900 ck.bc, b900 ck.be⟩, (led_bi bS bb).up (by decide), ?_⟩
    refine ⟨i, by rw [Int.zero_add], hi2, ?_⟩
    refine ⟨_, a, b, c, e, bse i, rfl, rfl, ⟨b900 ck.ba, b900 ck.bb, b900 ck.bc, b900 ck.be⟩, bb.up (by decide), ?_⟩
    refine ⟨_, _, S, rtd a b c e (bse i), rfl, hT0 _, rfl, bS.up (by decide), (rtd_bi ck.ba ck.bb ck.bc ck.be bb).up (by decide), ?_⟩
    rw [wS]
    refine gNeE_res (d := (S.led (rtd a b c e (bse i))).D) (n := 2) rfl rfl rfl ?_
    dsimp only
    rw [if_neg (by decide)]
    exact ⟨by omega, rfl, _, rfl⟩
  case refine_1 =>
    dsimp only
    rw [← hB]
    clear hB B
    refine dSeq_open fun B hB => ?_
    walk_at "rd"
    have b3T : Bi 43 (3 - T) := ((Bi.of_abs 3 (by decide) (by decide) : Bi 2 3).up (by decide : 2 ≤ 42)).sub bT
    refine ⟨a, b, c, e, 3 - T, rfl, ck, b3T.up (by decide), ?_⟩
    unfold newT
    have b3 : (shrM b c (3 - T)).bi 143 := shr_bi ck.bb ck.bc b3T
    refine ⟨_, _, S, shrM b c (3 - T), rfl, by rw [List.append_assoc]; exact hT0 _, tabC _ _, bS.up (by decide), b3.up (by decide), ?_⟩
    rw [aS, List.append_assoc]
    generalize X ++ cells5 (P ++ X).length (shrM b c (3 - T)) = X
    refine ⟨a, b, c, e, 3, rfl, ck, (Bi.of_abs 3 (by decide) (by decide) : Bi 2 3).up (by decide), ?_⟩
    unfold newT
    refine gNeE_res (d := (shrM b c 3).D) (n := 3) (TabR.pure _ _).resE (tabC _ _).resE rfl ?_
    dsimp only
    rw [if_neg (by decide), List.append_assoc, ← hB]
    clear hB B
    generalize X ++ cells5 (P ++ X).length (shrM b c 3) = X
    refine dSeq_open fun B hB => ?_
    walk_at "rd"
    have top : res (P ++ X) (.own (M4.length + 4)) = .lst [.own M4.length, .own (M4.length + 1), .own (M4.length + 2), .own (M4.length + 3)] := by
      rw [hP]
      exact res_app (topL M4 S)
    have c0 : (P ++ X)[M4.length]? = some S.a.O := by
      rw [hP, List.append_assoc, List.getElem?_append_right (Nat.le_refl _), Nat.sub_self]
      rfl
    rw [top]
    simp only [atI_0]
    rw [c0]
    dsimp only
    refine ⟨⟨_, _, rfl, c0⟩, by show 4 < 16777216; decide, ?_⟩
    rw [hP, List.append_assoc, List.set_append_right _ _ (Nat.le_refl _), ← hB]
    clear hB B
    generalize List.set (cells5 M4.length S ++ X) _ _ = X
    clear top c0 hT0 hP P hzS zS kS aS wS hS bS S
    have hbe := back_ex h.cs.cut h.deed h.dn
    obtain ⟨p1, q1, hbk⟩ := hbe
    obtain ⟨bd1, bd2, bd3⟩ := back_facts h.cs.cut h.deed h.dn hbk
    obtain ⟨cs', hm', g0⟩ := h.cs'
    have ck' := cs'.ck
    obtain ⟨l1, l2, _⟩ := cut_parts cs'.cut
    have hp := (isDeed_parts h.deed).1
    have hp1 := (isDeed_parts bd1).1
    obtain ⟨bp1, bq1⟩ := deed_48 cs' bd1
    have h' : DeS a' w g e' p1 q1 a b c e := ⟨cs', bd1, bp1.mono, bq1.mono, bd2⟩
    refine dSeq_open fun B hB => ?_
    walk_at "rd"
    refine ⟨a, b, c, e, p, q, a', w, g, e', rfl, h, ?_⟩
    refine ⟨a, b, c, e, p, q, rfl, h.cs.cut, h.cs.cb4, h.bp.mono, h.bq.mono, h.deed, fun a2 w2 g2 e2 p2 q2 hd2 hb2 => ?_⟩
    obtain ⟨rfl, rfl, rfl, rfl⟩ := h.one hd2
    obtain ⟨rfl, rfl⟩ : p1 = p2 ∧ q1 = q2 := by
      refine back_unique g0 h.dn.wi ?_ hbk hb2
      have := h.dn.gc
      rw [this]
      exact Int.gcd_dvd_left _ _
    try dsimp only
    rw [← hB]
    clear hB B hd2 hb2
    refine dSeq_open fun B hB => ?_
    walk_at "rd"
    refine ⟨a, b, c, e, 0, rfl, ck, (Bi.of_abs 0 (by decide) (by decide) : Bi 2 0).up (by decide), ?_⟩
    unfold newT
    rw [shr_zero]
    refine ⟨rfl, ?_⟩
    refine gNeE_res (d := DL.M4.one.D) (n := 3) (tabC _ _).resE (TabR.pure _ _).resE rfl ?_
    dsimp only
    rw [if_neg (by decide), List.append_assoc]
    generalize X ++ cells5 (M4 ++ X).length DL.M4.one = X
    refine ⟨a2, w2, g2, e2, p1, q1, a, b, c, e, rfl, h', ?_⟩
    refine gNeE_res (d := T4 a b c e) (n := 2) rfl rfl rfl ?_
    dsimp only
    rw [if_neg (by decide), ← hB]
    clear hB B
    refine dSeq_open fun B hB => ?_
    walk_at "rd"
    refine ⟨a, b, c, e, p, q, a2, w2, g2, e2, rfl, h, fun x z o0 o1 s2 t2 tab _ _ => ?_⟩
    refine ⟨a2, w2, g2, e2, p1, q1, a, b, c, e, rfl, h', fun x' z' o0' o1' s2' t2' tab' _ _ => ?_⟩
    refine ⟨a, b, c, e, p, q, a2, w2, g2, e2, rfl, h, fun x3 z3 o03 o13 s23 t23 tab3 => ?_⟩
    rw [bs_uniq h tab tab3]
    obtain ⟨e1, N, hN⟩ := back_num g0 (by omega) h.dn tab hbk
    have hbs := bs_eq (a := a) (b := b) (c := c) (e := e) (p := p) (q := q) (a' := a2) (e' := e2) (x := x) (z := z) (o1 := o1) (t2 := t2) hbk e1 hN
    rw [hbs]
    have bdN := bs_bounds g0 (by omega) k2 h.dn tab hbk (by have := hp1.q1; omega) e1 hN
    have bN : Bi 4 N := Bi.of_abs 2 (by omega) (by decide)
    rw [← hB]
    clear hB B
    refine dSeq_open fun B hB => ?_
    walk_at "rd"
    refine ⟨_, a, b, c, e, p, q, a2, w2, g2, e2, x, z, o0, o1, s2, t2, rfl, h, tab, TabR.pure _ (tabM p q x z o0 o1 s2 t2), ?_⟩
    dsimp only
    rw [if_neg (by decide)]
    refine ⟨_, a2, w2, g2, e2, p1, q1, a, b, c, e, x', z', o0', o1', s2', t2', rfl, h', tab', TabR.pure _ (tabM p1 q1 x' z' o0' o1' s2' t2'), ?_⟩
    dsimp only
    rw [if_neg (by decide), ← hB]
    clear hB B
    refine dSeq_open fun B hB => ?_
    walk_at "rd"
    walk_at "kb"
    rw [if_neg (by decide), if_pos bdN.1, if_neg (by omega)]
    refine ⟨rfl, a, b, c, e, p, q, a2, w2, g2, e2, rfl, h, fun x3 z3 o03 o13 s23 t23 tab3 => ?_⟩
    rw [bs_uniq h tab tab3, hbs]
    dsimp only
    rw [gNeE_int]
    dsimp only
    rw [if_neg (by simp), ← hB]
    clear hB B tab3
    obtain ⟨A1, hA1⟩ : ∃ A, A = tabM p q x z o0 o1 s2 t2 := ⟨_, rfl⟩
    obtain ⟨A2, hA2⟩ : ∃ A, A = tabM p1 q1 x' z' o0' o1' s2' t2' := ⟨_, rfl⟩
    have bA1 : A1.bi 530 := by rw [hA1]; exact tab_M h tab
    have bA2 : A2.bi 530 := by rw [hA2]; exact tab_M h' tab'
    have f1 : ∀ t, A1.led ((shrM w2 g2 t).led (A2.led (bse 0))) = (bse 0).neg ↔ t = N := by
      intro t
      rw [hA1, hA2, tab_first]
      exact first_iff g0 (by omega) h.dn tab hbk (by have := hp1.q1; omega) e1 hN
    have eA1 : tabD p q x z o0 o1 s2 t2 = A1.D := by rw [hA1]; rfl
    have eA2 : tabD p1 q1 x' z' o0' o1' s2' t2' = A2.D := by rw [hA2]; rfl
    rw [eA1, eA2]
    refine dSeq_open fun B hB => ?_
    walk_at "rd"
    refine ⟨fun i r M' => i ≤ 3 ∧ (∃ X, M' = M4 ++ X) ∧ ∃ u1 u2, r = [some (D.own k), some (T4 a b c e), some (D.tup [D.int p, D.int q]), some (D.int T), some (D.own (List.length M4 + 4)), u, some (T4 a2 w2 g2 e2), some (D.tup [D.int p1, D.int q1]), some A1.D, some A2.D, some (D.int N), u1, u2, none, none, none], ⟨by decide, ⟨X, rfl⟩, none, none, rfl⟩, ?_⟩
    rintro i r M' ⟨hi, ⟨X, rfl⟩, u1, u2, rfl⟩
    refine ⟨trivial, fun hl => ?_, fun d hd => ?_⟩
    case refine_2 =>
      clear hB
      have hi3 : i < 3 := (List.getElem?_eq_some_iff.mp hd).1
      obtain ⟨t, rfl, bt⟩ : ∃ t, d = .int t ∧ Bi 6 t := by
        rcases (by omega : i = 0 ∨ i = 1 ∨ i = 2) with rfl | rfl | rfl <;> cases hd
        · exact ⟨_, rfl, Bi.of_abs 3 (by omega) (by decide)⟩
        · exact ⟨_, rfl, Bi.of_abs 3 (by omega) (by decide)⟩
        · exact ⟨_, rfl, Bi.of_abs 3 (by omega) (by decide)⟩
      clear hd
      have bSt : (shrM w2 g2 t).bi 106 := shr_bi ck'.bb ck'.bc bt
      have bb := bse_bi (n := 1) (by decide) 0
      have bv1 := led_bi bA2 bb
      have bv2 := led_bi bSt bv1
      refine dSeq_open fun B hB => ?_
      walk_at "rd"
      refine ⟨a2, w2, g2, e2, t, rfl, ck', bt.up (by decide), ?_⟩
      unfold newT
      refine ⟨0, rfl, by decide, ?_⟩
      refine ⟨_, _, A2, bse 0, rfl, TabR.pure _ A2, rfl, bA2.up (by decide), bb.up (by decide), ?_⟩
      refine ⟨_, _, shrM w2 g2 t, A2.led (bse 0), rfl, tabC _ _, rfl, bSt.up (by decide), bv1.up (by decide), ?_⟩
      refine ⟨_, _, A1, (shrM w2 g2 t).led (A2.led (bse 0)), rfl, TabR.pure _ A1, rfl, bA1.up (by decide), bv2.up (by decide), ?_⟩
      rw [← hB, List.append_assoc]
      clear hB B
      generalize X ++ cells5 (M4 ++ X).length (shrM w2 g2 t) = X
      walk_at "rd"
      refine gEqE_V4 (w := ⟨-1, 0, 0, 0⟩) fun v hv => ?_
      rw [gEqE_int]
      try dsimp only
      rw [gNeE_bl]
      try dsimp only
      have ev : v = (t == N) := by
        have hv2 := hv.trans (f1 t)
        by_cases z : t = N
        · rw [hv2.mpr z, z]; simp
        · cases v with
          | true => exact absurd (hv2.mp rfl) z
          | false => simp [z]
      rw [ev, if_neg (by simp)]
      exact ⟨by omega, ⟨_, rfl⟩, _, _, rfl⟩
    case refine_1 =>
      show B _ _
      rw [← hB]
      clear hB B
      obtain ⟨e1', N', hN'⟩ := back_num (by omega) (by omega) h'.dn tab' bd3
      have hbs' := bs_eq (a := a2) (b := w2) (c := g2) (e := e2) (p := p1) (q := q1) (a' := a) (e' := e) (x := x') (z := z') (o1 := o1') (t2 := t2') bd3 e1' hN'
      have bdN' := bs_bounds (by omega) (by omega) (by omega) h'.dn tab' bd3 (by have := hp.q1; omega) e1' hN'
      have bN' : Bi 4 N' := Bi.of_abs 2 (by omega) (by decide)
      have rn := round_neg g0 (by omega) k2 (by omega) hp.q1 hp1.q1 h.dn tab hbk h'.dn tab' bd3 e1 hN e1' hN'
      rw [← hA1, ← hA2] at rn
      have bS1 : (shrM w2 g2 N).bi 104 := shr_bi ck'.bb ck'.bc bN
      have bS2 : (shrM b c N').bi 104 := shr_bi ck.bb ck.bc bN'
      refine dSeq_open fun B hB => ?_
      walk_at "rd"
      refine ⟨a2, w2, g2, e2, N, rfl, ck', bN.up (by decide), ?_⟩
      unfold newT
      refine ⟨_, _, A1, shrM w2 g2 N, rfl, TabR.pure _ A1, tabC _ _, bA1.up (by decide), bS1.up (by decide), ?_⟩
      refine ⟨a2, w2, g2, e2, p1, q1, a, b, c, e, rfl, h', fun x3 z3 o03 o13 s23 t23 tab3 => ?_⟩
      rw [bs_uniq h' tab' tab3, hbs']
      refine ⟨a, b, c, e, N', rfl, ck, bN'.up (by decide), ?_⟩
      unfold newT
      refine ⟨_, _, A2, shrM b c N', rfl, TabR.pure _ A2, tabC _ _, bA2.up (by decide), bS2.up (by decide), ?_⟩
      refine ⟨_, _, A1.mul (shrM w2 g2 N), A2.mul (shrM b c N'), rfl, TabR.pure _ _, TabR.pure _ _, (mul_bi bA1 bS1).up (by decide), (mul_bi bA2 bS2).up (by decide), ?_⟩
      unfold roundM at rn
      rw [rn, ← hB, List.append_assoc, List.append_assoc]
      clear hB B
      generalize X ++ (cells5 _ _ ++ cells5 _ _) = X
      walk_at "rd"
      refine ⟨rfl, ?_⟩
      have row : ∀ (w : V4) (Z : D → Mem → Prop), Z w.neg.D (M4 ++ X) → lcW false [.int w.a, .int w.b, .int w.c, .int w.d] (fun _ => True) (dName 15) dYes (dOp (rBin (fun x x_1 => True) fun i j => i - j) (dC (D.int 0)) (dVar 15)) [some (D.own k), some (T4 a b c e), some (D.tup [D.int p, D.int q]), some (D.int T), some (D.own (List.length M4 + 4)), u, some (T4 a2 w2 g2 e2), some (D.tup [D.int p1, D.int q1]), some A1.D, some A2.D, some (D.int N), u1, u2, some DL.M4.one.neg.D, some w.D, none] (M4 ++ X) Z := by
        intro w Z hz
        refine lcW_idx (ys := [.int (0 - w.a), .int (0 - w.b), .int (0 - w.c), .int (0 - w.d)]) rfl trivial (by rw [sizeLine_eq]; exact Nat.le_of_ble_eq_true rfl) (fun j d y hd hy Z' N' hz' => ?_) hz
        have hj : j < 4 := (List.getElem?_eq_some_iff.mp hy).1
        rcases (by omega : j = 0 ∨ j = 1 ∨ j = 2 ∨ j = 3) with rfl | rfl | rfl | rfl <;> (cases hd; cases hy; exact ⟨trivial, hz'⟩)
      refine lcW_idx (ds := [DL.M4.one.a.D, DL.M4.one.b.D, DL.M4.one.c.D, DL.M4.one.d.D]) (ys := [DL.M4.one.neg.a.D, DL.M4.one.neg.b.D, DL.M4.one.neg.c.D, DL.M4.one.neg.d.D]) (by rfl) trivial (by rw [sizeLine_eq]; exact Nat.le_of_ble_eq_true rfl) (fun j d w hd hw Z N' hz => ?_) ?_
      · have hj : j < 4 := (List.getElem?_eq_some_iff.mp hw).1
        rcases (by omega : j = 0 ∨ j = 1 ∨ j = 2 ∨ j = 3) with rfl | rfl | rfl | rfl <;> (cases hd; cases hw)
        · exact row DL.M4.one.a Z hz
        · exact row DL.M4.one.b Z hz
        · exact row DL.M4.one.c Z hz
        · exact row DL.M4.one.d Z hz
      · refine gEqE_res (d := DL.M4.one.neg.D) (n := 3) rfl rfl rfl ?_
        exact G4.rtqK (fq _)
/-! ### the law -/
theorem desBy {a b c e p q a' w g e' : Int} (h1 : isCut a b c e = true) (h2 : (meas4 b c e).natAbs ≤ 1000) (h3 : isDeed b c e p q = true) (h4 : p.natAbs ≤ 100) (h5 : q.natAbs ≤ 100) (hn : IsDone a b c e p q a' w g e') : DeS a b c e p q a' w g e' :=
  ⟨⟨h1, Bi.of_abs 1000 h2 (by decide)⟩, h3, Bi.of_abs 100 h4 (by decide), Bi.of_abs 100 h5 (by decide), hn⟩
theorem d46_0 : DeS 1 2 2 (-8) 3 4 1 2 2 (-8) := desBy (by decide) (by decide) (by decide) (by decide) (by decide) ⟨by decide, by decide, by decide, by decide, by decide, ⟨1, -1, 2, 3, by decide, by decide, by decide⟩⟩
theorem d46_1 : DeS 0 2 1 (-3) 0 1 0 4 1 1 := desBy (by decide) (by decide) (by decide) (by decide) (by decide) ⟨by decide, by decide, by decide, by decide, by decide, ⟨0, 1, -1, 0, by decide, by decide, by decide⟩⟩
theorem d46_2 : DeS 0 2 1 (-3) 1 2 1 2 2 (-1) := desBy (by decide) (by decide) (by decide) (by decide) (by decide) ⟨by decide, by decide, by decide, by decide, by decide, ⟨1, 0, 0, 1, by decide, by decide, by decide⟩⟩
theorem d46_3 : DeS 0 2 1 (-3) 1 3 0 2 1 (-3) := desBy (by decide) (by decide) (by decide) (by decide) (by decide) ⟨by decide, by decide, by decide, by decide, by decide, ⟨-1, 1, 0, 1, by decide, by decide, by decide⟩⟩
theorem d46_4 : DeS 0 2 1 (-3) 2 3 0 2 1 (-3) := desBy (by decide) (by decide) (by decide) (by decide) (by decide) ⟨by decide, by decide, by decide, by decide, by decide, ⟨1, -1, 1, 2, by decide, by decide, by decide⟩⟩
theorem n46_0 {x z o0 o1 s2 t2 : Int} (k : DTab 1 2 2 (-8) 3 4 1 2 2 x z o0 o1 s2 t2) : bsN s2 o0 2 2 = -2 := by
  have h1 := k.pz
  have h2 := k.z0
  have h3 := k.z1
  rw [show (4 : Int) * (2 / ((Int.gcd 2 2 : Nat) : Int)) = 4 from by decide] at h3
  obtain ⟨rfl, rfl⟩ : x = 2 ∧ z = 3 := by omega
  have c1 := k.c1
  have c2 := k.c2
  have c3 := k.c3
  have c4 := k.c4
  obtain ⟨rfl, rfl⟩ : o0 = 5 ∧ s2 = -4 := by omega
  decide
theorem n46_1 {x z o0 o1 s2 t2 : Int} (k : DTab 0 2 1 (-3) 0 1 0 4 1 x z o0 o1 s2 t2) : bsN s2 o0 4 1 = 0 := by
  have h1 := k.pz
  have h2 := k.z0
  have h3 := k.z1
  rw [show (1 : Int) * (4 / ((Int.gcd 4 1 : Nat) : Int)) = 4 from by decide] at h3
  obtain rfl : x = -1 := by omega
  have c1 := k.c1
  have c2 := k.c2
  have c3 := k.c3
  have c4 := k.c4
  obtain rfl : o1 = 1 := by omega
  obtain rfl : t2 = 0 := by omega
  obtain ⟨rfl, rfl⟩ : o0 = 0 ∧ s2 = -1 := by omega
  decide
theorem n46_2 {x z o0 o1 s2 t2 : Int} (k : DTab 0 2 1 (-3) 1 2 1 2 2 x z o0 o1 s2 t2) : bsN s2 o0 2 2 = -1 := by
  have h1 := k.pz
  have h2 := k.z0
  have h3 := k.z1
  rw [show (2 : Int) * (2 / ((Int.gcd 2 2 : Nat) : Int)) = 2 from by decide] at h3
  obtain ⟨rfl, rfl⟩ : x = 0 ∧ z = 1 := by omega
  have c1 := k.c1
  have c2 := k.c2
  have c3 := k.c3
  have c4 := k.c4
  obtain ⟨rfl, rfl⟩ : o0 = 1 ∧ s2 = -1 := by omega
  decide
theorem n46_3 {x z o0 o1 s2 t2 : Int} (k : DTab 0 2 1 (-3) 1 3 0 2 1 x z o0 o1 s2 t2) : bsN s2 o0 2 1 = -1 := by
  have h1 := k.pz
  have h2 := k.z0
  have h3 := k.z1
  rw [show (3 : Int) * (2 / ((Int.gcd 2 1 : Nat) : Int)) = 6 from by decide] at h3
  have c1 := k.c1
  have c2 := k.c2
  have c3 := k.c3
  have c4 := k.c4
  rcases (by omega : (x = 0 ∧ z = 1) ∨ (x = 1 ∧ z = 4)) with ⟨rfl, rfl⟩ | ⟨rfl, rfl⟩
  · omega
  · obtain ⟨rfl, rfl⟩ : o0 = 2 ∧ s2 = -3 := by omega
    decide
theorem n46_4 {x z o0 o1 s2 t2 : Int} (k : DTab 0 2 1 (-3) 2 3 0 2 1 x z o0 o1 s2 t2) : bsN s2 o0 2 1 = -1 := by
  have h1 := k.pz
  have h2 := k.z0
  have h3 := k.z1
  rw [show (3 : Int) * (2 / ((Int.gcd 2 1 : Nat) : Int)) = 6 from by decide] at h3
  have c1 := k.c1
  have c2 := k.c2
  have c3 := k.c3
  have c4 := k.c4
  rcases (by omega : (x = 1 ∧ z = 2) ∨ (x = 3 ∧ z = 5)) with ⟨rfl, rfl⟩ | ⟨rfl, rfl⟩
  · obtain ⟨rfl, rfl⟩ : o0 = 1 ∧ s2 = -3 := by omega
    decide
  · omega
theorem ck46 : CK 1 2 2 (-1) := (⟨by decide, Bi.of_abs 1000 (by decide) (by decide)⟩ : CS 1 2 2 (-1)).ck
theorem rd_l_law_e1ea : ∀ ds M Q, ds.length = 1 → spLaw ds M Q DX0 → t_l_law_e1ea sp_right46 sp_generator sp_backshear sp_shear_o (dEnds M Q) (startD 4 ds) M := by
  rintro _ _ Q - ⟨rfl, ⟨ns, rfl⟩, q⟩
  have fin : ∀ M2, Rtq [] Q (.bl true) M2 := fun M2 => ⟨[], M2, rfl, Nat.zero_le _, rfl, fun i c h => by simp at h, q⟩
  unfold t_l_law_e1ea
  refine dSeq_open fun B hB => ?_
  walk_at "rd"
  refine ⟨⟨by decide, by decide⟩, ?_⟩
  refine ⟨fun i r M' => ∃ a1, r = [some (.scr ns), a1, none, none], ⟨_, rfl⟩, ?_⟩
  rintro i r M1 ⟨a1, rfl⟩
  refine ⟨trivial, fun hl => ?_, fun d hd => ?_⟩
  · dsimp only
    rw [← hB]
    clear hB B
    refine dSeq_open fun B hB => ?_
    walk_at "rd"
    rw [← hB]
    clear hB B
    refine dSeq_open fun B hB => ?_
    walk_at "rd"
    refine ⟨1, 2, 2, -8, 3, 4, 1, 2, 2, -8, rfl, d46_0, fun x z o0 o1 s2 t2 k => ?_⟩
    rw [n46_0 k]
    dsimp only
    rw [gNeE_int]
    dsimp only
    rw [if_neg (by decide), ← hB]
    clear hB B
    refine dSeq_open fun B hB => ?_
    walk_at "rd"
    refine lcW_idx (ys := [.int 0, .int (-1), .int (-1), .int (-1)]) (by rfl) trivial (by rw [sizeLine_eq]; exact Nat.le_of_ble_eq_true rfl) (fun j d w hd hw Z N' hz => ?_) ?_
    · have hj : j < 4 := (List.getElem?_eq_some_iff.mp hw).1
      rcases (by omega : j = 0 ∨ j = 1 ∨ j = 2 ∨ j = 3) with rfl | rfl | rfl | rfl <;> (cases hd; cases hw)
      · exact ⟨rfl, 0, 2, 1, -3, 0, 1, 0, 4, 1, 1, rfl, d46_1, fun x z o0 o1 s2 t2 k => by rw [n46_1 k]; exact hz⟩
      · exact ⟨rfl, 0, 2, 1, -3, 1, 2, 1, 2, 2, -1, rfl, d46_2, fun x z o0 o1 s2 t2 k => by rw [n46_2 k]; exact hz⟩
      · exact ⟨rfl, 0, 2, 1, -3, 1, 3, 0, 2, 1, -3, rfl, d46_3, fun x z o0 o1 s2 t2 k => by rw [n46_3 k]; exact hz⟩
      · exact ⟨rfl, 0, 2, 1, -3, 2, 3, 0, 2, 1, -3, rfl, d46_4, fun x z o0 o1 s2 t2 k => by rw [n46_4 k]; exact hz⟩
    · refine gNeE_res (d := .lst [.int 0, .int (-1), .int (-1), .int (-1)]) (n := 2) rfl rfl rfl ?_
      dsimp only
      rw [if_neg (by decide), ← hB]
      clear hB B
      walk_at "rd"
      refine ⟨1, 2, 2, -1, 3, rfl, ck46, Bi.of_abs 3 (by decide) (Nat.lt_of_lt_of_le (by decide : 3 < 2 ^ 2) (Nat.pow_le_pow_right (by decide) (by decide))), ?_⟩
      unfold newT
      have hs : shrM 2 2 3 = ⟨⟨1, 3, 0, 0⟩, ⟨0, 1, 0, 0⟩, ⟨0, 0, 1, 3⟩, ⟨0, 0, 0, 1⟩⟩ := by decide
      rw [hs]
      refine gEqE_res (n := 3) (tabC _ _).resE rfl rfl ?_
      exact fin _
  · obtain ⟨hi2, rfl⟩ := rng_get.mp hd
    have hi2 : i < 3 := hi2
    walk_at "rd"
    refine ⟨ns, _, rfl, by omega, by unfold P31; omega, fun M2 hl hg hk => ?_⟩
    dsimp only
    refine ⟨_, _, rfl, hg, by unfold P40; omega, fun M3 => ?_⟩
    dsimp only
    rw [if_neg (by decide)]
    exact ⟨_, rfl⟩
end DL
namespace C_k46
open PySem PySem.Spec PyProof.Rows L2 DL
theorem law_ok {P : Program} {w : World} {K : PySem.W.Frag} {mg : Str → Option Value} {base : Heap} (T : Txt K mg base) : Def P w K mg base CX0 11 "law" s_l_law_e1ea ["_law_script"] spLaw := by
  have D_l_hash_d8d1 := ok_l_hash_d8d1 (P := P) (w := w) T  rd_l_hash_d8d1
  have D_l_random_7821 := ok_l_random_7821 (P := P) (w := w) T D_l_hash_d8d1 rd_l_random_7821
  have D_l_common_b8b4 := ok_l_common_b8b4 (P := P) (w := w) T  rd_l_common_b8b4
  have D_l_is_cutting_19aa := ok_l_is_cutting_19aa (P := P) (w := w) T D_l_common_b8b4 rd_l_is_cutting_19aa
  have D_l_cutting_f2c0 := ok_l_cutting_f2c0 (P := P) (w := w) T D_l_random_7821 D_l_common_b8b4 D_l_is_cutting_19aa rd_l_cutting_f2c0
  have D_l_allows_0877 := ok_l_allows_0877 (P := P) (w := w) T  rd_l_allows_0877
  have D_l_deed_593a := ok_l_deed_593a (P := P) (w := w) T D_l_common_b8b4 D_l_random_7821 D_l_allows_0877 rd_l_deed_593a
  have D_is_whole := ok_is_whole (P := P) (w := w) T  rd_is_whole
  have D_common_by := ok_common_by (P := P) (w := w) T  rd_common_by
  have D_is_cutting_by := ok_is_cutting_by (P := P) (w := w) T D_is_whole D_common_by rd_is_cutting_by
  have D_check_cutting := ok_check_cutting (P := P) (w := w) T D_is_cutting_by rd_check_cutting
  have D_self_table_o := ok_self_table_o (P := P) (w := w) T  rd_self_table_o
  have D_shear_by_o := ok_shear_by_o (P := P) (w := w) T D_self_table_o rd_shear_by_o
  have D_shear_table_o := ok_shear_table_o (P := P) (w := w) T D_check_cutting D_is_whole D_shear_by_o rd_shear_table_o
  have D_l_base_3ec4_o := ok_l_base_3ec4_o (P := P) (w := w) T  rd_l_base_3ec4_o
  have D_l_self_a3eb_o := ok_l_self_a3eb_o (P := P) (w := w) T D_l_base_3ec4_o rd_l_self_a3eb_o
  have D_l_shear_1435 := ok_l_shear_1435 (P := P) (w := w) T D_l_common_b8b4 D_l_self_a3eb_o rd_l_shear_1435
  have D_l_columns_d906 := ok_l_columns_d906 (P := P) (w := w) T  rd_l_columns_d906
  have D_l_crossing_3f18 := ok_l_crossing_3f18 (P := P) (w := w) T  rd_l_crossing_3f18
  have D_l_base_3ec4 := ok_l_base_3ec4 (P := P) (w := w) T  rd_l_base_3ec4
  have D_l_keeps_2d4c := ok_l_keeps_2d4c (P := P) (w := w) T D_l_columns_d906 D_l_crossing_3f18 D_l_base_3ec4 rd_l_keeps_2d4c
  have D_l_rooted_a87a := ok_l_rooted_a87a (P := P) (w := w) T  rd_l_rooted_a87a
  have D_l_led_3b4c := ok_l_led_3b4c (P := P) (w := w) T  rd_l_led_3b4c
  have D_is_path_list := ok_is_path_list (P := P) (w := w) T D_is_whole rd_is_path_list
  have D_check_table := ok_check_table (P := P) (w := w) T D_is_path_list rd_check_table
  have D_turned_about := ok_turned_about (P := P) (w := w) T  rd_turned_aboutT
  have D_path_led := ok_path_led (P := P) (w := w) T  rd_path_led
  have D_table_times := ok_table_times (P := P) (w := w) T D_turned_about D_path_led rd_table_times
  have D_table_product := ok_table_product (P := P) (w := w) T D_check_table D_table_times rd_table_product
  have D_l_opposite_30e8 := ok_l_opposite_30e8 (P := P) (w := w) T  rd_l_opposite_30e8
  have D_l_beside_26c0 := ok_l_beside_26c0 (P := P) (w := w) T D_l_opposite_30e8 rd_l_beside_26c0
  have D_l_bezout_3658 := ok_l_bezout_3658 (P := P) (w := w) T  rd_l_bezout_3658
  have D_l_done_855c := ok_l_done_855c (P := P) (w := w) T D_l_beside_26c0 D_l_bezout_3658 D_l_common_b8b4 rd_l_done_855c
  have D_allowed_by := ok_allowed_by (P := P) (w := w) T  rd_allowed_by
  have D_round_of := ok_round_of (P := P) (w := w) T  rd_round_of
  have D_is_deed_by := ok_is_deed_by (P := P) (w := w) T D_allowed_by D_round_of rd_is_deed_by
  have D_check_deed := ok_check_deed (P := P) (w := w) T D_check_cutting D_is_deed_by rd_check_deed
  have D_shared := ok_shared (P := P) (w := w) T  rd_shared
  have D_opposite_by := ok_opposite_by (P := P) (w := w) T D_shared rd_opposite_by
  have D_beside := ok_beside (P := P) (w := w) T D_opposite_by rd_beside
  have D_table_by := ok_table_by (P := P) (w := w) T D_beside rd_table_by
  have D_full_by := ok_full_by (P := P) (w := w) T D_table_by D_shared D_opposite_by rd_full_by
  have D_back_by := ok_back_by (P := P) (w := w) T D_full_by D_round_of rd_back_by
  have D_back := ok_back (P := P) (w := w) T D_check_deed D_back_by rd_back
  have D_l_self_a3eb := ok_l_self_a3eb (P := P) (w := w) T D_l_base_3ec4 rd_l_self_a3eb
  have D_led_down := ok_led_down (P := P) (w := w) T  rd_led_down
  have D_done_by := ok_done_by (P := P) (w := w) T D_full_by rd_done_by
  have D_deed_table_by := ok_deed_table_by (P := P) (w := w) T D_opposite_by D_led_down D_done_by D_turned_about rd_deed_table_byT
  have D_deed_table := ok_deed_table (P := P) (w := w) T D_check_cutting D_check_deed D_deed_table_by rd_deed_table
  have D_back_of_o := ok_back_of_o (P := P) (w := w) T  rd_back_of_o
  have D_back_shear_by := ok_back_shear_by (P := P) (w := w) T D_back_of_o D_deed_table_by D_done_by rd_back_shear_by
  have D_back_shear := ok_back_shear (P := P) (w := w) T D_check_cutting D_check_deed D_back_shear_by rd_back_shear
  have D_l_is_table_0704 := ok_l_is_table_0704 (P := P) (w := w) T  rd_l_is_table_0704
  have D_l_is_deed_table_6abb := ok_l_is_deed_table_6abb (P := P) (w := w) T D_l_is_table_0704 D_l_keeps_2d4c D_l_done_855c D_l_columns_d906 D_l_common_b8b4 D_l_led_3b4c D_l_rooted_a87a D_l_base_3ec4 rd_l_is_deed_table_6abb
  have D_l_product_063e := ok_l_product_063e (P := P) (w := w) T D_l_columns_d906 D_l_led_3b4c rd_l_product_063e
  have D_l_right_1f94 := ok_l_right_1f94 (P := P) (w := w) T D_l_cutting_f2c0 D_l_random_7821 D_l_deed_593a D_shear_table_o D_l_shear_1435 D_l_keeps_2d4c D_l_rooted_a87a D_l_led_3b4c D_l_base_3ec4 D_table_product D_l_done_855c D_back D_l_self_a3eb D_deed_table D_back_shear D_l_is_deed_table_6abb D_l_product_063e rd_l_right_1f94
  have D_l_cell_cf3b := ok_l_cell_cf3b (P := P) (w := w) T  rd_l_cell_cf3b
  have D_l_generator_b324 := ok_l_generator_b324 (P := P) (w := w) T D_l_cell_cf3b rd_l_generator_b324
  exact ok_l_law_e1ea T D_l_right_1f94 D_l_generator_b324 D_back_shear D_shear_table_o rd_l_law_e1ea
end C_k46
namespace C_k46
open PySem PySem.Spec PyProof.Rows L2 DL
theorem all_mk {K : PySem.W.Frag} {h : Heap} {mg : Str → Option Value} (X : K.In h) (G : h.Ns mainGlobals mg)
    (n_abs : PySem.W.nsIn K mainGlobals "abs" = some none)
    (n_bool : PySem.W.nsIn K mainGlobals "bool" = some none)
    (n_int : PySem.W.nsIn K mainGlobals "int" = some none)
    (n_isinstance : PySem.W.nsIn K mainGlobals "isinstance" = some none)
    (n_len : PySem.W.nsIn K mainGlobals "len" = some none)
    (n_list : PySem.W.nsIn K mainGlobals "list" = some none)
    (n_max : PySem.W.nsIn K mainGlobals "max" = some none)
    (n_range : PySem.W.nsIn K mainGlobals "range" = some none)
    (n_repr : PySem.W.nsIn K mainGlobals "repr" = some none)
    (n_sum : PySem.W.nsIn K mainGlobals "sum" = some none)
    (n_tuple : PySem.W.nsIn K mainGlobals "tuple" = some none)
    (n_zip : PySem.W.nsIn K mainGlobals "zip" = some none)
    (g_gcd : PySem.W.nsIn K mainGlobals "gcd" = some (some (.builtin "math.gcd")))
    {ct_SELF_0_0 : Tok}
    {ct_SELF_0_1 : Tok}
    {ct_SELF_0_2 : Tok}
    {ct_SELF_0_3 : Tok}
    {ca_SELF_0 : Addr} {cd_SELF_0 : Option Addr} {cn_SELF_0 : Nat} {cs_SELF_0 : Array (Option Value)} (cl_SELF_0 : K.lookup ca_SELF_0 = some ⟨.type "tuple", cd_SELF_0, .seq #[.int 1 ct_SELF_0_0, .int 0 ct_SELF_0_1, .int 0 ct_SELF_0_2, .int 0 ct_SELF_0_3] cn_SELF_0, cs_SELF_0⟩)
    {ct_SELF_1_0 : Tok}
    {ct_SELF_1_1 : Tok}
    {ct_SELF_1_2 : Tok}
    {ct_SELF_1_3 : Tok}
    {ca_SELF_1 : Addr} {cd_SELF_1 : Option Addr} {cn_SELF_1 : Nat} {cs_SELF_1 : Array (Option Value)} (cl_SELF_1 : K.lookup ca_SELF_1 = some ⟨.type "tuple", cd_SELF_1, .seq #[.int 0 ct_SELF_1_0, .int 1 ct_SELF_1_1, .int 0 ct_SELF_1_2, .int 0 ct_SELF_1_3] cn_SELF_1, cs_SELF_1⟩)
    {ct_SELF_2_0 : Tok}
    {ct_SELF_2_1 : Tok}
    {ct_SELF_2_2 : Tok}
    {ct_SELF_2_3 : Tok}
    {ca_SELF_2 : Addr} {cd_SELF_2 : Option Addr} {cn_SELF_2 : Nat} {cs_SELF_2 : Array (Option Value)} (cl_SELF_2 : K.lookup ca_SELF_2 = some ⟨.type "tuple", cd_SELF_2, .seq #[.int 0 ct_SELF_2_0, .int 0 ct_SELF_2_1, .int 1 ct_SELF_2_2, .int 0 ct_SELF_2_3] cn_SELF_2, cs_SELF_2⟩)
    {ct_SELF_3_0 : Tok}
    {ct_SELF_3_1 : Tok}
    {ct_SELF_3_2 : Tok}
    {ct_SELF_3_3 : Tok}
    {ca_SELF_3 : Addr} {cd_SELF_3 : Option Addr} {cn_SELF_3 : Nat} {cs_SELF_3 : Array (Option Value)} (cl_SELF_3 : K.lookup ca_SELF_3 = some ⟨.type "tuple", cd_SELF_3, .seq #[.int 0 ct_SELF_3_0, .int 0 ct_SELF_3_1, .int 0 ct_SELF_3_2, .int 1 ct_SELF_3_3] cn_SELF_3, cs_SELF_3⟩)
    {ca_SELF : Addr} {cd_SELF : Option Addr} {cn_SELF : Nat} {cs_SELF : Array (Option Value)} (cl_SELF : K.lookup ca_SELF = some ⟨.type "tuple", cd_SELF, .seq #[.ref ca_SELF_0, .ref ca_SELF_1, .ref ca_SELF_2, .ref ca_SELF_3] cn_SELF, cs_SELF⟩)
    (c_SELF : PySem.W.nsIn K mainGlobals "SELF" = some (some (.ref ca_SELF)))
    {f_l_hash_d8d1 : Addr} {oc_l_hash_d8d1 kV_l_hash_d8d1 dc_l_hash_d8d1 pm_l_hash_d8d1 cd_l_hash_d8d1 ct_l_hash_d8d1 : Value} {od_l_hash_d8d1 an_l_hash_d8d1 : Option Addr} {sl_l_hash_d8d1 : Array (Option Value)}
    (a_l_hash_d8d1 : PySem.W.nsIn K mainGlobals "_law_hash" = some (some (.ref f_l_hash_d8d1))) (l_l_hash_d8d1 : K.lookup f_l_hash_d8d1 = some ⟨oc_l_hash_d8d1, od_l_hash_d8d1, .func (PySem.W.fnOf "_law_hash" "_law_hash" (defArgs s_l_hash_d8d1) (defBody s_l_hash_d8d1) (defScope s_l_hash_d8d1) .none kV_l_hash_d8d1 dc_l_hash_d8d1 pm_l_hash_d8d1 an_l_hash_d8d1 cd_l_hash_d8d1 ct_l_hash_d8d1), sl_l_hash_d8d1⟩) (e_l_hash_d8d1 : PySem.W.codeIn K cd_l_hash_d8d1 "_law_hash" = true) (k_l_hash_d8d1 : PySem.W.keepIn K (.ref f_l_hash_d8d1) = true)
    {f_l_random_7821 : Addr} {oc_l_random_7821 kV_l_random_7821 dc_l_random_7821 pm_l_random_7821 cd_l_random_7821 ct_l_random_7821 : Value} {od_l_random_7821 an_l_random_7821 : Option Addr} {sl_l_random_7821 : Array (Option Value)}
    (a_l_random_7821 : PySem.W.nsIn K mainGlobals "_law_random" = some (some (.ref f_l_random_7821))) (l_l_random_7821 : K.lookup f_l_random_7821 = some ⟨oc_l_random_7821, od_l_random_7821, .func (PySem.W.fnOf "_law_random" "_law_random" (defArgs s_l_random_7821) (defBody s_l_random_7821) (defScope s_l_random_7821) .none kV_l_random_7821 dc_l_random_7821 pm_l_random_7821 an_l_random_7821 cd_l_random_7821 ct_l_random_7821), sl_l_random_7821⟩) (e_l_random_7821 : PySem.W.codeIn K cd_l_random_7821 "_law_random" = true) (k_l_random_7821 : PySem.W.keepIn K (.ref f_l_random_7821) = true)
    {f_l_common_b8b4 : Addr} {oc_l_common_b8b4 kV_l_common_b8b4 dc_l_common_b8b4 pm_l_common_b8b4 cd_l_common_b8b4 ct_l_common_b8b4 : Value} {od_l_common_b8b4 an_l_common_b8b4 : Option Addr} {sl_l_common_b8b4 : Array (Option Value)}
    (a_l_common_b8b4 : PySem.W.nsIn K mainGlobals "_law_common" = some (some (.ref f_l_common_b8b4))) (l_l_common_b8b4 : K.lookup f_l_common_b8b4 = some ⟨oc_l_common_b8b4, od_l_common_b8b4, .func (PySem.W.fnOf "_law_common" "_law_common" (defArgs s_l_common_b8b4) (defBody s_l_common_b8b4) (defScope s_l_common_b8b4) .none kV_l_common_b8b4 dc_l_common_b8b4 pm_l_common_b8b4 an_l_common_b8b4 cd_l_common_b8b4 ct_l_common_b8b4), sl_l_common_b8b4⟩) (e_l_common_b8b4 : PySem.W.codeIn K cd_l_common_b8b4 "_law_common" = true) (k_l_common_b8b4 : PySem.W.keepIn K (.ref f_l_common_b8b4) = true)
    {f_l_is_cutting_19aa : Addr} {oc_l_is_cutting_19aa kV_l_is_cutting_19aa dc_l_is_cutting_19aa pm_l_is_cutting_19aa cd_l_is_cutting_19aa ct_l_is_cutting_19aa : Value} {od_l_is_cutting_19aa an_l_is_cutting_19aa : Option Addr} {sl_l_is_cutting_19aa : Array (Option Value)}
    (a_l_is_cutting_19aa : PySem.W.nsIn K mainGlobals "_law_is_cutting" = some (some (.ref f_l_is_cutting_19aa))) (l_l_is_cutting_19aa : K.lookup f_l_is_cutting_19aa = some ⟨oc_l_is_cutting_19aa, od_l_is_cutting_19aa, .func (PySem.W.fnOf "_law_is_cutting" "_law_is_cutting" (defArgs s_l_is_cutting_19aa) (defBody s_l_is_cutting_19aa) (defScope s_l_is_cutting_19aa) .none kV_l_is_cutting_19aa dc_l_is_cutting_19aa pm_l_is_cutting_19aa an_l_is_cutting_19aa cd_l_is_cutting_19aa ct_l_is_cutting_19aa), sl_l_is_cutting_19aa⟩) (e_l_is_cutting_19aa : PySem.W.codeIn K cd_l_is_cutting_19aa "_law_is_cutting" = true) (k_l_is_cutting_19aa : PySem.W.keepIn K (.ref f_l_is_cutting_19aa) = true)
    {f_l_cutting_f2c0 : Addr} {oc_l_cutting_f2c0 kV_l_cutting_f2c0 dc_l_cutting_f2c0 pm_l_cutting_f2c0 cd_l_cutting_f2c0 ct_l_cutting_f2c0 : Value} {od_l_cutting_f2c0 an_l_cutting_f2c0 : Option Addr} {sl_l_cutting_f2c0 : Array (Option Value)}
    (a_l_cutting_f2c0 : PySem.W.nsIn K mainGlobals "_law_cutting" = some (some (.ref f_l_cutting_f2c0))) (l_l_cutting_f2c0 : K.lookup f_l_cutting_f2c0 = some ⟨oc_l_cutting_f2c0, od_l_cutting_f2c0, .func (PySem.W.fnOf "_law_cutting" "_law_cutting" (defArgs s_l_cutting_f2c0) (defBody s_l_cutting_f2c0) (defScope s_l_cutting_f2c0) .none kV_l_cutting_f2c0 dc_l_cutting_f2c0 pm_l_cutting_f2c0 an_l_cutting_f2c0 cd_l_cutting_f2c0 ct_l_cutting_f2c0), sl_l_cutting_f2c0⟩) (e_l_cutting_f2c0 : PySem.W.codeIn K cd_l_cutting_f2c0 "_law_cutting" = true) (k_l_cutting_f2c0 : PySem.W.keepIn K (.ref f_l_cutting_f2c0) = true)
    {f_l_allows_0877 : Addr} {oc_l_allows_0877 kV_l_allows_0877 dc_l_allows_0877 pm_l_allows_0877 cd_l_allows_0877 ct_l_allows_0877 : Value} {od_l_allows_0877 an_l_allows_0877 : Option Addr} {sl_l_allows_0877 : Array (Option Value)}
    (a_l_allows_0877 : PySem.W.nsIn K mainGlobals "_law_allows" = some (some (.ref f_l_allows_0877))) (l_l_allows_0877 : K.lookup f_l_allows_0877 = some ⟨oc_l_allows_0877, od_l_allows_0877, .func (PySem.W.fnOf "_law_allows" "_law_allows" (defArgs s_l_allows_0877) (defBody s_l_allows_0877) (defScope s_l_allows_0877) .none kV_l_allows_0877 dc_l_allows_0877 pm_l_allows_0877 an_l_allows_0877 cd_l_allows_0877 ct_l_allows_0877), sl_l_allows_0877⟩) (e_l_allows_0877 : PySem.W.codeIn K cd_l_allows_0877 "_law_allows" = true) (k_l_allows_0877 : PySem.W.keepIn K (.ref f_l_allows_0877) = true)
    {f_l_deed_593a : Addr} {oc_l_deed_593a kV_l_deed_593a dc_l_deed_593a pm_l_deed_593a cd_l_deed_593a ct_l_deed_593a : Value} {od_l_deed_593a an_l_deed_593a : Option Addr} {sl_l_deed_593a : Array (Option Value)}
    (a_l_deed_593a : PySem.W.nsIn K mainGlobals "_law_deed" = some (some (.ref f_l_deed_593a))) (l_l_deed_593a : K.lookup f_l_deed_593a = some ⟨oc_l_deed_593a, od_l_deed_593a, .func (PySem.W.fnOf "_law_deed" "_law_deed" (defArgs s_l_deed_593a) (defBody s_l_deed_593a) (defScope s_l_deed_593a) .none kV_l_deed_593a dc_l_deed_593a pm_l_deed_593a an_l_deed_593a cd_l_deed_593a ct_l_deed_593a), sl_l_deed_593a⟩) (e_l_deed_593a : PySem.W.codeIn K cd_l_deed_593a "_law_deed" = true) (k_l_deed_593a : PySem.W.keepIn K (.ref f_l_deed_593a) = true)
    {f_is_whole : Addr} {oc_is_whole kV_is_whole dc_is_whole pm_is_whole cd_is_whole ct_is_whole : Value} {od_is_whole an_is_whole : Option Addr} {sl_is_whole : Array (Option Value)}
    (a_is_whole : PySem.W.nsIn K mainGlobals "is_whole" = some (some (.ref f_is_whole))) (l_is_whole : K.lookup f_is_whole = some ⟨oc_is_whole, od_is_whole, .func (PySem.W.fnOf "is_whole" "is_whole" (defArgs s_is_whole) (defBody s_is_whole) (defScope s_is_whole) .none kV_is_whole dc_is_whole pm_is_whole an_is_whole cd_is_whole ct_is_whole), sl_is_whole⟩) (e_is_whole : PySem.W.codeIn K cd_is_whole "is_whole" = true) (k_is_whole : PySem.W.keepIn K (.ref f_is_whole) = true)
    {f_common_by : Addr} {oc_common_by kV_common_by dc_common_by pm_common_by cd_common_by ct_common_by : Value} {od_common_by an_common_by : Option Addr} {sl_common_by : Array (Option Value)}
    (a_common_by : PySem.W.nsIn K mainGlobals "common_by" = some (some (.ref f_common_by))) (l_common_by : K.lookup f_common_by = some ⟨oc_common_by, od_common_by, .func (PySem.W.fnOf "common_by" "common_by" (defArgs s_common_by) (defBody s_common_by) (defScope s_common_by) .none kV_common_by dc_common_by pm_common_by an_common_by cd_common_by ct_common_by), sl_common_by⟩) (e_common_by : PySem.W.codeIn K cd_common_by "common_by" = true) (k_common_by : PySem.W.keepIn K (.ref f_common_by) = true)
    {f_is_cutting_by : Addr} {oc_is_cutting_by kV_is_cutting_by dc_is_cutting_by pm_is_cutting_by cd_is_cutting_by ct_is_cutting_by : Value} {od_is_cutting_by an_is_cutting_by : Option Addr} {sl_is_cutting_by : Array (Option Value)}
    (a_is_cutting_by : PySem.W.nsIn K mainGlobals "is_cutting_by" = some (some (.ref f_is_cutting_by))) (l_is_cutting_by : K.lookup f_is_cutting_by = some ⟨oc_is_cutting_by, od_is_cutting_by, .func (PySem.W.fnOf "is_cutting_by" "is_cutting_by" (defArgs s_is_cutting_by) (defBody s_is_cutting_by) (defScope s_is_cutting_by) .none kV_is_cutting_by dc_is_cutting_by pm_is_cutting_by an_is_cutting_by cd_is_cutting_by ct_is_cutting_by), sl_is_cutting_by⟩) (e_is_cutting_by : PySem.W.codeIn K cd_is_cutting_by "is_cutting_by" = true) (k_is_cutting_by : PySem.W.keepIn K (.ref f_is_cutting_by) = true)
    {f_check_cutting : Addr} {oc_check_cutting kV_check_cutting dc_check_cutting pm_check_cutting cd_check_cutting ct_check_cutting : Value} {od_check_cutting an_check_cutting : Option Addr} {sl_check_cutting : Array (Option Value)}
    (a_check_cutting : PySem.W.nsIn K mainGlobals "check_cutting" = some (some (.ref f_check_cutting))) (l_check_cutting : K.lookup f_check_cutting = some ⟨oc_check_cutting, od_check_cutting, .func (PySem.W.fnOf "check_cutting" "check_cutting" (defArgs s_check_cutting) (defBody s_check_cutting) (defScope s_check_cutting) .none kV_check_cutting dc_check_cutting pm_check_cutting an_check_cutting cd_check_cutting ct_check_cutting), sl_check_cutting⟩) (e_check_cutting : PySem.W.codeIn K cd_check_cutting "check_cutting" = true) (k_check_cutting : PySem.W.keepIn K (.ref f_check_cutting) = true)
    {f_self_table_o : Addr} {oc_self_table_o kV_self_table_o dc_self_table_o pm_self_table_o cd_self_table_o ct_self_table_o : Value} {od_self_table_o an_self_table_o : Option Addr} {sl_self_table_o : Array (Option Value)}
    (a_self_table_o : PySem.W.nsIn K mainGlobals "self_table" = some (some (.ref f_self_table_o))) (l_self_table_o : K.lookup f_self_table_o = some ⟨oc_self_table_o, od_self_table_o, .func (PySem.W.fnOf "self_table" "self_table" (defArgs s_self_table_o) (defBody s_self_table_o) (defScope s_self_table_o) .none kV_self_table_o dc_self_table_o pm_self_table_o an_self_table_o cd_self_table_o ct_self_table_o), sl_self_table_o⟩) (e_self_table_o : PySem.W.codeIn K cd_self_table_o "self_table" = true) (k_self_table_o : PySem.W.keepIn K (.ref f_self_table_o) = true)
    {f_shear_by_o : Addr} {oc_shear_by_o kV_shear_by_o dc_shear_by_o pm_shear_by_o cd_shear_by_o ct_shear_by_o : Value} {od_shear_by_o an_shear_by_o : Option Addr} {sl_shear_by_o : Array (Option Value)}
    (a_shear_by_o : PySem.W.nsIn K mainGlobals "shear_by" = some (some (.ref f_shear_by_o))) (l_shear_by_o : K.lookup f_shear_by_o = some ⟨oc_shear_by_o, od_shear_by_o, .func (PySem.W.fnOf "shear_by" "shear_by" (defArgs s_shear_by_o) (defBody s_shear_by_o) (defScope s_shear_by_o) .none kV_shear_by_o dc_shear_by_o pm_shear_by_o an_shear_by_o cd_shear_by_o ct_shear_by_o), sl_shear_by_o⟩) (e_shear_by_o : PySem.W.codeIn K cd_shear_by_o "shear_by" = true) (k_shear_by_o : PySem.W.keepIn K (.ref f_shear_by_o) = true)
    {f_shear_table_o : Addr} {oc_shear_table_o kV_shear_table_o dc_shear_table_o pm_shear_table_o cd_shear_table_o ct_shear_table_o : Value} {od_shear_table_o an_shear_table_o : Option Addr} {sl_shear_table_o : Array (Option Value)}
    (a_shear_table_o : PySem.W.nsIn K mainGlobals "shear_table" = some (some (.ref f_shear_table_o))) (l_shear_table_o : K.lookup f_shear_table_o = some ⟨oc_shear_table_o, od_shear_table_o, .func (PySem.W.fnOf "shear_table" "shear_table" (defArgs s_shear_table_o) (defBody s_shear_table_o) (defScope s_shear_table_o) .none kV_shear_table_o dc_shear_table_o pm_shear_table_o an_shear_table_o cd_shear_table_o ct_shear_table_o), sl_shear_table_o⟩) (e_shear_table_o : PySem.W.codeIn K cd_shear_table_o "shear_table" = true) (k_shear_table_o : PySem.W.keepIn K (.ref f_shear_table_o) = true)
    {f_l_base_3ec4_o : Addr} {oc_l_base_3ec4_o kV_l_base_3ec4_o dc_l_base_3ec4_o pm_l_base_3ec4_o cd_l_base_3ec4_o ct_l_base_3ec4_o : Value} {od_l_base_3ec4_o an_l_base_3ec4_o : Option Addr} {sl_l_base_3ec4_o : Array (Option Value)}
    (a_l_base_3ec4_o : PySem.W.nsIn K mainGlobals "_law_base" = some (some (.ref f_l_base_3ec4_o))) (l_l_base_3ec4_o : K.lookup f_l_base_3ec4_o = some ⟨oc_l_base_3ec4_o, od_l_base_3ec4_o, .func (PySem.W.fnOf "_law_base" "_law_base" (defArgs s_l_base_3ec4_o) (defBody s_l_base_3ec4_o) (defScope s_l_base_3ec4_o) .none kV_l_base_3ec4_o dc_l_base_3ec4_o pm_l_base_3ec4_o an_l_base_3ec4_o cd_l_base_3ec4_o ct_l_base_3ec4_o), sl_l_base_3ec4_o⟩) (e_l_base_3ec4_o : PySem.W.codeIn K cd_l_base_3ec4_o "_law_base" = true) (k_l_base_3ec4_o : PySem.W.keepIn K (.ref f_l_base_3ec4_o) = true)
    {f_l_self_a3eb_o : Addr} {oc_l_self_a3eb_o kV_l_self_a3eb_o dc_l_self_a3eb_o pm_l_self_a3eb_o cd_l_self_a3eb_o ct_l_self_a3eb_o : Value} {od_l_self_a3eb_o an_l_self_a3eb_o : Option Addr} {sl_l_self_a3eb_o : Array (Option Value)}
    (a_l_self_a3eb_o : PySem.W.nsIn K mainGlobals "_law_self" = some (some (.ref f_l_self_a3eb_o))) (l_l_self_a3eb_o : K.lookup f_l_self_a3eb_o = some ⟨oc_l_self_a3eb_o, od_l_self_a3eb_o, .func (PySem.W.fnOf "_law_self" "_law_self" (defArgs s_l_self_a3eb_o) (defBody s_l_self_a3eb_o) (defScope s_l_self_a3eb_o) .none kV_l_self_a3eb_o dc_l_self_a3eb_o pm_l_self_a3eb_o an_l_self_a3eb_o cd_l_self_a3eb_o ct_l_self_a3eb_o), sl_l_self_a3eb_o⟩) (e_l_self_a3eb_o : PySem.W.codeIn K cd_l_self_a3eb_o "_law_self" = true) (k_l_self_a3eb_o : PySem.W.keepIn K (.ref f_l_self_a3eb_o) = true)
    {f_l_shear_1435 : Addr} {oc_l_shear_1435 kV_l_shear_1435 dc_l_shear_1435 pm_l_shear_1435 cd_l_shear_1435 ct_l_shear_1435 : Value} {od_l_shear_1435 an_l_shear_1435 : Option Addr} {sl_l_shear_1435 : Array (Option Value)}
    (a_l_shear_1435 : PySem.W.nsIn K mainGlobals "_law_shear" = some (some (.ref f_l_shear_1435))) (l_l_shear_1435 : K.lookup f_l_shear_1435 = some ⟨oc_l_shear_1435, od_l_shear_1435, .func (PySem.W.fnOf "_law_shear" "_law_shear" (defArgs s_l_shear_1435) (defBody s_l_shear_1435) (defScope s_l_shear_1435) .none kV_l_shear_1435 dc_l_shear_1435 pm_l_shear_1435 an_l_shear_1435 cd_l_shear_1435 ct_l_shear_1435), sl_l_shear_1435⟩) (e_l_shear_1435 : PySem.W.codeIn K cd_l_shear_1435 "_law_shear" = true) (k_l_shear_1435 : PySem.W.keepIn K (.ref f_l_shear_1435) = true)
    {f_l_columns_d906 : Addr} {oc_l_columns_d906 kV_l_columns_d906 dc_l_columns_d906 pm_l_columns_d906 cd_l_columns_d906 ct_l_columns_d906 : Value} {od_l_columns_d906 an_l_columns_d906 : Option Addr} {sl_l_columns_d906 : Array (Option Value)}
    (a_l_columns_d906 : PySem.W.nsIn K mainGlobals "_law_columns" = some (some (.ref f_l_columns_d906))) (l_l_columns_d906 : K.lookup f_l_columns_d906 = some ⟨oc_l_columns_d906, od_l_columns_d906, .func (PySem.W.fnOf "_law_columns" "_law_columns" (defArgs s_l_columns_d906) (defBody s_l_columns_d906) (defScope s_l_columns_d906) .none kV_l_columns_d906 dc_l_columns_d906 pm_l_columns_d906 an_l_columns_d906 cd_l_columns_d906 ct_l_columns_d906), sl_l_columns_d906⟩) (e_l_columns_d906 : PySem.W.codeIn K cd_l_columns_d906 "_law_columns" = true) (k_l_columns_d906 : PySem.W.keepIn K (.ref f_l_columns_d906) = true)
    {f_l_crossing_3f18 : Addr} {oc_l_crossing_3f18 kV_l_crossing_3f18 dc_l_crossing_3f18 pm_l_crossing_3f18 cd_l_crossing_3f18 ct_l_crossing_3f18 : Value} {od_l_crossing_3f18 an_l_crossing_3f18 : Option Addr} {sl_l_crossing_3f18 : Array (Option Value)}
    (a_l_crossing_3f18 : PySem.W.nsIn K mainGlobals "_law_crossing" = some (some (.ref f_l_crossing_3f18))) (l_l_crossing_3f18 : K.lookup f_l_crossing_3f18 = some ⟨oc_l_crossing_3f18, od_l_crossing_3f18, .func (PySem.W.fnOf "_law_crossing" "_law_crossing" (defArgs s_l_crossing_3f18) (defBody s_l_crossing_3f18) (defScope s_l_crossing_3f18) .none kV_l_crossing_3f18 dc_l_crossing_3f18 pm_l_crossing_3f18 an_l_crossing_3f18 cd_l_crossing_3f18 ct_l_crossing_3f18), sl_l_crossing_3f18⟩) (e_l_crossing_3f18 : PySem.W.codeIn K cd_l_crossing_3f18 "_law_crossing" = true) (k_l_crossing_3f18 : PySem.W.keepIn K (.ref f_l_crossing_3f18) = true)
    {f_l_base_3ec4 : Addr} {oc_l_base_3ec4 kV_l_base_3ec4 dc_l_base_3ec4 pm_l_base_3ec4 cd_l_base_3ec4 ct_l_base_3ec4 : Value} {od_l_base_3ec4 an_l_base_3ec4 : Option Addr} {sl_l_base_3ec4 : Array (Option Value)}
    (a_l_base_3ec4 : PySem.W.nsIn K mainGlobals "_law_base" = some (some (.ref f_l_base_3ec4))) (l_l_base_3ec4 : K.lookup f_l_base_3ec4 = some ⟨oc_l_base_3ec4, od_l_base_3ec4, .func (PySem.W.fnOf "_law_base" "_law_base" (defArgs s_l_base_3ec4) (defBody s_l_base_3ec4) (defScope s_l_base_3ec4) .none kV_l_base_3ec4 dc_l_base_3ec4 pm_l_base_3ec4 an_l_base_3ec4 cd_l_base_3ec4 ct_l_base_3ec4), sl_l_base_3ec4⟩) (e_l_base_3ec4 : PySem.W.codeIn K cd_l_base_3ec4 "_law_base" = true) (k_l_base_3ec4 : PySem.W.keepIn K (.ref f_l_base_3ec4) = true)
    {f_l_keeps_2d4c : Addr} {oc_l_keeps_2d4c kV_l_keeps_2d4c dc_l_keeps_2d4c pm_l_keeps_2d4c cd_l_keeps_2d4c ct_l_keeps_2d4c : Value} {od_l_keeps_2d4c an_l_keeps_2d4c : Option Addr} {sl_l_keeps_2d4c : Array (Option Value)}
    (a_l_keeps_2d4c : PySem.W.nsIn K mainGlobals "_law_keeps" = some (some (.ref f_l_keeps_2d4c))) (l_l_keeps_2d4c : K.lookup f_l_keeps_2d4c = some ⟨oc_l_keeps_2d4c, od_l_keeps_2d4c, .func (PySem.W.fnOf "_law_keeps" "_law_keeps" (defArgs s_l_keeps_2d4c) (defBody s_l_keeps_2d4c) (defScope s_l_keeps_2d4c) .none kV_l_keeps_2d4c dc_l_keeps_2d4c pm_l_keeps_2d4c an_l_keeps_2d4c cd_l_keeps_2d4c ct_l_keeps_2d4c), sl_l_keeps_2d4c⟩) (e_l_keeps_2d4c : PySem.W.codeIn K cd_l_keeps_2d4c "_law_keeps" = true) (k_l_keeps_2d4c : PySem.W.keepIn K (.ref f_l_keeps_2d4c) = true)
    {f_l_rooted_a87a : Addr} {oc_l_rooted_a87a kV_l_rooted_a87a dc_l_rooted_a87a pm_l_rooted_a87a cd_l_rooted_a87a ct_l_rooted_a87a : Value} {od_l_rooted_a87a an_l_rooted_a87a : Option Addr} {sl_l_rooted_a87a : Array (Option Value)}
    (a_l_rooted_a87a : PySem.W.nsIn K mainGlobals "_law_rooted" = some (some (.ref f_l_rooted_a87a))) (l_l_rooted_a87a : K.lookup f_l_rooted_a87a = some ⟨oc_l_rooted_a87a, od_l_rooted_a87a, .func (PySem.W.fnOf "_law_rooted" "_law_rooted" (defArgs s_l_rooted_a87a) (defBody s_l_rooted_a87a) (defScope s_l_rooted_a87a) .none kV_l_rooted_a87a dc_l_rooted_a87a pm_l_rooted_a87a an_l_rooted_a87a cd_l_rooted_a87a ct_l_rooted_a87a), sl_l_rooted_a87a⟩) (e_l_rooted_a87a : PySem.W.codeIn K cd_l_rooted_a87a "_law_rooted" = true) (k_l_rooted_a87a : PySem.W.keepIn K (.ref f_l_rooted_a87a) = true)
    {f_l_led_3b4c : Addr} {oc_l_led_3b4c kV_l_led_3b4c dc_l_led_3b4c pm_l_led_3b4c cd_l_led_3b4c ct_l_led_3b4c : Value} {od_l_led_3b4c an_l_led_3b4c : Option Addr} {sl_l_led_3b4c : Array (Option Value)}
    (a_l_led_3b4c : PySem.W.nsIn K mainGlobals "_law_led" = some (some (.ref f_l_led_3b4c))) (l_l_led_3b4c : K.lookup f_l_led_3b4c = some ⟨oc_l_led_3b4c, od_l_led_3b4c, .func (PySem.W.fnOf "_law_led" "_law_led" (defArgs s_l_led_3b4c) (defBody s_l_led_3b4c) (defScope s_l_led_3b4c) .none kV_l_led_3b4c dc_l_led_3b4c pm_l_led_3b4c an_l_led_3b4c cd_l_led_3b4c ct_l_led_3b4c), sl_l_led_3b4c⟩) (e_l_led_3b4c : PySem.W.codeIn K cd_l_led_3b4c "_law_led" = true) (k_l_led_3b4c : PySem.W.keepIn K (.ref f_l_led_3b4c) = true)
    {f_is_path_list : Addr} {oc_is_path_list kV_is_path_list dc_is_path_list pm_is_path_list cd_is_path_list ct_is_path_list : Value} {od_is_path_list an_is_path_list : Option Addr} {sl_is_path_list : Array (Option Value)}
    (a_is_path_list : PySem.W.nsIn K mainGlobals "is_path_list" = some (some (.ref f_is_path_list))) (l_is_path_list : K.lookup f_is_path_list = some ⟨oc_is_path_list, od_is_path_list, .func (PySem.W.fnOf "is_path_list" "is_path_list" (defArgs s_is_path_list) (defBody s_is_path_list) (defScope s_is_path_list) .none kV_is_path_list dc_is_path_list pm_is_path_list an_is_path_list cd_is_path_list ct_is_path_list), sl_is_path_list⟩) (e_is_path_list : PySem.W.codeIn K cd_is_path_list "is_path_list" = true) (k_is_path_list : PySem.W.keepIn K (.ref f_is_path_list) = true)
    {f_check_table : Addr} {oc_check_table kV_check_table dc_check_table pm_check_table cd_check_table ct_check_table : Value} {od_check_table an_check_table : Option Addr} {sl_check_table : Array (Option Value)}
    (a_check_table : PySem.W.nsIn K mainGlobals "check_table" = some (some (.ref f_check_table))) (l_check_table : K.lookup f_check_table = some ⟨oc_check_table, od_check_table, .func (PySem.W.fnOf "check_table" "check_table" (defArgs s_check_table) (defBody s_check_table) (defScope s_check_table) .none kV_check_table dc_check_table pm_check_table an_check_table cd_check_table ct_check_table), sl_check_table⟩) (e_check_table : PySem.W.codeIn K cd_check_table "check_table" = true) (k_check_table : PySem.W.keepIn K (.ref f_check_table) = true)
    {f_turned_about : Addr} {oc_turned_about kV_turned_about dc_turned_about pm_turned_about cd_turned_about ct_turned_about : Value} {od_turned_about an_turned_about : Option Addr} {sl_turned_about : Array (Option Value)}
    (a_turned_about : PySem.W.nsIn K mainGlobals "turned_about" = some (some (.ref f_turned_about))) (l_turned_about : K.lookup f_turned_about = some ⟨oc_turned_about, od_turned_about, .func (PySem.W.fnOf "turned_about" "turned_about" (defArgs s_turned_about) (defBody s_turned_about) (defScope s_turned_about) .none kV_turned_about dc_turned_about pm_turned_about an_turned_about cd_turned_about ct_turned_about), sl_turned_about⟩) (e_turned_about : PySem.W.codeIn K cd_turned_about "turned_about" = true) (k_turned_about : PySem.W.keepIn K (.ref f_turned_about) = true)
    {f_path_led : Addr} {oc_path_led kV_path_led dc_path_led pm_path_led cd_path_led ct_path_led : Value} {od_path_led an_path_led : Option Addr} {sl_path_led : Array (Option Value)}
    (a_path_led : PySem.W.nsIn K mainGlobals "path_led" = some (some (.ref f_path_led))) (l_path_led : K.lookup f_path_led = some ⟨oc_path_led, od_path_led, .func (PySem.W.fnOf "path_led" "path_led" (defArgs s_path_led) (defBody s_path_led) (defScope s_path_led) .none kV_path_led dc_path_led pm_path_led an_path_led cd_path_led ct_path_led), sl_path_led⟩) (e_path_led : PySem.W.codeIn K cd_path_led "path_led" = true) (k_path_led : PySem.W.keepIn K (.ref f_path_led) = true)
    {f_table_times : Addr} {oc_table_times kV_table_times dc_table_times pm_table_times cd_table_times ct_table_times : Value} {od_table_times an_table_times : Option Addr} {sl_table_times : Array (Option Value)}
    (a_table_times : PySem.W.nsIn K mainGlobals "table_times" = some (some (.ref f_table_times))) (l_table_times : K.lookup f_table_times = some ⟨oc_table_times, od_table_times, .func (PySem.W.fnOf "table_times" "table_times" (defArgs s_table_times) (defBody s_table_times) (defScope s_table_times) .none kV_table_times dc_table_times pm_table_times an_table_times cd_table_times ct_table_times), sl_table_times⟩) (e_table_times : PySem.W.codeIn K cd_table_times "table_times" = true) (k_table_times : PySem.W.keepIn K (.ref f_table_times) = true)
    {f_table_product : Addr} {oc_table_product kV_table_product dc_table_product pm_table_product cd_table_product ct_table_product : Value} {od_table_product an_table_product : Option Addr} {sl_table_product : Array (Option Value)}
    (a_table_product : PySem.W.nsIn K mainGlobals "table_product" = some (some (.ref f_table_product))) (l_table_product : K.lookup f_table_product = some ⟨oc_table_product, od_table_product, .func (PySem.W.fnOf "table_product" "table_product" (defArgs s_table_product) (defBody s_table_product) (defScope s_table_product) .none kV_table_product dc_table_product pm_table_product an_table_product cd_table_product ct_table_product), sl_table_product⟩) (e_table_product : PySem.W.codeIn K cd_table_product "table_product" = true) (k_table_product : PySem.W.keepIn K (.ref f_table_product) = true)
    {f_l_opposite_30e8 : Addr} {oc_l_opposite_30e8 kV_l_opposite_30e8 dc_l_opposite_30e8 pm_l_opposite_30e8 cd_l_opposite_30e8 ct_l_opposite_30e8 : Value} {od_l_opposite_30e8 an_l_opposite_30e8 : Option Addr} {sl_l_opposite_30e8 : Array (Option Value)}
    (a_l_opposite_30e8 : PySem.W.nsIn K mainGlobals "_law_opposite" = some (some (.ref f_l_opposite_30e8))) (l_l_opposite_30e8 : K.lookup f_l_opposite_30e8 = some ⟨oc_l_opposite_30e8, od_l_opposite_30e8, .func (PySem.W.fnOf "_law_opposite" "_law_opposite" (defArgs s_l_opposite_30e8) (defBody s_l_opposite_30e8) (defScope s_l_opposite_30e8) .none kV_l_opposite_30e8 dc_l_opposite_30e8 pm_l_opposite_30e8 an_l_opposite_30e8 cd_l_opposite_30e8 ct_l_opposite_30e8), sl_l_opposite_30e8⟩) (e_l_opposite_30e8 : PySem.W.codeIn K cd_l_opposite_30e8 "_law_opposite" = true) (k_l_opposite_30e8 : PySem.W.keepIn K (.ref f_l_opposite_30e8) = true)
    {f_l_beside_26c0 : Addr} {oc_l_beside_26c0 kV_l_beside_26c0 dc_l_beside_26c0 pm_l_beside_26c0 cd_l_beside_26c0 ct_l_beside_26c0 : Value} {od_l_beside_26c0 an_l_beside_26c0 : Option Addr} {sl_l_beside_26c0 : Array (Option Value)}
    (a_l_beside_26c0 : PySem.W.nsIn K mainGlobals "_law_beside" = some (some (.ref f_l_beside_26c0))) (l_l_beside_26c0 : K.lookup f_l_beside_26c0 = some ⟨oc_l_beside_26c0, od_l_beside_26c0, .func (PySem.W.fnOf "_law_beside" "_law_beside" (defArgs s_l_beside_26c0) (defBody s_l_beside_26c0) (defScope s_l_beside_26c0) .none kV_l_beside_26c0 dc_l_beside_26c0 pm_l_beside_26c0 an_l_beside_26c0 cd_l_beside_26c0 ct_l_beside_26c0), sl_l_beside_26c0⟩) (e_l_beside_26c0 : PySem.W.codeIn K cd_l_beside_26c0 "_law_beside" = true) (k_l_beside_26c0 : PySem.W.keepIn K (.ref f_l_beside_26c0) = true)
    {f_l_bezout_3658 : Addr} {oc_l_bezout_3658 kV_l_bezout_3658 dc_l_bezout_3658 pm_l_bezout_3658 cd_l_bezout_3658 ct_l_bezout_3658 : Value} {od_l_bezout_3658 an_l_bezout_3658 : Option Addr} {sl_l_bezout_3658 : Array (Option Value)}
    (a_l_bezout_3658 : PySem.W.nsIn K mainGlobals "_law_bezout" = some (some (.ref f_l_bezout_3658))) (l_l_bezout_3658 : K.lookup f_l_bezout_3658 = some ⟨oc_l_bezout_3658, od_l_bezout_3658, .func (PySem.W.fnOf "_law_bezout" "_law_bezout" (defArgs s_l_bezout_3658) (defBody s_l_bezout_3658) (defScope s_l_bezout_3658) .none kV_l_bezout_3658 dc_l_bezout_3658 pm_l_bezout_3658 an_l_bezout_3658 cd_l_bezout_3658 ct_l_bezout_3658), sl_l_bezout_3658⟩) (e_l_bezout_3658 : PySem.W.codeIn K cd_l_bezout_3658 "_law_bezout" = true) (k_l_bezout_3658 : PySem.W.keepIn K (.ref f_l_bezout_3658) = true)
    {f_l_done_855c : Addr} {oc_l_done_855c kV_l_done_855c dc_l_done_855c pm_l_done_855c cd_l_done_855c ct_l_done_855c : Value} {od_l_done_855c an_l_done_855c : Option Addr} {sl_l_done_855c : Array (Option Value)}
    (a_l_done_855c : PySem.W.nsIn K mainGlobals "_law_done" = some (some (.ref f_l_done_855c))) (l_l_done_855c : K.lookup f_l_done_855c = some ⟨oc_l_done_855c, od_l_done_855c, .func (PySem.W.fnOf "_law_done" "_law_done" (defArgs s_l_done_855c) (defBody s_l_done_855c) (defScope s_l_done_855c) .none kV_l_done_855c dc_l_done_855c pm_l_done_855c an_l_done_855c cd_l_done_855c ct_l_done_855c), sl_l_done_855c⟩) (e_l_done_855c : PySem.W.codeIn K cd_l_done_855c "_law_done" = true) (k_l_done_855c : PySem.W.keepIn K (.ref f_l_done_855c) = true)
    {f_allowed_by : Addr} {oc_allowed_by kV_allowed_by dc_allowed_by pm_allowed_by cd_allowed_by ct_allowed_by : Value} {od_allowed_by an_allowed_by : Option Addr} {sl_allowed_by : Array (Option Value)}
    (a_allowed_by : PySem.W.nsIn K mainGlobals "allowed_by" = some (some (.ref f_allowed_by))) (l_allowed_by : K.lookup f_allowed_by = some ⟨oc_allowed_by, od_allowed_by, .func (PySem.W.fnOf "allowed_by" "allowed_by" (defArgs s_allowed_by) (defBody s_allowed_by) (defScope s_allowed_by) .none kV_allowed_by dc_allowed_by pm_allowed_by an_allowed_by cd_allowed_by ct_allowed_by), sl_allowed_by⟩) (e_allowed_by : PySem.W.codeIn K cd_allowed_by "allowed_by" = true) (k_allowed_by : PySem.W.keepIn K (.ref f_allowed_by) = true)
    {f_round_of : Addr} {oc_round_of kV_round_of dc_round_of pm_round_of cd_round_of ct_round_of : Value} {od_round_of an_round_of : Option Addr} {sl_round_of : Array (Option Value)}
    (a_round_of : PySem.W.nsIn K mainGlobals "round_of" = some (some (.ref f_round_of))) (l_round_of : K.lookup f_round_of = some ⟨oc_round_of, od_round_of, .func (PySem.W.fnOf "round_of" "round_of" (defArgs s_round_of) (defBody s_round_of) (defScope s_round_of) .none kV_round_of dc_round_of pm_round_of an_round_of cd_round_of ct_round_of), sl_round_of⟩) (e_round_of : PySem.W.codeIn K cd_round_of "round_of" = true) (k_round_of : PySem.W.keepIn K (.ref f_round_of) = true)
    {f_is_deed_by : Addr} {oc_is_deed_by kV_is_deed_by dc_is_deed_by pm_is_deed_by cd_is_deed_by ct_is_deed_by : Value} {od_is_deed_by an_is_deed_by : Option Addr} {sl_is_deed_by : Array (Option Value)}
    (a_is_deed_by : PySem.W.nsIn K mainGlobals "is_deed_by" = some (some (.ref f_is_deed_by))) (l_is_deed_by : K.lookup f_is_deed_by = some ⟨oc_is_deed_by, od_is_deed_by, .func (PySem.W.fnOf "is_deed_by" "is_deed_by" (defArgs s_is_deed_by) (defBody s_is_deed_by) (defScope s_is_deed_by) .none kV_is_deed_by dc_is_deed_by pm_is_deed_by an_is_deed_by cd_is_deed_by ct_is_deed_by), sl_is_deed_by⟩) (e_is_deed_by : PySem.W.codeIn K cd_is_deed_by "is_deed_by" = true) (k_is_deed_by : PySem.W.keepIn K (.ref f_is_deed_by) = true)
    {f_check_deed : Addr} {oc_check_deed kV_check_deed dc_check_deed pm_check_deed cd_check_deed ct_check_deed : Value} {od_check_deed an_check_deed : Option Addr} {sl_check_deed : Array (Option Value)}
    (a_check_deed : PySem.W.nsIn K mainGlobals "check_deed" = some (some (.ref f_check_deed))) (l_check_deed : K.lookup f_check_deed = some ⟨oc_check_deed, od_check_deed, .func (PySem.W.fnOf "check_deed" "check_deed" (defArgs s_check_deed) (defBody s_check_deed) (defScope s_check_deed) .none kV_check_deed dc_check_deed pm_check_deed an_check_deed cd_check_deed ct_check_deed), sl_check_deed⟩) (e_check_deed : PySem.W.codeIn K cd_check_deed "check_deed" = true) (k_check_deed : PySem.W.keepIn K (.ref f_check_deed) = true)
    {f_shared : Addr} {oc_shared kV_shared dc_shared pm_shared cd_shared ct_shared : Value} {od_shared an_shared : Option Addr} {sl_shared : Array (Option Value)}
    (a_shared : PySem.W.nsIn K mainGlobals "shared" = some (some (.ref f_shared))) (l_shared : K.lookup f_shared = some ⟨oc_shared, od_shared, .func (PySem.W.fnOf "shared" "shared" (defArgs s_shared) (defBody s_shared) (defScope s_shared) .none kV_shared dc_shared pm_shared an_shared cd_shared ct_shared), sl_shared⟩) (e_shared : PySem.W.codeIn K cd_shared "shared" = true) (k_shared : PySem.W.keepIn K (.ref f_shared) = true)
    {f_opposite_by : Addr} {oc_opposite_by kV_opposite_by dc_opposite_by pm_opposite_by cd_opposite_by ct_opposite_by : Value} {od_opposite_by an_opposite_by : Option Addr} {sl_opposite_by : Array (Option Value)}
    (a_opposite_by : PySem.W.nsIn K mainGlobals "opposite_by" = some (some (.ref f_opposite_by))) (l_opposite_by : K.lookup f_opposite_by = some ⟨oc_opposite_by, od_opposite_by, .func (PySem.W.fnOf "opposite_by" "opposite_by" (defArgs s_opposite_by) (defBody s_opposite_by) (defScope s_opposite_by) .none kV_opposite_by dc_opposite_by pm_opposite_by an_opposite_by cd_opposite_by ct_opposite_by), sl_opposite_by⟩) (e_opposite_by : PySem.W.codeIn K cd_opposite_by "opposite_by" = true) (k_opposite_by : PySem.W.keepIn K (.ref f_opposite_by) = true)
    {f_beside : Addr} {oc_beside kV_beside dc_beside pm_beside cd_beside ct_beside : Value} {od_beside an_beside : Option Addr} {sl_beside : Array (Option Value)}
    (a_beside : PySem.W.nsIn K mainGlobals "beside" = some (some (.ref f_beside))) (l_beside : K.lookup f_beside = some ⟨oc_beside, od_beside, .func (PySem.W.fnOf "beside" "beside" (defArgs s_beside) (defBody s_beside) (defScope s_beside) .none kV_beside dc_beside pm_beside an_beside cd_beside ct_beside), sl_beside⟩) (e_beside : PySem.W.codeIn K cd_beside "beside" = true) (k_beside : PySem.W.keepIn K (.ref f_beside) = true)
    {f_table_by : Addr} {oc_table_by kV_table_by dc_table_by pm_table_by cd_table_by ct_table_by : Value} {od_table_by an_table_by : Option Addr} {sl_table_by : Array (Option Value)}
    (a_table_by : PySem.W.nsIn K mainGlobals "table_by" = some (some (.ref f_table_by))) (l_table_by : K.lookup f_table_by = some ⟨oc_table_by, od_table_by, .func (PySem.W.fnOf "table_by" "table_by" (defArgs s_table_by) (defBody s_table_by) (defScope s_table_by) .none kV_table_by dc_table_by pm_table_by an_table_by cd_table_by ct_table_by), sl_table_by⟩) (e_table_by : PySem.W.codeIn K cd_table_by "table_by" = true) (k_table_by : PySem.W.keepIn K (.ref f_table_by) = true)
    {f_full_by : Addr} {oc_full_by kV_full_by dc_full_by pm_full_by cd_full_by ct_full_by : Value} {od_full_by an_full_by : Option Addr} {sl_full_by : Array (Option Value)}
    (a_full_by : PySem.W.nsIn K mainGlobals "full_by" = some (some (.ref f_full_by))) (l_full_by : K.lookup f_full_by = some ⟨oc_full_by, od_full_by, .func (PySem.W.fnOf "full_by" "full_by" (defArgs s_full_by) (defBody s_full_by) (defScope s_full_by) .none kV_full_by dc_full_by pm_full_by an_full_by cd_full_by ct_full_by), sl_full_by⟩) (e_full_by : PySem.W.codeIn K cd_full_by "full_by" = true) (k_full_by : PySem.W.keepIn K (.ref f_full_by) = true)
    {f_back_by : Addr} {oc_back_by kV_back_by dc_back_by pm_back_by cd_back_by ct_back_by : Value} {od_back_by an_back_by : Option Addr} {sl_back_by : Array (Option Value)}
    (a_back_by : PySem.W.nsIn K mainGlobals "back_by" = some (some (.ref f_back_by))) (l_back_by : K.lookup f_back_by = some ⟨oc_back_by, od_back_by, .func (PySem.W.fnOf "back_by" "back_by" (defArgs s_back_by) (defBody s_back_by) (defScope s_back_by) .none kV_back_by dc_back_by pm_back_by an_back_by cd_back_by ct_back_by), sl_back_by⟩) (e_back_by : PySem.W.codeIn K cd_back_by "back_by" = true) (k_back_by : PySem.W.keepIn K (.ref f_back_by) = true)
    {f_back : Addr} {oc_back kV_back dc_back pm_back cd_back ct_back : Value} {od_back an_back : Option Addr} {sl_back : Array (Option Value)}
    (a_back : PySem.W.nsIn K mainGlobals "back" = some (some (.ref f_back))) (l_back : K.lookup f_back = some ⟨oc_back, od_back, .func (PySem.W.fnOf "back" "back" (defArgs s_back) (defBody s_back) (defScope s_back) .none kV_back dc_back pm_back an_back cd_back ct_back), sl_back⟩) (e_back : PySem.W.codeIn K cd_back "back" = true) (k_back : PySem.W.keepIn K (.ref f_back) = true)
    {f_l_self_a3eb : Addr} {oc_l_self_a3eb kV_l_self_a3eb dc_l_self_a3eb pm_l_self_a3eb cd_l_self_a3eb ct_l_self_a3eb : Value} {od_l_self_a3eb an_l_self_a3eb : Option Addr} {sl_l_self_a3eb : Array (Option Value)}
    (a_l_self_a3eb : PySem.W.nsIn K mainGlobals "_law_self" = some (some (.ref f_l_self_a3eb))) (l_l_self_a3eb : K.lookup f_l_self_a3eb = some ⟨oc_l_self_a3eb, od_l_self_a3eb, .func (PySem.W.fnOf "_law_self" "_law_self" (defArgs s_l_self_a3eb) (defBody s_l_self_a3eb) (defScope s_l_self_a3eb) .none kV_l_self_a3eb dc_l_self_a3eb pm_l_self_a3eb an_l_self_a3eb cd_l_self_a3eb ct_l_self_a3eb), sl_l_self_a3eb⟩) (e_l_self_a3eb : PySem.W.codeIn K cd_l_self_a3eb "_law_self" = true) (k_l_self_a3eb : PySem.W.keepIn K (.ref f_l_self_a3eb) = true)
    {f_led_down : Addr} {oc_led_down kV_led_down dc_led_down pm_led_down cd_led_down ct_led_down : Value} {od_led_down an_led_down : Option Addr} {sl_led_down : Array (Option Value)}
    (a_led_down : PySem.W.nsIn K mainGlobals "led_down" = some (some (.ref f_led_down))) (l_led_down : K.lookup f_led_down = some ⟨oc_led_down, od_led_down, .func (PySem.W.fnOf "led_down" "led_down" (defArgs s_led_down) (defBody s_led_down) (defScope s_led_down) .none kV_led_down dc_led_down pm_led_down an_led_down cd_led_down ct_led_down), sl_led_down⟩) (e_led_down : PySem.W.codeIn K cd_led_down "led_down" = true) (k_led_down : PySem.W.keepIn K (.ref f_led_down) = true)
    {f_done_by : Addr} {oc_done_by kV_done_by dc_done_by pm_done_by cd_done_by ct_done_by : Value} {od_done_by an_done_by : Option Addr} {sl_done_by : Array (Option Value)}
    (a_done_by : PySem.W.nsIn K mainGlobals "done_by" = some (some (.ref f_done_by))) (l_done_by : K.lookup f_done_by = some ⟨oc_done_by, od_done_by, .func (PySem.W.fnOf "done_by" "done_by" (defArgs s_done_by) (defBody s_done_by) (defScope s_done_by) .none kV_done_by dc_done_by pm_done_by an_done_by cd_done_by ct_done_by), sl_done_by⟩) (e_done_by : PySem.W.codeIn K cd_done_by "done_by" = true) (k_done_by : PySem.W.keepIn K (.ref f_done_by) = true)
    {f_deed_table_by : Addr} {oc_deed_table_by kV_deed_table_by dc_deed_table_by pm_deed_table_by cd_deed_table_by ct_deed_table_by : Value} {od_deed_table_by an_deed_table_by : Option Addr} {sl_deed_table_by : Array (Option Value)}
    (a_deed_table_by : PySem.W.nsIn K mainGlobals "deed_table_by" = some (some (.ref f_deed_table_by))) (l_deed_table_by : K.lookup f_deed_table_by = some ⟨oc_deed_table_by, od_deed_table_by, .func (PySem.W.fnOf "deed_table_by" "deed_table_by" (defArgs s_deed_table_by) (defBody s_deed_table_by) (defScope s_deed_table_by) .none kV_deed_table_by dc_deed_table_by pm_deed_table_by an_deed_table_by cd_deed_table_by ct_deed_table_by), sl_deed_table_by⟩) (e_deed_table_by : PySem.W.codeIn K cd_deed_table_by "deed_table_by" = true) (k_deed_table_by : PySem.W.keepIn K (.ref f_deed_table_by) = true)
    {f_deed_table : Addr} {oc_deed_table kV_deed_table dc_deed_table pm_deed_table cd_deed_table ct_deed_table : Value} {od_deed_table an_deed_table : Option Addr} {sl_deed_table : Array (Option Value)}
    (a_deed_table : PySem.W.nsIn K mainGlobals "deed_table" = some (some (.ref f_deed_table))) (l_deed_table : K.lookup f_deed_table = some ⟨oc_deed_table, od_deed_table, .func (PySem.W.fnOf "deed_table" "deed_table" (defArgs s_deed_table) (defBody s_deed_table) (defScope s_deed_table) .none kV_deed_table dc_deed_table pm_deed_table an_deed_table cd_deed_table ct_deed_table), sl_deed_table⟩) (e_deed_table : PySem.W.codeIn K cd_deed_table "deed_table" = true) (k_deed_table : PySem.W.keepIn K (.ref f_deed_table) = true)
    {f_back_of_o : Addr} {oc_back_of_o kV_back_of_o dc_back_of_o pm_back_of_o cd_back_of_o ct_back_of_o : Value} {od_back_of_o an_back_of_o : Option Addr} {sl_back_of_o : Array (Option Value)}
    (a_back_of_o : PySem.W.nsIn K mainGlobals "back_of" = some (some (.ref f_back_of_o))) (l_back_of_o : K.lookup f_back_of_o = some ⟨oc_back_of_o, od_back_of_o, .func (PySem.W.fnOf "back_of" "back_of" (defArgs s_back_of_o) (defBody s_back_of_o) (defScope s_back_of_o) .none kV_back_of_o dc_back_of_o pm_back_of_o an_back_of_o cd_back_of_o ct_back_of_o), sl_back_of_o⟩) (e_back_of_o : PySem.W.codeIn K cd_back_of_o "back_of" = true) (k_back_of_o : PySem.W.keepIn K (.ref f_back_of_o) = true)
    {f_back_shear_by : Addr} {oc_back_shear_by kV_back_shear_by dc_back_shear_by pm_back_shear_by cd_back_shear_by ct_back_shear_by : Value} {od_back_shear_by an_back_shear_by : Option Addr} {sl_back_shear_by : Array (Option Value)}
    (a_back_shear_by : PySem.W.nsIn K mainGlobals "back_shear_by" = some (some (.ref f_back_shear_by))) (l_back_shear_by : K.lookup f_back_shear_by = some ⟨oc_back_shear_by, od_back_shear_by, .func (PySem.W.fnOf "back_shear_by" "back_shear_by" (defArgs s_back_shear_by) (defBody s_back_shear_by) (defScope s_back_shear_by) .none kV_back_shear_by dc_back_shear_by pm_back_shear_by an_back_shear_by cd_back_shear_by ct_back_shear_by), sl_back_shear_by⟩) (e_back_shear_by : PySem.W.codeIn K cd_back_shear_by "back_shear_by" = true) (k_back_shear_by : PySem.W.keepIn K (.ref f_back_shear_by) = true)
    {f_back_shear : Addr} {oc_back_shear kV_back_shear dc_back_shear pm_back_shear cd_back_shear ct_back_shear : Value} {od_back_shear an_back_shear : Option Addr} {sl_back_shear : Array (Option Value)}
    (a_back_shear : PySem.W.nsIn K mainGlobals "back_shear" = some (some (.ref f_back_shear))) (l_back_shear : K.lookup f_back_shear = some ⟨oc_back_shear, od_back_shear, .func (PySem.W.fnOf "back_shear" "back_shear" (defArgs s_back_shear) (defBody s_back_shear) (defScope s_back_shear) .none kV_back_shear dc_back_shear pm_back_shear an_back_shear cd_back_shear ct_back_shear), sl_back_shear⟩) (e_back_shear : PySem.W.codeIn K cd_back_shear "back_shear" = true) (k_back_shear : PySem.W.keepIn K (.ref f_back_shear) = true)
    {f_l_is_table_0704 : Addr} {oc_l_is_table_0704 kV_l_is_table_0704 dc_l_is_table_0704 pm_l_is_table_0704 cd_l_is_table_0704 ct_l_is_table_0704 : Value} {od_l_is_table_0704 an_l_is_table_0704 : Option Addr} {sl_l_is_table_0704 : Array (Option Value)}
    (a_l_is_table_0704 : PySem.W.nsIn K mainGlobals "_law_is_table" = some (some (.ref f_l_is_table_0704))) (l_l_is_table_0704 : K.lookup f_l_is_table_0704 = some ⟨oc_l_is_table_0704, od_l_is_table_0704, .func (PySem.W.fnOf "_law_is_table" "_law_is_table" (defArgs s_l_is_table_0704) (defBody s_l_is_table_0704) (defScope s_l_is_table_0704) .none kV_l_is_table_0704 dc_l_is_table_0704 pm_l_is_table_0704 an_l_is_table_0704 cd_l_is_table_0704 ct_l_is_table_0704), sl_l_is_table_0704⟩) (e_l_is_table_0704 : PySem.W.codeIn K cd_l_is_table_0704 "_law_is_table" = true) (k_l_is_table_0704 : PySem.W.keepIn K (.ref f_l_is_table_0704) = true)
    {f_l_is_deed_table_6abb : Addr} {oc_l_is_deed_table_6abb kV_l_is_deed_table_6abb dc_l_is_deed_table_6abb pm_l_is_deed_table_6abb cd_l_is_deed_table_6abb ct_l_is_deed_table_6abb : Value} {od_l_is_deed_table_6abb an_l_is_deed_table_6abb : Option Addr} {sl_l_is_deed_table_6abb : Array (Option Value)}
    (a_l_is_deed_table_6abb : PySem.W.nsIn K mainGlobals "_law_is_deed_table" = some (some (.ref f_l_is_deed_table_6abb))) (l_l_is_deed_table_6abb : K.lookup f_l_is_deed_table_6abb = some ⟨oc_l_is_deed_table_6abb, od_l_is_deed_table_6abb, .func (PySem.W.fnOf "_law_is_deed_table" "_law_is_deed_table" (defArgs s_l_is_deed_table_6abb) (defBody s_l_is_deed_table_6abb) (defScope s_l_is_deed_table_6abb) .none kV_l_is_deed_table_6abb dc_l_is_deed_table_6abb pm_l_is_deed_table_6abb an_l_is_deed_table_6abb cd_l_is_deed_table_6abb ct_l_is_deed_table_6abb), sl_l_is_deed_table_6abb⟩) (e_l_is_deed_table_6abb : PySem.W.codeIn K cd_l_is_deed_table_6abb "_law_is_deed_table" = true) (k_l_is_deed_table_6abb : PySem.W.keepIn K (.ref f_l_is_deed_table_6abb) = true)
    {f_l_product_063e : Addr} {oc_l_product_063e kV_l_product_063e dc_l_product_063e pm_l_product_063e cd_l_product_063e ct_l_product_063e : Value} {od_l_product_063e an_l_product_063e : Option Addr} {sl_l_product_063e : Array (Option Value)}
    (a_l_product_063e : PySem.W.nsIn K mainGlobals "_law_product" = some (some (.ref f_l_product_063e))) (l_l_product_063e : K.lookup f_l_product_063e = some ⟨oc_l_product_063e, od_l_product_063e, .func (PySem.W.fnOf "_law_product" "_law_product" (defArgs s_l_product_063e) (defBody s_l_product_063e) (defScope s_l_product_063e) .none kV_l_product_063e dc_l_product_063e pm_l_product_063e an_l_product_063e cd_l_product_063e ct_l_product_063e), sl_l_product_063e⟩) (e_l_product_063e : PySem.W.codeIn K cd_l_product_063e "_law_product" = true) (k_l_product_063e : PySem.W.keepIn K (.ref f_l_product_063e) = true)
    {f_l_right_1f94 : Addr} {oc_l_right_1f94 kV_l_right_1f94 dc_l_right_1f94 pm_l_right_1f94 cd_l_right_1f94 ct_l_right_1f94 : Value} {od_l_right_1f94 an_l_right_1f94 : Option Addr} {sl_l_right_1f94 : Array (Option Value)}
    (a_l_right_1f94 : PySem.W.nsIn K mainGlobals "_law_right" = some (some (.ref f_l_right_1f94))) (l_l_right_1f94 : K.lookup f_l_right_1f94 = some ⟨oc_l_right_1f94, od_l_right_1f94, .func (PySem.W.fnOf "_law_right" "_law_right" (defArgs s_l_right_1f94) (defBody s_l_right_1f94) (defScope s_l_right_1f94) .none kV_l_right_1f94 dc_l_right_1f94 pm_l_right_1f94 an_l_right_1f94 cd_l_right_1f94 ct_l_right_1f94), sl_l_right_1f94⟩) (e_l_right_1f94 : PySem.W.codeIn K cd_l_right_1f94 "_law_right" = true) (k_l_right_1f94 : PySem.W.keepIn K (.ref f_l_right_1f94) = true)
    {f_l_cell_cf3b : Addr} {oc_l_cell_cf3b kV_l_cell_cf3b dc_l_cell_cf3b pm_l_cell_cf3b cd_l_cell_cf3b ct_l_cell_cf3b : Value} {od_l_cell_cf3b an_l_cell_cf3b : Option Addr} {sl_l_cell_cf3b : Array (Option Value)}
    (a_l_cell_cf3b : PySem.W.nsIn K mainGlobals "_law_cell" = some (some (.ref f_l_cell_cf3b))) (l_l_cell_cf3b : K.lookup f_l_cell_cf3b = some ⟨oc_l_cell_cf3b, od_l_cell_cf3b, .func (PySem.W.fnOf "_law_cell" "_law_cell" (defArgs s_l_cell_cf3b) (defBody s_l_cell_cf3b) (defScope s_l_cell_cf3b) .none kV_l_cell_cf3b dc_l_cell_cf3b pm_l_cell_cf3b an_l_cell_cf3b cd_l_cell_cf3b ct_l_cell_cf3b), sl_l_cell_cf3b⟩) (e_l_cell_cf3b : PySem.W.codeIn K cd_l_cell_cf3b "_law_cell" = true) (k_l_cell_cf3b : PySem.W.keepIn K (.ref f_l_cell_cf3b) = true)
    {f_l_generator_b324 : Addr} {oc_l_generator_b324 kV_l_generator_b324 dc_l_generator_b324 pm_l_generator_b324 cd_l_generator_b324 ct_l_generator_b324 : Value} {od_l_generator_b324 an_l_generator_b324 : Option Addr} {sl_l_generator_b324 : Array (Option Value)}
    (a_l_generator_b324 : PySem.W.nsIn K mainGlobals "_law_generator" = some (some (.ref f_l_generator_b324))) (l_l_generator_b324 : K.lookup f_l_generator_b324 = some ⟨oc_l_generator_b324, od_l_generator_b324, .func (PySem.W.fnOf "_law_generator" "_law_generator" (defArgs s_l_generator_b324) (defBody s_l_generator_b324) (defScope s_l_generator_b324) .none kV_l_generator_b324 dc_l_generator_b324 pm_l_generator_b324 an_l_generator_b324 cd_l_generator_b324 ct_l_generator_b324), sl_l_generator_b324⟩) (e_l_generator_b324 : PySem.W.codeIn K cd_l_generator_b324 "_law_generator" = true) (k_l_generator_b324 : PySem.W.keepIn K (.ref f_l_generator_b324) = true)
    {f_l_law_e1ea : Addr} {oc_l_law_e1ea kV_l_law_e1ea dc_l_law_e1ea pm_l_law_e1ea cd_l_law_e1ea ct_l_law_e1ea : Value} {od_l_law_e1ea an_l_law_e1ea : Option Addr} {sl_l_law_e1ea : Array (Option Value)}
    (a_l_law_e1ea : PySem.W.nsIn K mainGlobals "law" = some (some (.ref f_l_law_e1ea))) (l_l_law_e1ea : K.lookup f_l_law_e1ea = some ⟨oc_l_law_e1ea, od_l_law_e1ea, .func (PySem.W.fnOf "law" "law" (defArgs s_l_law_e1ea) (defBody s_l_law_e1ea) (defScope s_l_law_e1ea) .none kV_l_law_e1ea dc_l_law_e1ea pm_l_law_e1ea an_l_law_e1ea cd_l_law_e1ea ct_l_law_e1ea), sl_l_law_e1ea⟩) (e_l_law_e1ea : PySem.W.codeIn K cd_l_law_e1ea "law" = true) (k_l_law_e1ea : PySem.W.keepIn K (.ref f_l_law_e1ea) = true)
    (base : Heap) (Xb : K.In base) : Txt K mg base where
  n_abs := PySem.W.mg_none_of X G n_abs
  n_bool := PySem.W.mg_none_of X G n_bool
  n_int := PySem.W.mg_none_of X G n_int
  n_isinstance := PySem.W.mg_none_of X G n_isinstance
  n_len := PySem.W.mg_none_of X G n_len
  n_list := PySem.W.mg_none_of X G n_list
  n_max := PySem.W.mg_none_of X G n_max
  n_range := PySem.W.mg_none_of X G n_range
  n_repr := PySem.W.mg_none_of X G n_repr
  n_sum := PySem.W.mg_none_of X G n_sum
  n_tuple := PySem.W.mg_none_of X G n_tuple
  n_zip := PySem.W.mg_none_of X G n_zip
  g_gcd := PySem.W.mg_of X G g_gcd
  c_SELF := ⟨_, PySem.W.mg_of X G c_SELF, .tup cl_SELF (.cons (.tup cl_SELF_0 (.cons .int (.cons .int (.cons .int (.cons .int (.nil))))) (Nat.le_of_ble_eq_true rfl)) (.cons (.tup cl_SELF_1 (.cons .int (.cons .int (.cons .int (.cons .int (.nil))))) (Nat.le_of_ble_eq_true rfl)) (.cons (.tup cl_SELF_2 (.cons .int (.cons .int (.cons .int (.cons .int (.nil))))) (Nat.le_of_ble_eq_true rfl)) (.cons (.tup cl_SELF_3 (.cons .int (.cons .int (.cons .int (.cons .int (.nil))))) (Nat.le_of_ble_eq_true rfl)) (.nil))))) (Nat.le_of_ble_eq_true rfl)⟩
  h_l_hash_d8d1 := here_of (st := s_l_hash_d8d1) X G a_l_hash_d8d1 l_l_hash_d8d1 e_l_hash_d8d1 k_l_hash_d8d1 fun _ _ _ _ _ _ us hl => match us, hl with | [_, _], _ => rfl
  h_l_random_7821 := here_of (st := s_l_random_7821) X G a_l_random_7821 l_l_random_7821 e_l_random_7821 k_l_random_7821 fun _ _ _ _ _ _ us hl => match us, hl with | [_, _], _ => rfl
  h_l_common_b8b4 := here_of (st := s_l_common_b8b4) X G a_l_common_b8b4 l_l_common_b8b4 e_l_common_b8b4 k_l_common_b8b4 fun _ _ _ _ _ _ us hl => match us, hl with | [_, _], _ => rfl
  h_l_is_cutting_19aa := here_of (st := s_l_is_cutting_19aa) X G a_l_is_cutting_19aa l_l_is_cutting_19aa e_l_is_cutting_19aa k_l_is_cutting_19aa fun _ _ _ _ _ _ us hl => match us, hl with | [_, _, _, _], _ => rfl
  h_l_cutting_f2c0 := here_of (st := s_l_cutting_f2c0) X G a_l_cutting_f2c0 l_l_cutting_f2c0 e_l_cutting_f2c0 k_l_cutting_f2c0 fun _ _ _ _ _ _ us hl => match us, hl with | [_, _], _ => rfl
  h_l_allows_0877 := here_of (st := s_l_allows_0877) X G a_l_allows_0877 l_l_allows_0877 e_l_allows_0877 k_l_allows_0877 fun _ _ _ _ _ _ us hl => match us, hl with | [_, _], _ => rfl
  h_l_deed_593a := here_of (st := s_l_deed_593a) X G a_l_deed_593a l_l_deed_593a e_l_deed_593a k_l_deed_593a fun _ _ _ _ _ _ us hl => match us, hl with | [_, _], _ => rfl
  h_is_whole := here_of (st := s_is_whole) X G a_is_whole l_is_whole e_is_whole k_is_whole fun _ _ _ _ _ _ us hl => match us, hl with | [_], _ => rfl
  h_common_by := here_of (st := s_common_by) X G a_common_by l_common_by e_common_by k_common_by fun _ _ _ _ _ _ us hl => match us, hl with | [_, _], _ => rfl
  h_is_cutting_by := here_of (st := s_is_cutting_by) X G a_is_cutting_by l_is_cutting_by e_is_cutting_by k_is_cutting_by fun _ _ _ _ _ _ us hl => match us, hl with | [_], _ => rfl
  h_check_cutting := here_of (st := s_check_cutting) X G a_check_cutting l_check_cutting e_check_cutting k_check_cutting fun _ _ _ _ _ _ us hl => match us, hl with | [_], _ => rfl
  h_self_table_o := here_of (st := s_self_table_o) X G a_self_table_o l_self_table_o e_self_table_o k_self_table_o fun _ _ _ _ _ _ us hl => match us, hl with | [], _ => rfl
  h_shear_by_o := here_of (st := s_shear_by_o) X G a_shear_by_o l_shear_by_o e_shear_by_o k_shear_by_o fun _ _ _ _ _ _ us hl => match us, hl with | [_, _], _ => rfl
  h_shear_table_o := here_of (st := s_shear_table_o) X G a_shear_table_o l_shear_table_o e_shear_table_o k_shear_table_o fun _ _ _ _ _ _ us hl => match us, hl with | [_, _], _ => rfl
  h_l_base_3ec4_o := here_of (st := s_l_base_3ec4_o) X G a_l_base_3ec4_o l_l_base_3ec4_o e_l_base_3ec4_o k_l_base_3ec4_o fun _ _ _ _ _ _ us hl => match us, hl with | [_], _ => rfl
  h_l_self_a3eb_o := here_of (st := s_l_self_a3eb_o) X G a_l_self_a3eb_o l_l_self_a3eb_o e_l_self_a3eb_o k_l_self_a3eb_o fun _ _ _ _ _ _ us hl => match us, hl with | [], _ => rfl
  h_l_shear_1435 := here_of (st := s_l_shear_1435) X G a_l_shear_1435 l_l_shear_1435 e_l_shear_1435 k_l_shear_1435 fun _ _ _ _ _ _ us hl => match us, hl with | [_, _], _ => rfl
  h_l_columns_d906 := here_of (st := s_l_columns_d906) X G a_l_columns_d906 l_l_columns_d906 e_l_columns_d906 k_l_columns_d906 fun _ _ _ _ _ _ us hl => match us, hl with | [_], _ => rfl
  h_l_crossing_3f18 := here_of (st := s_l_crossing_3f18) X G a_l_crossing_3f18 l_l_crossing_3f18 e_l_crossing_3f18 k_l_crossing_3f18 fun _ _ _ _ _ _ us hl => match us, hl with | [_, _], _ => rfl
  h_l_base_3ec4 := here_of (st := s_l_base_3ec4) X G a_l_base_3ec4 l_l_base_3ec4 e_l_base_3ec4 k_l_base_3ec4 fun _ _ _ _ _ _ us hl => match us, hl with | [_], _ => rfl
  h_l_keeps_2d4c := here_of (st := s_l_keeps_2d4c) X G a_l_keeps_2d4c l_l_keeps_2d4c e_l_keeps_2d4c k_l_keeps_2d4c fun _ _ _ _ _ _ us hl => match us, hl with | [_], _ => rfl
  h_l_rooted_a87a := here_of (st := s_l_rooted_a87a) X G a_l_rooted_a87a l_l_rooted_a87a e_l_rooted_a87a k_l_rooted_a87a fun _ _ _ _ _ _ us hl => match us, hl with | [_, _], _ => rfl
  h_l_led_3b4c := here_of (st := s_l_led_3b4c) X G a_l_led_3b4c l_l_led_3b4c e_l_led_3b4c k_l_led_3b4c fun _ _ _ _ _ _ us hl => match us, hl with | [_, _], _ => rfl
  h_is_path_list := here_of (st := s_is_path_list) X G a_is_path_list l_is_path_list e_is_path_list k_is_path_list fun _ _ _ _ _ _ us hl => match us, hl with | [_], _ => rfl
  h_check_table := here_of (st := s_check_table) X G a_check_table l_check_table e_check_table k_check_table fun _ _ _ _ _ _ us hl => match us, hl with | [_], _ => rfl
  h_turned_about := here_of (st := s_turned_about) X G a_turned_about l_turned_about e_turned_about k_turned_about fun _ _ _ _ _ _ us hl => match us, hl with | [_], _ => rfl
  h_path_led := here_of (st := s_path_led) X G a_path_led l_path_led e_path_led k_path_led fun _ _ _ _ _ _ us hl => match us, hl with | [_, _], _ => rfl
  h_table_times := here_of (st := s_table_times) X G a_table_times l_table_times e_table_times k_table_times fun _ _ _ _ _ _ us hl => match us, hl with | [_, _], _ => rfl
  h_table_product := here_of (st := s_table_product) X G a_table_product l_table_product e_table_product k_table_product fun _ _ _ _ _ _ us hl => match us, hl with | [_, _], _ => rfl
  h_l_opposite_30e8 := here_of (st := s_l_opposite_30e8) X G a_l_opposite_30e8 l_l_opposite_30e8 e_l_opposite_30e8 k_l_opposite_30e8 fun _ _ _ _ _ _ us hl => match us, hl with | [_, _], _ => rfl
  h_l_beside_26c0 := here_of (st := s_l_beside_26c0) X G a_l_beside_26c0 l_l_beside_26c0 e_l_beside_26c0 k_l_beside_26c0 fun _ _ _ _ _ _ us hl => match us, hl with | [_], _ => rfl
  h_l_bezout_3658 := here_of (st := s_l_bezout_3658) X G a_l_bezout_3658 l_l_bezout_3658 e_l_bezout_3658 k_l_bezout_3658 fun _ _ _ _ _ _ us hl => match us, hl with | [_, _], _ => rfl
  h_l_done_855c := here_of (st := s_l_done_855c) X G a_l_done_855c l_l_done_855c e_l_done_855c k_l_done_855c fun _ _ _ _ _ _ us hl => match us, hl with | [_, _], _ => rfl
  h_allowed_by := here_of (st := s_allowed_by) X G a_allowed_by l_allowed_by e_allowed_by k_allowed_by fun _ _ _ _ _ _ us hl => match us, hl with | [_, _], _ => rfl
  h_round_of := here_of (st := s_round_of) X G a_round_of l_round_of e_round_of k_round_of fun _ _ _ _ _ _ us hl => match us, hl with | [_], _ => rfl
  h_is_deed_by := here_of (st := s_is_deed_by) X G a_is_deed_by l_is_deed_by e_is_deed_by k_is_deed_by fun _ _ _ _ _ _ us hl => match us, hl with | [_, _], _ => rfl
  h_check_deed := here_of (st := s_check_deed) X G a_check_deed l_check_deed e_check_deed k_check_deed fun _ _ _ _ _ _ us hl => match us, hl with | [_, _], _ => rfl
  h_shared := here_of (st := s_shared) X G a_shared l_shared e_shared k_shared fun _ _ _ _ _ _ us hl => match us, hl with | [_, _], _ => rfl
  h_opposite_by := here_of (st := s_opposite_by) X G a_opposite_by l_opposite_by e_opposite_by k_opposite_by fun _ _ _ _ _ _ us hl => match us, hl with | [_, _], _ => rfl
  h_beside := here_of (st := s_beside) X G a_beside l_beside e_beside k_beside fun _ _ _ _ _ _ us hl => match us, hl with | [_], _ => rfl
  h_table_by := here_of (st := s_table_by) X G a_table_by l_table_by e_table_by k_table_by fun _ _ _ _ _ _ us hl => match us, hl with | [_, _], _ => rfl
  h_full_by := here_of (st := s_full_by) X G a_full_by l_full_by e_full_by k_full_by fun _ _ _ _ _ _ us hl => match us, hl with | [_, _], _ => rfl
  h_back_by := here_of (st := s_back_by) X G a_back_by l_back_by e_back_by k_back_by fun _ _ _ _ _ _ us hl => match us, hl with | [_, _], _ => rfl
  h_back := here_of (st := s_back) X G a_back l_back e_back k_back fun _ _ _ _ _ _ us hl => match us, hl with | [_, _], _ => rfl
  h_l_self_a3eb := here_of (st := s_l_self_a3eb) X G a_l_self_a3eb l_l_self_a3eb e_l_self_a3eb k_l_self_a3eb fun _ _ _ _ _ _ us hl => match us, hl with | [], _ => rfl
  h_led_down := here_of (st := s_led_down) X G a_led_down l_led_down e_led_down k_led_down fun _ _ _ _ _ _ us hl => match us, hl with | [_, _], _ => rfl
  h_done_by := here_of (st := s_done_by) X G a_done_by l_done_by e_done_by k_done_by fun _ _ _ _ _ _ us hl => match us, hl with | [_, _], _ => rfl
  h_deed_table_by := here_of (st := s_deed_table_by) X G a_deed_table_by l_deed_table_by e_deed_table_by k_deed_table_by fun _ _ _ _ _ _ us hl => match us, hl with | [_, _], _ => rfl
  h_deed_table := here_of (st := s_deed_table) X G a_deed_table l_deed_table e_deed_table k_deed_table fun _ _ _ _ _ _ us hl => match us, hl with | [_, _], _ => rfl
  h_back_of_o := here_of (st := s_back_of_o) X G a_back_of_o l_back_of_o e_back_of_o k_back_of_o fun _ _ _ _ _ _ us hl => match us, hl with | [_], _ => rfl
  h_back_shear_by := here_of (st := s_back_shear_by) X G a_back_shear_by l_back_shear_by e_back_shear_by k_back_shear_by fun _ _ _ _ _ _ us hl => match us, hl with | [_, _], _ => rfl
  h_back_shear := here_of (st := s_back_shear) X G a_back_shear l_back_shear e_back_shear k_back_shear fun _ _ _ _ _ _ us hl => match us, hl with | [_, _], _ => rfl
  h_l_is_table_0704 := here_of (st := s_l_is_table_0704) X G a_l_is_table_0704 l_l_is_table_0704 e_l_is_table_0704 k_l_is_table_0704 fun _ _ _ _ _ _ us hl => match us, hl with | [_], _ => rfl
  h_l_is_deed_table_6abb := here_of (st := s_l_is_deed_table_6abb) X G a_l_is_deed_table_6abb l_l_is_deed_table_6abb e_l_is_deed_table_6abb k_l_is_deed_table_6abb fun _ _ _ _ _ _ us hl => match us, hl with | [_, _, _], _ => rfl
  h_l_product_063e := here_of (st := s_l_product_063e) X G a_l_product_063e l_l_product_063e e_l_product_063e k_l_product_063e fun _ _ _ _ _ _ us hl => match us, hl with | [_, _], _ => rfl
  h_l_right_1f94 := here_of (st := s_l_right_1f94) X G a_l_right_1f94 l_l_right_1f94 e_l_right_1f94 k_l_right_1f94 fun _ _ _ _ _ _ us hl => match us, hl with | [_], _ => rfl
  h_l_cell_cf3b := here_of (st := s_l_cell_cf3b) X G a_l_cell_cf3b l_l_cell_cf3b e_l_cell_cf3b k_l_cell_cf3b fun _ _ _ _ _ _ us hl => match us, hl with | [_, _], _ => rfl
  h_l_generator_b324 := here_of (st := s_l_generator_b324) X G a_l_generator_b324 l_l_generator_b324 e_l_generator_b324 k_l_generator_b324 fun _ _ _ _ _ _ us hl => match us, hl with | [_, _], _ => rfl
  h_l_law_e1ea := here_of (st := s_l_law_e1ea) X G a_l_law_e1ea l_l_law_e1ea e_l_law_e1ea k_l_law_e1ea fun _ _ _ _ _ _ us hl => match us, hl with | [_], _ => rfl
end C_k46
open PySem PySem.W PyProof.Rows
set_option maxHeartbeats 0 in
theorem PySem.Challenge.cw_slitsheets_k46_whole_shears_between_deed_holds : PySem.Challenge.rw_slitsheets_k46_whole_shears_between_deed.Holds := by
  w_on; o_law; k_head; (case hw => w_witness2)
  k_fill
  refine DL.walkD (l := PySem.Challenge.rw_slitsheets_k46_whole_shears_between_deed) (n := 63) (k := 11) (x := "_law_script") (st := C_k46.s_l_law_e1ea) rfl (by decide) rfl ⟨rfl, by decide, by decide⟩ (fun w h Y => PySem.W.kIn_of Y) ?F (fun _ _ _ _ _ _ _ => rfl)
  case F =>
    intro w mg h KX G base Xb Gb
    refine' C_k46.law_ok (C_k46.all_mk KX G ?n_abs ?n_bool ?n_int ?n_isinstance ?n_len ?n_list ?n_max ?n_range ?n_repr ?n_sum ?n_tuple ?n_zip ?g_gcd ?cl_SELF_0 ?cl_SELF_1 ?cl_SELF_2 ?cl_SELF_3 ?cl_SELF ?c_SELF ?a_l_hash_d8d1 ?l_l_hash_d8d1 ?e_l_hash_d8d1 ?k_l_hash_d8d1 ?a_l_random_7821 ?l_l_random_7821 ?e_l_random_7821 ?k_l_random_7821 ?a_l_common_b8b4 ?l_l_common_b8b4 ?e_l_common_b8b4 ?k_l_common_b8b4 ?a_l_is_cutting_19aa ?l_l_is_cutting_19aa ?e_l_is_cutting_19aa ?k_l_is_cutting_19aa ?a_l_cutting_f2c0 ?l_l_cutting_f2c0 ?e_l_cutting_f2c0 ?k_l_cutting_f2c0 ?a_l_allows_0877 ?l_l_allows_0877 ?e_l_allows_0877 ?k_l_allows_0877 ?a_l_deed_593a ?l_l_deed_593a ?e_l_deed_593a ?k_l_deed_593a ?a_is_whole ?l_is_whole ?e_is_whole ?k_is_whole ?a_common_by ?l_common_by ?e_common_by ?k_common_by ?a_is_cutting_by ?l_is_cutting_by ?e_is_cutting_by ?k_is_cutting_by ?a_check_cutting ?l_check_cutting ?e_check_cutting ?k_check_cutting ?a_self_table_o ?l_self_table_o ?e_self_table_o ?k_self_table_o ?a_shear_by_o ?l_shear_by_o ?e_shear_by_o ?k_shear_by_o ?a_shear_table_o ?l_shear_table_o ?e_shear_table_o ?k_shear_table_o ?a_l_base_3ec4_o ?l_l_base_3ec4_o ?e_l_base_3ec4_o ?k_l_base_3ec4_o ?a_l_self_a3eb_o ?l_l_self_a3eb_o ?e_l_self_a3eb_o ?k_l_self_a3eb_o ?a_l_shear_1435 ?l_l_shear_1435 ?e_l_shear_1435 ?k_l_shear_1435 ?a_l_columns_d906 ?l_l_columns_d906 ?e_l_columns_d906 ?k_l_columns_d906 ?a_l_crossing_3f18 ?l_l_crossing_3f18 ?e_l_crossing_3f18 ?k_l_crossing_3f18 ?a_l_base_3ec4 ?l_l_base_3ec4 ?e_l_base_3ec4 ?k_l_base_3ec4 ?a_l_keeps_2d4c ?l_l_keeps_2d4c ?e_l_keeps_2d4c ?k_l_keeps_2d4c ?a_l_rooted_a87a ?l_l_rooted_a87a ?e_l_rooted_a87a ?k_l_rooted_a87a ?a_l_led_3b4c ?l_l_led_3b4c ?e_l_led_3b4c ?k_l_led_3b4c ?a_is_path_list ?l_is_path_list ?e_is_path_list ?k_is_path_list ?a_check_table ?l_check_table ?e_check_table ?k_check_table ?a_turned_about ?l_turned_about ?e_turned_about ?k_turned_about ?a_path_led ?l_path_led ?e_path_led ?k_path_led ?a_table_times ?l_table_times ?e_table_times ?k_table_times ?a_table_product ?l_table_product ?e_table_product ?k_table_product ?a_l_opposite_30e8 ?l_l_opposite_30e8 ?e_l_opposite_30e8 ?k_l_opposite_30e8 ?a_l_beside_26c0 ?l_l_beside_26c0 ?e_l_beside_26c0 ?k_l_beside_26c0 ?a_l_bezout_3658 ?l_l_bezout_3658 ?e_l_bezout_3658 ?k_l_bezout_3658 ?a_l_done_855c ?l_l_done_855c ?e_l_done_855c ?k_l_done_855c ?a_allowed_by ?l_allowed_by ?e_allowed_by ?k_allowed_by ?a_round_of ?l_round_of ?e_round_of ?k_round_of ?a_is_deed_by ?l_is_deed_by ?e_is_deed_by ?k_is_deed_by ?a_check_deed ?l_check_deed ?e_check_deed ?k_check_deed ?a_shared ?l_shared ?e_shared ?k_shared ?a_opposite_by ?l_opposite_by ?e_opposite_by ?k_opposite_by ?a_beside ?l_beside ?e_beside ?k_beside ?a_table_by ?l_table_by ?e_table_by ?k_table_by ?a_full_by ?l_full_by ?e_full_by ?k_full_by ?a_back_by ?l_back_by ?e_back_by ?k_back_by ?a_back ?l_back ?e_back ?k_back ?a_l_self_a3eb ?l_l_self_a3eb ?e_l_self_a3eb ?k_l_self_a3eb ?a_led_down ?l_led_down ?e_led_down ?k_led_down ?a_done_by ?l_done_by ?e_done_by ?k_done_by ?a_deed_table_by ?l_deed_table_by ?e_deed_table_by ?k_deed_table_by ?a_deed_table ?l_deed_table ?e_deed_table ?k_deed_table ?a_back_of_o ?l_back_of_o ?e_back_of_o ?k_back_of_o ?a_back_shear_by ?l_back_shear_by ?e_back_shear_by ?k_back_shear_by ?a_back_shear ?l_back_shear ?e_back_shear ?k_back_shear ?a_l_is_table_0704 ?l_l_is_table_0704 ?e_l_is_table_0704 ?k_l_is_table_0704 ?a_l_is_deed_table_6abb ?l_l_is_deed_table_6abb ?e_l_is_deed_table_6abb ?k_l_is_deed_table_6abb ?a_l_product_063e ?l_l_product_063e ?e_l_product_063e ?k_l_product_063e ?a_l_right_1f94 ?l_l_right_1f94 ?e_l_right_1f94 ?k_l_right_1f94 ?a_l_cell_cf3b ?l_l_cell_cf3b ?e_l_cell_cf3b ?k_l_cell_cf3b ?a_l_generator_b324 ?l_l_generator_b324 ?e_l_generator_b324 ?k_l_generator_b324 ?a_l_law_e1ea ?l_l_law_e1ea ?e_l_law_e1ea ?k_l_law_e1ea base Xb)
    (case c_SELF => k_is)
    (case cl_SELF => k_is)
    (case cl_SELF_3 => k_is)
    (case cl_SELF_2 => k_is)
    (case cl_SELF_1 => k_is)
    (case cl_SELF_0 => k_is)
    (case n_abs => k_is)
    (case n_bool => k_is)
    (case n_int => k_is)
    (case n_isinstance => k_is)
    (case n_len => k_is)
    (case n_list => k_is)
    (case n_max => k_is)
    (case n_range => k_is)
    (case n_repr => k_is)
    (case n_sum => k_is)
    (case n_tuple => k_is)
    (case n_zip => k_is)
    (case g_gcd => k_is)
    (case a_l_hash_d8d1 => k_is)
    (case l_l_hash_d8d1 => k_is)
    (case e_l_hash_d8d1 => k_is)
    (case k_l_hash_d8d1 => k_is)
    (case a_l_random_7821 => k_is)
    (case l_l_random_7821 => k_is)
    (case e_l_random_7821 => k_is)
    (case k_l_random_7821 => k_is)
    (case a_l_common_b8b4 => k_is)
    (case l_l_common_b8b4 => k_is)
    (case e_l_common_b8b4 => k_is)
    (case k_l_common_b8b4 => k_is)
    (case a_l_is_cutting_19aa => k_is)
    (case l_l_is_cutting_19aa => k_is)
    (case e_l_is_cutting_19aa => k_is)
    (case k_l_is_cutting_19aa => k_is)
    (case a_l_cutting_f2c0 => k_is)
    (case l_l_cutting_f2c0 => k_is)
    (case e_l_cutting_f2c0 => k_is)
    (case k_l_cutting_f2c0 => k_is)
    (case a_l_allows_0877 => k_is)
    (case l_l_allows_0877 => k_is)
    (case e_l_allows_0877 => k_is)
    (case k_l_allows_0877 => k_is)
    (case a_l_deed_593a => k_is)
    (case l_l_deed_593a => k_is)
    (case e_l_deed_593a => k_is)
    (case k_l_deed_593a => k_is)
    (case a_is_whole => k_is)
    (case l_is_whole => k_is)
    (case e_is_whole => k_is)
    (case k_is_whole => k_is)
    (case a_common_by => k_is)
    (case l_common_by => k_is)
    (case e_common_by => k_is)
    (case k_common_by => k_is)
    (case a_is_cutting_by => k_is)
    (case l_is_cutting_by => k_is)
    (case e_is_cutting_by => k_is)
    (case k_is_cutting_by => k_is)
    (case a_check_cutting => k_is)
    (case l_check_cutting => k_is)
    (case e_check_cutting => k_is)
    (case k_check_cutting => k_is)
    (case a_self_table_o => k_is)
    (case l_self_table_o => k_is)
    (case e_self_table_o => k_is)
    (case k_self_table_o => k_is)
    (case a_shear_by_o => k_is)
    (case l_shear_by_o => k_is)
    (case e_shear_by_o => k_is)
    (case k_shear_by_o => k_is)
    (case a_shear_table_o => k_is)
    (case l_shear_table_o => k_is)
    (case e_shear_table_o => k_is)
    (case k_shear_table_o => k_is)
    (case a_l_base_3ec4_o => k_is)
    (case l_l_base_3ec4_o => k_is)
    (case e_l_base_3ec4_o => k_is)
    (case k_l_base_3ec4_o => k_is)
    (case a_l_self_a3eb_o => k_is)
    (case l_l_self_a3eb_o => k_is)
    (case e_l_self_a3eb_o => k_is)
    (case k_l_self_a3eb_o => k_is)
    (case a_l_shear_1435 => k_is)
    (case l_l_shear_1435 => k_is)
    (case e_l_shear_1435 => k_is)
    (case k_l_shear_1435 => k_is)
    (case a_l_columns_d906 => k_is)
    (case l_l_columns_d906 => k_is)
    (case e_l_columns_d906 => k_is)
    (case k_l_columns_d906 => k_is)
    (case a_l_crossing_3f18 => k_is)
    (case l_l_crossing_3f18 => k_is)
    (case e_l_crossing_3f18 => k_is)
    (case k_l_crossing_3f18 => k_is)
    (case a_l_base_3ec4 => k_is)
    (case l_l_base_3ec4 => k_is)
    (case e_l_base_3ec4 => k_is)
    (case k_l_base_3ec4 => k_is)
    (case a_l_keeps_2d4c => k_is)
    (case l_l_keeps_2d4c => k_is)
    (case e_l_keeps_2d4c => k_is)
    (case k_l_keeps_2d4c => k_is)
    (case a_l_rooted_a87a => k_is)
    (case l_l_rooted_a87a => k_is)
    (case e_l_rooted_a87a => k_is)
    (case k_l_rooted_a87a => k_is)
    (case a_l_led_3b4c => k_is)
    (case l_l_led_3b4c => k_is)
    (case e_l_led_3b4c => k_is)
    (case k_l_led_3b4c => k_is)
    (case a_is_path_list => k_is)
    (case l_is_path_list => k_is)
    (case e_is_path_list => k_is)
    (case k_is_path_list => k_is)
    (case a_check_table => k_is)
    (case l_check_table => k_is)
    (case e_check_table => k_is)
    (case k_check_table => k_is)
    (case a_turned_about => k_is)
    (case l_turned_about => k_is)
    (case e_turned_about => k_is)
    (case k_turned_about => k_is)
    (case a_path_led => k_is)
    (case l_path_led => k_is)
    (case e_path_led => k_is)
    (case k_path_led => k_is)
    (case a_table_times => k_is)
    (case l_table_times => k_is)
    (case e_table_times => k_is)
    (case k_table_times => k_is)
    (case a_table_product => k_is)
    (case l_table_product => k_is)
    (case e_table_product => k_is)
    (case k_table_product => k_is)
    (case a_l_opposite_30e8 => k_is)
    (case l_l_opposite_30e8 => k_is)
    (case e_l_opposite_30e8 => k_is)
    (case k_l_opposite_30e8 => k_is)
    (case a_l_beside_26c0 => k_is)
    (case l_l_beside_26c0 => k_is)
    (case e_l_beside_26c0 => k_is)
    (case k_l_beside_26c0 => k_is)
    (case a_l_bezout_3658 => k_is)
    (case l_l_bezout_3658 => k_is)
    (case e_l_bezout_3658 => k_is)
    (case k_l_bezout_3658 => k_is)
    (case a_l_done_855c => k_is)
    (case l_l_done_855c => k_is)
    (case e_l_done_855c => k_is)
    (case k_l_done_855c => k_is)
    (case a_allowed_by => k_is)
    (case l_allowed_by => k_is)
    (case e_allowed_by => k_is)
    (case k_allowed_by => k_is)
    (case a_round_of => k_is)
    (case l_round_of => k_is)
    (case e_round_of => k_is)
    (case k_round_of => k_is)
    (case a_is_deed_by => k_is)
    (case l_is_deed_by => k_is)
    (case e_is_deed_by => k_is)
    (case k_is_deed_by => k_is)
    (case a_check_deed => k_is)
    (case l_check_deed => k_is)
    (case e_check_deed => k_is)
    (case k_check_deed => k_is)
    (case a_shared => k_is)
    (case l_shared => k_is)
    (case e_shared => k_is)
    (case k_shared => k_is)
    (case a_opposite_by => k_is)
    (case l_opposite_by => k_is)
    (case e_opposite_by => k_is)
    (case k_opposite_by => k_is)
    (case a_beside => k_is)
    (case l_beside => k_is)
    (case e_beside => k_is)
    (case k_beside => k_is)
    (case a_table_by => k_is)
    (case l_table_by => k_is)
    (case e_table_by => k_is)
    (case k_table_by => k_is)
    (case a_full_by => k_is)
    (case l_full_by => k_is)
    (case e_full_by => k_is)
    (case k_full_by => k_is)
    (case a_back_by => k_is)
    (case l_back_by => k_is)
    (case e_back_by => k_is)
    (case k_back_by => k_is)
    (case a_back => k_is)
    (case l_back => k_is)
    (case e_back => k_is)
    (case k_back => k_is)
    (case a_l_self_a3eb => k_is)
    (case l_l_self_a3eb => k_is)
    (case e_l_self_a3eb => k_is)
    (case k_l_self_a3eb => k_is)
    (case a_led_down => k_is)
    (case l_led_down => k_is)
    (case e_led_down => k_is)
    (case k_led_down => k_is)
    (case a_done_by => k_is)
    (case l_done_by => k_is)
    (case e_done_by => k_is)
    (case k_done_by => k_is)
    (case a_deed_table_by => k_is)
    (case l_deed_table_by => k_is)
    (case e_deed_table_by => k_is)
    (case k_deed_table_by => k_is)
    (case a_deed_table => k_is)
    (case l_deed_table => k_is)
    (case e_deed_table => k_is)
    (case k_deed_table => k_is)
    (case a_back_of_o => k_is)
    (case l_back_of_o => k_is)
    (case e_back_of_o => k_is)
    (case k_back_of_o => k_is)
    (case a_back_shear_by => k_is)
    (case l_back_shear_by => k_is)
    (case e_back_shear_by => k_is)
    (case k_back_shear_by => k_is)
    (case a_back_shear => k_is)
    (case l_back_shear => k_is)
    (case e_back_shear => k_is)
    (case k_back_shear => k_is)
    (case a_l_is_table_0704 => k_is)
    (case l_l_is_table_0704 => k_is)
    (case e_l_is_table_0704 => k_is)
    (case k_l_is_table_0704 => k_is)
    (case a_l_is_deed_table_6abb => k_is)
    (case l_l_is_deed_table_6abb => k_is)
    (case e_l_is_deed_table_6abb => k_is)
    (case k_l_is_deed_table_6abb => k_is)
    (case a_l_product_063e => k_is)
    (case l_l_product_063e => k_is)
    (case e_l_product_063e => k_is)
    (case k_l_product_063e => k_is)
    (case a_l_right_1f94 => k_is)
    (case l_l_right_1f94 => k_is)
    (case e_l_right_1f94 => k_is)
    (case k_l_right_1f94 => k_is)
    (case a_l_cell_cf3b => k_is)
    (case l_l_cell_cf3b => k_is)
    (case e_l_cell_cf3b => k_is)
    (case k_l_cell_cf3b => k_is)
    (case a_l_generator_b324 => k_is)
    (case l_l_generator_b324 => k_is)
    (case e_l_generator_b324 => k_is)
    (case k_l_generator_b324 => k_is)
    (case a_l_law_e1ea => k_is)
    (case l_l_law_e1ea => k_is)
    (case e_l_law_e1ea => k_is)
    (case k_l_law_e1ea => k_is)
