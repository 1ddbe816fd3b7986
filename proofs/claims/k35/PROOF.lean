import PyProof.Rows.All
import Wide.All
import OpenK.AllK
import Wide.FinOn
import HandS.ForMost
import HandS.Exc
import HandS.ExcInit
import HandS.ExcField
import HandS.ExcIs
import KE.KExcSuper
import KE.KSuper
import HandS.ExcValue
import HandS.Wide
import HandS.Flow
import HandS.Style
import HandS.Deep
import HandS.TupAny
import HandS.NoneIn
import HandS.IsInst
import HandS.WideBits
import HandS.Gcd
import HandS.Conv
import HandS.Zip
import HandS.SortRule
import HandS.SortInts
import KE.KSortTupAny
import HandS.TupSets
import KE.KSetDisp
import HandS.SetIn
import KE.KExcIs
import HandS.Iter
import KE.DataFind
import PyProof.ReprRoads
import PyProof.NeKinds
import PyProof.FactsAll.dict_2
import PyProof.FactsAll.subtypes_1
import HandS.Star
import KE.GoesEnumKw
import PyProof.TwoTypesSub
import PyProof.FactsAll.bool_3
import PyProof.FactsAll.int_5
import HandS.WordsDict
import HandS.TupLen
import HandS.More
import PyProof.StrOps2
import PySem.Challenge.RW_slitsheets_k35_whole_points
set_option Elab.async false
set_option linter.all false
set_option maxRecDepth 100000
set_option maxHeartbeats 4000000
/-! XA: the package's own errors: their classes, and how one is made -/
namespace XA
open PySem PySem.W PySem.Calls PyProof.Rows PySem.HandSPX
def sheetTail : List Value := [.type "ValueError", .type "Exception", .type "BaseException", .type "object"]
def errTail (S : Addr) : List Value := .ref S :: sheetTail
/-- the common class of the errors stands at S -/
structure ShC (K : Frag) (S : Addr) : Prop where
  ns : nsIn K mainGlobals "SheetError" = some (some (.ref S))
  cls : ∃ q N bs sn sub ab col dd k0 k1 k2 k3 k5, K.lookup S = some (excClassObj "SheetError" q S N bs sheetTail true sn sub ab col dd k0 k1 k2 k3 k5 "ValueError.__new__")
/-- the error class x stands at C -/
structure ErC (K : Frag) (x : Str) (C S : Addr) : Prop where
  ns : nsIn K mainGlobals x = some (some (.ref C))
  sh : ShC K S
  ne : x ≠ "SheetError"
  cls : ∃ q N bs sn sub ab col dd k0 k1 k2 k3 k5, K.lookup C = some (excClassObj x q C N bs (errTail S) true sn sub ab col dd k0 k1 k2 k3 k5 "ValueError.__new__")
  sa : findIn K (.ref C) "__setattr__" = some (some (.builtin "object.__setattr__"))
  ga : findIn K (.ref C) "__getattribute__" = some (some (.builtin "BaseException.__getattribute__"))
  gg : findIn K (.ref C) "__getattr__" = some none
  nv : findIn K (.ref C) "value" = some none
  kp : keepIn K (.ref C) = true
  hc : findIn K (.ref C) "__class__" = some (some (.builtin "object.__class__"))
  gs : specialIn K (.builtin "object.__class__") "__get__" = some (some (.builtin "getset_descriptor.__get__"))
  tk : takesIn K (.builtin "object.__class__") = some true
section
variable {K : Frag} {x y : Str} {C D S S' : Addr}
theorem ErC.clsIn (T : ErC K x C S) : ∃ cd, PySem.W.clsIn K C = some cd ∧ cd.mro = .ref C :: errTail S ∧ cd.hasDict = true ∧ cd.name = x := by
  obtain ⟨q, N, bs, sn, sub, ab, col, dd, k0, k1, k2, k3, k5, h⟩ := T.cls
  exact ⟨_, by unfold PySem.W.clsIn; rw [h], rfl, rfl, rfl⟩
theorem ShC.clsIn (T : ShC K S) : ∃ cd, PySem.W.clsIn K S = some cd ∧ cd.mro = .ref S :: sheetTail ∧ cd.name = "SheetError" := by
  obtain ⟨q, N, bs, sn, sub, ab, col, dd, k0, k1, k2, k3, k5, h⟩ := T.cls
  exact ⟨_, by unfold PySem.W.clsIn; rw [h], rfl, rfl⟩
theorem ErC.ty (T : ErC K x C S) : typeIn K (.ref C) = some (.type "type") := by
  obtain ⟨q, N, bs, sn, sub, ab, col, dd, k0, k1, k2, k3, k5, h⟩ := T.cls
  show (K.lookup C).map (·.cls) = _
  rw [h]; rfl
theorem ShC.ty (T : ShC K S) : typeIn K (.ref S) = some (.type "type") := by
  obtain ⟨q, N, bs, sn, sub, ab, col, dd, k0, k1, k2, k3, k5, h⟩ := T.cls
  show (K.lookup S).map (·.cls) = _
  rw [h]; rfl
theorem ErC.sub (T : ErC K x C S) (b : Value) : subIn K (.ref C) b = some ((Value.ref C :: errTail S).contains b) := by
  obtain ⟨cd, h, hm, _⟩ := T.clsIn
  show mroIn K C b = _
  unfold mroIn
  rw [h, Option.bind_some, hm]; rfl
theorem ShC.sub (T : ShC K S) (b : Value) : subIn K (.ref S) b = some ((Value.ref S :: sheetTail).contains b) := by
  obtain ⟨cd, h, hm, _⟩ := T.clsIn
  show mroIn K S b = _
  unfold mroIn
  rw [h, Option.bind_some, hm]; rfl
theorem ErC.subT (T : ErC K x C S) (n : String) (h : sheetTail.contains (.type n) = true) : subIn K (.ref C) (.type n) = some true := by
  rw [T.sub]; show some (Value.type n == Value.ref C || (Value.type n == Value.ref S || sheetTail.contains (.type n))) = _
  rw [h, Bool.or_true, Bool.or_true]
/-- is an error of the class x one of the class y -/
def under (x y : Str) : Bool := x == y || y == "SheetError"
/-- a class of errors, with its name: one of them, or their common one -/
def AnyC (K : Frag) (y : Str) (D : Addr) : Prop := (∃ S, ErC K y D S) ∨ (y = "SheetError" ∧ ShC K D)
theorem AnyC.ty (A : AnyC K y D) : typeIn K (.ref D) = some (.type "type") := by
  rcases A with ⟨S', T'⟩ | ⟨rfl, T'⟩
  · exact T'.ty
  · exact T'.ty
theorem AnyC.base (A : AnyC K y D) : subIn K (.ref D) (.type "BaseException") = some true := by
  rcases A with ⟨S', T'⟩ | ⟨rfl, T'⟩
  · exact T'.subT "BaseException" (by decide)
  · rw [T'.sub]; show some (Value.type "BaseException" == Value.ref D || sheetTail.contains (.type "BaseException")) = _
    rw [show sheetTail.contains (.type "BaseException") = true by decide, Bool.or_true]
end
/-! ### an error is made -/
end XA
/-! XB: errors over the hand layer: one is made and raised; a try whose error stays known behind it -/
namespace XA
open PySem PySem.W PySem.Calls PyProof.Rows PySem.HandSPX
end XA
namespace L2
open PySem PySem.Spec PyProof.Rows XA
/-! ### try: the error is tracked from the suite on -/
/-- at a: an error of the class at C with its own dict at dd -/
def ErAt (a C dd : Addr) (h : Heap) : Prop := ∃ vs sl, h.get? a = some { cls := .ref C, dict := some dd, data := .fields vs, slots := sl }
def erO (a C dd : Addr) : HO := .ext (ErAt a C dd)
end L2
namespace XA
open PySem PySem.W PySem.Calls PyProof.Rows PySem.HandSPX
end XA
/-! XG: errors as values: made with one value, none, a named one; the common class's own -/
namespace XA
open PySem PySem.W PySem.Calls PyProof.Rows PySem.HandSPX
/-! ### type.__call__ with a named value -/
end XA
namespace L2
open PySem PySem.Spec PyProof.Rows XA
end L2
namespace XA
open PySem PySem.W PySem.Calls PyProof.Rows PySem.HandSPX
/-- the common class, of which an error may be made, too -/
structure ShX (K : Frag) (S : Addr) : Prop where
  sh : ShC K S
  kp : keepIn K (.ref S) = true
  ex : excIn K S sheetTail "ValueError.__new__" = true
  ga : findIn K (.ref S) "__getattribute__" = some (some (.builtin "BaseException.__getattribute__"))
  gg : findIn K (.ref S) "__getattr__" = some none
  hc : findIn K (.ref S) "__class__" = some (some (.builtin "object.__class__"))
  gs : specialIn K (.builtin "object.__class__") "__get__" = some (some (.builtin "getset_descriptor.__get__"))
  tk : takesIn K (.builtin "object.__class__") = some true
end XA
namespace L2
open PySem PySem.Spec PyProof.Rows XA
end L2
/-! DL1: data D, what represents it, the state of a def as plain data, the judgements -/
namespace DL
open PySem PySem.Spec PyProof.Rows L2
inductive D where
  | non
  | bl (b : Bool)
  | int (i : Int)
  | str (x : Str)
  | tup (l : List D)
  | lst (l : List D)
  | dct0
  | scr (ns : List Int)
  | own (k : Nat)
  | exc (x : Str) (d : D)
  | errS
  | glb (x : Str)
  | val (v : V)
abbrev St := L2.St
abbrev Env := List (Option D)
/-- a cell that is owned no more; a dict whose keys are tuples; one whose keys are ints and texts -/
inductive Oth where
  | dead
  | dT (kvs : List (List Key × D))
  | dK (kvs : List (Key × D))
inductive Own where
  | lst (ds : List D)
  | oth (o : Oth)
abbrev Own.dead : Own := .oth .dead
abbrev Own.dT (kvs : List (List Key × D)) : Own := .oth (.dT kvs)
abbrev Own.dK (kvs : List (Key × D)) : Own := .oth (.dK kvs)
def Own.live : Own → Bool
  | .lst _ => true
  | .oth .dead => false
  | .oth (.dT _) => true
  | .oth (.dK _) => true
abbrev Mem := List Own
/-- where the owned cells stand; the lists that are being made out of sight -/
structure Ph where
  cells : List Addr
  hid : List (Addr × HO)
abbrev Ph.add (ph : Ph) (p : Addr) : Ph := { ph with cells := ph.cells ++ [p] }
abbrev Ph.cut (ph : Ph) (n : Nat) : Ph := { ph with cells := ph.cells.take n }
abbrev fVal : Str := "value"
/-- items that a tuple of the module may have (no key of a dict of ours is like that) -/
def vZ : V → Bool
  | .int i => i == 0
  | _ => false
def vRf : V → Bool
  | .ref _ => true
  | _ => false
def kconst (xs : List V) : Bool := xs.length == 3 || decide (3 ≤ (xs.filter vZ).length) || xs.any vRf
/-- a tuple that stands still: one that was made, or one of the module's -/
def TupK (K : PySem.W.Frag) (S : Hp) (a : Addr) (xs : List V) : Prop := S a = some (.tup xs) ∨
  ∃ (o : Obj) (its : Array Value) (n : Nat), K.lookup a = some o ∧ o.cls = .type "tuple" ∧ o.data = .seq its n ∧ its.size ≤ sizeLine ∧ Vals xs its.toList ∧ kconst xs = true
theorem TupK.ext {K : PySem.W.Frag} {S S' : Hp} {a : Addr} {xs : List V} (h : TupK K S a xs) (s : Same S S') : TupK K S' a xs := h.imp (fun z => s _ _ z) fun z => z
theorem TupK.sq {K : PySem.W.Frag} {S H : Hp} {a : Addr} {xs : List V} (h : TupK K S a xs) (s : Same S H) : SqT K H a xs := h.elim (fun z => SqT.of (s _ _ z)) fun ⟨o, its, n, e1, e2, e3, e4, e5, _⟩ => .inr ⟨o, its, n, e1, e2, e3, e4, e5⟩
mutual
inductive Rep (K : PySem.W.Frag) (ph : Ph) (S : Hp) : V → D → Prop
  | non : Rep K ph S .non .non
  | bl (b : Bool) : Rep K ph S (.bl b) (.bl b)
  | int (i : Int) : Rep K ph S (.int i) (.int i)
  | str (x : Str) : Rep K ph S (.str x) (.str x)
  | tup {a : Addr} {xs : List V} {ds : List D} : TupK K S a xs → RepAll K ph S xs ds → Rep K ph S (.ref a) (.tup ds)
  | lst {a : Addr} {xs : List V} {ds : List D} : S a = some (.lst xs) → RepAll K ph S xs ds → Rep K ph S (.ref a) (.lst ds)
  | scr {a : Addr} {ns : List Int} : SqL K S a (ns.map V.int) → Rep K ph S (.ref a) (.scr ns)
  | dct0 {a : Addr} : S a = some (.dK []) → Rep K ph S (.ref a) .dct0
  | own {a : Addr} {k : Nat} : ph.cells[k]? = some a → Rep K ph S (.ref a) (.own k)
  | exc {a C T dd : Addr} {x : Str} {v : V} {d : D} : XA.ErC K x C T → S a = some (erO a C dd) → S dd = some (.xd [(fVal, v)]) → Rep K ph S v d → Rep K ph S (.ref a) (.exc x d)
  | errS {a C : Addr} : XA.ShX K C → S a = some (ExO (.ref C) a) → Rep K ph S (.ref a) .errS
  | glb {a : Addr} {x : Str} : PySem.W.nsIn K mainGlobals x = some (some (.ref a)) → Rep K ph S (.ref a) (.glb x)
  | val (v : V) : Rep K ph S v (.val v)
inductive RepAll (K : PySem.W.Frag) (ph : Ph) (S : Hp) : List V → List D → Prop
  | nil : RepAll K ph S [] []
  | cons {v : V} {vs : List V} {d : D} {ds : List D} : Rep K ph S v d → RepAll K ph S vs ds → RepAll K ph S (v :: vs) (d :: ds)
end
structure Ext (ph : Ph) (S : Hp) (ph' : Ph) (S' : Hp) : Prop where
  pre : ∀ (k : Nat) (a : Addr), ph.cells[k]? = some a → ph'.cells[k]? = some a
  same : Same S S'
  hid : ph'.hid = ph.hid
theorem Ext.refl {ph : Ph} {S : Hp} : Ext ph S ph S := ⟨fun _ _ h => h, fun _ _ h => h, rfl⟩
theorem Ext.trans {ph ph1 ph2 : Ph} {S S1 S2 : Hp} (a : Ext ph S ph1 S1) (b : Ext ph1 S1 ph2 S2) : Ext ph S ph2 S2 :=
  ⟨fun k x h => b.pre k x (a.pre k x h), a.same.trans b.same, b.hid.trans a.hid⟩
section
variable {K : PySem.W.Frag} {ph ph' : Ph} {S S' : Hp}
mutual
theorem Rep.ext (x : Ext ph S ph' S') : ∀ (d : D) (v : V), Rep K ph S v d → Rep K ph' S' v d
  | .non, _, h => by cases h; exact .non
  | .bl _, _, h => by cases h; exact .bl _
  | .int _, _, h => by cases h; exact .int _
  | .str _, _, h => by cases h; exact .str _
  | .tup ds, _, h => by
    cases h with
    | tup h1 h2 => exact .tup (h1.ext x.same) (RepAll.ext x ds _ h2)
  | .lst ds, _, h => by
    cases h with
    | lst h1 h2 => exact .lst (x.same _ _ h1) (RepAll.ext x ds _ h2)
  | .dct0, _, h => by
    cases h with
    | dct0 h1 => exact .dct0 (x.same _ _ h1)
  | .scr ns, _, h => by
    cases h with
    | scr h1 => exact .scr (x.same.seq h1)
  | .own k, _, h => by
    cases h with
    | own h1 => exact .own (x.pre _ _ h1)
  | .errS, _, h => by
    cases h with
    | errS h0 h1 => exact .errS h0 (x.same _ _ h1)
  | .glb _, _, h => by
    cases h with
    | glb h1 => exact .glb h1
  | .exc C d, _, h => by
    cases h with
    | exc h0 h1 h2 h3 => exact .exc h0 (x.same _ _ h1) (x.same _ _ h2) (Rep.ext x d _ h3)
  | .val v, _, h => by cases h; exact .val _
theorem RepAll.ext (x : Ext ph S ph' S') : ∀ (ds : List D) (vs : List V), RepAll K ph S vs ds → RepAll K ph' S' vs ds
  | [], _, h => by cases h; exact .nil
  | d :: ds, _, h => by
    cases h with
    | cons h1 h2 => exact .cons (Rep.ext x d _ h1) (RepAll.ext x ds _ h2)
end
theorem Rep.up {d : D} {v : V} (h : Rep K ph S v d) (x : Ext ph S ph' S') : Rep K ph' S' v d := Rep.ext x d v h
theorem RepAll.up {ds : List D} {vs : List V} (h : RepAll K ph S vs ds) (x : Ext ph S ph' S') : RepAll K ph' S' vs ds := RepAll.ext x ds vs h
theorem RepAll.len : ∀ {vs : List V} {ds : List D}, RepAll K ph S vs ds → vs.length = ds.length
  | _, _, .nil => rfl
  | _, _, .cons _ t => by rw [List.length_cons, List.length_cons, RepAll.len t]
theorem RepAll.get : ∀ {vs : List V} {ds : List D} {i : Nat} {d : D}, RepAll K ph S vs ds → ds[i]? = some d → ∃ v, vs[i]? = some v ∧ Rep K ph S v d
  | _, _, _, _, .nil, e => by simp at e
  | _, _, 0, _, .cons r _, e => by simp at e; subst e; exact ⟨_, rfl, r⟩
  | _, _, i + 1, _, .cons _ t, e => by
    obtain ⟨v, e1, r⟩ := RepAll.get (i := i) t (by simpa using e)
    exact ⟨v, by simpa using e1, r⟩
theorem RepAll.app : ∀ {vs ws : List V} {ds es : List D}, RepAll K ph S vs ds → RepAll K ph S ws es → RepAll K ph S (vs ++ ws) (ds ++ es)
  | _, _, _, _, .nil, q => q
  | _, _, _, _, .cons r t, q => .cons r (RepAll.app t q)
theorem RepAll.take : ∀ {vs : List V} {ds : List D} (n : Nat), RepAll K ph S vs ds → RepAll K ph S (vs.take n) (ds.take n)
  | _, _, 0, _ => .nil
  | _, _, _ + 1, .nil => .nil
  | _, _, n + 1, .cons r t => .cons r (RepAll.take n t)
theorem RepAll.drop : ∀ {vs : List V} {ds : List D} (n : Nat), RepAll K ph S vs ds → RepAll K ph S (vs.drop n) (ds.drop n)
  | _, _, 0, r => r
  | _, _, _ + 1, .nil => .nil
  | _, _, n + 1, .cons r t => RepAll.drop n t
theorem RepAll.set {v : V} {d : D} (r : Rep K ph S v d) : ∀ {vs : List V} {ds : List D} (i : Nat), RepAll K ph S vs ds → RepAll K ph S (vs.set i v) (ds.set i d)
  | _, _, _, .nil => .nil
  | _, _, 0, .cons _ t => .cons r t
  | _, _, i + 1, .cons q t => .cons q (RepAll.set r i t)
theorem RepAll.rep {v : V} {d : D} (r : Rep K ph S v d) : ∀ n : Nat, RepAll K ph S (List.replicate n v) (List.replicate n d)
  | 0 => .nil
  | n + 1 => .cons r (RepAll.rep r n)
theorem RepAll.ints : ∀ ns : List Int, RepAll K ph S (ns.map V.int) (ns.map D.int)
  | [] => .nil
  | n :: ns => .cons (.int n) (RepAll.ints ns)
end
/-- what an owned cell holds -/
def OwnR (K : PySem.W.Frag) (ph : Ph) (S : Hp) : Own → HO → Prop
  | .lst ds, o => ∃ xs, o = .lst xs ∧ RepAll K ph S xs ds
  | .oth (.dT kvs), o => ∃ ys : List (List Key × V), o = .dT ys ∧ ys.map (·.1) = kvs.map (·.1) ∧ RepAll K ph S (ys.map (·.2)) (kvs.map (·.2))
  | .oth (.dK kvs), o => ∃ ys : List (Key × V), o = .dK ys ∧ ys.map (·.1) = kvs.map (·.1) ∧ RepAll K ph S (ys.map (·.2)) (kvs.map (·.2))
  | .oth .dead, _ => True
theorem OwnR.up {K : PySem.W.Frag} {ph ph' : Ph} {S S' : Hp} {w : Own} {o : HO} (h : OwnR K ph S w o) (x : Ext ph S ph' S') : OwnR K ph' S' w o := by
  rcases w with ds | _ | kvs | kvs
  · obtain ⟨xs, e, r⟩ := h; exact ⟨xs, e, r.up x⟩
  · trivial
  · obtain ⟨ys, e, r1, r2⟩ := h; exact ⟨ys, e, r1, r2.up x⟩
  · obtain ⟨ys, e, r1, r2⟩ := h; exact ⟨ys, e, r1, r2.up x⟩
/-- the state (σ, H) is told by the names' data ρ and the owned cells M -/
structure Sat (K : PySem.W.Frag) (ph : Ph) (S : Hp) (r : Env) (M : Mem) (σ : St) (H : Hp) : Prop where
  sub : Same S H
  len : ph.cells.length = M.length
  nd : ph.cells.Nodup
  trk : ∀ (k : Nat) (a : Addr), ph.cells[k]? = some a → ∃ o, H a = some o
  own : ∀ (k : Nat) (w : Own), M[k]? = some w → w.live = true → ∃ a o, ph.cells[k]? = some a ∧ S a = none ∧ H a = some o ∧ OwnR K ph S w o
  hid : ∀ p ∈ ph.hid, H p.1 = some p.2 ∧ S p.1 = none ∧ p.1 ∉ ph.cells
  hnd : (ph.hid.map (·.1)).Nodup
  el : r.length = σ.length
  env : ∀ (i : Nat) (d : D), r[i]? = some (some d) → ∃ v, σ[i]? = some (some v) ∧ Rep K ph S v d
theorem Sat.cell {K : PySem.W.Frag} {ph : Ph} {S : Hp} {r : Env} {M : Mem} {σ : St} {H : Hp} (h : Sat K ph S r M σ H) (k : Nat) (ds : List D) (e : M[k]? = some (.lst ds)) :
    ∃ a xs, ph.cells[k]? = some a ∧ S a = none ∧ H a = some (.lst xs) ∧ RepAll K ph S xs ds := by
  obtain ⟨a, o, h1, h2, h3, xs, rfl, h4⟩ := h.own k _ e rfl
  exact ⟨a, xs, h1, h2, h3, h4⟩
abbrev DQ := D → Mem → Prop
abbrev DTE := Env → Mem → DQ → Prop
abbrev DTT := Env → Mem → (Bool → Mem → Prop) → Prop
abbrev DTA := Env → Mem → (List D → Mem → Prop) → Prop
structure DEnds where
  nx : Env → Mem → Prop
  rt : DQ
  bk : Env → Mem → Prop := fun _ _ => False
  ct : Env → Mem → Prop := fun _ _ => False
abbrev DTS := DEnds → Env → Mem → Prop
/-- behind a piece, from (ph, S): the state as it is then, and what is wanted of it -/
def Aft (K : PySem.W.Frag) (ph : Ph) (S : Hp) (r : Env) (σ : St) (H : Hp) (Q : Ph → Hp → Mem → Prop) : Prop :=
  ∃ ph' S' M, Ext ph S ph' S' ∧ Sat K ph' S' r M σ H ∧ Q ph' S' M
def post (K : PySem.W.Frag) (ph : Ph) (S : Hp) (r : Env) (σ : St) (Q : DQ) : VK := fun v H => Aft K ph S r σ H fun ph' S' M => ∃ d, Rep K ph' S' v d ∧ Q d M
def postT (K : PySem.W.Frag) (ph : Ph) (S : Hp) (r : Env) (σ : St) (Q : Bool → Mem → Prop) : Bool → Hp → Prop := fun b H => Aft K ph S r σ H fun _ _ M => Q b M
def postA (K : PySem.W.Frag) (ph : Ph) (S : Hp) (r : Env) (σ : St) (Q : List D → Mem → Prop) : List V → Hp → Prop := fun vs H => Aft K ph S r σ H fun ph' S' M => ∃ ds, RepAll K ph' S' vs ds ∧ Q ds M
def postN (K : PySem.W.Frag) (ph : Ph) (S : Hp) (Q : Env → Mem → Prop) : St → Hp → Prop := fun σ H => ∃ r, Aft K ph S r σ H fun _ _ M => Q r M
/-- behind a return the names are gone -/
def postR (K : PySem.W.Frag) (ph : Ph) (S : Hp) (Q : DQ) : VK := fun v H => ∃ r σ, post K ph S r σ Q v H
structure DE (X : Cx) (e : Expr) (t : DTE) : Prop where
  pe : PE X e (fun σ H Q => ∃ ph S r M Q0, Sat X.K ph S r M σ H ∧ t r M Q0 ∧ ∀ v H', post X.K ph S r σ Q0 v H' → Q v H')
structure DT (X : Cx) (e : Expr) (t : DTT) : Prop where
  pt : PT X e (fun σ H Q => ∃ ph S r M Q0, Sat X.K ph S r M σ H ∧ t r M Q0 ∧ ∀ b H', postT X.K ph S r σ Q0 b H' → Q b H')
structure DW (X : Cx) (e : Expr) (t : DTT) : Prop where
  pw : PW X e (fun σ H Q => ∃ ph S r M Q0, Sat X.K ph S r M σ H ∧ t r M Q0 ∧ ∀ b H', postT X.K ph S r σ Q0 b H' → Q b H')
structure DA (X : Cx) (es : List Expr) (t : DTA) : Prop where
  pa : PA X es (fun σ H Q => ∃ ph S r M Q0, Sat X.K ph S r M σ H ∧ t r M Q0 ∧ ∀ vs H', postA X.K ph S r σ Q0 vs H' → Q vs H')
def lfS (K : PySem.W.Frag) (t : DTS) : TS := fun E σ H => ∃ ph S r M E0, Sat K ph S r M σ H ∧ t E0 r M ∧ (∀ σ' H', postN K ph S E0.nx σ' H' → E.nx σ' H') ∧ (∀ v H', postR K ph S E0.rt v H' → E.rt v H') ∧ (∀ σ' H', postN K ph S E0.bk σ' H' → E.bk σ' H') ∧ (∀ σ' H', postN K ph S E0.ct σ' H' → E.ct σ' H')
structure DS (X : Cx) (st : Stmt) (t : DTS) : Prop where
  ps : PS X st (lfS X.K t)
structure DSs (X : Cx) (sts : List Stmt) (t : DTS) : Prop where
  pss : PSs X sts (lfS X.K t)
/-! ### weakening the hand layer's judgements -/
section
variable {X : Cx}
theorem PE.weak {e : Expr} {t t' : TE} (h : PE X e t) (w : ∀ σ H Q, t' σ H Q → t σ H Q) : PE X e t' := ⟨fun pins s σ H Q I q => h.run pins s σ H Q I (w _ _ _ q)⟩
theorem PT.weak {e : Expr} {t t' : TT} (h : PT X e t) (w : ∀ σ H Q, t' σ H Q → t σ H Q) : PT X e t' := ⟨fun pins s σ H Q I q => h.run pins s σ H Q I (w _ _ _ q)⟩
theorem PW.weak {e : Expr} {t t' : TT} (h : PW X e t) (w : ∀ σ H Q, t' σ H Q → t σ H Q) : PW X e t' := ⟨fun wh pins s σ H Q I q => h.run wh pins s σ H Q I (w _ _ _ q)⟩
theorem PA.weak {e : List Expr} {t t' : TA} (h : PA X e t) (w : ∀ σ H Q, t' σ H Q → t σ H Q) : PA X e t' := ⟨fun pos pins s σ H Q I q => h.run pos pins s σ H Q I (w _ _ _ q)⟩
theorem PS.weak {e : Stmt} {t t' : TS} (h : PS X e t) (w : ∀ E σ H, t' E σ H → t E σ H) : PS X e t' := ⟨fun pins s σ H Q I q => h.run pins s σ H Q I (w _ _ _ q)⟩
theorem PSs.weak {e : List Stmt} {t t' : TS} (h : PSs X e t) (w : ∀ E σ H, t' E σ H → t E σ H) : PSs X e t' := ⟨fun pins s σ H Q I q => h.run pins s σ H Q I (w _ _ _ q)⟩
/-- from a rule of the hand layer -/
theorem DE.of {e : Expr} {t' : TE} {t : DTE} (h : PE X e t') (w : ∀ ph S r M σ H Q, Sat X.K ph S r M σ H → t r M Q → ∀ Q', (∀ v H', post X.K ph S r σ Q v H' → Q' v H') → t' σ H Q') : DE X e t :=
  ⟨PE.weak h fun σ H Q ⟨ph, S, r, M, Q0, hs, ht, hq⟩ => w ph S r M σ H Q0 hs ht Q hq⟩
theorem DT.of {e : Expr} {t' : TT} {t : DTT} (h : PT X e t') (w : ∀ ph S r M σ H Q, Sat X.K ph S r M σ H → t r M Q → ∀ Q', (∀ v H', postT X.K ph S r σ Q v H' → Q' v H') → t' σ H Q') : DT X e t :=
  ⟨PT.weak h fun σ H Q ⟨ph, S, r, M, Q0, hs, ht, hq⟩ => w ph S r M σ H Q0 hs ht Q hq⟩
theorem DW.of {e : Expr} {t' : TT} {t : DTT} (h : PW X e t') (w : ∀ ph S r M σ H Q, Sat X.K ph S r M σ H → t r M Q → ∀ Q', (∀ v H', postT X.K ph S r σ Q v H' → Q' v H') → t' σ H Q') : DW X e t :=
  ⟨PW.weak h fun σ H Q ⟨ph, S, r, M, Q0, hs, ht, hq⟩ => w ph S r M σ H Q0 hs ht Q hq⟩
theorem DA.of {e : List Expr} {t' : TA} {t : DTA} (h : PA X e t') (w : ∀ ph S r M σ H Q, Sat X.K ph S r M σ H → t r M Q → ∀ Q', (∀ v H', postA X.K ph S r σ Q v H' → Q' v H') → t' σ H Q') : DA X e t :=
  ⟨PA.weak h fun σ H Q ⟨ph, S, r, M, Q0, hs, ht, hq⟩ => w ph S r M σ H Q0 hs ht Q hq⟩
/-- the end of a reading: this value, this state -/
theorem Aft.here {K : PySem.W.Frag} {ph : Ph} {S : Hp} {r : Env} {σ : St} {H : Hp} {M : Mem} {Q : Ph → Hp → Mem → Prop} (h : Sat K ph S r M σ H) (q : Q ph S M) : Aft K ph S r σ H Q := ⟨ph, S, M, .refl, h, q⟩
theorem Aft.up {K : PySem.W.Frag} {ph ph1 : Ph} {S S1 : Hp} {r : Env} {σ : St} {H : Hp} {Q : Ph → Hp → Mem → Prop} (x : Ext ph S ph1 S1) (h : Aft K ph1 S1 r σ H Q) : Aft K ph S r σ H Q :=
  let ⟨ph', S', M, x', hs, q⟩ := h
  ⟨ph', S', M, x.trans x', hs, q⟩
/-! ### the simplest expressions -/
def dC (d : D) : DTE := fun _ M Q => Q d M
theorem de_c {e : Expr} {v : V} {d : D} (h : PE X e (tC v)) (hr : ∀ ph S, Rep X.K ph S v d) : DE X e (dC d) :=
  DE.of h fun ph S r M σ H Q hs ht Q' hq => hq _ _ (Aft.here hs ⟨d, hr _ _, ht⟩)
theorem de_int {i j pos} : DE X (.Constant (.int i) j pos) (dC (.int i)) := de_c pe_int fun _ _ => .int _
theorem de_bl {b j pos} : DE X (.Constant (.bool b) j pos) (dC (.bl b)) := de_c pe_bl fun _ _ => .bl _
theorem de_non {j pos} : DE X (.Constant .none j pos) (dC .non) := de_c pe_non fun _ _ => .non
theorem de_str {x j pos} : DE X (.Constant (.str x) j pos) (dC (.str x)) := de_c pe_str fun _ _ => .str _
def dVar (i : Nat) : DTE := fun r M Q => match r[i]? with
  | some (some d) => Q d M
  | _ => False
theorem de_var {e : Expr} (i : Nat) (h : PE X e (tVar i)) : DE X e (dVar i) :=
  DE.of h fun ph S r M σ H Q hs ht Q' hq => by
    unfold dVar at ht
    split at ht
    · rename_i d e
      obtain ⟨v, e1, rv⟩ := hs.env i d e
      exact ⟨v, e1, hq _ _ (Aft.here hs ⟨d, rv, ht⟩)⟩
    · exact ht.elim
/-- the name in slot i -/
theorem dv (i : Nat) {x : Str} {pos : Pos} (hN : X.N[i]? = some x := by rfl) (hv : Vis X.env.scope x := by first | exact Or.inl rfl | exact Or.inr (Or.inl rfl) | exact Or.inr (Or.inr rfl)) (hd : (x == ("__debug__" : Str)) = false := by decide)
    (hcd : (x == ("__classdict__" : Str)) = false := by decide) : DE X (.Name x pos) (dVar i) := de_var i (pe_var hN hv hd hcd)
end
end DL
/-! DL2: heaps that change; data as PyData; operators -/
namespace DL
open PySem PySem.Spec PyProof.Rows L2
mutual
def toPy : D → Option PyData
  | .non => some .none
  | .bl b => some (.bool b)
  | .int i => some (.int i)
  | .str x => some (.str x)
  | .tup l => match toPyAll l with
    | some ps => some (.tuple ps)
    | none => none
  | .lst l => match toPyAll l with
    | some ps => some (.list ps)
    | none => none
  | .dct0 => some (.dict [])
  | .scr _ => none
  | .own _ => none
  | .exc _ _ => none
  | .errS => none
  | .glb _ => none
  | .val _ => none
def toPyAll : List D → Option (List PyData)
  | [] => some []
  | d :: ds => match toPy d, toPyAll ds with
    | some p, some ps => some (p :: ps)
    | _, _ => none
end
section
variable {K : PySem.W.Frag} {ph ph' : Ph} {S S' : Hp} {r : Env} {M : Mem} {σ : St} {H : Hp} {p : Addr}
mutual
theorem Rep.hidP {c : List Addr} {l l' : List (Addr × HO)} : ∀ (d : D) (v : V), Rep K ⟨c, l⟩ S v d → Rep K ⟨c, l'⟩ S v d
  | .non, _, h => by cases h; exact .non
  | .bl _, _, h => by cases h; exact .bl _
  | .int _, _, h => by cases h; exact .int _
  | .str _, _, h => by cases h; exact .str _
  | .tup ds, _, h => by
    cases h with
    | tup h1 h2 => exact .tup h1 (RepAll.hidP ds _ h2)
  | .lst ds, _, h => by
    cases h with
    | lst h1 h2 => exact .lst h1 (RepAll.hidP ds _ h2)
  | .dct0, _, h => by
    cases h with
    | dct0 h1 => exact .dct0 h1
  | .scr ns, _, h => by
    cases h with
    | scr h1 => exact .scr h1
  | .own k, _, h => by
    cases h with
    | own h1 => exact .own h1
  | .errS, _, h => by
    cases h with
    | errS h0 h1 => exact .errS h0 h1
  | .glb _, _, h => by
    cases h with
    | glb h1 => exact .glb h1
  | .exc C d, _, h => by
    cases h with
    | exc h0 h1 h2 h3 => exact .exc h0 h1 h2 (Rep.hidP d _ h3)
  | .val v, _, h => by cases h; exact .val _
theorem RepAll.hidP {c : List Addr} {l l' : List (Addr × HO)} : ∀ (ds : List D) (vs : List V), RepAll K ⟨c, l⟩ S vs ds → RepAll K ⟨c, l'⟩ S vs ds
  | [], _, h => by cases h; exact .nil
  | d :: ds, _, h => by
    cases h with
    | cons h1 h2 => exact .cons (Rep.hidP d _ h1) (RepAll.hidP ds _ h2)
end
theorem Rep.hid {c : List Addr} {l l' : List (Addr × HO)} {d : D} {v : V} (h : Rep K ⟨c, l⟩ S v d) : Rep K ⟨c, l'⟩ S v d := Rep.hidP d v h
theorem RepAll.hid {c : List Addr} {l l' : List (Addr × HO)} {d : List D} {v : List V} (h : RepAll K ⟨c, l⟩ S v d) : RepAll K ⟨c, l'⟩ S v d := RepAll.hidP d v h
theorem OwnR.hid {c : List Addr} {l l' : List (Addr × HO)} {w : Own} {o : HO} (h : OwnR K ⟨c, l⟩ S w o) : OwnR K ⟨c, l'⟩ S w o := by
  rcases w with ds | _ | kvs | kvs
  · obtain ⟨xs, e, r⟩ := h; exact ⟨xs, e, RepAll.hid r⟩
  · trivial
  · obtain ⟨ys, e, r1, r2⟩ := h; exact ⟨ys, e, r1, RepAll.hid r2⟩
  · obtain ⟨ys, e, r1, r2⟩ := h; exact ⟨ys, e, r1, RepAll.hid r2⟩
theorem Sat.read {d : D} {v : V} (h : Sat K ph S r M σ H) (q : Rep K ph S v d) : Rep K ph H v d := q.up ⟨fun _ _ e => e, h.sub, rfl⟩
theorem Sat.readAll {d : List D} {v : List V} (h : Sat K ph S r M σ H) (q : RepAll K ph S v d) : RepAll K ph H v d := q.up ⟨fun _ _ e => e, h.sub, rfl⟩
theorem Sat.noS (h : Sat K ph S r M σ H) (hp : H p = none) : S p = none := h.sub.free hp
theorem Sat.notin (h : Sat K ph S r M σ H) (hp : H p = none) : ∀ (k : Nat), ph.cells[k]? ≠ some p := fun k e => by
  obtain ⟨o, ho⟩ := h.trk k p e
  rw [hp] at ho; cases ho
theorem sameUpd {p : Addr} {o : HO} (h : H p = none) : Same H (upd H p o) := fun b x e => by
  rw [upd_ne (ne_of_none e h)]
  exact e
/-- a new object that is only read -/
theorem Sat.frz (h : Sat K ph S r M σ H) (hp : H p = none) (o : HO) : Ext ph S ph (upd S p o) ∧ Sat K ph (upd S p o) r M σ (upd H p o) := by
  have x : Ext ph S ph (upd S p o) := ⟨fun _ _ e => e, sameUpd (h.noS hp), rfl⟩
  refine ⟨x, fun b y e => ?_, h.len, h.nd, fun k a e => ?_, fun k ds e hl => ?_, fun q hq => ?_, h.hnd, h.el, fun i d e => ?_⟩
  · by_cases hb : b = p
    · rw [hb, upd_same] at e ⊢
      exact e
    · rw [upd_ne hb] at e ⊢
      exact h.sub b y e
  · obtain ⟨u, hu⟩ := h.trk k a e
    exact ⟨u, sameUpd hp _ _ hu⟩
  · obtain ⟨a, xs, h1, h2, h3, h4⟩ := h.own k ds e hl
    have ne : a ≠ p := fun z => by rw [z, hp] at h3; cases h3
    refine ⟨a, xs, h1, ?_, ?_, h4.up x⟩
    · rw [upd_ne ne]; exact h2
    · rw [upd_ne ne]; exact h3
  · obtain ⟨h1, h2, h3⟩ := h.hid q hq
    have ne : q.1 ≠ p := fun z => by rw [z, hp] at h1; cases h1
    exact ⟨by rw [upd_ne ne]; exact h1, by rw [upd_ne ne]; exact h2, h3⟩
  · obtain ⟨v, e1, q⟩ := h.env i d e
    exact ⟨v, e1, q.up x⟩
/-- a new list that may be changed -/
theorem Sat.newO (h : Sat K ph S r M σ H) (hp : H p = none) {o : HO} {w : Own} (hr : OwnR K ph S w o) :
    Ext ph S (ph.add p) S ∧ Sat K (ph.add p) S r (M ++ [w]) σ (upd H p o) ∧ (ph.add p).cells[M.length]? = some p := by
  have x : Ext ph S (ph.add p) S := ⟨fun k a e => by
    rw [List.getElem?_append_left (List.getElem?_eq_some_iff.mp e).1]; exact e, fun _ _ e => e, rfl⟩
  have here : (ph.add p).cells[M.length]? = some p := by
    rw [← h.len, List.getElem?_append_right (Nat.le_refl _), Nat.sub_self]; rfl
  have old : ∀ (k : Nat) (a : Addr), (ph.add p).cells[k]? = some a → ph.cells[k]? = some a ∨ (k = ph.cells.length ∧ a = p) := fun k a e => by
    by_cases hk : k < ph.cells.length
    · rw [List.getElem?_append_left hk] at e
      exact .inl e
    · rw [List.getElem?_append_right (by omega)] at e
      cases hk' : k - ph.cells.length with
      | zero =>
        rw [hk'] at e
        exact .inr ⟨by omega, (Option.some.inj e).symm⟩
      | succ n => rw [hk'] at e; simp at e
  refine ⟨x, ⟨fun b y e => sameUpd hp _ _ (h.sub b y e), by rw [List.length_append, List.length_append, h.len]; rfl, ?_, fun k a e => ?_, fun k es e hl => ?_, fun q hq => ?_, h.hnd, h.el, fun i d e => ?_⟩, here⟩
  · rw [List.nodup_append]
    refine ⟨h.nd, by simp, fun a ha b hb z => ?_⟩
    have hb' : b = p := by simpa using hb
    obtain ⟨k, hk⟩ := List.mem_iff_getElem?.mp ha
    exact h.notin hp k (by rw [hk, z, hb'])
  · rcases old k a e with q | ⟨_, q⟩
    · obtain ⟨u, hu⟩ := h.trk k a q
      exact ⟨u, sameUpd hp _ _ hu⟩
    · exact ⟨_, by rw [q, upd_same]⟩
  · by_cases hk : k < M.length
    · rw [List.getElem?_append_left hk] at e
      obtain ⟨a, ys, h1, h2, h3, h4⟩ := h.own k es e hl
      exact ⟨a, ys, x.pre _ _ h1, h2, sameUpd hp _ _ h3, h4.up x⟩
    · rw [List.getElem?_append_right (by omega)] at e
      cases hk' : k - M.length with
      | succ n => rw [hk'] at e; simp at e
      | zero =>
        rw [hk'] at e
        have e' : w = es := by simpa using e
        have k' : k = M.length := by omega
        subst e'
        subst k'
        exact ⟨p, o, here, h.noS hp, upd_same, hr.up x⟩
  · obtain ⟨h1, h2, h3⟩ := h.hid q hq
    have ne : q.1 ≠ p := fun z => by rw [z, hp] at h1; cases h1
    exact ⟨by rw [upd_ne ne]; exact h1, h2, fun z => (List.mem_append.mp z).elim h3 fun z => ne (by simpa using z)⟩
  · obtain ⟨v, e1, q⟩ := h.env i d e
    exact ⟨v, e1, q.up x⟩
theorem Sat.new (h : Sat K ph S r M σ H) (hp : H p = none) {xs : List V} {ds : List D} (hr : RepAll K ph S xs ds) :
    Ext ph S (ph.add p) S ∧ Sat K (ph.add p) S r (M ++ [.lst ds]) σ (upd H p (.lst xs)) ∧ (ph.add p).cells[M.length]? = some p := h.newO hp ⟨xs, rfl, hr⟩
theorem nd_ix {l : List Addr} (hN : l.Nodup) {i j : Nat} {x : Addr} (a : l[i]? = some x) (b : l[j]? = some x) : i = j := by
  obtain ⟨h1, e1⟩ := List.getElem?_eq_some_iff.mp a
  obtain ⟨h2, e2⟩ := List.getElem?_eq_some_iff.mp b
  exact (List.getElem_inj hN).mp (e1.trans e2.symm)
/-- an owned list is changed -/
theorem Sat.putO (h : Sat K ph S r M σ H) {k : Nat} {w w2 : Own} {o : HO} (hk : M[k]? = some w) (hw : w.live = true) {a : Addr} (ha : ph.cells[k]? = some a) (hr : OwnR K ph S w2 o) :
    Sat K ph S r (M.set k w2) σ (upd H a o) := by
  obtain ⟨a', ys, h1, h2, h3, h4⟩ := h.own k w hk hw
  rw [ha] at h1
  cases h1
  have kl : k < M.length := (List.getElem?_eq_some_iff.mp hk).1
  refine ⟨fun b y e => ?_, by rw [List.length_set]; exact h.len, h.nd, fun j b e => ?_, fun j fs e hl => ?_, fun q hq => ?_, h.hnd, h.el, h.env⟩
  · rw [upd_ne (fun z => by rw [z, h2] at e; cases e)]
    exact h.sub b y e
  · by_cases hb : b = a
    · exact ⟨_, by rw [hb, upd_same]⟩
    · rw [upd_ne hb]; exact h.trk j b e
  · by_cases hj : j = k
    · subst hj
      rw [List.getElem?_set_self kl] at e
      cases e
      exact ⟨a, o, ha, h2, upd_same, hr⟩
    · rw [List.getElem?_set_ne (Ne.symm hj)] at e
      obtain ⟨b, zs, q1, q2, q3, q4⟩ := h.own j fs e hl
      have nb : b ≠ a := fun z => by rw [z] at q1; exact hj (nd_ix h.nd q1 ha)
      exact ⟨b, zs, q1, q2, by rw [upd_ne nb]; exact q3, q4⟩
  · obtain ⟨h1, h2, h3⟩ := h.hid q hq
    have ne : q.1 ≠ a := fun z => h3 (by rw [z]; exact List.mem_of_getElem? ha)
    exact ⟨by rw [upd_ne ne]; exact h1, h2, h3⟩
theorem Sat.put (h : Sat K ph S r M σ H) {k : Nat} {ds es : List D} {xs : List V} (hk : M[k]? = some (.lst ds)) {a : Addr} (ha : ph.cells[k]? = some a) (hr : RepAll K ph S xs es) :
    Sat K ph S r (M.set k (.lst es)) σ (upd H a (.lst xs)) := h.putO hk rfl ha ⟨xs, rfl, hr⟩
/-- the names change -/
theorem Sat.setN (h : Sat K ph S r M σ H) {i : Nat} {d : D} {v : V} (q : Rep K ph S v d) : Sat K ph S (r.set i (some d)) M (σ.set i (some v)) H := by
  refine ⟨h.sub, h.len, h.nd, h.trk, h.own, h.hid, h.hnd, by rw [List.length_set, List.length_set]; exact h.el, fun j e hj => ?_⟩
  by_cases hi : j = i
  · subst hi
    have jl : j < r.length := by
      have := (List.getElem?_eq_some_iff.mp hj).1
      rwa [List.length_set] at this
    rw [List.getElem?_set_self jl] at hj
    cases hj
    exact ⟨v, by rw [List.getElem?_set_self (by rw [← h.el]; exact jl)], q⟩
  · rw [List.getElem?_set_ne (Ne.symm hi)] at hj
    rw [List.getElem?_set_ne (Ne.symm hi)]
    exact h.env j e hj
/-- a new list, out of sight while it is made -/
theorem Sat.hide (h : Sat K ph S r M σ H) (hp : H p = none) (o : HO) : Sat K { ph with hid := (p, o) :: ph.hid } S r M σ (upd H p o) := by
  refine ⟨fun b y e => sameUpd hp _ _ (h.sub b y e), h.len, h.nd, fun k a e => ?_, fun k ds e hl => ?_, fun q hq => ?_, ?_, h.el, fun i d e => ?_⟩
  · obtain ⟨u, hu⟩ := h.trk k a e
    exact ⟨u, sameUpd hp _ _ hu⟩
  · obtain ⟨a, xs, h1, h2, h3, h4⟩ := h.own k ds e hl
    exact ⟨a, xs, h1, h2, sameUpd hp _ _ h3, OwnR.hid h4⟩
  · rcases List.mem_cons.mp hq with e | hq
    · rw [e]
      exact ⟨upd_same, h.noS hp, fun z => by
        obtain ⟨k, hk⟩ := List.mem_iff_getElem?.mp z
        exact h.notin hp k hk⟩
    · obtain ⟨h1, h2, h3⟩ := h.hid q hq
      exact ⟨sameUpd hp _ _ h1, h2, h3⟩
  · refine List.nodup_cons.mpr ⟨fun z => ?_, h.hnd⟩
    obtain ⟨q, hq, e⟩ := List.mem_map.mp z
    obtain ⟨h1, _, _⟩ := h.hid q hq
    have e' : q.1 = p := e
    rw [e', hp] at h1; cases h1
  · obtain ⟨v, e1, q⟩ := h.env i d e
    exact ⟨v, e1, Rep.hid q⟩
theorem hid_ne {p : Addr} {o : HO} {l : List (Addr × HO)} (h : ((p, o) :: l).map (·.1) |>.Nodup) : ∀ q ∈ l, q.1 ≠ p := fun q hq e =>
  (List.nodup_cons.mp h).1 (List.mem_map.mpr ⟨q, hq, e⟩)
/-- the hidden list changes -/
theorem Sat.hset {o o' : HO} {l : List (Addr × HO)} {c : List Addr} (h : Sat K ⟨c, (p, o) :: l⟩ S r M σ H) : Sat K ⟨c, (p, o') :: l⟩ S r M σ (upd H p o') := by
  obtain ⟨g1, g2, g3⟩ := h.hid _ List.mem_cons_self
  have nS : ∀ b y, S b = some y → b ≠ p := fun b y e z => by rw [z, g2] at e; cases e
  have nc : ∀ (k : Nat) (a : Addr), c[k]? = some a → a ≠ p := fun k a e z => g3 (by rw [← z]; exact List.mem_of_getElem? e)
  refine ⟨fun b y e => by rw [upd_ne (nS b y e)]; exact h.sub b y e, h.len, h.nd, fun k a e => ?_, fun k ds e hl => ?_, fun q hq => ?_, h.hnd, h.el, fun i d e => ?_⟩
  · obtain ⟨u, hu⟩ := h.trk k a e
    exact ⟨u, by rw [upd_ne (nc k a e)]; exact hu⟩
  · obtain ⟨a, xs, h1, h2, h3, h4⟩ := h.own k ds e hl
    exact ⟨a, xs, h1, h2, by rw [upd_ne (nc k a h1)]; exact h3, OwnR.hid h4⟩
  · rcases List.mem_cons.mp hq with e | hq
    · rw [e]
      exact ⟨upd_same, g2, g3⟩
    · obtain ⟨h1, h2, h3⟩ := h.hid q (List.mem_cons_of_mem _ hq)
      exact ⟨by rw [upd_ne (hid_ne h.hnd q hq)]; exact h1, h2, h3⟩
  · obtain ⟨v, e1, q⟩ := h.env i d e
    exact ⟨v, e1, Rep.hid q⟩
/-- the hidden list is done: it is only read from now on -/
theorem Sat.hfrz {o : HO} {l : List (Addr × HO)} {c : List Addr} (h : Sat K ⟨c, (p, o) :: l⟩ S r M σ H) : Ext ⟨c, l⟩ S ⟨c, l⟩ (upd S p o) ∧ Sat K ⟨c, l⟩ (upd S p o) r M σ H := by
  obtain ⟨g1, g2, g3⟩ := h.hid _ List.mem_cons_self
  have x : Ext ⟨c, l⟩ S ⟨c, l⟩ (upd S p o) := ⟨fun _ _ e => e, sameUpd g2, rfl⟩
  refine ⟨x, fun b y e => ?_, h.len, h.nd, h.trk, fun k ds e hl => ?_, fun q hq => ?_, (List.nodup_cons.mp h.hnd).2, h.el, fun i d e => ?_⟩
  · by_cases hb : b = p
    · rw [hb, upd_same] at e
      rw [hb, ← e]; exact g1
    · rw [upd_ne hb] at e
      exact h.sub b y e
  · obtain ⟨a, xs, h1, h2, h3, h4⟩ := h.own k ds e hl
    have ne : a ≠ p := fun z => g3 (by rw [← z]; exact List.mem_of_getElem? h1)
    exact ⟨a, xs, h1, by rw [upd_ne ne]; exact h2, h3, (OwnR.hid h4).up x⟩
  · obtain ⟨h1, h2, h3⟩ := h.hid q (List.mem_cons_of_mem _ hq)
    exact ⟨h1, by rw [upd_ne (hid_ne h.hnd q hq)]; exact h2, h3⟩
  · obtain ⟨v, e1, q⟩ := h.env i d e
    exact ⟨v, e1, (Rep.hid q).up x⟩
/-- .. or it is owned from now on -/
theorem Sat.hownO {o : HO} {w : Own} {l : List (Addr × HO)} {c : List Addr} (h : Sat K ⟨c, (p, o) :: l⟩ S r M σ H) (q : OwnR K ⟨c, l⟩ S w o) :
    Ext ⟨c, l⟩ S ⟨c ++ [p], l⟩ S ∧ Sat K ⟨c ++ [p], l⟩ S r (M ++ [w]) σ H ∧ (c ++ [p])[M.length]? = some p := by
  obtain ⟨g1, g2, g3⟩ := h.hid _ List.mem_cons_self
  have hl : c.length = M.length := h.len
  have x : Ext ⟨c, l⟩ S ⟨c ++ [p], l⟩ S := ⟨fun k a e => by
    show (c ++ [p])[k]? = _
    rw [List.getElem?_append_left (List.getElem?_eq_some_iff.mp e).1]; exact e, fun _ _ e => e, rfl⟩
  have here : (c ++ [p])[M.length]? = some p := by rw [← hl, List.getElem?_append_right (Nat.le_refl _), Nat.sub_self]; rfl
  have old : ∀ (k : Nat) (a : Addr), (c ++ [p])[k]? = some a → c[k]? = some a ∨ a = p := fun k a e => by
    by_cases hk : k < c.length
    · rw [List.getElem?_append_left hk] at e
      exact .inl e
    · rw [List.getElem?_append_right (by omega)] at e
      cases hk' : k - c.length with
      | zero => rw [hk'] at e; exact .inr (Option.some.inj e).symm
      | succ n => rw [hk'] at e; simp at e
  refine ⟨x, ⟨h.sub, ?_, ?_, fun k a e => ?_, fun k es e hl => ?_, fun q hq => ?_, (List.nodup_cons.mp h.hnd).2, h.el, fun i d e => ?_⟩, here⟩
  · show (c ++ [p]).length = _
    rw [List.length_append, List.length_append, hl]; rfl
  · show (c ++ [p]).Nodup
    rw [List.nodup_append]
    exact ⟨h.nd, by simp, fun a ha b hb z => g3 (by rw [show b = p by simpa using hb] at z; rw [← z]; exact ha)⟩
  · rcases old k a e with z | z
    · exact h.trk k a z
    · exact ⟨_, by rw [z]; exact g1⟩
  · by_cases hk : k < M.length
    · rw [List.getElem?_append_left hk] at e
      obtain ⟨a, ys, h1, h2, h3, h4⟩ := h.own k es e hl
      exact ⟨a, ys, x.pre _ _ h1, h2, h3, (OwnR.hid h4).up x⟩
    · rw [List.getElem?_append_right (by omega)] at e
      cases hk' : k - M.length with
      | succ n => rw [hk'] at e; simp at e
      | zero =>
        rw [hk'] at e
        have e' : w = es := by simpa using e
        have k' : k = M.length := by omega
        subst e'
        subst k'
        exact ⟨p, o, here, g2, g1, q.up x⟩
  · obtain ⟨h1, h2, h3⟩ := h.hid q (List.mem_cons_of_mem _ hq)
    exact ⟨h1, h2, fun z => by
      rcases List.mem_append.mp z with z | z
      · exact h3 z
      · exact hid_ne h.hnd q hq (by simpa using z)⟩
  · obtain ⟨v, e1, q⟩ := h.env i d e
    exact ⟨v, e1, (Rep.hid q).up x⟩
theorem Sat.hown {xs : List V} {ds : List D} {l : List (Addr × HO)} {c : List Addr} (h : Sat K ⟨c, (p, .lst xs) :: l⟩ S r M σ H) (q : RepAll K ⟨c, l⟩ S xs ds) :
    Ext ⟨c, l⟩ S ⟨c ++ [p], l⟩ S ∧ Sat K ⟨c ++ [p], l⟩ S r (M ++ [.lst ds]) σ H ∧ (c ++ [p])[M.length]? = some p := h.hownO ⟨xs, rfl, q⟩
/-! ### data as the library's data -/
variable {X : Cx} {pins : List (Addr × Obj)} {s : Shared}
mutual
theorem Rep.reads (I : Inv X pins σ H s) : ∀ (d : D) (v : V) (u : Value) (p : PyData), Rep X.K ph H v d → RelV v u → toPy d = some p → ∃ as, Reads s.heap u p as ∧ ∀ a ∈ as, H a ≠ none
  | .non, _, _, _, h, rv, e => by cases h; cases rv; cases e; exact ⟨_, .none, fun _ z => nomatch z⟩
  | .bl _, _, _, _, h, rv, e => by cases h; cases rv; cases e; exact ⟨_, .bool _, fun _ z => nomatch z⟩
  | .int _, _, _, _, h, rv, e => by cases h; obtain ⟨t, rfl⟩ := rv; cases e; exact ⟨_, .int _ _, fun _ z => nomatch z⟩
  | .str _, _, _, _, h, rv, e => by cases h; obtain ⟨t, rfl⟩ := rv; cases e; exact ⟨_, .str _ _, fun _ z => nomatch z⟩
  | .tup ds, _, _, _, h, rv, e => by
    cases h with
    | tup h1 h2 =>
      cases rv
      simp only [toPy] at e
      split at e
      · rename_i ps ep
        cases e
        obtain ⟨its, rx, ⟨o, ho, hc, n, hd⟩, _⟩ := I.tuple (h1.sq fun _ _ z => z)
        obtain ⟨as, q, qa⟩ := RepAll.reads I ds _ its ps h2 rx ep
        exact ⟨_, .tuple ho hc hd q, qa⟩
      · cases e
  | .lst ds, _, _, _, h, rv, e => by
    cases h with
    | lst h1 h2 =>
      cases rv
      simp only [toPy] at e
      split at e
      · rename_i ps ep
        cases e
        obtain ⟨its, rx, ⟨o, n, ho, hc, _, hd⟩, _⟩ := I.list (SqL.of h1)
        obtain ⟨as, q, qa⟩ := RepAll.reads I ds _ its ps h2 rx ep
        refine ⟨_, .list ho hc hd q, fun a ha => ?_⟩
        rcases List.mem_cons.mp ha with e | ha
        · rw [e, h1]; exact fun z => nomatch z
        · exact qa a ha
      · cases e
  | .dct0, _, _, _, h, rv, e => by
    cases h with
    | dct0 h1 =>
      cases rv
      cases e
      obtain ⟨_, _, vs, hk, o, es, ep, ho, hx, hd, _, he, _⟩ := I.hok _ _ h1
      cases hk
      have e0 : es = #[] := by
        cases es with
        | mk l =>
          cases l with
          | nil => rfl
          | cons x l => exact nomatch he
      subst e0
      refine ⟨_, .dict ho hx.1 hd .nil .nil, fun a ha => ?_⟩
      simp at ha
      rw [ha, h1]; exact fun z => nomatch z
  | .scr ns, _, _, _, _, _, e => by cases e
  | .own _, _, _, _, _, _, e => by cases e
  | .exc _ _, _, _, _, _, _, e => by cases e
  | .errS, _, _, _, _, _, e => by cases e
  | .glb _, _, _, _, _, _, e => by cases e
  | .val _, _, _, _, _, _, e => by cases e
theorem RepAll.reads (I : Inv X pins σ H s) : ∀ (ds : List D) (vs : List V) (us : List Value) (ps : List PyData), RepAll X.K ph H vs ds → Vals vs us → toPyAll ds = some ps → ∃ as, ReadsAll s.heap us ps as ∧ ∀ a ∈ as, H a ≠ none
  | [], _, _, _, h, rv, e => by cases h; cases rv; cases e; exact ⟨_, .nil, fun _ z => nomatch z⟩
  | d :: ds, _, _, _, h, rv, e => by
    cases h with
    | cons h1 h2 =>
      cases rv with
      | cons r1 r2 =>
        simp only [toPyAll] at e
        split at e
        · rename_i p ps ep eps
          cases e
          obtain ⟨as, q1, a1⟩ := Rep.reads I d _ _ p h1 r1 ep
          obtain ⟨bs, q2, a2⟩ := RepAll.reads I ds _ _ ps h2 r2 eps
          refine ⟨_, .cons q1 q2, fun a ha => ?_⟩
          rcases List.mem_append.mp ha with ha | ha
          · exact a1 a ha
          · exact a2 a ha
        · cases e
end
end
end DL
/-! DL3: operators, comparisons, truth, displays -/
namespace DL
open PySem PySem.Spec PyProof.Rows L2
variable {X : Cx}
/-! ### two values -/
abbrev G2 := D → D → Mem → DQ → Prop
def OpD (X : Cx) (f : Value → Value → Sem Value) (g : G2) : Prop :=
  ∀ (pins : List (Addr × Obj)) (s : Shared) (σ : St) (H : Hp) (ph : Ph) (S : Hp) (r : Env) (M : Mem) (x y : V) (dx dy : D) (v u : Value) (Q : DQ),
    Inv X pins σ H s → Sat X.K ph S r M σ H → RelV x v → RelV y u → Rep X.K ph S x dx → Rep X.K ph S y dy → g dx dy M Q →
    wpAny (model X.prog X.w) X.A (f v u) (EP X pins σ (post X.K ph S r σ Q)) X.xe s
theorem OpD.of {f : Value → Value → Sem Value} {r2 : R2} {g : G2} (h : OpR X f r2)
    (w : ∀ (σ : St) (H : Hp) (ph : Ph) (S : Hp) (r : Env) (M : Mem) (x y : V) (dx dy : D) (Q : DQ), Sat X.K ph S r M σ H → Rep X.K ph S x dx → Rep X.K ph S y dy → g dx dy M Q → r2 x y H (post X.K ph S r σ Q)) : OpD X f g :=
  fun pins s σ H ph S r M x y dx dy v u Q I hs rx ry qx qy hg => h pins s σ H x y v u _ I rx ry (w σ H ph S r M x y dx dy Q hs qx qy hg)
theorem binD {a b : Expr} {ta tb : DTE} (ha : DE X a ta) (hb : DE X b tb) {pins : List (Addr × Obj)} {s : Shared} {σ : St} {H : Hp} {ph : Ph} {S : Hp} {r : Env} {M : Mem} {g : D → D → Mem → Prop}
    (I : Inv X pins σ H s) (hs : Sat X.K ph S r M σ H) (h : ta r M fun x M1 => tb r M1 fun y M2 => g x y M2) {α : Type} {Q : α → Shared → Prop} {f : Value → Value → Sem α}
    (hf : ∀ v u s2 x y dx dy H2 ph2 S2 M2, Ext ph S ph2 S2 → Inv X pins σ H2 s2 → Sat X.K ph2 S2 r M2 σ H2 → RelV x v → RelV y u → Rep X.K ph2 S2 x dx → Rep X.K ph2 S2 y dy → g dx dy M2 → wpAny (model X.prog X.w) X.A (f v u) Q X.xe s2) :
    wpAny (model X.prog X.w) X.A (eval a X.env) (fun v s1 => wpAny (model X.prog X.w) X.A (eval b X.env) (fun u s2 => wpAny (model X.prog X.w) X.A (f v u) Q X.xe s2) X.xe s1) X.xe s := by
  refine thn (ha.pe.run pins s σ H _ I ⟨ph, S, r, M, _, hs, h, fun _ _ q => q⟩) fun v s1 ⟨x, H1, I1, r1, ph1, S1, M1, x1, hs1, dx, q1, h1⟩ => ?_
  refine thn (hb.pe.run pins s1 σ H1 _ I1 ⟨ph1, S1, r, M1, _, hs1, h1, fun _ _ q => q⟩) fun u s2 ⟨y, H2, I2, r2, ph2, S2, M2, x2, hs2, dy, q2, h2⟩ => ?_
  exact hf v u s2 x y dx dy H2 ph2 S2 M2 (x1.trans x2) I2 hs2 r1 r2 (q1.up x2) q2 h2
def dOp (g : G2) (ta tb : DTE) : DTE := fun r M Q => ta r M fun x M1 => tb r M1 fun y M2 => g x y M2 Q
theorem EP.up {pins : List (Addr × Obj)} {σ : St} {ph ph1 : Ph} {S S1 : Hp} {r : Env} {Q : DQ} {u : Value} {s : Shared} (x : Ext ph S ph1 S1) (h : EP X pins σ (post X.K ph1 S1 r σ Q) u s) {Q' : VK} (w : ∀ v H', post X.K ph S r σ Q v H' → Q' v H') : EP X pins σ Q' u s :=
  let ⟨v, H', I, rv, q⟩ := h
  ⟨v, H', I, rv, w _ _ (Aft.up x q)⟩
theorem de_op {a b : Expr} {ta tb : DTE} {op : Operator} {g : G2} {pos : Pos} (ho : OpD X (binaryOp op) g) (ha : DE X a ta) (hb : DE X b tb) : DE X (.BinOp a op b pos) (dOp g ta tb) :=
  ⟨⟨fun pins s σ H Q I ⟨ph, S, r, M, Q0, hs, ht, hq⟩ => wpAny_BinOp (binD ha hb I hs ht fun v u s2 x y dx dy H2 ph2 S2 M2 x2 I2 hs2 rx ry qx qy h =>
    thn (ho pins s2 σ H2 ph2 S2 r M2 x y dx dy v u Q0 I2 hs2 rx ry qx qy h) fun _ _ q => EP.up x2 q hq)⟩⟩
theorem de_cmp {a b : Expr} {ta tb : DTE} {op : CmpOp} {g : G2} {pos : Pos} (ho : OpD X (compareOp op) g) (ha : DE X a ta) (hb : DE X b tb) (hm : behindInMarks op b = false) : DE X (.Compare a [op] [b] pos) (dOp g ta tb) :=
  ⟨⟨fun pins s σ H Q I ⟨ph, S, r, M, Q0, hs, ht, hq⟩ => wpAny_Compare1 (binD ha hb I hs ht fun v u s2 x y dx dy H2 ph2 S2 M2 x2 I2 hs2 rx ry qx qy h =>
    thn (ho pins s2 σ H2 ph2 S2 r M2 x y dx dy v u Q0 I2 hs2 rx ry qx qy h) fun _ _ q => EP.up x2 q hq) hm⟩⟩
/-! ### arithmetic -/
/-- of moderate size -/
def Sm (i : Int) : Prop := i.natAbs.log2 < 400000
theorem Sm.of {i : Int} (n : Nat) (h : i.natAbs < 2 ^ n) (hn : n ≤ 400000 := by decide) : Sm i := by
  unfold Sm
  by_cases h0 : i.natAbs = 0
  · rw [h0]; decide
  · exact Nat.lt_of_lt_of_le ((Nat.log2_lt h0).mpr h) hn
def rBin (C : Int → Int → Prop) (f : Int → Int → Int) : G2 := fun x y M Q => match x, y with
  | .int i, .int j => C i j ∧ Q (.int (f i j)) M
  | _, _ => False
theorem opd_int {F : Value → Value → Sem Value} {C : Int → Int → Prop} {f : Int → Int → Int} (h : OpR X F (rI C fun i j => .int (f i j))) : OpD X F (rBin C f) :=
  OpD.of h fun σ H ph S r M x y dx dy Q hs rx ry hg => by
    cases dx <;> cases dy <;> first | exact hg.elim | skip
    cases rx; cases ry
    exact ⟨_, _, rfl, rfl, hg.1, Aft.here hs ⟨_, .int _, hg.2⟩⟩
theorem opd_sub : OpD X (binaryOp .Sub) (rBin (fun _ _ => True) fun i j => i - j) := opd_int (fun pins s σ H x y v u Q I r1 r2 ⟨i, j, e1, e2, _, q⟩ => op_sub pins s σ H x y v u Q I r1 r2 ⟨i, j, e1, e2, q⟩)
def CMul (i j : Int) : Prop := Sm i ∧ Sm j
def CDiv (_ j : Int) : Prop := j ≠ 0 ∧ j.natAbs.log2 < 9000
def CMod (_ j : Int) : Prop := j ≠ 0
def CPow (a n : Int) : Prop := 0 ≤ n ∧ (Builtin.Int.intBits a : Int) * n ≤ 2 ^ 27
theorem opd_mulI : OpD X (binaryOp .Mult) (rBin CMul fun i j => i * j) := opd_int (fun pins s σ H x y v u Q I r1 r2 ⟨i, j, e1, e2, c, q⟩ => op_mulW pins s σ H x y v u Q I r1 r2 ⟨i, j, e1, e2, by have h1 := c.1; have h2 := c.2; unfold Sm at h1 h2; unfold L2.CMulW; omega, q⟩)
theorem op_fdivG : OpR X (binaryOp .FloorDiv) (rI CDiv fun i j => .int (i.fdiv j)) := opI fun i j _ _ _ _ _ hc q => floordiv_int hc.1 q (.inl (PyProof.noPylong_of_log2 hc.2))
theorem opd_fdiv : OpD X (binaryOp .FloorDiv) (rBin CDiv fun i j => i.fdiv j) := opd_int op_fdivG
theorem opd_mod : OpD X (binaryOp .Mod) (rBin CMod fun i j => i.fmod j) := opd_int op_modN
theorem op_powG : OpR X (binaryOp .Pow) (rI CPow fun i j => .int (i ^ j.toNat)) := opI fun i j _ _ _ _ _ hc q => pow_int hc.1 hc.2 q
theorem opd_pow : OpD X (binaryOp .Pow) (rBin CPow fun i j => i ^ j.toNat) := opd_int op_powG
/-- x + y -/
def gAdd : G2 := fun x y M Q => match x, y with
  | .int i, .int j => Q (.int (i + j)) M
  | .str a, .str b => a.length + b.length ≤ sizeLine ∧ Q (.str (a ++ b)) M
  | .lst a, .lst b => a.length + b.length ≤ sizeLine ∧ Q (.lst (a ++ b)) M
  | .tup a, .tup b => a.length + b.length ≤ sizeLine ∧ Q (.tup (a ++ b)) M
  | .own k, .lst b => match M[k]? with
    | some (.lst a) => a.length + b.length ≤ sizeLine ∧ Q (.lst (a ++ b)) M
    | _ => False
  | .lst b, .own k => match M[k]? with
    | some (.lst a) => b.length + a.length ≤ sizeLine ∧ Q (.lst (b ++ a)) M
    | _ => False
  | _, _ => False
theorem Aft.frz {K : PySem.W.Frag} {ph : Ph} {S : Hp} {r : Env} {σ : St} {H : Hp} {M : Mem} {p : Addr} {o : HO} {Q : Ph → Hp → Mem → Prop} (h : Sat K ph S r M σ H) (hp : H p = none) (q : Ext ph S ph (upd S p o) → Q ph (upd S p o) M) : Aft K ph S r σ (upd H p o) Q :=
  let ⟨x, hs⟩ := h.frz hp o
  ⟨ph, _, M, x, hs, q x⟩
theorem opd_add : OpD X (binaryOp .Add) gAdd := by
  intro pins s σ H ph S r M x y dx dy v u Q I hs rx ry qx qy hg
  cases dx <;> cases dy <;> first | exact hg.elim | skip
  · cases qx; cases qy
    exact op_add pins s σ H _ _ v u _ I rx ry ⟨_, _, rfl, rfl, Aft.here hs ⟨_, .int _, hg⟩⟩
  · cases qx; cases qy
    exact op_add_str pins s σ H _ _ v u _ I rx ry ⟨_, _, rfl, rfl, hg.1, Aft.here hs ⟨_, .str _, hg.2⟩⟩
  · cases qx with
    | tup h1 h2 =>
      cases qy with
      | tup h3 h4 =>
        obtain ⟨hz, q⟩ := hg
        rename_i xs _ ys
        have e1 := h2.len
        have e2 := h4.len
        refine op_catA pins s σ H _ _ v u _ I rx ry ⟨_, _, xs, ys, rfl, rfl, h1.sq hs.sub, h3.sq hs.sub, by omega, fun z => ?_, fun _ z => ?_, fun _ _ p hp => Aft.frz hs hp fun x => ⟨_, .tup (.inl upd_same) ((h2.app h4).up x), q⟩⟩
        · refine Aft.here hs ⟨_, .tup h3 ?_, q⟩
          rw [z] at h2
          cases h2
          exact h4
        · refine Aft.here hs ⟨_, .tup h1 ?_, q⟩
          rw [z] at h4
          cases h4
          rw [List.append_nil]; exact h2
  · cases qx with
    | lst h1 h2 =>
      cases qy with
      | lst h3 h4 =>
        have e1 := h2.len
        have e2 := h4.len
        exact op_cat pins s σ H _ _ v u _ I rx ry ⟨_, _, _, _, rfl, rfl, hs.sub _ _ h1, hs.sub _ _ h3, by have := hg.1; omega, fun p hp => Aft.frz hs hp fun x => ⟨_, .lst upd_same ((h2.app h4).up x), hg.2⟩⟩
  · cases qx with
    | lst h1 h2 =>
      cases qy with
      | own h3 =>
        rename_i b k _ _ _
        simp only [gAdd] at hg
        split at hg
        · rename_i a hk
          obtain ⟨a1, xs1, c1, c2, c3, c4⟩ := hs.cell k a hk
          rw [h3] at c1; cases c1
          have e1 := h2.len
          have e2 := c4.len
          exact op_cat pins s σ H _ _ v u _ I rx ry ⟨_, _, _, _, rfl, rfl, hs.sub _ _ h1, c3, by have := hg.1; omega, fun p hp => Aft.frz hs hp fun x => ⟨_, .lst upd_same ((h2.app c4).up x), hg.2⟩⟩
        · exact hg.elim
  · cases qx with
    | own h3 =>
      cases qy with
      | lst h1 h2 =>
        rename_i k b _ _ _
        simp only [gAdd] at hg
        split at hg
        · rename_i a hk
          obtain ⟨a1, xs1, c1, c2, c3, c4⟩ := hs.cell k a hk
          rw [h3] at c1; cases c1
          have e1 := h2.len
          have e2 := c4.len
          exact op_cat pins s σ H _ _ v u _ I rx ry ⟨_, _, _, _, rfl, rfl, c3, hs.sub _ _ h1, by have := hg.1; omega, fun p hp => Aft.frz hs hp fun x => ⟨_, .lst upd_same ((c4.app h2).up x), hg.2⟩⟩
        · exact hg.elim
/-! ### comparisons -/
def gCmpI (p : Int → Int → Bool) : G2 := fun x y M Q => match x, y with
  | .int i, .int j => Q (.bl (p i j)) M
  | _, _ => False
theorem opd_cmpI {F : Value → Value → Sem Value} {p : Int → Int → Bool} (h : OpR X F (rI0 fun i j => .bl (p i j))) : OpD X F (gCmpI p) :=
  OpD.of h fun σ H ph S r M x y dx dy Q hs rx ry hg => by
    cases dx <;> cases dy <;> first | exact hg.elim | skip
    cases rx; cases ry
    exact ⟨_, _, rfl, rfl, Aft.here hs ⟨_, .bl _, hg⟩⟩
theorem opd_lt : OpD X (compareOp .Lt) (gCmpI fun i j => decide (i < j)) := opd_cmpI op_lt
theorem opd_le : OpD X (compareOp .LtE) (gCmpI fun i j => decide (i ≤ j)) := opd_cmpI op_le
theorem opd_gt : OpD X (compareOp .Gt) (gCmpI fun i j => decide (j < i)) := opd_cmpI op_gt
theorem opd_ge : OpD X (compareOp .GtE) (gCmpI fun i j => decide (j ≤ i)) := opd_cmpI op_ge
/-- an owned list as it stands -/
def res (M : Mem) : D → D
  | .own k => match M[k]? with
    | some (.lst ds) => .lst ds
    | _ => .own k
  | d => d
theorem Rep.res {K : PySem.W.Frag} {ph : Ph} {S : Hp} {r : Env} {M : Mem} {σ : St} {H : Hp} {v : V} {d : D} (hs : Sat K ph S r M σ H) (q : Rep K ph S v d) : Rep K ph H v (res M d) := by
  cases d <;> first | exact hs.read q | skip
  rename_i k
  unfold DL.res
  dsimp only
  split
  · rename_i ds hk
    cases q with
    | own h =>
      obtain ⟨a, xs, c1, c2, c3, c4⟩ := hs.cell k ds hk
      rw [h] at c1; cases c1
      exact .lst c3 (hs.readAll c4)
  · exact hs.read q
/-- data that may be compared -/
def cmpd (d : D) : Option PyData := match toPy d with
  | some p => if SeqAt.shaped p = true then some p else none
  | none => none
theorem cmpd_some {d : D} {p : PyData} (h : cmpd d = some p) : toPy d = some p ∧ SeqAt.shaped p = true := by
  unfold cmpd at h
  split at h
  · rename_i p' e
    by_cases hs : SeqAt.shaped p' = true
    · rw [if_pos hs] at h; cases h; exact ⟨e, hs⟩
    · rw [if_neg hs] at h; cases h
  · cases h
/-- x == y of two data read; none: not covered -/
def eqB (x y : D) : Option Bool := match x, y with
  | .str a, .str b => some (a == b)
  | x, y => match cmpd x, cmpd y with
    | some p, some q => some (PyData.eqv p q)
    | _, _ => none
theorem eqB_of {x y : D} {b : Bool} (h : eqB x y = some b) : (∃ p q, x = .str p ∧ y = .str q ∧ b = (p == q)) ∨ ∃ p q, cmpd x = some p ∧ cmpd y = some q ∧ b = PyData.eqv p q := by
  unfold eqB at h
  split at h
  · exact .inl ⟨_, _, rfl, rfl, (Option.some.inj h).symm⟩
  · split at h
    · rename_i e1 e2; exact .inr ⟨_, _, e1, e2, (Option.some.inj h).symm⟩
    · cases h
def gEq : G2 := fun x y M Q => match eqB (res M x) (res M y) with
  | some b => Q (.bl b) M
  | none => False
def gNe : G2 := fun x y M Q => match eqB (res M x) (res M y) with
  | some b => Q (.bl (!b)) M
  | none => False
theorem res_str {M : Mem} {d : D} {z : Str} (h : res M d = .str z) : d = .str z := by
  cases d <;> first | exact h | skip
  rename_i k
  unfold res at h
  dsimp only at h
  split at h <;> cases h
theorem opd_eq (hu : X.A.units + 64 < cLine) : OpD X (compareOp .Eq) gEq := by
  intro pins s σ H ph S r M x y dx dy v u Q I hs rx ry qx qy hg
  unfold gEq at hg
  split at hg
  · rename_i b e
    rcases eqB_of e with ⟨p, q, e1, e2, rfl⟩ | ⟨p, q, e1, e2, rfl⟩
    · cases res_str e1; cases res_str e2
      cases qx; cases qy
      obtain ⟨_, rfl⟩ := rx
      obtain ⟨_, rfl⟩ := ry
      exact PyProof.Rows.eq_str ⟨.bl _, H, I, rfl, Aft.here hs ⟨_, .bl _, hg⟩⟩
    · obtain ⟨as, h1, _⟩ := Rep.reads I _ _ _ _ (Rep.res hs qx) rx (cmpd_some e1).1
      obtain ⟨bs, h2, _⟩ := Rep.reads I _ _ _ _ (Rep.res hs qy) ry (cmpd_some e2).1
      exact SeqAt.compareEq_shaped h1 h2 (cmpd_some e1).2 (cmpd_some e2).2 hu ⟨.bl _, H, I, rfl, Aft.here hs ⟨_, .bl _, hg⟩⟩
  · exact hg.elim
theorem opd_ne (hu : X.A.units + 64 < cLine) : OpD X (compareOp .NotEq) gNe := by
  intro pins s σ H ph S r M x y dx dy v u Q I hs rx ry qx qy hg
  unfold gNe at hg
  split at hg
  · rename_i b e
    rcases eqB_of e with ⟨p, q, e1, e2, rfl⟩ | ⟨p, q, e1, e2, rfl⟩
    · cases res_str e1; cases res_str e2
      cases qx; cases qy
      obtain ⟨_, rfl⟩ := rx
      obtain ⟨_, rfl⟩ := ry
      exact PyProof.Rows.ne_str ⟨.bl _, H, I, rfl, Aft.here hs ⟨_, .bl _, hg⟩⟩
    · obtain ⟨as, h1, _⟩ := Rep.reads I _ _ _ _ (Rep.res hs qx) rx (cmpd_some e1).1
      obtain ⟨bs, h2, _⟩ := Rep.reads I _ _ _ _ (Rep.res hs qy) ry (cmpd_some e2).1
      exact SeqAt.compareNe_shaped h1 h2 (cmpd_some e1).2 (cmpd_some e2).2 hu ⟨.bl _, H, I, rfl, Aft.here hs ⟨_, .bl _, hg⟩⟩
  · exact hg.elim
/-- x in y, y a list -/
def gIn (neg : Bool) : G2 := fun x y M Q => match cmpd (res M x), cmpd (res M y) with
  | some p, some (.list ps) => Q (.bl ((ps.any fun z => PyData.eqv z p) != neg)) M
  | _, _ => False
theorem opd_in (hu : X.A.units + 65 < cLine) : OpD X (compareOp .In) (gIn false) := by
  intro pins s σ H ph S r M x y dx dy v u Q I hs rx ry qx qy hg
  unfold gIn at hg
  split at hg
  · rename_i p ps e1 e2
    obtain ⟨as, h1, _⟩ := Rep.reads I _ _ _ _ (Rep.res hs qx) rx (cmpd_some e1).1
    obtain ⟨bs, h2, _⟩ := Rep.reads I _ _ _ _ (Rep.res hs qy) ry (cmpd_some e2).1
    refine SeqAt.in_list_reads h2 h1 (SeqAt.canLay_of_shaped (cmpd_some e2).2) (SeqAt.canLay_of_shaped (cmpd_some e1).2) (room_in_shaped (cmpd_some e1).2 hu) ⟨.bl _, H, I, rfl, Aft.here hs ⟨_, .bl _, ?_⟩⟩
    rw [Bool.bne_false] at hg; exact hg
  · exact hg.elim
end DL
/-! DL4: is, truth, chains, and/or/not, displays, subscripts, argument lists -/
namespace DL
open PySem PySem.Spec PyProof.Rows L2
variable {X : Cx}
/-! ### is -/
/-- x is y, y written None, True or False -/
def isB (x y : D) : Option Bool := match x, y with
  | .non, .non => some true
  | .bl b, .non => some false
  | .int _, .non => some false
  | .str _, .non => some false
  | .tup _, .non => some false
  | .lst _, .non => some false
  | .own _, .non => some false
  | .dct0, .non => some false
  | .exc _ _, .non => some false
  | .bl a, .bl b => some (decide (a = b))
  | .non, .bl _ => some false
  | .int _, .bl _ => some false
  | .str _, .bl _ => some false
  | .tup _, .bl _ => some false
  | .lst _, .bl _ => some false
  | .own _, .bl _ => some false
  | .dct0, .bl _ => some false
  | _, _ => none
def gIs (neg : Bool) : G2 := fun x y M Q => match isB x y with
  | some b => Q (.bl (b != neg)) M
  | none => False
theorem opd_is : OpD X (compareOp .Is) (gIs false) := by
  intro pins s σ H ph S r M x y dx dy v u Q I hs rx ry qx qy hg
  have fin : ∀ b : Bool, Q (.bl (b != false)) M → EP X pins σ (post X.K ph S r σ Q) (.bool b) s := fun b q => ⟨.bl b, H, I, rfl, Aft.here hs ⟨_, .bl _, by rwa [Bool.bne_false] at q⟩⟩
  cases dy <;> cases dx <;> first | exact hg.elim | skip
  all_goals cases qx <;> cases qy
  all_goals (first | (obtain ⟨t, rfl⟩ := rx) | cases rx)
  all_goals cases ry
  all_goals first
    | exact wpAny_is_other rfl (fun z => nomatch z) (fin false hg)
    | exact wpAny_is_self rfl (fin true hg)
    | skip
  rename_i b c
  by_cases e : c = b
  · subst e
    exact wpAny_is_self rfl (fin true (by simpa [gIs, isB] using hg))
  · exact wpAny_is_other rfl (fun z => e (Value.bool.inj z)) (fin false (by simpa [gIs, isB, e] using hg))
theorem opd_isnot : OpD X (compareOp .IsNot) (gIs true) := by
  intro pins s σ H ph S r M x y dx dy v u Q I hs rx ry qx qy hg
  have fin : ∀ b : Bool, Q (.bl (b != true)) M → EP X pins σ (post X.K ph S r σ Q) (.bool (!b)) s := fun b q => ⟨.bl (!b), H, I, rfl, Aft.here hs ⟨_, .bl _, by rwa [Bool.bne_true] at q⟩⟩
  cases dy <;> cases dx <;> first | exact hg.elim | skip
  all_goals cases qx <;> cases qy
  all_goals (first | (obtain ⟨t, rfl⟩ := rx) | cases rx)
  all_goals cases ry
  all_goals first
    | exact wpAny_isNot_other rfl (fun z => nomatch z) (fin false hg)
    | exact wpAny_isNot_self rfl (fin true hg)
    | skip
  rename_i b c
  by_cases e : c = b
  · subst e
    exact wpAny_isNot_self rfl (fin true (by simpa [gIs, isB] using hg))
  · exact wpAny_isNot_other rfl (fun z => e (Value.bool.inj z)) (fin false (by simpa [gIs, isB, e] using hg))
/-! ### truth -/
def tru (M : Mem) : D → Option Bool
  | .non => some false
  | .bl b => some b
  | .int i => some (i != 0)
  | .str x => if x.length ≤ sizeLine then some ((x.length : Int) != 0) else none
  | .tup l => some (!l.isEmpty)
  | .lst l => some (!l.isEmpty)
  | .own k => match M[k]? with
    | some (.lst l) => some (!l.isEmpty)
    | _ => none
  | .dct0 => some false
  | _ => none
theorem isEmp {K : PySem.W.Frag} {ph : Ph} {S : Hp} {xs : List V} {ds : List D} (h : RepAll K ph S xs ds) : (!ds.isEmpty) = !xs.isEmpty := by cases h <;> rfl
theorem tru_V {K : PySem.W.Frag} {ph : Ph} {S : Hp} {r : Env} {M : Mem} {σ : St} {H : Hp} {x : V} {d : D} {k : Bool} (hs : Sat K ph S r M σ H) (q : Rep K ph S x d) (h : tru M d = some k) : TruV K x H k := by
  cases d with
  | non => cases q; exact (Option.some.inj h).symm
  | bl b => cases q; exact (Option.some.inj h).symm
  | int i => cases q; exact (Option.some.inj h).symm
  | str z =>
    cases q
    have h' : (if z.length ≤ sizeLine then some ((z.length : Int) != 0) else none) = some k := h
    by_cases hz : z.length ≤ sizeLine
    · rw [if_pos hz] at h'
      exact ⟨hz, (Option.some.inj h').symm⟩
    · rw [if_neg hz] at h'; cases h'
  | tup l =>
    cases q with
    | tup h1 h2 => exact .inr (.inl ⟨_, h1.sq hs.sub, by rw [← isEmp h2]; exact (Option.some.inj h).symm⟩)
  | lst l =>
    cases q with
    | lst h1 h2 => exact .inl ⟨_, SqL.of (hs.sub _ _ h1), by rw [← isEmp h2]; exact (Option.some.inj h).symm⟩
  | dct0 =>
    cases q with
    | dct0 h1 => exact .inr (.inr ⟨_, hs.sub _ _ h1, (Option.some.inj h).symm⟩)
  | own j =>
    cases q with
    | own h1 =>
      unfold tru at h
      dsimp only at h
      split at h
      · rename_i l hk
        obtain ⟨a, xs, c1, c2, c3, c4⟩ := hs.cell j l hk
        rw [h1] at c1; cases c1
        exact .inl ⟨_, SqL.of c3, by rw [← isEmp c4]; exact (Option.some.inj h).symm⟩
      · cases h
  | scr ns => cases h
  | exc C d => cases h
  | errS => cases h
  | glb x => cases h
  | val v => cases h
/-- what d's truth is -/
def gTru (d : D) (M : Mem) (Q : Bool → Prop) : Prop := match tru M d with
  | some b => Q b
  | none => False
def dTru (t : DTE) : DTT := fun r M Q => t r M fun d M1 => gTru d M1 fun b => Q b M1
theorem gTru_some {d : D} {M : Mem} {Q : Bool → Prop} (h : gTru d M Q) : ∃ b, tru M d = some b ∧ Q b := by
  unfold gTru at h
  split at h
  · rename_i b e; exact ⟨b, e, h⟩
  · exact h.elim
/-- an expression as a test -/
theorem dt_tru {e : Expr} {t : DTE} (h : DE X e t) (he : ∀ whole, isTrue e X.env whole = (do let v ← whole; standAt e.pos; holding [v] (truthy v)) := by intro _; rfl) : DT X e (dTru t) :=
  DT.of (pt_truth h.pe he) fun ph S r M σ H Q hs ht Q' hq => ⟨ph, S, r, M, _, hs, ht, fun v H1 h1 => by
    obtain ⟨ph1, S1, M1, x1, hs1, d, q1, g1⟩ := h1
    obtain ⟨b, eb, qb⟩ := gTru_some g1
    exact ⟨b, tru_V hs1 q1 eb, hq _ _ ⟨ph1, S1, M1, x1, hs1, qb⟩⟩⟩
/-- a comparison as a test -/
theorem dt_cmp {a b : Expr} {ta tb : DTE} {op : CmpOp} {g : G2} {pos : Pos} (ho : OpD X (compareOp op) g) (ha : DE X a ta) (hb : DE X b tb) (hm : behindInMarks op b = false) : DT X (.Compare a [op] [b] pos) (dTru (dOp g ta tb)) :=
  ⟨⟨fun pins s σ H Q I ⟨ph, S, r, M, Q0, hs, ht, hq⟩ => wpAny_isTrue_Compare1 (binD ha hb I hs ht fun v u s2 x y dx dy H2 ph2 S2 M2 x2 I2 hs2 rx ry qx qy h =>
    thn (ho pins s2 σ H2 ph2 S2 r M2 x y dx dy v u _ I2 hs2 rx ry qx qy h) fun c s3 ⟨z, H3, I3, r3, ph3, S3, M3, x3, hs3, d, q3, g3⟩ => by
      obtain ⟨k, ek, qk⟩ := gTru_some g3
      exact tru_ok pins s3 σ H3 z c Q I3 r3 ⟨k, tru_V hs3 q3 ek, hq _ _ ⟨ph3, S3, M3, x2.trans x3, hs3, qk⟩⟩) hm⟩⟩
/-! ### a < b < c -/
def dChain (g g' : G2) (ta tb tc : DTE) : DTE := fun r M Q => ta r M fun x M1 => tb r M1 fun y M2 => g x y M2 fun z M3 => gTru z M3 fun k => if k = true then tc r M3 fun w M4 => g' y w M4 Q else Q z M3
theorem de_chain {a b c : Expr} {ta tb tc : DTE} {op op' : CmpOp} {g g' : G2} {pos : Pos} (ho : OpD X (compareOp op) g) (ho' : OpD X (compareOp op') g') (ha : DE X a ta) (hb : DE X b tb) (hc : DE X c tc)
    (hm : lastMarks [op, op'] [b, c] = false := by with_unfolding_all rfl) : DE X (.Compare a [op, op'] [b, c] pos) (dChain g g' ta tb tc) := by
  refine ⟨⟨fun pins s σ H Q I ⟨ph, S, r, M, Q0, hs, ht, hq⟩ => ?_⟩⟩
  refine Compare_chain (thn (ha.pe.run pins s σ H _ I ⟨ph, S, r, M, _, hs, ht, fun _ _ q => q⟩) fun v s1 ⟨x, H1, I1, r1, ph1, S1, M1, x1, hs1, dx, q1, h1⟩ =>
    chain_link (thn (hb.pe.run pins s1 σ H1 _ I1 ⟨ph1, S1, r, M1, _, hs1, h1, fun _ _ q => q⟩) fun u s2 ⟨y, H2, I2, r2, ph2, S2, M2, x2, hs2, dy, q2, h2⟩ =>
      thn (ho pins s2 σ H2 ph2 S2 r M2 x y dx dy v u _ I2 hs2 r1 r2 (q1.up x2) q2 h2) fun d s3 ⟨z, H3, I3, r3, ph3, S3, M3, x3, hs3, dz, q3, h3⟩ => ?_)) hm
  obtain ⟨k, ek, qk⟩ := gTru_some h3
  refine thn (tru_ok pins s3 σ H3 z d (fun b H' => b = k ∧ H' = H3) I3 r3 ⟨k, tru_V hs3 q3 ek, rfl, rfl⟩) fun b s4 ⟨H4, I4, eb, eH⟩ => ?_
  rw [eH] at I4
  rw [← eb] at qk
  cases b with
  | false => exact ite_ff ⟨z, H3, I4, r3, hq _ _ ⟨ph3, S3, M3, x1.trans (x2.trans x3), hs3, _, q3, qk⟩⟩
  | true =>
    exact ite_tt (chain_last (thn (hc.pe.run pins s4 σ H3 _ I4 ⟨ph3, S3, r, M3, _, hs3, qk, fun _ _ q => q⟩) fun w' s5 ⟨z', H5, I5, r5, ph5, S5, M5, x5, hs5, dw, q5, h5⟩ =>
      thn (ho' pins s5 σ H5 ph5 S5 r M5 y z' dy dw u w' _ I5 hs5 r2 r5 (q2.up (x3.trans x5)) q5 h5) fun d' s6 q6 => EP.up (x1.trans (x2.trans (x3.trans x5))) q6 hq))
/-! ### and, or, not -/
def dAnd (t u : DTT) : DTT := fun r M Q => t r M fun c M1 => if c = true then u r M1 Q else Q false M1
def dOr (t u : DTT) : DTT := fun r M Q => t r M fun c M1 => if c = true then Q true M1 else u r M1 Q
def dNot (t : DTT) : DTT := fun r M Q => t r M fun c M1 => Q (!c) M1
variable {a b : Expr} {rest : List Expr} {pos : Pos}
theorem DW.dt {e : Expr} {t : DTT} (h : DW X e t) : DT X e t := ⟨h.pw.pt⟩
theorem dw_and1 {t : DTT} (h : DT X a t) : DW X (.BoolOp .And [a] pos) t := ⟨pw_and1 h.pt⟩
theorem dw_or1 {t : DTT} (h : DT X a t) : DW X (.BoolOp .Or [a] pos) t := ⟨pw_or1 h.pt⟩
theorem dw_and {t u : DTT} (h : DT X a t) (h2 : DW X (.BoolOp .And (b :: rest) pos) u) : DW X (.BoolOp .And (a :: b :: rest) pos) (dAnd t u) :=
  DW.of (pw_and h.pt h2.pw) fun ph S r M σ H Q hs ht Q' hq => ⟨ph, S, r, M, _, hs, ht, fun c H1 ⟨ph1, S1, M1, x1, hs1, h1⟩ => by
    cases c with
    | true => exact ⟨ph1, S1, r, M1, _, hs1, h1, fun c' H2 h2 => hq _ _ (Aft.up x1 h2)⟩
    | false => exact hq _ _ ⟨ph1, S1, M1, x1, hs1, h1⟩⟩
theorem dw_or {t u : DTT} (h : DT X a t) (h2 : DW X (.BoolOp .Or (b :: rest) pos) u) : DW X (.BoolOp .Or (a :: b :: rest) pos) (dOr t u) :=
  DW.of (pw_or h.pt h2.pw) fun ph S r M σ H Q hs ht Q' hq => ⟨ph, S, r, M, _, hs, ht, fun c H1 ⟨ph1, S1, M1, x1, hs1, h1⟩ => by
    cases c with
    | false => exact ⟨ph1, S1, r, M1, _, hs1, h1, fun c' H2 h2 => hq _ _ (Aft.up x1 h2)⟩
    | true => exact hq _ _ ⟨ph1, S1, M1, x1, hs1, h1⟩⟩
theorem dt_not {t : DTT} (h : DT X a t) : DT X (.UnaryOp .Not a pos) (dNot t) :=
  DT.of (pt_not h.pt) fun ph S r M σ H Q hs ht Q' hq => ⟨ph, S, r, M, _, hs, ht, fun c H1 h1 => hq _ _ h1⟩
/-- as values -/
def dAndV (t u : DTE) : DTE := fun r M Q => t r M fun d M1 => gTru d M1 fun c => if c = true then u r M1 Q else Q d M1
def dOrV (t u : DTE) : DTE := fun r M Q => t r M fun d M1 => gTru d M1 fun c => if c = true then Q d M1 else u r M1 Q
def dNotV (t : DTE) : DTE := fun r M Q => t r M fun d M1 => gTru d M1 fun c => Q (.bl (!c)) M1
theorem de_one {op} {t : DTE} (h : DE X a t) : DE X (.BoolOp op [a] pos) t := ⟨pe_one h.pe⟩
theorem de_and {t u : DTE} (h : DE X a t) (h2 : DE X (.BoolOp .And (b :: rest) pos) u) : DE X (.BoolOp .And (a :: b :: rest) pos) (dAndV t u) :=
  DE.of (pe_andT h.pe h2.pe) fun ph S r M σ H Q hs ht Q' hq => ⟨ph, S, r, M, _, hs, ht, fun v H1 ⟨ph1, S1, M1, x1, hs1, d, q1, g1⟩ => by
    obtain ⟨c, ec, qc⟩ := gTru_some g1
    refine ⟨c, tru_V hs1 q1 ec, ?_⟩
    cases c with
    | true => exact ⟨ph1, S1, r, M1, _, hs1, qc, fun c' H2 h2 => hq _ _ (Aft.up x1 h2)⟩
    | false => exact hq _ _ ⟨ph1, S1, M1, x1, hs1, _, q1, qc⟩⟩
theorem de_or {t u : DTE} (h : DE X a t) (h2 : DE X (.BoolOp .Or (b :: rest) pos) u) : DE X (.BoolOp .Or (a :: b :: rest) pos) (dOrV t u) :=
  DE.of (pe_orT h.pe h2.pe) fun ph S r M σ H Q hs ht Q' hq => ⟨ph, S, r, M, _, hs, ht, fun v H1 ⟨ph1, S1, M1, x1, hs1, d, q1, g1⟩ => by
    obtain ⟨c, ec, qc⟩ := gTru_some g1
    refine ⟨c, tru_V hs1 q1 ec, ?_⟩
    cases c with
    | false => exact ⟨ph1, S1, r, M1, _, hs1, qc, fun c' H2 h2 => hq _ _ (Aft.up x1 h2)⟩
    | true => exact hq _ _ ⟨ph1, S1, M1, x1, hs1, _, q1, qc⟩⟩
theorem de_not {t : DTE} (h : DE X a t) : DE X (.UnaryOp .Not a pos) (dNotV t) :=
  DE.of (pe_notT h.pe) fun ph S r M σ H Q hs ht Q' hq => ⟨ph, S, r, M, _, hs, ht, fun v H1 ⟨ph1, S1, M1, x1, hs1, d, q1, g1⟩ => by
    obtain ⟨c, ec, qc⟩ := gTru_some g1
    exact ⟨c, tru_V hs1 q1 ec, hq _ _ ⟨ph1, S1, M1, x1, hs1, _, .bl _, qc⟩⟩⟩
/-- a if t else b -/
def dIf (t : DTT) (u w : DTE) : DTE := fun r M Q => t r M fun c M1 => if c = true then u r M1 Q else w r M1 Q
theorem de_if {c : Expr} {t : DTT} {u w : DTE} (h : DT X c t) (h1 : DE X a u) (h2 : DE X b w) : DE X (.IfExp c a b pos) (dIf t u w) :=
  DE.of (pe_ifExp h.pt h1.pe h2.pe) fun ph S r M σ H Q hs ht Q' hq => ⟨ph, S, r, M, _, hs, ht, fun c H1 ⟨ph1, S1, M1, x1, hs1, g1⟩ => by
    cases c with
    | true => exact ⟨ph1, S1, r, M1, _, hs1, g1, fun c' H2 h2 => hq _ _ (Aft.up x1 h2)⟩
    | false => exact ⟨ph1, S1, r, M1, _, hs1, g1, fun c' H2 h2 => hq _ _ (Aft.up x1 h2)⟩⟩
/-- -a -/
def gNeg (d : D) (M : Mem) (Q : DQ) : Prop := match d with
  | .int i => Q (.int (-i)) M
  | _ => False
def dNeg (t : DTE) : DTE := fun r M Q => t r M fun d M1 => gNeg d M1 Q
theorem de_neg {t : DTE} (h : DE X a t) : DE X (.UnaryOp .USub a pos) (dNeg t) :=
  DE.of (pe_un un_neg h.pe) fun ph S r M σ H Q hs ht Q' hq => ⟨ph, S, r, M, _, hs, ht, fun v H1 ⟨ph1, S1, M1, x1, hs1, d, q1, g1⟩ => by
    cases d <;> first | exact g1.elim | skip
    cases q1
    exact ⟨_, rfl, hq _ _ ⟨ph1, S1, M1, x1, hs1, _, .int _, g1⟩⟩⟩
/-! ### argument lists, displays -/
def dNil : DTA := fun _ M Q => Q [] M
def dCons (t : DTE) (u : DTA) : DTA := fun r M Q => t r M fun d M1 => u r M1 fun ds M2 => Q (d :: ds) M2
theorem da_nil : DA X [] dNil := DA.of pa_nil fun ph S r M σ H Q hs ht Q' hq => hq _ _ (Aft.here hs ⟨_, .nil, ht⟩)
theorem da_cons {e : Expr} {es : List Expr} {t : DTE} {u : DTA} (h : DE X e t) (h2 : DA X es u) (hs : starEach (e :: es) X.env = (false, eval e X.env) :: starEach es X.env := by rfl) : DA X (e :: es) (dCons t u) :=
  DA.of (pa_cons h.pe h2.pa hs) fun ph S r M σ H Q hs ht Q' hq => ⟨ph, S, r, M, _, hs, ht, fun v H1 ⟨ph1, S1, M1, x1, hs1, d, q1, g1⟩ =>
    ⟨ph1, S1, r, M1, _, hs1, g1, fun vs H2 ⟨ph2, S2, M2, x2, hs2, ds, q2, g2⟩ => hq _ _ ⟨ph2, S2, M2, x1.trans x2, hs2, _, .cons (q1.up x2) q2, g2⟩⟩⟩
def dTup (t : DTA) : DTE := fun r M Q => t r M fun ds M1 => ds.length ≤ sizeLine ∧ Q (.tup ds) M1
def dLst (t : DTA) : DTE := fun r M Q => t r M fun ds M1 => ds.length ≤ sizeLine ∧ Q (.lst ds) M1
/-- a list that will be changed -/
def dOwn (t : DTA) : DTE := fun r M Q => t r M fun ds M1 => ds.length ≤ sizeLine ∧ Q (.own M1.length) (M1 ++ [.lst ds])
theorem de_tup {es : List Expr} {x1} {t : DTA} (h : DA X es t) : DE X (.Tuple es x1 pos) (dTup t) :=
  DE.of (pe_tup h.pa) fun ph S r M σ H Q hs ht Q' hq => ⟨ph, S, r, M, _, hs, ht, fun vs H1 ⟨ph1, S1, M1, x1, hs1, ds, q1, hz, g1⟩ =>
    ⟨by rw [q1.len]; exact hz, fun p hp => hq _ _ (Aft.up x1 (Aft.frz hs1 hp fun x => ⟨_, .tup (.inl upd_same) (q1.up x), g1⟩))⟩⟩
theorem de_lst {es : List Expr} {t : DTA} (h : DA X es t) : DE X (.List es pos) (dLst t) :=
  DE.of (pe_lst h.pa) fun ph S r M σ H Q hs ht Q' hq => ⟨ph, S, r, M, _, hs, ht, fun vs H1 ⟨ph1, S1, M1, x1, hs1, ds, q1, hz, g1⟩ =>
    ⟨by rw [q1.len]; exact hz, fun p hp => hq _ _ (Aft.up x1 (Aft.frz hs1 hp fun x => ⟨_, .lst upd_same (q1.up x), g1⟩))⟩⟩
theorem Aft.own {K : PySem.W.Frag} {ph : Ph} {S : Hp} {r : Env} {σ : St} {H : Hp} {M : Mem} {p : Addr} {xs : List V} {ds : List D} {Q : DQ} (h : Sat K ph S r M σ H) (hp : H p = none) (hr : RepAll K ph S xs ds) (q : Q (.own M.length) (M ++ [.lst ds])) :
    post K ph S r σ Q (.ref p) (upd H p (.lst xs)) :=
  let ⟨x, hs, e⟩ := h.new hp hr
  ⟨_, _, _, x, hs, _, .own e, q⟩
theorem de_own {es : List Expr} {t : DTA} (h : DA X es t) : DE X (.List es pos) (dOwn t) :=
  DE.of (pe_lst h.pa) fun ph S r M σ H Q hs ht Q' hq => ⟨ph, S, r, M, _, hs, ht, fun vs H1 ⟨ph1, S1, M1, x1, hs1, ds, q1, hz, g1⟩ =>
    ⟨by rw [q1.len]; exact hz, fun p hp => hq _ _ (Aft.up x1 (Aft.own hs1 hp q1 g1))⟩⟩
/-! ### subscripts -/
/-- d's item at i, for every kind of sequence -/
def gIx : G2 := fun x y M Q => match res M x, y with
  | .lst l, .int i => match atI l i with
    | some d => Q d M
    | none => False
  | .tup l, .int i => match atI l i with
    | some d => Q d M
    | none => False
  | .scr ns, .int i => match atI ns i with
    | some n => Q (.int n) M
    | none => False
  | _, _ => False
theorem atI_rep {K : PySem.W.Frag} {ph : Ph} {S : Hp} {vs : List V} {ds : List D} {i : Int} {d : D} (h : RepAll K ph S vs ds) (e : atI ds i = some d) : ∃ v, atI vs i = some v ∧ Rep K ph S v d := by
  unfold atI at e ⊢
  rw [h.len]
  cases q : ixN ds.length i with
  | none => rw [q] at e; cases e
  | some j =>
    rw [q] at e
    exact h.get e
theorem atI_map {α β : Type} {f : α → β} {l : List α} {i : Int} {x : α} (e : atI l i = some x) : atI (l.map f) i = some (f x) := by
  unfold atI at e ⊢
  rw [List.length_map]
  cases q : ixN l.length i with
  | none => rw [q] at e; cases e
  | some j =>
    rw [q] at e
    show (l.map f)[j]? = _
    rw [List.getElem?_map]
    rw [show l[j]? = some x from e]
    rfl
/-- an owned list's items represent over S -/
theorem res_lst {K : PySem.W.Frag} {ph : Ph} {S : Hp} {r : Env} {M : Mem} {σ : St} {H : Hp} {v : V} {d : D} {l : List D} (hs : Sat K ph S r M σ H) (q : Rep K ph S v d) (e : res M d = .lst l) : ∃ a xs, v = .ref a ∧ H a = some (.lst xs) ∧ RepAll K ph S xs l := by
  cases d <;> first | (unfold res at e; cases e; done) | skip
  · cases e
    cases q with
    | lst h1 h2 => exact ⟨_, _, rfl, hs.sub _ _ h1, h2⟩
  · rename_i k
    unfold res at e
    dsimp only at e
    split at e
    · rename_i ds hk
      cases e
      cases q with
      | own h =>
        obtain ⟨a, xs, c1, c2, c3, c4⟩ := hs.cell k _ hk
        rw [h] at c1; cases c1
        exact ⟨_, _, rfl, c3, c4⟩
    · cases e
theorem res_tup {M : Mem} {d : D} {l : List D} (e : res M d = .tup l) : d = .tup l := by
  cases d <;> first | exact e | skip
  unfold res at e
  dsimp only at e
  split at e <;> cases e
theorem res_scr {M : Mem} {d : D} {l : List Int} (e : res M d = .scr l) : d = .scr l := by
  cases d <;> first | exact e | skip
  unfold res at e
  dsimp only at e
  split at e <;> cases e
theorem de_ix {ta tb : DTE} (ha : DE X a ta) (hb : DE X b tb) (hs : PlainIx b := by exact fun _ _ => rfl) : DE X (.Subscript a b pos) (dOp gIx ta tb) :=
  DE.of (pe_ix (ix_list.or ix_tup) ha.pe hb.pe hs) fun ph S r M σ H Q hs ht Q' hq => ⟨ph, S, r, M, _, hs, ht, fun v H1 ⟨ph1, S1, M1, x1, hs1, d, q1, g1⟩ =>
    ⟨ph1, S1, r, M1, _, hs1, g1, fun u H2 ⟨ph2, S2, M2, x2, hs2, e, q2, g2⟩ => by
      have q1' := q1.up x2
      have xx := x1.trans x2
      replace g2 : gIx d e M2 Q := g2
      unfold gIx at g2
      split at g2
      · rename_i l i er
        cases q2
        split at g2
        · rename_i d' ei
          obtain ⟨p, xs, rfl, hp, hx⟩ := res_lst hs2 q1' er
          obtain ⟨w, ew, qw⟩ := atI_rep hx ei
          exact .inl ⟨p, xs, i, w, rfl, rfl, SqL.of hp, ew, hq _ _ ⟨ph2, S2, M2, xx, hs2, _, qw, g2⟩⟩
        · exact g2.elim
      · rename_i l i er
        cases q2
        split at g2
        · rename_i d' ei
          cases res_tup er
          cases q1' with
          | tup h1 h2 =>
            obtain ⟨w, ew, qw⟩ := atI_rep h2 ei
            exact .inr ⟨_, _, i, w, rfl, rfl, h1.sq hs2.sub, ew, hq _ _ ⟨ph2, S2, M2, xx, hs2, _, qw, g2⟩⟩
        · exact g2.elim
      · rename_i ns i er
        cases q2
        split at g2
        · rename_i n ei
          cases res_scr er
          cases q1' with
          | scr h1 => exact .inl ⟨_, _, i, _, rfl, rfl, hs2.sub.seq h1, atI_map ei, hq _ _ ⟨ph2, S2, M2, xx, hs2, _, .int _, g2⟩⟩
        · exact g2.elim
      · exact g2.elim⟩⟩
end DL
/-! DL5: defs and their calls -/
namespace DL
open PySem PySem.Spec PyProof.Rows L2
/-! ### a def's promise over the hand layer, where no guard runs -/
structure FnG (P : Program) (w : World) (K : PySem.W.Frag) (mg : Str → Option Value) (base : Heap) (CX : CXT) (k : Nat) (f : Addr) (fd : FuncData) (ps : List Str) (sp : Sp) : Prop where
  len : ∀ vs H Q E, sp vs H Q E → vs.length = ps.length
  run : ∀ (A : Around) (outer : List PySem.Env) (s : Shared) (H : Hp) (args : Args) (us : List Value) (vs : List V) (Q : VK) (E : XK), Room k A → A.guards = some [] → Env0 P w K mg base A outer s H → BindsTo s fd args (ps.zip us) → Vals vs us → sp vs H Q E →
    codeAny (model P w) A (.call (.ref f) args) (CR CX outer P w H s Q E) s
theorem FnG.mono {P : Program} {w : World} {K : PySem.W.Frag} {mg : Str → Option Value} {base : Heap} {CX : CXT} {j k : Nat} {f : Addr} {fd : FuncData} {ps : List Str} {sp : Sp} (F : FnG P w K mg base CX j f fd ps sp) (h : j ≤ k) :
    FnG P w K mg base CX k f fd ps sp := ⟨F.len, fun A outer s H args us vs Q E hr => F.run A outer s H args us vs Q E (hr.mono h)⟩
section
variable {X : Cx} {CX : CXT} {k : Nat} {f : Addr} {fd : FuncData} {ps : List Str} {sp : Sp} {dvs : List V} {ds : List Value} {E : XK} {x : Str} {p pos : Pos} {e : Expr} {es : List Expr} {t : TA}
theorem run_fnG {pins : List (Addr × Obj)} {σ : St} {H : Hp} {s : Shared} {Q : VK} {us : List Value} {vs : List V} (F : FnG X.prog X.w X.K X.mg X.base CX k f fd ps sp) (hr : Room k X.A) (gd : X.A.guards = some []) (hb : Binds X.K fd ps ds) (hd : Vals dvs ds) (hx : Passes CX X E)
    (I : Inv X pins σ H s) (r : Vals vs us) (h : sp (vs ++ dvs) H Q E) : wpAny (model X.prog X.w) X.A (call (.ref f) us) (EP X pins σ Q) X.xe s := by
  have r2 : Vals (vs ++ dvs) (us ++ ds) := r.append hd
  have hl : (us ++ ds).length = ps.length := by rw [← r2.length]; exact F.len _ _ _ _ h
  refine wpAny_call (codeAny_mono (F.run X.A X.stack s H ⟨us, []⟩ (us ++ ds) (vs ++ dvs) Q E hr gd I.env0 (hb s us I.kIn hl) r2 h) fun r s' hq => ?_)
  match r, hq with
  | .error e, hq => exact hx pins σ H s e s' I hq
  | .ok (.ret u), hq => exact I.after hq
  | .ok .next, hq => exact False.elim hq
  | .ok .brk, hq => exact False.elim hq
  | .ok .cont, hq => exact False.elim hq
theorem pe_callG (F : FnG X.prog X.w X.K X.mg X.base CX k f fd ps sp) (hr : Room k X.A) (gd : X.A.guards = some []) (hg : Gl X x) (hm : X.mg x = some (.ref f)) (hk : PySem.W.keepIn X.K (.ref f) = true) (hb : Binds X.K fd ps ds) (hd : Vals dvs ds) (hx : Passes CX X E)
    (ha : PA X (e :: es) t) (hdb : (x == ("__debug__" : Str)) = false := by decide) (he : starEach (e :: es) X.env = (false, eval e X.env) :: starEach es X.env := by rfl) (hpl : (backTo pos (starEach es X.env)).any (·.1) = false := by rfl) :
    PE X (.Call (.Name x p) (e :: es) [] pos) (tCall sp dvs E t) :=
  ⟨fun pins s σ H Q I h => wpAny_Call_Name_kw (ld_glob I hg hm (PySem.W.callWith_K (h₀ := X.base) I.ok.mod.kin hk (thn (ha.run pos pins s σ H _ I h) fun us s1 ⟨vs, H1, I1, r, q⟩ => ⟨I1.kIn, run_fnG F hr gd hb hd hx I1 r q⟩) he hpl) hdb)⟩
end
/-- a def by its body -/
theorem fnG_of {CX : CXT} {P : Program} {w : World} {K : PySem.W.Frag} {mg : Str → Option Value} {base : Heap} {k : Nat} {f : Addr} {name qual : Str} {params : Arguments} {body : List Stmt} {scope : Scope} {dV kV doc pm cdv ct oc : Value} {an od : Option Addr}
    {osl : Array (Option Value)} {N ps : List Str} {sp : Sp} (lk : K.lookup f = some ⟨oc, od, .func (PySem.W.fnOf name qual params body scope dV kV doc pm an cdv ct), osl⟩) (hcd : PySem.W.codeIn K cdv qual = true) (S : FnScope N ps scope)
    (len : ∀ vs H Q E, sp vs H Q E → vs.length = ps.length)
    (hbody : ∀ (A : Around) (outer : List PySem.Env) (s : Shared) (H : Hp) (vs : List V) (Q : VK) (E : XK), Room k (A.deeper (envOfC qual scope s.heap.objs.size f cdv)) → A.guards = some [] → sp vs H Q E →
      ∃ t, PSs (cxOf CX P w K mg base N qual scope f cdv A outer s H E) body t ∧ t { nx := fun _ H' => Q .non H', rt := Q } (start N vs) H) :
    FnG P w K mg base CX (k + 1) f (PySem.W.fnOf name qual params body scope dV kV doc pm an cdv ct) ps sp := by
  refine ⟨len, fun A outer s H args us vs Q E hr gd e0 hb r hsp => ?_⟩
  have hl := len _ _ _ _ hsp
  have KX : K.In s.heap := e0.mod.kin.keeps fun b o e => (e0.bs b o e).1
  have lim : s.heap.NoLimit := e0.mod.nolimit.keeps fun b o e => (e0.bs b o e).1
  refine codeAny_call_function hr.depth (KX _ _ lk) rfl S.co S.gen rfl (PySem.W.codeRec_of KX hcd) (hb _ _ _ _ ?_)
  refine wpAny_newFunctionEnv_cells S.kind (fun y hy => ?_) fun env he s1 x => ?_
  · rcases S.par y.1 (List.of_mem_zip (a := y.1) (b := y.2) hy).1 with q | q
    · exact .inl q
    · exact .inr ⟨q, PySem.W.cellsFrom_some _ _ _ (.inl q)⟩
  subst he
  refine ⟨lim.keeps x.toInCall.keep, codeAny_func ?_⟩
  obtain ⟨t, ht, hq⟩ := hbody A outer s H vs Q E (hr.deeper _) gd hsp
  have I : Inv (cxOf CX P w K mg base N qual scope f cdv A outer s H E) [] (start N vs) H s1 := inv_start S hr.hd e0 hl r x
  refine wpAny_mono (ht.run [] s1 (start N vs) H _ I hq) (fun fl s' hs => ?_) fun e s' hs => hs
  match fl, hs with
  | .ret u, ⟨v, σ', H', J, rv, q⟩ => exact ⟨v, H', J.os, J.bare, J.base, J.hok, rv, q⟩
  | .next, ⟨σ', H', J, q⟩ => exact ⟨V.non, H', J.os, J.bare, J.base, J.hok, rfl, q⟩
  | .brk, ⟨_, _, _, q⟩ => exact False.elim q
  | .cont, ⟨_, _, _, q⟩ => exact False.elim q
/-! ### a def's promise over data -/
/-- what is wanted of an exception: its class, its value, the cells -/
abbrev DX := Str → D → Mem → Prop
abbrev DSp := List D → Mem → DQ → DX → Prop
def DX0 : DX := fun _ _ _ => False
def postM (K : PySem.W.Frag) (ph : Ph) (S : Hp) (Q : DQ) : VK := post K ph S [] [] Q
def postX (K : PySem.W.Frag) (ph : Ph) (S : Hp) (E : DX) : XK := fun cls d H => ∃ (x : Str) (C T dd : Addr) (v : V) (dv : D), XA.ErC K x C T ∧ cls = .ref C ∧ d = some dd ∧
  Aft K ph S [] [] H fun ph' S' M => S' dd = some (.xd [(fVal, v)]) ∧ Rep K ph' S' v dv ∧ E x dv M
def lfSp (K : PySem.W.Frag) (n : Nat) (sp : DSp) : Sp := fun vs H Q E => ∃ ph S M ds Q0 E0, ds.length = n ∧ Sat K ph S [] M [] H ∧ RepAll K ph S vs ds ∧ sp ds M Q0 E0 ∧ (∀ v H', postM K ph S Q0 v H' → Q v H') ∧ (∀ cls d H', postX K ph S E0 cls d H' → E cls d H')
abbrev FnD (P : Program) (w : World) (K : PySem.W.Frag) (mg : Str → Option Value) (base : Heap) (CX : CXT) (k : Nat) (f : Addr) (fd : FuncData) (ps : List Str) (sp : DSp) : Prop :=
  FnG P w K mg base CX k f fd ps (lfSp K ps.length sp)
theorem Sat.drop {K : PySem.W.Frag} {ph : Ph} {S : Hp} {r : Env} {M : Mem} {σ : St} {H : Hp} (h : Sat K ph S r M σ H) : Sat K ph S [] M [] H :=
  ⟨h.sub, h.len, h.nd, h.trk, h.own, h.hid, h.hnd, rfl, fun i d e => by simp at e⟩
/-- behind a call the names are as they were -/
theorem Sat.back {K : PySem.W.Frag} {ph ph' : Ph} {S S' : Hp} {r : Env} {M M' : Mem} {σ : St} {H H' : Hp} (h : Sat K ph S r M σ H) (x : Ext ph S ph' S') (h' : Sat K ph' S' [] M' [] H') : Sat K ph' S' r M' σ H' :=
  ⟨h'.sub, h'.len, h'.nd, h'.trk, h'.own, h'.hid, h'.hnd, h.el, fun i d e => let ⟨v, e1, q⟩ := h.env i d e; ⟨v, e1, q.up x⟩⟩
section
variable {X : Cx} {CX : CXT} {k : Nat} {f : Addr} {fd : FuncData} {ps : List Str} {sp : DSp} {x : Str} {p pos : Pos} {e : Expr} {es : List Expr} {t : DTA}
/-- f(..), then the defaults -/
def dCall (n : Nat) (sp : DSp) (dvs : List D) (E : DX) (t : DTA) : DTE := fun r M Q => t r M fun ds M1 => (ds ++ dvs).length = n ∧ sp (ds ++ dvs) M1 Q E
/-- a value that is the same everywhere -/
def Cst (K : PySem.W.Frag) (v : V) (d : D) : Prop := ∀ ph S, Rep K ph S v d
inductive Csts (K : PySem.W.Frag) : List V → List D → Prop
  | nil : Csts K [] []
  | cons {v : V} {d : D} {vs : List V} {ds : List D} : Cst K v d → Csts K vs ds → Csts K (v :: vs) (d :: ds)
theorem Csts.rep {K : PySem.W.Frag} {ph : Ph} {S : Hp} : ∀ {vs : List V} {ds : List D}, Csts K vs ds → RepAll K ph S vs ds
  | _, _, .nil => .nil
  | _, _, .cons h t => .cons (h _ _) t.rep
theorem lf_call {t' : TA} {dvs : List V} {dds : List D} {E' : XK} {E : DX} (hE : ∀ ph S cls d H', postX X.K ph S E cls d H' → E' cls d H') (hc : Csts X.K dvs dds) {ph : Ph} {S : Hp} {r : Env} {M : Mem} {σ : St} {H : Hp} {Q : DQ} {Q' : VK} (hs : Sat X.K ph S r M σ H) (ht : dCall ps.length sp dds E t r M Q) (hq : ∀ v H', post X.K ph S r σ Q v H' → Q' v H')
    (w : ∀ Q1 : List V → Hp → Prop, (∀ vs H', postA X.K ph S r σ (fun ds M1 => (ds ++ dds).length = ps.length ∧ sp (ds ++ dds) M1 Q E) vs H' → Q1 vs H') → t' σ H Q1) : tCall (lfSp X.K ps.length sp) dvs E' t' σ H Q' :=
  w _ fun vs H1 ⟨ph1, S1, M1, x1, hs1, ds, q1, hl, h1⟩ => ⟨ph1, S1, M1, ds ++ dds, Q, E, hl, hs1.drop, q1.app hc.rep, h1, fun v H2 ⟨ph2, S2, M2, x2, hs2, d, q2, h2⟩ => hq _ _ ⟨ph2, S2, M2, x1.trans x2, hs1.back x2 hs2, d, q2, h2⟩, fun cls d H2 h2 => hE _ _ _ _ _ h2⟩
theorem de_callX {dvs : List V} {dds : List D} {ds : List Value} {E' : XK} {E : DX} (F : FnD X.prog X.w X.K X.mg X.base CX k f fd ps sp) (hr : Room k X.A) (gd : X.A.guards = some []) (hm : X.mg x = some (.ref f)) (hk : PySem.W.keepIn X.K (.ref f) = true) (hb : Binds X.K fd ps ds) (hd : Vals dvs ds) (hc : Csts X.K dvs dds) (hx : Passes CX X E') (hE : ∀ ph S cls d H', postX X.K ph S E cls d H' → E' cls d H')
    (ha : DA X (e :: es) t) (hg : Gl X x := by rfl) (hdb : (x == ("__debug__" : Str)) = false := by decide) (he : starEach (e :: es) X.env = (false, eval e X.env) :: starEach es X.env := by rfl) (hpl : (backTo pos (starEach es X.env)).any (·.1) = false := by rfl) :
    DE X (.Call (.Name x p) (e :: es) [] pos) (dCall ps.length sp dds E t) :=
  DE.of (pe_callG F hr gd hg hm hk hb hd hx ha.pa hdb he hpl) fun ph S r M σ H Q hs ht Q' hq => lf_call hE hc hs ht hq fun Q1 hQ1 => ⟨ph, S, r, M, _, hs, ht, hQ1⟩
theorem pX0 : ∀ ph S cls d H', postX X.K ph S DX0 cls d H' → E0 cls d H' := fun _ _ _ _ _ ⟨_, _, _, _, _, _, _, _, _, _, _, _, _, _, _, _, z⟩ => z
/-- what is told of a def of the module, for its callers -/
structure Def (P : Program) (w : World) (K : PySem.W.Frag) (mg : Str → Option Value) (base : Heap) (CX : CXT) (k : Nat) (x : Str) (st : Stmt) (ps : List Str) (sp : DSp) : Prop where
  ex : ∃ (f : Addr) (fd : FuncData), FnD P w K mg base CX k f fd ps sp ∧ mg x = some (.ref f) ∧ PySem.W.keepIn K (.ref f) = true ∧ Binds K fd ps [] ∧ Fun K x x st f fd
/-- a call of a def from which nothing is raised -/
theorem dcall {n : Nat} {st : Stmt} {P : Program} {w : World} {K : PySem.W.Frag} {mg : Str → Option Value} {base : Heap} (F : Def P w K mg base CX0 k x st ps sp) {j : Nat} (hr : Room j X.A) (gd : X.A.guards = some []) (ha : DA X (e :: es) t) (hj : k ≤ j := by decide) (hn : ps.length = n := by rfl)
    (h1 : P = X.prog := by rfl) (h2 : w = X.w := by rfl) (h3 : K = X.K := by rfl) (h4 : mg = X.mg := by rfl) (h5 : base = X.base := by rfl) (hg : Gl X x := by rfl) (hdb : (x == ("__debug__" : Str)) = false := by decide) (he : starEach (e :: es) X.env = (false, eval e X.env) :: starEach es X.env := by rfl)
    (hpl : (backTo pos (starEach es X.env)).any (·.1) = false := by rfl) : DE X (.Call (.Name x p) (e :: es) [] pos) (dCall n sp [] DX0 t) := by
  subst h1 h2 h3 h4 h5 hn
  obtain ⟨f, fd, h1, h2, h3, h4, _⟩ := F.ex
  exact de_callX h1 (hr.mono hj) gd h2 h3 h4 .nil .nil pass0 pX0 ha hg hdb he hpl
end
/-! ### at the end of a def: the cells that it made are left behind -/
mutual
def below (n : Nat) : D → Bool
  | .tup l => belowAll n l
  | .lst l => belowAll n l
  | .own k => decide (k < n)
  | .exc _ d => below n d
  | _ => true
def belowAll (n : Nat) : List D → Bool
  | [] => true
  | d :: ds => below n d && belowAll n ds
end
def belowO (n : Nat) : Own → Bool
  | .lst l => belowAll n l
  | .oth .dead => true
  | .oth (.dT kvs) => belowAll n (kvs.map (·.2))
  | .oth (.dK kvs) => belowAll n (kvs.map (·.2))
section
variable {K : PySem.W.Frag} {ph : Ph} {S : Hp} {n : Nat}
mutual
theorem Rep.take : ∀ (d : D) (v : V), below n d = true → Rep K ph S v d → Rep K (ph.cut n) S v d
  | .non, _, _, h => by cases h; exact .non
  | .bl _, _, _, h => by cases h; exact .bl _
  | .int _, _, _, h => by cases h; exact .int _
  | .str _, _, _, h => by cases h; exact .str _
  | .tup ds, _, e, h => by
    cases h with
    | tup h1 h2 => exact .tup h1 (RepAll.takeP ds _ (by simpa only [below] using e) h2)
  | .lst ds, _, e, h => by
    cases h with
    | lst h1 h2 => exact .lst h1 (RepAll.takeP ds _ (by simpa only [below] using e) h2)
  | .dct0, _, _, h => by
    cases h with
    | dct0 h1 => exact .dct0 h1
  | .scr ns, _, _, h => by
    cases h with
    | scr h1 => exact .scr h1
  | .own k, _, e, h => by
    cases h with
    | own h1 =>
      have e' : k < n := of_decide_eq_true (by simpa only [below] using e)
      exact .own (by show (ph.cells.take n)[k]? = _; rw [List.getElem?_take_of_lt e']; exact h1)
  | .errS, _, _, h => by
    cases h with
    | errS h0 h1 => exact .errS h0 h1
  | .glb _, _, _, h => by
    cases h with
    | glb h1 => exact .glb h1
  | .exc C d, _, e, h => by
    cases h with
    | exc h0 h1 h2 h3 => exact .exc h0 h1 h2 (Rep.take d _ (by simpa only [below] using e) h3)
  | .val v, _, _, h => by cases h; exact .val _
theorem RepAll.takeP : ∀ (ds : List D) (vs : List V), belowAll n ds = true → RepAll K ph S vs ds → RepAll K (ph.cut n) S vs ds
  | [], _, _, h => by cases h; exact .nil
  | d :: ds, _, e, h => by
    have e' : below n d = true ∧ belowAll n ds = true := by simpa only [belowAll, Bool.and_eq_true] using e
    cases h with
    | cons h1 h2 => exact .cons (Rep.take d _ e'.1 h1) (RepAll.takeP ds _ e'.2 h2)
end
mutual
theorem Rep.belowP : ∀ (d : D) (v : V), Rep K ph S v d → below ph.cells.length d = true
  | .non, _, _ => by simp only [below]
  | .bl _, _, _ => by simp only [below]
  | .int _, _, _ => by simp only [below]
  | .str _, _, _ => by simp only [below]
  | .tup ds, _, h => by
    cases h with
    | tup h1 h2 => simp only [below]; exact RepAll.belowP ds _ h2
  | .lst ds, _, h => by
    cases h with
    | lst h1 h2 => simp only [below]; exact RepAll.belowP ds _ h2
  | .dct0, _, _ => by simp only [below]
  | .scr ns, _, _ => by simp only [below]
  | .own k, _, h => by
    cases h with
    | own h1 => simp only [below]; exact decide_eq_true (List.getElem?_eq_some_iff.mp h1).1
  | .errS, _, _ => by simp only [below]
  | .glb _, _, _ => by simp only [below]
  | .exc C d, _, h => by
    cases h with
    | exc h0 h1 h2 h3 => simp only [below]; exact Rep.belowP d _ h3
  | .val v, _, _ => by simp only [below]
theorem RepAll.belowP : ∀ (ds : List D) (vs : List V), RepAll K ph S vs ds → belowAll ph.cells.length ds = true
  | [], _, _ => by simp only [belowAll]
  | d :: ds, _, h => by
    cases h with
    | cons h1 h2 => simp only [belowAll, Bool.and_eq_true]; exact ⟨Rep.belowP d _ h1, RepAll.belowP ds _ h2⟩
end
end
mutual
theorem below.mono {m n : Nat} (hmn : m ≤ n) : ∀ d : D, below m d = true → below n d = true
  | .non, _ => by simp only [below]
  | .bl _, _ => by simp only [below]
  | .int _, _ => by simp only [below]
  | .str _, _ => by simp only [below]
  | .tup ds, h => by
    simp only [below] at h ⊢
    exact belowAll.mono hmn ds h
  | .lst ds, h => by
    simp only [below] at h ⊢
    exact belowAll.mono hmn ds h
  | .dct0, _ => by simp only [below]
  | .scr _, _ => by simp only [below]
  | .own k, h => by
    simp only [below] at h ⊢
    have := of_decide_eq_true h
    exact decide_eq_true (by omega)
  | .errS, _ => by simp only [below]
  | .glb _, _ => by simp only [below]
  | .exc _ d, h => by
    simp only [below] at h ⊢
    exact below.mono hmn d h
  | .val _, _ => by simp only [below]
theorem belowAll.mono {m n : Nat} (hmn : m ≤ n) : ∀ ds : List D, belowAll m ds = true → belowAll n ds = true
  | [], _ => by simp only [belowAll]
  | d :: ds, h => by
    simp only [belowAll, Bool.and_eq_true] at h ⊢
    exact ⟨below.mono hmn d h.1, belowAll.mono hmn ds h.2⟩
end
theorem belowO.monoO {m n : Nat} (hmn : m ≤ n) {w : Own} (h : belowO m w = true) : belowO n w = true := by
  rcases w with l | _ | l | l
  · simp only [belowO] at h ⊢; exact belowAll.mono hmn _ h
  · rfl
  · simp only [belowO] at h ⊢; exact belowAll.mono hmn _ h
  · simp only [belowO] at h ⊢; exact belowAll.mono hmn _ h
theorem OwnR.take {K : PySem.W.Frag} {ph : Ph} {S : Hp} {n : Nat} {w : Own} {o : HO} (hb : belowO n w = true) (h : OwnR K ph S w o) : OwnR K (ph.cut n) S w o := by
  rcases w with l | _ | l | l
  · obtain ⟨xs, e, r⟩ := h; exact ⟨xs, e, RepAll.takeP _ _ (by simpa only [belowO] using hb) r⟩
  · trivial
  · obtain ⟨xs, e, r1, r⟩ := h; exact ⟨xs, e, r1, RepAll.takeP _ _ (by simpa only [belowO] using hb) r⟩
  · obtain ⟨xs, e, r1, r⟩ := h; exact ⟨xs, e, r1, RepAll.takeP _ _ (by simpa only [belowO] using hb) r⟩
theorem OwnR.below {K : PySem.W.Frag} {ph : Ph} {S : Hp} {w : Own} {o : HO} (h : OwnR K ph S w o) : belowO ph.cells.length w = true := by
  rcases w with l | _ | l | l
  · obtain ⟨xs, e, r⟩ := h; simp only [belowO]; exact RepAll.belowP _ _ r
  · rfl
  · obtain ⟨xs, e, r1, r⟩ := h; simp only [belowO]; exact RepAll.belowP _ _ r
  · obtain ⟨xs, e, r1, r⟩ := h; simp only [belowO]; exact RepAll.belowP _ _ r
/-- d and the cells M1 are what stays of M': all else was made by the def -/
def Rtq (M : Mem) (Q : DQ) : DQ := fun d M' => ∃ M1 G, M' = M1 ++ G ∧ M.length ≤ M1.length ∧ below M1.length d = true ∧ (∀ (i : Nat) (c : Own), M1[i]? = some c → M[i]? = some c ∨ belowO M1.length c = true) ∧ Q d M1
theorem Sat.leave {K : PySem.W.Frag} {ph ph1 : Ph} {S S1 : Hp} {r : Env} {M M1 G : Mem} {σ : St} {H H1 : Hp} (h0 : Sat K ph S [] M [] H) (x : Ext ph S ph1 S1) (h : Sat K ph1 S1 r (M1 ++ G) σ H1) (hl : M.length ≤ M1.length) (hc : ∀ (i : Nat) (c : Own), M1[i]? = some c → M[i]? = some c ∨ belowO M1.length c = true) :
    Ext ph S (ph1.cut M1.length) S1 ∧ Sat K (ph1.cut M1.length) S1 [] M1 [] H1 := by
  have hpl : M1.length ≤ ph1.cells.length := by have := h.len; rw [List.length_append] at this; omega
  have up : ∀ (k : Nat) (a : Addr), k < M1.length → ph1.cells[k]? = some a → (ph1.cut M1.length).cells[k]? = some a := fun k a hk e => by show (ph1.cells.take M1.length)[k]? = _; rw [List.getElem?_take_of_lt hk]; exact e
  have dn : ∀ (k : Nat) (a : Addr), (ph1.cut M1.length).cells[k]? = some a → ph1.cells[k]? = some a := fun k a e => by
    replace e : (ph1.cells.take M1.length)[k]? = some a := e
    have hk : k < M1.length := by
      have := (List.getElem?_eq_some_iff.mp e).1
      rw [List.length_take] at this; omega
    rw [List.getElem?_take_of_lt hk] at e; exact e
  refine ⟨⟨fun k a e => up k a ?_ (x.pre k a e), x.same, x.hid⟩, h.sub, ?_, h.nd.sublist (List.take_sublist _ _), fun k a e => h.trk k a (dn k a e), fun k ds e hli => ?_, fun q hq => ?_, h.hnd, rfl, fun i d e => by simp at e⟩
  · refine Nat.lt_of_lt_of_le ?_ hl
    rw [← h0.len]; exact (List.getElem?_eq_some_iff.mp e).1
  · show (ph1.cells.take M1.length).length = _
    rw [List.length_take]; omega
  · have kl : k < M1.length := (List.getElem?_eq_some_iff.mp e).1
    obtain ⟨a, o, c1, c2, c3, c4⟩ := h.own k ds (by rw [List.getElem?_append_left kl]; exact e) hli
    refine ⟨a, o, up k a (by omega) c1, c2, c3, OwnR.take ?_ c4⟩
    rcases hc k _ e with q | q
    · obtain ⟨_, _, _, _, _, b4⟩ := h0.own k ds q hli
      refine belowO.monoO hl ?_
      rw [← h0.len]; exact b4.below
    · exact q
  · obtain ⟨h1, h2, h3⟩ := h.hid q hq
    exact ⟨h1, h2, fun z => h3 (List.mem_of_mem_take z)⟩
theorem Rtq.out {K : PySem.W.Frag} {ph : Ph} {S : Hp} {M : Mem} {H : Hp} {Q : DQ} (h0 : Sat K ph S [] M [] H) {v : V} {H1 : Hp} (h : postR K ph S (Rtq M Q) v H1) : postM K ph S Q v H1 := by
  obtain ⟨r, σ, ph1, S1, M', x, hs, d, q, M1, G, rfl, hl, hb, hc, hq⟩ := h
  obtain ⟨x2, hs2⟩ := Sat.leave h0 x hs hl hc
  exact ⟨_, _, _, x2, hs2, d, Rep.take d v hb q, hq⟩
/-- the names at the entry -/
def startD (n : Nat) (ds : List D) : Env := ds.map some ++ List.replicate (n - ds.length) none
theorem Sat.start {K : PySem.W.Frag} {ph : Ph} {S : Hp} {M : Mem} {H : Hp} {vs : List V} {ds : List D} (h : Sat K ph S [] M [] H) (q : RepAll K ph S vs ds) (N : List Str) : Sat K ph S (startD N.length ds) M (L2.start N vs) H := by
  refine ⟨h.sub, h.len, h.nd, h.trk, h.own, h.hid, h.hnd, ?_, fun i d e => ?_⟩
  · unfold startD L2.start
    rw [List.length_append, List.length_append, List.length_map, List.length_map, List.length_replicate, List.length_replicate, q.len]
  · unfold startD at e
    by_cases hi : i < ds.length
    · rw [List.getElem?_append_left (by rw [List.length_map]; exact hi), List.getElem?_map] at e
      cases e' : ds[i]? with
      | none => rw [e'] at e; cases e
      | some d' =>
        rw [e'] at e
        have e2 : d' = d := by simpa using e
        subst e2
        obtain ⟨v, ev, qv⟩ := q.get e'
        refine ⟨v, ?_, qv⟩
        unfold L2.start
        rw [List.getElem?_append_left (by rw [List.length_map, q.len]; exact hi), List.getElem?_map, ev]
        rfl
    · rw [List.getElem?_append_right (by rw [List.length_map]; omega), List.getElem?_replicate] at e
      split at e <;> cases e
/-- what the body's end is for the def -/
def dEnds (M : Mem) (Q : DQ) : DEnds := { nx := fun _ M' => Rtq M Q .non M', rt := Rtq M Q }
section
variable {P : Program} {w : World} {K : PySem.W.Frag} {mg : Str → Option Value} {base : Heap}
/-- THE RULE: a def from which nothing is raised, by its body; its end leaves its own cells behind -/
theorem Fun.okD {x qual : Str} {st : Stmt} {f : Addr} {fd : FuncData} {N ps : List Str} {k : Nat} {sp : DSp} {t : DTS} (F : Fun K x qual st f fd) (S : FnScope N ps (defScope st))
    (hder : ∀ (cdv : Value) (A : Around) (outer : List PySem.Env) (s : Shared) (H : Hp) (E : XK), Room k (A.deeper (envOfC qual (defScope st) s.heap.objs.size f cdv)) → (A.deeper (envOfC qual (defScope st) s.heap.objs.size f cdv)).guards = some [] →
      DSs (cxOf CX0 P w K mg base N qual (defScope st) f cdv A outer s H E).nox (defBody st) t)
    (hread : ∀ ds M Q, ds.length = ps.length → sp ds M Q DX0 → t (dEnds M Q) (startD N.length ds) M)
    (hX : ∀ ds M Q E, sp ds M Q E → sp ds M Q DX0 := by exact fun _ _ _ _ h => h) : FnD P w K mg base CX0 (k + 1) f fd ps sp := by
  obtain ⟨oc, od, kV, doc, pm, an, cdv, ct, osl, rfl, lk, hcd⟩ := F.ex
  refine fnG_of lk hcd S (fun vs H Q E h => ?_) fun A outer s H vs Q E hr gd hsp => ?_
  · obtain ⟨_, _, _, _, _, _, hl, _, q, _⟩ := h
    rw [q.len]; exact hl
  · obtain ⟨ph, S0, M, ds, Q0, E0, hl, hs, hq, h, h1, h2⟩ := hsp
    refine ⟨_, (hder cdv A outer s H E hr gd).pss.nox, ph, S0, startD N.length ds, M, dEnds M Q0, hs.start hq N, hread ds M Q0 hl (hX _ _ _ _ h), ?_, ?_, ?_, ?_⟩
    · rintro σ' H' ⟨r, ph1, S1, M1, x, hs1, z⟩
      exact h1 _ _ (Rtq.out hs ⟨r, σ', ph1, S1, M1, x, hs1, .non, .non, z⟩)
    · exact fun v H' z => h1 _ _ (Rtq.out hs z)
    · rintro σ' H' ⟨r, ph1, S1, M1, x, hs1, z⟩
      exact z.elim
    · rintro σ' H' ⟨r, ph1, S1, M1, x, hs1, z⟩
      exact z.elim
end
end DL
/-! DL6: statements, loops, comprehensions -/
namespace DL
open PySem PySem.Spec PyProof.Rows L2
variable {X : Cx}
theorem DS.of {st : Stmt} {t' : TS} {t : DTS} (h : PS X st t') (w : ∀ ph S r M σ H E, Sat X.K ph S r M σ H → t E r M → ∀ E', (∀ σ' H', postN X.K ph S E.nx σ' H' → E'.nx σ' H') → (∀ v H', postR X.K ph S E.rt v H' → E'.rt v H') → (∀ σ' H', postN X.K ph S E.bk σ' H' → E'.bk σ' H') → (∀ σ' H', postN X.K ph S E.ct σ' H' → E'.ct σ' H') → t' E' σ H) : DS X st t :=
  ⟨PS.weak h fun E σ H ⟨ph, S, r, M, E0, hs, ht, h1, h2, h3, h4⟩ => w ph S r M σ H E0 hs ht E h1 h2 h3 h4⟩
theorem postN.up {K : PySem.W.Frag} {ph ph1 : Ph} {S S1 : Hp} {Q : Env → Mem → Prop} {σ : St} {H : Hp} (x : Ext ph S ph1 S1) (h : postN K ph1 S1 Q σ H) : postN K ph S Q σ H := let ⟨r, q⟩ := h; ⟨r, Aft.up x q⟩
theorem postR.up {K : PySem.W.Frag} {ph ph1 : Ph} {S S1 : Hp} {Q : DQ} {v : V} {H : Hp} (x : Ext ph S ph1 S1) (h : postR K ph1 S1 Q v H) : postR K ph S Q v H := let ⟨r, σ, q⟩ := h; ⟨r, σ, Aft.up x q⟩
/-! ### blocks -/
def dNext : DTS := fun E r M => E.nx r M
def dSeq (t u : DTS) : DTS := fun E r M => t { E with nx := u E } r M
theorem dss_nil : DSs X [] dNext := ⟨PSs.weak pss_nil fun E σ H ⟨ph, S, r, M, E0, hs, ht, h1, _, _, _⟩ => h1 _ _ ⟨r, Aft.here hs ht⟩⟩
theorem lf_on {ph ph1 : Ph} {S S1 : Hp} {r : Env} {M : Mem} {σ : St} {H : Hp} {t : DTS} {E : DEnds} {E' : Ends} (x : Ext ph S ph1 S1) (hs : Sat X.K ph1 S1 r M σ H) (ht : t E r M)
    (h1 : ∀ σ' H', postN X.K ph S E.nx σ' H' → E'.nx σ' H') (h2 : ∀ v H', postR X.K ph S E.rt v H' → E'.rt v H') (h3 : ∀ σ' H', postN X.K ph S E.bk σ' H' → E'.bk σ' H') (h4 : ∀ σ' H', postN X.K ph S E.ct σ' H' → E'.ct σ' H') : lfS X.K t E' σ H :=
  ⟨ph1, S1, r, M, E, hs, ht, fun _ _ z => h1 _ _ (z.up x), fun _ _ z => h2 _ _ (z.up x), fun _ _ z => h3 _ _ (z.up x), fun _ _ z => h4 _ _ (z.up x)⟩
theorem dss_cons {st : Stmt} {rest : List Stmt} {t u : DTS} (h : DS X st t) (h' : DSs X rest u) : DSs X (st :: rest) (dSeq t u) :=
  ⟨PSs.weak (pss_cons h.ps h'.pss) fun E σ H ⟨ph, S, r, M, E0, hs, ht, h1, h2, h3, h4⟩ =>
    ⟨ph, S, r, M, { E0 with nx := u E0 }, hs, ht, fun σ' H' ⟨r1, ph1, S1, M1, x, hs1, z⟩ => lf_on x hs1 z h1 h2 h3 h4, h2, h3, h4⟩⟩
theorem dss_one {st : Stmt} {t : DTS} (h : DS X st t) : DSs X [st] t := ⟨pss_one h.ps⟩
def dNever : DTS := fun _ _ _ => False
theorem ds_never {st : Stmt} : DS X st dNever := ⟨PS.weak ps_never fun E σ H ⟨ph, S, r, M, E0, hs, ht, _⟩ => ht.elim⟩
section
variable {pos : Pos}
/-- an expression whose value is dropped -/
def dDrop (t : DTE) : DTS := fun E r M => t r M fun _ M1 => E.nx r M1
theorem ds_expr {e : Expr} {t : DTE} (he : DE X e t) (hs : swapsWith e none pos.line X.env = pure false := by rfl) : DS X (.Expr e pos) (dDrop t) :=
  DS.of (ps_expr he.pe hs) fun ph S r M σ H E hs ht E' h1 _ _ _ => ⟨ph, S, r, M, _, hs, ht, fun v H' ⟨ph1, S1, M1, x, hs1, d, _, z⟩ => h1 _ _ ⟨r, ph1, S1, M1, x, hs1, z⟩⟩
def dRet (t : DTE) : DTS := fun E r M => t r M E.rt
theorem ds_ret {e : Expr} {t : DTE} (he : DE X e t) : DS X (.Return (some e) pos) (dRet t) :=
  DS.of (ps_ret he.pe) fun ph S r M σ H E hs ht E' _ h2 _ _ => ⟨ph, S, r, M, _, hs, ht, fun v H' z => h2 _ _ ⟨r, σ, z⟩⟩
def dRetN : DTS := fun E _ M => E.rt .non M
def dIfS (c : DTT) (t u : DTS) : DTS := fun E r M => c r M fun b M1 => if b = true then t E r M1 else u E r M1
theorem ds_if {c : Expr} {a b : List Stmt} {tc : DTT} {t u : DTS} (hc : DT X c tc) (ha : DSs X a t) (hb : DSs X b u) : DS X (.If c a b pos) (dIfS tc t u) :=
  DS.of (ps_if hc.pt ha.pss hb.pss) fun ph S r M σ H E hs ht E' h1 h2 h3 h4 => ⟨ph, S, r, M, _, hs, ht, fun k H1 ⟨ph1, S1, M1, x, hs1, z⟩ => by
    cases k with
    | true => exact lf_on x hs1 z h1 h2 h3 h4
    | false => exact lf_on x hs1 z h1 h2 h3 h4⟩
end
/-! ### targets -/
abbrev DTG := D → Env → Mem → (Env → Mem → Prop) → Prop
structure DG (X : Cx) (target : Expr) (g : DTG) : Prop where
  pg : PG X target (fun v σ H Q => ∃ ph S r M d Q0, Sat X.K ph S r M σ H ∧ Rep X.K ph S v d ∧ g d r M Q0 ∧ ∀ σ' H', postN X.K ph S Q0 σ' H' → Q σ' H')
def dName (i : Nat) : DTG := fun d r M Q => Q (r.set i (some d)) M
theorem dg_name {i : Nat} {x : Str} {pos : Pos} (hN : X.N.Nodup) (hi : X.N[i]? = some x := by rfl) (hx : Loc X.env.scope x := by first | exact Or.inl rfl | exact Or.inr rfl) (hf : X.fn x = true ∨ X.env.scope.names.lookup x = some .local := by first | exact .inl rfl | exact .inr rfl | assumption) : DG X (.Name x pos) (dName i) :=
  ⟨⟨fun pins s σ H v u Q I rv ⟨ph, S, r, M, d, Q0, hs, q, hg, h1⟩ => (pg_name hN hi hx hf).run pins s σ H v u Q I rv (h1 _ _ ⟨_, Aft.here (hs.setN q) hg⟩)⟩⟩
abbrev DTGs := List D → Env → Mem → (Env → Mem → Prop) → Prop
structure DGs (X : Cx) (ts : List Expr) (g : DTGs) : Prop where
  pgs : PGs X ts (fun vs σ H Q => ∃ ph S r M ds Q0, Sat X.K ph S r M σ H ∧ RepAll X.K ph S vs ds ∧ g ds r M Q0 ∧ ∀ σ' H', postN X.K ph S Q0 σ' H' → Q σ' H')
def dGNil : DTGs := fun ds r M Q => match ds with
  | [] => Q r M
  | _ => False
def dGCons (g : DTG) (u : DTGs) : DTGs := fun ds r M Q => match ds with
  | d :: rest => g d r M fun r1 M1 => u rest r1 M1 Q
  | _ => False
theorem dgs_nil : DGs X [] dGNil := ⟨⟨fun pins s σ H vs us Q I rv ⟨ph, S, r, M, ds, Q0, hs, q, hg, h1⟩ => pgs_nil.run pins s σ H vs us Q I rv (by
  cases ds with
  | cons d ds => exact hg.elim
  | nil =>
    cases q
    exact ⟨rfl, h1 _ _ ⟨r, Aft.here hs hg⟩⟩)⟩⟩
theorem dgs_cons {e : Expr} {es : List Expr} {g : DTG} {u : DTGs} (h : DG X e g) (h' : DGs X es u) (hst : (assignEach (e :: es) X.env).map (·.2) = assign e X.env :: (assignEach es X.env).map (·.2) := by rfl) : DGs X (e :: es) (dGCons g u) :=
  ⟨⟨fun pins s σ H vs us Q I rv ⟨ph, S, r, M, ds, Q0, hs, q, hg, h1⟩ => (pgs_cons h.pg h'.pgs hst).run pins s σ H vs us Q I rv (by
    cases ds with
    | nil => exact hg.elim
    | cons d ds =>
      cases q with
      | cons q1 q2 => exact ⟨_, _, rfl, ph, S, r, M, d, _, hs, q1, hg, fun σ1 H1 ⟨r1, ph1, S1, M1, x1, hs1, z⟩ => ⟨ph1, S1, r1, M1, ds, Q0, hs1, q2.up x1, z, fun σ2 H2 z2 => h1 _ _ (z2.up x1)⟩⟩)⟩⟩
/-- (a, b, ..) = a tuple, or a list -/
def dGTup (n : Nat) (u : DTGs) : DTG := fun d r M Q => match res M d with
  | .tup ds => ds.length = n ∧ u ds r M Q
  | .lst ds => ds.length = n ∧ u ds r M Q
  | _ => False
theorem dg_tup {es : List Expr} {k : Nat} {u : DTGs} {n : Nat} {pos : Pos} (hc : X.calm = true) (h : DGs X es u) (hn : (assignEach es X.env).length = n := by rfl) (hst : (assignEach es X.env).findIdx? (·.1) = none := by rfl) : DG X (.Tuple es k pos) (dGTup n u) :=
  ⟨⟨fun pins s σ H v u' Q I rv ⟨ph, S, r, M, d, Q0, hs, q, hg, h1⟩ => by
    unfold dGTup at hg
    split at hg
    · rename_i ds e
      have e' := res_tup e
      subst e'
      refine (pg_tup hc h.pgs hn hst).run pins s σ H v u' Q I rv ?_
      cases q with
      | tup q1 q2 => exact ⟨_, _, rfl, q1.sq hs.sub, by rw [q2.len]; exact hg.1, ph, S, r, M, _, Q0, hs, q2, hg.2, h1⟩
    · rename_i ds e
      obtain ⟨a, xs, e1, e2, q2⟩ := res_lst hs q e
      refine (pg_unl hc h.pgs hn hst).run pins s σ H v u' Q I rv ?_
      exact ⟨a, xs, e1, SqL.of e2, by rw [q2.len]; exact hg.1, ph, S, r, M, _, Q0, hs, q2, hg.2, h1⟩
    · exact hg.elim⟩⟩
/-- o[i] = .., o an owned list -/
def gSetL (o i d : D) (M : Mem) (Q : Mem → Prop) : Prop := match o, i with
  | .own k, .int j => match M[k]? with
    | some (.lst l) => match ixN l.length j with
      | some n => Q (M.set k (.lst (l.set n d)))
      | none => False
    | _ => False
  | _, _ => False
def dSub (to ti : DTE) : DTG := fun d r M Q => to r M fun o M1 => ti r M1 fun i M2 => gSetL o i d M2 fun M3 => Q r M3
theorem dg_sub {o i : Expr} {to ti : DTE} {pos : Pos} (ho : DE X o to) (hi : DE X i ti)
    (ha : ∀ v, assign (.Subscript o i pos) X.env v = (do
      let ov ← holding [v] (eval o X.env)
      let iv ← holding [v, ov] (eval i X.env)
      standAt pos
      holding [v, ov, iv] (setItem ov iv v)
      release [v, ov, iv] []) := by intro _; rfl) : DG X (.Subscript o i pos) (dSub to ti) :=
  ⟨⟨fun pins s σ H v u Q I rv ⟨ph, S, r, M, d, Q0, hs, q, hg, h1⟩ => (pg_sub ho.pe hi.pe set_list ha).run pins s σ H v u Q I rv
    ⟨ph, S, r, M, _, hs, hg, fun ov H1 ⟨ph1, S1, M1, x1, hs1, od, q1, g1⟩ => ⟨ph1, S1, r, M1, _, hs1, g1, fun iv H2 ⟨ph2, S2, M2, x2, hs2, id', q2, g2⟩ => by
      replace g2 : gSetL od id' d M2 fun M3 => Q0 r M3 := g2
      cases od with
      | own k =>
        cases id' with
        | int j =>
          unfold gSetL at g2
          dsimp only at g2
          split at g2
          · rename_i l hk
            split at g2
            · rename_i n hn
              cases q2
              cases q1 with
              | own hp =>
                have hp2 := x2.pre _ _ hp
                obtain ⟨a, xs, c1, c2, c3, c4⟩ := hs2.cell k l hk
                rw [hp2] at c1; cases c1
                exact ⟨_, xs, j, n, rfl, rfl, c3, by rw [c4.len]; exact hn, h1 _ _ ⟨r, ph2, S2, _, x1.trans x2, hs2.put hk hp2 (RepAll.set (q.up (x1.trans x2)) n c4), g2⟩⟩
            · exact g2.elim
          · exact g2.elim
        | _ => exact g2.elim
      | _ => exact g2.elim⟩⟩⟩⟩
/-- target = value -/
def dAsg (t : DTE) (g : DTG) : DTS := fun E r M => t r M fun d M1 => g d r M1 E.nx
section
variable {pos : Pos}
theorem ds_asg {tg e : Expr} {t : DTE} {g : DTG} (he : DE X e t) (hg : DG X tg g) (hs : swapsWithSole [tg] e pos.line X.env = pure false := by rfl) (hw : swappedStores [tg] e X.env = pure none := by rfl)
    (h1 : (assignEach [tg] X.env).map (·.2) = [assign tg X.env] := by rfl) : DS X (.Assign [tg] e pos) (dAsg t g) :=
  DS.of (ps_asg he.pe hg.pg hs hw h1) fun ph S r M σ H E hs ht E' h1 _ _ _ => ⟨ph, S, r, M, _, hs, ht, fun v H' ⟨ph1, S1, M1, x, hs1, d, q, z⟩ => ⟨ph1, S1, r, M1, d, E.nx, hs1, q, z, fun σ2 H2 z2 => h1 _ _ (z2.up x)⟩⟩
/-- name = value -/
theorem ds_set {i : Nat} {x : Str} {e : Expr} {t : DTE} {pos' : Pos} (hN : X.N.Nodup) (he : DE X e t) (hi : X.N[i]? = some x := by rfl) (hx : Loc X.env.scope x := by first | exact Or.inl rfl | exact Or.inr rfl) (hs : swapsWith e (some (.Name x pos')) pos.line X.env = pure false := by rfl) (hf : X.fn x = true ∨ X.env.scope.names.lookup x = some .local := by first | exact .inl rfl | exact .inr rfl | assumption) :
    DS X (.Assign [.Name x pos'] e pos) (dAsg t (dName i)) :=
  DS.of (ps_set hN hi hx he.pe hs hf) fun ph S r M σ H E hs ht E' h1 _ _ _ => ⟨ph, S, r, M, _, hs, ht, fun v H' ⟨ph1, S1, M1, x, hs1, d, q, z⟩ => h1 _ _ ⟨_, ph1, S1, M1, x, hs1.setN q, z⟩⟩
/-- a, b = x, y -/
def dPar (i j : Nat) (t : DTA) : DTS := fun E r M => t r M fun ds M1 => match ds with
  | [d, e] => E.nx ((r.set i (some d)).set j (some e)) M1
  | _ => False
theorem ds_par {i j : Nat} {x y : Str} {a b : Expr} {t : DTA} {px py pt : Pos} {kt k2 pt2} (hc : X.calm = true) (hN : X.N.Nodup) (ha : DA X [a, b] t) (hi : X.N[i]? = some x := by rfl) (hj : X.N[j]? = some y := by rfl) (hij : i ≠ j := by decide)
    (hx : X.env.scope.names.lookup x = some .local := by rfl) (hy : X.env.scope.names.lookup y = some .local := by rfl)
    (hw : swappedStores [.Tuple [.Name x px, .Name y py] kt pt] (.Tuple [a, b] k2 pt2) X.env = pure (some [x, y]) := by rfl)
    (hs : swapsWithSole [.Tuple [.Name x px, .Name y py] kt pt] (.Tuple [a, b] k2 pt2) pos.line X.env = pure false := by rfl) :
    DS X (.Assign [.Tuple [.Name x px, .Name y py] kt pt] (.Tuple [a, b] k2 pt2) pos) (dPar i j t) :=
  DS.of (ps_par hc hN hi hj hij hx hy ha.pa hw hs) fun ph S r M σ H E hs ht E' h1 _ _ _ => ⟨ph, S, r, M, _, hs, ht, fun vs H' ⟨ph1, S1, M1, x, hs1, ds, q, z⟩ => by
    match ds, q, z with
    | [d, e], .cons q1 (.cons q2 .nil), z => exact ⟨_, _, rfl, h1 _ _ ⟨_, ph1, S1, M1, x, (hs1.setN q1).setN q2, z⟩⟩⟩
def dPar3 (i j l : Nat) (t : DTA) : DTS := fun E r M => t r M fun ds M1 => match ds with
  | [d, e, f] => E.nx (((r.set i (some d)).set j (some e)).set l (some f)) M1
  | _ => False
theorem ds_par3 {i j l : Nat} {x y z : Str} {a b c : Expr} {t : DTA} {px py pz pt : Pos} {kt k2 pt2} (hc : X.calm = true) (hN : X.N.Nodup) (ha : DA X [a, b, c] t) (hi : X.N[i]? = some x := by rfl) (hj : X.N[j]? = some y := by rfl) (hl : X.N[l]? = some z := by rfl) (hij : i ≠ j := by decide) (hil : i ≠ l := by decide) (hjl : j ≠ l := by decide)
    (hx : X.env.scope.names.lookup x = some .local := by rfl) (hy : X.env.scope.names.lookup y = some .local := by rfl) (hz : X.env.scope.names.lookup z = some .local := by rfl)
    (hw : swappedStores [.Tuple [.Name x px, .Name y py, .Name z pz] kt pt] (.Tuple [a, b, c] k2 pt2) X.env = pure (some [x, y, z]) := by rfl)
    (hs : swapsWithSole [.Tuple [.Name x px, .Name y py, .Name z pz] kt pt] (.Tuple [a, b, c] k2 pt2) pos.line X.env = pure false := by rfl) :
    DS X (.Assign [.Tuple [.Name x px, .Name y py, .Name z pz] kt pt] (.Tuple [a, b, c] k2 pt2) pos) (dPar3 i j l t) :=
  DS.of (ps_par3 hc hN hi hj hl hij hil hjl hx hy hz ha.pa hw hs) fun ph S r M σ H E hs ht E' h1 _ _ _ => ⟨ph, S, r, M, _, hs, ht, fun vs H' ⟨ph1, S1, M1, x, hs1, ds, q, z⟩ => by
    match ds, q, z with
    | [d, e, f], .cons q1 (.cons q2 (.cons q3 .nil)), z => exact ⟨_, _, _, rfl, h1 _ _ ⟨_, ph1, S1, M1, x, ((hs1.setN q1).setN q2).setN q3, z⟩⟩⟩
/-- name op= e (ints) -/
def gIpI (f : Int → Int → Int) (x y : D) (M : Mem) (Q : DQ) : Prop := match x, y with
  | .int i, .int j => Q (.int (f i j)) M
  | _, _ => False
def dAug (i : Nat) (t : DTE) (f : Int → Int → Int) : DTS := fun E r M => match r[i]? with
  | some (some (.int a)) => t r M fun d M1 => gIpI f (.int a) d M1 fun z M2 => E.nx (r.set i (some z)) M2
  | _ => False
/-! ### while -/
def dWhile (c : DTT) (t : DTS) : DTS := fun E r M => ∃ W : Nat → Env → Mem → Prop, (∃ m, W m r M) ∧ ∀ m r M, W m r M →
  c r M fun b M1 => if b = true then t { E with nx := fun r' M' => ∃ m', m' < m ∧ W m' r' M', ct := fun r' M' => ∃ m', m' < m ∧ W m' r' M', bk := E.nx } r M1 else E.nx r M1
theorem ds_while {c : Expr} {body : List Stmt} {tc : DTT} {t : DTS} (hc : DT X c tc) (hb : DSs X body t) (hp : PassesOwn (model X.prog X.w) X.A X.env X.xe := by exact PassesOwn.never) : DS X (.While c body [] pos) (dWhile tc t) :=
  DS.of (ps_while hp hc.pt hb.pss) fun ph S r M σ H E hs ht E' h1 h2 h3 h4 => by
    obtain ⟨W, ⟨m0, w0⟩, turn⟩ := ht
    refine ⟨fun m σ H => postN X.K ph S (W m) σ H, ⟨m0, r, Aft.here hs w0⟩, fun m σ1 H1 ⟨r1, ph1, S1, M1, x1, hs1, w1⟩ => ?_⟩
    refine ⟨ph1, S1, r1, M1, _, hs1, turn m r1 M1 w1, fun b H2 ⟨ph2, S2, M2, x2, hs2, z⟩ => ?_⟩
    cases b with
    | false =>
      rw [if_neg Bool.false_ne_true] at z ⊢
      exact h1 _ _ ⟨r1, ph2, S2, M2, x1.trans x2, hs2, z⟩
    | true =>
      rw [if_pos rfl] at z ⊢
      refine ⟨fun σ' H' => ∃ m', m' < m ∧ postN X.K ph S (W m') σ' H', fun _ _ q => q, ?_⟩
      exact lf_on (x1.trans x2) hs2 z (fun σ' H' ⟨r', ph', S', M', x', hs', m', hm, w'⟩ => ⟨m', hm, r', ph', S', M', x', hs', w'⟩) h2 h1 (fun σ' H' ⟨r', ph', S', M', x', hs', m', hm, w'⟩ => ⟨m', hm, r', ph', S', M', x', hs', w'⟩)
end
/-! ### what is walked -/
/-- J walks the items ds, while C holds of the cells -/
def Wlk (K : PySem.W.Frag) (ph : Ph) (S : Hp) (J : It) (ds : List D) (C : Mem → Prop) : Prop :=
  ∀ (ph' : Ph) S' r M σ H, (∀ (k : Nat) (a : Addr), ph.cells[k]? = some a → ph'.cells[k]? = some a) → Same S S' → Sat K ph' S' r M σ H → C M →
    (∀ i, ds.length ≤ i → J.stop i H) ∧ ∀ i d, ds[i]? = some d → J.go i H ∧ ∀ x H', J.yld i H x H' → Aft K ph' S' r σ H' fun ph2 S2 M2 => M2 = M ∧ Rep K ph2 S2 x d
abbrev DTI := Env → Mem → (List D → (Mem → Prop) → Mem → Prop) → Prop
structure DI (X : Cx) (tg iter : Expr) (t : DTI) : Prop where
  pi : PI X tg iter (fun σ H R => ∃ ph S r M Q0, Sat X.K ph S r M σ H ∧ t r M Q0 ∧ ∀ J H', (Aft X.K ph S r σ H' fun ph' S' M' => ∃ ds C, Wlk X.K ph' S' J ds C ∧ Q0 ds C M') → R J H')
/-- for: W holds ahead of turn i -/
def forW (ds : List D) (C : Mem → Prop) (g : DTG) (t : DTS) (E : DEnds) (r : Env) (M0 : Mem) : Prop := ∃ W : Nat → Env → Mem → Prop, W 0 r M0 ∧ ∀ i r M, W i r M → C M ∧ (ds.length ≤ i → E.nx r M) ∧
  ∀ d, ds[i]? = some d → g d r M fun r2 M2 => t { E with nx := W (i + 1), ct := W (i + 1), bk := E.nx } r2 M2
def dFor (wi : DTI) (g : DTG) (t : DTS) : DTS := fun E r M => wi r M fun ds C M0 => forW ds C g t E r M0
theorem ds_for {tg iter : Expr} {body : List Stmt} {wi : DTI} {g : DTG} {t : DTS} {pos : Pos} (hc : X.calm = true) (hi : DI X tg iter wi) (hg : DG X tg g) (hb : DSs X body t)
    (hs : ∀ x, foldedSetIterable iter X.env x = pure x := by intro _; rfl) (hp : PassesOwn (model X.prog X.w) X.A X.env X.xe := by exact PassesOwn.never) : DS X (.For tg iter body [] pos) (dFor wi g t) :=
  DS.of (ps_for hp hc hi.pi hg.pg hb.pss hs) fun ph S r M σ H E hs ht E' h1 h2 h3 h4 => by
    refine ⟨ph, S, r, M, _, hs, ht, fun J H1 ⟨ph1, S1, M1, x1, hs1, ds, C, wk, W, w0, turn⟩ => ?_⟩
    refine ⟨fun i m σ H => m = ds.length - i ∧ ∃ r', Aft X.K ph1 S1 r' σ H fun _ _ M => W i r' M, ⟨ds.length, by omega, r, Aft.here hs1 w0⟩, ?_⟩
    rintro i m σ3 H3 ⟨rfl, r3, ph3, S3, M3, x3, hs3, w3⟩
    obtain ⟨c3, f3, g3⟩ := turn i r3 M3 w3
    obtain ⟨k1, k2⟩ := wk ph3 S3 r3 M3 σ3 H3 x3.pre x3.same hs3 c3
    by_cases hl : ds.length ≤ i
    · exact .inl ⟨k1 i hl, h1 _ _ ⟨r3, ph3, S3, M3, x1.trans x3, hs3, f3 hl⟩⟩
    · obtain ⟨d, ed⟩ : ∃ d, ds[i]? = some d := ⟨ds[i]'(by omega), List.getElem?_eq_getElem (by omega)⟩
      obtain ⟨k3, k4⟩ := k2 i d ed
      refine .inr ⟨k3, fun σ' H' => ∃ r', Aft X.K ph1 S1 r' σ' H' fun _ _ M => W (i + 1) r' M, fun σ' H' z => ⟨ds.length - (i + 1), by omega, rfl, z⟩, fun x H4 hy => ?_⟩
      obtain ⟨ph4, S4, M4, x4, hs4, rfl, q4⟩ := k4 x H4 hy
      refine ⟨ph4, S4, r3, M4, d, _, hs4, q4, g3 d ed, fun σ5 H5 ⟨r5, ph5, S5, M5, x5, hs5, z5⟩ => ?_⟩
      have xx : Ext ph1 S1 ph5 S5 := x3.trans (x4.trans x5)
      refine ⟨ph5, S5, r5, M5, _, hs5, z5, ?_, ?_, ?_, ?_⟩
      · exact fun σ6 H6 ⟨r6, z6⟩ => ⟨r6, Aft.up xx z6⟩
      · exact fun v H6 z6 => h2 _ _ (z6.up (x1.trans xx))
      · exact fun σ6 H6 z6 => h1 _ _ (z6.up (x1.trans xx))
      · exact fun σ6 H6 ⟨r6, z6⟩ => ⟨r6, Aft.up xx z6⟩
/-! ### comprehensions -/
/-- the tests behind if -/
def dYes : DTT := fun _ M Q => Q true M
structure DTs (X : Cx) (ifs : List Expr) (t : DTT) : Prop where
  pts : PTs X ifs (fun σ H Q => ∃ ph S r M Q0, Sat X.K ph S r M σ H ∧ t r M Q0 ∧ ∀ b H', postT X.K ph S r σ Q0 b H' → Q b H')
theorem dts_nil : DTs X [] dYes := ⟨⟨fun pins s σ H Q I ⟨ph, S, r, M, Q0, hs, ht, hq⟩ => pts_nil.run pins s σ H Q I (hq _ _ (Aft.here hs ht))⟩⟩
theorem dts_one {c : Expr} {t : DTT} (h : DT X c t) : DTs X [c] t := ⟨pts_one h.pt⟩
def wipeD (r : Env) : List Nat → Env
  | [] => r
  | v :: vs => (wipeD r vs).set v none
theorem Sat.clr {K : PySem.W.Frag} {ph : Ph} {S : Hp} {r : Env} {M : Mem} {σ : St} {H : Hp} (h : Sat K ph S r M σ H) (i : Nat) : Sat K ph S (r.set i none) M (σ.set i none) H := by
  refine ⟨h.sub, h.len, h.nd, h.trk, h.own, h.hid, h.hnd, by rw [List.length_set, List.length_set]; exact h.el, fun j e hj => ?_⟩
  by_cases hi : j = i
  · subst hi
    have jl : j < r.length := by
      have := (List.getElem?_eq_some_iff.mp hj).1
      rwa [List.length_set] at this
    rw [List.getElem?_set_self jl] at hj
    cases hj
  · rw [List.getElem?_set_ne (Ne.symm hi)] at hj
    rw [List.getElem?_set_ne (Ne.symm hi)]
    exact h.env j e hj
theorem Sat.wipe {K : PySem.W.Frag} {ph : Ph} {S : Hp} {r : Env} {M : Mem} {σ : St} {H : Hp} (h : Sat K ph S r M σ H) : ∀ vs : List Nat, Sat K ph S (wipeD r vs) M (L2.wipe σ vs) H
  | [] => h
  | v :: vs => (Sat.wipe h vs).clr v
/-- a target whose names are the comprehension's own (places vs) -/
structure DCG (X : Cx) (target : Expr) (vs : List Nat) (g : DTG) : Prop where
  pg : PG X target (fun v σ H Q => ∃ ph S r M d Q0, Sat X.K ph S r M σ H ∧ Rep X.K ph S v d ∧ g d r M Q0 ∧ ∀ σ' H', postN X.K ph S Q0 σ' H' → L2.wipe σ' vs = L2.wipe σ vs → Q σ' H')
theorem wipe_set {σ : St} {i : Nat} {x : Option V} : ∀ {vs : List Nat}, i ∈ vs → L2.wipe (σ.set i x) vs = L2.wipe σ vs
  | [], h => by cases h
  | v :: vs, h => by
    unfold L2.wipe
    by_cases hv : i ∈ vs
    · rw [wipe_set hv]
    · have e : i = v := (List.mem_cons.mp h).resolve_right hv
      subst e
      have key : ∀ (us : List Nat), i ∉ us → L2.wipe (σ.set i x) us = (L2.wipe σ us).set i x := by
        intro us
        induction us with
        | nil => intro _; rfl
        | cons u us ih =>
          intro hu
          unfold L2.wipe
          rw [ih (fun z => hu (List.mem_cons_of_mem _ z)), List.set_comm _ _ (fun e => hu (by rw [e]; exact List.mem_cons_self))]
      rw [key vs hv, List.set_set]
theorem dcg_name {i : Nat} {x : Str} {pos : Pos} {vs : List Nat} (hN : X.N.Nodup) (hi : X.N[i]? = some x := by rfl) (hv : i ∈ vs := by decide) (hx : Loc X.env.scope x := by first | exact Or.inl rfl | exact Or.inr rfl) (hf : X.fn x = true ∨ X.env.scope.names.lookup x = some .local := by first | exact .inl rfl | exact .inr rfl | assumption) : DCG X (.Name x pos) vs (dName i) :=
  ⟨⟨fun pins s σ H v u Q I rv ⟨ph, S, r, M, d, Q0, hs, q, hg, h1⟩ => (pg_name hN hi hx hf).run pins s σ H v u Q I rv (h1 _ _ ⟨_, Aft.here (hs.setN q) hg⟩ (wipe_set hv))⟩⟩
structure DCGs (X : Cx) (ts : List Expr) (vs : List Nat) (g : DTGs) : Prop where
  pgs : PGs X ts (fun us σ H Q => ∃ ph S r M ds Q0, Sat X.K ph S r M σ H ∧ RepAll X.K ph S us ds ∧ g ds r M Q0 ∧ ∀ σ' H', postN X.K ph S Q0 σ' H' → L2.wipe σ' vs = L2.wipe σ vs → Q σ' H')
theorem dcgs_nil {vs : List Nat} : DCGs X [] vs dGNil := ⟨⟨fun pins s σ H us us' Q I rv ⟨ph, S, r, M, ds, Q0, hs, q, hg, h1⟩ => pgs_nil.run pins s σ H us us' Q I rv (by
  cases ds with
  | cons d ds => exact hg.elim
  | nil =>
    cases q
    exact ⟨rfl, h1 _ _ ⟨r, Aft.here hs hg⟩ rfl⟩)⟩⟩
theorem dcgs_cons {e : Expr} {es : List Expr} {vs : List Nat} {g : DTG} {u : DTGs} (h : DCG X e vs g) (h' : DCGs X es vs u) (hst : (assignEach (e :: es) X.env).map (·.2) = assign e X.env :: (assignEach es X.env).map (·.2) := by rfl) : DCGs X (e :: es) vs (dGCons g u) :=
  ⟨⟨fun pins s σ H us us' Q I rv ⟨ph, S, r, M, ds, Q0, hs, q, hg, h1⟩ => (pgs_cons h.pg h'.pgs hst).run pins s σ H us us' Q I rv (by
    cases ds with
    | nil => exact hg.elim
    | cons d ds =>
      cases q with
      | cons q1 q2 => exact ⟨_, _, rfl, ph, S, r, M, d, _, hs, q1, hg, fun σ1 H1 ⟨r1, ph1, S1, M1, x1, hs1, z⟩ e1 => ⟨ph1, S1, r1, M1, ds, Q0, hs1, q2.up x1, z, fun σ2 H2 z2 e2 => h1 _ _ (z2.up x1) (e2.trans e1)⟩⟩)⟩⟩
theorem dcg_tup {es : List Expr} {k : Nat} {u : DTGs} {n : Nat} {pos : Pos} {vs : List Nat} (hc : X.calm = true) (h : DCGs X es vs u) (hn : (assignEach es X.env).length = n := by rfl) (hst : (assignEach es X.env).findIdx? (·.1) = none := by rfl) : DCG X (.Tuple es k pos) vs (dGTup n u) :=
  ⟨⟨fun pins s σ H v u' Q I rv ⟨ph, S, r, M, d, Q0, hs, q, hg, h1⟩ => by
    unfold dGTup at hg
    split at hg
    · rename_i ds e
      have e' := res_tup e
      subst e'
      refine (pg_tup hc h.pgs hn hst).run pins s σ H v u' Q I rv ?_
      cases q with
      | tup q1 q2 => exact ⟨_, _, rfl, q1.sq hs.sub, by rw [q2.len]; exact hg.1, ph, S, r, M, _, Q0, hs, q2, hg.2, h1⟩
    · rename_i ds e
      obtain ⟨a, xs, e1, e2, q2⟩ := res_lst hs q e
      refine (pg_unl hc h.pgs hn hst).run pins s σ H v u' Q I rv ?_
      exact ⟨a, xs, e1, SqL.of e2, by rw [q2.len]; exact hg.1, ph, S, r, M, _, Q0, hs, q2, hg.2, h1⟩
    · exact hg.elim⟩⟩
/-- [e for target in iter if ..]: W holds ahead of turn i with the items made so far; own: the list will be changed -/
def lcW (own : Bool) (ds : List D) (C : Mem → Prop) (g : DTG) (tt : DTT) (te : DTE) (r : Env) (M0 : Mem) (Q : DQ) : Prop := ∃ W : Nat → List D → Mem → Prop, W 0 [] M0 ∧ ∀ i acc M, W i acc M → C M ∧
  (ds.length ≤ i → if own = true then Q (.own M.length) (M ++ [.lst acc]) else Q (.lst acc) M) ∧
  ∀ d, ds[i]? = some d → g d r M fun r2 M2 => tt r2 M2 fun b M3 => if b = true then te r2 M3 fun e M4 => acc.length < sizeLine ∧ W (i + 1) (acc ++ [e]) M4 else W (i + 1) acc M3
def dLc (own : Bool) (wi : DTI) (g : DTG) (tt : DTT) (te : DTE) (vs : List Nat) : DTE := fun r M Q => wi r M fun ds C M0 => lcW own ds C g tt te (wipeD r vs) M0 Q
theorem wipe_at {σ : St} {i : Nat} : ∀ {vs : List Nat}, i ∈ vs → i < σ.length → (L2.wipe σ vs)[i]? = some none
  | [], h, _ => by cases h
  | v :: vs, h, hl => by
    unfold L2.wipe
    by_cases e : v = i
    · subst e
      rw [List.getElem?_set_self (by rw [wipe_length]; exact hl)]
    · rw [List.getElem?_set_ne e]
      exact wipe_at ((List.mem_cons.mp h).resolve_left (fun z => e z.symm)) hl
theorem wipe_wipe (σ : St) (vs : List Nat) : L2.wipe (L2.wipe σ vs) vs = L2.wipe σ vs := by
  refine List.ext_getElem? fun i => ?_
  by_cases hi : i ∈ vs
  · by_cases hl : i < σ.length
    · rw [wipe_at hi (by rw [wipe_length]; exact hl), wipe_at hi hl]
    · rw [List.getElem?_eq_none (by rw [wipe_length, wipe_length]; omega), List.getElem?_eq_none (by rw [wipe_length]; omega)]
  · rw [wipe_out hi]
theorem lc_read (o : Bool) {wi : DTI} {g : DTG} {tt : DTT} {te : DTE} {vs : List Nat} {ph : Ph} {S : Hp} {r : Env} {M : Mem} {σ : St} {H : Hp} {Q : DQ} (hs : Sat X.K ph S r M σ H) (ht : dLc o wi g tt te vs r M Q) (Q' : VK) (hq : ∀ v H', post X.K ph S r σ Q v H' → Q' v H') :
    tLc (fun σ H R => ∃ ph S r M Q0, Sat X.K ph S r M σ H ∧ wi r M Q0 ∧ ∀ J H', (Aft X.K ph S r σ H' fun ph' S' M' => ∃ ds C, Wlk X.K ph' S' J ds C ∧ Q0 ds C M') → R J H')
      (fun v σ H Q => ∃ ph S r M d Q0, Sat X.K ph S r M σ H ∧ Rep X.K ph S v d ∧ g d r M Q0 ∧ ∀ σ' H', postN X.K ph S Q0 σ' H' → L2.wipe σ' vs = L2.wipe σ vs → Q σ' H')
      (fun σ H Q => ∃ ph S r M Q0, Sat X.K ph S r M σ H ∧ tt r M Q0 ∧ ∀ b H', postT X.K ph S r σ Q0 b H' → Q b H')
      (fun σ H Q => ∃ ph S r M Q0, Sat X.K ph S r M σ H ∧ te r M Q0 ∧ ∀ v H', post X.K ph S r σ Q0 v H' → Q v H') vs σ H Q' := by
  refine ⟨ph, S, r, M, _, hs, ht, fun J H1 ⟨ph1, S1, M1, x1, hs1, ds, C, wk, W, w0, turn⟩ => ?_⟩
  intro p hp
  refine ⟨fun i m H => m = ds.length - i ∧ ∃ (ph2 : Ph) (S2 : Hp) (M2 : Mem) (xs : List V) (acc : List D), Ext ph1 S1 ⟨ph2.cells, ph1.hid⟩ S2 ∧ ph2.hid = (p, .lst xs) :: ph1.hid ∧ Sat X.K ph2 S2 r M2 σ H ∧ RepAll X.K ph2 S2 xs acc ∧ W i acc M2,
    ⟨ds.length, by omega, { ph1 with hid := (p, .lst []) :: ph1.hid }, S1, M1, [], [], .refl, rfl, hs1.hide hp _, .nil, w0⟩, ?_⟩
  rintro i m H3 ⟨rfl, ph3, S3, M3, xs, acc, x3, eh, hs3, qa, w3⟩
  obtain ⟨c3, f3, g3⟩ := turn i acc M3 w3
  obtain ⟨k1, k2⟩ := wk ph3 S3 r M3 σ H3 x3.pre x3.same hs3 c3
  by_cases hl : ds.length ≤ i
  · refine .inl ⟨k1 i hl, ?_⟩
    have f := f3 hl
    obtain ⟨c, hd⟩ := ph3
    cases eh
    cases o with
    | false =>
      rw [if_neg Bool.false_ne_true] at f
      obtain ⟨x4, hs4⟩ := hs3.hfrz
      exact hq _ _ ⟨⟨c, ph1.hid⟩, _, M3, x1.trans (x3.trans x4), hs4, _, .lst upd_same ((RepAll.hid qa).up x4), f⟩
    | true =>
      rw [if_pos rfl] at f
      obtain ⟨x4, hs4, e4⟩ := hs3.hown (RepAll.hid qa)
      exact hq _ _ ⟨⟨c ++ [p], ph1.hid⟩, _, _, x1.trans (x3.trans x4), hs4, _, .own e4, f⟩
  · obtain ⟨d, ed⟩ : ∃ d, ds[i]? = some d := ⟨ds[i]'(by omega), List.getElem?_eq_getElem (by omega)⟩
    obtain ⟨k3, k4⟩ := k2 i d ed
    refine .inr ⟨k3, fun H' => ∃ (ph2 : Ph) (S2 : Hp) (M2 : Mem) (xs : List V) (acc : List D), Ext ph1 S1 ⟨ph2.cells, ph1.hid⟩ S2 ∧ ph2.hid = (p, .lst xs) :: ph1.hid ∧ Sat X.K ph2 S2 r M2 σ H' ∧ RepAll X.K ph2 S2 xs acc ∧ W (i + 1) acc M2, fun H' z => ⟨ds.length - (i + 1), by omega, rfl, z⟩, fun x H4 hy => ?_⟩
    obtain ⟨ph4, S4, M4, x4, hs4, rfl, q4⟩ := k4 x H4 hy
    refine ⟨ph4, S4, wipeD r vs, M4, d, _, hs4.wipe vs, q4, g3 d ed, fun σ5 H5 ⟨r5, ph5, S5, M5, x5, hs5, z5⟩ e5 => ⟨e5.trans (wipe_wipe σ vs), ?_⟩⟩
    refine ⟨ph5, S5, r5, M5, _, hs5, z5, fun b H6 ⟨ph6, S6, M6, x6, hs6, z6⟩ => ?_⟩
    cases b with
    | false =>
      have xx := x4.trans (x5.trans x6)
      rw [if_neg Bool.false_ne_true] at z6 ⊢
      exact ⟨ph6, S6, M6, xs, acc, ⟨fun k a e => xx.pre k a (x3.pre k a e), x3.same.trans xx.same, rfl⟩, xx.hid.trans eh, hs3.back xx hs6.drop, qa.up xx, z6⟩
    | true =>
      rw [if_pos rfl] at z6 ⊢
      refine ⟨ph6, S6, r5, M6, _, hs6, z6, fun v H7 ⟨ph7, S7, M7, x7, hs7, e, q7, hlt, w7⟩ => ?_⟩
      have xx := x4.trans (x5.trans (x6.trans x7))
      have eh7 : ph7.hid = (p, .lst xs) :: ph1.hid := xx.hid.trans eh
      obtain ⟨c, hd⟩ := ph7
      cases eh7
      have hb : Sat X.K ⟨c, (p, .lst xs) :: ph1.hid⟩ S7 r M7 σ H7 := hs3.back xx hs7.drop
      obtain ⟨g1, _, _⟩ := hb.hid _ List.mem_cons_self
      refine ⟨xs, g1, by rw [qa.len]; exact hlt, ⟨c, (p, .lst (xs ++ [v])) :: ph1.hid⟩, S7, M7, xs ++ [v], acc ++ [e], ⟨fun k a e => xx.pre k a (x3.pre k a e), x3.same.trans xx.same, rfl⟩, rfl, hb.hset, ?_, w7⟩
      exact (RepAll.hid (qa.up xx)).app (.cons (Rep.hid q7) .nil)
theorem de_lc (o : Bool) {elt tg iter : Expr} {ifs : List Expr} {scope : Scope} {own : List (Str × Nat)} {pos : Pos} {wi : DTI} {g : DTG} {tt : DTT} {te : DTE} (hc : X.calm = true) (hN : X.N.Nodup) (ok : BlkOk X.N X.env.scope scope own) (hi : DI X tg iter wi)
    (hg : ∀ (s : Shared) (H : Hp) (C : Addr) (cl : List (Str × Addr)) (fp : List Addr), DCG (X.blk s H scope (compEnvC scope cl C X.env) fp) tg (own.map (·.2)) g)
    (ht : ∀ (s : Shared) (H : Hp) (C : Addr) (cl : List (Str × Addr)) (fp : List Addr), DTs (X.blk s H scope (compEnvC scope cl C X.env) fp) ifs tt)
    (he : ∀ (s : Shared) (H : Hp) (C : Addr) (cl : List (Str × Addr)) (fp : List Addr), DE (X.blk s H scope (compEnvC scope cl C X.env) fp) elt te)
    (hs : ∀ x, foldedSetIterable iter X.env x = pure x := by intro _; rfl) : DE X (.ListComp elt [⟨tg, iter, ifs, 0⟩] scope pos) (dLc o wi g tt te (own.map (·.2))) :=
  DE.of (pe_lc hc hN hi.pi ok (fun s H C cl fp => (hg s H C cl fp).pg) (fun s H C cl fp => (ht s H C cl fp).pts) (fun s H C cl fp => (he s H C cl fp).pe) hs) fun ph S r M σ H Q hs ht Q' hq => lc_read (X := X) o hs ht Q' hq
end DL
/-! DL7: what is walked; built-ins; methods; slices; repr -/
namespace DL
open PySem PySem.Spec PyProof.Rows L2
variable {X : Cx}
/-! ### what is walked -/
theorem Wlk.list {K : PySem.W.Frag} {ph : Ph} {S : Hp} {a : Addr} {ds : List D} {C : Mem → Prop} (h : ∀ (ph' : Ph) (S' : Hp) (r : Env) (M : Mem) (σ : St) (H : Hp), (∀ (k : Nat) (a : Addr), ph.cells[k]? = some a → ph'.cells[k]? = some a) → Same S S' → Sat K ph' S' r M σ H → C M → ∃ xs, SqL K H a xs ∧ RepAll K ph' S' xs ds) : Wlk K ph S (Itl K a) ds C :=
  fun ph' S' r M σ H h1 h2 hs hc => by
    obtain ⟨xs, q, qa⟩ := h ph' S' r M σ H h1 h2 hs hc
    refine ⟨fun i hi => ⟨xs, q, by rw [qa.len]; exact hi⟩, fun i d e => ?_⟩
    obtain ⟨x, ex, qx⟩ := qa.get e
    refine ⟨⟨xs, x, q, ex⟩, fun y H' ⟨e1, e2⟩ => ?_⟩
    subst e1
    have ey := e2 xs q
    rw [ex] at ey
    cases ey
    exact Aft.here hs ⟨rfl, qx⟩
theorem Wlk.tup {K : PySem.W.Frag} {ph : Ph} {S : Hp} {a : Addr} {ds : List D} {C : Mem → Prop} (h : ∀ (ph' : Ph) (S' : Hp) (r : Env) (M : Mem) (σ : St) (H : Hp), (∀ (k : Nat) (a : Addr), ph.cells[k]? = some a → ph'.cells[k]? = some a) → Same S S' → Sat K ph' S' r M σ H → C M → ∃ xs, SqT K H a xs ∧ RepAll K ph' S' xs ds) : Wlk K ph S (Itt K a) ds C :=
  fun ph' S' r M σ H h1 h2 hs hc => by
    obtain ⟨xs, q, qa⟩ := h ph' S' r M σ H h1 h2 hs hc
    refine ⟨fun i hi => ⟨xs, q, by rw [qa.len]; exact hi⟩, fun i d e => ?_⟩
    obtain ⟨x, ex, qx⟩ := qa.get e
    refine ⟨⟨xs, x, q, ex⟩, fun y H' ⟨e1, e2⟩ => ?_⟩
    subst e1
    have ey := e2 xs q
    rw [ex] at ey
    cases ey
    exact Aft.here hs ⟨rfl, qx⟩
theorem RepAll.ext0 {K : PySem.W.Frag} {ph ph' : Ph} {S S' : Hp} {d : List D} {v : List V} (h1 : ∀ (k : Nat) (a : Addr), ph.cells[k]? = some a → ph'.cells[k]? = some a) (h2 : Same S S') (q : RepAll K ph S v d) : RepAll K ph' S' v d :=
  RepAll.hid (c := ph'.cells) (l := ph.hid) (l' := ph'.hid) (q.up (ph' := ⟨ph'.cells, ph.hid⟩) ⟨h1, h2, rfl⟩)
/-- a list, a tuple, the script -/
def gSeqI (d : D) (M : Mem) (R : List D → (Mem → Prop) → Mem → Prop) : Prop := match d with
  | .lst ds => R ds (fun _ => True) M
  | .tup ds => R ds (fun _ => True) M
  | .scr ns => R (ns.map D.int) (fun _ => True) M
  | .own k => match M[k]? with
    | some (.lst ds) => R ds (fun M' => M'[k]? = some (.lst ds)) M
    | _ => False
  | _ => False
def dSeqI (t : DTE) : DTI := fun r M R => t r M fun d M1 => gSeqI d M1 R
/-- it is a list at a, or a tuple -/
theorem pi_seq {tg l : Expr} {tl : TE} (hl : PE X l tl) : PI X tg l (fun σ H R => tl σ H fun x H1 => ∃ a, x = .ref a ∧ (((∃ xs, SqL X.K H1 a xs) ∧ R (Itl X.K a) H1) ∨ ((∃ xs, SqT X.K H1 a xs) ∧ R (Itt X.K a) H1))) := by
  refine ⟨fun pins s σ H R I h => thn (hl.run pins s σ H _ I h) fun v s1 ⟨x, H1, I1, r1, a, ex, q1⟩ => ?_⟩
  subst ex
  cases r1
  have fp : ∀ b ∈ [s1.heap.objs.size], FpOk X pins H1 b := fun b hb => by
    have e : b = s1.heap.objs.size := by simpa using hb
    rw [e]
    exact I1.fpOk (Nat.le_refl _) (I1.hok.fresh (Nat.le_refl _))
  rcases q1 with ⟨⟨xs, hq⟩, q⟩ | ⟨⟨xs, hq⟩, q⟩
  · obtain ⟨its, rv, p, hz⟩ := I1.list hq
    exact wpAny_pyIter_list p.isList ⟨s1.heap.objs.size, [s1.heap.objs.size], _, _, H1, rfl, I1.kept (t' := s1.toks) fun b o e => Heap.get?_push_of_some _ e, turn_list a _, ⟨_, Heap.get?_push_size _ rfl, rfl, rfl⟩, fp, q⟩
  · obtain ⟨its, rv, p, hz⟩ := I1.tuple hq
    exact wpAny_pyIter_tuple (show s1.heap.IsTuple a its.toArray from p) ⟨s1.heap.objs.size, [s1.heap.objs.size], _, _, H1, rfl, I1.kept (t' := s1.toks) fun b o e => Heap.get?_push_of_some _ e, turn_tuple a _, ⟨_, Heap.get?_push_size _ rfl, rfl, rfl⟩, fp, q⟩
theorem PI.weak {tg l : Expr} {t t' : TI} (h : PI X tg l t) (w : ∀ σ H R, t' σ H R → t σ H R) : PI X tg l t' := ⟨fun pins s σ H R I q => h.run pins s σ H R I (w _ _ _ q)⟩
theorem di_seq {tg l : Expr} {t : DTE} (h : DE X l t) : DI X tg l (dSeqI t) :=
  ⟨PI.weak (pi_seq h.pe) fun σ H R ⟨ph, S, r, M, Q0, hs, ht, hq⟩ => ⟨ph, S, r, M, _, hs, ht, fun v H1 ⟨ph1, S1, M1, x1, hs1, d, q1, g1⟩ => by
    cases d <;> first | exact g1.elim | skip
    · cases q1 with
      | tup h1 h2 => exact ⟨_, rfl, .inr ⟨⟨_, h1.sq hs1.sub⟩, hq _ _ ⟨ph1, S1, M1, x1, hs1, _, _, Wlk.tup (fun ph' S' r' M' σ' H' e1 e2 hs' _ => ⟨_, (h1.ext e2).sq hs'.sub, h2.ext0 e1 e2⟩), g1⟩⟩⟩
    · cases q1 with
      | lst h1 h2 => exact ⟨_, rfl, .inl ⟨⟨_, SqL.of (hs1.sub _ _ h1)⟩, hq _ _ ⟨ph1, S1, M1, x1, hs1, _, _, Wlk.list (fun ph' S' r' M' σ' H' e1 e2 hs' _ => ⟨_, SqL.of (hs'.sub _ _ (e2 _ _ h1)), h2.ext0 e1 e2⟩), g1⟩⟩⟩
    · cases q1 with
      | scr h1 => exact ⟨_, rfl, .inl ⟨⟨_, hs1.sub.seq h1⟩, hq _ _ ⟨ph1, S1, M1, x1, hs1, _, _, Wlk.list (fun ph' S' r' M' σ' H' e1 e2 hs' _ => ⟨_, hs'.sub.seq (e2.seq h1), RepAll.ints _⟩), g1⟩⟩⟩
    · rename_i k
      cases q1 with
      | own h1 =>
        replace g1 : gSeqI (.own k) M1 Q0 := g1
        unfold gSeqI at g1
        dsimp only at g1
        split at g1
        · rename_i ds hk
          obtain ⟨a, xs, c1, c2, c3, c4⟩ := hs1.cell k ds hk
          rw [h1] at c1; cases c1
          refine ⟨_, rfl, .inl ⟨⟨_, SqL.of c3⟩, hq _ _ ⟨ph1, S1, M1, x1, hs1, _, _, Wlk.list (fun ph' S' r' M' σ' H' e1 e2 hs' hc => ?_), g1⟩⟩⟩
          obtain ⟨a', xs', b1, b2, b3, b4⟩ := hs'.cell k ds hc
          rw [e1 _ _ h1] at b1; cases b1
          exact ⟨xs', SqL.of b3, b4⟩
        · exact g1.elim⟩⟩
/-- lo, lo + 1, .. -/
def rng (lo : Int) (n : Nat) : List D := (List.range n).map fun i => D.int (lo + (i : Nat))
theorem rng_len (lo : Int) (n : Nat) : (rng lo n).length = n := by unfold rng; rw [List.length_map, List.length_range]
theorem rng_get {lo : Int} {n i : Nat} {d : D} : (rng lo n)[i]? = some d ↔ i < n ∧ d = .int (lo + (i : Nat)) := by
  unfold rng
  rw [List.getElem?_map]
  constructor
  · intro e
    cases h : (List.range n)[i]? with
    | none => rw [h] at e; cases e
    | some j =>
      rw [h] at e
      obtain ⟨h1, h2⟩ := List.getElem?_eq_some_iff.mp h
      rw [List.length_range] at h1
      rw [List.getElem_range] at h2
      exact ⟨h1, by rw [h2]; exact (Option.some.inj e).symm⟩
  · rintro ⟨h1, rfl⟩
    rw [List.getElem?_eq_getElem (by rw [List.length_range]; exact h1), List.getElem_range]
    rfl
theorem Wlk.range {K : PySem.W.Frag} {ph : Ph} {S : Hp} {lo : Int} {n : Nat} {C : Mem → Prop} : Wlk K ph S (Itr lo n) (rng lo n) C := fun ph' S' r M σ H h1 h2 hs hc => by
  refine ⟨fun i hi => by rw [rng_len] at hi; exact hi, fun i d e => ?_⟩
  obtain ⟨hi, rfl⟩ := rng_get.mp e
  refine ⟨hi, fun x H' ⟨e1, e2⟩ => ?_⟩
  subst e1 e2
  exact Aft.here hs ⟨rfl, .int _⟩
def Rg (i : Int) : Prop := -(2 ^ 62) ≤ i ∧ i < 2 ^ 62
def gRng1 (ds : List D) (M : Mem) (R : List D → (Mem → Prop) → Mem → Prop) : Prop := match ds with
  | [.int n] => Rg n ∧ R (rng 0 n.toNat) (fun _ => True) M
  | _ => False
def gRng2 (ds : List D) (M : Mem) (R : List D → (Mem → Prop) → Mem → Prop) : Prop := match ds with
  | [.int a, .int b] => (Rg a ∧ Rg b) ∧ R (rng a (b - a).toNat) (fun _ => True) M
  | _ => False
def dRngI (g : List D → Mem → (List D → (Mem → Prop) → Mem → Prop) → Prop) (t : DTA) : DTI := fun r M R => t r M fun ds M1 => g ds M1 R
theorem di_range1 {tg a : Expr} {t : DTA} {p pos : Pos} (hm : X.mg "range" = none) (ha : DA X [a] t) (hg : Gl X "range" := by rfl) (hst : starEach [a] X.env = [(false, eval a X.env)] := by rfl) : DI X tg (.Call (.Name "range" p) [a] [] pos) (dRngI gRng1 t) :=
  ⟨PI.weak (pi_range1 hg hm ha.pa hst) fun σ H R ⟨ph, S, r, M, Q0, hs, ht, hq⟩ => ⟨ph, S, r, M, _, hs, ht, fun vs H1 ⟨ph1, S1, M1, x1, hs1, ds, q1, g1⟩ => by
    match ds, q1, g1 with
    | [.int n], .cons q .nil, ⟨⟨h1, h2⟩, g⟩ =>
      cases q
      exact ⟨n, rfl, h1, h2, hq _ _ ⟨ph1, S1, M1, x1, hs1, _, _, Wlk.range, g⟩⟩⟩⟩
/-! ### calls of what is built in -/
abbrev GA := List D → Mem → DQ → Prop
def CallD (X : Cx) (f : Value) (g : GA) : Prop :=
  ∀ (pins : List (Addr × Obj)) (s : Shared) (σ : St) (H : Hp) (ph : Ph) (S : Hp) (r : Env) (M : Mem) (vs : List V) (us : List Value) (ds : List D) (Q : DQ), Inv X pins σ H s → Sat X.K ph S r M σ H → Vals vs us → RepAll X.K ph S vs ds → g ds M Q →
    wpAny (model X.prog X.w) X.A (call f us) (EP X pins σ (post X.K ph S r σ Q)) X.xe s
theorem CallD.of {f : Value} {r' : List V → Hp → VK → Prop} {g : GA} (h : CallR X f r')
    (w : ∀ (σ : St) (H : Hp) (ph : Ph) (S : Hp) (r : Env) (M : Mem) (vs : List V) (ds : List D) (Q : DQ), Sat X.K ph S r M σ H → RepAll X.K ph S vs ds → g ds M Q → r' vs H (post X.K ph S r σ Q)) : CallD X f g :=
  fun pins s σ H ph S r M vs us ds Q I hs rv q hg => h pins s σ H vs us _ I rv (w σ H ph S r M vs ds Q hs q hg)
def dCB (g : GA) (t : DTA) : DTE := fun r M Q => t r M fun ds M1 => g ds M1 Q
section
variable {x : Str} {p pos : Pos} {e : Expr} {es : List Expr} {t : DTA} {id T : String} {g : GA}
theorem de_blt (hc : CallD X (.builtin id) g) (hm : X.mg x = none) (ha : DA X (e :: es) t) (hv : bootBuiltins x = some (.builtin id) := by decide +kernel) (hg : Gl X x := by rfl) (hn : x ≠ "__name__" := by decide) (hdb : (x == ("__debug__" : Str)) = false := by decide)
    (he : starEach (e :: es) X.env = (false, eval e X.env) :: starEach es X.env := by rfl) (hpl : (backTo pos (starEach es X.env)).any (·.1) = false := by rfl) : DE X (.Call (.Name x p) (e :: es) [] pos) (dCB g t) :=
  ⟨⟨fun pins s σ H Q I ⟨ph, S, r, M, Q0, hs, ht, hq⟩ => wpAny_Call_Name_kw (ld_blt I hg hm hv (PyProof.Rows.callWith_builtin1 (thn (ha.pa.run pos pins s σ H _ I ⟨ph, S, r, M, _, hs, ht, fun _ _ z => z⟩)
    fun us s1 ⟨vs, H1, I1, r1, ph1, S1, M1, x1, hs1, ds, q1, g1⟩ => thn (hc pins s1 σ H1 ph1 S1 r M1 vs us ds Q0 I1 hs1 r1 q1 g1) fun _ _ z => EP.up x1 z hq) he hpl) hn hdb)⟩⟩
theorem de_ty (hc : CallD X (.type T) g) (hm : X.mg x = none) (ha : DA X (e :: es) t) (hv : bootBuiltins x = some (.type T) := by decide +kernel) (hg : Gl X x := by rfl) (hn : x ≠ "__name__" := by decide) (hdb : (x == ("__debug__" : Str)) = false := by decide)
    (he : starEach (e :: es) X.env = (false, eval e X.env) :: starEach es X.env := by rfl) (hpl : (backTo pos (starEach es X.env)).any (·.1) = false := by rfl) : DE X (.Call (.Name x p) (e :: es) [] pos) (dCB g t) :=
  ⟨⟨fun pins s σ H Q I ⟨ph, S, r, M, Q0, hs, ht, hq⟩ => wpAny_Call_Name_kw (ld_blt I hg hm hv (PyProof.Rows.callWith_type1 (thn (ha.pa.run pos pins s σ H _ I ⟨ph, S, r, M, _, hs, ht, fun _ _ z => z⟩)
    fun us s1 ⟨vs, H1, I1, r1, ph1, S1, M1, x1, hs1, ds, q1, g1⟩ => thn (hc pins s1 σ H1 ph1 S1 r M1 vs us ds Q0 I1 hs1 r1 q1 g1) fun _ _ z => EP.up x1 z hq) he hpl) hn hdb)⟩⟩
/-- a built-in name as a value -/
theorem de_bltn {v : V} {u : Value} (hm : X.mg x = none) (r : RelV v u) (hv : bootBuiltins x = some u := by decide +kernel) (hg : Gl X x := by rfl) (hn : x ≠ "__name__" := by decide) (hd : (x == ("__debug__" : Str)) = false := by decide) : DE X (.Name x pos) (dC (.val v)) :=
  de_c (pe_bltn hg hm hv r hn hd) fun _ _ => .val _
end
def gAbs : GA := fun ds M Q => match ds with
  | [.int i] => Q (.int (if i < 0 then -i else i)) M
  | _ => False
theorem cd_abs : CallD X (.builtin "abs") gAbs := CallD.of call_abs fun σ H ph S r M vs ds Q hs q hg => by
  match ds, q, hg with
  | [.int i], .cons q .nil, hg => cases q; exact ⟨_, rfl, Aft.here hs ⟨_, .int _, hg⟩⟩
def gInt : GA := fun ds M Q => match ds with
  | [.int i] => Q (.int i) M
  | [.bl b] => Q (.int (if b then 1 else 0)) M
  | _ => False
theorem cd_int : CallD X (.type "int") gInt := CallD.of call_int1 fun σ H ph S r M vs ds Q hs q hg => by
  match ds, q, hg with
  | [.int i], .cons q .nil, hg => cases q; exact .inl ⟨_, rfl, Aft.here hs ⟨_, .int _, hg⟩⟩
  | [.bl i], .cons q .nil, hg => cases q; exact .inr ⟨_, rfl, Aft.here hs ⟨_, .int _, hg⟩⟩
def gMax : GA := fun ds M Q => match ds with
  | [.int i, .int j] => Q (.int (if j > i then j else i)) M
  | _ => False
theorem cd_max (hc : X.calm = true) : CallD X (.builtin "max") gMax := CallD.of (call_max2 hc) fun σ H ph S r M vs ds Q hs q hg => by
  match ds, q, hg with
  | [.int i, .int j], .cons q (.cons q' .nil), hg => cases q; cases q'; exact ⟨_, _, rfl, Aft.here hs ⟨_, .int _, hg⟩⟩
def gMin : GA := fun ds M Q => match ds with
  | [.int i, .int j] => Q (.int (if j < i then j else i)) M
  | _ => False
def gGcd : GA := fun ds M Q => match ds with
  | [.int i, .int j] => Q (.int (Int.gcd i j)) M
  | _ => False
/-- the length of a list, a tuple, a text -/
def lenD (M : Mem) : D → Option Nat
  | .lst l => some l.length
  | .tup l => some l.length
  | .scr l => some l.length
  | .own k => match M[k]? with
    | some (.lst l) => some l.length
    | _ => none
  | .str x => if x.length ≤ sizeLine then some x.length else none
  | _ => none
def gLen : GA := fun ds M Q => match ds with
  | [d] => match lenD M d with
    | some n => Q (.int n) M
    | none => False
  | _ => False
theorem len_V {K : PySem.W.Frag} {ph : Ph} {S : Hp} {r : Env} {M : Mem} {σ : St} {H : Hp} {v : V} {d : D} {n : Nat} (hs : Sat K ph S r M σ H) (q : Rep K ph S v d) (e : lenD M d = some n) : LenV K v H n := by
  cases d <;> first | (cases e; done) | skip
  · rename_i x
    cases q
    have e' : (if x.length ≤ sizeLine then some x.length else none) = some n := e
    by_cases h : x.length ≤ sizeLine
    · rw [if_pos h] at e'
      exact ⟨h, (Option.some.inj e').symm⟩
    · rw [if_neg h] at e'; cases e'
  · cases q with
    | tup h1 h2 => exact .inr ⟨_, h1.sq hs.sub, by rw [h2.len]; exact (Option.some.inj e).symm⟩
  · cases q with
    | lst h1 h2 => exact .inl ⟨_, SqL.of (hs.sub _ _ h1), by rw [h2.len]; exact (Option.some.inj e).symm⟩
  · cases q with
    | scr h1 => exact .inl ⟨_, hs.sub.seq h1, by rw [List.length_map]; exact (Option.some.inj e).symm⟩
  · rename_i k
    cases q with
    | own h1 =>
      unfold lenD at e
      dsimp only at e
      split at e
      · rename_i l hk
        obtain ⟨a, xs, c1, c2, c3, c4⟩ := hs.cell k l hk
        rw [h1] at c1; cases c1
        exact .inl ⟨_, SqL.of c3, by rw [c4.len]; exact (Option.some.inj e).symm⟩
      · cases e
theorem cd_len : CallD X (.builtin "len") gLen := CallD.of call_len fun σ H ph S r M vs ds Q hs q hg => by
  match ds, q, hg with
  | [d], .cons q .nil, hg =>
    unfold gLen at hg
    dsimp only at hg
    split at hg
    · rename_i n e
      exact ⟨_, n, rfl, len_V hs q e, Aft.here hs ⟨_, .int _, hg⟩⟩
    · exact hg.elim
/-- the ints of a list of ints -/
def intsD : List D → Option (List Int)
  | [] => some []
  | .int i :: ds => match intsD ds with
    | some is => some (i :: is)
    | none => none
  | _ :: _ => none
theorem intsD_rep {K : PySem.W.Frag} {ph : Ph} {S : Hp} : ∀ {vs : List V} {ds : List D} {is : List Int}, RepAll K ph S vs ds → intsD ds = some is → vs = is.map V.int
  | _, [], _, .nil, e => by cases e; rfl
  | _, d :: ds, is, .cons q t, e => by
    cases d <;> first | (cases e; done) | skip
    unfold intsD at e
    split at e
    · rename_i is' e'
      cases e
      cases q
      rw [intsD_rep t e']; rfl
    · cases e
def gSum : GA := fun ds M Q => match ds with
  | [d] => match res M d with
    | .lst l => match intsD l with
      | some is => Q (.int is.sum) M
      | none => False
    | .scr ns => Q (.int ns.sum) M
    | _ => False
  | _ => False
theorem cd_sum (hc : X.calm = true) : CallD X (.builtin "sum") gSum := CallD.of (cr_sum hc) fun σ H ph S r M vs ds Q hs q hg => by
  match ds, q, hg with
  | [d], .cons q .nil, hg =>
    unfold gSum at hg
    dsimp only at hg
    split at hg
    · rename_i l e
      split at hg
      · rename_i is e2
        obtain ⟨a, xs, rfl, h1, h2⟩ := res_lst hs q e
        exact ⟨a, is, rfl, by rw [← intsD_rep h2 e2]; exact SqL.of h1, Aft.here hs ⟨_, .int _, hg⟩⟩
      · exact hg.elim
    · rename_i ns e
      cases res_scr e
      cases q with
      | scr h1 => exact ⟨_, ns, rfl, hs.sub.seq h1, Aft.here hs ⟨_, .int _, hg⟩⟩
    · exact hg.elim
/-- list(x): a list that is only read, or one that will be changed -/
def seqD (M : Mem) (d : D) : Option (List D) := match res M d with
  | .lst l => some l
  | .tup l => some l
  | .scr ns => some (ns.map D.int)
  | _ => none
theorem seq_V {K : PySem.W.Frag} {ph : Ph} {S : Hp} {r : Env} {M : Mem} {σ : St} {H : Hp} {v : V} {d : D} {l : List D} (hs : Sat K ph S r M σ H) (q : Rep K ph S v d) (e : seqD M d = some l) : ∃ a xs, v = .ref a ∧ (SqL K H a xs ∨ SqT K H a xs) ∧ RepAll K ph S xs l := by
  unfold seqD at e
  split at e
  · rename_i l' e1
    cases e
    obtain ⟨a, xs, rfl, h1, h2⟩ := res_lst hs q e1
    exact ⟨a, xs, rfl, .inl (SqL.of h1), h2⟩
  · rename_i l' e1
    cases e
    cases res_tup e1
    cases q with
    | tup h1 h2 => exact ⟨_, _, rfl, .inr (h1.sq hs.sub), h2⟩
  · rename_i ns e1
    cases e
    cases res_scr e1
    cases q with
    | scr h1 => exact ⟨_, _, rfl, .inl (hs.sub.seq h1), RepAll.ints _⟩
  · cases e
def gList (own : Bool) : GA := fun ds M Q => match ds with
  | [d] => match seqD M d with
    | some l => if own = true then Q (.own M.length) (M ++ [.lst l]) else Q (.lst l) M
    | none => False
  | _ => False
theorem cd_list (own : Bool) : CallD X (.type "list") (gList own) := CallD.of call_list_of fun σ H ph S r M vs ds Q hs q hg => by
  match ds, q, hg with
  | [d], .cons q .nil, hg =>
    unfold gList at hg
    dsimp only at hg
    split at hg
    · rename_i l e
      obtain ⟨a, xs, rfl, h1, h2⟩ := seq_V hs q e
      refine ⟨a, xs, rfl, h1, fun p hp => ?_⟩
      cases own with
      | false => exact Aft.frz hs hp fun x => ⟨_, .lst upd_same (h2.up x), hg⟩
      | true => exact Aft.own hs hp h2 hg
    · exact hg.elim
def gTuple : GA := fun ds M Q => match ds with
  | [d] => match seqD M d with
    | some l => Q (.tup l) M
    | none => False
  | _ => False
theorem cd_tuple : CallD X (.type "tuple") gTuple := CallD.of call_tuple_of fun σ H ph S r M vs ds Q hs q hg => by
  match ds, q, hg with
  | [d], .cons q .nil, hg =>
    unfold gTuple seqD at hg
    dsimp only at hg
    split at hg
    · rename_i l e
      split at e
      · rename_i l' e1
        cases e
        obtain ⟨a, xs, rfl, h1, h2⟩ := res_lst hs q e1
        exact ⟨a, xs, rfl, .inl ⟨SqL.of h1, fun p hp => Aft.frz hs hp fun x => ⟨_, .tup (.inl upd_same) (h2.up x), hg⟩⟩⟩
      · rename_i l' e1
        cases e
        cases res_tup e1
        cases q with
        | tup h1 h2 => exact ⟨_, _, rfl, .inr ⟨h1.sq hs.sub, Aft.here hs ⟨_, .tup h1 h2, hg⟩⟩⟩
      · rename_i ns e1
        cases e
        cases res_scr e1
        cases q with
        | scr h1 => exact ⟨_, _, rfl, .inl ⟨hs.sub.seq h1, fun p hp => Aft.frz hs hp fun x => ⟨_, .tup (.inl upd_same) (RepAll.ints _), hg⟩⟩⟩
      · cases e
    · exact hg.elim
/-- isinstance(x, T), T a built-in class -/
def tyD : D → Option String
  | .non => some "NoneType"
  | .bl _ => some "bool"
  | .int _ => some "int"
  | .str _ => some "str"
  | .tup _ => some "tuple"
  | .lst _ => some "list"
  | .dct0 => some "dict"
  | _ => none
def tyM (M : Mem) : D → Option String
  | .own k => match M[k]? with
    | some (.lst _) => some "list"
    | _ => none
  | d => tyD d
def gIsi : GA := fun ds M Q => match ds with
  | [d, .val (.ty n)] => match tyM M d with
    | some T => match kitB T n with
      | some b => Q (.bl b) M
      | none => False
    | none => False
  | _ => False
theorem ty_V {K : PySem.W.Frag} {ph : Ph} {S : Hp} {r : Env} {M : Mem} {σ : St} {H : Hp} {v : V} {d : D} {T : String} (hs : Sat K ph S r M σ H) (q : Rep K ph S v d) (e : tyM M d = some T) : TyX K H v (.type T) := by
  cases d <;> first | (cases e; done) | skip
  · cases q; cases e; exact .base .non
  · cases q; cases e; exact .base (.bl _)
  · cases q; cases e; exact .base (.int _)
  · cases q; cases e; exact .base (.str _)
  · cases q with
    | tup h1 h2 => cases e; exact h1.elim (fun z => .base (.tup (hs.sub _ _ z))) fun ⟨_, _, _, l, c, _⟩ => .kTuple l c
  · cases q with
    | lst h1 h2 => cases e; exact .base (.lst (hs.sub _ _ h1))
  · cases q with
    | dct0 h1 => cases e; exact .base (.dK (hs.sub _ _ h1))
  · rename_i k
    cases q with
    | own h1 =>
      unfold tyM at e
      dsimp only at e
      split at e
      · rename_i l hk
        cases e
        obtain ⟨a, xs, c1, c2, c3, c4⟩ := hs.cell k l hk
        rw [h1] at c1; cases c1
        exact .base (.lst c3)
      · cases e
theorem cd_isi : CallD X (.builtin "isinstance") gIsi := CallD.of call_isi fun σ H ph S r M vs ds Q hs q hg => by
  match ds, q, hg with
  | [d, .val (.ty n)], .cons q (.cons q' .nil), hg =>
    unfold gIsi at hg
    dsimp only at hg
    split at hg
    · rename_i T e
      split at hg
      · rename_i b eb
        cases q'
        exact ⟨_, _, _, _, b, rfl, .ty n, ty_V hs q e, kit_ty eb, Aft.here hs ⟨_, .bl _, hg⟩⟩
      · exact hg.elim
    · exact hg.elim
/-- n.bit_length() -/
def gBits (d : D) (M : Mem) (Q : DQ) : Prop := match d with
  | .int i => Q (.int (Builtin.Int.intBits i : Nat)) M
  | _ => False
def dBits (t : DTE) : DTE := fun r M Q => t r M fun d M1 => gBits d M1 Q
theorem de_bits {o : Expr} {t : DTE} {apos pos : Pos} (ho : DE X o t) (hbase : attributeBase o "bit_length" X.env (eval o X.env) = eval o X.env := by rfl) (hline : (apos.endLine == pos.line) = true := by rfl) : DE X (.Call (.Attribute o "bit_length" apos) [] [] pos) (dBits t) :=
  DE.of (pe_bits ho.pe hbase hline) fun ph S r M σ H Q hs ht Q' hq => ⟨ph, S, r, M, _, hs, ht, fun v H1 ⟨ph1, S1, M1, x1, hs1, d, q1, g1⟩ => by
    cases d <;> first | exact g1.elim | skip
    cases q1
    exact ⟨_, rfl, hq _ _ ⟨ph1, S1, M1, x1, hs1, _, .int _, g1⟩⟩⟩
/-! ### methods of lists -/
def gAppend (o : D) (ds : List D) (M : Mem) (Q : DQ) : Prop := match o, ds with
  | .own k, [d] => match M[k]? with
    | some (.lst l) => l.length < sizeLine ∧ Q .non (M.set k (.lst (l ++ [d])))
    | _ => False
  | _, _ => False
def dMet (g : D → List D → Mem → DQ → Prop) (to : DTE) (t : DTA) : DTE := fun r M Q => to r M fun o M1 => (∃ k l, o = .own k ∧ M1[k]? = some (.lst l)) ∧ t r M1 fun ds M2 => g o ds M2 Q
theorem de_append {o e : Expr} {to : DTE} {t : DTA} {apos cpos : Pos} (ho : DE X o to) (ha : DA X [e] t) (h1 : attributeBase o "append" X.env (eval o X.env) = eval o X.env := by rfl)
    (h2 : (((backTo cpos (starEach [e] X.env)).all fun x => !x.1) && (backToKw cpos (keywordEach [] X.env)).all (fun x => x.1.isSome) && decide (([e] : List Expr).length + ([] : List Keyword).length + (if ([] : List Keyword).isEmpty then 0 else 1) < 30)) = true := by rfl) (h3 : (apos.endLine == cpos.line) = true := by rfl)
    (h4 : starEach [e] X.env = (false, eval e X.env) :: starEach [] X.env := by rfl) (h5 : (backTo cpos (starEach [] X.env)).any (·.1) = false := by rfl) : DE X (.Call (.Attribute o "append" apos) [e] [] cpos) (dMet gAppend to t) :=
  DE.of (pe_bm PySem.F.plainAttrs_list PySem.F.slot_list_append PySem.F.type_list_append mt_append ho.pe ha.pa h1 h2 h3 h4 h5) fun ph S r M σ H Q hs ht Q' hq => ⟨ph, S, r, M, _, hs, ht, fun v H1 ⟨ph1, S1, M1, x1, hs1, d, q1, ⟨k, l, e1, ek⟩, g1⟩ => by
    subst e1
    cases q1 with
    | own hp =>
      obtain ⟨a, xs, c1, c2, c3, c4⟩ := hs1.cell k l ek
      rw [hp] at c1; cases c1
      refine ⟨.inl ⟨rfl, _, SqL.of c3⟩, ph1, S1, r, M1, _, hs1, g1, fun vs H2 ⟨ph2, S2, M2, x2, hs2, ds, q2, g2⟩ => ?_⟩
      match ds, q2, g2 with
      | [d], .cons q3 .nil, g2 =>
        replace g2 : gAppend (.own k) [d] M2 Q := g2
        unfold gAppend at g2
        dsimp only at g2
        split at g2
        · rename_i l2 hk2
          have hp2 := x2.pre _ _ hp
          obtain ⟨a2, xs2, d1, d2, d3, d4⟩ := hs2.cell k l2 hk2
          rw [hp2] at d1; cases d1
          exact ⟨_, xs2, _, rfl, rfl, d3, by rw [d4.len]; exact g2.1, hq _ _ ⟨ph2, S2, _, x1.trans x2, hs2.put hk2 hp2 (d4.app (.cons q3 .nil)), _, .non, g2.2⟩⟩
        · exact g2.elim⟩
/-! ### slices -/
def cutD (l : List D) (lo hi : Option Int) : List D := List.take (HT.sIx l.length l.length hi - HT.sIx l.length 0 lo) (List.drop (HT.sIx l.length 0 lo) l)
abbrev DTO := Env → Mem → (Option Int → Mem → Prop) → Prop
structure DO (X : Cx) (e : Option Expr) (t : DTO) : Prop where
  po : PO X e (fun σ H Q => ∃ ph S r M Q0, Sat X.K ph S r M σ H ∧ t r M Q0 ∧ ∀ o H', (Aft X.K ph S r σ H' fun _ _ M' => Q0 o M') → Q o H')
def dPart (t : DTE) : DTO := fun r M Q => t r M fun d M1 => match d with
  | .int i => Q (some i) M1
  | _ => False
def dNoPart : DTO := fun _ M Q => Q none M
theorem do_some {e : Expr} {t : DTE} (h : DE X e t) : DO X (some e) (dPart t) :=
  ⟨⟨fun pins s σ H Q I ⟨ph, S, r, M, Q0, hs, ht, hq⟩ => (po_some h.pe).run pins s σ H Q I ⟨ph, S, r, M, _, hs, ht, fun v H1 ⟨ph1, S1, M1, x1, hs1, d, q1, g1⟩ => by
    cases d <;> first | exact g1.elim | skip
    cases q1
    exact ⟨_, rfl, hq _ _ ⟨ph1, S1, M1, x1, hs1, g1⟩⟩⟩⟩⟩
theorem do_none : DO X none dNoPart := ⟨⟨fun pins s σ H Q I ⟨ph, S, r, M, Q0, hs, ht, hq⟩ => po_none.run pins s σ H Q I (hq _ _ (Aft.here hs ht))⟩⟩
/-- l[a:b], a list -/
def gSlL (own : Bool) (d : D) (lo hi : Option Int) (M : Mem) (Q : DQ) : Prop := match res M d with
  | .lst l => if own = true then Q (.own M.length) (M ++ [.lst (cutD l lo hi)]) else Q (.lst (cutD l lo hi)) M
  | .scr ns => if own = true then Q (.own M.length) (M ++ [.lst (cutD (ns.map D.int) lo hi)]) else Q (.lst (cutD (ns.map D.int) lo hi)) M
  | _ => False
def dSl (g : D → Option Int → Option Int → Mem → DQ → Prop) (t : DTE) (tl th : DTO) : DTE := fun r M Q => t r M fun d M1 => tl r M1 fun lo M2 => th r M2 fun hi M3 => g d lo hi M3 Q
theorem cut_rep {K : PySem.W.Frag} {ph : Ph} {S : Hp} {xs : List V} {l : List D} {lo hi : Option Int} (q : RepAll K ph S xs l) : RepAll K ph S (cutV xs lo hi) (cutD l lo hi) := by
  unfold cutV cutD
  rw [q.len]
  exact (q.drop _).take _
theorem de_slL (own : Bool) {e : Expr} {lo hi : Option Expr} {t : DTE} {tl th : DTO} {pos p2 : Pos} (h : DE X e t) (h1 : DO X lo tl) (h2 : DO X hi th) : DE X (.Subscript e (.Slice lo hi none p2) pos) (dSl (gSlL own) t tl th) :=
  DE.of (pe_slice sl_list h.pe h1.po h2.po) fun ph S r M σ H Q hs ht Q' hq => ⟨ph, S, r, M, _, hs, ht, fun v H1 ⟨ph1, S1, M1, x1, hs1, d, q1, g1⟩ =>
    ⟨ph1, S1, r, M1, _, hs1, g1, fun lo H2 ⟨ph2, S2, M2, x2, hs2, g2⟩ => ⟨ph2, S2, r, M2, _, hs2, g2, fun hi H3 ⟨ph3, S3, M3, x3, hs3, g3⟩ => by
      replace g3 : gSlL own d lo hi M3 Q := g3
      have xx := x1.trans (x2.trans x3)
      have q3 := q1.up (x2.trans x3)
      unfold gSlL at g3
      split at g3
      · rename_i l er
        obtain ⟨p, xs, rfl, hp, hx⟩ := res_lst hs3 q3 er
        refine ⟨p, xs, rfl, SqL.of hp, fun b hb => ?_⟩
        cases own with
        | false => exact hq _ _ (Aft.up xx (Aft.frz hs3 hb fun x => ⟨_, .lst upd_same ((cut_rep hx).up x), g3⟩))
        | true => exact hq _ _ (Aft.up xx (Aft.own hs3 hb (cut_rep hx) g3))
      · rename_i ns er
        cases res_scr er
        cases q3 with
        | scr h1 =>
          refine ⟨_, _, rfl, hs3.sub.seq h1, fun b hb => ?_⟩
          cases own with
          | false => exact hq _ _ (Aft.up xx (Aft.frz hs3 hb fun x => ⟨_, .lst upd_same (cut_rep (RepAll.ints _)), g3⟩))
          | true => exact hq _ _ (Aft.up xx (Aft.own hs3 hb (cut_rep (RepAll.ints _)) g3))
      · exact g3.elim⟩⟩⟩
theorem cut_whole {α : Type} {l : List α} {lo hi : Option Int} (h : HT.sIx l.length 0 lo = 0 ∧ HT.sIx l.length l.length hi = l.length) : List.take (HT.sIx l.length l.length hi - HT.sIx l.length 0 lo) (List.drop (HT.sIx l.length 0 lo) l) = l := by
  rw [h.1, h.2]; simp
/-! ### repr -/
/-- data whose repr may be told -/
def shwn (d : D) : Option Str := match toPy d with
  | some p => if p.showable = true ∧ p.depth ≤ 64 ∧ p.shown.length ≤ sizeLine ∧ p.hasDict = false then some p.shown else none
  | none => none
def gRepr : GA := fun ds M Q => match ds with
  | [d] => match shwn (res M d) with
    | some z => Q (.str z) M
    | none => False
  | _ => False
theorem shown_flat {p : PyData} {u : Value} {h : Heap} {as : List Addr} (r : Reads h u p as) (hn : ∀ a, u ≠ .ref a) {A : Around} {P : Program} {w : World} {E : Value → Shared → Prop} {s : Shared} {Q : Value → Shared → Prop} (hs : p.showable = true) (hz : p.shown.length ≤ sizeLine)
    (q : ∀ tk tk', Q (.str p.shown tk) { s with toks := tk' }) : wpAny (model P w) A (call (.builtin "repr") [u]) Q E s := by
  cases r with
  | none => exact PySem.P.repr_of_none (q _ _)
  | bool b => exact PySem.P.repr_of_bool (q _ _)
  | int i t => exact PySem.P.repr_of_int (of_decide_eq_true hs) (q _ _)
  | str x t => exact PySem.P.repr_of_str (q _ _) hz
  | list _ _ _ _ => exact absurd rfl (hn _)
  | tuple _ _ _ _ => exact absurd rfl (hn _)
  | dict _ _ _ _ _ => exact absurd rfl (hn _)
end DL
/-! DL8: calls with keywords alone; a def for its callers; the end of a law -/
namespace DL
open PySem PySem.Spec PyProof.Rows L2
section
variable {X : Cx}
structure DK (X : Cx) (kws : List Keyword) (t : DTA) : Prop where
  pk : PK X kws (fun σ H Q => ∃ ph S r M Q0, Sat X.K ph S r M σ H ∧ t r M Q0 ∧ ∀ vs H', postA X.K ph S r σ Q0 vs H' → Q vs H')
theorem PK.weak {kws : List Keyword} {t t' : TA} (h : PK X kws t) (w : ∀ σ H Q, t' σ H Q → t σ H Q) : PK X kws t' := ⟨fun pos pins s σ H Q I q => h.run pos pins s σ H Q I (w _ _ _ q)⟩
theorem dk_nil : DK X [] dNil := ⟨PK.weak pk_nil fun σ H Q ⟨ph, S, r, M, Q0, hs, ht, hq⟩ => hq _ _ (Aft.here hs ⟨_, .nil, ht⟩)⟩
theorem dk_cons {e : Expr} {kws : List Keyword} {nm : Option Str} {kpos : Pos} {t : DTE} {u : DTA} (h : DE X e t) (h2 : DK X kws u) : DK X (⟨nm, e, kpos⟩ :: kws) (dCons t u) :=
  ⟨PK.weak (pk_cons h.pe h2.pk) fun σ H Q ⟨ph, S, r, M, Q0, hs, ht, hq⟩ => ⟨ph, S, r, M, _, hs, ht, fun v H1 ⟨ph1, S1, M1, x1, hs1, d, q1, g1⟩ =>
    ⟨ph1, S1, r, M1, _, hs1, g1, fun vs H2 ⟨ph2, S2, M2, x2, hs2, ds, q2, g2⟩ => hq _ _ ⟨ph2, S2, M2, x1.trans x2, hs2, _, .cons (q1.up x2) q2, g2⟩⟩⟩⟩
/-- the values by place -/
def pick {α : Type} (l : List Nat) (xs : List α) : List α := l.filterMap fun i => xs[i]?
theorem pick_vals {vs : List V} {us : List Value} (r : Vals vs us) : ∀ l : List Nat, Vals (pick l vs) (pick l us)
  | [] => .nil
  | i :: l => by
    unfold pick
    rw [List.filterMap_cons, List.filterMap_cons]
    cases e : vs[i]? with
    | none => rw [r.none_of e]; exact pick_vals r l
    | some v =>
      obtain ⟨u, eu, ru⟩ := r.get e
      rw [eu]
      exact .cons ru (pick_vals r l)
theorem pick_rep {K : PySem.W.Frag} {ph : Ph} {S : Hp} {vs : List V} {ds : List D} (r : RepAll K ph S vs ds) : ∀ l : List Nat, RepAll K ph S (pick l vs) (pick l ds)
  | [] => .nil
  | i :: l => by
    unfold pick
    rw [List.filterMap_cons, List.filterMap_cons]
    cases e : ds[i]? with
    | none =>
      have e' : vs[i]? = none := by
        have := List.getElem?_eq_none_iff.mp e
        exact List.getElem?_eq_none_iff.mpr (by rw [r.len]; exact this)
      rw [e']; exact pick_rep r l
    | some d =>
      obtain ⟨u, eu, ru⟩ := r.get e
      rw [eu]
      exact .cons ru (pick_rep r l)
def dCallK (m n : Nat) (sp : DSp) (l : List Nat) (E : DX) (t : DTA) : DTE := fun r M Q => t r M fun ds M1 => ds.length = m ∧ (pick l ds).length = n ∧ sp (pick l ds) M1 Q E
variable {k : Nat} {ps ks : List Str} {sp : DSp} {x : Str} {p pos : Pos} {kws : List Keyword} {t : DTA}
/-- f(k = v, ..): all arguments by their names -/
theorem dcallK {m n : Nat} {st : Stmt} (l : List Nat) {P : Program} {w : World} {K : PySem.W.Frag} {mg : Str → Option Value} {base : Heap} (F : Def P w K mg base CX0 k x st ps sp) {j : Nat} (hr : Room j X.A) (gd : X.A.guards = some []) (hkw : DK X kws t)
    (hks : (backToKw pos (keywordEach kws X.env)).filterMap (·.1) = ks)
    (hb : ∀ (kV doc pm : Value) (an : Option Addr) (cdv ct : Value) (us : List Value), us.length = ks.length → bindArgs (PySem.W.fnOf x x (defArgs st) (defBody st) (defScope st) .none kV doc pm an cdv ct) ⟨[], ks.zip us⟩ = pure (ps.zip (pick l us)))
    (hj : k ≤ j := by decide) (hm : ks.length = m := by rfl) (hn : ps.length = n := by rfl)
    (h1 : P = X.prog := by rfl) (h2 : w = X.w := by rfl) (h3 : K = X.K := by rfl) (h4 : mg = X.mg := by rfl) (h5 : base = X.base := by rfl) (hg : Gl X x := by rfl) (hdb : (x == ("__debug__" : Str)) = false := by decide) (hall : (backToKw pos (keywordEach kws X.env)).all (·.1.isSome) = true := by rfl)
    (hpl : ((backTo pos (starEach [] X.env)).any (·.1) || (backToKw pos (keywordEach kws X.env)).any (·.1.isNone)) = false := by rfl) : DE X (.Call (.Name x p) [] kws pos) (dCallK m n sp l DX0 t) := by
  subst h1 h2 h3 h4 h5 hn hm
  obtain ⟨f, fd, h1, h2, h3, h4, h5⟩ := F.ex
  refine ⟨⟨fun pins s σ H Q I ⟨ph, S, r, M, Q0, hs, ht, hq⟩ => wpAny_Call_Name_kw (ld_glob I hg h2 ?_ hdb)⟩⟩
  refine PySem.W.callWith_KW0 (h₀ := X.base) I.ok.mod.kin h3 hall (thn (hkw.pk.run pos pins s σ H _ I ⟨ph, S, r, M, _, hs, ht, fun _ _ z => z⟩) fun us s1 ⟨vs, H1, I1, r1, ph1, S1, M1, x1, hs1, ds, q1, hl, hp, g1⟩ => ⟨I1.kIn, ?_⟩) hpl
  rw [hks]
  obtain ⟨oc, od, kV, doc, pm, an, cdv, ct, osl, efd, lk, hcd⟩ := h5.ex
  have hul : us.length = ks.length := by rw [← Paired.length r1, q1.len]; exact hl
  have hb' : BindsTo s1 fd ⟨[], ks.zip us⟩ (ps.zip (pick l us)) := by
    rw [efd]
    exact .of_eq (hb kV doc pm an cdv ct us hul)
  refine wpAny_call (codeAny_mono (h1.run X.A X.stack s1 H1 ⟨[], ks.zip us⟩ (pick l us) (pick l vs) (post X.K ph1 S1 r σ Q0) E0 (hr.mono hj) gd I1.env0 hb' (pick_vals r1 l) ?_) fun r s' hz => ?_)
  · exact ⟨ph1, S1, M1, pick l ds, Q0, DX0, hp, hs1.drop, pick_rep q1 l, g1, fun v H2 ⟨ph2, S2, M2, x2, hs2, d, q2, h2⟩ => ⟨ph2, S2, M2, x2, hs1.back x2 hs2, d, q2, h2⟩, pX0 _ _⟩
  · match r, hz with
    | .error e, hz => exact pass0 pins σ H1 s1 e s' I1 hz
    | .ok (.ret u), hz => exact EP.up x1 (I1.after hz) hq
    | .ok .next, hz => exact False.elim hz
    | .ok .brk, hz => exact False.elim hz
    | .ok .cont, hz => exact False.elim hz
end
/-! ### a def, made known to its callers -/
theorem Def.mk' {P : Program} {w : World} {K : PySem.W.Frag} {mg : Str → Option Value} {base : Heap} {k : Nat} {x : Str} {st : Stmt} {ps : List Str} {sp : DSp} {f : Addr} {fd : FuncData} (F : Fun K x x st f fd) (h : FnD P w K mg base CX0 k f fd ps sp) (hm : mg x = some (.ref f)) (hb : Binds K fd ps []) : Def P w K mg base CX0 k x st ps sp :=
  ⟨f, fd, h, hm, F.kp, hb, F⟩
/-- a def that stands in the module -/
structure Here (K : PySem.W.Frag) (mg : Str → Option Value) (x : Str) (st : Stmt) (ps : List Str) : Prop where
  ex : ∃ (f : Addr) (fd : FuncData), Fun K x x st f fd ∧ mg x = some (.ref f) ∧ Binds K fd ps []
theorem here_of {K : PySem.W.Frag} {h : Heap} {mg : Str → Option Value} {x : Str} {st : Stmt} {ps : List Str} {f : Addr} {oc : Value} {od an : Option Addr} {osl : Array (Option Value)} {kV doc pm cdv ct : Value} (X : K.In h) (G : h.Ns mainGlobals mg)
    (a : PySem.W.nsIn K mainGlobals x = some (some (.ref f))) (l : K.lookup f = some ⟨oc, od, .func (PySem.W.fnOf x x (defArgs st) (defBody st) (defScope st) .none kV doc pm an cdv ct), osl⟩) (c : PySem.W.codeIn K cdv x = true) (k : PySem.W.keepIn K (.ref f) = true)
    (hb : ∀ (kV doc pm : Value) (an : Option Addr) (cdv ct : Value) (us : List Value), us.length = ps.length → bindArgs (PySem.W.fnOf x x (defArgs st) (defBody st) (defScope st) .none kV doc pm an cdv ct) ⟨us, []⟩ = pure (ps.zip us)) : Here K mg x st ps :=
  ⟨f, _, fun_mk (st := st) l c k, PySem.W.mg_of X G a, (fun_mk (st := st) l c k).binds hb⟩
section
variable {P : Program} {w : World} {K : PySem.W.Frag} {mg : Str → Option Value} {base : Heap}
/-- THE RULE for a def of the module -/
theorem Here.ok {x : Str} {st : Stmt} {N ps : List Str} {k : Nat} {sp : DSp} {t : DTS} (F : Here K mg x st ps) (S : FnScope N ps (defScope st))
    (hder : ∀ (f : Addr) (cdv : Value) (A : Around) (outer : List PySem.Env) (s : Shared) (H : Hp) (E : XK), Room k (A.deeper (envOfC x (defScope st) s.heap.objs.size f cdv)) → (A.deeper (envOfC x (defScope st) s.heap.objs.size f cdv)).guards = some [] →
      DSs (cxOf CX0 P w K mg base N x (defScope st) f cdv A outer s H E).nox (defBody st) t)
    (hread : ∀ ds M Q, ds.length = ps.length → sp ds M Q DX0 → t (dEnds M Q) (startD N.length ds) M)
    (hX : ∀ ds M Q E, sp ds M Q E → sp ds M Q DX0 := by exact fun _ _ _ _ h => h) : Def P w K mg base CX0 (k + 1) x st ps sp :=
  let ⟨f, fd, h1, h2, h3⟩ := F.ex
  Def.mk' h1 (Fun.okD h1 S (hder f) hread hX) h2 h3
end
/-! ### the end of a law -/
def spLaw : DSp := fun ds M Q _ => M = [] ∧ (∃ ns, ds = [.scr ns]) ∧ Q (.bl true) []
theorem law_callG {P : Program} {w : World} {K : PySem.W.Frag} {mg mb : Str → Option Value} {k : Nat} {fa a : Addr} {fd : FuncData} {x : Str} {s1 : Shared} {vs : List Value} {ns : List Int}
    (KX : K.In s1.heap) (hns : s1.heap.Ns mainGlobals mg) (hb : s1.heap.Ns builtinsNs mb) (hbb : ∀ x : Str, x ≠ "__name__" → mb x = bootBuiltins x) (hlim : s1.heap.NoLimit) (hg : s1.gens = #[])
    (ha : s1.heap.get? a = some { cls := .type "list", data := .seq vs.toArray }) (hi : IntsAre vs ns) (hl : ns.length ≤ sizeLine) (hr : Room k callerA)
    (F : ∀ base : Heap, K.In base → base.Ns mainGlobals mg → FnD P w K mg base CX0 k fa fd [x] spLaw) (hbind : ∀ (s : Shared) (u : Value), BindsTo s fd ⟨[u], []⟩ [(x, u)]) :
    codeAny (model P w) callerA (.call (.ref fa) ⟨[.ref a], []⟩) (fun r s' => r = .ok (.ret (.bool true)) ∧ OldK s1.heap s'.heap ∧ s'.os = s1.os ∧ AllBare s'.gens) s1 := by
  have rv := vals_ints hi
  have lenV := hi.length
  have core : ∀ H : Hp, Only H → SqL K H a (ns.map V.int) → HOk P w H s1.heap → (∀ b, H b ≠ none → b = a) → (H a ≠ none → K.lookup a = none) →
      codeAny (model P w) callerA (.call (.ref fa) ⟨[.ref a], []⟩) (fun r s' => r = .ok (.ret (.bool true)) ∧ OldK s1.heap s'.heap ∧ s'.os = s1.os ∧ AllBare s'.gens) s1 := by
    intro H hO hS hok hA hK
    have at_ : ∀ {b : Addr}, H b ≠ none → b = a := fun {b} z => hA b z
    have noA : ∀ {b : Addr} {o : Obj} {es : Array DictEntry} {ep : Nat}, s1.heap.get? b = some o → o.data = .dict es ep → H b = none := fun {b o es ep} e d => by
      by_cases z : H b = none
      · exact z
      · have e' := at_ z
        rw [e', ha] at e
        rw [← Option.some.inj e] at d
        exact nomatch d
    have nsK : ∀ {b : Addr} {m : Str → Option Value}, s1.heap.Ns b m → (hidT s1.heap H).Ns b m := fun {b m} ⟨o, es, ep, e, d, r⟩ => ⟨o, es, ep, hidT_get e (noA e d), d, r⟩
    have hKb : K.In (hidT s1.heap H) := fun b o e => hidT_get (KX b o e) (by
      by_cases z : H b = none
      · exact z
      · have e' := at_ z
        rw [e'] at e z
        rw [hK z] at e
        cases e)
    have hM : Mod K mg (hidT s1.heap H) := ⟨hKb, nsK hns, ⟨mb, nsK hb, hbb⟩, let ⟨mc, g1, g2⟩ := hlim; ⟨mc, nsK g1, g2⟩⟩
    have e0 : Env0 P w K mg (hidT s1.heap H) callerA [] s1 H := ⟨rfl, hM, fun b o e => of_hidT e, Nat.le_of_eq (hidT_size _ _), trivial, fun b hb => absurd (show b ∈ ([] : List Addr) from hb) (by simp), hok, .of_eq hg⟩
    have st0 : Sat K ⟨[], []⟩ H [] [] [] H := ⟨fun _ _ e => e, rfl, List.nodup_nil, fun k a e => by simp at e, fun k ds e => by simp at e, fun _ hp => (nomatch hp), List.nodup_nil, rfl, fun i d e => by simp at e⟩
    have sp0 : lfSp K 1 spLaw [.ref a] H (fun v _ => v = .bl true) E0 := ⟨⟨[], []⟩, H, [], [.scr ns], fun d M => d = .bl true, DX0, rfl, st0, .cons (.scr hS) .nil, ⟨rfl, ⟨ns, rfl⟩, rfl⟩, fun v H' ⟨_, _, _, _, _, d, q, e⟩ => by
      rw [e] at q
      cases q
      rfl, fun cls d H' ⟨_, _, _, _, _, _, _, _, _, _, _, _, _, _, _, _, z⟩ => z⟩
    refine codeAny_mono ((F _ hKb (nsK hns)).run callerA [] s1 H ⟨[.ref a], []⟩ [.ref a] [.ref a] _ _ hr rfl e0 (hbind s1 (.ref a)) (.cons rfl .nil) sp0) fun r s' h => ?_
    match r, h with
    | .error e, h => exact False.elim h
    | .ok .next, h => exact False.elim h
    | .ok .brk, h => exact False.elim h
    | .ok .cont, h => exact False.elim h
    | .ok (.ret u), ⟨v, H', os, bare, un, hok', r', q⟩ =>
      have q' : v = .bl true := q
      subst q'
      obtain rfl : u = Value.bool true := r'
      refine ⟨rfl, OldK.of_keep fun b o e => ?_, os, bare⟩
      rcases hO b with q | ⟨ob, xs, q⟩
      · exact un.keep b o e q (fun z => nomatch z) (fun z => nomatch z)
      · obtain ⟨e1, _⟩ := hok b _ q
        obtain ⟨e2, _⟩ := hok' b _ (un.frzs b ob _ q)
        rw [e] at e1
        cases e1
        exact e2
  cases hk : K.lookup a with
  | some o =>
    have e := KX a o hk
    rw [ha] at e
    cases e
    exact core (fun _ => none) (fun _ => .inl rfl) (.inr ⟨_, vs.toArray, _, hk, rfl, rfl, rfl, by rw [List.size_toArray, lenV]; exact hl, by simpa using rv⟩) (fun b u z => (nomatch z)) (fun b z => absurd rfl z) fun z => absurd rfl z
  | none =>
    refine core (fun b => if b = a then some (.frz { cls := .type "list", data := .seq vs.toArray } (.lst (ns.map V.int))) else none) (fun b => ?_) (.inl (.inr ⟨{ cls := .type "list", data := .seq vs.toArray }, if_pos rfl⟩)) (fun b u z => ?_) (fun b z => ?_) fun _ => hk
    · by_cases hb : b = a
      · exact .inr ⟨_, _, if_pos hb⟩
      · exact .inl (if_neg hb)
    · by_cases hb : b = a
      · have z := (if_pos hb).symm.trans z
        cases z
        rw [hb]
        exact ⟨ha, by rw [List.length_map]; exact hl, vs, _, rv, ha⟩
      · have z := (if_neg hb).symm.trans z
        cases z
    · by_cases hb : b = a
      · exact hb
      · exact absurd (if_neg hb) z
/-- the goal that k_head leaves -/
theorem walkD {l : PySem.W.OpenLaw} {n k : Nat} {q : Program} {loose : List Str} {XP : (Str → Option Value) → Heap → Prop} {YP : World → Heap → Prop} {d : DefRec} {K : Params → PySem.W.Frag} {x : Str} {st : Stmt}
    (hn : l.most = some n) (hn2 : n ≤ sizeLine) (hdf : d.params.defaults = []) (hr : Room k callerA) (hY : ∀ (w : World) (h : Heap), YP w h → (K w.params).In h)
    (F : ∀ (w : World) (mg : Str → Option Value) (h : Heap), (K w.params).In h → h.Ns mainGlobals mg → ∀ base : Heap, (K w.params).In base → base.Ns mainGlobals mg → Def l.prog w (K w.params) mg base CX0 k d.name st [x] spLaw)
    (hb : ∀ (kV doc pm : Value) (an : Option Addr) (cdv ct : Value) (u : Value), bindArgs (PySem.W.fnOf d.name d.name (defArgs st) (defBody st) (defScope st) .none kV doc pm an cdv ct) ⟨[u], []⟩ = pure [(x, u)]) :
    PySem.W.WalkO q loose XP YP l.row.toRowW d [] (fun f vs => PySem.call f vs) := by
  refine Att.attach_call hn hdf fun w s0 s1 mg mb fa o pm cd doc a vs ns G Y ho hd hcd hmg hobj hints hlen hg => ?_
  have KX := hY w _ Y
  obtain ⟨f0, fd, g1, g2, g3, g4, g5⟩ := (F w mg _ KX G.T.g _ KX G.T.g).ex
  have ef : f0 = fa := by
    rw [g2] at hmg
    exact Value.ref.inj (Option.some.inj hmg)
  subst ef
  obtain ⟨oc, od, kV, doc', pm', an, cdv, ct, osl, efd, lk, hcd'⟩ := g5.ex
  refine law_callG (fd := fd) (k := k) (x := x) KX G.T.g G.T.b G.T.builtins G.T.nolimit hg hobj hints (Nat.le_trans hlen hn2) hr (fun base h1 h2 => ?_) fun s u => ?_
  · obtain ⟨f1, fd1, k1, k2, k3, k4, k5⟩ := (F w mg _ KX G.T.g base h1 h2).ex
    have e1 : f1 = f0 := by
      rw [g2] at k2
      exact (Value.ref.inj (Option.some.inj k2)).symm
    subst e1
    obtain ⟨_, _, _, _, _, _, _, _, _, _, lk1, _⟩ := k5.ex
    rw [lk] at lk1
    have e2 : fd = fd1 := by
      have := Option.some.inj lk1
      injection this with _ _ z _
      exact Data.func.inj z
    rw [e2]
    exact k1
  · rw [efd]
    exact .of_eq (hb kV doc' pm' an cdv ct u)
end DL
/-! DL9: further rules; lemmas for readings -/
namespace DL
open PySem PySem.Spec PyProof.Rows L2
theorem u64 {A : Around} {k : Nat} (hr : Room k A) : A.units + 64 < cLine := hr.units
theorem u65 {A : Around} {k : Nat} (hr : Room k A) : A.units + 65 < cLine := by have := hr.un; omega
theorem ux {A : Around} {k : Nat} (hr : Room k A) : A.units + 200 < cLine := by have := hr.un; omega
section
variable {X : Cx}
/-- an owned list is handed on: it is changed no more -/
def gFrz (d : D) (M : Mem) (Q : DQ) : Prop := match d with
  | .own k => match M[k]? with
    | some (.lst l) => Q (.lst l) (M.set k .dead)
    | _ => False
  | d => Q d M
def dFrz (t : DTE) : DTE := fun r M Q => t r M fun d M1 => gFrz d M1 Q
end
variable {X : Cx}
/-! ### zip, enumerate -/
def pairD (x y : D) : D := .tup [x, y]
theorem RepAll.two {K : PySem.W.Frag} {ph : Ph} {S : Hp} {x y : V} {d e : D} (h : Rep K ph S x d) (g : Rep K ph S y e) : RepAll K ph S [x, y] [d, e] := .cons h (.cons g .nil)
theorem zip_get {l1 l2 : List D} {i : Nat} {d : D} (h : (List.zipWith pairD l1 l2)[i]? = some d) : ∃ x y, l1[i]? = some x ∧ l2[i]? = some y ∧ d = pairD x y := by
  rw [List.getElem?_zipWith] at h
  cases e1 : l1[i]? with
  | none => rw [e1] at h; cases h
  | some x =>
    cases e2 : l2[i]? with
    | none => rw [e1, e2] at h; cases h
    | some y =>
      rw [e1, e2] at h
      exact ⟨x, y, rfl, rfl, (Option.some.inj h).symm⟩
theorem Wlk.zip {K : PySem.W.Frag} {ph : Ph} {S : Hp} {a b : Addr} {d1 d2 : List D} {C1 C2 : Mem → Prop}
    (h1 : ∀ (ph' : Ph) (S' : Hp) (r' : Env) (M' : Mem) (σ' : St) (H' : Hp), (∀ (k : Nat) (a : Addr), ph.cells[k]? = some a → ph'.cells[k]? = some a) → Same S S' → Sat K ph' S' r' M' σ' H' → C1 M' → ∃ xs, SqL K H' a xs ∧ RepAll K ph' S' xs d1)
    (h2 : ∀ (ph' : Ph) (S' : Hp) (r' : Env) (M' : Mem) (σ' : St) (H' : Hp), (∀ (k : Nat) (a : Addr), ph.cells[k]? = some a → ph'.cells[k]? = some a) → Same S S' → Sat K ph' S' r' M' σ' H' → C2 M' → ∃ xs, SqL K H' b xs ∧ RepAll K ph' S' xs d2) :
    Wlk K ph S (Itz K a b) (List.zipWith pairD d1 d2) (fun M => C1 M ∧ C2 M) := fun ph' S' r M σ H e1 e2 hs hc => by
  obtain ⟨xs, q1, qa1⟩ := h1 ph' S' r M σ H e1 e2 hs hc.1
  obtain ⟨ys, q2, qa2⟩ := h2 ph' S' r M σ H e1 e2 hs hc.2
  refine ⟨fun i hi => ⟨xs, ys, q1, q2, by rw [qa1.len, qa2.len]; rw [List.length_zipWith] at hi; omega⟩, fun i d e => ?_⟩
  obtain ⟨x, y, ex, ey, rfl⟩ := zip_get e
  obtain ⟨u, eu, qu⟩ := qa1.get ex
  obtain ⟨w, ew, qw⟩ := qa2.get ey
  refine ⟨⟨xs, ys, u, w, q1, q2, eu, ew⟩, fun z H' ⟨T, u', w', ez, hT, eH, f1, f2⟩ => ?_⟩
  have e3 := f1 xs q1
  have e4 := f2 ys q2
  rw [eu] at e3; cases e3
  rw [ew] at e4; cases e4
  subst ez eH
  obtain ⟨x1, hs1⟩ := hs.frz hT (.tup [u, w])
  exact ⟨_, _, _, x1, hs1, rfl, .tup (.inl upd_same) ((RepAll.two qu qw).up x1)⟩
end DL
namespace DL
open PySem PySem.Spec PyProof.Rows L2
def t_is_whole : DTS :=
 (dRet (dAndV (dCB gIsi (dCons (dVar 0) (dCons (dC (.val (.ty "int"))) dNil))) (dNotV (dCB gIsi (dCons (dVar 0) (dCons (dC (.val (.ty "bool"))) dNil))))))
def t_root_floor_by : DTS :=
 (dSeq (dIfS (dTru (dOp (gCmpI fun i j => decide (i < j)) (dVar 0) (dC (.int 2)))) (dRet (dVar 0)) dNext)
 (dSeq (dAsg (dC (.int 1)) (dName 1))
 (dSeq (dWhile (dTru (dOp (gCmpI fun i j => decide (i ≤ j)) (dOp (rBin CMul fun i j => i * j) (dVar 1) (dVar 1)) (dVar 0))) (dAsg (dOp (rBin CMul fun i j => i * j) (dC (.int 2)) (dVar 1)) (dName 1)))
 (dSeq (dAsg (dOp (rBin CDiv fun i j => i.fdiv j) (dOp gAdd (dVar 1) (dOp (rBin CDiv fun i j => i.fdiv j) (dVar 0) (dVar 1))) (dC (.int 2))) (dName 2))
 (dSeq (dWhile (dTru (dOp (gCmpI fun i j => decide (i < j)) (dVar 2) (dVar 1))) (dPar 1 2 (dCons (dVar 2) (dCons (dOp (rBin CDiv fun i j => i.fdiv j) (dOp gAdd (dVar 2) (dOp (rBin CDiv fun i j => i.fdiv j) (dVar 0) (dVar 2))) (dC (.int 2))) dNil))))
 (dRet (dVar 1)))))))
def t_common_by : DTS :=
 (dSeq (dPar 2 3 (dCons (dCB gAbs (dCons (dVar 0) dNil)) (dCons (dCB gAbs (dCons (dVar 1) dNil)) dNil)))
 (dSeq (dWhile (dTru (dOp gNe (dVar 3) (dC (.int 0)))) (dPar 2 3 (dCons (dVar 3) (dCons (dOp (rBin CMod fun i j => i.fmod j) (dVar 2) (dVar 3)) dNil))))
 (dRet (dVar 2))))
def t_is_root_by (c_is_whole : DSp) (c_common_by : DSp) (c_root_floor_by : DSp) : DTS :=
 (dSeq (dIfS (dOr (dNot (dTru (dCB gIsi (dCons (dVar 1) (dCons (dC (.val (.ty "tuple"))) dNil))))) (dOr (dTru (dOp gNe (dCB gLen (dCons (dVar 1) dNil)) (dC (.int 3)))) (dTru (dOp gNe (dLc false (dSeqI (dVar 1)) (dName 2) (dNot (dTru (dCall 1 c_is_whole [] DX0 (dCons (dVar 2) dNil)))) (dVar 2) [2]) (dLst dNil))))) (dRet (dC (.bl false))) dNext)
 (dSeq (dAsg (dVar 1) (dGTup 3 (dGCons (dName 3) (dGCons (dName 4) (dGCons (dName 5) dGNil)))))
 (dSeq (dIfS (dOr (dTru (dOp (gCmpI fun i j => decide (i < j)) (dVar 5) (dC (.int 1)))) (dTru (dOp gNe (dCall 2 c_common_by [] DX0 (dCons (dCall 2 c_common_by [] DX0 (dCons (dVar 3) (dCons (dVar 4) dNil))) (dCons (dVar 5) dNil))) (dC (.int 1))))) (dRet (dC (.bl false))) dNext)
 (dSeq (dAsg (dCall 1 c_root_floor_by [] DX0 (dCons (dVar 0) dNil)) (dName 6))
 (dRet (dOrV (dOp gEq (dVar 4) (dC (.int 0))) (dOp gNe (dOp (rBin CMul fun i j => i * j) (dVar 6) (dVar 6)) (dVar 0))))))))
def t_root_by (c_root_floor_by : DSp) (c_common_by : DSp) : DTS :=
 (dSeq (dAsg (dCall 1 c_root_floor_by [] DX0 (dCons (dVar 0) dNil)) (dName 4))
 (dSeq (dIfS (dTru (dOp gEq (dOp (rBin CMul fun i j => i * j) (dVar 4) (dVar 4)) (dVar 0))) (dPar 1 2 (dCons (dOp gAdd (dVar 1) (dOp (rBin CMul fun i j => i * j) (dVar 2) (dVar 4))) (dCons (dC (.int 0)) dNil))) dNext)
 (dSeq (dAsg (dCall 2 c_common_by [] DX0 (dCons (dCall 2 c_common_by [] DX0 (dCons (dVar 1) (dCons (dVar 2) dNil))) (dCons (dVar 3) dNil))) (dName 5))
 (dSeq (dIfS (dTru (dOp (gCmpI fun i j => decide (i < j)) (dVar 3) (dC (.int 0)))) (dAsg (dOp (rBin (fun _ _ => True) fun i j => i - j) (dC (.int 0)) (dVar 5)) (dName 5)) dNext)
 (dRet (dTup (dCons (dOp (rBin CDiv fun i j => i.fdiv j) (dVar 1) (dVar 5)) (dCons (dOp (rBin CDiv fun i j => i.fdiv j) (dVar 2) (dVar 5)) (dCons (dOp (rBin CDiv fun i j => i.fdiv j) (dVar 3) (dVar 5)) dNil)))))))))
def t_l_random_7821 (c_l_hash_9cde : DSp) : DTS :=
 (dSeq (dIfS (dTru (dOp (gCmpI fun i j => decide (j < i)) (dOp gIx (dVar 0) (dC (.int 0))) (dC (.int 0)))) (dSeq (dAsg (dOp (rBin CMod fun i j => i.fmod j) (dCB gInt (dCons (dOp gIx (dVar 0) (dC (.int 0))) dNil)) (dVar 1)) (dName 2))
 (dSeq (dAsg (dOp (rBin CDiv fun i j => i.fdiv j) (dOp gIx (dVar 0) (dC (.int 0))) (dVar 1)) (dSub (dVar 0) (dC (.int 0))))
 (dRet (dVar 2)))) dNext)
 (dSeq (dAsg (dC (.int 0)) (dName 2))
 (dSeq (dFor (dRngI gRng1 (dCons (dOp gAdd (dC (.int 1)) (dOp (rBin CDiv fun i j => i.fdiv j) (dBits (dVar 1)) (dC (.int 30)))) dNil)) (dName 3) (dSeq (dAsg (dOp gAdd (dOp gIx (dVar 0) (dC (.int 2))) (dC (.int 1))) (dSub (dVar 0) (dC (.int 2))))
 (dAsg (dOp gAdd (dOp (rBin CMul fun i j => i * j) (dVar 2) (dC (.int 2147483587))) (dCall 2 c_l_hash_9cde [] DX0 (dCons (dOp gIx (dVar 0) (dC (.int 1))) (dCons (dOp gIx (dVar 0) (dC (.int 2))) dNil)))) (dName 2))))
 (dRet (dOp (rBin CMod fun i j => i.fmod j) (dCB gInt (dCons (dVar 2) dNil)) (dVar 1))))))
def t_l_cell_cf3b : DTS :=
 (dSeq (dIfS (dTru (dOp (gCmpI fun i j => decide (i < j)) (dVar 1) (dCB gLen (dCons (dVar 0) dNil)))) (dRet (dOp gIx (dVar 0) (dVar 1))) dNext)
 (dRet (dOp (rBin CMod fun i j => i.fmod j) (dCB gSum (dCons (dSl (gSlL false) (dVar 0) dNoPart (dPart (dC (.int 1)))) dNil)) (dC (.int 1000003)))))
def t_l_generator_b324 (c_l_cell_cf3b : DSp) : DTS :=
 (dSeq (dAsg (dCall 2 c_l_cell_cf3b [] DX0 (dCons (dVar 0) (dCons (dVar 1) dNil))) (dName 2))
 (dRet (dOwn (dCons (dOp (rBin CMod fun i j => i.fmod j) (dCB gInt (dCons (dCB gMax (dCons (dOp (rBin (fun _ _ => True) fun i j => i - j) (dVar 2) (dOp (rBin CPow fun i j => i ^ j.toNat) (dC (.int 10)) (dC (.int 18)))) (dCons (dC (.int 0)) dNil))) dNil)) (dOp (rBin CPow fun i j => i ^ j.toNat) (dOp (rBin CPow fun i j => i ^ j.toNat) (dC (.int 10)) (dC (.int 60))) (dC (.int 10)))) (dCons (dOp (rBin CMod fun i j => i.fmod j) (dCB gInt (dCons (dVar 2) dNil)) (dC (.int 2147483647))) (dCons (dOp (rBin CMul fun i j => i * j) (dC (.int 1000)) (dVar 1)) dNil))))))
end DL
namespace DL
open PySem PySem.Spec PyProof.Rows L2
def t_plus_by (c_root_by : DSp) : DTS :=
 (dSeq (dAsg (dOp gAdd (dOp (rBin CMul fun i j => i * j) (dOp gIx (dVar 1) (dC (.int 0))) (dOp gIx (dVar 2) (dC (.int 2)))) (dOp (rBin CMul fun i j => i * j) (dOp gIx (dVar 2) (dC (.int 0))) (dOp gIx (dVar 1) (dC (.int 2))))) (dName 3))
 (dRet (dCall 4 c_root_by [] DX0 (dCons (dVar 0) (dCons (dVar 3) (dCons (dOp gAdd (dOp (rBin CMul fun i j => i * j) (dOp gIx (dVar 1) (dC (.int 1))) (dOp gIx (dVar 2) (dC (.int 2)))) (dOp (rBin CMul fun i j => i * j) (dOp gIx (dVar 2) (dC (.int 1))) (dOp gIx (dVar 1) (dC (.int 2))))) (dCons (dOp (rBin CMul fun i j => i * j) (dOp gIx (dVar 1) (dC (.int 2))) (dOp gIx (dVar 2) (dC (.int 2)))) dNil)))))))
def t_minus_by (c_plus_by : DSp) : DTS :=
 (dRet (dCall 3 c_plus_by [] DX0 (dCons (dVar 0) (dCons (dVar 1) (dCons (dTup (dCons (dOp (rBin (fun _ _ => True) fun i j => i - j) (dC (.int 0)) (dOp gIx (dVar 2) (dC (.int 0)))) (dCons (dOp (rBin (fun _ _ => True) fun i j => i - j) (dC (.int 0)) (dOp gIx (dVar 2) (dC (.int 1)))) (dCons (dOp gIx (dVar 2) (dC (.int 2))) dNil)))) dNil)))))
def t_times_by (c_root_by : DSp) : DTS :=
 (dSeq (dAsg (dOp gAdd (dOp (rBin CMul fun i j => i * j) (dOp gIx (dVar 1) (dC (.int 0))) (dOp gIx (dVar 2) (dC (.int 0)))) (dOp (rBin CMul fun i j => i * j) (dOp (rBin CMul fun i j => i * j) (dVar 0) (dOp gIx (dVar 1) (dC (.int 1)))) (dOp gIx (dVar 2) (dC (.int 1))))) (dName 3))
 (dRet (dCall 4 c_root_by [] DX0 (dCons (dVar 0) (dCons (dVar 3) (dCons (dOp gAdd (dOp (rBin CMul fun i j => i * j) (dOp gIx (dVar 1) (dC (.int 0))) (dOp gIx (dVar 2) (dC (.int 1)))) (dOp (rBin CMul fun i j => i * j) (dOp gIx (dVar 1) (dC (.int 1))) (dOp gIx (dVar 2) (dC (.int 0))))) (dCons (dOp (rBin CMul fun i j => i * j) (dOp gIx (dVar 1) (dC (.int 2))) (dOp gIx (dVar 2) (dC (.int 2)))) dNil)))))))
end DL
namespace DL
open PySem PySem.Spec PyProof.Rows L2
def t_side_by : DTS :=
 (dSeq (dPar 2 3 (dCons (dOp gIx (dVar 1) (dC (.int 0))) (dCons (dOp gIx (dVar 1) (dC (.int 1))) dNil)))
 (dSeq (dIfS (dAnd (dTru (dOp (gCmpI fun i j => decide (j ≤ i)) (dVar 2) (dC (.int 0)))) (dTru (dOp (gCmpI fun i j => decide (j ≤ i)) (dVar 3) (dC (.int 0))))) (dRet (dIf (dOr (dTru (dOp (gCmpI fun i j => decide (j < i)) (dVar 2) (dC (.int 0)))) (dTru (dOp (gCmpI fun i j => decide (j < i)) (dVar 3) (dC (.int 0))))) (dC (.int 1)) (dC (.int 0)))) dNext)
 (dSeq (dIfS (dAnd (dTru (dOp (gCmpI fun i j => decide (i ≤ j)) (dVar 2) (dC (.int 0)))) (dTru (dOp (gCmpI fun i j => decide (i ≤ j)) (dVar 3) (dC (.int 0))))) (dRet (dNeg (dC (.int 1)))) dNext)
 (dSeq (dAsg (dOp (rBin (fun _ _ => True) fun i j => i - j) (dOp (rBin CMul fun i j => i * j) (dVar 2) (dVar 2)) (dOp (rBin CMul fun i j => i * j) (dOp (rBin CMul fun i j => i * j) (dVar 0) (dVar 3)) (dVar 3))) (dName 4))
 (dRet (dIf (dTru (dOp (gCmpI fun i j => decide (j < i)) (dVar 2) (dC (.int 0)))) (dIf (dTru (dOp (gCmpI fun i j => decide (j < i)) (dVar 4) (dC (.int 0)))) (dC (.int 1)) (dNeg (dC (.int 1)))) (dIf (dTru (dOp (gCmpI fun i j => decide (i < j)) (dVar 4) (dC (.int 0)))) (dC (.int 1)) (dNeg (dC (.int 1))))))))))
end DL
namespace DL
open PySem PySem.Spec PyProof.Rows L2
def t_l_hash_d8d1 : DTS :=
 (dSeq (dAsg (dOp (rBin CMod fun i j => i.fmod j) (dCB gInt (dCons (dOp gAdd (dOp gAdd (dOp gAdd (dOp (rBin CMul fun i j => i * j) (dVar 0) (dC (.int 1140671))) (dOp (rBin CMul fun i j => i * j) (dOp (rBin CMul fun i j => i * j) (dC (.int 27644437)) (dVar 1)) (dVar 1))) (dOp (rBin CMul fun i j => i * j) (dC (.int 131)) (dVar 1))) (dC (.int 19))) dNil)) (dC (.int 2147483629))) (dName 2))
 (dSeq (dAsg (dOp (rBin CMod fun i j => i.fmod j) (dCB gInt (dCons (dOp gAdd (dOp gAdd (dOp (rBin CMul fun i j => i * j) (dVar 2) (dVar 2)) (dOp (rBin CMul fun i j => i * j) (dC (.int 62089)) (dVar 1))) (dC (.int 32416187))) dNil)) (dC (.int 2147483587))) (dName 2))
 (dRet (dOp (rBin CMod fun i j => i.fmod j) (dCB gInt (dCons (dOp (rBin CMul fun i j => i * j) (dVar 2) (dC (.int 48271))) dNil)) (dC (.int 2147483647))))))
def t_is_cutting_by (c_is_whole : DSp) (c_common_by : DSp) : DTS :=
 (dSeq (dIfS (dOr (dNot (dTru (dCB gIsi (dCons (dVar 0) (dCons (dC (.val (.ty "tuple"))) dNil))))) (dOr (dTru (dOp gNe (dCB gLen (dCons (dVar 0) dNil)) (dC (.int 4)))) (dTru (dOp gNe (dLc false (dSeqI (dVar 0)) (dName 1) (dNot (dTru (dCall 1 c_is_whole [] DX0 (dCons (dVar 1) dNil)))) (dVar 1) [1]) (dLst dNil))))) (dRet (dC (.bl false))) dNext)
 (dSeq (dAsg (dVar 0) (dGTup 4 (dGCons (dName 2) (dGCons (dName 3) (dGCons (dName 4) (dGCons (dName 5) dGNil))))))
 (dSeq (dIfS (dOr (dTru (dOp (gCmpI fun i j => decide (i < j)) (dVar 3) (dC (.int 1)))) (dOr (dTru (dOp (gCmpI fun i j => decide (i < j)) (dVar 4) (dC (.int 1)))) (dNot (dTru (dOp (gCmpI fun i j => decide (i < j)) (dOp gAdd (dVar 4) (dVar 5)) (dVar 3)))))) (dRet (dC (.bl false))) dNext)
 (dSeq (dAsg (dCall 2 c_common_by [] DX0 (dCons (dVar 3) (dCons (dVar 4) dNil))) (dName 6))
 (dRet (dAndV (dChain (gCmpI fun i j => decide (i ≤ j)) (gCmpI fun i j => decide (i < j)) (dC (.int 0)) (dVar 2) (dVar 6)) (dOp gEq (dCall 2 c_common_by [] DX0 (dCons (dCall 2 c_common_by [] DX0 (dCons (dVar 2) (dCons (dVar 6) dNil))) (dCons (dVar 5) dNil))) (dC (.int 1)))))))))
def t_check_cutting (c_is_cutting_by : DSp) : DTS :=
 (dIfS (dNot (dTru (dCall 1 c_is_cutting_by [] DX0 (dCons (dVar 0) dNil)))) dNever dNext)
def t_measure_by : DTS :=
 (dRet (dOp gAdd (dOp (rBin CMul fun i j => i * j) (dOp gIx (dVar 0) (dC (.int 3))) (dOp gIx (dVar 0) (dC (.int 3)))) (dOp (rBin CMul fun i j => i * j) (dOp (rBin CMul fun i j => i * j) (dC (.int 4)) (dOp gIx (dVar 0) (dC (.int 1)))) (dOp gIx (dVar 0) (dC (.int 2))))))
end DL
namespace DL
open PySem PySem.Spec PyProof.Rows L2
end DL
/-! DLS: sorted of ints, of tuples of ints -/
namespace DL
open PySem PySem.Spec PyProof.Rows L2
/-- by the first unlike number -/
def lexL : List Int → List Int → Bool
  | [], [] => false
  | [], _ :: _ => true
  | _ :: _, [] => false
  | x :: xs, y :: ys => if x = y then lexL xs ys else decide (x < y)
/-- at v: a tuple of these ints -/
def IsTupI (h : Heap) (v : Value) (ns : List Int) : Prop := ∃ a o us n, v = .ref a ∧ h.get? a = some o ∧ o.cls = .type "tuple" ∧ o.data = .seq (List.toArray us) n ∧ Vals (ns.map V.int) us
theorem IsTupI.keeps {h h' : Heap} {v : Value} {ns : List Int} (p : IsTupI h v ns) (k : ∀ b o, h.get? b = some o → o.cls = .type "tuple" → h'.get? b = some o) : IsTupI h' v ns := by
  obtain ⟨a, o, us, n, e, ho, hc, hd, r⟩ := p
  exact ⟨a, o, us, n, e, k _ _ ho hc, hc, hd, r⟩
/-- the ints of a tuple, as H tells -/
def kV (K : PySem.W.Frag) (H : Hp) (v : V) : List Int := match v with
  | .ref t => match H t with
    | some (.tup xs) => xs.map fun x => match x with
      | .int i => i
      | _ => 0
    | _ => match K.lookup t with
      | some ⟨_, _, .seq its _, _⟩ => its.toList.map fun u => match u with
        | .int i _ => i
        | _ => 0
      | _ => []
  | _ => []
/-! ### as a rule for data -/
/-! ### slices of lists and tuples alike -/
section
variable {X : Cx}
def gSl (own : Bool) (d : D) (lo hi : Option Int) (M : Mem) (Q : DQ) : Prop := match d with
  | .tup l => Q (.tup (cutD l lo hi)) M
  | d => gSlL own d lo hi M Q
theorem de_sl (own : Bool) {e : Expr} {lo hi : Option Expr} {t : DTE} {tl th : DTO} {pos p2 : Pos} (h : DE X e t) (h1 : DO X lo tl) (h2 : DO X hi th) : DE X (.Subscript e (.Slice lo hi none p2) pos) (dSl (gSl own) t tl th) :=
  DE.of (pe_slice (SlR.or sl_list sl_tupA) h.pe h1.po h2.po) fun ph S r M σ H Q hs ht Q' hq => ⟨ph, S, r, M, _, hs, ht, fun v H1 ⟨ph1, S1, M1, x1, hs1, d, q1, g1⟩ =>
    ⟨ph1, S1, r, M1, _, hs1, g1, fun lo H2 ⟨ph2, S2, M2, x2, hs2, g2⟩ => ⟨ph2, S2, r, M2, _, hs2, g2, fun hi H3 ⟨ph3, S3, M3, x3, hs3, g3⟩ => by
      replace g3 : gSl own d lo hi M3 Q := g3
      have xx := x1.trans (x2.trans x3)
      have q3 := q1.up (x2.trans x3)
      by_cases htup : ∃ l, d = .tup l
      · obtain ⟨l, rfl⟩ := htup
        cases q3 with
        | tup h1 h2 =>
          refine .inr ⟨_, _, rfl, h1.sq hs3.sub, fun hw => ?_, fun _ b hb => hq _ _ (Aft.up xx (Aft.frz hs3 hb fun x => ⟨_, .tup (.inl upd_same) ((cut_rep h2).up x), g3⟩))⟩
          have hw' : HT.sIx l.length 0 lo = 0 ∧ HT.sIx l.length l.length hi = l.length := by rw [← h2.len]; exact hw
          refine hq _ _ (Aft.up xx (Aft.here hs3 ⟨_, .tup h1 ?_, g3⟩))
          unfold cutD
          rw [cut_whole hw']
          exact h2
      · left
        have g4 : gSlL own d lo hi M3 Q := by cases d <;> first | exact g3 | exact absurd ⟨_, rfl⟩ htup
        unfold gSlL at g4
        split at g4
        · rename_i l er
          obtain ⟨p, xs, rfl, hp, hx⟩ := res_lst hs3 q3 er
          refine ⟨p, xs, rfl, SqL.of hp, fun b hb => ?_⟩
          cases own with
          | false => exact hq _ _ (Aft.up xx (Aft.frz hs3 hb fun x => ⟨_, .lst upd_same ((cut_rep hx).up x), g4⟩))
          | true => exact hq _ _ (Aft.up xx (Aft.own hs3 hb (cut_rep hx) g4))
        · rename_i ns er
          have er' := res_scr er
          subst er'
          cases q3 with
          | scr h1 =>
            refine ⟨_, _, rfl, hs3.sub.seq h1, fun b hb => ?_⟩
            cases own with
            | false => exact hq _ _ (Aft.up xx (Aft.frz hs3 hb fun x => ⟨_, .lst upd_same (cut_rep (RepAll.ints _)), g4⟩))
            | true => exact hq _ _ (Aft.up xx (Aft.own hs3 hb (cut_rep (RepAll.ints _)) g4))
        · exact g4.elim⟩⟩⟩
theorem gSl_tup {own : Bool} {l : List D} {lo hi : Option Int} {M : Mem} {Q : DQ} : gSl own (.tup l) lo hi M Q = Q (.tup (cutD l lo hi)) M := rfl
theorem gSl_lst {l : List D} {lo hi : Option Int} {M : Mem} {Q : DQ} : gSl false (.lst l) lo hi M Q = Q (.lst (cutD l lo hi)) M := rfl
theorem cut_1 {a : D} {l : List D} : cutD (a :: l) (some 1) none = l := by
  unfold cutD
  have e1 : HT.sIx (a :: l).length 0 (some 1) = 1 := by
    have := HT.sIx_nat (a :: l).length 0 1
    rw [show ((1 : Nat) : Int) = 1 from rfl] at this
    rw [this, List.length_cons]
    omega
  have e2 : HT.sIx (a :: l).length (a :: l).length none = (a :: l).length := rfl
  rw [e1, e2]
  simp
end
/-! ### x + y, lists, the sum to be changed -/
section
variable {X : Cx}
def gAddO : G2 := fun x y M Q => match res M x, res M y with
  | .lst a, .lst b => a.length + b.length ≤ sizeLine ∧ Q (.own M.length) (M ++ [.lst (a ++ b)])
  | _, _ => False
theorem opd_addO : OpD X (binaryOp .Add) gAddO := by
  intro pins s σ H ph S r M x y dx dy v u Q I hs rx ry qx qy hg
  unfold gAddO at hg
  split at hg
  · rename_i a b e1 e2
    obtain ⟨p1, xs, rfl, h1, hx⟩ := res_lst hs qx e1
    obtain ⟨p2, ys, rfl, h2, hy⟩ := res_lst hs qy e2
    have l1 := hx.len
    have l2 := hy.len
    exact op_cat pins s σ H _ _ v u _ I rx ry ⟨_, _, _, _, rfl, rfl, h1, h2, by have := hg.1; omega, fun p hp => Aft.own hs hp (hx.app hy) hg.2⟩
  · exact hg.elim
end
end DL
namespace DL
open PySem PySem.Spec PyProof.Rows L2
end DL
namespace DL
open PySem PySem.Spec PyProof.Rows L2
end DL
namespace DL
open PySem PySem.Spec PyProof.Rows L2
end DL
namespace DL
open PySem PySem.Spec PyProof.Rows L2
end DL
/-! DLU: max and min of a list of ints -/
namespace DL
open PySem PySem.Spec PyProof.Rows L2
end DL
namespace DL
open PySem PySem.Spec PyProof.Rows L2
end DL
namespace DL
open PySem PySem.Spec PyProof.Rows L2
end DL
/-! DLV: sorted({(a, b), (c, d)}) -/
namespace DL
open PySem PySem.Spec PyProof.Rows L2
/-! ### a def whose own code must be known -/
end DL
namespace DL
open PySem PySem.Spec PyProof.Rows L2
end DL
namespace DL
open PySem PySem.Spec PyProof.Rows L2
end DL
/-! DLX: errors over data: raised, passed on, caught, asked -/
namespace DL
open PySem PySem.Spec PyProof.Rows L2
section
variable {X : Cx} {pos : Pos}
/-! ### names of the module as values; an error's value and kind -/
def dFld (t : DTE) : DTE := fun r M Q => t r M fun d M1 => match d with
  | .exc _ v => Q v M1
  | _ => False
end
/-! ### what may leave -/
abbrev DXE := Env → Str → D → Mem → Prop
def postE (K : PySem.W.Frag) (ph : Ph) (S : Hp) (E : DXE) : WX := fun cls d σ H => ∃ (x : Str) (C T dd : Addr) (v : V) (dv : D) (r : Env), XA.ErC K x C T ∧ cls = .ref C ∧ d = some dd ∧
  Aft K ph S r σ H fun ph' S' M => S' dd = some (.xd [(fVal, v)]) ∧ Rep K ph' S' v dv ∧ E r x dv M
theorem postE.up {K : PySem.W.Frag} {ph ph1 : Ph} {S S1 : Hp} {E : DXE} {cls : Value} {d : Option Addr} {σ : St} {H : Hp} (x : Ext ph S ph1 S1) (h : postE K ph1 S1 E cls d σ H) : postE K ph S E cls d σ H :=
  let ⟨y, C, T, dd, v, dv, r, h1, h2, h3, h4⟩ := h
  ⟨y, C, T, dd, v, dv, r, h1, h2, h3, Aft.up x h4⟩
section
variable {X : Cx} {pos : Pos}
theorem postE.back {K : PySem.W.Frag} {ph ph1 : Ph} {S S1 : Hp} {E : DXE} {cls : Value} {d : Option Addr} {σ : St} {H : Hp} (x : Ext ph S ph1 S1) (h : postE K ph1 S1 E cls d σ H) : postE K ph S E cls d σ H := h.up x
variable {k : Nat} {f : Addr} {fd : FuncData} {ps : List Str} {sp : DSp} {x : Str} {p : Pos} {e : Expr} {es : List Expr} {t : DXE → DTA}
/-- f(..), f may raise -/
def dCallX (n : Nat) (sp : DSp) (t : DXE → DTA) : DXE → DTE := fun E r M Q => t E r M fun ds M1 => ds.length = n ∧ sp ds M1 Q (fun y dv M2 => E r y dv M2)
end
end DL
/-! DLY: statements that may raise; try; a def that raises -/
namespace DL
open PySem PySem.Spec PyProof.Rows L2
section
variable {X : Cx} {pos : Pos}
/-- raise x(e) -/
def dRaise (x : Str) (t : DTA) : DXE → DTS := fun E _ r M => t r M fun ds M1 => ∃ d, ds = [d] ∧ E r x d M1
/-! ### try -/
/-- try: t / except c as (slot i): ts, all that t raises being of the class c -/
def dTry (c : Str) (i : Nat) (t : DXE → DTS) (ts : DTS) : DTS := fun E r M => t (fun r' x dv M' => XA.under x c = true ∧
  ts { nx := fun r2 M2 => E.nx (r2.set i none) M2, rt := E.rt, bk := fun r2 M2 => E.bk (r2.set i none) M2, ct := fun r2 M2 => E.ct (r2.set i none) M2 } (r'.set i (some (.exc x dv))) M') E r M
end
/-! ### a def that may raise -/
/-! ### a def that may raise, called where it doesn't -/
section
variable {X : Cx} {k : Nat} {ps ks : List Str} {sp : DSp} {x : Str} {p pos : Pos} {e : Expr} {es : List Expr} {kws : List Keyword} {t : DTA}
/-! ### a call of what an expression tells (a def out of a list of defs) -/
/-- the defs that may be meant: name, number of parameters, contract -/
abbrev Tab := List (Str × Nat × DSp)
def dCallV (L : Tab) (tf : DTE) (t : DXE → DTA) : DXE → DTE := fun E r M Q => tf r M fun d M0 => match d with
  | .glb x => ∃ n sp, (x, n, sp) ∈ L ∧ t E r M0 fun ds M1 => ds.length = n ∧ sp ds M1 Q (fun y dv M2 => E r y dv M2)
  | _ => False
end
end DL
namespace DL
open PySem PySem.Spec PyProof.Rows L2
end DL
namespace DL
open PySem PySem.Spec PyProof.Rows L2
end DL
/-! DLZ: list(range), range with a step, enumerate, xs[::-1], xs.index -/
namespace DL
open PySem PySem.Spec PyProof.Rows L2
section
variable {X : Cx} {pos : Pos}
/-! ### list(range(..)) -/
def gLRng (own : Bool) : GA := fun ds M Q => match ds with
  | [.int b] => RgOk 0 b ∧ (if own = true then Q (.own M.length) (M ++ [.lst (rng 0 b.toNat)]) else Q (.lst (rng 0 b.toNat)) M)
  | [.int a, .int b] => RgOk a b ∧ (if own = true then Q (.own M.length) (M ++ [.lst (rng a (b - a).toNat)]) else Q (.lst (rng a (b - a).toNat)) M)
  | _ => False
/-! ### range(a, b, c) -/
/-! ### enumerate -/
/-! ### xs[::-1] -/
/-! ### xs.index(y) -/
end
end DL
namespace DL
open PySem PySem.Spec PyProof.Rows L2
end DL
namespace DL
open PySem PySem.Spec PyProof.Rows L2
end DL
/-! XC: list(range(a, b, c)); xs.count(y) -/
namespace L2
open PySem PySem.Spec PyProof.Rows PyProof
end L2
/-! DLC: list(range(a, b, c)), xs.count(y), comparisons and reprs of data with owned lists within -/
namespace DL
open PySem PySem.Spec PyProof.Rows L2
section
variable {X : Cx} {pos : Pos}
/-! ### xs.count(y) -/
/-! ### owned lists within -/
def cellL (M : Mem) (k : Nat) : Option (List D) := match M[k]? with
  | some (.lst ds) => some ds
  | _ => none
mutual
/-- every owned list within as it stands -/
def resD (M : Mem) : D → D
  | .own k => match cellL M k with
    | some ds => .lst ds
    | none => .own k
  | .tup l => .tup (resDA M l)
  | .lst l => .lst (resDA M l)
  | d => d
def resDA (M : Mem) : List D → List D
  | [] => []
  | d :: ds => resD M d :: resDA M ds
end
section
variable {K : PySem.W.Frag} {ph : Ph} {S : Hp} {r : Env} {M : Mem} {σ : St} {H : Hp}
mutual
theorem Rep.resD (hs : Sat K ph S r M σ H) : ∀ (d : D) (v : V), Rep K ph S v d → Rep K ph H v (resD M d)
  | .own k, v, q => by
    unfold DL.resD
    split
    · rename_i ds hk
      have hk' : M[k]? = some (.lst ds) := by
        unfold cellL at hk
        split at hk
        · rename_i e; cases hk; exact e
        · cases hk
      cases q with
      | own h =>
        obtain ⟨a, xs, c1, c2, c3, c4⟩ := hs.cell k ds hk'
        rw [h] at c1; cases c1
        exact .lst c3 (hs.readAll c4)
    · exact hs.read q
  | .tup l, _, .tup h1 h2 => by
    unfold DL.resD
    exact .tup (h1.ext hs.sub) (RepAll.resD hs l _ h2)
  | .lst l, _, .lst h1 h2 => by
    unfold DL.resD
    exact .lst (hs.sub _ _ h1) (RepAll.resD hs l _ h2)
  | .non, _, q => hs.read q
  | .bl _, _, q => hs.read q
  | .int _, _, q => hs.read q
  | .str _, _, q => hs.read q
  | .dct0, _, q => hs.read q
  | .scr _, _, q => hs.read q
  | .exc _ _, _, q => hs.read q
  | .errS, _, q => hs.read q
  | .glb _, _, q => hs.read q
  | .val _, _, q => hs.read q
theorem RepAll.resD (hs : Sat K ph S r M σ H) : ∀ (ds : List D) (vs : List V), RepAll K ph S vs ds → RepAll K ph H vs (resDA M ds)
  | [], _, .nil => by unfold DL.resDA; exact .nil
  | d :: ds, _, .cons q t => by unfold DL.resDA; exact .cons (Rep.resD hs d _ q) (RepAll.resD hs ds _ t)
end
end
end
end DL
namespace DL
open PySem PySem.Spec PyProof.Rows L2
end DL
/-! XD: repr of a list whose items may be dicts, where no list within is asked about -/
namespace L2
open PySem PySem.Spec PyProof.Rows PyProof
section
variable {prog : Program} {w : World} {A : Around} {E : Value → Shared → Prop} {s : Shared} {Q : Value → Shared → Prop}
theorem repr_listZ {a : Addr} {o : Obj} {vs : Array Value} {n : Nat} {xs : List PyData} {as : List Addr} (ho : s.heap.get? a = some o) (oc : o.cls = .type "list") (od : o.data = .seq vs n) (rs : ReadsAll s.heap vs.toList xs as)
    (sh : PyData.showableAll xs = true) (no : sysModules ∉ as) (gd : A.guards = some []) (un : A.units + (PyData.depthAll xs + 3) < cLine) (len : (PyData.list xs).shown.length ≤ sizeLine)
    (q : ∀ h' u tk, (∀ b o, s.heap.get? b = some o → h'.get? b = some o) → Q (.str (PyData.list xs).shown u) { s with heap := h', toks := tk }) :
    wpAny (model prog w) A (call (.builtin "repr") [.ref a]) Q E s := by
  have len2 : (listText (PyData.shownAll xs)).length ≤ sizeLine := by simpa only [PyData.shown] using len
  obtain ⟨cs, deep, each⟩ := ReprAllK.of_readsAll (prog := prog) (w := w) rs sh (fun _ => no) (fun t ht => Nat.le_trans (listText_mem_le ht) len2)
  have away : a ∉ cs := not_mem_of_deeper (.list ho oc od rs) (by simp only [PyData.depth]; omega) deep
  refine call_repr_slot (by omega) ⟨o, ho, oc⟩ F.slot_list_repr.toG ?_
  simp only [PyData.shown] at q
  cases vs with
  | mk l =>
    cases l with
    | nil =>
      cases (show ReadsAll s.heap [] xs as from rs)
      simp only [PyData.shownAll, listText_nil] at q
      exact call_list_repr_empty ⟨o, ho, oc⟩ ho od ⟨_, _, rfl, q s.heap _ _ fun _ _ z => z⟩
    | cons x l =>
      refine call_list_reprK ho oc od away (by simpa using each.length_eq) (fun i y z => each.item i y (by simpa using z)) gd (fun b _ => Clear.nil b) ?_ (fun _ _ z => z) (fun h' u tk kp => ⟨_, _, rfl, q h' u tk kp⟩) len2
      show A.units + 1 + (PyData.depthAll xs + 1) < cLine
      omega
end
end L2
/-! DLR: how readings are shown -/
namespace DL
open PySem PySem.Spec PyProof.Rows L2
/-! ### while -/
/-- the same, the measure told apart -/
theorem dwhile_of {c : DTT} {t : DTS} {E : DEnds} {r : Env} {M : Mem} (W : Nat → Env → Mem → Prop) (n : Nat) (h0 : W n r M)
    (step : ∀ n r M, W n r M → c r M fun b M1 => if b = true then t { E with nx := fun r' M' => ∃ m', m' < n ∧ W m' r' M', ct := fun r' M' => ∃ m', m' < n ∧ W m' r' M', bk := E.nx } r M1 else E.nx r M1) : dWhile c t E r M := ⟨W, ⟨n, h0⟩, step⟩
/-! ### comparing plain data -/
theorem gEq_int {i j : Int} {M : Mem} {Q : DQ} : gEq (.int i) (.int j) M Q = Q (.bl (i == j)) M := rfl
theorem gNe_int {i j : Int} {M : Mem} {Q : DQ} : gNe (.int i) (.int j) M Q = Q (.bl (!(i == j))) M := rfl
theorem gEq_bl {i j : Bool} {M : Mem} {Q : DQ} : gEq (.bl i) (.bl j) M Q = Q (.bl (i == j)) M := rfl
theorem gNe_bl {i j : Bool} {M : Mem} {Q : DQ} : gNe (.bl i) (.bl j) M Q = Q (.bl (!(i == j))) M := rfl
/-! ### the end of a def -/
theorem rtq {M : Mem} {Q : DQ} {d : D} (q : Q d M) (hb : below M.length d = true := by rfl) : Rtq M Q d M := ⟨M, [], (List.append_nil M).symm, Nat.le_refl _, hb, fun _ _ h => .inl h, q⟩
theorem rtqG {M G : Mem} {Q : DQ} {d : D} (q : Q d M) (hb : below M.length d = true := by rfl) : Rtq M Q d (M ++ G) := ⟨M, G, rfl, Nat.le_refl _, hb, fun _ _ h => .inl h, q⟩
/-- new cells stay, others were changed: all of them plain -/
theorem rtqC {M M1 : Mem} {Q : DQ} {d : D} (q : Q d M1) (hl : M.length ≤ M1.length) (hb : below M1.length d = true) (hc : ∀ (i : Nat) (c : Own), M1[i]? = some c → M[i]? = some c ∨ belowO M1.length c = true) : Rtq M Q d M1 := ⟨M1, [], (List.append_nil _).symm, hl, hb, hc, q⟩
end DL
namespace DL
open PySem PySem.Spec PyProof.Rows L2
/-! ### comprehensions -/
theorem lcW_pure {ds : List D} {C : Mem → Prop} {g : DTG} {tt : DTT} {te : DTE} {r : Env} {M : Mem} {Q : DQ} (f : D → Option D) (hC : C M) (hl : ds.length ≤ sizeLine)
    (step : ∀ d ∈ ds, ∀ (Y : D → Mem → Prop) (N : Mem → Prop), (match f d with | some e => Y e M | none => N M) → g d r M fun r2 M2 => tt r2 M2 fun b M3 => if b = true then te r2 M3 Y else N M3)
    (q : Q (.lst (ds.filterMap f)) M) : lcW false ds C g tt te r M Q := by
  refine ⟨fun i acc M' => M' = M ∧ acc = (ds.take i).filterMap f ∧ i ≤ ds.length, ⟨rfl, rfl, Nat.zero_le _⟩, ?_⟩
  rintro i acc M' ⟨rfl, rfl, hi⟩
  refine ⟨hC, fun hd => ?_, fun d ed => ?_⟩
  · rw [if_neg Bool.false_ne_true]
    rw [List.take_of_length_le hd]; exact q
  · have hlt : i < ds.length := (List.getElem?_eq_some_iff.mp ed).1
    have ht : ds.take (i + 1) = ds.take i ++ [d] := by rw [List.take_add_one, ed]; rfl
    refine step d (List.mem_of_getElem? ed) _ _ ?_
    split
    · rename_i e he
      refine ⟨?_, rfl, ?_, hlt⟩
      · have h1 : ((ds.take i).filterMap f).length ≤ (ds.take i).length := List.length_filterMap_le _ _
        have h2 : (ds.take i).length ≤ i := by rw [List.length_take]; omega
        omega
      · rw [ht, List.filterMap_append]
        simp [he]
    · rename_i he
      refine ⟨rfl, ?_, hlt⟩
      rw [ht, List.filterMap_append]
      simp [he]
/-! ### data that may be compared -/
mutual
def fine (n : Nat) : D → Bool
  | .non => true
  | .bl _ => true
  | .int _ => true
  | .str x => PyData.strOk x
  | .tup l => match n with
    | 0 => false
    | n + 1 => fineAll n l
  | .lst l => match n with
    | 0 => false
    | n + 1 => fineAll n l
  | _ => false
def fineAll (n : Nat) : List D → Bool
  | [] => true
  | d :: ds => fine n d && fineAll n ds
end
mutual
theorem fine_py : ∀ (n : Nat) (d : D), fine n d = true → ∃ p, toPy d = some p ∧ p.canLay0 = true ∧ p.depth ≤ n
  | n, .non, _ => ⟨.none, rfl, by simp only [PyData.canLay0], by simp only [PyData.depth]; omega⟩
  | n, .bl b, _ => ⟨.bool b, rfl, by simp only [PyData.canLay0], by simp only [PyData.depth]; omega⟩
  | n, .int i, _ => ⟨.int i, rfl, by simp only [PyData.canLay0], by simp only [PyData.depth]; omega⟩
  | n, .str x, h => ⟨.str x, rfl, by simpa only [PyData.canLay0, fine] using h, by simp only [PyData.depth]; omega⟩
  | 0, .tup l, h => by simp [fine] at h
  | n + 1, .tup l, h => by
    obtain ⟨ps, h1, h2, h3, _⟩ := fine_pyAll n l (by simpa only [fine] using h)
    exact ⟨.tuple ps, by simp only [toPy, h1], by simpa only [PyData.canLay0] using h2, by simp only [PyData.depth]; omega⟩
  | 0, .lst l, h => by simp [fine] at h
  | n + 1, .lst l, h => by
    obtain ⟨ps, h1, h2, h3, _⟩ := fine_pyAll n l (by simpa only [fine] using h)
    exact ⟨.list ps, by simp only [toPy, h1], by simpa only [PyData.canLay0] using h2, by simp only [PyData.depth]; omega⟩
  | n, .dct0, h => by simp [fine] at h
  | n, .scr _, h => by simp [fine] at h
  | n, .own _, h => by simp [fine] at h
  | n, .exc _ _, h => by simp [fine] at h
  | n, .errS, h => by simp [fine] at h
  | n, .glb _, h => by simp [fine] at h
  | n, .val _, h => by simp [fine] at h
theorem fine_pyAll : ∀ (n : Nat) (ds : List D), fineAll n ds = true → ∃ ps, toPyAll ds = some ps ∧ PyData.canLayAll0 ps = true ∧ PyData.depthAll ps ≤ n ∧ ps.length = ds.length
  | n, [], _ => ⟨[], rfl, by simp only [PyData.canLayAll0], by simp only [PyData.depthAll]; omega, rfl⟩
  | n, d :: ds, h => by
    have h' : fine n d = true ∧ fineAll n ds = true := by simpa only [fineAll, Bool.and_eq_true] using h
    obtain ⟨p, a1, a2, a3⟩ := fine_py n d h'.1
    obtain ⟨ps, b1, b2, b3, b4⟩ := fine_pyAll n ds h'.2
    exact ⟨p :: ps, by simp only [toPyAll, a1, b1], by simp only [PyData.canLayAll0, a2, b2, Bool.and_self], by simp only [PyData.depthAll]; omega, by rw [List.length_cons, List.length_cons, b4]⟩
end
theorem cmpd_fine {n : Nat} {d : D} (h : fine n d = true) (hn : n ≤ 64 := by decide) : ∃ p, toPy d = some p ∧ cmpd d = some p := by
  obtain ⟨p, h1, h2, h3⟩ := fine_py n d h
  refine ⟨p, h1, ?_⟩
  unfold cmpd
  rw [h1]
  have : SeqAt.shaped p = true := by unfold SeqAt.shaped; rw [h2]; simp; omega
  simp only [this, if_true]
theorem fineAll_iff {n : Nat} : ∀ {l : List D}, fineAll n l = true ↔ ∀ d ∈ l, fine n d = true
  | [] => by simp [fineAll]
  | d :: l => by simp only [fineAll, Bool.and_eq_true, List.mem_cons, forall_eq_or_imp, fineAll_iff (l := l)]
theorem res_fine {n : Nat} {d : D} {M : Mem} (h : fine n d = true) : res M d = d := by
  cases d <;> first | rfl | (simp [fine] at h)
theorem eqv_self {n : Nat} {d : D} {p : PyData} (h : fine n d = true) (hp : toPy d = some p) : PyData.eqv p p = true := by
  obtain ⟨p', h1, h2, _⟩ := fine_py n d h
  rw [hp] at h1; cases h1
  exact SeqAt.eqv_refl p h2
theorem eqB_self {n : Nat} {d : D} (h : fine n d = true) (hn : n ≤ 64 := by decide) : eqB d d = some true := by
  obtain ⟨p, h1, h2⟩ := cmpd_fine h hn
  unfold eqB
  split
  · simp_all
  · rw [h2]
    show some (PyData.eqv p p) = _
    rw [eqv_self h h1]
theorem gEq_same {n : Nat} {d : D} {M : Mem} {Q : DQ} (h : fine n d = true) (q : Q (.bl true) M) (hn : n ≤ 64 := by decide) : gEq d d M Q := by
  unfold gEq
  rw [res_fine h, eqB_self h hn]
  exact q
theorem eqB_nil {n : Nat} {l : List D} (h : fineAll n l = true) (hn : n ≤ 60 := by decide) : eqB (.lst l) (.lst []) = some l.isEmpty := by
  have hf : fine (n + 1) (.lst l) = true := by simpa only [fine] using h
  obtain ⟨p, h1, h2⟩ := cmpd_fine hf (by omega)
  obtain ⟨ps, b1, _, _, b4⟩ := fine_pyAll n l h
  have e : p = .list ps := by simp only [toPy, b1] at h1; exact (Option.some.inj h1).symm
  subst e
  show (match cmpd (.lst l), cmpd (.lst []) with
    | some p, some q => some (PyData.eqv p q)
    | _, _ => none) = _
  rw [h2]
  show some (PyData.eqv (.list ps) (.list [])) = _
  cases l with
  | nil => cases ps with
    | nil => rfl
    | cons _ _ => simp at b4
  | cons _ _ => cases ps with
    | nil => simp at b4
    | cons _ _ => rfl
/-- a list beside the empty one -/
theorem gNe_nil' {n : Nat} {l : List D} {M : Mem} {Q : DQ} (h : fineAll n l = true) (q : Q (.bl (!l.isEmpty)) M) (hn : n ≤ 60 := by decide) : gNe (.lst l) (.lst []) M Q := by
  unfold gNe
  show match eqB (.lst l) (.lst []) with | some b => Q (.bl (!b)) M | none => False
  rw [eqB_nil h hn]
  exact q
theorem gNe_strs {a b : Str} {M : Mem} {Q : DQ} : gNe (.str a) (.str b) M Q = Q (.bl (!(a == b))) M := rfl
theorem gEq_strs {a b : Str} {M : Mem} {Q : DQ} : gEq (.str a) (.str b) M Q = Q (.bl (a == b)) M := rfl
/-! ### data that may be shown -/
mutual
def lit (B : Nat) : D → Bool
  | .int i => decide (i.natAbs.log2 < B)
  | .tup l => litAll B l
  | .lst l => litAll B l
  | _ => true
def litAll (B : Nat) : List D → Bool
  | [] => true
  | d :: ds => lit B d && litAll B ds
end
mutual
def wt (B : Nat) : D → Nat
  | .int _ => B + 1
  | .str x => x.cps.size
  | .tup l => wtAll B l
  | .lst l => wtAll B l
  | _ => 0
def wtAll (B : Nat) : List D → Nat
  | [] => 0
  | d :: ds => wt B d + 1 + wtAll B ds
end
theorem strOk_short {x : Str} (h : PyData.strOk x = true) : ∀ c ∈ x.cps.toList, c < 16 ^ 8 := by
  have h0 : x.cps.all (· < 0x110000) = true := h
  intro c hc
  have h1 := (Array.all_eq_true_iff_forall_mem.mp h0) c (Array.mem_toList_iff.mp hc)
  have h2 : c < 0x110000 := by simpa using h1
  have e : (16 : Nat) ^ 8 = 4294967296 := by decide
  omega
mutual
theorem lit_py (B : Nat) (hB : B ≤ 1919) : ∀ (n : Nat) (d : D) (p : PyData), fine n d = true → lit B d = true → toPy d = some p → p.showable = true ∧ p.leavesShort (B + 8) = true ∧ p.weight ≤ wt B d
  | n, .non, p, _, _, e => by cases e; exact ⟨by simp only [PyData.showable], by simp only [PyData.leavesShort], by simp only [PyData.weight]; omega⟩
  | n, .bl b, p, _, _, e => by cases e; exact ⟨by simp only [PyData.showable], by simp only [PyData.leavesShort], by simp only [PyData.weight]; omega⟩
  | n, .int i, p, _, h, e => by
    cases e
    have h' : i.natAbs.log2 < B := by simpa only [lit, decide_eq_true_eq] using h
    refine ⟨?_, ?_, ?_⟩
    · simp only [PyData.showable, decide_eq_true_eq]; omega
    · simp only [PyData.leavesShort, decide_eq_true_eq]
      show (Str.ofString (toString i)).length ≤ _
      rw [PySem.ofString_length]
      have := int_text_length_le (a := i) (k := B) (by omega) h'
      omega
    · simp only [PyData.weight, wt]
      split <;> omega
  | n, .str x, p, hf, _, e => by
    cases e
    refine ⟨by simp only [PyData.showable], ?_, by simp only [PyData.weight, wt]; omega⟩
    simp only [PyData.leavesShort, List.all_eq_true, decide_eq_true_eq]
    exact strOk_short (by simpa only [fine] using hf)
  | 0, .tup l, p, h, _, _ => by simp [fine] at h
  | 0, .lst l, p, h, _, _ => by simp [fine] at h
  | n + 1, .tup l, p, h, h2, e => by
    obtain ⟨ps, e1, _⟩ := fine_pyAll n l (by simpa only [fine] using h)
    have e' : p = .tuple ps := by simp only [toPy, e1] at e; exact (Option.some.inj e).symm
    subst e'
    obtain ⟨a, b, c⟩ := lit_pyAll B hB n l ps (by simpa only [fine] using h) (by simpa only [lit] using h2) e1
    exact ⟨by simpa only [PyData.showable] using a, by simpa only [PyData.leavesShort] using b, by simpa only [PyData.weight, wt] using c⟩
  | n + 1, .lst l, p, h, h2, e => by
    obtain ⟨ps, e1, _⟩ := fine_pyAll n l (by simpa only [fine] using h)
    have e' : p = .list ps := by simp only [toPy, e1] at e; exact (Option.some.inj e).symm
    subst e'
    obtain ⟨a, b, c⟩ := lit_pyAll B hB n l ps (by simpa only [fine] using h) (by simpa only [lit] using h2) e1
    exact ⟨by simpa only [PyData.showable] using a, by simpa only [PyData.leavesShort] using b, by simpa only [PyData.weight, wt] using c⟩
  | n, .dct0, _, h, _, _ => by simp [fine] at h
  | n, .scr _, _, h, _, _ => by simp [fine] at h
  | n, .own _, _, h, _, _ => by simp [fine] at h
  | n, .exc _ _, _, h, _, _ => by simp [fine] at h
  | n, .errS, _, h, _, _ => by simp [fine] at h
  | n, .glb _, _, h, _, _ => by simp [fine] at h
  | n, .val _, _, h, _, _ => by simp [fine] at h
theorem lit_pyAll (B : Nat) (hB : B ≤ 1919) : ∀ (n : Nat) (ds : List D) (ps : List PyData), fineAll n ds = true → litAll B ds = true → toPyAll ds = some ps → PyData.showableAll ps = true ∧ PyData.leavesShortAll (B + 8) ps = true ∧ PyData.weightAll ps ≤ wtAll B ds
  | n, [], ps, _, _, e => by cases e; exact ⟨by simp only [PyData.showableAll], by simp only [PyData.leavesShortAll], by simp only [PyData.weightAll]; omega⟩
  | n, d :: ds, ps, h, h2, e => by
    have h' : fine n d = true ∧ fineAll n ds = true := by simpa only [fineAll, Bool.and_eq_true] using h
    have h2' : lit B d = true ∧ litAll B ds = true := by simpa only [litAll, Bool.and_eq_true] using h2
    obtain ⟨p, a1, _, _⟩ := fine_py n d h'.1
    obtain ⟨qs, b1, _, _, _⟩ := fine_pyAll n ds h'.2
    have e' : ps = p :: qs := by simp only [toPyAll, a1, b1] at e; exact (Option.some.inj e).symm
    subst e'
    obtain ⟨c1, c2, c3⟩ := lit_py B hB n d p h'.1 h2'.1 a1
    obtain ⟨d1, d2, d3⟩ := lit_pyAll B hB n ds qs h'.2 h2'.2 b1
    refine ⟨by simp only [PyData.showableAll, c1, d1, Bool.and_self], by simp only [PyData.leavesShortAll, c2, d2, Bool.and_self], ?_⟩
    simp only [PyData.weightAll, wtAll]; omega
end
/-- d's repr is covered: ints of B bits, at most -/
theorem shw_of (B n : Nat) {d : D} (h : fine n d = true) (hl : lit B d = true) (hw : (B + 10) * wt B d + B + 8 ≤ 16777216) (hB : B ≤ 1919 := by decide) (hn : n ≤ 64 := by decide) : ∃ z, shwn d = some z := by
  obtain ⟨p, e1, e2, e3⟩ := fine_py n d h
  obtain ⟨a, b, c⟩ := lit_py B hB n d p h hl e1
  have h1 := PyData.shown_le (B + 8) (by omega) p b
  have h2 : (B + 8 + 2) * p.weight ≤ (B + 10) * wt B d := Nat.mul_le_mul (by omega) c
  refine ⟨p.shown, ?_⟩
  unfold shwn
  rw [e1]
  dsimp only
  rw [if_pos ⟨a, by omega, by rw [sizeLine_eq]; omega, PyData.hasDict_of_canLay p e2⟩]
/-! ### items by a written index -/
section
variable {α : Type}
theorem atI_of (n : Nat) {l : List α} (h : n < l.length) : atI l (n : Int) = l[n]? := by
  unfold atI ixN
  rw [if_pos (by omega), if_pos (by omega)]
  rfl
theorem atI_0 {a : α} {l : List α} : atI (a :: l) 0 = some a := atI_of 0 (by simp)
theorem atI_1 {a b : α} {l : List α} : atI (a :: b :: l) 1 = some b := atI_of 1 (by simp)
theorem atI_2 {a b c : α} {l : List α} : atI (a :: b :: c :: l) 2 = some c := atI_of 2 (by simp)
theorem atI_3 {a b c d : α} {l : List α} : atI (a :: b :: c :: d :: l) 3 = some d := atI_of 3 (by simp)
theorem atI_4 {a b c d e : α} {l : List α} : atI (a :: b :: c :: d :: e :: l) 4 = some e := atI_of 4 (by simp)
theorem atI_5 {a b c d e f : α} {l : List α} : atI (a :: b :: c :: d :: e :: f :: l) 5 = some f := atI_of 5 (by simp)
theorem ixN_30 : ixN 3 0 = some 0 := by decide
theorem ixN_31 : ixN 3 1 = some 1 := by decide
theorem ixN_32 : ixN 3 2 = some 2 := by decide
end
theorem rs_lst {M : Mem} {l : List D} : res M (.lst l) = .lst l := rfl
theorem rs_tup {M : Mem} {l : List D} : res M (.tup l) = .tup l := rfl
theorem rs_scr {M : Mem} {l : List Int} : res M (.scr l) = .scr l := rfl
theorem rs_int {M : Mem} {i : Int} : res M (.int i) = .int i := rfl
theorem intsD_map : ∀ ns : List Int, intsD (ns.map D.int) = some ns
  | [] => rfl
  | n :: ns => by rw [List.map_cons]; unfold intsD; rw [intsD_map ns]
theorem cut_map (ns : List Int) (lo hi : Option Int) : ∃ xs : List Int, cutD (ns.map D.int) lo hi = xs.map D.int := by
  unfold cutD
  rw [← List.map_drop, ← List.map_take]
  exact ⟨_, rfl⟩
end DL
/-! DLD: repr of data with empty dicts -/
namespace DL
open PySem PySem.Spec PyProof.Rows L2
mutual
/-- no list within -/
def nolst : D → Bool
  | .lst _ => false
  | .own _ => false
  | .tup l => nolstA l
  | _ => true
def nolstA : List D → Bool
  | [] => true
  | d :: ds => nolst d && nolstA ds
end
section
variable {X : Cx} {pins : List (Addr × Obj)} {s : Shared} {ph : Ph} {σ : St} {H : Hp}
mutual
theorem Rep.readsZ (I : Inv X pins σ H s) : ∀ (d : D) (v : V) (u : Value) (p : PyData), Rep X.K ph H v d → RelV v u → toPy d = some p → nolst d = true → ∃ as, Reads s.heap u p as ∧ sysModules ∉ as
  | .non, _, _, _, h, rv, e, _ => by cases h; cases rv; cases e; exact ⟨_, .none, by simp⟩
  | .bl _, _, _, _, h, rv, e, _ => by cases h; cases rv; cases e; exact ⟨_, .bool _, by simp⟩
  | .int _, _, _, _, h, rv, e, _ => by cases h; obtain ⟨t, rfl⟩ := rv; cases e; exact ⟨_, .int _ _, by simp⟩
  | .str _, _, _, _, h, rv, e, _ => by cases h; obtain ⟨t, rfl⟩ := rv; cases e; exact ⟨_, .str _ _, by simp⟩
  | .tup ds, _, _, _, h, rv, e, n => by
    cases h with
    | tup h1 h2 =>
      cases rv
      simp only [toPy] at e
      split at e
      · rename_i ps ep
        cases e
        obtain ⟨its, rx, ⟨o, ho, hc, n', hd⟩, _⟩ := I.tuple (h1.sq fun _ _ z => z)
        obtain ⟨as, q, qa⟩ := RepAll.readsZ I ds _ its ps h2 rx ep (by simpa only [nolst] using n)
        exact ⟨_, .tuple ho hc hd q, qa⟩
      · cases e
  | .lst ds, _, _, _, _, _, _, n => by simp [nolst] at n
  | .dct0, _, _, _, h, rv, e, _ => by
    cases h with
    | dct0 h1 =>
      cases rv
      cases e
      obtain ⟨_, hs, vs, hk, o, es, ep, ho, hx, hd, _, he, _⟩ := I.hok _ _ h1
      cases hk
      have e0 : es = #[] := by
        cases es with
        | mk l =>
          cases l with
          | nil => rfl
          | cons x l => exact nomatch he
      subst e0
      refine ⟨_, .dict ho hx.1 hd .nil .nil, fun ha => ?_⟩
      simp at ha
      rw [← ha] at hs
      exact absurd hs (by decide)
  | .scr ns, _, _, _, _, _, e, _ => by cases e
  | .own _, _, _, _, _, _, e, _ => by cases e
  | .exc _ _, _, _, _, _, _, e, _ => by cases e
  | .errS, _, _, _, _, _, e, _ => by cases e
  | .glb _, _, _, _, _, _, e, _ => by cases e
  | .val _, _, _, _, _, _, e, _ => by cases e
theorem RepAll.readsZ (I : Inv X pins σ H s) : ∀ (ds : List D) (vs : List V) (us : List Value) (ps : List PyData), RepAll X.K ph H vs ds → Vals vs us → toPyAll ds = some ps → nolstA ds = true → ∃ as, ReadsAll s.heap us ps as ∧ sysModules ∉ as
  | [], _, _, _, h, rv, e, _ => by cases h; cases rv; cases e; exact ⟨_, .nil, by simp⟩
  | d :: ds, _, _, _, h, rv, e, n => by
    have n' : nolst d = true ∧ nolstA ds = true := by simpa only [nolstA, Bool.and_eq_true] using n
    cases h with
    | cons h1 h2 =>
      cases rv with
      | cons r1 r2 =>
        simp only [toPyAll] at e
        split at e
        · rename_i p ps ep eps
          cases e
          obtain ⟨as, q1, a1⟩ := Rep.readsZ I d _ _ p h1 r1 ep n'.1
          obtain ⟨bs, q2, a2⟩ := RepAll.readsZ I ds _ _ ps h2 r2 eps n'.2
          refine ⟨_, .cons q1 q2, fun ha => ?_⟩
          rcases List.mem_append.mp ha with ha | ha
          · exact a1 ha
          · exact a2 ha
        · cases e
end
end
/-- dicts may stand within -/
def okZ : D → Bool
  | .lst l => nolstA l
  | d => nolst d
def shwnZ (d : D) : Option Str := match toPy d with
  | some p => if p.showable = true ∧ p.depth ≤ 64 ∧ p.shown.length ≤ sizeLine ∧ (p.hasDict = false ∨ okZ d = true) then some p.shown else none
  | none => none
def gReprZ : GA := fun ds M Q => match ds with
  | [d] => match shwnZ (resD M d) with
    | some z => Q (.str z) M
    | none => False
  | _ => False
section
variable {X : Cx}
theorem cd_reprZ (gd : X.A.guards = some []) (hu : X.A.units + 200 < cLine) : CallD X (.builtin "repr") gReprZ := by
  intro pins s σ H ph S r M vs us ds Q I hs rv q hg
  match ds, vs, us, rv, q, hg with
  | [d], [v], [u], .cons ru .nil, .cons q .nil, hg =>
    unfold gReprZ at hg
    dsimp only at hg
    split at hg
    · rename_i z ez
      unfold shwnZ at ez
      split at ez
      · rename_i p ep
        by_cases hp : p.showable = true ∧ p.depth ≤ 64 ∧ p.shown.length ≤ sizeLine ∧ (p.hasDict = false ∨ okZ (resD M d) = true)
        · rw [if_pos hp] at ez
          cases ez
          have qd := Rep.resD hs _ _ q
          have plain : ∀ as, Reads s.heap u p as → (p.hasDict = true → sysModules ∉ as) → wpAny (model X.prog X.w) X.A (call (.builtin "repr") [u]) (fun x s' => ∃ v H', Inv X pins σ H' s' ∧ RelV v x ∧ Aft X.K ph S r σ H' fun ph' S' M' => ∃ d', Rep X.K ph' S' v d' ∧ Q d' M') X.xe s := fun as h1 hn => by
            by_cases hr : ∃ a, u = .ref a
            · obtain ⟨a, rfl⟩ := hr
              refine PySem.repr_of_reads' h1 hp.1 hn gd ?_ (fun _ _ e => e) (fun h' u tk k => ⟨.str p.shown, H, I.kept k, ⟨_, rfl⟩, Aft.here hs ⟨_, .str _, hg⟩⟩) hp.2.2.1
              have := hp.2.1; omega
            · exact shown_flat h1 (fun a e => hr ⟨a, e⟩) hp.1 hp.2.2.1 fun tk tk' => ⟨.str p.shown, H, I.tok _, ⟨_, rfl⟩, Aft.here hs ⟨_, .str _, hg⟩⟩
          rcases hp.2.2.2 with h0 | h0
          · obtain ⟨as, h1, _⟩ := Rep.reads I _ _ _ _ qd ru ep
            exact plain as h1 fun z => by rw [h0] at z; cases z
          · by_cases hl : nolst (resD M d) = true
            · obtain ⟨as, h1, h2⟩ := Rep.readsZ I _ _ _ _ qd ru ep hl
              exact plain as h1 fun _ => h2
            · generalize resD M d = dd at *
              cases dd with
              | lst l =>
                cases qd with
                | lst g1 g2 =>
                  cases ru
                  simp only [toPy] at ep
                  split at ep
                  · rename_i ps eps
                    cases ep
                    obtain ⟨its, rx, ⟨o, n, ho, hc, _, hd⟩, _⟩ := I.list (SqL.of g1)
                    obtain ⟨as, q2, qa⟩ := RepAll.readsZ I l _ its ps g2 rx eps h0
                    refine repr_listZ ho hc hd q2 (by simpa only [PyData.showable] using hp.1) qa gd ?_ hp.2.2.1 fun h' u tk k => ⟨.str _, H, I.kept k, ⟨_, rfl⟩, Aft.here hs ⟨_, .str _, hg⟩⟩
                    have := hp.2.1
                    simp only [PyData.depth] at this
                    omega
                  · cases ep
              | _ => exact absurd h0 hl
        · rw [if_neg hp] at ez; cases ez
      · cases ez
    · exact hg.elim
end
theorem shwnZ_of {d : D} {z : Str} (h : shwn d = some z) : shwnZ d = some z := by
  unfold shwn at h
  unfold shwnZ
  split at h
  · rename_i p ep
    by_cases hp : p.showable = true ∧ p.depth ≤ 64 ∧ p.shown.length ≤ sizeLine ∧ p.hasDict = false
    · rw [if_pos hp] at h
      try rw [ep]
      try dsimp only
      rw [if_pos ⟨hp.1, hp.2.1, hp.2.2.1, .inl hp.2.2.2⟩]
      exact h
    · rw [if_neg hp] at h; cases h
  · cases h
end DL
namespace DL
open PySem PySem.Spec PyProof.Rows L2
end DL
/-! XE: a dict beside an int -/
namespace L2
open PySem PySem.Spec PyProof.Rows PyProof
open PySem.SeqAt PySem.AutoSeq1 PySem.Sem
end L2
/-! DLG: an empty dict beside an int -/
namespace DL
open PySem PySem.Spec PyProof.Rows L2
end DL
namespace DL
open PySem PySem.Spec PyProof.Rows L2
end DL
/-! DLK: the module's own tuples, starred items, len(set(..)) of ints -/
namespace DL
open PySem PySem.Spec PyProof.Rows L2
/-- the module's value at a is the data d -/
def KRep (K : PySem.W.Frag) (u : Value) (d : D) : Prop := ∃ v : V, RelV v u ∧ ∀ ph S, Rep K ph S v d
theorem KRep.int {K : PySem.W.Frag} {i : Int} {t : Tok} : KRep K (.int i t) (.int i) := ⟨.int i, ⟨t, rfl⟩, fun _ _ => .int _⟩
inductive KReps (K : PySem.W.Frag) : List Value → List D → Prop
  | nil : KReps K [] []
  | cons {u : Value} {us : List Value} {d : D} {ds : List D} : KRep K u d → KReps K us ds → KReps K (u :: us) (d :: ds)
theorem KRep.all {K : PySem.W.Frag} : ∀ {us : List Value} {ds : List D}, KReps K us ds → ∃ vs, Vals vs us ∧ ∀ ph S, RepAll K ph S vs ds
  | _, _, .nil => ⟨[], .nil, fun _ _ => .nil⟩
  | _, _, .cons ⟨v, r, q⟩ t => by
    obtain ⟨vs, rs, qs⟩ := KRep.all t
    exact ⟨v :: vs, .cons r rs, fun ph S => .cons (q ph S) (qs ph S)⟩
def dZ : D → Bool
  | .int i => i == 0
  | _ => false
def dTp : D → Bool
  | .tup _ => true
  | _ => false
def kcD (ds : List D) : Bool := ds.length == 3 || decide (3 ≤ (ds.filter dZ).length) || ds.any dTp
theorem dZ_vZ {K : PySem.W.Frag} {ph : Ph} {S : Hp} {v : V} {d : D} (h : Rep K ph S v d) (e : dZ d = true) : vZ v = true := by
  cases h <;> first | exact e | cases e
theorem dTp_vRf {K : PySem.W.Frag} {ph : Ph} {S : Hp} {v : V} {d : D} (h : Rep K ph S v d) (e : dTp d = true) : vRf v = true := by
  cases h <;> first | rfl | cases e
theorem kconst_of {K : PySem.W.Frag} {ph : Ph} {S : Hp} {vs : List V} {ds : List D} (h : RepAll K ph S vs ds) (e : kcD ds = true) : kconst vs = true := by
  unfold kcD at e
  unfold kconst
  rw [Bool.or_eq_true, Bool.or_eq_true] at e ⊢
  rcases e with (e | e) | e
  · exact .inl (.inl (by rw [h.len]; exact e))
  · refine .inl (.inr ?_)
    rw [decide_eq_true_eq] at e ⊢
    refine Nat.le_trans e ?_
    have go : ∀ (ds : List D) (vs : List V), RepAll K ph S vs ds → (ds.filter dZ).length ≤ (vs.filter vZ).length := by
      intro ds
      induction ds with
      | nil => intro vs h; exact Nat.zero_le _
      | cons d ds ih =>
        intro vs h
        cases h with
        | cons h1 h2 =>
          have := ih _ h2
          rw [List.filter_cons, List.filter_cons]
          by_cases z : dZ d = true
          · rw [if_pos z, if_pos (dZ_vZ h1 z), List.length_cons, List.length_cons]; omega
          · rw [if_neg z]; split
            · rw [List.length_cons]; omega
            · exact this
    exact go _ _ h
  · refine .inr ?_
    have go : ∀ (ds : List D) (vs : List V), RepAll K ph S vs ds → ds.any dTp = true → vs.any vRf = true := by
      intro ds
      induction ds with
      | nil => intro vs h e; cases e
      | cons d ds ih =>
        intro vs h e
        cases h with
        | cons h1 h2 =>
          rw [List.any_cons, Bool.or_eq_true] at e ⊢
          exact e.imp (dTp_vRf h1) (ih _ h2)
    exact go _ _ h e
theorem KRep.tup {K : PySem.W.Frag} {a : Addr} {dd : Option Addr} {its : Array Value} {n : Nat} {sl : Array (Option Value)} {ds : List D} (l : K.lookup a = some ⟨.type "tuple", dd, .seq its n, sl⟩)
    (h : KReps K its.toList ds) (hz : its.size ≤ 100 := by decide) (hc : kcD ds = true := by rfl) : KRep K (.ref a) (.tup ds) := by
  obtain ⟨vs, rs, qs⟩ := KRep.all h
  exact ⟨.ref a, rfl, fun ph S => .tup (.inr ⟨_, its, n, l, rfl, rfl, by rw [sizeLine_eq]; omega, rs, kconst_of (qs ph S) hc⟩) (qs ph S)⟩
section
variable {X : Cx} {pos : Pos}
/-- a global whose value is data of the module -/
theorem de_globK {x : Str} {u : Value} {d : D} (hg : Gl X x) (hm : X.mg x = some u) (h : KRep X.K u d) (hd : (x == ("__debug__" : Str)) = false := by decide) : DE X (.Name x pos) (dC d) := by
  obtain ⟨v, r, q⟩ := h
  exact de_c (pe_glob hg hm r hd) q
/-! ### zip of two tuples -/
theorem Wlk.zipT {K : PySem.W.Frag} {ph : Ph} {S : Hp} {a b : Addr} {d1 d2 : List D} {C : Mem → Prop}
    (h1 : ∀ (ph' : Ph) (S' : Hp) (r' : Env) (M' : Mem) (σ' : L2.St) (H' : Hp), (∀ (k : Nat) (a : Addr), ph.cells[k]? = some a → ph'.cells[k]? = some a) → Same S S' → Sat K ph' S' r' M' σ' H' → C M' → ∃ xs, SqT K H' a xs ∧ RepAll K ph' S' xs d1)
    (h2 : ∀ (ph' : Ph) (S' : Hp) (r' : Env) (M' : Mem) (σ' : L2.St) (H' : Hp), (∀ (k : Nat) (a : Addr), ph.cells[k]? = some a → ph'.cells[k]? = some a) → Same S S' → Sat K ph' S' r' M' σ' H' → C M' → ∃ xs, SqT K H' b xs ∧ RepAll K ph' S' xs d2) :
    Wlk K ph S (RZ.ItzT K a b) (List.zipWith pairD d1 d2) C := fun ph' S' r M σ H e1 e2 hs hc => by
  obtain ⟨xs, q1, qa1⟩ := h1 ph' S' r M σ H e1 e2 hs hc
  obtain ⟨ys, q2, qa2⟩ := h2 ph' S' r M σ H e1 e2 hs hc
  refine ⟨fun i hi => ⟨xs, ys, q1, q2, by rw [qa1.len, qa2.len]; rw [List.length_zipWith] at hi; omega⟩, fun i d e => ?_⟩
  obtain ⟨x, y, ex, ey, rfl⟩ := zip_get e
  obtain ⟨u, eu, qu⟩ := qa1.get ex
  obtain ⟨w, ew, qw⟩ := qa2.get ey
  refine ⟨⟨xs, ys, u, w, q1, q2, eu, ew⟩, fun z H' ⟨T, u', w', ez, hT, eH, f1, f2⟩ => ?_⟩
  have e3 := f1 xs q1
  have e4 := f2 ys q2
  rw [eu] at e3; cases e3
  rw [ew] at e4; cases e4
  subst ez eH
  obtain ⟨x1, hs1⟩ := hs.frz hT (.tup [u, w])
  exact ⟨_, _, _, x1, hs1, rfl, .tup (.inl upd_same) ((RepAll.two qu qw).up x1)⟩
def gZipT (ds : List D) (M : Mem) (R : List D → (Mem → Prop) → Mem → Prop) : Prop := match ds with
  | [.tup xs, .tup ys] => R (List.zipWith pairD xs ys) (fun _ => True) M
  | _ => False
theorem di_zipT {a b : Expr} {t : DTA} {p pos tpos : Pos} {elts : List Expr} {kk : Nat} (hm : X.mg "zip" = none) (ha : DA X [a, b] t) (hg : Gl X "zip" := by rfl)
    (hs : starEach [a, b] X.env = (false, eval a X.env) :: starEach [b] X.env := by rfl) (hpl : (backTo pos (starEach [b] X.env)).any (·.1) = false := by rfl) : DI X (.Tuple elts kk tpos) (.Call (.Name "zip" p) [a, b] [] pos) (dRngI gZipT t) :=
  ⟨PI.weak (RZ.pi_zipA hg hm ha.pa hs hpl) fun σ H R ⟨ph, S, r, M, Q0, hs, ht, hq⟩ => ⟨ph, S, r, M, _, hs, ht, fun vs H1 ⟨ph1, S1, M1, x1, hs1, ds, q1, g1⟩ => by
    match ds, q1, g1 with
    | [.tup xs, .tup ys], .cons (.tup hu qx) (.cons (.tup hw qy) .nil), g =>
      exact ⟨_, _, _, _, rfl, .inr ⟨hu.sq hs1.sub, hw.sq hs1.sub, hq _ _ ⟨ph1, S1, M1, x1, hs1, _, _, Wlk.zipT (fun ph' S' r' M' σ' H' e1 e2 hs' _ => ⟨_, (hu.ext e2).sq hs'.sub, qx.ext0 e1 e2⟩) (fun ph' S' r' M' σ' H' e1 e2 hs' _ => ⟨_, (hw.ext e2).sq hs'.sub, qy.ext0 e1 e2⟩), g⟩⟩⟩⟩⟩
/-! ### len(set(xs)), ints -/
end
end DL
namespace DL
open PySem PySem.Spec PyProof.Rows L2
end DL
namespace DL
open PySem PySem.Spec PyProof.Rows L2
end DL
namespace DL
open PySem PySem.Spec PyProof.Rows L2
def t_l_measure_d993 : DTS :=
 (dRet (dOp gAdd (dOp (rBin CMul fun i j => i * j) (dOp gIx (dVar 0) (dC (.int 3))) (dOp gIx (dVar 0) (dC (.int 3)))) (dOp (rBin CMul fun i j => i * j) (dOp (rBin CMul fun i j => i * j) (dC (.int 4)) (dOp gIx (dVar 0) (dC (.int 1)))) (dOp gIx (dVar 0) (dC (.int 2))))))
def t_l_root_of_fba3 : DTS :=
 (dSeq (dAsg (dTup (dCons (dC (.int 0)) (dCons (dC (.int 1)) dNil))) (dGTup 2 (dGCons (dName 1) (dGCons (dName 2) dGNil))))
 (dSeq (dWhile (dTru (dOp (gCmpI fun i j => decide (i ≤ j)) (dOp (rBin CMul fun i j => i * j) (dVar 2) (dVar 2)) (dVar 0))) (dAsg (dOp (rBin CMul fun i j => i * j) (dC (.int 2)) (dVar 2)) (dName 2)))
 (dSeq (dWhile (dTru (dOp (gCmpI fun i j => decide (j < i)) (dOp (rBin (fun _ _ => True) fun i j => i - j) (dVar 2) (dVar 1)) (dC (.int 1)))) (dSeq (dAsg (dOp (rBin CDiv fun i j => i.fdiv j) (dOp gAdd (dVar 1) (dVar 2)) (dC (.int 2))) (dName 3))
 (dIfS (dTru (dOp (gCmpI fun i j => decide (i ≤ j)) (dOp (rBin CMul fun i j => i * j) (dVar 3) (dVar 3)) (dVar 0))) (dAsg (dVar 3) (dName 1)) (dAsg (dVar 3) (dName 2)))))
 (dRet (dVar 1)))))
def t_l_common_ec6e : DTS :=
 (dSeq (dPar 2 3 (dCons (dCB gMax (dCons (dVar 0) (dCons (dOp (rBin (fun _ _ => True) fun i j => i - j) (dC (.int 0)) (dVar 0)) dNil))) (dCons (dCB gMax (dCons (dVar 1) (dCons (dOp (rBin (fun _ _ => True) fun i j => i - j) (dC (.int 0)) (dVar 1)) dNil))) dNil)))
 (dSeq (dWhile (dTru (dOp (gCmpI fun i j => decide (j < i)) (dVar 3) (dC (.int 0)))) (dPar 2 3 (dCons (dVar 3) (dCons (dOp (rBin CMod fun i j => i.fmod j) (dCB gInt (dCons (dVar 2) dNil)) (dVar 3)) dNil))))
 (dRet (dVar 2))))
def t_l_made_ecf7 (c_l_root_of_fba3 : DSp) (c_l_common_ec6e : DSp) : DTS :=
 (dSeq (dAsg (dCall 1 c_l_root_of_fba3 [] DX0 (dCons (dVar 0) dNil)) (dName 4))
 (dSeq (dIfS (dTru (dOp gEq (dOp (rBin CMul fun i j => i * j) (dVar 4) (dVar 4)) (dVar 0))) (dPar 1 2 (dCons (dOp gAdd (dVar 1) (dOp (rBin CMul fun i j => i * j) (dVar 2) (dVar 4))) (dCons (dC (.int 0)) dNil))) dNext)
 (dSeq (dAsg (dCall 2 c_l_common_ec6e [] DX0 (dCons (dCall 2 c_l_common_ec6e [] DX0 (dCons (dVar 1) (dCons (dVar 2) dNil))) (dCons (dVar 3) dNil))) (dName 5))
 (dSeq (dIfS (dTru (dOp (gCmpI fun i j => decide (i < j)) (dVar 3) (dC (.int 0)))) (dAsg (dOp (rBin (fun _ _ => True) fun i j => i - j) (dC (.int 0)) (dVar 5)) (dName 5)) dNext)
 (dRet (dTup (dCons (dOp (rBin CDiv fun i j => i.fdiv j) (dVar 1) (dVar 5)) (dCons (dOp (rBin CDiv fun i j => i.fdiv j) (dVar 2) (dVar 5)) (dCons (dOp (rBin CDiv fun i j => i.fdiv j) (dVar 3) (dVar 5)) dNil)))))))))
def t_l_side_of_cf54 (c_l_made_ecf7 : DSp) (c_l_measure_d993 : DSp) : DTS :=
 (dRet (dCall 4 c_l_made_ecf7 [] DX0 (dCons (dCall 1 c_l_measure_d993 [] DX0 (dCons (dVar 0) dNil)) (dCons (dOp gIx (dVar 0) (dC (.int 3))) (dCons (dC (.int 1)) (dCons (dC (.int 2)) dNil))))))
def t_slit_by (c_root_by : DSp) (c_measure_by : DSp) : DTS :=
 (dRet (dCall 4 c_root_by [] DX0 (dCons (dCall 1 c_measure_by [] DX0 (dCons (dVar 0) dNil)) (dCons (dOp gIx (dVar 0) (dC (.int 3))) (dCons (dC (.int 1)) (dCons (dC (.int 2)) dNil))))))
def t_l_whole_43a8 : DTS :=
 (dRet (dTup (dCons (dVar 0) (dCons (dC (.int 0)) (dCons (dC (.int 1)) dNil)))))
def t_l_plus_46d9 (c_l_made_ecf7 : DSp) : DTS :=
 (dSeq (dAsg (dOp gAdd (dOp (rBin CMul fun i j => i * j) (dOp gIx (dVar 1) (dC (.int 0))) (dOp gIx (dVar 2) (dC (.int 2)))) (dOp (rBin CMul fun i j => i * j) (dOp (rBin CMul fun i j => i * j) (dVar 3) (dOp gIx (dVar 2) (dC (.int 0)))) (dOp gIx (dVar 1) (dC (.int 2))))) (dName 4))
 (dRet (dCall 4 c_l_made_ecf7 [] DX0 (dCons (dVar 0) (dCons (dVar 4) (dCons (dOp gAdd (dOp (rBin CMul fun i j => i * j) (dOp gIx (dVar 1) (dC (.int 1))) (dOp gIx (dVar 2) (dC (.int 2)))) (dOp (rBin CMul fun i j => i * j) (dOp (rBin CMul fun i j => i * j) (dVar 3) (dOp gIx (dVar 2) (dC (.int 1)))) (dOp gIx (dVar 1) (dC (.int 2))))) (dCons (dOp (rBin CMul fun i j => i * j) (dOp gIx (dVar 1) (dC (.int 2))) (dOp gIx (dVar 2) (dC (.int 2)))) dNil)))))))
def t_l_added_a47b (c_l_plus_46d9 : DSp) : DTS :=
 (dRet (dCB gTuple (dCons (dLc false (dRngI gZipT (dCons (dVar 1) (dCons (dVar 2) dNil))) (dGTup 2 (dGCons (dName 4) (dGCons (dName 5) dGNil))) dYes (dCall 4 c_l_plus_46d9 [] DX0 (dCons (dVar 0) (dCons (dVar 4) (dCons (dVar 5) (dCons (dVar 3) dNil))))) [4, 5]) dNil)))
def t_l_times_3146 (c_l_made_ecf7 : DSp) : DTS :=
 (dSeq (dAsg (dOp gAdd (dOp (rBin CMul fun i j => i * j) (dOp gIx (dVar 1) (dC (.int 0))) (dOp gIx (dVar 2) (dC (.int 0)))) (dOp (rBin CMul fun i j => i * j) (dOp (rBin CMul fun i j => i * j) (dVar 0) (dOp gIx (dVar 1) (dC (.int 1)))) (dOp gIx (dVar 2) (dC (.int 1))))) (dName 3))
 (dRet (dCall 4 c_l_made_ecf7 [] DX0 (dCons (dVar 0) (dCons (dVar 3) (dCons (dOp gAdd (dOp (rBin CMul fun i j => i * j) (dOp gIx (dVar 1) (dC (.int 0))) (dOp gIx (dVar 2) (dC (.int 1)))) (dOp (rBin CMul fun i j => i * j) (dOp gIx (dVar 1) (dC (.int 1))) (dOp gIx (dVar 2) (dC (.int 0))))) (dCons (dOp (rBin CMul fun i j => i * j) (dOp gIx (dVar 1) (dC (.int 2))) (dOp gIx (dVar 2) (dC (.int 2)))) dNil)))))))
def t_l_cutting_bb00 (c_l_random_7821 : DSp) (c_l_common_ec6e : DSp) : DTS :=
 (dSeq (dAsg (dOp gAdd (dC (.int 1)) (dCall 2 c_l_random_7821 [] DX0 (dCons (dVar 0) (dCons (dVar 2) dNil)))) (dName 3))
 (dSeq (dAsg (dOp (rBin (fun _ _ => True) fun i j => i - j) (dCall 2 c_l_random_7821 [] DX0 (dCons (dVar 0) (dCons (dOp gAdd (dOp (rBin CMul fun i j => i * j) (dC (.int 2)) (dVar 1)) (dC (.int 1))) dNil))) (dVar 1)) (dName 4))
 (dSeq (dAsg (dOp gAdd (dOp gAdd (dCB gMax (dCons (dOp gAdd (dVar 3) (dVar 4)) (dCons (dC (.int 0)) dNil))) (dC (.int 1))) (dCall 2 c_l_random_7821 [] DX0 (dCons (dVar 0) (dCons (dVar 1) dNil)))) (dName 5))
 (dSeq (dAsg (dCall 2 c_l_random_7821 [] DX0 (dCons (dVar 0) (dCons (dCall 2 c_l_common_ec6e [] DX0 (dCons (dVar 5) (dCons (dVar 3) dNil))) dNil))) (dName 6))
 (dSeq (dWhile (dTru (dOp gNe (dCall 2 c_l_common_ec6e [] DX0 (dCons (dCall 2 c_l_common_ec6e [] DX0 (dCons (dVar 6) (dCons (dVar 5) dNil))) (dCons (dCall 2 c_l_common_ec6e [] DX0 (dCons (dVar 3) (dCons (dVar 4) dNil))) dNil))) (dC (.int 1)))) (dAsg (dOp (rBin (fun _ _ => True) fun i j => i - j) (dVar 4) (dC (.int 1))) (dName 4)))
 (dRet (dTup (dCons (dVar 6) (dCons (dVar 5) (dCons (dVar 3) (dCons (dVar 4) dNil)))))))))))
end DL
/-! ZS: zip(xs, ys, strict=True) of two lists of one length -/
namespace PySem
open Sem (wp)
abbrev IsZipS (h : Heap) (z TI TO : Addr) (f0 : Value) : Prop :=
  h.get? z = some { cls := .type "zip", dict := none, data := .fields #[f0, .bool false, .bool true, .ref TI, .ref TO], slots := #[] }
end PySem
namespace DL
open PySem PySem.Spec PyProof.Rows L2
/-! DLM: zip(xs, ys, strict=True) of two lists of one length -/
end DL
namespace DL
open PySem PySem.Spec PyProof.Rows L2
def t_l_scaled_08a4 (c_l_times_3146 : DSp) : DTS :=
 (dRet (dCB gTuple (dCons (dLc false (dSeqI (dVar 2)) (dName 3) dYes (dCall 3 c_l_times_3146 [] DX0 (dCons (dVar 0) (dCons (dVar 1) (dCons (dVar 3) dNil)))) [3]) dNil)))
end DL
namespace DL
open PySem PySem.Spec PyProof.Rows L2
def t_is_pair (c_measure_by : DSp) (c_is_root_by : DSp) : DTS :=
 (dSeq (dAsg (dCall 1 c_measure_by [] DX0 (dCons (dVar 0) dNil)) (dName 2))
 (dSeq (dIfS (dOr (dNot (dTru (dCB gIsi (dCons (dVar 1) (dCons (dC (.val (.ty "tuple"))) dNil))))) (dTru (dOp gNe (dCB gLen (dCons (dVar 1) dNil)) (dC (.int 2))))) (dRet (dC (.bl false))) dNext)
 (dRet (dAndV (dCall 2 c_is_root_by [] DX0 (dCons (dVar 2) (dCons (dOp gIx (dVar 1) (dC (.int 0))) dNil))) (dCall 2 c_is_root_by [] DX0 (dCons (dVar 2) (dCons (dOp gIx (dVar 1) (dC (.int 1))) dNil)))))))
end DL
namespace DL
open PySem PySem.Spec PyProof.Rows L2
/-! DLE: owned lists within owned lists: comparisons and reprs -/
end DL
namespace DL
open PySem PySem.Spec PyProof.Rows L2
end DL
namespace DL
open PySem PySem.Spec PyProof.Rows L2
end DL
namespace DL
open PySem PySem.Spec PyProof.Rows L2
end DL
namespace DL
open PySem PySem.Spec PyProof.Rows L2
end DL
/-! ZT: zip(xs, ys, zs, strict=True) of three lists of one length -/
namespace PySem
open Sem (wp)
abbrev IsTri (h : Heap) (T : Addr) (a b c : Value) : Prop := h.get? T = some { cls := .type "tuple", data := .seq #[a, b, c] }
end PySem
namespace DL
open PySem PySem.Spec PyProof.Rows L2
/-! DLN: zip(xs, ys, zs, strict=True) of three lists of one length -/
end DL
/-! ZV: the zip of three kept under a name, walked later -/
namespace RZ
open PySem PySem.Spec PyProof.Rows L2
section
variable {X : Cx} {pins : List (Addr × Obj)} {σ : L2.St} {H : Hp} {s : Shared}
/-- what is known of an object that belongs to a walk -/
def Phi (X : Cx) (a : Addr) (φ : Heap → Prop) : HO := .ext fun h => φ h ∧ a ∉ X.fs ∧ (a ∈ X.ex ∨ X.s_0.heap.objs.size ≤ a)
end
/-- the six objects of a walk by three, tracked -/
structure Six where
  z : Addr
  TI : Addr
  TO : Addr
  i1 : Addr
  i2 : Addr
  i3 : Addr
def Six.trk (X : Cx) (q : Six) (a b c : Addr) (H : Hp) : Hp :=
  upd (upd (upd (upd (upd (upd H q.i3 (Phi X q.i3 fun h => h.IsListIter q.i3 c 0)) q.i2 (Phi X q.i2 fun h => h.IsListIter q.i2 b 0)) q.i1 (Phi X q.i1 fun h => h.IsListIter q.i1 a 0))
    q.TO (Phi X q.TO fun h => IsTri h q.TO .none .none .none)) q.TI (Phi X q.TI fun h => IsTri h q.TI (.ref q.i1) (.ref q.i2) (.ref q.i3))) q.z (Phi X q.z fun h => IsZipS h q.z q.TI q.TO .none)
end RZ
namespace DL
open PySem PySem.Spec PyProof.Rows L2
/-! DLO: lines = zip(a, b, c, strict=True); found.append([.. for .. in lines]) -/
end DL
/-! XF: Booleans as numbers -/
namespace PySem
end PySem
namespace DL
open PySem PySem.Spec PyProof.Rows L2
/-! DLP: sums and differences of Booleans -/
end DL
namespace DL
open PySem PySem.Spec PyProof.Rows L2
end DL
namespace DL
open PySem PySem.Spec PyProof.Rows L2
/-! DLQ: the place of an owned list within owned lists -/
end DL
namespace DL
open PySem PySem.Spec PyProof.Rows L2
end DL
/-! DLT: dicts that are owned: keys ints and texts, or tuples of them -/
namespace DL
open PySem PySem.Spec PyProof.Rows L2
section
variable {κ : Type} [DecidableEq κ]
def valD (kvs : List (κ × D)) (k : κ) : Option D := (kvs.find? fun kv => decide (kv.1 = k)).map (·.2)
def putD (kvs : List (κ × D)) (k : κ) (d : D) : List (κ × D) :=
  if (kvs.any fun kv => decide (kv.1 = k)) = true then kvs.map (fun kv => if kv.1 = k then (kv.1, d) else kv) else kvs ++ [(k, d)]
/-- a table and what it is told by -/
def KR (K : PySem.W.Frag) (ph : Ph) (S : Hp) (ys : List (κ × V)) (kvs : List (κ × D)) : Prop := ys.map (·.1) = kvs.map (·.1) ∧ RepAll K ph S (ys.map (·.2)) (kvs.map (·.2))
variable {K : PySem.W.Frag} {ph : Ph} {S : Hp}
theorem KR.nil : KR K ph S ([] : List (κ × V)) [] := ⟨rfl, .nil⟩
theorem KR.cons {k : κ} {v : V} {d : D} {ys : List (κ × V)} {kvs : List (κ × D)} (h : Rep K ph S v d) (t : KR K ph S ys kvs) : KR K ph S ((k, v) :: ys) ((k, d) :: kvs) :=
  ⟨by rw [List.map_cons, List.map_cons, t.1], .cons h t.2⟩
theorem KR.elim {P : List (κ × V) → List (κ × D) → Prop} (h0 : P [] []) (h1 : ∀ k v d ys kvs, Rep K ph S v d → KR K ph S ys kvs → P ys kvs → P ((k, v) :: ys) ((k, d) :: kvs)) :
    ∀ (ys : List (κ × V)) (kvs : List (κ × D)), KR K ph S ys kvs → P ys kvs
  | [], [], _ => h0
  | [], _ :: _, h => by cases h.1
  | _ :: _, [], h => by cases h.1
  | (k, v) :: ys, (k', d) :: kvs, h => by
    obtain ⟨e, r⟩ := h
    rw [List.map_cons, List.map_cons] at e r
    injection e with e1 e2
    dsimp only at e1
    subst e1
    cases r with
    | cons r1 r2 => exact h1 _ _ _ _ _ r1 ⟨e2, r2⟩ (KR.elim h0 h1 ys kvs ⟨e2, r2⟩)
theorem KR.len {ys : List (κ × V)} {kvs : List (κ × D)} (h : KR K ph S ys kvs) : ys.length = kvs.length := by
  have := congrArg List.length h.1
  rw [List.length_map, List.length_map] at this
  exact this
theorem KR.val {ys : List (κ × V)} {kvs : List (κ × D)} (h : KR K ph S ys kvs) (k : κ) :
    (valD kvs k = none → valV ys k = none) ∧ ∀ d, valD kvs k = some d → ∃ v, valV ys k = some v ∧ Rep K ph S v d := by
  refine KR.elim (P := fun ys kvs => (valD kvs k = none → valV ys k = none) ∧ ∀ d, valD kvs k = some d → ∃ v, valV ys k = some v ∧ Rep K ph S v d) ⟨fun _ => rfl, fun d e => nomatch e⟩ (fun k' v d ys kvs r t ih => ?_) ys kvs h
  by_cases e : k' = k
  · rw [valV_pos (p := (k', v)) e, show valD ((k', d) :: kvs) k = some d by simp [valD, List.find?_cons, e]]
    exact ⟨(fun z => nomatch z), fun d' z => by cases z; exact ⟨v, rfl, r⟩⟩
  · rw [valV_neg (p := (k', v)) e, show valD ((k', d) :: kvs) k = valD kvs k by simp [valD, List.find?_cons, e]]
    exact ih
theorem KR.any {ys : List (κ × V)} {kvs : List (κ × D)} (h : KR K ph S ys kvs) (k : κ) : (ys.any fun kv => decide (kv.1 = k)) = kvs.any fun kv => decide (kv.1 = k) :=
  KR.elim (P := fun ys kvs => (ys.any fun kv => decide (kv.1 = k)) = kvs.any fun kv => decide (kv.1 = k)) rfl (fun k' v d ys kvs r t ih => by rw [List.any_cons, List.any_cons, ih]) ys kvs h
theorem KR.app {ys zs : List (κ × V)} {kvs kws : List (κ × D)} (h : KR K ph S ys kvs) (t : KR K ph S zs kws) : KR K ph S (ys ++ zs) (kvs ++ kws) :=
  ⟨by rw [List.map_append, List.map_append, h.1, t.1], by rw [List.map_append, List.map_append]; exact h.2.app t.2⟩
theorem KR.put {ys : List (κ × V)} {kvs : List (κ × D)} (h : KR K ph S ys kvs) (k : κ) {v : V} {d : D} (q : Rep K ph S v d) : KR K ph S (putK ys k v) (putD kvs k d) := by
  unfold putK putD
  rw [h.any k]
  split
  · refine KR.elim (P := fun ys kvs => KR K ph S (ys.map fun kv => if kv.1 = k then (kv.1, v) else kv) (kvs.map fun kv => if kv.1 = k then (kv.1, d) else kv)) KR.nil (fun k' v' d' ys kvs r t ih => ?_) ys kvs h
    rw [List.map_cons, List.map_cons]
    by_cases e : k' = k
    · rw [if_pos e, if_pos e]; exact KR.cons q ih
    · rw [if_neg e, if_neg e]; exact KR.cons r ih
  · exact h.app (KR.cons q KR.nil)
end
end DL
namespace DL
open PySem PySem.Spec PyProof.Rows L2
end DL
/-! ZD: dict(xs) of a list of pairs whose keys are tuples; {k: v} with a tuple k -/
/-! DLW: dicts made of lists of pairs, dicts of one pair; d.get(k, x) -/
namespace DL
open PySem PySem.Spec PyProof.Rows L2
end DL
namespace DL
open PySem PySem.Spec PyProof.Rows L2
end DL
namespace DL
open PySem PySem.Spec PyProof.Rows L2
end DL
/-! DLA: xs.pop(), xs.extend(ys) of an owned list -/
namespace DL
open PySem PySem.Spec PyProof.Rows L2
end DL
namespace DL
open PySem PySem.Spec PyProof.Rows L2
end DL
namespace DL
open PySem PySem.Spec PyProof.Rows L2
end DL
/-! DLF: errors as values; a text times a number -/
namespace DL
open PySem PySem.Spec PyProof.Rows L2
end DL
namespace DL
open PySem PySem.Spec PyProof.Rows L2
end DL
namespace DL
open PySem PySem.Spec PyProof.Rows L2
def t_l_corners_5cb1 (c_l_side_of_cf54 : DSp) (c_l_measure_d993 : DSp) (c_l_whole_43a8 : DSp) (c_l_plus_46d9 : DSp) : DTS :=
 (dSeq (dAsg (dVar 0) (dGTup 4 (dGCons (dName 1) (dGCons (dName 2) (dGCons (dName 3) (dGCons (dName 4) dGNil))))))
 (dSeq (dAsg (dCall 1 c_l_side_of_cf54 [] DX0 (dCons (dVar 0) dNil)) (dName 5))
 (dSeq (dPar 6 7 (dCons (dCall 1 c_l_measure_d993 [] DX0 (dCons (dVar 0) dNil)) (dCons (dCall 1 c_l_whole_43a8 [] DX0 (dCons (dC (.int 0)) dNil)) dNil)))
 (dSeq (dPar 8 9 (dCons (dCall 4 c_l_plus_46d9 [] DX0 (dCons (dVar 6) (dCons (dCall 1 c_l_whole_43a8 [] DX0 (dCons (dVar 1) dNil)) (dCons (dVar 5) (dCons (dC (.int 1)) dNil))))) (dCons (dCall 4 c_l_plus_46d9 [] DX0 (dCons (dVar 6) (dCons (dCall 1 c_l_whole_43a8 [] DX0 (dCons (dVar 3) dNil)) (dCons (dVar 5) (dCons (dC (.int 1)) dNil))))) dNil)))
 (dSeq (dAsg (dLst (dCons (dTup (dCons (dVar 7) (dCons (dVar 7) dNil))) (dCons (dTup (dCons (dVar 5) (dCons (dVar 7) dNil))) (dCons (dTup (dCons (dCall 1 c_l_whole_43a8 [] DX0 (dCons (dVar 2) dNil)) (dCons (dVar 7) dNil))) (dCons (dTup (dCons (dCall 1 c_l_whole_43a8 [] DX0 (dCons (dOp gAdd (dVar 1) (dVar 2)) dNil)) (dCons (dCall 1 c_l_whole_43a8 [] DX0 (dCons (dVar 3) dNil)) dNil))) dNil))))) (dName 10))
 (dRet (dOp gAdd (dVar 10) (dLst (dCons (dTup (dCons (dVar 8) (dCons (dCall 1 c_l_whole_43a8 [] DX0 (dCons (dVar 3) dNil)) dNil))) (dCons (dTup (dCons (dVar 8) (dCons (dVar 9) dNil))) (dCons (dTup (dCons (dCall 1 c_l_whole_43a8 [] DX0 (dCons (dVar 1) dNil)) (dCons (dVar 9) dNil))) (dCons (dTup (dCons (dCall 1 c_l_whole_43a8 [] DX0 (dCons (dVar 1) dNil)) (dCons (dCall 1 c_l_whole_43a8 [] DX0 (dCons (dVar 3) dNil)) dNil))) dNil))))))))))))
def t_l_share_4ae7 (c_l_made_ecf7 : DSp) (c_l_random_7821 : DSp) : DTS :=
 (dRet (dCall 4 c_l_made_ecf7 [] DX0 (dCons (dC (.int 5)) (dCons (dOp gAdd (dC (.int 1)) (dCall 2 c_l_random_7821 [] DX0 (dCons (dVar 0) (dCons (dOp (rBin (fun _ _ => True) fun i j => i - j) (dVar 1) (dC (.int 1))) dNil)))) (dCons (dC (.int 0)) (dCons (dVar 1) dNil))))))
def t_l_glued_bd92 : DTS :=
 (dRet (dOp gIx (dLst (dCons (dC (.int 5)) (dCons (dC (.int 3)) (dCons (dC (.int 7)) (dCons (dC (.int 1)) (dCons (dC (.int 6)) (dCons (dC (.int 0)) (dCons (dC (.int 4)) (dCons (dC (.int 2)) dNil))))))))) (dVar 0)))
def t_spot_by (c_measure_by : DSp) (c_slit_by : DSp) (c_minus_by : DSp) (c_side_by : DSp) (c_times_by : DSp) (c_root_by : DSp) : DTS :=
 (dSeq (dAsg (dVar 0) (dGTup 4 (dGCons (dName 2) (dGCons (dName 3) (dGCons (dName 4) (dGCons (dName 5) dGNil))))))
 (dSeq (dPar 6 7 (dCons (dCall 1 c_measure_by [] DX0 (dCons (dVar 0) dNil)) (dCons (dCall 1 c_slit_by [] DX0 (dCons (dVar 0) dNil)) dNil)))
 (dSeq (dAsg (dVar 1) (dGTup 2 (dGCons (dName 8) (dGCons (dName 9) dGNil))))
 (dSeq (dAsg (dCall 3 c_minus_by [] DX0 (dCons (dVar 6) (dCons (dVar 9) (dCons (dTup (dCons (dVar 4) (dCons (dC (.int 0)) (dCons (dC (.int 1)) dNil)))) dNil)))) (dName 10))
 (dSeq (dIfS (dOr (dTru (dOp (gCmpI fun i j => decide (i < j)) (dCall 2 c_side_by [] DX0 (dCons (dVar 6) (dCons (dVar 9) dNil))) (dC (.int 0)))) (dTru (dOp (gCmpI fun i j => decide (j < i)) (dCall 2 c_side_by [] DX0 (dCons (dVar 6) (dCons (dCall 3 c_minus_by [] DX0 (dCons (dVar 6) (dCons (dVar 10) (dCons (dVar 7) dNil)))) dNil))) (dC (.int 0))))) (dRet (dC .non)) dNext)
 (dSeq (dAsg (dIf (dTru (dOp (gCmpI fun i j => decide (i < j)) (dCall 2 c_side_by [] DX0 (dCons (dVar 6) (dCons (dVar 10) dNil))) (dC (.int 0)))) (dLst (dCons (dC (.int 0)) dNil)) (dIf (dTru (dOp gEq (dCall 2 c_side_by [] DX0 (dCons (dVar 6) (dCons (dVar 10) dNil))) (dC (.int 0)))) (dLst (dCons (dC (.int 0)) (dCons (dC (.int 1)) dNil))) (dLst (dCons (dC (.int 1)) dNil)))) (dName 11))
 (dSeq (dFor (dSeqI (dVar 11)) (dName 12) (dSeq (dAsg (dIf (dTru (dOp gEq (dVar 12) (dC (.int 0)))) (dCall 3 c_times_by [] DX0 (dCons (dVar 6) (dCons (dVar 9) (dCons (dCall 4 c_root_by [] DX0 (dCons (dVar 6) (dCons (dVar 2) (dCons (dC (.int 0)) (dCons (dVar 4) dNil))))) dNil)))) (dTup (dCons (dVar 2) (dCons (dC (.int 0)) (dCons (dC (.int 1)) dNil))))) (dName 13))
 (dSeq (dAsg (dCall 3 c_minus_by [] DX0 (dCons (dVar 6) (dCons (dVar 8) (dCons (dVar 13) dNil)))) (dName 14))
 (dSeq (dAsg (dIf (dTru (dOp gEq (dVar 12) (dC (.int 0)))) (dTup (dCons (dVar 3) (dCons (dC (.int 0)) (dCons (dC (.int 1)) dNil)))) (dVar 7)) (dName 15))
 (dIfS (dAnd (dTru (dOp (gCmpI fun i j => decide (j ≤ i)) (dCall 2 c_side_by [] DX0 (dCons (dVar 6) (dCons (dVar 14) dNil))) (dC (.int 0)))) (dTru (dOp (gCmpI fun i j => decide (i ≤ j)) (dCall 2 c_side_by [] DX0 (dCons (dVar 6) (dCons (dCall 3 c_minus_by [] DX0 (dCons (dVar 6) (dCons (dVar 14) (dCons (dVar 15) dNil)))) dNil))) (dC (.int 0))))) (dRet (dTup (dCons (dVar 12) (dCons (dVar 14) (dCons (dIf (dTru (dOp gEq (dVar 12) (dC (.int 0)))) (dVar 9) (dVar 10)) dNil))))) dNext)))))
 (dRet (dC .non)))))))))
def t_laid (c_measure_by : DSp) (c_plus_by : DSp) (c_times_by : DSp) (c_root_by : DSp) : DTS :=
 (dSeq (dIfS (dTru (dOp (gIs false) (dVar 1) (dC .non))) (dRet (dTup (dCons (dC (.tup [.int 0, .int 0, .int 1])) (dCons (dC (.tup [.int 0, .int 0, .int 1])) dNil)))) dNext)
 (dSeq (dAsg (dVar 1) (dGTup 3 (dGCons (dName 2) (dGCons (dName 3) (dGCons (dName 4) dGNil)))))
 (dSeq (dAsg (dVar 0) (dGTup 4 (dGCons (dName 5) (dGCons (dName 6) (dGCons (dName 7) (dGCons (dName 6) dGNil))))))
 (dSeq (dAsg (dCall 1 c_measure_by [] DX0 (dCons (dVar 0) dNil)) (dName 8))
 (dSeq (dIfS (dTru (dOp gEq (dVar 2) (dC (.int 1)))) (dRet (dTup (dCons (dCall 3 c_plus_by [] DX0 (dCons (dVar 8) (dCons (dVar 3) (dCons (dTup (dCons (dVar 5) (dCons (dC (.int 0)) (dCons (dC (.int 1)) dNil)))) dNil)))) (dCons (dCall 3 c_plus_by [] DX0 (dCons (dVar 8) (dCons (dVar 4) (dCons (dTup (dCons (dVar 7) (dCons (dC (.int 0)) (dCons (dC (.int 1)) dNil)))) dNil)))) dNil)))) dNext)
 (dRet (dTup (dCons (dCall 3 c_plus_by [] DX0 (dCons (dVar 8) (dCons (dVar 3) (dCons (dCall 3 c_times_by [] DX0 (dCons (dVar 8) (dCons (dVar 4) (dCons (dCall 4 c_root_by [] DX0 (dCons (dVar 8) (dCons (dVar 5) (dCons (dC (.int 0)) (dCons (dVar 7) dNil))))) dNil)))) dNil)))) (dCons (dVar 4) dNil)))))))))
def t_is_end (c_slit_by : DSp) : DTS :=
 (dSeq (dPar 3 4 (dCons (dTup (dCons (dOp gIx (dVar 0) (dC (.int 1))) (dCons (dC (.int 0)) (dCons (dC (.int 1)) dNil)))) (dCons (dCall 1 c_slit_by [] DX0 (dCons (dVar 0) dNil)) dNil)))
 (dRet (dOrV (dOp (gIn false) (dVar 2) (dLst (dCons (dC (.tup [.int 0, .int 0, .int 1])) (dCons (dVar 4) dNil)))) (dAndV (dOp gEq (dVar 1) (dC (.int 0))) (dOp gEq (dVar 2) (dVar 3))))))
def t_normal_spot (c_measure_by : DSp) (c_slit_by : DSp) (c_side_by : DSp) (c_minus_by : DSp) (c_is_end : DSp) : DTS :=
 (dSeq (dAsg (dVar 1) (dGTup 3 (dGCons (dName 2) (dGCons (dName 3) (dGCons (dName 4) dGNil)))))
 (dSeq (dPar3 5 6 7 (dCons (dCall 1 c_measure_by [] DX0 (dCons (dVar 0) dNil)) (dCons (dCall 1 c_slit_by [] DX0 (dCons (dVar 0) dNil)) (dCons (dTup (dCons (dOp gIx (dVar 0) (dC (.int 1))) (dCons (dC (.int 0)) (dCons (dC (.int 1)) dNil)))) dNil))))
 (dSeq (dIfS (dTru (dOp gEq (dVar 4) (dIf (dTru (dOp gEq (dVar 2) (dC (.int 0)))) (dTup (dCons (dOp gIx (dVar 0) (dC (.int 2))) (dCons (dC (.int 0)) (dCons (dC (.int 1)) dNil)))) (dVar 6)))) (dSeq (dAsg (dOp (gCmpI fun i j => decide (i < j)) (dCall 2 c_side_by [] DX0 (dCons (dVar 5) (dCons (dCall 3 c_minus_by [] DX0 (dCons (dVar 5) (dCons (dVar 3) (dCons (dVar 6) dNil)))) dNil))) (dC (.int 0))) (dName 8))
 (dPar 2 4 (dCons (dIf (dAnd (dTru (dOp gEq (dVar 2) (dC (.int 0)))) (dTru (dVar 8))) (dC (.int 1)) (dC (.int 0))) (dCons (dC (.tup [.int 0, .int 0, .int 1])) dNil)))) dNext)
 (dSeq (dIfS (dAnd (dTru (dOp gEq (dVar 4) (dC (.tup [.int 0, .int 0, .int 1])))) (dTru (dCall 3 c_is_end [] DX0 (dCons (dVar 0) (dCons (dVar 2) (dCons (dVar 3) dNil)))))) (dRet (dC .non)) dNext)
 (dSeq (dIfS (dTru (dOp gEq (dVar 3) (dIf (dTru (dOp gEq (dVar 2) (dC (.int 0)))) (dVar 7) (dVar 6)))) (dAsg (dC (.tup [.int 0, .int 0, .int 1])) (dName 3)) dNext)
 (dRet (dTup (dCons (dVar 2) (dCons (dVar 3) (dCons (dVar 4) dNil))))))))))
def t_point_of (c_check_cutting : DSp) (c_is_pair : DSp) (c_spot_by : DSp) (c_laid : DSp) (c_normal_spot : DSp) : DTS :=
 (dSeq (dDrop (dCall 1 c_check_cutting [] DX0 (dCons (dVar 0) dNil)))
 (dSeq (dAsg (dIf (dTru (dCall 2 c_is_pair [] DX0 (dCons (dVar 0) (dCons (dVar 1) dNil)))) (dCall 2 c_spot_by [] DX0 (dCons (dVar 0) (dCons (dVar 1) dNil))) (dC .non)) (dName 2))
 (dSeq (dIfS (dTru (dOp (gIs false) (dVar 2) (dC .non))) dNever dNext)
 (dRet (dCall 2 c_laid [] DX0 (dCons (dVar 0) (dCons (dCall 2 c_normal_spot [] DX0 (dCons (dVar 0) (dCons (dVar 2) dNil))) dNil)))))))
def t_is_point_by (c_is_pair : DSp) (c_spot_by : DSp) (c_laid : DSp) (c_normal_spot : DSp) : DTS :=
 (dSeq (dIfS (dNot (dTru (dCall 2 c_is_pair [] DX0 (dCons (dVar 0) (dCons (dVar 1) dNil))))) (dRet (dC (.bl false))) dNext)
 (dSeq (dAsg (dCall 2 c_spot_by [] DX0 (dCons (dVar 0) (dCons (dVar 1) dNil))) (dName 2))
 (dRet (dAndV (dOp (gIs true) (dVar 2) (dC .non)) (dOp gEq (dCall 2 c_laid [] DX0 (dCons (dVar 0) (dCons (dCall 2 c_normal_spot [] DX0 (dCons (dVar 0) (dCons (dVar 2) dNil))) dNil))) (dVar 1))))))
def t_is_point (c_check_cutting : DSp) (c_is_point_by : DSp) : DTS :=
 (dSeq (dDrop (dCall 1 c_check_cutting [] DX0 (dCons (dVar 0) dNil)))
 (dRet (dCall 2 c_is_point_by [] DX0 (dCons (dVar 0) (dCons (dVar 1) dNil)))))
def t_check_point (c_is_point_by : DSp) : DTS :=
 (dIfS (dNot (dTru (dCall 2 c_is_point_by [] DX0 (dCons (dVar 0) (dCons (dVar 1) dNil))))) dNever dNext)
def t_piece_of (c_check_cutting : DSp) (c_check_point : DSp) (c_measure_by : DSp) (c_side_by : DSp) (c_minus_by : DSp) : DTS :=
 (dSeq (dDrop (dCall 1 c_check_cutting [] DX0 (dCons (dVar 0) dNil)))
 (dSeq (dDrop (dCall 2 c_check_point [] DX0 (dCons (dVar 0) (dCons (dVar 1) dNil))))
 (dSeq (dAsg (dCall 1 c_measure_by [] DX0 (dCons (dVar 0) dNil)) (dName 2))
 (dRet (dCB gInt (dCons (dOp (gCmpI fun i j => decide (j ≤ i)) (dCall 2 c_side_by [] DX0 (dCons (dVar 2) (dCons (dCall 3 c_minus_by [] DX0 (dCons (dVar 2) (dCons (dOp gIx (dVar 1) (dC (.int 1))) (dCons (dTup (dCons (dOp gIx (dVar 0) (dC (.int 2))) (dCons (dC (.int 0)) (dCons (dC (.int 1)) dNil)))) dNil)))) dNil))) (dC (.int 0))) dNil))))))
def t_l_edge_right_b3b6 (c_l_measure_d993 : DSp) (c_l_corners_5cb1 : DSp) (c_l_share_4ae7 : DSp) (c_l_added_a47b : DSp) (c_l_scaled_08a4 : DSp) (c_l_glued_bd92 : DSp) (c_point_of : DSp) (c_is_point : DSp) (c_piece_of : DSp) : DTS :=
 (dSeq (dPar 3 4 (dCons (dCall 1 c_l_measure_d993 [] DX0 (dCons (dVar 1) dNil)) (dCons (dCall 1 c_l_corners_5cb1 [] DX0 (dCons (dVar 1) dNil)) dNil)))
 (dSeq (dPar3 5 6 7 (dCons (dOp gIx (dVar 4) (dVar 2)) (dCons (dOp gIx (dVar 4) (dOp (rBin CMod fun i j => i.fmod j) (dCB gInt (dCons (dOp gAdd (dVar 2) (dC (.int 1))) dNil)) (dC (.int 8)))) (dCons (dCall 2 c_l_share_4ae7 [] DX0 (dCons (dVar 0) (dCons (dC (.int 30)) dNil))) dNil))))
 (dSeq (dAsg (dCall 4 c_l_added_a47b [] DX0 (dCons (dVar 3) (dCons (dVar 5) (dCons (dCall 3 c_l_scaled_08a4 [] DX0 (dCons (dVar 3) (dCons (dVar 7) (dCons (dCall 4 c_l_added_a47b [] DX0 (dCons (dVar 3) (dCons (dVar 6) (dCons (dVar 5) (dCons (dNeg (dC (.int 1))) dNil))))) dNil)))) (dCons (dC (.int 1)) dNil))))) (dName 8))
 (dSeq (dAsg (dCall 1 c_l_glued_bd92 [] DX0 (dCons (dVar 2) dNil)) (dName 9))
 (dSeq (dPar 10 11 (dCons (dOp gIx (dVar 4) (dOp (rBin CMod fun i j => i.fmod j) (dCB gInt (dCons (dOp gAdd (dVar 9) (dC (.int 1))) dNil)) (dC (.int 8)))) (dCons (dOp gIx (dVar 4) (dVar 9)) dNil)))
 (dSeq (dAsg (dCall 4 c_l_added_a47b [] DX0 (dCons (dVar 3) (dCons (dVar 10) (dCons (dCall 3 c_l_scaled_08a4 [] DX0 (dCons (dVar 3) (dCons (dVar 7) (dCons (dCall 4 c_l_added_a47b [] DX0 (dCons (dVar 3) (dCons (dVar 11) (dCons (dVar 10) (dCons (dNeg (dC (.int 1))) dNil))))) dNil)))) (dCons (dC (.int 1)) dNil))))) (dName 12))
 (dSeq (dAsg (dIf (dTru (dOp (gIn false) (dVar 2) (dLst (dCons (dC (.int 0)) (dCons (dC (.int 1)) (dCons (dC (.int 6)) (dCons (dC (.int 7)) dNil))))))) (dVar 8) (dVar 12)) (dName 13))
 (dSeq (dIfS (dOr (dTru (dOp gNe (dCB gReprZ (dCons (dCall 2 c_point_of [] DX0 (dCons (dVar 1) (dCons (dVar 8) dNil))) dNil)) (dCB gReprZ (dCons (dVar 13) dNil)))) (dTru (dOp gNe (dCB gReprZ (dCons (dCallK 2 2 c_point_of [1, 0] DX0 (dCons (dVar 12) (dCons (dVar 1) dNil))) dNil)) (dCB gReprZ (dCons (dVar 13) dNil))))) (dRet (dC (.bl false))) dNext)
 (dRet (dAndV (dOp (gIs false) (dCall 2 c_is_point [] DX0 (dCons (dVar 1) (dCons (dVar 13) dNil))) (dC (.bl true))) (dAndV (dOp (gIs false) (dCall 2 c_is_point [] DX0 (dCons (dVar 1) (dCons (dIf (dTru (dOp gEq (dVar 13) (dVar 8))) (dVar 12) (dVar 8)) dNil))) (dC (.bl false))) (dOp gEq (dCB gReprZ (dCons (dCall 2 c_piece_of [] DX0 (dCons (dVar 1) (dCons (dVar 13) dNil))) dNil)) (dCB gReprZ (dCons (dCB gInt (dCons (dOp (gIn false) (dVar 2) (dLst (dCons (dC (.int 4)) (dCons (dC (.int 6)) dNil)))) dNil)) dNil))))))))))))))
def t_l_shape_1896 (c_l_measure_d993 : DSp) (c_l_side_of_cf54 : DSp) (c_l_whole_43a8 : DSp) (c_l_made_ecf7 : DSp) : DTS :=
 (dSeq (dPar 2 3 (dCons (dCall 1 c_l_measure_d993 [] DX0 (dCons (dVar 0) dNil)) (dCons (dCall 1 c_l_side_of_cf54 [] DX0 (dCons (dVar 0) dNil)) dNil)))
 (dSeq (dIfS (dTru (dOp gEq (dVar 1) (dC (.int 1)))) (dRet (dLst (dCons (dVar 3) (dCons (dVar 3) (dCons (dCall 1 c_l_whole_43a8 [] DX0 (dCons (dC (.int 0)) dNil)) dNil))))) dNext)
 (dRet (dLst (dCons (dCall 1 c_l_whole_43a8 [] DX0 (dCons (dOp gIx (dVar 0) (dC (.int 1))) dNil)) (dCons (dCall 1 c_l_whole_43a8 [] DX0 (dCons (dOp gIx (dVar 0) (dC (.int 2))) dNil)) (dCons (dCall 4 c_l_made_ecf7 [] DX0 (dCons (dVar 2) (dCons (dOp gIx (dVar 0) (dC (.int 0))) (dCons (dC (.int 0)) (dCons (dOp gIx (dVar 0) (dC (.int 2))) dNil))))) dNil)))))))
def t_l_spot_7a5b (c_l_measure_d993 : DSp) (c_l_random_7821 : DSp) (c_l_shape_1896 : DSp) (c_l_times_3146 : DSp) (c_l_share_4ae7 : DSp) : DTS :=
 (dSeq (dPar 3 4 (dCons (dCall 1 c_l_measure_d993 [] DX0 (dCons (dVar 1) dNil)) (dCons (dCall 2 c_l_random_7821 [] DX0 (dCons (dVar 0) (dCons (dC (.int 2)) dNil))) dNil)))
 (dSeq (dAsg (dCall 2 c_l_shape_1896 [] DX0 (dCons (dVar 1) (dCons (dVar 4) dNil))) (dGTup 3 (dGCons (dName 5) (dGCons (dName 6) (dGCons (dName 7) dGNil)))))
 (dSeq (dAsg (dCall 3 c_l_times_3146 [] DX0 (dCons (dVar 3) (dCons (dVar 5) (dCons (dCall 2 c_l_share_4ae7 [] DX0 (dCons (dVar 0) (dCons (dVar 2) dNil))) dNil)))) (dName 8))
 (dRet (dTup (dCons (dVar 4) (dCons (dVar 8) (dCons (dCall 3 c_l_times_3146 [] DX0 (dCons (dVar 3) (dCons (dVar 6) (dCons (dCall 2 c_l_share_4ae7 [] DX0 (dCons (dVar 0) (dCons (dVar 2) dNil))) dNil)))) dNil))))))))
def t_l_place_9cad (c_l_measure_d993 : DSp) (c_l_plus_46d9 : DSp) (c_l_whole_43a8 : DSp) (c_l_times_3146 : DSp) (c_l_shape_1896 : DSp) : DTS :=
 (dSeq (dAsg (dTup (dCons (dCall 1 c_l_measure_d993 [] DX0 (dCons (dVar 0) dNil)) (dCons (dVar 1) dNil))) (dGTup 2 (dGCons (dName 2) (dGCons (dGTup 3 (dGCons (dName 3) (dGCons (dName 4) (dGCons (dName 5) dGNil)))) dGNil))))
 (dSeq (dIfS (dTru (dOp gEq (dVar 3) (dC (.int 1)))) (dRet (dTup (dCons (dCall 4 c_l_plus_46d9 [] DX0 (dCons (dVar 2) (dCons (dVar 4) (dCons (dCall 1 c_l_whole_43a8 [] DX0 (dCons (dOp gIx (dVar 0) (dC (.int 0))) dNil)) (dCons (dC (.int 1)) dNil))))) (dCons (dCall 4 c_l_plus_46d9 [] DX0 (dCons (dVar 2) (dCons (dVar 5) (dCons (dCall 1 c_l_whole_43a8 [] DX0 (dCons (dOp gIx (dVar 0) (dC (.int 2))) dNil)) (dCons (dC (.int 1)) dNil))))) dNil)))) dNext)
 (dRet (dTup (dCons (dCall 4 c_l_plus_46d9 [] DX0 (dCons (dVar 2) (dCons (dVar 4) (dCons (dCall 3 c_l_times_3146 [] DX0 (dCons (dVar 2) (dCons (dVar 5) (dCons (dOp gIx (dCall 2 c_l_shape_1896 [] DX0 (dCons (dVar 0) (dCons (dC (.int 0)) dNil))) (dC (.int 2))) dNil)))) (dCons (dC (.int 1)) dNil))))) (dCons (dVar 5) dNil))))))
def t_l_along_edge_cdad (c_l_measure_d993 : DSp) (c_l_corners_5cb1 : DSp) (c_l_added_a47b : DSp) (c_l_scaled_08a4 : DSp) : DTS :=
 (dSeq (dPar 3 4 (dCons (dCall 1 c_l_measure_d993 [] DX0 (dCons (dVar 0) dNil)) (dCons (dCall 1 c_l_corners_5cb1 [] DX0 (dCons (dVar 0) dNil)) dNil)))
 (dSeq (dPar 5 6 (dCons (dOp gIx (dVar 4) (dVar 1)) (dCons (dOp gIx (dVar 4) (dOp (rBin CMod fun i j => i.fmod j) (dCB gInt (dCons (dOp gAdd (dVar 1) (dC (.int 1))) dNil)) (dC (.int 8)))) dNil)))
 (dRet (dCall 4 c_l_added_a47b [] DX0 (dCons (dVar 3) (dCons (dVar 5) (dCons (dCall 3 c_l_scaled_08a4 [] DX0 (dCons (dVar 3) (dCons (dVar 2) (dCons (dCall 4 c_l_added_a47b [] DX0 (dCons (dVar 3) (dCons (dVar 6) (dCons (dVar 5) (dCons (dNeg (dC (.int 1))) dNil))))) dNil)))) (dCons (dC (.int 1)) dNil))))))))
def t_l_outside_bec0 (c_l_measure_d993 : DSp) (c_l_corners_5cb1 : DSp) (c_l_added_a47b : DSp) (c_l_along_edge_cdad : DSp) (c_l_share_4ae7 : DSp) (c_l_random_7821 : DSp) (c_l_scaled_08a4 : DSp) (c_l_side_of_cf54 : DSp) (c_l_plus_46d9 : DSp) (c_l_whole_43a8 : DSp) (c_l_times_3146 : DSp) : DTS :=
 (dSeq (dAsg (dTup (dCons (dCall 1 c_l_measure_d993 [] DX0 (dCons (dVar 1) dNil)) (dCons (dCall 1 c_l_corners_5cb1 [] DX0 (dCons (dVar 1) dNil)) (dCons (dOwn dNil) dNil)))) (dGTup 3 (dGCons (dName 2) (dGCons (dName 3) (dGCons (dName 4) dGNil)))))
 (dSeq (dFor (dRngI gRng1 (dCons (dC (.int 8)) dNil)) (dName 5) (dSeq (dAsg (dCall 4 c_l_added_a47b [] DX0 (dCons (dVar 2) (dCons (dOp gIx (dVar 3) (dOp (rBin CMod fun i j => i.fmod j) (dCB gInt (dCons (dOp gAdd (dVar 5) (dC (.int 1))) dNil)) (dC (.int 8)))) (dCons (dOp gIx (dVar 3) (dVar 5)) (dCons (dNeg (dC (.int 1))) dNil))))) (dGTup 2 (dGCons (dName 6) (dGCons (dName 7) dGNil))))
 (dSeq (dAsg (dTup (dCons (dVar 7) (dCons (dTup (dCons (dOp (rBin (fun _ _ => True) fun i j => i - j) (dC (.int 0)) (dOp gIx (dVar 6) (dC (.int 0)))) (dCons (dOp (rBin (fun _ _ => True) fun i j => i - j) (dC (.int 0)) (dOp gIx (dVar 6) (dC (.int 1)))) (dCons (dOp gIx (dVar 6) (dC (.int 2))) dNil)))) dNil))) (dName 8))
 (dSeq (dAsg (dCall 3 c_l_along_edge_cdad [] DX0 (dCons (dVar 1) (dCons (dVar 5) (dCons (dOp gIx (dLst (dCons (dTup (dCons (dC (.int 1)) (dCons (dC (.int 0)) (dCons (dC (.int 2)) dNil)))) (dCons (dCall 2 c_l_share_4ae7 [] DX0 (dCons (dVar 0) (dCons (dC (.int 30)) dNil))) dNil))) (dCall 2 c_l_random_7821 [] DX0 (dCons (dVar 0) (dCons (dC (.int 2)) dNil)))) dNil)))) (dName 9))
 (dFor (dSeqI (dLst (dCons (dC (.int 1000)) (dCons (dIf (dTru (dOp (gCmpI fun i j => decide (i < j)) (dOp gAdd (dOp gAdd (dOp gIx (dVar 1) (dC (.int 1))) (dOp gIx (dVar 1) (dC (.int 2)))) (dCB gAbs (dCons (dOp gIx (dVar 1) (dC (.int 3))) dNil))) (dC (.int 200)))) (dOp (rBin CPow fun i j => i ^ j.toNat) (dC (.int 10)) (dC (.int 25))) (dOp (rBin CPow fun i j => i ^ j.toNat) (dC (.int 10)) (dC (.int 9)))) dNil)))) (dName 10) (dDrop (dMet gAppend (dVar 4) (dCons (dCall 4 c_l_added_a47b [] DX0 (dCons (dVar 2) (dCons (dVar 9) (dCons (dCall 3 c_l_scaled_08a4 [] DX0 (dCons (dVar 2) (dCons (dTup (dCons (dC (.int 1)) (dCons (dC (.int 0)) (dCons (dVar 10) dNil)))) (dCons (dVar 8) dNil)))) (dCons (dC (.int 1)) dNil))))) dNil))))))))
 (dSeq (dAsg (dTup (dCons (dCall 1 c_l_side_of_cf54 [] DX0 (dCons (dVar 1) dNil)) (dCons (dCall 2 c_l_share_4ae7 [] DX0 (dCons (dVar 0) (dCons (dC (.int 20)) dNil))) dNil))) (dGTup 2 (dGCons (dName 11) (dGCons (dName 12) dGNil))))
 (dSeq (dAsg (dOp gAddO (dVar 4) (dLc false (dSeqI (dLst (dCons (dC (.int 0)) (dCons (dC (.int 2)) (dCons (dC (.int 3)) (dCons (dC (.int 5)) (dCons (dC (.int 6)) dNil))))))) (dName 5) dYes (dCall 3 c_l_along_edge_cdad [] DX0 (dCons (dVar 1) (dCons (dVar 5) (dCons (dTup (dCons (dOp (rBin (fun _ _ => True) fun i j => i - j) (dC (.int 0)) (dOp gIx (dVar 12) (dC (.int 0)))) (dCons (dOp gIx (dVar 12) (dC (.int 1))) (dCons (dOp gIx (dVar 12) (dC (.int 2))) dNil)))) dNil)))) [5])) (dName 4))
 (dSeq (dAsg (dOp gAddO (dVar 4) (dLc false (dSeqI (dLst (dCons (dC (.int 1)) (dCons (dC (.int 2)) (dCons (dC (.int 4)) (dCons (dC (.int 5)) (dCons (dC (.int 7)) dNil))))))) (dName 5) dYes (dCall 3 c_l_along_edge_cdad [] DX0 (dCons (dVar 1) (dCons (dVar 5) (dCons (dCall 4 c_l_plus_46d9 [] DX0 (dCons (dVar 2) (dCons (dCall 1 c_l_whole_43a8 [] DX0 (dCons (dC (.int 1)) dNil)) (dCons (dVar 12) (dCons (dC (.int 1)) dNil))))) dNil)))) [5])) (dName 4))
 (dSeq (dDrop (dMet gAppend (dVar 4) (dCons (dTup (dCons (dCall 4 c_l_plus_46d9 [] DX0 (dCons (dVar 2) (dCons (dOp gIx (dOp gIx (dVar 3) (dC (.int 7))) (dC (.int 0))) (dCons (dCall 3 c_l_times_3146 [] DX0 (dCons (dVar 2) (dCons (dVar 12) (dCons (dVar 11) dNil)))) (dCons (dNeg (dC (.int 1))) dNil))))) (dCons (dOp gIx (dOp gIx (dVar 3) (dC (.int 7))) (dC (.int 1))) dNil))) dNil)))
 (dSeq (dAsg (dCall 3 c_l_times_3146 [] DX0 (dCons (dVar 2) (dCons (dVar 12) (dCons (dCall 4 c_l_plus_46d9 [] DX0 (dCons (dVar 2) (dCons (dCall 1 c_l_whole_43a8 [] DX0 (dCons (dOp gIx (dVar 1) (dC (.int 1))) dNil)) (dCons (dVar 11) (dCons (dNeg (dC (.int 1))) dNil))))) dNil)))) (dName 13))
 (dSeq (dAsg (dCall 4 c_l_plus_46d9 [] DX0 (dCons (dVar 2) (dCons (dCall 4 c_l_plus_46d9 [] DX0 (dCons (dVar 2) (dCons (dCall 1 c_l_whole_43a8 [] DX0 (dCons (dOp gIx (dVar 1) (dC (.int 0))) dNil)) (dCons (dVar 11) (dCons (dC (.int 1)) dNil))))) (dCons (dVar 13) (dCons (dC (.int 1)) dNil))))) (dName 6))
 (dRet (dOp gAdd (dVar 4) (dLst (dCons (dTup (dCons (dVar 6) (dCons (dCall 4 c_l_plus_46d9 [] DX0 (dCons (dVar 2) (dCons (dCall 1 c_l_whole_43a8 [] DX0 (dCons (dOp gIx (dVar 1) (dC (.int 2))) dNil)) (dCons (dCall 3 c_l_times_3146 [] DX0 (dCons (dVar 2) (dCons (dVar 12) (dCons (dVar 11) dNil)))) (dCons (dC (.int 1)) dNil))))) dNil))) dNil))))))))))))
def t_l_inner_right_c58f (c_l_measure_d993 : DSp) (c_l_spot_7a5b : DSp) (c_l_place_9cad : DSp) (c_point_of : DSp) (c_is_point : DSp) (c_piece_of : DSp) (c_l_times_3146 : DSp) (c_l_share_4ae7 : DSp) (c_l_side_of_cf54 : DSp) (c_l_whole_43a8 : DSp) (c_l_added_a47b : DSp) (c_l_outside_bec0 : DSp) : DTS :=
 (dSeq (dPar 2 3 (dCons (dCall 1 c_l_measure_d993 [] DX0 (dCons (dVar 1) dNil)) (dCons (dCall 3 c_l_spot_7a5b [] DX0 (dCons (dVar 0) (dCons (dVar 1) (dCons (dC (.int 97)) dNil)))) dNil)))
 (dSeq (dAsg (dCall 2 c_l_place_9cad [] DX0 (dCons (dVar 1) (dCons (dVar 3) dNil))) (dName 4))
 (dSeq (dIfS (dOr (dTru (dOp gNe (dCB gReprZ (dCons (dCall 2 c_point_of [] DX0 (dCons (dVar 1) (dCons (dVar 4) dNil))) dNil)) (dCB gReprZ (dCons (dVar 4) dNil)))) (dTru (dOp (gIs true) (dCallK 2 2 c_is_point [1, 0] DX0 (dCons (dVar 4) (dCons (dVar 1) dNil))) (dC (.bl true))))) (dRet (dC (.bl false))) dNext)
 (dSeq (dIfS (dOr (dTru (dOp gNe (dCB gReprZ (dCons (dCall 2 c_piece_of [] DX0 (dCons (dVar 1) (dCons (dVar 4) dNil))) dNil)) (dCB gReprZ (dCons (dOp gIx (dVar 3) (dC (.int 0))) dNil)))) (dTru (dOp gNe (dCallK 2 2 c_piece_of [1, 0] DX0 (dCons (dVar 4) (dCons (dVar 1) dNil))) (dOp gIx (dVar 3) (dC (.int 0)))))) (dRet (dC (.bl false))) dNext)
 (dSeq (dAsg (dCall 3 c_l_times_3146 [] DX0 (dCons (dVar 2) (dCons (dCall 1 c_l_side_of_cf54 [] DX0 (dCons (dVar 1) dNil)) (dCons (dCall 2 c_l_share_4ae7 [] DX0 (dCons (dVar 0) (dCons (dC (.int 30)) dNil))) dNil)))) (dName 5))
 (dSeq (dAsg (dCall 2 c_l_place_9cad [] DX0 (dCons (dVar 1) (dCons (dTup (dCons (dC (.int 1)) (dCons (dVar 5) (dCons (dCall 1 c_l_whole_43a8 [] DX0 (dCons (dC (.int 0)) dNil)) dNil)))) dNil))) (dName 6))
 (dSeq (dIfS (dOr (dTru (dOp gNe (dCB gReprZ (dCons (dCall 2 c_point_of [] DX0 (dCons (dVar 1) (dCons (dVar 6) dNil))) dNil)) (dCB gReprZ (dCons (dVar 6) dNil)))) (dTru (dOp gNe (dCB gReprZ (dCons (dCall 2 c_piece_of [] DX0 (dCons (dVar 1) (dCons (dVar 6) dNil))) dNil)) (dC (.str (PySem.Str.ofString "1")))))) (dRet (dC (.bl false))) dNext)
 (dSeq (dAsg (dCall 4 c_l_added_a47b [] DX0 (dCons (dVar 2) (dCons (dVar 4) (dCons (dTup (dCons (dCall 1 c_l_whole_43a8 [] DX0 (dCons (dOp gAdd (dOp gIx (dVar 1) (dC (.int 1))) (dC (.int 1))) dNil)) (dCons (dCall 1 c_l_whole_43a8 [] DX0 (dCons (dC (.int 0)) dNil)) dNil))) (dCons (dC (.int 1)) dNil))))) (dName 7))
 (dSeq (dIfS (dTru (dOp gNe (dLc false (dSeqI (dCall 2 c_l_outside_bec0 [] DX0 (dCons (dVar 0) (dCons (dVar 1) dNil)))) (dName 8) (dTru (dOp (gIs true) (dCall 2 c_is_point [] DX0 (dCons (dVar 1) (dCons (dVar 8) dNil))) (dC (.bl false)))) (dVar 8) [8]) (dLst dNil))) (dRet (dC (.bl false))) dNext)
 (dSeq (dAsg (dLst (dCons (dVar 7) (dCons (dCB (gList false) (dCons (dVar 4) dNil)) (dCons (dSl (gSl false) (dVar 4) dNoPart (dPart (dC (.int 1)))) (dCons (dOp gAdd (dVar 4) (dSl (gSl false) (dVar 4) dNoPart (dPart (dC (.int 1))))) (dCons (dTup (dCons (dOp gIx (dVar 4) (dC (.int 0))) (dCons (dC .non) dNil))) (dCons (dTup (dCons (dOp gIx (dVar 4) (dC (.int 0))) (dCons (dC (.int 1)) dNil))) (dCons (dC .non) (dCons (dC (.str (PySem.Str.ofString "point"))) (dCons (dTup (dCons (dTup (dCons (dC (.int 0)) (dCons (dC (.int 0)) (dCons (dC (.int 2)) dNil)))) (dCons (dOp gIx (dVar 4) (dC (.int 1))) dNil))) (dCons (dTup (dCons (dTup (dCons (dC (.int 0)) (dCons (dC (.int 0)) (dCons (dC (.bl true)) dNil)))) (dCons (dTup (dCons (dC (.int 0)) (dCons (dC (.int 0)) (dCons (dC (.int 1)) dNil)))) dNil))) dNil))))))))))) (dName 9))
 (dRet (dOp gEq (dLc false (dSeqI (dVar 9)) (dName 8) (dTru (dOp (gIs true) (dCall 2 c_is_point [] DX0 (dCons (dVar 1) (dCons (dVar 8) dNil))) (dC (.bl false)))) (dVar 8) [8]) (dLst dNil)))))))))))))
def t_l_law_53b8 (c_l_generator_b324 : DSp) (c_l_cutting_bb00 : DSp) (c_l_whole_43a8 : DSp) (c_l_edge_right_b3b6 : DSp) (c_point_of : DSp) (c_l_corners_5cb1 : DSp) (c_is_point : DSp) (c_l_inner_right_c58f : DSp) (c_piece_of : DSp) : DTS :=
 (dSeq (dAsg (dCall 2 c_l_generator_b324 [] DX0 (dCons (dVar 0) (dCons (dC (.int 0)) dNil))) (dName 1))
 (dSeq (dAsg (dCall 3 c_l_cutting_bb00 [] DX0 (dCons (dVar 1) (dCons (dC (.int 12)) (dCons (dC (.int 8)) dNil)))) (dName 2))
 (dSeq (dAsg (dTup (dCons (dCall 1 c_l_whole_43a8 [] DX0 (dCons (dC (.int 0)) dNil)) (dCons (dCall 1 c_l_whole_43a8 [] DX0 (dCons (dC (.int 0)) dNil)) dNil))) (dName 3))
 (dSeq (dFor (dRngI gRng1 (dCons (dC (.int 8)) dNil)) (dName 4) (dSeq (dIfS (dOr (dNot (dTru (dCall 3 c_l_edge_right_b3b6 [] DX0 (dCons (dVar 1) (dCons (dVar 2) (dCons (dVar 4) dNil)))))) (dTru (dOp gNe (dCB gReprZ (dCons (dCall 2 c_point_of [] DX0 (dCons (dVar 2) (dCons (dOp gIx (dCall 1 c_l_corners_5cb1 [] DX0 (dCons (dVar 2) dNil)) (dVar 4)) dNil))) dNil)) (dCB gReprZ (dCons (dVar 3) dNil))))) (dRet (dC (.bl false))) dNext)
 (dIfS (dTru (dOp gNe (dCall 2 c_is_point [] DX0 (dCons (dVar 2) (dCons (dOp gIx (dCall 1 c_l_corners_5cb1 [] DX0 (dCons (dVar 2) dNil)) (dVar 4)) dNil))) (dOp gEq (dVar 4) (dC (.int 0))))) (dRet (dC (.bl false))) dNext)))
 (dSeq (dFor (dRngI gRng1 (dCons (dC (.int 4)) dNil)) (dName 5) (dIfS (dNot (dTru (dCall 2 c_l_inner_right_c58f [] DX0 (dCons (dVar 1) (dCons (dVar 2) dNil))))) (dRet (dC (.bl false))) dNext))
 (dSeq (dIfS (dOr (dTru (dOp gNe (dCall 2 c_piece_of [] DX0 (dCons (dVar 2) (dCons (dVar 3) dNil))) (dC (.int 0)))) (dNot (dTru (dCall 2 c_l_inner_right_c58f [] DX0 (dCons (dVar 1) (dCons (dCall 3 c_l_cutting_bb00 [] DX0 (dCons (dVar 1) (dCons (dOp (rBin CPow fun i j => i ^ j.toNat) (dC (.int 10)) (dC (.int 9))) (dCons (dOp (rBin CPow fun i j => i ^ j.toNat) (dC (.int 10)) (dC (.int 4))) dNil)))) dNil)))))) (dRet (dC (.bl false))) dNext)
 (dSeq (dAsg (dTup (dCons (dC (.int 1)) (dCons (dC (.int 2)) (dCons (dC (.int 2)) (dCons (dNeg (dC (.int 1))) dNil))))) (dName 6))
 (dRet (dAndV (dOp gEq (dCall 2 c_point_of [] DX0 (dCons (dVar 6) (dCons (dTup (dCons (dTup (dCons (dC (.int 14)) (dCons (dC (.int 0)) (dCons (dC (.int 5)) dNil)))) (dCons (dTup (dCons (dC (.int 2)) (dCons (dC (.int 0)) (dCons (dC (.int 1)) dNil)))) dNil))) dNil))) (dTup (dCons (dTup (dCons (dC (.int 9)) (dCons (dC (.int 0)) (dCons (dC (.int 5)) dNil)))) (dCons (dTup (dCons (dC (.int 0)) (dCons (dC (.int 0)) (dCons (dC (.int 1)) dNil)))) dNil)))) (dOp gEq (dCall 2 c_point_of [] DX0 (dCons (dVar 6) (dCons (dTup (dCons (dTup (dCons (dC (.int 5)) (dCons (dC (.int 0)) (dCons (dC (.int 2)) dNil)))) (dCons (dTup (dCons (dC (.int 1)) (dCons (dC (.int 0)) (dCons (dC (.int 1)) dNil)))) dNil))) dNil))) (dTup (dCons (dTup (dCons (dC (.int 1)) (dCons (dC (.int 0)) (dCons (dC (.int 2)) dNil)))) (dCons (dTup (dCons (dC (.int 1)) (dCons (dC (.int 0)) (dCons (dC (.int 1)) dNil)))) dNil)))))))))))))
end DL
namespace C_k35
open PySem PySem.Spec PyProof.Rows L2 DL
def topS (i : Nat) : Stmt := PySem.Challenge.pw_slitsheets_k35_whole_points.main.body.getD i (.Pass ⟨0, 0, 0, 0⟩)
abbrev s_l_cell_cf3b : Stmt := topS 35
theorem sc_l_cell_cf3b : FnScope ["_law_script", "_law_index"] ["_law_script", "_law_index"] (defScope s_l_cell_cf3b) := ⟨rfl, rfl, rfl, by decide +kernel, rfl, by decide +kernel, by decide +kernel⟩
abbrev s_l_generator_b324 : Stmt := topS 36
theorem sc_l_generator_b324 : FnScope ["_law_script", "_law_index", "_law_seed"] ["_law_script", "_law_index"] (defScope s_l_generator_b324) := ⟨rfl, rfl, rfl, by decide +kernel, rfl, by decide +kernel, by decide +kernel⟩
abbrev s_l_hash_d8d1 : Stmt := topS 33
theorem sc_l_hash_d8d1 : FnScope ["_law_seed", "_law_index", "_law_mixed"] ["_law_seed", "_law_index"] (defScope s_l_hash_d8d1) := ⟨rfl, rfl, rfl, by decide +kernel, rfl, by decide +kernel, by decide +kernel⟩
abbrev s_l_random_7821 : Stmt := topS 34
theorem sc_l_random_7821 : FnScope ["_law_generator_here", "_law_bound", "_law_drawn", "_law_turn"] ["_law_generator_here", "_law_bound"] (defScope s_l_random_7821) := ⟨rfl, rfl, rfl, by decide +kernel, rfl, by decide +kernel, by decide +kernel⟩
abbrev s_l_common_ec6e : Stmt := topS 37
theorem sc_l_common_ec6e : FnScope ["_law_one", "_law_other", "_law_low", "_law_high"] ["_law_one", "_law_other"] (defScope s_l_common_ec6e) := ⟨rfl, rfl, rfl, by decide +kernel, rfl, by decide +kernel, by decide +kernel⟩
abbrev s_l_cutting_bb00 : Stmt := topS 45
theorem sc_l_cutting_bb00 : FnScope ["_law_generator_here", "_law_most", "_law_high", "_law_c", "_law_e", "_law_b", "_law_a"] ["_law_generator_here", "_law_most", "_law_high"] (defScope s_l_cutting_bb00) := ⟨rfl, rfl, rfl, by decide +kernel, rfl, by decide +kernel, by decide +kernel⟩
abbrev s_l_whole_43a8 : Stmt := topS 42
theorem sc_l_whole_43a8 : FnScope ["_law_number"] ["_law_number"] (defScope s_l_whole_43a8) := ⟨rfl, rfl, rfl, by decide +kernel, rfl, by decide +kernel, by decide +kernel⟩
abbrev s_l_measure_d993 : Stmt := topS 43
theorem sc_l_measure_d993 : FnScope ["_law_cutting_here"] ["_law_cutting_here"] (defScope s_l_measure_d993) := ⟨rfl, rfl, rfl, by decide +kernel, rfl, by decide +kernel, by decide +kernel⟩
abbrev s_l_root_of_fba3 : Stmt := topS 38
theorem sc_l_root_of_fba3 : FnScope ["_law_number", "_law_low", "_law_high", "_law_middle"] ["_law_number"] (defScope s_l_root_of_fba3) := ⟨rfl, rfl, rfl, by decide +kernel, rfl, by decide +kernel, by decide +kernel⟩
abbrev s_l_made_ecf7 : Stmt := topS 39
theorem sc_l_made_ecf7 : FnScope ["_law_measure_here", "_law_x", "_law_y", "_law_below", "_law_root", "_law_common_here"] ["_law_measure_here", "_law_x", "_law_y", "_law_below"] (defScope s_l_made_ecf7) := ⟨rfl, rfl, rfl, by decide +kernel, rfl, by decide +kernel, by decide +kernel⟩
abbrev s_l_side_of_cf54 : Stmt := topS 44
theorem sc_l_side_of_cf54 : FnScope ["_law_cutting_here"] ["_law_cutting_here"] (defScope s_l_side_of_cf54) := ⟨rfl, rfl, rfl, by decide +kernel, rfl, by decide +kernel, by decide +kernel⟩
abbrev s_l_plus_46d9 : Stmt := topS 40
theorem sc_l_plus_46d9 : FnScope ["_law_measure_here", "_law_one", "_law_other", "_law_times_here", "_law_x"] ["_law_measure_here", "_law_one", "_law_other", "_law_times_here"] (defScope s_l_plus_46d9) := ⟨rfl, rfl, rfl, by decide +kernel, rfl, by decide +kernel, by decide +kernel⟩
abbrev s_l_corners_5cb1 : Stmt := topS 48
theorem sc_l_corners_5cb1 : FnScope ["_law_cutting_here", "_law_a", "_law_b", "_law_c", "_law_e", "_law_side", "_law_measure_here", "_law_nought", "_law_right", "_law_top", "_law_found"] ["_law_cutting_here"] (defScope s_l_corners_5cb1) := ⟨rfl, rfl, rfl, by decide +kernel, rfl, by decide +kernel, by decide +kernel⟩
abbrev s_l_share_4ae7 : Stmt := topS 51
theorem sc_l_share_4ae7 : FnScope ["_law_generator_here", "_law_below"] ["_law_generator_here", "_law_below"] (defScope s_l_share_4ae7) := ⟨rfl, rfl, rfl, by decide +kernel, rfl, by decide +kernel, by decide +kernel⟩
abbrev s_l_added_a47b : Stmt := topS 46
theorem sc_l_added_a47b : FnScope ["_law_measure_here", "_law_one", "_law_other", "_law_times_here", "_law_low", "_law_high"] ["_law_measure_here", "_law_one", "_law_other", "_law_times_here"] (defScope s_l_added_a47b) := ⟨rfl, rfl, rfl, by decide +kernel, rfl, by decide +kernel, by decide +kernel⟩
abbrev s_l_times_3146 : Stmt := topS 41
theorem sc_l_times_3146 : FnScope ["_law_measure_here", "_law_one", "_law_other", "_law_x"] ["_law_measure_here", "_law_one", "_law_other"] (defScope s_l_times_3146) := ⟨rfl, rfl, rfl, by decide +kernel, rfl, by decide +kernel, by decide +kernel⟩
abbrev s_l_scaled_08a4 : Stmt := topS 47
theorem sc_l_scaled_08a4 : FnScope ["_law_measure_here", "_law_number", "_law_vector", "_law_item"] ["_law_measure_here", "_law_number", "_law_vector"] (defScope s_l_scaled_08a4) := ⟨rfl, rfl, rfl, by decide +kernel, rfl, by decide +kernel, by decide +kernel⟩
abbrev s_l_glued_bd92 : Stmt := topS 55
theorem sc_l_glued_bd92 : FnScope ["_law_at"] ["_law_at"] (defScope s_l_glued_bd92) := ⟨rfl, rfl, rfl, by decide +kernel, rfl, by decide +kernel, by decide +kernel⟩
abbrev s_is_whole : Stmt := topS 5
theorem sc_is_whole : FnScope ["value"] ["value"] (defScope s_is_whole) := ⟨rfl, rfl, rfl, by decide +kernel, rfl, by decide +kernel, by decide +kernel⟩
abbrev s_common_by : Stmt := topS 7
theorem sc_common_by : FnScope ["one", "other", "low", "high"] ["one", "other"] (defScope s_common_by) := ⟨rfl, rfl, rfl, by decide +kernel, rfl, by decide +kernel, by decide +kernel⟩
abbrev s_is_cutting_by : Stmt := topS 9
theorem sc_is_cutting_by : FnScope ["value", "item", "low", "high", "side", "turn", "both"] ["value"] (defScope s_is_cutting_by) := ⟨rfl, rfl, rfl, by decide +kernel, rfl, by decide +kernel, by decide +kernel⟩
abbrev s_check_cutting : Stmt := topS 10
theorem sc_check_cutting : FnScope ["cutting"] ["cutting"] (defScope s_check_cutting) := ⟨rfl, rfl, rfl, by decide +kernel, rfl, by decide +kernel, by decide +kernel⟩
abbrev s_measure_by : Stmt := topS 11
theorem sc_measure_by : FnScope ["cutting"] ["cutting"] (defScope s_measure_by) := ⟨rfl, rfl, rfl, by decide +kernel, rfl, by decide +kernel, by decide +kernel⟩
abbrev s_root_floor_by : Stmt := topS 6
theorem sc_root_floor_by : FnScope ["number", "found", "again"] ["number"] (defScope s_root_floor_by) := ⟨rfl, rfl, rfl, by decide +kernel, rfl, by decide +kernel, by decide +kernel⟩
abbrev s_is_root_by : Stmt := topS 13
theorem sc_is_root_by : FnScope ["measure", "value", "item", "x", "y", "below", "root"] ["measure", "value"] (defScope s_is_root_by) := ⟨rfl, rfl, rfl, by decide +kernel, rfl, by decide +kernel, by decide +kernel⟩
abbrev s_is_pair : Stmt := topS 26
theorem sc_is_pair : FnScope ["cutting", "value", "measure"] ["cutting", "value"] (defScope s_is_pair) := ⟨rfl, rfl, rfl, by decide +kernel, rfl, by decide +kernel, by decide +kernel⟩
abbrev s_root_by : Stmt := topS 14
theorem sc_root_by : FnScope ["measure", "x", "y", "below", "root", "common"] ["measure", "x", "y", "below"] (defScope s_root_by) := ⟨rfl, rfl, rfl, by decide +kernel, rfl, by decide +kernel, by decide +kernel⟩
abbrev s_slit_by : Stmt := topS 21
theorem sc_slit_by : FnScope ["cutting"] ["cutting"] (defScope s_slit_by) := ⟨rfl, rfl, rfl, by decide +kernel, rfl, by decide +kernel, by decide +kernel⟩
abbrev s_plus_by : Stmt := topS 15
theorem sc_plus_by : FnScope ["measure", "one", "other", "x"] ["measure", "one", "other"] (defScope s_plus_by) := ⟨rfl, rfl, rfl, by decide +kernel, rfl, by decide +kernel, by decide +kernel⟩
abbrev s_minus_by : Stmt := topS 16
theorem sc_minus_by : FnScope ["measure", "one", "other"] ["measure", "one", "other"] (defScope s_minus_by) := ⟨rfl, rfl, rfl, by decide +kernel, rfl, by decide +kernel, by decide +kernel⟩
abbrev s_side_by : Stmt := topS 18
theorem sc_side_by : FnScope ["measure", "root", "x", "y", "whole"] ["measure", "root"] (defScope s_side_by) := ⟨rfl, rfl, rfl, by decide +kernel, rfl, by decide +kernel, by decide +kernel⟩
abbrev s_times_by : Stmt := topS 17
theorem sc_times_by : FnScope ["measure", "one", "other", "x"] ["measure", "one", "other"] (defScope s_times_by) := ⟨rfl, rfl, rfl, by decide +kernel, rfl, by decide +kernel, by decide +kernel⟩
abbrev s_spot_by : Stmt := topS 22
theorem sc_spot_by : FnScope ["cutting", "place", "slant", "wide", "high", "_", "measure", "slit", "x", "y", "up", "pieces", "piece", "lean", "right", "most"] ["cutting", "place"] (defScope s_spot_by) := ⟨rfl, rfl, rfl, by decide +kernel, rfl, by decide +kernel, by decide +kernel⟩
abbrev s_laid : Stmt := topS 25
theorem sc_laid : FnScope ["cutting", "spot", "piece", "right", "up", "slant", "_", "high", "measure"] ["cutting", "spot"] (defScope s_laid) := ⟨rfl, rfl, rfl, by decide +kernel, rfl, by decide +kernel, by decide +kernel⟩
abbrev s_is_end : Stmt := topS 23
theorem sc_is_end : FnScope ["cutting", "piece", "right", "wide", "slit"] ["cutting", "piece", "right"] (defScope s_is_end) := ⟨rfl, rfl, rfl, by decide +kernel, rfl, by decide +kernel, by decide +kernel⟩
abbrev s_normal_spot : Stmt := topS 24
theorem sc_normal_spot : FnScope ["cutting", "spot", "piece", "right", "up", "measure", "slit", "wide", "below"] ["cutting", "spot"] (defScope s_normal_spot) := ⟨rfl, rfl, rfl, by decide +kernel, rfl, by decide +kernel, by decide +kernel⟩
abbrev s_point_of : Stmt := topS 30
theorem sc_point_of : FnScope ["cutting", "place", "spot"] ["cutting", "place"] (defScope s_point_of) := ⟨rfl, rfl, rfl, by decide +kernel, rfl, by decide +kernel, by decide +kernel⟩
abbrev s_is_point_by : Stmt := topS 27
theorem sc_is_point_by : FnScope ["cutting", "value", "spot"] ["cutting", "value"] (defScope s_is_point_by) := ⟨rfl, rfl, rfl, by decide +kernel, rfl, by decide +kernel, by decide +kernel⟩
abbrev s_is_point : Stmt := topS 29
theorem sc_is_point : FnScope ["cutting", "value"] ["cutting", "value"] (defScope s_is_point) := ⟨rfl, rfl, rfl, by decide +kernel, rfl, by decide +kernel, by decide +kernel⟩
abbrev s_check_point : Stmt := topS 28
theorem sc_check_point : FnScope ["cutting", "point"] ["cutting", "point"] (defScope s_check_point) := ⟨rfl, rfl, rfl, by decide +kernel, rfl, by decide +kernel, by decide +kernel⟩
abbrev s_piece_of : Stmt := topS 31
theorem sc_piece_of : FnScope ["cutting", "point", "measure"] ["cutting", "point"] (defScope s_piece_of) := ⟨rfl, rfl, rfl, by decide +kernel, rfl, by decide +kernel, by decide +kernel⟩
abbrev s_l_edge_right_b3b6 : Stmt := topS 56
theorem sc_l_edge_right_b3b6 : FnScope ["_law_generator_here", "_law_cutting_here", "_law_at", "_law_measure_here", "_law_ends", "_law_low", "_law_high", "_law_share_here", "_law_place_here", "_law_other", "_law_one", "_law_two", "_law_shifted", "_law_due"] ["_law_generator_here", "_law_cutting_here", "_law_at"] (defScope s_l_edge_right_b3b6) := ⟨rfl, rfl, rfl, by decide +kernel, rfl, by decide +kernel, by decide +kernel⟩
abbrev s_l_shape_1896 : Stmt := topS 49
theorem sc_l_shape_1896 : FnScope ["_law_cutting_here", "_law_piece", "_law_measure_here", "_law_side"] ["_law_cutting_here", "_law_piece"] (defScope s_l_shape_1896) := ⟨rfl, rfl, rfl, by decide +kernel, rfl, by decide +kernel, by decide +kernel⟩
abbrev s_l_spot_7a5b : Stmt := topS 52
theorem sc_l_spot_7a5b : FnScope ["_law_generator_here", "_law_cutting_here", "_law_below", "_law_measure_here", "_law_piece", "_law_wide", "_law_high", "_law_lean", "_law_right"] ["_law_generator_here", "_law_cutting_here", "_law_below"] (defScope s_l_spot_7a5b) := ⟨rfl, rfl, rfl, by decide +kernel, rfl, by decide +kernel, by decide +kernel⟩
abbrev s_l_place_9cad : Stmt := topS 50
theorem sc_l_place_9cad : FnScope ["_law_cutting_here", "_law_spot_here", "_law_measure_here", "_law_piece", "_law_right", "_law_up"] ["_law_cutting_here", "_law_spot_here"] (defScope s_l_place_9cad) := ⟨rfl, rfl, rfl, by decide +kernel, rfl, by decide +kernel, by decide +kernel⟩
abbrev s_l_along_edge_cdad : Stmt := topS 53
theorem sc_l_along_edge_cdad : FnScope ["_law_cutting_here", "_law_at", "_law_share_here", "_law_measure_here", "_law_ends", "_law_low", "_law_high"] ["_law_cutting_here", "_law_at", "_law_share_here"] (defScope s_l_along_edge_cdad) := ⟨rfl, rfl, rfl, by decide +kernel, rfl, by decide +kernel, by decide +kernel⟩
abbrev s_l_outside_bec0 : Stmt := topS 54
theorem sc_l_outside_bec0 : FnScope ["_law_generator_here", "_law_cutting_here", "_law_measure_here", "_law_ends", "_law_found", "_law_at", "_law_x", "_law_y", "_law_outward", "_law_place_here", "_law_below", "_law_side", "_law_share_here", "_law_shifted"] ["_law_generator_here", "_law_cutting_here"] (defScope s_l_outside_bec0) := ⟨rfl, rfl, rfl, by decide +kernel, rfl, by decide +kernel, by decide +kernel⟩
abbrev s_l_inner_right_c58f : Stmt := topS 57
theorem sc_l_inner_right_c58f : FnScope ["_law_generator_here", "_law_cutting_here", "_law_measure_here", "_law_spot_here", "_law_place_here", "_law_base", "_law_middle", "_law_outside_here", "_law_odd", "_law_odds"] ["_law_generator_here", "_law_cutting_here"] (defScope s_l_inner_right_c58f) := ⟨rfl, rfl, rfl, by decide +kernel, rfl, by decide +kernel, by decide +kernel⟩
abbrev s_l_law_53b8 : Stmt := topS 58
theorem sc_l_law_53b8 : FnScope ["_law_script", "_law_generator_here", "_law_cutting_here", "_law_nought", "_law_at", "_law_turn", "_law_bent"] ["_law_script"] (defScope s_l_law_53b8) := ⟨rfl, rfl, rfl, by decide +kernel, rfl, by decide +kernel, by decide +kernel⟩
/-- what the top has left -/
structure Txt (K : PySem.W.Frag) (mg : Str → Option Value) (base : Heap) : Prop where
  n_abs : mg "abs" = none
  n_bool : mg "bool" = none
  n_int : mg "int" = none
  n_isinstance : mg "isinstance" = none
  n_len : mg "len" = none
  n_list : mg "list" = none
  n_max : mg "max" = none
  n_range : mg "range" = none
  n_repr : mg "repr" = none
  n_sum : mg "sum" = none
  n_tuple : mg "tuple" = none
  n_zip : mg "zip" = none
  c_NOUGHT : ∃ u, mg "NOUGHT" = some u ∧ KRep K u (.tup [.int 0, .int 0, .int 1])
  h_l_cell_cf3b : Here K mg "_law_cell" s_l_cell_cf3b ["_law_script", "_law_index"]
  h_l_generator_b324 : Here K mg "_law_generator" s_l_generator_b324 ["_law_script", "_law_index"]
  h_l_hash_d8d1 : Here K mg "_law_hash" s_l_hash_d8d1 ["_law_seed", "_law_index"]
  h_l_random_7821 : Here K mg "_law_random" s_l_random_7821 ["_law_generator_here", "_law_bound"]
  h_l_common_ec6e : Here K mg "_law_common" s_l_common_ec6e ["_law_one", "_law_other"]
  h_l_cutting_bb00 : Here K mg "_law_cutting" s_l_cutting_bb00 ["_law_generator_here", "_law_most", "_law_high"]
  h_l_whole_43a8 : Here K mg "_law_whole" s_l_whole_43a8 ["_law_number"]
  h_l_measure_d993 : Here K mg "_law_measure" s_l_measure_d993 ["_law_cutting_here"]
  h_l_root_of_fba3 : Here K mg "_law_root_of" s_l_root_of_fba3 ["_law_number"]
  h_l_made_ecf7 : Here K mg "_law_made" s_l_made_ecf7 ["_law_measure_here", "_law_x", "_law_y", "_law_below"]
  h_l_side_of_cf54 : Here K mg "_law_side_of" s_l_side_of_cf54 ["_law_cutting_here"]
  h_l_plus_46d9 : Here K mg "_law_plus" s_l_plus_46d9 ["_law_measure_here", "_law_one", "_law_other", "_law_times_here"]
  h_l_corners_5cb1 : Here K mg "_law_corners" s_l_corners_5cb1 ["_law_cutting_here"]
  h_l_share_4ae7 : Here K mg "_law_share" s_l_share_4ae7 ["_law_generator_here", "_law_below"]
  h_l_added_a47b : Here K mg "_law_added" s_l_added_a47b ["_law_measure_here", "_law_one", "_law_other", "_law_times_here"]
  h_l_times_3146 : Here K mg "_law_times" s_l_times_3146 ["_law_measure_here", "_law_one", "_law_other"]
  h_l_scaled_08a4 : Here K mg "_law_scaled" s_l_scaled_08a4 ["_law_measure_here", "_law_number", "_law_vector"]
  h_l_glued_bd92 : Here K mg "_law_glued" s_l_glued_bd92 ["_law_at"]
  h_is_whole : Here K mg "is_whole" s_is_whole ["value"]
  h_common_by : Here K mg "common_by" s_common_by ["one", "other"]
  h_is_cutting_by : Here K mg "is_cutting_by" s_is_cutting_by ["value"]
  h_check_cutting : Here K mg "check_cutting" s_check_cutting ["cutting"]
  h_measure_by : Here K mg "measure_by" s_measure_by ["cutting"]
  h_root_floor_by : Here K mg "root_floor_by" s_root_floor_by ["number"]
  h_is_root_by : Here K mg "is_root_by" s_is_root_by ["measure", "value"]
  h_is_pair : Here K mg "is_pair" s_is_pair ["cutting", "value"]
  h_root_by : Here K mg "root_by" s_root_by ["measure", "x", "y", "below"]
  h_slit_by : Here K mg "slit_by" s_slit_by ["cutting"]
  h_plus_by : Here K mg "plus_by" s_plus_by ["measure", "one", "other"]
  h_minus_by : Here K mg "minus_by" s_minus_by ["measure", "one", "other"]
  h_side_by : Here K mg "side_by" s_side_by ["measure", "root"]
  h_times_by : Here K mg "times_by" s_times_by ["measure", "one", "other"]
  h_spot_by : Here K mg "spot_by" s_spot_by ["cutting", "place"]
  h_laid : Here K mg "laid" s_laid ["cutting", "spot"]
  h_is_end : Here K mg "is_end" s_is_end ["cutting", "piece", "right"]
  h_normal_spot : Here K mg "normal_spot" s_normal_spot ["cutting", "spot"]
  h_point_of : Here K mg "point_of" s_point_of ["cutting", "place"]
  h_is_point_by : Here K mg "is_point_by" s_is_point_by ["cutting", "value"]
  h_is_point : Here K mg "is_point" s_is_point ["cutting", "value"]
  h_check_point : Here K mg "check_point" s_check_point ["cutting", "point"]
  h_piece_of : Here K mg "piece_of" s_piece_of ["cutting", "point"]
  h_l_edge_right_b3b6 : Here K mg "_law_edge_right" s_l_edge_right_b3b6 ["_law_generator_here", "_law_cutting_here", "_law_at"]
  h_l_shape_1896 : Here K mg "_law_shape" s_l_shape_1896 ["_law_cutting_here", "_law_piece"]
  h_l_spot_7a5b : Here K mg "_law_spot" s_l_spot_7a5b ["_law_generator_here", "_law_cutting_here", "_law_below"]
  h_l_place_9cad : Here K mg "_law_place" s_l_place_9cad ["_law_cutting_here", "_law_spot_here"]
  h_l_along_edge_cdad : Here K mg "_law_along_edge" s_l_along_edge_cdad ["_law_cutting_here", "_law_at", "_law_share_here"]
  h_l_outside_bec0 : Here K mg "_law_outside" s_l_outside_bec0 ["_law_generator_here", "_law_cutting_here"]
  h_l_inner_right_c58f : Here K mg "_law_inner_right" s_l_inner_right_c58f ["_law_generator_here", "_law_cutting_here"]
  h_l_law_53b8 : Here K mg "law" s_l_law_53b8 ["_law_script"]
section
variable {P : Program} {w : World} {K : PySem.W.Frag} {mg : Str → Option Value} {base : Heap}
theorem ok_l_cell_cf3b {sp : DSp} (T : Txt K mg base) (hread : ∀ ds M Q, ds.length = 2 → sp ds M Q DX0 → t_l_cell_cf3b (dEnds M Q) (startD 2 ds) M) (hX : ∀ ds M Q E, sp ds M Q E → sp ds M Q DX0 := by exact fun _ _ _ _ h => h) : Def P w K mg base CX0 1 "_law_cell" s_l_cell_cf3b ["_law_script", "_law_index"] sp :=
 T.h_l_cell_cf3b.ok (t := t_l_cell_cf3b) sc_l_cell_cf3b (fun f cdv A outer s H E hr gd => (dss_cons (ds_if (dt_cmp opd_lt (dv 1) (de_blt cd_len T.n_len (da_cons (dv 0) da_nil)) (nomark _)) (dss_one (ds_ret (de_ix (dv 0) (dv 1)))) dss_nil)
 (dss_one (ds_ret (de_op opd_mod (de_blt (cd_sum rfl) T.n_sum (da_cons (de_slL false (dv 0) do_none (do_some de_int)) da_nil)) de_int))))) hread hX
theorem ok_l_generator_b324 {c_l_cell_cf3b : DSp} {sp : DSp} (T : Txt K mg base) (D_l_cell_cf3b : Def P w K mg base CX0 1 "_law_cell" s_l_cell_cf3b ["_law_script", "_law_index"] c_l_cell_cf3b) (hread : ∀ ds M Q, ds.length = 2 → sp ds M Q DX0 → t_l_generator_b324 c_l_cell_cf3b (dEnds M Q) (startD 3 ds) M) (hX : ∀ ds M Q E, sp ds M Q E → sp ds M Q DX0 := by exact fun _ _ _ _ h => h) : Def P w K mg base CX0 2 "_law_generator" s_l_generator_b324 ["_law_script", "_law_index"] sp :=
 T.h_l_generator_b324.ok (t := t_l_generator_b324 c_l_cell_cf3b) sc_l_generator_b324 (fun f cdv A outer s H E hr gd => (dss_cons (ds_set (i := 2) sc_l_generator_b324.nd (dcall D_l_cell_cf3b hr gd (da_cons (dv 0) (da_cons (dv 1) da_nil))))
 (dss_one (ds_ret (de_own (da_cons (de_op opd_mod (de_ty cd_int T.n_int (da_cons (de_blt (cd_max rfl) T.n_max (da_cons (de_op opd_sub (dv 2) (de_op opd_pow de_int de_int)) (da_cons de_int da_nil))) da_nil)) (de_op opd_pow (de_op opd_pow de_int de_int) de_int)) (da_cons (de_op opd_mod (de_ty cd_int T.n_int (da_cons (dv 2) da_nil)) de_int) (da_cons (de_op opd_mulI de_int (dv 1)) da_nil)))))))) hread hX
theorem ok_l_hash_d8d1 {sp : DSp} (T : Txt K mg base) (hread : ∀ ds M Q, ds.length = 2 → sp ds M Q DX0 → t_l_hash_d8d1 (dEnds M Q) (startD 3 ds) M) (hX : ∀ ds M Q E, sp ds M Q E → sp ds M Q DX0 := by exact fun _ _ _ _ h => h) : Def P w K mg base CX0 1 "_law_hash" s_l_hash_d8d1 ["_law_seed", "_law_index"] sp :=
 T.h_l_hash_d8d1.ok (t := t_l_hash_d8d1) sc_l_hash_d8d1 (fun f cdv A outer s H E hr gd => (dss_cons (ds_set (i := 2) sc_l_hash_d8d1.nd (de_op opd_mod (de_ty cd_int T.n_int (da_cons (de_op opd_add (de_op opd_add (de_op opd_add (de_op opd_mulI (dv 0) de_int) (de_op opd_mulI (de_op opd_mulI de_int (dv 1)) (dv 1))) (de_op opd_mulI de_int (dv 1))) de_int) da_nil)) de_int))
 (dss_cons (ds_set (i := 2) sc_l_hash_d8d1.nd (de_op opd_mod (de_ty cd_int T.n_int (da_cons (de_op opd_add (de_op opd_add (de_op opd_mulI (dv 2) (dv 2)) (de_op opd_mulI de_int (dv 1))) de_int) da_nil)) de_int))
 (dss_one (ds_ret (de_op opd_mod (de_ty cd_int T.n_int (da_cons (de_op opd_mulI (dv 2) de_int) da_nil)) de_int)))))) hread hX
theorem ok_l_random_7821 {c_l_hash_d8d1 : DSp} {sp : DSp} (T : Txt K mg base) (D_l_hash_d8d1 : Def P w K mg base CX0 1 "_law_hash" s_l_hash_d8d1 ["_law_seed", "_law_index"] c_l_hash_d8d1) (hread : ∀ ds M Q, ds.length = 2 → sp ds M Q DX0 → t_l_random_7821 c_l_hash_d8d1 (dEnds M Q) (startD 4 ds) M) (hX : ∀ ds M Q E, sp ds M Q E → sp ds M Q DX0 := by exact fun _ _ _ _ h => h) : Def P w K mg base CX0 2 "_law_random" s_l_random_7821 ["_law_generator_here", "_law_bound"] sp :=
 T.h_l_random_7821.ok (t := t_l_random_7821 c_l_hash_d8d1) sc_l_random_7821 (fun f cdv A outer s H E hr gd => (dss_cons (ds_if (dt_cmp opd_gt (de_ix (dv 0) de_int) de_int (nomark _)) (dss_cons (ds_set (i := 2) sc_l_random_7821.nd (de_op opd_mod (de_ty cd_int T.n_int (da_cons (de_ix (dv 0) de_int) da_nil)) (dv 1)))
 (dss_cons (ds_asg (de_op opd_fdiv (de_ix (dv 0) de_int) (dv 1)) (dg_sub (dv 0) de_int))
 (dss_one (ds_ret (dv 2))))) dss_nil)
 (dss_cons (ds_set (i := 2) sc_l_random_7821.nd de_int)
 (dss_cons (ds_for rfl (di_range1 T.n_range (da_cons (de_op opd_add de_int (de_op opd_fdiv (de_bits (dv 1)) de_int)) da_nil)) (dg_name (i := 3) sc_l_random_7821.nd) (dss_cons (ds_asg (de_op opd_add (de_ix (dv 0) de_int) de_int) (dg_sub (dv 0) de_int))
 (dss_one (ds_set (i := 2) sc_l_random_7821.nd (de_op opd_add (de_op opd_mulI (dv 2) de_int) (dcall D_l_hash_d8d1 hr gd (da_cons (de_ix (dv 0) de_int) (da_cons (de_ix (dv 0) de_int) da_nil))))))))
 (dss_one (ds_ret (de_op opd_mod (de_ty cd_int T.n_int (da_cons (dv 2) da_nil)) (dv 1)))))))) hread hX
theorem ok_l_common_ec6e {sp : DSp} (T : Txt K mg base) (hread : ∀ ds M Q, ds.length = 2 → sp ds M Q DX0 → t_l_common_ec6e (dEnds M Q) (startD 4 ds) M) (hX : ∀ ds M Q E, sp ds M Q E → sp ds M Q DX0 := by exact fun _ _ _ _ h => h) : Def P w K mg base CX0 1 "_law_common" s_l_common_ec6e ["_law_one", "_law_other"] sp :=
 T.h_l_common_ec6e.ok (t := t_l_common_ec6e) sc_l_common_ec6e (fun f cdv A outer s H E hr gd => (dss_cons (ds_par (i := 2) (j := 3) rfl sc_l_common_ec6e.nd (da_cons (de_blt (cd_max rfl) T.n_max (da_cons (dv 0) (da_cons (de_op opd_sub de_int (dv 0)) da_nil))) (da_cons (de_blt (cd_max rfl) T.n_max (da_cons (dv 1) (da_cons (de_op opd_sub de_int (dv 1)) da_nil))) da_nil)))
 (dss_cons (ds_while (dt_cmp opd_gt (dv 3) de_int (nomark _)) (dss_one (ds_par (i := 2) (j := 3) rfl sc_l_common_ec6e.nd (da_cons (dv 3) (da_cons (de_op opd_mod (de_ty cd_int T.n_int (da_cons (dv 2) da_nil)) (dv 3)) da_nil)))))
 (dss_one (ds_ret (dv 2)))))) hread hX
theorem ok_l_cutting_bb00 {c_l_random_7821 c_l_common_ec6e : DSp} {sp : DSp} (T : Txt K mg base) (D_l_random_7821 : Def P w K mg base CX0 2 "_law_random" s_l_random_7821 ["_law_generator_here", "_law_bound"] c_l_random_7821) (D_l_common_ec6e : Def P w K mg base CX0 1 "_law_common" s_l_common_ec6e ["_law_one", "_law_other"] c_l_common_ec6e) (hread : ∀ ds M Q, ds.length = 3 → sp ds M Q DX0 → t_l_cutting_bb00 c_l_random_7821 c_l_common_ec6e (dEnds M Q) (startD 7 ds) M) (hX : ∀ ds M Q E, sp ds M Q E → sp ds M Q DX0 := by exact fun _ _ _ _ h => h) : Def P w K mg base CX0 3 "_law_cutting" s_l_cutting_bb00 ["_law_generator_here", "_law_most", "_law_high"] sp :=
 T.h_l_cutting_bb00.ok (t := t_l_cutting_bb00 c_l_random_7821 c_l_common_ec6e) sc_l_cutting_bb00 (fun f cdv A outer s H E hr gd => (dss_cons (ds_set (i := 3) sc_l_cutting_bb00.nd (de_op opd_add de_int (dcall D_l_random_7821 hr gd (da_cons (dv 0) (da_cons (dv 2) da_nil)))))
 (dss_cons (ds_set (i := 4) sc_l_cutting_bb00.nd (de_op opd_sub (dcall D_l_random_7821 hr gd (da_cons (dv 0) (da_cons (de_op opd_add (de_op opd_mulI de_int (dv 1)) de_int) da_nil))) (dv 1)))
 (dss_cons (ds_set (i := 5) sc_l_cutting_bb00.nd (de_op opd_add (de_op opd_add (de_blt (cd_max rfl) T.n_max (da_cons (de_op opd_add (dv 3) (dv 4)) (da_cons de_int da_nil))) de_int) (dcall D_l_random_7821 hr gd (da_cons (dv 0) (da_cons (dv 1) da_nil)))))
 (dss_cons (ds_set (i := 6) sc_l_cutting_bb00.nd (dcall D_l_random_7821 hr gd (da_cons (dv 0) (da_cons (dcall D_l_common_ec6e hr gd (da_cons (dv 5) (da_cons (dv 3) da_nil))) da_nil))))
 (dss_cons (ds_while (dt_cmp (opd_ne (u64 hr)) (dcall D_l_common_ec6e hr gd (da_cons (dcall D_l_common_ec6e hr gd (da_cons (dv 6) (da_cons (dv 5) da_nil))) (da_cons (dcall D_l_common_ec6e hr gd (da_cons (dv 3) (da_cons (dv 4) da_nil))) da_nil))) de_int (nomark _)) (dss_one (ds_set (i := 4) sc_l_cutting_bb00.nd (de_op opd_sub (dv 4) de_int))))
 (dss_one (ds_ret (de_tup (da_cons (dv 6) (da_cons (dv 5) (da_cons (dv 3) (da_cons (dv 4) da_nil))))))))))))) hread hX
theorem ok_l_whole_43a8 {sp : DSp} (T : Txt K mg base) (hread : ∀ ds M Q, ds.length = 1 → sp ds M Q DX0 → t_l_whole_43a8 (dEnds M Q) (startD 1 ds) M) (hX : ∀ ds M Q E, sp ds M Q E → sp ds M Q DX0 := by exact fun _ _ _ _ h => h) : Def P w K mg base CX0 1 "_law_whole" s_l_whole_43a8 ["_law_number"] sp :=
 T.h_l_whole_43a8.ok (t := t_l_whole_43a8) sc_l_whole_43a8 (fun f cdv A outer s H E hr gd => (dss_one (ds_ret (de_tup (da_cons (dv 0) (da_cons de_int (da_cons de_int da_nil))))))) hread hX
theorem ok_l_measure_d993 {sp : DSp} (T : Txt K mg base) (hread : ∀ ds M Q, ds.length = 1 → sp ds M Q DX0 → t_l_measure_d993 (dEnds M Q) (startD 1 ds) M) (hX : ∀ ds M Q E, sp ds M Q E → sp ds M Q DX0 := by exact fun _ _ _ _ h => h) : Def P w K mg base CX0 1 "_law_measure" s_l_measure_d993 ["_law_cutting_here"] sp :=
 T.h_l_measure_d993.ok (t := t_l_measure_d993) sc_l_measure_d993 (fun f cdv A outer s H E hr gd => (dss_one (ds_ret (de_op opd_add (de_op opd_mulI (de_ix (dv 0) de_int) (de_ix (dv 0) de_int)) (de_op opd_mulI (de_op opd_mulI de_int (de_ix (dv 0) de_int)) (de_ix (dv 0) de_int)))))) hread hX
theorem ok_l_root_of_fba3 {sp : DSp} (T : Txt K mg base) (hread : ∀ ds M Q, ds.length = 1 → sp ds M Q DX0 → t_l_root_of_fba3 (dEnds M Q) (startD 4 ds) M) (hX : ∀ ds M Q E, sp ds M Q E → sp ds M Q DX0 := by exact fun _ _ _ _ h => h) : Def P w K mg base CX0 1 "_law_root_of" s_l_root_of_fba3 ["_law_number"] sp :=
 T.h_l_root_of_fba3.ok (t := t_l_root_of_fba3) sc_l_root_of_fba3 (fun f cdv A outer s H E hr gd => (dss_cons (ds_asg (de_tup (da_cons de_int (da_cons de_int da_nil))) (dg_tup rfl (dgs_cons (dg_name (i := 1) sc_l_root_of_fba3.nd) (dgs_cons (dg_name (i := 2) sc_l_root_of_fba3.nd) dgs_nil))))
 (dss_cons (ds_while (dt_cmp opd_le (de_op opd_mulI (dv 2) (dv 2)) (dv 0) (nomark _)) (dss_one (ds_set (i := 2) sc_l_root_of_fba3.nd (de_op opd_mulI de_int (dv 2)))))
 (dss_cons (ds_while (dt_cmp opd_gt (de_op opd_sub (dv 2) (dv 1)) de_int (nomark _)) (dss_cons (ds_set (i := 3) sc_l_root_of_fba3.nd (de_op opd_fdiv (de_op opd_add (dv 1) (dv 2)) de_int))
 (dss_one (ds_if (dt_cmp opd_le (de_op opd_mulI (dv 3) (dv 3)) (dv 0) (nomark _)) (dss_one (ds_set (i := 1) sc_l_root_of_fba3.nd (dv 3))) (dss_one (ds_set (i := 2) sc_l_root_of_fba3.nd (dv 3)))))))
 (dss_one (ds_ret (dv 1))))))) hread hX
theorem ok_l_made_ecf7 {c_l_root_of_fba3 c_l_common_ec6e : DSp} {sp : DSp} (T : Txt K mg base) (D_l_root_of_fba3 : Def P w K mg base CX0 1 "_law_root_of" s_l_root_of_fba3 ["_law_number"] c_l_root_of_fba3) (D_l_common_ec6e : Def P w K mg base CX0 1 "_law_common" s_l_common_ec6e ["_law_one", "_law_other"] c_l_common_ec6e) (hread : ∀ ds M Q, ds.length = 4 → sp ds M Q DX0 → t_l_made_ecf7 c_l_root_of_fba3 c_l_common_ec6e (dEnds M Q) (startD 6 ds) M) (hX : ∀ ds M Q E, sp ds M Q E → sp ds M Q DX0 := by exact fun _ _ _ _ h => h) : Def P w K mg base CX0 2 "_law_made" s_l_made_ecf7 ["_law_measure_here", "_law_x", "_law_y", "_law_below"] sp :=
 T.h_l_made_ecf7.ok (t := t_l_made_ecf7 c_l_root_of_fba3 c_l_common_ec6e) sc_l_made_ecf7 (fun f cdv A outer s H E hr gd => (dss_cons (ds_set (i := 4) sc_l_made_ecf7.nd (dcall D_l_root_of_fba3 hr gd (da_cons (dv 0) da_nil)))
 (dss_cons (ds_if (dt_cmp (opd_eq (u64 hr)) (de_op opd_mulI (dv 4) (dv 4)) (dv 0) (nomark _)) (dss_one (ds_par (i := 1) (j := 2) rfl sc_l_made_ecf7.nd (da_cons (de_op opd_add (dv 1) (de_op opd_mulI (dv 2) (dv 4))) (da_cons de_int da_nil)))) dss_nil)
 (dss_cons (ds_set (i := 5) sc_l_made_ecf7.nd (dcall D_l_common_ec6e hr gd (da_cons (dcall D_l_common_ec6e hr gd (da_cons (dv 1) (da_cons (dv 2) da_nil))) (da_cons (dv 3) da_nil))))
 (dss_cons (ds_if (dt_cmp opd_lt (dv 3) de_int (nomark _)) (dss_one (ds_set (i := 5) sc_l_made_ecf7.nd (de_op opd_sub de_int (dv 5)))) dss_nil)
 (dss_one (ds_ret (de_tup (da_cons (de_op opd_fdiv (dv 1) (dv 5)) (da_cons (de_op opd_fdiv (dv 2) (dv 5)) (da_cons (de_op opd_fdiv (dv 3) (dv 5)) da_nil))))))))))) hread hX
theorem ok_l_side_of_cf54 {c_l_made_ecf7 c_l_measure_d993 : DSp} {sp : DSp} (T : Txt K mg base) (D_l_made_ecf7 : Def P w K mg base CX0 2 "_law_made" s_l_made_ecf7 ["_law_measure_here", "_law_x", "_law_y", "_law_below"] c_l_made_ecf7) (D_l_measure_d993 : Def P w K mg base CX0 1 "_law_measure" s_l_measure_d993 ["_law_cutting_here"] c_l_measure_d993) (hread : ∀ ds M Q, ds.length = 1 → sp ds M Q DX0 → t_l_side_of_cf54 c_l_made_ecf7 c_l_measure_d993 (dEnds M Q) (startD 1 ds) M) (hX : ∀ ds M Q E, sp ds M Q E → sp ds M Q DX0 := by exact fun _ _ _ _ h => h) : Def P w K mg base CX0 3 "_law_side_of" s_l_side_of_cf54 ["_law_cutting_here"] sp :=
 T.h_l_side_of_cf54.ok (t := t_l_side_of_cf54 c_l_made_ecf7 c_l_measure_d993) sc_l_side_of_cf54 (fun f cdv A outer s H E hr gd => (dss_one (ds_ret (dcall D_l_made_ecf7 hr gd (da_cons (dcall D_l_measure_d993 hr gd (da_cons (dv 0) da_nil)) (da_cons (de_ix (dv 0) de_int) (da_cons de_int (da_cons de_int da_nil)))))))) hread hX
theorem ok_l_plus_46d9 {c_l_made_ecf7 : DSp} {sp : DSp} (T : Txt K mg base) (D_l_made_ecf7 : Def P w K mg base CX0 2 "_law_made" s_l_made_ecf7 ["_law_measure_here", "_law_x", "_law_y", "_law_below"] c_l_made_ecf7) (hread : ∀ ds M Q, ds.length = 4 → sp ds M Q DX0 → t_l_plus_46d9 c_l_made_ecf7 (dEnds M Q) (startD 5 ds) M) (hX : ∀ ds M Q E, sp ds M Q E → sp ds M Q DX0 := by exact fun _ _ _ _ h => h) : Def P w K mg base CX0 3 "_law_plus" s_l_plus_46d9 ["_law_measure_here", "_law_one", "_law_other", "_law_times_here"] sp :=
 T.h_l_plus_46d9.ok (t := t_l_plus_46d9 c_l_made_ecf7) sc_l_plus_46d9 (fun f cdv A outer s H E hr gd => (dss_cons (ds_set (i := 4) sc_l_plus_46d9.nd (de_op opd_add (de_op opd_mulI (de_ix (dv 1) de_int) (de_ix (dv 2) de_int)) (de_op opd_mulI (de_op opd_mulI (dv 3) (de_ix (dv 2) de_int)) (de_ix (dv 1) de_int))))
 (dss_one (ds_ret (dcall D_l_made_ecf7 hr gd (da_cons (dv 0) (da_cons (dv 4) (da_cons (de_op opd_add (de_op opd_mulI (de_ix (dv 1) de_int) (de_ix (dv 2) de_int)) (de_op opd_mulI (de_op opd_mulI (dv 3) (de_ix (dv 2) de_int)) (de_ix (dv 1) de_int))) (da_cons (de_op opd_mulI (de_ix (dv 1) de_int) (de_ix (dv 2) de_int)) da_nil))))))))) hread hX
theorem ok_l_corners_5cb1 {c_l_side_of_cf54 c_l_measure_d993 c_l_whole_43a8 c_l_plus_46d9 : DSp} {sp : DSp} (T : Txt K mg base) (D_l_side_of_cf54 : Def P w K mg base CX0 3 "_law_side_of" s_l_side_of_cf54 ["_law_cutting_here"] c_l_side_of_cf54) (D_l_measure_d993 : Def P w K mg base CX0 1 "_law_measure" s_l_measure_d993 ["_law_cutting_here"] c_l_measure_d993) (D_l_whole_43a8 : Def P w K mg base CX0 1 "_law_whole" s_l_whole_43a8 ["_law_number"] c_l_whole_43a8) (D_l_plus_46d9 : Def P w K mg base CX0 3 "_law_plus" s_l_plus_46d9 ["_law_measure_here", "_law_one", "_law_other", "_law_times_here"] c_l_plus_46d9) (hread : ∀ ds M Q, ds.length = 1 → sp ds M Q DX0 → t_l_corners_5cb1 c_l_side_of_cf54 c_l_measure_d993 c_l_whole_43a8 c_l_plus_46d9 (dEnds M Q) (startD 11 ds) M) (hX : ∀ ds M Q E, sp ds M Q E → sp ds M Q DX0 := by exact fun _ _ _ _ h => h) : Def P w K mg base CX0 4 "_law_corners" s_l_corners_5cb1 ["_law_cutting_here"] sp :=
 T.h_l_corners_5cb1.ok (t := t_l_corners_5cb1 c_l_side_of_cf54 c_l_measure_d993 c_l_whole_43a8 c_l_plus_46d9) sc_l_corners_5cb1 (fun f cdv A outer s H E hr gd => (dss_cons (ds_asg (dv 0) (dg_tup rfl (dgs_cons (dg_name (i := 1) sc_l_corners_5cb1.nd) (dgs_cons (dg_name (i := 2) sc_l_corners_5cb1.nd) (dgs_cons (dg_name (i := 3) sc_l_corners_5cb1.nd) (dgs_cons (dg_name (i := 4) sc_l_corners_5cb1.nd) dgs_nil))))))
 (dss_cons (ds_set (i := 5) sc_l_corners_5cb1.nd (dcall D_l_side_of_cf54 hr gd (da_cons (dv 0) da_nil)))
 (dss_cons (ds_par (i := 6) (j := 7) rfl sc_l_corners_5cb1.nd (da_cons (dcall D_l_measure_d993 hr gd (da_cons (dv 0) da_nil)) (da_cons (dcall D_l_whole_43a8 hr gd (da_cons de_int da_nil)) da_nil)))
 (dss_cons (ds_par (i := 8) (j := 9) rfl sc_l_corners_5cb1.nd (da_cons (dcall D_l_plus_46d9 hr gd (da_cons (dv 6) (da_cons (dcall D_l_whole_43a8 hr gd (da_cons (dv 1) da_nil)) (da_cons (dv 5) (da_cons de_int da_nil))))) (da_cons (dcall D_l_plus_46d9 hr gd (da_cons (dv 6) (da_cons (dcall D_l_whole_43a8 hr gd (da_cons (dv 3) da_nil)) (da_cons (dv 5) (da_cons de_int da_nil))))) da_nil)))
 (dss_cons (ds_set (i := 10) sc_l_corners_5cb1.nd (de_lst (da_cons (de_tup (da_cons (dv 7) (da_cons (dv 7) da_nil))) (da_cons (de_tup (da_cons (dv 5) (da_cons (dv 7) da_nil))) (da_cons (de_tup (da_cons (dcall D_l_whole_43a8 hr gd (da_cons (dv 2) da_nil)) (da_cons (dv 7) da_nil))) (da_cons (de_tup (da_cons (dcall D_l_whole_43a8 hr gd (da_cons (de_op opd_add (dv 1) (dv 2)) da_nil)) (da_cons (dcall D_l_whole_43a8 hr gd (da_cons (dv 3) da_nil)) da_nil))) da_nil))))))
 (dss_one (ds_ret (de_op opd_add (dv 10) (de_lst (da_cons (de_tup (da_cons (dv 8) (da_cons (dcall D_l_whole_43a8 hr gd (da_cons (dv 3) da_nil)) da_nil))) (da_cons (de_tup (da_cons (dv 8) (da_cons (dv 9) da_nil))) (da_cons (de_tup (da_cons (dcall D_l_whole_43a8 hr gd (da_cons (dv 1) da_nil)) (da_cons (dv 9) da_nil))) (da_cons (de_tup (da_cons (dcall D_l_whole_43a8 hr gd (da_cons (dv 1) da_nil)) (da_cons (dcall D_l_whole_43a8 hr gd (da_cons (dv 3) da_nil)) da_nil))) da_nil)))))))))))))) hread hX
theorem ok_l_share_4ae7 {c_l_made_ecf7 c_l_random_7821 : DSp} {sp : DSp} (T : Txt K mg base) (D_l_made_ecf7 : Def P w K mg base CX0 2 "_law_made" s_l_made_ecf7 ["_law_measure_here", "_law_x", "_law_y", "_law_below"] c_l_made_ecf7) (D_l_random_7821 : Def P w K mg base CX0 2 "_law_random" s_l_random_7821 ["_law_generator_here", "_law_bound"] c_l_random_7821) (hread : ∀ ds M Q, ds.length = 2 → sp ds M Q DX0 → t_l_share_4ae7 c_l_made_ecf7 c_l_random_7821 (dEnds M Q) (startD 2 ds) M) (hX : ∀ ds M Q E, sp ds M Q E → sp ds M Q DX0 := by exact fun _ _ _ _ h => h) : Def P w K mg base CX0 3 "_law_share" s_l_share_4ae7 ["_law_generator_here", "_law_below"] sp :=
 T.h_l_share_4ae7.ok (t := t_l_share_4ae7 c_l_made_ecf7 c_l_random_7821) sc_l_share_4ae7 (fun f cdv A outer s H E hr gd => (dss_one (ds_ret (dcall D_l_made_ecf7 hr gd (da_cons de_int (da_cons (de_op opd_add de_int (dcall D_l_random_7821 hr gd (da_cons (dv 0) (da_cons (de_op opd_sub (dv 1) de_int) da_nil)))) (da_cons de_int (da_cons (dv 1) da_nil)))))))) hread hX
theorem ok_l_added_a47b {c_l_plus_46d9 : DSp} {sp : DSp} (T : Txt K mg base) (D_l_plus_46d9 : Def P w K mg base CX0 3 "_law_plus" s_l_plus_46d9 ["_law_measure_here", "_law_one", "_law_other", "_law_times_here"] c_l_plus_46d9) (hread : ∀ ds M Q, ds.length = 4 → sp ds M Q DX0 → t_l_added_a47b c_l_plus_46d9 (dEnds M Q) (startD 6 ds) M) (hX : ∀ ds M Q E, sp ds M Q E → sp ds M Q DX0 := by exact fun _ _ _ _ h => h) : Def P w K mg base CX0 4 "_law_added" s_l_added_a47b ["_law_measure_here", "_law_one", "_law_other", "_law_times_here"] sp :=
 T.h_l_added_a47b.ok (t := t_l_added_a47b c_l_plus_46d9) sc_l_added_a47b (fun f cdv A outer s H E hr gd => (dss_one (ds_ret (de_ty cd_tuple T.n_tuple (da_cons (de_lc false (own := [("_law_low", 4), ("_law_high", 5)]) rfl sc_l_added_a47b.nd (blkOk_by (N := ["_law_measure_here", "_law_one", "_law_other", "_law_times_here", "_law_low", "_law_high"]) (own := [("_law_low", 4), ("_law_high", 5)]) (sc := (defScope s_l_added_a47b)) (by decide +kernel)) (di_zipT T.n_zip (da_cons (dv 1) (da_cons (dv 2) da_nil))) (fun _ _ _ _ _ => (dcg_tup rfl (dcgs_cons (dcg_name (i := 4) sc_l_added_a47b.nd) (dcgs_cons (dcg_name (i := 5) sc_l_added_a47b.nd) dcgs_nil)))) (fun _ _ _ _ _ => dts_nil) (fun _ _ _ _ _ => (dcall D_l_plus_46d9 hr gd (da_cons (dv 0) (da_cons (dv 4) (da_cons (dv 5) (da_cons (dv 3) da_nil))))))) da_nil))))) hread hX
theorem ok_l_times_3146 {c_l_made_ecf7 : DSp} {sp : DSp} (T : Txt K mg base) (D_l_made_ecf7 : Def P w K mg base CX0 2 "_law_made" s_l_made_ecf7 ["_law_measure_here", "_law_x", "_law_y", "_law_below"] c_l_made_ecf7) (hread : ∀ ds M Q, ds.length = 3 → sp ds M Q DX0 → t_l_times_3146 c_l_made_ecf7 (dEnds M Q) (startD 4 ds) M) (hX : ∀ ds M Q E, sp ds M Q E → sp ds M Q DX0 := by exact fun _ _ _ _ h => h) : Def P w K mg base CX0 3 "_law_times" s_l_times_3146 ["_law_measure_here", "_law_one", "_law_other"] sp :=
 T.h_l_times_3146.ok (t := t_l_times_3146 c_l_made_ecf7) sc_l_times_3146 (fun f cdv A outer s H E hr gd => (dss_cons (ds_set (i := 3) sc_l_times_3146.nd (de_op opd_add (de_op opd_mulI (de_ix (dv 1) de_int) (de_ix (dv 2) de_int)) (de_op opd_mulI (de_op opd_mulI (dv 0) (de_ix (dv 1) de_int)) (de_ix (dv 2) de_int))))
 (dss_one (ds_ret (dcall D_l_made_ecf7 hr gd (da_cons (dv 0) (da_cons (dv 3) (da_cons (de_op opd_add (de_op opd_mulI (de_ix (dv 1) de_int) (de_ix (dv 2) de_int)) (de_op opd_mulI (de_ix (dv 1) de_int) (de_ix (dv 2) de_int))) (da_cons (de_op opd_mulI (de_ix (dv 1) de_int) (de_ix (dv 2) de_int)) da_nil))))))))) hread hX
theorem ok_l_scaled_08a4 {c_l_times_3146 : DSp} {sp : DSp} (T : Txt K mg base) (D_l_times_3146 : Def P w K mg base CX0 3 "_law_times" s_l_times_3146 ["_law_measure_here", "_law_one", "_law_other"] c_l_times_3146) (hread : ∀ ds M Q, ds.length = 3 → sp ds M Q DX0 → t_l_scaled_08a4 c_l_times_3146 (dEnds M Q) (startD 4 ds) M) (hX : ∀ ds M Q E, sp ds M Q E → sp ds M Q DX0 := by exact fun _ _ _ _ h => h) : Def P w K mg base CX0 4 "_law_scaled" s_l_scaled_08a4 ["_law_measure_here", "_law_number", "_law_vector"] sp :=
 T.h_l_scaled_08a4.ok (t := t_l_scaled_08a4 c_l_times_3146) sc_l_scaled_08a4 (fun f cdv A outer s H E hr gd => (dss_one (ds_ret (de_ty cd_tuple T.n_tuple (da_cons (de_lc false (own := [("_law_item", 3)]) rfl sc_l_scaled_08a4.nd (blkOk_by (N := ["_law_measure_here", "_law_number", "_law_vector", "_law_item"]) (own := [("_law_item", 3)]) (sc := (defScope s_l_scaled_08a4)) (by decide +kernel)) (di_seq (dv 2)) (fun _ _ _ _ _ => (dcg_name (i := 3) sc_l_scaled_08a4.nd)) (fun _ _ _ _ _ => dts_nil) (fun _ _ _ _ _ => (dcall D_l_times_3146 hr gd (da_cons (dv 0) (da_cons (dv 1) (da_cons (dv 3) da_nil)))))) da_nil))))) hread hX
theorem ok_l_glued_bd92 {sp : DSp} (T : Txt K mg base) (hread : ∀ ds M Q, ds.length = 1 → sp ds M Q DX0 → t_l_glued_bd92 (dEnds M Q) (startD 1 ds) M) (hX : ∀ ds M Q E, sp ds M Q E → sp ds M Q DX0 := by exact fun _ _ _ _ h => h) : Def P w K mg base CX0 1 "_law_glued" s_l_glued_bd92 ["_law_at"] sp :=
 T.h_l_glued_bd92.ok (t := t_l_glued_bd92) sc_l_glued_bd92 (fun f cdv A outer s H E hr gd => (dss_one (ds_ret (de_ix (de_lst (da_cons de_int (da_cons de_int (da_cons de_int (da_cons de_int (da_cons de_int (da_cons de_int (da_cons de_int (da_cons de_int da_nil))))))))) (dv 0))))) hread hX
theorem ok_is_whole {sp : DSp} (T : Txt K mg base) (hread : ∀ ds M Q, ds.length = 1 → sp ds M Q DX0 → t_is_whole (dEnds M Q) (startD 1 ds) M) (hX : ∀ ds M Q E, sp ds M Q E → sp ds M Q DX0 := by exact fun _ _ _ _ h => h) : Def P w K mg base CX0 1 "is_whole" s_is_whole ["value"] sp :=
 T.h_is_whole.ok (t := t_is_whole) sc_is_whole (fun f cdv A outer s H E hr gd => (dss_one (ds_ret (de_and (de_blt cd_isi T.n_isinstance (da_cons (dv 0) (da_cons (de_bltn (v := .ty "int") T.n_int rfl) da_nil))) (de_one (de_not (de_blt cd_isi T.n_isinstance (da_cons (dv 0) (da_cons (de_bltn (v := .ty "bool") T.n_bool rfl) da_nil))))))))) hread hX
theorem ok_common_by {sp : DSp} (T : Txt K mg base) (hread : ∀ ds M Q, ds.length = 2 → sp ds M Q DX0 → t_common_by (dEnds M Q) (startD 4 ds) M) (hX : ∀ ds M Q E, sp ds M Q E → sp ds M Q DX0 := by exact fun _ _ _ _ h => h) : Def P w K mg base CX0 1 "common_by" s_common_by ["one", "other"] sp :=
 T.h_common_by.ok (t := t_common_by) sc_common_by (fun f cdv A outer s H E hr gd => (dss_cons (ds_par (i := 2) (j := 3) rfl sc_common_by.nd (da_cons (de_blt cd_abs T.n_abs (da_cons (dv 0) da_nil)) (da_cons (de_blt cd_abs T.n_abs (da_cons (dv 1) da_nil)) da_nil)))
 (dss_cons (ds_while (dt_cmp (opd_ne (u64 hr)) (dv 3) de_int (nomark _)) (dss_one (ds_par (i := 2) (j := 3) rfl sc_common_by.nd (da_cons (dv 3) (da_cons (de_op opd_mod (dv 2) (dv 3)) da_nil)))))
 (dss_one (ds_ret (dv 2)))))) hread hX
theorem ok_is_cutting_by {c_is_whole c_common_by : DSp} {sp : DSp} (T : Txt K mg base) (D_is_whole : Def P w K mg base CX0 1 "is_whole" s_is_whole ["value"] c_is_whole) (D_common_by : Def P w K mg base CX0 1 "common_by" s_common_by ["one", "other"] c_common_by) (hread : ∀ ds M Q, ds.length = 1 → sp ds M Q DX0 → t_is_cutting_by c_is_whole c_common_by (dEnds M Q) (startD 7 ds) M) (hX : ∀ ds M Q E, sp ds M Q E → sp ds M Q DX0 := by exact fun _ _ _ _ h => h) : Def P w K mg base CX0 2 "is_cutting_by" s_is_cutting_by ["value"] sp :=
 T.h_is_cutting_by.ok (t := t_is_cutting_by c_is_whole c_common_by) sc_is_cutting_by (fun f cdv A outer s H E hr gd => (dss_cons (ds_if (DW.dt (dw_or (dt_not (dt_tru (de_blt cd_isi T.n_isinstance (da_cons (dv 0) (da_cons (de_bltn (v := .ty "tuple") T.n_tuple rfl) da_nil))))) (dw_or (dt_cmp (opd_ne (u64 hr)) (de_blt cd_len T.n_len (da_cons (dv 0) da_nil)) de_int (nomark _)) (dw_or1 (dt_cmp (opd_ne (u64 hr)) (de_lc false (own := [("item", 1)]) rfl sc_is_cutting_by.nd (blkOk_by (N := ["value", "item", "low", "high", "side", "turn", "both"]) (own := [("item", 1)]) (sc := (defScope s_is_cutting_by)) (by decide +kernel)) (di_seq (dv 0)) (fun _ _ _ _ _ => (dcg_name (i := 1) sc_is_cutting_by.nd)) (fun _ _ _ _ _ => (dts_one (dt_not (dt_tru (dcall D_is_whole hr gd (da_cons (dv 1) da_nil)))))) (fun _ _ _ _ _ => (dv 1))) (de_lst da_nil) (nomark _)))))) (dss_one (ds_ret de_bl)) dss_nil)
 (dss_cons (ds_asg (dv 0) (dg_tup rfl (dgs_cons (dg_name (i := 2) sc_is_cutting_by.nd) (dgs_cons (dg_name (i := 3) sc_is_cutting_by.nd) (dgs_cons (dg_name (i := 4) sc_is_cutting_by.nd) (dgs_cons (dg_name (i := 5) sc_is_cutting_by.nd) dgs_nil))))))
 (dss_cons (ds_if (DW.dt (dw_or (dt_cmp opd_lt (dv 3) de_int (nomark _)) (dw_or (dt_cmp opd_lt (dv 4) de_int (nomark _)) (dw_or1 (dt_not (dt_cmp opd_lt (de_op opd_add (dv 4) (dv 5)) (dv 3) (nomark _))))))) (dss_one (ds_ret de_bl)) dss_nil)
 (dss_cons (ds_set (i := 6) sc_is_cutting_by.nd (dcall D_common_by hr gd (da_cons (dv 3) (da_cons (dv 4) da_nil))))
 (dss_one (ds_ret (de_and (de_chain opd_le opd_lt de_int (dv 2) (dv 6)) (de_one (de_cmp (opd_eq (u64 hr)) (dcall D_common_by hr gd (da_cons (dcall D_common_by hr gd (da_cons (dv 2) (da_cons (dv 6) da_nil))) (da_cons (dv 5) da_nil))) de_int (nomark _))))))))))) hread hX
theorem ok_check_cutting {c_is_cutting_by : DSp} {sp : DSp} (T : Txt K mg base) (D_is_cutting_by : Def P w K mg base CX0 2 "is_cutting_by" s_is_cutting_by ["value"] c_is_cutting_by) (hread : ∀ ds M Q, ds.length = 1 → sp ds M Q DX0 → t_check_cutting c_is_cutting_by (dEnds M Q) (startD 1 ds) M) (hX : ∀ ds M Q E, sp ds M Q E → sp ds M Q DX0 := by exact fun _ _ _ _ h => h) : Def P w K mg base CX0 3 "check_cutting" s_check_cutting ["cutting"] sp :=
 T.h_check_cutting.ok (t := t_check_cutting c_is_cutting_by) sc_check_cutting (fun f cdv A outer s H E hr gd => (dss_one (ds_if (dt_not (dt_tru (dcall D_is_cutting_by hr gd (da_cons (dv 0) da_nil)))) (dss_one ds_never) dss_nil))) hread hX
theorem ok_measure_by {sp : DSp} (T : Txt K mg base) (hread : ∀ ds M Q, ds.length = 1 → sp ds M Q DX0 → t_measure_by (dEnds M Q) (startD 1 ds) M) (hX : ∀ ds M Q E, sp ds M Q E → sp ds M Q DX0 := by exact fun _ _ _ _ h => h) : Def P w K mg base CX0 1 "measure_by" s_measure_by ["cutting"] sp :=
 T.h_measure_by.ok (t := t_measure_by) sc_measure_by (fun f cdv A outer s H E hr gd => (dss_one (ds_ret (de_op opd_add (de_op opd_mulI (de_ix (dv 0) de_int) (de_ix (dv 0) de_int)) (de_op opd_mulI (de_op opd_mulI de_int (de_ix (dv 0) de_int)) (de_ix (dv 0) de_int)))))) hread hX
theorem ok_root_floor_by {sp : DSp} (T : Txt K mg base) (hread : ∀ ds M Q, ds.length = 1 → sp ds M Q DX0 → t_root_floor_by (dEnds M Q) (startD 3 ds) M) (hX : ∀ ds M Q E, sp ds M Q E → sp ds M Q DX0 := by exact fun _ _ _ _ h => h) : Def P w K mg base CX0 1 "root_floor_by" s_root_floor_by ["number"] sp :=
 T.h_root_floor_by.ok (t := t_root_floor_by) sc_root_floor_by (fun f cdv A outer s H E hr gd => (dss_cons (ds_if (dt_cmp opd_lt (dv 0) de_int (nomark _)) (dss_one (ds_ret (dv 0))) dss_nil)
 (dss_cons (ds_set (i := 1) sc_root_floor_by.nd de_int)
 (dss_cons (ds_while (dt_cmp opd_le (de_op opd_mulI (dv 1) (dv 1)) (dv 0) (nomark _)) (dss_one (ds_set (i := 1) sc_root_floor_by.nd (de_op opd_mulI de_int (dv 1)))))
 (dss_cons (ds_set (i := 2) sc_root_floor_by.nd (de_op opd_fdiv (de_op opd_add (dv 1) (de_op opd_fdiv (dv 0) (dv 1))) de_int))
 (dss_cons (ds_while (dt_cmp opd_lt (dv 2) (dv 1) (nomark _)) (dss_one (ds_par (i := 1) (j := 2) rfl sc_root_floor_by.nd (da_cons (dv 2) (da_cons (de_op opd_fdiv (de_op opd_add (dv 2) (de_op opd_fdiv (dv 0) (dv 2))) de_int) da_nil)))))
 (dss_one (ds_ret (dv 1))))))))) hread hX
theorem ok_is_root_by {c_is_whole c_common_by c_root_floor_by : DSp} {sp : DSp} (T : Txt K mg base) (D_is_whole : Def P w K mg base CX0 1 "is_whole" s_is_whole ["value"] c_is_whole) (D_common_by : Def P w K mg base CX0 1 "common_by" s_common_by ["one", "other"] c_common_by) (D_root_floor_by : Def P w K mg base CX0 1 "root_floor_by" s_root_floor_by ["number"] c_root_floor_by) (hread : ∀ ds M Q, ds.length = 2 → sp ds M Q DX0 → t_is_root_by c_is_whole c_common_by c_root_floor_by (dEnds M Q) (startD 7 ds) M) (hX : ∀ ds M Q E, sp ds M Q E → sp ds M Q DX0 := by exact fun _ _ _ _ h => h) : Def P w K mg base CX0 2 "is_root_by" s_is_root_by ["measure", "value"] sp :=
 T.h_is_root_by.ok (t := t_is_root_by c_is_whole c_common_by c_root_floor_by) sc_is_root_by (fun f cdv A outer s H E hr gd => (dss_cons (ds_if (DW.dt (dw_or (dt_not (dt_tru (de_blt cd_isi T.n_isinstance (da_cons (dv 1) (da_cons (de_bltn (v := .ty "tuple") T.n_tuple rfl) da_nil))))) (dw_or (dt_cmp (opd_ne (u64 hr)) (de_blt cd_len T.n_len (da_cons (dv 1) da_nil)) de_int (nomark _)) (dw_or1 (dt_cmp (opd_ne (u64 hr)) (de_lc false (own := [("item", 2)]) rfl sc_is_root_by.nd (blkOk_by (N := ["measure", "value", "item", "x", "y", "below", "root"]) (own := [("item", 2)]) (sc := (defScope s_is_root_by)) (by decide +kernel)) (di_seq (dv 1)) (fun _ _ _ _ _ => (dcg_name (i := 2) sc_is_root_by.nd)) (fun _ _ _ _ _ => (dts_one (dt_not (dt_tru (dcall D_is_whole hr gd (da_cons (dv 2) da_nil)))))) (fun _ _ _ _ _ => (dv 2))) (de_lst da_nil) (nomark _)))))) (dss_one (ds_ret de_bl)) dss_nil)
 (dss_cons (ds_asg (dv 1) (dg_tup rfl (dgs_cons (dg_name (i := 3) sc_is_root_by.nd) (dgs_cons (dg_name (i := 4) sc_is_root_by.nd) (dgs_cons (dg_name (i := 5) sc_is_root_by.nd) dgs_nil)))))
 (dss_cons (ds_if (DW.dt (dw_or (dt_cmp opd_lt (dv 5) de_int (nomark _)) (dw_or1 (dt_cmp (opd_ne (u64 hr)) (dcall D_common_by hr gd (da_cons (dcall D_common_by hr gd (da_cons (dv 3) (da_cons (dv 4) da_nil))) (da_cons (dv 5) da_nil))) de_int (nomark _))))) (dss_one (ds_ret de_bl)) dss_nil)
 (dss_cons (ds_set (i := 6) sc_is_root_by.nd (dcall D_root_floor_by hr gd (da_cons (dv 0) da_nil)))
 (dss_one (ds_ret (de_or (de_cmp (opd_eq (u64 hr)) (dv 4) de_int (nomark _)) (de_one (de_cmp (opd_ne (u64 hr)) (de_op opd_mulI (dv 6) (dv 6)) (dv 0) (nomark _))))))))))) hread hX
theorem ok_is_pair {c_measure_by c_is_root_by : DSp} {sp : DSp} (T : Txt K mg base) (D_measure_by : Def P w K mg base CX0 1 "measure_by" s_measure_by ["cutting"] c_measure_by) (D_is_root_by : Def P w K mg base CX0 2 "is_root_by" s_is_root_by ["measure", "value"] c_is_root_by) (hread : ∀ ds M Q, ds.length = 2 → sp ds M Q DX0 → t_is_pair c_measure_by c_is_root_by (dEnds M Q) (startD 3 ds) M) (hX : ∀ ds M Q E, sp ds M Q E → sp ds M Q DX0 := by exact fun _ _ _ _ h => h) : Def P w K mg base CX0 3 "is_pair" s_is_pair ["cutting", "value"] sp :=
 T.h_is_pair.ok (t := t_is_pair c_measure_by c_is_root_by) sc_is_pair (fun f cdv A outer s H E hr gd => (dss_cons (ds_set (i := 2) sc_is_pair.nd (dcall D_measure_by hr gd (da_cons (dv 0) da_nil)))
 (dss_cons (ds_if (DW.dt (dw_or (dt_not (dt_tru (de_blt cd_isi T.n_isinstance (da_cons (dv 1) (da_cons (de_bltn (v := .ty "tuple") T.n_tuple rfl) da_nil))))) (dw_or1 (dt_cmp (opd_ne (u64 hr)) (de_blt cd_len T.n_len (da_cons (dv 1) da_nil)) de_int (nomark _))))) (dss_one (ds_ret de_bl)) dss_nil)
 (dss_one (ds_ret (de_and (dcall D_is_root_by hr gd (da_cons (dv 2) (da_cons (de_ix (dv 1) de_int) da_nil))) (de_one (dcall D_is_root_by hr gd (da_cons (dv 2) (da_cons (de_ix (dv 1) de_int) da_nil)))))))))) hread hX
theorem ok_root_by {c_root_floor_by c_common_by : DSp} {sp : DSp} (T : Txt K mg base) (D_root_floor_by : Def P w K mg base CX0 1 "root_floor_by" s_root_floor_by ["number"] c_root_floor_by) (D_common_by : Def P w K mg base CX0 1 "common_by" s_common_by ["one", "other"] c_common_by) (hread : ∀ ds M Q, ds.length = 4 → sp ds M Q DX0 → t_root_by c_root_floor_by c_common_by (dEnds M Q) (startD 6 ds) M) (hX : ∀ ds M Q E, sp ds M Q E → sp ds M Q DX0 := by exact fun _ _ _ _ h => h) : Def P w K mg base CX0 2 "root_by" s_root_by ["measure", "x", "y", "below"] sp :=
 T.h_root_by.ok (t := t_root_by c_root_floor_by c_common_by) sc_root_by (fun f cdv A outer s H E hr gd => (dss_cons (ds_set (i := 4) sc_root_by.nd (dcall D_root_floor_by hr gd (da_cons (dv 0) da_nil)))
 (dss_cons (ds_if (dt_cmp (opd_eq (u64 hr)) (de_op opd_mulI (dv 4) (dv 4)) (dv 0) (nomark _)) (dss_one (ds_par (i := 1) (j := 2) rfl sc_root_by.nd (da_cons (de_op opd_add (dv 1) (de_op opd_mulI (dv 2) (dv 4))) (da_cons de_int da_nil)))) dss_nil)
 (dss_cons (ds_set (i := 5) sc_root_by.nd (dcall D_common_by hr gd (da_cons (dcall D_common_by hr gd (da_cons (dv 1) (da_cons (dv 2) da_nil))) (da_cons (dv 3) da_nil))))
 (dss_cons (ds_if (dt_cmp opd_lt (dv 3) de_int (nomark _)) (dss_one (ds_set (i := 5) sc_root_by.nd (de_op opd_sub de_int (dv 5)))) dss_nil)
 (dss_one (ds_ret (de_tup (da_cons (de_op opd_fdiv (dv 1) (dv 5)) (da_cons (de_op opd_fdiv (dv 2) (dv 5)) (da_cons (de_op opd_fdiv (dv 3) (dv 5)) da_nil))))))))))) hread hX
theorem ok_slit_by {c_root_by c_measure_by : DSp} {sp : DSp} (T : Txt K mg base) (D_root_by : Def P w K mg base CX0 2 "root_by" s_root_by ["measure", "x", "y", "below"] c_root_by) (D_measure_by : Def P w K mg base CX0 1 "measure_by" s_measure_by ["cutting"] c_measure_by) (hread : ∀ ds M Q, ds.length = 1 → sp ds M Q DX0 → t_slit_by c_root_by c_measure_by (dEnds M Q) (startD 1 ds) M) (hX : ∀ ds M Q E, sp ds M Q E → sp ds M Q DX0 := by exact fun _ _ _ _ h => h) : Def P w K mg base CX0 3 "slit_by" s_slit_by ["cutting"] sp :=
 T.h_slit_by.ok (t := t_slit_by c_root_by c_measure_by) sc_slit_by (fun f cdv A outer s H E hr gd => (dss_one (ds_ret (dcall D_root_by hr gd (da_cons (dcall D_measure_by hr gd (da_cons (dv 0) da_nil)) (da_cons (de_ix (dv 0) de_int) (da_cons de_int (da_cons de_int da_nil)))))))) hread hX
theorem ok_plus_by {c_root_by : DSp} {sp : DSp} (T : Txt K mg base) (D_root_by : Def P w K mg base CX0 2 "root_by" s_root_by ["measure", "x", "y", "below"] c_root_by) (hread : ∀ ds M Q, ds.length = 3 → sp ds M Q DX0 → t_plus_by c_root_by (dEnds M Q) (startD 4 ds) M) (hX : ∀ ds M Q E, sp ds M Q E → sp ds M Q DX0 := by exact fun _ _ _ _ h => h) : Def P w K mg base CX0 3 "plus_by" s_plus_by ["measure", "one", "other"] sp :=
 T.h_plus_by.ok (t := t_plus_by c_root_by) sc_plus_by (fun f cdv A outer s H E hr gd => (dss_cons (ds_set (i := 3) sc_plus_by.nd (de_op opd_add (de_op opd_mulI (de_ix (dv 1) de_int) (de_ix (dv 2) de_int)) (de_op opd_mulI (de_ix (dv 2) de_int) (de_ix (dv 1) de_int))))
 (dss_one (ds_ret (dcall D_root_by hr gd (da_cons (dv 0) (da_cons (dv 3) (da_cons (de_op opd_add (de_op opd_mulI (de_ix (dv 1) de_int) (de_ix (dv 2) de_int)) (de_op opd_mulI (de_ix (dv 2) de_int) (de_ix (dv 1) de_int))) (da_cons (de_op opd_mulI (de_ix (dv 1) de_int) (de_ix (dv 2) de_int)) da_nil))))))))) hread hX
theorem ok_minus_by {c_plus_by : DSp} {sp : DSp} (T : Txt K mg base) (D_plus_by : Def P w K mg base CX0 3 "plus_by" s_plus_by ["measure", "one", "other"] c_plus_by) (hread : ∀ ds M Q, ds.length = 3 → sp ds M Q DX0 → t_minus_by c_plus_by (dEnds M Q) (startD 3 ds) M) (hX : ∀ ds M Q E, sp ds M Q E → sp ds M Q DX0 := by exact fun _ _ _ _ h => h) : Def P w K mg base CX0 4 "minus_by" s_minus_by ["measure", "one", "other"] sp :=
 T.h_minus_by.ok (t := t_minus_by c_plus_by) sc_minus_by (fun f cdv A outer s H E hr gd => (dss_one (ds_ret (dcall D_plus_by hr gd (da_cons (dv 0) (da_cons (dv 1) (da_cons (de_tup (da_cons (de_op opd_sub de_int (de_ix (dv 2) de_int)) (da_cons (de_op opd_sub de_int (de_ix (dv 2) de_int)) (da_cons (de_ix (dv 2) de_int) da_nil)))) da_nil))))))) hread hX
theorem ok_side_by {sp : DSp} (T : Txt K mg base) (hread : ∀ ds M Q, ds.length = 2 → sp ds M Q DX0 → t_side_by (dEnds M Q) (startD 5 ds) M) (hX : ∀ ds M Q E, sp ds M Q E → sp ds M Q DX0 := by exact fun _ _ _ _ h => h) : Def P w K mg base CX0 1 "side_by" s_side_by ["measure", "root"] sp :=
 T.h_side_by.ok (t := t_side_by) sc_side_by (fun f cdv A outer s H E hr gd => (dss_cons (ds_par (i := 2) (j := 3) rfl sc_side_by.nd (da_cons (de_ix (dv 1) de_int) (da_cons (de_ix (dv 1) de_int) da_nil)))
 (dss_cons (ds_if (DW.dt (dw_and (dt_cmp opd_ge (dv 2) de_int (nomark _)) (dw_and1 (dt_cmp opd_ge (dv 3) de_int (nomark _))))) (dss_one (ds_ret (de_if (DW.dt (dw_or (dt_cmp opd_gt (dv 2) de_int (nomark _)) (dw_or1 (dt_cmp opd_gt (dv 3) de_int (nomark _))))) de_int de_int))) dss_nil)
 (dss_cons (ds_if (DW.dt (dw_and (dt_cmp opd_le (dv 2) de_int (nomark _)) (dw_and1 (dt_cmp opd_le (dv 3) de_int (nomark _))))) (dss_one (ds_ret (de_neg de_int))) dss_nil)
 (dss_cons (ds_set (i := 4) sc_side_by.nd (de_op opd_sub (de_op opd_mulI (dv 2) (dv 2)) (de_op opd_mulI (de_op opd_mulI (dv 0) (dv 3)) (dv 3))))
 (dss_one (ds_ret (de_if (dt_cmp opd_gt (dv 2) de_int (nomark _)) (de_if (dt_cmp opd_gt (dv 4) de_int (nomark _)) de_int (de_neg de_int)) (de_if (dt_cmp opd_lt (dv 4) de_int (nomark _)) de_int (de_neg de_int)))))))))) hread hX
theorem ok_times_by {c_root_by : DSp} {sp : DSp} (T : Txt K mg base) (D_root_by : Def P w K mg base CX0 2 "root_by" s_root_by ["measure", "x", "y", "below"] c_root_by) (hread : ∀ ds M Q, ds.length = 3 → sp ds M Q DX0 → t_times_by c_root_by (dEnds M Q) (startD 4 ds) M) (hX : ∀ ds M Q E, sp ds M Q E → sp ds M Q DX0 := by exact fun _ _ _ _ h => h) : Def P w K mg base CX0 3 "times_by" s_times_by ["measure", "one", "other"] sp :=
 T.h_times_by.ok (t := t_times_by c_root_by) sc_times_by (fun f cdv A outer s H E hr gd => (dss_cons (ds_set (i := 3) sc_times_by.nd (de_op opd_add (de_op opd_mulI (de_ix (dv 1) de_int) (de_ix (dv 2) de_int)) (de_op opd_mulI (de_op opd_mulI (dv 0) (de_ix (dv 1) de_int)) (de_ix (dv 2) de_int))))
 (dss_one (ds_ret (dcall D_root_by hr gd (da_cons (dv 0) (da_cons (dv 3) (da_cons (de_op opd_add (de_op opd_mulI (de_ix (dv 1) de_int) (de_ix (dv 2) de_int)) (de_op opd_mulI (de_ix (dv 1) de_int) (de_ix (dv 2) de_int))) (da_cons (de_op opd_mulI (de_ix (dv 1) de_int) (de_ix (dv 2) de_int)) da_nil))))))))) hread hX
theorem ok_spot_by {c_measure_by c_slit_by c_minus_by c_side_by c_times_by c_root_by : DSp} {sp : DSp} (T : Txt K mg base) (D_measure_by : Def P w K mg base CX0 1 "measure_by" s_measure_by ["cutting"] c_measure_by) (D_slit_by : Def P w K mg base CX0 3 "slit_by" s_slit_by ["cutting"] c_slit_by) (D_minus_by : Def P w K mg base CX0 4 "minus_by" s_minus_by ["measure", "one", "other"] c_minus_by) (D_side_by : Def P w K mg base CX0 1 "side_by" s_side_by ["measure", "root"] c_side_by) (D_times_by : Def P w K mg base CX0 3 "times_by" s_times_by ["measure", "one", "other"] c_times_by) (D_root_by : Def P w K mg base CX0 2 "root_by" s_root_by ["measure", "x", "y", "below"] c_root_by) (hread : ∀ ds M Q, ds.length = 2 → sp ds M Q DX0 → t_spot_by c_measure_by c_slit_by c_minus_by c_side_by c_times_by c_root_by (dEnds M Q) (startD 16 ds) M) (hX : ∀ ds M Q E, sp ds M Q E → sp ds M Q DX0 := by exact fun _ _ _ _ h => h) : Def P w K mg base CX0 5 "spot_by" s_spot_by ["cutting", "place"] sp :=
 T.h_spot_by.ok (t := t_spot_by c_measure_by c_slit_by c_minus_by c_side_by c_times_by c_root_by) sc_spot_by (fun f cdv A outer s H E hr gd => (dss_cons (ds_asg (dv 0) (dg_tup rfl (dgs_cons (dg_name (i := 2) sc_spot_by.nd) (dgs_cons (dg_name (i := 3) sc_spot_by.nd) (dgs_cons (dg_name (i := 4) sc_spot_by.nd) (dgs_cons (dg_name (i := 5) sc_spot_by.nd) dgs_nil))))))
 (dss_cons (ds_par (i := 6) (j := 7) rfl sc_spot_by.nd (da_cons (dcall D_measure_by hr gd (da_cons (dv 0) da_nil)) (da_cons (dcall D_slit_by hr gd (da_cons (dv 0) da_nil)) da_nil)))
 (dss_cons (ds_asg (dv 1) (dg_tup rfl (dgs_cons (dg_name (i := 8) sc_spot_by.nd) (dgs_cons (dg_name (i := 9) sc_spot_by.nd) dgs_nil))))
 (dss_cons (ds_set (i := 10) sc_spot_by.nd (dcall D_minus_by hr gd (da_cons (dv 6) (da_cons (dv 9) (da_cons (de_tup (da_cons (dv 4) (da_cons de_int (da_cons de_int da_nil)))) da_nil)))))
 (dss_cons (ds_if (DW.dt (dw_or (dt_cmp opd_lt (dcall D_side_by hr gd (da_cons (dv 6) (da_cons (dv 9) da_nil))) de_int (nomark _)) (dw_or1 (dt_cmp opd_gt (dcall D_side_by hr gd (da_cons (dv 6) (da_cons (dcall D_minus_by hr gd (da_cons (dv 6) (da_cons (dv 10) (da_cons (dv 7) da_nil)))) da_nil))) de_int (nomark _))))) (dss_one (ds_ret de_non)) dss_nil)
 (dss_cons (ds_set (i := 11) sc_spot_by.nd (de_if (dt_cmp opd_lt (dcall D_side_by hr gd (da_cons (dv 6) (da_cons (dv 10) da_nil))) de_int (nomark _)) (de_lst (da_cons de_int da_nil)) (de_if (dt_cmp (opd_eq (u64 hr)) (dcall D_side_by hr gd (da_cons (dv 6) (da_cons (dv 10) da_nil))) de_int (nomark _)) (de_lst (da_cons de_int (da_cons de_int da_nil))) (de_lst (da_cons de_int da_nil)))))
 (dss_cons (ds_for rfl (di_seq (dv 11)) (dg_name (i := 12) sc_spot_by.nd) (dss_cons (ds_set (i := 13) sc_spot_by.nd (de_if (dt_cmp (opd_eq (u64 hr)) (dv 12) de_int (nomark _)) (dcall D_times_by hr gd (da_cons (dv 6) (da_cons (dv 9) (da_cons (dcall D_root_by hr gd (da_cons (dv 6) (da_cons (dv 2) (da_cons de_int (da_cons (dv 4) da_nil))))) da_nil)))) (de_tup (da_cons (dv 2) (da_cons de_int (da_cons de_int da_nil))))))
 (dss_cons (ds_set (i := 14) sc_spot_by.nd (dcall D_minus_by hr gd (da_cons (dv 6) (da_cons (dv 8) (da_cons (dv 13) da_nil)))))
 (dss_cons (ds_set (i := 15) sc_spot_by.nd (de_if (dt_cmp (opd_eq (u64 hr)) (dv 12) de_int (nomark _)) (de_tup (da_cons (dv 3) (da_cons de_int (da_cons de_int da_nil)))) (dv 7)))
 (dss_one (ds_if (DW.dt (dw_and (dt_cmp opd_ge (dcall D_side_by hr gd (da_cons (dv 6) (da_cons (dv 14) da_nil))) de_int (nomark _)) (dw_and1 (dt_cmp opd_le (dcall D_side_by hr gd (da_cons (dv 6) (da_cons (dcall D_minus_by hr gd (da_cons (dv 6) (da_cons (dv 14) (da_cons (dv 15) da_nil)))) da_nil))) de_int (nomark _))))) (dss_one (ds_ret (de_tup (da_cons (dv 12) (da_cons (dv 14) (da_cons (de_if (dt_cmp (opd_eq (u64 hr)) (dv 12) de_int (nomark _)) (dv 9) (dv 10)) da_nil)))))) dss_nil))))))
 (dss_one (ds_ret de_non)))))))))) hread hX
theorem ok_laid {c_measure_by c_plus_by c_times_by c_root_by : DSp} {sp : DSp} (T : Txt K mg base) (D_measure_by : Def P w K mg base CX0 1 "measure_by" s_measure_by ["cutting"] c_measure_by) (D_plus_by : Def P w K mg base CX0 3 "plus_by" s_plus_by ["measure", "one", "other"] c_plus_by) (D_times_by : Def P w K mg base CX0 3 "times_by" s_times_by ["measure", "one", "other"] c_times_by) (D_root_by : Def P w K mg base CX0 2 "root_by" s_root_by ["measure", "x", "y", "below"] c_root_by) (hread : ∀ ds M Q, ds.length = 2 → sp ds M Q DX0 → t_laid c_measure_by c_plus_by c_times_by c_root_by (dEnds M Q) (startD 9 ds) M) (hX : ∀ ds M Q E, sp ds M Q E → sp ds M Q DX0 := by exact fun _ _ _ _ h => h) : Def P w K mg base CX0 4 "laid" s_laid ["cutting", "spot"] sp :=
 T.h_laid.ok (t := t_laid c_measure_by c_plus_by c_times_by c_root_by) sc_laid (fun f cdv A outer s H E hr gd => (dss_cons (ds_if (dt_cmp opd_is (dv 1) de_non (nomark _)) (dss_one (ds_ret (de_tup (da_cons (let ⟨_, h, h2⟩ := T.c_NOUGHT; de_globK rfl h h2) (da_cons (let ⟨_, h, h2⟩ := T.c_NOUGHT; de_globK rfl h h2) da_nil))))) dss_nil)
 (dss_cons (ds_asg (dv 1) (dg_tup rfl (dgs_cons (dg_name (i := 2) sc_laid.nd) (dgs_cons (dg_name (i := 3) sc_laid.nd) (dgs_cons (dg_name (i := 4) sc_laid.nd) dgs_nil)))))
 (dss_cons (ds_asg (dv 0) (dg_tup rfl (dgs_cons (dg_name (i := 5) sc_laid.nd) (dgs_cons (dg_name (i := 6) sc_laid.nd) (dgs_cons (dg_name (i := 7) sc_laid.nd) (dgs_cons (dg_name (i := 6) sc_laid.nd) dgs_nil))))))
 (dss_cons (ds_set (i := 8) sc_laid.nd (dcall D_measure_by hr gd (da_cons (dv 0) da_nil)))
 (dss_cons (ds_if (dt_cmp (opd_eq (u64 hr)) (dv 2) de_int (nomark _)) (dss_one (ds_ret (de_tup (da_cons (dcall D_plus_by hr gd (da_cons (dv 8) (da_cons (dv 3) (da_cons (de_tup (da_cons (dv 5) (da_cons de_int (da_cons de_int da_nil)))) da_nil)))) (da_cons (dcall D_plus_by hr gd (da_cons (dv 8) (da_cons (dv 4) (da_cons (de_tup (da_cons (dv 7) (da_cons de_int (da_cons de_int da_nil)))) da_nil)))) da_nil))))) dss_nil)
 (dss_one (ds_ret (de_tup (da_cons (dcall D_plus_by hr gd (da_cons (dv 8) (da_cons (dv 3) (da_cons (dcall D_times_by hr gd (da_cons (dv 8) (da_cons (dv 4) (da_cons (dcall D_root_by hr gd (da_cons (dv 8) (da_cons (dv 5) (da_cons de_int (da_cons (dv 7) da_nil))))) da_nil)))) da_nil)))) (da_cons (dv 4) da_nil))))))))))) hread hX
theorem ok_is_end {c_slit_by : DSp} {sp : DSp} (T : Txt K mg base) (D_slit_by : Def P w K mg base CX0 3 "slit_by" s_slit_by ["cutting"] c_slit_by) (hread : ∀ ds M Q, ds.length = 3 → sp ds M Q DX0 → t_is_end c_slit_by (dEnds M Q) (startD 5 ds) M) (hX : ∀ ds M Q E, sp ds M Q E → sp ds M Q DX0 := by exact fun _ _ _ _ h => h) : Def P w K mg base CX0 4 "is_end" s_is_end ["cutting", "piece", "right"] sp :=
 T.h_is_end.ok (t := t_is_end c_slit_by) sc_is_end (fun f cdv A outer s H E hr gd => (dss_cons (ds_par (i := 3) (j := 4) rfl sc_is_end.nd (da_cons (de_tup (da_cons (de_ix (dv 0) de_int) (da_cons de_int (da_cons de_int da_nil)))) (da_cons (dcall D_slit_by hr gd (da_cons (dv 0) da_nil)) da_nil)))
 (dss_one (ds_ret (de_or (de_cmp (opd_in (u65 hr)) (dv 2) (de_lst (da_cons (let ⟨_, h, h2⟩ := T.c_NOUGHT; de_globK rfl h h2) (da_cons (dv 4) da_nil))) (by rfl)) (de_one (de_and (de_cmp (opd_eq (u64 hr)) (dv 1) de_int (nomark _)) (de_one (de_cmp (opd_eq (u64 hr)) (dv 2) (dv 3) (nomark _)))))))))) hread hX
theorem ok_normal_spot {c_measure_by c_slit_by c_side_by c_minus_by c_is_end : DSp} {sp : DSp} (T : Txt K mg base) (D_measure_by : Def P w K mg base CX0 1 "measure_by" s_measure_by ["cutting"] c_measure_by) (D_slit_by : Def P w K mg base CX0 3 "slit_by" s_slit_by ["cutting"] c_slit_by) (D_side_by : Def P w K mg base CX0 1 "side_by" s_side_by ["measure", "root"] c_side_by) (D_minus_by : Def P w K mg base CX0 4 "minus_by" s_minus_by ["measure", "one", "other"] c_minus_by) (D_is_end : Def P w K mg base CX0 4 "is_end" s_is_end ["cutting", "piece", "right"] c_is_end) (hread : ∀ ds M Q, ds.length = 2 → sp ds M Q DX0 → t_normal_spot c_measure_by c_slit_by c_side_by c_minus_by c_is_end (dEnds M Q) (startD 9 ds) M) (hX : ∀ ds M Q E, sp ds M Q E → sp ds M Q DX0 := by exact fun _ _ _ _ h => h) : Def P w K mg base CX0 5 "normal_spot" s_normal_spot ["cutting", "spot"] sp :=
 T.h_normal_spot.ok (t := t_normal_spot c_measure_by c_slit_by c_side_by c_minus_by c_is_end) sc_normal_spot (fun f cdv A outer s H E hr gd => (dss_cons (ds_asg (dv 1) (dg_tup rfl (dgs_cons (dg_name (i := 2) sc_normal_spot.nd) (dgs_cons (dg_name (i := 3) sc_normal_spot.nd) (dgs_cons (dg_name (i := 4) sc_normal_spot.nd) dgs_nil)))))
 (dss_cons (ds_par3 (i := 5) (j := 6) (l := 7) rfl sc_normal_spot.nd (da_cons (dcall D_measure_by hr gd (da_cons (dv 0) da_nil)) (da_cons (dcall D_slit_by hr gd (da_cons (dv 0) da_nil)) (da_cons (de_tup (da_cons (de_ix (dv 0) de_int) (da_cons de_int (da_cons de_int da_nil)))) da_nil))))
 (dss_cons (ds_if (dt_cmp (opd_eq (u64 hr)) (dv 4) (de_if (dt_cmp (opd_eq (u64 hr)) (dv 2) de_int (nomark _)) (de_tup (da_cons (de_ix (dv 0) de_int) (da_cons de_int (da_cons de_int da_nil)))) (dv 6)) (nomark _)) (dss_cons (ds_set (i := 8) sc_normal_spot.nd (de_cmp opd_lt (dcall D_side_by hr gd (da_cons (dv 5) (da_cons (dcall D_minus_by hr gd (da_cons (dv 5) (da_cons (dv 3) (da_cons (dv 6) da_nil)))) da_nil))) de_int (nomark _)))
 (dss_one (ds_par (i := 2) (j := 4) rfl sc_normal_spot.nd (da_cons (de_if (DW.dt (dw_and (dt_cmp (opd_eq (u64 hr)) (dv 2) de_int (nomark _)) (dw_and1 (dt_tru (dv 8))))) de_int de_int) (da_cons (let ⟨_, h, h2⟩ := T.c_NOUGHT; de_globK rfl h h2) da_nil))))) dss_nil)
 (dss_cons (ds_if (DW.dt (dw_and (dt_cmp (opd_eq (u64 hr)) (dv 4) (let ⟨_, h, h2⟩ := T.c_NOUGHT; de_globK rfl h h2) (nomark _)) (dw_and1 (dt_tru (dcall D_is_end hr gd (da_cons (dv 0) (da_cons (dv 2) (da_cons (dv 3) da_nil)))))))) (dss_one (ds_ret de_non)) dss_nil)
 (dss_cons (ds_if (dt_cmp (opd_eq (u64 hr)) (dv 3) (de_if (dt_cmp (opd_eq (u64 hr)) (dv 2) de_int (nomark _)) (dv 7) (dv 6)) (nomark _)) (dss_one (ds_set (i := 3) sc_normal_spot.nd (let ⟨_, h, h2⟩ := T.c_NOUGHT; de_globK rfl h h2))) dss_nil)
 (dss_one (ds_ret (de_tup (da_cons (dv 2) (da_cons (dv 3) (da_cons (dv 4) da_nil)))))))))))) hread hX
theorem ok_point_of {c_check_cutting c_is_pair c_spot_by c_laid c_normal_spot : DSp} {sp : DSp} (T : Txt K mg base) (D_check_cutting : Def P w K mg base CX0 3 "check_cutting" s_check_cutting ["cutting"] c_check_cutting) (D_is_pair : Def P w K mg base CX0 3 "is_pair" s_is_pair ["cutting", "value"] c_is_pair) (D_spot_by : Def P w K mg base CX0 5 "spot_by" s_spot_by ["cutting", "place"] c_spot_by) (D_laid : Def P w K mg base CX0 4 "laid" s_laid ["cutting", "spot"] c_laid) (D_normal_spot : Def P w K mg base CX0 5 "normal_spot" s_normal_spot ["cutting", "spot"] c_normal_spot) (hread : ∀ ds M Q, ds.length = 2 → sp ds M Q DX0 → t_point_of c_check_cutting c_is_pair c_spot_by c_laid c_normal_spot (dEnds M Q) (startD 3 ds) M) (hX : ∀ ds M Q E, sp ds M Q E → sp ds M Q DX0 := by exact fun _ _ _ _ h => h) : Def P w K mg base CX0 6 "point_of" s_point_of ["cutting", "place"] sp :=
 T.h_point_of.ok (t := t_point_of c_check_cutting c_is_pair c_spot_by c_laid c_normal_spot) sc_point_of (fun f cdv A outer s H E hr gd => (dss_cons (ds_expr (dcall D_check_cutting hr gd (da_cons (dv 0) da_nil)))
 (dss_cons (ds_set (i := 2) sc_point_of.nd (de_if (dt_tru (dcall D_is_pair hr gd (da_cons (dv 0) (da_cons (dv 1) da_nil)))) (dcall D_spot_by hr gd (da_cons (dv 0) (da_cons (dv 1) da_nil))) de_non))
 (dss_cons (ds_if (dt_cmp opd_is (dv 2) de_non (nomark _)) (dss_one ds_never) dss_nil)
 (dss_one (ds_ret (dcall D_laid hr gd (da_cons (dv 0) (da_cons (dcall D_normal_spot hr gd (da_cons (dv 0) (da_cons (dv 2) da_nil))) da_nil))))))))) hread hX
theorem ok_is_point_by {c_is_pair c_spot_by c_laid c_normal_spot : DSp} {sp : DSp} (T : Txt K mg base) (D_is_pair : Def P w K mg base CX0 3 "is_pair" s_is_pair ["cutting", "value"] c_is_pair) (D_spot_by : Def P w K mg base CX0 5 "spot_by" s_spot_by ["cutting", "place"] c_spot_by) (D_laid : Def P w K mg base CX0 4 "laid" s_laid ["cutting", "spot"] c_laid) (D_normal_spot : Def P w K mg base CX0 5 "normal_spot" s_normal_spot ["cutting", "spot"] c_normal_spot) (hread : ∀ ds M Q, ds.length = 2 → sp ds M Q DX0 → t_is_point_by c_is_pair c_spot_by c_laid c_normal_spot (dEnds M Q) (startD 3 ds) M) (hX : ∀ ds M Q E, sp ds M Q E → sp ds M Q DX0 := by exact fun _ _ _ _ h => h) : Def P w K mg base CX0 6 "is_point_by" s_is_point_by ["cutting", "value"] sp :=
 T.h_is_point_by.ok (t := t_is_point_by c_is_pair c_spot_by c_laid c_normal_spot) sc_is_point_by (fun f cdv A outer s H E hr gd => (dss_cons (ds_if (dt_not (dt_tru (dcall D_is_pair hr gd (da_cons (dv 0) (da_cons (dv 1) da_nil))))) (dss_one (ds_ret de_bl)) dss_nil)
 (dss_cons (ds_set (i := 2) sc_is_point_by.nd (dcall D_spot_by hr gd (da_cons (dv 0) (da_cons (dv 1) da_nil))))
 (dss_one (ds_ret (de_and (de_cmp opd_isnot (dv 2) de_non (nomark _)) (de_one (de_cmp (opd_eq (u64 hr)) (dcall D_laid hr gd (da_cons (dv 0) (da_cons (dcall D_normal_spot hr gd (da_cons (dv 0) (da_cons (dv 2) da_nil))) da_nil))) (dv 1) (nomark _))))))))) hread hX
theorem ok_is_point {c_check_cutting c_is_point_by : DSp} {sp : DSp} (T : Txt K mg base) (D_check_cutting : Def P w K mg base CX0 3 "check_cutting" s_check_cutting ["cutting"] c_check_cutting) (D_is_point_by : Def P w K mg base CX0 6 "is_point_by" s_is_point_by ["cutting", "value"] c_is_point_by) (hread : ∀ ds M Q, ds.length = 2 → sp ds M Q DX0 → t_is_point c_check_cutting c_is_point_by (dEnds M Q) (startD 2 ds) M) (hX : ∀ ds M Q E, sp ds M Q E → sp ds M Q DX0 := by exact fun _ _ _ _ h => h) : Def P w K mg base CX0 7 "is_point" s_is_point ["cutting", "value"] sp :=
 T.h_is_point.ok (t := t_is_point c_check_cutting c_is_point_by) sc_is_point (fun f cdv A outer s H E hr gd => (dss_cons (ds_expr (dcall D_check_cutting hr gd (da_cons (dv 0) da_nil)))
 (dss_one (ds_ret (dcall D_is_point_by hr gd (da_cons (dv 0) (da_cons (dv 1) da_nil))))))) hread hX
theorem ok_check_point {c_is_point_by : DSp} {sp : DSp} (T : Txt K mg base) (D_is_point_by : Def P w K mg base CX0 6 "is_point_by" s_is_point_by ["cutting", "value"] c_is_point_by) (hread : ∀ ds M Q, ds.length = 2 → sp ds M Q DX0 → t_check_point c_is_point_by (dEnds M Q) (startD 2 ds) M) (hX : ∀ ds M Q E, sp ds M Q E → sp ds M Q DX0 := by exact fun _ _ _ _ h => h) : Def P w K mg base CX0 7 "check_point" s_check_point ["cutting", "point"] sp :=
 T.h_check_point.ok (t := t_check_point c_is_point_by) sc_check_point (fun f cdv A outer s H E hr gd => (dss_one (ds_if (dt_not (dt_tru (dcall D_is_point_by hr gd (da_cons (dv 0) (da_cons (dv 1) da_nil))))) (dss_one ds_never) dss_nil))) hread hX
theorem ok_piece_of {c_check_cutting c_check_point c_measure_by c_side_by c_minus_by : DSp} {sp : DSp} (T : Txt K mg base) (D_check_cutting : Def P w K mg base CX0 3 "check_cutting" s_check_cutting ["cutting"] c_check_cutting) (D_check_point : Def P w K mg base CX0 7 "check_point" s_check_point ["cutting", "point"] c_check_point) (D_measure_by : Def P w K mg base CX0 1 "measure_by" s_measure_by ["cutting"] c_measure_by) (D_side_by : Def P w K mg base CX0 1 "side_by" s_side_by ["measure", "root"] c_side_by) (D_minus_by : Def P w K mg base CX0 4 "minus_by" s_minus_by ["measure", "one", "other"] c_minus_by) (hread : ∀ ds M Q, ds.length = 2 → sp ds M Q DX0 → t_piece_of c_check_cutting c_check_point c_measure_by c_side_by c_minus_by (dEnds M Q) (startD 3 ds) M) (hX : ∀ ds M Q E, sp ds M Q E → sp ds M Q DX0 := by exact fun _ _ _ _ h => h) : Def P w K mg base CX0 8 "piece_of" s_piece_of ["cutting", "point"] sp :=
 T.h_piece_of.ok (t := t_piece_of c_check_cutting c_check_point c_measure_by c_side_by c_minus_by) sc_piece_of (fun f cdv A outer s H E hr gd => (dss_cons (ds_expr (dcall D_check_cutting hr gd (da_cons (dv 0) da_nil)))
 (dss_cons (ds_expr (dcall D_check_point hr gd (da_cons (dv 0) (da_cons (dv 1) da_nil))))
 (dss_cons (ds_set (i := 2) sc_piece_of.nd (dcall D_measure_by hr gd (da_cons (dv 0) da_nil)))
 (dss_one (ds_ret (de_ty cd_int T.n_int (da_cons (de_cmp opd_ge (dcall D_side_by hr gd (da_cons (dv 2) (da_cons (dcall D_minus_by hr gd (da_cons (dv 2) (da_cons (de_ix (dv 1) de_int) (da_cons (de_tup (da_cons (de_ix (dv 0) de_int) (da_cons de_int (da_cons de_int da_nil)))) da_nil)))) da_nil))) de_int (nomark _)) da_nil)))))))) hread hX
theorem ok_l_edge_right_b3b6 {c_l_measure_d993 c_l_corners_5cb1 c_l_share_4ae7 c_l_added_a47b c_l_scaled_08a4 c_l_glued_bd92 c_point_of c_is_point c_piece_of : DSp} {sp : DSp} (T : Txt K mg base) (D_l_measure_d993 : Def P w K mg base CX0 1 "_law_measure" s_l_measure_d993 ["_law_cutting_here"] c_l_measure_d993) (D_l_corners_5cb1 : Def P w K mg base CX0 4 "_law_corners" s_l_corners_5cb1 ["_law_cutting_here"] c_l_corners_5cb1) (D_l_share_4ae7 : Def P w K mg base CX0 3 "_law_share" s_l_share_4ae7 ["_law_generator_here", "_law_below"] c_l_share_4ae7) (D_l_added_a47b : Def P w K mg base CX0 4 "_law_added" s_l_added_a47b ["_law_measure_here", "_law_one", "_law_other", "_law_times_here"] c_l_added_a47b) (D_l_scaled_08a4 : Def P w K mg base CX0 4 "_law_scaled" s_l_scaled_08a4 ["_law_measure_here", "_law_number", "_law_vector"] c_l_scaled_08a4) (D_l_glued_bd92 : Def P w K mg base CX0 1 "_law_glued" s_l_glued_bd92 ["_law_at"] c_l_glued_bd92) (D_point_of : Def P w K mg base CX0 6 "point_of" s_point_of ["cutting", "place"] c_point_of) (D_is_point : Def P w K mg base CX0 7 "is_point" s_is_point ["cutting", "value"] c_is_point) (D_piece_of : Def P w K mg base CX0 8 "piece_of" s_piece_of ["cutting", "point"] c_piece_of) (hread : ∀ ds M Q, ds.length = 3 → sp ds M Q DX0 → t_l_edge_right_b3b6 c_l_measure_d993 c_l_corners_5cb1 c_l_share_4ae7 c_l_added_a47b c_l_scaled_08a4 c_l_glued_bd92 c_point_of c_is_point c_piece_of (dEnds M Q) (startD 14 ds) M) (hX : ∀ ds M Q E, sp ds M Q E → sp ds M Q DX0 := by exact fun _ _ _ _ h => h) : Def P w K mg base CX0 9 "_law_edge_right" s_l_edge_right_b3b6 ["_law_generator_here", "_law_cutting_here", "_law_at"] sp :=
 T.h_l_edge_right_b3b6.ok (t := t_l_edge_right_b3b6 c_l_measure_d993 c_l_corners_5cb1 c_l_share_4ae7 c_l_added_a47b c_l_scaled_08a4 c_l_glued_bd92 c_point_of c_is_point c_piece_of) sc_l_edge_right_b3b6 (fun f cdv A outer s H E hr gd => (dss_cons (ds_par (i := 3) (j := 4) rfl sc_l_edge_right_b3b6.nd (da_cons (dcall D_l_measure_d993 hr gd (da_cons (dv 1) da_nil)) (da_cons (dcall D_l_corners_5cb1 hr gd (da_cons (dv 1) da_nil)) da_nil)))
 (dss_cons (ds_par3 (i := 5) (j := 6) (l := 7) rfl sc_l_edge_right_b3b6.nd (da_cons (de_ix (dv 4) (dv 2)) (da_cons (de_ix (dv 4) (de_op opd_mod (de_ty cd_int T.n_int (da_cons (de_op opd_add (dv 2) de_int) da_nil)) de_int)) (da_cons (dcall D_l_share_4ae7 hr gd (da_cons (dv 0) (da_cons de_int da_nil))) da_nil))))
 (dss_cons (ds_set (i := 8) sc_l_edge_right_b3b6.nd (dcall D_l_added_a47b hr gd (da_cons (dv 3) (da_cons (dv 5) (da_cons (dcall D_l_scaled_08a4 hr gd (da_cons (dv 3) (da_cons (dv 7) (da_cons (dcall D_l_added_a47b hr gd (da_cons (dv 3) (da_cons (dv 6) (da_cons (dv 5) (da_cons (de_neg de_int) da_nil))))) da_nil)))) (da_cons de_int da_nil))))))
 (dss_cons (ds_set (i := 9) sc_l_edge_right_b3b6.nd (dcall D_l_glued_bd92 hr gd (da_cons (dv 2) da_nil)))
 (dss_cons (ds_par (i := 10) (j := 11) rfl sc_l_edge_right_b3b6.nd (da_cons (de_ix (dv 4) (de_op opd_mod (de_ty cd_int T.n_int (da_cons (de_op opd_add (dv 9) de_int) da_nil)) de_int)) (da_cons (de_ix (dv 4) (dv 9)) da_nil)))
 (dss_cons (ds_set (i := 12) sc_l_edge_right_b3b6.nd (dcall D_l_added_a47b hr gd (da_cons (dv 3) (da_cons (dv 10) (da_cons (dcall D_l_scaled_08a4 hr gd (da_cons (dv 3) (da_cons (dv 7) (da_cons (dcall D_l_added_a47b hr gd (da_cons (dv 3) (da_cons (dv 11) (da_cons (dv 10) (da_cons (de_neg de_int) da_nil))))) da_nil)))) (da_cons de_int da_nil))))))
 (dss_cons (ds_set (i := 13) sc_l_edge_right_b3b6.nd (de_if (dt_cmp (opd_in (u65 hr)) (dv 2) (de_lst (da_cons de_int (da_cons de_int (da_cons de_int (da_cons de_int da_nil))))) (by rfl)) (dv 8) (dv 12)))
 (dss_cons (ds_if (DW.dt (dw_or (dt_cmp (opd_ne (u64 hr)) (de_blt (cd_reprZ gd (ux hr)) T.n_repr (da_cons (dcall D_point_of hr gd (da_cons (dv 1) (da_cons (dv 8) da_nil))) da_nil)) (de_blt (cd_reprZ gd (ux hr)) T.n_repr (da_cons (dv 13) da_nil)) (nomark _)) (dw_or1 (dt_cmp (opd_ne (u64 hr)) (de_blt (cd_reprZ gd (ux hr)) T.n_repr (da_cons (dcallK [1, 0] D_point_of hr gd (dk_cons (dv 12) (dk_cons (dv 1) dk_nil)) (ks := ["place", "cutting"]) rfl (fun _ _ _ _ _ _ us hl => match us, hl with | [_, _], _ => rfl)) da_nil)) (de_blt (cd_reprZ gd (ux hr)) T.n_repr (da_cons (dv 13) da_nil)) (nomark _))))) (dss_one (ds_ret de_bl)) dss_nil)
 (dss_one (ds_ret (de_and (de_cmp opd_is (dcall D_is_point hr gd (da_cons (dv 1) (da_cons (dv 13) da_nil))) de_bl (nomark _)) (de_and (de_cmp opd_is (dcall D_is_point hr gd (da_cons (dv 1) (da_cons (de_if (dt_cmp (opd_eq (u64 hr)) (dv 13) (dv 8) (nomark _)) (dv 12) (dv 8)) da_nil))) de_bl (nomark _)) (de_one (de_cmp (opd_eq (u64 hr)) (de_blt (cd_reprZ gd (ux hr)) T.n_repr (da_cons (dcall D_piece_of hr gd (da_cons (dv 1) (da_cons (dv 13) da_nil))) da_nil)) (de_blt (cd_reprZ gd (ux hr)) T.n_repr (da_cons (de_ty cd_int T.n_int (da_cons (de_cmp (opd_in (u65 hr)) (dv 2) (de_lst (da_cons de_int (da_cons de_int da_nil))) (by rfl)) da_nil)) da_nil)) (nomark _)))))))))))))))) hread hX
theorem ok_l_shape_1896 {c_l_measure_d993 c_l_side_of_cf54 c_l_whole_43a8 c_l_made_ecf7 : DSp} {sp : DSp} (T : Txt K mg base) (D_l_measure_d993 : Def P w K mg base CX0 1 "_law_measure" s_l_measure_d993 ["_law_cutting_here"] c_l_measure_d993) (D_l_side_of_cf54 : Def P w K mg base CX0 3 "_law_side_of" s_l_side_of_cf54 ["_law_cutting_here"] c_l_side_of_cf54) (D_l_whole_43a8 : Def P w K mg base CX0 1 "_law_whole" s_l_whole_43a8 ["_law_number"] c_l_whole_43a8) (D_l_made_ecf7 : Def P w K mg base CX0 2 "_law_made" s_l_made_ecf7 ["_law_measure_here", "_law_x", "_law_y", "_law_below"] c_l_made_ecf7) (hread : ∀ ds M Q, ds.length = 2 → sp ds M Q DX0 → t_l_shape_1896 c_l_measure_d993 c_l_side_of_cf54 c_l_whole_43a8 c_l_made_ecf7 (dEnds M Q) (startD 4 ds) M) (hX : ∀ ds M Q E, sp ds M Q E → sp ds M Q DX0 := by exact fun _ _ _ _ h => h) : Def P w K mg base CX0 4 "_law_shape" s_l_shape_1896 ["_law_cutting_here", "_law_piece"] sp :=
 T.h_l_shape_1896.ok (t := t_l_shape_1896 c_l_measure_d993 c_l_side_of_cf54 c_l_whole_43a8 c_l_made_ecf7) sc_l_shape_1896 (fun f cdv A outer s H E hr gd => (dss_cons (ds_par (i := 2) (j := 3) rfl sc_l_shape_1896.nd (da_cons (dcall D_l_measure_d993 hr gd (da_cons (dv 0) da_nil)) (da_cons (dcall D_l_side_of_cf54 hr gd (da_cons (dv 0) da_nil)) da_nil)))
 (dss_cons (ds_if (dt_cmp (opd_eq (u64 hr)) (dv 1) de_int (nomark _)) (dss_one (ds_ret (de_lst (da_cons (dv 3) (da_cons (dv 3) (da_cons (dcall D_l_whole_43a8 hr gd (da_cons de_int da_nil)) da_nil)))))) dss_nil)
 (dss_one (ds_ret (de_lst (da_cons (dcall D_l_whole_43a8 hr gd (da_cons (de_ix (dv 0) de_int) da_nil)) (da_cons (dcall D_l_whole_43a8 hr gd (da_cons (de_ix (dv 0) de_int) da_nil)) (da_cons (dcall D_l_made_ecf7 hr gd (da_cons (dv 2) (da_cons (de_ix (dv 0) de_int) (da_cons de_int (da_cons (de_ix (dv 0) de_int) da_nil))))) da_nil))))))))) hread hX
theorem ok_l_spot_7a5b {c_l_measure_d993 c_l_random_7821 c_l_shape_1896 c_l_times_3146 c_l_share_4ae7 : DSp} {sp : DSp} (T : Txt K mg base) (D_l_measure_d993 : Def P w K mg base CX0 1 "_law_measure" s_l_measure_d993 ["_law_cutting_here"] c_l_measure_d993) (D_l_random_7821 : Def P w K mg base CX0 2 "_law_random" s_l_random_7821 ["_law_generator_here", "_law_bound"] c_l_random_7821) (D_l_shape_1896 : Def P w K mg base CX0 4 "_law_shape" s_l_shape_1896 ["_law_cutting_here", "_law_piece"] c_l_shape_1896) (D_l_times_3146 : Def P w K mg base CX0 3 "_law_times" s_l_times_3146 ["_law_measure_here", "_law_one", "_law_other"] c_l_times_3146) (D_l_share_4ae7 : Def P w K mg base CX0 3 "_law_share" s_l_share_4ae7 ["_law_generator_here", "_law_below"] c_l_share_4ae7) (hread : ∀ ds M Q, ds.length = 3 → sp ds M Q DX0 → t_l_spot_7a5b c_l_measure_d993 c_l_random_7821 c_l_shape_1896 c_l_times_3146 c_l_share_4ae7 (dEnds M Q) (startD 9 ds) M) (hX : ∀ ds M Q E, sp ds M Q E → sp ds M Q DX0 := by exact fun _ _ _ _ h => h) : Def P w K mg base CX0 5 "_law_spot" s_l_spot_7a5b ["_law_generator_here", "_law_cutting_here", "_law_below"] sp :=
 T.h_l_spot_7a5b.ok (t := t_l_spot_7a5b c_l_measure_d993 c_l_random_7821 c_l_shape_1896 c_l_times_3146 c_l_share_4ae7) sc_l_spot_7a5b (fun f cdv A outer s H E hr gd => (dss_cons (ds_par (i := 3) (j := 4) rfl sc_l_spot_7a5b.nd (da_cons (dcall D_l_measure_d993 hr gd (da_cons (dv 1) da_nil)) (da_cons (dcall D_l_random_7821 hr gd (da_cons (dv 0) (da_cons de_int da_nil))) da_nil)))
 (dss_cons (ds_asg (dcall D_l_shape_1896 hr gd (da_cons (dv 1) (da_cons (dv 4) da_nil))) (dg_tup rfl (dgs_cons (dg_name (i := 5) sc_l_spot_7a5b.nd) (dgs_cons (dg_name (i := 6) sc_l_spot_7a5b.nd) (dgs_cons (dg_name (i := 7) sc_l_spot_7a5b.nd) dgs_nil)))))
 (dss_cons (ds_set (i := 8) sc_l_spot_7a5b.nd (dcall D_l_times_3146 hr gd (da_cons (dv 3) (da_cons (dv 5) (da_cons (dcall D_l_share_4ae7 hr gd (da_cons (dv 0) (da_cons (dv 2) da_nil))) da_nil)))))
 (dss_one (ds_ret (de_tup (da_cons (dv 4) (da_cons (dv 8) (da_cons (dcall D_l_times_3146 hr gd (da_cons (dv 3) (da_cons (dv 6) (da_cons (dcall D_l_share_4ae7 hr gd (da_cons (dv 0) (da_cons (dv 2) da_nil))) da_nil)))) da_nil)))))))))) hread hX
theorem ok_l_place_9cad {c_l_measure_d993 c_l_plus_46d9 c_l_whole_43a8 c_l_times_3146 c_l_shape_1896 : DSp} {sp : DSp} (T : Txt K mg base) (D_l_measure_d993 : Def P w K mg base CX0 1 "_law_measure" s_l_measure_d993 ["_law_cutting_here"] c_l_measure_d993) (D_l_plus_46d9 : Def P w K mg base CX0 3 "_law_plus" s_l_plus_46d9 ["_law_measure_here", "_law_one", "_law_other", "_law_times_here"] c_l_plus_46d9) (D_l_whole_43a8 : Def P w K mg base CX0 1 "_law_whole" s_l_whole_43a8 ["_law_number"] c_l_whole_43a8) (D_l_times_3146 : Def P w K mg base CX0 3 "_law_times" s_l_times_3146 ["_law_measure_here", "_law_one", "_law_other"] c_l_times_3146) (D_l_shape_1896 : Def P w K mg base CX0 4 "_law_shape" s_l_shape_1896 ["_law_cutting_here", "_law_piece"] c_l_shape_1896) (hread : ∀ ds M Q, ds.length = 2 → sp ds M Q DX0 → t_l_place_9cad c_l_measure_d993 c_l_plus_46d9 c_l_whole_43a8 c_l_times_3146 c_l_shape_1896 (dEnds M Q) (startD 6 ds) M) (hX : ∀ ds M Q E, sp ds M Q E → sp ds M Q DX0 := by exact fun _ _ _ _ h => h) : Def P w K mg base CX0 5 "_law_place" s_l_place_9cad ["_law_cutting_here", "_law_spot_here"] sp :=
 T.h_l_place_9cad.ok (t := t_l_place_9cad c_l_measure_d993 c_l_plus_46d9 c_l_whole_43a8 c_l_times_3146 c_l_shape_1896) sc_l_place_9cad (fun f cdv A outer s H E hr gd => (dss_cons (ds_asg (de_tup (da_cons (dcall D_l_measure_d993 hr gd (da_cons (dv 0) da_nil)) (da_cons (dv 1) da_nil))) (dg_tup rfl (dgs_cons (dg_name (i := 2) sc_l_place_9cad.nd) (dgs_cons (dg_tup rfl (dgs_cons (dg_name (i := 3) sc_l_place_9cad.nd) (dgs_cons (dg_name (i := 4) sc_l_place_9cad.nd) (dgs_cons (dg_name (i := 5) sc_l_place_9cad.nd) dgs_nil)))) dgs_nil))))
 (dss_cons (ds_if (dt_cmp (opd_eq (u64 hr)) (dv 3) de_int (nomark _)) (dss_one (ds_ret (de_tup (da_cons (dcall D_l_plus_46d9 hr gd (da_cons (dv 2) (da_cons (dv 4) (da_cons (dcall D_l_whole_43a8 hr gd (da_cons (de_ix (dv 0) de_int) da_nil)) (da_cons de_int da_nil))))) (da_cons (dcall D_l_plus_46d9 hr gd (da_cons (dv 2) (da_cons (dv 5) (da_cons (dcall D_l_whole_43a8 hr gd (da_cons (de_ix (dv 0) de_int) da_nil)) (da_cons de_int da_nil))))) da_nil))))) dss_nil)
 (dss_one (ds_ret (de_tup (da_cons (dcall D_l_plus_46d9 hr gd (da_cons (dv 2) (da_cons (dv 4) (da_cons (dcall D_l_times_3146 hr gd (da_cons (dv 2) (da_cons (dv 5) (da_cons (de_ix (dcall D_l_shape_1896 hr gd (da_cons (dv 0) (da_cons de_int da_nil))) de_int) da_nil)))) (da_cons de_int da_nil))))) (da_cons (dv 5) da_nil)))))))) hread hX
theorem ok_l_along_edge_cdad {c_l_measure_d993 c_l_corners_5cb1 c_l_added_a47b c_l_scaled_08a4 : DSp} {sp : DSp} (T : Txt K mg base) (D_l_measure_d993 : Def P w K mg base CX0 1 "_law_measure" s_l_measure_d993 ["_law_cutting_here"] c_l_measure_d993) (D_l_corners_5cb1 : Def P w K mg base CX0 4 "_law_corners" s_l_corners_5cb1 ["_law_cutting_here"] c_l_corners_5cb1) (D_l_added_a47b : Def P w K mg base CX0 4 "_law_added" s_l_added_a47b ["_law_measure_here", "_law_one", "_law_other", "_law_times_here"] c_l_added_a47b) (D_l_scaled_08a4 : Def P w K mg base CX0 4 "_law_scaled" s_l_scaled_08a4 ["_law_measure_here", "_law_number", "_law_vector"] c_l_scaled_08a4) (hread : ∀ ds M Q, ds.length = 3 → sp ds M Q DX0 → t_l_along_edge_cdad c_l_measure_d993 c_l_corners_5cb1 c_l_added_a47b c_l_scaled_08a4 (dEnds M Q) (startD 7 ds) M) (hX : ∀ ds M Q E, sp ds M Q E → sp ds M Q DX0 := by exact fun _ _ _ _ h => h) : Def P w K mg base CX0 5 "_law_along_edge" s_l_along_edge_cdad ["_law_cutting_here", "_law_at", "_law_share_here"] sp :=
 T.h_l_along_edge_cdad.ok (t := t_l_along_edge_cdad c_l_measure_d993 c_l_corners_5cb1 c_l_added_a47b c_l_scaled_08a4) sc_l_along_edge_cdad (fun f cdv A outer s H E hr gd => (dss_cons (ds_par (i := 3) (j := 4) rfl sc_l_along_edge_cdad.nd (da_cons (dcall D_l_measure_d993 hr gd (da_cons (dv 0) da_nil)) (da_cons (dcall D_l_corners_5cb1 hr gd (da_cons (dv 0) da_nil)) da_nil)))
 (dss_cons (ds_par (i := 5) (j := 6) rfl sc_l_along_edge_cdad.nd (da_cons (de_ix (dv 4) (dv 1)) (da_cons (de_ix (dv 4) (de_op opd_mod (de_ty cd_int T.n_int (da_cons (de_op opd_add (dv 1) de_int) da_nil)) de_int)) da_nil)))
 (dss_one (ds_ret (dcall D_l_added_a47b hr gd (da_cons (dv 3) (da_cons (dv 5) (da_cons (dcall D_l_scaled_08a4 hr gd (da_cons (dv 3) (da_cons (dv 2) (da_cons (dcall D_l_added_a47b hr gd (da_cons (dv 3) (da_cons (dv 6) (da_cons (dv 5) (da_cons (de_neg de_int) da_nil))))) da_nil)))) (da_cons de_int da_nil)))))))))) hread hX
theorem ok_l_outside_bec0 {c_l_measure_d993 c_l_corners_5cb1 c_l_added_a47b c_l_along_edge_cdad c_l_share_4ae7 c_l_random_7821 c_l_scaled_08a4 c_l_side_of_cf54 c_l_plus_46d9 c_l_whole_43a8 c_l_times_3146 : DSp} {sp : DSp} (T : Txt K mg base) (D_l_measure_d993 : Def P w K mg base CX0 1 "_law_measure" s_l_measure_d993 ["_law_cutting_here"] c_l_measure_d993) (D_l_corners_5cb1 : Def P w K mg base CX0 4 "_law_corners" s_l_corners_5cb1 ["_law_cutting_here"] c_l_corners_5cb1) (D_l_added_a47b : Def P w K mg base CX0 4 "_law_added" s_l_added_a47b ["_law_measure_here", "_law_one", "_law_other", "_law_times_here"] c_l_added_a47b) (D_l_along_edge_cdad : Def P w K mg base CX0 5 "_law_along_edge" s_l_along_edge_cdad ["_law_cutting_here", "_law_at", "_law_share_here"] c_l_along_edge_cdad) (D_l_share_4ae7 : Def P w K mg base CX0 3 "_law_share" s_l_share_4ae7 ["_law_generator_here", "_law_below"] c_l_share_4ae7) (D_l_random_7821 : Def P w K mg base CX0 2 "_law_random" s_l_random_7821 ["_law_generator_here", "_law_bound"] c_l_random_7821) (D_l_scaled_08a4 : Def P w K mg base CX0 4 "_law_scaled" s_l_scaled_08a4 ["_law_measure_here", "_law_number", "_law_vector"] c_l_scaled_08a4) (D_l_side_of_cf54 : Def P w K mg base CX0 3 "_law_side_of" s_l_side_of_cf54 ["_law_cutting_here"] c_l_side_of_cf54) (D_l_plus_46d9 : Def P w K mg base CX0 3 "_law_plus" s_l_plus_46d9 ["_law_measure_here", "_law_one", "_law_other", "_law_times_here"] c_l_plus_46d9) (D_l_whole_43a8 : Def P w K mg base CX0 1 "_law_whole" s_l_whole_43a8 ["_law_number"] c_l_whole_43a8) (D_l_times_3146 : Def P w K mg base CX0 3 "_law_times" s_l_times_3146 ["_law_measure_here", "_law_one", "_law_other"] c_l_times_3146) (hread : ∀ ds M Q, ds.length = 2 → sp ds M Q DX0 → t_l_outside_bec0 c_l_measure_d993 c_l_corners_5cb1 c_l_added_a47b c_l_along_edge_cdad c_l_share_4ae7 c_l_random_7821 c_l_scaled_08a4 c_l_side_of_cf54 c_l_plus_46d9 c_l_whole_43a8 c_l_times_3146 (dEnds M Q) (startD 14 ds) M) (hX : ∀ ds M Q E, sp ds M Q E → sp ds M Q DX0 := by exact fun _ _ _ _ h => h) : Def P w K mg base CX0 6 "_law_outside" s_l_outside_bec0 ["_law_generator_here", "_law_cutting_here"] sp :=
 T.h_l_outside_bec0.ok (t := t_l_outside_bec0 c_l_measure_d993 c_l_corners_5cb1 c_l_added_a47b c_l_along_edge_cdad c_l_share_4ae7 c_l_random_7821 c_l_scaled_08a4 c_l_side_of_cf54 c_l_plus_46d9 c_l_whole_43a8 c_l_times_3146) sc_l_outside_bec0 (fun f cdv A outer s H E hr gd => (dss_cons (ds_asg (de_tup (da_cons (dcall D_l_measure_d993 hr gd (da_cons (dv 1) da_nil)) (da_cons (dcall D_l_corners_5cb1 hr gd (da_cons (dv 1) da_nil)) (da_cons (de_own da_nil) da_nil)))) (dg_tup rfl (dgs_cons (dg_name (i := 2) sc_l_outside_bec0.nd) (dgs_cons (dg_name (i := 3) sc_l_outside_bec0.nd) (dgs_cons (dg_name (i := 4) sc_l_outside_bec0.nd) dgs_nil)))))
 (dss_cons (ds_for rfl (di_range1 T.n_range (da_cons de_int da_nil)) (dg_name (i := 5) sc_l_outside_bec0.nd) (dss_cons (ds_asg (dcall D_l_added_a47b hr gd (da_cons (dv 2) (da_cons (de_ix (dv 3) (de_op opd_mod (de_ty cd_int T.n_int (da_cons (de_op opd_add (dv 5) de_int) da_nil)) de_int)) (da_cons (de_ix (dv 3) (dv 5)) (da_cons (de_neg de_int) da_nil))))) (dg_tup rfl (dgs_cons (dg_name (i := 6) sc_l_outside_bec0.nd) (dgs_cons (dg_name (i := 7) sc_l_outside_bec0.nd) dgs_nil))))
 (dss_cons (ds_set (i := 8) sc_l_outside_bec0.nd (de_tup (da_cons (dv 7) (da_cons (de_tup (da_cons (de_op opd_sub de_int (de_ix (dv 6) de_int)) (da_cons (de_op opd_sub de_int (de_ix (dv 6) de_int)) (da_cons (de_ix (dv 6) de_int) da_nil)))) da_nil))))
 (dss_cons (ds_set (i := 9) sc_l_outside_bec0.nd (dcall D_l_along_edge_cdad hr gd (da_cons (dv 1) (da_cons (dv 5) (da_cons (de_ix (de_lst (da_cons (de_tup (da_cons de_int (da_cons de_int (da_cons de_int da_nil)))) (da_cons (dcall D_l_share_4ae7 hr gd (da_cons (dv 0) (da_cons de_int da_nil))) da_nil))) (dcall D_l_random_7821 hr gd (da_cons (dv 0) (da_cons de_int da_nil)))) da_nil)))))
 (dss_one (ds_for rfl (di_seq (de_lst (da_cons de_int (da_cons (de_if (dt_cmp opd_lt (de_op opd_add (de_op opd_add (de_ix (dv 1) de_int) (de_ix (dv 1) de_int)) (de_blt cd_abs T.n_abs (da_cons (de_ix (dv 1) de_int) da_nil))) de_int (nomark _)) (de_op opd_pow de_int de_int) (de_op opd_pow de_int de_int)) da_nil)))) (dg_name (i := 10) sc_l_outside_bec0.nd) (dss_one (ds_expr (de_append (dv 4) (da_cons (dcall D_l_added_a47b hr gd (da_cons (dv 2) (da_cons (dv 9) (da_cons (dcall D_l_scaled_08a4 hr gd (da_cons (dv 2) (da_cons (de_tup (da_cons de_int (da_cons de_int (da_cons (dv 10) da_nil)))) (da_cons (dv 8) da_nil)))) (da_cons de_int da_nil))))) da_nil))))))))))
 (dss_cons (ds_asg (de_tup (da_cons (dcall D_l_side_of_cf54 hr gd (da_cons (dv 1) da_nil)) (da_cons (dcall D_l_share_4ae7 hr gd (da_cons (dv 0) (da_cons de_int da_nil))) da_nil))) (dg_tup rfl (dgs_cons (dg_name (i := 11) sc_l_outside_bec0.nd) (dgs_cons (dg_name (i := 12) sc_l_outside_bec0.nd) dgs_nil))))
 (dss_cons (ds_set (i := 4) sc_l_outside_bec0.nd (de_op opd_addO (dv 4) (de_lc false (own := [("_law_at", 5)]) rfl sc_l_outside_bec0.nd (blkOk_by (N := ["_law_generator_here", "_law_cutting_here", "_law_measure_here", "_law_ends", "_law_found", "_law_at", "_law_x", "_law_y", "_law_outward", "_law_place_here", "_law_below", "_law_side", "_law_share_here", "_law_shifted"]) (own := [("_law_at", 5)]) (sc := (defScope s_l_outside_bec0)) (by decide +kernel)) (di_seq (de_lst (da_cons de_int (da_cons de_int (da_cons de_int (da_cons de_int (da_cons de_int da_nil))))))) (fun _ _ _ _ _ => (dcg_name (i := 5) sc_l_outside_bec0.nd)) (fun _ _ _ _ _ => dts_nil) (fun _ _ _ _ _ => (dcall D_l_along_edge_cdad hr gd (da_cons (dv 1) (da_cons (dv 5) (da_cons (de_tup (da_cons (de_op opd_sub de_int (de_ix (dv 12) de_int)) (da_cons (de_ix (dv 12) de_int) (da_cons (de_ix (dv 12) de_int) da_nil)))) da_nil))))))))
 (dss_cons (ds_set (i := 4) sc_l_outside_bec0.nd (de_op opd_addO (dv 4) (de_lc false (own := [("_law_at", 5)]) rfl sc_l_outside_bec0.nd (blkOk_by (N := ["_law_generator_here", "_law_cutting_here", "_law_measure_here", "_law_ends", "_law_found", "_law_at", "_law_x", "_law_y", "_law_outward", "_law_place_here", "_law_below", "_law_side", "_law_share_here", "_law_shifted"]) (own := [("_law_at", 5)]) (sc := (defScope s_l_outside_bec0)) (by decide +kernel)) (di_seq (de_lst (da_cons de_int (da_cons de_int (da_cons de_int (da_cons de_int (da_cons de_int da_nil))))))) (fun _ _ _ _ _ => (dcg_name (i := 5) sc_l_outside_bec0.nd)) (fun _ _ _ _ _ => dts_nil) (fun _ _ _ _ _ => (dcall D_l_along_edge_cdad hr gd (da_cons (dv 1) (da_cons (dv 5) (da_cons (dcall D_l_plus_46d9 hr gd (da_cons (dv 2) (da_cons (dcall D_l_whole_43a8 hr gd (da_cons de_int da_nil)) (da_cons (dv 12) (da_cons de_int da_nil))))) da_nil))))))))
 (dss_cons (ds_expr (de_append (dv 4) (da_cons (de_tup (da_cons (dcall D_l_plus_46d9 hr gd (da_cons (dv 2) (da_cons (de_ix (de_ix (dv 3) de_int) de_int) (da_cons (dcall D_l_times_3146 hr gd (da_cons (dv 2) (da_cons (dv 12) (da_cons (dv 11) da_nil)))) (da_cons (de_neg de_int) da_nil))))) (da_cons (de_ix (de_ix (dv 3) de_int) de_int) da_nil))) da_nil)))
 (dss_cons (ds_set (i := 13) sc_l_outside_bec0.nd (dcall D_l_times_3146 hr gd (da_cons (dv 2) (da_cons (dv 12) (da_cons (dcall D_l_plus_46d9 hr gd (da_cons (dv 2) (da_cons (dcall D_l_whole_43a8 hr gd (da_cons (de_ix (dv 1) de_int) da_nil)) (da_cons (dv 11) (da_cons (de_neg de_int) da_nil))))) da_nil)))))
 (dss_cons (ds_set (i := 6) sc_l_outside_bec0.nd (dcall D_l_plus_46d9 hr gd (da_cons (dv 2) (da_cons (dcall D_l_plus_46d9 hr gd (da_cons (dv 2) (da_cons (dcall D_l_whole_43a8 hr gd (da_cons (de_ix (dv 1) de_int) da_nil)) (da_cons (dv 11) (da_cons de_int da_nil))))) (da_cons (dv 13) (da_cons de_int da_nil))))))
 (dss_one (ds_ret (de_op opd_add (dv 4) (de_lst (da_cons (de_tup (da_cons (dv 6) (da_cons (dcall D_l_plus_46d9 hr gd (da_cons (dv 2) (da_cons (dcall D_l_whole_43a8 hr gd (da_cons (de_ix (dv 1) de_int) da_nil)) (da_cons (dcall D_l_times_3146 hr gd (da_cons (dv 2) (da_cons (dv 12) (da_cons (dv 11) da_nil)))) (da_cons de_int da_nil))))) da_nil))) da_nil)))))))))))))) hread hX
theorem ok_l_inner_right_c58f {c_l_measure_d993 c_l_spot_7a5b c_l_place_9cad c_point_of c_is_point c_piece_of c_l_times_3146 c_l_share_4ae7 c_l_side_of_cf54 c_l_whole_43a8 c_l_added_a47b c_l_outside_bec0 : DSp} {sp : DSp} (T : Txt K mg base) (D_l_measure_d993 : Def P w K mg base CX0 1 "_law_measure" s_l_measure_d993 ["_law_cutting_here"] c_l_measure_d993) (D_l_spot_7a5b : Def P w K mg base CX0 5 "_law_spot" s_l_spot_7a5b ["_law_generator_here", "_law_cutting_here", "_law_below"] c_l_spot_7a5b) (D_l_place_9cad : Def P w K mg base CX0 5 "_law_place" s_l_place_9cad ["_law_cutting_here", "_law_spot_here"] c_l_place_9cad) (D_point_of : Def P w K mg base CX0 6 "point_of" s_point_of ["cutting", "place"] c_point_of) (D_is_point : Def P w K mg base CX0 7 "is_point" s_is_point ["cutting", "value"] c_is_point) (D_piece_of : Def P w K mg base CX0 8 "piece_of" s_piece_of ["cutting", "point"] c_piece_of) (D_l_times_3146 : Def P w K mg base CX0 3 "_law_times" s_l_times_3146 ["_law_measure_here", "_law_one", "_law_other"] c_l_times_3146) (D_l_share_4ae7 : Def P w K mg base CX0 3 "_law_share" s_l_share_4ae7 ["_law_generator_here", "_law_below"] c_l_share_4ae7) (D_l_side_of_cf54 : Def P w K mg base CX0 3 "_law_side_of" s_l_side_of_cf54 ["_law_cutting_here"] c_l_side_of_cf54) (D_l_whole_43a8 : Def P w K mg base CX0 1 "_law_whole" s_l_whole_43a8 ["_law_number"] c_l_whole_43a8) (D_l_added_a47b : Def P w K mg base CX0 4 "_law_added" s_l_added_a47b ["_law_measure_here", "_law_one", "_law_other", "_law_times_here"] c_l_added_a47b) (D_l_outside_bec0 : Def P w K mg base CX0 6 "_law_outside" s_l_outside_bec0 ["_law_generator_here", "_law_cutting_here"] c_l_outside_bec0) (hread : ∀ ds M Q, ds.length = 2 → sp ds M Q DX0 → t_l_inner_right_c58f c_l_measure_d993 c_l_spot_7a5b c_l_place_9cad c_point_of c_is_point c_piece_of c_l_times_3146 c_l_share_4ae7 c_l_side_of_cf54 c_l_whole_43a8 c_l_added_a47b c_l_outside_bec0 (dEnds M Q) (startD 10 ds) M) (hX : ∀ ds M Q E, sp ds M Q E → sp ds M Q DX0 := by exact fun _ _ _ _ h => h) : Def P w K mg base CX0 9 "_law_inner_right" s_l_inner_right_c58f ["_law_generator_here", "_law_cutting_here"] sp :=
 T.h_l_inner_right_c58f.ok (t := t_l_inner_right_c58f c_l_measure_d993 c_l_spot_7a5b c_l_place_9cad c_point_of c_is_point c_piece_of c_l_times_3146 c_l_share_4ae7 c_l_side_of_cf54 c_l_whole_43a8 c_l_added_a47b c_l_outside_bec0) sc_l_inner_right_c58f (fun f cdv A outer s H E hr gd => (dss_cons (ds_par (i := 2) (j := 3) rfl sc_l_inner_right_c58f.nd (da_cons (dcall D_l_measure_d993 hr gd (da_cons (dv 1) da_nil)) (da_cons (dcall D_l_spot_7a5b hr gd (da_cons (dv 0) (da_cons (dv 1) (da_cons de_int da_nil)))) da_nil)))
 (dss_cons (ds_set (i := 4) sc_l_inner_right_c58f.nd (dcall D_l_place_9cad hr gd (da_cons (dv 1) (da_cons (dv 3) da_nil))))
 (dss_cons (ds_if (DW.dt (dw_or (dt_cmp (opd_ne (u64 hr)) (de_blt (cd_reprZ gd (ux hr)) T.n_repr (da_cons (dcall D_point_of hr gd (da_cons (dv 1) (da_cons (dv 4) da_nil))) da_nil)) (de_blt (cd_reprZ gd (ux hr)) T.n_repr (da_cons (dv 4) da_nil)) (nomark _)) (dw_or1 (dt_cmp opd_isnot (dcallK [1, 0] D_is_point hr gd (dk_cons (dv 4) (dk_cons (dv 1) dk_nil)) (ks := ["value", "cutting"]) rfl (fun _ _ _ _ _ _ us hl => match us, hl with | [_, _], _ => rfl)) de_bl (nomark _))))) (dss_one (ds_ret de_bl)) dss_nil)
 (dss_cons (ds_if (DW.dt (dw_or (dt_cmp (opd_ne (u64 hr)) (de_blt (cd_reprZ gd (ux hr)) T.n_repr (da_cons (dcall D_piece_of hr gd (da_cons (dv 1) (da_cons (dv 4) da_nil))) da_nil)) (de_blt (cd_reprZ gd (ux hr)) T.n_repr (da_cons (de_ix (dv 3) de_int) da_nil)) (nomark _)) (dw_or1 (dt_cmp (opd_ne (u64 hr)) (dcallK [1, 0] D_piece_of hr gd (dk_cons (dv 4) (dk_cons (dv 1) dk_nil)) (ks := ["point", "cutting"]) rfl (fun _ _ _ _ _ _ us hl => match us, hl with | [_, _], _ => rfl)) (de_ix (dv 3) de_int) (nomark _))))) (dss_one (ds_ret de_bl)) dss_nil)
 (dss_cons (ds_set (i := 5) sc_l_inner_right_c58f.nd (dcall D_l_times_3146 hr gd (da_cons (dv 2) (da_cons (dcall D_l_side_of_cf54 hr gd (da_cons (dv 1) da_nil)) (da_cons (dcall D_l_share_4ae7 hr gd (da_cons (dv 0) (da_cons de_int da_nil))) da_nil)))))
 (dss_cons (ds_set (i := 6) sc_l_inner_right_c58f.nd (dcall D_l_place_9cad hr gd (da_cons (dv 1) (da_cons (de_tup (da_cons de_int (da_cons (dv 5) (da_cons (dcall D_l_whole_43a8 hr gd (da_cons de_int da_nil)) da_nil)))) da_nil))))
 (dss_cons (ds_if (DW.dt (dw_or (dt_cmp (opd_ne (u64 hr)) (de_blt (cd_reprZ gd (ux hr)) T.n_repr (da_cons (dcall D_point_of hr gd (da_cons (dv 1) (da_cons (dv 6) da_nil))) da_nil)) (de_blt (cd_reprZ gd (ux hr)) T.n_repr (da_cons (dv 6) da_nil)) (nomark _)) (dw_or1 (dt_cmp (opd_ne (u64 hr)) (de_blt (cd_reprZ gd (ux hr)) T.n_repr (da_cons (dcall D_piece_of hr gd (da_cons (dv 1) (da_cons (dv 6) da_nil))) da_nil)) de_str (nomark _))))) (dss_one (ds_ret de_bl)) dss_nil)
 (dss_cons (ds_set (i := 7) sc_l_inner_right_c58f.nd (dcall D_l_added_a47b hr gd (da_cons (dv 2) (da_cons (dv 4) (da_cons (de_tup (da_cons (dcall D_l_whole_43a8 hr gd (da_cons (de_op opd_add (de_ix (dv 1) de_int) de_int) da_nil)) (da_cons (dcall D_l_whole_43a8 hr gd (da_cons de_int da_nil)) da_nil))) (da_cons de_int da_nil))))))
 (dss_cons (ds_if (dt_cmp (opd_ne (u64 hr)) (de_lc false (own := [("_law_odd", 8)]) rfl sc_l_inner_right_c58f.nd (blkOk_by (N := ["_law_generator_here", "_law_cutting_here", "_law_measure_here", "_law_spot_here", "_law_place_here", "_law_base", "_law_middle", "_law_outside_here", "_law_odd", "_law_odds"]) (own := [("_law_odd", 8)]) (sc := (defScope s_l_inner_right_c58f)) (by decide +kernel)) (di_seq (dcall D_l_outside_bec0 hr gd (da_cons (dv 0) (da_cons (dv 1) da_nil)))) (fun _ _ _ _ _ => (dcg_name (i := 8) sc_l_inner_right_c58f.nd)) (fun _ _ _ _ _ => (dts_one (dt_cmp opd_isnot (dcall D_is_point hr gd (da_cons (dv 1) (da_cons (dv 8) da_nil))) de_bl (nomark _)))) (fun _ _ _ _ _ => (dv 8))) (de_lst da_nil) (nomark _)) (dss_one (ds_ret de_bl)) dss_nil)
 (dss_cons (ds_set (i := 9) sc_l_inner_right_c58f.nd (de_lst (da_cons (dv 7) (da_cons (de_ty (cd_list false) T.n_list (da_cons (dv 4) da_nil)) (da_cons (de_sl false (dv 4) do_none (do_some de_int)) (da_cons (de_op opd_add (dv 4) (de_sl false (dv 4) do_none (do_some de_int))) (da_cons (de_tup (da_cons (de_ix (dv 4) de_int) (da_cons de_non da_nil))) (da_cons (de_tup (da_cons (de_ix (dv 4) de_int) (da_cons de_int da_nil))) (da_cons de_non (da_cons de_str (da_cons (de_tup (da_cons (de_tup (da_cons de_int (da_cons de_int (da_cons de_int da_nil)))) (da_cons (de_ix (dv 4) de_int) da_nil))) (da_cons (de_tup (da_cons (de_tup (da_cons de_int (da_cons de_int (da_cons de_bl da_nil)))) (da_cons (de_tup (da_cons de_int (da_cons de_int (da_cons de_int da_nil)))) da_nil))) da_nil))))))))))))
 (dss_one (ds_ret (de_cmp (opd_eq (u64 hr)) (de_lc false (own := [("_law_odd", 8)]) rfl sc_l_inner_right_c58f.nd (blkOk_by (N := ["_law_generator_here", "_law_cutting_here", "_law_measure_here", "_law_spot_here", "_law_place_here", "_law_base", "_law_middle", "_law_outside_here", "_law_odd", "_law_odds"]) (own := [("_law_odd", 8)]) (sc := (defScope s_l_inner_right_c58f)) (by decide +kernel)) (di_seq (dv 9)) (fun _ _ _ _ _ => (dcg_name (i := 8) sc_l_inner_right_c58f.nd)) (fun _ _ _ _ _ => (dts_one (dt_cmp opd_isnot (dcall D_is_point hr gd (da_cons (dv 1) (da_cons (dv 8) da_nil))) de_bl (nomark _)))) (fun _ _ _ _ _ => (dv 8))) (de_lst da_nil) (nomark _))))))))))))))) hread hX
theorem ok_l_law_53b8 {c_l_generator_b324 c_l_cutting_bb00 c_l_whole_43a8 c_l_edge_right_b3b6 c_point_of c_l_corners_5cb1 c_is_point c_l_inner_right_c58f c_piece_of : DSp} {sp : DSp} (T : Txt K mg base) (D_l_generator_b324 : Def P w K mg base CX0 2 "_law_generator" s_l_generator_b324 ["_law_script", "_law_index"] c_l_generator_b324) (D_l_cutting_bb00 : Def P w K mg base CX0 3 "_law_cutting" s_l_cutting_bb00 ["_law_generator_here", "_law_most", "_law_high"] c_l_cutting_bb00) (D_l_whole_43a8 : Def P w K mg base CX0 1 "_law_whole" s_l_whole_43a8 ["_law_number"] c_l_whole_43a8) (D_l_edge_right_b3b6 : Def P w K mg base CX0 9 "_law_edge_right" s_l_edge_right_b3b6 ["_law_generator_here", "_law_cutting_here", "_law_at"] c_l_edge_right_b3b6) (D_point_of : Def P w K mg base CX0 6 "point_of" s_point_of ["cutting", "place"] c_point_of) (D_l_corners_5cb1 : Def P w K mg base CX0 4 "_law_corners" s_l_corners_5cb1 ["_law_cutting_here"] c_l_corners_5cb1) (D_is_point : Def P w K mg base CX0 7 "is_point" s_is_point ["cutting", "value"] c_is_point) (D_l_inner_right_c58f : Def P w K mg base CX0 9 "_law_inner_right" s_l_inner_right_c58f ["_law_generator_here", "_law_cutting_here"] c_l_inner_right_c58f) (D_piece_of : Def P w K mg base CX0 8 "piece_of" s_piece_of ["cutting", "point"] c_piece_of) (hread : ∀ ds M Q, ds.length = 1 → sp ds M Q DX0 → t_l_law_53b8 c_l_generator_b324 c_l_cutting_bb00 c_l_whole_43a8 c_l_edge_right_b3b6 c_point_of c_l_corners_5cb1 c_is_point c_l_inner_right_c58f c_piece_of (dEnds M Q) (startD 7 ds) M) (hX : ∀ ds M Q E, sp ds M Q E → sp ds M Q DX0 := by exact fun _ _ _ _ h => h) : Def P w K mg base CX0 10 "law" s_l_law_53b8 ["_law_script"] sp :=
 T.h_l_law_53b8.ok (t := t_l_law_53b8 c_l_generator_b324 c_l_cutting_bb00 c_l_whole_43a8 c_l_edge_right_b3b6 c_point_of c_l_corners_5cb1 c_is_point c_l_inner_right_c58f c_piece_of) sc_l_law_53b8 (fun f cdv A outer s H E hr gd => (dss_cons (ds_set (i := 1) sc_l_law_53b8.nd (dcall D_l_generator_b324 hr gd (da_cons (dv 0) (da_cons de_int da_nil))))
 (dss_cons (ds_set (i := 2) sc_l_law_53b8.nd (dcall D_l_cutting_bb00 hr gd (da_cons (dv 1) (da_cons de_int (da_cons de_int da_nil)))))
 (dss_cons (ds_set (i := 3) sc_l_law_53b8.nd (de_tup (da_cons (dcall D_l_whole_43a8 hr gd (da_cons de_int da_nil)) (da_cons (dcall D_l_whole_43a8 hr gd (da_cons de_int da_nil)) da_nil))))
 (dss_cons (ds_for rfl (di_range1 T.n_range (da_cons de_int da_nil)) (dg_name (i := 4) sc_l_law_53b8.nd) (dss_cons (ds_if (DW.dt (dw_or (dt_not (dt_tru (dcall D_l_edge_right_b3b6 hr gd (da_cons (dv 1) (da_cons (dv 2) (da_cons (dv 4) da_nil)))))) (dw_or1 (dt_cmp (opd_ne (u64 hr)) (de_blt (cd_reprZ gd (ux hr)) T.n_repr (da_cons (dcall D_point_of hr gd (da_cons (dv 2) (da_cons (de_ix (dcall D_l_corners_5cb1 hr gd (da_cons (dv 2) da_nil)) (dv 4)) da_nil))) da_nil)) (de_blt (cd_reprZ gd (ux hr)) T.n_repr (da_cons (dv 3) da_nil)) (nomark _))))) (dss_one (ds_ret de_bl)) dss_nil)
 (dss_one (ds_if (dt_cmp (opd_ne (u64 hr)) (dcall D_is_point hr gd (da_cons (dv 2) (da_cons (de_ix (dcall D_l_corners_5cb1 hr gd (da_cons (dv 2) da_nil)) (dv 4)) da_nil))) (de_cmp (opd_eq (u64 hr)) (dv 4) de_int (nomark _)) (nomark _)) (dss_one (ds_ret de_bl)) dss_nil))))
 (dss_cons (ds_for rfl (di_range1 T.n_range (da_cons de_int da_nil)) (dg_name (i := 5) sc_l_law_53b8.nd) (dss_one (ds_if (dt_not (dt_tru (dcall D_l_inner_right_c58f hr gd (da_cons (dv 1) (da_cons (dv 2) da_nil))))) (dss_one (ds_ret de_bl)) dss_nil)))
 (dss_cons (ds_if (DW.dt (dw_or (dt_cmp (opd_ne (u64 hr)) (dcall D_piece_of hr gd (da_cons (dv 2) (da_cons (dv 3) da_nil))) de_int (nomark _)) (dw_or1 (dt_not (dt_tru (dcall D_l_inner_right_c58f hr gd (da_cons (dv 1) (da_cons (dcall D_l_cutting_bb00 hr gd (da_cons (dv 1) (da_cons (de_op opd_pow de_int de_int) (da_cons (de_op opd_pow de_int de_int) da_nil)))) da_nil)))))))) (dss_one (ds_ret de_bl)) dss_nil)
 (dss_cons (ds_set (i := 6) sc_l_law_53b8.nd (de_tup (da_cons de_int (da_cons de_int (da_cons de_int (da_cons (de_neg de_int) da_nil))))))
 (dss_one (ds_ret (de_and (de_cmp (opd_eq (u64 hr)) (dcall D_point_of hr gd (da_cons (dv 6) (da_cons (de_tup (da_cons (de_tup (da_cons de_int (da_cons de_int (da_cons de_int da_nil)))) (da_cons (de_tup (da_cons de_int (da_cons de_int (da_cons de_int da_nil)))) da_nil))) da_nil))) (de_tup (da_cons (de_tup (da_cons de_int (da_cons de_int (da_cons de_int da_nil)))) (da_cons (de_tup (da_cons de_int (da_cons de_int (da_cons de_int da_nil)))) da_nil))) (nomark _)) (de_one (de_cmp (opd_eq (u64 hr)) (dcall D_point_of hr gd (da_cons (dv 6) (da_cons (de_tup (da_cons (de_tup (da_cons de_int (da_cons de_int (da_cons de_int da_nil)))) (da_cons (de_tup (da_cons de_int (da_cons de_int (da_cons de_int da_nil)))) da_nil))) da_nil))) (de_tup (da_cons (de_tup (da_cons de_int (da_cons de_int (da_cons de_int da_nil)))) (da_cons (de_tup (da_cons de_int (da_cons de_int (da_cons de_int da_nil)))) da_nil))) (nomark _)))))))))))))) hread hX
end
end C_k35
/-! MA: whole roots, common divisors, sizes; plain -/
namespace DL
/-! ### a great number, by its name -/
def BIGN : Nat := 2 ^ 4000
def BIG : Int := (BIGN : Nat)
theorem bign_pos : 0 < BIGN := Nat.pow_pos (by decide)
theorem bign_ge {k : Nat} (h : k ≤ 4000) : 2 ^ k ≤ BIGN := Nat.pow_le_pow_right (by decide) h
/-- a written number is below BIG -/
theorem big_ge (k : Nat) (h : k < 2 ^ 240 := by decide) : (k : Int) ≤ BIG := by
  have := bign_ge (k := 240) (by decide)
  unfold BIG
  omega
theorem log2_of {i : Int} (n : Nat) (h : i.natAbs < 2 ^ n) (h0 : 0 < n) : i.natAbs.log2 < n := by
  by_cases z : i.natAbs = 0
  · rw [z]; simpa using h0
  · exact (Nat.log2_lt z).mpr h
theorem nat_of_big {i : Int} (h1 : -BIG ≤ i) (h2 : i ≤ BIG) : i.natAbs < 2 ^ 4001 := by
  have h3 : (2 : Nat) ^ 4001 = BIGN + BIGN := by unfold BIGN; rw [Nat.pow_succ, Nat.mul_two]
  have h4 := bign_pos
  rw [h3]
  unfold BIG at h1 h2
  omega
theorem log_of_big {i : Int} (h1 : -BIG ≤ i) (h2 : i ≤ BIG) : i.natAbs.log2 < 4001 := log2_of 4001 (nat_of_big h1 h2) (by decide)
/-! ### whole roots -/
def isqN (n : Nat) : Nat :=
  if h : n = 0 then 0
  else
    let r := 2 * isqN (n / 4)
    if (r + 1) * (r + 1) ≤ n then r + 1 else r
termination_by n
decreasing_by omega
theorem isqN_spec (n : Nat) : isqN n * isqN n ≤ n ∧ n < (isqN n + 1) * (isqN n + 1) := by
  induction n using Nat.strongRecOn with
  | ind n ih =>
    unfold isqN
    split
    · rename_i h; subst h; decide
    · rename_i h
      obtain ⟨h1, h2⟩ := ih (n / 4) (by omega)
      generalize isqN (n / 4) = s at *
      have e1 : 4 * (s * s) ≤ n := by omega
      have e2 : n < 4 * ((s + 1) * (s + 1)) := by omega
      have x1 : (2 * s) * (2 * s) = 4 * (s * s) := by rw [Nat.mul_mul_mul_comm]
      have x2 : (2 * s + 1) * (2 * s + 1) = 4 * (s * s) + 4 * s + 1 := by
        rw [Nat.add_mul, Nat.mul_add, x1]; omega
      have x3 : (s + 1) * (s + 1) = s * s + 2 * s + 1 := by
        rw [Nat.add_mul, Nat.mul_add]; omega
      have x4 : (2 * s + 1 + 1) * (2 * s + 1 + 1) = 4 * (s * s) + 8 * s + 4 := by
        rw [Nat.add_mul, Nat.mul_add, Nat.add_mul, Nat.mul_add, x1]; omega
      dsimp only
      split
      · rename_i hc
        exact ⟨hc, by rw [x4]; omega⟩
      · rename_i hc
        exact ⟨by rw [x1]; omega, by omega⟩
theorem isqN_uni {n r : Nat} (h1 : r * r ≤ n) (h2 : n < (r + 1) * (r + 1)) : isqN n = r := by
  obtain ⟨g1, g2⟩ := isqN_spec n
  rcases Nat.lt_trichotomy (isqN n) r with h | h | h
  · have : (isqN n + 1) * (isqN n + 1) ≤ r * r := Nat.mul_le_mul h h
    omega
  · exact h
  · have : (r + 1) * (r + 1) ≤ isqN n * isqN n := Nat.mul_le_mul h h
    omega
/-- the greatest count whose square is at most n -/
def isq (n : Int) : Int := (isqN n.toNat : Nat)
theorem isq_nn (n : Int) : 0 ≤ isq n := Int.natCast_nonneg _
theorem isq_le {n : Int} (h : 0 ≤ n) : isq n * isq n ≤ n := by
  have := (isqN_spec n.toNat).1
  unfold isq
  rw [← Int.natCast_mul]
  omega
theorem isq_lt {n : Int} (h : 0 ≤ n) : n < (isq n + 1) * (isq n + 1) := by
  have := (isqN_spec n.toNat).2
  unfold isq
  have e : ((isqN n.toNat : Int) + 1) * ((isqN n.toNat : Int) + 1) = (((isqN n.toNat + 1) * (isqN n.toNat + 1) : Nat) : Int) := by
    rw [Int.natCast_mul]; rfl
  rw [e]
  omega
theorem isq_uni {n r : Int} (h0 : 0 ≤ r) (h1 : r * r ≤ n) (h2 : n < (r + 1) * (r + 1)) : isq n = r := by
  obtain ⟨k, rfl⟩ := Int.eq_ofNat_of_zero_le h0
  have h1' : ((k * k : Nat) : Int) ≤ n := by rw [Int.natCast_mul]; exact h1
  have h2' : n < (((k + 1) * (k + 1) : Nat) : Int) := by rw [Int.natCast_mul]; exact h2
  unfold isq
  rw [isqN_uni (n := n.toNat) (r := k) (by omega) (by omega)]
theorem sq_lt {a b : Int} (ha : 0 ≤ a) (h : a < b) : a * a < b * b := by
  have := Int.mul_lt_mul' (Int.le_of_lt h) h ha (by omega : (0:Int) < b)
  exact this
theorem sq_le {a b : Int} (ha : 0 ≤ a) (h : a ≤ b) : a * a ≤ b * b := Int.mul_le_mul h h ha (by omega)
theorem lt_of_sq {a b : Int} (hb : 0 ≤ b) (h : a * a < b * b) : a < b := by
  by_cases z : a < b
  · exact z
  · have := sq_le hb (by omega : b ≤ a)
    omega
theorem isq_self {r : Int} (h : 0 ≤ r) : isq (r * r) = r := isq_uni h (Int.le_refl _) (sq_lt h (by omega))
/-- self is at most n -/
theorem isq_le_self {n : Int} (h : 0 ≤ n) : isq n ≤ n := by
  by_cases z : isq n ≤ n
  · exact z
  · have h1 := isq_le h
    have h2 := isq_nn n
    have h3 : 1 * isq n ≤ isq n * isq n := Int.mul_le_mul_of_nonneg_right (by omega) h2
    omega
theorem newton_ge {n x : Int} (hn : 0 ≤ n) (hx : 0 < x) : isq n ≤ (x + n / x) / 2 := by
  have h1 := isq_le hn
  generalize isq n = s at *
  have h2 : 0 ≤ (x - s) * (x - s) := by
    rcases Int.le_total 0 (x - s) with h | h
    · exact Int.mul_nonneg h h
    · have := Int.mul_nonneg (show (0:Int) ≤ -(x - s) by omega) (show (0:Int) ≤ -(x - s) by omega)
      rwa [Int.neg_mul_neg] at this
  have h3 : (x - s) * (x - s) = x * x - 2 * (s * x) + s * s := by
    rw [Int.sub_mul, Int.mul_sub, Int.mul_sub, Int.mul_comm x s]; omega
  have h4 : (2 * s - x) * x ≤ n := by
    have e : (2 * s - x) * x = 2 * (s * x) - x * x := by rw [Int.sub_mul, Int.mul_assoc]
    omega
  have h5 : 2 * s - x ≤ n / x := (Int.le_ediv_iff_mul_le hx).mpr h4
  omega
theorem newton_end {n x : Int} (hx : 0 < x) (h : x ≤ (x + n / x) / 2) : x * x ≤ n := by
  have h1 : x ≤ n / x := by omega
  exact (Int.le_ediv_iff_mul_le hx).mp h1
theorem sq_big {n x : Int} (hn : 0 ≤ n) (hx : 0 ≤ x) (h : n < x * x) : isq n ≤ x := by
  have h1 := isq_le hn
  have := lt_of_sq hx (by omega : isq n * isq n < x * x)
  omega
/-! ### common divisors -/
theorem gcd_step {l h : Int} (hl : 0 ≤ l) (hh : 0 < h) : Int.gcd h (l.fmod h) = Int.gcd l h := by
  obtain ⟨a, rfl⟩ := Int.eq_ofNat_of_zero_le hl
  obtain ⟨b, rfl⟩ := Int.eq_ofNat_of_zero_le (Int.le_of_lt hh)
  rw [Int.fmod_eq_emod_of_nonneg _ (by omega)]
  show Nat.gcd (b : Int).natAbs ((a : Int) % (b : Int)).natAbs = Nat.gcd (a : Int).natAbs (b : Int).natAbs
  rw [← Int.natCast_emod, Int.natAbs_natCast, Int.natAbs_natCast, Int.natAbs_natCast, Nat.gcd_comm b, Nat.gcd_comm a b]
  exact (Nat.gcd_rec b a).symm
theorem gcd_end {l : Int} (hl : 0 ≤ l) : ((Int.gcd l 0 : Nat) : Int) = l := by
  rw [Int.gcd_zero_right]; omega
end DL
namespace DL
open PySem PySem.Spec PyProof.Rows L2
theorem gIn_two {i a b : Int} {M : Mem} {Q : DQ} : gIn false (.int i) (.lst [.int a, .int b]) M Q = Q (.bl (i == a || i == b)) M := by
  show Q (.bl ((a == i || (b == i || false)) != false)) M = _
  have e : ((a == i || (b == i || false)) != false) = (i == a || i == b) := by
    rw [Bool.bne_false, Bool.or_false, Bool.beq_comm (a := a), Bool.beq_comm (a := b)]
  rw [e]
theorem gRepr_bl {b : Bool} {M : Mem} {Q : DQ} : gRepr [.bl b] M Q = Q (.str (PyData.shown (.bool b))) M := by
  cases b <;> rfl
local macro_rules | `(tactic| walk_at "rd") => `(tactic| simp only [startD, List.map, List.replicate, List.length_cons, List.length_nil, List.append_eq, List.append_nil, List.nil_append, List.cons_append, Nat.reduceSub, Nat.reduceAdd, List.getElem?_cons_zero, List.getElem?_cons_succ, List.set_cons_zero, List.set_cons_succ,
  dC, dVar, dOp, dTru, gTru, tru, dChain, dAnd, dOr, dNot, dAndV, dOrV, dNotV, dIf, dNeg, gNeg, dNil, dCons, dTup, dLst, dOwn, gIx, rBin, gAdd, gCmpI, dCall, dCallK, dSeq, dNext, dDrop, dRet, dRetN, dIfS, dName, dGNil, dGCons, dGTup, dSub, gSetL, dAsg, dPar, dPar3, dAug, gIpI, dSeqI, gSeqI, dRngI, gRng1, gRng2, dCB, gAbs, gInt, gMax, gMin, gGcd, gLen, lenD, gIsi, tyM, tyD, dBits, gBits, dMet, gAppend, dPart, dNoPart, dSl, dEnds, gIs, isB, dNever, dFor, dLc, wipeD, dYes,
  sizeLine_eq, Nat.reduceLeDiff, gEq_int, gNe_int, gEq_strs, gNe_strs, gIn_two, gRepr_bl, rs_lst, rs_tup, rs_scr, rs_int, atI_0, atI_1, atI_2, atI_3, atI_4, atI_5, ixN_30, ixN_31, ixN_32, gEq_bl, gNe_bl, decide_eq_true_eq, beq_iff_eq, Bool.not_eq_true', beq_eq_false_iff_ne, decide_eq_false_iff_not, Bool.not_true, Bool.not_false, if_true, if_false, Bool.false_eq_true, ite_true, ite_false, true_and, and_true, ne_eq, Bool.bne_false, Bool.bne_true, reduceCtorEq])
/-! ### sizes -/
theorem sm_big {i : Int} (h1 : -BIG ≤ i) (h2 : i ≤ BIG) : Sm i := by
  have := log_of_big h1 h2
  unfold Sm; omega
theorem sm_big8 {i : Int} (h1 : -(8 * BIG) ≤ i) (h2 : i ≤ 8 * BIG) : Sm i := by
  refine Sm.of 4004 ?_ (by decide)
  have h3 : (2 : Nat) ^ 4004 = 16 * BIGN := by unfold BIGN; rw [Nat.pow_add 2 4000 4, Nat.mul_comm]
  have h4 := bign_pos
  rw [h3]
  unfold BIG at h1 h2
  omega
theorem cdiv_big {a i : Int} (h0 : i ≠ 0) (h1 : -(8 * BIG) ≤ i) (h2 : i ≤ 8 * BIG) : CDiv a i := by
  refine ⟨h0, Nat.lt_of_lt_of_le (log2_of 4004 ?_ (by decide)) (by decide)⟩
  have h3 : (2 : Nat) ^ 4004 = 16 * BIGN := by unfold BIGN; rw [Nat.pow_add 2 4000 4, Nat.mul_comm]
  have h4 := bign_pos
  rw [h3]
  unfold BIG at h1 h2
  omega
theorem fdiv_pos {a b : Int} (h : 0 < b) : a.fdiv b = a / b := Int.fdiv_eq_ediv_of_nonneg a (Int.le_of_lt h)
theorem fmod_pos {a b : Int} (h : 0 < b) : a.fmod b = a % b := Int.fmod_eq_emod_of_nonneg a (Int.le_of_lt h)
/-! ### kinds -/
theorem kb_NoneType_int : kitB "NoneType" "int" = some false := by decide +kernel
theorem kb_bool_int : kitB "bool" "int" = some true := by decide +kernel
theorem kb_int_int : kitB "int" "int" = some true := by decide +kernel
theorem kb_str_int : kitB "str" "int" = some false := by decide +kernel
theorem kb_tuple_int : kitB "tuple" "int" = some false := by decide +kernel
theorem kb_list_int : kitB "list" "int" = some false := by decide +kernel
theorem kb_dict_int : kitB "dict" "int" = some false := by decide +kernel
theorem kb_NoneType_bool : kitB "NoneType" "bool" = some false := by decide +kernel
theorem kb_bool_bool : kitB "bool" "bool" = some true := by decide +kernel
theorem kb_int_bool : kitB "int" "bool" = some false := by decide +kernel
theorem kb_str_bool : kitB "str" "bool" = some false := by decide +kernel
theorem kb_tuple_bool : kitB "tuple" "bool" = some false := by decide +kernel
theorem kb_list_bool : kitB "list" "bool" = some false := by decide +kernel
theorem kb_dict_bool : kitB "dict" "bool" = some false := by decide +kernel
theorem kb_NoneType_tuple : kitB "NoneType" "tuple" = some false := by decide +kernel
theorem kb_bool_tuple : kitB "bool" "tuple" = some false := by decide +kernel
theorem kb_int_tuple : kitB "int" "tuple" = some false := by decide +kernel
theorem kb_str_tuple : kitB "str" "tuple" = some false := by decide +kernel
theorem kb_tuple_tuple : kitB "tuple" "tuple" = some true := by decide +kernel
theorem kb_list_tuple : kitB "list" "tuple" = some false := by decide +kernel
theorem kb_dict_tuple : kitB "dict" "tuple" = some false := by decide +kernel
theorem kb_NoneType_list : kitB "NoneType" "list" = some false := by decide +kernel
theorem kb_bool_list : kitB "bool" "list" = some false := by decide +kernel
theorem kb_int_list : kitB "int" "list" = some false := by decide +kernel
theorem kb_str_list : kitB "str" "list" = some false := by decide +kernel
theorem kb_tuple_list : kitB "tuple" "list" = some false := by decide +kernel
theorem kb_list_list : kitB "list" "list" = some true := by decide +kernel
theorem kb_dict_list : kitB "dict" "list" = some false := by decide +kernel
local macro_rules | `(tactic| walk_at "kb") => `(tactic| simp only [kb_NoneType_list, kb_bool_list, kb_int_list, kb_str_list, kb_tuple_list, kb_list_list, kb_dict_list, kb_NoneType_int, kb_bool_int, kb_int_int, kb_str_int, kb_tuple_int, kb_list_int, kb_dict_int, kb_NoneType_bool, kb_bool_bool, kb_int_bool, kb_str_bool, kb_tuple_bool, kb_list_bool, kb_dict_bool, kb_NoneType_tuple, kb_bool_tuple, kb_int_tuple, kb_str_tuple, kb_tuple_tuple, kb_list_tuple, kb_dict_tuple, if_true, if_false, Bool.false_eq_true, ite_true, ite_false, Bool.not_true, Bool.not_false])
/-! ### measures -/
def isW : D → Bool
  | .int _ => true
  | _ => false
/-- is_whole(d), d any data -/
def sp_is_whole : DSp := fun ds M Q _ => ∃ d T, ds = [d] ∧ tyM M d = some T ∧ Q (.bl (isW d)) M
theorem rd_is_whole : ∀ ds M Q, ds.length = 1 → sp_is_whole ds M Q DX0 → t_is_whole (dEnds M Q) (startD 1 ds) M := by
  rintro _ M Q _ ⟨d, T, rfl, ht, q⟩
  unfold t_is_whole
  cases d <;> first | (cases ht; done) | skip
  all_goals walk_at "rd"
  case own k =>
    unfold tyM at ht
    dsimp only at ht
    split at ht
    · rename_i ds hk
      simp only [hk]
      walk_at "kb"
      exact rtq q
    · cases ht
  all_goals walk_at "kb"
  all_goals exact rtq q
/-- the common divisor of two ints -/
def sp_gcd : DSp := fun ds M Q _ => ∃ a b : Int, ds = [.int a, .int b] ∧ Q (.int (Int.gcd a b)) M
theorem gcd_abs (a b : Int) : Int.gcd (if a < 0 then -a else a) (if b < 0 then -b else b) = Int.gcd a b := by
  split <;> split <;> simp
theorem rd_common_by : ∀ ds M Q, ds.length = 2 → sp_gcd ds M Q DX0 → t_common_by (dEnds M Q) (startD 4 ds) M := by
  rintro _ M Q _ ⟨a, b, rfl, q⟩
  unfold t_common_by
  walk_at "rd"
  refine dwhile_of (fun n r M' => ∃ l h : Int, r = [some (.int a), some (.int b), some (.int l), some (.int h)] ∧ M' = M ∧ 0 ≤ l ∧ 0 ≤ h ∧ Int.gcd l h = Int.gcd a b ∧ n = h.toNat) _ ⟨_, _, rfl, rfl, ?_, ?_, gcd_abs a b, rfl⟩ ?_
  · split <;> omega
  · split <;> omega
  · rintro n r M' ⟨l, h, rfl, rfl, hl, hh, hg, rfl⟩
    walk_at "rd"
    split
    · rename_i h0
      have hp : 0 < h := by omega
      refine ⟨h0, _, ?_, h, l.fmod h, rfl, hh, ?_, (gcd_step hl hp).trans hg, rfl⟩
      · rw [fmod_pos hp]
        have := Int.emod_lt_of_pos l hp
        have := Int.emod_nonneg l h0
        omega
      · rw [fmod_pos hp]; exact Int.emod_nonneg l h0
    · rename_i h0
      have h0 : h = 0 := by omega
      subst h0
      rw [← hg, gcd_end hl] at q
      exact rtq q
/-- the whole root of a count -/
def sp_isq : DSp := fun ds M Q _ => ∃ n : Int, ds = [.int n] ∧ 0 ≤ n ∧ n ≤ BIG ∧ Q (.int (isq n)) M
theorem rd_root_floor_by : ∀ ds M Q, ds.length = 1 → sp_isq ds M Q DX0 → t_root_floor_by (dEnds M Q) (startD 3 ds) M := by
  rintro _ M Q _ ⟨n, rfl, h0, hB, q⟩
  unfold t_root_floor_by
  walk_at "rd"
  split
  · rename_i h2
    have : isq n = n := by
      rcases (by omega : n = 0 ∨ n = 1) with e | e <;> subst e
      · exact isq_self (r := 0) (by decide)
      · exact isq_self (r := 1) (by decide)
    rw [this] at q
    exact rtq q
  · rename_i h2
    refine dwhile_of (fun m r M' => ∃ f : Int, r = [some (.int n), some (.int f), none] ∧ M' = M ∧ 1 ≤ f ∧ f ≤ 2 * n ∧ m = (2 * n + 2 - f).toNat) _ ⟨1, rfl, rfl, by omega, by omega, rfl⟩ ?_
    rintro m r M' ⟨f, rfl, rfl, hf, hf2, rfl⟩
    walk_at "rd"
    have sf : Sm f := sm_big8 (by omega) (by omega)
    refine ⟨⟨sf, sf⟩, ?_⟩
    split
    · rename_i hc
      refine ⟨⟨Sm.of 4 (by decide), sf⟩, _, ?_, 2 * f, rfl, by omega, ?_, rfl⟩
      · have : f * 1 ≤ f * f := Int.mul_le_mul_of_nonneg_left hf (by omega)
        omega
      · have : f * 1 ≤ f * f := Int.mul_le_mul_of_nonneg_left hf (by omega)
        omega
    · rename_i hc
      have dv : ∀ x : Int, 1 ≤ x → x ≤ 2 * n → CDiv n x := fun x h1 h3 => cdiv_big (by omega) (by omega) (by omega)
      have d2 : ∀ x : Int, CDiv x 2 := fun x => ⟨by decide, by decide⟩
      refine ⟨dv f hf hf2, d2 _, ?_⟩
      refine dwhile_of (fun m r M'' => ∃ x : Int, r = [some (.int n), some (.int x), some (.int ((x + n.fdiv x).fdiv 2))] ∧ M'' = M' ∧ 1 ≤ x ∧ x ≤ 2 * n ∧ isq n ≤ x ∧ m = x.toNat) _ ⟨f, rfl, rfl, hf, hf2, sq_big h0 (by omega) (by omega), rfl⟩ ?_
      rintro m r M'' ⟨x, rfl, rfl, hx, hx2, hs, rfl⟩
      walk_at "rd"
      have e1 : n.fdiv x = n / x := fdiv_pos (by omega)
      have e2 : ∀ y : Int, y.fdiv 2 = y / 2 := fun y => fdiv_pos (by decide)
      rw [e2, e1]
      have ng := newton_ge h0 (x := x) (by omega)
      have h1q : 1 ≤ isq n := by
        by_cases z : 1 ≤ isq n
        · exact z
        · have e : isq n = 0 := by have := isq_nn n; omega
          have := isq_lt h0
          rw [e] at this
          omega
      split
      · rename_i hlt
        refine ⟨dv _ (by omega) (by omega), d2 _, _, ?_, (x + n / x) / 2, ?_, by omega, by omega, ng, rfl⟩
        · omega
        · rw [e2]
      · rename_i hge
        have e : isq n = x := isq_uni (by omega) (newton_end (by omega) (by omega)) (by
          have h3 := isq_lt h0
          have : (isq n + 1) * (isq n + 1) ≤ (x + 1) * (x + 1) := sq_le (by omega) (by omega)
          omega)
        rw [e] at q
        exact rtq q
end DL
namespace DL
open PySem PySem.Spec PyProof.Rows L2
local macro_rules | `(tactic| walk_at "rd") => `(tactic| simp only [startD, List.map, List.replicate, List.length_cons, List.length_nil, List.append_eq, List.append_nil, List.nil_append, List.cons_append, Nat.reduceSub, Nat.reduceAdd, List.getElem?_cons_zero, List.getElem?_cons_succ, List.set_cons_zero, List.set_cons_succ,
  dC, dVar, dOp, dTru, gTru, tru, dChain, dAnd, dOr, dNot, dAndV, dOrV, dNotV, dIf, dNeg, gNeg, dNil, dCons, dTup, dLst, dOwn, gIx, rBin, gAdd, gCmpI, dCall, dCallK, dSeq, dNext, dDrop, dRet, dRetN, dIfS, dName, dGNil, dGCons, dGTup, dSub, gSetL, dAsg, dPar, dPar3, dAug, gIpI, dSeqI, gSeqI, dRngI, gRng1, gRng2, dCB, gAbs, gInt, gMax, gMin, gGcd, gLen, lenD, gIsi, tyM, tyD, dBits, gBits, dMet, gAppend, dPart, dNoPart, dSl, dEnds, gIs, isB, dNever, dFor, dLc, wipeD, dYes,
  sizeLine_eq, Nat.reduceLeDiff, gEq_int, gNe_int, gEq_strs, gNe_strs, gIn_two, gRepr_bl, rs_lst, rs_tup, rs_scr, rs_int, atI_0, atI_1, atI_2, atI_3, atI_4, atI_5, ixN_30, ixN_31, ixN_32, gEq_bl, gNe_bl, decide_eq_true_eq, beq_iff_eq, Bool.not_eq_true', beq_eq_false_iff_ne, decide_eq_false_iff_not, Bool.not_true, Bool.not_false, if_true, if_false, Bool.false_eq_true, ite_true, ite_false, true_and, and_true, ne_eq, Bool.bne_false, Bool.bne_true, reduceCtorEq])
local macro_rules | `(tactic| walk_at "rh") => `(tactic| simp only [*, startD, List.map, List.replicate, List.length_cons, List.length_nil, List.append_eq, List.append_nil, List.nil_append, List.cons_append, Nat.reduceSub, Nat.reduceAdd, List.getElem?_cons_zero, List.getElem?_cons_succ, List.set_cons_zero, List.set_cons_succ,
  dC, dVar, dOp, dTru, gTru, tru, dChain, dAnd, dOr, dNot, dAndV, dOrV, dNotV, dIf, dNeg, gNeg, dNil, dCons, dTup, dLst, dOwn, gIx, rBin, gAdd, gCmpI, dCall, dCallK, dSeq, dNext, dDrop, dRet, dRetN, dIfS, dName, dGNil, dGCons, dGTup, dSub, gSetL, dAsg, dPar, dPar3, dAug, gIpI, dSeqI, gSeqI, dRngI, gRng1, gRng2, dCB, gAbs, gInt, gMax, gMin, gGcd, gLen, lenD, gIsi, tyM, tyD, dBits, gBits, dMet, gAppend, dPart, dNoPart, dSl, dEnds, gIs, isB, dNever, dFor, dLc, wipeD, dYes,
  sizeLine_eq, Nat.reduceLeDiff, gEq_int, gNe_int, gEq_strs, gNe_strs, gIn_two, gRepr_bl, rs_lst, rs_tup, rs_scr, rs_int, atI_0, atI_1, atI_2, atI_3, atI_4, atI_5, ixN_30, ixN_31, ixN_32, gEq_bl, gNe_bl, decide_eq_true_eq, beq_iff_eq, Bool.not_eq_true', beq_eq_false_iff_ne, decide_eq_false_iff_not, Bool.not_true, Bool.not_false, if_true, if_false, Bool.false_eq_true, ite_true, ite_false, true_and, and_true, ne_eq, Bool.bne_false, Bool.bne_true, reduceCtorEq])
local macro_rules | `(tactic| walk_at "kb") => `(tactic| simp only [kb_NoneType_list, kb_bool_list, kb_int_list, kb_str_list, kb_tuple_list, kb_list_list, kb_dict_list, kb_NoneType_int, kb_bool_int, kb_int_int, kb_str_int, kb_tuple_int, kb_list_int, kb_dict_int, kb_NoneType_bool, kb_bool_bool, kb_int_bool, kb_str_bool, kb_tuple_bool, kb_list_bool, kb_dict_bool, kb_NoneType_tuple, kb_bool_tuple, kb_int_tuple, kb_str_tuple, kb_tuple_tuple, kb_list_tuple, kb_dict_tuple, if_true, if_false, Bool.false_eq_true, ite_true, ite_false, Bool.not_true, Bool.not_false])
/-! ### bounds and measures -/
def btw (d : D) (lo : Int) (hi : D) : Bool := match d with
  | .int i => decide (lo ≤ i) && (match hi with | .int h => decide (i ≤ h) | _ => true)
  | _ => false
theorem isW_iff {d : D} : isW d = true ↔ ∃ i, d = .int i := by cases d <;> simp [isW]
/-! ### root numbers -/
/-- what is_root says -/
def isRootD (m : Int) (d : D) : Bool := match d with
  | .tup [.int x, .int y, .int b] => decide (1 ≤ b) && ((Int.gcd (Int.gcd x y) b : Int) == 1 && (y == 0 || !(isq m * isq m == m)))
  | _ => false
/-- a value that is_root may be asked: no tuple, a tuple of another length, a tuple of three plain data -/
def Rootable (M : Mem) (d : D) : Prop := (∃ T, tyM M d = some T) ∧ (∀ l, d = .tup l → l.length = 3 → ∀ e ∈ l, (fine 40 e = true ∧ ∃ T, tyM M e = some T))
def sp_is_root_by : DSp := fun ds M Q _ => ∃ m d, ds = [.int m, d] ∧ 0 ≤ m ∧ m ≤ BIG ∧ Rootable M d ∧ Q (.bl (isRootD m d)) M
theorem isRootD_notup {m : Int} {d : D} (h : ∀ l, d ≠ .tup l) : isRootD m d = false := by
  cases d <;> first | rfl | exact absurd rfl (h _)
theorem isRootD_len {m : Int} {l : List D} (h : l.length ≠ 3) : isRootD m (.tup l) = false := by
  unfold isRootD
  split
  · rename_i e; cases e; exact absurd rfl h
  · rfl
theorem isRootD_bad {m : Int} {l : List D} (h : ∃ e ∈ l, isW e = false) : isRootD m (.tup l) = false := by
  unfold isRootD
  split
  · rename_i e
    cases e
    obtain ⟨e, he, hw⟩ := h
    simp only [List.mem_cons, List.not_mem_nil, or_false] at he
    rcases he with rfl | rfl | rfl <;> cases hw
  · rfl
theorem len3 {l : List D} (h : l.length = 3) : ∃ a b c, l = [a, b, c] := by
  match l, h with
  | [a, b, c], _ => exact ⟨a, b, c, rfl⟩
/-- the items that are no whole numbers -/
def bads (l : List D) : List D := l.filterMap fun e => if isW e = true then none else some e
theorem bads_fine {n : Nat} {l : List D} (h : ∀ e ∈ l, fine n e = true) : fineAll n (bads l) = true := by
  rw [fineAll_iff]
  intro d hd
  obtain ⟨e, he, hs⟩ := List.mem_filterMap.mp hd
  split at hs
  · cases hs
  · cases hs; exact h _ he
theorem bads_nil {l : List D} (h : (bads l).isEmpty = true) : ∀ e ∈ l, isW e = true := by
  intro e he
  have h0 : bads l = [] := List.isEmpty_iff.mp h
  by_cases hw : isW e = true
  · exact hw
  · have : e ∈ bads l := List.mem_filterMap.mpr ⟨e, he, by rw [if_neg hw]⟩
    rw [h0] at this; cases this
theorem bads_some {l : List D} (h : (bads l).isEmpty = false) : ∃ e ∈ l, isW e = false := by
  cases hb : bads l with
  | nil => rw [hb] at h; cases h
  | cons x xs =>
    have : x ∈ bads l := by rw [hb]; exact List.mem_cons_self
    obtain ⟨e, he, hs⟩ := List.mem_filterMap.mp this
    refine ⟨e, he, ?_⟩
    split at hs
    · cases hs
    · rename_i hw; exact Bool.eq_false_iff.mpr hw
theorem rd_is_root_by : ∀ ds M Q, ds.length = 2 → sp_is_root_by ds M Q DX0 → t_is_root_by sp_is_whole sp_gcd sp_isq (dEnds M Q) (startD 7 ds) M := by
  rintro _ M Q - ⟨m, d, rfl, h0, hB, ⟨⟨T, ht⟩, hr⟩, q⟩
  unfold t_is_root_by
  walk_at "rd"
  by_cases htup : ∃ l, d = .tup l
  · obtain ⟨l, rfl⟩ := htup
    walk_at "rd"
    walk_at "kb"
    by_cases h3 : l.length = 3
    · obtain ⟨a, b, c, rfl⟩ := len3 h3
      have hr' := hr _ rfl rfl
      walk_at "rd"
      rw [if_neg (by decide)]
      refine lcW_pure (fun e => if isW e = true then none else some e) trivial (by rw [sizeLine_eq]; exact (by decide : (3 : Nat) ≤ 16777216)) (fun d hd Y N hy => ?_) ?_
      · walk_at "rd"
        obtain ⟨_, T', hT⟩ := hr' d hd
        refine ⟨d, T', rfl, hT, ?_⟩
        by_cases hw : isW d = true
        · simp only [hw, if_true] at hy ⊢
          exact hy
        · rw [Bool.not_eq_true] at hw
          simp only [hw, Bool.false_eq_true, if_false, Bool.not_false, if_true] at hy ⊢
          exact hy
      · refine gNe_nil' (n := 40) (bads_fine fun e he => (hr' e he).1) ?_
        show if (!(bads [a, b, c]).isEmpty) = true then _ else _
        cases hb : (bads [a, b, c]).isEmpty with
        | false =>
          rw [if_pos (by decide)]
          rw [isRootD_bad (bads_some hb)] at q
          exact rtq q
        | true =>
          rw [if_neg (by decide)]
          have hw := bads_nil hb
          obtain ⟨x, rfl⟩ := isW_iff.mp (hw a (by simp))
          obtain ⟨y, rfl⟩ := isW_iff.mp (hw b (by simp))
          obtain ⟨z, rfl⟩ := isW_iff.mp (hw c (by simp))
          walk_at "rd"
          simp only [isRootD] at q
          by_cases hz : z < 1
          · rw [if_pos hz]
            have : ¬ 1 ≤ z := by omega
            simp only [this, decide_false, Bool.false_and] at q
            exact rtq q
          · rw [if_neg hz]
            have hz' : 1 ≤ z := by omega
            refine ⟨x, y, rfl, _, z, rfl, ?_⟩
            simp only [hz', decide_true, Bool.true_and] at q
            walk_at "rd"
            by_cases hg : (Int.gcd (Int.gcd x y : Int) z : Int) = 1
            · simp only [hg, not_true, if_false]
              have hs : Sm (isq m) := sm_big (by have := isq_nn m; omega) (Int.le_trans (isq_le_self h0) hB)
              refine ⟨m, rfl, h0, hB, ?_⟩
              simp only [hg, BEq.rfl, Bool.true_and] at q
              by_cases hy : y = 0
              · simp only [hy, if_true]
                simp only [hy, BEq.rfl, Bool.true_or] at q
                exact rtq q
              · have hy' : (y == 0) = false := by simpa using hy
                simp only [hy, if_false]
                simp only [hy', Bool.false_or] at q
                exact ⟨⟨hs, hs⟩, rtq q⟩
            · simp only [hg, not_false_eq_true, if_true]
              have hg' : ((Int.gcd (Int.gcd x y : Int) z : Int) == 1) = false := by simpa using hg
              simp only [hg', Bool.false_and] at q
              exact rtq q
    · have h3' : ¬ ((l.length : Nat) : Int) = 3 := by omega
      simp only [h3', not_false_eq_true, if_true]
      rw [isRootD_len h3] at q
      exact rtq q
  · have q' : Q (.bl false) M := by rwa [isRootD_notup fun l e => htup ⟨l, e⟩] at q
    cases d <;> first | exact absurd ⟨_, rfl⟩ htup | (cases ht; done) | skip
    all_goals walk_at "rd"
    case own k =>
      unfold tyM at ht
      dsimp only at ht
      split at ht
      · rename_i ds hk
        simp only [hk]
        walk_at "kb"
        exact rtq q'
      · cases ht
    all_goals walk_at "kb"
    all_goals exact rtq q'
/-! ### the least form of a root number -/
def isSq (m : Int) : Prop := isq m * isq m = m
instance (m : Int) : Decidable (isSq m) := inferInstanceAs (Decidable (_ = _))
def rnX (m x y : Int) : Int := if isSq m then x + y * isq m else x
def rnY (m y : Int) : Int := if isSq m then 0 else y
def rnC (m x y b : Int) : Int := if b < 0 then 0 - (Int.gcd (Int.gcd (rnX m x y) (rnY m y) : Int) b : Int) else (Int.gcd (Int.gcd (rnX m x y) (rnY m y) : Int) b : Int)
def rootN (m x y b : Int) : D := .tup [.int ((rnX m x y).fdiv (rnC m x y b)), .int ((rnY m y).fdiv (rnC m x y b)), .int (b.fdiv (rnC m x y b))]
def sp_root_by : DSp := fun ds M Q _ => ∃ m x y b : Int, ds = [.int m, .int x, .int y, .int b] ∧ 0 ≤ m ∧ m ≤ BIG ∧ -BIG ≤ y ∧ y ≤ BIG ∧ -BIG ≤ b ∧ b ≤ BIG ∧ b ≠ 0 ∧ Q (rootN m x y b) M
theorem gcd_bound {g b : Int} (hb : b ≠ 0) : (1 : Int) ≤ Int.gcd g b ∧ (Int.gcd g b : Int) ≤ b.natAbs := by
  have h1 : 0 < Int.gcd g b := Int.gcd_pos_of_ne_zero_right g hb
  have h2 : Int.gcd g b ≤ b.natAbs := Nat.le_of_dvd (by omega) (Int.gcd_dvd_natAbs_right g b)
  omega
theorem rnC_ok {m x y b : Int} (hb : b ≠ 0) (h1 : -BIG ≤ b) (h2 : b ≤ BIG) (a : Int) : CDiv a (rnC m x y b) := by
  have := gcd_bound (g := (Int.gcd (rnX m x y) (rnY m y) : Int)) hb
  unfold rnC
  split <;> exact cdiv_big (by omega) (by omega) (by omega)
theorem rd_root_by : ∀ ds M Q, ds.length = 4 → sp_root_by ds M Q DX0 → t_root_by sp_isq sp_gcd (dEnds M Q) (startD 6 ds) M := by
  rintro _ M Q - ⟨m, x, y, b, rfl, h0, hB, y1, y2, b1, b2, hb, q⟩
  unfold t_root_by
  walk_at "rd"
  have hs : Sm (isq m) := sm_big (by have := isq_nn m; omega) (Int.le_trans (isq_le_self h0) hB)
  have hy : Sm y := sm_big y1 y2
  have cd := fun a => rnC_ok (m := m) (x := x) (y := y) hb b1 b2 a
  unfold rootN at q
  refine ⟨m, rfl, h0, hB, ⟨hs, hs⟩, ?_⟩
  by_cases hm : isSq m
  · rw [if_pos (show isq m * isq m = m from hm)]
    refine ⟨⟨hy, hs⟩, ?_⟩
    have ex : rnX m x y = x + y * isq m := if_pos hm
    have ey : rnY m y = 0 := if_pos hm
    refine ⟨_, _, rfl, _, _, rfl, ?_⟩
    rw [ex, ey] at q
    dsimp only
    by_cases h : b < 0
    · have ec : rnC m x y b = 0 - (Int.gcd (Int.gcd (x + y * isq m) 0 : Int) b : Int) := by unfold rnC; rw [if_pos h, ex, ey]
      rw [if_pos h, ← ec]
      exact ⟨cd _, cd _, cd _, rtq q⟩
    · have ec : rnC m x y b = (Int.gcd (Int.gcd (x + y * isq m) 0 : Int) b : Int) := by unfold rnC; rw [if_neg h, ex, ey]
      rw [if_neg h, ← ec]
      exact ⟨cd _, cd _, cd _, rtq q⟩
  · rw [if_neg (show ¬ isq m * isq m = m from hm)]
    have ex : rnX m x y = x := if_neg hm
    have ey : rnY m y = y := if_neg hm
    refine ⟨_, _, rfl, _, _, rfl, ?_⟩
    dsimp only
    by_cases h : b < 0
    · have ec : rnC m x y b = 0 - (Int.gcd (Int.gcd x y : Int) b : Int) := by unfold rnC; rw [if_pos h, ex, ey]
      rw [if_pos h, ← ec]
      rw [ex, ey] at q
      exact ⟨cd _, cd _, cd _, rtq q⟩
    · have ec : rnC m x y b = (Int.gcd (Int.gcd x y : Int) b : Int) := by unfold rnC; rw [if_neg h, ex, ey]
      rw [if_neg h, ← ec]
      rw [ex, ey] at q
      exact ⟨cd _, cd _, cd _, rtq q⟩
end DL
namespace DL
open PySem PySem.Spec PyProof.Rows L2
local macro_rules | `(tactic| walk_at "rd") => `(tactic| simp only [startD, List.map, List.replicate, List.length_cons, List.length_nil, List.append_eq, List.append_nil, List.nil_append, List.cons_append, Nat.reduceSub, Nat.reduceAdd, List.getElem?_cons_zero, List.getElem?_cons_succ, List.set_cons_zero, List.set_cons_succ,
  dC, dVar, dOp, dTru, gTru, tru, dChain, dAnd, dOr, dNot, dAndV, dOrV, dNotV, dIf, dNeg, gNeg, dNil, dCons, dTup, dLst, dOwn, gIx, rBin, gAdd, gCmpI, dCall, dCallK, dSeq, dNext, dDrop, dRet, dRetN, dIfS, dName, dGNil, dGCons, dGTup, dSub, gSetL, dAsg, dPar, dPar3, dAug, gIpI, dSeqI, gSeqI, dRngI, gRng1, gRng2, dCB, gAbs, gInt, gMax, gMin, gGcd, gLen, lenD, gIsi, tyM, tyD, dBits, gBits, dMet, gAppend, dPart, dNoPart, dSl, dEnds, gIs, isB, dNever, dFor, dLc, wipeD, dYes,
  sizeLine_eq, Nat.reduceLeDiff, gEq_int, gNe_int, gEq_strs, gNe_strs, gIn_two, gRepr_bl, rs_lst, rs_tup, rs_scr, rs_int, atI_0, atI_1, atI_2, atI_3, atI_4, atI_5, ixN_30, ixN_31, ixN_32, gEq_bl, gNe_bl, decide_eq_true_eq, beq_iff_eq, Bool.not_eq_true', beq_eq_false_iff_ne, decide_eq_false_iff_not, Bool.not_true, Bool.not_false, if_true, if_false, Bool.false_eq_true, ite_true, ite_false, true_and, and_true, ne_eq, Bool.bne_false, Bool.bne_true, reduceCtorEq])
local macro_rules | `(tactic| walk_at "rh") => `(tactic| simp only [*, startD, List.map, List.replicate, List.length_cons, List.length_nil, List.append_eq, List.append_nil, List.nil_append, List.cons_append, Nat.reduceSub, Nat.reduceAdd, List.getElem?_cons_zero, List.getElem?_cons_succ, List.set_cons_zero, List.set_cons_succ,
  dC, dVar, dOp, dTru, gTru, tru, dChain, dAnd, dOr, dNot, dAndV, dOrV, dNotV, dIf, dNeg, gNeg, dNil, dCons, dTup, dLst, dOwn, gIx, rBin, gAdd, gCmpI, dCall, dCallK, dSeq, dNext, dDrop, dRet, dRetN, dIfS, dName, dGNil, dGCons, dGTup, dSub, gSetL, dAsg, dPar, dPar3, dAug, gIpI, dSeqI, gSeqI, dRngI, gRng1, gRng2, dCB, gAbs, gInt, gMax, gMin, gGcd, gLen, lenD, gIsi, tyM, tyD, dBits, gBits, dMet, gAppend, dPart, dNoPart, dSl, dEnds, gIs, isB, dNever, dFor, dLc, wipeD, dYes,
  sizeLine_eq, Nat.reduceLeDiff, gEq_int, gNe_int, gEq_strs, gNe_strs, gIn_two, gRepr_bl, rs_lst, rs_tup, rs_scr, rs_int, atI_0, atI_1, atI_2, atI_3, atI_4, atI_5, ixN_30, ixN_31, ixN_32, gEq_bl, gNe_bl, decide_eq_true_eq, beq_iff_eq, Bool.not_eq_true', beq_eq_false_iff_ne, decide_eq_false_iff_not, Bool.not_true, Bool.not_false, if_true, if_false, Bool.false_eq_true, ite_true, ite_false, true_and, and_true, ne_eq, Bool.bne_false, Bool.bne_true, reduceCtorEq])
local macro_rules | `(tactic| walk_at "kb") => `(tactic| simp only [kb_NoneType_list, kb_bool_list, kb_int_list, kb_str_list, kb_tuple_list, kb_list_list, kb_dict_list, kb_NoneType_int, kb_bool_int, kb_int_int, kb_str_int, kb_tuple_int, kb_list_int, kb_dict_int, kb_NoneType_bool, kb_bool_bool, kb_int_bool, kb_str_bool, kb_tuple_bool, kb_list_bool, kb_dict_bool, kb_NoneType_tuple, kb_bool_tuple, kb_int_tuple, kb_str_tuple, kb_tuple_tuple, kb_list_tuple, kb_dict_tuple, if_true, if_false, Bool.false_eq_true, ite_true, ite_false, Bool.not_true, Bool.not_false])
/-! ### the law's own draws -/
theorem sm_of {i : Int} (n : Nat) (h1 : -(2 ^ n : Int) < i) (h2 : i < 2 ^ n) (hn : n ≤ 400000 := by decide) : Sm i := by
  refine Sm.of n ?_ hn
  have e : ((2 ^ n : Nat) : Int) = (2 : Int) ^ n := by rw [Int.natCast_pow]; rfl
  omega
theorem fm_range {a b : Int} (h : 0 < b) : 0 ≤ a.fmod b ∧ a.fmod b < b := by
  rw [fmod_pos h]
  exact ⟨Int.emod_nonneg _ (by omega), Int.emod_lt_of_pos _ h⟩
def P31 : Int := 2147483648
def P40 : Int := 1099511627776
def sp_hash : DSp := fun ds M Q _ => ∃ s c : Int, ds = [.int s, .int c] ∧ 0 ≤ s ∧ s < P31 ∧ 0 ≤ c ∧ c ≤ P40 ∧ ∀ v, 0 ≤ v → v < P31 → Q (.int v) M
/-- cell k is a generator that has counted n, at most -/
def Gn (k : Nat) (n : Int) (M : Mem) : Prop := ∃ a s c : Int, M[k]? = some (.lst [.int a, .int s, .int c]) ∧ 0 ≤ s ∧ s < P31 ∧ 0 ≤ c ∧ c ≤ n
/-- cell k alone has changed -/
def Gst (k : Nat) (n : Int) (M M' : Mem) : Prop := M'.length = M.length ∧ Gn k n M' ∧ ∀ i, i ≠ k → M'[i]? = M[i]?
theorem Gn.le {k : Nat} {n m : Int} {M : Mem} (h : Gn k n M) (hn : n ≤ m) : Gn k m M := by
  obtain ⟨a, s, c, h1, h2, h3, h4, h5⟩ := h
  exact ⟨a, s, c, h1, h2, h3, h4, by omega⟩
theorem Gst.refl {k : Nat} {n : Int} {M : Mem} (h : Gn k n M) : Gst k n M M := ⟨rfl, h, fun _ _ => rfl⟩
theorem Gst.trans {k : Nat} {n m : Int} {M M' M'' : Mem} (h : Gst k n M M') (g : Gst k m M' M'') : Gst k m M M'' :=
  ⟨g.1.trans h.1, g.2.1, fun i hi => (g.2.2 i hi).trans (h.2.2 i hi)⟩
theorem Gst.le {k : Nat} {n m : Int} {M M' : Mem} (h : Gst k n M M') (hn : n ≤ m) : Gst k m M M' := ⟨h.1, h.2.1.le hn, h.2.2⟩
theorem Gst.set {k : Nat} {n : Int} {M : Mem} {a s c : Int} (hk : k < M.length) (h2 : 0 ≤ s) (h3 : s < P31) (h4 : 0 ≤ c) (h5 : c ≤ n) : Gst k n M (M.set k (.lst [.int a, .int s, .int c])) :=
  ⟨List.length_set, ⟨a, s, c, List.getElem?_set_self hk, h2, h3, h4, h5⟩, fun _ hi => List.getElem?_set_ne (Ne.symm hi)⟩
/-- a def that has changed the generator alone -/
theorem Gst.rtq {k : Nat} {n : Int} {M M' : Mem} {Q : DQ} {d : D} (h : Gst k n M M') (q : Q d M') (hb : below M'.length d = true := by rfl) : Rtq M Q d M' := by
  refine rtqC q (Nat.le_of_eq h.1.symm) hb fun i c hc => ?_
  by_cases hi : i = k
  · subst hi
    obtain ⟨a, s, c', e, _⟩ := h.2.1
    rw [e] at hc
    cases hc
    exact .inr rfl
  · rw [h.2.2 i hi] at hc
    exact .inl hc
def sp_random : DSp := fun ds M Q _ => ∃ (k : Nat) (b n : Int), ds = [.own k, .int b] ∧ 0 < b ∧ b < 2 ^ 900 ∧ Gn k n M ∧ n ≤ P40 - 40 ∧ ∀ v M', 0 ≤ v → v < b → Gst k (n + 40) M M' → Q (.int v) M'
theorem bits_le {b : Int} {n : Nat} (h0 : 0 < b) (h : b < 2 ^ n) : Builtin.Int.intBits b ≤ n := by
  unfold Builtin.Int.intBits
  rw [if_neg (by simp; omega)]
  have h1 : b.natAbs < 2 ^ n := by
    have e : ((2 ^ n : Nat) : Int) = (2 : Int) ^ n := by rw [Int.natCast_pow]; rfl
    omega
  have := (Nat.log2_lt (by omega)).mpr h1
  omega
theorem rd_l_random_7821 : ∀ ds M Q, ds.length = 2 → sp_random ds M Q DX0 → t_l_random_7821 sp_hash (dEnds M Q) (startD 4 ds) M := by
  rintro _ M Q - ⟨k, b, n, rfl, b0, b1, ⟨a, s, c, hk, s0, s1, c0, c1⟩, hn, q⟩
  have kl : k < M.length := (List.getElem?_eq_some_iff.mp hk).1
  unfold t_l_random_7821
  walk_at "rd"
  have e0 : res M (.own k) = .lst [.int a, .int s, .int c] := by unfold res; dsimp only; rw [hk]
  simp only [e0, hk]
  walk_at "rd"
  by_cases ha : 0 < a
  · rw [if_pos ha]
    have := fm_range (a := a) b0
    refine ⟨(by omega : b ≠ 0), ⟨by omega, Nat.lt_of_lt_of_le (log2_of 900 (by
      have e : ((2 ^ 900 : Nat) : Int) = (2 : Int) ^ 900 := by rw [Int.natCast_pow]; rfl
      omega) (by decide)) (by decide)⟩, ?_⟩
    exact (Gst.set kl s0 s1 c0 (by omega)).rtq (q _ _ this.1 this.2 (Gst.set kl s0 s1 c0 (by omega)))
  · rw [if_neg ha]
    have hb := bits_le b0 b1
    generalize hbits : Builtin.Int.intBits b = bits at hb
    have ef : ((bits : Nat) : Int).fdiv 30 = (bits / 30 : Nat) := by rw [fdiv_pos (by decide)]; omega
    rw [ef]
    refine ⟨⟨by decide, by decide⟩, ⟨by omega, by omega⟩, ?_⟩
    have eT : (1 + ((bits / 30 : Nat) : Int)).toNat = 1 + bits / 30 := by omega
    rw [eT]
    generalize hT : 1 + bits / 30 = T
    have hT1 : T ≤ 31 := by omega
    refine ⟨fun i r M' => i ≤ T ∧ Gst k (n + i) M M' ∧ ∃ dr tn, r = [some (.own k), some (.int b), some (.int dr), tn] ∧ 0 ≤ dr ∧ dr < 2 ^ (32 * i), ⟨by omega, ⟨rfl, ⟨a, s, c, hk, s0, s1, c0, by omega⟩, fun _ _ => rfl⟩, 0, _, rfl, by decide, by decide⟩, ?_⟩
    rintro i r M' ⟨hi, hg, dr, tn, rfl, d0, d1⟩
    refine ⟨trivial, fun hl => ?_, fun d hd => ?_⟩
    · walk_at "rd"
      have := fm_range (a := dr) b0
      exact ⟨(by omega : b ≠ 0), hg.rtq (q _ _ this.1 this.2 (hg.le (by omega)))⟩
    · obtain ⟨hi2, rfl⟩ := rng_get.mp hd
      obtain ⟨a', s', c', hk', s0', s1', c0', c1'⟩ := hg.2.1
      have kl' : k < M'.length := (List.getElem?_eq_some_iff.mp hk').1
      have e1 : res M' (.own k) = .lst [.int a', .int s', .int c'] := by unfold res; dsimp only; rw [hk']
      walk_at "rd"
      simp only [e1, hk']
      walk_at "rd"
      have e2 : res (M'.set k (.lst [.int a', .int s', .int (c' + 1)])) (.own k) = .lst [.int a', .int s', .int (c' + 1)] := by unfold res; dsimp only; rw [List.getElem?_set_self kl']
      simp only [e2]
      walk_at "rd"
      have sd : Sm dr := sm_of (32 * i) (by have := Int.pow_pos (n := 2) (m := 32 * i) (by decide); omega) d1 (by omega)
      unfold P40 at hn
      refine ⟨⟨sd, sm_of 32 (by decide) (by decide)⟩, s', c' + 1, rfl, s0', s1', by omega, by unfold P40; omega, fun v v0 v1 => ?_⟩
      refine ⟨by omega, hg.trans (Gst.set kl' s0' s1' (by omega) (by omega)), _, _, rfl, by omega, ?_⟩
      unfold P31 at v1
      have e3 : (2 : Int) ^ (32 * (i + 1)) = 2 ^ (32 * i) * 4294967296 := by rw [Nat.mul_add, Int.pow_add]; rfl
      rw [e3]
      omega
def sp_cell : DSp := fun ds M Q _ => ∃ (ns : List Int) (i : Int), ds = [.scr ns, .int i] ∧ 0 ≤ i ∧ ∀ v, Q (.int v) M
theorem rd_l_cell_cf3b : ∀ ds M Q, ds.length = 2 → sp_cell ds M Q DX0 → t_l_cell_cf3b (dEnds M Q) (startD 2 ds) M := by
  rintro _ M Q - ⟨ns, i, rfl, i0, q⟩
  unfold t_l_cell_cf3b
  walk_at "rd"
  by_cases hi : i < (ns.length : Nat)
  · rw [if_pos hi]
    have e : i = (i.toNat : Nat) := by omega
    have hl : i.toNat < ns.length := by omega
    rw [e, atI_of _ hl, List.getElem?_eq_getElem hl]
    exact rtq (q _)
  · rw [if_neg hi]
    obtain ⟨xs, ex⟩ := cut_map ns none (some 1)
    unfold gSlL
    walk_at "rd"
    rw [ex]
    unfold gSum
    walk_at "rd"
    rw [intsD_map]
    exact ⟨(by decide : (1000003 : Int) ≠ 0), rtq (q _)⟩
def sp_generator : DSp := fun ds M Q _ => ∃ (ns : List Int) (i : Int), ds = [.scr ns, .int i] ∧ 0 ≤ i ∧ i < P31 ∧ ∀ M', M'.length = M.length + 1 → Gn M.length (1000 * i) M' → (∀ j, j < M.length → M'[j]? = M[j]?) → Q (.own M.length) M'
theorem rd_l_generator_b324 : ∀ ds M Q, ds.length = 2 → sp_generator ds M Q DX0 → t_l_generator_b324 sp_cell (dEnds M Q) (startD 3 ds) M := by
  rintro _ M Q - ⟨ns, i, rfl, i0, i1, q⟩
  unfold t_l_generator_b324
  walk_at "rd"
  refine ⟨ns, i, rfl, i0, fun v => ?_⟩
  dsimp only
  have cp : CPow 10 18 ∧ CPow 10 60 ∧ CPow (10 ^ Int.toNat 60) 10 := by refine ⟨?_, ?_, ?_⟩ <;> (unfold CPow; decide)
  have hi : Sm i := by unfold P31 at i1; exact sm_of 32 (by omega) (by omega)
  refine ⟨cp.1, cp.2.1, cp.2.2, ?_, (by decide : (2147483647 : Int) ≠ 0), ⟨Sm.of 20 (by decide), hi⟩, ?_⟩
  · have h1 : (0 : Int) < (10 ^ Int.toNat 60) ^ Int.toNat 10 := Int.pow_pos (Int.pow_pos (by decide))
    exact fun e => by rw [e] at h1; exact absurd h1 (by decide)
  · have g := fm_range (a := v) (b := 2147483647) (by decide)
    have hl : ∀ c : Own, (M ++ [c])[M.length]? = some c := fun c => by rw [List.getElem?_append_right (Nat.le_refl _), Nat.sub_self]; rfl
    refine rtqC (q _ (by simp) ⟨_, _, _, hl _, g.1, by unfold P31; omega, by omega, Int.le_refl _⟩ fun j hj => List.getElem?_append_left hj) (by simp) (by simp only [below]; exact decide_eq_true (by simp)) fun j c hc => ?_
    by_cases hj : j < M.length
    · rw [List.getElem?_append_left hj] at hc; exact .inl hc
    · have hj2 : j < M.length + 1 := by
        have := (List.getElem?_eq_some_iff.mp hc).1
        simpa using this
      have e : j = M.length := by omega
      subst e
      rw [hl] at hc
      cases hc
      exact .inr rfl
def P400 : Int := 2 ^ 400
theorem p400_900 : P400 < 2 ^ 900 := by
  unfold P400
  have h : (2 : Nat) ^ 400 < 2 ^ 900 := Nat.pow_lt_pow_right (by decide) (by decide)
  have e : ((2 ^ 400 : Nat) : Int) = (2 : Int) ^ 400 := by rw [Int.natCast_pow]; rfl
  have e2 : ((2 ^ 900 : Nat) : Int) = (2 : Int) ^ 900 := by rw [Int.natCast_pow]; rfl
  omega
theorem p400_ten {i : Nat} (h : i ≤ 110) : 5 * (10 : Int) ^ i + 10 ≤ P400 := by
  have h1 : (10 : Int) ^ i ≤ 10 ^ 110 := by
    have h0 : (10 : Nat) ^ i ≤ 10 ^ 110 := Nat.pow_le_pow_right (by decide) h
    have e : ((10 ^ i : Nat) : Int) = (10 : Int) ^ i := by rw [Int.natCast_pow]; rfl
    have e2 : ((10 ^ 110 : Nat) : Int) = (10 : Int) ^ 110 := by rw [Int.natCast_pow]; rfl
    omega
  have h2 : 5 * (10 : Int) ^ 110 + 10 ≤ P400 := by unfold P400; decide +kernel
  omega
end DL
namespace DL
open PySem PySem.Spec PyProof.Rows L2
local macro_rules | `(tactic| walk_at "rd") => `(tactic| simp only [startD, List.map, List.replicate, List.length_cons, List.length_nil, List.append_eq, List.append_nil, List.nil_append, List.cons_append, Nat.reduceSub, Nat.reduceAdd, List.getElem?_cons_zero, List.getElem?_cons_succ, List.set_cons_zero, List.set_cons_succ,
  dC, dVar, dOp, dTru, gTru, tru, dChain, dAnd, dOr, dNot, dAndV, dOrV, dNotV, dIf, dNeg, gNeg, dNil, dCons, dTup, dLst, dOwn, gIx, rBin, gAdd, gCmpI, dCall, dCallK, dSeq, dNext, dDrop, dRet, dRetN, dIfS, dName, dGNil, dGCons, dGTup, dSub, gSetL, dAsg, dPar, dPar3, dAug, gIpI, dSeqI, gSeqI, dRngI, gRng1, gRng2, dCB, gAbs, gInt, gMax, gMin, gGcd, gLen, lenD, gIsi, tyM, tyD, dBits, gBits, dMet, gAppend, dPart, dNoPart, dSl, dEnds, gIs, isB, dNever, dFor, dLc, wipeD, dYes,
  sizeLine_eq, Nat.reduceLeDiff, gEq_int, gNe_int, gEq_strs, gNe_strs, gIn_two, gRepr_bl, rs_lst, rs_tup, rs_scr, rs_int, atI_0, atI_1, atI_2, atI_3, atI_4, atI_5, ixN_30, ixN_31, ixN_32, gEq_bl, gNe_bl, decide_eq_true_eq, beq_iff_eq, Bool.not_eq_true', beq_eq_false_iff_ne, decide_eq_false_iff_not, Bool.not_true, Bool.not_false, if_true, if_false, Bool.false_eq_true, ite_true, ite_false, true_and, and_true, ne_eq, Bool.bne_false, Bool.bne_true, reduceCtorEq])
local macro_rules | `(tactic| walk_at "rh") => `(tactic| simp only [*, startD, List.map, List.replicate, List.length_cons, List.length_nil, List.append_eq, List.append_nil, List.nil_append, List.cons_append, Nat.reduceSub, Nat.reduceAdd, List.getElem?_cons_zero, List.getElem?_cons_succ, List.set_cons_zero, List.set_cons_succ,
  dC, dVar, dOp, dTru, gTru, tru, dChain, dAnd, dOr, dNot, dAndV, dOrV, dNotV, dIf, dNeg, gNeg, dNil, dCons, dTup, dLst, dOwn, gIx, rBin, gAdd, gCmpI, dCall, dCallK, dSeq, dNext, dDrop, dRet, dRetN, dIfS, dName, dGNil, dGCons, dGTup, dSub, gSetL, dAsg, dPar, dPar3, dAug, gIpI, dSeqI, gSeqI, dRngI, gRng1, gRng2, dCB, gAbs, gInt, gMax, gMin, gGcd, gLen, lenD, gIsi, tyM, tyD, dBits, gBits, dMet, gAppend, dPart, dNoPart, dSl, dEnds, gIs, isB, dNever, dFor, dLc, wipeD, dYes,
  sizeLine_eq, Nat.reduceLeDiff, gEq_int, gNe_int, gEq_strs, gNe_strs, gIn_two, gRepr_bl, rs_lst, rs_tup, rs_scr, rs_int, atI_0, atI_1, atI_2, atI_3, atI_4, atI_5, ixN_30, ixN_31, ixN_32, gEq_bl, gNe_bl, decide_eq_true_eq, beq_iff_eq, Bool.not_eq_true', beq_eq_false_iff_ne, decide_eq_false_iff_not, Bool.not_true, Bool.not_false, if_true, if_false, Bool.false_eq_true, ite_true, ite_false, true_and, and_true, ne_eq, Bool.bne_false, Bool.bne_true, reduceCtorEq])
local macro_rules | `(tactic| walk_at "kb") => `(tactic| simp only [kb_NoneType_list, kb_bool_list, kb_int_list, kb_str_list, kb_tuple_list, kb_list_list, kb_dict_list, kb_NoneType_int, kb_bool_int, kb_int_int, kb_str_int, kb_tuple_int, kb_list_int, kb_dict_int, kb_NoneType_bool, kb_bool_bool, kb_int_bool, kb_str_bool, kb_tuple_bool, kb_list_bool, kb_dict_bool, kb_NoneType_tuple, kb_bool_tuple, kb_int_tuple, kb_str_tuple, kb_tuple_tuple, kb_list_tuple, kb_dict_tuple, if_true, if_false, Bool.false_eq_true, ite_true, ite_false, Bool.not_true, Bool.not_false])
theorem fine_ty {n : Nat} {d : D} (M : Mem) (h : fine n d = true) : ∃ T, tyM M d = some T := by
  cases d <;> first | exact ⟨_, rfl⟩ | (simp [fine] at h)
theorem rootable_fine {d : D} (M : Mem) (h : fine 41 d = true) : Rootable M d := by
  refine ⟨fine_ty M h, ?_⟩
  rintro l rfl h3 e he
  have h' : fineAll 40 l = true := by simpa only [fine] using h
  have := fineAll_iff.mp h' e he
  exact ⟨this, fine_ty M this⟩
theorem dSeq_open {a b : DTS} {E : DEnds} {r : Env} {M : Mem} (h : ∀ B : Env → Mem → Prop, b E = B → a { E with nx := B } r M) : dSeq a b E r M := h _ rfl
/-! ### the least form: scaled, its size -/
theorem gcd_dvd3 (X Y b : Int) : (Int.gcd (Int.gcd X Y : Int) b : Int) ∣ X ∧ (Int.gcd (Int.gcd X Y : Int) b : Int) ∣ Y ∧ (Int.gcd (Int.gcd X Y : Int) b : Int) ∣ b :=
  ⟨Int.dvd_trans (Int.gcd_dvd_left _ _) (Int.gcd_dvd_left _ _), Int.dvd_trans (Int.gcd_dvd_left _ _) (Int.gcd_dvd_right _ _), Int.gcd_dvd_right _ _⟩
theorem rnC_dvd (m x y b : Int) : rnC m x y b ∣ rnX m x y ∧ rnC m x y b ∣ rnY m y ∧ rnC m x y b ∣ b := by
  have h := gcd_dvd3 (rnX m x y) (rnY m y) b
  unfold rnC
  split
  · rw [Int.zero_sub]
    exact ⟨Int.neg_dvd.mpr h.1, Int.neg_dvd.mpr h.2.1, Int.neg_dvd.mpr h.2.2⟩
  · exact h
theorem rnC_ne {m x y b : Int} (hb : b ≠ 0) : rnC m x y b ≠ 0 := by
  have := gcd_bound (g := (Int.gcd (rnX m x y) (rnY m y) : Int)) hb
  unfold rnC
  split <;> omega
theorem fdiv_scale {k a c : Int} (hk : k ≠ 0) (hc : c ≠ 0) (h : c ∣ a) : (k * a).fdiv (k * c) = a.fdiv c := by
  obtain ⟨t, rfl⟩ := h
  rw [Int.mul_fdiv_cancel_left _ hc, ← Int.mul_assoc, Int.mul_fdiv_cancel_left]
  exact Int.mul_ne_zero hk hc
theorem rnX_scale (k m x y : Int) : rnX m (k * x) (k * y) = k * rnX m x y := by
  unfold rnX
  split
  · rw [Int.mul_add, Int.mul_assoc]
  · rfl
theorem rnY_scale (k m y : Int) : rnY m (k * y) = k * rnY m y := by
  unfold rnY
  split
  · rw [Int.mul_zero]
  · rfl
theorem mul_neg_iff {k b : Int} (hk : k < 0) : k * b < 0 ↔ 0 < b := by
  constructor
  · intro h
    by_cases z : 0 < b
    · exact z
    · have := Int.mul_nonneg_of_nonpos_of_nonpos (a := k) (b := b) (by omega) (by omega)
      omega
  · exact fun h => Int.mul_neg_of_neg_of_pos hk h
theorem mul_pos_iff' {k b : Int} (hk : 0 < k) : k * b < 0 ↔ b < 0 := by
  constructor
  · intro h
    by_cases z : b < 0
    · exact z
    · have := Int.mul_nonneg (a := k) (b := b) (by omega) (by omega)
      omega
  · exact fun h => Int.mul_neg_of_pos_of_neg hk h
theorem rnC_scale {k m x y b : Int} (hk : k ≠ 0) (hb : b ≠ 0) : rnC m (k * x) (k * y) (k * b) = k * rnC m x y b := by
  unfold rnC
  rw [rnX_scale, rnY_scale]
  have e : (Int.gcd (Int.gcd (k * rnX m x y) (k * rnY m y) : Int) (k * b) : Int) = k.natAbs * (Int.gcd (Int.gcd (rnX m x y) (rnY m y) : Int) b : Int) := by
    rw [Int.gcd_mul_left]
    have e2 : ((k.natAbs * Int.gcd (rnX m x y) (rnY m y) : Nat) : Int) = (k.natAbs : Int) * (Int.gcd (rnX m x y) (rnY m y) : Int) := Int.natCast_mul _ _
    have e3 : ∀ (u v : Int), Int.gcd ((k.natAbs : Int) * u) (k * v) = k.natAbs * Int.gcd u v := by
      intro u v
      unfold Int.gcd
      rw [Int.natAbs_mul, Int.natAbs_mul, Int.natAbs_natCast, Nat.gcd_mul_left]
    rw [e2, e3, Int.natCast_mul]
  rw [e]
  generalize (Int.gcd (Int.gcd (rnX m x y) (rnY m y) : Int) b : Int) = g
  rcases (by omega : 0 < k ∨ k < 0) with h | h
  · have ek : (k.natAbs : Int) = k := by omega
    rw [ek]
    simp only [mul_pos_iff' h]
    split
    · rw [Int.mul_sub, Int.mul_zero]
    · rfl
  · have ek : (k.natAbs : Int) = -k := by omega
    rw [ek]
    simp only [mul_neg_iff h]
    by_cases z : 0 < b
    · rw [if_pos z, if_neg (by omega), Int.neg_mul]; omega
    · rw [if_neg z, if_pos (by omega), Int.neg_mul, Int.mul_sub]; omega
theorem rootN_scale {k m x y b : Int} (hk : k ≠ 0) (hb : b ≠ 0) : rootN m (k * x) (k * y) (k * b) = rootN m x y b := by
  have h := rnC_dvd m x y b
  have h0 := rnC_ne (m := m) (x := x) (y := y) hb
  unfold rootN
  rw [rnC_scale hk hb, rnX_scale, rnY_scale, fdiv_scale hk h0 h.1, fdiv_scale hk h0 h.2.1, fdiv_scale hk h0 h.2.2]
theorem str_self (z : Str) : (z == z) = true := by simp
theorem lit_cons {B : Nat} {d : D} {l : List D} (h : lit B d = true) (h2 : litAll B l = true) : litAll B (d :: l) = true := by
  simp only [litAll, h, h2, Bool.and_self]
end DL
namespace DL
open PySem PySem.Spec PyProof.Rows L2
local macro_rules | `(tactic| walk_at "rd") => `(tactic| simp only [startD, List.map, List.replicate, List.length_cons, List.length_nil, List.append_eq, List.append_nil, List.nil_append, List.cons_append, Nat.reduceSub, Nat.reduceAdd, List.getElem?_cons_zero, List.getElem?_cons_succ, List.set_cons_zero, List.set_cons_succ,
  dC, dVar, dOp, dTru, gTru, tru, dChain, dAnd, dOr, dNot, dAndV, dOrV, dNotV, dIf, dNeg, gNeg, dNil, dCons, dTup, dLst, dOwn, gIx, rBin, gAdd, gCmpI, dCall, dCallK, dSeq, dNext, dDrop, dRet, dRetN, dIfS, dName, dGNil, dGCons, dGTup, dSub, gSetL, dAsg, dPar, dPar3, dAug, gIpI, dSeqI, gSeqI, dRngI, gRng1, gRng2, dCB, gAbs, gInt, gMax, gMin, gGcd, gLen, lenD, gIsi, tyM, tyD, dBits, gBits, dMet, gAppend, dPart, dNoPart, dSl, dEnds, gIs, isB, dNever, dFor, dLc, wipeD, dYes,
  sizeLine_eq, Nat.reduceLeDiff, gEq_int, gNe_int, gEq_strs, gNe_strs, gIn_two, gRepr_bl, rs_lst, rs_tup, rs_scr, rs_int, atI_0, atI_1, atI_2, atI_3, atI_4, atI_5, ixN_30, ixN_31, ixN_32, gEq_bl, gNe_bl, decide_eq_true_eq, beq_iff_eq, Bool.not_eq_true', beq_eq_false_iff_ne, decide_eq_false_iff_not, Bool.not_true, Bool.not_false, if_true, if_false, Bool.false_eq_true, ite_true, ite_false, true_and, and_true, ne_eq, Bool.bne_false, Bool.bne_true, reduceCtorEq])
local macro_rules | `(tactic| walk_at "rh") => `(tactic| simp only [*, startD, List.map, List.replicate, List.length_cons, List.length_nil, List.append_eq, List.append_nil, List.nil_append, List.cons_append, Nat.reduceSub, Nat.reduceAdd, List.getElem?_cons_zero, List.getElem?_cons_succ, List.set_cons_zero, List.set_cons_succ,
  dC, dVar, dOp, dTru, gTru, tru, dChain, dAnd, dOr, dNot, dAndV, dOrV, dNotV, dIf, dNeg, gNeg, dNil, dCons, dTup, dLst, dOwn, gIx, rBin, gAdd, gCmpI, dCall, dCallK, dSeq, dNext, dDrop, dRet, dRetN, dIfS, dName, dGNil, dGCons, dGTup, dSub, gSetL, dAsg, dPar, dPar3, dAug, gIpI, dSeqI, gSeqI, dRngI, gRng1, gRng2, dCB, gAbs, gInt, gMax, gMin, gGcd, gLen, lenD, gIsi, tyM, tyD, dBits, gBits, dMet, gAppend, dPart, dNoPart, dSl, dEnds, gIs, isB, dNever, dFor, dLc, wipeD, dYes,
  sizeLine_eq, Nat.reduceLeDiff, gEq_int, gNe_int, gEq_strs, gNe_strs, gIn_two, gRepr_bl, rs_lst, rs_tup, rs_scr, rs_int, atI_0, atI_1, atI_2, atI_3, atI_4, atI_5, ixN_30, ixN_31, ixN_32, gEq_bl, gNe_bl, decide_eq_true_eq, beq_iff_eq, Bool.not_eq_true', beq_eq_false_iff_ne, decide_eq_false_iff_not, Bool.not_true, Bool.not_false, if_true, if_false, Bool.false_eq_true, ite_true, ite_false, true_and, and_true, ne_eq, Bool.bne_false, Bool.bne_true, reduceCtorEq])
local macro_rules | `(tactic| walk_at "kb") => `(tactic| simp only [kb_NoneType_list, kb_bool_list, kb_int_list, kb_str_list, kb_tuple_list, kb_list_list, kb_dict_list, kb_NoneType_int, kb_bool_int, kb_int_int, kb_str_int, kb_tuple_int, kb_list_int, kb_dict_int, kb_NoneType_bool, kb_bool_bool, kb_int_bool, kb_str_bool, kb_tuple_bool, kb_list_bool, kb_dict_bool, kb_NoneType_tuple, kb_bool_tuple, kb_int_tuple, kb_str_tuple, kb_tuple_tuple, kb_list_tuple, kb_dict_tuple, if_true, if_false, Bool.false_eq_true, ite_true, ite_false, Bool.not_true, Bool.not_false])
/-! ### bits -/
def Bi (n : Nat) (i : Int) : Prop := i.natAbs < 2 ^ n
theorem Bi.mono {n k : Nat} {i : Int} (h : Bi n i) (hk : n ≤ k := by decide) : Bi k i := Nat.lt_of_lt_of_le h (Nat.pow_le_pow_right (by decide) hk)
theorem Bi.mul {n k : Nat} {i j : Int} (h : Bi n i) (g : Bi k j) : Bi (n + k) (i * j) := by
  unfold Bi at *
  rw [Int.natAbs_mul, Nat.pow_add]
  exact Nat.mul_lt_mul'' h g
theorem Bi.add {n : Nat} {i j : Int} (h : Bi n i) (g : Bi n j) : Bi (n + 1) (i + j) := by
  unfold Bi at *
  rw [Nat.pow_succ]
  omega
theorem Bi.sub {n : Nat} {i j : Int} (h : Bi n i) (g : Bi n j) : Bi (n + 1) (i - j) := by
  unfold Bi at *
  rw [Nat.pow_succ]
  omega
theorem Bi.neg {n : Nat} {i : Int} (h : Bi n i) : Bi n (0 - i) := by
  unfold Bi at *
  omega
theorem Bi.sm {n : Nat} {i : Int} (h : Bi n i) (hn : n ≤ 400000 := by decide) : Sm i := Sm.of n h hn
theorem Bi.big {n : Nat} {i : Int} (h : Bi n i) (hn : n ≤ 4000 := by decide) : -BIG ≤ i ∧ i ≤ BIG := by
  have h1 := bign_ge hn
  unfold Bi at h
  unfold BIG
  omega
theorem Bi.of_dvd {n : Nat} {c a x : Int} (h : Bi n x) (hc : c ≠ 0) (e : x = c * a) : Bi n a := by
  unfold Bi at *
  rw [e, Int.natAbs_mul] at h
  exact Nat.lt_of_le_of_lt (Nat.le_mul_of_pos_left _ (by omega)) h
theorem Bi.of_abs {n : Nat} {i : Int} (k : Nat) (h : i.natAbs ≤ k) (hk : k < 2 ^ n := by decide) : Bi n i := Nat.lt_of_le_of_lt h hk
/-! ### normal forms -/
abbrev T3 (a b c : Int) : D := .tup [.int a, .int b, .int c]
/-- (a, b, c) in least terms, over the measure m -/
structure NF (m a b c : Int) : Prop where
  pos : 1 ≤ c
  cop : Int.gcd (Int.gcd a b : Int) c = 1
  pr : isSq m → b = 0
theorem NF.is {m a b c : Int} (h : NF m a b c) : isRootD m (T3 a b c) = true := by
  have h1 := h.pos
  unfold isRootD
  simp only [T3, h1, decide_true, h.cop, Bool.true_and]
  by_cases hq : isSq m
  · rw [h.pr hq]; rfl
  · have : (isq m * isq m == m) = false := beq_eq_false_iff_ne.mpr hq
    simp [this]
def nC (X Y b : Int) : Int := if b < 0 then 0 - (Int.gcd (Int.gcd X Y : Int) b : Int) else (Int.gcd (Int.gcd X Y : Int) b : Int)
def nf (X Y b : Int) : D := T3 (X.fdiv (nC X Y b)) (Y.fdiv (nC X Y b)) (b.fdiv (nC X Y b))
theorem rootN_nf (m x y b : Int) : rootN m x y b = nf (rnX m x y) (rnY m y) b := rfl
theorem rootN_pr {m x y : Int} (b : Int) (h : isSq m → y = 0) : rootN m x y b = nf x y b := by
  rw [rootN_nf]
  by_cases hq : isSq m
  · have e := h hq
    subst e
    unfold rnX rnY
    rw [if_pos hq, if_pos hq, Int.zero_mul, Int.add_zero]
  · unfold rnX rnY
    rw [if_neg hq, if_neg hq]
theorem nf_parts (X Y : Int) {b : Int} (hb : b ≠ 0) : ∃ c a1 a2 a3, c ≠ 0 ∧ X = c * a1 ∧ Y = c * a2 ∧ b = c * a3 ∧ nf X Y b = T3 a1 a2 a3 ∧ 1 ≤ a3 ∧ Int.gcd (Int.gcd a1 a2 : Int) a3 = 1 := by
  have hg := gcd_dvd3 X Y b
  have hg0 := gcd_bound (g := (Int.gcd X Y : Int)) hb
  have hcd : nC X Y b ≠ 0 ∧ nC X Y b ∣ X ∧ nC X Y b ∣ Y ∧ nC X Y b ∣ b ∧ (nC X Y b).natAbs = Int.gcd (Int.gcd X Y : Int) b ∧ (nC X Y b < 0 ↔ b < 0) := by
    unfold nC
    split
    · refine ⟨by omega, ?_, ?_, ?_, by omega, by omega⟩
      · rw [Int.zero_sub]; exact Int.neg_dvd.mpr hg.1
      · rw [Int.zero_sub]; exact Int.neg_dvd.mpr hg.2.1
      · rw [Int.zero_sub]; exact Int.neg_dvd.mpr hg.2.2
    · exact ⟨by omega, hg.1, hg.2.1, hg.2.2, by omega, by omega⟩
  have hn : nf X Y b = T3 (X.fdiv (nC X Y b)) (Y.fdiv (nC X Y b)) (b.fdiv (nC X Y b)) := rfl
  generalize nC X Y b = c at hcd hn
  obtain ⟨h0, ⟨t1, e1⟩, ⟨t2, e2⟩, ⟨t3, e3⟩, hab, hsg⟩ := hcd
  rw [e1, e2, e3, Int.mul_fdiv_cancel_left _ h0, Int.mul_fdiv_cancel_left _ h0, Int.mul_fdiv_cancel_left _ h0] at hn
  refine ⟨c, t1, t2, t3, h0, e1, e2, e3, by rw [e1, e2, e3]; exact hn, ?_, ?_⟩
  · by_cases z : 1 ≤ t3
    · exact z
    · exfalso
      rcases (by omega : c < 0 ∨ 0 < c) with q | q
      · have h1 : 0 ≤ c * t3 := Int.mul_nonneg_of_nonpos_of_nonpos (by omega) (by omega)
        have := hsg.mp q
        omega
      · have h1 : c * t3 ≤ 0 := Int.mul_nonpos_of_nonneg_of_nonpos (by omega) (by omega)
        omega
  · have h2 : Int.gcd (Int.gcd X Y : Int) b = c.natAbs * Int.gcd (Int.gcd t1 t2 : Int) t3 := by
      rw [e1, e2, e3, Int.gcd_mul_left]
      have e4 : ((c.natAbs * Int.gcd t1 t2 : Nat) : Int) = (c.natAbs : Int) * (Int.gcd t1 t2 : Int) := Int.natCast_mul _ _
      rw [e4]
      unfold Int.gcd
      rw [Int.natAbs_mul, Int.natAbs_mul, Int.natAbs_natCast, Nat.gcd_mul_left]
    rw [← hab] at h2
    have h3 : c.natAbs * 1 = c.natAbs * Int.gcd (Int.gcd t1 t2 : Int) t3 := by omega
    exact (Nat.eq_of_mul_eq_mul_left (by omega) h3).symm
theorem nf_scale {k X Y b : Int} (hk : k ≠ 0) (hb : b ≠ 0) : nf (k * X) (k * Y) (k * b) = nf X Y b := by
  have h : ¬ isSq 2 := by
    have e : isq 2 = 1 := isq_uni (by decide) (by decide) (by decide)
    unfold isSq; rw [e]; decide
  rw [← rootN_pr (m := 2) (k * b) (fun z => absurd z h), ← rootN_pr (m := 2) b (fun z => absurd z h)]
  exact rootN_scale hk hb
theorem nf_eq {X Y b X' Y' b' : Int} (hb : b ≠ 0) (hb' : b' ≠ 0) (h1 : X * b' = X' * b) (h2 : Y * b' = Y' * b) : nf X Y b = nf X' Y' b' := by
  rw [← nf_scale hb' hb, ← nf_scale (X := X') (Y := Y') hb hb']
  have e1 : b' * X = b * X' := by rw [Int.mul_comm, h1, Int.mul_comm]
  have e2 : b' * Y = b * Y' := by rw [Int.mul_comm, h2, Int.mul_comm]
  rw [e1, e2, Int.mul_comm b' b]
theorem nf_self {a b c : Int} (h1 : 1 ≤ c) (h2 : Int.gcd (Int.gcd a b : Int) c = 1) : nf a b c = T3 a b c := by
  have e : nC a b c = 1 := by unfold nC; rw [if_neg (by omega), h2]; rfl
  unfold nf
  rw [e, Int.fdiv_one, Int.fdiv_one, Int.fdiv_one]
theorem NF.self {m a b c : Int} (h : NF m a b c) : rootN m a b c = T3 a b c := by
  rw [rootN_pr c h.pr, nf_self h.pos h.cop]
theorem rootN_partsX {m x y b : Int} (hb : b ≠ 0) : ∃ c a1 a2 a3, c ≠ 0 ∧ rnX m x y = c * a1 ∧ rnY m y = c * a2 ∧ b = c * a3 ∧ rootN m x y b = T3 a1 a2 a3 ∧ NF m a1 a2 a3 := by
  obtain ⟨c, a1, a2, a3, h0, e1, e2, e3, e4, h1, h2⟩ := nf_parts (rnX m x y) (rnY m y) hb
  refine ⟨c, a1, a2, a3, h0, e1, e2, e3, e4, h1, h2, fun q => ?_⟩
  have e5 : rnY m y = 0 := if_pos q
  rw [e5] at e2
  rcases Int.mul_eq_zero.mp e2.symm with z | z
  · exact absurd z h0
  · exact z
/-! ### sums, products, quotients -/
def Sz (n : Nat) (a b c : Int) : Prop := Bi n a ∧ Bi n b ∧ Bi n c
def rnPlus (m a1 a2 a3 b1 b2 b3 : Int) : D := rootN m (a1 * b3 + b1 * a3) (a2 * b3 + b2 * a3) (a3 * b3)
def rnTimes (m a1 a2 a3 b1 b2 b3 : Int) : D := rootN m (a1 * b1 + m * a2 * b2) (a1 * b2 + a2 * b1) (a3 * b3)
def sp_plus_by : DSp := fun ds M Q _ => ∃ m a1 a2 a3 b1 b2 b3 : Int, ds = [.int m, T3 a1 a2 a3, T3 b1 b2 b3] ∧ 0 ≤ m ∧ Bi 200 m ∧ a3 ≠ 0 ∧ b3 ≠ 0 ∧ Sz 1800 a1 a2 a3 ∧ Sz 1800 b1 b2 b3 ∧ Q (rnPlus m a1 a2 a3 b1 b2 b3) M
theorem rd_plus_by : ∀ ds M Q, ds.length = 3 → sp_plus_by ds M Q DX0 → t_plus_by sp_root_by (dEnds M Q) (startD 4 ds) M := by
  rintro _ M Q - ⟨m, a1, a2, a3, b1, b2, b3, rfl, h0, hm, a0, b0, ⟨sa1, sa2, sa3⟩, ⟨sb1, sb2, sb3⟩, q⟩
  unfold t_plus_by
  walk_at "rd"
  have y := ((sa2.mul sb3).add (sb2.mul sa3)).big
  have b := (sa3.mul sb3).big
  exact ⟨⟨sa1.sm, sb3.sm⟩, ⟨sb1.sm, sa3.sm⟩, ⟨sa2.sm, sb3.sm⟩, ⟨sb2.sm, sa3.sm⟩, ⟨sa3.sm, sb3.sm⟩, m, _, _, _, rfl, h0, hm.big.2, y.1, y.2, b.1, b.2, Int.mul_ne_zero a0 b0, rtq q⟩
def sp_minus_by : DSp := fun ds M Q _ => ∃ m a1 a2 a3 b1 b2 b3 : Int, ds = [.int m, T3 a1 a2 a3, T3 b1 b2 b3] ∧ 0 ≤ m ∧ Bi 200 m ∧ a3 ≠ 0 ∧ b3 ≠ 0 ∧ Sz 1800 a1 a2 a3 ∧ Sz 1800 b1 b2 b3 ∧ Q (rnPlus m a1 a2 a3 (0 - b1) (0 - b2) b3) M
theorem rd_minus_by : ∀ ds M Q, ds.length = 3 → sp_minus_by ds M Q DX0 → t_minus_by sp_plus_by (dEnds M Q) (startD 3 ds) M := by
  rintro _ M Q - ⟨m, a1, a2, a3, b1, b2, b3, rfl, h0, hm, a0, b0, sa, ⟨sb1, sb2, sb3⟩, q⟩
  unfold t_minus_by
  walk_at "rd"
  exact ⟨m, a1, a2, a3, _, _, _, rfl, h0, hm, a0, b0, sa, ⟨sb1.neg, sb2.neg, sb3⟩, rtq q⟩
def sp_times_by : DSp := fun ds M Q _ => ∃ m a1 a2 a3 b1 b2 b3 : Int, ds = [.int m, T3 a1 a2 a3, T3 b1 b2 b3] ∧ 0 ≤ m ∧ Bi 200 m ∧ a3 ≠ 0 ∧ b3 ≠ 0 ∧ Sz 1800 a1 a2 a3 ∧ Sz 2100 b1 b2 b3 ∧ Q (rnTimes m a1 a2 a3 b1 b2 b3) M
theorem rd_times_by : ∀ ds M Q, ds.length = 3 → sp_times_by ds M Q DX0 → t_times_by sp_root_by (dEnds M Q) (startD 4 ds) M := by
  rintro _ M Q - ⟨m, a1, a2, a3, b1, b2, b3, rfl, h0, hm, a0, b0, ⟨sa1, sa2, sa3⟩, ⟨sb1, sb2, sb3⟩, q⟩
  unfold t_times_by
  walk_at "rd"
  have y := ((sa1.mul sb2).add (sa2.mul sb1)).big
  have b := (sa3.mul sb3).big
  exact ⟨⟨sa1.sm, sb1.sm⟩, ⟨hm.sm, sa2.sm⟩, ⟨(hm.mul sa2).sm, sb2.sm⟩, ⟨sa1.sm, sb2.sm⟩, ⟨sa2.sm, sb1.sm⟩, ⟨sa3.sm, sb3.sm⟩, m, _, _, _, rfl, h0, hm.big.2, y.1, y.2, b.1, b.2, Int.mul_ne_zero a0 b0, rtq q⟩
theorem rootable_T3 (M : Mem) (a b c : Int) : Rootable M (T3 a b c) := rootable_fine M rfl
/-! ### the law's drawn root numbers -/
/-! ### sizes and values, for the laws -/
theorem NF.neg {m a b c : Int} (h : NF m a b c) : NF m (0 - a) (0 - b) c := by
  refine ⟨h.pos, ?_, fun q => by rw [h.pr q]; rfl⟩
  rw [Int.zero_sub, Int.zero_sub, Int.gcd_neg, Int.neg_gcd]
  exact h.cop
theorem Sz.neg {n : Nat} {a b c : Int} (h : Sz n a b c) : Sz n (0 - a) (0 - b) c := ⟨h.1.neg, h.2.1.neg, h.2.2⟩
theorem Sz.mono {n k : Nat} {a b c : Int} (h : Sz n a b c) (hk : n ≤ k := by decide) : Sz k a b c := ⟨h.1.mono hk, h.2.1.mono hk, h.2.2.mono hk⟩
end DL
namespace DL
open PySem PySem.Spec PyProof.Rows L2
local macro_rules | `(tactic| walk_at "rd") => `(tactic| simp only [startD, List.map, List.replicate, List.length_cons, List.length_nil, List.append_eq, List.append_nil, List.nil_append, List.cons_append, Nat.reduceSub, Nat.reduceAdd, List.getElem?_cons_zero, List.getElem?_cons_succ, List.set_cons_zero, List.set_cons_succ,
  dC, dVar, dOp, dTru, gTru, tru, dChain, dAnd, dOr, dNot, dAndV, dOrV, dNotV, dIf, dNeg, gNeg, dNil, dCons, dTup, dLst, dOwn, gIx, rBin, gAdd, gCmpI, dCall, dCallK, dSeq, dNext, dDrop, dRet, dRetN, dIfS, dName, dGNil, dGCons, dGTup, dSub, gSetL, dAsg, dPar, dPar3, dAug, gIpI, dSeqI, gSeqI, dRngI, gRng1, gRng2, dCB, gAbs, gInt, gMax, gMin, gGcd, gLen, lenD, gIsi, tyM, tyD, dBits, gBits, dMet, gAppend, dPart, dNoPart, dSl, dEnds, gIs, isB, dNever, dFor, dLc, wipeD, dYes,
  sizeLine_eq, Nat.reduceLeDiff, gEq_int, gNe_int, gEq_strs, gNe_strs, gIn_two, gRepr_bl, rs_lst, rs_tup, rs_scr, rs_int, atI_0, atI_1, atI_2, atI_3, atI_4, atI_5, ixN_30, ixN_31, ixN_32, gEq_bl, gNe_bl, decide_eq_true_eq, beq_iff_eq, Bool.not_eq_true', beq_eq_false_iff_ne, decide_eq_false_iff_not, Bool.not_true, Bool.not_false, if_true, if_false, Bool.false_eq_true, ite_true, ite_false, true_and, and_true, ne_eq, Bool.bne_false, Bool.bne_true, reduceCtorEq])
local macro_rules | `(tactic| walk_at "rh") => `(tactic| simp only [*, startD, List.map, List.replicate, List.length_cons, List.length_nil, List.append_eq, List.append_nil, List.nil_append, List.cons_append, Nat.reduceSub, Nat.reduceAdd, List.getElem?_cons_zero, List.getElem?_cons_succ, List.set_cons_zero, List.set_cons_succ,
  dC, dVar, dOp, dTru, gTru, tru, dChain, dAnd, dOr, dNot, dAndV, dOrV, dNotV, dIf, dNeg, gNeg, dNil, dCons, dTup, dLst, dOwn, gIx, rBin, gAdd, gCmpI, dCall, dCallK, dSeq, dNext, dDrop, dRet, dRetN, dIfS, dName, dGNil, dGCons, dGTup, dSub, gSetL, dAsg, dPar, dPar3, dAug, gIpI, dSeqI, gSeqI, dRngI, gRng1, gRng2, dCB, gAbs, gInt, gMax, gMin, gGcd, gLen, lenD, gIsi, tyM, tyD, dBits, gBits, dMet, gAppend, dPart, dNoPart, dSl, dEnds, gIs, isB, dNever, dFor, dLc, wipeD, dYes,
  sizeLine_eq, Nat.reduceLeDiff, gEq_int, gNe_int, gEq_strs, gNe_strs, gIn_two, gRepr_bl, rs_lst, rs_tup, rs_scr, rs_int, atI_0, atI_1, atI_2, atI_3, atI_4, atI_5, ixN_30, ixN_31, ixN_32, gEq_bl, gNe_bl, decide_eq_true_eq, beq_iff_eq, Bool.not_eq_true', beq_eq_false_iff_ne, decide_eq_false_iff_not, Bool.not_true, Bool.not_false, if_true, if_false, Bool.false_eq_true, ite_true, ite_false, true_and, and_true, ne_eq, Bool.bne_false, Bool.bne_true, reduceCtorEq])
local macro_rules | `(tactic| walk_at "kb") => `(tactic| simp only [kb_NoneType_list, kb_bool_list, kb_int_list, kb_str_list, kb_tuple_list, kb_list_list, kb_dict_list, kb_NoneType_int, kb_bool_int, kb_int_int, kb_str_int, kb_tuple_int, kb_list_int, kb_dict_int, kb_NoneType_bool, kb_bool_bool, kb_int_bool, kb_str_bool, kb_tuple_bool, kb_list_bool, kb_dict_bool, kb_NoneType_tuple, kb_bool_tuple, kb_int_tuple, kb_str_tuple, kb_tuple_tuple, kb_list_tuple, kb_dict_tuple, if_true, if_false, Bool.false_eq_true, ite_true, ite_false, Bool.not_true, Bool.not_false])
/-! ### the side of x + y root m -/
def sideV (m x y : Int) : Int := if 0 ≤ x ∧ 0 ≤ y then (if 0 < x ∨ 0 < y then 1 else 0) else if x ≤ 0 ∧ y ≤ 0 then -1
  else if 0 < x then (if 0 < x * x - m * y * y then 1 else -1) else if x * x - m * y * y < 0 then 1 else -1
/-! ### the floor -/
def sp_side_by : DSp := fun ds M Q _ => ∃ m x y b : Int, ds = [.int m, T3 x y b] ∧ Bi 500 m ∧ Bi 500 x ∧ Bi 500 y ∧ Q (.int (sideV m x y)) M
theorem rd_side_by : ∀ ds M Q, ds.length = 2 → sp_side_by ds M Q DX0 → t_side_by (dEnds M Q) (startD 5 ds) M := by
  rintro _ M Q - ⟨m, x, y, b, rfl, bm, bx, by', q⟩
  unfold t_side_by
  walk_at "rd"
  have c1 : CMul x x := ⟨bx.sm, bx.sm⟩
  have c2 : CMul m y := ⟨bm.sm, by'.sm⟩
  have c3 : CMul (m * y) y := ⟨(bm.mul by').sm, by'.sm⟩
  unfold sideV at q
  by_cases x1 : 0 ≤ x
  · by_cases y1 : 0 ≤ y
    · simp only [x1, y1, if_true, and_self] at q ⊢
      by_cases x2 : 0 < x
      · simp only [x2, true_or, if_true] at q ⊢; exact rtq q
      · by_cases y2 : 0 < y
        · simp only [x2, y2, or_true, if_true, if_false] at q ⊢; exact rtq q
        · simp only [x2, y2, or_self, if_false] at q ⊢; exact rtq q
    · have y2 : y ≤ 0 := by omega
      by_cases x2 : 0 < x
      · have x3 : ¬ x ≤ 0 := by omega
        simp only [x1, y1, x2, x3, y2, if_true, if_false, and_false, false_and] at q ⊢
        refine ⟨c1, c2, c3, ?_⟩
        split
        · rename_i h; rw [if_pos h] at q; exact rtq q
        · rename_i h; rw [if_neg h] at q; exact rtq q
      · have x3 : x ≤ 0 := by omega
        simp only [x1, y1, x3, y2, if_true, if_false, and_false, and_self] at q ⊢
        exact rtq q
  · have x2 : x ≤ 0 := by omega
    have x3 : ¬ 0 < x := by omega
    by_cases y1 : y ≤ 0
    · simp only [x1, x2, y1, if_true, if_false, false_and, and_self] at q ⊢
      exact rtq q
    · simp only [x1, x2, x3, y1, if_true, if_false, false_and, and_false] at q ⊢
      refine ⟨c1, c2, c3, ?_⟩
      split
      · rename_i h; rw [if_pos h] at q; exact rtq q
      · rename_i h; rw [if_neg h] at q; exact rtq q
end DL
namespace DL
open PySem PySem.Spec PyProof.Rows L2
local macro_rules | `(tactic| walk_at "rd") => `(tactic| simp only [startD, List.map, List.replicate, List.length_cons, List.length_nil, List.append_eq, List.append_nil, List.nil_append, List.cons_append, Nat.reduceSub, Nat.reduceAdd, List.getElem?_cons_zero, List.getElem?_cons_succ, List.set_cons_zero, List.set_cons_succ,
  dC, dVar, dOp, dTru, gTru, tru, dChain, dAnd, dOr, dNot, dAndV, dOrV, dNotV, dIf, dNeg, gNeg, dNil, dCons, dTup, dLst, dOwn, gIx, rBin, gAdd, gCmpI, dCall, dCallK, dSeq, dNext, dDrop, dRet, dRetN, dIfS, dName, dGNil, dGCons, dGTup, dSub, gSetL, dAsg, dPar, dPar3, dAug, gIpI, dSeqI, gSeqI, dRngI, gRng1, gRng2, dCB, gAbs, gInt, gMax, gMin, gGcd, gLen, lenD, gIsi, tyM, tyD, dBits, gBits, dMet, gAppend, dPart, dNoPart, dSl, dEnds, gIs, isB, dNever, dFor, dLc, wipeD, dYes,
  sizeLine_eq, Nat.reduceLeDiff, gEq_int, gNe_int, gEq_strs, gNe_strs, gIn_two, gRepr_bl, rs_lst, rs_tup, rs_scr, rs_int, atI_0, atI_1, atI_2, atI_3, atI_4, atI_5, ixN_30, ixN_31, ixN_32, gEq_bl, gNe_bl, decide_eq_true_eq, beq_iff_eq, Bool.not_eq_true', beq_eq_false_iff_ne, decide_eq_false_iff_not, Bool.not_true, Bool.not_false, if_true, if_false, Bool.false_eq_true, ite_true, ite_false, true_and, and_true, ne_eq, Bool.bne_false, Bool.bne_true, reduceCtorEq])
local macro_rules | `(tactic| walk_at "rh") => `(tactic| simp only [*, startD, List.map, List.replicate, List.length_cons, List.length_nil, List.append_eq, List.append_nil, List.nil_append, List.cons_append, Nat.reduceSub, Nat.reduceAdd, List.getElem?_cons_zero, List.getElem?_cons_succ, List.set_cons_zero, List.set_cons_succ,
  dC, dVar, dOp, dTru, gTru, tru, dChain, dAnd, dOr, dNot, dAndV, dOrV, dNotV, dIf, dNeg, gNeg, dNil, dCons, dTup, dLst, dOwn, gIx, rBin, gAdd, gCmpI, dCall, dCallK, dSeq, dNext, dDrop, dRet, dRetN, dIfS, dName, dGNil, dGCons, dGTup, dSub, gSetL, dAsg, dPar, dPar3, dAug, gIpI, dSeqI, gSeqI, dRngI, gRng1, gRng2, dCB, gAbs, gInt, gMax, gMin, gGcd, gLen, lenD, gIsi, tyM, tyD, dBits, gBits, dMet, gAppend, dPart, dNoPart, dSl, dEnds, gIs, isB, dNever, dFor, dLc, wipeD, dYes,
  sizeLine_eq, Nat.reduceLeDiff, gEq_int, gNe_int, gEq_strs, gNe_strs, gIn_two, gRepr_bl, rs_lst, rs_tup, rs_scr, rs_int, atI_0, atI_1, atI_2, atI_3, atI_4, atI_5, ixN_30, ixN_31, ixN_32, gEq_bl, gNe_bl, decide_eq_true_eq, beq_iff_eq, Bool.not_eq_true', beq_eq_false_iff_ne, decide_eq_false_iff_not, Bool.not_true, Bool.not_false, if_true, if_false, Bool.false_eq_true, ite_true, ite_false, true_and, and_true, ne_eq, Bool.bne_false, Bool.bne_true, reduceCtorEq])
local macro_rules | `(tactic| walk_at "kb") => `(tactic| simp only [kb_NoneType_list, kb_bool_list, kb_int_list, kb_str_list, kb_tuple_list, kb_list_list, kb_dict_list, kb_NoneType_int, kb_bool_int, kb_int_int, kb_str_int, kb_tuple_int, kb_list_int, kb_dict_int, kb_NoneType_bool, kb_bool_bool, kb_int_bool, kb_str_bool, kb_tuple_bool, kb_list_bool, kb_dict_bool, kb_NoneType_tuple, kb_bool_tuple, kb_int_tuple, kb_str_tuple, kb_tuple_tuple, kb_list_tuple, kb_dict_tuple, if_true, if_false, Bool.false_eq_true, ite_true, ite_false, Bool.not_true, Bool.not_false])
theorem rd_l_hash_d8d1 : ∀ ds M Q, ds.length = 2 → sp_hash ds M Q DX0 → t_l_hash_d8d1 (dEnds M Q) (startD 3 ds) M := by
  rintro _ M Q - ⟨s, c, rfl, s0, s1, c0, c1, q⟩
  unfold P31 P40 at *
  unfold t_l_hash_d8d1
  walk_at "rd"
  have ss : Sm s := sm_of 32 (by omega) (by omega)
  have sc : Sm c := sm_of 42 (by omega) (by omega)
  have hm : ∀ a : Int, 0 ≤ a.fmod 2147483629 ∧ a.fmod 2147483629 < 2147483629 := fun a => fm_range (by decide)
  have k1 : Sm (27644437 * c) := sm_of 72 (by omega) (by omega)
  refine ⟨⟨ss, sm_of 32 (by decide) (by decide)⟩, ⟨sm_of 32 (by decide) (by decide), sc⟩, ⟨k1, sc⟩, ⟨sm_of 32 (by decide) (by decide), sc⟩, (by decide : (2147483629 : Int) ≠ 0), ?_⟩
  generalize hv : Int.fmod _ 2147483629 = v
  have v1 : 0 ≤ v ∧ v < 2147483629 := by rw [← hv]; exact hm _
  have sv : Sm v := sm_of 32 (by omega) (by omega)
  refine ⟨⟨sv, sv⟩, ⟨sm_of 32 (by decide) (by decide), sc⟩, (by decide : (2147483587 : Int) ≠ 0), ?_⟩
  generalize hw : Int.fmod _ 2147483587 = w
  have w1 : 0 ≤ w ∧ w < 2147483587 := by rw [← hw]; exact fm_range (by decide)
  refine ⟨⟨sm_of 32 (by omega) (by omega), sm_of 32 (by decide) (by decide)⟩, (by decide : (2147483647 : Int) ≠ 0), ?_⟩
  have r1 : 0 ≤ (w * 48271).fmod 2147483647 ∧ (w * 48271).fmod 2147483647 < 2147483647 := fm_range (by decide)
  exact rtq (q _ r1.1 (by omega))
/-! ### cuttings -/
/-- a cutting: (a, b, c, e) -/
def isCut (a b c e : Int) : Bool := decide (1 ≤ b) && (decide (1 ≤ c) && (decide (c + e < b) && (decide (0 ≤ a) && (decide (a < (Int.gcd b c : Int)) && (Int.gcd (Int.gcd a (Int.gcd b c : Int) : Int) e : Int) == 1))))
def isCutD (d : D) : Bool := match d with
  | .tup [.int a, .int b, .int c, .int e] => isCut a b c e
  | _ => false
/-- d may be asked: no tuple, or of another length, or of plain data -/
def Askable (n : Nat) (M : Mem) (d : D) : Prop := (∃ T, tyM M d = some T) ∧ (∀ l, d = .tup l → l.length = n → ∀ e ∈ l, (fine 40 e = true ∧ ∃ T, tyM M e = some T))
theorem ask_fine {n : Nat} {d : D} (M : Mem) (h : fine 41 d = true) : Askable n M d := by
  refine ⟨fine_ty M h, ?_⟩
  rintro l rfl h3 e he
  have h' : fineAll 40 l = true := by simpa only [fine] using h
  have := fineAll_iff.mp h' e he
  exact ⟨this, fine_ty M this⟩
abbrev T4 (a b c e : Int) : D := .tup [.int a, .int b, .int c, .int e]
theorem len4 {l : List D} (h : l.length = 4) : ∃ a b c d, l = [a, b, c, d] := by
  match l, h with
  | [a, b, c, d], _ => exact ⟨a, b, c, d, rfl⟩
theorem isCutD_notup {d : D} (h : ∀ l, d ≠ .tup l) : isCutD d = false := by
  cases d <;> first | rfl | exact absurd rfl (h _)
theorem isCutD_len {l : List D} (h : l.length ≠ 4) : isCutD (.tup l) = false := by
  unfold isCutD
  split
  · rename_i e; cases e; exact absurd rfl h
  · rfl
theorem isCutD_bad {l : List D} (h : ∃ e ∈ l, isW e = false) : isCutD (.tup l) = false := by
  unfold isCutD
  split
  · rename_i e
    cases e
    obtain ⟨e, he, hw⟩ := h
    simp only [List.mem_cons, List.not_mem_nil, or_false] at he
    rcases he with rfl | rfl | rfl | rfl <;> cases hw
  · rfl
def sp_is_cutting : DSp := fun ds M Q _ => ∃ d, ds = [d] ∧ Askable 4 M d ∧ Q (.bl (isCutD d)) M
theorem rd_is_cutting_by : ∀ ds M Q, ds.length = 1 → sp_is_cutting ds M Q DX0 → t_is_cutting_by sp_is_whole sp_gcd (dEnds M Q) (startD 7 ds) M := by
  rintro _ M Q - ⟨d, rfl, ⟨⟨T, ht⟩, hr⟩, q⟩
  unfold t_is_cutting_by
  walk_at "rd"
  by_cases htup : ∃ l, d = .tup l
  · obtain ⟨l, rfl⟩ := htup
    walk_at "rd"
    walk_at "kb"
    by_cases h3 : l.length = 4
    · obtain ⟨da, db, dc, de, rfl⟩ := len4 h3
      have hr' := hr _ rfl rfl
      walk_at "rd"
      rw [if_neg (by decide)]
      refine lcW_pure (fun e => if isW e = true then none else some e) trivial (by rw [sizeLine_eq]; exact (by decide : (4 : Nat) ≤ 16777216)) (fun d hd Y N hy => ?_) ?_
      · walk_at "rd"
        obtain ⟨_, T', hT⟩ := hr' d hd
        refine ⟨d, T', rfl, hT, ?_⟩
        by_cases hw : isW d = true
        · simp only [hw, if_true] at hy ⊢
          exact hy
        · rw [Bool.not_eq_true] at hw
          simp only [hw, Bool.false_eq_true, if_false, Bool.not_false, if_true] at hy ⊢
          exact hy
      · refine gNe_nil' (n := 40) (bads_fine fun e he => (hr' e he).1) ?_
        show if (!(bads [da, db, dc, de]).isEmpty) = true then _ else _
        cases hb : (bads [da, db, dc, de]).isEmpty with
        | false =>
          rw [if_pos (by decide)]
          rw [isCutD_bad (bads_some hb)] at q
          exact rtq q
        | true =>
          rw [if_neg (by decide)]
          have hw := bads_nil hb
          obtain ⟨a, rfl⟩ := isW_iff.mp (hw da (by simp))
          obtain ⟨b, rfl⟩ := isW_iff.mp (hw db (by simp))
          obtain ⟨c, rfl⟩ := isW_iff.mp (hw dc (by simp))
          obtain ⟨e, rfl⟩ := isW_iff.mp (hw de (by simp))
          walk_at "rd"
          have fin : ∀ v, v = isCut a b c e → Rtq M Q (.bl v) M := by rintro _ rfl; exact rtq q
          by_cases h1 : b < 1
          · rw [if_pos h1]
            exact fin _ (by unfold isCut; rw [decide_eq_false (show ¬ 1 ≤ b by omega)]; rfl)
          · rw [if_neg h1]
            have e1 := decide_eq_true (show 1 ≤ b by omega)
            by_cases h2 : c < 1
            · rw [if_pos h2]
              exact fin _ (by unfold isCut; rw [e1, decide_eq_false (show ¬ 1 ≤ c by omega)]; rfl)
            · rw [if_neg h2]
              have e2 := decide_eq_true (show 1 ≤ c by omega)
              by_cases h3 : c + e < b
              · rw [if_neg (fun z => z h3)]
                have e3 := decide_eq_true h3
                refine ⟨b, c, rfl, ?_⟩
                dsimp only
                by_cases h4 : 0 ≤ a
                · rw [if_pos h4]
                  have e4 := decide_eq_true h4
                  by_cases h5 : a < (Int.gcd b c : Int)
                  · rw [if_pos h5]
                    have e5 := decide_eq_true h5
                    refine ⟨a, _, rfl, _, e, rfl, ?_⟩
                    dsimp only
                    rw [gEq_int]
                    exact fin _ (by unfold isCut; rw [e1, e2, e3, e4, e5]; rfl)
                  · rw [if_neg h5]
                    exact fin _ (by unfold isCut; rw [e1, e2, e3, e4, decide_eq_false h5]; rfl)
                · rw [if_neg h4, if_neg h4]
                  exact fin _ (by unfold isCut; rw [e1, e2, e3, decide_eq_false h4]; rfl)
              · rw [if_pos h3]
                exact fin _ (by unfold isCut; rw [e1, e2, decide_eq_false h3]; rfl)
    · have h3' : ¬ ((l.length : Nat) : Int) = 4 := by omega
      simp only [h3', not_false_eq_true, if_true]
      rw [isCutD_len h3] at q
      exact rtq q
  · have q' : Q (.bl false) M := by rwa [isCutD_notup fun l e => htup ⟨l, e⟩] at q
    cases d <;> first | exact absurd ⟨_, rfl⟩ htup | (cases ht; done) | skip
    all_goals walk_at "rd"
    case own k =>
      unfold tyM at ht
      dsimp only at ht
      split at ht
      · rename_i ds hk
        simp only [hk]
        walk_at "kb"
        exact rtq q'
      · cases ht
    all_goals walk_at "kb"
    all_goals exact rtq q'
/-- check_cutting of a cutting -/
def sp_check_cutting : DSp := fun ds M Q _ => ∃ a b c e : Int, ds = [T4 a b c e] ∧ isCut a b c e = true ∧ Q .non M
theorem rd_check_cutting : ∀ ds M Q, ds.length = 1 → sp_check_cutting ds M Q DX0 → t_check_cutting sp_is_cutting (dEnds M Q) (startD 1 ds) M := by
  rintro _ M Q - ⟨a, b, c, e, rfl, h, q⟩
  unfold t_check_cutting
  walk_at "rd"
  refine ⟨_, rfl, ask_fine M rfl, ?_⟩
  rw [show isCutD (T4 a b c e) = true from h]
  walk_at "rd"
  exact rtq q
def meas4 (b c e : Int) : Int := e * e + 4 * b * c
def sp_measure_by : DSp := fun ds M Q _ => ∃ a b c e : Int, ds = [T4 a b c e] ∧ Bi 1000 b ∧ Bi 1000 c ∧ Bi 1000 e ∧ Q (.int (meas4 b c e)) M
theorem rd_measure_by : ∀ ds M Q, ds.length = 1 → sp_measure_by ds M Q DX0 → t_measure_by (dEnds M Q) (startD 1 ds) M := by
  rintro _ M Q - ⟨a, b, c, e, rfl, hb, hc, he, q⟩
  unfold t_measure_by
  walk_at "rd"
  have h4 : Bi 3 4 := Bi.of_abs 4 (by decide)
  exact ⟨⟨he.sm, he.sm⟩, ⟨h4.sm, hb.sm⟩, ⟨(h4.mul hb).sm, hc.sm⟩, rtq q⟩
theorem cut_parts {a b c e : Int} (h : isCut a b c e = true) : 1 ≤ b ∧ 1 ≤ c ∧ c + e < b ∧ 0 ≤ a ∧ a < (Int.gcd b c : Int) ∧ (Int.gcd (Int.gcd a (Int.gcd b c : Int) : Int) e : Int) = 1 := by
  simpa only [isCut, Bool.and_eq_true, decide_eq_true_eq, beq_iff_eq] using h
end DL
/-! MB: what a deed makes of a cutting; plain -/
namespace DL
end DL
namespace DL
open PySem PySem.Spec PyProof.Rows L2
local macro_rules | `(tactic| walk_at "rd") => `(tactic| simp only [startD, List.map, List.replicate, List.length_cons, List.length_nil, List.append_eq, List.append_nil, List.nil_append, List.cons_append, Nat.reduceSub, Nat.reduceAdd, List.getElem?_cons_zero, List.getElem?_cons_succ, List.set_cons_zero, List.set_cons_succ,
  dC, dVar, dOp, dTru, gTru, tru, dChain, dAnd, dOr, dNot, dAndV, dOrV, dNotV, dIf, dNeg, gNeg, dNil, dCons, dTup, dLst, dOwn, gIx, rBin, gAdd, gCmpI, dCall, dCallK, dSeq, dNext, dDrop, dRet, dRetN, dIfS, dName, dGNil, dGCons, dGTup, dSub, gSetL, dAsg, dPar, dPar3, dAug, gIpI, dSeqI, gSeqI, dRngI, gRng1, gRng2, dCB, gAbs, gInt, gMax, gMin, gGcd, gLen, lenD, gIsi, tyM, tyD, dBits, gBits, dMet, gAppend, dPart, dNoPart, dSl, dEnds, gIs, isB, dNever, dFor, dLc, wipeD, dYes,
  sizeLine_eq, Nat.reduceLeDiff, gEq_int, gNe_int, gEq_strs, gNe_strs, gIn_two, gRepr_bl, rs_lst, rs_tup, rs_scr, rs_int, atI_0, atI_1, atI_2, atI_3, atI_4, atI_5, ixN_30, ixN_31, ixN_32, gEq_bl, gNe_bl, decide_eq_true_eq, beq_iff_eq, Bool.not_eq_true', beq_eq_false_iff_ne, decide_eq_false_iff_not, Bool.not_true, Bool.not_false, if_true, if_false, Bool.false_eq_true, ite_true, ite_false, true_and, and_true, ne_eq, Bool.bne_false, Bool.bne_true, reduceCtorEq])
local macro_rules | `(tactic| walk_at "rh") => `(tactic| simp only [*, startD, List.map, List.replicate, List.length_cons, List.length_nil, List.append_eq, List.append_nil, List.nil_append, List.cons_append, Nat.reduceSub, Nat.reduceAdd, List.getElem?_cons_zero, List.getElem?_cons_succ, List.set_cons_zero, List.set_cons_succ,
  dC, dVar, dOp, dTru, gTru, tru, dChain, dAnd, dOr, dNot, dAndV, dOrV, dNotV, dIf, dNeg, gNeg, dNil, dCons, dTup, dLst, dOwn, gIx, rBin, gAdd, gCmpI, dCall, dCallK, dSeq, dNext, dDrop, dRet, dRetN, dIfS, dName, dGNil, dGCons, dGTup, dSub, gSetL, dAsg, dPar, dPar3, dAug, gIpI, dSeqI, gSeqI, dRngI, gRng1, gRng2, dCB, gAbs, gInt, gMax, gMin, gGcd, gLen, lenD, gIsi, tyM, tyD, dBits, gBits, dMet, gAppend, dPart, dNoPart, dSl, dEnds, gIs, isB, dNever, dFor, dLc, wipeD, dYes,
  sizeLine_eq, Nat.reduceLeDiff, gEq_int, gNe_int, gEq_strs, gNe_strs, gIn_two, gRepr_bl, rs_lst, rs_tup, rs_scr, rs_int, atI_0, atI_1, atI_2, atI_3, atI_4, atI_5, ixN_30, ixN_31, ixN_32, gEq_bl, gNe_bl, decide_eq_true_eq, beq_iff_eq, Bool.not_eq_true', beq_eq_false_iff_ne, decide_eq_false_iff_not, Bool.not_true, Bool.not_false, if_true, if_false, Bool.false_eq_true, ite_true, ite_false, true_and, and_true, ne_eq, Bool.bne_false, Bool.bne_true, reduceCtorEq])
local macro_rules | `(tactic| walk_at "kb") => `(tactic| simp only [kb_NoneType_list, kb_bool_list, kb_int_list, kb_str_list, kb_tuple_list, kb_list_list, kb_dict_list, kb_NoneType_int, kb_bool_int, kb_int_int, kb_str_int, kb_tuple_int, kb_list_int, kb_dict_int, kb_NoneType_bool, kb_bool_bool, kb_int_bool, kb_str_bool, kb_tuple_bool, kb_list_bool, kb_dict_bool, kb_NoneType_tuple, kb_bool_tuple, kb_int_tuple, kb_str_tuple, kb_tuple_tuple, kb_list_tuple, kb_dict_tuple, if_true, if_false, Bool.false_eq_true, ite_true, ite_false, Bool.not_true, Bool.not_false])
/-! ### deeds -/
end DL
/-! MC: Euclid's rule with the factors; plain -/
namespace DL
end DL
namespace DL
open PySem PySem.Spec PyProof.Rows L2
local macro_rules | `(tactic| walk_at "rd") => `(tactic| simp only [startD, List.map, List.replicate, List.length_cons, List.length_nil, List.append_eq, List.append_nil, List.nil_append, List.cons_append, Nat.reduceSub, Nat.reduceAdd, List.getElem?_cons_zero, List.getElem?_cons_succ, List.set_cons_zero, List.set_cons_succ,
  dC, dVar, dOp, dTru, gTru, tru, dChain, dAnd, dOr, dNot, dAndV, dOrV, dNotV, dIf, dNeg, gNeg, dNil, dCons, dTup, dLst, dOwn, gIx, rBin, gAdd, gCmpI, dCall, dCallK, dSeq, dNext, dDrop, dRet, dRetN, dIfS, dName, dGNil, dGCons, dGTup, dSub, gSetL, dAsg, dPar, dPar3, dAug, gIpI, dSeqI, gSeqI, dRngI, gRng1, gRng2, dCB, gAbs, gInt, gMax, gMin, gGcd, gLen, lenD, gIsi, tyM, tyD, dBits, gBits, dMet, gAppend, dPart, dNoPart, dSl, dEnds, gIs, isB, dNever, dFor, dLc, wipeD, dYes,
  sizeLine_eq, Nat.reduceLeDiff, gEq_int, gNe_int, gEq_strs, gNe_strs, gIn_two, gRepr_bl, rs_lst, rs_tup, rs_scr, rs_int, atI_0, atI_1, atI_2, atI_3, atI_4, atI_5, ixN_30, ixN_31, ixN_32, gEq_bl, gNe_bl, decide_eq_true_eq, beq_iff_eq, Bool.not_eq_true', beq_eq_false_iff_ne, decide_eq_false_iff_not, Bool.not_true, Bool.not_false, if_true, if_false, Bool.false_eq_true, ite_true, ite_false, true_and, and_true, ne_eq, Bool.bne_false, Bool.bne_true, reduceCtorEq])
local macro_rules | `(tactic| walk_at "rh") => `(tactic| simp only [*, startD, List.map, List.replicate, List.length_cons, List.length_nil, List.append_eq, List.append_nil, List.nil_append, List.cons_append, Nat.reduceSub, Nat.reduceAdd, List.getElem?_cons_zero, List.getElem?_cons_succ, List.set_cons_zero, List.set_cons_succ,
  dC, dVar, dOp, dTru, gTru, tru, dChain, dAnd, dOr, dNot, dAndV, dOrV, dNotV, dIf, dNeg, gNeg, dNil, dCons, dTup, dLst, dOwn, gIx, rBin, gAdd, gCmpI, dCall, dCallK, dSeq, dNext, dDrop, dRet, dRetN, dIfS, dName, dGNil, dGCons, dGTup, dSub, gSetL, dAsg, dPar, dPar3, dAug, gIpI, dSeqI, gSeqI, dRngI, gRng1, gRng2, dCB, gAbs, gInt, gMax, gMin, gGcd, gLen, lenD, gIsi, tyM, tyD, dBits, gBits, dMet, gAppend, dPart, dNoPart, dSl, dEnds, gIs, isB, dNever, dFor, dLc, wipeD, dYes,
  sizeLine_eq, Nat.reduceLeDiff, gEq_int, gNe_int, gEq_strs, gNe_strs, gIn_two, gRepr_bl, rs_lst, rs_tup, rs_scr, rs_int, atI_0, atI_1, atI_2, atI_3, atI_4, atI_5, ixN_30, ixN_31, ixN_32, gEq_bl, gNe_bl, decide_eq_true_eq, beq_iff_eq, Bool.not_eq_true', beq_eq_false_iff_ne, decide_eq_false_iff_not, Bool.not_true, Bool.not_false, if_true, if_false, Bool.false_eq_true, ite_true, ite_false, true_and, and_true, ne_eq, Bool.bne_false, Bool.bne_true, reduceCtorEq])
local macro_rules | `(tactic| walk_at "kb") => `(tactic| simp only [kb_NoneType_list, kb_bool_list, kb_int_list, kb_str_list, kb_tuple_list, kb_list_list, kb_dict_list, kb_NoneType_int, kb_bool_int, kb_int_int, kb_str_int, kb_tuple_int, kb_list_int, kb_dict_int, kb_NoneType_bool, kb_bool_bool, kb_int_bool, kb_str_bool, kb_tuple_bool, kb_list_bool, kb_dict_bool, kb_NoneType_tuple, kb_bool_tuple, kb_int_tuple, kb_str_tuple, kb_tuple_tuple, kb_list_tuple, kb_dict_tuple, if_true, if_false, Bool.false_eq_true, ite_true, ite_false, Bool.not_true, Bool.not_false])
/-! ### the common divisor with its two factors -/
end DL
namespace DL
open PySem PySem.Spec PyProof.Rows L2
local macro_rules | `(tactic| walk_at "rd") => `(tactic| simp only [startD, List.map, List.replicate, List.length_cons, List.length_nil, List.append_eq, List.append_nil, List.nil_append, List.cons_append, Nat.reduceSub, Nat.reduceAdd, List.getElem?_cons_zero, List.getElem?_cons_succ, List.set_cons_zero, List.set_cons_succ,
  dC, dVar, dOp, dTru, gTru, tru, dChain, dAnd, dOr, dNot, dAndV, dOrV, dNotV, dIf, dNeg, gNeg, dNil, dCons, dTup, dLst, dOwn, gIx, rBin, gAdd, gCmpI, dCall, dCallK, dSeq, dNext, dDrop, dRet, dRetN, dIfS, dName, dGNil, dGCons, dGTup, dSub, gSetL, dAsg, dPar, dPar3, dAug, gIpI, dSeqI, gSeqI, dRngI, gRng1, gRng2, dCB, gAbs, gInt, gMax, gMin, gGcd, gLen, lenD, gIsi, tyM, tyD, dBits, gBits, dMet, gAppend, dPart, dNoPart, dSl, dEnds, gIs, isB, dNever, dFor, dLc, wipeD, dYes,
  sizeLine_eq, Nat.reduceLeDiff, gEq_int, gNe_int, gEq_strs, gNe_strs, gIn_two, gRepr_bl, rs_lst, rs_tup, rs_scr, rs_int, atI_0, atI_1, atI_2, atI_3, atI_4, atI_5, ixN_30, ixN_31, ixN_32, gEq_bl, gNe_bl, decide_eq_true_eq, beq_iff_eq, Bool.not_eq_true', beq_eq_false_iff_ne, decide_eq_false_iff_not, Bool.not_true, Bool.not_false, if_true, if_false, Bool.false_eq_true, ite_true, ite_false, true_and, and_true, ne_eq, Bool.bne_false, Bool.bne_true, reduceCtorEq])
local macro_rules | `(tactic| walk_at "rh") => `(tactic| simp only [*, startD, List.map, List.replicate, List.length_cons, List.length_nil, List.append_eq, List.append_nil, List.nil_append, List.cons_append, Nat.reduceSub, Nat.reduceAdd, List.getElem?_cons_zero, List.getElem?_cons_succ, List.set_cons_zero, List.set_cons_succ,
  dC, dVar, dOp, dTru, gTru, tru, dChain, dAnd, dOr, dNot, dAndV, dOrV, dNotV, dIf, dNeg, gNeg, dNil, dCons, dTup, dLst, dOwn, gIx, rBin, gAdd, gCmpI, dCall, dCallK, dSeq, dNext, dDrop, dRet, dRetN, dIfS, dName, dGNil, dGCons, dGTup, dSub, gSetL, dAsg, dPar, dPar3, dAug, gIpI, dSeqI, gSeqI, dRngI, gRng1, gRng2, dCB, gAbs, gInt, gMax, gMin, gGcd, gLen, lenD, gIsi, tyM, tyD, dBits, gBits, dMet, gAppend, dPart, dNoPart, dSl, dEnds, gIs, isB, dNever, dFor, dLc, wipeD, dYes,
  sizeLine_eq, Nat.reduceLeDiff, gEq_int, gNe_int, gEq_strs, gNe_strs, gIn_two, gRepr_bl, rs_lst, rs_tup, rs_scr, rs_int, atI_0, atI_1, atI_2, atI_3, atI_4, atI_5, ixN_30, ixN_31, ixN_32, gEq_bl, gNe_bl, decide_eq_true_eq, beq_iff_eq, Bool.not_eq_true', beq_eq_false_iff_ne, decide_eq_false_iff_not, Bool.not_true, Bool.not_false, if_true, if_false, Bool.false_eq_true, ite_true, ite_false, true_and, and_true, ne_eq, Bool.bne_false, Bool.bne_true, reduceCtorEq])
local macro_rules | `(tactic| walk_at "kb") => `(tactic| simp only [kb_NoneType_list, kb_bool_list, kb_int_list, kb_str_list, kb_tuple_list, kb_list_list, kb_dict_list, kb_NoneType_int, kb_bool_int, kb_int_int, kb_str_int, kb_tuple_int, kb_list_int, kb_dict_int, kb_NoneType_bool, kb_bool_bool, kb_int_bool, kb_str_bool, kb_tuple_bool, kb_list_bool, kb_dict_bool, kb_NoneType_tuple, kb_bool_tuple, kb_int_tuple, kb_str_tuple, kb_tuple_tuple, kb_list_tuple, kb_dict_tuple, if_true, if_false, Bool.false_eq_true, ite_true, ite_false, Bool.not_true, Bool.not_false])
end DL
namespace DL
open PySem PySem.Spec PyProof.Rows L2
local macro_rules | `(tactic| walk_at "rd") => `(tactic| simp only [startD, List.map, List.replicate, List.length_cons, List.length_nil, List.append_eq, List.append_nil, List.nil_append, List.cons_append, Nat.reduceSub, Nat.reduceAdd, List.getElem?_cons_zero, List.getElem?_cons_succ, List.set_cons_zero, List.set_cons_succ,
  dC, dVar, dOp, dTru, gTru, tru, dChain, dAnd, dOr, dNot, dAndV, dOrV, dNotV, dIf, dNeg, gNeg, dNil, dCons, dTup, dLst, dOwn, gIx, rBin, gAdd, gCmpI, dCall, dCallK, dSeq, dNext, dDrop, dRet, dRetN, dIfS, dName, dGNil, dGCons, dGTup, dSub, gSetL, dAsg, dPar, dPar3, dAug, gIpI, dSeqI, gSeqI, dRngI, gRng1, gRng2, dCB, gAbs, gInt, gMax, gMin, gGcd, gLen, lenD, gIsi, tyM, tyD, dBits, gBits, dMet, gAppend, dPart, dNoPart, dSl, dEnds, gIs, isB, dNever, dFor, dLc, wipeD, dYes,
  sizeLine_eq, Nat.reduceLeDiff, gEq_int, gNe_int, gEq_strs, gNe_strs, gIn_two, gRepr_bl, rs_lst, rs_tup, rs_scr, rs_int, atI_0, atI_1, atI_2, atI_3, atI_4, atI_5, ixN_30, ixN_31, ixN_32, gEq_bl, gNe_bl, decide_eq_true_eq, beq_iff_eq, Bool.not_eq_true', beq_eq_false_iff_ne, decide_eq_false_iff_not, Bool.not_true, Bool.not_false, if_true, if_false, Bool.false_eq_true, ite_true, ite_false, true_and, and_true, ne_eq, Bool.bne_false, Bool.bne_true, reduceCtorEq])
local macro_rules | `(tactic| walk_at "rh") => `(tactic| simp only [*, startD, List.map, List.replicate, List.length_cons, List.length_nil, List.append_eq, List.append_nil, List.nil_append, List.cons_append, Nat.reduceSub, Nat.reduceAdd, List.getElem?_cons_zero, List.getElem?_cons_succ, List.set_cons_zero, List.set_cons_succ,
  dC, dVar, dOp, dTru, gTru, tru, dChain, dAnd, dOr, dNot, dAndV, dOrV, dNotV, dIf, dNeg, gNeg, dNil, dCons, dTup, dLst, dOwn, gIx, rBin, gAdd, gCmpI, dCall, dCallK, dSeq, dNext, dDrop, dRet, dRetN, dIfS, dName, dGNil, dGCons, dGTup, dSub, gSetL, dAsg, dPar, dPar3, dAug, gIpI, dSeqI, gSeqI, dRngI, gRng1, gRng2, dCB, gAbs, gInt, gMax, gMin, gGcd, gLen, lenD, gIsi, tyM, tyD, dBits, gBits, dMet, gAppend, dPart, dNoPart, dSl, dEnds, gIs, isB, dNever, dFor, dLc, wipeD, dYes,
  sizeLine_eq, Nat.reduceLeDiff, gEq_int, gNe_int, gEq_strs, gNe_strs, gIn_two, gRepr_bl, rs_lst, rs_tup, rs_scr, rs_int, atI_0, atI_1, atI_2, atI_3, atI_4, atI_5, ixN_30, ixN_31, ixN_32, gEq_bl, gNe_bl, decide_eq_true_eq, beq_iff_eq, Bool.not_eq_true', beq_eq_false_iff_ne, decide_eq_false_iff_not, Bool.not_true, Bool.not_false, if_true, if_false, Bool.false_eq_true, ite_true, ite_false, true_and, and_true, ne_eq, Bool.bne_false, Bool.bne_true, reduceCtorEq])
local macro_rules | `(tactic| walk_at "kb") => `(tactic| simp only [kb_NoneType_list, kb_bool_list, kb_int_list, kb_str_list, kb_tuple_list, kb_list_list, kb_dict_list, kb_NoneType_int, kb_bool_int, kb_int_int, kb_str_int, kb_tuple_int, kb_list_int, kb_dict_int, kb_NoneType_bool, kb_bool_bool, kb_int_bool, kb_str_bool, kb_tuple_bool, kb_list_bool, kb_dict_bool, kb_NoneType_tuple, kb_bool_tuple, kb_int_tuple, kb_str_tuple, kb_tuple_tuple, kb_list_tuple, kb_dict_tuple, if_true, if_false, Bool.false_eq_true, ite_true, ite_false, Bool.not_true, Bool.not_false])
/-! ### all that a deed makes -/
end DL
/-! MD: deeds with q = 1 that lead nearer to the heart; columns led down; plain -/
namespace DL
end DL
/-! ME: two columns led down; plain -/
namespace DL
/-- (o1, o2), (t1, t2) came of (i, k), (j, l) -/
structure Led (i k j l o1 o2 t1 t2 : Int) : Prop where
  ex : ∃ u v u' v' : Int, o1 = u * i + v * j ∧ o2 = u * k + v * l ∧ t1 = u' * i + v' * j ∧ t2 = u' * k + v' * l ∧ (u * v' - u' * v = 1 ∨ u * v' - u' * v = -1)
theorem Led.start (i k j l : Int) : Led i k j l i k j l := ⟨1, 0, 0, 1, by omega, by omega, by omega, by omega, .inl (by omega)⟩
end DL
namespace DL
open PySem PySem.Spec PyProof.Rows L2
local macro_rules | `(tactic| walk_at "rd") => `(tactic| simp only [startD, List.map, List.replicate, List.length_cons, List.length_nil, List.append_eq, List.append_nil, List.nil_append, List.cons_append, Nat.reduceSub, Nat.reduceAdd, List.getElem?_cons_zero, List.getElem?_cons_succ, List.set_cons_zero, List.set_cons_succ,
  dC, dVar, dOp, dTru, gTru, tru, dChain, dAnd, dOr, dNot, dAndV, dOrV, dNotV, dIf, dNeg, gNeg, dNil, dCons, dTup, dLst, dOwn, gIx, rBin, gAdd, gCmpI, dCall, dCallK, dSeq, dNext, dDrop, dRet, dRetN, dIfS, dName, dGNil, dGCons, dGTup, dSub, gSetL, dAsg, dPar, dPar3, dAug, gIpI, dSeqI, gSeqI, dRngI, gRng1, gRng2, dCB, gAbs, gInt, gMax, gMin, gGcd, gLen, lenD, gIsi, tyM, tyD, dBits, gBits, dMet, gAppend, dPart, dNoPart, dSl, gSl_tup, gSl_lst, cut_1, dEnds, gIs, isB, dNever, dFor, dLc, wipeD, dYes,
  sizeLine_eq, Nat.reduceLeDiff, gEq_int, gNe_int, gEq_strs, gNe_strs, gIn_two, gRepr_bl, rs_lst, rs_tup, rs_scr, rs_int, atI_0, atI_1, atI_2, atI_3, atI_4, atI_5, ixN_30, ixN_31, ixN_32, gEq_bl, gNe_bl, decide_eq_true_eq, beq_iff_eq, Bool.not_eq_true', beq_eq_false_iff_ne, decide_eq_false_iff_not, Bool.not_true, Bool.not_false, if_true, if_false, Bool.false_eq_true, ite_true, ite_false, true_and, and_true, ne_eq, Bool.bne_false, Bool.bne_true, reduceCtorEq])
local macro_rules | `(tactic| walk_at "rh") => `(tactic| simp only [*, startD, List.map, List.replicate, List.length_cons, List.length_nil, List.append_eq, List.append_nil, List.nil_append, List.cons_append, Nat.reduceSub, Nat.reduceAdd, List.getElem?_cons_zero, List.getElem?_cons_succ, List.set_cons_zero, List.set_cons_succ,
  dC, dVar, dOp, dTru, gTru, tru, dChain, dAnd, dOr, dNot, dAndV, dOrV, dNotV, dIf, dNeg, gNeg, dNil, dCons, dTup, dLst, dOwn, gIx, rBin, gAdd, gCmpI, dCall, dCallK, dSeq, dNext, dDrop, dRet, dRetN, dIfS, dName, dGNil, dGCons, dGTup, dSub, gSetL, dAsg, dPar, dPar3, dAug, gIpI, dSeqI, gSeqI, dRngI, gRng1, gRng2, dCB, gAbs, gInt, gMax, gMin, gGcd, gLen, lenD, gIsi, tyM, tyD, dBits, gBits, dMet, gAppend, dPart, dNoPart, dSl, gSl_tup, gSl_lst, cut_1, dEnds, gIs, isB, dNever, dFor, dLc, wipeD, dYes,
  sizeLine_eq, Nat.reduceLeDiff, gEq_int, gNe_int, gEq_strs, gNe_strs, gIn_two, gRepr_bl, rs_lst, rs_tup, rs_scr, rs_int, atI_0, atI_1, atI_2, atI_3, atI_4, atI_5, ixN_30, ixN_31, ixN_32, gEq_bl, gNe_bl, decide_eq_true_eq, beq_iff_eq, Bool.not_eq_true', beq_eq_false_iff_ne, decide_eq_false_iff_not, Bool.not_true, Bool.not_false, if_true, if_false, Bool.false_eq_true, ite_true, ite_false, true_and, and_true, ne_eq, Bool.bne_false, Bool.bne_true, reduceCtorEq])
local macro_rules | `(tactic| walk_at "kb") => `(tactic| simp only [kb_NoneType_list, kb_bool_list, kb_int_list, kb_str_list, kb_tuple_list, kb_list_list, kb_dict_list, kb_NoneType_int, kb_bool_int, kb_int_int, kb_str_int, kb_tuple_int, kb_list_int, kb_dict_int, kb_NoneType_bool, kb_bool_bool, kb_int_bool, kb_str_bool, kb_tuple_bool, kb_list_bool, kb_dict_bool, kb_NoneType_tuple, kb_bool_tuple, kb_int_tuple, kb_str_tuple, kb_tuple_tuple, kb_list_tuple, kb_dict_tuple, if_true, if_false, Bool.false_eq_true, ite_true, ite_false, Bool.not_true, Bool.not_false])
/-! ### sizes of cuttings by their measure -/
theorem sq_nn (e : Int) : 0 ≤ e * e := by rcases (by omega : 0 ≤ e ∨ e ≤ 0) with h | h; exact Int.mul_nonneg h h; exact Int.mul_nonneg_of_nonpos_of_nonpos h h
theorem abs_le_sq (e : Int) : (e.natAbs : Int) ≤ e * e := by
  rcases (by omega : e = 0 ∨ 1 ≤ e ∨ e ≤ -1) with h | h | h
  · subst h; decide
  · have : e * 1 ≤ e * e := Int.mul_le_mul_of_nonneg_left h (by omega); omega
  · have : (-e) * 1 ≤ (-e) * (-e) := Int.mul_le_mul_of_nonneg_left (by omega) (by omega)
    rw [Int.neg_mul_neg] at this; omega
theorem cut_le {a b c e : Int} (h : isCut a b c e = true) : 0 ≤ a ∧ a < c ∧ a < b ∧ b ≤ meas4 b c e ∧ c ≤ meas4 b c e ∧ (e.natAbs : Int) ≤ meas4 b c e ∧ e * e < meas4 b c e := by
  obtain ⟨h1, h2, h3, h4, h5, _⟩ := cut_parts h
  have g1 : (Int.gcd b c : Int) ≤ c := Int.le_of_dvd (by omega) (Int.gcd_dvd_right _ _)
  have g2 : (Int.gcd b c : Int) ≤ b := Int.le_of_dvd (by omega) (Int.gcd_dvd_left _ _)
  have e1 : 4 * b * c = 4 * (b * c) := Int.mul_assoc _ _ _
  have hb : b * 1 ≤ b * c := Int.mul_le_mul_of_nonneg_left h2 (by omega)
  have hc : 1 * c ≤ b * c := Int.mul_le_mul_of_nonneg_right h1 (by omega)
  have he := abs_le_sq e
  have hs := sq_nn e
  unfold meas4
  refine ⟨h4, by omega, by omega, by omega, by omega, by omega, by omega⟩
def CutB (n : Nat) (a b c e : Int) : Prop := Bi n a ∧ Bi n b ∧ Bi n c ∧ Bi n e
theorem cut_bi {n : Nat} {a b c e : Int} (h : isCut a b c e = true) (hm : Bi n (meas4 b c e)) : CutB n a b c e := by
  obtain ⟨h1, h2, h3, h4, h5, h6, h7⟩ := cut_le h
  have h8 := (cut_parts h).1
  have h9 := (cut_parts h).2.1
  have hs := sq_nn e
  unfold CutB Bi at *
  omega
theorem CutB.mono {n k : Nat} {a b c e : Int} (h : CutB n a b c e) (hk : n ≤ k := by decide) : CutB k a b c e := ⟨h.1.mono hk, h.2.1.mono hk, h.2.2.1.mono hk, h.2.2.2.mono hk⟩
/-- a deed's numbers, but for the bound of the first -/
structure DeedQ (b c e p q : Int) : Prop where
  q1 : 1 ≤ q
  al : 0 < b - q * e - q * q * c
  p0 : 0 ≤ p
  cp : Int.gcd p q = 1
end DL
namespace DL
open PySem PySem.Spec PyProof.Rows L2
local macro_rules | `(tactic| walk_at "rd") => `(tactic| simp only [startD, List.map, List.replicate, List.length_cons, List.length_nil, List.append_eq, List.append_nil, List.nil_append, List.cons_append, Nat.reduceSub, Nat.reduceAdd, List.getElem?_cons_zero, List.getElem?_cons_succ, List.set_cons_zero, List.set_cons_succ,
  dC, dVar, dOp, dTru, gTru, tru, dChain, dAnd, dOr, dNot, dAndV, dOrV, dNotV, dIf, dNeg, gNeg, dNil, dCons, dTup, dLst, dOwn, gIx, rBin, gAdd, gCmpI, dCall, dCallK, dSeq, dNext, dDrop, dRet, dRetN, dIfS, dName, dGNil, dGCons, dGTup, dSub, gSetL, dAsg, dPar, dPar3, dAug, gIpI, dSeqI, gSeqI, dRngI, gRng1, gRng2, dCB, gAbs, gInt, gMax, gMin, gGcd, gLen, lenD, gIsi, tyM, tyD, dBits, gBits, dMet, gAppend, dPart, dNoPart, dSl, gSl_tup, gSl_lst, cut_1, dEnds, gIs, isB, dNever, dFor, dLc, wipeD, dYes,
  sizeLine_eq, Nat.reduceLeDiff, gEq_int, gNe_int, gEq_strs, gNe_strs, gIn_two, gRepr_bl, rs_lst, rs_tup, rs_scr, rs_int, atI_0, atI_1, atI_2, atI_3, atI_4, atI_5, ixN_30, ixN_31, ixN_32, gEq_bl, gNe_bl, decide_eq_true_eq, beq_iff_eq, Bool.not_eq_true', beq_eq_false_iff_ne, decide_eq_false_iff_not, Bool.not_true, Bool.not_false, if_true, if_false, Bool.false_eq_true, ite_true, ite_false, true_and, and_true, ne_eq, Bool.bne_false, Bool.bne_true, reduceCtorEq])
local macro_rules | `(tactic| walk_at "rh") => `(tactic| simp only [*, startD, List.map, List.replicate, List.length_cons, List.length_nil, List.append_eq, List.append_nil, List.nil_append, List.cons_append, Nat.reduceSub, Nat.reduceAdd, List.getElem?_cons_zero, List.getElem?_cons_succ, List.set_cons_zero, List.set_cons_succ,
  dC, dVar, dOp, dTru, gTru, tru, dChain, dAnd, dOr, dNot, dAndV, dOrV, dNotV, dIf, dNeg, gNeg, dNil, dCons, dTup, dLst, dOwn, gIx, rBin, gAdd, gCmpI, dCall, dCallK, dSeq, dNext, dDrop, dRet, dRetN, dIfS, dName, dGNil, dGCons, dGTup, dSub, gSetL, dAsg, dPar, dPar3, dAug, gIpI, dSeqI, gSeqI, dRngI, gRng1, gRng2, dCB, gAbs, gInt, gMax, gMin, gGcd, gLen, lenD, gIsi, tyM, tyD, dBits, gBits, dMet, gAppend, dPart, dNoPart, dSl, gSl_tup, gSl_lst, cut_1, dEnds, gIs, isB, dNever, dFor, dLc, wipeD, dYes,
  sizeLine_eq, Nat.reduceLeDiff, gEq_int, gNe_int, gEq_strs, gNe_strs, gIn_two, gRepr_bl, rs_lst, rs_tup, rs_scr, rs_int, atI_0, atI_1, atI_2, atI_3, atI_4, atI_5, ixN_30, ixN_31, ixN_32, gEq_bl, gNe_bl, decide_eq_true_eq, beq_iff_eq, Bool.not_eq_true', beq_eq_false_iff_ne, decide_eq_false_iff_not, Bool.not_true, Bool.not_false, if_true, if_false, Bool.false_eq_true, ite_true, ite_false, true_and, and_true, ne_eq, Bool.bne_false, Bool.bne_true, reduceCtorEq])
local macro_rules | `(tactic| walk_at "kb") => `(tactic| simp only [kb_NoneType_list, kb_bool_list, kb_int_list, kb_str_list, kb_tuple_list, kb_list_list, kb_dict_list, kb_NoneType_int, kb_bool_int, kb_int_int, kb_str_int, kb_tuple_int, kb_list_int, kb_dict_int, kb_NoneType_bool, kb_bool_bool, kb_int_bool, kb_str_bool, kb_tuple_bool, kb_list_bool, kb_dict_bool, kb_NoneType_tuple, kb_bool_tuple, kb_int_tuple, kb_str_tuple, kb_tuple_tuple, kb_list_tuple, kb_dict_tuple, if_true, if_false, Bool.false_eq_true, ite_true, ite_false, Bool.not_true, Bool.not_false])
/-! ### the way to the heart -/
end DL
namespace DL
open PySem PySem.Spec PyProof.Rows L2
local macro_rules | `(tactic| walk_at "rd") => `(tactic| simp only [startD, List.map, List.replicate, List.length_cons, List.length_nil, List.append_eq, List.append_nil, List.nil_append, List.cons_append, Nat.reduceSub, Nat.reduceAdd, List.getElem?_cons_zero, List.getElem?_cons_succ, List.set_cons_zero, List.set_cons_succ,
  dC, dVar, dOp, dTru, gTru, tru, dChain, dAnd, dOr, dNot, dAndV, dOrV, dNotV, dIf, dNeg, gNeg, dNil, dCons, dTup, dLst, dOwn, gIx, rBin, gAdd, gCmpI, dCall, dCallK, dSeq, dNext, dDrop, dRet, dRetN, dIfS, dName, dGNil, dGCons, dGTup, dSub, gSetL, dAsg, dPar, dPar3, dAug, gIpI, dSeqI, gSeqI, dRngI, gRng1, gRng2, dCB, gAbs, gInt, gMax, gMin, gGcd, gLen, lenD, gIsi, tyM, tyD, dBits, gBits, dMet, gAppend, dPart, dNoPart, dSl, gSl_tup, gSl_lst, cut_1, dEnds, gIs, isB, dNever, dFor, dLc, wipeD, dYes,
  sizeLine_eq, Nat.reduceLeDiff, gEq_int, gNe_int, gEq_strs, gNe_strs, gIn_two, gRepr_bl, rs_lst, rs_tup, rs_scr, rs_int, atI_0, atI_1, atI_2, atI_3, atI_4, atI_5, ixN_30, ixN_31, ixN_32, gEq_bl, gNe_bl, decide_eq_true_eq, beq_iff_eq, Bool.not_eq_true', beq_eq_false_iff_ne, decide_eq_false_iff_not, Bool.not_true, Bool.not_false, if_true, if_false, Bool.false_eq_true, ite_true, ite_false, true_and, and_true, ne_eq, Bool.bne_false, Bool.bne_true, reduceCtorEq])
local macro_rules | `(tactic| walk_at "rh") => `(tactic| simp only [*, startD, List.map, List.replicate, List.length_cons, List.length_nil, List.append_eq, List.append_nil, List.nil_append, List.cons_append, Nat.reduceSub, Nat.reduceAdd, List.getElem?_cons_zero, List.getElem?_cons_succ, List.set_cons_zero, List.set_cons_succ,
  dC, dVar, dOp, dTru, gTru, tru, dChain, dAnd, dOr, dNot, dAndV, dOrV, dNotV, dIf, dNeg, gNeg, dNil, dCons, dTup, dLst, dOwn, gIx, rBin, gAdd, gCmpI, dCall, dCallK, dSeq, dNext, dDrop, dRet, dRetN, dIfS, dName, dGNil, dGCons, dGTup, dSub, gSetL, dAsg, dPar, dPar3, dAug, gIpI, dSeqI, gSeqI, dRngI, gRng1, gRng2, dCB, gAbs, gInt, gMax, gMin, gGcd, gLen, lenD, gIsi, tyM, tyD, dBits, gBits, dMet, gAppend, dPart, dNoPart, dSl, gSl_tup, gSl_lst, cut_1, dEnds, gIs, isB, dNever, dFor, dLc, wipeD, dYes,
  sizeLine_eq, Nat.reduceLeDiff, gEq_int, gNe_int, gEq_strs, gNe_strs, gIn_two, gRepr_bl, rs_lst, rs_tup, rs_scr, rs_int, atI_0, atI_1, atI_2, atI_3, atI_4, atI_5, ixN_30, ixN_31, ixN_32, gEq_bl, gNe_bl, decide_eq_true_eq, beq_iff_eq, Bool.not_eq_true', beq_eq_false_iff_ne, decide_eq_false_iff_not, Bool.not_true, Bool.not_false, if_true, if_false, Bool.false_eq_true, ite_true, ite_false, true_and, and_true, ne_eq, Bool.bne_false, Bool.bne_true, reduceCtorEq])
local macro_rules | `(tactic| walk_at "kb") => `(tactic| simp only [kb_NoneType_list, kb_bool_list, kb_int_list, kb_str_list, kb_tuple_list, kb_list_list, kb_dict_list, kb_NoneType_int, kb_bool_int, kb_int_int, kb_str_int, kb_tuple_int, kb_list_int, kb_dict_int, kb_NoneType_bool, kb_bool_bool, kb_int_bool, kb_str_bool, kb_tuple_bool, kb_list_bool, kb_dict_bool, kb_NoneType_tuple, kb_bool_tuple, kb_int_tuple, kb_str_tuple, kb_tuple_tuple, kb_list_tuple, kb_dict_tuple, if_true, if_false, Bool.false_eq_true, ite_true, ite_false, Bool.not_true, Bool.not_false])
/-! ### the law's own deeds -/
theorem gEq_nil' {n : Nat} {l : List D} {M : Mem} {Q : DQ} (h : fineAll n l = true) (q : Q (.bl l.isEmpty) M) (hn : n ≤ 60 := by decide) : gEq (.lst l) (.lst []) M Q := by
  unfold gEq
  rw [rs_lst, rs_lst, eqB_nil h hn]
  exact q
end DL
namespace DL
open PySem PySem.Spec PyProof.Rows L2
local macro_rules | `(tactic| walk_at "rd") => `(tactic| simp only [startD, List.map, List.replicate, List.length_cons, List.length_nil, List.append_eq, List.append_nil, List.nil_append, List.cons_append, Nat.reduceSub, Nat.reduceAdd, List.getElem?_cons_zero, List.getElem?_cons_succ, List.set_cons_zero, List.set_cons_succ,
  dC, dVar, dOp, dTru, gTru, tru, dChain, dAnd, dOr, dNot, dAndV, dOrV, dNotV, dIf, dNeg, gNeg, dNil, dCons, dTup, dLst, dOwn, gIx, rBin, gAdd, gCmpI, dCall, dCallK, dSeq, dNext, dDrop, dRet, dRetN, dIfS, dName, dGNil, dGCons, dGTup, dSub, gSetL, dAsg, dPar, dPar3, dAug, gIpI, dSeqI, gSeqI, dRngI, gRng1, gRng2, dCB, gAbs, gInt, gMax, gMin, gGcd, gLen, lenD, gIsi, tyM, tyD, dBits, gBits, dMet, gAppend, dPart, dNoPart, dSl, gSl_tup, gSl_lst, cut_1, dEnds, gIs, isB, dNever, dFor, dLc, wipeD, dYes,
  sizeLine_eq, Nat.reduceLeDiff, gEq_int, gNe_int, gEq_strs, gNe_strs, gIn_two, gRepr_bl, rs_lst, rs_tup, rs_scr, rs_int, atI_0, atI_1, atI_2, atI_3, atI_4, atI_5, ixN_30, ixN_31, ixN_32, gEq_bl, gNe_bl, decide_eq_true_eq, beq_iff_eq, Bool.not_eq_true', beq_eq_false_iff_ne, decide_eq_false_iff_not, Bool.not_true, Bool.not_false, if_true, if_false, Bool.false_eq_true, ite_true, ite_false, true_and, and_true, ne_eq, Bool.bne_false, Bool.bne_true, reduceCtorEq])
local macro_rules | `(tactic| walk_at "rh") => `(tactic| simp only [*, startD, List.map, List.replicate, List.length_cons, List.length_nil, List.append_eq, List.append_nil, List.nil_append, List.cons_append, Nat.reduceSub, Nat.reduceAdd, List.getElem?_cons_zero, List.getElem?_cons_succ, List.set_cons_zero, List.set_cons_succ,
  dC, dVar, dOp, dTru, gTru, tru, dChain, dAnd, dOr, dNot, dAndV, dOrV, dNotV, dIf, dNeg, gNeg, dNil, dCons, dTup, dLst, dOwn, gIx, rBin, gAdd, gCmpI, dCall, dCallK, dSeq, dNext, dDrop, dRet, dRetN, dIfS, dName, dGNil, dGCons, dGTup, dSub, gSetL, dAsg, dPar, dPar3, dAug, gIpI, dSeqI, gSeqI, dRngI, gRng1, gRng2, dCB, gAbs, gInt, gMax, gMin, gGcd, gLen, lenD, gIsi, tyM, tyD, dBits, gBits, dMet, gAppend, dPart, dNoPart, dSl, gSl_tup, gSl_lst, cut_1, dEnds, gIs, isB, dNever, dFor, dLc, wipeD, dYes,
  sizeLine_eq, Nat.reduceLeDiff, gEq_int, gNe_int, gEq_strs, gNe_strs, gIn_two, gRepr_bl, rs_lst, rs_tup, rs_scr, rs_int, atI_0, atI_1, atI_2, atI_3, atI_4, atI_5, ixN_30, ixN_31, ixN_32, gEq_bl, gNe_bl, decide_eq_true_eq, beq_iff_eq, Bool.not_eq_true', beq_eq_false_iff_ne, decide_eq_false_iff_not, Bool.not_true, Bool.not_false, if_true, if_false, Bool.false_eq_true, ite_true, ite_false, true_and, and_true, ne_eq, Bool.bne_false, Bool.bne_true, reduceCtorEq])
local macro_rules | `(tactic| walk_at "kb") => `(tactic| simp only [kb_NoneType_list, kb_bool_list, kb_int_list, kb_str_list, kb_tuple_list, kb_list_list, kb_dict_list, kb_NoneType_int, kb_bool_int, kb_int_int, kb_str_int, kb_tuple_int, kb_list_int, kb_dict_int, kb_NoneType_bool, kb_bool_bool, kb_int_bool, kb_str_bool, kb_tuple_bool, kb_list_bool, kb_dict_bool, kb_NoneType_tuple, kb_bool_tuple, kb_int_tuple, kb_str_tuple, kb_tuple_tuple, kb_list_tuple, kb_dict_tuple, if_true, if_false, Bool.false_eq_true, ite_true, ite_false, Bool.not_true, Bool.not_false])
/-! ### k63: drawn deeds, the heart's numbers -/
theorem lt900 {b : Int} (h : b < 10 ^ 60) : b < 2 ^ 900 := by
  have e : (2 : Int) ^ 900 = 2 ^ 200 * 2 ^ 700 := by rw [← Int.pow_add]
  have h1 : (0 : Int) < 2 ^ 700 := Int.pow_pos (by decide)
  have h2 : (10 : Int) ^ 60 < 2 ^ 200 := by decide
  have h3 : (2 : Int) ^ 200 * 1 ≤ 2 ^ 200 * 2 ^ 700 := Int.mul_le_mul_of_nonneg_left (by omega) (by decide)
  omega
/-- a deed: (p, q) is one of (a, b, c, e) -/
def isDeed (b c e p q : Int) : Bool := decide (1 ≤ q) && (decide (0 < b - q * e - q * q * c) && (decide (0 ≤ p) && (decide (p < q * (c / (Int.gcd b c : Int))) && (Int.gcd p q : Int) == 1)))
theorem meas_par {a b c e : Int} : (e - meas4 b c e) % 2 = 0 := by
  unfold meas4
  have e1 : 4 * b * c = 4 * (b * c) := Int.mul_assoc _ _ _
  rw [e1]
  rcases (by omega : e % 2 = 0 ∨ e % 2 = 1) with q | q
  · obtain ⟨t, rfl⟩ : ∃ t, e = 2 * t := ⟨e / 2, by omega⟩
    have : 2 * t * (2 * t) = 4 * (t * t) := by grind
    omega
  · obtain ⟨t, rfl⟩ : ∃ t, e = 2 * t + 1 := ⟨e / 2, by omega⟩
    have : (2 * t + 1) * (2 * t + 1) = 4 * (t * t + t) + 1 := by grind
    omega
end DL
namespace DL
open PySem PySem.Spec PyProof.Rows L2
local macro_rules | `(tactic| walk_at "rd") => `(tactic| simp only [startD, List.map, List.replicate, List.length_cons, List.length_nil, List.append_eq, List.append_nil, List.nil_append, List.cons_append, Nat.reduceSub, Nat.reduceAdd, List.getElem?_cons_zero, List.getElem?_cons_succ, List.set_cons_zero, List.set_cons_succ,
  dC, dVar, dOp, dTru, gTru, tru, dChain, dAnd, dOr, dNot, dAndV, dOrV, dNotV, dIf, dNeg, gNeg, dNil, dCons, dTup, dLst, dOwn, gIx, rBin, gAdd, gCmpI, dCall, dCallK, dSeq, dNext, dDrop, dRet, dRetN, dIfS, dName, dGNil, dGCons, dGTup, dSub, gSetL, dAsg, dPar, dPar3, dAug, gIpI, dSeqI, gSeqI, dRngI, gRng1, gRng2, dCB, gAbs, gInt, gMax, gMin, gGcd, gLen, lenD, gIsi, tyM, tyD, dBits, gBits, dMet, gAppend, dPart, dNoPart, dSl, gSl_tup, gSl_lst, cut_1, dEnds, gIs, isB, dNever, dFor, dLc, wipeD, dYes,
  sizeLine_eq, Nat.reduceLeDiff, gEq_int, gNe_int, gEq_strs, gNe_strs, gIn_two, gRepr_bl, rs_lst, rs_tup, rs_scr, rs_int, atI_0, atI_1, atI_2, atI_3, atI_4, atI_5, ixN_30, ixN_31, ixN_32, gEq_bl, gNe_bl, decide_eq_true_eq, beq_iff_eq, Bool.not_eq_true', beq_eq_false_iff_ne, decide_eq_false_iff_not, Bool.not_true, Bool.not_false, if_true, if_false, Bool.false_eq_true, ite_true, ite_false, true_and, and_true, ne_eq, Bool.bne_false, Bool.bne_true, reduceCtorEq])
local macro_rules | `(tactic| walk_at "rh") => `(tactic| simp only [*, startD, List.map, List.replicate, List.length_cons, List.length_nil, List.append_eq, List.append_nil, List.nil_append, List.cons_append, Nat.reduceSub, Nat.reduceAdd, List.getElem?_cons_zero, List.getElem?_cons_succ, List.set_cons_zero, List.set_cons_succ,
  dC, dVar, dOp, dTru, gTru, tru, dChain, dAnd, dOr, dNot, dAndV, dOrV, dNotV, dIf, dNeg, gNeg, dNil, dCons, dTup, dLst, dOwn, gIx, rBin, gAdd, gCmpI, dCall, dCallK, dSeq, dNext, dDrop, dRet, dRetN, dIfS, dName, dGNil, dGCons, dGTup, dSub, gSetL, dAsg, dPar, dPar3, dAug, gIpI, dSeqI, gSeqI, dRngI, gRng1, gRng2, dCB, gAbs, gInt, gMax, gMin, gGcd, gLen, lenD, gIsi, tyM, tyD, dBits, gBits, dMet, gAppend, dPart, dNoPart, dSl, gSl_tup, gSl_lst, cut_1, dEnds, gIs, isB, dNever, dFor, dLc, wipeD, dYes,
  sizeLine_eq, Nat.reduceLeDiff, gEq_int, gNe_int, gEq_strs, gNe_strs, gIn_two, gRepr_bl, rs_lst, rs_tup, rs_scr, rs_int, atI_0, atI_1, atI_2, atI_3, atI_4, atI_5, ixN_30, ixN_31, ixN_32, gEq_bl, gNe_bl, decide_eq_true_eq, beq_iff_eq, Bool.not_eq_true', beq_eq_false_iff_ne, decide_eq_false_iff_not, Bool.not_true, Bool.not_false, if_true, if_false, Bool.false_eq_true, ite_true, ite_false, true_and, and_true, ne_eq, Bool.bne_false, Bool.bne_true, reduceCtorEq])
local macro_rules | `(tactic| walk_at "kb") => `(tactic| simp only [kb_NoneType_list, kb_bool_list, kb_int_list, kb_str_list, kb_tuple_list, kb_list_list, kb_dict_list, kb_NoneType_int, kb_bool_int, kb_int_int, kb_str_int, kb_tuple_int, kb_list_int, kb_dict_int, kb_NoneType_bool, kb_bool_bool, kb_int_bool, kb_str_bool, kb_tuple_bool, kb_list_bool, kb_dict_bool, kb_NoneType_tuple, kb_bool_tuple, kb_int_tuple, kb_str_tuple, kb_tuple_tuple, kb_list_tuple, kb_dict_tuple, if_true, if_false, Bool.false_eq_true, ite_true, ite_false, Bool.not_true, Bool.not_false])
/-! ### all cuttings of a measure, as laws list them -/
def IsC (m : Int) (x : List Int) : Prop := ∃ a b c e, x = [a, b, c, e] ∧ isCut a b c e = true ∧ meas4 b c e = m
/-- l: cuttings of the measure m, among them all with P c e -/
def Cov (m : Int) (l : List (List Int)) (P : Int → Int → Prop) : Prop := (∀ x ∈ l, IsC m x) ∧ ∀ a b c e, isCut a b c e = true → meas4 b c e = m → P c e → [a, b, c, e] ∈ l
theorem Cov.app {m : Int} {l l2 : List (List Int)} {P P' : Int → Int → Prop} (h : Cov m l P) (g : Cov m l2 P') : Cov m (l ++ l2) fun c e => P c e ∨ P' c e :=
  ⟨fun x hx => (List.mem_append.mp hx).elim (h.1 x) (g.1 x), fun a b c e h1 h2 h3 => List.mem_append.mpr (h3.imp (h.2 a b c e h1 h2) (g.2 a b c e h1 h2))⟩
theorem Cov.nil {m : Int} : Cov m [] fun _ _ => False := ⟨fun x hx => (by cases hx), fun _ _ _ _ _ _ h => h.elim⟩
theorem meas_bc {b c e m : Int} : meas4 b c e = m ↔ 4 * (b * c) = m - e * e := by
  unfold meas4
  rw [Int.mul_assoc]
  omega
/-! ### k28's own lists -/
/-! every deed leads somewhere -/
/-! where a deed leads, as a function -/
theorem isDeed_parts {b c e p q : Int} (h : isDeed b c e p q = true) : DeedQ b c e p q ∧ p < q * (c / (Int.gcd b c : Int)) := by
  simp only [isDeed, Bool.and_eq_true, decide_eq_true_eq, beq_iff_eq] at h
  obtain ⟨h1, h2, h3, h4, h5⟩ := h
  exact ⟨⟨h1, h2, h3, by omega⟩, h4⟩
end DL
namespace DL
open PySem PySem.Spec PyProof.Rows L2
local macro_rules | `(tactic| walk_at "rd") => `(tactic| simp only [startD, List.map, List.replicate, List.length_cons, List.length_nil, List.append_eq, List.append_nil, List.nil_append, List.cons_append, Nat.reduceSub, Nat.reduceAdd, List.getElem?_cons_zero, List.getElem?_cons_succ, List.set_cons_zero, List.set_cons_succ,
  dC, dVar, dOp, dTru, gTru, tru, dChain, dAnd, dOr, dNot, dAndV, dOrV, dNotV, dIf, dNeg, gNeg, dNil, dCons, dTup, dLst, dOwn, gIx, rBin, gAdd, gCmpI, dCall, dCallK, dSeq, dNext, dDrop, dRet, dRetN, dIfS, dName, dGNil, dGCons, dGTup, dSub, gSetL, dAsg, dPar, dPar3, dAug, gIpI, dSeqI, gSeqI, dRngI, gRng1, gRng2, dCB, gAbs, gInt, gMax, gMin, gGcd, gLen, lenD, gIsi, tyM, tyD, dBits, gBits, dMet, gAppend, dPart, dNoPart, dSl, gSl_tup, gSl_lst, cut_1, dEnds, gIs, isB, dNever, dFor, dLc, wipeD, dYes,
  sizeLine_eq, Nat.reduceLeDiff, gEq_int, gNe_int, gEq_strs, gNe_strs, gIn_two, gRepr_bl, rs_lst, rs_tup, rs_scr, rs_int, atI_0, atI_1, atI_2, atI_3, atI_4, atI_5, ixN_30, ixN_31, ixN_32, gEq_bl, gNe_bl, decide_eq_true_eq, beq_iff_eq, Bool.not_eq_true', beq_eq_false_iff_ne, decide_eq_false_iff_not, Bool.not_true, Bool.not_false, if_true, if_false, Bool.false_eq_true, ite_true, ite_false, true_and, and_true, ne_eq, Bool.bne_false, Bool.bne_true, reduceCtorEq])
local macro_rules | `(tactic| walk_at "rh") => `(tactic| simp only [*, startD, List.map, List.replicate, List.length_cons, List.length_nil, List.append_eq, List.append_nil, List.nil_append, List.cons_append, Nat.reduceSub, Nat.reduceAdd, List.getElem?_cons_zero, List.getElem?_cons_succ, List.set_cons_zero, List.set_cons_succ,
  dC, dVar, dOp, dTru, gTru, tru, dChain, dAnd, dOr, dNot, dAndV, dOrV, dNotV, dIf, dNeg, gNeg, dNil, dCons, dTup, dLst, dOwn, gIx, rBin, gAdd, gCmpI, dCall, dCallK, dSeq, dNext, dDrop, dRet, dRetN, dIfS, dName, dGNil, dGCons, dGTup, dSub, gSetL, dAsg, dPar, dPar3, dAug, gIpI, dSeqI, gSeqI, dRngI, gRng1, gRng2, dCB, gAbs, gInt, gMax, gMin, gGcd, gLen, lenD, gIsi, tyM, tyD, dBits, gBits, dMet, gAppend, dPart, dNoPart, dSl, gSl_tup, gSl_lst, cut_1, dEnds, gIs, isB, dNever, dFor, dLc, wipeD, dYes,
  sizeLine_eq, Nat.reduceLeDiff, gEq_int, gNe_int, gEq_strs, gNe_strs, gIn_two, gRepr_bl, rs_lst, rs_tup, rs_scr, rs_int, atI_0, atI_1, atI_2, atI_3, atI_4, atI_5, ixN_30, ixN_31, ixN_32, gEq_bl, gNe_bl, decide_eq_true_eq, beq_iff_eq, Bool.not_eq_true', beq_eq_false_iff_ne, decide_eq_false_iff_not, Bool.not_true, Bool.not_false, if_true, if_false, Bool.false_eq_true, ite_true, ite_false, true_and, and_true, ne_eq, Bool.bne_false, Bool.bne_true, reduceCtorEq])
local macro_rules | `(tactic| walk_at "kb") => `(tactic| simp only [kb_NoneType_list, kb_bool_list, kb_int_list, kb_str_list, kb_tuple_list, kb_list_list, kb_dict_list, kb_NoneType_int, kb_bool_int, kb_int_int, kb_str_int, kb_tuple_int, kb_list_int, kb_dict_int, kb_NoneType_bool, kb_bool_bool, kb_int_bool, kb_str_bool, kb_tuple_bool, kb_list_bool, kb_dict_bool, kb_NoneType_tuple, kb_bool_tuple, kb_int_tuple, kb_str_tuple, kb_tuple_tuple, kb_list_tuple, kb_dict_tuple, if_true, if_false, Bool.false_eq_true, ite_true, ite_false, Bool.not_true, Bool.not_false])
/-! ### cells are only added -/
def Plus (M M' : Mem) : Prop := ∃ G, M' = M ++ G ∧ ∀ c ∈ G, ∀ n, belowO n c = true
theorem Plus.refl (M : Mem) : Plus M M := ⟨[], (List.append_nil M).symm, fun c h => (by cases h)⟩
theorem Plus.trans {M M' M'' : Mem} (h : Plus M M') (g : Plus M' M'') : Plus M M'' := by
  obtain ⟨G, rfl, h1⟩ := h
  obtain ⟨G', rfl, h2⟩ := g
  exact ⟨G ++ G', List.append_assoc _ _ _, fun c hc => (List.mem_append.mp hc).elim (h1 c) (h2 c)⟩
theorem Plus.add {M M' : Mem} {l : List D} (h : Plus M M') (hl : ∀ n, belowAll n l = true) : Plus M (M' ++ [.lst l]) :=
  h.trans ⟨[.lst l], rfl, fun c hc n => by rw [List.mem_singleton.mp hc]; exact hl n⟩
theorem Plus.get {M M' : Mem} (h : Plus M M') {i : Nat} (hi : i < M.length) : M'[i]? = M[i]? := by
  obtain ⟨G, rfl, _⟩ := h
  exact List.getElem?_append_left hi
theorem Plus.len {M M' : Mem} (h : Plus M M') : M.length ≤ M'.length := by
  obtain ⟨G, rfl, _⟩ := h
  rw [List.length_append]; omega
theorem Plus.rtq {M M' : Mem} {Q : DQ} {d : D} (h : Plus M M') (q : Q d M') (hb : below M'.length d = true := by rfl) : Rtq M Q d M' := by
  refine rtqC q h.len hb fun i c hc => ?_
  obtain ⟨G, rfl, h1⟩ := h
  by_cases hi : i < M.length
  · rw [List.getElem?_append_left hi] at hc
    exact .inl hc
  · rw [List.getElem?_append_right (by omega)] at hc
    exact .inr (h1 c (List.mem_of_getElem? hc) _)
/-- the new cells are let go -/
theorem Plus.drop {M M' : Mem} {Q : DQ} {d : D} (h : Plus M M') (q : Q d M) (hb : below M.length d = true := by rfl) : Rtq M Q d M' := by
  obtain ⟨G, rfl, _⟩ := h
  exact rtqG q hb
theorem Plus.set {M M' : Mem} {k : Nat} {l : List D} (h : Plus M M') (hk : M.length ≤ k) (hl : ∀ n, belowAll n l = true) : Plus M (M'.set k (.lst l)) := by
  obtain ⟨G, rfl, h1⟩ := h
  refine ⟨G.set (k - M.length) (.lst l), ?_, fun c hc n => ?_⟩
  · rw [List.set_append_right _ _ hk]
  · rcases List.mem_or_eq_of_mem_set hc with hc | rfl
    · exact h1 c hc n
    · exact hl n
/-! ### the way to the heart, as a list of the caller's -/
/-! ### k28 -/
end DL
namespace DL
open PySem PySem.Spec PyProof.Rows L2
local macro_rules | `(tactic| walk_at "rd") => `(tactic| simp only [startD, List.map, List.replicate, List.length_cons, List.length_nil, List.append_eq, List.append_nil, List.nil_append, List.cons_append, Nat.reduceSub, Nat.reduceAdd, List.getElem?_cons_zero, List.getElem?_cons_succ, List.set_cons_zero, List.set_cons_succ,
  dC, dVar, dOp, dTru, gTru, tru, dChain, dAnd, dOr, dNot, dAndV, dOrV, dNotV, dIf, dNeg, gNeg, dNil, dCons, dTup, dLst, dOwn, gIx, rBin, gAdd, gCmpI, dCall, dCallK, dSeq, dNext, dDrop, dRet, dRetN, dIfS, dName, dGNil, dGCons, dGTup, dSub, gSetL, dAsg, dPar, dPar3, dAug, gIpI, dSeqI, gSeqI, dRngI, gRng1, gRng2, dCB, gAbs, gInt, gMax, gMin, gGcd, gLen, lenD, gIsi, tyM, tyD, dBits, gBits, dMet, gAppend, dPart, dNoPart, dSl, gSl_tup, gSl_lst, cut_1, dEnds, gIs, isB, dNever, dFor, dLc, wipeD, dYes,
  sizeLine_eq, Nat.reduceLeDiff, gEq_int, gNe_int, gEq_strs, gNe_strs, gIn_two, gRepr_bl, rs_lst, rs_tup, rs_scr, rs_int, atI_0, atI_1, atI_2, atI_3, atI_4, atI_5, ixN_30, ixN_31, ixN_32, gEq_bl, gNe_bl, decide_eq_true_eq, beq_iff_eq, Bool.not_eq_true', beq_eq_false_iff_ne, decide_eq_false_iff_not, Bool.not_true, Bool.not_false, if_true, if_false, Bool.false_eq_true, ite_true, ite_false, true_and, and_true, ne_eq, Bool.bne_false, Bool.bne_true, reduceCtorEq])
local macro_rules | `(tactic| walk_at "rh") => `(tactic| simp only [*, startD, List.map, List.replicate, List.length_cons, List.length_nil, List.append_eq, List.append_nil, List.nil_append, List.cons_append, Nat.reduceSub, Nat.reduceAdd, List.getElem?_cons_zero, List.getElem?_cons_succ, List.set_cons_zero, List.set_cons_succ,
  dC, dVar, dOp, dTru, gTru, tru, dChain, dAnd, dOr, dNot, dAndV, dOrV, dNotV, dIf, dNeg, gNeg, dNil, dCons, dTup, dLst, dOwn, gIx, rBin, gAdd, gCmpI, dCall, dCallK, dSeq, dNext, dDrop, dRet, dRetN, dIfS, dName, dGNil, dGCons, dGTup, dSub, gSetL, dAsg, dPar, dPar3, dAug, gIpI, dSeqI, gSeqI, dRngI, gRng1, gRng2, dCB, gAbs, gInt, gMax, gMin, gGcd, gLen, lenD, gIsi, tyM, tyD, dBits, gBits, dMet, gAppend, dPart, dNoPart, dSl, gSl_tup, gSl_lst, cut_1, dEnds, gIs, isB, dNever, dFor, dLc, wipeD, dYes,
  sizeLine_eq, Nat.reduceLeDiff, gEq_int, gNe_int, gEq_strs, gNe_strs, gIn_two, gRepr_bl, rs_lst, rs_tup, rs_scr, rs_int, atI_0, atI_1, atI_2, atI_3, atI_4, atI_5, ixN_30, ixN_31, ixN_32, gEq_bl, gNe_bl, decide_eq_true_eq, beq_iff_eq, Bool.not_eq_true', beq_eq_false_iff_ne, decide_eq_false_iff_not, Bool.not_true, Bool.not_false, if_true, if_false, Bool.false_eq_true, ite_true, ite_false, true_and, and_true, ne_eq, Bool.bne_false, Bool.bne_true, reduceCtorEq])
local macro_rules | `(tactic| walk_at "kb") => `(tactic| simp only [kb_NoneType_list, kb_bool_list, kb_int_list, kb_str_list, kb_tuple_list, kb_list_list, kb_dict_list, kb_NoneType_int, kb_bool_int, kb_int_int, kb_str_int, kb_tuple_int, kb_list_int, kb_dict_int, kb_NoneType_bool, kb_bool_bool, kb_int_bool, kb_str_bool, kb_tuple_bool, kb_list_bool, kb_dict_bool, kb_NoneType_tuple, kb_bool_tuple, kb_int_tuple, kb_str_tuple, kb_tuple_tuple, kb_list_tuple, kb_dict_tuple, if_true, if_false, Bool.false_eq_true, ite_true, ite_false, Bool.not_true, Bool.not_false])
/-! ### sorted lists of tuples of ints -/
abbrev LSorted (l : List (List Int)) : Prop := l.Pairwise fun x y => lexL y x = false
/-! ### all cuttings of a measure, each once -/
def CovX (m : Int) (l : List (List Int)) (P : Int → Int → Prop) : Prop := l.Nodup ∧ ∀ x, x ∈ l ↔ ∃ a b c e, x = [a, b, c, e] ∧ isCut a b c e = true ∧ meas4 b c e = m ∧ P c e
theorem CovX.nil {m : Int} {P : Int → Int → Prop} (h : ∀ a b c e, isCut a b c e = true → meas4 b c e = m → ¬ P c e) : CovX m [] P :=
  ⟨List.nodup_nil, fun x => ⟨fun h => (by cases h), by rintro ⟨a, b, c, e, rfl, h1, h2, h3⟩; exact (h a b c e h1 h2 h3).elim⟩⟩
theorem CovX.iff {m : Int} {l : List (List Int)} {P P' : Int → Int → Prop} (h : CovX m l P) (w : ∀ a b c e, isCut a b c e = true → meas4 b c e = m → (P' c e ↔ P c e)) : CovX m l P' := by
  refine ⟨h.1, fun x => (h.2 x).trans ?_⟩
  constructor
  · rintro ⟨a, b, c, e, rfl, h1, h2, h3⟩; exact ⟨a, b, c, e, rfl, h1, h2, (w a b c e h1 h2).mpr h3⟩
  · rintro ⟨a, b, c, e, rfl, h1, h2, h3⟩; exact ⟨a, b, c, e, rfl, h1, h2, (w a b c e h1 h2).mp h3⟩
theorem CovX.app {m : Int} {l l2 : List (List Int)} {P P' : Int → Int → Prop} (h : CovX m l P) (g : CovX m l2 P') (w : ∀ c e, P c e → P' c e → False) : CovX m (l ++ l2) fun c e => P c e ∨ P' c e := by
  refine ⟨List.nodup_append.mpr ⟨h.1, g.1, fun x hx y hy e => ?_⟩, fun x => ?_⟩
  · subst e
    obtain ⟨a, b, c, e, rfl, _, _, h3⟩ := (h.2 x).mp hx
    obtain ⟨a', b', c', e', h4, _, _, h5⟩ := (g.2 _).mp hy
    cases h4
    exact w c e h3 h5
  · rw [List.mem_append, h.2, g.2]
    constructor
    · rintro (⟨a, b, c, e, rfl, h1, h2, h3⟩ | ⟨a, b, c, e, rfl, h1, h2, h3⟩)
      · exact ⟨a, b, c, e, rfl, h1, h2, .inl h3⟩
      · exact ⟨a, b, c, e, rfl, h1, h2, .inr h3⟩
    · rintro ⟨a, b, c, e, rfl, h1, h2, h3 | h3⟩
      · exact .inl ⟨a, b, c, e, rfl, h1, h2, h3⟩
      · exact .inr ⟨a, b, c, e, rfl, h1, h2, h3⟩
/-- the whole of them, sorted -/
structure AllC (m : Int) (l : List (List Int)) : Prop where
  nd : l.Nodup
  mem : ∀ x, x ∈ l ↔ IsC m x
  srt : LSorted l
  len : l.length ≤ 10000000
theorem AllC.of {m : Int} {l l' : List (List Int)} {P : Int → Int → Prop} (h : CovX m l P) (w : ∀ a b c e, isCut a b c e = true → meas4 b c e = m → P c e) (hl : l.length ≤ 10000000) (pm : l'.Perm l) (sd : LSorted l') : AllC m l' := by
  refine ⟨(pm.nodup_iff).mpr h.1, fun x => ?_, sd, by rw [pm.length_eq]; exact hl⟩
  rw [pm.mem_iff, h.2]
  constructor
  · rintro ⟨a, b, c, e, rfl, h1, h2, _⟩; exact ⟨a, b, c, e, rfl, h1, h2⟩
  · rintro ⟨a, b, c, e, rfl, h1, h2⟩; exact ⟨a, b, c, e, rfl, h1, h2, w a b c e h1 h2⟩
/-! ### the functions of k13 to k16 -/
end DL
namespace DL
open PySem PySem.Spec PyProof.Rows L2
local macro_rules | `(tactic| walk_at "rd") => `(tactic| simp only [startD, List.map, List.replicate, List.length_cons, List.length_nil, List.append_eq, List.append_nil, List.nil_append, List.cons_append, Nat.reduceSub, Nat.reduceAdd, List.getElem?_cons_zero, List.getElem?_cons_succ, List.set_cons_zero, List.set_cons_succ,
  dC, dVar, dOp, dTru, gTru, tru, dChain, dAnd, dOr, dNot, dAndV, dOrV, dNotV, dIf, dNeg, gNeg, dNil, dCons, dTup, dLst, dOwn, gIx, rBin, gAdd, gCmpI, dCall, dCallK, dSeq, dNext, dDrop, dRet, dRetN, dIfS, dName, dGNil, dGCons, dGTup, dSub, gSetL, dAsg, dPar, dPar3, dAug, gIpI, dSeqI, gSeqI, dRngI, gRng1, gRng2, dCB, gAbs, gInt, gMax, gMin, gGcd, gLen, lenD, gIsi, tyM, tyD, dBits, gBits, dMet, gAppend, dPart, dNoPart, dSl, gSl_tup, gSl_lst, cut_1, dEnds, gIs, isB, dNever, dFor, dLc, wipeD, dYes,
  sizeLine_eq, Nat.reduceLeDiff, gEq_int, gNe_int, gEq_strs, gNe_strs, gIn_two, gRepr_bl, rs_lst, rs_tup, rs_scr, rs_int, atI_0, atI_1, atI_2, atI_3, atI_4, atI_5, ixN_30, ixN_31, ixN_32, gEq_bl, gNe_bl, decide_eq_true_eq, beq_iff_eq, Bool.not_eq_true', beq_eq_false_iff_ne, decide_eq_false_iff_not, Bool.not_true, Bool.not_false, if_true, if_false, Bool.false_eq_true, ite_true, ite_false, true_and, and_true, ne_eq, Bool.bne_false, Bool.bne_true, reduceCtorEq])
local macro_rules | `(tactic| walk_at "rh") => `(tactic| simp only [*, startD, List.map, List.replicate, List.length_cons, List.length_nil, List.append_eq, List.append_nil, List.nil_append, List.cons_append, Nat.reduceSub, Nat.reduceAdd, List.getElem?_cons_zero, List.getElem?_cons_succ, List.set_cons_zero, List.set_cons_succ,
  dC, dVar, dOp, dTru, gTru, tru, dChain, dAnd, dOr, dNot, dAndV, dOrV, dNotV, dIf, dNeg, gNeg, dNil, dCons, dTup, dLst, dOwn, gIx, rBin, gAdd, gCmpI, dCall, dCallK, dSeq, dNext, dDrop, dRet, dRetN, dIfS, dName, dGNil, dGCons, dGTup, dSub, gSetL, dAsg, dPar, dPar3, dAug, gIpI, dSeqI, gSeqI, dRngI, gRng1, gRng2, dCB, gAbs, gInt, gMax, gMin, gGcd, gLen, lenD, gIsi, tyM, tyD, dBits, gBits, dMet, gAppend, dPart, dNoPart, dSl, gSl_tup, gSl_lst, cut_1, dEnds, gIs, isB, dNever, dFor, dLc, wipeD, dYes,
  sizeLine_eq, Nat.reduceLeDiff, gEq_int, gNe_int, gEq_strs, gNe_strs, gIn_two, gRepr_bl, rs_lst, rs_tup, rs_scr, rs_int, atI_0, atI_1, atI_2, atI_3, atI_4, atI_5, ixN_30, ixN_31, ixN_32, gEq_bl, gNe_bl, decide_eq_true_eq, beq_iff_eq, Bool.not_eq_true', beq_eq_false_iff_ne, decide_eq_false_iff_not, Bool.not_true, Bool.not_false, if_true, if_false, Bool.false_eq_true, ite_true, ite_false, true_and, and_true, ne_eq, Bool.bne_false, Bool.bne_true, reduceCtorEq])
local macro_rules | `(tactic| walk_at "kb") => `(tactic| simp only [kb_NoneType_list, kb_bool_list, kb_int_list, kb_str_list, kb_tuple_list, kb_list_list, kb_dict_list, kb_NoneType_int, kb_bool_int, kb_int_int, kb_str_int, kb_tuple_int, kb_list_int, kb_dict_int, kb_NoneType_bool, kb_bool_bool, kb_int_bool, kb_str_bool, kb_tuple_bool, kb_list_bool, kb_dict_bool, kb_NoneType_tuple, kb_bool_tuple, kb_int_tuple, kb_str_tuple, kb_tuple_tuple, kb_list_tuple, kb_dict_tuple, if_true, if_false, Bool.false_eq_true, ite_true, ite_false, Bool.not_true, Bool.not_false])
/-! ### a drawn cutting of a small measure -/
/-! ### all deeds of a cutting -/
theorem allowed_mono {b c e q q' : Int} (hb : 1 ≤ b) (hc : 1 ≤ c) (h1 : 1 ≤ q) (h2 : q ≤ q') (h : 0 < b - q' * e - q' * q' * c) : 0 < b - q * e - q * q * c := by
  have e1 : q' * (b - q * e - q * q * c) = q * (b - q' * e - q' * q' * c) + (q' - q) * b + q * q' * (q' - q) * c := by grind
  have p1 : 0 < q * (b - q' * e - q' * q' * c) := Int.mul_pos (by omega) h
  have p2 : 0 ≤ (q' - q) * b := Int.mul_nonneg (by omega) (by omega)
  have p3 : 0 ≤ q * q' * (q' - q) * c := Int.mul_nonneg (Int.mul_nonneg (Int.mul_nonneg (by omega) (by omega)) (by omega)) (by omega)
  by_cases z : 0 < b - q * e - q * q * c
  · exact z
  · have : q' * (b - q * e - q * q * c) ≤ 0 := Int.mul_nonpos_of_nonneg_of_nonpos (by omega) (by omega)
    omega
def CovD (b c e : Int) (l : List (List Int)) (k : Int) : Prop := l.Nodup ∧ ∀ x, x ∈ l ↔ ∃ p q, x = [p, q] ∧ isDeed b c e p q = true ∧ q < k
structure AllD (b c e : Int) (l : List (List Int)) : Prop where
  nd : l.Nodup
  mem : ∀ x, x ∈ l ↔ ∃ p q, x = [p, q] ∧ isDeed b c e p q = true
  srt : LSorted l
  len : l.length ≤ 10000000
theorem AllD.of {b c e k : Int} {l l' : List (List Int)} (hb : 1 ≤ b) (hc : 1 ≤ c) (hk : 1 ≤ k) (h : CovD b c e l k) (hn : ¬ 0 < b - k * e - k * k * c) (hl : l.length ≤ 10000000) (pm : l'.Perm l) (sd : LSorted l') : AllD b c e l' := by
  refine ⟨(pm.nodup_iff).mpr h.1, fun x => ?_, sd, by rw [pm.length_eq]; exact hl⟩
  rw [pm.mem_iff, h.2]
  constructor
  · rintro ⟨p, q, rfl, h1, _⟩; exact ⟨p, q, rfl, h1⟩
  · rintro ⟨p, q, rfl, h1⟩
    refine ⟨p, q, rfl, h1, ?_⟩
    by_cases z : q < k
    · exact z
    · exact (hn (allowed_mono hb hc hk (by omega) (isDeed_parts h1).1.al)).elim
/-! ### deeds judged -/
theorem len2 {l : List D} (h : l.length = 2) : ∃ a b, l = [a, b] := by
  match l, h with
  | [a, b], _ => exact ⟨a, b, rfl⟩
/-! ### columns led down -/
end DL
namespace DL
open PySem PySem.Spec PyProof.Rows L2
local macro_rules | `(tactic| walk_at "rd") => `(tactic| simp only [startD, List.map, List.replicate, List.length_cons, List.length_nil, List.append_eq, List.append_nil, List.nil_append, List.cons_append, Nat.reduceSub, Nat.reduceAdd, List.getElem?_cons_zero, List.getElem?_cons_succ, List.set_cons_zero, List.set_cons_succ,
  dC, dVar, dOp, dTru, gTru, tru, dChain, dAnd, dOr, dNot, dAndV, dOrV, dNotV, dIf, dNeg, gNeg, dNil, dCons, dTup, dLst, dOwn, gIx, rBin, gAdd, gCmpI, dCall, dCallK, dSeq, dNext, dDrop, dRet, dRetN, dIfS, dName, dGNil, dGCons, dGTup, dSub, gSetL, dAsg, dPar, dPar3, dAug, gIpI, dSeqI, gSeqI, dRngI, gRng1, gRng2, dCB, gAbs, gInt, gMax, gMin, gGcd, gLen, lenD, gIsi, tyM, tyD, dBits, gBits, dMet, gAppend, dPart, dNoPart, dSl, gSl_tup, gSl_lst, cut_1, dEnds, gIs, isB, dNever, dFor, dLc, wipeD, dYes,
  sizeLine_eq, Nat.reduceLeDiff, gEq_int, gNe_int, gEq_strs, gNe_strs, gIn_two, gRepr_bl, rs_lst, rs_tup, rs_scr, rs_int, atI_0, atI_1, atI_2, atI_3, atI_4, atI_5, ixN_30, ixN_31, ixN_32, gEq_bl, gNe_bl, decide_eq_true_eq, beq_iff_eq, Bool.not_eq_true', beq_eq_false_iff_ne, decide_eq_false_iff_not, Bool.not_true, Bool.not_false, if_true, if_false, Bool.false_eq_true, ite_true, ite_false, true_and, and_true, ne_eq, Bool.bne_false, Bool.bne_true, reduceCtorEq])
local macro_rules | `(tactic| walk_at "rh") => `(tactic| simp only [*, startD, List.map, List.replicate, List.length_cons, List.length_nil, List.append_eq, List.append_nil, List.nil_append, List.cons_append, Nat.reduceSub, Nat.reduceAdd, List.getElem?_cons_zero, List.getElem?_cons_succ, List.set_cons_zero, List.set_cons_succ,
  dC, dVar, dOp, dTru, gTru, tru, dChain, dAnd, dOr, dNot, dAndV, dOrV, dNotV, dIf, dNeg, gNeg, dNil, dCons, dTup, dLst, dOwn, gIx, rBin, gAdd, gCmpI, dCall, dCallK, dSeq, dNext, dDrop, dRet, dRetN, dIfS, dName, dGNil, dGCons, dGTup, dSub, gSetL, dAsg, dPar, dPar3, dAug, gIpI, dSeqI, gSeqI, dRngI, gRng1, gRng2, dCB, gAbs, gInt, gMax, gMin, gGcd, gLen, lenD, gIsi, tyM, tyD, dBits, gBits, dMet, gAppend, dPart, dNoPart, dSl, gSl_tup, gSl_lst, cut_1, dEnds, gIs, isB, dNever, dFor, dLc, wipeD, dYes,
  sizeLine_eq, Nat.reduceLeDiff, gEq_int, gNe_int, gEq_strs, gNe_strs, gIn_two, gRepr_bl, rs_lst, rs_tup, rs_scr, rs_int, atI_0, atI_1, atI_2, atI_3, atI_4, atI_5, ixN_30, ixN_31, ixN_32, gEq_bl, gNe_bl, decide_eq_true_eq, beq_iff_eq, Bool.not_eq_true', beq_eq_false_iff_ne, decide_eq_false_iff_not, Bool.not_true, Bool.not_false, if_true, if_false, Bool.false_eq_true, ite_true, ite_false, true_and, and_true, ne_eq, Bool.bne_false, Bool.bne_true, reduceCtorEq])
local macro_rules | `(tactic| walk_at "kb") => `(tactic| simp only [kb_NoneType_list, kb_bool_list, kb_int_list, kb_str_list, kb_tuple_list, kb_list_list, kb_dict_list, kb_NoneType_int, kb_bool_int, kb_int_int, kb_str_int, kb_tuple_int, kb_list_int, kb_dict_int, kb_NoneType_bool, kb_bool_bool, kb_int_bool, kb_str_bool, kb_tuple_bool, kb_list_bool, kb_dict_bool, kb_NoneType_tuple, kb_bool_tuple, kb_int_tuple, kb_str_tuple, kb_tuple_tuple, kb_list_tuple, kb_dict_tuple, if_true, if_false, Bool.false_eq_true, ite_true, ite_false, Bool.not_true, Bool.not_false])
/-! ### columns of a deed's table, led down -/
/-! ### x in l -/
end DL
/-! MF: the deed that leads back; plain -/
namespace DL
end DL
namespace DL
open PySem PySem.Spec PyProof.Rows L2
local macro_rules | `(tactic| walk_at "rd") => `(tactic| simp only [startD, List.map, List.replicate, List.length_cons, List.length_nil, List.append_eq, List.append_nil, List.nil_append, List.cons_append, Nat.reduceSub, Nat.reduceAdd, List.getElem?_cons_zero, List.getElem?_cons_succ, List.set_cons_zero, List.set_cons_succ,
  dC, dVar, dOp, dTru, gTru, tru, dChain, dAnd, dOr, dNot, dAndV, dOrV, dNotV, dIf, dNeg, gNeg, dNil, dCons, dTup, dLst, dOwn, gIx, rBin, gAdd, gCmpI, dCall, dCallK, dSeq, dNext, dDrop, dRet, dRetN, dIfS, dName, dGNil, dGCons, dGTup, dSub, gSetL, dAsg, dPar, dPar3, dAug, gIpI, dSeqI, gSeqI, dRngI, gRng1, gRng2, dCB, gAbs, gInt, gMax, gMin, gGcd, gLen, lenD, gIsi, tyM, tyD, dBits, gBits, dMet, gAppend, dPart, dNoPart, dSl, gSl_tup, gSl_lst, cut_1, dEnds, gIs, isB, dNever, dFor, dLc, wipeD, dYes,
  sizeLine_eq, Nat.reduceLeDiff, gEq_int, gNe_int, gEq_strs, gNe_strs, gIn_two, gRepr_bl, rs_lst, rs_tup, rs_scr, rs_int, atI_0, atI_1, atI_2, atI_3, atI_4, atI_5, ixN_30, ixN_31, ixN_32, gEq_bl, gNe_bl, decide_eq_true_eq, beq_iff_eq, Bool.not_eq_true', beq_eq_false_iff_ne, decide_eq_false_iff_not, Bool.not_true, Bool.not_false, if_true, if_false, Bool.false_eq_true, ite_true, ite_false, true_and, and_true, ne_eq, Bool.bne_false, Bool.bne_true, reduceCtorEq])
local macro_rules | `(tactic| walk_at "rh") => `(tactic| simp only [*, startD, List.map, List.replicate, List.length_cons, List.length_nil, List.append_eq, List.append_nil, List.nil_append, List.cons_append, Nat.reduceSub, Nat.reduceAdd, List.getElem?_cons_zero, List.getElem?_cons_succ, List.set_cons_zero, List.set_cons_succ,
  dC, dVar, dOp, dTru, gTru, tru, dChain, dAnd, dOr, dNot, dAndV, dOrV, dNotV, dIf, dNeg, gNeg, dNil, dCons, dTup, dLst, dOwn, gIx, rBin, gAdd, gCmpI, dCall, dCallK, dSeq, dNext, dDrop, dRet, dRetN, dIfS, dName, dGNil, dGCons, dGTup, dSub, gSetL, dAsg, dPar, dPar3, dAug, gIpI, dSeqI, gSeqI, dRngI, gRng1, gRng2, dCB, gAbs, gInt, gMax, gMin, gGcd, gLen, lenD, gIsi, tyM, tyD, dBits, gBits, dMet, gAppend, dPart, dNoPart, dSl, gSl_tup, gSl_lst, cut_1, dEnds, gIs, isB, dNever, dFor, dLc, wipeD, dYes,
  sizeLine_eq, Nat.reduceLeDiff, gEq_int, gNe_int, gEq_strs, gNe_strs, gIn_two, gRepr_bl, rs_lst, rs_tup, rs_scr, rs_int, atI_0, atI_1, atI_2, atI_3, atI_4, atI_5, ixN_30, ixN_31, ixN_32, gEq_bl, gNe_bl, decide_eq_true_eq, beq_iff_eq, Bool.not_eq_true', beq_eq_false_iff_ne, decide_eq_false_iff_not, Bool.not_true, Bool.not_false, if_true, if_false, Bool.false_eq_true, ite_true, ite_false, true_and, and_true, ne_eq, Bool.bne_false, Bool.bne_true, reduceCtorEq])
local macro_rules | `(tactic| walk_at "kb") => `(tactic| simp only [kb_NoneType_list, kb_bool_list, kb_int_list, kb_str_list, kb_tuple_list, kb_list_list, kb_dict_list, kb_NoneType_int, kb_bool_int, kb_int_int, kb_str_int, kb_tuple_int, kb_list_int, kb_dict_int, kb_NoneType_bool, kb_bool_bool, kb_int_bool, kb_str_bool, kb_tuple_bool, kb_list_bool, kb_dict_bool, kb_NoneType_tuple, kb_bool_tuple, kb_int_tuple, kb_str_tuple, kb_tuple_tuple, kb_list_tuple, kb_dict_tuple, if_true, if_false, Bool.false_eq_true, ite_true, ite_false, Bool.not_true, Bool.not_false])
theorem toPy_tupE {l : List D} {p : PyData} (h : toPy (.tup l) = some p) : ∃ ps, toPyAll l = some ps ∧ p = .tuple ps := by
  unfold toPy at h
  cases hl : toPyAll l with
  | none => rw [hl] at h; cases h
  | some ps => rw [hl] at h; cases h; exact ⟨ps, rfl, rfl⟩
theorem toPy_lstE {l : List D} {p : PyData} (h : toPy (.lst l) = some p) : ∃ ps, toPyAll l = some ps ∧ p = .list ps := by
  unfold toPy at h
  cases hl : toPyAll l with
  | none => rw [hl] at h; cases h
  | some ps => rw [hl] at h; cases h; exact ⟨ps, rfl, rfl⟩
theorem toPyAll_cons {d : D} {ds : List D} {ps : List PyData} (h : toPyAll (d :: ds) = some ps) : ∃ p qs, toPy d = some p ∧ toPyAll ds = some qs ∧ ps = p :: qs := by
  unfold toPyAll at h
  cases h1 : toPy d with
  | none => rw [h1] at h; cases h
  | some p =>
    cases h2 : toPyAll ds with
    | none => rw [h1, h2] at h; cases h
    | some qs => rw [h1, h2] at h; cases h; exact ⟨p, qs, rfl, rfl, rfl⟩
theorem toPy_non {d : D}  {p : PyData} (h : toPy d = some p) (e : p = .none) : d = .non := by
  cases d with
  | non => subst e; first | (cases h; done) | (cases h; rfl)
  | bl b => subst e; first | (cases h; done) | (cases h; rfl)
  | int i => subst e; first | (cases h; done) | (cases h; rfl)
  | str x => subst e; first | (cases h; done) | (cases h; rfl)
  | dct0 => subst e; first | (cases h; done) | (cases h; rfl)
  | scr ns => subst e; first | (cases h; done) | (cases h; rfl)
  | own k => subst e; first | (cases h; done) | (cases h; rfl)
  | exc C d => subst e; first | (cases h; done) | (cases h; rfl)
  | errS => subst e; first | (cases h; done) | (cases h; rfl)
  | glb x => subst e; first | (cases h; done) | (cases h; rfl)
  | val v => subst e; first | (cases h; done) | (cases h; rfl)
  | tup l => obtain ⟨ps, h1, h2⟩ := toPy_tupE h; subst e; first | (cases h2; done) | (cases h2; exact ⟨l, rfl, h1⟩)
  | lst l => obtain ⟨ps, h1, h2⟩ := toPy_lstE h; subst e; first | (cases h2; done) | (cases h2; exact ⟨l, rfl, h1⟩)
theorem toPy_bl {d : D} {b : Bool} {p : PyData} (h : toPy d = some p) (e : p = .bool b) : d = .bl b := by
  cases d with
  | non => subst e; first | (cases h; done) | (cases h; rfl)
  | bl b => subst e; first | (cases h; done) | (cases h; rfl)
  | int i => subst e; first | (cases h; done) | (cases h; rfl)
  | str x => subst e; first | (cases h; done) | (cases h; rfl)
  | dct0 => subst e; first | (cases h; done) | (cases h; rfl)
  | scr ns => subst e; first | (cases h; done) | (cases h; rfl)
  | own k => subst e; first | (cases h; done) | (cases h; rfl)
  | exc C d => subst e; first | (cases h; done) | (cases h; rfl)
  | errS => subst e; first | (cases h; done) | (cases h; rfl)
  | glb x => subst e; first | (cases h; done) | (cases h; rfl)
  | val v => subst e; first | (cases h; done) | (cases h; rfl)
  | tup l => obtain ⟨ps, h1, h2⟩ := toPy_tupE h; subst e; first | (cases h2; done) | (cases h2; exact ⟨l, rfl, h1⟩)
  | lst l => obtain ⟨ps, h1, h2⟩ := toPy_lstE h; subst e; first | (cases h2; done) | (cases h2; exact ⟨l, rfl, h1⟩)
theorem toPy_int {d : D} {i : Int} {p : PyData} (h : toPy d = some p) (e : p = .int i) : d = .int i := by
  cases d with
  | non => subst e; first | (cases h; done) | (cases h; rfl)
  | bl b => subst e; first | (cases h; done) | (cases h; rfl)
  | int i => subst e; first | (cases h; done) | (cases h; rfl)
  | str x => subst e; first | (cases h; done) | (cases h; rfl)
  | dct0 => subst e; first | (cases h; done) | (cases h; rfl)
  | scr ns => subst e; first | (cases h; done) | (cases h; rfl)
  | own k => subst e; first | (cases h; done) | (cases h; rfl)
  | exc C d => subst e; first | (cases h; done) | (cases h; rfl)
  | errS => subst e; first | (cases h; done) | (cases h; rfl)
  | glb x => subst e; first | (cases h; done) | (cases h; rfl)
  | val v => subst e; first | (cases h; done) | (cases h; rfl)
  | tup l => obtain ⟨ps, h1, h2⟩ := toPy_tupE h; subst e; first | (cases h2; done) | (cases h2; exact ⟨l, rfl, h1⟩)
  | lst l => obtain ⟨ps, h1, h2⟩ := toPy_lstE h; subst e; first | (cases h2; done) | (cases h2; exact ⟨l, rfl, h1⟩)
theorem toPy_str {d : D} {x : Str} {p : PyData} (h : toPy d = some p) (e : p = .str x) : d = .str x := by
  cases d with
  | non => subst e; first | (cases h; done) | (cases h; rfl)
  | bl b => subst e; first | (cases h; done) | (cases h; rfl)
  | int i => subst e; first | (cases h; done) | (cases h; rfl)
  | str x => subst e; first | (cases h; done) | (cases h; rfl)
  | dct0 => subst e; first | (cases h; done) | (cases h; rfl)
  | scr ns => subst e; first | (cases h; done) | (cases h; rfl)
  | own k => subst e; first | (cases h; done) | (cases h; rfl)
  | exc C d => subst e; first | (cases h; done) | (cases h; rfl)
  | errS => subst e; first | (cases h; done) | (cases h; rfl)
  | glb x => subst e; first | (cases h; done) | (cases h; rfl)
  | val v => subst e; first | (cases h; done) | (cases h; rfl)
  | tup l => obtain ⟨ps, h1, h2⟩ := toPy_tupE h; subst e; first | (cases h2; done) | (cases h2; exact ⟨l, rfl, h1⟩)
  | lst l => obtain ⟨ps, h1, h2⟩ := toPy_lstE h; subst e; first | (cases h2; done) | (cases h2; exact ⟨l, rfl, h1⟩)
theorem toPy_list {d : D} {qs : List PyData} {p : PyData} (h : toPy d = some p) (e : p = .list qs) : ∃ l, d = .lst l ∧ toPyAll l = some qs := by
  cases d with
  | non => subst e; first | (cases h; done) | (cases h; rfl)
  | bl b => subst e; first | (cases h; done) | (cases h; rfl)
  | int i => subst e; first | (cases h; done) | (cases h; rfl)
  | str x => subst e; first | (cases h; done) | (cases h; rfl)
  | dct0 => subst e; first | (cases h; done) | (cases h; rfl)
  | scr ns => subst e; first | (cases h; done) | (cases h; rfl)
  | own k => subst e; first | (cases h; done) | (cases h; rfl)
  | exc C d => subst e; first | (cases h; done) | (cases h; rfl)
  | errS => subst e; first | (cases h; done) | (cases h; rfl)
  | glb x => subst e; first | (cases h; done) | (cases h; rfl)
  | val v => subst e; first | (cases h; done) | (cases h; rfl)
  | tup l => obtain ⟨ps, h1, h2⟩ := toPy_tupE h; subst e; first | (cases h2; done) | (cases h2; exact ⟨l, rfl, h1⟩)
  | lst l => obtain ⟨ps, h1, h2⟩ := toPy_lstE h; subst e; first | (cases h2; done) | (cases h2; exact ⟨l, rfl, h1⟩)
theorem toPy_tuple {d : D} {qs : List PyData} {p : PyData} (h : toPy d = some p) (e : p = .tuple qs) : ∃ l, d = .tup l ∧ toPyAll l = some qs := by
  cases d with
  | non => subst e; first | (cases h; done) | (cases h; rfl)
  | bl b => subst e; first | (cases h; done) | (cases h; rfl)
  | int i => subst e; first | (cases h; done) | (cases h; rfl)
  | str x => subst e; first | (cases h; done) | (cases h; rfl)
  | dct0 => subst e; first | (cases h; done) | (cases h; rfl)
  | scr ns => subst e; first | (cases h; done) | (cases h; rfl)
  | own k => subst e; first | (cases h; done) | (cases h; rfl)
  | exc C d => subst e; first | (cases h; done) | (cases h; rfl)
  | errS => subst e; first | (cases h; done) | (cases h; rfl)
  | glb x => subst e; first | (cases h; done) | (cases h; rfl)
  | val v => subst e; first | (cases h; done) | (cases h; rfl)
  | tup l => obtain ⟨ps, h1, h2⟩ := toPy_tupE h; subst e; first | (cases h2; done) | (cases h2; exact ⟨l, rfl, h1⟩)
  | lst l => obtain ⟨ps, h1, h2⟩ := toPy_lstE h; subst e; first | (cases h2; done) | (cases h2; exact ⟨l, rfl, h1⟩)
theorem toPy_dict {d : D} {qs : List (PyData × PyData)} {p : PyData} (h : toPy d = some p) (e : p = .dict qs) : d = .dct0 := by
  cases d with
  | non => subst e; first | (cases h; done) | (cases h; rfl)
  | bl b => subst e; first | (cases h; done) | (cases h; rfl)
  | int i => subst e; first | (cases h; done) | (cases h; rfl)
  | str x => subst e; first | (cases h; done) | (cases h; rfl)
  | dct0 => subst e; first | (cases h; done) | (cases h; rfl)
  | scr ns => subst e; first | (cases h; done) | (cases h; rfl)
  | own k => subst e; first | (cases h; done) | (cases h; rfl)
  | exc C d => subst e; first | (cases h; done) | (cases h; rfl)
  | errS => subst e; first | (cases h; done) | (cases h; rfl)
  | glb x => subst e; first | (cases h; done) | (cases h; rfl)
  | val v => subst e; first | (cases h; done) | (cases h; rfl)
  | tup l => obtain ⟨ps, h1, h2⟩ := toPy_tupE h; subst e; first | (cases h2; done) | (cases h2; exact ⟨l, rfl, h1⟩)
  | lst l => obtain ⟨ps, h1, h2⟩ := toPy_lstE h; subst e; first | (cases h2; done) | (cases h2; exact ⟨l, rfl, h1⟩)
mutual
/-- data without truth values and dicts -/
def nb : PyData → Bool
  | .none => true
  | .int _ => true
  | .str _ => true
  | .list l => nbAll l
  | .tuple l => nbAll l
  | _ => false
def nbAll : List PyData → Bool
  | [] => true
  | d :: ds => nb d && nbAll ds
end
mutual
theorem eqv_iff : ∀ p q : PyData, nb p = true → nb q = true → (PyData.eqv p q = true ↔ p = q)
  | .none, .none, _, _ => by simp [PyData.eqv]
  | .none, .int _, _, _ => by simp [PyData.eqv]
  | .none, .str _, _, _ => by simp [PyData.eqv]
  | .none, .list _, _, _ => by simp [PyData.eqv]
  | .none, .tuple _, _, _ => by simp [PyData.eqv]
  | .int _, .none, _, _ => by simp [PyData.eqv]
  | .int _, .int _, _, _ => by simp [PyData.eqv]
  | .int _, .str _, _, _ => by simp [PyData.eqv]
  | .int _, .list _, _, _ => by simp [PyData.eqv]
  | .int _, .tuple _, _, _ => by simp [PyData.eqv]
  | .str _, .none, _, _ => by simp [PyData.eqv]
  | .str _, .int _, _, _ => by simp [PyData.eqv]
  | .str _, .str _, _, _ => by simp [PyData.eqv]
  | .str _, .list _, _, _ => by simp [PyData.eqv]
  | .str _, .tuple _, _, _ => by simp [PyData.eqv]
  | .list _, .none, _, _ => by simp [PyData.eqv]
  | .list _, .int _, _, _ => by simp [PyData.eqv]
  | .list _, .str _, _, _ => by simp [PyData.eqv]
  | .list xs, .list ys, h, g => by
    rw [PyData.eqv, eqv_iffAll xs ys (by simpa only [nb] using h) (by simpa only [nb] using g)]
    simp
  | .list _, .tuple _, _, _ => by simp [PyData.eqv]
  | .tuple _, .none, _, _ => by simp [PyData.eqv]
  | .tuple _, .int _, _, _ => by simp [PyData.eqv]
  | .tuple _, .str _, _, _ => by simp [PyData.eqv]
  | .tuple _, .list _, _, _ => by simp [PyData.eqv]
  | .tuple xs, .tuple ys, h, g => by
    rw [PyData.eqv, eqv_iffAll xs ys (by simpa only [nb] using h) (by simpa only [nb] using g)]
    simp
  | .bool _, _, h, _ => by simp [nb] at h
  | .dict _, _, h, _ => by simp [nb] at h
  | _, .bool _, _, h => by simp [nb] at h
  | _, .dict _, _, h => by simp [nb] at h
theorem eqv_iffAll : ∀ ps qs : List PyData, nbAll ps = true → nbAll qs = true → (PyData.eqvAll ps qs = true ↔ ps = qs)
  | [], [], _, _ => by simp [PyData.eqvAll]
  | [], _ :: _, _, _ => by simp [PyData.eqvAll]
  | _ :: _, [], _, _ => by simp [PyData.eqvAll]
  | p :: ps, q :: qs, h, g => by
    have h' : nb p = true ∧ nbAll ps = true := by simpa only [nbAll, Bool.and_eq_true] using h
    have g' : nb q = true ∧ nbAll qs = true := by simpa only [nbAll, Bool.and_eq_true] using g
    rw [PyData.eqvAll, Bool.and_eq_true, eqv_iff p q h'.1 g'.1, eqv_iffAll ps qs h'.2 g'.2]
    simp
end
mutual
/-- .. among our data -/
def nbD : D → Bool
  | .non => true
  | .int _ => true
  | .str _ => true
  | .tup l => nbDAll l
  | .lst l => nbDAll l
  | _ => false
def nbDAll : List D → Bool
  | [] => true
  | d :: ds => nbD d && nbDAll ds
end
mutual
theorem nb_py : ∀ (d : D) (p : PyData), nbD d = true → toPy d = some p → nb p = true
  | .non, _, _, h => by cases h; rfl
  | .int _, _, _, h => by cases h; rfl
  | .str _, _, _, h => by cases h; rfl
  | .tup l, p, g, h => by
    unfold toPy at h
    cases hl : toPyAll l with
    | none => rw [hl] at h; cases h
    | some ps =>
      rw [hl] at h
      cases h
      simp only [nb]
      exact nb_pyAll l ps (by simpa only [nbD] using g) hl
  | .lst l, p, g, h => by
    unfold toPy at h
    cases hl : toPyAll l with
    | none => rw [hl] at h; cases h
    | some ps =>
      rw [hl] at h
      cases h
      simp only [nb]
      exact nb_pyAll l ps (by simpa only [nbD] using g) hl
  | .bl _, _, g, _ => by simp [nbD] at g
  | .dct0, _, g, _ => by simp [nbD] at g
  | .scr _, _, g, _ => by simp [nbD] at g
  | .own _, _, g, _ => by simp [nbD] at g
  | .exc _ _, _, g, _ => by simp [nbD] at g
  | .glb _, _, g, _ => by simp [nbD] at g
  | .val _, _, g, _ => by simp [nbD] at g
theorem nb_pyAll : ∀ (ds : List D) (ps : List PyData), nbDAll ds = true → toPyAll ds = some ps → nbAll ps = true
  | [], _, _, h => by cases h; rfl
  | d :: ds, ps, g, h => by
    have g' : nbD d = true ∧ nbDAll ds = true := by simpa only [nbDAll, Bool.and_eq_true] using g
    unfold toPyAll at h
    cases h1 : toPy d with
    | none => rw [h1] at h; cases h
    | some p =>
      cases h2 : toPyAll ds with
      | none => rw [h1, h2] at h; cases h
      | some ps' =>
        rw [h1, h2] at h
        cases h
        simp only [nbAll, Bool.and_eq_true]
        exact ⟨nb_py d p g'.1 h1, nb_pyAll ds ps' g'.2 h2⟩
end
mutual
theorem toPy_inj : ∀ (d d' : D) (p : PyData), toPy d = some p → toPy d' = some p → d = d'
  | d, d', .none, h, h' => by
    rw [toPy_non h rfl, toPy_non h' rfl]
  | d, d', .bool b, h, h' => by rw [toPy_bl h rfl, toPy_bl h' rfl]
  | d, d', .int i, h, h' => by rw [toPy_int h rfl, toPy_int h' rfl]
  | d, d', .str x, h, h' => by rw [toPy_str h rfl, toPy_str h' rfl]
  | d, d', .list ps, h, h' => by
    obtain ⟨l, rfl, e⟩ := toPy_list h rfl
    obtain ⟨l', rfl, e'⟩ := toPy_list h' rfl
    rw [toPy_injAll l l' ps e e']
  | d, d', .tuple ps, h, h' => by
    obtain ⟨l, rfl, e⟩ := toPy_tuple h rfl
    obtain ⟨l', rfl, e'⟩ := toPy_tuple h' rfl
    rw [toPy_injAll l l' ps e e']
  | d, d', .dict ps, h, h' => by rw [toPy_dict h rfl, toPy_dict h' rfl]
theorem toPy_injAll : ∀ (l l' : List D) (ps : List PyData), toPyAll l = some ps → toPyAll l' = some ps → l = l'
  | [], [], _, _, _ => rfl
  | [], d :: ds, ps, h, h' => by
    cases h
    obtain ⟨p, ps, h1, h2, e⟩ := toPyAll_cons h'
    cases e
  | d :: ds, [], ps, h, h' => by
    cases h'
    obtain ⟨p, ps, h1, h2, e⟩ := toPyAll_cons h
    cases e
  | d :: ds, d' :: ds', ps, h, h' => by
    obtain ⟨p, qs, h1, h2, rfl⟩ := toPyAll_cons h
    obtain ⟨p', qs', h1', h2', e⟩ := toPyAll_cons h'
    cases e
    rw [toPy_inj d d' p h1 h1', toPy_injAll ds ds' qs h2 h2']
end
/-- equality of plain data -/
theorem eqB_iff {n : Nat} {d d' : D} (h : fine n d = true) (h' : fine n d' = true) (g : nbD d = true) (g' : nbD d' = true) (hn : n ≤ 64 := by decide) : ∃ b, eqB d d' = some b ∧ (b = true ↔ d = d') := by
  obtain ⟨p, h1, h2⟩ := cmpd_fine h hn
  obtain ⟨p', h1', h2'⟩ := cmpd_fine h' hn
  unfold eqB
  split
  · refine ⟨_, rfl, ?_⟩
    rw [beq_iff_eq]
    exact ⟨fun e => by rw [e], fun e => by cases e; rfl⟩
  · rw [h2, h2']
    refine ⟨_, rfl, ?_⟩
    rw [eqv_iff p p' (nb_py d p g h1) (nb_py d' p' g' h1')]
    refine ⟨fun e => ?_, fun e => ?_⟩
    · subst e
      exact toPy_inj d d' p h1 h1'
    · subst e
      rw [h1] at h1'
      exact Option.some.inj h1'
theorem gEq_iff {n : Nat} {d d' : D} {M : Mem} {Q : DQ} (h : fine n d = true) (h' : fine n d' = true) (g : nbD d = true) (g' : nbD d' = true) (q : ∀ b, (b = true ↔ d = d') → Q (.bl b) M) (hn : n ≤ 64 := by decide) : gEq d d' M Q := by
  obtain ⟨b, e, hb⟩ := eqB_iff h h' g g' hn
  unfold gEq
  rw [res_fine h, res_fine h', e]
  exact q b hb
/-- one datum among others -/
theorem gIn_iff {n : Nat} {neg : Bool} {d e : D} {l : List D} {M : Mem} {Q : DQ} (hr : res M e = .lst l) (fd : fine n d = true) (hf : fineAll n l = true) (g : nbD d = true) (gl : nbDAll l = true) (q : ∀ b, (b = true ↔ d ∈ l) → Q (.bl (b != neg)) M) (hn : n ≤ 60 := by decide) : gIn neg d e M Q := by
  have fl : fine (n + 1) (.lst l) = true := by simp only [fine]; exact hf
  obtain ⟨p, hp, cp⟩ := cmpd_fine fd (by omega)
  obtain ⟨pl, hpl, cpl⟩ := cmpd_fine fl (by omega)
  unfold gIn
  rw [res_fine fd, hr, cp, cpl]
  have hpl' := hpl
  unfold toPy at hpl'
  cases hps : toPyAll l with
  | none => rw [hps] at hpl'; cases hpl'
  | some ps =>
    rw [hps] at hpl'
    cases hpl'
    refine q _ ?_
    have np := nb_py d p g hp
    clear hpl cpl fl hf cp hr q
    induction l generalizing ps with
    | nil => cases hps; simp
    | cons x l ih =>
      obtain ⟨p', qs, h1, h2, rfl⟩ := toPyAll_cons hps
      have gl' : nbD x = true ∧ nbDAll l = true := by simpa only [nbDAll, Bool.and_eq_true] using gl
      rw [List.any_cons, Bool.or_eq_true, List.mem_cons]
      refine or_congr ?_ (ih gl'.2 _ h2)
      rw [eqv_iff p' p (nb_py x p' gl'.1 h1) np]
      refine ⟨fun e => ?_, fun e => ?_⟩
      · subst e; exact toPy_inj d x _ hp h1
      · subst e; rw [hp] at h1; exact (Option.some.inj h1).symm
end DL
/-! MG: how many numbers below n are free of n; plain -/
namespace DL
open Classical in
noncomputable def cnt (n : Nat) (P : Nat → Prop) : Nat := (List.range n).countP fun i => decide (P i)
open Classical in
theorem cnt_congr {n : Nat} {P Q : Nat → Prop} (h : ∀ i, i < n → (P i ↔ Q i)) : cnt n P = cnt n Q := by
  unfold cnt
  refine List.countP_congr fun i hi => ?_
  rw [decide_eq_true_iff, decide_eq_true_iff]
  exact h i (List.mem_range.mp hi)
theorem cnt_add (m n : Nat) (P : Nat → Prop) : cnt (m + n) P = cnt m P + cnt n (fun i => P (m + i)) := by
  unfold cnt
  rw [List.range_add, List.countP_append, List.countP_map]
  rfl
open Classical in
theorem cnt_none {n : Nat} {P : Nat → Prop} (h : ∀ i, i < n → ¬ P i) : cnt n P = 0 := by
  unfold cnt
  rw [List.countP_eq_zero]
  intro i hi
  rw [decide_eq_true_iff]
  exact h i (List.mem_range.mp hi)
open Classical in
theorem cnt_split (n : Nat) (P Q : Nat → Prop) : cnt n P = cnt n (fun i => P i ∧ Q i) + cnt n (fun i => P i ∧ ¬ Q i) := by
  induction n with
  | zero => rfl
  | succ n ih =>
    rw [cnt_add, cnt_add, cnt_add, ih]
    have one : ∀ R : Nat → Prop, cnt 1 R = (if R 0 then 1 else 0) := by
      intro R
      unfold cnt
      rw [show List.range 1 = [0] from rfl, List.countP_singleton]
      by_cases h : R 0
      · simp [h]
      · simp [h]
    rw [one, one, one]
    generalize cnt n (fun i => P i ∧ Q i) = A
    generalize cnt n (fun i => P i ∧ ¬ Q i) = B
    generalize P (n + 0) = p
    generalize Q (n + 0) = q
    by_cases h1 : p
    · by_cases h2 : q
      · rw [if_pos h1, if_pos ⟨h1, h2⟩, if_neg (fun z => z.2 h2)]; omega
      · rw [if_pos h1, if_neg (fun z => h2 z.2), if_pos ⟨h1, h2⟩]; omega
    · rw [if_neg h1, if_neg (fun z => h1 z.1), if_neg (fun z => h1 z.1)]; omega
theorem cnt_per {m : Nat} {P : Nat → Prop} (h : ∀ i, P (m + i) ↔ P i) : ∀ k, cnt (k * m) P = k * cnt m P
  | 0 => by rw [Nat.zero_mul, Nat.zero_mul]; rfl
  | k + 1 => by
    rw [Nat.succ_mul, Nat.add_comm, cnt_add, cnt_congr (n := k * m) fun i _ => h i, cnt_per h k, Nat.succ_mul, Nat.add_comm]
theorem cnt_mul {k : Nat} (hk : 1 ≤ k) (P : Nat → Prop) : ∀ m, cnt (m * k) (fun i => k ∣ i ∧ P i) = cnt m (fun j => P (j * k))
  | 0 => by rw [Nat.zero_mul]; rfl
  | m + 1 => by
    rw [Nat.succ_mul, cnt_add, cnt_mul hk P m, cnt_add]
    congr 1
    obtain ⟨j, rfl⟩ : ∃ j, k = 1 + j := ⟨k - 1, by omega⟩
    rw [cnt_add, cnt_none (n := j), Nat.add_zero]
    · refine cnt_congr fun i hi => ?_
      have : i = 0 := by omega
      subst this
      rw [Nat.add_zero, Nat.add_zero]
      exact ⟨fun h => h.2, fun h => ⟨Nat.dvd_mul_left _ _, h⟩⟩
    · intro i hi h
      have h1 := (Nat.dvd_add_right (Nat.dvd_mul_left (1 + j) m)).mp h.1
      have := Nat.le_of_dvd (by omega) h1
      omega
/-- no divisor of n below k divides i -/
def Free (n k i : Nat) : Prop := ∀ d, 2 ≤ d → d < k → d ∣ n → ¬ d ∣ i
noncomputable def phi (n : Nat) : Nat := cnt n fun i => Nat.gcd i n = 1
theorem free_gcd {n k i : Nat} (hn : 1 ≤ n) (hk : n < k) : Free n k i ↔ Nat.gcd i n = 1 := by
  constructor
  · intro h
    have g0 : 0 < Nat.gcd i n := Nat.gcd_pos_of_pos_right _ (by omega)
    have g1 : Nat.gcd i n ≤ n := Nat.le_of_dvd (by omega) (Nat.gcd_dvd_right _ _)
    by_cases z : Nat.gcd i n = 1
    · exact z
    · exact (h (Nat.gcd i n) (by omega) (by omega) (Nat.gcd_dvd_right _ _) (Nat.gcd_dvd_left _ _)).elim
  · intro h d d2 _ dn di
    have := Nat.dvd_gcd di dn
    rw [h] at this
    have := Nat.le_of_dvd (by decide) this
    omega
/-- the state of the reckoning -/
structure Fst (n k left c : Nat) : Prop where
  l1 : 1 ≤ left
  ln : left ∣ n
  low : ∀ d, 2 ≤ d → d < k → ¬ d ∣ left
  up : ∀ d, d ∣ n → (∀ e, 2 ≤ e → e < k → ¬ e ∣ d) → d ∣ left
  ct : c = cnt n (Free n k)
theorem Fst.no {n k left c : Nat} (hk : 2 ≤ k) (h : Fst n k left c) (hd : ¬ k ∣ left) : Fst n (k + 1) left c := by
  refine ⟨h.l1, h.ln, fun d d2 d3 => ?_, fun d d1 d2 => h.up d d1 fun e e1 e2 => d2 e e1 (by omega), ?_⟩
  · by_cases z : d = k
    · subst z; exact hd
    · exact h.low d d2 (by omega)
  · rw [h.ct]
    refine cnt_congr fun i _ => ⟨fun f d d2 d3 dn di => ?_, fun f d d2 d3 => f d d2 (by omega)⟩
    by_cases z : d = k
    · subst z
      refine hd (h.up d dn fun e e2 e3 ed => ?_)
      exact f e e2 e3 (Nat.dvd_trans ed dn) (Nat.dvd_trans ed di)
    · exact f d d2 (by omega) dn di
/-- a divisor of what is left that no lower one divides -/
theorem Fst.yes {n k left c left' : Nat} (hn : 1 ≤ n) (hk : 2 ≤ k) (h : Fst n k left c) (hd : k ∣ left) (h1 : left' ∣ left) (h2 : ¬ k ∣ left') (h3 : ∀ d, Nat.gcd d k = 1 → d ∣ left → d ∣ left') : Fst n (k + 1) left' (c / k * (k - 1)) := by
  have prime : ∀ e, 2 ≤ e → e < k → ¬ e ∣ k := fun e e2 e3 ek => h.low e e2 e3 (Nat.dvd_trans ek hd)
  have cop : ∀ d, (∀ e, 2 ≤ e → e < k + 1 → ¬ e ∣ d) → Nat.gcd d k = 1 := by
    intro d hd'
    have g0 : 0 < Nat.gcd d k := Nat.gcd_pos_of_pos_right _ (by omega)
    have g1 : Nat.gcd d k ≤ k := Nat.le_of_dvd (by omega) (Nat.gcd_dvd_right _ _)
    by_cases z : Nat.gcd d k = 1
    · exact z
    · exact (hd' (Nat.gcd d k) (by omega) (by omega) (Nat.gcd_dvd_left _ _)).elim
  have cop2 : ∀ d, 2 ≤ d → d < k → Nat.gcd d k = 1 := by
    intro d d2 d3
    have g0 : 0 < Nat.gcd d k := Nat.gcd_pos_of_pos_right _ (by omega)
    have g1 : Nat.gcd d k ≤ d := Nat.le_of_dvd (by omega) (Nat.gcd_dvd_left _ _)
    by_cases z : Nat.gcd d k = 1
    · exact z
    · exact (prime (Nat.gcd d k) (by omega) (by omega) (Nat.gcd_dvd_right _ _)).elim
  have l1 : 1 ≤ left' := by
    rcases Nat.eq_zero_or_pos left' with z | z
    · rw [z] at h1
      have := Nat.zero_dvd.mp h1
      have := h.l1
      omega
    · exact z
  refine ⟨l1, Nat.dvd_trans h1 h.ln, fun d d2 d3 dl => ?_, fun d d1 d2 => h3 d (cop d d2) (h.up d d1 fun e e1 e2 => d2 e e1 (by omega)), ?_⟩
  · by_cases z : d = k
    · subst z; exact h2 dl
    · exact h.low d d2 (by omega) (Nat.dvd_trans dl h1)
  · obtain ⟨m, hm⟩ := Nat.dvd_trans hd h.ln
    have per : ∀ i, Free n k (m + i) ↔ Free n k i := by
      have dm : ∀ d, 2 ≤ d → d < k → d ∣ n → d ∣ m := by
        intro d d2 d3 dn
        rw [hm] at dn
        exact Nat.Coprime.dvd_of_dvd_mul_left (cop2 d d2 d3) dn
      refine fun i => ⟨fun f d d2 d3 dn di => f d d2 d3 dn (Nat.dvd_add (dm d d2 d3 dn) di), fun f d d2 d3 dn di => f d d2 d3 dn ((Nat.dvd_add_right (dm d d2 d3 dn)).mp di)⟩
    have e1 : cnt n (Free n k) = k * cnt m (Free n k) := by
      have := cnt_per per k
      rw [← hm] at this
      exact this
    have e2 : cnt n (fun i => Free n k i ∧ k ∣ i) = cnt m (Free n k) := by
      have h5 := cnt_mul (k := k) (by omega) (Free n k) m
      rw [Nat.mul_comm, ← hm] at h5
      rw [cnt_congr (Q := fun i => k ∣ i ∧ Free n k i) (fun i _ => And.comm), h5]
      refine cnt_congr fun j _ => ⟨fun f d d2 d3 dn dj => f d d2 d3 dn (Nat.dvd_mul_right_of_dvd dj _), fun f d d2 d3 dn dj => f d d2 d3 dn ?_⟩
      exact Nat.Coprime.dvd_of_dvd_mul_right (cop2 d d2 d3) dj
    have e3 : cnt n (Free n (k + 1)) = cnt n (fun i => Free n k i ∧ ¬ k ∣ i) := by
      refine cnt_congr fun i _ => ⟨fun f => ⟨fun d d2 d3 => f d d2 (by omega), f k hk (by omega) ⟨m, hm⟩⟩, fun f d d2 d3 dn di => ?_⟩
      by_cases z : d = k
      · subst z; exact f.2 di
      · exact f.1 d d2 (by omega) dn di
    have e4 := cnt_split n (Free n k) (fun i => k ∣ i)
    rw [e3, h.ct, e1, Nat.mul_div_cancel_left _ (by omega)]
    rw [e1, e2] at e4
    obtain ⟨j, rfl⟩ : ∃ j, k = j + 1 := ⟨k - 1, by omega⟩
    rw [Nat.succ_mul] at e4
    rw [Nat.add_sub_cancel, Nat.mul_comm]
    omega
open Classical in
theorem Fst.start {n : Nat} (hn : 1 ≤ n) : Fst n 2 n n := by
  refine ⟨hn, Nat.dvd_refl _, fun d d2 d3 => by omega, fun d h _ => h, ?_⟩
  unfold cnt
  rw [List.countP_eq_length.mpr, List.length_range]
  intro i _
  rw [decide_eq_true_iff]
  intro d d2 d3
  omega
/-- on to a later place, where nothing divides -/
theorem Fst.far {n k left c : Nat} (hk : 2 ≤ k) (h : Fst n k left c) : ∀ j, (∀ d, k ≤ d → d < k + j → ¬ d ∣ left) → Fst n (k + j) left c
  | 0, _ => h
  | j + 1, hd => Fst.no (k := k + j) (by omega) (Fst.far hk h j fun d d1 d2 => hd d d1 (by omega)) (hd (k + j) (by omega) (by omega))
theorem Fst.done {n k left c : Nat} (hn : 1 ≤ n) (hk : n < k) (h : Fst n k left c) : c = phi n := by
  rw [h.ct]
  exact cnt_congr fun i _ => free_gcd hn hk
theorem Fst.fin {n k left c : Nat} (hn : 1 ≤ n) (hk : 2 ≤ k) (h : Fst n k left c) (hl : left < k * k) : (if 1 < left then c / left * (left - 1) else c) = phi n := by
  by_cases h1 : 1 < left
  · rw [if_pos h1]
    -- what is left has no divisor of its own
    have own : ∀ d, 2 ≤ d → d < left → ¬ d ∣ left := by
      intro d d2 d3 ⟨j, hj⟩
      by_cases z : d < k
      · exact h.low d d2 z ⟨j, hj⟩
      · by_cases y : j < k
        · have j2 : 2 ≤ j := by
            rcases (by omega : j = 0 ∨ j = 1 ∨ 2 ≤ j) with e | e | e
            · rw [e] at hj; omega
            · rw [e] at hj; omega
            · exact e
          exact h.low j j2 y ⟨d, by rw [hj, Nat.mul_comm]⟩
        · have : k * k ≤ d * j := Nat.mul_le_mul (by omega) (by omega)
          omega
    have hkl : k ≤ left := by
      by_cases z : k ≤ left
      · exact z
      · exact (h.low left (by omega) (by omega) (Nat.dvd_refl _)).elim
    have s1 := h.far hk (left - k) fun d d1 d2 => own d (by omega) (by omega)
    rw [show k + (left - k) = left by omega] at s1
    have s2 := s1.yes (left' := 1) hn (by omega) (Nat.dvd_refl _) (Nat.one_dvd _) (fun z => by have := Nat.le_of_dvd (by decide) z; omega) (fun d d1 d2 => by
      have := Nat.dvd_gcd (Nat.dvd_refl d) d2
      rw [d1] at this
      exact this)
    have s3 := s2.far (by omega) n fun d d1 d2 z => by have := Nat.le_of_dvd (by decide) z; omega
    exact s3.done hn (by omega)
  · rw [if_neg h1]
    have e : left = 1 := by have := h.l1; omega
    subst e
    have s3 := h.far hk n fun d d1 d2 z => by have := Nat.le_of_dvd (by decide) z; omega
    exact s3.done hn (by omega)
end DL
namespace DL
open PySem PySem.Spec PyProof.Rows L2
local macro_rules | `(tactic| walk_at "rd") => `(tactic| simp only [startD, List.map, List.replicate, List.length_cons, List.length_nil, List.append_eq, List.append_nil, List.nil_append, List.cons_append, Nat.reduceSub, Nat.reduceAdd, List.getElem?_cons_zero, List.getElem?_cons_succ, List.set_cons_zero, List.set_cons_succ,
  dC, dVar, dOp, dTru, gTru, tru, dChain, dAnd, dOr, dNot, dAndV, dOrV, dNotV, dIf, dNeg, gNeg, dNil, dCons, dTup, dLst, dOwn, gIx, rBin, gAdd, gCmpI, dCall, dCallK, dSeq, dNext, dDrop, dRet, dRetN, dIfS, dName, dGNil, dGCons, dGTup, dSub, gSetL, dAsg, dPar, dPar3, dAug, gIpI, dSeqI, gSeqI, dRngI, gRng1, gRng2, dCB, gAbs, gInt, gMax, gMin, gGcd, gLen, lenD, gIsi, tyM, tyD, dBits, gBits, dMet, gAppend, dPart, dNoPart, dSl, gSl_tup, gSl_lst, cut_1, dEnds, gIs, isB, dNever, dFor, dLc, wipeD, dYes,
  sizeLine_eq, Nat.reduceLeDiff, gEq_int, gNe_int, gEq_strs, gNe_strs, gIn_two, gRepr_bl, rs_lst, rs_tup, rs_scr, rs_int, atI_0, atI_1, atI_2, atI_3, atI_4, atI_5, ixN_30, ixN_31, ixN_32, gEq_bl, gNe_bl, decide_eq_true_eq, beq_iff_eq, Bool.not_eq_true', beq_eq_false_iff_ne, decide_eq_false_iff_not, Bool.not_true, Bool.not_false, if_true, if_false, Bool.false_eq_true, ite_true, ite_false, true_and, and_true, ne_eq, Bool.bne_false, Bool.bne_true, reduceCtorEq])
local macro_rules | `(tactic| walk_at "rh") => `(tactic| simp only [*, startD, List.map, List.replicate, List.length_cons, List.length_nil, List.append_eq, List.append_nil, List.nil_append, List.cons_append, Nat.reduceSub, Nat.reduceAdd, List.getElem?_cons_zero, List.getElem?_cons_succ, List.set_cons_zero, List.set_cons_succ,
  dC, dVar, dOp, dTru, gTru, tru, dChain, dAnd, dOr, dNot, dAndV, dOrV, dNotV, dIf, dNeg, gNeg, dNil, dCons, dTup, dLst, dOwn, gIx, rBin, gAdd, gCmpI, dCall, dCallK, dSeq, dNext, dDrop, dRet, dRetN, dIfS, dName, dGNil, dGCons, dGTup, dSub, gSetL, dAsg, dPar, dPar3, dAug, gIpI, dSeqI, gSeqI, dRngI, gRng1, gRng2, dCB, gAbs, gInt, gMax, gMin, gGcd, gLen, lenD, gIsi, tyM, tyD, dBits, gBits, dMet, gAppend, dPart, dNoPart, dSl, gSl_tup, gSl_lst, cut_1, dEnds, gIs, isB, dNever, dFor, dLc, wipeD, dYes,
  sizeLine_eq, Nat.reduceLeDiff, gEq_int, gNe_int, gEq_strs, gNe_strs, gIn_two, gRepr_bl, rs_lst, rs_tup, rs_scr, rs_int, atI_0, atI_1, atI_2, atI_3, atI_4, atI_5, ixN_30, ixN_31, ixN_32, gEq_bl, gNe_bl, decide_eq_true_eq, beq_iff_eq, Bool.not_eq_true', beq_eq_false_iff_ne, decide_eq_false_iff_not, Bool.not_true, Bool.not_false, if_true, if_false, Bool.false_eq_true, ite_true, ite_false, true_and, and_true, ne_eq, Bool.bne_false, Bool.bne_true, reduceCtorEq])
local macro_rules | `(tactic| walk_at "kb") => `(tactic| simp only [kb_NoneType_list, kb_bool_list, kb_int_list, kb_str_list, kb_tuple_list, kb_list_list, kb_dict_list, kb_NoneType_int, kb_bool_int, kb_int_int, kb_str_int, kb_tuple_int, kb_list_int, kb_dict_int, kb_NoneType_bool, kb_bool_bool, kb_int_bool, kb_str_bool, kb_tuple_bool, kb_list_bool, kb_dict_bool, kb_NoneType_tuple, kb_bool_tuple, kb_int_tuple, kb_str_tuple, kb_tuple_tuple, kb_list_tuple, kb_dict_tuple, if_true, if_false, Bool.false_eq_true, ite_true, ite_false, Bool.not_true, Bool.not_false])
end DL
/-! MH: mirrored cuttings, mirrored deeds; plain -/
namespace DL
end DL
namespace DL
open PySem PySem.Spec PyProof.Rows L2
local macro_rules | `(tactic| walk_at "rd") => `(tactic| simp only [startD, List.map, List.replicate, List.length_cons, List.length_nil, List.append_eq, List.append_nil, List.nil_append, List.cons_append, Nat.reduceSub, Nat.reduceAdd, List.getElem?_cons_zero, List.getElem?_cons_succ, List.set_cons_zero, List.set_cons_succ,
  dC, dVar, dOp, dTru, gTru, tru, dChain, dAnd, dOr, dNot, dAndV, dOrV, dNotV, dIf, dNeg, gNeg, dNil, dCons, dTup, dLst, dOwn, gIx, rBin, gAdd, gCmpI, dCall, dCallK, dSeq, dNext, dDrop, dRet, dRetN, dIfS, dName, dGNil, dGCons, dGTup, dSub, gSetL, dAsg, dPar, dPar3, dAug, gIpI, dSeqI, gSeqI, dRngI, gRng1, gRng2, dCB, gAbs, gInt, gMax, gMin, gGcd, gLen, lenD, gIsi, tyM, tyD, dBits, gBits, dMet, gAppend, dPart, dNoPart, dSl, gSl_tup, gSl_lst, cut_1, dEnds, gIs, isB, dNever, dFor, dLc, wipeD, dYes,
  sizeLine_eq, Nat.reduceLeDiff, gEq_int, gNe_int, gEq_strs, gNe_strs, gIn_two, gRepr_bl, rs_lst, rs_tup, rs_scr, rs_int, atI_0, atI_1, atI_2, atI_3, atI_4, atI_5, ixN_30, ixN_31, ixN_32, gEq_bl, gNe_bl, decide_eq_true_eq, beq_iff_eq, Bool.not_eq_true', beq_eq_false_iff_ne, decide_eq_false_iff_not, Bool.not_true, Bool.not_false, if_true, if_false, Bool.false_eq_true, ite_true, ite_false, true_and, and_true, ne_eq, Bool.bne_false, Bool.bne_true, reduceCtorEq])
local macro_rules | `(tactic| walk_at "rh") => `(tactic| simp only [*, startD, List.map, List.replicate, List.length_cons, List.length_nil, List.append_eq, List.append_nil, List.nil_append, List.cons_append, Nat.reduceSub, Nat.reduceAdd, List.getElem?_cons_zero, List.getElem?_cons_succ, List.set_cons_zero, List.set_cons_succ,
  dC, dVar, dOp, dTru, gTru, tru, dChain, dAnd, dOr, dNot, dAndV, dOrV, dNotV, dIf, dNeg, gNeg, dNil, dCons, dTup, dLst, dOwn, gIx, rBin, gAdd, gCmpI, dCall, dCallK, dSeq, dNext, dDrop, dRet, dRetN, dIfS, dName, dGNil, dGCons, dGTup, dSub, gSetL, dAsg, dPar, dPar3, dAug, gIpI, dSeqI, gSeqI, dRngI, gRng1, gRng2, dCB, gAbs, gInt, gMax, gMin, gGcd, gLen, lenD, gIsi, tyM, tyD, dBits, gBits, dMet, gAppend, dPart, dNoPart, dSl, gSl_tup, gSl_lst, cut_1, dEnds, gIs, isB, dNever, dFor, dLc, wipeD, dYes,
  sizeLine_eq, Nat.reduceLeDiff, gEq_int, gNe_int, gEq_strs, gNe_strs, gIn_two, gRepr_bl, rs_lst, rs_tup, rs_scr, rs_int, atI_0, atI_1, atI_2, atI_3, atI_4, atI_5, ixN_30, ixN_31, ixN_32, gEq_bl, gNe_bl, decide_eq_true_eq, beq_iff_eq, Bool.not_eq_true', beq_eq_false_iff_ne, decide_eq_false_iff_not, Bool.not_true, Bool.not_false, if_true, if_false, Bool.false_eq_true, ite_true, ite_false, true_and, and_true, ne_eq, Bool.bne_false, Bool.bne_true, reduceCtorEq])
local macro_rules | `(tactic| walk_at "kb") => `(tactic| simp only [kb_NoneType_list, kb_bool_list, kb_int_list, kb_str_list, kb_tuple_list, kb_list_list, kb_dict_list, kb_NoneType_int, kb_bool_int, kb_int_int, kb_str_int, kb_tuple_int, kb_list_int, kb_dict_int, kb_NoneType_bool, kb_bool_bool, kb_int_bool, kb_str_bool, kb_tuple_bool, kb_list_bool, kb_dict_bool, kb_NoneType_tuple, kb_bool_tuple, kb_int_tuple, kb_str_tuple, kb_tuple_tuple, kb_list_tuple, kb_dict_tuple, if_true, if_false, Bool.false_eq_true, ite_true, ite_false, Bool.not_true, Bool.not_false])
/-! calls whose answers are known -/
end DL
namespace DL
open PySem PySem.Spec PyProof.Rows L2
local macro_rules | `(tactic| walk_at "rd") => `(tactic| simp only [startD, List.map, List.replicate, List.length_cons, List.length_nil, List.append_eq, List.append_nil, List.nil_append, List.cons_append, Nat.reduceSub, Nat.reduceAdd, List.getElem?_cons_zero, List.getElem?_cons_succ, List.set_cons_zero, List.set_cons_succ,
  dC, dVar, dOp, dTru, gTru, tru, dChain, dAnd, dOr, dNot, dAndV, dOrV, dNotV, dIf, dNeg, gNeg, dNil, dCons, dTup, dLst, dOwn, gIx, rBin, gAdd, gCmpI, dCall, dCallK, dSeq, dNext, dDrop, dRet, dRetN, dIfS, dName, dGNil, dGCons, dGTup, dSub, gSetL, dAsg, dPar, dPar3, dAug, gIpI, dSeqI, gSeqI, dRngI, gRng1, gRng2, dCB, gAbs, gInt, gMax, gMin, gGcd, gLen, lenD, gIsi, tyM, tyD, dBits, gBits, dMet, gAppend, dPart, dNoPart, dSl, gSl_tup, gSl_lst, cut_1, dEnds, gIs, isB, dNever, dFor, dLc, wipeD, dYes,
  sizeLine_eq, Nat.reduceLeDiff, gEq_int, gNe_int, gEq_strs, gNe_strs, gIn_two, gRepr_bl, rs_lst, rs_tup, rs_scr, rs_int, atI_0, atI_1, atI_2, atI_3, atI_4, atI_5, ixN_30, ixN_31, ixN_32, gEq_bl, gNe_bl, decide_eq_true_eq, beq_iff_eq, Bool.not_eq_true', beq_eq_false_iff_ne, decide_eq_false_iff_not, Bool.not_true, Bool.not_false, if_true, if_false, Bool.false_eq_true, ite_true, ite_false, true_and, and_true, ne_eq, Bool.bne_false, Bool.bne_true, reduceCtorEq])
local macro_rules | `(tactic| walk_at "rh") => `(tactic| simp only [*, startD, List.map, List.replicate, List.length_cons, List.length_nil, List.append_eq, List.append_nil, List.nil_append, List.cons_append, Nat.reduceSub, Nat.reduceAdd, List.getElem?_cons_zero, List.getElem?_cons_succ, List.set_cons_zero, List.set_cons_succ,
  dC, dVar, dOp, dTru, gTru, tru, dChain, dAnd, dOr, dNot, dAndV, dOrV, dNotV, dIf, dNeg, gNeg, dNil, dCons, dTup, dLst, dOwn, gIx, rBin, gAdd, gCmpI, dCall, dCallK, dSeq, dNext, dDrop, dRet, dRetN, dIfS, dName, dGNil, dGCons, dGTup, dSub, gSetL, dAsg, dPar, dPar3, dAug, gIpI, dSeqI, gSeqI, dRngI, gRng1, gRng2, dCB, gAbs, gInt, gMax, gMin, gGcd, gLen, lenD, gIsi, tyM, tyD, dBits, gBits, dMet, gAppend, dPart, dNoPart, dSl, gSl_tup, gSl_lst, cut_1, dEnds, gIs, isB, dNever, dFor, dLc, wipeD, dYes,
  sizeLine_eq, Nat.reduceLeDiff, gEq_int, gNe_int, gEq_strs, gNe_strs, gIn_two, gRepr_bl, rs_lst, rs_tup, rs_scr, rs_int, atI_0, atI_1, atI_2, atI_3, atI_4, atI_5, ixN_30, ixN_31, ixN_32, gEq_bl, gNe_bl, decide_eq_true_eq, beq_iff_eq, Bool.not_eq_true', beq_eq_false_iff_ne, decide_eq_false_iff_not, Bool.not_true, Bool.not_false, if_true, if_false, Bool.false_eq_true, ite_true, ite_false, true_and, and_true, ne_eq, Bool.bne_false, Bool.bne_true, reduceCtorEq])
local macro_rules | `(tactic| walk_at "kb") => `(tactic| simp only [kb_NoneType_list, kb_bool_list, kb_int_list, kb_str_list, kb_tuple_list, kb_list_list, kb_dict_list, kb_NoneType_int, kb_bool_int, kb_int_int, kb_str_int, kb_tuple_int, kb_list_int, kb_dict_int, kb_NoneType_bool, kb_bool_bool, kb_int_bool, kb_str_bool, kb_tuple_bool, kb_list_bool, kb_dict_bool, kb_NoneType_tuple, kb_bool_tuple, kb_int_tuple, kb_str_tuple, kb_tuple_tuple, kb_list_tuple, kb_dict_tuple, if_true, if_false, Bool.false_eq_true, ite_true, ite_false, Bool.not_true, Bool.not_false])
/-! ### the sides of cuttings -/
/-! ### what the first numbers may be -/
/-! ### all turns -/
structure TurnsOK (m : Int) (l : List Int) : Prop where
  nd : l.Nodup
  bd : ∀ e ∈ l, -128 ≤ e ∧ e ≤ 128
  all : ∀ e : Int, e * e < m → (m - e) % 2 = 0 → e ∈ l
  len : l.length ≤ 260
theorem CovX.start {m : Int} {T : List Int} : CovX m [] fun _ e' => e' ∈ T.take 0 := CovX.nil fun a b c e _ _ h => by rw [List.take_zero] at h; cases h
theorem CovX.all {m : Int} {l : List (List Int)} {T : List Int} (h : CovX m l fun _ e' => e' ∈ T) (hT : TurnsOK m T) : CovX m l fun _ _ => True :=
  h.iff fun a b c e h1 h2 => ⟨fun _ => by
    obtain ⟨k1, k2, _⟩ := cut_parts h1
    have h3 := meas_bc.mp h2
    have h4 : 1 * 1 ≤ b * c := Int.mul_le_mul k1 k2 (by decide) (by omega)
    have h5 : (e - m) % 2 = 0 := by rw [← h2]; exact meas_par (a := a)
    exact hT.all e (by omega) (by omega), fun _ => trivial⟩
theorem CovX.len {m : Int} {l l' : List (List Int)} (h : CovX m l fun _ _ => True) (g : AllC m l') : l'.length = l.length := by
  refine ((List.perm_ext_iff_of_nodup g.nd h.1).mpr fun x => ?_).length_eq
  rw [g.mem, h.2]
  constructor
  · rintro ⟨a, b, c, e, rfl, h1, h2⟩; exact ⟨a, b, c, e, rfl, h1, h2, trivial⟩
  · rintro ⟨a, b, c, e, rfl, h1, h2, _⟩; exact ⟨a, b, c, e, rfl, h1, h2⟩
/-! ### how many cuttings there are -/
theorem CovX.same {m : Int} {l l' : List (List Int)} {P : Int → Int → Prop} (h : CovX m l P) (g : CovX m l' P) : l.length = l'.length :=
  ((List.perm_ext_iff_of_nodup h.1 g.1).mpr fun x => (h.2 x).trans (g.2 x).symm).length_eq
end DL
/-! MI: how many cuttings have a told last number; plain -/
namespace DL
end DL
namespace DL
open PySem PySem.Spec PyProof.Rows L2
local macro_rules | `(tactic| walk_at "rd") => `(tactic| simp only [startD, List.map, List.replicate, List.length_cons, List.length_nil, List.append_eq, List.append_nil, List.nil_append, List.cons_append, Nat.reduceSub, Nat.reduceAdd, List.getElem?_cons_zero, List.getElem?_cons_succ, List.set_cons_zero, List.set_cons_succ,
  dC, dVar, dOp, dTru, gTru, tru, dChain, dAnd, dOr, dNot, dAndV, dOrV, dNotV, dIf, dNeg, gNeg, dNil, dCons, dTup, dLst, dOwn, gIx, rBin, gAdd, gCmpI, dCall, dCallK, dSeq, dNext, dDrop, dRet, dRetN, dIfS, dName, dGNil, dGCons, dGTup, dSub, gSetL, dAsg, dPar, dPar3, dAug, gIpI, dSeqI, gSeqI, dRngI, gRng1, gRng2, dCB, gAbs, gInt, gMax, gMin, gGcd, gLen, lenD, gIsi, tyM, tyD, dBits, gBits, dMet, gAppend, dPart, dNoPart, dSl, gSl_tup, gSl_lst, cut_1, dEnds, gIs, isB, dNever, dFor, dLc, wipeD, dYes,
  sizeLine_eq, Nat.reduceLeDiff, gEq_int, gNe_int, gEq_strs, gNe_strs, gIn_two, gRepr_bl, rs_lst, rs_tup, rs_scr, rs_int, atI_0, atI_1, atI_2, atI_3, atI_4, atI_5, ixN_30, ixN_31, ixN_32, gEq_bl, gNe_bl, decide_eq_true_eq, beq_iff_eq, Bool.not_eq_true', beq_eq_false_iff_ne, decide_eq_false_iff_not, Bool.not_true, Bool.not_false, if_true, if_false, Bool.false_eq_true, ite_true, ite_false, true_and, and_true, ne_eq, Bool.bne_false, Bool.bne_true, reduceCtorEq])
local macro_rules | `(tactic| walk_at "rh") => `(tactic| simp only [*, startD, List.map, List.replicate, List.length_cons, List.length_nil, List.append_eq, List.append_nil, List.nil_append, List.cons_append, Nat.reduceSub, Nat.reduceAdd, List.getElem?_cons_zero, List.getElem?_cons_succ, List.set_cons_zero, List.set_cons_succ,
  dC, dVar, dOp, dTru, gTru, tru, dChain, dAnd, dOr, dNot, dAndV, dOrV, dNotV, dIf, dNeg, gNeg, dNil, dCons, dTup, dLst, dOwn, gIx, rBin, gAdd, gCmpI, dCall, dCallK, dSeq, dNext, dDrop, dRet, dRetN, dIfS, dName, dGNil, dGCons, dGTup, dSub, gSetL, dAsg, dPar, dPar3, dAug, gIpI, dSeqI, gSeqI, dRngI, gRng1, gRng2, dCB, gAbs, gInt, gMax, gMin, gGcd, gLen, lenD, gIsi, tyM, tyD, dBits, gBits, dMet, gAppend, dPart, dNoPart, dSl, gSl_tup, gSl_lst, cut_1, dEnds, gIs, isB, dNever, dFor, dLc, wipeD, dYes,
  sizeLine_eq, Nat.reduceLeDiff, gEq_int, gNe_int, gEq_strs, gNe_strs, gIn_two, gRepr_bl, rs_lst, rs_tup, rs_scr, rs_int, atI_0, atI_1, atI_2, atI_3, atI_4, atI_5, ixN_30, ixN_31, ixN_32, gEq_bl, gNe_bl, decide_eq_true_eq, beq_iff_eq, Bool.not_eq_true', beq_eq_false_iff_ne, decide_eq_false_iff_not, Bool.not_true, Bool.not_false, if_true, if_false, Bool.false_eq_true, ite_true, ite_false, true_and, and_true, ne_eq, Bool.bne_false, Bool.bne_true, reduceCtorEq])
local macro_rules | `(tactic| walk_at "kb") => `(tactic| simp only [kb_NoneType_list, kb_bool_list, kb_int_list, kb_str_list, kb_tuple_list, kb_list_list, kb_dict_list, kb_NoneType_int, kb_bool_int, kb_int_int, kb_str_int, kb_tuple_int, kb_list_int, kb_dict_int, kb_NoneType_bool, kb_bool_bool, kb_int_bool, kb_str_bool, kb_tuple_bool, kb_list_bool, kb_dict_bool, kb_NoneType_tuple, kb_bool_tuple, kb_int_tuple, kb_str_tuple, kb_tuple_tuple, kb_list_tuple, kb_dict_tuple, if_true, if_false, Bool.false_eq_true, ite_true, ite_false, Bool.not_true, Bool.not_false])
end DL
namespace DL
open PySem PySem.Spec PyProof.Rows L2
local macro_rules | `(tactic| walk_at "rd") => `(tactic| simp only [startD, List.map, List.replicate, List.length_cons, List.length_nil, List.append_eq, List.append_nil, List.nil_append, List.cons_append, Nat.reduceSub, Nat.reduceAdd, List.getElem?_cons_zero, List.getElem?_cons_succ, List.set_cons_zero, List.set_cons_succ,
  dC, dVar, dOp, dTru, gTru, tru, dChain, dAnd, dOr, dNot, dAndV, dOrV, dNotV, dIf, dNeg, gNeg, dNil, dCons, dTup, dLst, dOwn, gIx, rBin, gAdd, gCmpI, dCall, dCallK, dSeq, dNext, dDrop, dRet, dRetN, dIfS, dName, dGNil, dGCons, dGTup, dSub, gSetL, dAsg, dPar, dPar3, dAug, gIpI, dSeqI, gSeqI, dRngI, gRng1, gRng2, dCB, gAbs, gInt, gMax, gMin, gGcd, gLen, lenD, gIsi, tyM, tyD, dBits, gBits, dMet, gAppend, dPart, dNoPart, dSl, gSl_tup, gSl_lst, cut_1, dEnds, gIs, isB, dNever, dCallX, dRaise, dTry, dFld, dCallV, gLRng, gFrz, dFrz, dFor, dLc, wipeD, dYes,
  sizeLine_eq, Nat.reduceLeDiff, gEq_int, gNe_int, gEq_strs, gNe_strs, gIn_two, gRepr_bl, rs_lst, rs_tup, rs_scr, rs_int, atI_0, atI_1, atI_2, atI_3, atI_4, atI_5, ixN_30, ixN_31, ixN_32, gEq_bl, gNe_bl, decide_eq_true_eq, beq_iff_eq, Bool.not_eq_true', beq_eq_false_iff_ne, decide_eq_false_iff_not, Bool.not_true, Bool.not_false, if_true, if_false, Bool.false_eq_true, ite_true, ite_false, true_and, and_true, ne_eq, Bool.bne_false, Bool.bne_true, reduceCtorEq])
local macro_rules | `(tactic| walk_at "rh") => `(tactic| simp only [*, startD, List.map, List.replicate, List.length_cons, List.length_nil, List.append_eq, List.append_nil, List.nil_append, List.cons_append, Nat.reduceSub, Nat.reduceAdd, List.getElem?_cons_zero, List.getElem?_cons_succ, List.set_cons_zero, List.set_cons_succ,
  dC, dVar, dOp, dTru, gTru, tru, dChain, dAnd, dOr, dNot, dAndV, dOrV, dNotV, dIf, dNeg, gNeg, dNil, dCons, dTup, dLst, dOwn, gIx, rBin, gAdd, gCmpI, dCall, dCallK, dSeq, dNext, dDrop, dRet, dRetN, dIfS, dName, dGNil, dGCons, dGTup, dSub, gSetL, dAsg, dPar, dPar3, dAug, gIpI, dSeqI, gSeqI, dRngI, gRng1, gRng2, dCB, gAbs, gInt, gMax, gMin, gGcd, gLen, lenD, gIsi, tyM, tyD, dBits, gBits, dMet, gAppend, dPart, dNoPart, dSl, gSl_tup, gSl_lst, cut_1, dEnds, gIs, isB, dNever, dCallX, dRaise, dTry, dFld, dCallV, gLRng, gFrz, dFrz, dFor, dLc, wipeD, dYes,
  sizeLine_eq, Nat.reduceLeDiff, gEq_int, gNe_int, gEq_strs, gNe_strs, gIn_two, gRepr_bl, rs_lst, rs_tup, rs_scr, rs_int, atI_0, atI_1, atI_2, atI_3, atI_4, atI_5, ixN_30, ixN_31, ixN_32, gEq_bl, gNe_bl, decide_eq_true_eq, beq_iff_eq, Bool.not_eq_true', beq_eq_false_iff_ne, decide_eq_false_iff_not, Bool.not_true, Bool.not_false, if_true, if_false, Bool.false_eq_true, ite_true, ite_false, true_and, and_true, ne_eq, Bool.bne_false, Bool.bne_true, reduceCtorEq])
local macro_rules | `(tactic| walk_at "kb") => `(tactic| simp only [kb_NoneType_list, kb_bool_list, kb_int_list, kb_str_list, kb_tuple_list, kb_list_list, kb_dict_list, kb_NoneType_int, kb_bool_int, kb_int_int, kb_str_int, kb_tuple_int, kb_list_int, kb_dict_int, kb_NoneType_bool, kb_bool_bool, kb_int_bool, kb_str_bool, kb_tuple_bool, kb_list_bool, kb_dict_bool, kb_NoneType_tuple, kb_bool_tuple, kb_int_tuple, kb_str_tuple, kb_tuple_tuple, kb_list_tuple, kb_dict_tuple, if_true, if_false, Bool.false_eq_true, ite_true, ite_false, Bool.not_true, Bool.not_false])
/-! RdZ: the checks with their errors -/
/-! ### the heart's numbers -/
/-! ### the heart's functions -/
end DL
namespace DL
open PySem PySem.Spec PyProof.Rows L2
local macro_rules | `(tactic| walk_at "rd") => `(tactic| simp only [startD, List.map, List.replicate, List.length_cons, List.length_nil, List.append_eq, List.append_nil, List.nil_append, List.cons_append, Nat.reduceSub, Nat.reduceAdd, List.getElem?_cons_zero, List.getElem?_cons_succ, List.set_cons_zero, List.set_cons_succ,
  dC, dVar, dOp, dTru, gTru, tru, dChain, dAnd, dOr, dNot, dAndV, dOrV, dNotV, dIf, dNeg, gNeg, dNil, dCons, dTup, dLst, dOwn, gIx, rBin, gAdd, gCmpI, dCall, dCallK, dSeq, dNext, dDrop, dRet, dRetN, dIfS, dName, dGNil, dGCons, dGTup, dSub, gSetL, dAsg, dPar, dPar3, dAug, gIpI, dSeqI, gSeqI, dRngI, gRng1, gRng2, dCB, gAbs, gInt, gMax, gMin, gGcd, gLen, lenD, gIsi, tyM, tyD, dBits, gBits, dMet, gAppend, dPart, dNoPart, dSl, gSl_tup, gSl_lst, cut_1, dEnds, gIs, isB, dNever, dCallX, dRaise, dTry, dFld, dCallV, gLRng, gFrz, dFrz, dFor, dLc, wipeD, dYes,
  sizeLine_eq, Nat.reduceLeDiff, gEq_int, gNe_int, gEq_strs, gNe_strs, gIn_two, gRepr_bl, rs_lst, rs_tup, rs_scr, rs_int, atI_0, atI_1, atI_2, atI_3, atI_4, atI_5, ixN_30, ixN_31, ixN_32, gEq_bl, gNe_bl, decide_eq_true_eq, beq_iff_eq, Bool.not_eq_true', beq_eq_false_iff_ne, decide_eq_false_iff_not, Bool.not_true, Bool.not_false, if_true, if_false, Bool.false_eq_true, ite_true, ite_false, true_and, and_true, ne_eq, Bool.bne_false, Bool.bne_true, reduceCtorEq])
local macro_rules | `(tactic| walk_at "rh") => `(tactic| simp only [*, startD, List.map, List.replicate, List.length_cons, List.length_nil, List.append_eq, List.append_nil, List.nil_append, List.cons_append, Nat.reduceSub, Nat.reduceAdd, List.getElem?_cons_zero, List.getElem?_cons_succ, List.set_cons_zero, List.set_cons_succ,
  dC, dVar, dOp, dTru, gTru, tru, dChain, dAnd, dOr, dNot, dAndV, dOrV, dNotV, dIf, dNeg, gNeg, dNil, dCons, dTup, dLst, dOwn, gIx, rBin, gAdd, gCmpI, dCall, dCallK, dSeq, dNext, dDrop, dRet, dRetN, dIfS, dName, dGNil, dGCons, dGTup, dSub, gSetL, dAsg, dPar, dPar3, dAug, gIpI, dSeqI, gSeqI, dRngI, gRng1, gRng2, dCB, gAbs, gInt, gMax, gMin, gGcd, gLen, lenD, gIsi, tyM, tyD, dBits, gBits, dMet, gAppend, dPart, dNoPart, dSl, gSl_tup, gSl_lst, cut_1, dEnds, gIs, isB, dNever, dCallX, dRaise, dTry, dFld, dCallV, gLRng, gFrz, dFrz, dFor, dLc, wipeD, dYes,
  sizeLine_eq, Nat.reduceLeDiff, gEq_int, gNe_int, gEq_strs, gNe_strs, gIn_two, gRepr_bl, rs_lst, rs_tup, rs_scr, rs_int, atI_0, atI_1, atI_2, atI_3, atI_4, atI_5, ixN_30, ixN_31, ixN_32, gEq_bl, gNe_bl, decide_eq_true_eq, beq_iff_eq, Bool.not_eq_true', beq_eq_false_iff_ne, decide_eq_false_iff_not, Bool.not_true, Bool.not_false, if_true, if_false, Bool.false_eq_true, ite_true, ite_false, true_and, and_true, ne_eq, Bool.bne_false, Bool.bne_true, reduceCtorEq])
local macro_rules | `(tactic| walk_at "kb") => `(tactic| simp only [kb_NoneType_list, kb_bool_list, kb_int_list, kb_str_list, kb_tuple_list, kb_list_list, kb_dict_list, kb_NoneType_int, kb_bool_int, kb_int_int, kb_str_int, kb_tuple_int, kb_list_int, kb_dict_int, kb_NoneType_bool, kb_bool_bool, kb_int_bool, kb_str_bool, kb_tuple_bool, kb_list_bool, kb_dict_bool, kb_NoneType_tuple, kb_bool_tuple, kb_int_tuple, kb_str_tuple, kb_tuple_tuple, kb_list_tuple, kb_dict_tuple, if_true, if_false, Bool.false_eq_true, ite_true, ite_false, Bool.not_true, Bool.not_false])
/-! RdDD: data that is shown, dicts among them (X_k11 has its own copy) -/
abbrev er (x : Str) (d : D) : Option (Str × D) := some (x, d)
theorem gReprZ_res {d : D} {M : Mem} {Q : DQ} {z : Str} (h : shwnZ (resD M d) = some z) (q : Q (.str z) M) : gReprZ [d] M Q := by
  unfold gReprZ
  dsimp only
  rw [h]
  exact q
/-! ### data that is shown -/
structure Sh (d : D) : Prop where
  f : fine 10 d = true
  l : lit 200 d = true
  w : wt 200 d ≤ 10000
mutual
theorem resD_fine (M : Mem) : ∀ (n : Nat) (d : D), fine n d = true → resD M d = d
  | _, .non, _ => rfl
  | _, .bl _, _ => rfl
  | _, .int _, _ => rfl
  | _, .str _, _ => rfl
  | 0, .tup l, h => by simp [fine] at h
  | 0, .lst l, h => by simp [fine] at h
  | n + 1, .tup l, h => by unfold resD; rw [resDA_fine M n l (by simpa only [fine] using h)]
  | n + 1, .lst l, h => by unfold resD; rw [resDA_fine M n l (by simpa only [fine] using h)]
  | _, .dct0, h => rfl
  | _, .scr _, h => by simp [fine] at h
  | _, .own _, h => by simp [fine] at h
  | _, .exc _ _, h => by simp [fine] at h
  | _, .glb _, h => by simp [fine] at h
  | _, .val _, h => by simp [fine] at h
theorem resDA_fine (M : Mem) : ∀ (n : Nat) (ds : List D), fineAll n ds = true → resDA M ds = ds
  | _, [], _ => rfl
  | n, d :: ds, h => by
    have h' : fine n d = true ∧ fineAll n ds = true := by simpa only [fineAll, Bool.and_eq_true] using h
    unfold resDA
    rw [resD_fine M n d h'.1, resDA_fine M n ds h'.2]
end
theorem Sh.shown {d : D} (h : Sh d) (M : Mem) : ∃ z, shwnZ (resD M d) = some z := by
  rw [resD_fine M 10 d h.f]
  obtain ⟨z, hz⟩ := shw_of 200 10 h.f h.l (by have := h.w; omega)
  exact ⟨z, shwnZ_of hz⟩
end DL
namespace DL
open PySem PySem.Spec PyProof.Rows L2
local macro_rules | `(tactic| walk_at "rd") => `(tactic| simp only [startD, List.map, List.replicate, List.length_cons, List.length_nil, List.append_eq, List.append_nil, List.nil_append, List.cons_append, Nat.reduceSub, Nat.reduceAdd, List.getElem?_cons_zero, List.getElem?_cons_succ, List.set_cons_zero, List.set_cons_succ,
  dC, dVar, dOp, dTru, gTru, tru, dChain, dAnd, dOr, dNot, dAndV, dOrV, dNotV, dIf, dNeg, gNeg, dNil, dCons, dTup, dLst, dOwn, gIx, rBin, gAdd, gCmpI, dCall, dCallK, dSeq, dNext, dDrop, dRet, dRetN, dIfS, dName, dGNil, dGCons, dGTup, dSub, gSetL, dAsg, dPar, dPar3, dAug, gIpI, dSeqI, gSeqI, dRngI, gRng1, gRng2, dCB, gAbs, gInt, gMax, gMin, gGcd, gLen, lenD, gIsi, tyM, tyD, dBits, gBits, dMet, gAppend, dPart, dNoPart, dSl, gSl_tup, gSl_lst, cut_1, dEnds, gIs, isB, dNever, dCallX, dRaise, dTry, dFld, dCallV, gLRng, gFrz, dFrz, dFor, dLc, wipeD, dYes,
  sizeLine_eq, Nat.reduceLeDiff, gEq_int, gNe_int, gEq_strs, gNe_strs, gIn_two, gRepr_bl, rs_lst, rs_tup, rs_scr, rs_int, atI_0, atI_1, atI_2, atI_3, atI_4, atI_5, ixN_30, ixN_31, ixN_32, gEq_bl, gNe_bl, decide_eq_true_eq, beq_iff_eq, Bool.not_eq_true', beq_eq_false_iff_ne, decide_eq_false_iff_not, Bool.not_true, Bool.not_false, if_true, if_false, Bool.false_eq_true, ite_true, ite_false, true_and, and_true, ne_eq, Bool.bne_false, Bool.bne_true, reduceCtorEq])
local macro_rules | `(tactic| walk_at "rh") => `(tactic| simp only [*, startD, List.map, List.replicate, List.length_cons, List.length_nil, List.append_eq, List.append_nil, List.nil_append, List.cons_append, Nat.reduceSub, Nat.reduceAdd, List.getElem?_cons_zero, List.getElem?_cons_succ, List.set_cons_zero, List.set_cons_succ,
  dC, dVar, dOp, dTru, gTru, tru, dChain, dAnd, dOr, dNot, dAndV, dOrV, dNotV, dIf, dNeg, gNeg, dNil, dCons, dTup, dLst, dOwn, gIx, rBin, gAdd, gCmpI, dCall, dCallK, dSeq, dNext, dDrop, dRet, dRetN, dIfS, dName, dGNil, dGCons, dGTup, dSub, gSetL, dAsg, dPar, dPar3, dAug, gIpI, dSeqI, gSeqI, dRngI, gRng1, gRng2, dCB, gAbs, gInt, gMax, gMin, gGcd, gLen, lenD, gIsi, tyM, tyD, dBits, gBits, dMet, gAppend, dPart, dNoPart, dSl, gSl_tup, gSl_lst, cut_1, dEnds, gIs, isB, dNever, dCallX, dRaise, dTry, dFld, dCallV, gLRng, gFrz, dFrz, dFor, dLc, wipeD, dYes,
  sizeLine_eq, Nat.reduceLeDiff, gEq_int, gNe_int, gEq_strs, gNe_strs, gIn_two, gRepr_bl, rs_lst, rs_tup, rs_scr, rs_int, atI_0, atI_1, atI_2, atI_3, atI_4, atI_5, ixN_30, ixN_31, ixN_32, gEq_bl, gNe_bl, decide_eq_true_eq, beq_iff_eq, Bool.not_eq_true', beq_eq_false_iff_ne, decide_eq_false_iff_not, Bool.not_true, Bool.not_false, if_true, if_false, Bool.false_eq_true, ite_true, ite_false, true_and, and_true, ne_eq, Bool.bne_false, Bool.bne_true, reduceCtorEq])
local macro_rules | `(tactic| walk_at "kb") => `(tactic| simp only [kb_NoneType_list, kb_bool_list, kb_int_list, kb_str_list, kb_tuple_list, kb_list_list, kb_dict_list, kb_NoneType_int, kb_bool_int, kb_int_int, kb_str_int, kb_tuple_int, kb_list_int, kb_dict_int, kb_NoneType_bool, kb_bool_bool, kb_int_bool, kb_str_bool, kb_tuple_bool, kb_list_bool, kb_dict_bool, kb_NoneType_tuple, kb_bool_tuple, kb_int_tuple, kb_str_tuple, kb_tuple_tuple, kb_list_tuple, kb_dict_tuple, if_true, if_false, Bool.false_eq_true, ite_true, ite_false, Bool.not_true, Bool.not_false])
/-- a comprehension, item by item -/
theorem lcW_idx {ds ys : List D} {C : Mem → Prop} {g : DTG} {tt : DTT} {te : DTE} {r : Env} {M : Mem} {Q : DQ} (hlen : ds.length = ys.length) (hC : C M) (hl : ds.length ≤ sizeLine)
    (step : ∀ (i : Nat) (d y : D), ds[i]? = some d → ys[i]? = some y → ∀ (Y : D → Mem → Prop) (N : Mem → Prop), Y y M → g d r M fun r2 M2 => tt r2 M2 fun b M3 => if b = true then te r2 M3 Y else N M3)
    (q : Q (.lst ys) M) : lcW false ds C g tt te r M Q := by
  refine ⟨fun i acc M' => M' = M ∧ acc = ys.take i ∧ i ≤ ds.length, ⟨rfl, rfl, Nat.zero_le _⟩, ?_⟩
  rintro i acc M' ⟨rfl, rfl, hi⟩
  refine ⟨hC, fun hd => ?_, fun d ed => ?_⟩
  · rw [if_neg Bool.false_ne_true]
    rw [List.take_of_length_le (by omega)]; exact q
  · have hlt : i < ds.length := (List.getElem?_eq_some_iff.mp ed).1
    have ey : ys[i]? = some ys[i] := List.getElem?_eq_getElem (by omega)
    have ht : ys.take (i + 1) = ys.take i ++ [ys[i]] := by rw [List.take_add_one, ey]; rfl
    refine step i d _ ed ey _ _ ⟨?_, rfl, ht.symm, hlt⟩
    rw [List.length_take]; omega
/-! ### root numbers as what they stand for: d stands for (X + Y times the root) / B -/
structure RV (m : Int) (nx nb : Nat) (d : D) (X Y B : Int) : Prop where
  eq : d = rootN m X Y B
  b0 : B ≠ 0
  bx : Bi nx X
  bY : Bi nx Y
  bB : Bi nb B
/-- the triple itself -/
structure RT (m : Int) (nx nb : Nat) (d : D) (X Y B t1 t2 t3 k : Int) : Prop where
  eq : d = T3 t1 t2 t3
  nf : NF m t1 t2 t3
  k0 : k ≠ 0
  e1 : rnX m X Y = k * t1
  e2 : rnY m Y = k * t2
  e3 : B = k * t3
  sz : Bi (nx + 103) t1 ∧ Bi nx t2 ∧ Bi nb t3
theorem Bi.up {n k : Nat} {i : Int} (h : Bi n i) (hk : n ≤ k) : Bi k i := h.mono hk
theorem isq_100 {m : Int} (m0 : 0 ≤ m) (h : Bi 200 m) : Bi 102 (isq m) := by
  have h1 := isq_le m0
  have h2 := isq_nn m
  unfold Bi at h ⊢
  rcases Nat.lt_or_ge (isq m).natAbs (2 ^ 102) with z | z
  · exact z
  · have z' : (2 : Int) ^ 102 ≤ isq m := by
      have : ((2 ^ 102 : Nat) : Int) = (2 : Int) ^ 102 := by rw [Int.natCast_pow]; rfl
      omega
    have : (2 : Int) ^ 102 * 2 ^ 102 ≤ isq m * isq m := Int.mul_le_mul z' z' (by decide) h2
    have e : ((2 ^ 200 : Nat) : Int) = (2 : Int) ^ 200 := by rw [Int.natCast_pow]; rfl
    have : (2 : Int) ^ 200 ≤ 2 ^ 102 * 2 ^ 102 := by decide +kernel
    omega
theorem RV.t3 {m X Y B : Int} {nx nb : Nat} {d : D} (h : RV m nx nb d X Y B) (m0 : 0 ≤ m) (hm : Bi 200 m) : ∃ t1 t2 t3 k, RT m nx nb d X Y B t1 t2 t3 k := by
  obtain ⟨k, t1, t2, t3, k0, e1, e2, e3, e4, hn⟩ := rootN_partsX (m := m) (x := X) (y := Y) h.b0
  refine ⟨t1, t2, t3, k, by rw [h.eq, e4], hn, k0, e1, e2, e3, ?_, ?_, ?_⟩
  · refine Bi.of_dvd (n := nx + 103) (c := k) ?_ k0 e1
    unfold rnX
    split
    · have h1 := h.bY.mul (isq_100 m0 hm)
      exact ((h.bx.up (by omega : nx ≤ nx + 102)).add h1)
    · exact h.bx.up (by omega)
  · refine Bi.of_dvd (n := nx) (c := k) ?_ k0 e2
    unfold rnY
    split
    · unfold Bi; rw [show (0 : Int).natAbs = 0 from rfl]; exact Nat.pow_pos (by decide)
    · exact h.bY
  · exact Bi.of_dvd h.bB k0 e3
theorem rv_int {m i : Int} {n : Nat} (h : Bi n i) : RV m n 1 (T3 i 0 1) i 0 1 := ⟨by
    have hn : NF m i 0 1 := ⟨by decide, by rw [Int.gcd_one_right], fun _ => rfl⟩
    rw [hn.self], by decide, h, by unfold Bi; exact Nat.pow_pos (by decide), Bi.of_abs 1 (by decide) (by decide)⟩
theorem rn_eq {m X Y B X' Y' B' : Int} (b0 : B ≠ 0) (b0' : B' ≠ 0) (h1 : X * B' = X' * B) (h2 : Y * B' = Y' * B) : rootN m X Y B = rootN m X' Y' B' := by
  rw [rootN_nf, rootN_nf]
  refine nf_eq b0 b0' ?_ ?_
  · unfold rnX
    split
    · have : (X + Y * isq m) * B' = X * B' + Y * B' * isq m := by grind
      rw [this, h1, h2]; grind
    · exact h1
  · unfold rnY
    split
    · rw [Int.zero_mul, Int.zero_mul]
    · exact h2
theorem rn_plus {m X Y B t1 t2 t3 k X' Y' B' s1 s2 s3 j : Int} (k0 : k ≠ 0) (j0 : j ≠ 0) (b0 : B ≠ 0) (b0' : B' ≠ 0) (h : NF m t1 t2 t3) (g : NF m s1 s2 s3) (e1 : rnX m X Y = k * t1) (e2 : rnY m Y = k * t2) (e3 : B = k * t3) (f1 : rnX m X' Y' = j * s1) (f2 : rnY m Y' = j * s2) (f3 : B' = j * s3) :
    rnPlus m t1 t2 t3 s1 s2 s3 = rootN m (X * B' + X' * B) (Y * B' + Y' * B) (B * B') := by
  have ht := h.pos
  have hs := g.pos
  unfold rnPlus
  rw [rootN_nf, rootN_nf]
  have hb : t3 * s3 ≠ 0 := Int.mul_ne_zero (by omega) (by omega)
  refine nf_eq hb (Int.mul_ne_zero b0 b0') ?_ ?_
  · unfold rnX at *
    by_cases hq : isSq m
    · rw [if_pos hq] at *
      have z1 := h.pr hq
      have z2 := g.pr hq
      subst z1 z2
      have x1 : X * B' + X' * B + (Y * B' + Y' * B) * isq m = (X + Y * isq m) * B' + (X' + Y' * isq m) * B := by grind
      rw [x1, e1, f1, e3, f3]; grind
    · rw [if_neg hq] at *
      rw [e1, f1, e3, f3]; grind
  · unfold rnY at *
    by_cases hq : isSq m
    · have z1 := h.pr hq
      have z2 := g.pr hq
      subst z1 z2
      simp only [if_pos hq, Int.zero_mul, Int.add_zero]
    · rw [if_neg hq] at *
      rw [e2, f2, e3, f3]; grind
theorem rn_times {m X Y B t1 t2 t3 k X' Y' B' s1 s2 s3 j : Int} (k0 : k ≠ 0) (j0 : j ≠ 0) (b0 : B ≠ 0) (b0' : B' ≠ 0) (h : NF m t1 t2 t3) (g : NF m s1 s2 s3) (e1 : rnX m X Y = k * t1) (e2 : rnY m Y = k * t2) (e3 : B = k * t3) (f1 : rnX m X' Y' = j * s1) (f2 : rnY m Y' = j * s2) (f3 : B' = j * s3) :
    rnTimes m t1 t2 t3 s1 s2 s3 = rootN m (X * X' + m * Y * Y') (X * Y' + Y * X') (B * B') := by
  have ht := h.pos
  have hs := g.pos
  unfold rnTimes
  rw [rootN_nf, rootN_nf]
  have hb : t3 * s3 ≠ 0 := Int.mul_ne_zero (by omega) (by omega)
  refine nf_eq hb (Int.mul_ne_zero b0 b0') ?_ ?_
  · unfold rnX at *
    by_cases hq : isSq m
    · rw [if_pos hq] at *
      have z1 := h.pr hq
      have z2 := g.pr hq
      subst z1 z2
      have hq' : isq m * isq m = m := hq
      have x1 : X * X' + m * Y * Y' + (X * Y' + Y * X') * isq m = (X + Y * isq m) * (X' + Y' * isq m) := by
        have : (X + Y * isq m) * (X' + Y' * isq m) = X * X' + (isq m * isq m) * Y * Y' + (X * Y' + Y * X') * isq m := by grind
        rw [this, hq']
      rw [x1, e1, f1, e3, f3]; grind
    · rw [if_neg hq] at *
      rw [rnY, if_neg hq] at e2 f2
      rw [e1, f1, e2, f2, e3, f3]; grind
  · unfold rnY at *
    by_cases hq : isSq m
    · have z1 := h.pr hq
      have z2 := g.pr hq
      subst z1 z2
      simp only [if_pos hq, Int.zero_mul, Int.mul_zero, Int.add_zero]
    · rw [if_neg hq] at *
      rw [rnX, if_neg hq] at e1 f1
      rw [e1, f1, e2, f2, e3, f3]; grind
/-! ### the calls -/
section
variable {m X Y B X' Y' B' : Int} {nx nb mx mb : Nat} {x y : D} {M : Mem} {Q : DQ} {E : DX}
theorem plusC (m0 : 0 ≤ m) (hm : Bi 200 m) (hx : RV m nx nb x X Y B) (hy : RV m mx mb y X' Y' B') (q : ∀ d, RV m (max (nx + mb) (mx + nb) + 1) (nb + mb) d (X * B' + X' * B) (Y * B' + Y' * B) (B * B') → Q d M)
    (h1 : nx ≤ 1690 ∧ nb ≤ 1800 ∧ mx ≤ 1690 ∧ mb ≤ 1800 := by decide) : sp_plus_by [.int m, x, y] M Q E := by
  obtain ⟨t1, t2, t3, k, T⟩ := hx.t3 m0 hm
  obtain ⟨s1, s2, s3, j, S⟩ := hy.t3 m0 hm
  refine ⟨m, t1, t2, t3, s1, s2, s3, by rw [T.eq, S.eq], m0, hm, by have := T.nf.pos; omega, by have := S.nf.pos; omega, ⟨T.sz.1.up (by omega), T.sz.2.1.up (by omega), T.sz.2.2.up (by omega)⟩, ⟨S.sz.1.up (by omega), S.sz.2.1.up (by omega), S.sz.2.2.up (by omega)⟩, ?_⟩
  rw [rn_plus T.k0 S.k0 hx.b0 hy.b0 T.nf S.nf T.e1 T.e2 T.e3 S.e1 S.e2 S.e3]
  exact q _ ⟨rfl, Int.mul_ne_zero hx.b0 hy.b0, ((hx.bx.mul hy.bB).up (Nat.le_max_left _ _)).add ((hy.bx.mul hx.bB).up (Nat.le_max_right _ _)), ((hx.bY.mul hy.bB).up (Nat.le_max_left _ _)).add ((hy.bY.mul hx.bB).up (Nat.le_max_right _ _)), hx.bB.mul hy.bB⟩
theorem minusC (m0 : 0 ≤ m) (hm : Bi 200 m) (hx : RV m nx nb x X Y B) (hy : RV m mx mb y X' Y' B') (q : ∀ d, RV m (max (nx + mb) (mx + nb) + 1) (nb + mb) d (X * B' - X' * B) (Y * B' - Y' * B) (B * B') → Q d M)
    (h1 : nx ≤ 1690 ∧ nb ≤ 1800 ∧ mx ≤ 1690 ∧ mb ≤ 1800 := by decide) : sp_minus_by [.int m, x, y] M Q E := by
  obtain ⟨t1, t2, t3, k, T⟩ := hx.t3 m0 hm
  obtain ⟨s1, s2, s3, j, S⟩ := hy.t3 m0 hm
  refine ⟨m, t1, t2, t3, s1, s2, s3, by rw [T.eq, S.eq], m0, hm, by have := T.nf.pos; omega, by have := S.nf.pos; omega, ⟨T.sz.1.up (by omega), T.sz.2.1.up (by omega), T.sz.2.2.up (by omega)⟩, ⟨S.sz.1.up (by omega), S.sz.2.1.up (by omega), S.sz.2.2.up (by omega)⟩, ?_⟩
  have nX : rnX m (0 - X') (0 - Y') = j * (0 - s1) := by
    have := S.e1
    unfold rnX at this ⊢
    split
    · rw [if_pos (by assumption)] at this
      have e : (0 - X') + (0 - Y') * isq m = 0 - (X' + Y' * isq m) := by grind
      rw [e, this]; grind
    · rw [if_neg (by assumption)] at this
      rw [this]; grind
  have nY : rnY m (0 - Y') = j * (0 - s2) := by
    have := S.e2
    unfold rnY at this ⊢
    split
    · rw [if_pos (by assumption)] at this
      have : j * s2 = 0 := this.symm
      have e : j * (0 - s2) = 0 - j * s2 := by grind
      rw [e, this]; rfl
    · rw [if_neg (by assumption)] at this
      rw [this]; grind
  rw [rn_plus T.k0 S.k0 hx.b0 hy.b0 T.nf S.nf.neg T.e1 T.e2 T.e3 nX nY S.e3]
  have e1 : X * B' + (0 - X') * B = X * B' - X' * B := by grind
  have e2 : Y * B' + (0 - Y') * B = Y * B' - Y' * B := by grind
  rw [e1, e2]
  exact q _ ⟨rfl, Int.mul_ne_zero hx.b0 hy.b0, ((hx.bx.mul hy.bB).up (Nat.le_max_left _ _)).sub ((hy.bx.mul hx.bB).up (Nat.le_max_right _ _)), ((hx.bY.mul hy.bB).up (Nat.le_max_left _ _)).sub ((hy.bY.mul hx.bB).up (Nat.le_max_right _ _)), hx.bB.mul hy.bB⟩
theorem timesC (m0 : 0 ≤ m) (hm : Bi 200 m) (hx : RV m nx nb x X Y B) (hy : RV m mx mb y X' Y' B') (q : ∀ d, RV m (200 + nx + mx + 1) (nb + mb) d (X * X' + m * Y * Y') (X * Y' + Y * X') (B * B') → Q d M)
    (h1 : nx ≤ 1690 ∧ nb ≤ 1800 ∧ mx ≤ 1690 ∧ mb ≤ 1800 := by decide) : sp_times_by [.int m, x, y] M Q E := by
  obtain ⟨t1, t2, t3, k, T⟩ := hx.t3 m0 hm
  obtain ⟨s1, s2, s3, j, S⟩ := hy.t3 m0 hm
  refine ⟨m, t1, t2, t3, s1, s2, s3, by rw [T.eq, S.eq], m0, hm, by have := T.nf.pos; omega, by have := S.nf.pos; omega, ⟨T.sz.1.up (by omega), T.sz.2.1.up (by omega), T.sz.2.2.up (by omega)⟩, ⟨S.sz.1.up (by omega), S.sz.2.1.up (by omega), S.sz.2.2.up (by omega)⟩, ?_⟩
  rw [rn_times T.k0 S.k0 hx.b0 hy.b0 T.nf S.nf T.e1 T.e2 T.e3 S.e1 S.e2 S.e3]
  exact q _ ⟨rfl, Int.mul_ne_zero hx.b0 hy.b0, ((hx.bx.mul hy.bx).up (by omega)).add (((hm.mul hx.bY).mul hy.bY).up (by omega)), ((hx.bx.mul hy.bY).up (by omega : nx + mx ≤ 200 + nx + mx)).add ((hx.bY.mul hy.bx).up (by omega : nx + mx ≤ 200 + nx + mx)), hx.bB.mul hy.bB⟩
theorem rootC (m0 : 0 ≤ m) (hm : Bi 200 m) (b0 : B ≠ 0) (bx : Bi nx X) (bY : Bi nx Y) (bB : Bi nb B) (q : ∀ d, RV m nx nb d X Y B → Q d M) (h1 : nx ≤ 3990 ∧ nb ≤ 3990 := by decide) : sp_root_by [.int m, .int X, .int Y, .int B] M Q E := by
  have y := (bY.up h1.1).big
  have b := (bB.up h1.2).big
  exact ⟨m, X, Y, B, rfl, m0, hm.big.2, y.1, y.2, b.1, b.2, b0, q _ ⟨rfl, b0, bx, bY, bB⟩⟩
end
end DL
namespace DL
open PySem PySem.Spec PyProof.Rows L2
local macro_rules | `(tactic| walk_at "rd") => `(tactic| simp only [startD, List.map, List.replicate, List.length_cons, List.length_nil, List.append_eq, List.append_nil, List.nil_append, List.cons_append, Nat.reduceSub, Nat.reduceAdd, List.getElem?_cons_zero, List.getElem?_cons_succ, List.set_cons_zero, List.set_cons_succ,
  dC, dVar, dOp, dTru, gTru, tru, dChain, dAnd, dOr, dNot, dAndV, dOrV, dNotV, dIf, dNeg, gNeg, dNil, dCons, dTup, dLst, dOwn, gIx, rBin, gAdd, gCmpI, dCall, dCallK, dSeq, dNext, dDrop, dRet, dRetN, dIfS, dName, dGNil, dGCons, dGTup, dSub, gSetL, dAsg, dPar, dPar3, dAug, gIpI, dSeqI, gSeqI, dRngI, gRng1, gRng2, dCB, gAbs, gInt, gMax, gMin, gGcd, gLen, lenD, gIsi, tyM, tyD, dBits, gBits, dMet, gAppend, dPart, dNoPart, dSl, gSl_tup, gSl_lst, cut_1, dEnds, gIs, isB, dNever, dCallX, dRaise, dTry, dFld, dCallV, gLRng, gFrz, dFrz, dFor, dLc, wipeD, dYes,
  sizeLine_eq, Nat.reduceLeDiff, gEq_int, gNe_int, gEq_strs, gNe_strs, gIn_two, gRepr_bl, rs_lst, rs_tup, rs_scr, rs_int, atI_0, atI_1, atI_2, atI_3, atI_4, atI_5, ixN_30, ixN_31, ixN_32, gEq_bl, gNe_bl, decide_eq_true_eq, beq_iff_eq, Bool.not_eq_true', beq_eq_false_iff_ne, decide_eq_false_iff_not, Bool.not_true, Bool.not_false, if_true, if_false, Bool.false_eq_true, ite_true, ite_false, true_and, and_true, ne_eq, Bool.bne_false, Bool.bne_true, reduceCtorEq])
local macro_rules | `(tactic| walk_at "rh") => `(tactic| simp only [*, startD, List.map, List.replicate, List.length_cons, List.length_nil, List.append_eq, List.append_nil, List.nil_append, List.cons_append, Nat.reduceSub, Nat.reduceAdd, List.getElem?_cons_zero, List.getElem?_cons_succ, List.set_cons_zero, List.set_cons_succ,
  dC, dVar, dOp, dTru, gTru, tru, dChain, dAnd, dOr, dNot, dAndV, dOrV, dNotV, dIf, dNeg, gNeg, dNil, dCons, dTup, dLst, dOwn, gIx, rBin, gAdd, gCmpI, dCall, dCallK, dSeq, dNext, dDrop, dRet, dRetN, dIfS, dName, dGNil, dGCons, dGTup, dSub, gSetL, dAsg, dPar, dPar3, dAug, gIpI, dSeqI, gSeqI, dRngI, gRng1, gRng2, dCB, gAbs, gInt, gMax, gMin, gGcd, gLen, lenD, gIsi, tyM, tyD, dBits, gBits, dMet, gAppend, dPart, dNoPart, dSl, gSl_tup, gSl_lst, cut_1, dEnds, gIs, isB, dNever, dCallX, dRaise, dTry, dFld, dCallV, gLRng, gFrz, dFrz, dFor, dLc, wipeD, dYes,
  sizeLine_eq, Nat.reduceLeDiff, gEq_int, gNe_int, gEq_strs, gNe_strs, gIn_two, gRepr_bl, rs_lst, rs_tup, rs_scr, rs_int, atI_0, atI_1, atI_2, atI_3, atI_4, atI_5, ixN_30, ixN_31, ixN_32, gEq_bl, gNe_bl, decide_eq_true_eq, beq_iff_eq, Bool.not_eq_true', beq_eq_false_iff_ne, decide_eq_false_iff_not, Bool.not_true, Bool.not_false, if_true, if_false, Bool.false_eq_true, ite_true, ite_false, true_and, and_true, ne_eq, Bool.bne_false, Bool.bne_true, reduceCtorEq])
local macro_rules | `(tactic| walk_at "kb") => `(tactic| simp only [kb_NoneType_list, kb_bool_list, kb_int_list, kb_str_list, kb_tuple_list, kb_list_list, kb_dict_list, kb_NoneType_int, kb_bool_int, kb_int_int, kb_str_int, kb_tuple_int, kb_list_int, kb_dict_int, kb_NoneType_bool, kb_bool_bool, kb_int_bool, kb_str_bool, kb_tuple_bool, kb_list_bool, kb_dict_bool, kb_NoneType_tuple, kb_bool_tuple, kb_int_tuple, kb_str_tuple, kb_tuple_tuple, kb_list_tuple, kb_dict_tuple, if_true, if_false, Bool.false_eq_true, ite_true, ite_false, Bool.not_true, Bool.not_false])
/-! RdGG: what the sheets' laws reckon with -/
theorem rd_l_common_ec6e : ∀ ds M Q, ds.length = 2 → sp_gcd ds M Q DX0 → t_l_common_ec6e (dEnds M Q) (startD 4 ds) M := by
  rintro _ M Q - ⟨a, b, rfl, q⟩
  unfold t_l_common_ec6e
  refine dSeq_open fun B hB => ?_
  walk_at "rd"
  rw [← hB]
  clear hB B
  refine dSeq_open fun B hB => ?_
  have hab : Int.gcd (if 0 - a > a then 0 - a else a) (if 0 - b > b then 0 - b else b) = Int.gcd a b := by
    have e1 : (if 0 - a > a then 0 - a else a) = (a.natAbs : Int) := by split <;> omega
    have e2 : (if 0 - b > b then 0 - b else b) = (b.natAbs : Int) := by split <;> omega
    rw [e1, e2]; simp [Int.gcd]
  refine dwhile_of (fun n r M' => ∃ l h : Int, r = [some (.int a), some (.int b), some (.int l), some (.int h)] ∧ M' = M ∧ 0 ≤ l ∧ 0 ≤ h ∧ Int.gcd l h = Int.gcd a b ∧ n = h.toNat) _ ⟨_, _, rfl, rfl, by split <;> omega, by split <;> omega, hab, rfl⟩ ?_
  · rintro n r M' ⟨l, h, rfl, rfl, hl, hh, hg, rfl⟩
    walk_at "rd"
    by_cases h0 : 0 < h
    · rw [if_pos h0]
      refine ⟨(by omega : h ≠ 0), _, ?_, h, l.fmod h, rfl, hh, ?_, (gcd_step hl h0).trans hg, rfl⟩
      · have := fm_range (a := l) h0
        omega
      · exact (fm_range (a := l) h0).1
    · rw [if_neg h0, ← hB]
      have h0 : h = 0 := by omega
      subst h0
      rw [← hg, gcd_end hl] at q
      walk_at "rd"
      exact rtq q
theorem rd_l_root_of_fba3 : ∀ ds M Q, ds.length = 1 → sp_isq ds M Q DX0 → t_l_root_of_fba3 (dEnds M Q) (startD 4 ds) M := by
  rintro _ M Q - ⟨n, rfl, h0, hB, q⟩
  unfold t_l_root_of_fba3
  refine dSeq_open fun B hB0 => ?_
  walk_at "rd"
  rw [← hB0]
  clear hB0 B
  refine dSeq_open fun B hB0 => ?_
  refine dwhile_of (fun m r M' => ∃ f : Int, r = [some (.int n), some (.int 0), some (.int f), none] ∧ M' = M ∧ 1 ≤ f ∧ f ≤ 2 * n + 1 ∧ m = (2 * n + 2 - f).toNat) _ ⟨1, rfl, rfl, by omega, by omega, rfl⟩ ?_
  rintro m r M' ⟨f, rfl, rfl, hf, hf2, rfl⟩
  walk_at "rd"
  have sf : Sm f := sm_big8 (by have := big_ge 1; omega) (by have := big_ge 1; omega)
  refine ⟨⟨sf, sf⟩, ?_⟩
  split
  · rename_i hc
    have : f * 1 ≤ f * f := Int.mul_le_mul_of_nonneg_left hf (by omega)
    exact ⟨⟨Sm.of 4 (by decide), sf⟩, _, by omega, 2 * f, rfl, by omega, by omega, rfl⟩
  · rename_i hc
    rw [← hB0]
    clear hB0 B
    refine dSeq_open fun B hB0 => ?_
    refine dwhile_of (fun m r M'' => ∃ lo hi : Int, ∃ mi, r = [some (.int n), some (.int lo), some (.int hi), mi] ∧ M'' = M' ∧ 0 ≤ lo ∧ lo < hi ∧ hi ≤ 2 * n + 1 ∧ lo * lo ≤ n ∧ n < hi * hi ∧ m = (hi - lo).toNat) _ ⟨0, f, none, rfl, rfl, by omega, by omega, hf2, by omega, by omega, rfl⟩ ?_
    rintro m r M'' ⟨lo, hi, mi, rfl, rfl, g1, g2, g3, g4, g5, rfl⟩
    walk_at "rd"
    split
    · rename_i hlt
      have e2 : (lo + hi).fdiv 2 = (lo + hi) / 2 := fdiv_pos (by decide)
      rw [e2]
      have sm : Sm ((lo + hi) / 2) := sm_big8 (by have := big_ge 1; omega) (by have := big_ge 1; omega)
      refine ⟨⟨by decide, by decide⟩, ⟨sm, sm⟩, ?_⟩
      split
      · rename_i hm
        exact ⟨_, by omega, (lo + hi) / 2, hi, _, rfl, by omega, by omega, by omega, hm, g5, rfl⟩
      · rename_i hm
        exact ⟨_, by omega, lo, (lo + hi) / 2, _, rfl, by omega, by omega, by omega, g4, by omega, rfl⟩
    · rename_i hge
      have e : hi = lo + 1 := by omega
      subst e
      have e : isq n = lo := isq_uni (by omega) g4 g5
      rw [e] at q
      rw [← hB0]
      clear hB0 B
      walk_at "rd"
      exact rtq q
theorem rd_l_made_ecf7 : ∀ ds M Q, ds.length = 4 → sp_root_by ds M Q DX0 → t_l_made_ecf7 sp_isq sp_gcd (dEnds M Q) (startD 6 ds) M := rd_root_by
theorem rd_l_measure_d993 : ∀ ds M Q, ds.length = 1 → sp_measure_by ds M Q DX0 → t_l_measure_d993 (dEnds M Q) (startD 1 ds) M := rd_measure_by
theorem rd_l_times_3146 : ∀ ds M Q, ds.length = 3 → sp_times_by ds M Q DX0 → t_l_times_3146 sp_root_by (dEnds M Q) (startD 4 ds) M := rd_times_by
/-- one plus so many times the other -/
def sp_lplusT : DSp := fun ds M Q _ => ∃ m a1 a2 a3 b1 b2 b3 s : Int, ds = [.int m, T3 a1 a2 a3, T3 b1 b2 b3, .int s] ∧ 0 ≤ m ∧ Bi 200 m ∧ a3 ≠ 0 ∧ b3 ≠ 0 ∧ Bi 110 s ∧ Sz 1800 a1 a2 a3 ∧ Sz 1800 b1 b2 b3 ∧ Q (rnPlus m a1 a2 a3 (s * b1) (s * b2) b3) M
theorem rd_l_plus_46d9 : ∀ ds M Q, ds.length = 4 → sp_lplusT ds M Q DX0 → t_l_plus_46d9 sp_root_by (dEnds M Q) (startD 5 ds) M := by
  rintro _ M Q - ⟨m, a1, a2, a3, b1, b2, b3, s, rfl, h0, hm, a0, b0, ss, ⟨sa1, sa2, sa3⟩, ⟨sb1, sb2, sb3⟩, q⟩
  unfold t_l_plus_46d9
  walk_at "rd"
  have s1 : Bi 1910 (s * b1) := by have := ss.mul sb1; rwa [Nat.add_comm] at this
  have s2 : Bi 1910 (s * b2) := by have := ss.mul sb2; rwa [Nat.add_comm] at this
  have y := (((sa2.mul sb3).mono (k := 3710)).add (s2.mul sa3)).big
  have b := (sa3.mul sb3).big
  exact ⟨⟨sa1.sm, sb3.sm⟩, ⟨ss.sm, sb1.sm⟩, ⟨s1.sm, sa3.sm⟩, ⟨sa2.sm, sb3.sm⟩, ⟨ss.sm, sb2.sm⟩, ⟨s2.sm, sa3.sm⟩, ⟨sa3.sm, sb3.sm⟩, m, _, _, _, rfl, h0, hm.big.2, y.1, y.2, b.1, b.2, Int.mul_ne_zero a0 b0, rtq q⟩
section
variable {m X Y B X' Y' B' : Int} {nx nb mx mb : Nat} {x y : D} {M : Mem} {Q : DQ} {E : DX}
theorem lplusC (m0 : 0 ≤ m) (hm : Bi 200 m) (hx : RV m nx nb x X Y B) (hy : RV m mx mb y X' Y' B') (q : ∀ d, RV m (max (nx + mb) (mx + nb) + 1) (nb + mb) d (X * B' + X' * B) (Y * B' + Y' * B) (B * B') → Q d M)
    (h1 : nx ≤ 1690 ∧ nb ≤ 1800 ∧ mx ≤ 1690 ∧ mb ≤ 1800 := by decide) : sp_lplusT [.int m, x, y, .int 1] M Q E := by
  obtain ⟨_, a1, a2, a3, b1, b2, b3, e, h0, hm', a0, b0, sa, sb, h⟩ := plusC (E := E) m0 hm hx hy q h1
  simp only [List.cons.injEq, D.int.injEq, and_true] at e
  obtain ⟨rfl, rfl, rfl⟩ := e
  exact ⟨_, _, _, _, _, _, _, 1, rfl, h0, hm', a0, b0, Bi.of_abs 1 (by decide) (by decide), sa, sb, by rw [Int.one_mul, Int.one_mul]; exact h⟩
theorem lminusC (m0 : 0 ≤ m) (hm : Bi 200 m) (hx : RV m nx nb x X Y B) (hy : RV m mx mb y X' Y' B') (q : ∀ d, RV m (max (nx + mb) (mx + nb) + 1) (nb + mb) d (X * B' - X' * B) (Y * B' - Y' * B) (B * B') → Q d M)
    (h1 : nx ≤ 1690 ∧ nb ≤ 1800 ∧ mx ≤ 1690 ∧ mb ≤ 1800 := by decide) : sp_lplusT [.int m, x, y, .int (-1)] M Q E := by
  obtain ⟨_, a1, a2, a3, b1, b2, b3, e, h0, hm', a0, b0, sa, sb, h⟩ := minusC (E := E) m0 hm hx hy q h1
  simp only [List.cons.injEq, D.int.injEq, and_true] at e
  obtain ⟨rfl, rfl, rfl⟩ := e
  refine ⟨_, _, _, _, _, _, _, -1, rfl, h0, hm', a0, b0, Bi.of_abs 1 (by decide) (by decide), sa, sb, ?_⟩
  have e1 : ∀ x : Int, -1 * x = 0 - x := fun x => by omega
  rw [e1, e1]
  exact h
end
theorem rn_plusS {m X Y B t1 t2 t3 k X' Y' B' s1 s2 s3 j s : Int} (b0 : B ≠ 0) (b0' : B' ≠ 0) (h : NF m t1 t2 t3) (g : NF m s1 s2 s3) (e1 : rnX m X Y = k * t1) (e2 : rnY m Y = k * t2) (e3 : B = k * t3) (f1 : rnX m X' Y' = j * s1) (f2 : rnY m Y' = j * s2) (f3 : B' = j * s3) :
    rnPlus m t1 t2 t3 (s * s1) (s * s2) s3 = rootN m (X * B' + s * X' * B) (Y * B' + s * Y' * B) (B * B') := by
  have ht := h.pos
  have hs := g.pos
  unfold rnPlus
  rw [rootN_nf, rootN_nf]
  have hb : t3 * s3 ≠ 0 := Int.mul_ne_zero (by omega) (by omega)
  refine nf_eq hb (Int.mul_ne_zero b0 b0') ?_ ?_
  · unfold rnX at *
    by_cases hq : isSq m
    · rw [if_pos hq] at *
      have z1 := h.pr hq
      have z2 := g.pr hq
      subst z1 z2
      have x1 : X * B' + s * X' * B + (Y * B' + s * Y' * B) * isq m = (X + Y * isq m) * B' + s * (X' + Y' * isq m) * B := by grind
      rw [x1, e1, f1, e3, f3]; grind
    · rw [if_neg hq] at *
      rw [e1, f1, e3, f3]; grind
  · unfold rnY at *
    by_cases hq : isSq m
    · have z1 := h.pr hq
      have z2 := g.pr hq
      subst z1 z2
      simp only [if_pos hq, Int.zero_mul, Int.add_zero, Int.mul_zero]
    · rw [if_neg hq] at *
      rw [e2, f2, e3, f3]; grind
theorem lplusS {m X Y B X' Y' B' s : Int} {nx nb mx mb : Nat} {x y : D} {M : Mem} {Q : DQ} {E : DX} (m0 : 0 ≤ m) (hm : Bi 200 m) (hs : Bi 110 s) (hx : RV m nx nb x X Y B) (hy : RV m mx mb y X' Y' B') (q : ∀ d, RV m (max (nx + mb) (110 + mx + nb) + 1) (nb + mb) d (X * B' + s * X' * B) (Y * B' + s * Y' * B) (B * B') → Q d M)
    (h1 : nx ≤ 1690 ∧ nb ≤ 1800 ∧ mx ≤ 1690 ∧ mb ≤ 1800 := by decide) : sp_lplusT [.int m, x, y, .int s] M Q E := by
  obtain ⟨t1, t2, t3, k, T⟩ := hx.t3 m0 hm
  obtain ⟨s1, s2, s3, j, S⟩ := hy.t3 m0 hm
  refine ⟨m, t1, t2, t3, s1, s2, s3, s, by rw [T.eq, S.eq], m0, hm, by have := T.nf.pos; omega, by have := S.nf.pos; omega, hs, ⟨T.sz.1.up (by omega), T.sz.2.1.up (by omega), T.sz.2.2.up (by omega)⟩, ⟨S.sz.1.up (by omega), S.sz.2.1.up (by omega), S.sz.2.2.up (by omega)⟩, ?_⟩
  rw [rn_plusS hx.b0 hy.b0 T.nf S.nf T.e1 T.e2 T.e3 S.e1 S.e2 S.e3]
  exact q _ ⟨rfl, Int.mul_ne_zero hx.b0 hy.b0, ((hx.bx.mul hy.bB).up (Nat.le_max_left _ _)).add (((hs.mul hy.bx).mul hx.bB).up (Nat.le_max_right _ _)), ((hx.bY.mul hy.bB).up (Nat.le_max_left _ _)).add (((hs.mul hy.bY).mul hx.bB).up (Nat.le_max_right _ _)), hx.bB.mul hy.bB⟩
theorem RV.same {m X Y B X' Y' B' : Int} {nx nb mx mb : Nat} {d d' : D} (h : RV m nx nb d X Y B) (h' : RV m mx mb d' X' Y' B') (h1 : X * B' = X' * B) (h2 : Y * B' = Y' * B) : d = d' := by
  rw [h.eq, h'.eq, rn_eq h.b0 h'.b0 h1 h2]
/-! ### the side told by the law -/
theorem sideV_scale {m k x y : Int} (hk : 0 < k) : sideV m (k * x) (k * y) = sideV m x y := by
  have z : ∀ t : Int, (0 ≤ k * t ↔ 0 ≤ t) ∧ (k * t ≤ 0 ↔ t ≤ 0) ∧ (0 < k * t ↔ 0 < t) ∧ (k * t < 0 ↔ t < 0) := fun t => by
    rcases (by omega : t = 0 ∨ 0 < t ∨ t < 0) with h | h | h
    · rw [h]; simp
    · have := Int.mul_pos hk h; omega
    · have := Int.mul_neg_of_pos_of_neg hk h; omega
  have e : k * x * (k * x) - m * (k * y) * (k * y) = k * k * (x * x - m * y * y) := by grind
  have zz : ∀ t : Int, (0 < k * k * t ↔ 0 < t) ∧ (k * k * t < 0 ↔ t < 0) := fun t => by
    have h1 := z (k * t)
    have h2 := z t
    have e2 : k * k * t = k * (k * t) := by grind
    rw [e2]
    omega
  unfold sideV
  rw [e]
  simp only [(z x).1, (z y).1, (z x).2.1, (z y).2.1, (z x).2.2.1, (z y).2.2.1, (zz _).1, (zz _).2]
/-- the side of a value, told by what it is made of -/
theorem RT.side {m X Y B t1 t2 t3 k : Int} {nx nb : Nat} {d : D} (h : RT m nx nb d X Y B t1 t2 t3 k) (hB : 0 < B) : sideV m t1 t2 = sideV m (rnX m X Y) (rnY m Y) := by
  have hk : 0 < k := by
    have h3 := h.nf.pos
    have e3 := h.e3
    rcases (by omega : 0 < k ∨ k ≤ 0) with g | g
    · exact g
    · have : k * t3 ≤ 0 := Int.mul_nonpos_of_nonpos_of_nonneg g (by omega)
      omega
  rw [h.e1, h.e2, sideV_scale hk]
/-! ### the side of the square -/
/-- a cutting of items of up to 99 bits -/
structure CK (a b c e : Int) : Prop where
  cut : isCut a b c e = true
  ba : Bi 100 a
  bb : Bi 100 b
  bc : Bi 100 c
  be : Bi 100 e
  bm : Bi 200 (meas4 b c e)
  m0 : 0 ≤ meas4 b c e
def sp_slit : DSp := fun ds M Q _ => ∃ a b c e : Int, ds = [T4 a b c e] ∧ CK a b c e ∧ ∀ d, RV (meas4 b c e) 100 2 d e 1 2 → Q d M
theorem rd_slit_by : ∀ ds M Q, ds.length = 1 → sp_slit ds M Q DX0 → t_slit_by sp_root_by sp_measure_by (dEnds M Q) (startD 1 ds) M := by
  rintro _ M Q - ⟨a, b, c, e, rfl, h, q⟩
  unfold t_slit_by
  walk_at "rd"
  refine ⟨a, b, c, e, rfl, h.bb.mono, h.bc.mono, h.be.mono, ?_⟩
  have b1 : Bi 100 1 := Bi.of_abs 1 (by decide) (by decide)
  have b2 : Bi 2 2 := Bi.of_abs 2 (by decide) (by decide)
  exact rootC h.m0 h.bm (by decide) h.be b1 b2 fun d hd => rtq (q d hd) (by rw [hd.eq]; rfl)
theorem rd_l_side_of_cf54 : ∀ ds M Q, ds.length = 1 → sp_slit ds M Q DX0 → t_l_side_of_cf54 sp_root_by sp_measure_by (dEnds M Q) (startD 1 ds) M := rd_slit_by
def sp_lwhole : DSp := fun ds M Q _ => ∃ i : Int, ds = [.int i] ∧ Q (T3 i 0 1) M
theorem rd_l_whole_43a8 : ∀ ds M Q, ds.length = 1 → sp_lwhole ds M Q DX0 → t_l_whole_43a8 (dEnds M Q) (startD 1 ds) M := by
  rintro _ M Q - ⟨i, rfl, q⟩
  unfold t_l_whole_43a8
  walk_at "rd"
  exact rtq q
/-! ### a drawn cutting -/
def sp_lcutting34 : DSp := fun ds M Q _ => ∃ (k : Nat) (f g n : Int), ds = [.own k, .int f, .int g] ∧ 1 ≤ f ∧ f ≤ 10 ^ 29 ∧ 1 ≤ g ∧ g ≤ 10 ^ 29 ∧ Gn k n M ∧ n ≤ P40 - 400 ∧ ∀ a b c e M', CK a b c e → (c ≤ g ∧ b ≤ g + 2 * f ∧ -(f + g) ≤ e ∧ e ≤ f) → Gst k (n + 160) M M' → Q (T4 a b c e) M'
theorem rd_l_cutting_bb00 : ∀ ds M Q, ds.length = 3 → sp_lcutting34 ds M Q DX0 → t_l_cutting_bb00 sp_random sp_gcd (dEnds M Q) (startD 7 ds) M := by
  rintro _ M Q - ⟨k, f, g, n, rfl, f1, f2, g1, g2, hg, hn, q⟩
  unfold t_l_cutting_bb00
  have p9 := p400_900
  have p29 := p400_ten (i := 29) (by decide)
  refine dSeq_open fun B hB => ?_
  walk_at "rd"
  refine ⟨k, g, n, rfl, by omega, by omega, hg, by omega, fun v M1 v0 v1 h1 => ?_⟩
  dsimp only
  obtain ⟨c, hc⟩ : ∃ c, 1 + v = c := ⟨_, rfl⟩
  rw [hc, ← hB]
  clear hB B
  refine dSeq_open fun B hB => ?_
  walk_at "rd"
  refine ⟨⟨(Bi.of_abs (n := 4) 2 (by decide) (by decide)).sm, (Bi.of_abs (n := 100) (10 ^ 29) (by omega) (by decide +kernel)).sm⟩, k, 2 * f + 1, _, rfl, by omega, by omega, h1.2.1, by omega, fun v2 M2 w0 w1 h2 => ?_⟩
  dsimp only
  obtain ⟨e, he⟩ : ∃ e, v2 - f = e := ⟨_, rfl⟩
  rw [he, ← hB]
  clear hB B
  refine dSeq_open fun B hB => ?_
  walk_at "rd"
  refine ⟨k, f, _, rfl, by omega, by omega, h2.2.1, by omega, fun v3 M3 x0 x1 h3 => ?_⟩
  dsimp only
  obtain ⟨b, hb⟩ : ∃ b, (if 0 > c + e then 0 else c + e) + 1 + v3 = b := ⟨_, rfl⟩
  rw [hb, ← hB]
  clear hB B
  have hb1 : 1 ≤ b ∧ c + e < b ∧ b ≤ 3 * 10 ^ 29 + 2 := by split at hb <;> omega
  have G0 : 1 ≤ (Int.gcd b c : Int) := by
    have := Int.gcd_pos_of_ne_zero_right b (show c ≠ 0 by omega)
    omega
  have G1 : (Int.gcd b c : Int) ≤ c := Int.le_of_dvd (by omega) (Int.gcd_dvd_right b c)
  refine dSeq_open fun B hB => ?_
  walk_at "rd"
  refine ⟨b, c, rfl, ?_⟩
  dsimp only
  refine ⟨k, Int.gcd b c, _, rfl, by omega, by omega, h3.2.1, by omega, fun a M4 a0 a1 h4 => ?_⟩
  dsimp only
  rw [← hB]
  clear hB B
  have gg := ((h1.trans h2).trans h3).trans h4
  refine dSeq_open fun B hB => ?_
  obtain ⟨G, hG⟩ : ∃ G : Int, ((Int.gcd (Int.gcd a b : Int) c : Nat) : Int) = G := ⟨_, rfl⟩
  have Gp : 1 ≤ G := by
    have := Int.gcd_pos_of_ne_zero_right (Int.gcd a b : Int) (show c ≠ 0 by omega)
    omega
  have hGe : ∀ e : Int, (Int.gcd (Int.gcd a b : Int) (Int.gcd c e : Int) : Int) = (Int.gcd G e : Int) := fun e => by rw [← hG]; simp only [Int.gcd_assoc]
  refine dwhile_of (fun n r M' => M' = M4 ∧ ∃ e2 : Int, r = [some (.own k), some (.int f), some (.int g), some (.int c), some (.int e2), some (.int b), some (.int a)] ∧ e2 ≤ e ∧ e - e2 + (e2 - 1) % G = (e - 1) % G ∧ n = ((e2 - 1) % G).toNat) _ ⟨rfl, e, rfl, Int.le_refl _, by omega, rfl⟩ ?_
  rintro _ r M' ⟨rfl, e2, rfl, he2, hsum, rfl⟩
  walk_at "rd"
  refine ⟨a, b, rfl, ⟨c, e2, rfl, ⟨_, _, rfl, ?_⟩⟩⟩
  dsimp only
  rw [gNe_int, hGe]
  dsimp only
  have r0 := Int.emod_nonneg (e2 - 1) (show G ≠ 0 by omega)
  have r1 := Int.emod_lt_of_pos (e2 - 1) (show 0 < G by omega)
  have r2 := Int.emod_lt_of_pos (e - 1) (show 0 < G by omega)
  by_cases h : (Int.gcd G e2 : Int) = 1
  · rw [if_neg (by simp [h]), ← hB]
    clear hB B
    walk_at "rd"
    have hGc : G ≤ c := by rw [← hG]; exact Int.le_of_dvd (by omega) (Int.gcd_dvd_right _ c)
    have hcut : isCut a b c e2 = true := by
      simp only [isCut, Bool.and_eq_true, decide_eq_true_eq, beq_iff_eq]
      refine ⟨hb1.1, by omega, by omega, a0, a1, ?_⟩
      rw [← h, ← hG, Int.gcd_assoc a b c]
    have be2 : -(3 * 10 ^ 29) ≤ e2 ∧ e2 ≤ 10 ^ 29 := by omega
    have mm : meas4 b c e2 = e2 * e2 + 4 * (b * c) := by unfold meas4; grind
    have q1 : e2 * e2 ≤ (3 * 10 ^ 29) * (3 * 10 ^ 29) := by
      rcases (by omega : 0 ≤ e2 ∨ e2 ≤ 0) with h | h
      · exact Int.mul_le_mul (by omega) (by omega) h (by decide)
      · have : e2 * e2 = (0 - e2) * (0 - e2) := by grind
        rw [this]
        exact Int.mul_le_mul (by omega) (by omega) (by omega) (by decide)
    have q0 : 0 ≤ e2 * e2 := by rcases (by omega : 0 ≤ e2 ∨ e2 ≤ 0) with h | h; exact Int.mul_nonneg h h; exact Int.mul_nonneg_of_nonpos_of_nonpos h h
    have q2 : b * c ≤ (3 * 10 ^ 29 + 2) * 10 ^ 29 := Int.mul_le_mul hb1.2.2 (by omega) (by omega) (by decide)
    have q3 : 0 ≤ b * c := Int.mul_nonneg (by omega) (by omega)
    have e9 : (3 * 10 ^ 29 : Int) * (3 * 10 ^ 29) = 9 * 10 ^ 58 := by decide +kernel
    have e10 : ((3 * 10 ^ 29 + 2) * 10 ^ 29 : Int) ≤ 4 * 10 ^ 58 := by decide +kernel
    refine gg.rtq (q a b c e2 _ ⟨hcut, Bi.of_abs (4 * 10 ^ 29) (by omega) (by decide +kernel), Bi.of_abs (4 * 10 ^ 29) (by omega) (by decide +kernel), Bi.of_abs (4 * 10 ^ 29) (by omega) (by decide +kernel), Bi.of_abs (4 * 10 ^ 29) (by omega) (by decide +kernel), Bi.of_abs (10 ^ 60) (by omega) (by decide +kernel), by omega⟩ ⟨by omega, by split at hb <;> omega, by omega, by omega⟩ (gg.le (by omega)))
  · rw [if_pos (by simp [h])]
    have hr : (e2 - 1) % G ≠ 0 := fun hz => h (by
      obtain ⟨j, hj⟩ := Int.dvd_of_emod_eq_zero hz
      have d1 := Int.gcd_dvd_left G e2
      have d2 := Int.gcd_dvd_right G e2
      have d3 : ((Int.gcd G e2 : Nat) : Int) ∣ 1 := by
        have e1 : (1 : Int) = e2 - G * j := by omega
        rw [e1]
        exact Int.dvd_sub d2 (Int.dvd_trans d1 (Int.dvd_mul_right _ _))
      have := Int.le_of_dvd (by decide) d3
      have := Int.gcd_pos_of_ne_zero_left e2 (show G ≠ 0 by omega)
      omega)
    have hstep : (e2 - 1 - 1) % G = (e2 - 1) % G - 1 := by
      have h1 := Int.mul_ediv_add_emod (e2 - 1) G
      have e3 : e2 - 1 - 1 = ((e2 - 1) % G - 1) + G * ((e2 - 1) / G) := by omega
      rw [e3, Int.add_mul_emod_self_left]
      exact Int.emod_eq_of_lt (by omega) (by omega)
    exact ⟨((e2 - 1 - 1) % G).toNat, by omega, rfl, e2 - 1, rfl, by omega, by omega, rfl⟩
end DL
namespace DL
open PySem PySem.Spec PyProof.Rows L2
local macro_rules | `(tactic| walk_at "rd") => `(tactic| simp only [startD, List.map, List.replicate, List.length_cons, List.length_nil, List.append_eq, List.append_nil, List.nil_append, List.cons_append, Nat.reduceSub, Nat.reduceAdd, List.getElem?_cons_zero, List.getElem?_cons_succ, List.set_cons_zero, List.set_cons_succ,
  dC, dVar, dOp, dTru, gTru, tru, dChain, dAnd, dOr, dNot, dAndV, dOrV, dNotV, dIf, dNeg, gNeg, dNil, dCons, dTup, dLst, dOwn, gIx, rBin, gAdd, gCmpI, dCall, dCallK, dSeq, dNext, dDrop, dRet, dRetN, dIfS, dName, dGNil, dGCons, dGTup, dSub, gSetL, dAsg, dPar, dPar3, dAug, gIpI, dSeqI, gSeqI, dRngI, gRng1, gRng2, dCB, gAbs, gInt, gMax, gMin, gGcd, gLen, lenD, gIsi, tyM, tyD, dBits, gBits, dMet, gAppend, dPart, dNoPart, dSl, gSl_tup, gSl_lst, cut_1, dEnds, gIs, isB, dNever, dCallX, dRaise, dTry, dFld, dCallV, gLRng, gFrz, dFrz, dFor, dLc, wipeD, dYes,
  sizeLine_eq, Nat.reduceLeDiff, gEq_int, gNe_int, gEq_strs, gNe_strs, gIn_two, gRepr_bl, rs_lst, rs_tup, rs_scr, rs_int, atI_0, atI_1, atI_2, atI_3, atI_4, atI_5, ixN_30, ixN_31, ixN_32, gEq_bl, gNe_bl, decide_eq_true_eq, beq_iff_eq, Bool.not_eq_true', beq_eq_false_iff_ne, decide_eq_false_iff_not, Bool.not_true, Bool.not_false, if_true, if_false, Bool.false_eq_true, ite_true, ite_false, true_and, and_true, ne_eq, Bool.bne_false, Bool.bne_true, reduceCtorEq])
local macro_rules | `(tactic| walk_at "rh") => `(tactic| simp only [*, startD, List.map, List.replicate, List.length_cons, List.length_nil, List.append_eq, List.append_nil, List.nil_append, List.cons_append, Nat.reduceSub, Nat.reduceAdd, List.getElem?_cons_zero, List.getElem?_cons_succ, List.set_cons_zero, List.set_cons_succ,
  dC, dVar, dOp, dTru, gTru, tru, dChain, dAnd, dOr, dNot, dAndV, dOrV, dNotV, dIf, dNeg, gNeg, dNil, dCons, dTup, dLst, dOwn, gIx, rBin, gAdd, gCmpI, dCall, dCallK, dSeq, dNext, dDrop, dRet, dRetN, dIfS, dName, dGNil, dGCons, dGTup, dSub, gSetL, dAsg, dPar, dPar3, dAug, gIpI, dSeqI, gSeqI, dRngI, gRng1, gRng2, dCB, gAbs, gInt, gMax, gMin, gGcd, gLen, lenD, gIsi, tyM, tyD, dBits, gBits, dMet, gAppend, dPart, dNoPart, dSl, gSl_tup, gSl_lst, cut_1, dEnds, gIs, isB, dNever, dCallX, dRaise, dTry, dFld, dCallV, gLRng, gFrz, dFrz, dFor, dLc, wipeD, dYes,
  sizeLine_eq, Nat.reduceLeDiff, gEq_int, gNe_int, gEq_strs, gNe_strs, gIn_two, gRepr_bl, rs_lst, rs_tup, rs_scr, rs_int, atI_0, atI_1, atI_2, atI_3, atI_4, atI_5, ixN_30, ixN_31, ixN_32, gEq_bl, gNe_bl, decide_eq_true_eq, beq_iff_eq, Bool.not_eq_true', beq_eq_false_iff_ne, decide_eq_false_iff_not, Bool.not_true, Bool.not_false, if_true, if_false, Bool.false_eq_true, ite_true, ite_false, true_and, and_true, ne_eq, Bool.bne_false, Bool.bne_true, reduceCtorEq])
local macro_rules | `(tactic| walk_at "kb") => `(tactic| simp only [kb_NoneType_list, kb_bool_list, kb_int_list, kb_str_list, kb_tuple_list, kb_list_list, kb_dict_list, kb_NoneType_int, kb_bool_int, kb_int_int, kb_str_int, kb_tuple_int, kb_list_int, kb_dict_int, kb_NoneType_bool, kb_bool_bool, kb_int_bool, kb_str_bool, kb_tuple_bool, kb_list_bool, kb_dict_bool, kb_NoneType_tuple, kb_bool_tuple, kb_int_tuple, kb_str_tuple, kb_tuple_tuple, kb_list_tuple, kb_dict_tuple, if_true, if_false, Bool.false_eq_true, ite_true, ite_false, Bool.not_true, Bool.not_false])
/-! ### the outline -/
abbrev zT : D := T3 0 0 1
def cS (m e : Int) : D := rootN m e 1 2
def cR (m a e : Int) : D := rootN m (2 * a + e) 1 2
def cN (m e : Int) : D := rootN m (0 - e) (-1) 2
def cornD (m a b c e : Int) : List D := [.tup [zT, zT], .tup [cS m e, zT], .tup [T3 b 0 1, zT], .tup [T3 (a + b) 0 1, T3 c 0 1], .tup [cR m a e, T3 c 0 1], .tup [cR m a e, cR m c e], .tup [T3 a 0 1, cR m c e], .tup [T3 a 0 1, T3 c 0 1]]
/-! ### the law's own outline -/
/-- the difference, the sum of two places -/
def sp_ladded : DSp := fun ds M Q _ => ∃ (m : Int) (x y x' y' : D) (s X Y B X1 Y1 B1 X' Y' B' X1' Y1' B1' : Int) (nx nb : Nat), ds = [.int m, .tup [x, y], .tup [x', y'], .int s] ∧ 0 ≤ m ∧ Bi 200 m ∧ (s = 1 ∨ s = -1) ∧ nx ≤ 400 ∧ nb ≤ 400 ∧
  RV m nx nb x X Y B ∧ RV m nx nb y X1 Y1 B1 ∧ RV m nx nb x' X' Y' B' ∧ RV m nx nb y' X1' Y1' B1' ∧
  Q (.tup [rootN m (X * B' + s * X' * B) (Y * B' + s * Y' * B) (B * B'), rootN m (X1 * B1' + s * X1' * B1) (Y1 * B1' + s * Y1' * B1) (B1 * B1')]) M
theorem rd_l_added_a47b : ∀ ds M Q, ds.length = 4 → sp_ladded ds M Q DX0 → t_l_added_a47b sp_lplusT (dEnds M Q) (startD 6 ds) M := by
  rintro _ M Q - ⟨m, x, y, x', y', s, X, Y, B, X1, Y1, B1, X', Y', B', X1', Y1', B1', nx, nb, rfl, m0, bm, hs, hnx, hnb, hx, hy, hx', hy', q⟩
  unfold t_l_added_a47b
  walk_at "rd"
  have key : ∀ (u v : D) (X Y B X' Y' B' : Int), RV m nx nb u X Y B → RV m nx nb v X' Y' B' → ∀ Q : DQ, Q (rootN m (X * B' + s * X' * B) (Y * B' + s * Y' * B) (B * B')) M → sp_lplusT [.int m, u, v, .int s] M Q DX0 := fun u v X Y B X' Y' B' hu hv Q q => by
    rcases hs with rfl | rfl
    · refine lplusC m0 bm hu hv (fun d hd => ?_) (by omega)
      rw [hd.eq]
      have e1 : X * B' + X' * B = X * B' + 1 * X' * B := by grind
      have e2 : Y * B' + Y' * B = Y * B' + 1 * Y' * B := by grind
      rw [e1, e2]; exact q
    · refine lminusC m0 bm hu hv (fun d hd => ?_) (by omega)
      rw [hd.eq]
      have e1 : X * B' - X' * B = X * B' + -1 * X' * B := by grind
      have e2 : Y * B' - Y' * B = Y * B' + -1 * Y' * B := by grind
      rw [e1, e2]; exact q
  unfold gZipT
  dsimp only
  show lcW false [pairD x x', pairD y y'] _ _ _ _ _ _ _
  unfold pairD
  refine lcW_idx (ys := [rootN m (X * B' + s * X' * B) (Y * B' + s * Y' * B) (B * B'), rootN m (X1 * B1' + s * X1' * B1) (Y1 * B1' + s * Y1' * B1) (B1 * B1')]) rfl trivial (by rw [sizeLine_eq]; exact Nat.le_of_ble_eq_true rfl) (fun i d w hd hw Z N' hz => ?_) ?_
  · rcases (by have := (List.getElem?_eq_some_iff.mp hd).1; simp at this; omega : i = 0 ∨ i = 1) with rfl | rfl
    · cases hd
      cases hw
      walk_at "rd"
      exact key x x' X Y B X' Y' B' hx hx' _ hz
    · cases hd
      cases hw
      walk_at "rd"
      exact key y y' X1 Y1 B1 X1' Y1' B1' hy hy' _ hz
  unfold gTuple
  exact rtq q rfl
theorem RV.up {m X Y B : Int} {nx nb mx mb : Nat} {d : D} (h : RV m nx nb d X Y B) (h1 : nx ≤ mx := by decide) (h2 : nb ≤ mb := by decide) : RV m mx mb d X Y B := ⟨h.eq, h.b0, h.bx.up h1, h.bY.up h1, h.bB.up h2⟩
theorem b0 : Bi 100 0 := Bi.of_abs 0 (by decide) (by decide)
/-! ### the area -/
/-! ### less than -/
/-! ### all ends are one -/
/-! ### one cutting's outline is right -/
structure Sh4 (d : D) : Prop where
  f : fine 10 d = true
  l : lit 400 d = true
  w : wt 400 d ≤ 40000
theorem Sh4.shown {d : D} (h : Sh4 d) (M : Mem) : ∃ z, shwnZ (resD M d) = some z := by
  rw [resD_fine M 10 d h.f]
  obtain ⟨z, hz⟩ := shw_of 400 10 h.f h.l (by have := h.w; omega)
  exact ⟨z, shwnZ_of hz⟩
theorem lit4 {n : Nat} {i : Int} (h : Bi n i) (hn : n ≤ 399 := by decide) : lit 400 (.int i) = true := decide_eq_true (Nat.lt_of_lt_of_le (log2_of 399 (h.mono hn) (by decide)) (by decide))
/-- the triple of a value -/
theorem RV.shape {m X Y B : Int} {nx nb : Nat} {d : D} (h : RV m nx nb d X Y B) (m0 : 0 ≤ m) (hm : Bi 200 m) (h1 : nx ≤ 250 := by decide) (h2 : nb ≤ 250 := by decide) : ∃ t1 t2 t3 : Int, d = T3 t1 t2 t3 ∧ lit 400 (T3 t1 t2 t3) = true := by
  obtain ⟨t1, t2, t3, k, T⟩ := h.t3 m0 hm
  exact ⟨t1, t2, t3, T.eq, lit_cons (lit4 T.sz.1 (by omega)) (lit_cons (lit4 T.sz.2.1 (by omega)) (lit_cons (lit4 T.sz.2.2 (by omega)) rfl))⟩
theorem lit2 {x y : D} (h : lit 400 x = true) (g : lit 400 y = true) : lit 400 (.tup [x, y]) = true := lit_cons h (lit_cons g rfl)
theorem bc_pos {b c : Int} (k1 : 1 ≤ b) (k2 : 1 ≤ c) : 1 ≤ b * c := by
  have : 1 * 1 ≤ b * c := Int.mul_le_mul k1 k2 (by decide) (by omega)
  omega
theorem shown_same {d : D} (h : Sh4 d) : ∃ z, (∀ M, shwnZ (resD M d) = some z) ∧ ∀ (M : Mem) (k : Nat) (l : List D), d = .lst l → M[k]? = some (.lst l) → shwnZ (resD M (.own k)) = some z := by
  obtain ⟨z, hz⟩ := h.shown []
  rw [resD_fine [] 10 d h.f] at hz
  refine ⟨z, fun M => by rw [resD_fine M 10 d h.f]; exact hz, fun M k l e hk => ?_⟩
  subst e
  have : resD M (.own k) = .lst l := by simp only [resD, cellL, hk]
  rw [this]; exact hz
theorem gNe_str_same {z : Str} {M : Mem} {Q : DQ} (q : Q (.bl false) M) : gNe (.str z) (.str z) M Q := by rw [gNe_strs, str_self]; exact q
theorem gNe_int_same {i : Int} {M : Mem} {Q : DQ} (q : Q (.bl false) M) : gNe (.int i) (.int i) M Q := by rw [gNe_int]; simpa using q
/-! ### the law -/
theorem rnT {m x y b p q r : Int} (h1 : (rnX m x y).fdiv (rnC m x y b) = p) (h2 : (rnY m y).fdiv (rnC m x y b) = q) (h3 : b.fdiv (rnC m x y b) = r) : rootN m x y b = T3 p q r := by
  unfold rootN
  rw [h1, h2, h3]
theorem L3 : cR 17 1 (-1) = T3 1 1 2 := rnT (by decide +kernel) (by decide +kernel) (by decide +kernel)
theorem ck2 : CK 1 2 2 (-1) := ⟨by decide, Bi.of_abs 2 (by decide) (by decide), Bi.of_abs 2 (by decide) (by decide), Bi.of_abs 2 (by decide) (by decide), Bi.of_abs 2 (by decide) (by decide), Bi.of_abs 200 (by decide) (by decide), by decide⟩
end DL
namespace DL
open PySem PySem.Spec PyProof.Rows L2
local macro_rules | `(tactic| walk_at "rd") => `(tactic| simp only [startD, List.map, List.replicate, List.length_cons, List.length_nil, List.append_eq, List.append_nil, List.nil_append, List.cons_append, Nat.reduceSub, Nat.reduceAdd, List.getElem?_cons_zero, List.getElem?_cons_succ, List.set_cons_zero, List.set_cons_succ,
  dC, dVar, dOp, dTru, gTru, tru, dChain, dAnd, dOr, dNot, dAndV, dOrV, dNotV, dIf, dNeg, gNeg, dNil, dCons, dTup, dLst, dOwn, gIx, rBin, gAdd, gCmpI, dCall, dCallK, dSeq, dNext, dDrop, dRet, dRetN, dIfS, dName, dGNil, dGCons, dGTup, dSub, gSetL, dAsg, dPar, dPar3, dAug, gIpI, dSeqI, gSeqI, dRngI, gRng1, gRng2, dCB, gAbs, gInt, gMax, gMin, gGcd, gLen, lenD, gIsi, tyM, tyD, dBits, gBits, dMet, gAppend, dPart, dNoPart, dSl, gSl_tup, gSl_lst, cut_1, dEnds, gIs, isB, dNever, dCallX, dRaise, dTry, dFld, dCallV, gLRng, gFrz, dFrz, dFor, dLc, wipeD, dYes,
  sizeLine_eq, Nat.reduceLeDiff, gEq_int, gNe_int, gEq_strs, gNe_strs, gIn_two, gRepr_bl, rs_lst, rs_tup, rs_scr, rs_int, atI_0, atI_1, atI_2, atI_3, atI_4, atI_5, ixN_30, ixN_31, ixN_32, gEq_bl, gNe_bl, decide_eq_true_eq, beq_iff_eq, Bool.not_eq_true', beq_eq_false_iff_ne, decide_eq_false_iff_not, Bool.not_true, Bool.not_false, if_true, if_false, Bool.false_eq_true, ite_true, ite_false, true_and, and_true, ne_eq, Bool.bne_false, Bool.bne_true, reduceCtorEq])
local macro_rules | `(tactic| walk_at "rh") => `(tactic| simp only [*, startD, List.map, List.replicate, List.length_cons, List.length_nil, List.append_eq, List.append_nil, List.nil_append, List.cons_append, Nat.reduceSub, Nat.reduceAdd, List.getElem?_cons_zero, List.getElem?_cons_succ, List.set_cons_zero, List.set_cons_succ,
  dC, dVar, dOp, dTru, gTru, tru, dChain, dAnd, dOr, dNot, dAndV, dOrV, dNotV, dIf, dNeg, gNeg, dNil, dCons, dTup, dLst, dOwn, gIx, rBin, gAdd, gCmpI, dCall, dCallK, dSeq, dNext, dDrop, dRet, dRetN, dIfS, dName, dGNil, dGCons, dGTup, dSub, gSetL, dAsg, dPar, dPar3, dAug, gIpI, dSeqI, gSeqI, dRngI, gRng1, gRng2, dCB, gAbs, gInt, gMax, gMin, gGcd, gLen, lenD, gIsi, tyM, tyD, dBits, gBits, dMet, gAppend, dPart, dNoPart, dSl, gSl_tup, gSl_lst, cut_1, dEnds, gIs, isB, dNever, dCallX, dRaise, dTry, dFld, dCallV, gLRng, gFrz, dFrz, dFor, dLc, wipeD, dYes,
  sizeLine_eq, Nat.reduceLeDiff, gEq_int, gNe_int, gEq_strs, gNe_strs, gIn_two, gRepr_bl, rs_lst, rs_tup, rs_scr, rs_int, atI_0, atI_1, atI_2, atI_3, atI_4, atI_5, ixN_30, ixN_31, ixN_32, gEq_bl, gNe_bl, decide_eq_true_eq, beq_iff_eq, Bool.not_eq_true', beq_eq_false_iff_ne, decide_eq_false_iff_not, Bool.not_true, Bool.not_false, if_true, if_false, Bool.false_eq_true, ite_true, ite_false, true_and, and_true, ne_eq, Bool.bne_false, Bool.bne_true, reduceCtorEq])
local macro_rules | `(tactic| walk_at "kb") => `(tactic| simp only [kb_NoneType_list, kb_bool_list, kb_int_list, kb_str_list, kb_tuple_list, kb_list_list, kb_dict_list, kb_NoneType_int, kb_bool_int, kb_int_int, kb_str_int, kb_tuple_int, kb_list_int, kb_dict_int, kb_NoneType_bool, kb_bool_bool, kb_int_bool, kb_str_bool, kb_tuple_bool, kb_list_bool, kb_dict_bool, kb_NoneType_tuple, kb_bool_tuple, kb_int_tuple, kb_str_tuple, kb_tuple_tuple, kb_list_tuple, kb_dict_tuple, if_true, if_false, Bool.false_eq_true, ite_true, ite_false, Bool.not_true, Bool.not_false])
/-! RdHH: paths; division, vectors, bands -/
/-! ### the vectors of paths -/
/-! ### a vector, scaled -/
def sp_lscaled : DSp := fun ds M Q _ => ∃ (m : Int) (x y z : D) (X Y B X' Y' B' X1 Y1 B1 : Int) (nx nb mx mb : Nat), ds = [.int m, x, .tup [y, z]] ∧ 0 ≤ m ∧ Bi 200 m ∧ nx ≤ 1690 ∧ nb ≤ 1800 ∧ mx ≤ 1690 ∧ mb ≤ 1800 ∧ RV m nx nb x X Y B ∧ RV m mx mb y X' Y' B' ∧ RV m mx mb z X1 Y1 B1 ∧
  Q (.tup [rootN m (X * X' + m * Y * Y') (X * Y' + Y * X') (B * B'), rootN m (X * X1 + m * Y * Y1) (X * Y1 + Y * X1) (B * B1)]) M
theorem rd_l_scaled_08a4 : ∀ ds M Q, ds.length = 3 → sp_lscaled ds M Q DX0 → t_l_scaled_08a4 sp_times_by (dEnds M Q) (startD 4 ds) M := by
  rintro _ M Q - ⟨m, x, y, z, X, Y, B, X', Y', B', X1, Y1, B1, nx, nb, mx, mb, rfl, m0, bm, h1, h2, h3, h4, hx, hy, hz, q⟩
  unfold t_l_scaled_08a4
  walk_at "rd"
  refine lcW_idx (ys := [rootN m (X * X' + m * Y * Y') (X * Y' + Y * X') (B * B'), rootN m (X * X1 + m * Y * Y1) (X * Y1 + Y * X1) (B * B1)]) rfl trivial (by rw [sizeLine_eq]; exact Nat.le_of_ble_eq_true rfl) (fun i d w hd hw Z N' hz' => ?_) ?_
  · walk_at "rd"
    rcases (by have := (List.getElem?_eq_some_iff.mp hd).1; simp only [List.length_cons, List.length_nil] at this; omega : i = 0 ∨ i = 1) with rfl | rfl
    · cases hd
      cases hw
      exact timesC m0 bm hx hy (fun d hd => by rw [hd.eq]; exact hz') ⟨h1, h2, h3, h4⟩
    · cases hd
      cases hw
      exact timesC m0 bm hx hz (fun d hd => by rw [hd.eq]; exact hz') ⟨h1, h2, h3, h4⟩
  · unfold gTuple
    exact rtq q (by rfl)
/-! ### both bands -/
/-- a cutting whose measure has up to 96 bits -/
structure CS (a b c e : Int) : Prop where
  cut : isCut a b c e = true
  sm : Bi 96 (meas4 b c e)
theorem CS.cb {a b c e : Int} (h : CS a b c e) : CutB 96 a b c e := cut_bi h.cut h.sm
theorem CS.ck {a b c e : Int} (h : CS a b c e) : CK a b c e := by
  obtain ⟨h1, h2, h3, h4⟩ := h.cb
  exact ⟨h.cut, h1.mono, h2.mono, h3.mono, h4.mono, h.sm.mono, by have := cut_le h.cut; omega⟩
/-! ### the law's own way to a common divisor, to what a deed makes -/
/-! ### a drawn deed -/
end DL
namespace DL
/-! MK: two columns led down by sums of one another -/
end DL
namespace DL
/-! ML: the table of a deed; plain -/
end DL
namespace DL
open PySem PySem.Spec PyProof.Rows L2
local macro_rules | `(tactic| walk_at "rd") => `(tactic| simp only [startD, List.map, List.replicate, List.length_cons, List.length_nil, List.append_eq, List.append_nil, List.nil_append, List.cons_append, Nat.reduceSub, Nat.reduceAdd, List.getElem?_cons_zero, List.getElem?_cons_succ, List.set_cons_zero, List.set_cons_succ,
  dC, dVar, dOp, dTru, gTru, tru, dChain, dAnd, dOr, dNot, dAndV, dOrV, dNotV, dIf, dNeg, gNeg, dNil, dCons, dTup, dLst, dOwn, gIx, rBin, gAdd, gCmpI, dCall, dCallK, dSeq, dNext, dDrop, dRet, dRetN, dIfS, dName, dGNil, dGCons, dGTup, dSub, gSetL, dAsg, dPar, dPar3, dAug, gIpI, dSeqI, gSeqI, dRngI, gRng1, gRng2, dCB, gAbs, gInt, gMax, gMin, gGcd, gLen, lenD, gIsi, tyM, tyD, dBits, gBits, dMet, gAppend, dPart, dNoPart, dSl, gSl_tup, gSl_lst, cut_1, dEnds, gIs, isB, dNever, dCallX, dRaise, dTry, dFld, dCallV, gLRng, gFrz, dFrz, dFor, dLc, wipeD, dYes,
  sizeLine_eq, Nat.reduceLeDiff, gEq_int, gNe_int, gEq_strs, gNe_strs, gIn_two, gRepr_bl, rs_lst, rs_tup, rs_scr, rs_int, atI_0, atI_1, atI_2, atI_3, atI_4, atI_5, ixN_30, ixN_31, ixN_32, gEq_bl, gNe_bl, decide_eq_true_eq, beq_iff_eq, Bool.not_eq_true', beq_eq_false_iff_ne, decide_eq_false_iff_not, Bool.not_true, Bool.not_false, if_true, if_false, Bool.false_eq_true, ite_true, ite_false, true_and, and_true, ne_eq, Bool.bne_false, Bool.bne_true, reduceCtorEq])
local macro_rules | `(tactic| walk_at "rh") => `(tactic| simp only [*, startD, List.map, List.replicate, List.length_cons, List.length_nil, List.append_eq, List.append_nil, List.nil_append, List.cons_append, Nat.reduceSub, Nat.reduceAdd, List.getElem?_cons_zero, List.getElem?_cons_succ, List.set_cons_zero, List.set_cons_succ,
  dC, dVar, dOp, dTru, gTru, tru, dChain, dAnd, dOr, dNot, dAndV, dOrV, dNotV, dIf, dNeg, gNeg, dNil, dCons, dTup, dLst, dOwn, gIx, rBin, gAdd, gCmpI, dCall, dCallK, dSeq, dNext, dDrop, dRet, dRetN, dIfS, dName, dGNil, dGCons, dGTup, dSub, gSetL, dAsg, dPar, dPar3, dAug, gIpI, dSeqI, gSeqI, dRngI, gRng1, gRng2, dCB, gAbs, gInt, gMax, gMin, gGcd, gLen, lenD, gIsi, tyM, tyD, dBits, gBits, dMet, gAppend, dPart, dNoPart, dSl, gSl_tup, gSl_lst, cut_1, dEnds, gIs, isB, dNever, dCallX, dRaise, dTry, dFld, dCallV, gLRng, gFrz, dFrz, dFor, dLc, wipeD, dYes,
  sizeLine_eq, Nat.reduceLeDiff, gEq_int, gNe_int, gEq_strs, gNe_strs, gIn_two, gRepr_bl, rs_lst, rs_tup, rs_scr, rs_int, atI_0, atI_1, atI_2, atI_3, atI_4, atI_5, ixN_30, ixN_31, ixN_32, gEq_bl, gNe_bl, decide_eq_true_eq, beq_iff_eq, Bool.not_eq_true', beq_eq_false_iff_ne, decide_eq_false_iff_not, Bool.not_true, Bool.not_false, if_true, if_false, Bool.false_eq_true, ite_true, ite_false, true_and, and_true, ne_eq, Bool.bne_false, Bool.bne_true, reduceCtorEq])
local macro_rules | `(tactic| walk_at "kb") => `(tactic| simp only [kb_NoneType_list, kb_bool_list, kb_int_list, kb_str_list, kb_tuple_list, kb_list_list, kb_dict_list, kb_NoneType_int, kb_bool_int, kb_int_int, kb_str_int, kb_tuple_int, kb_list_int, kb_dict_int, kb_NoneType_bool, kb_bool_bool, kb_int_bool, kb_str_bool, kb_tuple_bool, kb_list_bool, kb_dict_bool, kb_NoneType_tuple, kb_bool_tuple, kb_int_tuple, kb_str_tuple, kb_tuple_tuple, kb_list_tuple, kb_dict_tuple, if_true, if_false, Bool.false_eq_true, ite_true, ite_false, Bool.not_true, Bool.not_false])
/-! RdII: the table of a deed -/
theorem Bi.btw {n : Nat} {x y : Int} (h : Bi n y) (h0 : 0 ≤ x) (h1 : x < y) : Bi n x := by unfold Bi at *; omega
theorem Bi.ngt {n : Nat} {x : Int} (h : Bi n x) : Bi n (-x) := by unfold Bi at *; omega
/-! ### turned about -/
/-! ### the table of a deed -/
end DL
namespace DL
open PySem PySem.Spec PyProof.Rows L2
local macro_rules | `(tactic| walk_at "rd") => `(tactic| simp only [startD, List.map, List.replicate, List.length_cons, List.length_nil, List.append_eq, List.append_nil, List.nil_append, List.cons_append, Nat.reduceSub, Nat.reduceAdd, List.getElem?_cons_zero, List.getElem?_cons_succ, List.set_cons_zero, List.set_cons_succ,
  dC, dVar, dOp, dTru, gTru, tru, dChain, dAnd, dOr, dNot, dAndV, dOrV, dNotV, dIf, dNeg, gNeg, dNil, dCons, dTup, dLst, dOwn, gIx, rBin, gAdd, gCmpI, dCall, dCallK, dSeq, dNext, dDrop, dRet, dRetN, dIfS, dName, dGNil, dGCons, dGTup, dSub, gSetL, dAsg, dPar, dPar3, dAug, gIpI, dSeqI, gSeqI, dRngI, gRng1, gRng2, dCB, gAbs, gInt, gMax, gMin, gGcd, gLen, lenD, gIsi, tyM, tyD, dBits, gBits, dMet, gAppend, dPart, dNoPart, dSl, gSl_tup, gSl_lst, cut_1, dEnds, gIs, isB, dNever, dCallX, dRaise, dTry, dFld, dCallV, gLRng, gFrz, dFrz, dFor, dLc, wipeD, dYes,
  sizeLine_eq, Nat.reduceLeDiff, gEq_int, gNe_int, gEq_strs, gNe_strs, gIn_two, gRepr_bl, rs_lst, rs_tup, rs_scr, rs_int, atI_0, atI_1, atI_2, atI_3, atI_4, atI_5, ixN_30, ixN_31, ixN_32, gEq_bl, gNe_bl, decide_eq_true_eq, beq_iff_eq, Bool.not_eq_true', beq_eq_false_iff_ne, decide_eq_false_iff_not, Bool.not_true, Bool.not_false, if_true, if_false, Bool.false_eq_true, ite_true, ite_false, true_and, and_true, ne_eq, Bool.bne_false, Bool.bne_true, reduceCtorEq])
local macro_rules | `(tactic| walk_at "rh") => `(tactic| simp only [*, startD, List.map, List.replicate, List.length_cons, List.length_nil, List.append_eq, List.append_nil, List.nil_append, List.cons_append, Nat.reduceSub, Nat.reduceAdd, List.getElem?_cons_zero, List.getElem?_cons_succ, List.set_cons_zero, List.set_cons_succ,
  dC, dVar, dOp, dTru, gTru, tru, dChain, dAnd, dOr, dNot, dAndV, dOrV, dNotV, dIf, dNeg, gNeg, dNil, dCons, dTup, dLst, dOwn, gIx, rBin, gAdd, gCmpI, dCall, dCallK, dSeq, dNext, dDrop, dRet, dRetN, dIfS, dName, dGNil, dGCons, dGTup, dSub, gSetL, dAsg, dPar, dPar3, dAug, gIpI, dSeqI, gSeqI, dRngI, gRng1, gRng2, dCB, gAbs, gInt, gMax, gMin, gGcd, gLen, lenD, gIsi, tyM, tyD, dBits, gBits, dMet, gAppend, dPart, dNoPart, dSl, gSl_tup, gSl_lst, cut_1, dEnds, gIs, isB, dNever, dCallX, dRaise, dTry, dFld, dCallV, gLRng, gFrz, dFrz, dFor, dLc, wipeD, dYes,
  sizeLine_eq, Nat.reduceLeDiff, gEq_int, gNe_int, gEq_strs, gNe_strs, gIn_two, gRepr_bl, rs_lst, rs_tup, rs_scr, rs_int, atI_0, atI_1, atI_2, atI_3, atI_4, atI_5, ixN_30, ixN_31, ixN_32, gEq_bl, gNe_bl, decide_eq_true_eq, beq_iff_eq, Bool.not_eq_true', beq_eq_false_iff_ne, decide_eq_false_iff_not, Bool.not_true, Bool.not_false, if_true, if_false, Bool.false_eq_true, ite_true, ite_false, true_and, and_true, ne_eq, Bool.bne_false, Bool.bne_true, reduceCtorEq])
local macro_rules | `(tactic| walk_at "kb") => `(tactic| simp only [kb_NoneType_list, kb_bool_list, kb_int_list, kb_str_list, kb_tuple_list, kb_list_list, kb_dict_list, kb_NoneType_int, kb_bool_int, kb_int_int, kb_str_int, kb_tuple_int, kb_list_int, kb_dict_int, kb_NoneType_bool, kb_bool_bool, kb_int_bool, kb_str_bool, kb_tuple_bool, kb_list_bool, kb_dict_bool, kb_NoneType_tuple, kb_bool_tuple, kb_int_tuple, kb_str_tuple, kb_tuple_tuple, kb_list_tuple, kb_dict_tuple, if_true, if_false, Bool.false_eq_true, ite_true, ite_false, Bool.not_true, Bool.not_false])
/-! RdJJ: the change of a deed -/
/-! ### vectors, looked at -/
/-! ### what a change leads a vector to -/
end DL
namespace DL
open PySem PySem.Spec PyProof.Rows L2
local macro_rules | `(tactic| walk_at "rd") => `(tactic| simp only [startD, List.map, List.replicate, List.length_cons, List.length_nil, List.append_eq, List.append_nil, List.nil_append, List.cons_append, Nat.reduceSub, Nat.reduceAdd, List.getElem?_cons_zero, List.getElem?_cons_succ, List.set_cons_zero, List.set_cons_succ,
  dC, dVar, dOp, dTru, gTru, tru, dChain, dAnd, dOr, dNot, dAndV, dOrV, dNotV, dIf, dNeg, gNeg, dNil, dCons, dTup, dLst, dOwn, gIx, rBin, gAdd, gCmpI, dCall, dCallK, dSeq, dNext, dDrop, dRet, dRetN, dIfS, dName, dGNil, dGCons, dGTup, dSub, gSetL, dAsg, dPar, dPar3, dAug, gIpI, dSeqI, gSeqI, dRngI, gRng1, gRng2, dCB, gAbs, gInt, gMax, gMin, gGcd, gLen, lenD, gIsi, tyM, tyD, dBits, gBits, dMet, gAppend, dPart, dNoPart, dSl, gSl_tup, gSl_lst, cut_1, dEnds, gIs, isB, dNever, dCallX, dRaise, dTry, dFld, dCallV, gLRng, gFrz, dFrz, dFor, dLc, wipeD, dYes,
  sizeLine_eq, Nat.reduceLeDiff, gEq_int, gNe_int, gEq_strs, gNe_strs, gIn_two, gRepr_bl, rs_lst, rs_tup, rs_scr, rs_int, atI_0, atI_1, atI_2, atI_3, atI_4, atI_5, ixN_30, ixN_31, ixN_32, gEq_bl, gNe_bl, decide_eq_true_eq, beq_iff_eq, Bool.not_eq_true', beq_eq_false_iff_ne, decide_eq_false_iff_not, Bool.not_true, Bool.not_false, if_true, if_false, Bool.false_eq_true, ite_true, ite_false, true_and, and_true, ne_eq, Bool.bne_false, Bool.bne_true, reduceCtorEq])
local macro_rules | `(tactic| walk_at "rh") => `(tactic| simp only [*, startD, List.map, List.replicate, List.length_cons, List.length_nil, List.append_eq, List.append_nil, List.nil_append, List.cons_append, Nat.reduceSub, Nat.reduceAdd, List.getElem?_cons_zero, List.getElem?_cons_succ, List.set_cons_zero, List.set_cons_succ,
  dC, dVar, dOp, dTru, gTru, tru, dChain, dAnd, dOr, dNot, dAndV, dOrV, dNotV, dIf, dNeg, gNeg, dNil, dCons, dTup, dLst, dOwn, gIx, rBin, gAdd, gCmpI, dCall, dCallK, dSeq, dNext, dDrop, dRet, dRetN, dIfS, dName, dGNil, dGCons, dGTup, dSub, gSetL, dAsg, dPar, dPar3, dAug, gIpI, dSeqI, gSeqI, dRngI, gRng1, gRng2, dCB, gAbs, gInt, gMax, gMin, gGcd, gLen, lenD, gIsi, tyM, tyD, dBits, gBits, dMet, gAppend, dPart, dNoPart, dSl, gSl_tup, gSl_lst, cut_1, dEnds, gIs, isB, dNever, dCallX, dRaise, dTry, dFld, dCallV, gLRng, gFrz, dFrz, dFor, dLc, wipeD, dYes,
  sizeLine_eq, Nat.reduceLeDiff, gEq_int, gNe_int, gEq_strs, gNe_strs, gIn_two, gRepr_bl, rs_lst, rs_tup, rs_scr, rs_int, atI_0, atI_1, atI_2, atI_3, atI_4, atI_5, ixN_30, ixN_31, ixN_32, gEq_bl, gNe_bl, decide_eq_true_eq, beq_iff_eq, Bool.not_eq_true', beq_eq_false_iff_ne, decide_eq_false_iff_not, Bool.not_true, Bool.not_false, if_true, if_false, Bool.false_eq_true, ite_true, ite_false, true_and, and_true, ne_eq, Bool.bne_false, Bool.bne_true, reduceCtorEq])
local macro_rules | `(tactic| walk_at "kb") => `(tactic| simp only [kb_NoneType_list, kb_bool_list, kb_int_list, kb_str_list, kb_tuple_list, kb_list_list, kb_dict_list, kb_NoneType_int, kb_bool_int, kb_int_int, kb_str_int, kb_tuple_int, kb_list_int, kb_dict_int, kb_NoneType_bool, kb_bool_bool, kb_int_bool, kb_str_bool, kb_tuple_bool, kb_list_bool, kb_dict_bool, kb_NoneType_tuple, kb_bool_tuple, kb_int_tuple, kb_str_tuple, kb_tuple_tuple, kb_list_tuple, kb_dict_tuple, if_true, if_false, Bool.false_eq_true, ite_true, ite_false, Bool.not_true, Bool.not_false])
/-! RdXX: numbers (P + Q side) / N over a cutting: signs, sums, products by quotients -/
/-- X + Y root m is above 0 -/
def PosR (m X Y : Int) : Prop := (0 ≤ X ∧ 0 ≤ Y ∧ (0 < X ∨ 0 < Y)) ∨ (0 < X ∧ Y < 0 ∧ m * (Y * Y) < X * X) ∨ (X < 0 ∧ 0 < Y ∧ X * X < m * (Y * Y))
theorem abs_lt_sq {x y : Int} (hx : 0 ≤ x) (hy : 0 ≤ y) (h : x * x < y * y) : x < y := by
  rcases (by omega : x < y ∨ y ≤ x) with r | r
  · exact r
  · have := Int.mul_le_mul r r hy hx
    omega
theorem pos_root {m r X Y : Int} (hr : r * r = m) (r1 : 1 ≤ r) (h : PosR m X Y) : 0 < X + Y * r := by
  rcases h with ⟨h1, h2, h3⟩ | ⟨h1, h2, h3⟩ | ⟨h1, h2, h3⟩
  · have h4 : 0 ≤ Y * r := Int.mul_nonneg h2 (by omega)
    rcases h3 with h3 | h3
    · omega
    · have : 0 < Y * r := Int.mul_pos h3 (by omega)
      omega
  · have h4 : 0 ≤ -Y * r := Int.mul_nonneg (by omega) (by omega)
    have h5 : (-Y * r) * (-Y * r) = m * (Y * Y) := by rw [← hr]; grind
    have := abs_lt_sq (y := X) h4 (by omega) (by rw [h5]; exact h3)
    rw [Int.neg_mul] at this
    omega
  · have h4 : 0 ≤ Y * r := Int.mul_nonneg (by omega) (by omega)
    have h5 : (Y * r) * (Y * r) = m * (Y * Y) := by rw [← hr]; grind
    have := abs_lt_sq (x := -X) (show 0 ≤ -X by omega) h4 (by rw [h5, Int.neg_mul_neg]; exact h3)
    omega
theorem sideV_pos {m X Y : Int} (hm : 1 ≤ m) (h : PosR m X Y) : sideV m (rnX m X Y) (rnY m Y) = 1 := by
  unfold rnX rnY
  by_cases hq : isSq m
  · rw [if_pos hq, if_pos hq]
    have hq' : isq m * isq m = m := hq
    have r0 := isq_nn m
    have r1 : 1 ≤ isq m := by
      rcases (by omega : 1 ≤ isq m ∨ isq m = 0) with z | z
      · exact z
      · rw [z] at hq'; omega
    have := pos_root hq' r1 h
    unfold sideV
    rw [if_pos ⟨by omega, by decide⟩, if_pos (.inl this)]
  · rw [if_neg hq, if_neg hq]
    unfold sideV
    rw [Int.mul_assoc m Y Y]
    rcases h with ⟨h1, h2, h3⟩ | ⟨h1, h2, h3⟩ | ⟨h1, h2, h3⟩
    · rw [if_pos ⟨h1, h2⟩, if_pos h3]
    · rw [if_neg (by omega), if_neg (by omega), if_pos h1, if_pos (by omega)]
    · rw [if_neg (by omega), if_neg (by omega), if_neg (by omega), if_pos (by omega)]
theorem sideV_neg {m X Y : Int} (hm : 1 ≤ m) (h : PosR m (-X) (-Y)) : sideV m (rnX m X Y) (rnY m Y) = -1 := by
  unfold rnX rnY
  by_cases hq : isSq m
  · rw [if_pos hq, if_pos hq]
    have hq' : isq m * isq m = m := hq
    have r0 := isq_nn m
    have r1 : 1 ≤ isq m := by
      rcases (by omega : 1 ≤ isq m ∨ isq m = 0) with z | z
      · exact z
      · rw [z] at hq'; omega
    have := pos_root hq' r1 h
    rw [Int.neg_mul] at this
    unfold sideV
    rw [if_neg (by omega), if_pos ⟨by omega, by decide⟩]
  · rw [if_neg hq, if_neg hq]
    unfold sideV
    rw [Int.mul_assoc m Y Y]
    unfold PosR at h
    rw [Int.neg_mul_neg, Int.neg_mul_neg] at h
    rcases h with ⟨h1, h2, h3⟩ | ⟨h1, h2, h3⟩ | ⟨h1, h2, h3⟩
    · rw [if_neg (by omega), if_pos ⟨by omega, by omega⟩]
    · rw [if_neg (by omega), if_neg (by omega), if_neg (by omega), if_neg (by omega)]
    · rw [if_neg (by omega), if_neg (by omega), if_pos (by omega), if_neg (by omega)]
theorem sideV_zero {m : Int} : sideV m (rnX m 0 0) (rnY m 0) = 0 := by
  unfold rnX rnY
  rw [Int.zero_mul, Int.zero_add]
  simp only [ite_self]
  rfl
/-- P + Q side is above 0, seen by the side's bounds 0 and b -/
def SP (b P Q : Int) : Prop := (0 ≤ P ∧ 0 ≤ Q ∧ (0 < P ∨ 0 < Q)) ∨ (Q < 0 ∧ 0 ≤ P + Q * b)
theorem sp_pos {b c e m P Q : Int} (k1 : 1 ≤ b) (k2 : 1 ≤ c) (k3 : c + e < b) (hm : meas4 b c e = m) (h : SP b P Q) : PosR m (2 * P + Q * e) Q := by
  have em : m = e * e + 4 * (b * c) := by rw [← hm]; unfold meas4; grind
  have hbc := bc_pos k1 k2
  rcases h with ⟨h1, h2, h3⟩ | ⟨h1, h2⟩
  · rcases (by omega : Q = 0 ∨ 0 < Q) with z | z
    · subst z
      rw [Int.zero_mul, Int.add_zero]
      exact .inl ⟨by omega, by omega, .inl (by omega)⟩
    · rcases (by omega : 0 ≤ 2 * P + Q * e ∨ 2 * P + Q * e < 0) with y | y
      · exact .inl ⟨y, by omega, .inr z⟩
      · refine .inr (.inr ⟨y, z, ?_⟩)
        have h4 : -(2 * P + Q * e) ≤ -(Q * e) := by omega
        have h5 := Int.mul_le_mul h4 h4 (by omega) (by omega)
        rw [Int.neg_mul_neg, Int.neg_mul_neg] at h5
        have h6 : m * (Q * Q) = Q * e * (Q * e) + 4 * (b * c) * (Q * Q) := by rw [em]; grind
        have h7 : 0 < 4 * (b * c) * (Q * Q) := Int.mul_pos (by omega) (Int.mul_pos z z)
        omega
  · right; left
    have hb2 : 1 ≤ b * (b - e - c) := bc_pos k1 (by omega)
    have q0 : 0 < -Q := by omega
    have h3 : -Q * (2 * b - e) ≤ 2 * P + Q * e := by
      have : -Q * (2 * b - e) = Q * e - 2 * (Q * b) := by grind
      omega
    have h4 : 0 < -Q * (2 * b - e) := Int.mul_pos q0 (by omega)
    refine ⟨by omega, h1, ?_⟩
    have h5 := Int.mul_le_mul h3 h3 (by omega) (by omega)
    have h6 : (-Q * (2 * b - e)) * (-Q * (2 * b - e)) = m * (Q * Q) + 4 * (b * (b - e - c)) * (Q * Q) := by rw [em]; grind
    have h7 : 0 < Q * Q := by
      have := Int.mul_pos q0 q0
      rwa [Int.neg_mul_neg] at this
    have h8 : 0 < 4 * (b * (b - e - c)) * (Q * Q) := Int.mul_pos (by omega) h7
    omega
/-- the sign of P + Q side -/
def Sg (b P Q s : Int) : Prop := (s = 1 ∧ SP b P Q) ∨ (s = 0 ∧ P = 0 ∧ Q = 0) ∨ (s = -1 ∧ SP b (-P) (-Q))
theorem sg_side {b c e m P Q s : Int} (k1 : 1 ≤ b) (k2 : 1 ≤ c) (k3 : c + e < b) (hm : meas4 b c e = m) (h : Sg b P Q s) : sideV m (rnX m (2 * P + Q * e) Q) (rnY m Q) = s := by
  have m1 : 1 ≤ m := by
    have em : m = e * e + 4 * (b * c) := by rw [← hm]; unfold meas4; grind
    have hbc := bc_pos k1 k2
    have he : 0 ≤ e * e := by rcases (by omega : 0 ≤ e ∨ e ≤ 0) with h | h; exact Int.mul_nonneg h h; exact Int.mul_nonneg_of_nonpos_of_nonpos h h
    omega
  rcases h with ⟨rfl, h⟩ | ⟨rfl, rfl, rfl⟩ | ⟨rfl, h⟩
  · exact sideV_pos m1 (sp_pos k1 k2 k3 hm h)
  · rw [Int.zero_mul, Int.mul_zero, Int.add_zero]; exact sideV_zero
  · refine sideV_neg m1 ?_
    have := sp_pos k1 k2 k3 hm h
    rwa [show 2 * -P + -Q * e = -(2 * P + Q * e) by rw [Int.neg_mul]; omega] at this
/-! ### numbers -/
structure NV (m e : Int) (k : Nat) (d : D) (P Q N : Int) : Prop where
  eq : d = rootN m (2 * P + Q * e) Q (2 * N)
  n0 : 0 < N
  bP : Bi k P
  bQ : Bi k Q
  bN : Bi k N
theorem NV.rv {m e P Q N : Int} {k : Nat} {d : D} (h : NV m e k d P Q N) (be : Bi 100 e) : RV m (k + 102) (k + 2) d (2 * P + Q * e) Q (2 * N) := by
  have n0 := h.n0
  have b2 : Bi 2 2 := Bi.of_abs 2 (by decide) (by decide)
  refine ⟨h.eq, by omega, ?_, h.bQ.up (by omega), (b2.mul h.bN).up (by omega)⟩
  exact ((b2.mul h.bP).up (by omega : 2 + k ≤ k + 101)).add ((h.bQ.mul be).up (by omega))
theorem NV.of {m e X Y B P Q N : Int} {nx nb k : Nat} {d : D} (h : RV m nx nb d X Y B) (h1 : X * (2 * N) = (2 * P + Q * e) * B) (h2 : Y * (2 * N) = Q * B) (n0 : 0 < N) (bP : Bi k P) (bQ : Bi k Q) (bN : Bi k N) : NV m e k d P Q N :=
  ⟨h.eq.trans (rn_eq h.b0 (by omega) h1 h2), n0, bP, bQ, bN⟩
theorem NV.up {m e P Q N : Int} {k l : Nat} {d : D} (h : NV m e k d P Q N) (hk : k ≤ l) : NV m e l d P Q N := ⟨h.eq, h.n0, h.bP.up hk, h.bQ.up hk, h.bN.up hk⟩
theorem NV.same {m e P Q N P' Q' N' : Int} {k l : Nat} {d d' : D} (h : NV m e k d P Q N) (h' : NV m e l d' P' Q' N') (h1 : P * N' = P' * N) (h2 : Q * N' = Q' * N) : d = d' := by
  have n1 := h.n0
  have n2 := h'.n0
  rw [h.eq, h'.eq]
  refine rn_eq (by omega) (by omega) ?_ ?_
  · have : (2 * P + Q * e) * (2 * N') = 2 * (2 * (P * N') + Q * N' * e) := by grind
    rw [this, h1, h2]; grind
  · have : Q * (2 * N') = 2 * (Q * N') := by grind
    rw [this, h2]; grind
theorem nv_int {m e i : Int} {k : Nat} (h : Bi k i) (hk : 1 ≤ k) : NV m e k (T3 i 0 1) i 0 1 := by
  have b1 : Bi k 1 := (Bi.of_abs 1 (by decide) (by decide) : Bi 1 1).up hk
  exact NV.of (rv_int h) (by grind) (by grind) (by decide) h (by unfold Bi; exact Nat.pow_pos (by decide)) b1
section
variable {a b c e m P Q N P' Q' N' P2 Q2 N2 : Int} {k l : Nat} {x y : D} {M : Mem} {Qc : DQ} {E : DX}
theorem nminusC (ck : CK a b c e) (hm : meas4 b c e = m) (hx : NV m e k x P Q N) (hy : NV m e k y P' Q' N') (P2 Q2 N2 : Int) (h1 : P2 * (N * N') = (P * N' - P' * N) * N2) (h2 : Q2 * (N * N') = (Q * N' - Q' * N) * N2) (n2 : 0 < N2)
    (bP : Bi l P2) (bQ : Bi l Q2) (bN : Bi l N2) (q : ∀ d, NV m e l d P2 Q2 N2 → Qc d M) (hk : k ≤ 1500 := by decide) : sp_minus_by [.int m, x, y] M Qc E :=
  minusC (by rw [← hm]; exact ck.m0) (by rw [← hm]; exact ck.bm) (hx.rv ck.be) (hy.rv ck.be) (fun d hd => q d (NV.of hd (by
    have e1 : ((2 * P + Q * e) * (2 * N') - (2 * P' + Q' * e) * (2 * N)) * (2 * N2) = 4 * (2 * ((P * N' - P' * N) * N2) + (Q * N' - Q' * N) * N2 * e) := by grind
    rw [e1, ← h1, ← h2]; grind) (by
    have e1 : (Q * (2 * N') - Q' * (2 * N)) * (2 * N2) = 4 * ((Q * N' - Q' * N) * N2) := by grind
    rw [e1, ← h2]; grind) n2 bP bQ bN)) ⟨by omega, by omega, by omega, by omega⟩
theorem nplusC (ck : CK a b c e) (hm : meas4 b c e = m) (hx : NV m e k x P Q N) (hy : NV m e k y P' Q' N') (P2 Q2 N2 : Int) (h1 : P2 * (N * N') = (P * N' + P' * N) * N2) (h2 : Q2 * (N * N') = (Q * N' + Q' * N) * N2) (n2 : 0 < N2)
    (bP : Bi l P2) (bQ : Bi l Q2) (bN : Bi l N2) (q : ∀ d, NV m e l d P2 Q2 N2 → Qc d M) (hk : k ≤ 1500 := by decide) : sp_plus_by [.int m, x, y] M Qc E :=
  plusC (by rw [← hm]; exact ck.m0) (by rw [← hm]; exact ck.bm) (hx.rv ck.be) (hy.rv ck.be) (fun d hd => q d (NV.of hd (by
    have e1 : ((2 * P + Q * e) * (2 * N') + (2 * P' + Q' * e) * (2 * N)) * (2 * N2) = 4 * (2 * ((P * N' + P' * N) * N2) + (Q * N' + Q' * N) * N2 * e) := by grind
    rw [e1, ← h1, ← h2]; grind) (by
    have e1 : (Q * (2 * N') + Q' * (2 * N)) * (2 * N2) = 4 * ((Q * N' + Q' * N) * N2) := by grind
    rw [e1, ← h2]; grind) n2 bP bQ bN)) ⟨by omega, by omega, by omega, by omega⟩
/-- a product by a quotient P' / N' -/
theorem ntimesC (ck : CK a b c e) (hm : meas4 b c e = m) (hx : NV m e k x P Q N) (hy : NV m e k y P' 0 N') (P2 Q2 N2 : Int) (h1 : P2 * (N * N') = P * P' * N2) (h2 : Q2 * (N * N') = Q * P' * N2) (n2 : 0 < N2)
    (bP : Bi l P2) (bQ : Bi l Q2) (bN : Bi l N2) (q : ∀ d, NV m e l d P2 Q2 N2 → Qc d M) (hk : k ≤ 1500 := by decide) : sp_times_by [.int m, x, y] M Qc E :=
  timesC (by rw [← hm]; exact ck.m0) (by rw [← hm]; exact ck.bm) (hx.rv ck.be) (hy.rv ck.be) (fun d hd => q d (NV.of hd (by
    have e1 : ((2 * P + Q * e) * (2 * P' + 0 * e) + m * Q * 0) * (2 * N2) = 4 * (2 * (P * P' * N2) + Q * P' * N2 * e) := by grind
    rw [e1, ← h1, ← h2]; grind) (by
    have e1 : ((2 * P + Q * e) * 0 + Q * (2 * P' + 0 * e)) * (2 * N2) = 4 * (Q * P' * N2) := by grind
    rw [e1, ← h2]; grind) n2 bP bQ bN)) ⟨by omega, by omega, by omega, by omega⟩
/-- numbers apart -/
theorem NV.ne {s : Int} {d d' : D} (ck : CK a b c e) (hm : meas4 b c e = m) (hx : NV m e k d P Q N) (hy : NV m e l d' P' Q' N') (h : Sg b (P * N' - P' * N) (Q * N' - Q' * N) s) (hs : s ≠ 0) : d ≠ d' := by
  intro hd
  obtain ⟨k1, k2, k3, _⟩ := cut_parts ck.cut
  have hm0 : 0 ≤ m := by rw [← hm]; exact ck.m0
  have hmb : Bi 200 m := by rw [← hm]; exact ck.bm
  have n0 := hx.n0
  have n1 := hy.n0
  obtain ⟨t1, t2, t3, j, T⟩ := (hx.rv ck.be).t3 hm0 hmb
  obtain ⟨s1, s2, s3, i, S⟩ := (hy.rv ck.be).t3 hm0 hmb
  have hT : T3 t1 t2 t3 = T3 s1 s2 s3 := by rw [← T.eq, ← S.eq, hd]
  have e1 : t1 = s1 := by cases hT; rfl
  have e2 : t2 = s2 := by cases hT; rfl
  have e3 : t3 = s3 := by cases hT; rfl
  subst e1 e2 e3
  have p3 := T.nf.pos
  have hj : 0 < j := by
    have := T.e3
    rcases (by omega : 0 < j ∨ j ≤ 0) with z | z
    · exact z
    · have := Int.mul_nonpos_of_nonpos_of_nonneg z (show 0 ≤ t3 by omega)
      omega
  have hi : 0 < i := by
    have := S.e3
    rcases (by omega : 0 < i ∨ i ≤ 0) with z | z
    · exact z
    · have := Int.mul_nonpos_of_nonpos_of_nonneg z (show 0 ≤ t3 by omega)
      omega
  have key : ∀ U V U' V' : Int, U = j * V → U' = i * V → U * (2 * N') = U' * (2 * N) := fun U V U' V' f1 f2 => by
    rw [f1, f2, S.e3, T.e3]; grind
  have gX := key _ _ _ 0 T.e1 S.e1
  have gY := key _ _ _ 0 T.e2 S.e2
  have hsd := sg_side k1 k2 k3 hm h
  have fX : rnX m (2 * (P * N' - P' * N) + (Q * N' - Q' * N) * e) (Q * N' - Q' * N) = 0 := by
    unfold rnX at gX ⊢
    split
    · rw [if_pos (by assumption), if_pos (by assumption)] at gX
      have : 2 * (2 * (P * N' - P' * N) + (Q * N' - Q' * N) * e + (Q * N' - Q' * N) * isq m) = (2 * P + Q * e + Q * isq m) * (2 * N') - (2 * P' + Q' * e + Q' * isq m) * (2 * N) := by grind
      rw [gX, Int.sub_self] at this
      omega
    · rw [if_neg (by assumption), if_neg (by assumption)] at gX
      have : 2 * (2 * (P * N' - P' * N) + (Q * N' - Q' * N) * e) = (2 * P + Q * e) * (2 * N') - (2 * P' + Q' * e) * (2 * N) := by grind
      rw [gX, Int.sub_self] at this
      omega
  have fY : rnY m (Q * N' - Q' * N) = 0 := by
    unfold rnY at gY ⊢
    split
    · rfl
    · rw [if_neg (by assumption), if_neg (by assumption)] at gY
      have : 2 * (Q * N' - Q' * N) = Q * (2 * N') - Q' * (2 * N) := by grind
      rw [gY, Int.sub_self] at this
      omega
  rw [fX, fY] at hsd
  exact hs hsd.symm
end
end DL
namespace DL
open PySem PySem.Spec PyProof.Rows L2
local macro_rules | `(tactic| walk_at "rd") => `(tactic| simp only [startD, List.map, List.replicate, List.length_cons, List.length_nil, List.append_eq, List.append_nil, List.nil_append, List.cons_append, Nat.reduceSub, Nat.reduceAdd, List.getElem?_cons_zero, List.getElem?_cons_succ, List.set_cons_zero, List.set_cons_succ,
  dC, dVar, dOp, dTru, gTru, tru, dChain, dAnd, dOr, dNot, dAndV, dOrV, dNotV, dIf, dNeg, gNeg, dNil, dCons, dTup, dLst, dOwn, gIx, rBin, gAdd, gCmpI, dCall, dCallK, dSeq, dNext, dDrop, dRet, dRetN, dIfS, dName, dGNil, dGCons, dGTup, dSub, gSetL, dAsg, dPar, dPar3, dAug, gIpI, dSeqI, gSeqI, dRngI, gRng1, gRng2, dCB, gAbs, gInt, gMax, gMin, gGcd, gLen, lenD, gIsi, tyM, tyD, dBits, gBits, dMet, gAppend, dPart, dNoPart, dSl, gSl_tup, gSl_lst, cut_1, dEnds, gIs, isB, dNever, dCallX, dRaise, dTry, dFld, dCallV, gLRng, gFrz, dFrz, dFor, dLc, wipeD, dYes,
  sizeLine_eq, Nat.reduceLeDiff, gEq_int, gNe_int, gEq_strs, gNe_strs, gIn_two, gRepr_bl, rs_lst, rs_tup, rs_scr, rs_int, atI_0, atI_1, atI_2, atI_3, atI_4, atI_5, ixN_30, ixN_31, ixN_32, gEq_bl, gNe_bl, decide_eq_true_eq, beq_iff_eq, Bool.not_eq_true', beq_eq_false_iff_ne, decide_eq_false_iff_not, Bool.not_true, Bool.not_false, if_true, if_false, Bool.false_eq_true, ite_true, ite_false, true_and, and_true, ne_eq, Bool.bne_false, Bool.bne_true, reduceCtorEq])
local macro_rules | `(tactic| walk_at "rh") => `(tactic| simp only [*, startD, List.map, List.replicate, List.length_cons, List.length_nil, List.append_eq, List.append_nil, List.nil_append, List.cons_append, Nat.reduceSub, Nat.reduceAdd, List.getElem?_cons_zero, List.getElem?_cons_succ, List.set_cons_zero, List.set_cons_succ,
  dC, dVar, dOp, dTru, gTru, tru, dChain, dAnd, dOr, dNot, dAndV, dOrV, dNotV, dIf, dNeg, gNeg, dNil, dCons, dTup, dLst, dOwn, gIx, rBin, gAdd, gCmpI, dCall, dCallK, dSeq, dNext, dDrop, dRet, dRetN, dIfS, dName, dGNil, dGCons, dGTup, dSub, gSetL, dAsg, dPar, dPar3, dAug, gIpI, dSeqI, gSeqI, dRngI, gRng1, gRng2, dCB, gAbs, gInt, gMax, gMin, gGcd, gLen, lenD, gIsi, tyM, tyD, dBits, gBits, dMet, gAppend, dPart, dNoPart, dSl, gSl_tup, gSl_lst, cut_1, dEnds, gIs, isB, dNever, dCallX, dRaise, dTry, dFld, dCallV, gLRng, gFrz, dFrz, dFor, dLc, wipeD, dYes,
  sizeLine_eq, Nat.reduceLeDiff, gEq_int, gNe_int, gEq_strs, gNe_strs, gIn_two, gRepr_bl, rs_lst, rs_tup, rs_scr, rs_int, atI_0, atI_1, atI_2, atI_3, atI_4, atI_5, ixN_30, ixN_31, ixN_32, gEq_bl, gNe_bl, decide_eq_true_eq, beq_iff_eq, Bool.not_eq_true', beq_eq_false_iff_ne, decide_eq_false_iff_not, Bool.not_true, Bool.not_false, if_true, if_false, Bool.false_eq_true, ite_true, ite_false, true_and, and_true, ne_eq, Bool.bne_false, Bool.bne_true, reduceCtorEq])
local macro_rules | `(tactic| walk_at "kb") => `(tactic| simp only [kb_NoneType_list, kb_bool_list, kb_int_list, kb_str_list, kb_tuple_list, kb_list_list, kb_dict_list, kb_NoneType_int, kb_bool_int, kb_int_int, kb_str_int, kb_tuple_int, kb_list_int, kb_dict_int, kb_NoneType_bool, kb_bool_bool, kb_int_bool, kb_str_bool, kb_tuple_bool, kb_list_bool, kb_dict_bool, kb_NoneType_tuple, kb_bool_tuple, kb_int_tuple, kb_str_tuple, kb_tuple_tuple, kb_list_tuple, kb_dict_tuple, if_true, if_false, Bool.false_eq_true, ite_true, ite_false, Bool.not_true, Bool.not_false])
/-! RdYY: places and spots of the sheet -/
def nv (m e P Q N : Int) : D := rootN m (2 * P + Q * e) Q (2 * N)
def sgn (m e P Q : Int) : Int := sideV m (rnX m (2 * P + Q * e) Q) (rnY m Q)
structure CM (m a b c e : Int) : Prop where
  ck : CK a b c e
  hm : meas4 b c e = m
  ba : Bi 40 a
  bb : Bi 40 b
  bc : Bi 40 c
  be : Bi 40 e
theorem Sg.sgn {m a b c e P Q s : Int} (h : CM m a b c e) (g : Sg b P Q s) : sgn m e P Q = s := by
  obtain ⟨k1, k2, k3, _⟩ := cut_parts h.ck.cut
  exact sg_side k1 k2 k3 h.hm g
section
variable {m a b c e P Q N P' Q' N' : Int} {k l : Nat} {x y : D} {M : Mem} {Qc : DQ} {E : DX}
theorem sideN (h : CM m a b c e) (hx : NV m e k x P Q N) (q : Qc (.int (sgn m e P Q)) M) (hk : k ≤ 290 := by decide) : sp_side_by [.int m, x] M Qc E := by
  have hm0 : 0 ≤ m := by rw [← h.hm]; exact h.ck.m0
  have hmb : Bi 200 m := by rw [← h.hm]; exact h.ck.bm
  have n0 := hx.n0
  have hr := hx.rv h.ck.be
  obtain ⟨t1, t2, t3, j, T⟩ := hr.t3 hm0 hmb
  refine ⟨m, t1, t2, t3, by rw [T.eq], hmb.mono, T.sz.1.up (by omega), T.sz.2.1.up (by omega), ?_⟩
  rw [T.side (by omega)]
  exact q
theorem NV.mk' (n0 : 0 < N) (bP : Bi k P) (bQ : Bi k Q) (bN : Bi k N) : NV m e k (nv m e P Q N) P Q N := ⟨rfl, n0, bP, bQ, bN⟩
theorem NV.nv {d : D} (h : NV m e k d P Q N) : d = nv m e P Q N := h.eq
end
def spF (m a b c e X1 X2 Y1 Y2 N : Int) : D :=
  if sgn m e Y1 Y2 < 0 ∨ 0 < sgn m e (Y1 - c * N) (Y2 - N) then .non
  else if sgn m e (Y1 - c * N) Y2 ≤ 0 ∧ 0 ≤ sgn m e (X1 * c - a * Y1) (X2 * c - a * Y2) ∧ sgn m e (X1 * c - a * Y1 - b * c * N) (X2 * c - a * Y2) ≤ 0 then
    .tup [.int 0, nv m e (X1 * c - a * Y1) (X2 * c - a * Y2) (c * N), nv m e Y1 Y2 N]
  else if 0 ≤ sgn m e (Y1 - c * N) Y2 ∧ 0 ≤ sgn m e (X1 - a * N) X2 ∧ sgn m e (X1 - a * N) (X2 - N) ≤ 0 then
    .tup [.int 1, nv m e (X1 - a * N) X2 N, nv m e (Y1 - c * N) Y2 N]
  else .non
structure Pl (X1 X2 Y1 Y2 N : Int) : Prop where
  n0 : 0 < N
  x1 : Bi 150 X1
  x2 : Bi 150 X2
  y1 : Bi 150 Y1
  y2 : Bi 150 Y2
  bn : Bi 150 N
def sp_spot : DSp := fun ds M Q _ => ∃ m a b c e X1 X2 Y1 Y2 N : Int, ds = [T4 a b c e, .tup [nv m e X1 X2 N, nv m e Y1 Y2 N]] ∧ CM m a b c e ∧ Pl X1 X2 Y1 Y2 N ∧ Q (spF m a b c e X1 X2 Y1 Y2 N) M
theorem rd_spot_by : ∀ ds M Q, ds.length = 2 → sp_spot ds M Q DX0 → t_spot_by sp_measure_by sp_slit sp_minus_by sp_side_by sp_times_by sp_root_by (dEnds M Q) (startD 16 ds) M := by
  rintro _ M Q - ⟨m, a, b, c, e, X1, X2, Y1, Y2, N, rfl, h, p, q⟩
  have n0 := p.n0
  have hm0 : 0 ≤ m := by rw [← h.hm]; exact h.ck.m0
  have hmb : Bi 200 m := by rw [← h.hm]; exact h.ck.bm
  obtain ⟨k1, k2, k3, _⟩ := cut_parts h.ck.cut
  unfold t_spot_by
  refine dSeq_open fun B hB => ?_
  walk_at "rd"
  rw [← hB]
  clear hB B
  refine dSeq_open fun B hB => ?_
  walk_at "rd"
  refine ⟨a, b, c, e, rfl, h.ck.bb.mono, h.ck.bc.mono, h.ck.be.mono, ?_⟩
  refine ⟨a, b, c, e, rfl, h.ck, fun S hS => ?_⟩
  rw [h.hm] at hS ⊢
  have vS : NV m e 2 S 0 1 1 := NV.of hS (by grind) (by grind) (by decide) (Bi.of_abs 0 (by decide) (by decide)) (Bi.of_abs 1 (by decide) (by decide)) (Bi.of_abs 1 (by decide) (by decide))
  rw [← hB]
  clear hB B
  refine dSeq_open fun B hB => ?_
  walk_at "rd"
  rw [← hB]
  clear hB B
  have vx : NV m e 150 (nv m e X1 X2 N) X1 X2 N := ⟨rfl, p.n0, p.x1, p.x2, p.bn⟩
  have vy : NV m e 150 (nv m e Y1 Y2 N) Y1 Y2 N := ⟨rfl, p.n0, p.y1, p.y2, p.bn⟩
  have b1 : Bi 150 1 := Bi.of_abs 1 (by decide) (by decide)
  have b0 : Bi 150 0 := Bi.of_abs 0 (by decide) (by decide)
  have cN := (h.bc.mul p.bn).up (by decide : 40 + 150 ≤ 289)
  have bU : Bi 290 (Y1 - c * N) := (p.y1.up (by decide : 150 ≤ 289)).sub cN
  have bW : Bi 290 (Y2 - N) := (p.y2.up (by decide : 150 ≤ 289)).sub (p.bn.up (by decide))
  refine dSeq_open fun B hB => ?_
  walk_at "rd"
  refine nminusC (k := 290) h.ck h.hm (vy.up (by decide)) ((nv_int h.bc (by decide)).up (by decide)) (Y1 - c * N) Y2 N (by grind) (by grind) n0 bU (p.y2.up (by decide)) (p.bn.up (by decide)) fun U vU => ?_
  have eU := vU.nv
  rw [← hB]
  clear hB B
  refine dSeq_open fun B hB => ?_
  walk_at "rd"
  refine sideN (k := 290) h (vy.up (by decide)) ?_
  dsimp only
  unfold spF at q
  by_cases z1 : sgn m e Y1 Y2 < 0
  · rw [if_pos (.inl z1)] at q
    rw [if_pos z1]
    exact rtq q
  rw [if_neg z1]
  refine nminusC (k := 290) h.ck h.hm vU (vS.up (by decide)) (Y1 - c * N) (Y2 - N) N (by grind) (by grind) n0 bU bW (p.bn.up (by decide)) fun T vT => ?_
  refine sideN (k := 290) h vT ?_
  dsimp only
  by_cases z2 : 0 < sgn m e (Y1 - c * N) (Y2 - N)
  · rw [if_pos (.inr z2)] at q
    rw [if_pos z2]
    exact rtq q
  rw [if_neg z2, ← hB]
  rw [if_neg (by intro z; rcases z with z | z; exact z1 z; exact z2 z)] at q
  clear hB B vT T
  have cN0 : 0 < c * N := Int.mul_pos (by omega) n0
  have bA : Bi 290 (X1 * c - a * Y1) := ((p.x1.mul h.bc).up (by decide : 150 + 40 ≤ 289)).sub ((h.ba.mul p.y1).up (by decide))
  have bA2 : Bi 290 (X2 * c - a * Y2) := ((p.x2.mul h.bc).up (by decide : 150 + 40 ≤ 289)).sub ((h.ba.mul p.y2).up (by decide))
  have bA3 : Bi 290 (X1 * c - a * Y1 - b * c * N) := ((((p.x1.mul h.bc).up (by decide : 150 + 40 ≤ 288)).sub ((h.ba.mul p.y1).up (by decide))) : Bi 289 _).sub (((h.bb.mul h.bc).mul p.bn).up (by decide))
  have bC : Bi 290 (X1 - a * N) := (p.x1.up (by decide : 150 ≤ 289)).sub ((h.ba.mul p.bn).up (by decide))
  have bC2 : Bi 290 (X2 - N) := (p.x2.up (by decide : 150 ≤ 289)).sub (p.bn.up (by decide))
  refine dSeq_open fun B hB => ?_
  obtain ⟨s, hs⟩ : ∃ s, sgn m e (Y1 - c * N) Y2 = s := ⟨_, rfl⟩
  have lists : ∀ ds : List D, (ds = [.int 0] ∧ s < 0 ∨ ds = [.int 0, .int 1] ∧ s = 0 ∨ ds = [.int 1] ∧ 0 < s) → B [some (T4 a b c e), some (D.tup [nv m e X1 X2 N, nv m e Y1 Y2 N]), some (D.int a), some (D.int b),
                      some (D.int c), some (D.int e), some (D.int m), some S, some (nv m e X1 X2 N),
                      some (nv m e Y1 Y2 N), some U, some (.lst ds), none, none, none, none]
                    M := by
    intro ds hds
    rw [← hB]
    clear hB B
    rw [hs] at q
    refine dSeq_open fun B0 hB0 => ?_
    walk_at "rd"
    refine ⟨fun i r1 M1 => M1 = M ∧ (∃ o1 o2 o3 o4, r1 = [some (T4 a b c e), some (D.tup [nv m e X1 X2 N, nv m e Y1 Y2 N]), some (D.int a), some (D.int b), some (D.int c),
      some (D.int e), some (D.int m), some S, some (nv m e X1 X2 N), some (nv m e Y1 Y2 N), some U, some (D.lst ds), o1, o2, o3, o4]) ∧
      (∀ j, j < i → (ds[j]? = some (.int 0) → ¬ (0 ≤ sgn m e (X1 * c - a * Y1) (X2 * c - a * Y2) ∧ sgn m e (X1 * c - a * Y1 - b * c * N) (X2 * c - a * Y2) ≤ 0)) ∧
        (ds[j]? = some (.int 1) → ¬ (0 ≤ sgn m e (X1 - a * N) X2 ∧ sgn m e (X1 - a * N) (X2 - N) ≤ 0))), ⟨rfl, ⟨_, _, _, _, rfl⟩, fun j hj => by omega⟩, ?_⟩
    rintro i r1 M1 ⟨rfl, ⟨o1, o2, o3, o4, rfl⟩, hW⟩
    refine ⟨trivial, fun hi => ?_, fun d hd => ?_⟩
    · rw [← hB0]
      walk_at "rd"
      refine rtq ?_
      rwa [if_neg, if_neg] at q
      · rintro ⟨q1, q2⟩
        rcases hds with ⟨rfl, s0⟩ | ⟨rfl, s0⟩ | ⟨rfl, s0⟩
        · omega
        · exact (hW 1 hi).2 rfl q2
        · exact (hW 0 hi).2 rfl q2
      · rintro ⟨q1, q2⟩
        rcases hds with ⟨rfl, s0⟩ | ⟨rfl, s0⟩ | ⟨rfl, s0⟩
        · exact (hW 0 hi).1 rfl q2
        · exact (hW 0 (by simp at hi; omega)).1 rfl q2
        · omega
    · have hd01 : (d = .int 0 ∧ s ≤ 0 ∧ i = 0) ∨ (d = .int 1 ∧ 0 ≤ s ∧ (s ≤ 0 → 1 ≤ i ∧ ds[0]? = some (.int 0))) := by
        rcases hds with ⟨rfl, s0⟩ | ⟨rfl, s0⟩ | ⟨rfl, s0⟩
        · rcases i with _ | i
          · cases hd; exact .inl ⟨rfl, by omega, rfl⟩
          · simp at hd
        · rcases i with _ | _ | i
          · cases hd; exact .inl ⟨rfl, by omega, rfl⟩
          · cases hd; exact .inr ⟨rfl, by omega, fun _ => ⟨by omega, rfl⟩⟩
          · simp at hd
        · rcases i with _ | i
          · cases hd; exact .inr ⟨rfl, by omega, fun z => by omega⟩
          · simp at hd
      have next : ∀ o1 o2 o3 o4, ((d = .int 0 → ¬ (0 ≤ sgn m e (X1 * c - a * Y1) (X2 * c - a * Y2) ∧ sgn m e (X1 * c - a * Y1 - b * c * N) (X2 * c - a * Y2) ≤ 0)) ∧
        (d = .int 1 → ¬ (0 ≤ sgn m e (X1 - a * N) X2 ∧ sgn m e (X1 - a * N) (X2 - N) ≤ 0))) → (M1 = M1 ∧ (∃ p1 p2 p3 p4, [some (T4 a b c e), some (D.tup [nv m e X1 X2 N, nv m e Y1 Y2 N]), some (D.int a), some (D.int b), some (D.int c),
      some (D.int e), some (D.int m), some S, some (nv m e X1 X2 N), some (nv m e Y1 Y2 N), some U, some (D.lst ds), o1, o2, o3, o4] = [some (T4 a b c e), some (D.tup [nv m e X1 X2 N, nv m e Y1 Y2 N]), some (D.int a), some (D.int b), some (D.int c),
      some (D.int e), some (D.int m), some S, some (nv m e X1 X2 N), some (nv m e Y1 Y2 N), some U, some (D.lst ds), p1, p2, p3, p4]) ∧
      (∀ j, j < i + 1 → (ds[j]? = some (.int 0) → ¬ (0 ≤ sgn m e (X1 * c - a * Y1) (X2 * c - a * Y2) ∧ sgn m e (X1 * c - a * Y1 - b * c * N) (X2 * c - a * Y2) ≤ 0)) ∧
        (ds[j]? = some (.int 1) → ¬ (0 ≤ sgn m e (X1 - a * N) X2 ∧ sgn m e (X1 - a * N) (X2 - N) ≤ 0)))) := by
        refine fun o1 o2 o3 o4 hh => ⟨rfl, ⟨_, _, _, _, rfl⟩, fun j hj => ?_⟩
        rcases (by omega : j < i ∨ j = i) with z | rfl
        · exact hW j z
        · rw [hd]
          exact ⟨fun z => hh.1 (Option.some.inj z), fun z => hh.2 (Option.some.inj z)⟩
      rcases hd01 with ⟨rfl, s0, i0⟩ | ⟨rfl, s0, i0⟩
      · walk_at "rd"
        refine rootC hm0 hmb (by omega : c ≠ 0) (nx := 40) (nb := 40) h.ba (Bi.of_abs 0 (by decide) (by decide)) h.bc fun L vL => ?_
        have vL' : NV m e 290 L a 0 c := NV.of vL (by grind) (by grind) (by omega) (h.ba.up (by decide)) (Bi.of_abs 0 (by decide) (by decide)) (h.bc.up (by decide))
        refine ntimesC (k := 290) (l := 290) h.ck h.hm (vy.up (by decide)) vL' (a * Y1) (a * Y2) (c * N) (by grind) (by grind) cN0 ((h.ba.mul p.y1).up (by decide)) ((h.ba.mul p.y2).up (by decide)) (cN.up (by decide)) fun L2 vL2 => ?_
        refine nminusC (k := 290) (l := 290) h.ck h.hm (vx.up (by decide)) vL2 (X1 * c - a * Y1) (X2 * c - a * Y2) (c * N) (by grind) (by grind) cN0 bA bA2 (cN.up (by decide)) fun R vR => ?_
        refine sideN (k := 290) h vR ?_
        dsimp only
        by_cases y1 : 0 ≤ sgn m e (X1 * c - a * Y1) (X2 * c - a * Y2)
        · rw [if_pos y1]
          refine nminusC (k := 290) (l := 290) h.ck h.hm vR ((nv_int h.bb (by decide)).up (by decide)) (X1 * c - a * Y1 - b * c * N) (X2 * c - a * Y2) (c * N) (by grind) (by grind) cN0 bA3 bA2 (cN.up (by decide)) fun R2 vR2 => ?_
          refine sideN (k := 290) h vR2 ?_
          dsimp only
          by_cases y2 : sgn m e (X1 * c - a * Y1 - b * c * N) (X2 * c - a * Y2) ≤ 0
          · rw [if_pos y2]
            rw [if_pos ⟨s0, y1, y2⟩] at q
            rw [vR.nv]
            exact rtq q
          · rw [if_neg y2]
            exact next _ _ _ _ ⟨fun _ z => y2 z.2, fun z => by cases z⟩
        · rw [if_neg y1]
          exact next _ _ _ _ ⟨fun _ z => y1 z.1, fun z => by cases z⟩
      · walk_at "rd"
        simp only [show ¬ (1 : Int) = 0 by decide, if_false]
        refine nminusC (k := 290) (l := 290) h.ck h.hm (vx.up (by decide)) ((nv_int h.ba (by decide)).up (by decide)) (X1 - a * N) X2 N (by grind) (by grind) n0 bC (p.x2.up (by decide)) (p.bn.up (by decide)) fun R vR => ?_
        refine sideN (k := 290) h vR ?_
        dsimp only
        by_cases y1 : 0 ≤ sgn m e (X1 - a * N) X2
        · rw [if_pos y1]
          refine nminusC (k := 290) (l := 290) h.ck h.hm vR (vS.up (by decide)) (X1 - a * N) (X2 - N) N (by grind) (by grind) n0 bC bC2 (p.bn.up (by decide)) fun R2 vR2 => ?_
          refine sideN (k := 290) h vR2 ?_
          dsimp only
          by_cases y2 : sgn m e (X1 - a * N) (X2 - N) ≤ 0
          · rw [if_pos y2]
            rw [if_neg, if_pos ⟨s0, y1, y2⟩] at q
            · rw [vR.nv, vU.nv]
              exact rtq q
            · rintro ⟨z0, z1, z2⟩
              exact (hW 0 (i0 z0).1).1 (i0 z0).2 ⟨z1, z2⟩
          · rw [if_neg y2]
            exact next _ _ _ _ ⟨fun z => by (cases z), fun _ z => y2 z.2⟩
        · rw [if_neg y1]
          exact next _ _ _ _ ⟨fun z => by (cases z), fun _ z => y1 z.1⟩
  walk_at "rd"
  refine sideN (k := 290) h vU ?_
  rw [hs]
  dsimp only
  by_cases s1 : s < 0
  · rw [if_pos s1]
    exact lists _ (.inl ⟨rfl, s1⟩)
  rw [if_neg s1]
  refine sideN (k := 290) h vU ?_
  rw [hs]
  simp only [gEq_int, beq_iff_eq]
  by_cases s2 : s = 0
  · rw [if_pos s2]
    exact lists _ (.inr (.inl ⟨rfl, s2⟩))
  rw [if_neg s2]
  exact lists _ (.inr (.inr ⟨rfl, by omega⟩))
/-! ### the end, the one spot told, and where it lies -/
open Classical in
noncomputable def nsp (m b c e p : Int) (R U : D) (sb : Int) : D :=
  if U = (if p = 0 then T3 c 0 1 else cS m e) then
    (if R = zT ∨ R = cS m e ∨ (¬ (p = 0 ∧ sb < 0) ∧ R = T3 b 0 1) then .non
    else if p = 0 ∧ sb < 0 then .tup [.int 1, R, zT] else .tup [.int 0, R, zT])
  else if U = zT ∧ (R = zT ∨ R = cS m e ∨ (p = 0 ∧ R = T3 b 0 1)) then .non
  else .tup [.int p, if R = (if p = 0 then T3 b 0 1 else cS m e) then zT else R, U]
def sp_isend : DSp := fun ds M Q _ => ∃ (m a b c e p P1 Q1 N1 : Int), ds = [T4 a b c e, .int p, nv m e P1 Q1 N1] ∧ CM m a b c e ∧ ∀ t, (t = true ↔ (nv m e P1 Q1 N1 = zT ∨ nv m e P1 Q1 N1 = cS m e ∨ (p = 0 ∧ nv m e P1 Q1 N1 = T3 b 0 1))) → Q (.bl t) M
theorem rd_is_end : ∀ ds M Q, ds.length = 3 → sp_isend ds M Q DX0 → t_is_end sp_slit (dEnds M Q) (startD 5 ds) M := by
  rintro _ M Q - ⟨m, a, b, c, e, p, P1, Q1, N1, rfl, h, q⟩
  unfold t_is_end
  refine dSeq_open fun B hB => ?_
  walk_at "rd"
  refine ⟨a, b, c, e, rfl, h.ck, fun S hS => ?_⟩
  rw [h.hm] at hS
  have eS : S = cS m e := hS.eq
  subst eS
  rw [← hB]
  clear hB B
  walk_at "rd"
  refine gIn_iff (n := 4) rfl rfl rfl rfl rfl fun t1 h1 => ?_
  have h1' : t1 = true ↔ (nv m e P1 Q1 N1 = zT ∨ nv m e P1 Q1 N1 = cS m e) := by
    rw [h1, List.mem_cons, List.mem_cons]
    constructor
    · intro z
      rcases z with z | z
      · exact .inl z
      · exact .inr (by rcases z with z | z; exact z; cases z)
    · intro z
      rcases z with z | z
      · exact .inl z
      · exact .inr (.inl z)
  clear h1
  cases t1 with
  | true =>
    simp only [Bool.true_bne, Bool.not_false, if_true]
    refine rtq (q true ⟨fun _ => ?_, fun _ => rfl⟩)
    rcases h1'.1 rfl with z | z
    · exact .inl z
    · exact .inr (.inl z)
  | false =>
    simp only [Bool.false_bne, Bool.false_eq_true, if_false]
    have n1 : ¬ (nv m e P1 Q1 N1 = zT ∨ nv m e P1 Q1 N1 = cS m e) := fun z => by
      have := h1'.2 z
      cases this
    by_cases hp : p = 0
    · rw [if_pos hp]
      refine gEq_iff (n := 4) rfl rfl rfl rfl fun t2 h2 => ?_
      refine rtq (q t2 ⟨fun z => .inr (.inr ⟨hp, h2.1 z⟩), fun z => h2.2 ?_⟩)
      rcases z with z | z | z
      · exact absurd (.inl z) n1
      · exact absurd (.inr z) n1
      · exact z.2
    · rw [if_neg hp]
      have : (p == 0) = false := by simp [hp]
      rw [this]
      refine rtq (q false ⟨fun z => by (cases z), fun z => ?_⟩)
      rcases z with z | z | z
      · exact absurd (.inl z) n1
      · exact absurd (.inr z) n1
      · exact absurd z.1 hp
def sp_normal : DSp := fun ds M Q _ => ∃ (m a b c e p RP RQ RN UP UQ UN : Int), ds = [T4 a b c e, .tup [.int p, nv m e RP RQ RN, nv m e UP UQ UN]] ∧ CM m a b c e ∧ (p = 0 ∨ p = 1) ∧ 0 < RN ∧ Bi 230 RP ∧ Bi 230 RQ ∧ Bi 230 RN ∧
  Q (nsp m b c e p (nv m e RP RQ RN) (nv m e UP UQ UN) (sgn m e RP (RQ - RN))) M
theorem rd_normal_spot : ∀ ds M Q, ds.length = 2 → sp_normal ds M Q DX0 → t_normal_spot sp_measure_by sp_slit sp_side_by sp_minus_by sp_isend (dEnds M Q) (startD 9 ds) M := by
  rintro _ M Q - ⟨m, a, b, c, e, p, RP, RQ, RN, UP, UQ, UN, rfl, h, hp, rn0, bR, bR2, bR3, q⟩
  have b1 : Bi 230 1 := Bi.of_abs 1 (by decide) (by decide)
  have b0 : Bi 230 0 := Bi.of_abs 0 (by decide) (by decide)
  have vR : NV m e 240 (nv m e RP RQ RN) RP RQ RN := ⟨rfl, rn0, bR.up (by decide), bR2.up (by decide), bR3.up (by decide)⟩
  unfold t_normal_spot
  refine dSeq_open fun B hB => ?_
  walk_at "rd"
  rw [← hB]
  clear hB B
  refine dSeq_open fun B hB => ?_
  walk_at "rd"
  refine ⟨a, b, c, e, rfl, h.ck.bb.mono, h.ck.bc.mono, h.ck.be.mono, ?_⟩
  refine ⟨a, b, c, e, rfl, h.ck, fun S hS => ?_⟩
  rw [h.hm] at hS ⊢
  have vS : NV m e 240 S 0 1 1 := NV.of hS (by grind) (by grind) (by decide) (Bi.of_abs 0 (by decide) (by decide)) (Bi.of_abs 1 (by decide) (by decide)) (Bi.of_abs 1 (by decide) (by decide))
  have eS : S = cS m e := hS.eq
  subst eS
  rw [← hB]
  clear hB B
  refine dSeq_open fun B hB => ?_
  have tail : ∀ (p1 : Int) (U : D) (o : Option D), (p1 = 0 ∨ p1 = 1) → fine 4 U = true → nbD U = true →
      (U = zT ∧ (nv m e RP RQ RN = zT ∨ nv m e RP RQ RN = cS m e ∨ (p1 = 0 ∧ nv m e RP RQ RN = T3 b 0 1)) → Q .non M) →
      (¬ (U = zT ∧ (nv m e RP RQ RN = zT ∨ nv m e RP RQ RN = cS m e ∨ (p1 = 0 ∧ nv m e RP RQ RN = T3 b 0 1))) → ∀ R, (nv m e RP RQ RN = (if p1 = 0 then T3 b 0 1 else cS m e) → R = zT) →
        (nv m e RP RQ RN ≠ (if p1 = 0 then T3 b 0 1 else cS m e) → R = nv m e RP RQ RN) → below M.length R = true → Q (.tup [.int p1, R, U]) M) →
      below M.length U = true →
      B [some (T4 a b c e), some (D.tup [D.int p, nv m e RP RQ RN, nv m e UP UQ UN]), some (D.int p1), some (nv m e RP RQ RN), some U, some (D.int m),
                        some (cS m e), some (D.tup [D.int b, D.int 0, D.int 1]), o] M := by
    intro p1 U o hp1 fU nU q1 q2 bU
    rw [← hB]
    clear hB B
    refine dSeq_open fun B hB => ?_
    walk_at "rd"
    refine gEq_iff (n := 4) fU rfl nU rfl fun t1 h1 => ?_
    have more : ¬ (U = zT ∧ (nv m e RP RQ RN = zT ∨ nv m e RP RQ RN = cS m e ∨ (p1 = 0 ∧ nv m e RP RQ RN = T3 b 0 1))) → 
       B [some (T4 a b c e), some (D.tup [D.int p, nv m e RP RQ RN, nv m e UP UQ UN]), some (D.int p1), some (nv m e RP RQ RN), some U, some (D.int m),
                        some (cS m e), some (D.tup [D.int b, D.int 0, D.int 1]), o] M := by
      intro hn
      rw [← hB]
      clear hB B
      refine dSeq_open fun B hB => ?_
      walk_at "rd"
      have fin : ∀ R, (nv m e RP RQ RN = (if p1 = 0 then T3 b 0 1 else cS m e) → R = zT) →
          (nv m e RP RQ RN ≠ (if p1 = 0 then T3 b 0 1 else cS m e) → R = nv m e RP RQ RN) → (∀ n, below n R = true) →
          B [some (T4 a b c e), some (D.tup [D.int p, nv m e RP RQ RN, nv m e UP UQ UN]), some (D.int p1), some R, some U, some (D.int m),
                        some (cS m e), some (D.tup [D.int b, D.int 0, D.int 1]), o] M := by
        intro R r1 r2 bR
        rw [← hB]
        walk_at "rd"
        refine rtq (q2 hn R r1 r2 (bR _)) ?_
        simp only [below, belowAll, bR, bU, Bool.and_self]
      by_cases hz : p1 = 0
      · rw [if_pos hz] at fin ⊢
        refine gEq_iff (n := 4) rfl rfl rfl rfl fun t2 h2 => ?_
        cases t2 with
        | true => exact fin _ (fun _ => rfl) (fun z => absurd (h2.1 rfl) z) (fun _ => rfl)
        | false => exact fin _ (fun z => by have := h2.2 z; cases this) (fun _ => rfl) (fun _ => rfl)
      · rw [if_neg hz] at fin ⊢
        refine gEq_iff (n := 4) rfl rfl rfl rfl fun t2 h2 => ?_
        cases t2 with
        | true => exact fin _ (fun _ => rfl) (fun z => absurd (h2.1 rfl) z) (fun _ => rfl)
        | false => exact fin _ (fun z => by have := h2.2 z; cases this) (fun _ => rfl) (fun _ => rfl)
    cases t1 with
    | false => exact more fun z => by have := h1.2 z.1; cases this
    | true =>
      simp only [if_true]
      refine ⟨m, a, b, c, e, p1, RP, RQ, RN, rfl, h, fun t2 h2 => ?_⟩
      have hU := h1.1 rfl
      cases t2 with
      | true => exact rtq (q1 ⟨hU, h2.1 rfl⟩)
      | false => exact more fun z => by have := h2.2 z.2; cases this
  clear hB
  walk_at "rd"
  unfold nsp at q
  rcases hp with rfl | rfl
  · simp only [if_true]
    refine gEq_iff (n := 4) rfl rfl rfl rfl fun t1 h1 => ?_
    cases t1 with
    | true =>
      rw [if_pos rfl, if_pos (h1.1 rfl)] at q
      simp only [if_true]
      refine nminusC (k := 240) (l := 240) h.ck h.hm vR vS RP (RQ - RN) RN (by grind) (by grind) rn0 (bR.up (by decide)) ((bR2.up (by decide : 230 ≤ 239)).sub (bR3.up (by decide))) (bR3.up (by decide)) fun d vd => ?_
      refine sideN (k := 240) h vd ?_
      dsimp only
      by_cases hs : sgn m e RP (RQ - RN) < 0
      · rw [if_pos hs]
        refine tail 1 zT _ (.inr rfl) rfl rfl (fun z => ?_) (fun z R r1 r2 _ => ?_) rfl
        · rw [if_pos] at q
          · exact q
          · rcases z.2 with z | z | z
            · exact .inl z
            · exact .inr (.inl z)
            · exact absurd z.1 (by decide)
        · rw [if_neg, if_pos ⟨rfl, hs⟩] at q
          · rw [r2 fun w => z ⟨rfl, .inr (.inl (by rwa [if_neg (by decide)] at w))⟩]
            exact q
          · rintro (w | w | w)
            · exact z ⟨rfl, .inl w⟩
            · exact z ⟨rfl, .inr (.inl w)⟩
            · exact w.1 ⟨rfl, hs⟩
      · rw [if_neg hs]
        refine tail 0 zT _ (.inl rfl) rfl rfl (fun z => ?_) (fun z R r1 r2 _ => ?_) rfl
        · rw [if_pos] at q
          · exact q
          · rcases z.2 with z | z | z
            · exact .inl z
            · exact .inr (.inl z)
            · exact .inr (.inr ⟨fun w => hs w.2, z.2⟩)
        · rw [if_neg, if_neg (fun w => hs w.2)] at q
          · rw [r2 fun w => z ⟨rfl, .inr (.inr ⟨rfl, by rwa [if_pos rfl] at w⟩)⟩]
            exact q
          · rintro (w | w | w)
            · exact z ⟨rfl, .inl w⟩
            · exact z ⟨rfl, .inr (.inl w)⟩
            · exact z ⟨rfl, .inr (.inr ⟨rfl, w.2⟩)⟩
    | false =>
      have n1 : ¬ nv m e UP UQ UN = T3 c 0 1 := fun z => by have := h1.2 z; cases this
      rw [if_pos rfl, if_neg n1] at q
      simp only [Bool.false_eq_true, if_false]
      refine tail 0 (nv m e UP UQ UN) _ (.inl rfl) rfl rfl (fun z => ?_) (fun z R r1 r2 _ => ?_) rfl
      · rwa [if_pos z] at q
      · rw [if_neg z] at q
        by_cases w : nv m e RP RQ RN = if (0 : Int) = 0 then T3 b 0 1 else cS m e
        · rw [if_pos w] at q; rw [r1 w]; exact q
        · rw [if_neg w] at q; rw [r2 w]; exact q
  · simp only [show ¬ (1 : Int) = 0 by decide, if_false]
    refine gEq_iff (n := 4) rfl rfl rfl rfl fun t1 h1 => ?_
    cases t1 with
    | true =>
      rw [if_neg (show ¬ (1 : Int) = 0 by decide), if_pos (h1.1 rfl)] at q
      simp only [if_true]
      refine nminusC (k := 240) (l := 240) h.ck h.hm vR vS RP (RQ - RN) RN (by grind) (by grind) rn0 (bR.up (by decide)) ((bR2.up (by decide : 230 ≤ 239)).sub (bR3.up (by decide))) (bR3.up (by decide)) fun d vd => ?_
      refine sideN (k := 240) h vd ?_
      dsimp only
      refine tail 0 zT _ (.inl rfl) rfl rfl (fun z => ?_) (fun z R r1 r2 _ => ?_) rfl
      · rw [if_pos] at q
        · exact q
        · rcases z.2 with z | z | z
          · exact .inl z
          · exact .inr (.inl z)
          · exact .inr (.inr ⟨fun w => by have := w.1; omega, z.2⟩)
      · rw [if_neg, if_neg (fun w => by have := w.1; omega)] at q
        · rw [r2 fun w => z ⟨rfl, .inr (.inr ⟨rfl, by rwa [if_pos rfl] at w⟩)⟩]
          exact q
        · rintro (w | w | w)
          · exact z ⟨rfl, .inl w⟩
          · exact z ⟨rfl, .inr (.inl w)⟩
          · exact z ⟨rfl, .inr (.inr ⟨rfl, w.2⟩)⟩
    | false =>
      have n1 : ¬ nv m e UP UQ UN = cS m e := fun z => by have := h1.2 z; cases this
      rw [if_neg (show ¬ (1 : Int) = 0 by decide), if_neg n1] at q
      simp only [Bool.false_eq_true, if_false]
      refine tail 1 (nv m e UP UQ UN) _ (.inr rfl) rfl rfl (fun z => ?_) (fun z R r1 r2 _ => ?_) rfl
      · rwa [if_pos z] at q
      · rw [if_neg z] at q
        by_cases w : nv m e RP RQ RN = if (1 : Int) = 0 then T3 b 0 1 else cS m e
        · rw [if_pos w] at q; rw [r1 w]; exact q
        · rw [if_neg w] at q; rw [r2 w]; exact q
/-! ### where a spot lies -/
def laF (m a c e p RP RQ RN UP UQ UN : Int) : D :=
  if p = 1 then .tup [nv m e (RP + a * RN) RQ RN, nv m e (UP + c * UN) UQ UN]
  else .tup [nv m e (RP * (UN * c) + UP * a * RN) (RQ * (UN * c) + UQ * a * RN) (RN * (UN * c)), nv m e UP UQ UN]
def LaR (m a c e : Int) (sp pt : D) : Prop := (sp = .non ∧ pt = .tup [zT, zT]) ∨ ∃ p RP RQ RN UP UQ UN : Int, sp = .tup [.int p, nv m e RP RQ RN, nv m e UP UQ UN] ∧ (p = 0 ∨ p = 1) ∧ 0 < RN ∧ Bi 230 RP ∧ Bi 230 RQ ∧ Bi 230 RN ∧
  0 < UN ∧ Bi 230 UP ∧ Bi 230 UQ ∧ Bi 230 UN ∧ pt = laF m a c e p RP RQ RN UP UQ UN
def sp_laid : DSp := fun ds M Q _ => ∃ (m a b c e : Int) (sp pt : D), ds = [T4 a b c e, sp] ∧ CM m a b c e ∧ LaR m a c e sp pt ∧ Q pt M
theorem rd_laid : ∀ ds M Q, ds.length = 2 → sp_laid ds M Q DX0 → t_laid sp_measure_by sp_plus_by sp_times_by sp_root_by (dEnds M Q) (startD 9 ds) M := by
  rintro _ M Q - ⟨m, a, b, c, e, sp, pt, rfl, h, la, q⟩
  have hm0 : 0 ≤ m := by rw [← h.hm]; exact h.ck.m0
  have hmb : Bi 200 m := by rw [← h.hm]; exact h.ck.bm
  obtain ⟨k1, k2, k3, _⟩ := cut_parts h.ck.cut
  unfold t_laid
  rcases la with ⟨rfl, rfl⟩ | ⟨p, RP, RQ, RN, UP, UQ, UN, rfl, hp, rn0, r1, r2, r3, un0, u1, u2, u3, rfl⟩
  · walk_at "rd"
    exact rtq q
  have vR : NV m e 240 (nv m e RP RQ RN) RP RQ RN := ⟨rfl, rn0, r1.up (by decide), r2.up (by decide), r3.up (by decide)⟩
  have vU : NV m e 240 (nv m e UP UQ UN) UP UQ UN := ⟨rfl, un0, u1.up (by decide), u2.up (by decide), u3.up (by decide)⟩
  unfold laF at q
  walk_at "rd"
  refine ⟨a, b, c, e, rfl, h.ck.bb.mono, h.ck.bc.mono, h.ck.be.mono, ?_⟩
  rw [h.hm]
  rcases hp with rfl | rfl
  · rw [if_neg (by decide)] at q ⊢
    have un1 : 0 < UN * c := Int.mul_pos un0 (by omega)
    refine rootC hm0 hmb (by omega : c ≠ 0) (nx := 40) (nb := 40) h.ba (Bi.of_abs 0 (by decide) (by decide)) h.bc fun L vL => ?_
    have vL' : NV m e 240 L a 0 c := NV.of vL (by grind) (by grind) (by omega) (h.ba.up (by decide)) (Bi.of_abs 0 (by decide) (by decide)) (h.bc.up (by decide))
    refine ntimesC (k := 240) (l := 500) h.ck h.hm vU vL' (UP * a) (UQ * a) (UN * c) (by grind) (by grind) un1 ((u1.mul h.ba).up (by decide)) ((u2.mul h.ba).up (by decide)) ((u3.mul h.bc).up (by decide)) fun L2 vL2 => ?_
    refine nplusC (k := 500) (l := 600) h.ck h.hm (vR.up (by decide)) vL2 (RP * (UN * c) + UP * a * RN) (RQ * (UN * c) + UQ * a * RN) (RN * (UN * c)) (by grind) (by grind) (Int.mul_pos rn0 un1) 
      (((r1.mul (u3.mul h.bc)).up (by decide : 230 + (230 + 40) ≤ 599)).add (((u1.mul h.ba).mul r3).up (by decide))) (((r2.mul (u3.mul h.bc)).up (by decide : 230 + (230 + 40) ≤ 599)).add (((u2.mul h.ba).mul r3).up (by decide))) ((r3.mul (u3.mul h.bc)).up (by decide)) fun d vd => ?_
    rw [vd.nv]
    exact rtq q
  · rw [if_pos rfl] at q ⊢
    refine nplusC (k := 240) (l := 500) h.ck h.hm vR ((nv_int h.ba (by decide)).up (by decide)) (RP + a * RN) RQ RN (by grind) (by grind) rn0 ((r1.up (by decide : 230 ≤ 499)).add ((h.ba.mul r3).up (by decide))) (r2.up (by decide)) (r3.up (by decide)) fun d1 v1 => ?_
    refine nplusC (k := 240) (l := 500) h.ck h.hm vU ((nv_int h.bc (by decide)).up (by decide)) (UP + c * UN) UQ UN (by grind) (by grind) un0 ((u1.up (by decide : 230 ≤ 499)).add ((h.bc.mul u3).up (by decide))) (u2.up (by decide)) (u3.up (by decide)) fun d2 v2 => ?_
    rw [v1.nv, v2.nv]
    exact rtq q
/-! ### points -/
def GoR (m a b c e : Int) (pl pt : D) : Prop := ∃ X1 X2 Y1 Y2 N p RP RQ RN UP UQ UN : Int, pl = .tup [nv m e X1 X2 N, nv m e Y1 Y2 N] ∧ Pl X1 X2 Y1 Y2 N ∧
  spF m a b c e X1 X2 Y1 Y2 N = .tup [.int p, nv m e RP RQ RN, nv m e UP UQ UN] ∧ (p = 0 ∨ p = 1) ∧ 0 < RN ∧ Bi 230 RP ∧ Bi 230 RQ ∧ Bi 230 RN ∧ 
  LaR m a c e (nsp m b c e p (nv m e RP RQ RN) (nv m e UP UQ UN) (sgn m e RP (RQ - RN))) pt
theorem LaR.fin {m a c e : Int} {sp pt : D} (h : LaR m a c e sp pt) : fine 4 pt = true ∧ nbD pt = true ∧ (∀ n, below n pt = true) ∧ (∀ n, below n sp = true) := by
  rcases h with ⟨rfl, rfl⟩ | ⟨p, RP, RQ, RN, UP, UQ, UN, rfl, hp, rn0, r1, r2, r3, un0, u1, u2, u3, rfl⟩
  · exact ⟨rfl, rfl, fun _ => rfl, fun _ => rfl⟩
  · unfold laF
    split
    · exact ⟨rfl, rfl, fun _ => rfl, fun _ => rfl⟩
    · exact ⟨rfl, rfl, fun _ => rfl, fun _ => rfl⟩
theorem Pl.rv {m a b c e X1 X2 Y1 Y2 N : Int} (h : CM m a b c e) (p : Pl X1 X2 Y1 Y2 N) : RV (meas4 b c e) 252 152 (nv m e X1 X2 N) (2 * X1 + X2 * e) X2 (2 * N) ∧ RV (meas4 b c e) 252 152 (nv m e Y1 Y2 N) (2 * Y1 + Y2 * e) Y2 (2 * N) := by
  rw [h.hm]
  exact ⟨(NV.mk' (m := m) (e := e) p.n0 p.x1 p.x2 p.bn).rv h.ck.be, (NV.mk' (m := m) (e := e) p.n0 p.y1 p.y2 p.bn).rv h.ck.be⟩
def isPairD (m : Int) : D → Bool
  | .tup [x, y] => isRootD m x && isRootD m y
  | _ => false
def Pairable (M : Mem) (v : D) : Prop := (∃ T, tyM M v = some T) ∧ ∀ x y, v = .tup [x, y] → Rootable M x ∧ Rootable M y
def sp_pairX : DSp := fun ds M Q _ => ∃ (m a b c e : Int) (v : D), ds = [T4 a b c e, v] ∧ CM m a b c e ∧ Pairable M v ∧ Q (.bl (isPairD m v)) M
theorem isPairD_len {m : Int} {l : List D} (h : l.length ≠ 2) : isPairD m (.tup l) = false := by
  unfold isPairD
  split
  · rename_i e; cases e; exact absurd rfl h
  · rfl
theorem rd_is_pairX : ∀ ds M Q, ds.length = 2 → sp_pairX ds M Q DX0 → t_is_pair sp_measure_by sp_is_root_by (dEnds M Q) (startD 3 ds) M := by
  rintro _ M Q - ⟨m, a, b, c, e, v, rfl, h, ⟨⟨T, ht⟩, hr⟩, q⟩
  unfold t_is_pair
  refine dSeq_open fun B hB => ?_
  walk_at "rd"
  refine ⟨a, b, c, e, rfl, h.ck.bb.mono, h.ck.bc.mono, h.ck.be.mono, ?_⟩
  rw [← hB, h.hm]
  clear hB B
  have hm0 : 0 ≤ m := by rw [← h.hm]; exact h.ck.m0
  have hmb : Bi 200 m := by rw [← h.hm]; exact h.ck.bm
  have big := hmb.big
  by_cases htup : ∃ l, v = .tup l
  · obtain ⟨l, rfl⟩ := htup
    by_cases h2 : l.length = 2
    · obtain ⟨x, y, rfl⟩ : ∃ x y, l = [x, y] := by
        match l, h2 with
        | [x, y], _ => exact ⟨x, y, rfl⟩
      obtain ⟨hx, hy⟩ := hr x y rfl
      refine dSeq_open fun B hB => ?_
      walk_at "rd"
      walk_at "kb"
      rw [if_neg (by decide), ← hB]
      clear hB B
      walk_at "rd"
      refine ⟨_, _, rfl, hm0, big.2, hx, ?_⟩
      dsimp only
      replace q : Q (.bl (isRootD m x && isRootD m y)) M := q
      cases hi : isRootD m x with
      | false =>
        rw [hi] at q
        exact rtq q
      | true =>
        rw [hi] at q
        rw [if_pos rfl]
        refine ⟨_, _, rfl, hm0, big.2, hy, ?_⟩
        exact rtq q
    · rw [isPairD_len h2] at q
      walk_at "rd"
      walk_at "kb"
      have h3' : ¬ ((l.length : Nat) : Int) = 2 := by omega
      simp only [h3', not_false_eq_true, if_true, Bool.true_eq_false, if_false]
      exact rtq q
  · have e2 : isPairD m v = false := by
      unfold isPairD
      split
      · exact absurd ⟨_, rfl⟩ htup
      · rfl
    rw [e2] at q
    cases v <;> first | exact absurd ⟨_, rfl⟩ htup | (cases ht; done) | skip
    all_goals walk_at "rd"
    case own k =>
      unfold tyM at ht
      dsimp only at ht
      split at ht
      · rename_i ds hk
        simp only [hk]
        walk_at "kb"
        exact rtq q
      · cases ht
    all_goals walk_at "kb"
    all_goals exact rtq q
theorem Pl.pair {m a b c e X1 X2 Y1 Y2 N : Int} {M : Mem} {Q : DQ} {E : DX} (h : CM m a b c e) (p : Pl X1 X2 Y1 Y2 N) (q : Q (.bl true) M) : sp_pairX [T4 a b c e, .tup [nv m e X1 X2 N, nv m e Y1 Y2 N]] M Q E := by
  have hm0 : 0 ≤ m := by rw [← h.hm]; exact h.ck.m0
  have hmb : Bi 200 m := by rw [← h.hm]; exact h.ck.bm
  obtain ⟨hx, hy⟩ := p.rv h
  rw [h.hm] at hx hy
  obtain ⟨t1, t2, t3, k, T⟩ := hx.t3 hm0 hmb
  obtain ⟨s1, s2, s3, j, S⟩ := hy.t3 hm0 hmb
  refine ⟨m, a, b, c, e, _, rfl, h, ⟨⟨_, rfl⟩, fun x y hxy => ?_⟩, ?_⟩
  · cases hxy
    exact ⟨rootable_T3 M _ _ _, rootable_T3 M _ _ _⟩
  · unfold isPairD
    dsimp only
    rw [T.eq, S.eq, T.nf.is, S.nf.is]
    exact q
def sp_point_of : DSp := fun ds M Q _ => ∃ (m a b c e : Int) (pl pt : D), ds = [T4 a b c e, pl] ∧ CM m a b c e ∧ GoR m a b c e pl pt ∧ Q pt M
theorem rd_point_of : ∀ ds M Q, ds.length = 2 → sp_point_of ds M Q DX0 → t_point_of sp_check_cutting sp_pairX sp_spot sp_laid sp_normal (dEnds M Q) (startD 3 ds) M := by
  rintro _ M Q - ⟨m, a, b, c, e, pl, pt, rfl, h, ⟨X1, X2, Y1, Y2, N, p, RP, RQ, RN, UP, UQ, UN, rfl, hp, es, p01, rn0, r1, r2, r3, la⟩, q⟩
  unfold t_point_of
  walk_at "rd"
  refine ⟨a, b, c, e, rfl, h.ck.cut, ?_⟩
  refine hp.pair h ?_
  dsimp only
  rw [if_pos rfl]
  refine ⟨m, a, b, c, e, X1, X2, Y1, Y2, N, rfl, h, hp, ?_⟩
  rw [es]
  dsimp only
  rw [if_neg (by decide)]
  obtain ⟨f1, f2, f3, f4⟩ := la.fin
  refine ⟨m, a, b, c, e, p, RP, RQ, RN, UP, UQ, UN, rfl, h, p01, rn0, r1, r2, r3, ?_⟩
  exact ⟨m, a, b, c, e, _, _, rfl, h, la, rtq q (f3 _)⟩
def sp_point_by : DSp := fun ds M Q _ => ∃ (m a b c e : Int) (pl : D), ds = [T4 a b c e, pl] ∧ CM m a b c e ∧ ((∃ pt, GoR m a b c e pl pt ∧ ∀ t, (t = true ↔ pt = pl) → Q (.bl t) M) ∨
  (∃ X1 X2 Y1 Y2 N : Int, pl = .tup [nv m e X1 X2 N, nv m e Y1 Y2 N] ∧ Pl X1 X2 Y1 Y2 N ∧ spF m a b c e X1 X2 Y1 Y2 N = .non ∧ Q (.bl false) M) ∨
  (Pairable M pl ∧ isPairD m pl = false ∧ Q (.bl false) M))
theorem rd_is_point_by : ∀ ds M Q, ds.length = 2 → sp_point_by ds M Q DX0 → t_is_point_by sp_pairX sp_spot sp_laid sp_normal (dEnds M Q) (startD 3 ds) M := by
  rintro _ M Q - ⟨m, a, b, c, e, pl, rfl, h, hh⟩
  unfold t_is_point_by
  walk_at "rd"
  rcases hh with ⟨pt, ⟨X1, X2, Y1, Y2, N, p, RP, RQ, RN, UP, UQ, UN, rfl, hp, es, p01, rn0, r1, r2, r3, la⟩, q⟩ | ⟨X1, X2, Y1, Y2, N, rfl, hp, es, q⟩ | ⟨hp, hn, q⟩
  · refine hp.pair h ?_
    dsimp only
    rw [if_neg (by decide)]
    refine ⟨m, a, b, c, e, X1, X2, Y1, Y2, N, rfl, h, hp, ?_⟩
    rw [es]
    dsimp only
    rw [if_pos rfl]
    obtain ⟨f1, f2, f3, f4⟩ := la.fin
    refine ⟨m, a, b, c, e, p, RP, RQ, RN, UP, UQ, UN, rfl, h, p01, rn0, r1, r2, r3, ?_⟩
    refine ⟨m, a, b, c, e, _, _, rfl, h, la, ?_⟩
    refine gEq_iff (n := 4) f1 rfl f2 rfl fun t ht => ?_
    exact rtq (q t ht)
  · refine hp.pair h ?_
    dsimp only
    rw [if_neg (by decide)]
    refine ⟨m, a, b, c, e, X1, X2, Y1, Y2, N, rfl, h, hp, ?_⟩
    rw [es]
    dsimp only
    rw [if_neg (by decide)]
    exact rtq q
  · refine ⟨m, a, b, c, e, _, rfl, h, hp, ?_⟩
    rw [hn]
    dsimp only
    rw [if_pos rfl]
    exact rtq q
theorem rd_is_point : ∀ ds M Q, ds.length = 2 → sp_point_by ds M Q DX0 → t_is_point sp_check_cutting sp_point_by (dEnds M Q) (startD 2 ds) M := by
  rintro _ M Q - ⟨m, a, b, c, e, pl, rfl, h, hh⟩
  unfold t_is_point
  walk_at "rd"
  refine ⟨a, b, c, e, rfl, h.ck.cut, ?_⟩
  refine ⟨m, a, b, c, e, pl, rfl, h, ?_⟩
  rcases hh with ⟨pt, g, q⟩ | ⟨X1, X2, Y1, Y2, N, rfl, hp, es, q⟩ | ⟨hp, hn, q⟩
  · exact .inl ⟨pt, g, fun t ht => rtq (q t ht)⟩
  · exact .inr (.inl ⟨X1, X2, Y1, Y2, N, rfl, hp, es, rtq q⟩)
  · exact .inr (.inr ⟨hp, hn, rtq q⟩)
def sp_chkpoint : DSp := fun ds M Q _ => ∃ (m a b c e : Int) (pl : D), ds = [T4 a b c e, pl] ∧ CM m a b c e ∧ GoR m a b c e pl pl ∧ Q .non M
theorem rd_check_point : ∀ ds M Q, ds.length = 2 → sp_chkpoint ds M Q DX0 → t_check_point sp_point_by (dEnds M Q) (startD 2 ds) M := by
  rintro _ M Q - ⟨m, a, b, c, e, pl, rfl, h, g, q⟩
  unfold t_check_point
  walk_at "rd"
  refine ⟨m, a, b, c, e, pl, rfl, h, .inl ⟨pl, g, fun t ht => ?_⟩⟩
  rw [ht.2 rfl]
  dsimp only
  rw [if_neg (by decide)]
  exact rtq q
def sp_piece : DSp := fun ds M Q _ => ∃ (m a b c e X1 X2 Y1 Y2 N : Int), ds = [T4 a b c e, .tup [nv m e X1 X2 N, nv m e Y1 Y2 N]] ∧ CM m a b c e ∧ Pl X1 X2 Y1 Y2 N ∧
  GoR m a b c e (.tup [nv m e X1 X2 N, nv m e Y1 Y2 N]) (.tup [nv m e X1 X2 N, nv m e Y1 Y2 N]) ∧ Q (.int (if 0 ≤ sgn m e (Y1 - c * N) Y2 then 1 else 0)) M
theorem rd_piece_of : ∀ ds M Q, ds.length = 2 → sp_piece ds M Q DX0 → t_piece_of sp_check_cutting sp_chkpoint sp_measure_by sp_side_by sp_minus_by (dEnds M Q) (startD 3 ds) M := by
  rintro _ M Q - ⟨m, a, b, c, e, X1, X2, Y1, Y2, N, rfl, h, p, g, q⟩
  have vy : NV m e 150 (nv m e Y1 Y2 N) Y1 Y2 N := ⟨rfl, p.n0, p.y1, p.y2, p.bn⟩
  have cN := (h.bc.mul p.bn).up (by decide : 40 + 150 ≤ 289)
  have bU : Bi 290 (Y1 - c * N) := (p.y1.up (by decide : 150 ≤ 289)).sub cN
  unfold t_piece_of
  walk_at "rd"
  refine ⟨a, b, c, e, rfl, h.ck.cut, ?_⟩
  refine ⟨m, a, b, c, e, _, rfl, h, g, ?_⟩
  refine ⟨a, b, c, e, rfl, h.ck.bb.mono, h.ck.bc.mono, h.ck.be.mono, ?_⟩
  rw [h.hm]
  refine nminusC (k := 290) h.ck h.hm (vy.up (by decide)) ((nv_int h.bc (by decide)).up (by decide)) (Y1 - c * N) Y2 N (by grind) (by grind) p.n0 bU (p.y2.up (by decide)) (p.bn.up (by decide)) fun U vU => ?_
  refine sideN (k := 290) h vU ?_
  exact rtq q
end DL
namespace DL
open PySem PySem.Spec PyProof.Rows L2
local macro_rules | `(tactic| walk_at "rd") => `(tactic| simp only [startD, List.map, List.replicate, List.length_cons, List.length_nil, List.append_eq, List.append_nil, List.nil_append, List.cons_append, Nat.reduceSub, Nat.reduceAdd, List.getElem?_cons_zero, List.getElem?_cons_succ, List.set_cons_zero, List.set_cons_succ,
  dC, dVar, dOp, dTru, gTru, tru, dChain, dAnd, dOr, dNot, dAndV, dOrV, dNotV, dIf, dNeg, gNeg, dNil, dCons, dTup, dLst, dOwn, gIx, rBin, gAdd, gCmpI, dCall, dCallK, dSeq, dNext, dDrop, dRet, dRetN, dIfS, dName, dGNil, dGCons, dGTup, dSub, gSetL, dAsg, dPar, dPar3, dAug, gIpI, dSeqI, gSeqI, dRngI, gRng1, gRng2, dCB, gAbs, gInt, gMax, gMin, gGcd, gLen, lenD, gIsi, tyM, tyD, dBits, gBits, dMet, gAppend, dPart, dNoPart, dSl, gSl_tup, gSl_lst, cut_1, dEnds, gIs, isB, dNever, dCallX, dRaise, dTry, dFld, dCallV, gLRng, gFrz, dFrz, dFor, dLc, wipeD, dYes,
  sizeLine_eq, Nat.reduceLeDiff, gEq_int, gNe_int, gEq_strs, gNe_strs, gIn_two, gRepr_bl, rs_lst, rs_tup, rs_scr, rs_int, atI_0, atI_1, atI_2, atI_3, atI_4, atI_5, ixN_30, ixN_31, ixN_32, gEq_bl, gNe_bl, decide_eq_true_eq, beq_iff_eq, Bool.not_eq_true', beq_eq_false_iff_ne, decide_eq_false_iff_not, Bool.not_true, Bool.not_false, if_true, if_false, Bool.false_eq_true, ite_true, ite_false, true_and, and_true, ne_eq, Bool.bne_false, Bool.bne_true, reduceCtorEq])
local macro_rules | `(tactic| walk_at "rh") => `(tactic| simp only [*, startD, List.map, List.replicate, List.length_cons, List.length_nil, List.append_eq, List.append_nil, List.nil_append, List.cons_append, Nat.reduceSub, Nat.reduceAdd, List.getElem?_cons_zero, List.getElem?_cons_succ, List.set_cons_zero, List.set_cons_succ,
  dC, dVar, dOp, dTru, gTru, tru, dChain, dAnd, dOr, dNot, dAndV, dOrV, dNotV, dIf, dNeg, gNeg, dNil, dCons, dTup, dLst, dOwn, gIx, rBin, gAdd, gCmpI, dCall, dCallK, dSeq, dNext, dDrop, dRet, dRetN, dIfS, dName, dGNil, dGCons, dGTup, dSub, gSetL, dAsg, dPar, dPar3, dAug, gIpI, dSeqI, gSeqI, dRngI, gRng1, gRng2, dCB, gAbs, gInt, gMax, gMin, gGcd, gLen, lenD, gIsi, tyM, tyD, dBits, gBits, dMet, gAppend, dPart, dNoPart, dSl, gSl_tup, gSl_lst, cut_1, dEnds, gIs, isB, dNever, dCallX, dRaise, dTry, dFld, dCallV, gLRng, gFrz, dFrz, dFor, dLc, wipeD, dYes,
  sizeLine_eq, Nat.reduceLeDiff, gEq_int, gNe_int, gEq_strs, gNe_strs, gIn_two, gRepr_bl, rs_lst, rs_tup, rs_scr, rs_int, atI_0, atI_1, atI_2, atI_3, atI_4, atI_5, ixN_30, ixN_31, ixN_32, gEq_bl, gNe_bl, decide_eq_true_eq, beq_iff_eq, Bool.not_eq_true', beq_eq_false_iff_ne, decide_eq_false_iff_not, Bool.not_true, Bool.not_false, if_true, if_false, Bool.false_eq_true, ite_true, ite_false, true_and, and_true, ne_eq, Bool.bne_false, Bool.bne_true, reduceCtorEq])
local macro_rules | `(tactic| walk_at "kb") => `(tactic| simp only [kb_NoneType_list, kb_bool_list, kb_int_list, kb_str_list, kb_tuple_list, kb_list_list, kb_dict_list, kb_NoneType_int, kb_bool_int, kb_int_int, kb_str_int, kb_tuple_int, kb_list_int, kb_dict_int, kb_NoneType_bool, kb_bool_bool, kb_int_bool, kb_str_bool, kb_tuple_bool, kb_list_bool, kb_dict_bool, kb_NoneType_tuple, kb_bool_tuple, kb_int_tuple, kb_str_tuple, kb_tuple_tuple, kb_list_tuple, kb_dict_tuple, if_true, if_false, Bool.false_eq_true, ite_true, ite_false, Bool.not_true, Bool.not_false])
/-! RdZA: the edges, the corners, places beside the sheet: what spot_by says of them (no program in sight) -/
class BI (x : Int) (n : outParam Nat) : Prop where
  b : Bi n x
instance BI.add {x y : Int} {n k : Nat} [h : BI x n] [g : BI y k] : BI (x + y) (max n k + 1) := ⟨(h.b.up (Nat.le_max_left n k)).add (g.b.up (Nat.le_max_right n k))⟩
instance BI.sub {x y : Int} {n k : Nat} [h : BI x n] [g : BI y k] : BI (x - y) (max n k + 1) := ⟨(h.b.up (Nat.le_max_left n k)).sub (g.b.up (Nat.le_max_right n k))⟩
instance BI.mul {x y : Int} {n k : Nat} [h : BI x n] [g : BI y k] : BI (x * y) (n + k) := ⟨h.b.mul g.b⟩
instance BI.zero : BI 0 1 := ⟨Bi.of_abs 0 (by decide) (by decide)⟩
instance BI.one : BI 1 1 := ⟨Bi.of_abs 1 (by decide) (by decide)⟩
instance BI.two : BI 2 2 := ⟨Bi.of_abs 2 (by decide) (by decide)⟩
theorem bi {x : Int} {n k : Nat} [h : BI x n] (hk : n ≤ k := by decide) : Bi k x := h.b.up hk
theorem bi_self (x : Int) : Bi x.natAbs x := Nat.lt_two_pow_self
local macro_rules | `(tactic| walk_at "pz") => `(tactic| first | assumption | omega | (apply Int.mul_pos <;> walk_at "pz") | (apply Int.add_pos_of_pos_of_nonneg <;> first | walk_at "pz" | walk_at "nz") | (apply Int.add_pos_of_nonneg_of_pos <;> first | walk_at "pz" | walk_at "nz"))
local macro_rules | `(tactic| walk_at "nz") => `(tactic| first | assumption | omega | (apply Int.mul_nonneg <;> walk_at "nz") | (apply Int.add_nonneg <;> walk_at "nz") | (apply Int.le_of_lt; walk_at "pz"))
theorem nv_eq {m e P Q N P' Q' N' : Int} (n0 : 0 < N) (n1 : 0 < N') (h1 : P * N' = P' * N) (h2 : Q * N' = Q' * N) : nv m e P Q N = nv m e P' Q' N' := by
  unfold nv
  refine rn_eq (by omega) (by omega) ?_ ?_
  · have : (2 * P + Q * e) * (2 * N') = 2 * (2 * (P * N') + Q * N' * e) := by grind
    rw [this, h1, h2]; grind
  · have : Q * (2 * N') = 2 * (Q * N') := by grind
    rw [this, h2]; grind
theorem nv_ne {m a b c e P Q N P' Q' N' s : Int} (h : CM m a b c e) (n0 : 0 < N) (n1 : 0 < N') (g : Sg b (P * N' - P' * N) (Q * N' - Q' * N) s) (hs : s ≠ 0) : nv m e P Q N ≠ nv m e P' Q' N' := by
  have u : ∀ x k, x.natAbs ≤ k → Bi k x := fun x k hk => (bi_self x).up hk
  have vx : NV m e (max P.natAbs (max Q.natAbs N.natAbs)) (nv m e P Q N) P Q N := ⟨rfl, n0, u _ _ (by omega), u _ _ (by omega), u _ _ (by omega)⟩
  have vy : NV m e (max P'.natAbs (max Q'.natAbs N'.natAbs)) (nv m e P' Q' N') P' Q' N' := ⟨rfl, n1, u _ _ (by omega), u _ _ (by omega), u _ _ (by omega)⟩
  exact NV.ne h.ck h.hm vx vy g hs
theorem nv_i {m e i : Int} : T3 i 0 1 = nv m e i 0 1 := (nv_int (m := m) (e := e) (k := max i.natAbs 1) ((bi_self i).up (by omega)) (by omega)).eq
theorem nv_z {m e : Int} : zT = nv m e 0 0 1 := nv_i (i := 0)
theorem nv_s {m e : Int} : cS m e = nv m e 0 1 1 := by unfold cS nv; rw [show 2 * (0 : Int) + 1 * e = e by omega, Int.mul_one]
namespace Sg
variable {b P Q P' Q' : Int}
theorem p (P' Q' : Int) (h1 : P = P') (h2 : Q = Q') (k1 : 0 ≤ P') (k2 : 0 ≤ Q') (k3 : 0 < P' ∨ 0 < Q') : Sg b P Q 1 := by rw [h1, h2]; exact .inl ⟨rfl, .inl ⟨k1, k2, k3⟩⟩
theorem pb (K T : Int) (h1 : P = K * b + T) (h2 : Q = -K) (k1 : 0 < K) (k2 : 0 ≤ T) : Sg b P Q 1 := by
  subst h1 h2
  refine .inl ⟨rfl, .inr ⟨by omega, ?_⟩⟩
  rw [Int.neg_mul]; omega
theorem z (h1 : P = 0) (h2 : Q = 0) : Sg b P Q 0 := .inr (.inl ⟨rfl, h1, h2⟩)
theorem n (P' Q' : Int) (h1 : -P = P') (h2 : -Q = Q') (k1 : 0 ≤ P') (k2 : 0 ≤ Q') (k3 : 0 < P' ∨ 0 < Q') : Sg b P Q (-1) := by refine .inr (.inr ⟨rfl, ?_⟩); rw [h1, h2]; exact .inl ⟨k1, k2, k3⟩
theorem nb (K T : Int) (h1 : -P = K * b + T) (h2 : Q = K) (k1 : 0 < K) (k2 : 0 ≤ T) : Sg b P Q (-1) := by
  subst h2
  refine .inr (.inr ⟨rfl, ?_⟩)
  rw [h1]
  refine .inr ⟨by omega, ?_⟩
  rw [Int.neg_mul]; omega
end Sg
section
variable {m a b c e X1 X2 Y1 Y2 N : Int}
theorem spF0 (h : CM m a b c e) {y w u r t : Int} (hy : Sg b Y1 Y2 y) (hw : Sg b (Y1 - c * N) (Y2 - N) w) (hu : Sg b (Y1 - c * N) Y2 u) (hr : Sg b (X1 * c - a * Y1) (X2 * c - a * Y2) r) (ht : Sg b (X1 * c - a * Y1 - b * c * N) (X2 * c - a * Y2) t)
    (k : 0 ≤ y ∧ w ≤ 0 ∧ u ≤ 0 ∧ 0 ≤ r ∧ t ≤ 0 := by decide) : spF m a b c e X1 X2 Y1 Y2 N = .tup [.int 0, nv m e (X1 * c - a * Y1) (X2 * c - a * Y2) (c * N), nv m e Y1 Y2 N] := by
  unfold spF
  rw [hy.sgn h, hw.sgn h, hu.sgn h, hr.sgn h, ht.sgn h, if_neg (by omega), if_pos (by omega)]
theorem spF1 (h : CM m a b c e) {y w r t : Int} (hy : Sg b Y1 Y2 y) (hw : Sg b (Y1 - c * N) (Y2 - N) w) (hu : Sg b (Y1 - c * N) Y2 1) (hr : Sg b (X1 - a * N) X2 r) (ht : Sg b (X1 - a * N) (X2 - N) t)
    (k : 0 ≤ y ∧ w ≤ 0 ∧ 0 ≤ r ∧ t ≤ 0 := by decide) : spF m a b c e X1 X2 Y1 Y2 N = .tup [.int 1, nv m e (X1 - a * N) X2 N, nv m e (Y1 - c * N) Y2 N] := by
  unfold spF
  rw [hy.sgn h, hw.sgn h, hu.sgn h, hr.sgn h, ht.sgn h, if_neg (by omega), if_neg (by omega), if_pos (by omega)]
/-- a place beside the sheet -/
def Out (a b c X1 X2 Y1 Y2 N : Int) : Prop := Sg b Y1 Y2 (-1) ∨ Sg b (Y1 - c * N) (Y2 - N) 1 ∨
  (Sg b (Y1 - c * N) Y2 (-1) ∧ (Sg b (X1 * c - a * Y1) (X2 * c - a * Y2) (-1) ∨ Sg b (X1 * c - a * Y1 - b * c * N) (X2 * c - a * Y2) 1)) ∨
  (Sg b (Y1 - c * N) Y2 1 ∧ (Sg b (X1 - a * N) X2 (-1) ∨ Sg b (X1 - a * N) (X2 - N) 1)) ∨
  ((Sg b (X1 * c - a * Y1) (X2 * c - a * Y2) (-1) ∨ Sg b (X1 * c - a * Y1 - b * c * N) (X2 * c - a * Y2) 1) ∧ (Sg b (X1 - a * N) X2 (-1) ∨ Sg b (X1 - a * N) (X2 - N) 1))
theorem Out.spF (h : CM m a b c e) (o : Out a b c X1 X2 Y1 Y2 N) : spF m a b c e X1 X2 Y1 Y2 N = .non := by
  unfold DL.spF
  split
  · rfl
  rename_i h0
  rcases o with o | o | ⟨o, o2⟩ | ⟨o, o2⟩ | ⟨o, o2⟩
  · exact absurd (.inl (by rw [o.sgn h]; decide)) h0
  · exact absurd (.inr (by rw [o.sgn h]; decide)) h0
  · rw [if_neg, if_neg]
    · rw [o.sgn h]; omega
    · rcases o2 with o2 | o2
      · rw [o2.sgn h]; omega
      · rw [o2.sgn h]; omega
  · rw [if_neg, if_neg]
    · rcases o2 with o2 | o2
      · rw [o2.sgn h]; omega
      · rw [o2.sgn h]; omega
    · rw [o.sgn h]; omega
  · rw [if_neg, if_neg]
    · rcases o2 with o2 | o2
      · rw [o2.sgn h]; omega
      · rw [o2.sgn h]; omega
    · rcases o with o | o
      · rw [o.sgn h]; omega
      · rw [o.sgn h]; omega
end
section
variable {m b c e p sb : Int} {R U : D}
theorem nspA (h1 : U ≠ (if p = 0 then T3 c 0 1 else cS m e)) (h2 : U = zT → R ≠ zT ∧ R ≠ cS m e ∧ (p = 0 → R ≠ T3 b 0 1)) (h3 : R ≠ (if p = 0 then T3 b 0 1 else cS m e)) : nsp m b c e p R U sb = .tup [.int p, R, U] := by
  unfold nsp
  rw [if_neg h1, if_neg, if_neg h3]
  rintro ⟨k, k2⟩
  obtain ⟨h4, h5, h6⟩ := h2 k
  rcases k2 with k2 | k2 | k2
  · exact h4 k2
  · exact h5 k2
  · exact h6 k2.1 k2.2
theorem nspB (h1 : U ≠ (if p = 0 then T3 c 0 1 else cS m e)) (h2 : U ≠ zT) (h3 : R = (if p = 0 then T3 b 0 1 else cS m e)) : nsp m b c e p R U sb = .tup [.int p, zT, U] := by
  unfold nsp
  rw [if_neg h1, if_neg (fun k => h2 k.1), if_pos h3]
theorem nspC (h1 : U = T3 c 0 1) (h2 : R ≠ zT) (h3 : R ≠ cS m e) (h4 : sb < 0) : nsp m b c e 0 R U sb = .tup [.int 1, R, zT] := by
  unfold nsp
  rw [if_pos (by rw [if_pos rfl]; exact h1), if_neg, if_pos ⟨rfl, h4⟩]
  rintro (k | k | k)
  · exact h2 k
  · exact h3 k
  · exact k.1 ⟨rfl, h4⟩
theorem nspD (h1 : U = (if p = 0 then T3 c 0 1 else cS m e)) (h2 : R ≠ zT) (h3 : R ≠ cS m e) (h5 : R ≠ T3 b 0 1) (h4 : ¬ (p = 0 ∧ sb < 0)) : nsp m b c e p R U sb = .tup [.int 0, R, zT] := by
  unfold nsp
  rw [if_pos h1, if_neg, if_neg h4]
  rintro (k | k | k)
  · exact h2 k
  · exact h3 k
  · exact h5 k.2
theorem nspE (h1 : U = (if p = 0 then T3 c 0 1 else cS m e)) (h2 : R = zT ∨ R = cS m e ∨ (¬ (p = 0 ∧ sb < 0) ∧ R = T3 b 0 1)) : nsp m b c e p R U sb = .non := by
  unfold nsp
  rw [if_pos h1, if_pos h2]
theorem nspF (h1 : U ≠ (if p = 0 then T3 c 0 1 else cS m e)) (h2 : U = zT) (h3 : R = zT ∨ R = cS m e ∨ (p = 0 ∧ R = T3 b 0 1)) : nsp m b c e p R U sb = .non := by
  unfold nsp
  rw [if_neg h1, if_pos ⟨h2, h3⟩]
end
/-! ### the corners and the edges -/
def k1 (a b : Int) : Nat → Int
  | 0 => 0 | 1 => 0 | 2 => b | 3 => a + b | 4 => a | 5 => a | 6 => a | 7 => a | _ => 0
def k2 : Nat → Int
  | 0 => 0 | 1 => 1 | 2 => 0 | 3 => 0 | 4 => 1 | 5 => 1 | 6 => 0 | 7 => 0 | _ => 0
def k3 (c : Int) : Nat → Int
  | 0 => 0 | 1 => 0 | 2 => 0 | 3 => c | 4 => c | 5 => c | 6 => c | 7 => c | _ => 0
def k4 : Nat → Int
  | 0 => 0 | 1 => 0 | 2 => 0 | 3 => 0 | 4 => 0 | 5 => 1 | 6 => 1 | 7 => 0 | _ => 0
def crn (m a b c e : Int) (i : Nat) : D := .tup [nv m e (k1 a b i) (k2 i) 1, nv m e (k3 c i) (k4 i) 1]
/-- along an edge -/
def gX (a b s n : Int) : Nat → Int
  | 0 => 0 | 1 => s * b | 2 => b * n + a * s | 3 => (a + b) * n - b * s | 4 => a * n | 5 => a * n | 6 => a * n | 7 => a * (n - s) | _ => 0
def gX2 (s n : Int) : Nat → Int
  | 0 => s | 1 => n - s | 2 => 0 | 3 => s | 4 => n | 5 => n - s | 6 => 0 | 7 => 0 | _ => 0
def gY (c s n : Int) : Nat → Int
  | 0 => 0 | 1 => 0 | 2 => c * s | 3 => c * n | 4 => c * n | 5 => c * n | 6 => c * n | 7 => c * (n - s) | _ => 0
def gY2 (s n : Int) : Nat → Int
  | 0 => 0 | 1 => 0 | 2 => 0 | 3 => 0 | 4 => s | 5 => n | 6 => n - s | 7 => 0 | _ => 0
def Eg (m a b c e : Int) (i : Nat) (s n : Int) : D := .tup [nv m e (gX a b s n i) (gX2 s n i) n, nv m e (gY c s n i) (gY2 s n i) n]
/-- the signs of the numbers -/
structure CB (a b c : Int) : Prop where
  b0 : 0 < b
  c0 : 0 < c
  a0 : 0 ≤ a
  ac : a < c
theorem CM.cb {m a b c e : Int} (h : CM m a b c e) : CB a b c := by
  obtain ⟨k1, k2, k3, k4, k5, _⟩ := cut_parts h.ck.cut
  refine ⟨by omega, by omega, k4, ?_⟩
  have : (Int.gcd b c : Int) ≤ c := Int.le_of_dvd (by omega) (Int.gcd_dvd_right ..)
  omega
section
variable {m a b c e s n P Q N i t k w : Int}
theorem ne_i (h : CM m a b c e) (n0 : 0 < N) (g : Sg b (P - i * N) Q t) (ht : t ≠ 0 := by decide) : nv m e P Q N ≠ T3 i 0 1 := by
  rw [nv_i (m := m) (e := e)]
  exact nv_ne h n0 (by decide) (by rwa [Int.mul_one, Int.mul_one, Int.zero_mul, Int.sub_zero]) ht
theorem ne_z (h : CM m a b c e) (n0 : 0 < N) (g : Sg b P Q t) (ht : t ≠ 0 := by decide) : nv m e P Q N ≠ zT := 
  ne_i h n0 (i := 0) (by rwa [Int.zero_mul, Int.sub_zero]) ht
theorem ne_s (h : CM m a b c e) (n0 : 0 < N) (g : Sg b P (Q - N) t) (ht : t ≠ 0 := by decide) : nv m e P Q N ≠ cS m e := by
  rw [nv_s]
  exact nv_ne h n0 (by decide) (by rwa [Int.mul_one, Int.mul_one, Int.zero_mul, Int.sub_zero, Int.one_mul]) ht
theorem eq_i (n0 : 0 < N) (h1 : P = i * N) (h2 : Q = 0) : nv m e P Q N = T3 i 0 1 := by
  rw [nv_i (m := m) (e := e)]
  exact nv_eq n0 (by decide) (by rw [h1, Int.mul_one]) (by rw [h2]; omega)
theorem eq_z (n0 : 0 < N) (h1 : P = 0) (h2 : Q = 0) : nv m e P Q N = zT := eq_i n0 (by rw [h1]; omega) h2
theorem eq_s (n0 : 0 < N) (h1 : P = 0) (h2 : Q = N) : nv m e P Q N = cS m e := by
  rw [nv_s]
  exact nv_eq n0 (by decide) (by rw [h1]; omega) (by rw [h2]; omega)
theorem tup2_eq {x y x' y' : D} (h1 : x = x') (h2 : y = y') : D.tup [x, y] = .tup [x', y'] := by rw [h1, h2]
theorem la1_eq {m a c e RP RQ RN UP UQ UN : Int} : laF m a c e 1 RP RQ RN UP UQ UN = .tup [nv m e (RP + a * RN) RQ RN, nv m e (UP + c * UN) UQ UN] := if_pos rfl
theorem la0_eq {m a c e RP RQ RN UP UQ UN : Int} : laF m a c e 0 RP RQ RN UP UQ UN = .tup [nv m e (RP * (UN * c) + UP * a * RN) (RQ * (UN * c) + UQ * a * RN) (RN * (UN * c)), nv m e UP UQ UN] := if_neg (by decide)
theorem nzU {x R : D} : D.tup [x, R, zT] = .tup [x, R, nv m e 0 0 1] := by rw [← nv_z]
theorem nzR {x U : D} : D.tup [x, zT, U] = .tup [x, nv m e 0 0 1, U] := by rw [← nv_z]
-- edges35.py from here
theorem eg0 (h : CM m a b c e) (s0 : 0 < s) (sn : s < n) (hn : Bi 20 n) : GoR m a b c e (Eg m a b c e 0 s n) (Eg m a b c e 0 s n) := by
  obtain ⟨b0, c0, a0, ac⟩ := h.cb
  have : BI a 40 := ⟨h.ba⟩
  have : BI b 40 := ⟨h.bb⟩
  have : BI c 40 := ⟨h.bc⟩
  have : BI n 20 := ⟨hn⟩
  have : BI s 20 := ⟨hn.btw (by omega) sn⟩
  have n0 : 0 < n := by omega
  have d0 : 0 < n - s := by omega
  have cn : 0 < c * n := by walk_at "pz"
  refine ⟨_, _, _, _, n, 0, _, _, _, _, _, _, rfl, ⟨n0, ?_, ?_, ?_, ?_, ?_⟩, spF0 h (y := 0) (w := -1) (u := -1) (r := 1) (t := -1) ?_ ?_ ?_ ?_ ?_, .inl rfl, cn, ?_, ?_, ?_, .inr ⟨0, _, _, _, _, _, _, nspA ?_ ?_ ?_, .inl rfl, ?_, ?_, ?_, ?_, ?_, ?_, ?_, ?_, ?_⟩⟩
  all_goals try simp only [gX, gX2, gY, gY2, if_true, show ¬ (1 : Int) = 0 by decide, if_false]
  all_goals try exact bi
  · exact .z (by grind) (by grind)
  · exact .n (c * n) (n) (by grind) (by grind) (by walk_at "nz") (by walk_at "nz") (.inl (by walk_at "pz"))
  · exact .n (c * n) (0) (by grind) (by grind) (by walk_at "nz") (by walk_at "nz") (.inl (by walk_at "pz"))
  · exact .p (0) (s * c) (by grind) (by grind) (by walk_at "nz") (by walk_at "nz") (.inr (by walk_at "pz"))
  · exact .nb (s * c) (b * c * (n - s)) (by grind) (by grind) (by walk_at "pz") (by walk_at "nz")
  · exact ne_i h n0 (.n (c * n) (0) (by grind) (by grind) (by walk_at "nz") (by walk_at "nz") (.inl (by walk_at "pz")))
  · exact fun _ => ⟨ne_z h cn (.p (0) (s * c) (by grind) (by grind) (by walk_at "nz") (by walk_at "nz") (.inr (by walk_at "pz"))), ne_s h cn (.n (0) ((n - s) * c) (by grind) (by grind) (by walk_at "nz") (by walk_at "nz") (.inr (by walk_at "pz"))), fun _ => ne_i h cn (.nb (s * c) (b * c * (n - s)) (by grind) (by grind) (by walk_at "pz") (by walk_at "nz"))⟩
  · exact ne_i h cn (.nb (s * c) (b * c * (n - s)) (by grind) (by grind) (by walk_at "pz") (by walk_at "nz"))
  · walk_at "pz"
  · walk_at "pz"
  · rw [la0_eq]
    unfold Eg
    simp only [gX, gX2, gY, gY2]
    exact tup2_eq (nv_eq (by walk_at "pz") (by walk_at "pz") (by grind) (by grind)) (nv_eq (by walk_at "pz") (by walk_at "pz") (by grind) (by grind))
theorem eg1 (h : CM m a b c e) (s0 : 0 < s) (sn : s < n) (hn : Bi 20 n) : GoR m a b c e (Eg m a b c e 1 s n) (Eg m a b c e 1 s n) := by
  obtain ⟨b0, c0, a0, ac⟩ := h.cb
  have : BI a 40 := ⟨h.ba⟩
  have : BI b 40 := ⟨h.bb⟩
  have : BI c 40 := ⟨h.bc⟩
  have : BI n 20 := ⟨hn⟩
  have : BI s 20 := ⟨hn.btw (by omega) sn⟩
  have n0 : 0 < n := by omega
  have d0 : 0 < n - s := by omega
  have cn : 0 < c * n := by walk_at "pz"
  refine ⟨_, _, _, _, n, 0, _, _, _, _, _, _, rfl, ⟨n0, ?_, ?_, ?_, ?_, ?_⟩, spF0 h (y := 0) (w := -1) (u := -1) (r := 1) (t := -1) ?_ ?_ ?_ ?_ ?_, .inl rfl, cn, ?_, ?_, ?_, .inr ⟨0, _, _, _, _, _, _, nspA ?_ ?_ ?_, .inl rfl, ?_, ?_, ?_, ?_, ?_, ?_, ?_, ?_, ?_⟩⟩
  all_goals try simp only [gX, gX2, gY, gY2, if_true, show ¬ (1 : Int) = 0 by decide, if_false]
  all_goals try exact bi
  · exact .z (by grind) (by grind)
  · exact .n (c * n) (n) (by grind) (by grind) (by walk_at "nz") (by walk_at "nz") (.inl (by walk_at "pz"))
  · exact .n (c * n) (0) (by grind) (by grind) (by walk_at "nz") (by walk_at "nz") (.inl (by walk_at "pz"))
  · exact .p (s * b * c) ((n - s) * c) (by grind) (by grind) (by walk_at "nz") (by walk_at "nz") (.inr (by walk_at "pz"))
  · exact .nb ((n - s) * c) (0) (by grind) (by grind) (by walk_at "pz") (by walk_at "nz")
  · exact ne_i h n0 (.n (c * n) (0) (by grind) (by grind) (by walk_at "nz") (by walk_at "nz") (.inl (by walk_at "pz")))
  · exact fun _ => ⟨ne_z h cn (.p (s * b * c) ((n - s) * c) (by grind) (by grind) (by walk_at "nz") (by walk_at "nz") (.inr (by walk_at "pz"))), ne_s h cn (.pb (s * c) (0) (by grind) (by grind) (by walk_at "pz") (by walk_at "nz")), fun _ => ne_i h cn (.nb ((n - s) * c) (0) (by grind) (by grind) (by walk_at "pz") (by walk_at "nz"))⟩
  · exact ne_i h cn (.nb ((n - s) * c) (0) (by grind) (by grind) (by walk_at "pz") (by walk_at "nz"))
  · walk_at "pz"
  · walk_at "pz"
  · rw [la0_eq]
    unfold Eg
    simp only [gX, gX2, gY, gY2]
    exact tup2_eq (nv_eq (by walk_at "pz") (by walk_at "pz") (by grind) (by grind)) (nv_eq (by walk_at "pz") (by walk_at "pz") (by grind) (by grind))
theorem eg2 (h : CM m a b c e) (s0 : 0 < s) (sn : s < n) (hn : Bi 20 n) : GoR m a b c e (Eg m a b c e 2 s n) (Eg m a b c e 7 (n - s) n) := by
  obtain ⟨b0, c0, a0, ac⟩ := h.cb
  have : BI a 40 := ⟨h.ba⟩
  have : BI b 40 := ⟨h.bb⟩
  have : BI c 40 := ⟨h.bc⟩
  have : BI n 20 := ⟨hn⟩
  have : BI s 20 := ⟨hn.btw (by omega) sn⟩
  have n0 : 0 < n := by omega
  have d0 : 0 < n - s := by omega
  have cn : 0 < c * n := by walk_at "pz"
  refine ⟨_, _, _, _, n, 0, _, _, _, _, _, _, rfl, ⟨n0, ?_, ?_, ?_, ?_, ?_⟩, spF0 h (y := 1) (w := -1) (u := -1) (r := 1) (t := 0) ?_ ?_ ?_ ?_ ?_, .inl rfl, cn, ?_, ?_, ?_, .inr ⟨0, 0, 0, 1, c * s, 0, n, (nspB ?_ ?_ ?_).trans nzR, .inl rfl, ?_, ?_, ?_, ?_, ?_, ?_, ?_, ?_, ?_⟩⟩
  all_goals try simp only [gX, gX2, gY, gY2, if_true, show ¬ (1 : Int) = 0 by decide, if_false]
  all_goals try exact bi
  · exact .p (c * s) (0) (by grind) (by grind) (by walk_at "nz") (by walk_at "nz") (.inl (by walk_at "pz"))
  · exact .n (c * (n - s)) (n) (by grind) (by grind) (by walk_at "nz") (by walk_at "nz") (.inl (by walk_at "pz"))
  · exact .n (c * (n - s)) (0) (by grind) (by grind) (by walk_at "nz") (by walk_at "nz") (.inl (by walk_at "pz"))
  · exact .p (b * n * c) (0) (by grind) (by grind) (by walk_at "nz") (by walk_at "nz") (.inl (by walk_at "pz"))
  · exact .z (by grind) (by grind)
  · exact ne_i h n0 (.n (c * (n - s)) (0) (by grind) (by grind) (by walk_at "nz") (by walk_at "nz") (.inl (by walk_at "pz")))
  · exact ne_z h n0 (.p (c * s) (0) (by grind) (by grind) (by walk_at "nz") (by walk_at "nz") (.inl (by walk_at "pz")))
  · exact eq_i cn (by grind) (by grind)
  · walk_at "pz"
  · walk_at "pz"
  · rw [la0_eq]
    unfold Eg
    simp only [gX, gX2, gY, gY2]
    exact tup2_eq (nv_eq (by walk_at "pz") (by walk_at "pz") (by grind) (by grind)) (nv_eq (by walk_at "pz") (by walk_at "pz") (by grind) (by grind))
theorem eg3 (h : CM m a b c e) (s0 : 0 < s) (sn : s < n) (hn : Bi 20 n) : GoR m a b c e (Eg m a b c e 3 s n) (Eg m a b c e 1 (n - s) n) := by
  obtain ⟨b0, c0, a0, ac⟩ := h.cb
  have : BI a 40 := ⟨h.ba⟩
  have : BI b 40 := ⟨h.bb⟩
  have : BI c 40 := ⟨h.bc⟩
  have : BI n 20 := ⟨hn⟩
  have : BI s 20 := ⟨hn.btw (by omega) sn⟩
  have n0 : 0 < n := by omega
  have d0 : 0 < n - s := by omega
  have cn : 0 < c * n := by walk_at "pz"
  refine ⟨_, _, _, _, n, 0, _, _, _, _, _, _, rfl, ⟨n0, ?_, ?_, ?_, ?_, ?_⟩, spF0 h (y := 1) (w := -1) (u := 0) (r := 1) (t := -1) ?_ ?_ ?_ ?_ ?_, .inl rfl, cn, ?_, ?_, ?_, .inr ⟨0, _, _, _, 0, 0, 1, (nspD ?_ ?_ ?_ ?_ ?_).trans nzU, .inl rfl, ?_, ?_, ?_, ?_, ?_, ?_, ?_, ?_, ?_⟩⟩
  all_goals try simp only [gX, gX2, gY, gY2, if_true, show ¬ (1 : Int) = 0 by decide, if_false]
  all_goals try exact bi
  · exact .p (c * n) (0) (by grind) (by grind) (by walk_at "nz") (by walk_at "nz") (.inl (by walk_at "pz"))
  · exact .n (0) (n) (by grind) (by grind) (by walk_at "nz") (by walk_at "nz") (.inr (by walk_at "pz"))
  · exact .z (by grind) (by grind)
  · exact .p (b * (n - s) * c) (s * c) (by grind) (by grind) (by walk_at "nz") (by walk_at "nz") (.inr (by walk_at "pz"))
  · exact .nb (s * c) (0) (by grind) (by grind) (by walk_at "pz") (by walk_at "nz")
  · exact eq_i n0 (by grind) (by grind)
  · exact ne_z h cn (.p (b * (n - s) * c) (s * c) (by grind) (by grind) (by walk_at "nz") (by walk_at "nz") (.inr (by walk_at "pz")))
  · exact ne_s h cn (.pb ((n - s) * c) (0) (by grind) (by grind) (by walk_at "pz") (by walk_at "nz"))
  · exact ne_i h cn (.nb (s * c) (0) (by grind) (by grind) (by walk_at "pz") (by walk_at "nz"))
  · rw [(show Sg b _ _ 1 from .pb ((n - s) * c) (0) (by grind) (by grind) (by walk_at "pz") (by walk_at "nz")).sgn h]
    omega
  · walk_at "pz"
  · walk_at "pz"
  · rw [la0_eq]
    unfold Eg
    simp only [gX, gX2, gY, gY2]
    exact tup2_eq (nv_eq (by walk_at "pz") (by walk_at "pz") (by grind) (by grind)) (nv_eq (by walk_at "pz") (by walk_at "pz") (by grind) (by grind))
theorem eg4 (h : CM m a b c e) (s0 : 0 < s) (sn : s < n) (hn : Bi 20 n) : GoR m a b c e (Eg m a b c e 4 s n) (Eg m a b c e 6 (n - s) n) := by
  obtain ⟨b0, c0, a0, ac⟩ := h.cb
  have : BI a 40 := ⟨h.ba⟩
  have : BI b 40 := ⟨h.bb⟩
  have : BI c 40 := ⟨h.bc⟩
  have : BI n 20 := ⟨hn⟩
  have : BI s 20 := ⟨hn.btw (by omega) sn⟩
  have n0 : 0 < n := by omega
  have d0 : 0 < n - s := by omega
  have cn : 0 < c * n := by walk_at "pz"
  refine ⟨_, _, _, _, n, 1, _, _, _, _, _, _, rfl, ⟨n0, ?_, ?_, ?_, ?_, ?_⟩, spF1 h (y := 1) (w := -1) (r := 1) (t := 0) ?_ ?_ ?_ ?_ ?_, .inr rfl, n0, ?_, ?_, ?_, .inr ⟨1, 0, 0, 1, c * n - c * n, s, n, (nspB ?_ ?_ ?_).trans nzR, .inr rfl, ?_, ?_, ?_, ?_, ?_, ?_, ?_, ?_, ?_⟩⟩
  all_goals try simp only [gX, gX2, gY, gY2, if_true, show ¬ (1 : Int) = 0 by decide, if_false]
  all_goals try exact bi
  · exact .p (c * n) (s) (by grind) (by grind) (by walk_at "nz") (by walk_at "nz") (.inl (by walk_at "pz"))
  · exact .n (0) (n - s) (by grind) (by grind) (by walk_at "nz") (by walk_at "nz") (.inr (by walk_at "pz"))
  · exact .p (0) (s) (by grind) (by grind) (by walk_at "nz") (by walk_at "nz") (.inr (by walk_at "pz"))
  · exact .p (0) (n) (by grind) (by grind) (by walk_at "nz") (by walk_at "nz") (.inr (by walk_at "pz"))
  · exact .z (by grind) (by grind)
  · exact ne_s h n0 (.n (0) (n - s) (by grind) (by grind) (by walk_at "nz") (by walk_at "nz") (.inr (by walk_at "pz")))
  · exact ne_z h n0 (.p (0) (s) (by grind) (by grind) (by walk_at "nz") (by walk_at "nz") (.inr (by walk_at "pz")))
  · exact eq_s n0 (by grind) rfl
  · walk_at "pz"
  · walk_at "pz"
  · rw [la1_eq]
    unfold Eg
    simp only [gX, gX2, gY, gY2]
    exact tup2_eq (nv_eq (by walk_at "pz") (by walk_at "pz") (by grind) (by grind)) (nv_eq (by walk_at "pz") (by walk_at "pz") (by grind) (by grind))
theorem eg5 (h : CM m a b c e) (s0 : 0 < s) (sn : s < n) (hn : Bi 20 n) : GoR m a b c e (Eg m a b c e 5 s n) (Eg m a b c e 0 (n - s) n) := by
  obtain ⟨b0, c0, a0, ac⟩ := h.cb
  have : BI a 40 := ⟨h.ba⟩
  have : BI b 40 := ⟨h.bb⟩
  have : BI c 40 := ⟨h.bc⟩
  have : BI n 20 := ⟨hn⟩
  have : BI s 20 := ⟨hn.btw (by omega) sn⟩
  have n0 : 0 < n := by omega
  have d0 : 0 < n - s := by omega
  have cn : 0 < c * n := by walk_at "pz"
  refine ⟨_, _, _, _, n, 1, _, _, _, _, _, _, rfl, ⟨n0, ?_, ?_, ?_, ?_, ?_⟩, spF1 h (y := 1) (w := 0) (r := 1) (t := -1) ?_ ?_ ?_ ?_ ?_, .inr rfl, n0, ?_, ?_, ?_, .inr ⟨0, _, _, _, 0, 0, 1, (nspD ?_ ?_ ?_ ?_ ?_).trans nzU, .inl rfl, ?_, ?_, ?_, ?_, ?_, ?_, ?_, ?_, ?_⟩⟩
  all_goals try simp only [gX, gX2, gY, gY2, if_true, show ¬ (1 : Int) = 0 by decide, if_false]
  all_goals try exact bi
  · exact .p (c * n) (n) (by grind) (by grind) (by walk_at "nz") (by walk_at "nz") (.inl (by walk_at "pz"))
  · exact .z (by grind) (by grind)
  · exact .p (0) (n) (by grind) (by grind) (by walk_at "nz") (by walk_at "nz") (.inr (by walk_at "pz"))
  · exact .p (0) (n - s) (by grind) (by grind) (by walk_at "nz") (by walk_at "nz") (.inr (by walk_at "pz"))
  · exact .n (0) (s) (by grind) (by grind) (by walk_at "nz") (by walk_at "nz") (.inr (by walk_at "pz"))
  · exact eq_s n0 (by grind) rfl
  · exact ne_z h n0 (.p (0) (n - s) (by grind) (by grind) (by walk_at "nz") (by walk_at "nz") (.inr (by walk_at "pz")))
  · exact ne_s h n0 (.n (0) (s) (by grind) (by grind) (by walk_at "nz") (by walk_at "nz") (.inr (by walk_at "pz")))
  · exact ne_i h n0 (.nb (n - s) (b * s) (by grind) (by grind) (by walk_at "pz") (by walk_at "nz"))
  · exact fun w => absurd w.1 (by decide)
  · walk_at "pz"
  · walk_at "pz"
  · rw [la0_eq]
    unfold Eg
    simp only [gX, gX2, gY, gY2]
    exact tup2_eq (nv_eq (by walk_at "pz") (by walk_at "pz") (by grind) (by grind)) (nv_eq (by walk_at "pz") (by walk_at "pz") (by grind) (by grind))
theorem eg6 (h : CM m a b c e) (s0 : 0 < s) (sn : s < n) (hn : Bi 20 n) : GoR m a b c e (Eg m a b c e 6 s n) (Eg m a b c e 6 s n) := by
  obtain ⟨b0, c0, a0, ac⟩ := h.cb
  have : BI a 40 := ⟨h.ba⟩
  have : BI b 40 := ⟨h.bb⟩
  have : BI c 40 := ⟨h.bc⟩
  have : BI n 20 := ⟨hn⟩
  have : BI s 20 := ⟨hn.btw (by omega) sn⟩
  have n0 : 0 < n := by omega
  have d0 : 0 < n - s := by omega
  have cn : 0 < c * n := by walk_at "pz"
  refine ⟨_, _, _, _, n, 1, _, _, _, _, _, _, rfl, ⟨n0, ?_, ?_, ?_, ?_, ?_⟩, spF1 h (y := 1) (w := -1) (r := 0) (t := -1) ?_ ?_ ?_ ?_ ?_, .inr rfl, n0, ?_, ?_, ?_, .inr ⟨1, _, _, _, _, _, _, nspA ?_ ?_ ?_, .inr rfl, ?_, ?_, ?_, ?_, ?_, ?_, ?_, ?_, ?_⟩⟩
  all_goals try simp only [gX, gX2, gY, gY2, if_true, show ¬ (1 : Int) = 0 by decide, if_false]
  all_goals try exact bi
  · exact .p (c * n) (n - s) (by grind) (by grind) (by walk_at "nz") (by walk_at "nz") (.inl (by walk_at "pz"))
  · exact .n (0) (s) (by grind) (by grind) (by walk_at "nz") (by walk_at "nz") (.inr (by walk_at "pz"))
  · exact .p (0) (n - s) (by grind) (by grind) (by walk_at "nz") (by walk_at "nz") (.inr (by walk_at "pz"))
  · exact .z (by grind) (by grind)
  · exact .n (0) (n) (by grind) (by grind) (by walk_at "nz") (by walk_at "nz") (.inr (by walk_at "pz"))
  · exact ne_s h n0 (.n (0) (s) (by grind) (by grind) (by walk_at "nz") (by walk_at "nz") (.inr (by walk_at "pz")))
  · exact fun w => absurd w (ne_z h n0 (.p (0) (n - s) (by grind) (by grind) (by walk_at "nz") (by walk_at "nz") (.inr (by walk_at "pz"))))
  · exact ne_s h n0 (.n (0) (n) (by grind) (by grind) (by walk_at "nz") (by walk_at "nz") (.inr (by walk_at "pz")))
  · walk_at "pz"
  · walk_at "pz"
  · rw [la1_eq]
    unfold Eg
    simp only [gX, gX2, gY, gY2]
    exact tup2_eq (nv_eq (by walk_at "pz") (by walk_at "pz") (by grind) (by grind)) (nv_eq (by walk_at "pz") (by walk_at "pz") (by grind) (by grind))
theorem eg7 (h : CM m a b c e) (s0 : 0 < s) (sn : s < n) (hn : Bi 20 n) : GoR m a b c e (Eg m a b c e 7 s n) (Eg m a b c e 7 s n) := by
  obtain ⟨b0, c0, a0, ac⟩ := h.cb
  have : BI a 40 := ⟨h.ba⟩
  have : BI b 40 := ⟨h.bb⟩
  have : BI c 40 := ⟨h.bc⟩
  have : BI n 20 := ⟨hn⟩
  have : BI s 20 := ⟨hn.btw (by omega) sn⟩
  have n0 : 0 < n := by omega
  have d0 : 0 < n - s := by omega
  have cn : 0 < c * n := by walk_at "pz"
  refine ⟨_, _, _, _, n, 0, _, _, _, _, _, _, rfl, ⟨n0, ?_, ?_, ?_, ?_, ?_⟩, spF0 h (y := 1) (w := -1) (u := -1) (r := 0) (t := -1) ?_ ?_ ?_ ?_ ?_, .inl rfl, cn, ?_, ?_, ?_, .inr ⟨0, _, _, _, _, _, _, nspA ?_ ?_ ?_, .inl rfl, ?_, ?_, ?_, ?_, ?_, ?_, ?_, ?_, ?_⟩⟩
  all_goals try simp only [gX, gX2, gY, gY2, if_true, show ¬ (1 : Int) = 0 by decide, if_false]
  all_goals try exact bi
  · exact .p (c * (n - s)) (0) (by grind) (by grind) (by walk_at "nz") (by walk_at "nz") (.inl (by walk_at "pz"))
  · exact .n (c * s) (n) (by grind) (by grind) (by walk_at "nz") (by walk_at "nz") (.inl (by walk_at "pz"))
  · exact .n (c * s) (0) (by grind) (by grind) (by walk_at "nz") (by walk_at "nz") (.inl (by walk_at "pz"))
  · exact .z (by grind) (by grind)
  · exact .n (b * c * n) (0) (by grind) (by grind) (by walk_at "nz") (by walk_at "nz") (.inl (by walk_at "pz"))
  · exact ne_i h n0 (.n (c * s) (0) (by grind) (by grind) (by walk_at "nz") (by walk_at "nz") (.inl (by walk_at "pz")))
  · exact fun w => absurd w (ne_z h n0 (.p (c * (n - s)) (0) (by grind) (by grind) (by walk_at "nz") (by walk_at "nz") (.inl (by walk_at "pz"))))
  · exact ne_i h cn (.n (b * c * n) (0) (by grind) (by grind) (by walk_at "nz") (by walk_at "nz") (.inl (by walk_at "pz")))
  · walk_at "pz"
  · walk_at "pz"
  · rw [la0_eq]
    unfold Eg
    simp only [gX, gX2, gY, gY2]
    exact tup2_eq (nv_eq (by walk_at "pz") (by walk_at "pz") (by grind) (by grind)) (nv_eq (by walk_at "pz") (by walk_at "pz") (by grind) (by grind))
theorem cn0 (h : CM m a b c e) : GoR m a b c e (crn m a b c e 0) (.tup [zT, zT]) := by
  obtain ⟨b0, c0, a0, ac⟩ := h.cb
  have : BI a 40 := ⟨h.ba⟩
  have : BI b 40 := ⟨h.bb⟩
  have : BI c 40 := ⟨h.bc⟩
  have cn : 0 < c * 1 := by omega
  refine ⟨_, _, _, _, 1, 0, _, _, _, _, _, _, rfl, ⟨by decide, ?_, ?_, ?_, ?_, ?_⟩, spF0 h (y := 0) (w := -1) (u := -1) (r := 0) (t := -1) ?_ ?_ ?_ ?_ ?_, .inl rfl, cn, ?_, ?_, ?_, .inl ⟨nspF ?_ ?_ ?_, rfl⟩⟩
  all_goals try simp only [k1, k2, k3, k4, if_true, show ¬ (1 : Int) = 0 by decide, if_false]
  all_goals try exact bi
  · exact .z (by grind) (by grind)
  · exact .n (c) (1) (by grind) (by grind) (by walk_at "nz") (by walk_at "nz") (.inl (by walk_at "pz"))
  · exact .n (c) (0) (by grind) (by grind) (by walk_at "nz") (by walk_at "nz") (.inl (by walk_at "pz"))
  · exact .z (by grind) (by grind)
  · exact .n (b * c) (0) (by grind) (by grind) (by walk_at "nz") (by walk_at "nz") (.inl (by walk_at "pz"))
  · exact ne_i h (by decide) (.n (c) (0) (by grind) (by grind) (by walk_at "nz") (by walk_at "nz") (.inl (by walk_at "pz")))
  · exact eq_z (by decide) rfl rfl
  · exact .inl (eq_z cn (by grind) (by grind))
theorem cn1 (h : CM m a b c e) : GoR m a b c e (crn m a b c e 1) (.tup [zT, zT]) := by
  obtain ⟨b0, c0, a0, ac⟩ := h.cb
  have : BI a 40 := ⟨h.ba⟩
  have : BI b 40 := ⟨h.bb⟩
  have : BI c 40 := ⟨h.bc⟩
  have cn : 0 < c * 1 := by omega
  refine ⟨_, _, _, _, 1, 0, _, _, _, _, _, _, rfl, ⟨by decide, ?_, ?_, ?_, ?_, ?_⟩, spF0 h (y := 0) (w := -1) (u := -1) (r := 1) (t := -1) ?_ ?_ ?_ ?_ ?_, .inl rfl, cn, ?_, ?_, ?_, .inl ⟨nspF ?_ ?_ ?_, rfl⟩⟩
  all_goals try simp only [k1, k2, k3, k4, if_true, show ¬ (1 : Int) = 0 by decide, if_false]
  all_goals try exact bi
  · exact .z (by grind) (by grind)
  · exact .n (c) (1) (by grind) (by grind) (by walk_at "nz") (by walk_at "nz") (.inl (by walk_at "pz"))
  · exact .n (c) (0) (by grind) (by grind) (by walk_at "nz") (by walk_at "nz") (.inl (by walk_at "pz"))
  · exact .p (0) (c) (by grind) (by grind) (by walk_at "nz") (by walk_at "nz") (.inr (by walk_at "pz"))
  · exact .nb (c) (0) (by grind) (by grind) (by walk_at "pz") (by walk_at "nz")
  · exact ne_i h (by decide) (.n (c) (0) (by grind) (by grind) (by walk_at "nz") (by walk_at "nz") (.inl (by walk_at "pz")))
  · exact eq_z (by decide) rfl rfl
  · exact .inr (.inl (eq_s cn (by grind) (by grind)))
theorem cn2 (h : CM m a b c e) : GoR m a b c e (crn m a b c e 2) (.tup [zT, zT]) := by
  obtain ⟨b0, c0, a0, ac⟩ := h.cb
  have : BI a 40 := ⟨h.ba⟩
  have : BI b 40 := ⟨h.bb⟩
  have : BI c 40 := ⟨h.bc⟩
  have cn : 0 < c * 1 := by omega
  refine ⟨_, _, _, _, 1, 0, _, _, _, _, _, _, rfl, ⟨by decide, ?_, ?_, ?_, ?_, ?_⟩, spF0 h (y := 0) (w := -1) (u := -1) (r := 1) (t := 0) ?_ ?_ ?_ ?_ ?_, .inl rfl, cn, ?_, ?_, ?_, .inl ⟨nspF ?_ ?_ ?_, rfl⟩⟩
  all_goals try simp only [k1, k2, k3, k4, if_true, show ¬ (1 : Int) = 0 by decide, if_false]
  all_goals try exact bi
  · exact .z (by grind) (by grind)
  · exact .n (c) (1) (by grind) (by grind) (by walk_at "nz") (by walk_at "nz") (.inl (by walk_at "pz"))
  · exact .n (c) (0) (by grind) (by grind) (by walk_at "nz") (by walk_at "nz") (.inl (by walk_at "pz"))
  · exact .p (b * c) (0) (by grind) (by grind) (by walk_at "nz") (by walk_at "nz") (.inl (by walk_at "pz"))
  · exact .z (by grind) (by grind)
  · exact ne_i h (by decide) (.n (c) (0) (by grind) (by grind) (by walk_at "nz") (by walk_at "nz") (.inl (by walk_at "pz")))
  · exact eq_z (by decide) rfl rfl
  · exact .inr (.inr ⟨trivial, eq_i cn (by grind) (by grind)⟩)
theorem cn3 (h : CM m a b c e) : GoR m a b c e (crn m a b c e 3) (.tup [zT, zT]) := by
  obtain ⟨b0, c0, a0, ac⟩ := h.cb
  have : BI a 40 := ⟨h.ba⟩
  have : BI b 40 := ⟨h.bb⟩
  have : BI c 40 := ⟨h.bc⟩
  have cn : 0 < c * 1 := by omega
  refine ⟨_, _, _, _, 1, 0, _, _, _, _, _, _, rfl, ⟨by decide, ?_, ?_, ?_, ?_, ?_⟩, spF0 h (y := 1) (w := -1) (u := 0) (r := 1) (t := 0) ?_ ?_ ?_ ?_ ?_, .inl rfl, cn, ?_, ?_, ?_, .inl ⟨nspE ?_ ?_, rfl⟩⟩
  all_goals try simp only [k1, k2, k3, k4, if_true, show ¬ (1 : Int) = 0 by decide, if_false]
  all_goals try exact bi
  · exact .p (c) (0) (by grind) (by grind) (by walk_at "nz") (by walk_at "nz") (.inl (by walk_at "pz"))
  · exact .n (0) (1) (by grind) (by grind) (by walk_at "nz") (by walk_at "nz") (.inr (by walk_at "pz"))
  · exact .z (by grind) (by grind)
  · exact .p (b * c) (0) (by grind) (by grind) (by walk_at "nz") (by walk_at "nz") (.inl (by walk_at "pz"))
  · exact .z (by grind) (by grind)
  · exact eq_i (by decide) (by grind) rfl
  · refine .inr (.inr ⟨?_, eq_i cn (by grind) (by grind)⟩)
    rw [(show Sg b _ _ 1 from .pb (c) (0) (by grind) (by grind) (by walk_at "pz") (by walk_at "nz")).sgn h]
    omega
theorem cn4 (h : CM m a b c e) : GoR m a b c e (crn m a b c e 4) (.tup [zT, zT]) := by
  obtain ⟨b0, c0, a0, ac⟩ := h.cb
  have : BI a 40 := ⟨h.ba⟩
  have : BI b 40 := ⟨h.bb⟩
  have : BI c 40 := ⟨h.bc⟩
  have cn : 0 < c * 1 := by omega
  refine ⟨_, _, _, _, 1, 0, _, _, _, _, _, _, rfl, ⟨by decide, ?_, ?_, ?_, ?_, ?_⟩, spF0 h (y := 1) (w := -1) (u := 0) (r := 1) (t := -1) ?_ ?_ ?_ ?_ ?_, .inl rfl, cn, ?_, ?_, ?_, .inl ⟨nspE ?_ ?_, rfl⟩⟩
  all_goals try simp only [k1, k2, k3, k4, if_true, show ¬ (1 : Int) = 0 by decide, if_false]
  all_goals try exact bi
  · exact .p (c) (0) (by grind) (by grind) (by walk_at "nz") (by walk_at "nz") (.inl (by walk_at "pz"))
  · exact .n (0) (1) (by grind) (by grind) (by walk_at "nz") (by walk_at "nz") (.inr (by walk_at "pz"))
  · exact .z (by grind) (by grind)
  · exact .p (0) (c) (by grind) (by grind) (by walk_at "nz") (by walk_at "nz") (.inr (by walk_at "pz"))
  · exact .nb (c) (0) (by grind) (by grind) (by walk_at "pz") (by walk_at "nz")
  · exact eq_i (by decide) (by grind) rfl
  · exact .inr (.inl (eq_s cn (by grind) (by grind)))
theorem cn5 (h : CM m a b c e) : GoR m a b c e (crn m a b c e 5) (.tup [zT, zT]) := by
  obtain ⟨b0, c0, a0, ac⟩ := h.cb
  have : BI a 40 := ⟨h.ba⟩
  have : BI b 40 := ⟨h.bb⟩
  have : BI c 40 := ⟨h.bc⟩
  have cn : 0 < c * 1 := by omega
  refine ⟨_, _, _, _, 1, 1, _, _, _, _, _, _, rfl, ⟨by decide, ?_, ?_, ?_, ?_, ?_⟩, spF1 h (y := 1) (w := 0) (r := 1) (t := 0) ?_ ?_ ?_ ?_ ?_, .inr rfl, by decide, ?_, ?_, ?_, .inl ⟨nspE ?_ ?_, rfl⟩⟩
  all_goals try simp only [k1, k2, k3, k4, if_true, show ¬ (1 : Int) = 0 by decide, if_false]
  all_goals try exact bi
  · exact .p (c) (1) (by grind) (by grind) (by walk_at "nz") (by walk_at "nz") (.inl (by walk_at "pz"))
  · exact .z (by grind) (by grind)
  · exact .p (0) (1) (by grind) (by grind) (by walk_at "nz") (by walk_at "nz") (.inr (by walk_at "pz"))
  · exact .p (0) (1) (by grind) (by grind) (by walk_at "nz") (by walk_at "nz") (.inr (by walk_at "pz"))
  · exact .z (by grind) (by grind)
  · exact eq_s (by decide) (by grind) rfl
  · exact .inr (.inl (eq_s (by decide) (by grind) rfl))
theorem cn6 (h : CM m a b c e) : GoR m a b c e (crn m a b c e 6) (.tup [zT, zT]) := by
  obtain ⟨b0, c0, a0, ac⟩ := h.cb
  have : BI a 40 := ⟨h.ba⟩
  have : BI b 40 := ⟨h.bb⟩
  have : BI c 40 := ⟨h.bc⟩
  have cn : 0 < c * 1 := by omega
  refine ⟨_, _, _, _, 1, 1, _, _, _, _, _, _, rfl, ⟨by decide, ?_, ?_, ?_, ?_, ?_⟩, spF1 h (y := 1) (w := 0) (r := 0) (t := -1) ?_ ?_ ?_ ?_ ?_, .inr rfl, by decide, ?_, ?_, ?_, .inl ⟨nspE ?_ ?_, rfl⟩⟩
  all_goals try simp only [k1, k2, k3, k4, if_true, show ¬ (1 : Int) = 0 by decide, if_false]
  all_goals try exact bi
  · exact .p (c) (1) (by grind) (by grind) (by walk_at "nz") (by walk_at "nz") (.inl (by walk_at "pz"))
  · exact .z (by grind) (by grind)
  · exact .p (0) (1) (by grind) (by grind) (by walk_at "nz") (by walk_at "nz") (.inr (by walk_at "pz"))
  · exact .z (by grind) (by grind)
  · exact .n (0) (1) (by grind) (by grind) (by walk_at "nz") (by walk_at "nz") (.inr (by walk_at "pz"))
  · exact eq_s (by decide) (by grind) rfl
  · exact .inl (eq_z (by decide) (by grind) rfl)
theorem cn7 (h : CM m a b c e) : GoR m a b c e (crn m a b c e 7) (.tup [zT, zT]) := by
  obtain ⟨b0, c0, a0, ac⟩ := h.cb
  have : BI a 40 := ⟨h.ba⟩
  have : BI b 40 := ⟨h.bb⟩
  have : BI c 40 := ⟨h.bc⟩
  have cn : 0 < c * 1 := by omega
  refine ⟨_, _, _, _, 1, 0, _, _, _, _, _, _, rfl, ⟨by decide, ?_, ?_, ?_, ?_, ?_⟩, spF0 h (y := 1) (w := -1) (u := 0) (r := 0) (t := -1) ?_ ?_ ?_ ?_ ?_, .inl rfl, cn, ?_, ?_, ?_, .inl ⟨nspE ?_ ?_, rfl⟩⟩
  all_goals try simp only [k1, k2, k3, k4, if_true, show ¬ (1 : Int) = 0 by decide, if_false]
  all_goals try exact bi
  · exact .p (c) (0) (by grind) (by grind) (by walk_at "nz") (by walk_at "nz") (.inl (by walk_at "pz"))
  · exact .n (0) (1) (by grind) (by grind) (by walk_at "nz") (by walk_at "nz") (.inr (by walk_at "pz"))
  · exact .z (by grind) (by grind)
  · exact .z (by grind) (by grind)
  · exact .n (b * c) (0) (by grind) (by grind) (by walk_at "nz") (by walk_at "nz") (.inl (by walk_at "pz"))
  · exact eq_i (by decide) (by grind) rfl
  · exact .inl (eq_z cn (by grind) (by grind))
theorem in0 (h : CM m a b c e) (s0 : 0 < s) (sn : s < n) (hn : Bi 20 n) (t0 : 0 < t) (tk : t < k) (hk : Bi 20 k) : GoR m a b c e (.tup [nv m e (b * s * k + a * t * n) (0) (n * k), nv m e (c * t * n) (0) (n * k)]) (.tup [nv m e (b * s * k + a * t * n) (0) (n * k), nv m e (c * t * n) (0) (n * k)]) := by
  obtain ⟨b0, c0, a0, ac⟩ := h.cb
  have : BI a 40 := ⟨h.ba⟩
  have : BI b 40 := ⟨h.bb⟩
  have : BI c 40 := ⟨h.bc⟩
  have : BI n 20 := ⟨hn⟩
  have : BI s 20 := ⟨hn.btw (by omega) sn⟩
  have n0 : 0 < n := by omega
  have d0 : 0 < n - s := by omega
  have cn : 0 < c * n := by walk_at "pz"
  have : BI k 20 := ⟨hk⟩
  have : BI t 20 := ⟨hk.btw (by omega) tk⟩
  have f0 : 0 < k - t := by omega
  have k0 : 0 < k := by omega
  have nk : 0 < n * k := by walk_at "pz"
  have cN : 0 < c * (n * k) := by walk_at "pz"
  refine ⟨_, _, _, _, _, 0, _, _, _, _, _, _, rfl, ⟨nk, ?_, ?_, ?_, ?_, ?_⟩, spF0 h (y := 1) (w := -1) (u := -1) (r := 1) (t := -1) ?_ ?_ ?_ ?_ ?_, .inl rfl, cN, ?_, ?_, ?_, .inr ⟨0, _, _, _, _, _, _, nspA ?_ ?_ ?_, .inl rfl, ?_, ?_, ?_, ?_, ?_, ?_, ?_, ?_, ?_⟩⟩
  all_goals try simp only [if_true, show ¬ (1 : Int) = 0 by decide, if_false]
  all_goals try exact bi
  · exact .p (c * t * n) (0) (by grind) (by grind) (by walk_at "nz") (by walk_at "nz") (.inl (by walk_at "pz"))
  · exact .n (c * n * (k - t)) (n * k) (by grind) (by grind) (by walk_at "nz") (by walk_at "nz") (.inl (by walk_at "pz"))
  · exact .n (c * n * (k - t)) (0) (by grind) (by grind) (by walk_at "nz") (by walk_at "nz") (.inl (by walk_at "pz"))
  · exact .p (b * s * k * c) (0) (by grind) (by grind) (by walk_at "nz") (by walk_at "nz") (.inl (by walk_at "pz"))
  · exact .n (b * (n - s) * k * c) (0) (by grind) (by grind) (by walk_at "nz") (by walk_at "nz") (.inl (by walk_at "pz"))
  · exact ne_i h nk (.n (c * n * (k - t)) (0) (by grind) (by grind) (by walk_at "nz") (by walk_at "nz") (.inl (by walk_at "pz")))
  · exact fun w => absurd w (ne_z h nk (.p (c * t * n) (0) (by grind) (by grind) (by walk_at "nz") (by walk_at "nz") (.inl (by walk_at "pz"))))
  · exact ne_i h cN (.n (b * (n - s) * k * c) (0) (by grind) (by grind) (by walk_at "nz") (by walk_at "nz") (.inl (by walk_at "pz")))
  · walk_at "pz"
  · walk_at "pz"
  · rw [la0_eq]
    exact tup2_eq (nv_eq (by walk_at "pz") (by walk_at "pz") (by grind) (by grind)) (nv_eq (by walk_at "pz") (by walk_at "pz") (by grind) (by grind))
theorem in1 (h : CM m a b c e) (s0 : 0 < s) (sn : s < n) (hn : Bi 20 n) (t0 : 0 < t) (tk : t < k) (hk : Bi 20 k) : GoR m a b c e (.tup [nv m e (a * (n * k)) (s * k) (n * k), nv m e (c * (n * k)) (t * n) (n * k)]) (.tup [nv m e (a * (n * k)) (s * k) (n * k), nv m e (c * (n * k)) (t * n) (n * k)]) := by
  obtain ⟨b0, c0, a0, ac⟩ := h.cb
  have : BI a 40 := ⟨h.ba⟩
  have : BI b 40 := ⟨h.bb⟩
  have : BI c 40 := ⟨h.bc⟩
  have : BI n 20 := ⟨hn⟩
  have : BI s 20 := ⟨hn.btw (by omega) sn⟩
  have n0 : 0 < n := by omega
  have d0 : 0 < n - s := by omega
  have cn : 0 < c * n := by walk_at "pz"
  have : BI k 20 := ⟨hk⟩
  have : BI t 20 := ⟨hk.btw (by omega) tk⟩
  have f0 : 0 < k - t := by omega
  have k0 : 0 < k := by omega
  have nk : 0 < n * k := by walk_at "pz"
  have cN : 0 < c * (n * k) := by walk_at "pz"
  refine ⟨_, _, _, _, _, 1, _, _, _, _, _, _, rfl, ⟨nk, ?_, ?_, ?_, ?_, ?_⟩, spF1 h (y := 1) (w := -1) (r := 1) (t := -1) ?_ ?_ ?_ ?_ ?_, .inr rfl, nk, ?_, ?_, ?_, .inr ⟨1, _, _, _, _, _, _, nspA ?_ ?_ ?_, .inr rfl, ?_, ?_, ?_, ?_, ?_, ?_, ?_, ?_, ?_⟩⟩
  all_goals try simp only [if_true, show ¬ (1 : Int) = 0 by decide, if_false]
  all_goals try exact bi
  · exact .p (c * (n * k)) (t * n) (by grind) (by grind) (by walk_at "nz") (by walk_at "nz") (.inl (by walk_at "pz"))
  · exact .n (0) (n * (k - t)) (by grind) (by grind) (by walk_at "nz") (by walk_at "nz") (.inr (by walk_at "pz"))
  · exact .p (0) (t * n) (by grind) (by grind) (by walk_at "nz") (by walk_at "nz") (.inr (by walk_at "pz"))
  · exact .p (0) (s * k) (by grind) (by grind) (by walk_at "nz") (by walk_at "nz") (.inr (by walk_at "pz"))
  · exact .n (0) ((n - s) * k) (by grind) (by grind) (by walk_at "nz") (by walk_at "nz") (.inr (by walk_at "pz"))
  · exact ne_s h nk (.n (0) (n * (k - t)) (by grind) (by grind) (by walk_at "nz") (by walk_at "nz") (.inr (by walk_at "pz")))
  · exact fun w => absurd w (ne_z h nk (.p (0) (t * n) (by grind) (by grind) (by walk_at "nz") (by walk_at "nz") (.inr (by walk_at "pz"))))
  · exact ne_s h nk (.n (0) ((n - s) * k) (by grind) (by grind) (by walk_at "nz") (by walk_at "nz") (.inr (by walk_at "pz")))
  · walk_at "pz"
  · walk_at "pz"
  · rw [la1_eq]
    exact tup2_eq (nv_eq (by walk_at "pz") (by walk_at "pz") (by grind) (by grind)) (nv_eq (by walk_at "pz") (by walk_at "pz") (by grind) (by grind))
theorem inM (h : CM m a b c e) (s0 : 0 < s) (sn : s < n) (hn : Bi 20 n) : GoR m a b c e (.tup [nv m e (a * n) (s) (n), nv m e (c * n) (0) (n)]) (.tup [nv m e (a * n) (s) (n), nv m e (c * n) (0) (n)]) := by
  obtain ⟨b0, c0, a0, ac⟩ := h.cb
  have : BI a 40 := ⟨h.ba⟩
  have : BI b 40 := ⟨h.bb⟩
  have : BI c 40 := ⟨h.bc⟩
  have : BI n 20 := ⟨hn⟩
  have : BI s 20 := ⟨hn.btw (by omega) sn⟩
  have n0 : 0 < n := by omega
  have d0 : 0 < n - s := by omega
  have cn : 0 < c * n := by walk_at "pz"
  have nk : 0 < n := n0
  have cN := cn
  refine ⟨_, _, _, _, _, 0, _, _, _, _, _, _, rfl, ⟨nk, ?_, ?_, ?_, ?_, ?_⟩, spF0 h (y := 1) (w := -1) (u := 0) (r := 1) (t := -1) ?_ ?_ ?_ ?_ ?_, .inl rfl, cN, ?_, ?_, ?_, .inr ⟨1, _, _, _, 0, 0, 1, (nspC ?_ ?_ ?_ ?_).trans nzU, .inr rfl, ?_, ?_, ?_, ?_, ?_, ?_, ?_, ?_, ?_⟩⟩
  all_goals try simp only [if_true, show ¬ (1 : Int) = 0 by decide, if_false]
  all_goals try exact bi
  · exact .p (c * n) (0) (by grind) (by grind) (by walk_at "nz") (by walk_at "nz") (.inl (by walk_at "pz"))
  · exact .n (0) (n) (by grind) (by grind) (by walk_at "nz") (by walk_at "nz") (.inr (by walk_at "pz"))
  · exact .z (by grind) (by grind)
  · exact .p (0) (s * c) (by grind) (by grind) (by walk_at "nz") (by walk_at "nz") (.inr (by walk_at "pz"))
  · exact .nb (s * c) (b * c * (n - s)) (by grind) (by grind) (by walk_at "pz") (by walk_at "nz")
  · exact eq_i n0 (by grind) (by grind)
  · exact ne_z h cN (.p (0) (s * c) (by grind) (by grind) (by walk_at "nz") (by walk_at "nz") (.inr (by walk_at "pz")))
  · exact ne_s h cN (.n (0) ((n - s) * c) (by grind) (by grind) (by walk_at "nz") (by walk_at "nz") (.inr (by walk_at "pz")))
  · rw [(show Sg b _ _ (-1) from .n (0) ((n - s) * c) (by grind) (by grind) (by walk_at "nz") (by walk_at "nz") (.inr (by walk_at "pz"))).sgn h]
    decide
  · walk_at "pz"
  · walk_at "pz"
  · rw [la1_eq]
    exact tup2_eq (nv_eq (by walk_at "pz") (by walk_at "pz") (by grind) (by grind)) (nv_eq (by walk_at "pz") (by walk_at "pz") (by grind) (by grind))
def wX (c : Int) : Nat → Int
  | 2 => c | 7 => -c | _ => 0
def wX2 : Nat → Int
  | 4 => 1 | 6 => -1 | _ => 0
def wY (a b : Int) : Nat → Int
  | 1 => -b | 2 => -a | 3 => b | 7 => a | _ => 0
def wY2 : Nat → Int
  | 0 => -1 | 1 => 1 | 3 => -1 | 5 => 1 | _ => 0
theorem ow0 (h : CB a b c) (s0 : 0 < s) (sn : s < n) (w0 : 0 < w) (nw : n ≤ w) : Out a b c (gX a b s n 0 * w + wX c 0 * n) (gX2 s n 0 * w + wX2 0 * n) (gY c s n 0 * w + wY a b 0 * n) (gY2 s n 0 * w + wY2 0 * n) (n * w) := by
  obtain ⟨b0, c0, a0, ac⟩ := h
  have n0 : 0 < n := by omega
  have d0 : 0 < n - s := by omega
  try simp only [gX, gX2, gY, gY2, wX, wX2, wY, wY2]
  exact .inl (.n (0) (n) (by grind) (by grind) (by walk_at "nz") (by walk_at "nz") (.inr (by walk_at "pz")))
theorem ow1 (h : CB a b c) (s0 : 0 < s) (sn : s < n) (w0 : 0 < w) (nw : n ≤ w) : Out a b c (gX a b s n 1 * w + wX c 1 * n) (gX2 s n 1 * w + wX2 1 * n) (gY c s n 1 * w + wY a b 1 * n) (gY2 s n 1 * w + wY2 1 * n) (n * w) := by
  obtain ⟨b0, c0, a0, ac⟩ := h
  have n0 : 0 < n := by omega
  have d0 : 0 < n - s := by omega
  try simp only [gX, gX2, gY, gY2, wX, wX2, wY, wY2]
  exact .inl (.nb (n) (0) (by grind) (by grind) (by walk_at "pz") (by walk_at "nz"))
theorem ow2 (h : CB a b c) (s0 : 0 < s) (sn : s < n) (w0 : 0 < w) (nw : n ≤ w) : Out a b c (gX a b s n 2 * w + wX c 2 * n) (gX2 s n 2 * w + wX2 2 * n) (gY c s n 2 * w + wY a b 2 * n) (gY2 s n 2 * w + wY2 2 * n) (n * w) := by
  obtain ⟨b0, c0, a0, ac⟩ := h
  have n0 : 0 < n := by omega
  have d0 : 0 < n - s := by omega
  try simp only [gX, gX2, gY, gY2, wX, wX2, wY, wY2]
  exact .inr (.inr (.inl ⟨.n (c * (n - s) * w + a * n) (0) (by grind) (by grind) (by walk_at "nz") (by walk_at "nz") (.inl (by walk_at "pz")), .inr (.p (n * (c * c + a * a)) (0) (by grind) (by grind) (by walk_at "nz") (by walk_at "nz") (.inl (by walk_at "pz")))⟩))
theorem ow3 (h : CB a b c) (s0 : 0 < s) (sn : s < n) (w0 : 0 < w) (nw : n ≤ w) : Out a b c (gX a b s n 3 * w + wX c 3 * n) (gX2 s n 3 * w + wX2 3 * n) (gY c s n 3 * w + wY a b 3 * n) (gY2 s n 3 * w + wY2 3 * n) (n * w) := by
  obtain ⟨b0, c0, a0, ac⟩ := h
  have n0 : 0 < n := by omega
  have d0 : 0 < n - s := by omega
  try simp only [gX, gX2, gY, gY2, wX, wX2, wY, wY2]
  exact .inr (.inr (.inr (.inl ⟨.pb (n) (0) (by grind) (by grind) (by walk_at "pz") (by walk_at "nz"), .inr (.pb ((n - s) * w) (0) (by grind) (by grind) (by walk_at "pz") (by walk_at "nz"))⟩)))
theorem ow4 (h : CB a b c) (s0 : 0 < s) (sn : s < n) (w0 : 0 < w) (nw : n ≤ w) : Out a b c (gX a b s n 4 * w + wX c 4 * n) (gX2 s n 4 * w + wX2 4 * n) (gY c s n 4 * w + wY a b 4 * n) (gY2 s n 4 * w + wY2 4 * n) (n * w) := by
  obtain ⟨b0, c0, a0, ac⟩ := h
  have n0 : 0 < n := by omega
  have d0 : 0 < n - s := by omega
  try simp only [gX, gX2, gY, gY2, wX, wX2, wY, wY2]
  exact .inr (.inr (.inr (.inl ⟨.p (0) (s * w) (by grind) (by grind) (by walk_at "nz") (by walk_at "nz") (.inr (by walk_at "pz")), .inr (.p (0) (n) (by grind) (by grind) (by walk_at "nz") (by walk_at "nz") (.inr (by walk_at "pz")))⟩)))
theorem ow5 (h : CB a b c) (s0 : 0 < s) (sn : s < n) (w0 : 0 < w) (nw : n ≤ w) : Out a b c (gX a b s n 5 * w + wX c 5 * n) (gX2 s n 5 * w + wX2 5 * n) (gY c s n 5 * w + wY a b 5 * n) (gY2 s n 5 * w + wY2 5 * n) (n * w) := by
  obtain ⟨b0, c0, a0, ac⟩ := h
  have n0 : 0 < n := by omega
  have d0 : 0 < n - s := by omega
  try simp only [gX, gX2, gY, gY2, wX, wX2, wY, wY2]
  exact .inr (.inl (.p (0) (n) (by grind) (by grind) (by walk_at "nz") (by walk_at "nz") (.inr (by walk_at "pz"))))
theorem ow6 (h : CB a b c) (s0 : 0 < s) (sn : s < n) (w0 : 0 < w) (nw : n ≤ w) : Out a b c (gX a b s n 6 * w + wX c 6 * n) (gX2 s n 6 * w + wX2 6 * n) (gY c s n 6 * w + wY a b 6 * n) (gY2 s n 6 * w + wY2 6 * n) (n * w) := by
  obtain ⟨b0, c0, a0, ac⟩ := h
  have n0 : 0 < n := by omega
  have d0 : 0 < n - s := by omega
  try simp only [gX, gX2, gY, gY2, wX, wX2, wY, wY2]
  exact .inr (.inr (.inr (.inl ⟨.p (0) ((n - s) * w) (by grind) (by grind) (by walk_at "nz") (by walk_at "nz") (.inr (by walk_at "pz")), .inl (.n (0) (n) (by grind) (by grind) (by walk_at "nz") (by walk_at "nz") (.inr (by walk_at "pz")))⟩)))
theorem ow7 (h : CB a b c) (s0 : 0 < s) (sn : s < n) (w0 : 0 < w) (nw : n ≤ w) : Out a b c (gX a b s n 7 * w + wX c 7 * n) (gX2 s n 7 * w + wX2 7 * n) (gY c s n 7 * w + wY a b 7 * n) (gY2 s n 7 * w + wY2 7 * n) (n * w) := by
  obtain ⟨b0, c0, a0, ac⟩ := h
  have n0 : 0 < n := by omega
  have d0 : 0 < n - s := by omega
  try simp only [gX, gX2, gY, gY2, wX, wX2, wY, wY2]
  exact .inr (.inr (.inl ⟨.n (c * w * (s - 1) + c * (w - n) + n * (c - a)) (0) (by grind) (by grind) (by walk_at "nz") (by walk_at "nz") (.inl (by walk_at "pz")), .inl (.n (n * (c * c + a * a)) (0) (by grind) (by grind) (by walk_at "nz") (by walk_at "nz") (.inl (by walk_at "pz")))⟩))
theorem bo0 (h : CB a b c) (s0 : 0 < s) (sn : s < n) : Out a b c (gX a b (-s) n 0) (gX2 (-s) n 0) (gY c (-s) n 0) (gY2 (-s) n 0) (n) := by
  obtain ⟨b0, c0, a0, ac⟩ := h
  have n0 : 0 < n := by omega
  have d0 : 0 < n - s := by omega
  try simp only [gX, gX2, gY, gY2, wX, wX2, wY, wY2]
  exact .inr (.inr (.inl ⟨.n (c * n) (0) (by grind) (by grind) (by walk_at "nz") (by walk_at "nz") (.inl (by walk_at "pz")), .inl (.n (0) (s * c) (by grind) (by grind) (by walk_at "nz") (by walk_at "nz") (.inr (by walk_at "pz")))⟩))
theorem bo2 (h : CB a b c) (s0 : 0 < s) (sn : s < n) : Out a b c (gX a b (-s) n 2) (gX2 (-s) n 2) (gY c (-s) n 2) (gY2 (-s) n 2) (n) := by
  obtain ⟨b0, c0, a0, ac⟩ := h
  have n0 : 0 < n := by omega
  have d0 : 0 < n - s := by omega
  try simp only [gX, gX2, gY, gY2, wX, wX2, wY, wY2]
  exact .inl (.n (c * s) (0) (by grind) (by grind) (by walk_at "nz") (by walk_at "nz") (.inl (by walk_at "pz")))
theorem bo3 (h : CB a b c) (s0 : 0 < s) (sn : s < n) : Out a b c (gX a b (-s) n 3) (gX2 (-s) n 3) (gY c (-s) n 3) (gY2 (-s) n 3) (n) := by
  obtain ⟨b0, c0, a0, ac⟩ := h
  have n0 : 0 < n := by omega
  have d0 : 0 < n - s := by omega
  try simp only [gX, gX2, gY, gY2, wX, wX2, wY, wY2]
  exact .inr (.inr (.inr (.inr ⟨.inr (.pb (s * c) (0) (by grind) (by grind) (by walk_at "pz") (by walk_at "nz")), .inr (.pb (n + s) (0) (by grind) (by grind) (by walk_at "pz") (by walk_at "nz"))⟩)))
theorem bo5 (h : CB a b c) (s0 : 0 < s) (sn : s < n) : Out a b c (gX a b (-s) n 5) (gX2 (-s) n 5) (gY c (-s) n 5) (gY2 (-s) n 5) (n) := by
  obtain ⟨b0, c0, a0, ac⟩ := h
  have n0 : 0 < n := by omega
  have d0 : 0 < n - s := by omega
  try simp only [gX, gX2, gY, gY2, wX, wX2, wY, wY2]
  exact .inr (.inr (.inr (.inl ⟨.p (0) (n) (by grind) (by grind) (by walk_at "nz") (by walk_at "nz") (.inr (by walk_at "pz")), .inr (.p (0) (s) (by grind) (by grind) (by walk_at "nz") (by walk_at "nz") (.inr (by walk_at "pz")))⟩)))
theorem bo6 (h : CB a b c) (s0 : 0 < s) (sn : s < n) : Out a b c (gX a b (-s) n 6) (gX2 (-s) n 6) (gY c (-s) n 6) (gY2 (-s) n 6) (n) := by
  obtain ⟨b0, c0, a0, ac⟩ := h
  have n0 : 0 < n := by omega
  have d0 : 0 < n - s := by omega
  try simp only [gX, gX2, gY, gY2, wX, wX2, wY, wY2]
  exact .inr (.inl (.p (0) (s) (by grind) (by grind) (by walk_at "nz") (by walk_at "nz") (.inr (by walk_at "pz"))))
theorem ao1 (h : CB a b c) (s0 : 0 < s) (sn : s < n) : Out a b c (gX a b (n + s) n 1) (gX2 (n + s) n 1) (gY c (n + s) n 1) (gY2 (n + s) n 1) (n) := by
  obtain ⟨b0, c0, a0, ac⟩ := h
  have n0 : 0 < n := by omega
  have d0 : 0 < n - s := by omega
  try simp only [gX, gX2, gY, gY2, wX, wX2, wY, wY2]
  exact .inr (.inr (.inl ⟨.n (c * n) (0) (by grind) (by grind) (by walk_at "nz") (by walk_at "nz") (.inl (by walk_at "pz")), .inr (.pb (s * c) (0) (by grind) (by grind) (by walk_at "pz") (by walk_at "nz"))⟩))
theorem ao2 (h : CB a b c) (s0 : 0 < s) (sn : s < n) : Out a b c (gX a b (n + s) n 2) (gX2 (n + s) n 2) (gY c (n + s) n 2) (gY2 (n + s) n 2) (n) := by
  obtain ⟨b0, c0, a0, ac⟩ := h
  have n0 : 0 < n := by omega
  have d0 : 0 < n - s := by omega
  try simp only [gX, gX2, gY, gY2, wX, wX2, wY, wY2]
  exact .inr (.inr (.inr (.inl ⟨.p (c * s) (0) (by grind) (by grind) (by walk_at "nz") (by walk_at "nz") (.inl (by walk_at "pz")), .inr (.pb (n) (a * s) (by grind) (by grind) (by walk_at "pz") (by walk_at "nz"))⟩)))
theorem ao4 (h : CB a b c) (s0 : 0 < s) (sn : s < n) : Out a b c (gX a b (n + s) n 4) (gX2 (n + s) n 4) (gY c (n + s) n 4) (gY2 (n + s) n 4) (n) := by
  obtain ⟨b0, c0, a0, ac⟩ := h
  have n0 : 0 < n := by omega
  have d0 : 0 < n - s := by omega
  try simp only [gX, gX2, gY, gY2, wX, wX2, wY, wY2]
  exact .inr (.inl (.p (0) (s) (by grind) (by grind) (by walk_at "nz") (by walk_at "nz") (.inr (by walk_at "pz"))))
theorem ao5 (h : CB a b c) (s0 : 0 < s) (sn : s < n) : Out a b c (gX a b (n + s) n 5) (gX2 (n + s) n 5) (gY c (n + s) n 5) (gY2 (n + s) n 5) (n) := by
  obtain ⟨b0, c0, a0, ac⟩ := h
  have n0 : 0 < n := by omega
  have d0 : 0 < n - s := by omega
  try simp only [gX, gX2, gY, gY2, wX, wX2, wY, wY2]
  exact .inr (.inr (.inr (.inl ⟨.p (0) (n) (by grind) (by grind) (by walk_at "nz") (by walk_at "nz") (.inr (by walk_at "pz")), .inl (.n (0) (s) (by grind) (by grind) (by walk_at "nz") (by walk_at "nz") (.inr (by walk_at "pz")))⟩)))
theorem ao7 (h : CB a b c) (s0 : 0 < s) (sn : s < n) : Out a b c (gX a b (n + s) n 7) (gX2 (n + s) n 7) (gY c (n + s) n 7) (gY2 (n + s) n 7) (n) := by
  obtain ⟨b0, c0, a0, ac⟩ := h
  have n0 : 0 < n := by omega
  have d0 : 0 < n - s := by omega
  try simp only [gX, gX2, gY, gY2, wX, wX2, wY, wY2]
  exact .inl (.n (c * s) (0) (by grind) (by grind) (by walk_at "nz") (by walk_at "nz") (.inl (by walk_at "pz")))
theorem lo1 (h : CB a b c) (s0 : 0 < s) (sn : s < n) : Out a b c (a * n) (-s) (c * n) (0) (n) := by
  obtain ⟨b0, c0, a0, ac⟩ := h
  have n0 : 0 < n := by omega
  have d0 : 0 < n - s := by omega
  try simp only [gX, gX2, gY, gY2, wX, wX2, wY, wY2]
  exact .inr (.inr (.inr (.inr ⟨.inl (.n (0) (s * c) (by grind) (by grind) (by walk_at "nz") (by walk_at "nz") (.inr (by walk_at "pz"))), .inl (.n (0) (s) (by grind) (by grind) (by walk_at "nz") (by walk_at "nz") (.inr (by walk_at "pz")))⟩)))
theorem lo2 (h : CB a b c) (s0 : 0 < s) (sn : s < n) : Out a b c (a * n + b * s) (n - s) (c * n) (s) (n) := by
  obtain ⟨b0, c0, a0, ac⟩ := h
  have n0 : 0 < n := by omega
  have d0 : 0 < n - s := by omega
  try simp only [gX, gX2, gY, gY2, wX, wX2, wY, wY2]
  exact .inr (.inr (.inr (.inl ⟨.p (0) (s) (by grind) (by grind) (by walk_at "nz") (by walk_at "nz") (.inr (by walk_at "pz")), .inr (.pb (s) (0) (by grind) (by grind) (by walk_at "pz") (by walk_at "nz"))⟩)))
theorem oh0 (h : CB a b c) (s0 : 0 < s) (sn : s < n) (t0 : 0 < t) (tk : t < k) : Out a b c (b * s * k + a * t * n + (b + 1) * (n * k)) (0) (c * t * n) (0) (n * k) := by
  obtain ⟨b0, c0, a0, ac⟩ := h
  have n0 : 0 < n := by omega
  have d0 : 0 < n - s := by omega
  have f0 : 0 < k - t := by omega
  have k0 : 0 < k := by omega
  try simp only [gX, gX2, gY, gY2, wX, wX2, wY, wY2]
  exact .inr (.inr (.inl ⟨.n (c * n * (k - t)) (0) (by grind) (by grind) (by walk_at "nz") (by walk_at "nz") (.inl (by walk_at "pz")), .inr (.p (b * s * k * c + n * k * c) (0) (by grind) (by grind) (by walk_at "nz") (by walk_at "nz") (.inl (by walk_at "pz")))⟩))
theorem oh1 (h : CB a b c) (s0 : 0 < s) (sn : s < n) (t0 : 0 < t) (tk : t < k) : Out a b c (a * (n * k) + (b + 1) * (n * k)) (s * k) (c * (n * k)) (t * n) (n * k) := by
  obtain ⟨b0, c0, a0, ac⟩ := h
  have n0 : 0 < n := by omega
  have d0 : 0 < n - s := by omega
  have f0 : 0 < k - t := by omega
  have k0 : 0 < k := by omega
  try simp only [gX, gX2, gY, gY2, wX, wX2, wY, wY2]
  exact .inr (.inr (.inr (.inl ⟨.p (0) (t * n) (by grind) (by grind) (by walk_at "nz") (by walk_at "nz") (.inr (by walk_at "pz")), .inr (.pb ((n - s) * k) (n * k + s * k * b) (by grind) (by grind) (by walk_at "pz") (by walk_at "nz"))⟩)))
-- edges35.py to here
end
end DL
namespace DL
open PySem PySem.Spec PyProof.Rows L2
local macro_rules | `(tactic| walk_at "rd") => `(tactic| simp only [startD, List.map, List.replicate, List.length_cons, List.length_nil, List.append_eq, List.append_nil, List.nil_append, List.cons_append, Nat.reduceSub, Nat.reduceAdd, List.getElem?_cons_zero, List.getElem?_cons_succ, List.set_cons_zero, List.set_cons_succ,
  dC, dVar, dOp, dTru, gTru, tru, dChain, dAnd, dOr, dNot, dAndV, dOrV, dNotV, dIf, dNeg, gNeg, dNil, dCons, dTup, dLst, dOwn, gIx, rBin, gAdd, gCmpI, dCall, dCallK, dSeq, dNext, dDrop, dRet, dRetN, dIfS, dName, dGNil, dGCons, dGTup, dSub, gSetL, dAsg, dPar, dPar3, dAug, gIpI, dSeqI, gSeqI, dRngI, gRng1, gRng2, dCB, gAbs, gInt, gMax, gMin, gGcd, gLen, lenD, gIsi, tyM, tyD, dBits, gBits, dMet, gAppend, dPart, dNoPart, dSl, gSl_tup, gSl_lst, cut_1, dEnds, gIs, isB, dNever, dCallX, dRaise, dTry, dFld, dCallV, gLRng, gFrz, dFrz, dFor, dLc, wipeD, dYes,
  sizeLine_eq, Nat.reduceLeDiff, gEq_int, gNe_int, gEq_strs, gNe_strs, gIn_two, gRepr_bl, rs_lst, rs_tup, rs_scr, rs_int, atI_0, atI_1, atI_2, atI_3, atI_4, atI_5, ixN_30, ixN_31, ixN_32, gEq_bl, gNe_bl, decide_eq_true_eq, beq_iff_eq, Bool.not_eq_true', beq_eq_false_iff_ne, decide_eq_false_iff_not, Bool.not_true, Bool.not_false, if_true, if_false, Bool.false_eq_true, ite_true, ite_false, true_and, and_true, ne_eq, Bool.bne_false, Bool.bne_true, reduceCtorEq])
local macro_rules | `(tactic| walk_at "rh") => `(tactic| simp only [*, startD, List.map, List.replicate, List.length_cons, List.length_nil, List.append_eq, List.append_nil, List.nil_append, List.cons_append, Nat.reduceSub, Nat.reduceAdd, List.getElem?_cons_zero, List.getElem?_cons_succ, List.set_cons_zero, List.set_cons_succ,
  dC, dVar, dOp, dTru, gTru, tru, dChain, dAnd, dOr, dNot, dAndV, dOrV, dNotV, dIf, dNeg, gNeg, dNil, dCons, dTup, dLst, dOwn, gIx, rBin, gAdd, gCmpI, dCall, dCallK, dSeq, dNext, dDrop, dRet, dRetN, dIfS, dName, dGNil, dGCons, dGTup, dSub, gSetL, dAsg, dPar, dPar3, dAug, gIpI, dSeqI, gSeqI, dRngI, gRng1, gRng2, dCB, gAbs, gInt, gMax, gMin, gGcd, gLen, lenD, gIsi, tyM, tyD, dBits, gBits, dMet, gAppend, dPart, dNoPart, dSl, gSl_tup, gSl_lst, cut_1, dEnds, gIs, isB, dNever, dCallX, dRaise, dTry, dFld, dCallV, gLRng, gFrz, dFrz, dFor, dLc, wipeD, dYes,
  sizeLine_eq, Nat.reduceLeDiff, gEq_int, gNe_int, gEq_strs, gNe_strs, gIn_two, gRepr_bl, rs_lst, rs_tup, rs_scr, rs_int, atI_0, atI_1, atI_2, atI_3, atI_4, atI_5, ixN_30, ixN_31, ixN_32, gEq_bl, gNe_bl, decide_eq_true_eq, beq_iff_eq, Bool.not_eq_true', beq_eq_false_iff_ne, decide_eq_false_iff_not, Bool.not_true, Bool.not_false, if_true, if_false, Bool.false_eq_true, ite_true, ite_false, true_and, and_true, ne_eq, Bool.bne_false, Bool.bne_true, reduceCtorEq])
local macro_rules | `(tactic| walk_at "kb") => `(tactic| simp only [kb_NoneType_list, kb_bool_list, kb_int_list, kb_str_list, kb_tuple_list, kb_list_list, kb_dict_list, kb_NoneType_int, kb_bool_int, kb_int_int, kb_str_int, kb_tuple_int, kb_list_int, kb_dict_int, kb_NoneType_bool, kb_bool_bool, kb_int_bool, kb_str_bool, kb_tuple_bool, kb_list_bool, kb_dict_bool, kb_NoneType_tuple, kb_bool_tuple, kb_int_tuple, kb_str_tuple, kb_tuple_tuple, kb_list_tuple, kb_dict_tuple, if_true, if_false, Bool.false_eq_true, ite_true, ite_false, Bool.not_true, Bool.not_false])
/-! RdZB: the law's own places (k35) -/
theorem Gn.ltK {k : Nat} {n : Int} {M : Mem} (h : Gn k n M) : k < M.length := by
  obtain ⟨a, s, c, e, _⟩ := h
  exact (List.getElem?_eq_some_iff.mp e).1
theorem Gn.appK {k : Nat} {n : Int} {M G : Mem} (h : Gn k n M) : Gn k n (M ++ G) := by
  have hk := h.ltK
  obtain ⟨a, s, c, e, r⟩ := h
  exact ⟨a, s, c, by rw [List.getElem?_append_left hk]; exact e, r⟩
theorem Gst.cutK {k : Nat} {n : Int} {M G M' : Mem} (hk : k < M.length) (h : Gst k n (M ++ G) M') : ∃ M1, M' = M1 ++ G ∧ Gst k n M M1 := by
  obtain ⟨h1, h2, h3⟩ := h
  rw [List.length_append] at h1
  refine ⟨M'.take M.length, ?_, ?_, ?_, fun i hi => ?_⟩
  · refine List.ext_getElem? fun i => ?_
    by_cases hlt : i < M.length
    · rw [List.getElem?_append_left (by rw [List.length_take]; omega), List.getElem?_take_of_lt hlt]
    · rw [List.getElem?_append_right (by rw [List.length_take]; omega), h3 i (by omega), List.getElem?_append_right (by omega)]
      congr 1
      rw [List.length_take]
      omega
  · rw [List.length_take]; omega
  · obtain ⟨a, s, c, e, r⟩ := h2
    exact ⟨a, s, c, by rw [List.getElem?_take_of_lt hk]; exact e, r⟩
  · by_cases hlt : i < M.length
    · rw [List.getElem?_take_of_lt hlt, h3 i hi, List.getElem?_append_left hlt]
    · rw [List.getElem?_eq_none (by rw [List.length_take]; omega), List.getElem?_eq_none (by omega)]
theorem Gst.rtqK {k : Nat} {n : Int} {M M1 G : Mem} {Q : DQ} {d : D} (h : Gst k n M M1) (q : Q d M1) (hb : below M1.length d = true := by rfl) : Rtq M Q d (M1 ++ G) := by
  obtain ⟨M2, G2, e, h2⟩ := h.rtq q hb
  subst e
  exact ⟨M2, G2 ++ G, List.append_assoc _ _ _, h2⟩
theorem setMK {M G : Mem} {x y : Own} : (M ++ x :: G).set M.length y = M ++ y :: G := by rw [List.set_append_right _ _ (Nat.le_refl _), Nat.sub_self]; rfl
theorem res_ownLK {M : Mem} {k : Nat} {l : List D} (h : M[k]? = some (.lst l)) : res M (.own k) = .lst l := by
  unfold res
  dsimp only
  rw [h]
theorem gcd_s0 {s n : Int} : Int.gcd (Int.gcd s 0 : Int) n = Int.gcd s n := by
  rw [Int.gcd_zero_right]
  simp [Int.gcd]
theorem nvq {m e s n : Int} (g : Int.gcd s n = 1) (n0 : 0 < n) : nv m e s 0 n = T3 s 0 n := by
  have h1 : nv m e s 0 n = rootN m s 0 n := rn_eq (by omega) (by omega) (by grind) (by grind)
  rw [h1]
  unfold rootN
  have hx : rnX m s 0 = s := by
    unfold rnX
    split
    · omega
    · rfl
  have hy : rnY m 0 = 0 := by
    unfold rnY
    split <;> rfl
  have hc : rnC m s 0 n = 1 := by
    unfold rnC
    rw [if_neg (by omega), hx, hy]
    rw [gcd_s0, g]; rfl
  rw [hc, hx, hy, Int.fdiv_one, Int.fdiv_one, Int.fdiv_one]
/-- a share of the way -/
structure Shr (s n : Int) (d : D) : Prop where
  eq : d = T3 s 0 n
  g : Int.gcd s n = 1
  s0 : 0 < s
  sn : s < n
theorem Shr.v {m e s n : Int} {d : D} (h : Shr s n d) : d = nv m e s 0 n := by rw [h.eq, nvq h.g (by have := h.s0; have := h.sn; omega)]
theorem Shr.neg {m e s n : Int} {d : D} (h : Shr s n d) : T3 (0 - s) 0 n = nv m e (-s) 0 n := by rw [nvq (by rw [Int.neg_gcd]; exact h.g) (by have := h.s0; have := h.sn; omega), Int.zero_sub]
def sp_lshare : DSp := fun ds M Q _ => ∃ (k : Nat) (w n : Int), ds = [.own k, .int w] ∧ 2 ≤ w ∧ w ≤ 1000 ∧ Gn k n M ∧ n ≤ P40 - 40 ∧ ∀ s t d M', Shr s t d → t ≤ w → Gst k (n + 40) M M' → Q d M'
theorem rd_l_share_4ae7 : ∀ ds M Q, ds.length = 2 → sp_lshare ds M Q DX0 → t_l_share_4ae7 sp_root_by sp_random (dEnds M Q) (startD 2 ds) M := by
  rintro _ M Q - ⟨k, w, n, rfl, w1, w2, hg, hn, q⟩
  unfold t_l_share_4ae7
  walk_at "rd"
  refine ⟨k, w - 1, n, rfl, by omega, by have : (2 : Int) ^ 900 = 2 ^ 10 * 2 ^ 890 := by decide +kernel
                                         have : (1 : Int) ≤ 2 ^ 890 := by decide +kernel
                                         omega, hg, hn, fun v M' v0 v1 g => ?_⟩
  dsimp only
  refine rootC (by decide) (Bi.of_abs 5 (by decide) (by decide)) (by omega : w ≠ 0) (nx := 11) (nb := 11) (Bi.of_abs 1001 (by omega) (by decide)) (Bi.of_abs 0 (by decide) (by decide)) (Bi.of_abs 1000 (by omega) (by decide)) fun d hd => ?_
  obtain ⟨t1, t2, t3, j, T⟩ := hd.t3 (by decide) (Bi.of_abs 5 (by decide) (by decide))
  have p3 := T.nf.pos
  have e3 := T.e3
  have e2 := T.e2
  have e1 := T.e1
  have hx : rnX 5 (1 + v) 0 = 1 + v := by
    unfold rnX
    split
    · omega
    · rfl
  have hy : rnY 5 0 = 0 := by
    unfold rnY
    split <;> rfl
  rw [hx] at e1
  rw [hy] at e2
  have j0 : 0 < j := by
    rcases (by omega : 0 < j ∨ j ≤ 0) with z | z
    · exact z
    · have := Int.mul_nonpos_of_nonpos_of_nonneg z (show 0 ≤ t3 by omega)
      omega
  have t20 : t2 = 0 := by
    rcases Int.mul_eq_zero.mp e2.symm with z | z
    · omega
    · exact z
  subst t20
  have t10 : 0 < t1 := by
    rcases (by omega : 0 < t1 ∨ t1 ≤ 0) with z | z
    · exact z
    · have := Int.mul_nonpos_of_nonneg_of_nonpos (show 0 ≤ j by omega) z
      omega
  have t13 : t1 < t3 := by
    rcases (by omega : t1 < t3 ∨ t3 ≤ t1) with z | z
    · exact z
    · have := Int.mul_le_mul_of_nonneg_left z (show 0 ≤ j by omega)
      omega
  have t3w : t3 ≤ w := by
    have := Int.mul_le_mul_of_nonneg_right (show 1 ≤ j by omega) (show 0 ≤ t3 by omega)
    omega
  have cop := T.nf.cop
  rw [gcd_s0] at cop
  have bel : ∀ n, below n d = true := fun n => by rw [T.eq]; rfl
  exact g.rtq (q t1 t3 d M' ⟨T.eq, cop, t10, t13⟩ t3w g) (bel _)
/-! ### sums and products of the law -/
theorem CM.m0 {m a b c e : Int} (h : CM m a b c e) : 0 ≤ m := by rw [← h.hm]; exact h.ck.m0
theorem CM.bm {m a b c e : Int} (h : CM m a b c e) : Bi 200 m := by rw [← h.hm]; exact h.ck.bm
section
variable {m a b c e P Q N P' Q' N' P1 Q1 N1 P1' Q1' N1' P2 Q2 N2 P3 Q3 N3 s : Int} {k l : Nat} {x y x' y' : D} {M : Mem} {Qc : DQ} {E : DX}
theorem lplusN (h : CM m a b c e) (hs : s = 1 ∨ s = -1) (hx : NV m e 290 x P Q N) (hy : NV m e 290 y P' Q' N') (P2 Q2 N2 : Int) (n2 : 0 < N2) (h1 : P2 * (N * N') = (P * N' + s * P' * N) * N2) (h2 : Q2 * (N * N') = (Q * N' + s * Q' * N) * N2) (q : Qc (nv m e P2 Q2 N2) M) : sp_lplusT [.int m, x, y, .int s] M Qc E := by
  have n0 := hx.n0
  have n1 := hy.n0
  have bs : Bi 110 s := by rcases hs with rfl | rfl <;> exact Bi.of_abs 1 (by decide) (by decide)
  refine lplusS h.m0 h.bm bs (hx.rv h.ck.be) (hy.rv h.ck.be) (fun d hd => ?_) ⟨by decide, by decide, by decide, by decide⟩
  rw [hd.eq]
  have : rootN m ((2 * P + Q * e) * (2 * N') + s * (2 * P' + Q' * e) * (2 * N)) (Q * (2 * N') + s * Q' * (2 * N)) (2 * N * (2 * N')) = nv m e P2 Q2 N2 := by
    refine rn_eq (by have := Int.mul_pos (show 0 < 2 * N by omega) (show 0 < 2 * N' by omega); omega) (by omega) ?_ ?_
    · have e1 : ((2 * P + Q * e) * (2 * N') + s * (2 * P' + Q' * e) * (2 * N)) * (2 * N2) = 4 * (2 * ((P * N' + s * P' * N) * N2) + (Q * N' + s * Q' * N) * N2 * e) := by grind
      rw [e1, ← h1, ← h2]; grind
    · have e1 : (Q * (2 * N') + s * Q' * (2 * N)) * (2 * N2) = 4 * ((Q * N' + s * Q' * N) * N2) := by grind
      rw [e1, ← h2]; grind
  rw [this]; exact q
theorem laddN (h : CM m a b c e) (hs : s = 1 ∨ s = -1) (hx : NV m e 290 x P Q N) (hy : NV m e 290 y P1 Q1 N1) (hx' : NV m e 290 x' P' Q' N') (hy' : NV m e 290 y' P1' Q1' N1') (P2 Q2 N2 P3 Q3 N3 : Int) (n2 : 0 < N2) (n3 : 0 < N3)
    (h1 : P2 * (N * N') = (P * N' + s * P' * N) * N2) (h2 : Q2 * (N * N') = (Q * N' + s * Q' * N) * N2) (h3 : P3 * (N1 * N1') = (P1 * N1' + s * P1' * N1) * N3) (h4 : Q3 * (N1 * N1') = (Q1 * N1' + s * Q1' * N1) * N3)
    (q : Qc (.tup [nv m e P2 Q2 N2, nv m e P3 Q3 N3]) M) : sp_ladded [.int m, .tup [x, y], .tup [x', y'], .int s] M Qc E := by
  have n0 := hx.n0
  have n1 := hy.n0
  have n0' := hx'.n0
  have n1' := hy'.n0
  refine ⟨m, x, y, x', y', s, _, _, _, _, _, _, _, _, _, _, _, _, 392, 292, rfl, h.m0, h.bm, hs, by decide, by decide, hx.rv h.ck.be, hy.rv h.ck.be, hx'.rv h.ck.be, hy'.rv h.ck.be, ?_⟩
  have key : ∀ {P Q N P' Q' N' P2 Q2 N2 : Int}, 0 < N → 0 < N' → 0 < N2 → P2 * (N * N') = (P * N' + s * P' * N) * N2 → Q2 * (N * N') = (Q * N' + s * Q' * N) * N2 → 
      rootN m ((2 * P + Q * e) * (2 * N') + s * (2 * P' + Q' * e) * (2 * N)) (Q * (2 * N') + s * Q' * (2 * N)) (2 * N * (2 * N')) = nv m e P2 Q2 N2 := fun {P Q N P' Q' N' P2 Q2 N2} n0 n0' n2 h1 h2 => by
    refine rn_eq (by have := Int.mul_pos (show 0 < 2 * N by omega) (show 0 < 2 * N' by omega); omega) (by omega) ?_ ?_
    · have e1 : ((2 * P + Q * e) * (2 * N') + s * (2 * P' + Q' * e) * (2 * N)) * (2 * N2) = 4 * (2 * ((P * N' + s * P' * N) * N2) + (Q * N' + s * Q' * N) * N2 * e) := by grind
      rw [e1, ← h1, ← h2]; grind
    · have e1 : (Q * (2 * N') + s * Q' * (2 * N)) * (2 * N2) = 4 * ((Q * N' + s * Q' * N) * N2) := by grind
      rw [e1, ← h2]; grind
  rw [key n0 n0' n2 h1 h2, key n1 n1' n3 h3 h4]
  exact q
theorem lscaleN (h : CM m a b c e) (hx : NV m e 290 x P 0 N) (hy : NV m e 290 y P1 Q1 N1) (hy' : NV m e 290 y' P1' Q1' N1') (q : Qc (.tup [nv m e (P * P1) (P * Q1) (N * N1), nv m e (P * P1') (P * Q1') (N * N1')]) M) : sp_lscaled [.int m, x, .tup [y, y']] M Qc E := by
  have n0 := hx.n0
  have n1 := hy.n0
  have n1' := hy'.n0
  have r1 := hx.rv h.ck.be
  have r2 := hy.rv h.ck.be
  have r3 := hy'.rv h.ck.be
  refine ⟨m, x, y, y', _, _, _, _, _, _, _, _, _, 392, 292, 392, 292, rfl, h.m0, h.bm, by decide, by decide, by decide, by decide, r1, r2, r3, ?_⟩
  have key : ∀ {P N P1 Q1 N1 : Int}, 0 < N → 0 < N1 → rootN m ((2 * P + 0 * e) * (2 * P1 + Q1 * e) + m * 0 * Q1) ((2 * P + 0 * e) * Q1 + 0 * (2 * P1 + Q1 * e)) (2 * N * (2 * N1)) = nv m e (P * P1) (P * Q1) (N * N1) := fun {P N P1 Q1 N1} n0 n1 =>
    rn_eq (by have := Int.mul_pos (show 0 < 2 * N by omega) (show 0 < 2 * N1 by omega); omega) (by have := Int.mul_pos n0 n1; omega) (by grind) (by grind)
  rw [key n0 n1, key n0 n1']
  exact q
/-- a quotient times a number -/
theorem ltimesN (h : CM m a b c e) (hx : NV m e 290 x P 0 N) (hy : NV m e 290 y P1 Q1 N1) (q : Qc (nv m e (P * P1) (P * Q1) (N * N1)) M) : sp_times_by [.int m, x, y] M Qc E := by
  have n0 := hx.n0
  have n1 := hy.n0
  refine timesC h.m0 h.bm (hx.rv h.ck.be) (hy.rv h.ck.be) (fun d hd => ?_) ⟨by decide, by decide, by decide, by decide⟩
  rw [hd.eq, show rootN m ((2 * P + 0 * e) * (2 * P1 + Q1 * e) + m * 0 * Q1) ((2 * P + 0 * e) * Q1 + 0 * (2 * P1 + Q1 * e)) (2 * N * (2 * N1)) = nv m e (P * P1) (P * Q1) (N * N1) from rn_eq (by have := Int.mul_pos (show 0 < 2 * N by omega) (show 0 < 2 * N1 by omega); omega) (by have := Int.mul_pos n0 n1; omega) (by grind) (by grind)]
  exact q
theorem ltimesR (h : CM m a b c e) (hx : NV m e 290 x P Q N) (hy : NV m e 290 y P1 0 N1) (q : Qc (nv m e (P * P1) (Q * P1) (N * N1)) M) : sp_times_by [.int m, x, y] M Qc E := by
  have n0 := hx.n0
  have n1 := hy.n0
  refine timesC h.m0 h.bm (hx.rv h.ck.be) (hy.rv h.ck.be) (fun d hd => ?_) ⟨by decide, by decide, by decide, by decide⟩
  rw [hd.eq, show rootN m ((2 * P + Q * e) * (2 * P1 + 0 * e) + m * Q * 0) ((2 * P + Q * e) * 0 + Q * (2 * P1 + 0 * e)) (2 * N * (2 * N1)) = nv m e (P * P1) (Q * P1) (N * N1) from rn_eq (by have := Int.mul_pos (show 0 < 2 * N by omega) (show 0 < 2 * N1 by omega); omega) (by have := Int.mul_pos n0 n1; omega) (by grind) (by grind)]
  exact q
end
/-! ### corners and edges of the law -/
def cornL (m a b c e : Int) : List D := [crn m a b c e 0, crn m a b c e 1, crn m a b c e 2, crn m a b c e 3, crn m a b c e 4, crn m a b c e 5, crn m a b c e 6, crn m a b c e 7]
theorem nv_cR {m a e : Int} : cR m a e = nv m e a 1 1 := by unfold cR nv; rw [Int.one_mul, Int.mul_one]
theorem cornL_eq {m a b c e : Int} : cornD m a b c e = cornL m a b c e := by
  unfold cornD cornL crn k1 k2 k3 k4
  simp only [nv_cR, ← nv_s, ← nv_z, ← nv_i]
def sp_lcornersK : DSp := fun ds M Q _ => ∃ m a b c e : Int, ds = [T4 a b c e] ∧ CM m a b c e ∧ Q (.lst (cornL m a b c e)) M
theorem rd_l_corners_5cb1 : ∀ ds M Q, ds.length = 1 → sp_lcornersK ds M Q DX0 → t_l_corners_5cb1 sp_slit sp_measure_by sp_lwhole sp_lplusT (dEnds M Q) (startD 11 ds) M := by
  rintro _ M Q - ⟨m, a, b, c, e, rfl, H, q⟩
  rw [← cornL_eq] at q
  have h := H.ck
  unfold t_l_corners_5cb1
  refine dSeq_open fun B hB => ?_
  walk_at "rd"
  rw [← hB]
  clear hB B
  refine dSeq_open fun B hB => ?_
  walk_at "rd"
  refine ⟨a, b, c, e, rfl, h, fun S hS => ?_⟩
  have eS : S = cS (meas4 b c e) e := hS.eq
  subst eS
  rw [← hB]
  clear hB B
  refine dSeq_open fun B hB => ?_
  walk_at "rd"
  refine ⟨a, b, c, e, rfl, h.bb.mono, h.bc.mono, h.be.mono, ?_⟩
  refine ⟨0, rfl, ?_⟩
  dsimp only
  rw [← hB]
  clear hB B
  rw [H.hm] at hS ⊢
  have m0 := H.m0
  have bm := H.bm
  refine dSeq_open fun B hB => ?_
  walk_at "rd"
  refine ⟨a, rfl, ?_⟩
  refine lplusC m0 bm (rv_int h.ba) hS fun d hd => ?_
  have ed : d = cR m a e := hd.eq.trans (rn_eq hd.b0 (by decide) (by grind) (by grind))
  subst ed
  refine ⟨c, rfl, ?_⟩
  refine lplusC m0 bm (rv_int h.bc) hS fun d hd => ?_
  have ed : d = cR m c e := hd.eq.trans (rn_eq hd.b0 (by decide) (by grind) (by grind))
  subst ed
  rw [← hB]
  clear hB B
  refine dSeq_open fun B hB => ?_
  walk_at "rd"
  refine ⟨b, rfl, ⟨a + b, rfl, ⟨c, rfl, ?_⟩⟩⟩
  rw [← hB]
  clear hB B
  walk_at "rd"
  refine ⟨c, rfl, ⟨a, rfl, ⟨a, rfl, ⟨c, rfl, ?_⟩⟩⟩⟩
  exact rtq q rfl
/-- the edge's ends -/
def nxt (i : Nat) : Nat := if i = 7 then 0 else i + 1
theorem corn_at {m a b c e : Int} {i : Nat} (hi : i < 8) : atI (cornL m a b c e) (i : Int) = some (crn m a b c e i) ∧ atI (cornL m a b c e) (((i : Int) + 1).fmod 8) = some (crn m a b c e (nxt i)) := by
  rcases (by omega : i = 0 ∨ i = 1 ∨ i = 2 ∨ i = 3 ∨ i = 4 ∨ i = 5 ∨ i = 6 ∨ i = 7) with rfl | rfl | rfl | rfl | rfl | rfl | rfl | rfl <;> exact ⟨rfl, rfl⟩
theorem k_bi {m a b c e : Int} (h : CM m a b c e) (i : Nat) : Bi 42 (k1 a b i) ∧ Bi 42 (k2 i) ∧ Bi 42 (k3 c i) ∧ Bi 42 (k4 i) := by
  have : BI a 40 := ⟨h.ba⟩
  have : BI b 40 := ⟨h.bb⟩
  have : BI c 40 := ⟨h.bc⟩
  unfold k1 k2 k3 k4
  refine ⟨?_, ?_, ?_, ?_⟩ <;> split <;> exact bi
theorem g_eq {a b c s n : Int} {i : Nat} (hi : i < 8) : gX a b s n i = n * k1 a b i + s * (k1 a b (nxt i) - k1 a b i) ∧ gX2 s n i = n * k2 i + s * (k2 (nxt i) - k2 i) ∧ gY c s n i = n * k3 c i + s * (k3 c (nxt i) - k3 c i) ∧ gY2 s n i = n * k4 i + s * (k4 (nxt i) - k4 i) := by
  rcases (by omega : i = 0 ∨ i = 1 ∨ i = 2 ∨ i = 3 ∨ i = 4 ∨ i = 5 ∨ i = 6 ∨ i = 7) with rfl | rfl | rfl | rfl | rfl | rfl | rfl | rfl <;> simp only [nxt, gX, gX2, gY, gY2, k1, k2, k3, k4] <;> refine ⟨?_, ?_, ?_, ?_⟩ <;> grind
theorem cmod8 {i : Nat} (hi : i < 8) : CMod ((i : Int) + 1) 8 := by show (8 : Int) ≠ 0; decide
def sp_lalong : DSp := fun ds M Q _ => ∃ (m a b c e s n : Int) (i : Nat), ds = [T4 a b c e, .int i, nv m e s 0 n] ∧ CM m a b c e ∧ i < 8 ∧ 0 < n ∧ Bi 20 s ∧ Bi 20 n ∧ Q (Eg m a b c e i s n) M
theorem rd_l_along_edge_cdad : ∀ ds M Q, ds.length = 3 → sp_lalong ds M Q DX0 → t_l_along_edge_cdad sp_measure_by sp_lcornersK sp_ladded sp_lscaled (dEnds M Q) (startD 7 ds) M := by
  rintro _ M Q - ⟨m, a, b, c, e, s, n, i, rfl, h, hi, n0, bs, bn, q⟩
  unfold t_l_along_edge_cdad
  refine dSeq_open fun B hB => ?_
  walk_at "rd"
  refine ⟨a, b, c, e, rfl, h.ck.bb.mono, h.ck.bc.mono, h.ck.be.mono, ?_⟩
  refine ⟨m, a, b, c, e, rfl, h, ?_⟩
  rw [h.hm, ← hB]
  clear hB B
  obtain ⟨q1, q2⟩ := corn_at (m := m) (a := a) (b := b) (c := c) (e := e) hi
  refine dSeq_open fun B hB => ?_
  walk_at "rd"
  rw [q1, q2]
  dsimp only
  refine ⟨cmod8 hi, ?_⟩
  rw [← hB]
  clear hB B
  walk_at "rd"
  unfold crn
  obtain ⟨u1, u2, u3, u4⟩ := k_bi h i
  obtain ⟨v1, v2, v3, v4⟩ := k_bi h (nxt i)
  obtain ⟨e1, e2, e3, e4⟩ := g_eq (a := a) (b := b) (c := c) (s := s) (n := n) hi
  have B1 : Bi 290 1 := Bi.of_abs 1 (by decide) (by decide)
  have : BI s 20 := ⟨bs⟩
  have : BI n 20 := ⟨bn⟩
  have : BI (k1 a b i) 42 := ⟨u1⟩
  have : BI (k2 i) 42 := ⟨u2⟩
  have : BI (k3 c i) 42 := ⟨u3⟩
  have : BI (k4 i) 42 := ⟨u4⟩
  have : BI (k1 a b (nxt i)) 42 := ⟨v1⟩
  have : BI (k2 (nxt i)) 42 := ⟨v2⟩
  have : BI (k3 c (nxt i)) 42 := ⟨v3⟩
  have : BI (k4 (nxt i)) 42 := ⟨v4⟩
  refine laddN h (.inr rfl) (NV.mk' (by decide) bi bi bi) (NV.mk' (by decide) bi bi bi) (NV.mk' (by decide) bi bi bi) (NV.mk' (by decide) bi bi bi)
    (k1 a b (nxt i) - k1 a b i) (k2 (nxt i) - k2 i) 1 (k3 c (nxt i) - k3 c i) (k4 (nxt i) - k4 i) 1 (by decide) (by decide) (by grind) (by grind) (by grind) (by grind) ?_
  refine lscaleN h (NV.mk' n0 bi bi bi) (NV.mk' (by decide) bi bi bi) (NV.mk' (by decide) bi bi bi) ?_
  refine laddN h (.inl rfl) (NV.mk' (by decide) bi bi bi) (NV.mk' (by decide) bi bi bi) (NV.mk' (by omega) bi bi bi) (NV.mk' (by omega) bi bi bi)
    (gX a b s n i) (gX2 s n i) n (gY c s n i) (gY2 s n i) n n0 n0 (by rw [e1]; grind) (by rw [e2]; grind) (by rw [e3]; grind) (by rw [e4]; grind) ?_
  exact rtq q rfl
/-! ### places beside the sheet -/
theorem nv_neg {m a b c e P Q N : Int} (h : CM m a b c e) (n0 : 0 < N) : ∃ t1 t2 t3, nv m e P Q N = T3 t1 t2 t3 ∧ T3 (0 - t1) (0 - t2) t3 = nv m e (-P) (-Q) N := by
  have u : ∀ x k, x.natAbs ≤ k → Bi k x := fun x k hk => (bi_self x).up hk
  have v : NV m e (max P.natAbs (max Q.natAbs N.natAbs)) (nv m e P Q N) P Q N := ⟨rfl, n0, u _ _ (by omega), u _ _ (by omega), u _ _ (by omega)⟩
  obtain ⟨t1, t2, t3, j, T⟩ := (v.rv h.ck.be).t3 h.m0 h.bm
  refine ⟨t1, t2, t3, T.eq, ?_⟩
  have k0 := T.k0
  have e1 := T.e1
  have e2 := T.e2
  have e3 := T.e3
  have p3 := T.nf.pos
  have nn := T.nf.neg
  unfold nv
  have hX : rnX m (2 * -P + -Q * e) (-Q) = j * (0 - t1) := by
    have : rnX m (2 * -P + -Q * e) (-Q) = -rnX m (2 * P + Q * e) Q := by
      unfold rnX
      split <;> grind
    rw [this, e1]; grind
  have hY : rnY m (-Q) = j * (0 - t2) := by
    have : rnY m (-Q) = -rnY m Q := by
      unfold rnY
      split <;> omega
    rw [this, e2]; grind
  rw [rootN_nf, hX, hY, e3, nf_scale k0 (by omega), nf_self nn.pos nn.cop]
theorem w_eq {a b c : Int} {i : Nat} (hi : i < 8) : wX c i = k3 c (nxt i) - k3 c i ∧ wX2 i = k4 (nxt i) - k4 i ∧ wY a b i = -(k1 a b (nxt i) - k1 a b i) ∧ wY2 i = -(k2 (nxt i) - k2 i) := by
  rcases (by omega : i = 0 ∨ i = 1 ∨ i = 2 ∨ i = 3 ∨ i = 4 ∨ i = 5 ∨ i = 6 ∨ i = 7) with rfl | rfl | rfl | rfl | rfl | rfl | rfl | rfl <;> simp only [nxt, wX, wX2, wY, wY2, k1, k2, k3, k4] <;> refine ⟨?_, ?_, ?_, ?_⟩ <;> first | rfl | grind
theorem g_bi {m a b c e s n : Int} (h : CM m a b c e) (bs : Bi 20 s) (bn : Bi 20 n) {i : Nat} (hi : i < 8) : Bi 64 (gX a b s n i) ∧ Bi 64 (gX2 s n i) ∧ Bi 64 (gY c s n i) ∧ Bi 64 (gY2 s n i) := by
  obtain ⟨u1, u2, u3, u4⟩ := k_bi h i
  obtain ⟨v1, v2, v3, v4⟩ := k_bi h (nxt i)
  obtain ⟨e1, e2, e3, e4⟩ := g_eq (a := a) (b := b) (c := c) (s := s) (n := n) hi
  have : BI s 20 := ⟨bs⟩
  have : BI n 20 := ⟨bn⟩
  have : BI (k1 a b i) 42 := ⟨u1⟩
  have : BI (k2 i) 42 := ⟨u2⟩
  have : BI (k3 c i) 42 := ⟨u3⟩
  have : BI (k4 i) 42 := ⟨u4⟩
  have : BI (k1 a b (nxt i)) 42 := ⟨v1⟩
  have : BI (k2 (nxt i)) 42 := ⟨v2⟩
  have : BI (k3 c (nxt i)) 42 := ⟨v3⟩
  have : BI (k4 (nxt i)) 42 := ⟨v4⟩
  rw [e1, e2, e3, e4]
  exact ⟨bi, bi, bi, bi⟩
theorem ow_all {a b c s n w : Int} (h : CB a b c) (s0 : 0 < s) (sn : s < n) (w0 : 0 < w) (nw : n ≤ w) {i : Nat} (hi : i < 8) : Out a b c (gX a b s n i * w + wX c i * n) (gX2 s n i * w + wX2 i * n) (gY c s n i * w + wY a b i * n) (gY2 s n i * w + wY2 i * n) (n * w) := by
  rcases (by omega : i = 0 ∨ i = 1 ∨ i = 2 ∨ i = 3 ∨ i = 4 ∨ i = 5 ∨ i = 6 ∨ i = 7) with rfl | rfl | rfl | rfl | rfl | rfl | rfl | rfl
  · exact ow0 h s0 sn w0 nw
  · exact ow1 h s0 sn w0 nw
  · exact ow2 h s0 sn w0 nw
  · exact ow3 h s0 sn w0 nw
  · exact ow4 h s0 sn w0 nw
  · exact ow5 h s0 sn w0 nw
  · exact ow6 h s0 sn w0 nw
  · exact ow7 h s0 sn w0 nw
def OutD (m a b c e : Int) (d : D) : Prop := ∃ X1 X2 Y1 Y2 N : Int, d = .tup [nv m e X1 X2 N, nv m e Y1 Y2 N] ∧ Pl X1 X2 Y1 Y2 N ∧ Out a b c X1 X2 Y1 Y2 N
theorem belowAllK {n : Nat} : ∀ {l : List D}, (∀ d ∈ l, below n d = true) → belowAll n l = true
  | [], _ => rfl
  | d :: l, h => by
    rw [belowAll, h d (List.mem_cons_self ..), Bool.true_and]
    exact belowAllK fun x hx => h x (List.mem_cons_of_mem _ hx)
def sp_loutside : DSp := fun ds M Q _ => ∃ (m a b c e n : Int) (k : Nat), ds = [.own k, T4 a b c e] ∧ CM m a b c e ∧ Gn k n M ∧ n ≤ P40 - 1000 ∧ ∀ l M', (∀ d ∈ l, OutD m a b c e d) → l.length ≤ 100 → Gst k (n + 700) M M' → Q (.lst l) M'
theorem rd_l_outside_bec0 : ∀ ds M Q, ds.length = 2 → sp_loutside ds M Q DX0 → t_l_outside_bec0 sp_measure_by sp_lcornersK sp_ladded sp_lalong sp_lshare sp_random sp_lscaled sp_slit sp_lplusT sp_lwhole sp_times_by (dEnds M Q) (startD 14 ds) M := by
  rintro _ M Q - ⟨m, a, b, c, e, n, k, rfl, h, hg, hn, q⟩
  unfold t_l_outside_bec0
  refine dSeq_open fun B hB => ?_
  walk_at "rd"
  refine ⟨a, b, c, e, rfl, h.ck.bb.mono, h.ck.bc.mono, h.ck.be.mono, ?_⟩
  refine ⟨m, a, b, c, e, rfl, h, ?_⟩
  rw [h.hm]
  rw [← hB]
  clear hB B
  obtain ⟨b0, c0, a0, ac⟩ := h.cb
  have BA : BI a 40 := ⟨h.ba⟩
  have BB : BI b 40 := ⟨h.bb⟩
  have BC : BI c 40 := ⟨h.bc⟩
  have hk := hg.ltK
  refine dSeq_open fun B0 hB0 => ?_
  walk_at "rd"
  refine ⟨⟨by decide, by decide⟩, fun i r1 M1 => ∃ (N : Mem) (l : List D) (o5 o6 o7 o8 o9 o10 : Option D), M1 = N ++ [.lst l] ∧ Gst k (n + 80 * i) M N ∧ (∀ d ∈ l, OutD m a b c e d) ∧ l.length = 2 * i ∧ i ≤ 8 ∧
    r1 = [some (.own k), some (T4 a b c e), some (.int m), some (.lst (cornL m a b c e)), some (.own M.length), o5, o6, o7, o8, o9, o10, none, none, none], ⟨M, [], _, _, _, _, _, _, rfl, Gst.refl (hg.le (by omega)), fun d hd => (by cases hd), rfl, by omega, rfl⟩, ?_⟩
  rintro i r1 M1 ⟨N, l, o5, o6, o7, o8, o9, o10, rfl, hG, hl, ll, i8, rfl⟩
  refine ⟨trivial, fun hi => ?_, fun d hd => ?_⟩
  · have : i = 8 := by rw [show (rng 0 (Int.toNat 8)).length = 8 from rfl] at hi; omega
    subst this
    rw [← hB0]
    clear hB0 B0
    dsimp only
    refine dSeq_open fun B hB => ?_
    walk_at "rd"
    refine ⟨a, b, c, e, rfl, h.ck, fun S hS => ?_⟩
    rw [h.hm] at hS
    have eS : S = nv m e 0 1 1 := hS.eq.trans nv_s
    subst eS
    have hkN : k < N.length := by rw [hG.1]; exact hk
    refine ⟨k, 20, n + 640, rfl, by decide, by decide, hG.2.1.appK, by omega, fun s t d M1 hs ht g1 => ?_⟩
    obtain ⟨N1, rfl, h1⟩ := g1.cutK hkN
    clear g1
    have gA := (hG.trans h1).le (m := n + 700) (by omega)
    have nM : N1.length = M.length := by rw [gA.1]
    have s0 := hs.s0
    have st := hs.sn
    have bs : Bi 20 s := Bi.of_abs 30 (by omega) (by decide)
    have bt : Bi 20 t := Bi.of_abs 30 (by omega) (by decide)
    have D5 : BI t 20 := ⟨bt⟩
    have D6 : BI s 20 := ⟨bs⟩
    have t0 : 0 < t := by omega
    rw [hs.eq, ← hB]
    clear hB B
    refine dSeq_open fun B hB => ?_
    walk_at "rd"
    have nq : D.tup [D.int (0 - s), D.int 0, D.int t] = nv m e (-s) 0 t := hs.neg
    have bns : Bi 20 (-s) := bs.ngt
    refine lcW_idx (ys := [Eg m a b c e 0 (-s) t, Eg m a b c e 2 (-s) t, Eg m a b c e 3 (-s) t, Eg m a b c e 5 (-s) t, Eg m a b c e 6 (-s) t]) rfl trivial (by rw [sizeLine_eq]; exact Nat.le_of_ble_eq_true rfl) (fun i d w hd hw Z N' hz => ?_) ?_
    · rcases (by have := (List.getElem?_eq_some_iff.mp hd).1; simp at this; omega : i = 0 ∨ i = 1 ∨ i = 2 ∨ i = 3 ∨ i = 4) with rfl | rfl | rfl | rfl | rfl
      all_goals
        cases hd
        cases hw
        walk_at "rd"
        rw [nq]
        exact ⟨m, a, b, c, e, -s, t, _, rfl, h, by decide, t0, bns, bt, hz⟩
    have getO1 : (N1 ++ [Own.lst l])[M.length]? = some (.lst l) := by rw [← nM, List.getElem?_append_right (Nat.le_refl _), Nat.sub_self]; rfl
    unfold gAddO
    rw [res_ownLK getO1]
    simp only [res]
    refine ⟨by rw [sizeLine_eq, ll]; exact Nat.le_of_ble_eq_true rfl, ?_⟩
    rw [← hB]
    clear hB B
    have bo : ∀ d ∈ [Eg m a b c e 0 (-s) t, Eg m a b c e 2 (-s) t, Eg m a b c e 3 (-s) t, Eg m a b c e 5 (-s) t, Eg m a b c e 6 (-s) t], OutD m a b c e d := by
      intro d hd
      simp only [List.mem_cons, List.not_mem_nil, or_false] at hd
      have key : ∀ i : Nat, i < 8 → Out a b c (gX a b (-s) t i) (gX2 (-s) t i) (gY c (-s) t i) (gY2 (-s) t i) t → OutD m a b c e (Eg m a b c e i (-s) t) := fun i hi o => by
        obtain ⟨x1, x2, x3, x4⟩ := g_bi h bns bt hi
        exact ⟨_, _, _, _, _, rfl, ⟨t0, x1.up (by decide), x2.up (by decide), x3.up (by decide), x4.up (by decide), bi⟩, o⟩
      rcases hd with rfl | rfl | rfl | rfl | rfl
      · exact key 0 (by decide) (bo0 h.cb s0 st)
      · exact key 2 (by decide) (bo2 h.cb s0 st)
      · exact key 3 (by decide) (bo3 h.cb s0 st)
      · exact key 5 (by decide) (bo5 h.cb s0 st)
      · exact key 6 (by decide) (bo6 h.cb s0 st)
    generalize hys : [Eg m a b c e 0 (-s) t, Eg m a b c e 2 (-s) t, Eg m a b c e 3 (-s) t, Eg m a b c e 5 (-s) t, Eg m a b c e 6 (-s) t] = ys at *
    have ys5 : ys.length = 5 := by rw [← hys]; rfl
    clear hys
    refine dSeq_open fun B hB => ?_
    walk_at "rd"
    have bss : Bi 20 (t + s) := Bi.of_abs 60 (by omega) (by decide)
    have vsh : NV m e 290 (T3 s 0 t) s 0 t := by rw [show T3 s 0 t = nv m e s 0 t from hs.eq.symm.trans hs.v]; exact NV.mk' t0 bi bi bi
    refine lcW_idx (ys := [Eg m a b c e 1 (t + s) t, Eg m a b c e 2 (t + s) t, Eg m a b c e 4 (t + s) t, Eg m a b c e 5 (t + s) t, Eg m a b c e 7 (t + s) t]) rfl trivial (by rw [sizeLine_eq]; exact Nat.le_of_ble_eq_true rfl) (fun i d w hd hw Z N' hz => ?_) ?_
    · rcases (by have := (List.getElem?_eq_some_iff.mp hd).1; simp at this; omega : i = 0 ∨ i = 1 ∨ i = 2 ∨ i = 3 ∨ i = 4) with rfl | rfl | rfl | rfl | rfl
      all_goals
        cases hd
        cases hw
        walk_at "rd"
        refine ⟨1, rfl, ?_⟩
        refine lplusN h (.inl rfl) ((nv_int (k := 290) (Bi.of_abs 1 (by decide) (by decide)) (by decide))) vsh (t + s) 0 t t0 (by grind) (by grind) ?_
        exact ⟨m, a, b, c, e, t + s, t, _, rfl, h, by decide, t0, bss, bt, hz⟩
    generalize hG2 : [Own.lst l] ++ [Own.lst (l ++ ys)] = G2
    have getO2 : (N1 ++ [Own.lst l] ++ [Own.lst (l ++ ys)])[(N1 ++ [Own.lst l]).length]? = some (.lst (l ++ ys)) := by rw [List.getElem?_append_right (Nat.le_refl _), Nat.sub_self]; rfl
    unfold gAddO
    rw [res_ownLK getO2]
    simp only [res]
    refine ⟨by rw [sizeLine_eq, List.length_append, ll, ys5]; exact Nat.le_of_ble_eq_true rfl, ?_⟩
    rw [← hB]
    clear hB B
    have ao : ∀ d ∈ [Eg m a b c e 1 (t + s) t, Eg m a b c e 2 (t + s) t, Eg m a b c e 4 (t + s) t, Eg m a b c e 5 (t + s) t, Eg m a b c e 7 (t + s) t], OutD m a b c e d := by
      intro d hd
      simp only [List.mem_cons, List.not_mem_nil, or_false] at hd
      have key : ∀ i : Nat, i < 8 → Out a b c (gX a b (t + s) t i) (gX2 (t + s) t i) (gY c (t + s) t i) (gY2 (t + s) t i) t → OutD m a b c e (Eg m a b c e i (t + s) t) := fun i hi o => by
        obtain ⟨x1, x2, x3, x4⟩ := g_bi h bss bt hi
        exact ⟨_, _, _, _, _, rfl, ⟨t0, x1.up (by decide), x2.up (by decide), x3.up (by decide), x4.up (by decide), bi⟩, o⟩
      rcases hd with rfl | rfl | rfl | rfl | rfl
      · exact key 1 (by decide) (ao1 h.cb s0 st)
      · exact key 2 (by decide) (ao2 h.cb s0 st)
      · exact key 4 (by decide) (ao4 h.cb s0 st)
      · exact key 5 (by decide) (ao5 h.cb s0 st)
      · exact key 7 (by decide) (ao7 h.cb s0 st)
    generalize hzs : [Eg m a b c e 1 (t + s) t, Eg m a b c e 2 (t + s) t, Eg m a b c e 4 (t + s) t, Eg m a b c e 5 (t + s) t, Eg m a b c e 7 (t + s) t] = zs at *
    have zs5 : zs.length = 5 := by rw [← hzs]; rfl
    clear hzs
    have all3 : ∀ d ∈ l ++ ys ++ zs, OutD m a b c e d := fun d hd => by
      rcases List.mem_append.mp hd with z | z
      · rcases List.mem_append.mp z with z | z
        · exact hl d z
        · exact bo d z
      · exact ao d z
    have len3 : (l ++ ys ++ zs).length = 26 := by rw [List.length_append, List.length_append, ll, ys5, zs5]
    generalize l ++ ys ++ zs = L3 at *
    rw [List.append_assoc N1, hG2]
    clear hG2 getO1 getO2 bo ao
    have get3 : ∀ L, (N1 ++ G2 ++ [Own.lst L])[(N1 ++ G2).length]? = some (.lst L) := fun L => by rw [List.getElem?_append_right (Nat.le_refl _), Nat.sub_self]; rfl
    have vS : NV m e 290 (nv m e 0 1 1) 0 1 1 := NV.mk' (by decide) bi bi bi
    refine dSeq_open fun B hB => ?_
    walk_at "rd"
    refine ⟨⟨_, _, rfl, get3 _⟩, ?_⟩
    rw [show atI (cornL m a b c e) 7 = some (crn m a b c e 7) from rfl]
    simp only [crn, res, k1, k2, k3, k4]
    walk_at "rd"
    refine ltimesN h vsh vS ?_
    refine lplusN h (.inr rfl) (NV.mk' (by decide) bi bi bi) (NV.mk' (by omega) bi bi bi) (a * t) (-s) t t0 (by grind) (by grind) ?_
    rw [get3]
    dsimp only
    refine ⟨by omega, ?_⟩
    rw [List.append_assoc N1, ← List.append_assoc N1, setMK, ← hB]
    clear hB B
    have vi : ∀ {i : Int}, Bi 40 i → NV m e 290 (T3 i 0 1) i 0 1 := fun bi => (nv_int bi (by decide)).up (by decide)
    refine dSeq_open fun B hB => ?_
    walk_at "rd"
    refine ⟨b, rfl, ?_⟩
    refine lplusN h (.inr rfl) (vi h.bb) vS b (-1) 1 (by decide) (by grind) (by grind) ?_
    have BM : BI (-1 : Int) 1 := ⟨Bi.of_abs 1 (by decide) (by decide)⟩
    refine ltimesN h vsh (NV.mk' (by decide) bi bi bi) ?_
    rw [← hB]
    clear hB B
    refine dSeq_open fun B hB => ?_
    walk_at "rd"
    refine ⟨a, rfl, ?_⟩
    refine lplusN h (.inl rfl) (vi h.ba) vS a 1 1 (by decide) (by grind) (by grind) ?_
    refine lplusN h (.inl rfl) (NV.mk' (by decide) bi bi bi) (NV.mk' (by omega) bi bi bi) (a * t + b * s) (t - s) t t0 (by grind) (by grind) ?_
    rw [← hB]
    clear hB B
    walk_at "rd"
    refine ⟨c, rfl, ?_⟩
    refine ltimesN h vsh vS ?_
    refine lplusN h (.inl rfl) (vi h.bc) (NV.mk' (by omega) bi bi bi) (c * t) s t t0 (by grind) (by grind) ?_
    rw [get3]
    dsimp only
    refine ⟨by rw [List.length_append, len3]; exact Nat.le_of_ble_eq_true rfl, ?_⟩
    have all5 : ∀ d ∈ L3 ++ [D.tup [nv m e (a * t) (-s) t, nv m e c 0 1]] ++ [D.tup [nv m e (a * t + b * s) (t - s) t, nv m e (c * t) s t]], OutD m a b c e d := fun d hd => by
      rcases List.mem_append.mp hd with z | z
      · rcases List.mem_append.mp z with z | z
        · exact all3 d z
        · rw [List.mem_singleton.mp z, show nv m e c 0 1 = nv m e (c * t) 0 t from nv_eq (by decide) t0 (by grind) (by grind)]
          have : BI (-s) 20 := ⟨bns⟩
          exact ⟨_, _, _, _, _, rfl, ⟨t0, bi, bi, bi, bi, bi⟩, lo1 h.cb s0 st⟩
      · rw [List.mem_singleton.mp z]
        exact ⟨_, _, _, _, _, rfl, ⟨t0, bi, bi, bi, bi, bi⟩, lo2 h.cb s0 st⟩
    rw [List.append_assoc N1]
    refine gA.rtqK (q _ N1 all5 (by rw [List.length_append, List.length_append, len3]; exact Nat.le_of_ble_eq_true rfl) gA) ?_
    simp only [below]
    refine belowAllK fun d hd => ?_
    obtain ⟨_, _, _, _, _, rfl, _⟩ := all5 d hd
    rfl
  · have hd8 : d = .int (i : Int) ∧ i < 8 := by
      rcases (by omega : i = 0 ∨ i = 1 ∨ i = 2 ∨ i = 3 ∨ i = 4 ∨ i = 5 ∨ i = 6 ∨ i = 7 ∨ i = 8) with rfl | rfl | rfl | rfl | rfl | rfl | rfl | rfl | rfl <;> cases hd <;> exact ⟨rfl, by decide⟩
    obtain ⟨rfl, i7⟩ := hd8
    obtain ⟨q1, q2⟩ := corn_at (m := m) (a := a) (b := b) (c := c) (e := e) i7
    show dSeq _ _ _ _ _
    refine dSeq_open fun B hB => ?_
    walk_at "rd"
    rw [q1, q2]
    dsimp only
    refine ⟨cmod8 i7, ?_⟩
    obtain ⟨u1, u2, u3, u4⟩ := k_bi h i
    obtain ⟨v1, v2, v3, v4⟩ := k_bi h (nxt i)
    have B1 : BI (k1 a b i) 42 := ⟨u1⟩
    have B2 : BI (k2 i) 42 := ⟨u2⟩
    have B3 : BI (k3 c i) 42 := ⟨u3⟩
    have B4 : BI (k4 i) 42 := ⟨u4⟩
    have B5 : BI (k1 a b (nxt i)) 42 := ⟨v1⟩
    have B6 : BI (k2 (nxt i)) 42 := ⟨v2⟩
    have B7 : BI (k3 c (nxt i)) 42 := ⟨v3⟩
    have B8 : BI (k4 (nxt i)) 42 := ⟨v4⟩
    obtain ⟨w1, w2, w3, w4⟩ := w_eq (a := a) (b := b) (c := c) i7
    unfold crn
    refine laddN h (.inr rfl) (NV.mk' (by decide) bi bi bi) (NV.mk' (by decide) bi bi bi) (NV.mk' (by decide) bi bi bi) (NV.mk' (by decide) bi bi bi)
      (k1 a b (nxt i) - k1 a b i) (k2 (nxt i) - k2 i) 1 (k3 c (nxt i) - k3 c i) (k4 (nxt i) - k4 i) 1 (by decide) (by decide) (by grind) (by grind) (by grind) (by grind) ?_
    obtain ⟨t1, t2, t3, et, en⟩ := nv_neg h (P := k1 a b (nxt i) - k1 a b i) (Q := k2 (nxt i) - k2 i) (N := 1) (by decide)
    rw [← w3, ← w4] at en
    rw [← w1, ← w2]
    have C1 : BI (wX c i) 43 := ⟨by rw [w1]; exact bi⟩
    have C2 : BI (wX2 i) 43 := ⟨by rw [w2]; exact bi⟩
    have C3 : BI (wY a b i) 43 := ⟨by rw [w3]; exact Bi.ngt bi⟩
    have C4 : BI (wY2 i) 43 := ⟨by rw [w4]; exact Bi.ngt bi⟩
    refine ⟨rfl, ?_⟩
    rw [et]
    dsimp only
    rw [← hB]
    clear hB B B1 B2 B3 B4 B5 B6 B7 B8
    refine dSeq_open fun B hB => ?_
    walk_at "rd"
    rw [show D.tup [D.int (0 - t1), D.int (0 - t2), D.int t3] = nv m e (wY a b i) (wY2 i) 1 from en, ← hB]
    clear hB B
    refine dSeq_open fun B hB => ?_
    walk_at "rd"
    have hkN : k < N.length := by rw [hG.1]; exact hk
    refine ⟨k, 30, n + 80 * i, rfl, by decide, by decide, hG.2.1.appK, by omega, fun s t d M1 hs ht g1 => ?_⟩
    obtain ⟨N1, rfl, h1⟩ := g1.cutK hkN
    clear g1
    refine ⟨k, 2, n + 80 * i + 40, rfl, by decide, lt900 (by decide), h1.2.1.appK, by omega, fun v M2 v0 v1 g2 => ?_⟩
    obtain ⟨N2, rfl, h2⟩ := g2.cutK (by rw [h1.1]; exact hkN)
    clear g2
    have gA := ((hG.trans h1).trans h2).le (m := n + 80 * ((i + 1 : Nat) : Int)) (by omega)
    obtain ⟨s, t, d, s0, st, t30, eA, ed⟩ : ∃ s t d2, 0 < s ∧ s < t ∧ t ≤ 30 ∧ atI [D.tup [D.int 1, D.int 0, D.int 2], d] v = some d2 ∧ d2 = nv m e s 0 t := by
      rcases (by omega : v = 0 ∨ v = 1) with rfl | rfl
      · exact ⟨1, 2, _, by decide, by decide, by decide, rfl, (nvq rfl (by decide)).symm⟩
      · exact ⟨s, t, _, hs.s0, hs.sn, ht, rfl, hs.v⟩
    dsimp only
    rw [eA]
    dsimp only
    subst ed
    have bs : Bi 20 s := Bi.of_abs 30 (by omega) (by decide)
    have bt : Bi 20 t := Bi.of_abs 30 (by omega) (by decide)
    refine ⟨m, a, b, c, e, s, t, i, rfl, h, i7, by omega, bs, bt, ?_⟩
    rw [← hB]
    clear hB B
    walk_at "rd"
    have hw1 : (30 : Int) ≤ 10 ^ Int.toNat 25 := by decide +kernel
    have hw2 : (30 : Int) ≤ 10 ^ Int.toNat 9 := by decide +kernel
    have bw1 : Bi 84 ((10 : Int) ^ Int.toNat 25) := by unfold Bi; decide +kernel
    have bw2 : Bi 84 ((10 : Int) ^ Int.toNat 9) := by unfold Bi; decide +kernel
    generalize (10 : Int) ^ Int.toNat 25 = W1 at *
    generalize (10 : Int) ^ Int.toNat 9 = W2 at *
    obtain ⟨x1, x2, x3, x4⟩ := g_bi h bs bt i7
    have D1 : BI (gX a b s t i) 64 := ⟨x1⟩
    have D2 : BI (gX2 s t i) 64 := ⟨x2⟩
    have D3 : BI (gY c s t i) 64 := ⟨x3⟩
    have D4 : BI (gY2 s t i) 64 := ⟨x4⟩
    have D5 : BI t 20 := ⟨bt⟩
    have nM : N2.length = M.length := by rw [gA.1]
    generalize (b + c + if e < 0 then -e else e) = zz
    split
    all_goals refine ⟨by first | exact ⟨by decide, by decide⟩ | decide, ?_⟩
    all_goals refine ⟨fun j r1 M1 => ∃ (l2 : List D) (o : Option D), M1 = N2 ++ [.lst l2] ∧ (∀ d ∈ l2, OutD m a b c e d) ∧ l2.length = 2 * i + j ∧ j ≤ 2 ∧ r1 = [some (.own k), some (T4 a b c e), some (.int m), some (.lst (cornL m a b c e)), some (.own M.length), some (.int i), some (T3 t1 t2 t3), some (nv m e (wX c i) (wX2 i) 1),
          some (.tup [nv m e (wX c i) (wX2 i) 1, nv m e (wY a b i) (wY2 i) 1]), some (Eg m a b c e i s t), o, none, none, none], ⟨l, _, rfl, hl, by omega, by omega, rfl⟩, ?_⟩
    all_goals rintro j r1 M1 ⟨l2, o, rfl, hl2, ll2, j2, rfl⟩
    all_goals refine ⟨trivial, fun hj => ?_, fun d hd => ?_⟩
    any_goals exact ⟨N2, l2, _, _, _, _, _, _, rfl, gA, hl2, by simp at hj; omega, by omega, rfl⟩
    all_goals
      have hdw : ∃ w : Int, d = .int w ∧ 30 ≤ w ∧ Bi 84 w ∧ j < 2 := by
        rcases (by omega : j = 0 ∨ j = 1 ∨ j = 2) with rfl | rfl | rfl
        · cases hd; exact ⟨1000, rfl, by decide, Bi.of_abs 1000 (by decide) (by decide), by decide⟩
        · cases hd; exact ⟨_, rfl, by assumption, by assumption, by decide⟩
        · cases hd
      obtain ⟨w, rfl, w30, bw, j1⟩ := hdw
      have D6 : BI w 84 := ⟨bw⟩
      have hget : (N2 ++ [Own.lst l2])[M.length]? = some (.lst l2) := by rw [← nM, List.getElem?_append_right (Nat.le_refl _), Nat.sub_self]; rfl
      walk_at "rd"
      refine ⟨⟨_, _, rfl, hget⟩, ?_⟩
      rw [show D.tup [D.int 1, D.int 0, D.int w] = nv m e 1 0 w from (nvq (by simp) (by omega)).symm]
      refine lscaleN h (NV.mk' (by omega) bi bi bi) (NV.mk' (by decide) bi bi bi) (NV.mk' (by decide) bi bi bi) ?_
      unfold Eg
      have tw : 0 < t * w := Int.mul_pos (by omega) (by omega)
      refine laddN h (.inl rfl) (NV.mk' (by omega) bi bi bi) (NV.mk' (by omega) bi bi bi) (NV.mk' (by omega) bi bi bi) (NV.mk' (by omega) bi bi bi)
        (gX a b s t i * w + wX c i * t) (gX2 s t i * w + wX2 i * t) (t * w) (gY c s t i * w + wY a b i * t) (gY2 s t i * w + wY2 i * t) (t * w) tw tw (by grind) (by grind) (by grind) (by grind) ?_
      rw [hget]
      dsimp only
      refine ⟨by omega, l2 ++ [_], _, by rw [← nM]; exact setMK, fun d hd => ?_, by rw [List.length_append, ll2]; rfl, by omega, rfl⟩
      rcases List.mem_append.mp hd with z | z
      · exact hl2 d z
      · rw [List.mem_singleton.mp z]
        exact ⟨_, _, _, _, _, rfl, ⟨tw, bi, bi, bi, bi, bi⟩, ow_all h.cb s0 st (by omega) (by omega) i7⟩
end DL
namespace DL
open PySem PySem.Spec PyProof.Rows L2
local macro_rules | `(tactic| walk_at "rd") => `(tactic| simp only [startD, List.map, List.replicate, List.length_cons, List.length_nil, List.append_eq, List.append_nil, List.nil_append, List.cons_append, Nat.reduceSub, Nat.reduceAdd, List.getElem?_cons_zero, List.getElem?_cons_succ, List.set_cons_zero, List.set_cons_succ,
  dC, dVar, dOp, dTru, gTru, tru, dChain, dAnd, dOr, dNot, dAndV, dOrV, dNotV, dIf, dNeg, gNeg, dNil, dCons, dTup, dLst, dOwn, gIx, rBin, gAdd, gCmpI, dCall, dCallK, dSeq, dNext, dDrop, dRet, dRetN, dIfS, dName, dGNil, dGCons, dGTup, dSub, gSetL, dAsg, dPar, dPar3, dAug, gIpI, dSeqI, gSeqI, dRngI, gRng1, gRng2, dCB, gAbs, gInt, gMax, gMin, gGcd, gLen, lenD, gIsi, tyM, tyD, dBits, gBits, dMet, gAppend, dPart, dNoPart, dSl, gSl_tup, gSl_lst, cut_1, dEnds, gIs, isB, dNever, dCallX, dRaise, dTry, dFld, dCallV, gLRng, gFrz, dFrz, dFor, dLc, wipeD, dYes,
  sizeLine_eq, Nat.reduceLeDiff, gEq_int, gNe_int, gEq_strs, gNe_strs, gIn_two, gRepr_bl, rs_lst, rs_tup, rs_scr, rs_int, atI_0, atI_1, atI_2, atI_3, atI_4, atI_5, ixN_30, ixN_31, ixN_32, gEq_bl, gNe_bl, decide_eq_true_eq, beq_iff_eq, Bool.not_eq_true', beq_eq_false_iff_ne, decide_eq_false_iff_not, Bool.not_true, Bool.not_false, if_true, if_false, Bool.false_eq_true, ite_true, ite_false, true_and, and_true, ne_eq, Bool.bne_false, Bool.bne_true, reduceCtorEq])
local macro_rules | `(tactic| walk_at "rh") => `(tactic| simp only [*, startD, List.map, List.replicate, List.length_cons, List.length_nil, List.append_eq, List.append_nil, List.nil_append, List.cons_append, Nat.reduceSub, Nat.reduceAdd, List.getElem?_cons_zero, List.getElem?_cons_succ, List.set_cons_zero, List.set_cons_succ,
  dC, dVar, dOp, dTru, gTru, tru, dChain, dAnd, dOr, dNot, dAndV, dOrV, dNotV, dIf, dNeg, gNeg, dNil, dCons, dTup, dLst, dOwn, gIx, rBin, gAdd, gCmpI, dCall, dCallK, dSeq, dNext, dDrop, dRet, dRetN, dIfS, dName, dGNil, dGCons, dGTup, dSub, gSetL, dAsg, dPar, dPar3, dAug, gIpI, dSeqI, gSeqI, dRngI, gRng1, gRng2, dCB, gAbs, gInt, gMax, gMin, gGcd, gLen, lenD, gIsi, tyM, tyD, dBits, gBits, dMet, gAppend, dPart, dNoPart, dSl, gSl_tup, gSl_lst, cut_1, dEnds, gIs, isB, dNever, dCallX, dRaise, dTry, dFld, dCallV, gLRng, gFrz, dFrz, dFor, dLc, wipeD, dYes,
  sizeLine_eq, Nat.reduceLeDiff, gEq_int, gNe_int, gEq_strs, gNe_strs, gIn_two, gRepr_bl, rs_lst, rs_tup, rs_scr, rs_int, atI_0, atI_1, atI_2, atI_3, atI_4, atI_5, ixN_30, ixN_31, ixN_32, gEq_bl, gNe_bl, decide_eq_true_eq, beq_iff_eq, Bool.not_eq_true', beq_eq_false_iff_ne, decide_eq_false_iff_not, Bool.not_true, Bool.not_false, if_true, if_false, Bool.false_eq_true, ite_true, ite_false, true_and, and_true, ne_eq, Bool.bne_false, Bool.bne_true, reduceCtorEq])
local macro_rules | `(tactic| walk_at "kb") => `(tactic| simp only [kb_NoneType_list, kb_bool_list, kb_int_list, kb_str_list, kb_tuple_list, kb_list_list, kb_dict_list, kb_NoneType_int, kb_bool_int, kb_int_int, kb_str_int, kb_tuple_int, kb_list_int, kb_dict_int, kb_NoneType_bool, kb_bool_bool, kb_int_bool, kb_str_bool, kb_tuple_bool, kb_list_bool, kb_dict_bool, kb_NoneType_tuple, kb_bool_tuple, kb_int_tuple, kb_str_tuple, kb_tuple_tuple, kb_list_tuple, kb_dict_tuple, if_true, if_false, Bool.false_eq_true, ite_true, ite_false, Bool.not_true, Bool.not_false])
local macro_rules | `(tactic| walk_at "pz") => `(tactic| first | assumption | omega | (apply Int.mul_pos <;> walk_at "pz") | (apply Int.add_pos_of_pos_of_nonneg <;> first | walk_at "pz" | walk_at "nz") | (apply Int.add_pos_of_nonneg_of_pos <;> first | walk_at "pz" | walk_at "nz"))
local macro_rules | `(tactic| walk_at "nz") => `(tactic| first | assumption | omega | (apply Int.mul_nonneg <;> walk_at "nz") | (apply Int.add_nonneg <;> walk_at "nz") | (apply Int.le_of_lt; walk_at "pz"))
/-! X_k35: the law of points -/
def gld : Nat → Nat
  | 0 => 5 | 1 => 3 | 2 => 7 | 3 => 1 | 4 => 6 | 5 => 0 | 6 => 4 | 7 => 2 | _ => 0
def sp_lglued : DSp := fun ds M Q _ => ∃ i : Nat, ds = [.int i] ∧ i < 8 ∧ Q (.int (gld i)) M
theorem rd_l_glued_bd92 : ∀ ds M Q, ds.length = 1 → sp_lglued ds M Q DX0 → t_l_glued_bd92 (dEnds M Q) (startD 1 ds) M := by
  rintro _ M Q - ⟨i, rfl, hi, q⟩
  unfold t_l_glued_bd92
  walk_at "rd"
  rcases (by omega : i = 0 ∨ i = 1 ∨ i = 2 ∨ i = 3 ∨ i = 4 ∨ i = 5 ∨ i = 6 ∨ i = 7) with rfl | rfl | rfl | rfl | rfl | rfl | rfl | rfl <;> exact rtq q
def shpD (m a b c e p : Int) : D := if p = 1 then .lst [cS m e, cS m e, zT] else .lst [T3 b 0 1, T3 c 0 1, nv m e a 0 c]
def sp_lshape : DSp := fun ds M Q _ => ∃ m a b c e p : Int, ds = [T4 a b c e, .int p] ∧ CM m a b c e ∧ Q (shpD m a b c e p) M
theorem rd_l_shape_1896 : ∀ ds M Q, ds.length = 2 → sp_lshape ds M Q DX0 → t_l_shape_1896 sp_measure_by sp_slit sp_lwhole sp_root_by (dEnds M Q) (startD 4 ds) M := by
  rintro _ M Q - ⟨m, a, b, c, e, p, rfl, h, q⟩
  have hc := h.cb.c0
  unfold t_l_shape_1896
  refine dSeq_open fun B hB => ?_
  walk_at "rd"
  refine ⟨a, b, c, e, rfl, h.ck.bb.mono, h.ck.bc.mono, h.ck.be.mono, ?_⟩
  refine ⟨a, b, c, e, rfl, h.ck, fun S hS => ?_⟩
  rw [h.hm] at hS ⊢
  have eS : S = cS m e := hS.eq
  subst eS
  rw [← hB]
  clear hB B
  walk_at "rd"
  unfold shpD at q
  by_cases hp : p = 1
  · rw [if_pos hp] at q ⊢
    exact ⟨0, rfl, rtq q rfl⟩
  · rw [if_neg hp] at q ⊢
    refine ⟨b, rfl, ⟨c, rfl, ?_⟩⟩
    refine rootC h.m0 h.bm (by omega : c ≠ 0) (nx := 40) (nb := 40) h.ba (Bi.of_abs 0 (by decide) (by decide)) h.bc fun d hd => ?_
    have ed : d = nv m e a 0 c := hd.eq.trans (rn_eq (by omega) (by omega) (by grind) (by grind))
    rw [ed]
    exact rtq q rfl
def spR (m e b p s n : Int) : D := if p = 1 then nv m e 0 s n else nv m e (b * s) 0 n
def sp_lspot : DSp := fun ds M Q _ => ∃ (m a b c e g : Int) (k : Nat), ds = [.own k, T4 a b c e, .int 97] ∧ CM m a b c e ∧ Gn k g M ∧ g ≤ P40 - 400 ∧
  ∀ p s n t j M', (p = 0 ∨ p = 1) → 0 < s → s < n → n ≤ 97 → 0 < t → t < j → j ≤ 97 → Gst k (g + 120) M M' → Q (.tup [.int p, spR m e b p s n, spR m e c p t j]) M'
theorem rd_l_spot_7a5b : ∀ ds M Q, ds.length = 3 → sp_lspot ds M Q DX0 → t_l_spot_7a5b sp_measure_by sp_random sp_lshape sp_times_by sp_lshare (dEnds M Q) (startD 9 ds) M := by
  rintro _ M Q - ⟨m, a, b, c, e, g, k, rfl, h, hg, hgn, q⟩
  unfold t_l_spot_7a5b
  refine dSeq_open fun B hB => ?_
  walk_at "rd"
  refine ⟨a, b, c, e, rfl, h.ck.bb.mono, h.ck.bc.mono, h.ck.be.mono, ?_⟩
  rw [h.hm]
  refine ⟨k, 2, g, rfl, by decide, lt900 (by decide), hg, by omega, fun p M1 p0 p1 g1 => ?_⟩
  rw [← hB]
  clear hB B
  refine dSeq_open fun B hB => ?_
  walk_at "rd"
  refine ⟨m, a, b, c, e, p, rfl, h, ?_⟩
  have key : ∀ (p : Int) (w hh l : D) (P Q1 P2 Q2 : Int), (p = 0 ∨ p = 1) → w = nv m e P Q1 1 → hh = nv m e P2 Q2 1 → Bi 200 P → Bi 200 Q1 → Bi 200 P2 → Bi 200 Q2 → 
      (∀ s n, 0 < n → nv m e (P * s) (Q1 * s) (1 * n) = spR m e b p s n) → (∀ s n, 0 < n → nv m e (P2 * s) (Q2 * s) (1 * n) = spR m e c p s n) → 
      B [some (.own k), some (T4 a b c e), some (.int 97), some (.int m), some (.int p), some w, some hh, some l, none] M1 := by
    intro p w hh l P Q1 P2 Q2 hp hw hhh b1 b2 b3 b4 e1 e2
    rw [← hB]
    clear hB B
    refine dSeq_open fun B hB => ?_
    walk_at "rd"
    refine ⟨k, 97, g + 40, rfl, by decide, by decide, g1.2.1, by omega, fun s n d M2 hs ht g2 => ?_⟩
    have s0 := hs.s0
    have sn := hs.sn
    have D1 : BI s 20 := ⟨Bi.of_abs 97 (by omega) (by decide)⟩
    have D2 : BI n 20 := ⟨Bi.of_abs 97 (by omega) (by decide)⟩
    have D3 : BI P 200 := ⟨b1⟩
    have D4 : BI Q1 200 := ⟨b2⟩
    have D5 : BI P2 200 := ⟨b3⟩
    have D6 : BI Q2 200 := ⟨b4⟩
    have vd : NV m e 290 d s 0 n := by rw [hs.v (m := m) (e := e)]; exact NV.mk' (by omega) bi bi bi
    refine ltimesR h (by rw [hw]; exact NV.mk' (by decide) bi bi bi) vd ?_
    rw [e1 s n (by omega), ← hB]
    clear hB B
    walk_at "rd"
    refine ⟨k, 97, g + 80, rfl, by decide, by decide, g2.2.1.le (by omega), by omega, fun t j d M3 ht2 ht3 g3 => ?_⟩
    have t0 := ht2.s0
    have tj := ht2.sn
    have D7 : BI t 20 := ⟨Bi.of_abs 97 (by omega) (by decide)⟩
    have D8 : BI j 20 := ⟨Bi.of_abs 97 (by omega) (by decide)⟩
    have vd2 : NV m e 290 d t 0 j := by rw [ht2.v (m := m) (e := e)]; exact NV.mk' (by omega) bi bi bi
    refine ltimesR h (by rw [hhh]; exact NV.mk' (by decide) bi bi bi) vd2 ?_
    rw [e2 t j (by omega)]
    have gA := ((g1.trans g2).trans g3).le (m := g + 120) (by omega)
    refine gA.rtq (q p s n t j M3 hp s0 sn ht t0 tj ht3 gA) ?_
    unfold spR
    split <;> rfl
  unfold shpD
  rcases (by omega : p = 0 ∨ p = 1) with rfl | rfl
  · rw [if_neg (by decide)]
    refine ⟨rfl, ?_⟩
    refine key 0 _ _ _ b 0 c 0 (.inl rfl) nv_i nv_i (h.bb.up (by decide)) (Bi.of_abs 0 (by decide) (by decide)) (h.bc.up (by decide)) (Bi.of_abs 0 (by decide) (by decide)) (fun s n n0 => ?_) (fun s n n0 => ?_)
    · exact (nv_eq (by omega) n0 (by grind) (by grind)).trans (if_neg (by decide)).symm
    · exact (nv_eq (by omega) n0 (by grind) (by grind)).trans (if_neg (by decide)).symm
  · rw [if_pos rfl]
    refine ⟨rfl, ?_⟩
    refine key 1 _ _ _ 0 1 0 1 (.inr rfl) nv_s nv_s (Bi.of_abs 0 (by decide) (by decide)) (Bi.of_abs 1 (by decide) (by decide)) (Bi.of_abs 0 (by decide) (by decide)) (Bi.of_abs 1 (by decide) (by decide)) (fun s n n0 => ?_) (fun s n n0 => ?_)
    · exact (nv_eq (by omega) n0 (by grind) (by grind)).trans (if_pos rfl).symm
    · exact (nv_eq (by omega) n0 (by grind) (by grind)).trans (if_pos rfl).symm
def sp_lplace : DSp := fun ds M Q _ => ∃ (m a b c e p RP RQ RN UP UQ UN : Int), ds = [T4 a b c e, .tup [.int p, nv m e RP RQ RN, nv m e UP UQ UN]] ∧ CM m a b c e ∧ (p = 0 ∨ p = 1) ∧ 0 < RN ∧ Bi 80 RP ∧ Bi 80 RQ ∧ Bi 80 RN ∧
  0 < UN ∧ Bi 80 UP ∧ Bi 80 UQ ∧ Bi 80 UN ∧ Q (laF m a c e p RP RQ RN UP UQ UN) M
theorem rd_l_place_9cad : ∀ ds M Q, ds.length = 2 → sp_lplace ds M Q DX0 → t_l_place_9cad sp_measure_by sp_lplusT sp_lwhole sp_times_by sp_lshape (dEnds M Q) (startD 6 ds) M := by
  rintro _ M Q - ⟨m, a, b, c, e, p, RP, RQ, RN, UP, UQ, UN, rfl, h, hp, rn0, r1, r2, r3, un0, u1, u2, u3, q⟩
  have hc := h.cb.c0
  have D1 : BI RP 80 := ⟨r1⟩
  have D2 : BI RQ 80 := ⟨r2⟩
  have D3 : BI RN 80 := ⟨r3⟩
  have D4 : BI UP 80 := ⟨u1⟩
  have D5 : BI UQ 80 := ⟨u2⟩
  have D6 : BI UN 80 := ⟨u3⟩
  have D7 : BI a 40 := ⟨h.ba⟩
  have D8 : BI c 40 := ⟨h.bc⟩
  have vR : NV m e 290 (nv m e RP RQ RN) RP RQ RN := NV.mk' rn0 bi bi bi
  have vU : NV m e 290 (nv m e UP UQ UN) UP UQ UN := NV.mk' un0 bi bi bi
  have vi : ∀ {i : Int}, Bi 40 i → NV m e 290 (T3 i 0 1) i 0 1 := fun bi => (nv_int bi (by decide)).up (by decide)
  unfold t_l_place_9cad
  refine dSeq_open fun B hB => ?_
  walk_at "rd"
  refine ⟨a, b, c, e, rfl, h.ck.bb.mono, h.ck.bc.mono, h.ck.be.mono, ?_⟩
  rw [h.hm, ← hB]
  clear hB B
  walk_at "rd"
  rcases hp with rfl | rfl
  · rw [la0_eq] at q
    rw [if_neg (by decide)]
    refine ⟨m, a, b, c, e, 0, rfl, h, ?_⟩
    rw [show shpD m a b c e 0 = .lst [T3 b 0 1, T3 c 0 1, nv m e a 0 c] from if_neg (by decide)]
    walk_at "rd"
    refine ltimesR h vU (NV.mk' hc bi bi bi) ?_
    refine lplusN h (.inl rfl) vR (NV.mk' (Int.mul_pos un0 hc) bi bi bi) (RP * (UN * c) + UP * a * RN) (RQ * (UN * c) + UQ * a * RN) (RN * (UN * c)) (Int.mul_pos rn0 (Int.mul_pos un0 hc)) (by grind) (by grind) ?_
    exact rtq q
  · rw [la1_eq] at q
    rw [if_pos rfl]
    refine ⟨a, rfl, ?_⟩
    refine lplusN h (.inl rfl) vR (vi h.ba) (RP + a * RN) RQ RN rn0 (by grind) (by grind) ?_
    refine ⟨c, rfl, ?_⟩
    refine lplusN h (.inl rfl) vU (vi h.bc) (UP + c * UN) UQ UN un0 (by grind) (by grind) ?_
    exact rtq q
/-! ### edges -/
theorem tup2_inj {x y x' y' : D} (h : D.tup [x, y] = .tup [x', y']) : x = x' ∧ y = y' := by cases h; exact ⟨rfl, rfl⟩
theorem ej {m a b c e s n : Int} (h : CM m a b c e) (s0 : 0 < s) (sn : s < n) (hn : Bi 20 n) {j : Nat} (hj : j = 0 ∨ j = 1 ∨ j = 6 ∨ j = 7) :
    GoR m a b c e (Eg m a b c e j s n) (Eg m a b c e j s n) ∧ GoR m a b c e (Eg m a b c e (gld j) (n - s) n) (Eg m a b c e j s n) ∧ Eg m a b c e j s n ≠ Eg m a b c e (gld j) (n - s) n := by
  obtain ⟨b0, c0, a0, ac⟩ := h.cb
  have n0 : 0 < n := by omega
  have es : n - (n - s) = s := by omega
  rcases hj with rfl | rfl | rfl | rfl
  · refine ⟨eg0 h s0 sn hn, ?_, fun z => ?_⟩
    · have := eg5 h (s := n - s) (by omega) (by omega) hn
      rwa [es] at this
    · simp only [Eg, gld, gX, gX2, gY, gY2] at z
      exact nv_ne h n0 n0 (.n (c * n * n) (n * n) (by grind) (by grind) (by walk_at "nz") (by walk_at "nz") (.inl (by walk_at "pz"))) (by decide) (tup2_inj z).2
  · refine ⟨eg1 h s0 sn hn, ?_, fun z => ?_⟩
    · have := eg3 h (s := n - s) (by omega) (by omega) hn
      rwa [es] at this
    · simp only [Eg, gld, gX, gX2, gY, gY2] at z
      exact nv_ne h n0 n0 (.n (c * n * n) 0 (by grind) (by grind) (by walk_at "nz") (by walk_at "nz") (.inl (by walk_at "pz"))) (by decide) (tup2_inj z).2
  · refine ⟨eg6 h s0 sn hn, ?_, fun z => ?_⟩
    · have := eg4 h (s := n - s) (by omega) (by omega) hn
      rwa [es] at this
    · simp only [Eg, gld, gX, gX2, gY, gY2] at z
      exact nv_ne h n0 n0 (.n 0 (n * n) (by grind) (by grind) (by walk_at "nz") (by walk_at "nz") (.inr (by walk_at "pz"))) (by decide) (tup2_inj z).1
  · refine ⟨eg7 h s0 sn hn, ?_, fun z => ?_⟩
    · have := eg2 h (s := n - s) (by omega) (by omega) hn
      rwa [es] at this
    · simp only [Eg, gld, gX, gX2, gY, gY2] at z
      exact nv_ne h n0 n0 (.n (b * n * n) 0 (by grind) (by grind) (by walk_at "nz") (by walk_at "nz") (.inl (by walk_at "pz"))) (by decide) (tup2_inj z).1
theorem ej_piece {m a b c e s n : Int} (h : CM m a b c e) (s0 : 0 < s) (sn : s < n) {j : Nat} (hj : j = 0 ∨ j = 1 ∨ j = 6 ∨ j = 7) :
    (if 0 ≤ sgn m e (gY c s n j - c * n) (gY2 s n j) then (1 : Int) else 0) = if j = 6 then 1 else 0 := by
  obtain ⟨b0, c0, a0, ac⟩ := h.cb
  have n0 : 0 < n := by omega
  have d0 : 0 < n - s := by omega
  rcases hj with rfl | rfl | rfl | rfl <;> simp only [gY, gY2]
  · rw [(show Sg b _ _ (-1) from .n (c * n) 0 (by grind) (by grind) (by walk_at "nz") (by walk_at "nz") (.inl (by walk_at "pz"))).sgn h]; decide
  · rw [(show Sg b _ _ (-1) from .n (c * n) 0 (by grind) (by grind) (by walk_at "nz") (by walk_at "nz") (.inl (by walk_at "pz"))).sgn h]; decide
  · rw [(show Sg b _ _ 1 from .p 0 (n - s) (by grind) (by grind) (by walk_at "nz") (by walk_at "nz") (.inr (by walk_at "pz"))).sgn h]; decide
  · rw [(show Sg b _ _ (-1) from .n (c * s) 0 (by grind) (by grind) (by walk_at "nz") (by walk_at "nz") (.inl (by walk_at "pz"))).sgn h]; decide
theorem shPl {m a b c e X1 X2 Y1 Y2 N : Int} (h : CM m a b c e) (n0 : 0 < N) (b1 : Bi 140 X1) (b2 : Bi 140 X2) (b3 : Bi 140 Y1) (b4 : Bi 140 Y2) (b5 : Bi 140 N) : ∃ z, ∀ M, shwnZ (resD M (.tup [nv m e X1 X2 N, nv m e Y1 Y2 N])) = some z := by
  have hx := (NV.mk' (m := m) (e := e) n0 b1 b2 b5).rv h.ck.be
  have hy := (NV.mk' (m := m) (e := e) n0 b3 b4 b5).rv h.ck.be
  obtain ⟨s1, s2, s3, es, ls⟩ := hx.shape h.m0 h.bm
  obtain ⟨r1, r2, r3, er, lr⟩ := hy.shape h.m0 h.bm
  have sh : Sh4 (.tup [nv m e X1 X2 N, nv m e Y1 Y2 N]) := by
    rw [es, er]
    exact ⟨rfl, lit2 ls lr, by simp only [wt, wtAll]; decide⟩
  obtain ⟨z, hz, _⟩ := shown_same sh
  exact ⟨z, hz⟩
def sp_ledge : DSp := fun ds M Q _ => ∃ (m a b c e g : Int) (k i : Nat), ds = [.own k, T4 a b c e, .int i] ∧ CM m a b c e ∧ i < 8 ∧ Gn k g M ∧ g ≤ P40 - 400 ∧ ∀ M', Gst k (g + 40) M M' → Q (.bl true) M'
theorem rd_l_edge_right_b3b6 : ∀ ds M Q, ds.length = 3 → sp_ledge ds M Q DX0 → t_l_edge_right_b3b6 sp_measure_by sp_lcornersK sp_lshare sp_ladded sp_lscaled sp_lglued sp_point_of sp_point_by sp_piece (dEnds M Q) (startD 14 ds) M := by
  rintro _ M Q - ⟨m, a, b, c, e, g, k, i, rfl, h, hi, hg, hgn, q⟩
  unfold t_l_edge_right_b3b6
  refine dSeq_open fun B hB => ?_
  walk_at "rd"
  refine ⟨a, b, c, e, rfl, h.ck.bb.mono, h.ck.bc.mono, h.ck.be.mono, ?_⟩
  refine ⟨m, a, b, c, e, rfl, h, ?_⟩
  rw [h.hm, ← hB]
  clear hB B
  obtain ⟨q1, q2⟩ := corn_at (m := m) (a := a) (b := b) (c := c) (e := e) hi
  refine dSeq_open fun B hB => ?_
  walk_at "rd"
  rw [q1, q2]
  dsimp only
  refine ⟨cmod8 hi, ?_⟩
  refine ⟨k, 30, g, rfl, by decide, by decide, hg, by omega, fun s n d M1 hs hn g1 => ?_⟩
  have s0 := hs.s0
  have sn := hs.sn
  have n0 : 0 < n := by omega
  have bs : Bi 20 s := Bi.of_abs 30 (by omega) (by decide)
  have bn : Bi 20 n := Bi.of_abs 30 (by omega) (by decide)
  have bns : Bi 20 (n - s) := Bi.of_abs 30 (by omega) (by decide)
  have E1 : BI s 20 := ⟨bs⟩
  have E2 : BI n 20 := ⟨bn⟩
  rw [← hB]
  clear hB B
  have vd : NV m e 290 d s 0 n := by rw [hs.v (m := m) (e := e)]; exact NV.mk' n0 bi bi bi
  have along : ∀ (i o : Nat) (X1 X2 Y1 Y2 : Int) (Qc : DQ), Qc (.tup [nv m e X1 X2 n, nv m e Y1 Y2 n]) M1 → X1 = n * k1 a b i + s * (k1 a b o - k1 a b i) → X2 = n * k2 i + s * (k2 o - k2 i) → Y1 = n * k3 c i + s * (k3 c o - k3 c i) → Y2 = n * k4 i + s * (k4 o - k4 i) → 
      sp_ladded [.int m, crn m a b c e o, crn m a b c e i, .int (-1)] M1 (fun d1 M2 => sp_lscaled [.int m, d, d1] M2 (fun d2 M3 => sp_ladded [.int m, crn m a b c e i, d2, .int 1] M3 Qc DX0) DX0) DX0 := by
    intro i o X1 X2 Y1 Y2 Qc hq e1 e2 e3 e4
    obtain ⟨u1, u2, u3, u4⟩ := k_bi h i
    obtain ⟨v1, v2, v3, v4⟩ := k_bi h o
    have B1 : BI (k1 a b i) 42 := ⟨u1⟩
    have B2 : BI (k2 i) 42 := ⟨u2⟩
    have B3 : BI (k3 c i) 42 := ⟨u3⟩
    have B4 : BI (k4 i) 42 := ⟨u4⟩
    have B5 : BI (k1 a b o) 42 := ⟨v1⟩
    have B6 : BI (k2 o) 42 := ⟨v2⟩
    have B7 : BI (k3 c o) 42 := ⟨v3⟩
    have B8 : BI (k4 o) 42 := ⟨v4⟩
    unfold crn
    refine laddN h (.inr rfl) (NV.mk' (by decide) bi bi bi) (NV.mk' (by decide) bi bi bi) (NV.mk' (by decide) bi bi bi) (NV.mk' (by decide) bi bi bi)
      (k1 a b o - k1 a b i) (k2 o - k2 i) 1 (k3 c o - k3 c i) (k4 o - k4 i) 1 (by decide) (by decide) (by grind) (by grind) (by grind) (by grind) ?_
    refine lscaleN h vd (NV.mk' (by decide) bi bi bi) (NV.mk' (by decide) bi bi bi) ?_
    exact laddN h (.inl rfl) (NV.mk' (by decide) bi bi bi) (NV.mk' (by decide) bi bi bi) (NV.mk' (by omega) bi bi bi) (NV.mk' (by omega) bi bi bi)
      X1 X2 n Y1 Y2 n n0 n0 (by rw [e1]; grind) (by rw [e2]; grind) (by rw [e3]; grind) (by rw [e4]; grind) hq
  obtain ⟨z1, z2, z3, z4⟩ := g_eq (a := a) (b := b) (c := c) (s := s) (n := n) hi
  refine dSeq_open fun B hB => ?_
  walk_at "rd"
  refine along i (nxt i) _ _ _ _ _ ?_ z1 z2 z3 z4
  rw [← hB]
  clear hB B
  refine dSeq_open fun B hB => ?_
  walk_at "rd"
  refine ⟨i, rfl, hi, ?_⟩
  rw [← hB]
  clear hB B
  have ho : gld i < 8 := by rcases (by omega : i = 0 ∨ i = 1 ∨ i = 2 ∨ i = 3 ∨ i = 4 ∨ i = 5 ∨ i = 6 ∨ i = 7) with rfl | rfl | rfl | rfl | rfl | rfl | rfl | rfl <;> decide
  obtain ⟨q3, q4⟩ := corn_at (m := m) (a := a) (b := b) (c := c) (e := e) ho
  obtain ⟨y1, y2, y3, y4⟩ := g_eq (a := a) (b := b) (c := c) (s := n - s) (n := n) ho
  refine dSeq_open fun B hB => ?_
  walk_at "rd"
  rw [q3, q4]
  dsimp only
  refine ⟨cmod8 ho, ?_⟩
  rw [← hB]
  clear hB B
  refine dSeq_open fun B hB => ?_
  walk_at "rd"
  refine along (nxt (gld i)) (gld i) (gX a b (n - s) n (gld i)) (gX2 (n - s) n (gld i)) (gY c (n - s) n (gld i)) (gY2 (n - s) n (gld i)) _ ?_ (by rw [y1]; grind) (by rw [y2]; grind) (by rw [y3]; grind) (by rw [y4]; grind)
  rw [← hB]
  clear hB B
  obtain ⟨j, u, hj, u0, un, bu, hdue⟩ : ∃ (j : Nat) (u : Int), (j = 0 ∨ j = 1 ∨ j = 6 ∨ j = 7) ∧ 0 < u ∧ u < n ∧ Bi 20 u ∧
      (((i = 0 ∨ i = 1 ∨ i = 6 ∨ i = 7) ∧ j = i ∧ u = s ∧ gld j = gld i ∧ n - u = n - s) ∨ (¬ (i = 0 ∨ i = 1 ∨ i = 6 ∨ i = 7) ∧ j = gld i ∧ u = n - s ∧ gld j = i ∧ n - u = s)) ∧ 0 = 0 := by
    rcases (by omega : (i = 0 ∨ i = 1 ∨ i = 6 ∨ i = 7) ∨ (i = 2 ∨ i = 3 ∨ i = 4 ∨ i = 5)) with z | z
    · exact ⟨i, s, z, s0, sn, bs, .inl ⟨z, rfl, rfl, rfl, rfl⟩, rfl⟩
    · refine ⟨gld i, n - s, ?_, by omega, by omega, bns, .inr ⟨by omega, rfl, rfl, ?_, by omega⟩, rfl⟩
      · rcases z with rfl | rfl | rfl | rfl <;> decide
      · rcases z with rfl | rfl | rfl | rfl <;> rfl
  obtain ⟨hdue, -⟩ := hdue
  obtain ⟨G1, G2, G4⟩ := ej h u0 un bn hj
  have G5 := ej_piece h u0 un hj
  have hj8 : j < 8 := by omega
  obtain ⟨x1, x2, x3, x4⟩ := g_bi h bu bn hj8
  obtain ⟨zd, hzd⟩ := shPl h n0 (x1.up (by decide)) (x2.up (by decide)) (x3.up (by decide)) (x4.up (by decide)) (bn.up (by decide))
  have pj : Pl (gX a b u n j) (gX2 u n j) (gY c u n j) (gY2 u n j) n := ⟨n0, x1.up (by decide), x2.up (by decide), x3.up (by decide), x4.up (by decide), bn.up (by decide)⟩
  change (GoR m a b c e (D.tup [nv m e (gX a b u n j) (gX2 u n j) n, nv m e (gY c u n j) (gY2 u n j) n]) _) at G1
  refine dSeq_open fun B hB => ?_
  walk_at "rd"
  refine gIn_iff (n := 4) rfl rfl rfl rfl rfl fun t1 ht1 => ?_
  have ht1' : t1 = true ↔ (i = 0 ∨ i = 1 ∨ i = 6 ∨ i = 7) := by
    rw [ht1]
    simp only [List.mem_cons, List.not_mem_nil, or_false, D.int.injEq]
    omega
  clear ht1
  have g10 := g1.le (m := g + 40) (by omega)
  have hpc : i = 4 ∨ i = 6 ↔ j = 6 := by
    rcases (by omega : i = 0 ∨ i = 1 ∨ i = 2 ∨ i = 3 ∨ i = 4 ∨ i = 5 ∨ i = 6 ∨ i = 7) with rfl | rfl | rfl | rfl | rfl | rfl | rfl | rfl <;> rcases hdue with ⟨w, rfl, _⟩ | ⟨w, rfl, _⟩ <;> first | decide | omega
  have rest : ∀ A C : D, GoR m a b c e A (Eg m a b c e j u n) → GoR m a b c e C (Eg m a b c e j u n) → fine 4 A = true → fine 4 C = true → nbD A = true → nbD C = true → A ≠ C → (Eg m a b c e j u n = A ∨ Eg m a b c e j u n = C) →
      ∀ o4 o5 o6 o7 o9 o10 o11, B [some (.own k), some (T4 a b c e), some (.int i), some (.int m), o4, o5, o6, o7, some A, o9, o10, o11, some C, some (Eg m a b c e j u n)] M1 := by
    intro A C gA gC fA fC nA nC hAC hE o4 o5 o6 o7 o9 o10 o11
    rw [← hB]
    clear hB B
    refine dSeq_open fun B hB => ?_
    walk_at "rd"
    refine ⟨m, a, b, c, e, A, _, rfl, h, gA, ?_⟩
    refine gReprZ_res (hzd _) (gReprZ_res (hzd _) (gNe_str_same ?_))
    dsimp only
    rw [if_neg (by decide)]
    refine ⟨rfl, m, a, b, c, e, C, _, rfl, h, gC, ?_⟩
    refine gReprZ_res (hzd _) (gReprZ_res (hzd _) (gNe_str_same ?_))
    dsimp only
    rw [if_neg (by decide), ← hB]
    clear hB B
    walk_at "rd"
    refine ⟨m, a, b, c, e, _, rfl, h, .inl ⟨_, G1, fun t ht => ?_⟩⟩
    rw [ht.2 rfl]
    dsimp only
    rw [if_pos (by decide)]
    have ev : (if ((i : Int) == 4 || (i : Int) == 6) = true then (1 : Int) else 0) = if j = 6 then 1 else 0 := by
      by_cases hj6 : j = 6
      · have := hpc.2 hj6
        rw [if_pos hj6, if_pos]
        rw [Bool.or_eq_true, beq_iff_eq, beq_iff_eq]; omega
      · have : ¬ (i = 4 ∨ i = 6) := fun w => hj6 (hpc.1 w)
        rw [if_neg hj6, if_neg]
        rw [Bool.or_eq_true, beq_iff_eq, beq_iff_eq]; omega
    have last : gReprZ [D.int (if j = 6 then 1 else 0)] M1 (fun x M1 => gReprZ [D.int (if ((i : Int) == 4 || (i : Int) == 6) = true then 1 else 0)] M1 fun y M2 => gEq x y M2 (Rtq M Q)) := by
      rw [ev]
      have bv : Bi 2 (if j = 6 then (1 : Int) else 0) := by split <;> exact Bi.of_abs 1 (by decide) (by decide)
      obtain ⟨zi, hzi, _⟩ := shown_same (d := .int (if j = 6 then 1 else 0)) ⟨rfl, lit4 bv, by simp only [wt]; decide⟩
      refine gReprZ_res (hzi _) (gReprZ_res (hzi _) ?_)
      rw [gEq_strs, str_self]
      exact g10.rtq (q _ g10)
    refine gEq_iff (n := 4) rfl fA rfl nA fun t2 ht2 => ?_
    cases t2 with
    | true =>
      have eA := ht2.1 rfl
      simp only [if_true]
      refine ⟨m, a, b, c, e, _, rfl, h, .inl ⟨_, gC, fun t ht => ?_⟩⟩
      have tf : t = false := by
        cases t with
        | false => rfl
        | true => exact absurd (eA.symm.trans (ht.1 rfl)) hAC
      subst tf
      dsimp only
      rw [if_pos (by decide)]
      refine ⟨m, a, b, c, e, _, _, _, _, _, rfl, h, pj, G1, ?_⟩
      rw [G5]
      exact last
    | false =>
      have eA : Eg m a b c e j u n ≠ A := fun w => by have := ht2.2 w; cases this
      simp only [Bool.false_eq_true, if_false]
      refine ⟨m, a, b, c, e, _, rfl, h, .inl ⟨_, gA, fun t ht => ?_⟩⟩
      have tf : t = false := by
        cases t with
        | false => rfl
        | true => exact absurd (ht.1 rfl) eA
      subst tf
      dsimp only
      rw [if_pos (by decide)]
      refine ⟨m, a, b, c, e, _, _, _, _, _, rfl, h, pj, G1, ?_⟩
      rw [G5]
      exact last
  rcases hdue with ⟨w, rfl, rfl, w2, w3⟩ | ⟨w, rfl, rfl, w2, w3⟩
  · rw [ht1'.2 w]
    dsimp only
    rw [if_pos (by decide)]
    exact rest (Eg m a b c e j u n) (Eg m a b c e (gld j) (n - u) n) G1 G2 rfl rfl rfl rfl G4 (.inl rfl) _ _ _ _ _ _ _
  · have tf : t1 = false := by
      cases t1 with
      | false => rfl
      | true => exact absurd (ht1'.1 rfl) w
    subst tf
    dsimp only
    rw [if_neg (by decide)]
    rw [w2, w3] at G2 G4
    exact rest (Eg m a b c e i s n) (Eg m a b c e (gld i) (n - s) n) G2 G1 rfl rfl rfl rfl G4.symm (.inr rfl) _ _ _ _ _ _ _
/-! ### inner places -/
theorem inA {m a b c e p s n t j : Int} (h : CM m a b c e) (hp : p = 0 ∨ p = 1) (s0 : 0 < s) (sn : s < n) (hn : n ≤ 97) (t0 : 0 < t) (tj : t < j) (hj : j ≤ 97) : ∃ RP RQ RN UP UQ UN X1 X2 Y1 Y2 N : Int,
    spR m e b p s n = nv m e RP RQ RN ∧ spR m e c p t j = nv m e UP UQ UN ∧ 0 < RN ∧ Bi 80 RP ∧ Bi 80 RQ ∧ Bi 80 RN ∧ 0 < UN ∧ Bi 80 UP ∧ Bi 80 UQ ∧ Bi 80 UN ∧
    laF m a c e p RP RQ RN UP UQ UN = .tup [nv m e X1 X2 N, nv m e Y1 Y2 N] ∧ 0 < N ∧ Bi 100 X1 ∧ Bi 100 X2 ∧ Bi 100 Y1 ∧ Bi 100 Y2 ∧ Bi 100 N ∧
    GoR m a b c e (.tup [nv m e X1 X2 N, nv m e Y1 Y2 N]) (.tup [nv m e X1 X2 N, nv m e Y1 Y2 N]) ∧ (if 0 ≤ sgn m e (Y1 - c * N) Y2 then (1 : Int) else 0) = p ∧ Out a b c (X1 + (b + 1) * N) X2 Y1 Y2 N := by
  obtain ⟨b0, c0, a0, ac⟩ := h.cb
  have bn : Bi 20 n := Bi.of_abs 97 (by omega) (by decide)
  have bj : Bi 20 j := Bi.of_abs 97 (by omega) (by decide)
  have D1 : BI a 40 := ⟨h.ba⟩
  have D2 : BI b 40 := ⟨h.bb⟩
  have D3 : BI c 40 := ⟨h.bc⟩
  have D4 : BI n 20 := ⟨bn⟩
  have D5 : BI j 20 := ⟨bj⟩
  have D6 : BI s 20 := ⟨Bi.of_abs 97 (by omega) (by decide)⟩
  have D7 : BI t 20 := ⟨Bi.of_abs 97 (by omega) (by decide)⟩
  have n0 : 0 < n := by omega
  have j0 : 0 < j := by omega
  have nj : 0 < n * j := by walk_at "pz"
  have f0 : 0 < j - t := by omega
  rcases hp with rfl | rfl
  · refine ⟨b * s, 0, n, c * t, 0, j, b * s * j + a * t * n, 0, c * t * n, 0, n * j, if_neg (by decide), if_neg (by decide), n0, bi, bi, bi, j0, bi, bi, bi, ?_, nj, bi, bi, bi, bi, bi, in0 h s0 sn bn t0 tj bj, ?_, oh0 h.cb s0 sn t0 tj⟩
    · rw [la0_eq]
      exact tup2_eq (nv_eq (by walk_at "pz") nj (by grind) (by grind)) (nv_eq j0 nj (by grind) (by grind))
    · rw [(show Sg b _ _ (-1) from .n (c * n * (j - t)) 0 (by grind) (by grind) (by walk_at "nz") (by walk_at "nz") (.inl (by walk_at "pz"))).sgn h]; decide
  · refine ⟨0, s, n, 0, t, j, a * (n * j), s * j, c * (n * j), t * n, n * j, if_pos rfl, if_pos rfl, n0, bi, bi, bi, j0, bi, bi, bi, ?_, nj, bi, bi, bi, bi, bi, in1 h s0 sn bn t0 tj bj, ?_, oh1 h.cb s0 sn t0 tj⟩
    · rw [la1_eq]
      exact tup2_eq (nv_eq n0 nj (by grind) (by grind)) (nv_eq j0 nj (by grind) (by grind))
    · rw [(show Sg b _ _ 1 from .p 0 (t * n) (by grind) (by grind) (by walk_at "nz") (by walk_at "nz") (.inr (by walk_at "pz"))).sgn h]; decide
def sp_linner : DSp := fun ds M Q _ => ∃ (m a b c e g : Int) (k : Nat), ds = [.own k, T4 a b c e] ∧ CM m a b c e ∧ Gn k g M ∧ g ≤ P40 - 2000 ∧ ∀ M', Gst k (g + 1000) M M' → Q (.bl true) M'
theorem rd_l_inner_right_c58f : ∀ ds M Q, ds.length = 2 → sp_linner ds M Q DX0 → t_l_inner_right_c58f sp_measure_by sp_lspot sp_lplace sp_point_of sp_point_by sp_piece sp_times_by sp_lshare sp_slit sp_lwhole sp_ladded sp_loutside (dEnds M Q) (startD 10 ds) M := by
  rintro _ M Q - ⟨m, a, b, c, e, g, k, rfl, h, hg, hgn, q⟩
  obtain ⟨b0, c0, a0, ac⟩ := h.cb
  have D1 : BI a 40 := ⟨h.ba⟩
  have D2 : BI b 40 := ⟨h.bb⟩
  have D3 : BI c 40 := ⟨h.bc⟩
  unfold t_l_inner_right_c58f
  refine dSeq_open fun B hB => ?_
  walk_at "rd"
  refine ⟨a, b, c, e, rfl, h.ck.bb.mono, h.ck.bc.mono, h.ck.be.mono, ?_⟩
  rw [h.hm]
  refine ⟨m, a, b, c, e, g, k, rfl, h, hg, by omega, fun p s n t j M1 hp s0 sn hn t0 tj hj g1 => ?_⟩
  rw [← hB]
  clear hB B
  obtain ⟨RP, RQ, RN, UP, UQ, UN, X1, X2, Y1, Y2, N, eR, eU, r0, r1, r2, r3, u0, u1, u2, u3, eA, N0, x1, x2, y1, y2, bN, gA, eP, oA⟩ := inA h hp s0 sn hn t0 tj hj
  rw [eR, eU]
  have D4 : BI X1 100 := ⟨x1⟩
  have D5 : BI X2 100 := ⟨x2⟩
  have D6 : BI Y1 100 := ⟨y1⟩
  have D7 : BI Y2 100 := ⟨y2⟩
  have D8 : BI N 100 := ⟨bN⟩
  refine dSeq_open fun B hB => ?_
  walk_at "rd"
  refine ⟨m, a, b, c, e, p, RP, RQ, RN, UP, UQ, UN, rfl, h, hp, r0, r1, r2, r3, u0, u1, u2, u3, ?_⟩
  rw [eA, ← hB]
  clear hB B
  obtain ⟨zA, hzA⟩ := shPl h N0 (x1.up (by decide)) (x2.up (by decide)) (y1.up (by decide)) (y2.up (by decide)) (bN.up (by decide))
  have pA : Pl X1 X2 Y1 Y2 N := ⟨N0, x1.up (by decide), x2.up (by decide), y1.up (by decide), y2.up (by decide), bN.up (by decide)⟩
  refine dSeq_open fun B hB => ?_
  walk_at "rd"
  refine ⟨m, a, b, c, e, _, _, rfl, h, gA, ?_⟩
  refine gReprZ_res (hzA _) (gReprZ_res (hzA _) (gNe_str_same ?_))
  dsimp only
  rw [if_neg (by decide)]
  refine ⟨rfl, m, a, b, c, e, _, rfl, h, .inl ⟨_, gA, fun t ht => ?_⟩⟩
  rw [ht.2 rfl]
  dsimp only
  rw [if_neg (by decide), ← hB]
  clear hB B
  obtain ⟨zp, hzp, _⟩ := shown_same (d := .int p) ⟨rfl, lit4 (n := 2) (by rcases hp with rfl | rfl <;> exact Bi.of_abs 1 (by decide) (by decide)), by simp only [wt]; decide⟩
  refine dSeq_open fun B hB => ?_
  walk_at "rd"
  refine ⟨m, a, b, c, e, _, _, _, _, _, rfl, h, pA, gA, ?_⟩
  rw [eP]
  refine gReprZ_res (hzp _) (gReprZ_res (hzp _) (gNe_str_same ?_))
  dsimp only
  rw [if_neg (by decide)]
  refine ⟨rfl, m, a, b, c, e, _, _, _, _, _, rfl, h, pA, gA, ?_⟩
  rw [eP]
  dsimp only
  refine gNe_int_same ?_
  dsimp only
  rw [if_neg (by decide), ← hB]
  clear hB B
  refine dSeq_open fun B hB => ?_
  walk_at "rd"
  refine ⟨a, b, c, e, rfl, h.ck, fun S hS => ?_⟩
  rw [h.hm] at hS
  have eS : S = nv m e 0 1 1 := hS.eq.trans nv_s
  subst eS
  refine ⟨k, 30, g + 120, rfl, by decide, by decide, g1.2.1, by omega, fun s2 n2 d M2 hs2 hn2 g2 => ?_⟩
  have s20 := hs2.s0
  have sn2 := hs2.sn
  have b2 : Bi 20 n2 := Bi.of_abs 30 (by omega) (by decide)
  have D9 : BI n2 20 := ⟨b2⟩
  have D10 : BI s2 20 := ⟨Bi.of_abs 30 (by omega) (by decide)⟩
  have n20 : 0 < n2 := by omega
  have vd : NV m e 290 d s2 0 n2 := by rw [hs2.v (m := m) (e := e)]; exact NV.mk' n20 bi bi bi
  refine ltimesR h (NV.mk' (by decide) bi bi bi) vd ?_
  rw [← hB]
  clear hB B
  refine dSeq_open fun B hB => ?_
  walk_at "rd"
  refine ⟨0, rfl, ?_⟩
  rw [show T3 0 0 1 = nv m e 0 0 1 from nv_i]
  refine ⟨m, a, b, c, e, 1, _, _, _, _, _, _, rfl, h, .inr rfl, by omega, bi, bi, bi, by decide, bi, bi, bi, ?_⟩
  rw [la1_eq, show D.tup [nv m e (0 * s2 + a * (1 * n2)) (1 * s2) (1 * n2), nv m e (0 + c * 1) 0 1] = .tup [nv m e (a * n2) s2 n2, nv m e (c * n2) 0 n2] from tup2_eq (nv_eq (by omega) n20 (by grind) (by grind)) (nv_eq (by decide) n20 (by grind) (by grind)), ← hB]
  clear hB B
  have gM := inM h s20 sn2 b2
  obtain ⟨zM, hzM⟩ := shPl (X1 := a * n2) (X2 := s2) (Y1 := c * n2) (Y2 := 0) (N := n2) h n20 bi bi bi bi bi
  have pM : Pl (a * n2) s2 (c * n2) 0 n2 := ⟨n20, bi, bi, bi, bi, bi⟩
  have eM : (if 0 ≤ sgn m e (c * n2 - c * n2) 0 then (1 : Int) else 0) = 1 := by
    rw [(show Sg b _ _ 0 from .z (by grind) (by grind)).sgn h]; decide
  refine dSeq_open fun B hB => ?_
  walk_at "rd"
  refine ⟨m, a, b, c, e, _, _, rfl, h, gM, ?_⟩
  refine gReprZ_res (hzM _) (gReprZ_res (hzM _) (gNe_str_same ?_))
  dsimp only
  rw [if_neg (by decide)]
  refine ⟨m, a, b, c, e, _, _, _, _, _, rfl, h, pM, gM, ?_⟩
  rw [eM]
  refine gReprZ_res (z := PySem.Str.ofString "1") rfl ?_
  refine gNe_str_same ?_
  dsimp only
  rw [if_neg (by decide), ← hB]
  clear hB B
  refine dSeq_open fun B hB => ?_
  walk_at "rd"
  refine ⟨b + 1, rfl, ⟨0, rfl, ?_⟩⟩
  have D11 : BI (b + 1) 41 := ⟨bi⟩
  rw [show T3 (b + 1) 0 1 = nv m e (b + 1) 0 1 from nv_i, show T3 0 0 1 = nv m e 0 0 1 from nv_i]
  refine laddN h (.inl rfl) (NV.mk' N0 bi bi bi) (NV.mk' N0 bi bi bi) (NV.mk' (by decide) bi bi bi) (NV.mk' (by decide) bi bi bi) (X1 + (b + 1) * N) X2 N Y1 Y2 N N0 N0 (by grind) (by grind) (by grind) (by grind) ?_
  rw [← hB]
  clear hB B
  have g12 := (g1.trans g2).le (m := g + 160) (by omega)
  refine dSeq_open fun B hB => ?_
  walk_at "rd"
  refine ⟨m, a, b, c, e, g + 160, k, rfl, h, g12.2.1, by omega, fun L M3 hL lL g3 => ?_⟩
  have g13 := (g12.trans g3).le (m := g + 1000) (by omega)
  dsimp only
  have fnone : ∀ l : List D, l.filterMap (fun _ => (none : Option D)) = [] := fun l => by simp
  refine lcW_pure (fun _ => none) trivial (by rw [sizeLine_eq]; omega) (fun d hd Y W hy => ?_) ?_
  · obtain ⟨X1, X2, Y1, Y2, N, rfl, hp, ho⟩ := hL d hd
    walk_at "rd"
    refine ⟨m, a, b, c, e, _, rfl, h, .inr (.inl ⟨_, _, _, _, _, rfl, hp, ho.spF h, ?_⟩)⟩
    dsimp only
    rw [if_neg (by decide)]
    exact hy
  rw [fnone]
  refine gNe_nil' (n := 1) rfl ?_
  dsimp only
  rw [if_neg (by decide), ← hB]
  clear hB B
  refine dSeq_open fun B hB => ?_
  walk_at "rd"
  have hcut : ∀ x y : D, cutD [x, y] none (some 1) = [x] := fun _ _ => rfl
  show 2 + (cutD [nv m e X1 X2 N, nv m e Y1 Y2 N] none (some 1)).length ≤ 16777216 ∧ _
  rw [hcut]
  refine ⟨Nat.le_of_ble_eq_true rfl, ?_⟩
  rw [← hB]
  clear hB B
  have vx : isRootD m (nv m e X1 X2 N) = true ∧ Rootable M3 (nv m e X1 X2 N) := by
    obtain ⟨t1, t2, t3, k, T⟩ := ((pA.rv h).1).t3 h.ck.m0 h.ck.bm
    rw [T.eq]
    exact ⟨by have := T.nf.is; rwa [h.hm] at this, rootable_T3 M3 _ _ _⟩
  have vy : Rootable M3 (nv m e Y1 Y2 N) := by
    obtain ⟨t1, t2, t3, k, T⟩ := ((pA.rv h).2).t3 h.ck.m0 h.ck.bm
    rw [T.eq]
    exact rootable_T3 M3 _ _ _
  have ptup : ∀ l : List D, l.length ≠ 2 → Pairable M3 (.tup l) ∧ isPairD m (.tup l) = false := fun l hl => ⟨⟨⟨_, rfl⟩, fun x y hxy => by cases hxy; exact absurd rfl hl⟩, isPairD_len hl⟩
  have ptwo : ∀ x y : D, Rootable M3 x → Rootable M3 y → (isRootD m x && isRootD m y) = false → Pairable M3 (.tup [x, y]) ∧ isPairD m (.tup [x, y]) = false := fun x y hx hy hf => ⟨⟨⟨_, rfl⟩, fun x' y' hxy => by cases hxy; exact ⟨hx, hy⟩⟩, hf⟩
  have rno : ∀ x : D, (∃ T, tyM M3 x = some T) → (∀ l, x ≠ .tup l) → Rootable M3 x := fun x hx hn => ⟨hx, fun l hl => absurd hl (hn l)⟩
  walk_at "rd"
  refine lcW_pure (fun _ => none) trivial (by rw [sizeLine_eq]; exact Nat.le_of_ble_eq_true rfl) (fun d hd Y W hy => ?_) ?_
  · walk_at "rd"
    refine ⟨m, a, b, c, e, _, rfl, h, .inr ?_⟩
    have fin : (match D.bl false, D.bl false with | D.bl a, D.bl b => some (decide (a = b)) | _, _ => none) = some true := rfl
    simp only [List.mem_cons, List.not_mem_nil, or_false] at hd
    rcases hd with rfl | rfl | rfl | rfl | rfl | rfl | rfl | rfl | rfl | rfl
    · refine .inl ⟨_, _, _, _, _, rfl, ⟨N0, bi, bi, bi, bi, bi⟩, oA.spF h, ?_⟩
      dsimp only
      rw [if_neg (by decide)]
      exact hy
    all_goals refine .inr ?_
    all_goals rw [← and_assoc]
    · refine ⟨⟨⟨⟨_, rfl⟩, fun x y hxy => by cases hxy⟩, rfl⟩, ?_⟩
      dsimp only
      rw [if_neg (by decide)]
      exact hy
    · refine ⟨ptup _ (by intro hl; cases hl), ?_⟩
      dsimp only
      rw [if_neg (by decide)]
      exact hy
    · refine ⟨ptup _ (by intro hl; cases hl), ?_⟩
      dsimp only
      rw [if_neg (by decide)]
      exact hy
    · refine ⟨ptwo _ _ vx.2 (rno _ ⟨_, rfl⟩ (fun l hl => by cases hl)) (by rw [vx.1]; rfl), ?_⟩
      dsimp only
      rw [if_neg (by decide)]
      exact hy
    · refine ⟨ptwo _ _ vx.2 (rno _ ⟨_, rfl⟩ (fun l hl => by cases hl)) (by rw [vx.1]; rfl), ?_⟩
      dsimp only
      rw [if_neg (by decide)]
      exact hy
    · refine ⟨⟨⟨⟨_, rfl⟩, fun x y hxy => by cases hxy⟩, rfl⟩, ?_⟩
      dsimp only
      rw [if_neg (by decide)]
      exact hy
    · refine ⟨⟨⟨⟨_, rfl⟩, fun x y hxy => by cases hxy⟩, rfl⟩, ?_⟩
      dsimp only
      rw [if_neg (by decide)]
      exact hy
    · refine ⟨ptwo _ _ (rootable_T3 M3 0 0 2) vy rfl, ?_⟩
      dsimp only
      rw [if_neg (by decide)]
      exact hy
    · refine ⟨ptwo _ _ ⟨⟨_, rfl⟩, fun l hl _ e he => ?_⟩ (rootable_T3 M3 0 0 1) rfl, ?_⟩
      · cases hl
        simp only [List.mem_cons, List.not_mem_nil, or_false] at he
        rcases he with rfl | rfl | rfl <;> exact ⟨rfl, _, rfl⟩
      · dsimp only
        rw [if_neg (by decide)]
        exact hy
  rw [fnone]
  refine gEq_nil' (n := 1) rfl ?_
  exact g13.rtq (q _ g13)
/-! ### the law -/
theorem CM.of {a b c e f g : Int} (h : CK a b c e) (hb : c ≤ g ∧ b ≤ g + 2 * f ∧ -(f + g) ≤ e ∧ e ≤ f) (hf : f ≤ 10 ^ 9) (hg : g ≤ 10 ^ 4) : CM (meas4 b c e) a b c e := by
  obtain ⟨k1, k2, k3, k4, k5, _⟩ := cut_parts h.cut
  have : (Int.gcd b c : Int) ≤ c := Int.le_of_dvd (by omega) (Int.gcd_dvd_right ..)
  exact ⟨h, rfl, Bi.of_abs (10 ^ 11) (by omega) (by decide), Bi.of_abs (10 ^ 11) (by omega) (by decide), Bi.of_abs (10 ^ 11) (by omega) (by decide), Bi.of_abs (10 ^ 11) (by omega) (by decide)⟩
theorem cn_all {m a b c e : Int} (h : CM m a b c e) {i : Nat} (hi : i < 8) : GoR m a b c e (crn m a b c e i) (.tup [zT, zT]) ∧ ((.tup [zT, zT] = crn m a b c e i) ↔ i = 0) := by
  obtain ⟨b0, c0, a0, ac⟩ := h.cb
  have big : ∀ i : Nat, nv m e (k3 c i) (k4 i) 1 ≠ zT → (D.tup [zT, zT] = crn m a b c e i ↔ i = 0) ∨ i = 0 := fun i hn => by
    rcases Nat.eq_zero_or_pos i with z | z
    · exact .inr z
    · exact .inl ⟨fun w => absurd (tup2_inj w).2.symm hn, fun w => by omega⟩
  have bigX : ∀ i : Nat, nv m e (k1 a b i) (k2 i) 1 ≠ zT → (D.tup [zT, zT] = crn m a b c e i ↔ i = 0) ∨ i = 0 := fun i hn => by
    rcases Nat.eq_zero_or_pos i with z | z
    · exact .inr z
    · exact .inl ⟨fun w => absurd (tup2_inj w).1.symm hn, fun w => by omega⟩
  rcases (by omega : i = 0 ∨ i = 1 ∨ i = 2 ∨ i = 3 ∨ i = 4 ∨ i = 5 ∨ i = 6 ∨ i = 7) with rfl | rfl | rfl | rfl | rfl | rfl | rfl | rfl
  · refine ⟨cn0 h, ⟨fun _ => rfl, fun _ => ?_⟩⟩
    exact tup2_eq nv_z nv_z
  · exact ⟨cn1 h, (bigX 1 (ne_z h (by decide) (.p 0 1 rfl rfl (by walk_at "nz") (by walk_at "nz") (.inr (by walk_at "pz"))))).resolve_right (by decide)⟩
  · exact ⟨cn2 h, (bigX 2 (ne_z h (by decide) (.p b 0 rfl rfl (by walk_at "nz") (by walk_at "nz") (.inl (by walk_at "pz"))))).resolve_right (by decide)⟩
  · exact ⟨cn3 h, (big 3 (ne_z h (by decide) (.p c 0 rfl rfl (by walk_at "nz") (by walk_at "nz") (.inl (by walk_at "pz"))))).resolve_right (by decide)⟩
  · exact ⟨cn4 h, (big 4 (ne_z h (by decide) (.p c 0 rfl rfl (by walk_at "nz") (by walk_at "nz") (.inl (by walk_at "pz"))))).resolve_right (by decide)⟩
  · exact ⟨cn5 h, (big 5 (ne_z h (by decide) (.p c 1 rfl rfl (by walk_at "nz") (by walk_at "nz") (.inl (by walk_at "pz"))))).resolve_right (by decide)⟩
  · exact ⟨cn6 h, (big 6 (ne_z h (by decide) (.p c 1 rfl rfl (by walk_at "nz") (by walk_at "nz") (.inl (by walk_at "pz"))))).resolve_right (by decide)⟩
  · exact ⟨cn7 h, (big 7 (ne_z h (by decide) (.p c 0 rfl rfl (by walk_at "nz") (by walk_at "nz") (.inl (by walk_at "pz"))))).resolve_right (by decide)⟩
theorem cm2 : CM 17 1 2 2 (-1) := ⟨ck2, rfl, Bi.of_abs 2 (by decide) (by decide), Bi.of_abs 2 (by decide) (by decide), Bi.of_abs 2 (by decide) (by decide), Bi.of_abs 2 (by decide) (by decide)⟩
theorem nvqq {m e s n s' n' : Int} (g : Int.gcd s' n' = 1) (n0 : 0 < n') (n1 : 0 < n) (h : s * n' = s' * n) : nv m e s 0 n = T3 s' 0 n' := (nv_eq n1 n0 h (by omega)).trans (nvq g n0)
theorem bent1 : GoR 17 1 2 2 (-1) (.tup [T3 14 0 5, T3 2 0 1]) (.tup [T3 9 0 5, T3 0 0 1]) := by
  refine ⟨14, 0, 10, 0, 5, 0, _, _, _, _, _, _, ?_, ⟨by decide, ?_, ?_, ?_, ?_, ?_⟩, spF0 cm2 (y := 1) (w := -1) (u := 0) (r := 1) (t := -1) ?_ ?_ ?_ ?_ ?_, .inl rfl, by decide, ?_, ?_, ?_, .inr ⟨0, 18, 0, 10, 0, 0, 1, (nspD ?_ ?_ ?_ ?_ ?_).trans nzU, .inl rfl, by decide, ?_, ?_, ?_, by decide, ?_, ?_, ?_, ?_⟩⟩
  · exact tup2_eq (nvqq rfl (by decide) (by decide) (by decide)).symm (nvqq rfl (by decide) (by decide) (by decide)).symm
  all_goals try exact Bi.of_abs 100 (by decide) (by decide)
  · exact .p 10 0 (by decide) (by decide) (by decide) (by decide) (by decide)
  · exact .n 0 5 (by decide) (by decide) (by decide) (by decide) (by decide)
  · exact .z (by decide) (by decide)
  · exact .p 18 0 (by decide) (by decide) (by decide) (by decide) (by decide)
  · exact .n 2 0 (by decide) (by decide) (by decide) (by decide) (by decide)
  · exact nvqq rfl (by decide) (by decide) (by decide)
  · rw [show nv 17 (-1) (14 * 2 - 1 * 10) (0 * 2 - 1 * 0) (2 * 5) = T3 9 0 5 from nvqq rfl (by decide) (by decide) (by decide)]
    intro w; cases w
  · rw [show nv 17 (-1) (14 * 2 - 1 * 10) (0 * 2 - 1 * 0) (2 * 5) = T3 9 0 5 from nvqq rfl (by decide) (by decide) (by decide), show cS 17 (-1) = T3 (-1) 1 2 from rnT (by decide +kernel) (by decide +kernel) (by decide +kernel)]
    intro w; cases w
  · rw [show nv 17 (-1) (14 * 2 - 1 * 10) (0 * 2 - 1 * 0) (2 * 5) = T3 9 0 5 from nvqq rfl (by decide) (by decide) (by decide)]
    intro w; cases w
  · decide +kernel
  · rw [la0_eq]
    exact tup2_eq (nvqq rfl (by decide) (by decide) (by decide)).symm (nvqq rfl (by decide) (by decide) (by decide)).symm
theorem bent2 : GoR 17 1 2 2 (-1) (.tup [T3 5 0 2, T3 1 0 1]) (.tup [T3 1 0 2, T3 1 0 1]) := by
  refine ⟨5, 0, 2, 0, 2, 0, _, _, _, _, _, _, ?_, ⟨by decide, ?_, ?_, ?_, ?_, ?_⟩, spF0 cm2 (y := 1) (w := -1) (u := -1) (r := 1) (t := 0) ?_ ?_ ?_ ?_ ?_, .inl rfl, by decide, ?_, ?_, ?_, .inr ⟨0, 0, 0, 1, 2, 0, 2, (nspB ?_ ?_ ?_).trans nzR, .inl rfl, by decide, ?_, ?_, ?_, by decide, ?_, ?_, ?_, ?_⟩⟩
  · exact tup2_eq (nvqq rfl (by decide) (by decide) (by decide)).symm (nvqq rfl (by decide) (by decide) (by decide)).symm
  all_goals try exact Bi.of_abs 100 (by decide) (by decide)
  · exact .p 2 0 (by decide) (by decide) (by decide) (by decide) (by decide)
  · exact .n 2 2 (by decide) (by decide) (by decide) (by decide) (by decide)
  · exact .n 2 0 (by decide) (by decide) (by decide) (by decide) (by decide)
  · exact .p 8 0 (by decide) (by decide) (by decide) (by decide) (by decide)
  · exact .z (by decide) (by decide)
  · rw [show nv 17 (-1) 2 0 2 = T3 1 0 1 from nvqq rfl (by decide) (by decide) (by decide)]
    intro w; cases w
  · rw [show nv 17 (-1) 2 0 2 = T3 1 0 1 from nvqq rfl (by decide) (by decide) (by decide)]
    intro w; cases w
  · exact nvqq rfl (by decide) (by decide) (by decide)
  · rw [la0_eq]
    exact tup2_eq (nvqq rfl (by decide) (by decide) (by decide)).symm (nvqq rfl (by decide) (by decide) (by decide)).symm
theorem rd_l_law_53b8 : ∀ ds M Q, ds.length = 1 → spLaw ds M Q DX0 → t_l_law_53b8 sp_generator sp_lcutting34 sp_lwhole sp_ledge sp_point_of sp_lcornersK sp_point_by sp_linner sp_piece (dEnds M Q) (startD 7 ds) M := by
  rintro _ M Q - ⟨rfl, ⟨ns, rfl⟩, q⟩
  unfold t_l_law_53b8
  have fin : ∀ M2, Rtq [] Q (.bl true) M2 := fun M2 => ⟨[], M2, rfl, Nat.zero_le _, rfl, fun i c h => by simp at h, q⟩
  refine dSeq_open fun B hB => ?_
  walk_at "rd"
  refine ⟨ns, _, rfl, by decide, by unfold P31; decide, fun M1 ml hg hold => ?_⟩
  rw [← hB]
  clear hB B
  refine dSeq_open fun B hB => ?_
  walk_at "rd"
  refine ⟨0, 12, 8, _, rfl, by decide, by decide, by decide, by decide, hg, by unfold P40; omega, fun a b c e M2 hc hbd g2 => ?_⟩
  have h := CM.of hc hbd (by decide) (by decide)
  obtain ⟨m, hm⟩ : ∃ m, meas4 b c e = m := ⟨_, rfl⟩
  rw [hm] at h
  rw [← hB]
  clear hB B
  refine dSeq_open fun B hB => ?_
  walk_at "rd"
  refine ⟨0, rfl, ⟨0, rfl, ?_⟩⟩
  rw [← hB]
  clear hB B
  dsimp only
  have gen2 : Gn 0 1000 M2 := g2.2.1.le (by omega)
  have vN : D.tup [T3 0 0 1, T3 0 0 1] = .tup [zT, zT] := rfl
  obtain ⟨zN, hzN, _⟩ := shown_same (d := .tup [zT, zT]) ⟨rfl, rfl, by simp only [wt, wtAll]; decide⟩
  rw [vN]
  refine dSeq_open fun B0 hB0 => ?_
  walk_at "rd"
  refine ⟨⟨by decide, by decide⟩, fun i r1 M3 => Gn 0 (1000 + 40 * i) M3 ∧ i ≤ 8 ∧ ∃ o4, r1 = [some (.scr ns), some (.own 0), some (T4 a b c e), some (.tup [zT, zT]), o4, none, none], ⟨gen2.le (by omega), by omega, _, rfl⟩, ?_⟩
  rintro i r1 M3 ⟨g3, i8, o4, rfl⟩
  refine ⟨trivial, fun hi => ?_, fun d hd => ?_⟩
  · have : i = 8 := by rw [show (rng 0 (Int.toNat 8)).length = 8 from rfl] at hi; omega
    subst this
    rw [← hB0]
    clear hB0 B0
    dsimp only
    refine dSeq_open fun B1 hB1 => ?_
    walk_at "rd"
    refine ⟨⟨by decide, by decide⟩, fun i r1 M4 => Gn 0 (2000 + 1000 * i) M4 ∧ i ≤ 4 ∧ ∃ o4 o5, r1 = [some (.scr ns), some (.own 0), some (T4 a b c e), some (.tup [zT, zT]), o4, o5, none], ⟨g3.le (by omega), by omega, _, _, rfl⟩, ?_⟩
    rintro i r1 M4 ⟨g4, i4, o4, o5, rfl⟩
    refine ⟨trivial, fun hi => ?_, fun d hd => ?_⟩
    · have : i = 4 := by rw [show (rng 0 (Int.toNat 4)).length = 4 from rfl] at hi; omega
      subst this
      rw [← hB1]
      clear hB1 B1
      dsimp only
      refine dSeq_open fun B hB => ?_
      walk_at "rd"
      have z2 : D.tup [zT, zT] = .tup [nv m e 0 0 1, nv m e 0 0 1] := tup2_eq nv_z nv_z
      have g00 : GoR m a b c e (.tup [nv m e 0 0 1, nv m e 0 0 1]) (.tup [nv m e 0 0 1, nv m e 0 0 1]) := by
        have := cn0 h
        rw [z2] at this
        exact this
      have b1 : Bi 150 1 := Bi.of_abs 1 (by decide) (by decide)
      have b0' : Bi 150 0 := Bi.of_abs 0 (by decide) (by decide)
      have hc0 := h.cb.c0
      have hb0 := h.cb.b0
      rw [z2]
      refine ⟨m, a, b, c, e, 0, 0, 0, 0, 1, rfl, h, ⟨by decide, b0', b0', b0', b0', b1⟩, g00, ?_⟩
      rw [(show Sg b (0 - c * 1) 0 (-1) from .n c 0 (by omega) (by decide) (by omega) (by decide) (.inl (by omega))).sgn h, if_neg (by decide)]
      dsimp only
      refine gNe_int_same ?_
      dsimp only
      rw [if_neg (by decide)]
      refine ⟨⟨by decide, by decide⟩, ⟨by decide, by decide⟩, ?_⟩
      refine ⟨0, 10 ^ 9, 10 ^ 4, 2000 + 1000 * 4, rfl, by decide, by decide, by decide, by decide, g4, by unfold P40; omega, fun a' b' c' e' M5 hc' hbd' g5 => ?_⟩
      refine ⟨_, a', b', c', e', 6160, 0, rfl, CM.of hc' hbd' (by decide) (by decide), g5.2.1.le (by omega), by unfold P40; omega, fun M6 g6 => ?_⟩
      dsimp only
      rw [if_neg (by decide), ← hB]
      clear hB B
      refine dSeq_open fun B hB => ?_
      walk_at "rd"
      rw [← hB]
      clear hB B
      walk_at "rd"
      refine ⟨17, 1, 2, 2, -1, _, _, rfl, cm2, bent1, ?_⟩
      refine gEq_same (n := 4) rfl ?_
      dsimp only
      rw [if_pos rfl]
      refine ⟨17, 1, 2, 2, -1, _, _, rfl, cm2, bent2, ?_⟩
      exact gEq_same (n := 4) rfl (fin _)
    · walk_at "rd"
      have i3 : i < 4 := by
        rcases (by omega : i < 4 ∨ i = 4) with z | rfl
        · exact z
        · cases hd
      refine ⟨m, a, b, c, e, 2000 + 1000 * i, 0, rfl, h, g4, by unfold P40; omega, fun M5 g5 => ?_⟩
      dsimp only
      rw [if_neg (by decide)]
      exact ⟨g5.2.1.le (by omega), by omega, _, _, rfl⟩
  · have hd8 : d = .int (i : Int) ∧ i < 8 := by
      rcases (by omega : i = 0 ∨ i = 1 ∨ i = 2 ∨ i = 3 ∨ i = 4 ∨ i = 5 ∨ i = 6 ∨ i = 7 ∨ i = 8) with rfl | rfl | rfl | rfl | rfl | rfl | rfl | rfl | rfl <;> cases hd <;> exact ⟨rfl, by decide⟩
    obtain ⟨rfl, i7⟩ := hd8
    obtain ⟨q1, q2⟩ := corn_at (m := m) (a := a) (b := b) (c := c) (e := e) i7
    obtain ⟨gc, ec⟩ := cn_all h i7
    walk_at "rd"
    refine ⟨m, a, b, c, e, 1000 + 40 * i, 0, i, rfl, h, i7, g3, by unfold P40; omega, fun M4 g4 => ?_⟩
    dsimp only
    rw [if_neg (by decide)]
    refine ⟨m, a, b, c, e, rfl, h, ?_⟩
    simp only [rs_lst, q1]
    refine ⟨m, a, b, c, e, _, _, rfl, h, gc, ?_⟩
    refine gReprZ_res (hzN _) (gReprZ_res (hzN _) (gNe_str_same ?_))
    dsimp only
    rw [if_neg (by decide)]
    refine ⟨m, a, b, c, e, rfl, h, ?_⟩
    simp only [rs_lst, q1]
    refine ⟨m, a, b, c, e, _, rfl, h, .inl ⟨_, gc, fun t ht => ?_⟩⟩
    dsimp only
    have et : t = ((i : Int) == 0) := by
      cases t with
      | true => 
        have := ec.1 (ht.1 rfl)
        subst this; rfl
      | false =>
        have : ¬ i = 0 := fun w => by have := ht.2 (ec.2 w); cases this
        have : ¬ (i : Int) = 0 := by omega
        exact (beq_eq_false_iff_ne.mpr this).symm
    rw [← et, gNe_bl]
    rw [show (!(t == t)) = false by cases t <;> rfl]
    dsimp only
    rw [if_neg (by decide)]
    exact ⟨g4.2.1.le (by omega), by omega, _, rfl⟩
end DL
namespace C_k35
open PySem PySem.Spec PyProof.Rows L2 DL
theorem law_ok {P : Program} {w : World} {K : PySem.W.Frag} {mg : Str → Option Value} {base : Heap} (T : Txt K mg base) : Def P w K mg base CX0 10 "law" s_l_law_53b8 ["_law_script"] spLaw := by
  have D_l_cell_cf3b := ok_l_cell_cf3b (P := P) (w := w) T  rd_l_cell_cf3b
  have D_l_generator_b324 := ok_l_generator_b324 (P := P) (w := w) T D_l_cell_cf3b rd_l_generator_b324
  have D_l_hash_d8d1 := ok_l_hash_d8d1 (P := P) (w := w) T  rd_l_hash_d8d1
  have D_l_random_7821 := ok_l_random_7821 (P := P) (w := w) T D_l_hash_d8d1 rd_l_random_7821
  have D_l_common_ec6e := ok_l_common_ec6e (P := P) (w := w) T  rd_l_common_ec6e
  have D_l_cutting_bb00 := ok_l_cutting_bb00 (P := P) (w := w) T D_l_random_7821 D_l_common_ec6e rd_l_cutting_bb00
  have D_l_whole_43a8 := ok_l_whole_43a8 (P := P) (w := w) T  rd_l_whole_43a8
  have D_l_measure_d993 := ok_l_measure_d993 (P := P) (w := w) T  rd_l_measure_d993
  have D_l_root_of_fba3 := ok_l_root_of_fba3 (P := P) (w := w) T  rd_l_root_of_fba3
  have D_l_made_ecf7 := ok_l_made_ecf7 (P := P) (w := w) T D_l_root_of_fba3 D_l_common_ec6e rd_l_made_ecf7
  have D_l_side_of_cf54 := ok_l_side_of_cf54 (P := P) (w := w) T D_l_made_ecf7 D_l_measure_d993 rd_l_side_of_cf54
  have D_l_plus_46d9 := ok_l_plus_46d9 (P := P) (w := w) T D_l_made_ecf7 rd_l_plus_46d9
  have D_l_corners_5cb1 := ok_l_corners_5cb1 (P := P) (w := w) T D_l_side_of_cf54 D_l_measure_d993 D_l_whole_43a8 D_l_plus_46d9 rd_l_corners_5cb1
  have D_l_share_4ae7 := ok_l_share_4ae7 (P := P) (w := w) T D_l_made_ecf7 D_l_random_7821 rd_l_share_4ae7
  have D_l_added_a47b := ok_l_added_a47b (P := P) (w := w) T D_l_plus_46d9 rd_l_added_a47b
  have D_l_times_3146 := ok_l_times_3146 (P := P) (w := w) T D_l_made_ecf7 rd_l_times_3146
  have D_l_scaled_08a4 := ok_l_scaled_08a4 (P := P) (w := w) T D_l_times_3146 rd_l_scaled_08a4
  have D_l_glued_bd92 := ok_l_glued_bd92 (P := P) (w := w) T  rd_l_glued_bd92
  have D_is_whole := ok_is_whole (P := P) (w := w) T  rd_is_whole
  have D_common_by := ok_common_by (P := P) (w := w) T  rd_common_by
  have D_is_cutting_by := ok_is_cutting_by (P := P) (w := w) T D_is_whole D_common_by rd_is_cutting_by
  have D_check_cutting := ok_check_cutting (P := P) (w := w) T D_is_cutting_by rd_check_cutting
  have D_measure_by := ok_measure_by (P := P) (w := w) T  rd_measure_by
  have D_root_floor_by := ok_root_floor_by (P := P) (w := w) T  rd_root_floor_by
  have D_is_root_by := ok_is_root_by (P := P) (w := w) T D_is_whole D_common_by D_root_floor_by rd_is_root_by
  have D_is_pair := ok_is_pair (P := P) (w := w) T D_measure_by D_is_root_by rd_is_pairX
  have D_root_by := ok_root_by (P := P) (w := w) T D_root_floor_by D_common_by rd_root_by
  have D_slit_by := ok_slit_by (P := P) (w := w) T D_root_by D_measure_by rd_slit_by
  have D_plus_by := ok_plus_by (P := P) (w := w) T D_root_by rd_plus_by
  have D_minus_by := ok_minus_by (P := P) (w := w) T D_plus_by rd_minus_by
  have D_side_by := ok_side_by (P := P) (w := w) T  rd_side_by
  have D_times_by := ok_times_by (P := P) (w := w) T D_root_by rd_times_by
  have D_spot_by := ok_spot_by (P := P) (w := w) T D_measure_by D_slit_by D_minus_by D_side_by D_times_by D_root_by rd_spot_by
  have D_laid := ok_laid (P := P) (w := w) T D_measure_by D_plus_by D_times_by D_root_by rd_laid
  have D_is_end := ok_is_end (P := P) (w := w) T D_slit_by rd_is_end
  have D_normal_spot := ok_normal_spot (P := P) (w := w) T D_measure_by D_slit_by D_side_by D_minus_by D_is_end rd_normal_spot
  have D_point_of := ok_point_of (P := P) (w := w) T D_check_cutting D_is_pair D_spot_by D_laid D_normal_spot rd_point_of
  have D_is_point_by := ok_is_point_by (P := P) (w := w) T D_is_pair D_spot_by D_laid D_normal_spot rd_is_point_by
  have D_is_point := ok_is_point (P := P) (w := w) T D_check_cutting D_is_point_by rd_is_point
  have D_check_point := ok_check_point (P := P) (w := w) T D_is_point_by rd_check_point
  have D_piece_of := ok_piece_of (P := P) (w := w) T D_check_cutting D_check_point D_measure_by D_side_by D_minus_by rd_piece_of
  have D_l_edge_right_b3b6 := ok_l_edge_right_b3b6 (P := P) (w := w) T D_l_measure_d993 D_l_corners_5cb1 D_l_share_4ae7 D_l_added_a47b D_l_scaled_08a4 D_l_glued_bd92 D_point_of D_is_point D_piece_of rd_l_edge_right_b3b6
  have D_l_shape_1896 := ok_l_shape_1896 (P := P) (w := w) T D_l_measure_d993 D_l_side_of_cf54 D_l_whole_43a8 D_l_made_ecf7 rd_l_shape_1896
  have D_l_spot_7a5b := ok_l_spot_7a5b (P := P) (w := w) T D_l_measure_d993 D_l_random_7821 D_l_shape_1896 D_l_times_3146 D_l_share_4ae7 rd_l_spot_7a5b
  have D_l_place_9cad := ok_l_place_9cad (P := P) (w := w) T D_l_measure_d993 D_l_plus_46d9 D_l_whole_43a8 D_l_times_3146 D_l_shape_1896 rd_l_place_9cad
  have D_l_along_edge_cdad := ok_l_along_edge_cdad (P := P) (w := w) T D_l_measure_d993 D_l_corners_5cb1 D_l_added_a47b D_l_scaled_08a4 rd_l_along_edge_cdad
  have D_l_outside_bec0 := ok_l_outside_bec0 (P := P) (w := w) T D_l_measure_d993 D_l_corners_5cb1 D_l_added_a47b D_l_along_edge_cdad D_l_share_4ae7 D_l_random_7821 D_l_scaled_08a4 D_l_side_of_cf54 D_l_plus_46d9 D_l_whole_43a8 D_l_times_3146 rd_l_outside_bec0
  have D_l_inner_right_c58f := ok_l_inner_right_c58f (P := P) (w := w) T D_l_measure_d993 D_l_spot_7a5b D_l_place_9cad D_point_of D_is_point D_piece_of D_l_times_3146 D_l_share_4ae7 D_l_side_of_cf54 D_l_whole_43a8 D_l_added_a47b D_l_outside_bec0 rd_l_inner_right_c58f
  exact ok_l_law_53b8 T D_l_generator_b324 D_l_cutting_bb00 D_l_whole_43a8 D_l_edge_right_b3b6 D_point_of D_l_corners_5cb1 D_is_point D_l_inner_right_c58f D_piece_of rd_l_law_53b8
end C_k35
namespace C_k35
open PySem PySem.Spec PyProof.Rows L2 DL
theorem all_mk {K : PySem.W.Frag} {h : Heap} {mg : Str → Option Value} (X : K.In h) (G : h.Ns mainGlobals mg)
    (n_abs : PySem.W.nsIn K mainGlobals "abs" = some none)
    (n_bool : PySem.W.nsIn K mainGlobals "bool" = some none)
    (n_int : PySem.W.nsIn K mainGlobals "int" = some none)
    (n_isinstance : PySem.W.nsIn K mainGlobals "isinstance" = some none)
    (n_len : PySem.W.nsIn K mainGlobals "len" = some none)
    (n_list : PySem.W.nsIn K mainGlobals "list" = some none)
    (n_max : PySem.W.nsIn K mainGlobals "max" = some none)
    (n_range : PySem.W.nsIn K mainGlobals "range" = some none)
    (n_repr : PySem.W.nsIn K mainGlobals "repr" = some none)
    (n_sum : PySem.W.nsIn K mainGlobals "sum" = some none)
    (n_tuple : PySem.W.nsIn K mainGlobals "tuple" = some none)
    (n_zip : PySem.W.nsIn K mainGlobals "zip" = some none)
    {ct_NOUGHT_0 : Tok}
    {ct_NOUGHT_1 : Tok}
    {ct_NOUGHT_2 : Tok}
    {ca_NOUGHT : Addr} {cd_NOUGHT : Option Addr} {cn_NOUGHT : Nat} {cs_NOUGHT : Array (Option Value)} (cl_NOUGHT : K.lookup ca_NOUGHT = some ⟨.type "tuple", cd_NOUGHT, .seq #[.int 0 ct_NOUGHT_0, .int 0 ct_NOUGHT_1, .int 1 ct_NOUGHT_2] cn_NOUGHT, cs_NOUGHT⟩)
    (c_NOUGHT : PySem.W.nsIn K mainGlobals "NOUGHT" = some (some (.ref ca_NOUGHT)))
    {f_l_cell_cf3b : Addr} {oc_l_cell_cf3b kV_l_cell_cf3b dc_l_cell_cf3b pm_l_cell_cf3b cd_l_cell_cf3b ct_l_cell_cf3b : Value} {od_l_cell_cf3b an_l_cell_cf3b : Option Addr} {sl_l_cell_cf3b : Array (Option Value)}
    (a_l_cell_cf3b : PySem.W.nsIn K mainGlobals "_law_cell" = some (some (.ref f_l_cell_cf3b))) (l_l_cell_cf3b : K.lookup f_l_cell_cf3b = some ⟨oc_l_cell_cf3b, od_l_cell_cf3b, .func (PySem.W.fnOf "_law_cell" "_law_cell" (defArgs s_l_cell_cf3b) (defBody s_l_cell_cf3b) (defScope s_l_cell_cf3b) .none kV_l_cell_cf3b dc_l_cell_cf3b pm_l_cell_cf3b an_l_cell_cf3b cd_l_cell_cf3b ct_l_cell_cf3b), sl_l_cell_cf3b⟩) (e_l_cell_cf3b : PySem.W.codeIn K cd_l_cell_cf3b "_law_cell" = true) (k_l_cell_cf3b : PySem.W.keepIn K (.ref f_l_cell_cf3b) = true)
    {f_l_generator_b324 : Addr} {oc_l_generator_b324 kV_l_generator_b324 dc_l_generator_b324 pm_l_generator_b324 cd_l_generator_b324 ct_l_generator_b324 : Value} {od_l_generator_b324 an_l_generator_b324 : Option Addr} {sl_l_generator_b324 : Array (Option Value)}
    (a_l_generator_b324 : PySem.W.nsIn K mainGlobals "_law_generator" = some (some (.ref f_l_generator_b324))) (l_l_generator_b324 : K.lookup f_l_generator_b324 = some ⟨oc_l_generator_b324, od_l_generator_b324, .func (PySem.W.fnOf "_law_generator" "_law_generator" (defArgs s_l_generator_b324) (defBody s_l_generator_b324) (defScope s_l_generator_b324) .none kV_l_generator_b324 dc_l_generator_b324 pm_l_generator_b324 an_l_generator_b324 cd_l_generator_b324 ct_l_generator_b324), sl_l_generator_b324⟩) (e_l_generator_b324 : PySem.W.codeIn K cd_l_generator_b324 "_law_generator" = true) (k_l_generator_b324 : PySem.W.keepIn K (.ref f_l_generator_b324) = true)
    {f_l_hash_d8d1 : Addr} {oc_l_hash_d8d1 kV_l_hash_d8d1 dc_l_hash_d8d1 pm_l_hash_d8d1 cd_l_hash_d8d1 ct_l_hash_d8d1 : Value} {od_l_hash_d8d1 an_l_hash_d8d1 : Option Addr} {sl_l_hash_d8d1 : Array (Option Value)}
    (a_l_hash_d8d1 : PySem.W.nsIn K mainGlobals "_law_hash" = some (some (.ref f_l_hash_d8d1))) (l_l_hash_d8d1 : K.lookup f_l_hash_d8d1 = some ⟨oc_l_hash_d8d1, od_l_hash_d8d1, .func (PySem.W.fnOf "_law_hash" "_law_hash" (defArgs s_l_hash_d8d1) (defBody s_l_hash_d8d1) (defScope s_l_hash_d8d1) .none kV_l_hash_d8d1 dc_l_hash_d8d1 pm_l_hash_d8d1 an_l_hash_d8d1 cd_l_hash_d8d1 ct_l_hash_d8d1), sl_l_hash_d8d1⟩) (e_l_hash_d8d1 : PySem.W.codeIn K cd_l_hash_d8d1 "_law_hash" = true) (k_l_hash_d8d1 : PySem.W.keepIn K (.ref f_l_hash_d8d1) = true)
    {f_l_random_7821 : Addr} {oc_l_random_7821 kV_l_random_7821 dc_l_random_7821 pm_l_random_7821 cd_l_random_7821 ct_l_random_7821 : Value} {od_l_random_7821 an_l_random_7821 : Option Addr} {sl_l_random_7821 : Array (Option Value)}
    (a_l_random_7821 : PySem.W.nsIn K mainGlobals "_law_random" = some (some (.ref f_l_random_7821))) (l_l_random_7821 : K.lookup f_l_random_7821 = some ⟨oc_l_random_7821, od_l_random_7821, .func (PySem.W.fnOf "_law_random" "_law_random" (defArgs s_l_random_7821) (defBody s_l_random_7821) (defScope s_l_random_7821) .none kV_l_random_7821 dc_l_random_7821 pm_l_random_7821 an_l_random_7821 cd_l_random_7821 ct_l_random_7821), sl_l_random_7821⟩) (e_l_random_7821 : PySem.W.codeIn K cd_l_random_7821 "_law_random" = true) (k_l_random_7821 : PySem.W.keepIn K (.ref f_l_random_7821) = true)
    {f_l_common_ec6e : Addr} {oc_l_common_ec6e kV_l_common_ec6e dc_l_common_ec6e pm_l_common_ec6e cd_l_common_ec6e ct_l_common_ec6e : Value} {od_l_common_ec6e an_l_common_ec6e : Option Addr} {sl_l_common_ec6e : Array (Option Value)}
    (a_l_common_ec6e : PySem.W.nsIn K mainGlobals "_law_common" = some (some (.ref f_l_common_ec6e))) (l_l_common_ec6e : K.lookup f_l_common_ec6e = some ⟨oc_l_common_ec6e, od_l_common_ec6e, .func (PySem.W.fnOf "_law_common" "_law_common" (defArgs s_l_common_ec6e) (defBody s_l_common_ec6e) (defScope s_l_common_ec6e) .none kV_l_common_ec6e dc_l_common_ec6e pm_l_common_ec6e an_l_common_ec6e cd_l_common_ec6e ct_l_common_ec6e), sl_l_common_ec6e⟩) (e_l_common_ec6e : PySem.W.codeIn K cd_l_common_ec6e "_law_common" = true) (k_l_common_ec6e : PySem.W.keepIn K (.ref f_l_common_ec6e) = true)
    {f_l_cutting_bb00 : Addr} {oc_l_cutting_bb00 kV_l_cutting_bb00 dc_l_cutting_bb00 pm_l_cutting_bb00 cd_l_cutting_bb00 ct_l_cutting_bb00 : Value} {od_l_cutting_bb00 an_l_cutting_bb00 : Option Addr} {sl_l_cutting_bb00 : Array (Option Value)}
    (a_l_cutting_bb00 : PySem.W.nsIn K mainGlobals "_law_cutting" = some (some (.ref f_l_cutting_bb00))) (l_l_cutting_bb00 : K.lookup f_l_cutting_bb00 = some ⟨oc_l_cutting_bb00, od_l_cutting_bb00, .func (PySem.W.fnOf "_law_cutting" "_law_cutting" (defArgs s_l_cutting_bb00) (defBody s_l_cutting_bb00) (defScope s_l_cutting_bb00) .none kV_l_cutting_bb00 dc_l_cutting_bb00 pm_l_cutting_bb00 an_l_cutting_bb00 cd_l_cutting_bb00 ct_l_cutting_bb00), sl_l_cutting_bb00⟩) (e_l_cutting_bb00 : PySem.W.codeIn K cd_l_cutting_bb00 "_law_cutting" = true) (k_l_cutting_bb00 : PySem.W.keepIn K (.ref f_l_cutting_bb00) = true)
    {f_l_whole_43a8 : Addr} {oc_l_whole_43a8 kV_l_whole_43a8 dc_l_whole_43a8 pm_l_whole_43a8 cd_l_whole_43a8 ct_l_whole_43a8 : Value} {od_l_whole_43a8 an_l_whole_43a8 : Option Addr} {sl_l_whole_43a8 : Array (Option Value)}
    (a_l_whole_43a8 : PySem.W.nsIn K mainGlobals "_law_whole" = some (some (.ref f_l_whole_43a8))) (l_l_whole_43a8 : K.lookup f_l_whole_43a8 = some ⟨oc_l_whole_43a8, od_l_whole_43a8, .func (PySem.W.fnOf "_law_whole" "_law_whole" (defArgs s_l_whole_43a8) (defBody s_l_whole_43a8) (defScope s_l_whole_43a8) .none kV_l_whole_43a8 dc_l_whole_43a8 pm_l_whole_43a8 an_l_whole_43a8 cd_l_whole_43a8 ct_l_whole_43a8), sl_l_whole_43a8⟩) (e_l_whole_43a8 : PySem.W.codeIn K cd_l_whole_43a8 "_law_whole" = true) (k_l_whole_43a8 : PySem.W.keepIn K (.ref f_l_whole_43a8) = true)
    {f_l_measure_d993 : Addr} {oc_l_measure_d993 kV_l_measure_d993 dc_l_measure_d993 pm_l_measure_d993 cd_l_measure_d993 ct_l_measure_d993 : Value} {od_l_measure_d993 an_l_measure_d993 : Option Addr} {sl_l_measure_d993 : Array (Option Value)}
    (a_l_measure_d993 : PySem.W.nsIn K mainGlobals "_law_measure" = some (some (.ref f_l_measure_d993))) (l_l_measure_d993 : K.lookup f_l_measure_d993 = some ⟨oc_l_measure_d993, od_l_measure_d993, .func (PySem.W.fnOf "_law_measure" "_law_measure" (defArgs s_l_measure_d993) (defBody s_l_measure_d993) (defScope s_l_measure_d993) .none kV_l_measure_d993 dc_l_measure_d993 pm_l_measure_d993 an_l_measure_d993 cd_l_measure_d993 ct_l_measure_d993), sl_l_measure_d993⟩) (e_l_measure_d993 : PySem.W.codeIn K cd_l_measure_d993 "_law_measure" = true) (k_l_measure_d993 : PySem.W.keepIn K (.ref f_l_measure_d993) = true)
    {f_l_root_of_fba3 : Addr} {oc_l_root_of_fba3 kV_l_root_of_fba3 dc_l_root_of_fba3 pm_l_root_of_fba3 cd_l_root_of_fba3 ct_l_root_of_fba3 : Value} {od_l_root_of_fba3 an_l_root_of_fba3 : Option Addr} {sl_l_root_of_fba3 : Array (Option Value)}
    (a_l_root_of_fba3 : PySem.W.nsIn K mainGlobals "_law_root_of" = some (some (.ref f_l_root_of_fba3))) (l_l_root_of_fba3 : K.lookup f_l_root_of_fba3 = some ⟨oc_l_root_of_fba3, od_l_root_of_fba3, .func (PySem.W.fnOf "_law_root_of" "_law_root_of" (defArgs s_l_root_of_fba3) (defBody s_l_root_of_fba3) (defScope s_l_root_of_fba3) .none kV_l_root_of_fba3 dc_l_root_of_fba3 pm_l_root_of_fba3 an_l_root_of_fba3 cd_l_root_of_fba3 ct_l_root_of_fba3), sl_l_root_of_fba3⟩) (e_l_root_of_fba3 : PySem.W.codeIn K cd_l_root_of_fba3 "_law_root_of" = true) (k_l_root_of_fba3 : PySem.W.keepIn K (.ref f_l_root_of_fba3) = true)
    {f_l_made_ecf7 : Addr} {oc_l_made_ecf7 kV_l_made_ecf7 dc_l_made_ecf7 pm_l_made_ecf7 cd_l_made_ecf7 ct_l_made_ecf7 : Value} {od_l_made_ecf7 an_l_made_ecf7 : Option Addr} {sl_l_made_ecf7 : Array (Option Value)}
    (a_l_made_ecf7 : PySem.W.nsIn K mainGlobals "_law_made" = some (some (.ref f_l_made_ecf7))) (l_l_made_ecf7 : K.lookup f_l_made_ecf7 = some ⟨oc_l_made_ecf7, od_l_made_ecf7, .func (PySem.W.fnOf "_law_made" "_law_made" (defArgs s_l_made_ecf7) (defBody s_l_made_ecf7) (defScope s_l_made_ecf7) .none kV_l_made_ecf7 dc_l_made_ecf7 pm_l_made_ecf7 an_l_made_ecf7 cd_l_made_ecf7 ct_l_made_ecf7), sl_l_made_ecf7⟩) (e_l_made_ecf7 : PySem.W.codeIn K cd_l_made_ecf7 "_law_made" = true) (k_l_made_ecf7 : PySem.W.keepIn K (.ref f_l_made_ecf7) = true)
    {f_l_side_of_cf54 : Addr} {oc_l_side_of_cf54 kV_l_side_of_cf54 dc_l_side_of_cf54 pm_l_side_of_cf54 cd_l_side_of_cf54 ct_l_side_of_cf54 : Value} {od_l_side_of_cf54 an_l_side_of_cf54 : Option Addr} {sl_l_side_of_cf54 : Array (Option Value)}
    (a_l_side_of_cf54 : PySem.W.nsIn K mainGlobals "_law_side_of" = some (some (.ref f_l_side_of_cf54))) (l_l_side_of_cf54 : K.lookup f_l_side_of_cf54 = some ⟨oc_l_side_of_cf54, od_l_side_of_cf54, .func (PySem.W.fnOf "_law_side_of" "_law_side_of" (defArgs s_l_side_of_cf54) (defBody s_l_side_of_cf54) (defScope s_l_side_of_cf54) .none kV_l_side_of_cf54 dc_l_side_of_cf54 pm_l_side_of_cf54 an_l_side_of_cf54 cd_l_side_of_cf54 ct_l_side_of_cf54), sl_l_side_of_cf54⟩) (e_l_side_of_cf54 : PySem.W.codeIn K cd_l_side_of_cf54 "_law_side_of" = true) (k_l_side_of_cf54 : PySem.W.keepIn K (.ref f_l_side_of_cf54) = true)
    {f_l_plus_46d9 : Addr} {oc_l_plus_46d9 kV_l_plus_46d9 dc_l_plus_46d9 pm_l_plus_46d9 cd_l_plus_46d9 ct_l_plus_46d9 : Value} {od_l_plus_46d9 an_l_plus_46d9 : Option Addr} {sl_l_plus_46d9 : Array (Option Value)}
    (a_l_plus_46d9 : PySem.W.nsIn K mainGlobals "_law_plus" = some (some (.ref f_l_plus_46d9))) (l_l_plus_46d9 : K.lookup f_l_plus_46d9 = some ⟨oc_l_plus_46d9, od_l_plus_46d9, .func (PySem.W.fnOf "_law_plus" "_law_plus" (defArgs s_l_plus_46d9) (defBody s_l_plus_46d9) (defScope s_l_plus_46d9) .none kV_l_plus_46d9 dc_l_plus_46d9 pm_l_plus_46d9 an_l_plus_46d9 cd_l_plus_46d9 ct_l_plus_46d9), sl_l_plus_46d9⟩) (e_l_plus_46d9 : PySem.W.codeIn K cd_l_plus_46d9 "_law_plus" = true) (k_l_plus_46d9 : PySem.W.keepIn K (.ref f_l_plus_46d9) = true)
    {f_l_corners_5cb1 : Addr} {oc_l_corners_5cb1 kV_l_corners_5cb1 dc_l_corners_5cb1 pm_l_corners_5cb1 cd_l_corners_5cb1 ct_l_corners_5cb1 : Value} {od_l_corners_5cb1 an_l_corners_5cb1 : Option Addr} {sl_l_corners_5cb1 : Array (Option Value)}
    (a_l_corners_5cb1 : PySem.W.nsIn K mainGlobals "_law_corners" = some (some (.ref f_l_corners_5cb1))) (l_l_corners_5cb1 : K.lookup f_l_corners_5cb1 = some ⟨oc_l_corners_5cb1, od_l_corners_5cb1, .func (PySem.W.fnOf "_law_corners" "_law_corners" (defArgs s_l_corners_5cb1) (defBody s_l_corners_5cb1) (defScope s_l_corners_5cb1) .none kV_l_corners_5cb1 dc_l_corners_5cb1 pm_l_corners_5cb1 an_l_corners_5cb1 cd_l_corners_5cb1 ct_l_corners_5cb1), sl_l_corners_5cb1⟩) (e_l_corners_5cb1 : PySem.W.codeIn K cd_l_corners_5cb1 "_law_corners" = true) (k_l_corners_5cb1 : PySem.W.keepIn K (.ref f_l_corners_5cb1) = true)
    {f_l_share_4ae7 : Addr} {oc_l_share_4ae7 kV_l_share_4ae7 dc_l_share_4ae7 pm_l_share_4ae7 cd_l_share_4ae7 ct_l_share_4ae7 : Value} {od_l_share_4ae7 an_l_share_4ae7 : Option Addr} {sl_l_share_4ae7 : Array (Option Value)}
    (a_l_share_4ae7 : PySem.W.nsIn K mainGlobals "_law_share" = some (some (.ref f_l_share_4ae7))) (l_l_share_4ae7 : K.lookup f_l_share_4ae7 = some ⟨oc_l_share_4ae7, od_l_share_4ae7, .func (PySem.W.fnOf "_law_share" "_law_share" (defArgs s_l_share_4ae7) (defBody s_l_share_4ae7) (defScope s_l_share_4ae7) .none kV_l_share_4ae7 dc_l_share_4ae7 pm_l_share_4ae7 an_l_share_4ae7 cd_l_share_4ae7 ct_l_share_4ae7), sl_l_share_4ae7⟩) (e_l_share_4ae7 : PySem.W.codeIn K cd_l_share_4ae7 "_law_share" = true) (k_l_share_4ae7 : PySem.W.keepIn K (.ref f_l_share_4ae7) = true)
    {f_l_added_a47b : Addr} {oc_l_added_a47b kV_l_added_a47b dc_l_added_a47b pm_l_added_a47b cd_l_added_a47b ct_l_added_a47b : Value} {od_l_added_a47b an_l_added_a47b : Option Addr} {sl_l_added_a47b : Array (Option Value)}
    (a_l_added_a47b : PySem.W.nsIn K mainGlobals "_law_added" = some (some (.ref f_l_added_a47b))) (l_l_added_a47b : K.lookup f_l_added_a47b = some ⟨oc_l_added_a47b, od_l_added_a47b, .func (PySem.W.fnOf "_law_added" "_law_added" (defArgs s_l_added_a47b) (defBody s_l_added_a47b) (defScope s_l_added_a47b) .none kV_l_added_a47b dc_l_added_a47b pm_l_added_a47b an_l_added_a47b cd_l_added_a47b ct_l_added_a47b), sl_l_added_a47b⟩) (e_l_added_a47b : PySem.W.codeIn K cd_l_added_a47b "_law_added" = true) (k_l_added_a47b : PySem.W.keepIn K (.ref f_l_added_a47b) = true)
    {f_l_times_3146 : Addr} {oc_l_times_3146 kV_l_times_3146 dc_l_times_3146 pm_l_times_3146 cd_l_times_3146 ct_l_times_3146 : Value} {od_l_times_3146 an_l_times_3146 : Option Addr} {sl_l_times_3146 : Array (Option Value)}
    (a_l_times_3146 : PySem.W.nsIn K mainGlobals "_law_times" = some (some (.ref f_l_times_3146))) (l_l_times_3146 : K.lookup f_l_times_3146 = some ⟨oc_l_times_3146, od_l_times_3146, .func (PySem.W.fnOf "_law_times" "_law_times" (defArgs s_l_times_3146) (defBody s_l_times_3146) (defScope s_l_times_3146) .none kV_l_times_3146 dc_l_times_3146 pm_l_times_3146 an_l_times_3146 cd_l_times_3146 ct_l_times_3146), sl_l_times_3146⟩) (e_l_times_3146 : PySem.W.codeIn K cd_l_times_3146 "_law_times" = true) (k_l_times_3146 : PySem.W.keepIn K (.ref f_l_times_3146) = true)
    {f_l_scaled_08a4 : Addr} {oc_l_scaled_08a4 kV_l_scaled_08a4 dc_l_scaled_08a4 pm_l_scaled_08a4 cd_l_scaled_08a4 ct_l_scaled_08a4 : Value} {od_l_scaled_08a4 an_l_scaled_08a4 : Option Addr} {sl_l_scaled_08a4 : Array (Option Value)}
    (a_l_scaled_08a4 : PySem.W.nsIn K mainGlobals "_law_scaled" = some (some (.ref f_l_scaled_08a4))) (l_l_scaled_08a4 : K.lookup f_l_scaled_08a4 = some ⟨oc_l_scaled_08a4, od_l_scaled_08a4, .func (PySem.W.fnOf "_law_scaled" "_law_scaled" (defArgs s_l_scaled_08a4) (defBody s_l_scaled_08a4) (defScope s_l_scaled_08a4) .none kV_l_scaled_08a4 dc_l_scaled_08a4 pm_l_scaled_08a4 an_l_scaled_08a4 cd_l_scaled_08a4 ct_l_scaled_08a4), sl_l_scaled_08a4⟩) (e_l_scaled_08a4 : PySem.W.codeIn K cd_l_scaled_08a4 "_law_scaled" = true) (k_l_scaled_08a4 : PySem.W.keepIn K (.ref f_l_scaled_08a4) = true)
    {f_l_glued_bd92 : Addr} {oc_l_glued_bd92 kV_l_glued_bd92 dc_l_glued_bd92 pm_l_glued_bd92 cd_l_glued_bd92 ct_l_glued_bd92 : Value} {od_l_glued_bd92 an_l_glued_bd92 : Option Addr} {sl_l_glued_bd92 : Array (Option Value)}
    (a_l_glued_bd92 : PySem.W.nsIn K mainGlobals "_law_glued" = some (some (.ref f_l_glued_bd92))) (l_l_glued_bd92 : K.lookup f_l_glued_bd92 = some ⟨oc_l_glued_bd92, od_l_glued_bd92, .func (PySem.W.fnOf "_law_glued" "_law_glued" (defArgs s_l_glued_bd92) (defBody s_l_glued_bd92) (defScope s_l_glued_bd92) .none kV_l_glued_bd92 dc_l_glued_bd92 pm_l_glued_bd92 an_l_glued_bd92 cd_l_glued_bd92 ct_l_glued_bd92), sl_l_glued_bd92⟩) (e_l_glued_bd92 : PySem.W.codeIn K cd_l_glued_bd92 "_law_glued" = true) (k_l_glued_bd92 : PySem.W.keepIn K (.ref f_l_glued_bd92) = true)
    {f_is_whole : Addr} {oc_is_whole kV_is_whole dc_is_whole pm_is_whole cd_is_whole ct_is_whole : Value} {od_is_whole an_is_whole : Option Addr} {sl_is_whole : Array (Option Value)}
    (a_is_whole : PySem.W.nsIn K mainGlobals "is_whole" = some (some (.ref f_is_whole))) (l_is_whole : K.lookup f_is_whole = some ⟨oc_is_whole, od_is_whole, .func (PySem.W.fnOf "is_whole" "is_whole" (defArgs s_is_whole) (defBody s_is_whole) (defScope s_is_whole) .none kV_is_whole dc_is_whole pm_is_whole an_is_whole cd_is_whole ct_is_whole), sl_is_whole⟩) (e_is_whole : PySem.W.codeIn K cd_is_whole "is_whole" = true) (k_is_whole : PySem.W.keepIn K (.ref f_is_whole) = true)
    {f_common_by : Addr} {oc_common_by kV_common_by dc_common_by pm_common_by cd_common_by ct_common_by : Value} {od_common_by an_common_by : Option Addr} {sl_common_by : Array (Option Value)}
    (a_common_by : PySem.W.nsIn K mainGlobals "common_by" = some (some (.ref f_common_by))) (l_common_by : K.lookup f_common_by = some ⟨oc_common_by, od_common_by, .func (PySem.W.fnOf "common_by" "common_by" (defArgs s_common_by) (defBody s_common_by) (defScope s_common_by) .none kV_common_by dc_common_by pm_common_by an_common_by cd_common_by ct_common_by), sl_common_by⟩) (e_common_by : PySem.W.codeIn K cd_common_by "common_by" = true) (k_common_by : PySem.W.keepIn K (.ref f_common_by) = true)
    {f_is_cutting_by : Addr} {oc_is_cutting_by kV_is_cutting_by dc_is_cutting_by pm_is_cutting_by cd_is_cutting_by ct_is_cutting_by : Value} {od_is_cutting_by an_is_cutting_by : Option Addr} {sl_is_cutting_by : Array (Option Value)}
    (a_is_cutting_by : PySem.W.nsIn K mainGlobals "is_cutting_by" = some (some (.ref f_is_cutting_by))) (l_is_cutting_by : K.lookup f_is_cutting_by = some ⟨oc_is_cutting_by, od_is_cutting_by, .func (PySem.W.fnOf "is_cutting_by" "is_cutting_by" (defArgs s_is_cutting_by) (defBody s_is_cutting_by) (defScope s_is_cutting_by) .none kV_is_cutting_by dc_is_cutting_by pm_is_cutting_by an_is_cutting_by cd_is_cutting_by ct_is_cutting_by), sl_is_cutting_by⟩) (e_is_cutting_by : PySem.W.codeIn K cd_is_cutting_by "is_cutting_by" = true) (k_is_cutting_by : PySem.W.keepIn K (.ref f_is_cutting_by) = true)
    {f_check_cutting : Addr} {oc_check_cutting kV_check_cutting dc_check_cutting pm_check_cutting cd_check_cutting ct_check_cutting : Value} {od_check_cutting an_check_cutting : Option Addr} {sl_check_cutting : Array (Option Value)}
    (a_check_cutting : PySem.W.nsIn K mainGlobals "check_cutting" = some (some (.ref f_check_cutting))) (l_check_cutting : K.lookup f_check_cutting = some ⟨oc_check_cutting, od_check_cutting, .func (PySem.W.fnOf "check_cutting" "check_cutting" (defArgs s_check_cutting) (defBody s_check_cutting) (defScope s_check_cutting) .none kV_check_cutting dc_check_cutting pm_check_cutting an_check_cutting cd_check_cutting ct_check_cutting), sl_check_cutting⟩) (e_check_cutting : PySem.W.codeIn K cd_check_cutting "check_cutting" = true) (k_check_cutting : PySem.W.keepIn K (.ref f_check_cutting) = true)
    {f_measure_by : Addr} {oc_measure_by kV_measure_by dc_measure_by pm_measure_by cd_measure_by ct_measure_by : Value} {od_measure_by an_measure_by : Option Addr} {sl_measure_by : Array (Option Value)}
    (a_measure_by : PySem.W.nsIn K mainGlobals "measure_by" = some (some (.ref f_measure_by))) (l_measure_by : K.lookup f_measure_by = some ⟨oc_measure_by, od_measure_by, .func (PySem.W.fnOf "measure_by" "measure_by" (defArgs s_measure_by) (defBody s_measure_by) (defScope s_measure_by) .none kV_measure_by dc_measure_by pm_measure_by an_measure_by cd_measure_by ct_measure_by), sl_measure_by⟩) (e_measure_by : PySem.W.codeIn K cd_measure_by "measure_by" = true) (k_measure_by : PySem.W.keepIn K (.ref f_measure_by) = true)
    {f_root_floor_by : Addr} {oc_root_floor_by kV_root_floor_by dc_root_floor_by pm_root_floor_by cd_root_floor_by ct_root_floor_by : Value} {od_root_floor_by an_root_floor_by : Option Addr} {sl_root_floor_by : Array (Option Value)}
    (a_root_floor_by : PySem.W.nsIn K mainGlobals "root_floor_by" = some (some (.ref f_root_floor_by))) (l_root_floor_by : K.lookup f_root_floor_by = some ⟨oc_root_floor_by, od_root_floor_by, .func (PySem.W.fnOf "root_floor_by" "root_floor_by" (defArgs s_root_floor_by) (defBody s_root_floor_by) (defScope s_root_floor_by) .none kV_root_floor_by dc_root_floor_by pm_root_floor_by an_root_floor_by cd_root_floor_by ct_root_floor_by), sl_root_floor_by⟩) (e_root_floor_by : PySem.W.codeIn K cd_root_floor_by "root_floor_by" = true) (k_root_floor_by : PySem.W.keepIn K (.ref f_root_floor_by) = true)
    {f_is_root_by : Addr} {oc_is_root_by kV_is_root_by dc_is_root_by pm_is_root_by cd_is_root_by ct_is_root_by : Value} {od_is_root_by an_is_root_by : Option Addr} {sl_is_root_by : Array (Option Value)}
    (a_is_root_by : PySem.W.nsIn K mainGlobals "is_root_by" = some (some (.ref f_is_root_by))) (l_is_root_by : K.lookup f_is_root_by = some ⟨oc_is_root_by, od_is_root_by, .func (PySem.W.fnOf "is_root_by" "is_root_by" (defArgs s_is_root_by) (defBody s_is_root_by) (defScope s_is_root_by) .none kV_is_root_by dc_is_root_by pm_is_root_by an_is_root_by cd_is_root_by ct_is_root_by), sl_is_root_by⟩) (e_is_root_by : PySem.W.codeIn K cd_is_root_by "is_root_by" = true) (k_is_root_by : PySem.W.keepIn K (.ref f_is_root_by) = true)
    {f_is_pair : Addr} {oc_is_pair kV_is_pair dc_is_pair pm_is_pair cd_is_pair ct_is_pair : Value} {od_is_pair an_is_pair : Option Addr} {sl_is_pair : Array (Option Value)}
    (a_is_pair : PySem.W.nsIn K mainGlobals "is_pair" = some (some (.ref f_is_pair))) (l_is_pair : K.lookup f_is_pair = some ⟨oc_is_pair, od_is_pair, .func (PySem.W.fnOf "is_pair" "is_pair" (defArgs s_is_pair) (defBody s_is_pair) (defScope s_is_pair) .none kV_is_pair dc_is_pair pm_is_pair an_is_pair cd_is_pair ct_is_pair), sl_is_pair⟩) (e_is_pair : PySem.W.codeIn K cd_is_pair "is_pair" = true) (k_is_pair : PySem.W.keepIn K (.ref f_is_pair) = true)
    {f_root_by : Addr} {oc_root_by kV_root_by dc_root_by pm_root_by cd_root_by ct_root_by : Value} {od_root_by an_root_by : Option Addr} {sl_root_by : Array (Option Value)}
    (a_root_by : PySem.W.nsIn K mainGlobals "root_by" = some (some (.ref f_root_by))) (l_root_by : K.lookup f_root_by = some ⟨oc_root_by, od_root_by, .func (PySem.W.fnOf "root_by" "root_by" (defArgs s_root_by) (defBody s_root_by) (defScope s_root_by) .none kV_root_by dc_root_by pm_root_by an_root_by cd_root_by ct_root_by), sl_root_by⟩) (e_root_by : PySem.W.codeIn K cd_root_by "root_by" = true) (k_root_by : PySem.W.keepIn K (.ref f_root_by) = true)
    {f_slit_by : Addr} {oc_slit_by kV_slit_by dc_slit_by pm_slit_by cd_slit_by ct_slit_by : Value} {od_slit_by an_slit_by : Option Addr} {sl_slit_by : Array (Option Value)}
    (a_slit_by : PySem.W.nsIn K mainGlobals "slit_by" = some (some (.ref f_slit_by))) (l_slit_by : K.lookup f_slit_by = some ⟨oc_slit_by, od_slit_by, .func (PySem.W.fnOf "slit_by" "slit_by" (defArgs s_slit_by) (defBody s_slit_by) (defScope s_slit_by) .none kV_slit_by dc_slit_by pm_slit_by an_slit_by cd_slit_by ct_slit_by), sl_slit_by⟩) (e_slit_by : PySem.W.codeIn K cd_slit_by "slit_by" = true) (k_slit_by : PySem.W.keepIn K (.ref f_slit_by) = true)
    {f_plus_by : Addr} {oc_plus_by kV_plus_by dc_plus_by pm_plus_by cd_plus_by ct_plus_by : Value} {od_plus_by an_plus_by : Option Addr} {sl_plus_by : Array (Option Value)}
    (a_plus_by : PySem.W.nsIn K mainGlobals "plus_by" = some (some (.ref f_plus_by))) (l_plus_by : K.lookup f_plus_by = some ⟨oc_plus_by, od_plus_by, .func (PySem.W.fnOf "plus_by" "plus_by" (defArgs s_plus_by) (defBody s_plus_by) (defScope s_plus_by) .none kV_plus_by dc_plus_by pm_plus_by an_plus_by cd_plus_by ct_plus_by), sl_plus_by⟩) (e_plus_by : PySem.W.codeIn K cd_plus_by "plus_by" = true) (k_plus_by : PySem.W.keepIn K (.ref f_plus_by) = true)
    {f_minus_by : Addr} {oc_minus_by kV_minus_by dc_minus_by pm_minus_by cd_minus_by ct_minus_by : Value} {od_minus_by an_minus_by : Option Addr} {sl_minus_by : Array (Option Value)}
    (a_minus_by : PySem.W.nsIn K mainGlobals "minus_by" = some (some (.ref f_minus_by))) (l_minus_by : K.lookup f_minus_by = some ⟨oc_minus_by, od_minus_by, .func (PySem.W.fnOf "minus_by" "minus_by" (defArgs s_minus_by) (defBody s_minus_by) (defScope s_minus_by) .none kV_minus_by dc_minus_by pm_minus_by an_minus_by cd_minus_by ct_minus_by), sl_minus_by⟩) (e_minus_by : PySem.W.codeIn K cd_minus_by "minus_by" = true) (k_minus_by : PySem.W.keepIn K (.ref f_minus_by) = true)
    {f_side_by : Addr} {oc_side_by kV_side_by dc_side_by pm_side_by cd_side_by ct_side_by : Value} {od_side_by an_side_by : Option Addr} {sl_side_by : Array (Option Value)}
    (a_side_by : PySem.W.nsIn K mainGlobals "side_by" = some (some (.ref f_side_by))) (l_side_by : K.lookup f_side_by = some ⟨oc_side_by, od_side_by, .func (PySem.W.fnOf "side_by" "side_by" (defArgs s_side_by) (defBody s_side_by) (defScope s_side_by) .none kV_side_by dc_side_by pm_side_by an_side_by cd_side_by ct_side_by), sl_side_by⟩) (e_side_by : PySem.W.codeIn K cd_side_by "side_by" = true) (k_side_by : PySem.W.keepIn K (.ref f_side_by) = true)
    {f_times_by : Addr} {oc_times_by kV_times_by dc_times_by pm_times_by cd_times_by ct_times_by : Value} {od_times_by an_times_by : Option Addr} {sl_times_by : Array (Option Value)}
    (a_times_by : PySem.W.nsIn K mainGlobals "times_by" = some (some (.ref f_times_by))) (l_times_by : K.lookup f_times_by = some ⟨oc_times_by, od_times_by, .func (PySem.W.fnOf "times_by" "times_by" (defArgs s_times_by) (defBody s_times_by) (defScope s_times_by) .none kV_times_by dc_times_by pm_times_by an_times_by cd_times_by ct_times_by), sl_times_by⟩) (e_times_by : PySem.W.codeIn K cd_times_by "times_by" = true) (k_times_by : PySem.W.keepIn K (.ref f_times_by) = true)
    {f_spot_by : Addr} {oc_spot_by kV_spot_by dc_spot_by pm_spot_by cd_spot_by ct_spot_by : Value} {od_spot_by an_spot_by : Option Addr} {sl_spot_by : Array (Option Value)}
    (a_spot_by : PySem.W.nsIn K mainGlobals "spot_by" = some (some (.ref f_spot_by))) (l_spot_by : K.lookup f_spot_by = some ⟨oc_spot_by, od_spot_by, .func (PySem.W.fnOf "spot_by" "spot_by" (defArgs s_spot_by) (defBody s_spot_by) (defScope s_spot_by) .none kV_spot_by dc_spot_by pm_spot_by an_spot_by cd_spot_by ct_spot_by), sl_spot_by⟩) (e_spot_by : PySem.W.codeIn K cd_spot_by "spot_by" = true) (k_spot_by : PySem.W.keepIn K (.ref f_spot_by) = true)
    {f_laid : Addr} {oc_laid kV_laid dc_laid pm_laid cd_laid ct_laid : Value} {od_laid an_laid : Option Addr} {sl_laid : Array (Option Value)}
    (a_laid : PySem.W.nsIn K mainGlobals "laid" = some (some (.ref f_laid))) (l_laid : K.lookup f_laid = some ⟨oc_laid, od_laid, .func (PySem.W.fnOf "laid" "laid" (defArgs s_laid) (defBody s_laid) (defScope s_laid) .none kV_laid dc_laid pm_laid an_laid cd_laid ct_laid), sl_laid⟩) (e_laid : PySem.W.codeIn K cd_laid "laid" = true) (k_laid : PySem.W.keepIn K (.ref f_laid) = true)
    {f_is_end : Addr} {oc_is_end kV_is_end dc_is_end pm_is_end cd_is_end ct_is_end : Value} {od_is_end an_is_end : Option Addr} {sl_is_end : Array (Option Value)}
    (a_is_end : PySem.W.nsIn K mainGlobals "is_end" = some (some (.ref f_is_end))) (l_is_end : K.lookup f_is_end = some ⟨oc_is_end, od_is_end, .func (PySem.W.fnOf "is_end" "is_end" (defArgs s_is_end) (defBody s_is_end) (defScope s_is_end) .none kV_is_end dc_is_end pm_is_end an_is_end cd_is_end ct_is_end), sl_is_end⟩) (e_is_end : PySem.W.codeIn K cd_is_end "is_end" = true) (k_is_end : PySem.W.keepIn K (.ref f_is_end) = true)
    {f_normal_spot : Addr} {oc_normal_spot kV_normal_spot dc_normal_spot pm_normal_spot cd_normal_spot ct_normal_spot : Value} {od_normal_spot an_normal_spot : Option Addr} {sl_normal_spot : Array (Option Value)}
    (a_normal_spot : PySem.W.nsIn K mainGlobals "normal_spot" = some (some (.ref f_normal_spot))) (l_normal_spot : K.lookup f_normal_spot = some ⟨oc_normal_spot, od_normal_spot, .func (PySem.W.fnOf "normal_spot" "normal_spot" (defArgs s_normal_spot) (defBody s_normal_spot) (defScope s_normal_spot) .none kV_normal_spot dc_normal_spot pm_normal_spot an_normal_spot cd_normal_spot ct_normal_spot), sl_normal_spot⟩) (e_normal_spot : PySem.W.codeIn K cd_normal_spot "normal_spot" = true) (k_normal_spot : PySem.W.keepIn K (.ref f_normal_spot) = true)
    {f_point_of : Addr} {oc_point_of kV_point_of dc_point_of pm_point_of cd_point_of ct_point_of : Value} {od_point_of an_point_of : Option Addr} {sl_point_of : Array (Option Value)}
    (a_point_of : PySem.W.nsIn K mainGlobals "point_of" = some (some (.ref f_point_of))) (l_point_of : K.lookup f_point_of = some ⟨oc_point_of, od_point_of, .func (PySem.W.fnOf "point_of" "point_of" (defArgs s_point_of) (defBody s_point_of) (defScope s_point_of) .none kV_point_of dc_point_of pm_point_of an_point_of cd_point_of ct_point_of), sl_point_of⟩) (e_point_of : PySem.W.codeIn K cd_point_of "point_of" = true) (k_point_of : PySem.W.keepIn K (.ref f_point_of) = true)
    {f_is_point_by : Addr} {oc_is_point_by kV_is_point_by dc_is_point_by pm_is_point_by cd_is_point_by ct_is_point_by : Value} {od_is_point_by an_is_point_by : Option Addr} {sl_is_point_by : Array (Option Value)}
    (a_is_point_by : PySem.W.nsIn K mainGlobals "is_point_by" = some (some (.ref f_is_point_by))) (l_is_point_by : K.lookup f_is_point_by = some ⟨oc_is_point_by, od_is_point_by, .func (PySem.W.fnOf "is_point_by" "is_point_by" (defArgs s_is_point_by) (defBody s_is_point_by) (defScope s_is_point_by) .none kV_is_point_by dc_is_point_by pm_is_point_by an_is_point_by cd_is_point_by ct_is_point_by), sl_is_point_by⟩) (e_is_point_by : PySem.W.codeIn K cd_is_point_by "is_point_by" = true) (k_is_point_by : PySem.W.keepIn K (.ref f_is_point_by) = true)
    {f_is_point : Addr} {oc_is_point kV_is_point dc_is_point pm_is_point cd_is_point ct_is_point : Value} {od_is_point an_is_point : Option Addr} {sl_is_point : Array (Option Value)}
    (a_is_point : PySem.W.nsIn K mainGlobals "is_point" = some (some (.ref f_is_point))) (l_is_point : K.lookup f_is_point = some ⟨oc_is_point, od_is_point, .func (PySem.W.fnOf "is_point" "is_point" (defArgs s_is_point) (defBody s_is_point) (defScope s_is_point) .none kV_is_point dc_is_point pm_is_point an_is_point cd_is_point ct_is_point), sl_is_point⟩) (e_is_point : PySem.W.codeIn K cd_is_point "is_point" = true) (k_is_point : PySem.W.keepIn K (.ref f_is_point) = true)
    {f_check_point : Addr} {oc_check_point kV_check_point dc_check_point pm_check_point cd_check_point ct_check_point : Value} {od_check_point an_check_point : Option Addr} {sl_check_point : Array (Option Value)}
    (a_check_point : PySem.W.nsIn K mainGlobals "check_point" = some (some (.ref f_check_point))) (l_check_point : K.lookup f_check_point = some ⟨oc_check_point, od_check_point, .func (PySem.W.fnOf "check_point" "check_point" (defArgs s_check_point) (defBody s_check_point) (defScope s_check_point) .none kV_check_point dc_check_point pm_check_point an_check_point cd_check_point ct_check_point), sl_check_point⟩) (e_check_point : PySem.W.codeIn K cd_check_point "check_point" = true) (k_check_point : PySem.W.keepIn K (.ref f_check_point) = true)
    {f_piece_of : Addr} {oc_piece_of kV_piece_of dc_piece_of pm_piece_of cd_piece_of ct_piece_of : Value} {od_piece_of an_piece_of : Option Addr} {sl_piece_of : Array (Option Value)}
    (a_piece_of : PySem.W.nsIn K mainGlobals "piece_of" = some (some (.ref f_piece_of))) (l_piece_of : K.lookup f_piece_of = some ⟨oc_piece_of, od_piece_of, .func (PySem.W.fnOf "piece_of" "piece_of" (defArgs s_piece_of) (defBody s_piece_of) (defScope s_piece_of) .none kV_piece_of dc_piece_of pm_piece_of an_piece_of cd_piece_of ct_piece_of), sl_piece_of⟩) (e_piece_of : PySem.W.codeIn K cd_piece_of "piece_of" = true) (k_piece_of : PySem.W.keepIn K (.ref f_piece_of) = true)
    {f_l_edge_right_b3b6 : Addr} {oc_l_edge_right_b3b6 kV_l_edge_right_b3b6 dc_l_edge_right_b3b6 pm_l_edge_right_b3b6 cd_l_edge_right_b3b6 ct_l_edge_right_b3b6 : Value} {od_l_edge_right_b3b6 an_l_edge_right_b3b6 : Option Addr} {sl_l_edge_right_b3b6 : Array (Option Value)}
    (a_l_edge_right_b3b6 : PySem.W.nsIn K mainGlobals "_law_edge_right" = some (some (.ref f_l_edge_right_b3b6))) (l_l_edge_right_b3b6 : K.lookup f_l_edge_right_b3b6 = some ⟨oc_l_edge_right_b3b6, od_l_edge_right_b3b6, .func (PySem.W.fnOf "_law_edge_right" "_law_edge_right" (defArgs s_l_edge_right_b3b6) (defBody s_l_edge_right_b3b6) (defScope s_l_edge_right_b3b6) .none kV_l_edge_right_b3b6 dc_l_edge_right_b3b6 pm_l_edge_right_b3b6 an_l_edge_right_b3b6 cd_l_edge_right_b3b6 ct_l_edge_right_b3b6), sl_l_edge_right_b3b6⟩) (e_l_edge_right_b3b6 : PySem.W.codeIn K cd_l_edge_right_b3b6 "_law_edge_right" = true) (k_l_edge_right_b3b6 : PySem.W.keepIn K (.ref f_l_edge_right_b3b6) = true)
    {f_l_shape_1896 : Addr} {oc_l_shape_1896 kV_l_shape_1896 dc_l_shape_1896 pm_l_shape_1896 cd_l_shape_1896 ct_l_shape_1896 : Value} {od_l_shape_1896 an_l_shape_1896 : Option Addr} {sl_l_shape_1896 : Array (Option Value)}
    (a_l_shape_1896 : PySem.W.nsIn K mainGlobals "_law_shape" = some (some (.ref f_l_shape_1896))) (l_l_shape_1896 : K.lookup f_l_shape_1896 = some ⟨oc_l_shape_1896, od_l_shape_1896, .func (PySem.W.fnOf "_law_shape" "_law_shape" (defArgs s_l_shape_1896) (defBody s_l_shape_1896) (defScope s_l_shape_1896) .none kV_l_shape_1896 dc_l_shape_1896 pm_l_shape_1896 an_l_shape_1896 cd_l_shape_1896 ct_l_shape_1896), sl_l_shape_1896⟩) (e_l_shape_1896 : PySem.W.codeIn K cd_l_shape_1896 "_law_shape" = true) (k_l_shape_1896 : PySem.W.keepIn K (.ref f_l_shape_1896) = true)
    {f_l_spot_7a5b : Addr} {oc_l_spot_7a5b kV_l_spot_7a5b dc_l_spot_7a5b pm_l_spot_7a5b cd_l_spot_7a5b ct_l_spot_7a5b : Value} {od_l_spot_7a5b an_l_spot_7a5b : Option Addr} {sl_l_spot_7a5b : Array (Option Value)}
    (a_l_spot_7a5b : PySem.W.nsIn K mainGlobals "_law_spot" = some (some (.ref f_l_spot_7a5b))) (l_l_spot_7a5b : K.lookup f_l_spot_7a5b = some ⟨oc_l_spot_7a5b, od_l_spot_7a5b, .func (PySem.W.fnOf "_law_spot" "_law_spot" (defArgs s_l_spot_7a5b) (defBody s_l_spot_7a5b) (defScope s_l_spot_7a5b) .none kV_l_spot_7a5b dc_l_spot_7a5b pm_l_spot_7a5b an_l_spot_7a5b cd_l_spot_7a5b ct_l_spot_7a5b), sl_l_spot_7a5b⟩) (e_l_spot_7a5b : PySem.W.codeIn K cd_l_spot_7a5b "_law_spot" = true) (k_l_spot_7a5b : PySem.W.keepIn K (.ref f_l_spot_7a5b) = true)
    {f_l_place_9cad : Addr} {oc_l_place_9cad kV_l_place_9cad dc_l_place_9cad pm_l_place_9cad cd_l_place_9cad ct_l_place_9cad : Value} {od_l_place_9cad an_l_place_9cad : Option Addr} {sl_l_place_9cad : Array (Option Value)}
    (a_l_place_9cad : PySem.W.nsIn K mainGlobals "_law_place" = some (some (.ref f_l_place_9cad))) (l_l_place_9cad : K.lookup f_l_place_9cad = some ⟨oc_l_place_9cad, od_l_place_9cad, .func (PySem.W.fnOf "_law_place" "_law_place" (defArgs s_l_place_9cad) (defBody s_l_place_9cad) (defScope s_l_place_9cad) .none kV_l_place_9cad dc_l_place_9cad pm_l_place_9cad an_l_place_9cad cd_l_place_9cad ct_l_place_9cad), sl_l_place_9cad⟩) (e_l_place_9cad : PySem.W.codeIn K cd_l_place_9cad "_law_place" = true) (k_l_place_9cad : PySem.W.keepIn K (.ref f_l_place_9cad) = true)
    {f_l_along_edge_cdad : Addr} {oc_l_along_edge_cdad kV_l_along_edge_cdad dc_l_along_edge_cdad pm_l_along_edge_cdad cd_l_along_edge_cdad ct_l_along_edge_cdad : Value} {od_l_along_edge_cdad an_l_along_edge_cdad : Option Addr} {sl_l_along_edge_cdad : Array (Option Value)}
    (a_l_along_edge_cdad : PySem.W.nsIn K mainGlobals "_law_along_edge" = some (some (.ref f_l_along_edge_cdad))) (l_l_along_edge_cdad : K.lookup f_l_along_edge_cdad = some ⟨oc_l_along_edge_cdad, od_l_along_edge_cdad, .func (PySem.W.fnOf "_law_along_edge" "_law_along_edge" (defArgs s_l_along_edge_cdad) (defBody s_l_along_edge_cdad) (defScope s_l_along_edge_cdad) .none kV_l_along_edge_cdad dc_l_along_edge_cdad pm_l_along_edge_cdad an_l_along_edge_cdad cd_l_along_edge_cdad ct_l_along_edge_cdad), sl_l_along_edge_cdad⟩) (e_l_along_edge_cdad : PySem.W.codeIn K cd_l_along_edge_cdad "_law_along_edge" = true) (k_l_along_edge_cdad : PySem.W.keepIn K (.ref f_l_along_edge_cdad) = true)
    {f_l_outside_bec0 : Addr} {oc_l_outside_bec0 kV_l_outside_bec0 dc_l_outside_bec0 pm_l_outside_bec0 cd_l_outside_bec0 ct_l_outside_bec0 : Value} {od_l_outside_bec0 an_l_outside_bec0 : Option Addr} {sl_l_outside_bec0 : Array (Option Value)}
    (a_l_outside_bec0 : PySem.W.nsIn K mainGlobals "_law_outside" = some (some (.ref f_l_outside_bec0))) (l_l_outside_bec0 : K.lookup f_l_outside_bec0 = some ⟨oc_l_outside_bec0, od_l_outside_bec0, .func (PySem.W.fnOf "_law_outside" "_law_outside" (defArgs s_l_outside_bec0) (defBody s_l_outside_bec0) (defScope s_l_outside_bec0) .none kV_l_outside_bec0 dc_l_outside_bec0 pm_l_outside_bec0 an_l_outside_bec0 cd_l_outside_bec0 ct_l_outside_bec0), sl_l_outside_bec0⟩) (e_l_outside_bec0 : PySem.W.codeIn K cd_l_outside_bec0 "_law_outside" = true) (k_l_outside_bec0 : PySem.W.keepIn K (.ref f_l_outside_bec0) = true)
    {f_l_inner_right_c58f : Addr} {oc_l_inner_right_c58f kV_l_inner_right_c58f dc_l_inner_right_c58f pm_l_inner_right_c58f cd_l_inner_right_c58f ct_l_inner_right_c58f : Value} {od_l_inner_right_c58f an_l_inner_right_c58f : Option Addr} {sl_l_inner_right_c58f : Array (Option Value)}
    (a_l_inner_right_c58f : PySem.W.nsIn K mainGlobals "_law_inner_right" = some (some (.ref f_l_inner_right_c58f))) (l_l_inner_right_c58f : K.lookup f_l_inner_right_c58f = some ⟨oc_l_inner_right_c58f, od_l_inner_right_c58f, .func (PySem.W.fnOf "_law_inner_right" "_law_inner_right" (defArgs s_l_inner_right_c58f) (defBody s_l_inner_right_c58f) (defScope s_l_inner_right_c58f) .none kV_l_inner_right_c58f dc_l_inner_right_c58f pm_l_inner_right_c58f an_l_inner_right_c58f cd_l_inner_right_c58f ct_l_inner_right_c58f), sl_l_inner_right_c58f⟩) (e_l_inner_right_c58f : PySem.W.codeIn K cd_l_inner_right_c58f "_law_inner_right" = true) (k_l_inner_right_c58f : PySem.W.keepIn K (.ref f_l_inner_right_c58f) = true)
    {f_l_law_53b8 : Addr} {oc_l_law_53b8 kV_l_law_53b8 dc_l_law_53b8 pm_l_law_53b8 cd_l_law_53b8 ct_l_law_53b8 : Value} {od_l_law_53b8 an_l_law_53b8 : Option Addr} {sl_l_law_53b8 : Array (Option Value)}
    (a_l_law_53b8 : PySem.W.nsIn K mainGlobals "law" = some (some (.ref f_l_law_53b8))) (l_l_law_53b8 : K.lookup f_l_law_53b8 = some ⟨oc_l_law_53b8, od_l_law_53b8, .func (PySem.W.fnOf "law" "law" (defArgs s_l_law_53b8) (defBody s_l_law_53b8) (defScope s_l_law_53b8) .none kV_l_law_53b8 dc_l_law_53b8 pm_l_law_53b8 an_l_law_53b8 cd_l_law_53b8 ct_l_law_53b8), sl_l_law_53b8⟩) (e_l_law_53b8 : PySem.W.codeIn K cd_l_law_53b8 "law" = true) (k_l_law_53b8 : PySem.W.keepIn K (.ref f_l_law_53b8) = true)
    (base : Heap) (Xb : K.In base) : Txt K mg base where
  n_abs := PySem.W.mg_none_of X G n_abs
  n_bool := PySem.W.mg_none_of X G n_bool
  n_int := PySem.W.mg_none_of X G n_int
  n_isinstance := PySem.W.mg_none_of X G n_isinstance
  n_len := PySem.W.mg_none_of X G n_len
  n_list := PySem.W.mg_none_of X G n_list
  n_max := PySem.W.mg_none_of X G n_max
  n_range := PySem.W.mg_none_of X G n_range
  n_repr := PySem.W.mg_none_of X G n_repr
  n_sum := PySem.W.mg_none_of X G n_sum
  n_tuple := PySem.W.mg_none_of X G n_tuple
  n_zip := PySem.W.mg_none_of X G n_zip
  c_NOUGHT := ⟨_, PySem.W.mg_of X G c_NOUGHT, .tup cl_NOUGHT (.cons .int (.cons .int (.cons .int (.nil)))) (Nat.le_of_ble_eq_true rfl) rfl⟩
  h_l_cell_cf3b := here_of (st := s_l_cell_cf3b) X G a_l_cell_cf3b l_l_cell_cf3b e_l_cell_cf3b k_l_cell_cf3b fun _ _ _ _ _ _ us hl => match us, hl with | [_, _], _ => rfl
  h_l_generator_b324 := here_of (st := s_l_generator_b324) X G a_l_generator_b324 l_l_generator_b324 e_l_generator_b324 k_l_generator_b324 fun _ _ _ _ _ _ us hl => match us, hl with | [_, _], _ => rfl
  h_l_hash_d8d1 := here_of (st := s_l_hash_d8d1) X G a_l_hash_d8d1 l_l_hash_d8d1 e_l_hash_d8d1 k_l_hash_d8d1 fun _ _ _ _ _ _ us hl => match us, hl with | [_, _], _ => rfl
  h_l_random_7821 := here_of (st := s_l_random_7821) X G a_l_random_7821 l_l_random_7821 e_l_random_7821 k_l_random_7821 fun _ _ _ _ _ _ us hl => match us, hl with | [_, _], _ => rfl
  h_l_common_ec6e := here_of (st := s_l_common_ec6e) X G a_l_common_ec6e l_l_common_ec6e e_l_common_ec6e k_l_common_ec6e fun _ _ _ _ _ _ us hl => match us, hl with | [_, _], _ => rfl
  h_l_cutting_bb00 := here_of (st := s_l_cutting_bb00) X G a_l_cutting_bb00 l_l_cutting_bb00 e_l_cutting_bb00 k_l_cutting_bb00 fun _ _ _ _ _ _ us hl => match us, hl with | [_, _, _], _ => rfl
  h_l_whole_43a8 := here_of (st := s_l_whole_43a8) X G a_l_whole_43a8 l_l_whole_43a8 e_l_whole_43a8 k_l_whole_43a8 fun _ _ _ _ _ _ us hl => match us, hl with | [_], _ => rfl
  h_l_measure_d993 := here_of (st := s_l_measure_d993) X G a_l_measure_d993 l_l_measure_d993 e_l_measure_d993 k_l_measure_d993 fun _ _ _ _ _ _ us hl => match us, hl with | [_], _ => rfl
  h_l_root_of_fba3 := here_of (st := s_l_root_of_fba3) X G a_l_root_of_fba3 l_l_root_of_fba3 e_l_root_of_fba3 k_l_root_of_fba3 fun _ _ _ _ _ _ us hl => match us, hl with | [_], _ => rfl
  h_l_made_ecf7 := here_of (st := s_l_made_ecf7) X G a_l_made_ecf7 l_l_made_ecf7 e_l_made_ecf7 k_l_made_ecf7 fun _ _ _ _ _ _ us hl => match us, hl with | [_, _, _, _], _ => rfl
  h_l_side_of_cf54 := here_of (st := s_l_side_of_cf54) X G a_l_side_of_cf54 l_l_side_of_cf54 e_l_side_of_cf54 k_l_side_of_cf54 fun _ _ _ _ _ _ us hl => match us, hl with | [_], _ => rfl
  h_l_plus_46d9 := here_of (st := s_l_plus_46d9) X G a_l_plus_46d9 l_l_plus_46d9 e_l_plus_46d9 k_l_plus_46d9 fun _ _ _ _ _ _ us hl => match us, hl with | [_, _, _, _], _ => rfl
  h_l_corners_5cb1 := here_of (st := s_l_corners_5cb1) X G a_l_corners_5cb1 l_l_corners_5cb1 e_l_corners_5cb1 k_l_corners_5cb1 fun _ _ _ _ _ _ us hl => match us, hl with | [_], _ => rfl
  h_l_share_4ae7 := here_of (st := s_l_share_4ae7) X G a_l_share_4ae7 l_l_share_4ae7 e_l_share_4ae7 k_l_share_4ae7 fun _ _ _ _ _ _ us hl => match us, hl with | [_, _], _ => rfl
  h_l_added_a47b := here_of (st := s_l_added_a47b) X G a_l_added_a47b l_l_added_a47b e_l_added_a47b k_l_added_a47b fun _ _ _ _ _ _ us hl => match us, hl with | [_, _, _, _], _ => rfl
  h_l_times_3146 := here_of (st := s_l_times_3146) X G a_l_times_3146 l_l_times_3146 e_l_times_3146 k_l_times_3146 fun _ _ _ _ _ _ us hl => match us, hl with | [_, _, _], _ => rfl
  h_l_scaled_08a4 := here_of (st := s_l_scaled_08a4) X G a_l_scaled_08a4 l_l_scaled_08a4 e_l_scaled_08a4 k_l_scaled_08a4 fun _ _ _ _ _ _ us hl => match us, hl with | [_, _, _], _ => rfl
  h_l_glued_bd92 := here_of (st := s_l_glued_bd92) X G a_l_glued_bd92 l_l_glued_bd92 e_l_glued_bd92 k_l_glued_bd92 fun _ _ _ _ _ _ us hl => match us, hl with | [_], _ => rfl
  h_is_whole := here_of (st := s_is_whole) X G a_is_whole l_is_whole e_is_whole k_is_whole fun _ _ _ _ _ _ us hl => match us, hl with | [_], _ => rfl
  h_common_by := here_of (st := s_common_by) X G a_common_by l_common_by e_common_by k_common_by fun _ _ _ _ _ _ us hl => match us, hl with | [_, _], _ => rfl
  h_is_cutting_by := here_of (st := s_is_cutting_by) X G a_is_cutting_by l_is_cutting_by e_is_cutting_by k_is_cutting_by fun _ _ _ _ _ _ us hl => match us, hl with | [_], _ => rfl
  h_check_cutting := here_of (st := s_check_cutting) X G a_check_cutting l_check_cutting e_check_cutting k_check_cutting fun _ _ _ _ _ _ us hl => match us, hl with | [_], _ => rfl
  h_measure_by := here_of (st := s_measure_by) X G a_measure_by l_measure_by e_measure_by k_measure_by fun _ _ _ _ _ _ us hl => match us, hl with | [_], _ => rfl
  h_root_floor_by := here_of (st := s_root_floor_by) X G a_root_floor_by l_root_floor_by e_root_floor_by k_root_floor_by fun _ _ _ _ _ _ us hl => match us, hl with | [_], _ => rfl
  h_is_root_by := here_of (st := s_is_root_by) X G a_is_root_by l_is_root_by e_is_root_by k_is_root_by fun _ _ _ _ _ _ us hl => match us, hl with | [_, _], _ => rfl
  h_is_pair := here_of (st := s_is_pair) X G a_is_pair l_is_pair e_is_pair k_is_pair fun _ _ _ _ _ _ us hl => match us, hl with | [_, _], _ => rfl
  h_root_by := here_of (st := s_root_by) X G a_root_by l_root_by e_root_by k_root_by fun _ _ _ _ _ _ us hl => match us, hl with | [_, _, _, _], _ => rfl
  h_slit_by := here_of (st := s_slit_by) X G a_slit_by l_slit_by e_slit_by k_slit_by fun _ _ _ _ _ _ us hl => match us, hl with | [_], _ => rfl
  h_plus_by := here_of (st := s_plus_by) X G a_plus_by l_plus_by e_plus_by k_plus_by fun _ _ _ _ _ _ us hl => match us, hl with | [_, _, _], _ => rfl
  h_minus_by := here_of (st := s_minus_by) X G a_minus_by l_minus_by e_minus_by k_minus_by fun _ _ _ _ _ _ us hl => match us, hl with | [_, _, _], _ => rfl
  h_side_by := here_of (st := s_side_by) X G a_side_by l_side_by e_side_by k_side_by fun _ _ _ _ _ _ us hl => match us, hl with | [_, _], _ => rfl
  h_times_by := here_of (st := s_times_by) X G a_times_by l_times_by e_times_by k_times_by fun _ _ _ _ _ _ us hl => match us, hl with | [_, _, _], _ => rfl
  h_spot_by := here_of (st := s_spot_by) X G a_spot_by l_spot_by e_spot_by k_spot_by fun _ _ _ _ _ _ us hl => match us, hl with | [_, _], _ => rfl
  h_laid := here_of (st := s_laid) X G a_laid l_laid e_laid k_laid fun _ _ _ _ _ _ us hl => match us, hl with | [_, _], _ => rfl
  h_is_end := here_of (st := s_is_end) X G a_is_end l_is_end e_is_end k_is_end fun _ _ _ _ _ _ us hl => match us, hl with | [_, _, _], _ => rfl
  h_normal_spot := here_of (st := s_normal_spot) X G a_normal_spot l_normal_spot e_normal_spot k_normal_spot fun _ _ _ _ _ _ us hl => match us, hl with | [_, _], _ => rfl
  h_point_of := here_of (st := s_point_of) X G a_point_of l_point_of e_point_of k_point_of fun _ _ _ _ _ _ us hl => match us, hl with | [_, _], _ => rfl
  h_is_point_by := here_of (st := s_is_point_by) X G a_is_point_by l_is_point_by e_is_point_by k_is_point_by fun _ _ _ _ _ _ us hl => match us, hl with | [_, _], _ => rfl
  h_is_point := here_of (st := s_is_point) X G a_is_point l_is_point e_is_point k_is_point fun _ _ _ _ _ _ us hl => match us, hl with | [_, _], _ => rfl
  h_check_point := here_of (st := s_check_point) X G a_check_point l_check_point e_check_point k_check_point fun _ _ _ _ _ _ us hl => match us, hl with | [_, _], _ => rfl
  h_piece_of := here_of (st := s_piece_of) X G a_piece_of l_piece_of e_piece_of k_piece_of fun _ _ _ _ _ _ us hl => match us, hl with | [_, _], _ => rfl
  h_l_edge_right_b3b6 := here_of (st := s_l_edge_right_b3b6) X G a_l_edge_right_b3b6 l_l_edge_right_b3b6 e_l_edge_right_b3b6 k_l_edge_right_b3b6 fun _ _ _ _ _ _ us hl => match us, hl with | [_, _, _], _ => rfl
  h_l_shape_1896 := here_of (st := s_l_shape_1896) X G a_l_shape_1896 l_l_shape_1896 e_l_shape_1896 k_l_shape_1896 fun _ _ _ _ _ _ us hl => match us, hl with | [_, _], _ => rfl
  h_l_spot_7a5b := here_of (st := s_l_spot_7a5b) X G a_l_spot_7a5b l_l_spot_7a5b e_l_spot_7a5b k_l_spot_7a5b fun _ _ _ _ _ _ us hl => match us, hl with | [_, _, _], _ => rfl
  h_l_place_9cad := here_of (st := s_l_place_9cad) X G a_l_place_9cad l_l_place_9cad e_l_place_9cad k_l_place_9cad fun _ _ _ _ _ _ us hl => match us, hl with | [_, _], _ => rfl
  h_l_along_edge_cdad := here_of (st := s_l_along_edge_cdad) X G a_l_along_edge_cdad l_l_along_edge_cdad e_l_along_edge_cdad k_l_along_edge_cdad fun _ _ _ _ _ _ us hl => match us, hl with | [_, _, _], _ => rfl
  h_l_outside_bec0 := here_of (st := s_l_outside_bec0) X G a_l_outside_bec0 l_l_outside_bec0 e_l_outside_bec0 k_l_outside_bec0 fun _ _ _ _ _ _ us hl => match us, hl with | [_, _], _ => rfl
  h_l_inner_right_c58f := here_of (st := s_l_inner_right_c58f) X G a_l_inner_right_c58f l_l_inner_right_c58f e_l_inner_right_c58f k_l_inner_right_c58f fun _ _ _ _ _ _ us hl => match us, hl with | [_, _], _ => rfl
  h_l_law_53b8 := here_of (st := s_l_law_53b8) X G a_l_law_53b8 l_l_law_53b8 e_l_law_53b8 k_l_law_53b8 fun _ _ _ _ _ _ us hl => match us, hl with | [_], _ => rfl
end C_k35
open PySem PySem.W PyProof.Rows
set_option maxHeartbeats 0 in
theorem PySem.Challenge.cw_slitsheets_k35_whole_points_holds : PySem.Challenge.rw_slitsheets_k35_whole_points.Holds := by
  w_on; o_law; k_head; (case hw => w_witness2)
  k_fill
  refine DL.walkD (l := PySem.Challenge.rw_slitsheets_k35_whole_points) (n := 63) (k := 10) (x := "_law_script") (st := C_k35.s_l_law_53b8) rfl (by decide) rfl ⟨rfl, by decide, by decide⟩ (fun w h Y => PySem.W.kIn_of Y) ?F (fun _ _ _ _ _ _ _ => rfl)
  case F =>
    intro w mg h KX G base Xb Gb
    refine' C_k35.law_ok (C_k35.all_mk KX G ?n_abs ?n_bool ?n_int ?n_isinstance ?n_len ?n_list ?n_max ?n_range ?n_repr ?n_sum ?n_tuple ?n_zip ?cl_NOUGHT ?c_NOUGHT ?a_l_cell_cf3b ?l_l_cell_cf3b ?e_l_cell_cf3b ?k_l_cell_cf3b ?a_l_generator_b324 ?l_l_generator_b324 ?e_l_generator_b324 ?k_l_generator_b324 ?a_l_hash_d8d1 ?l_l_hash_d8d1 ?e_l_hash_d8d1 ?k_l_hash_d8d1 ?a_l_random_7821 ?l_l_random_7821 ?e_l_random_7821 ?k_l_random_7821 ?a_l_common_ec6e ?l_l_common_ec6e ?e_l_common_ec6e ?k_l_common_ec6e ?a_l_cutting_bb00 ?l_l_cutting_bb00 ?e_l_cutting_bb00 ?k_l_cutting_bb00 ?a_l_whole_43a8 ?l_l_whole_43a8 ?e_l_whole_43a8 ?k_l_whole_43a8 ?a_l_measure_d993 ?l_l_measure_d993 ?e_l_measure_d993 ?k_l_measure_d993 ?a_l_root_of_fba3 ?l_l_root_of_fba3 ?e_l_root_of_fba3 ?k_l_root_of_fba3 ?a_l_made_ecf7 ?l_l_made_ecf7 ?e_l_made_ecf7 ?k_l_made_ecf7 ?a_l_side_of_cf54 ?l_l_side_of_cf54 ?e_l_side_of_cf54 ?k_l_side_of_cf54 ?a_l_plus_46d9 ?l_l_plus_46d9 ?e_l_plus_46d9 ?k_l_plus_46d9 ?a_l_corners_5cb1 ?l_l_corners_5cb1 ?e_l_corners_5cb1 ?k_l_corners_5cb1 ?a_l_share_4ae7 ?l_l_share_4ae7 ?e_l_share_4ae7 ?k_l_share_4ae7 ?a_l_added_a47b ?l_l_added_a47b ?e_l_added_a47b ?k_l_added_a47b ?a_l_times_3146 ?l_l_times_3146 ?e_l_times_3146 ?k_l_times_3146 ?a_l_scaled_08a4 ?l_l_scaled_08a4 ?e_l_scaled_08a4 ?k_l_scaled_08a4 ?a_l_glued_bd92 ?l_l_glued_bd92 ?e_l_glued_bd92 ?k_l_glued_bd92 ?a_is_whole ?l_is_whole ?e_is_whole ?k_is_whole ?a_common_by ?l_common_by ?e_common_by ?k_common_by ?a_is_cutting_by ?l_is_cutting_by ?e_is_cutting_by ?k_is_cutting_by ?a_check_cutting ?l_check_cutting ?e_check_cutting ?k_check_cutting ?a_measure_by ?l_measure_by ?e_measure_by ?k_measure_by ?a_root_floor_by ?l_root_floor_by ?e_root_floor_by ?k_root_floor_by ?a_is_root_by ?l_is_root_by ?e_is_root_by ?k_is_root_by ?a_is_pair ?l_is_pair ?e_is_pair ?k_is_pair ?a_root_by ?l_root_by ?e_root_by ?k_root_by ?a_slit_by ?l_slit_by ?e_slit_by ?k_slit_by ?a_plus_by ?l_plus_by ?e_plus_by ?k_plus_by ?a_minus_by ?l_minus_by ?e_minus_by ?k_minus_by ?a_side_by ?l_side_by ?e_side_by ?k_side_by ?a_times_by ?l_times_by ?e_times_by ?k_times_by ?a_spot_by ?l_spot_by ?e_spot_by ?k_spot_by ?a_laid ?l_laid ?e_laid ?k_laid ?a_is_end ?l_is_end ?e_is_end ?k_is_end ?a_normal_spot ?l_normal_spot ?e_normal_spot ?k_normal_spot ?a_point_of ?l_point_of ?e_point_of ?k_point_of ?a_is_point_by ?l_is_point_by ?e_is_point_by ?k_is_point_by ?a_is_point ?l_is_point ?e_is_point ?k_is_point ?a_check_point ?l_check_point ?e_check_point ?k_check_point ?a_piece_of ?l_piece_of ?e_piece_of ?k_piece_of ?a_l_edge_right_b3b6 ?l_l_edge_right_b3b6 ?e_l_edge_right_b3b6 ?k_l_edge_right_b3b6 ?a_l_shape_1896 ?l_l_shape_1896 ?e_l_shape_1896 ?k_l_shape_1896 ?a_l_spot_7a5b ?l_l_spot_7a5b ?e_l_spot_7a5b ?k_l_spot_7a5b ?a_l_place_9cad ?l_l_place_9cad ?e_l_place_9cad ?k_l_place_9cad ?a_l_along_edge_cdad ?l_l_along_edge_cdad ?e_l_along_edge_cdad ?k_l_along_edge_cdad ?a_l_outside_bec0 ?l_l_outside_bec0 ?e_l_outside_bec0 ?k_l_outside_bec0 ?a_l_inner_right_c58f ?l_l_inner_right_c58f ?e_l_inner_right_c58f ?k_l_inner_right_c58f ?a_l_law_53b8 ?l_l_law_53b8 ?e_l_law_53b8 ?k_l_law_53b8 base Xb)
    (case c_NOUGHT => k_is)
    (case cl_NOUGHT => k_is)
    (case n_abs => k_is)
    (case n_bool => k_is)
    (case n_int => k_is)
    (case n_isinstance => k_is)
    (case n_len => k_is)
    (case n_list => k_is)
    (case n_max => k_is)
    (case n_range => k_is)
    (case n_repr => k_is)
    (case n_sum => k_is)
    (case n_tuple => k_is)
    (case n_zip => k_is)
    (case a_l_cell_cf3b => k_is)
    (case l_l_cell_cf3b => k_is)
    (case e_l_cell_cf3b => k_is)
    (case k_l_cell_cf3b => k_is)
    (case a_l_generator_b324 => k_is)
    (case l_l_generator_b324 => k_is)
    (case e_l_generator_b324 => k_is)
    (case k_l_generator_b324 => k_is)
    (case a_l_hash_d8d1 => k_is)
    (case l_l_hash_d8d1 => k_is)
    (case e_l_hash_d8d1 => k_is)
    (case k_l_hash_d8d1 => k_is)
    (case a_l_random_7821 => k_is)
    (case l_l_random_7821 => k_is)
    (case e_l_random_7821 => k_is)
    (case k_l_random_7821 => k_is)
    (case a_l_common_ec6e => k_is)
    (case l_l_common_ec6e => k_is)
    (case e_l_common_ec6e => k_is)
    (case k_l_common_ec6e => k_is)
    (case a_l_cutting_bb00 => k_is)
    (case l_l_cutting_bb00 => k_is)
    (case e_l_cutting_bb00 => k_is)
    (case k_l_cutting_bb00 => k_is)
    (case a_l_whole_43a8 => k_is)
    (case l_l_whole_43a8 => k_is)
    (case e_l_whole_43a8 => k_is)
    (case k_l_whole_43a8 => k_is)
    (case a_l_measure_d993 => k_is)
    (case l_l_measure_d993 => k_is)
    (case e_l_measure_d993 => k_is)
    (case k_l_measure_d993 => k_is)
    (case a_l_root_of_fba3 => k_is)
    (case l_l_root_of_fba3 => k_is)
    (case e_l_root_of_fba3 => k_is)
    (case k_l_root_of_fba3 => k_is)
    (case a_l_made_ecf7 => k_is)
    (case l_l_made_ecf7 => k_is)
    (case e_l_made_ecf7 => k_is)
    (case k_l_made_ecf7 => k_is)
    (case a_l_side_of_cf54 => k_is)
    (case l_l_side_of_cf54 => k_is)
    (case e_l_side_of_cf54 => k_is)
    (case k_l_side_of_cf54 => k_is)
    (case a_l_plus_46d9 => k_is)
    (case l_l_plus_46d9 => k_is)
    (case e_l_plus_46d9 => k_is)
    (case k_l_plus_46d9 => k_is)
    (case a_l_corners_5cb1 => k_is)
    (case l_l_corners_5cb1 => k_is)
    (case e_l_corners_5cb1 => k_is)
    (case k_l_corners_5cb1 => k_is)
    (case a_l_share_4ae7 => k_is)
    (case l_l_share_4ae7 => k_is)
    (case e_l_share_4ae7 => k_is)
    (case k_l_share_4ae7 => k_is)
    (case a_l_added_a47b => k_is)
    (case l_l_added_a47b => k_is)
    (case e_l_added_a47b => k_is)
    (case k_l_added_a47b => k_is)
    (case a_l_times_3146 => k_is)
    (case l_l_times_3146 => k_is)
    (case e_l_times_3146 => k_is)
    (case k_l_times_3146 => k_is)
    (case a_l_scaled_08a4 => k_is)
    (case l_l_scaled_08a4 => k_is)
    (case e_l_scaled_08a4 => k_is)
    (case k_l_scaled_08a4 => k_is)
    (case a_l_glued_bd92 => k_is)
    (case l_l_glued_bd92 => k_is)
    (case e_l_glued_bd92 => k_is)
    (case k_l_glued_bd92 => k_is)
    (case a_is_whole => k_is)
    (case l_is_whole => k_is)
    (case e_is_whole => k_is)
    (case k_is_whole => k_is)
    (case a_common_by => k_is)
    (case l_common_by => k_is)
    (case e_common_by => k_is)
    (case k_common_by => k_is)
    (case a_is_cutting_by => k_is)
    (case l_is_cutting_by => k_is)
    (case e_is_cutting_by => k_is)
    (case k_is_cutting_by => k_is)
    (case a_check_cutting => k_is)
    (case l_check_cutting => k_is)
    (case e_check_cutting => k_is)
    (case k_check_cutting => k_is)
    (case a_measure_by => k_is)
    (case l_measure_by => k_is)
    (case e_measure_by => k_is)
    (case k_measure_by => k_is)
    (case a_root_floor_by => k_is)
    (case l_root_floor_by => k_is)
    (case e_root_floor_by => k_is)
    (case k_root_floor_by => k_is)
    (case a_is_root_by => k_is)
    (case l_is_root_by => k_is)
    (case e_is_root_by => k_is)
    (case k_is_root_by => k_is)
    (case a_is_pair => k_is)
    (case l_is_pair => k_is)
    (case e_is_pair => k_is)
    (case k_is_pair => k_is)
    (case a_root_by => k_is)
    (case l_root_by => k_is)
    (case e_root_by => k_is)
    (case k_root_by => k_is)
    (case a_slit_by => k_is)
    (case l_slit_by => k_is)
    (case e_slit_by => k_is)
    (case k_slit_by => k_is)
    (case a_plus_by => k_is)
    (case l_plus_by => k_is)
    (case e_plus_by => k_is)
    (case k_plus_by => k_is)
    (case a_minus_by => k_is)
    (case l_minus_by => k_is)
    (case e_minus_by => k_is)
    (case k_minus_by => k_is)
    (case a_side_by => k_is)
    (case l_side_by => k_is)
    (case e_side_by => k_is)
    (case k_side_by => k_is)
    (case a_times_by => k_is)
    (case l_times_by => k_is)
    (case e_times_by => k_is)
    (case k_times_by => k_is)
    (case a_spot_by => k_is)
    (case l_spot_by => k_is)
    (case e_spot_by => k_is)
    (case k_spot_by => k_is)
    (case a_laid => k_is)
    (case l_laid => k_is)
    (case e_laid => k_is)
    (case k_laid => k_is)
    (case a_is_end => k_is)
    (case l_is_end => k_is)
    (case e_is_end => k_is)
    (case k_is_end => k_is)
    (case a_normal_spot => k_is)
    (case l_normal_spot => k_is)
    (case e_normal_spot => k_is)
    (case k_normal_spot => k_is)
    (case a_point_of => k_is)
    (case l_point_of => k_is)
    (case e_point_of => k_is)
    (case k_point_of => k_is)
    (case a_is_point_by => k_is)
    (case l_is_point_by => k_is)
    (case e_is_point_by => k_is)
    (case k_is_point_by => k_is)
    (case a_is_point => k_is)
    (case l_is_point => k_is)
    (case e_is_point => k_is)
    (case k_is_point => k_is)
    (case a_check_point => k_is)
    (case l_check_point => k_is)
    (case e_check_point => k_is)
    (case k_check_point => k_is)
    (case a_piece_of => k_is)
    (case l_piece_of => k_is)
    (case e_piece_of => k_is)
    (case k_piece_of => k_is)
    (case a_l_edge_right_b3b6 => k_is)
    (case l_l_edge_right_b3b6 => k_is)
    (case e_l_edge_right_b3b6 => k_is)
    (case k_l_edge_right_b3b6 => k_is)
    (case a_l_shape_1896 => k_is)
    (case l_l_shape_1896 => k_is)
    (case e_l_shape_1896 => k_is)
    (case k_l_shape_1896 => k_is)
    (case a_l_spot_7a5b => k_is)
    (case l_l_spot_7a5b => k_is)
    (case e_l_spot_7a5b => k_is)
    (case k_l_spot_7a5b => k_is)
    (case a_l_place_9cad => k_is)
    (case l_l_place_9cad => k_is)
    (case e_l_place_9cad => k_is)
    (case k_l_place_9cad => k_is)
    (case a_l_along_edge_cdad => k_is)
    (case l_l_along_edge_cdad => k_is)
    (case e_l_along_edge_cdad => k_is)
    (case k_l_along_edge_cdad => k_is)
    (case a_l_outside_bec0 => k_is)
    (case l_l_outside_bec0 => k_is)
    (case e_l_outside_bec0 => k_is)
    (case k_l_outside_bec0 => k_is)
    (case a_l_inner_right_c58f => k_is)
    (case l_l_inner_right_c58f => k_is)
    (case e_l_inner_right_c58f => k_is)
    (case k_l_inner_right_c58f => k_is)
    (case a_l_law_53b8 => k_is)
    (case l_l_law_53b8 => k_is)
    (case e_l_law_53b8 => k_is)
    (case k_l_law_53b8 => k_is)
