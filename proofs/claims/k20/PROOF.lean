import PyProof.Rows.All
import Wide.All
import OpenK.AllK
import Wide.FinOn
import HandS.ForMost
import HandS.Exc
import HandS.ExcInit
import HandS.ExcField
import HandS.ExcIs
import KE.KExcSuper
import KE.KSuper
import HandS.Wide
import HandS.Flow
import HandS.Style
import HandS.Deep
import HandS.TupAny
import HandS.NoneIn
import HandS.IsInst
import HandS.WideBits
import HandS.Gcd
import HandS.Conv
import HandS.Zip
import HandS.SortRule
import HandS.SortInts
import KE.KSortTupAny
import HandS.TupSets
import KE.KSetDisp
import HandS.SetIn
import KE.KExcIs
import HandS.Iter
import KE.DataFind
import PyProof.ReprRoads
import PyProof.NeKinds
import PyProof.FactsAll.dict_2
import PyProof.FactsAll.subtypes_1
import HandS.Star
import KE.GoesEnumKw
import PyProof.TwoTypesSub
import PyProof.FactsAll.bool_3
import PyProof.FactsAll.int_5
import HandS.WordsDict
import HandS.TupLen
import HandS.More
import PySem.Challenge.RW_slitsheets_k20_whole_signs_kept
set_option Elab.async false
set_option linter.all false
set_option maxRecDepth 100000
set_option maxHeartbeats 4000000
/-! XA: the package's own errors: their classes, and how one is made -/
namespace XA
open PySem PySem.W PySem.Calls PyProof.Rows PySem.HandSPX
def sheetTail : List Value := [.type "ValueError", .type "Exception", .type "BaseException", .type "object"]
def errTail (S : Addr) : List Value := .ref S :: sheetTail
/-- the common class of the errors stands at S -/
structure ShC (K : Frag) (S : Addr) : Prop where
  ns : nsIn K mainGlobals "SheetError" = some (some (.ref S))
  cls : ∃ q N bs sn sub ab col dd k0 k1 k2 k3 k5, K.lookup S = some (excClassObj "SheetError" q S N bs sheetTail true sn sub ab col dd k0 k1 k2 k3 k5 "ValueError.__new__")
/-- the error class x stands at C -/
structure ErC (K : Frag) (x : Str) (C S : Addr) : Prop where
  ns : nsIn K mainGlobals x = some (some (.ref C))
  sh : ShC K S
  ne : x ≠ "SheetError"
  cls : ∃ q N bs sn sub ab col dd k0 k1 k2 k3 k5, K.lookup C = some (excClassObj x q C N bs (errTail S) true sn sub ab col dd k0 k1 k2 k3 k5 "ValueError.__new__")
  sa : findIn K (.ref C) "__setattr__" = some (some (.builtin "object.__setattr__"))
  ga : findIn K (.ref C) "__getattribute__" = some (some (.builtin "BaseException.__getattribute__"))
  gg : findIn K (.ref C) "__getattr__" = some none
  nv : findIn K (.ref C) "value" = some none
  kp : keepIn K (.ref C) = true
  hc : findIn K (.ref C) "__class__" = some (some (.builtin "object.__class__"))
  gs : specialIn K (.builtin "object.__class__") "__get__" = some (some (.builtin "getset_descriptor.__get__"))
  tk : takesIn K (.builtin "object.__class__") = some true
section
variable {K : Frag} {x y : Str} {C D S S' : Addr}
theorem ErC.clsIn (T : ErC K x C S) : ∃ cd, PySem.W.clsIn K C = some cd ∧ cd.mro = .ref C :: errTail S ∧ cd.hasDict = true ∧ cd.name = x := by
  obtain ⟨q, N, bs, sn, sub, ab, col, dd, k0, k1, k2, k3, k5, h⟩ := T.cls
  exact ⟨_, by unfold PySem.W.clsIn; rw [h], rfl, rfl, rfl⟩
theorem ShC.clsIn (T : ShC K S) : ∃ cd, PySem.W.clsIn K S = some cd ∧ cd.mro = .ref S :: sheetTail ∧ cd.name = "SheetError" := by
  obtain ⟨q, N, bs, sn, sub, ab, col, dd, k0, k1, k2, k3, k5, h⟩ := T.cls
  exact ⟨_, by unfold PySem.W.clsIn; rw [h], rfl, rfl⟩
theorem ErC.ty (T : ErC K x C S) : typeIn K (.ref C) = some (.type "type") := by
  obtain ⟨q, N, bs, sn, sub, ab, col, dd, k0, k1, k2, k3, k5, h⟩ := T.cls
  show (K.lookup C).map (·.cls) = _
  rw [h]; rfl
theorem ShC.ty (T : ShC K S) : typeIn K (.ref S) = some (.type "type") := by
  obtain ⟨q, N, bs, sn, sub, ab, col, dd, k0, k1, k2, k3, k5, h⟩ := T.cls
  show (K.lookup S).map (·.cls) = _
  rw [h]; rfl
theorem ErC.sub (T : ErC K x C S) (b : Value) : subIn K (.ref C) b = some ((Value.ref C :: errTail S).contains b) := by
  obtain ⟨cd, h, hm, _⟩ := T.clsIn
  show mroIn K C b = _
  unfold mroIn
  rw [h, Option.bind_some, hm]; rfl
theorem ShC.sub (T : ShC K S) (b : Value) : subIn K (.ref S) b = some ((Value.ref S :: sheetTail).contains b) := by
  obtain ⟨cd, h, hm, _⟩ := T.clsIn
  show mroIn K S b = _
  unfold mroIn
  rw [h, Option.bind_some, hm]; rfl
theorem ErC.subT (T : ErC K x C S) (n : String) (h : sheetTail.contains (.type n) = true) : subIn K (.ref C) (.type n) = some true := by
  rw [T.sub]; show some (Value.type n == Value.ref C || (Value.type n == Value.ref S || sheetTail.contains (.type n))) = _
  rw [h, Bool.or_true, Bool.or_true]
/-- is an error of the class x one of the class y -/
def under (x y : Str) : Bool := x == y || y == "SheetError"
/-- a class of errors, with its name: one of them, or their common one -/
def AnyC (K : Frag) (y : Str) (D : Addr) : Prop := (∃ S, ErC K y D S) ∨ (y = "SheetError" ∧ ShC K D)
theorem AnyC.ty (A : AnyC K y D) : typeIn K (.ref D) = some (.type "type") := by
  rcases A with ⟨S', T'⟩ | ⟨rfl, T'⟩
  · exact T'.ty
  · exact T'.ty
theorem AnyC.isC (A : AnyC K y D) : (PySem.W.clsIn K D).isSome = true := by
  rcases A with ⟨S', T'⟩ | ⟨rfl, T'⟩
  · obtain ⟨cd, h, _⟩ := T'.clsIn; rw [h]; rfl
  · obtain ⟨cd, h, _⟩ := T'.clsIn; rw [h]; rfl
theorem AnyC.base (A : AnyC K y D) : subIn K (.ref D) (.type "BaseException") = some true := by
  rcases A with ⟨S', T'⟩ | ⟨rfl, T'⟩
  · exact T'.subT "BaseException" (by decide)
  · rw [T'.sub]; show some (Value.type "BaseException" == Value.ref D || sheetTail.contains (.type "BaseException")) = _
    rw [show sheetTail.contains (.type "BaseException") = true by decide, Bool.or_true]
end
/-! ### an error is made -/
end XA
/-! XB: errors over the hand layer: one is made and raised; a try whose error stays known behind it -/
namespace XA
open PySem PySem.W PySem.Calls PyProof.Rows PySem.HandSPX
end XA
namespace L2
open PySem PySem.Spec PyProof.Rows XA
/-! ### try: the error is tracked from the suite on -/
/-- at a: an error of the class at C with its own dict at dd -/
def ErAt (a C dd : Addr) (h : Heap) : Prop := ∃ vs sl, h.get? a = some { cls := .ref C, dict := some dd, data := .fields vs, slots := sl }
def erO (a C dd : Addr) : HO := .ext (ErAt a C dd)
end L2
namespace XA
open PySem PySem.W PySem.Calls PyProof.Rows PySem.HandSPX
end XA
/-! DL1: data D, what represents it, the state of a def as plain data, the judgements -/
namespace DL
open PySem PySem.Spec PyProof.Rows L2
inductive D where
  | non
  | bl (b : Bool)
  | int (i : Int)
  | str (x : Str)
  | tup (l : List D)
  | lst (l : List D)
  | dct0
  | scr (ns : List Int)
  | own (k : Nat)
  | exc (x : Str) (d : D)
  | glb (x : Str)
  | val (v : V)
abbrev St := L2.St
abbrev Env := List (Option D)
/-- a cell that is owned no more; a dict whose keys are tuples; one whose keys are ints and texts -/
inductive Oth where
  | dead
  | dT (kvs : List (List Key × D))
  | dK (kvs : List (Key × D))
inductive Own where
  | lst (ds : List D)
  | oth (o : Oth)
abbrev Own.dead : Own := .oth .dead
abbrev Own.dT (kvs : List (List Key × D)) : Own := .oth (.dT kvs)
abbrev Own.dK (kvs : List (Key × D)) : Own := .oth (.dK kvs)
def Own.live : Own → Bool
  | .lst _ => true
  | .oth .dead => false
  | .oth (.dT _) => true
  | .oth (.dK _) => true
abbrev Mem := List Own
/-- where the owned cells stand; the lists that are being made out of sight -/
structure Ph where
  cells : List Addr
  hid : List (Addr × HO)
abbrev Ph.add (ph : Ph) (p : Addr) : Ph := { ph with cells := ph.cells ++ [p] }
abbrev Ph.cut (ph : Ph) (n : Nat) : Ph := { ph with cells := ph.cells.take n }
abbrev fVal : Str := "value"
/-- items that a tuple of the module may have (no key of a dict of ours is like that) -/
def vZ : V → Bool
  | .int i => i == 0
  | _ => false
def vRf : V → Bool
  | .ref _ => true
  | _ => false
def kconst (xs : List V) : Bool := xs.length == 3 || decide (3 ≤ (xs.filter vZ).length) || xs.any vRf
/-- a tuple that stands still: one that was made, or one of the module's -/
def TupK (K : PySem.W.Frag) (S : Hp) (a : Addr) (xs : List V) : Prop := S a = some (.tup xs) ∨
  ∃ (o : Obj) (its : Array Value) (n : Nat), K.lookup a = some o ∧ o.cls = .type "tuple" ∧ o.data = .seq its n ∧ its.size ≤ sizeLine ∧ Vals xs its.toList ∧ kconst xs = true
theorem TupK.ext {K : PySem.W.Frag} {S S' : Hp} {a : Addr} {xs : List V} (h : TupK K S a xs) (s : Same S S') : TupK K S' a xs := h.imp (fun z => s _ _ z) fun z => z
theorem TupK.sq {K : PySem.W.Frag} {S H : Hp} {a : Addr} {xs : List V} (h : TupK K S a xs) (s : Same S H) : SqT K H a xs := h.elim (fun z => SqT.of (s _ _ z)) fun ⟨o, its, n, e1, e2, e3, e4, e5, _⟩ => .inr ⟨o, its, n, e1, e2, e3, e4, e5⟩
mutual
inductive Rep (K : PySem.W.Frag) (ph : Ph) (S : Hp) : V → D → Prop
  | non : Rep K ph S .non .non
  | bl (b : Bool) : Rep K ph S (.bl b) (.bl b)
  | int (i : Int) : Rep K ph S (.int i) (.int i)
  | str (x : Str) : Rep K ph S (.str x) (.str x)
  | tup {a : Addr} {xs : List V} {ds : List D} : TupK K S a xs → RepAll K ph S xs ds → Rep K ph S (.ref a) (.tup ds)
  | lst {a : Addr} {xs : List V} {ds : List D} : S a = some (.lst xs) → RepAll K ph S xs ds → Rep K ph S (.ref a) (.lst ds)
  | scr {a : Addr} {ns : List Int} : SqL K S a (ns.map V.int) → Rep K ph S (.ref a) (.scr ns)
  | dct0 {a : Addr} : S a = some (.dK []) → Rep K ph S (.ref a) .dct0
  | own {a : Addr} {k : Nat} : ph.cells[k]? = some a → Rep K ph S (.ref a) (.own k)
  | exc {a C T dd : Addr} {x : Str} {v : V} {d : D} : XA.ErC K x C T → S a = some (erO a C dd) → S dd = some (.xd [(fVal, v)]) → Rep K ph S v d → Rep K ph S (.ref a) (.exc x d)
  | glb {a : Addr} {x : Str} : PySem.W.nsIn K mainGlobals x = some (some (.ref a)) → Rep K ph S (.ref a) (.glb x)
  | val (v : V) : Rep K ph S v (.val v)
inductive RepAll (K : PySem.W.Frag) (ph : Ph) (S : Hp) : List V → List D → Prop
  | nil : RepAll K ph S [] []
  | cons {v : V} {vs : List V} {d : D} {ds : List D} : Rep K ph S v d → RepAll K ph S vs ds → RepAll K ph S (v :: vs) (d :: ds)
end
structure Ext (ph : Ph) (S : Hp) (ph' : Ph) (S' : Hp) : Prop where
  pre : ∀ (k : Nat) (a : Addr), ph.cells[k]? = some a → ph'.cells[k]? = some a
  same : Same S S'
  hid : ph'.hid = ph.hid
theorem Ext.refl {ph : Ph} {S : Hp} : Ext ph S ph S := ⟨fun _ _ h => h, fun _ _ h => h, rfl⟩
theorem Ext.trans {ph ph1 ph2 : Ph} {S S1 S2 : Hp} (a : Ext ph S ph1 S1) (b : Ext ph1 S1 ph2 S2) : Ext ph S ph2 S2 :=
  ⟨fun k x h => b.pre k x (a.pre k x h), a.same.trans b.same, b.hid.trans a.hid⟩
section
variable {K : PySem.W.Frag} {ph ph' : Ph} {S S' : Hp}
mutual
theorem Rep.ext (x : Ext ph S ph' S') : ∀ (d : D) (v : V), Rep K ph S v d → Rep K ph' S' v d
  | .non, _, h => by cases h; exact .non
  | .bl _, _, h => by cases h; exact .bl _
  | .int _, _, h => by cases h; exact .int _
  | .str _, _, h => by cases h; exact .str _
  | .tup ds, _, h => by
    cases h with
    | tup h1 h2 => exact .tup (h1.ext x.same) (RepAll.ext x ds _ h2)
  | .lst ds, _, h => by
    cases h with
    | lst h1 h2 => exact .lst (x.same _ _ h1) (RepAll.ext x ds _ h2)
  | .dct0, _, h => by
    cases h with
    | dct0 h1 => exact .dct0 (x.same _ _ h1)
  | .scr ns, _, h => by
    cases h with
    | scr h1 => exact .scr (x.same.seq h1)
  | .own k, _, h => by
    cases h with
    | own h1 => exact .own (x.pre _ _ h1)
  | .glb _, _, h => by
    cases h with
    | glb h1 => exact .glb h1
  | .exc C d, _, h => by
    cases h with
    | exc h0 h1 h2 h3 => exact .exc h0 (x.same _ _ h1) (x.same _ _ h2) (Rep.ext x d _ h3)
  | .val v, _, h => by cases h; exact .val _
theorem RepAll.ext (x : Ext ph S ph' S') : ∀ (ds : List D) (vs : List V), RepAll K ph S vs ds → RepAll K ph' S' vs ds
  | [], _, h => by cases h; exact .nil
  | d :: ds, _, h => by
    cases h with
    | cons h1 h2 => exact .cons (Rep.ext x d _ h1) (RepAll.ext x ds _ h2)
end
theorem Rep.up {d : D} {v : V} (h : Rep K ph S v d) (x : Ext ph S ph' S') : Rep K ph' S' v d := Rep.ext x d v h
theorem RepAll.up {ds : List D} {vs : List V} (h : RepAll K ph S vs ds) (x : Ext ph S ph' S') : RepAll K ph' S' vs ds := RepAll.ext x ds vs h
theorem RepAll.len : ∀ {vs : List V} {ds : List D}, RepAll K ph S vs ds → vs.length = ds.length
  | _, _, .nil => rfl
  | _, _, .cons _ t => by rw [List.length_cons, List.length_cons, RepAll.len t]
theorem RepAll.get : ∀ {vs : List V} {ds : List D} {i : Nat} {d : D}, RepAll K ph S vs ds → ds[i]? = some d → ∃ v, vs[i]? = some v ∧ Rep K ph S v d
  | _, _, _, _, .nil, e => by simp at e
  | _, _, 0, _, .cons r _, e => by simp at e; subst e; exact ⟨_, rfl, r⟩
  | _, _, i + 1, _, .cons _ t, e => by
    obtain ⟨v, e1, r⟩ := RepAll.get (i := i) t (by simpa using e)
    exact ⟨v, by simpa using e1, r⟩
theorem RepAll.app : ∀ {vs ws : List V} {ds es : List D}, RepAll K ph S vs ds → RepAll K ph S ws es → RepAll K ph S (vs ++ ws) (ds ++ es)
  | _, _, _, _, .nil, q => q
  | _, _, _, _, .cons r t, q => .cons r (RepAll.app t q)
theorem RepAll.take : ∀ {vs : List V} {ds : List D} (n : Nat), RepAll K ph S vs ds → RepAll K ph S (vs.take n) (ds.take n)
  | _, _, 0, _ => .nil
  | _, _, _ + 1, .nil => .nil
  | _, _, n + 1, .cons r t => .cons r (RepAll.take n t)
theorem RepAll.drop : ∀ {vs : List V} {ds : List D} (n : Nat), RepAll K ph S vs ds → RepAll K ph S (vs.drop n) (ds.drop n)
  | _, _, 0, r => r
  | _, _, _ + 1, .nil => .nil
  | _, _, n + 1, .cons r t => RepAll.drop n t
theorem RepAll.set {v : V} {d : D} (r : Rep K ph S v d) : ∀ {vs : List V} {ds : List D} (i : Nat), RepAll K ph S vs ds → RepAll K ph S (vs.set i v) (ds.set i d)
  | _, _, _, .nil => .nil
  | _, _, 0, .cons _ t => .cons r t
  | _, _, i + 1, .cons q t => .cons q (RepAll.set r i t)
theorem RepAll.rep {v : V} {d : D} (r : Rep K ph S v d) : ∀ n : Nat, RepAll K ph S (List.replicate n v) (List.replicate n d)
  | 0 => .nil
  | n + 1 => .cons r (RepAll.rep r n)
theorem RepAll.ints : ∀ ns : List Int, RepAll K ph S (ns.map V.int) (ns.map D.int)
  | [] => .nil
  | n :: ns => .cons (.int n) (RepAll.ints ns)
end
/-- what an owned cell holds -/
def OwnR (K : PySem.W.Frag) (ph : Ph) (S : Hp) : Own → HO → Prop
  | .lst ds, o => ∃ xs, o = .lst xs ∧ RepAll K ph S xs ds
  | .oth (.dT kvs), o => ∃ ys : List (List Key × V), o = .dT ys ∧ ys.map (·.1) = kvs.map (·.1) ∧ RepAll K ph S (ys.map (·.2)) (kvs.map (·.2))
  | .oth (.dK kvs), o => ∃ ys : List (Key × V), o = .dK ys ∧ ys.map (·.1) = kvs.map (·.1) ∧ RepAll K ph S (ys.map (·.2)) (kvs.map (·.2))
  | .oth .dead, _ => True
theorem OwnR.up {K : PySem.W.Frag} {ph ph' : Ph} {S S' : Hp} {w : Own} {o : HO} (h : OwnR K ph S w o) (x : Ext ph S ph' S') : OwnR K ph' S' w o := by
  rcases w with ds | _ | kvs | kvs
  · obtain ⟨xs, e, r⟩ := h; exact ⟨xs, e, r.up x⟩
  · trivial
  · obtain ⟨ys, e, r1, r2⟩ := h; exact ⟨ys, e, r1, r2.up x⟩
  · obtain ⟨ys, e, r1, r2⟩ := h; exact ⟨ys, e, r1, r2.up x⟩
/-- the state (σ, H) is told by the names' data ρ and the owned cells M -/
structure Sat (K : PySem.W.Frag) (ph : Ph) (S : Hp) (r : Env) (M : Mem) (σ : St) (H : Hp) : Prop where
  sub : Same S H
  len : ph.cells.length = M.length
  nd : ph.cells.Nodup
  trk : ∀ (k : Nat) (a : Addr), ph.cells[k]? = some a → ∃ o, H a = some o
  own : ∀ (k : Nat) (w : Own), M[k]? = some w → w.live = true → ∃ a o, ph.cells[k]? = some a ∧ S a = none ∧ H a = some o ∧ OwnR K ph S w o
  hid : ∀ p ∈ ph.hid, H p.1 = some p.2 ∧ S p.1 = none ∧ p.1 ∉ ph.cells
  hnd : (ph.hid.map (·.1)).Nodup
  el : r.length = σ.length
  env : ∀ (i : Nat) (d : D), r[i]? = some (some d) → ∃ v, σ[i]? = some (some v) ∧ Rep K ph S v d
theorem Sat.cell {K : PySem.W.Frag} {ph : Ph} {S : Hp} {r : Env} {M : Mem} {σ : St} {H : Hp} (h : Sat K ph S r M σ H) (k : Nat) (ds : List D) (e : M[k]? = some (.lst ds)) :
    ∃ a xs, ph.cells[k]? = some a ∧ S a = none ∧ H a = some (.lst xs) ∧ RepAll K ph S xs ds := by
  obtain ⟨a, o, h1, h2, h3, xs, rfl, h4⟩ := h.own k _ e rfl
  exact ⟨a, xs, h1, h2, h3, h4⟩
theorem Sat.dicK {K : PySem.W.Frag} {ph : Ph} {S : Hp} {r : Env} {M : Mem} {σ : St} {H : Hp} (h : Sat K ph S r M σ H) (k : Nat) (kvs : List (Key × D)) (e : M[k]? = some (.dK kvs)) :
    ∃ (a : Addr) (ys : List (Key × V)), ph.cells[k]? = some a ∧ S a = none ∧ H a = some (.dK ys) ∧ ys.map (·.1) = kvs.map (·.1) ∧ RepAll K ph S (ys.map (·.2)) (kvs.map (·.2)) := by
  obtain ⟨a, o, h1, h2, h3, ys, rfl, h4⟩ := h.own k _ e rfl
  exact ⟨a, ys, h1, h2, h3, h4⟩
abbrev DQ := D → Mem → Prop
abbrev DTE := Env → Mem → DQ → Prop
abbrev DTT := Env → Mem → (Bool → Mem → Prop) → Prop
abbrev DTA := Env → Mem → (List D → Mem → Prop) → Prop
structure DEnds where
  nx : Env → Mem → Prop
  rt : DQ
  bk : Env → Mem → Prop := fun _ _ => False
  ct : Env → Mem → Prop := fun _ _ => False
abbrev DTS := DEnds → Env → Mem → Prop
/-- behind a piece, from (ph, S): the state as it is then, and what is wanted of it -/
def Aft (K : PySem.W.Frag) (ph : Ph) (S : Hp) (r : Env) (σ : St) (H : Hp) (Q : Ph → Hp → Mem → Prop) : Prop :=
  ∃ ph' S' M, Ext ph S ph' S' ∧ Sat K ph' S' r M σ H ∧ Q ph' S' M
def post (K : PySem.W.Frag) (ph : Ph) (S : Hp) (r : Env) (σ : St) (Q : DQ) : VK := fun v H => Aft K ph S r σ H fun ph' S' M => ∃ d, Rep K ph' S' v d ∧ Q d M
def postT (K : PySem.W.Frag) (ph : Ph) (S : Hp) (r : Env) (σ : St) (Q : Bool → Mem → Prop) : Bool → Hp → Prop := fun b H => Aft K ph S r σ H fun _ _ M => Q b M
def postA (K : PySem.W.Frag) (ph : Ph) (S : Hp) (r : Env) (σ : St) (Q : List D → Mem → Prop) : List V → Hp → Prop := fun vs H => Aft K ph S r σ H fun ph' S' M => ∃ ds, RepAll K ph' S' vs ds ∧ Q ds M
def postN (K : PySem.W.Frag) (ph : Ph) (S : Hp) (Q : Env → Mem → Prop) : St → Hp → Prop := fun σ H => ∃ r, Aft K ph S r σ H fun _ _ M => Q r M
/-- behind a return the names are gone -/
def postR (K : PySem.W.Frag) (ph : Ph) (S : Hp) (Q : DQ) : VK := fun v H => ∃ r σ, post K ph S r σ Q v H
structure DE (X : Cx) (e : Expr) (t : DTE) : Prop where
  pe : PE X e (fun σ H Q => ∃ ph S r M Q0, Sat X.K ph S r M σ H ∧ t r M Q0 ∧ ∀ v H', post X.K ph S r σ Q0 v H' → Q v H')
structure DT (X : Cx) (e : Expr) (t : DTT) : Prop where
  pt : PT X e (fun σ H Q => ∃ ph S r M Q0, Sat X.K ph S r M σ H ∧ t r M Q0 ∧ ∀ b H', postT X.K ph S r σ Q0 b H' → Q b H')
structure DW (X : Cx) (e : Expr) (t : DTT) : Prop where
  pw : PW X e (fun σ H Q => ∃ ph S r M Q0, Sat X.K ph S r M σ H ∧ t r M Q0 ∧ ∀ b H', postT X.K ph S r σ Q0 b H' → Q b H')
structure DA (X : Cx) (es : List Expr) (t : DTA) : Prop where
  pa : PA X es (fun σ H Q => ∃ ph S r M Q0, Sat X.K ph S r M σ H ∧ t r M Q0 ∧ ∀ vs H', postA X.K ph S r σ Q0 vs H' → Q vs H')
def lfS (K : PySem.W.Frag) (t : DTS) : TS := fun E σ H => ∃ ph S r M E0, Sat K ph S r M σ H ∧ t E0 r M ∧ (∀ σ' H', postN K ph S E0.nx σ' H' → E.nx σ' H') ∧ (∀ v H', postR K ph S E0.rt v H' → E.rt v H') ∧ (∀ σ' H', postN K ph S E0.bk σ' H' → E.bk σ' H') ∧ (∀ σ' H', postN K ph S E0.ct σ' H' → E.ct σ' H')
structure DS (X : Cx) (st : Stmt) (t : DTS) : Prop where
  ps : PS X st (lfS X.K t)
structure DSs (X : Cx) (sts : List Stmt) (t : DTS) : Prop where
  pss : PSs X sts (lfS X.K t)
/-! ### weakening the hand layer's judgements -/
section
variable {X : Cx}
theorem PE.weak {e : Expr} {t t' : TE} (h : PE X e t) (w : ∀ σ H Q, t' σ H Q → t σ H Q) : PE X e t' := ⟨fun pins s σ H Q I q => h.run pins s σ H Q I (w _ _ _ q)⟩
theorem PT.weak {e : Expr} {t t' : TT} (h : PT X e t) (w : ∀ σ H Q, t' σ H Q → t σ H Q) : PT X e t' := ⟨fun pins s σ H Q I q => h.run pins s σ H Q I (w _ _ _ q)⟩
theorem PW.weak {e : Expr} {t t' : TT} (h : PW X e t) (w : ∀ σ H Q, t' σ H Q → t σ H Q) : PW X e t' := ⟨fun wh pins s σ H Q I q => h.run wh pins s σ H Q I (w _ _ _ q)⟩
theorem PA.weak {e : List Expr} {t t' : TA} (h : PA X e t) (w : ∀ σ H Q, t' σ H Q → t σ H Q) : PA X e t' := ⟨fun pos pins s σ H Q I q => h.run pos pins s σ H Q I (w _ _ _ q)⟩
theorem PS.weak {e : Stmt} {t t' : TS} (h : PS X e t) (w : ∀ E σ H, t' E σ H → t E σ H) : PS X e t' := ⟨fun pins s σ H Q I q => h.run pins s σ H Q I (w _ _ _ q)⟩
theorem PSs.weak {e : List Stmt} {t t' : TS} (h : PSs X e t) (w : ∀ E σ H, t' E σ H → t E σ H) : PSs X e t' := ⟨fun pins s σ H Q I q => h.run pins s σ H Q I (w _ _ _ q)⟩
/-- from a rule of the hand layer -/
theorem DE.of {e : Expr} {t' : TE} {t : DTE} (h : PE X e t') (w : ∀ ph S r M σ H Q, Sat X.K ph S r M σ H → t r M Q → ∀ Q', (∀ v H', post X.K ph S r σ Q v H' → Q' v H') → t' σ H Q') : DE X e t :=
  ⟨PE.weak h fun σ H Q ⟨ph, S, r, M, Q0, hs, ht, hq⟩ => w ph S r M σ H Q0 hs ht Q hq⟩
theorem DT.of {e : Expr} {t' : TT} {t : DTT} (h : PT X e t') (w : ∀ ph S r M σ H Q, Sat X.K ph S r M σ H → t r M Q → ∀ Q', (∀ v H', postT X.K ph S r σ Q v H' → Q' v H') → t' σ H Q') : DT X e t :=
  ⟨PT.weak h fun σ H Q ⟨ph, S, r, M, Q0, hs, ht, hq⟩ => w ph S r M σ H Q0 hs ht Q hq⟩
theorem DW.of {e : Expr} {t' : TT} {t : DTT} (h : PW X e t') (w : ∀ ph S r M σ H Q, Sat X.K ph S r M σ H → t r M Q → ∀ Q', (∀ v H', postT X.K ph S r σ Q v H' → Q' v H') → t' σ H Q') : DW X e t :=
  ⟨PW.weak h fun σ H Q ⟨ph, S, r, M, Q0, hs, ht, hq⟩ => w ph S r M σ H Q0 hs ht Q hq⟩
theorem DA.of {e : List Expr} {t' : TA} {t : DTA} (h : PA X e t') (w : ∀ ph S r M σ H Q, Sat X.K ph S r M σ H → t r M Q → ∀ Q', (∀ v H', postA X.K ph S r σ Q v H' → Q' v H') → t' σ H Q') : DA X e t :=
  ⟨PA.weak h fun σ H Q ⟨ph, S, r, M, Q0, hs, ht, hq⟩ => w ph S r M σ H Q0 hs ht Q hq⟩
/-- the end of a reading: this value, this state -/
theorem Aft.here {K : PySem.W.Frag} {ph : Ph} {S : Hp} {r : Env} {σ : St} {H : Hp} {M : Mem} {Q : Ph → Hp → Mem → Prop} (h : Sat K ph S r M σ H) (q : Q ph S M) : Aft K ph S r σ H Q := ⟨ph, S, M, .refl, h, q⟩
theorem Aft.up {K : PySem.W.Frag} {ph ph1 : Ph} {S S1 : Hp} {r : Env} {σ : St} {H : Hp} {Q : Ph → Hp → Mem → Prop} (x : Ext ph S ph1 S1) (h : Aft K ph1 S1 r σ H Q) : Aft K ph S r σ H Q :=
  let ⟨ph', S', M, x', hs, q⟩ := h
  ⟨ph', S', M, x.trans x', hs, q⟩
/-! ### the simplest expressions -/
def dC (d : D) : DTE := fun _ M Q => Q d M
theorem de_c {e : Expr} {v : V} {d : D} (h : PE X e (tC v)) (hr : ∀ ph S, Rep X.K ph S v d) : DE X e (dC d) :=
  DE.of h fun ph S r M σ H Q hs ht Q' hq => hq _ _ (Aft.here hs ⟨d, hr _ _, ht⟩)
theorem de_int {i j pos} : DE X (.Constant (.int i) j pos) (dC (.int i)) := de_c pe_int fun _ _ => .int _
theorem de_bl {b j pos} : DE X (.Constant (.bool b) j pos) (dC (.bl b)) := de_c pe_bl fun _ _ => .bl _
theorem de_non {j pos} : DE X (.Constant .none j pos) (dC .non) := de_c pe_non fun _ _ => .non
theorem de_str {x j pos} : DE X (.Constant (.str x) j pos) (dC (.str x)) := de_c pe_str fun _ _ => .str _
def dVar (i : Nat) : DTE := fun r M Q => match r[i]? with
  | some (some d) => Q d M
  | _ => False
theorem de_var {e : Expr} (i : Nat) (h : PE X e (tVar i)) : DE X e (dVar i) :=
  DE.of h fun ph S r M σ H Q hs ht Q' hq => by
    unfold dVar at ht
    split at ht
    · rename_i d e
      obtain ⟨v, e1, rv⟩ := hs.env i d e
      exact ⟨v, e1, hq _ _ (Aft.here hs ⟨d, rv, ht⟩)⟩
    · exact ht.elim
/-- the name in slot i -/
theorem dv (i : Nat) {x : Str} {pos : Pos} (hN : X.N[i]? = some x := by rfl) (hv : Vis X.env.scope x := by first | exact Or.inl rfl | exact Or.inr (Or.inl rfl) | exact Or.inr (Or.inr rfl)) (hd : (x == ("__debug__" : Str)) = false := by decide)
    (hcd : (x == ("__classdict__" : Str)) = false := by decide) : DE X (.Name x pos) (dVar i) := de_var i (pe_var hN hv hd hcd)
end
end DL
/-! DL2: heaps that change; data as PyData; operators -/
namespace DL
open PySem PySem.Spec PyProof.Rows L2
mutual
def toPy : D → Option PyData
  | .non => some .none
  | .bl b => some (.bool b)
  | .int i => some (.int i)
  | .str x => some (.str x)
  | .tup l => match toPyAll l with
    | some ps => some (.tuple ps)
    | none => none
  | .lst l => match toPyAll l with
    | some ps => some (.list ps)
    | none => none
  | .dct0 => some (.dict [])
  | .scr _ => none
  | .own _ => none
  | .exc _ _ => none
  | .glb _ => none
  | .val _ => none
def toPyAll : List D → Option (List PyData)
  | [] => some []
  | d :: ds => match toPy d, toPyAll ds with
    | some p, some ps => some (p :: ps)
    | _, _ => none
end
section
variable {K : PySem.W.Frag} {ph ph' : Ph} {S S' : Hp} {r : Env} {M : Mem} {σ : St} {H : Hp} {p : Addr}
mutual
theorem Rep.hidP {c : List Addr} {l l' : List (Addr × HO)} : ∀ (d : D) (v : V), Rep K ⟨c, l⟩ S v d → Rep K ⟨c, l'⟩ S v d
  | .non, _, h => by cases h; exact .non
  | .bl _, _, h => by cases h; exact .bl _
  | .int _, _, h => by cases h; exact .int _
  | .str _, _, h => by cases h; exact .str _
  | .tup ds, _, h => by
    cases h with
    | tup h1 h2 => exact .tup h1 (RepAll.hidP ds _ h2)
  | .lst ds, _, h => by
    cases h with
    | lst h1 h2 => exact .lst h1 (RepAll.hidP ds _ h2)
  | .dct0, _, h => by
    cases h with
    | dct0 h1 => exact .dct0 h1
  | .scr ns, _, h => by
    cases h with
    | scr h1 => exact .scr h1
  | .own k, _, h => by
    cases h with
    | own h1 => exact .own h1
  | .glb _, _, h => by
    cases h with
    | glb h1 => exact .glb h1
  | .exc C d, _, h => by
    cases h with
    | exc h0 h1 h2 h3 => exact .exc h0 h1 h2 (Rep.hidP d _ h3)
  | .val v, _, h => by cases h; exact .val _
theorem RepAll.hidP {c : List Addr} {l l' : List (Addr × HO)} : ∀ (ds : List D) (vs : List V), RepAll K ⟨c, l⟩ S vs ds → RepAll K ⟨c, l'⟩ S vs ds
  | [], _, h => by cases h; exact .nil
  | d :: ds, _, h => by
    cases h with
    | cons h1 h2 => exact .cons (Rep.hidP d _ h1) (RepAll.hidP ds _ h2)
end
theorem Rep.hid {c : List Addr} {l l' : List (Addr × HO)} {d : D} {v : V} (h : Rep K ⟨c, l⟩ S v d) : Rep K ⟨c, l'⟩ S v d := Rep.hidP d v h
theorem RepAll.hid {c : List Addr} {l l' : List (Addr × HO)} {d : List D} {v : List V} (h : RepAll K ⟨c, l⟩ S v d) : RepAll K ⟨c, l'⟩ S v d := RepAll.hidP d v h
theorem OwnR.hid {c : List Addr} {l l' : List (Addr × HO)} {w : Own} {o : HO} (h : OwnR K ⟨c, l⟩ S w o) : OwnR K ⟨c, l'⟩ S w o := by
  rcases w with ds | _ | kvs | kvs
  · obtain ⟨xs, e, r⟩ := h; exact ⟨xs, e, RepAll.hid r⟩
  · trivial
  · obtain ⟨ys, e, r1, r2⟩ := h; exact ⟨ys, e, r1, RepAll.hid r2⟩
  · obtain ⟨ys, e, r1, r2⟩ := h; exact ⟨ys, e, r1, RepAll.hid r2⟩
theorem Sat.read {d : D} {v : V} (h : Sat K ph S r M σ H) (q : Rep K ph S v d) : Rep K ph H v d := q.up ⟨fun _ _ e => e, h.sub, rfl⟩
theorem Sat.readAll {d : List D} {v : List V} (h : Sat K ph S r M σ H) (q : RepAll K ph S v d) : RepAll K ph H v d := q.up ⟨fun _ _ e => e, h.sub, rfl⟩
theorem Sat.noS (h : Sat K ph S r M σ H) (hp : H p = none) : S p = none := h.sub.free hp
theorem Sat.notin (h : Sat K ph S r M σ H) (hp : H p = none) : ∀ (k : Nat), ph.cells[k]? ≠ some p := fun k e => by
  obtain ⟨o, ho⟩ := h.trk k p e
  rw [hp] at ho; cases ho
theorem sameUpd {p : Addr} {o : HO} (h : H p = none) : Same H (upd H p o) := fun b x e => by
  rw [upd_ne (ne_of_none e h)]
  exact e
/-- a new object that is only read -/
theorem Sat.frz (h : Sat K ph S r M σ H) (hp : H p = none) (o : HO) : Ext ph S ph (upd S p o) ∧ Sat K ph (upd S p o) r M σ (upd H p o) := by
  have x : Ext ph S ph (upd S p o) := ⟨fun _ _ e => e, sameUpd (h.noS hp), rfl⟩
  refine ⟨x, fun b y e => ?_, h.len, h.nd, fun k a e => ?_, fun k ds e hl => ?_, fun q hq => ?_, h.hnd, h.el, fun i d e => ?_⟩
  · by_cases hb : b = p
    · rw [hb, upd_same] at e ⊢
      exact e
    · rw [upd_ne hb] at e ⊢
      exact h.sub b y e
  · obtain ⟨u, hu⟩ := h.trk k a e
    exact ⟨u, sameUpd hp _ _ hu⟩
  · obtain ⟨a, xs, h1, h2, h3, h4⟩ := h.own k ds e hl
    have ne : a ≠ p := fun z => by rw [z, hp] at h3; cases h3
    refine ⟨a, xs, h1, ?_, ?_, h4.up x⟩
    · rw [upd_ne ne]; exact h2
    · rw [upd_ne ne]; exact h3
  · obtain ⟨h1, h2, h3⟩ := h.hid q hq
    have ne : q.1 ≠ p := fun z => by rw [z, hp] at h1; cases h1
    exact ⟨by rw [upd_ne ne]; exact h1, by rw [upd_ne ne]; exact h2, h3⟩
  · obtain ⟨v, e1, q⟩ := h.env i d e
    exact ⟨v, e1, q.up x⟩
/-- a new list that may be changed -/
theorem Sat.newO (h : Sat K ph S r M σ H) (hp : H p = none) {o : HO} {w : Own} (hr : OwnR K ph S w o) :
    Ext ph S (ph.add p) S ∧ Sat K (ph.add p) S r (M ++ [w]) σ (upd H p o) ∧ (ph.add p).cells[M.length]? = some p := by
  have x : Ext ph S (ph.add p) S := ⟨fun k a e => by
    rw [List.getElem?_append_left (List.getElem?_eq_some_iff.mp e).1]; exact e, fun _ _ e => e, rfl⟩
  have here : (ph.add p).cells[M.length]? = some p := by
    rw [← h.len, List.getElem?_append_right (Nat.le_refl _), Nat.sub_self]; rfl
  have old : ∀ (k : Nat) (a : Addr), (ph.add p).cells[k]? = some a → ph.cells[k]? = some a ∨ (k = ph.cells.length ∧ a = p) := fun k a e => by
    by_cases hk : k < ph.cells.length
    · rw [List.getElem?_append_left hk] at e
      exact .inl e
    · rw [List.getElem?_append_right (by omega)] at e
      cases hk' : k - ph.cells.length with
      | zero =>
        rw [hk'] at e
        exact .inr ⟨by omega, (Option.some.inj e).symm⟩
      | succ n => rw [hk'] at e; simp at e
  refine ⟨x, ⟨fun b y e => sameUpd hp _ _ (h.sub b y e), by rw [List.length_append, List.length_append, h.len]; rfl, ?_, fun k a e => ?_, fun k es e hl => ?_, fun q hq => ?_, h.hnd, h.el, fun i d e => ?_⟩, here⟩
  · rw [List.nodup_append]
    refine ⟨h.nd, by simp, fun a ha b hb z => ?_⟩
    have hb' : b = p := by simpa using hb
    obtain ⟨k, hk⟩ := List.mem_iff_getElem?.mp ha
    exact h.notin hp k (by rw [hk, z, hb'])
  · rcases old k a e with q | ⟨_, q⟩
    · obtain ⟨u, hu⟩ := h.trk k a q
      exact ⟨u, sameUpd hp _ _ hu⟩
    · exact ⟨_, by rw [q, upd_same]⟩
  · by_cases hk : k < M.length
    · rw [List.getElem?_append_left hk] at e
      obtain ⟨a, ys, h1, h2, h3, h4⟩ := h.own k es e hl
      exact ⟨a, ys, x.pre _ _ h1, h2, sameUpd hp _ _ h3, h4.up x⟩
    · rw [List.getElem?_append_right (by omega)] at e
      cases hk' : k - M.length with
      | succ n => rw [hk'] at e; simp at e
      | zero =>
        rw [hk'] at e
        have e' : w = es := by simpa using e
        have k' : k = M.length := by omega
        subst e'
        subst k'
        exact ⟨p, o, here, h.noS hp, upd_same, hr.up x⟩
  · obtain ⟨h1, h2, h3⟩ := h.hid q hq
    have ne : q.1 ≠ p := fun z => by rw [z, hp] at h1; cases h1
    exact ⟨by rw [upd_ne ne]; exact h1, h2, fun z => (List.mem_append.mp z).elim h3 fun z => ne (by simpa using z)⟩
  · obtain ⟨v, e1, q⟩ := h.env i d e
    exact ⟨v, e1, q.up x⟩
theorem Sat.new (h : Sat K ph S r M σ H) (hp : H p = none) {xs : List V} {ds : List D} (hr : RepAll K ph S xs ds) :
    Ext ph S (ph.add p) S ∧ Sat K (ph.add p) S r (M ++ [.lst ds]) σ (upd H p (.lst xs)) ∧ (ph.add p).cells[M.length]? = some p := h.newO hp ⟨xs, rfl, hr⟩
theorem nd_ix {l : List Addr} (hN : l.Nodup) {i j : Nat} {x : Addr} (a : l[i]? = some x) (b : l[j]? = some x) : i = j := by
  obtain ⟨h1, e1⟩ := List.getElem?_eq_some_iff.mp a
  obtain ⟨h2, e2⟩ := List.getElem?_eq_some_iff.mp b
  exact (List.getElem_inj hN).mp (e1.trans e2.symm)
/-- an owned list is changed -/
theorem Sat.putO (h : Sat K ph S r M σ H) {k : Nat} {w w2 : Own} {o : HO} (hk : M[k]? = some w) (hw : w.live = true) {a : Addr} (ha : ph.cells[k]? = some a) (hr : OwnR K ph S w2 o) :
    Sat K ph S r (M.set k w2) σ (upd H a o) := by
  obtain ⟨a', ys, h1, h2, h3, h4⟩ := h.own k w hk hw
  rw [ha] at h1
  cases h1
  have kl : k < M.length := (List.getElem?_eq_some_iff.mp hk).1
  refine ⟨fun b y e => ?_, by rw [List.length_set]; exact h.len, h.nd, fun j b e => ?_, fun j fs e hl => ?_, fun q hq => ?_, h.hnd, h.el, h.env⟩
  · rw [upd_ne (fun z => by rw [z, h2] at e; cases e)]
    exact h.sub b y e
  · by_cases hb : b = a
    · exact ⟨_, by rw [hb, upd_same]⟩
    · rw [upd_ne hb]; exact h.trk j b e
  · by_cases hj : j = k
    · subst hj
      rw [List.getElem?_set_self kl] at e
      cases e
      exact ⟨a, o, ha, h2, upd_same, hr⟩
    · rw [List.getElem?_set_ne (Ne.symm hj)] at e
      obtain ⟨b, zs, q1, q2, q3, q4⟩ := h.own j fs e hl
      have nb : b ≠ a := fun z => by rw [z] at q1; exact hj (nd_ix h.nd q1 ha)
      exact ⟨b, zs, q1, q2, by rw [upd_ne nb]; exact q3, q4⟩
  · obtain ⟨h1, h2, h3⟩ := h.hid q hq
    have ne : q.1 ≠ a := fun z => h3 (by rw [z]; exact List.mem_of_getElem? ha)
    exact ⟨by rw [upd_ne ne]; exact h1, h2, h3⟩
theorem Sat.put (h : Sat K ph S r M σ H) {k : Nat} {ds es : List D} {xs : List V} (hk : M[k]? = some (.lst ds)) {a : Addr} (ha : ph.cells[k]? = some a) (hr : RepAll K ph S xs es) :
    Sat K ph S r (M.set k (.lst es)) σ (upd H a (.lst xs)) := h.putO hk rfl ha ⟨xs, rfl, hr⟩
/-- an owned list is changed no more -/
theorem Sat.freeze (h : Sat K ph S r M σ H) {k : Nat} {ds : List D} (hk : M[k]? = some (.lst ds)) :
    ∃ a xs, ph.cells[k]? = some a ∧ Ext ph S ph (upd S a (.lst xs)) ∧ Sat K ph (upd S a (.lst xs)) r (M.set k .dead) σ H ∧ Rep K ph (upd S a (.lst xs)) (.ref a) (.lst ds) := by
  obtain ⟨a, xs, h1, h2, h3, h4⟩ := h.cell k ds hk
  have x : Ext ph S ph (upd S a (.lst xs)) := ⟨fun _ _ e => e, sameUpd h2, rfl⟩
  refine ⟨a, xs, h1, x, ⟨fun b y e => ?_, by rw [List.length_set]; exact h.len, h.nd, h.trk, fun j fs e hl => ?_, fun q hq => ?_, h.hnd, h.el, fun i d e => ?_⟩, .lst upd_same (h4.up x)⟩
  · by_cases hb : b = a
    · rw [hb, upd_same] at e
      rw [hb, ← e]; exact h3
    · rw [upd_ne hb] at e
      exact h.sub b y e
  · have kl : k < M.length := (List.getElem?_eq_some_iff.mp hk).1
    by_cases hj : j = k
    · subst hj
      rw [List.getElem?_set_self kl] at e
      cases e
      cases hl
    · rw [List.getElem?_set_ne (Ne.symm hj)] at e
      obtain ⟨b, zs, q1, q2, q3, q4⟩ := h.own j fs e hl
      have nb : b ≠ a := fun z => by rw [z] at q1; exact hj (nd_ix h.nd q1 h1)
      exact ⟨b, zs, q1, by rw [upd_ne nb]; exact q2, q3, q4.up x⟩
  · obtain ⟨g1, g2, g3⟩ := h.hid q hq
    have ne : q.1 ≠ a := fun z => g3 (by rw [z]; exact List.mem_of_getElem? h1)
    exact ⟨g1, by rw [upd_ne ne]; exact g2, g3⟩
  · obtain ⟨v, e1, q⟩ := h.env i d e
    exact ⟨v, e1, q.up x⟩
/-- the names change -/
theorem Sat.setN (h : Sat K ph S r M σ H) {i : Nat} {d : D} {v : V} (q : Rep K ph S v d) : Sat K ph S (r.set i (some d)) M (σ.set i (some v)) H := by
  refine ⟨h.sub, h.len, h.nd, h.trk, h.own, h.hid, h.hnd, by rw [List.length_set, List.length_set]; exact h.el, fun j e hj => ?_⟩
  by_cases hi : j = i
  · subst hi
    have jl : j < r.length := by
      have := (List.getElem?_eq_some_iff.mp hj).1
      rwa [List.length_set] at this
    rw [List.getElem?_set_self jl] at hj
    cases hj
    exact ⟨v, by rw [List.getElem?_set_self (by rw [← h.el]; exact jl)], q⟩
  · rw [List.getElem?_set_ne (Ne.symm hi)] at hj
    rw [List.getElem?_set_ne (Ne.symm hi)]
    exact h.env j e hj
/-- a new list, out of sight while it is made -/
theorem Sat.hide (h : Sat K ph S r M σ H) (hp : H p = none) (o : HO) : Sat K { ph with hid := (p, o) :: ph.hid } S r M σ (upd H p o) := by
  refine ⟨fun b y e => sameUpd hp _ _ (h.sub b y e), h.len, h.nd, fun k a e => ?_, fun k ds e hl => ?_, fun q hq => ?_, ?_, h.el, fun i d e => ?_⟩
  · obtain ⟨u, hu⟩ := h.trk k a e
    exact ⟨u, sameUpd hp _ _ hu⟩
  · obtain ⟨a, xs, h1, h2, h3, h4⟩ := h.own k ds e hl
    exact ⟨a, xs, h1, h2, sameUpd hp _ _ h3, OwnR.hid h4⟩
  · rcases List.mem_cons.mp hq with e | hq
    · rw [e]
      exact ⟨upd_same, h.noS hp, fun z => by
        obtain ⟨k, hk⟩ := List.mem_iff_getElem?.mp z
        exact h.notin hp k hk⟩
    · obtain ⟨h1, h2, h3⟩ := h.hid q hq
      exact ⟨sameUpd hp _ _ h1, h2, h3⟩
  · refine List.nodup_cons.mpr ⟨fun z => ?_, h.hnd⟩
    obtain ⟨q, hq, e⟩ := List.mem_map.mp z
    obtain ⟨h1, _, _⟩ := h.hid q hq
    have e' : q.1 = p := e
    rw [e', hp] at h1; cases h1
  · obtain ⟨v, e1, q⟩ := h.env i d e
    exact ⟨v, e1, Rep.hid q⟩
theorem hid_ne {p : Addr} {o : HO} {l : List (Addr × HO)} (h : ((p, o) :: l).map (·.1) |>.Nodup) : ∀ q ∈ l, q.1 ≠ p := fun q hq e =>
  (List.nodup_cons.mp h).1 (List.mem_map.mpr ⟨q, hq, e⟩)
/-- the hidden list changes -/
theorem Sat.hset {o o' : HO} {l : List (Addr × HO)} {c : List Addr} (h : Sat K ⟨c, (p, o) :: l⟩ S r M σ H) : Sat K ⟨c, (p, o') :: l⟩ S r M σ (upd H p o') := by
  obtain ⟨g1, g2, g3⟩ := h.hid _ List.mem_cons_self
  have nS : ∀ b y, S b = some y → b ≠ p := fun b y e z => by rw [z, g2] at e; cases e
  have nc : ∀ (k : Nat) (a : Addr), c[k]? = some a → a ≠ p := fun k a e z => g3 (by rw [← z]; exact List.mem_of_getElem? e)
  refine ⟨fun b y e => by rw [upd_ne (nS b y e)]; exact h.sub b y e, h.len, h.nd, fun k a e => ?_, fun k ds e hl => ?_, fun q hq => ?_, h.hnd, h.el, fun i d e => ?_⟩
  · obtain ⟨u, hu⟩ := h.trk k a e
    exact ⟨u, by rw [upd_ne (nc k a e)]; exact hu⟩
  · obtain ⟨a, xs, h1, h2, h3, h4⟩ := h.own k ds e hl
    exact ⟨a, xs, h1, h2, by rw [upd_ne (nc k a h1)]; exact h3, OwnR.hid h4⟩
  · rcases List.mem_cons.mp hq with e | hq
    · rw [e]
      exact ⟨upd_same, g2, g3⟩
    · obtain ⟨h1, h2, h3⟩ := h.hid q (List.mem_cons_of_mem _ hq)
      exact ⟨by rw [upd_ne (hid_ne h.hnd q hq)]; exact h1, h2, h3⟩
  · obtain ⟨v, e1, q⟩ := h.env i d e
    exact ⟨v, e1, Rep.hid q⟩
/-- the hidden list is done: it is only read from now on -/
theorem Sat.hfrz {o : HO} {l : List (Addr × HO)} {c : List Addr} (h : Sat K ⟨c, (p, o) :: l⟩ S r M σ H) : Ext ⟨c, l⟩ S ⟨c, l⟩ (upd S p o) ∧ Sat K ⟨c, l⟩ (upd S p o) r M σ H := by
  obtain ⟨g1, g2, g3⟩ := h.hid _ List.mem_cons_self
  have x : Ext ⟨c, l⟩ S ⟨c, l⟩ (upd S p o) := ⟨fun _ _ e => e, sameUpd g2, rfl⟩
  refine ⟨x, fun b y e => ?_, h.len, h.nd, h.trk, fun k ds e hl => ?_, fun q hq => ?_, (List.nodup_cons.mp h.hnd).2, h.el, fun i d e => ?_⟩
  · by_cases hb : b = p
    · rw [hb, upd_same] at e
      rw [hb, ← e]; exact g1
    · rw [upd_ne hb] at e
      exact h.sub b y e
  · obtain ⟨a, xs, h1, h2, h3, h4⟩ := h.own k ds e hl
    have ne : a ≠ p := fun z => g3 (by rw [← z]; exact List.mem_of_getElem? h1)
    exact ⟨a, xs, h1, by rw [upd_ne ne]; exact h2, h3, (OwnR.hid h4).up x⟩
  · obtain ⟨h1, h2, h3⟩ := h.hid q (List.mem_cons_of_mem _ hq)
    exact ⟨h1, by rw [upd_ne (hid_ne h.hnd q hq)]; exact h2, h3⟩
  · obtain ⟨v, e1, q⟩ := h.env i d e
    exact ⟨v, e1, (Rep.hid q).up x⟩
/-- .. or it is owned from now on -/
theorem Sat.hownO {o : HO} {w : Own} {l : List (Addr × HO)} {c : List Addr} (h : Sat K ⟨c, (p, o) :: l⟩ S r M σ H) (q : OwnR K ⟨c, l⟩ S w o) :
    Ext ⟨c, l⟩ S ⟨c ++ [p], l⟩ S ∧ Sat K ⟨c ++ [p], l⟩ S r (M ++ [w]) σ H ∧ (c ++ [p])[M.length]? = some p := by
  obtain ⟨g1, g2, g3⟩ := h.hid _ List.mem_cons_self
  have hl : c.length = M.length := h.len
  have x : Ext ⟨c, l⟩ S ⟨c ++ [p], l⟩ S := ⟨fun k a e => by
    show (c ++ [p])[k]? = _
    rw [List.getElem?_append_left (List.getElem?_eq_some_iff.mp e).1]; exact e, fun _ _ e => e, rfl⟩
  have here : (c ++ [p])[M.length]? = some p := by rw [← hl, List.getElem?_append_right (Nat.le_refl _), Nat.sub_self]; rfl
  have old : ∀ (k : Nat) (a : Addr), (c ++ [p])[k]? = some a → c[k]? = some a ∨ a = p := fun k a e => by
    by_cases hk : k < c.length
    · rw [List.getElem?_append_left hk] at e
      exact .inl e
    · rw [List.getElem?_append_right (by omega)] at e
      cases hk' : k - c.length with
      | zero => rw [hk'] at e; exact .inr (Option.some.inj e).symm
      | succ n => rw [hk'] at e; simp at e
  refine ⟨x, ⟨h.sub, ?_, ?_, fun k a e => ?_, fun k es e hl => ?_, fun q hq => ?_, (List.nodup_cons.mp h.hnd).2, h.el, fun i d e => ?_⟩, here⟩
  · show (c ++ [p]).length = _
    rw [List.length_append, List.length_append, hl]; rfl
  · show (c ++ [p]).Nodup
    rw [List.nodup_append]
    exact ⟨h.nd, by simp, fun a ha b hb z => g3 (by rw [show b = p by simpa using hb] at z; rw [← z]; exact ha)⟩
  · rcases old k a e with z | z
    · exact h.trk k a z
    · exact ⟨_, by rw [z]; exact g1⟩
  · by_cases hk : k < M.length
    · rw [List.getElem?_append_left hk] at e
      obtain ⟨a, ys, h1, h2, h3, h4⟩ := h.own k es e hl
      exact ⟨a, ys, x.pre _ _ h1, h2, h3, (OwnR.hid h4).up x⟩
    · rw [List.getElem?_append_right (by omega)] at e
      cases hk' : k - M.length with
      | succ n => rw [hk'] at e; simp at e
      | zero =>
        rw [hk'] at e
        have e' : w = es := by simpa using e
        have k' : k = M.length := by omega
        subst e'
        subst k'
        exact ⟨p, o, here, g2, g1, q.up x⟩
  · obtain ⟨h1, h2, h3⟩ := h.hid q (List.mem_cons_of_mem _ hq)
    exact ⟨h1, h2, fun z => by
      rcases List.mem_append.mp z with z | z
      · exact h3 z
      · exact hid_ne h.hnd q hq (by simpa using z)⟩
  · obtain ⟨v, e1, q⟩ := h.env i d e
    exact ⟨v, e1, (Rep.hid q).up x⟩
theorem Sat.hown {xs : List V} {ds : List D} {l : List (Addr × HO)} {c : List Addr} (h : Sat K ⟨c, (p, .lst xs) :: l⟩ S r M σ H) (q : RepAll K ⟨c, l⟩ S xs ds) :
    Ext ⟨c, l⟩ S ⟨c ++ [p], l⟩ S ∧ Sat K ⟨c ++ [p], l⟩ S r (M ++ [.lst ds]) σ H ∧ (c ++ [p])[M.length]? = some p := h.hownO ⟨xs, rfl, q⟩
/-! ### data as the library's data -/
variable {X : Cx} {pins : List (Addr × Obj)} {s : Shared}
mutual
theorem Rep.reads (I : Inv X pins σ H s) : ∀ (d : D) (v : V) (u : Value) (p : PyData), Rep X.K ph H v d → RelV v u → toPy d = some p → ∃ as, Reads s.heap u p as ∧ ∀ a ∈ as, H a ≠ none
  | .non, _, _, _, h, rv, e => by cases h; cases rv; cases e; exact ⟨_, .none, fun _ z => nomatch z⟩
  | .bl _, _, _, _, h, rv, e => by cases h; cases rv; cases e; exact ⟨_, .bool _, fun _ z => nomatch z⟩
  | .int _, _, _, _, h, rv, e => by cases h; obtain ⟨t, rfl⟩ := rv; cases e; exact ⟨_, .int _ _, fun _ z => nomatch z⟩
  | .str _, _, _, _, h, rv, e => by cases h; obtain ⟨t, rfl⟩ := rv; cases e; exact ⟨_, .str _ _, fun _ z => nomatch z⟩
  | .tup ds, _, _, _, h, rv, e => by
    cases h with
    | tup h1 h2 =>
      cases rv
      simp only [toPy] at e
      split at e
      · rename_i ps ep
        cases e
        obtain ⟨its, rx, ⟨o, ho, hc, n, hd⟩, _⟩ := I.tuple (h1.sq fun _ _ z => z)
        obtain ⟨as, q, qa⟩ := RepAll.reads I ds _ its ps h2 rx ep
        exact ⟨_, .tuple ho hc hd q, qa⟩
      · cases e
  | .lst ds, _, _, _, h, rv, e => by
    cases h with
    | lst h1 h2 =>
      cases rv
      simp only [toPy] at e
      split at e
      · rename_i ps ep
        cases e
        obtain ⟨its, rx, ⟨o, n, ho, hc, _, hd⟩, _⟩ := I.list (SqL.of h1)
        obtain ⟨as, q, qa⟩ := RepAll.reads I ds _ its ps h2 rx ep
        refine ⟨_, .list ho hc hd q, fun a ha => ?_⟩
        rcases List.mem_cons.mp ha with e | ha
        · rw [e, h1]; exact fun z => nomatch z
        · exact qa a ha
      · cases e
  | .dct0, _, _, _, h, rv, e => by
    cases h with
    | dct0 h1 =>
      cases rv
      cases e
      obtain ⟨_, _, vs, hk, o, es, ep, ho, hx, hd, _, he, _⟩ := I.hok _ _ h1
      cases hk
      have e0 : es = #[] := by
        cases es with
        | mk l =>
          cases l with
          | nil => rfl
          | cons x l => exact nomatch he
      subst e0
      refine ⟨_, .dict ho hx.1 hd .nil .nil, fun a ha => ?_⟩
      simp at ha
      rw [ha, h1]; exact fun z => nomatch z
  | .scr ns, _, _, _, _, _, e => by cases e
  | .own _, _, _, _, _, _, e => by cases e
  | .exc _ _, _, _, _, _, _, e => by cases e
  | .glb _, _, _, _, _, _, e => by cases e
  | .val _, _, _, _, _, _, e => by cases e
theorem RepAll.reads (I : Inv X pins σ H s) : ∀ (ds : List D) (vs : List V) (us : List Value) (ps : List PyData), RepAll X.K ph H vs ds → Vals vs us → toPyAll ds = some ps → ∃ as, ReadsAll s.heap us ps as ∧ ∀ a ∈ as, H a ≠ none
  | [], _, _, _, h, rv, e => by cases h; cases rv; cases e; exact ⟨_, .nil, fun _ z => nomatch z⟩
  | d :: ds, _, _, _, h, rv, e => by
    cases h with
    | cons h1 h2 =>
      cases rv with
      | cons r1 r2 =>
        simp only [toPyAll] at e
        split at e
        · rename_i p ps ep eps
          cases e
          obtain ⟨as, q1, a1⟩ := Rep.reads I d _ _ p h1 r1 ep
          obtain ⟨bs, q2, a2⟩ := RepAll.reads I ds _ _ ps h2 r2 eps
          refine ⟨_, .cons q1 q2, fun a ha => ?_⟩
          rcases List.mem_append.mp ha with ha | ha
          · exact a1 a ha
          · exact a2 a ha
        · cases e
end
end
end DL
/-! DL3: operators, comparisons, truth, displays -/
namespace DL
open PySem PySem.Spec PyProof.Rows L2
variable {X : Cx}
/-! ### two values -/
abbrev G2 := D → D → Mem → DQ → Prop
def OpD (X : Cx) (f : Value → Value → Sem Value) (g : G2) : Prop :=
  ∀ (pins : List (Addr × Obj)) (s : Shared) (σ : St) (H : Hp) (ph : Ph) (S : Hp) (r : Env) (M : Mem) (x y : V) (dx dy : D) (v u : Value) (Q : DQ),
    Inv X pins σ H s → Sat X.K ph S r M σ H → RelV x v → RelV y u → Rep X.K ph S x dx → Rep X.K ph S y dy → g dx dy M Q →
    wpAny (model X.prog X.w) X.A (f v u) (EP X pins σ (post X.K ph S r σ Q)) X.xe s
theorem OpD.of {f : Value → Value → Sem Value} {r2 : R2} {g : G2} (h : OpR X f r2)
    (w : ∀ (σ : St) (H : Hp) (ph : Ph) (S : Hp) (r : Env) (M : Mem) (x y : V) (dx dy : D) (Q : DQ), Sat X.K ph S r M σ H → Rep X.K ph S x dx → Rep X.K ph S y dy → g dx dy M Q → r2 x y H (post X.K ph S r σ Q)) : OpD X f g :=
  fun pins s σ H ph S r M x y dx dy v u Q I hs rx ry qx qy hg => h pins s σ H x y v u _ I rx ry (w σ H ph S r M x y dx dy Q hs qx qy hg)
theorem binD {a b : Expr} {ta tb : DTE} (ha : DE X a ta) (hb : DE X b tb) {pins : List (Addr × Obj)} {s : Shared} {σ : St} {H : Hp} {ph : Ph} {S : Hp} {r : Env} {M : Mem} {g : D → D → Mem → Prop}
    (I : Inv X pins σ H s) (hs : Sat X.K ph S r M σ H) (h : ta r M fun x M1 => tb r M1 fun y M2 => g x y M2) {α : Type} {Q : α → Shared → Prop} {f : Value → Value → Sem α}
    (hf : ∀ v u s2 x y dx dy H2 ph2 S2 M2, Ext ph S ph2 S2 → Inv X pins σ H2 s2 → Sat X.K ph2 S2 r M2 σ H2 → RelV x v → RelV y u → Rep X.K ph2 S2 x dx → Rep X.K ph2 S2 y dy → g dx dy M2 → wpAny (model X.prog X.w) X.A (f v u) Q X.xe s2) :
    wpAny (model X.prog X.w) X.A (eval a X.env) (fun v s1 => wpAny (model X.prog X.w) X.A (eval b X.env) (fun u s2 => wpAny (model X.prog X.w) X.A (f v u) Q X.xe s2) X.xe s1) X.xe s := by
  refine thn (ha.pe.run pins s σ H _ I ⟨ph, S, r, M, _, hs, h, fun _ _ q => q⟩) fun v s1 ⟨x, H1, I1, r1, ph1, S1, M1, x1, hs1, dx, q1, h1⟩ => ?_
  refine thn (hb.pe.run pins s1 σ H1 _ I1 ⟨ph1, S1, r, M1, _, hs1, h1, fun _ _ q => q⟩) fun u s2 ⟨y, H2, I2, r2, ph2, S2, M2, x2, hs2, dy, q2, h2⟩ => ?_
  exact hf v u s2 x y dx dy H2 ph2 S2 M2 (x1.trans x2) I2 hs2 r1 r2 (q1.up x2) q2 h2
def dOp (g : G2) (ta tb : DTE) : DTE := fun r M Q => ta r M fun x M1 => tb r M1 fun y M2 => g x y M2 Q
theorem EP.up {pins : List (Addr × Obj)} {σ : St} {ph ph1 : Ph} {S S1 : Hp} {r : Env} {Q : DQ} {u : Value} {s : Shared} (x : Ext ph S ph1 S1) (h : EP X pins σ (post X.K ph1 S1 r σ Q) u s) {Q' : VK} (w : ∀ v H', post X.K ph S r σ Q v H' → Q' v H') : EP X pins σ Q' u s :=
  let ⟨v, H', I, rv, q⟩ := h
  ⟨v, H', I, rv, w _ _ (Aft.up x q)⟩
theorem de_op {a b : Expr} {ta tb : DTE} {op : Operator} {g : G2} {pos : Pos} (ho : OpD X (binaryOp op) g) (ha : DE X a ta) (hb : DE X b tb) : DE X (.BinOp a op b pos) (dOp g ta tb) :=
  ⟨⟨fun pins s σ H Q I ⟨ph, S, r, M, Q0, hs, ht, hq⟩ => wpAny_BinOp (binD ha hb I hs ht fun v u s2 x y dx dy H2 ph2 S2 M2 x2 I2 hs2 rx ry qx qy h =>
    thn (ho pins s2 σ H2 ph2 S2 r M2 x y dx dy v u Q0 I2 hs2 rx ry qx qy h) fun _ _ q => EP.up x2 q hq)⟩⟩
theorem de_cmp {a b : Expr} {ta tb : DTE} {op : CmpOp} {g : G2} {pos : Pos} (ho : OpD X (compareOp op) g) (ha : DE X a ta) (hb : DE X b tb) (hm : behindInMarks op b = false) : DE X (.Compare a [op] [b] pos) (dOp g ta tb) :=
  ⟨⟨fun pins s σ H Q I ⟨ph, S, r, M, Q0, hs, ht, hq⟩ => wpAny_Compare1 (binD ha hb I hs ht fun v u s2 x y dx dy H2 ph2 S2 M2 x2 I2 hs2 rx ry qx qy h =>
    thn (ho pins s2 σ H2 ph2 S2 r M2 x y dx dy v u Q0 I2 hs2 rx ry qx qy h) fun _ _ q => EP.up x2 q hq) hm⟩⟩
/-! ### arithmetic -/
/-- of moderate size -/
def Sm (i : Int) : Prop := i.natAbs.log2 < 400000
theorem Sm.of {i : Int} (n : Nat) (h : i.natAbs < 2 ^ n) (hn : n ≤ 400000 := by decide) : Sm i := by
  unfold Sm
  by_cases h0 : i.natAbs = 0
  · rw [h0]; decide
  · exact Nat.lt_of_lt_of_le ((Nat.log2_lt h0).mpr h) hn
def rBin (C : Int → Int → Prop) (f : Int → Int → Int) : G2 := fun x y M Q => match x, y with
  | .int i, .int j => C i j ∧ Q (.int (f i j)) M
  | _, _ => False
theorem opd_int {F : Value → Value → Sem Value} {C : Int → Int → Prop} {f : Int → Int → Int} (h : OpR X F (rI C fun i j => .int (f i j))) : OpD X F (rBin C f) :=
  OpD.of h fun σ H ph S r M x y dx dy Q hs rx ry hg => by
    cases dx <;> cases dy <;> first | exact hg.elim | skip
    cases rx; cases ry
    exact ⟨_, _, rfl, rfl, hg.1, Aft.here hs ⟨_, .int _, hg.2⟩⟩
theorem opd_sub : OpD X (binaryOp .Sub) (rBin (fun _ _ => True) fun i j => i - j) := opd_int (fun pins s σ H x y v u Q I r1 r2 ⟨i, j, e1, e2, _, q⟩ => op_sub pins s σ H x y v u Q I r1 r2 ⟨i, j, e1, e2, q⟩)
def CMul (i j : Int) : Prop := Sm i ∧ Sm j
def CDiv (_ j : Int) : Prop := j ≠ 0 ∧ j.natAbs.log2 < 9000
def CMod (_ j : Int) : Prop := j ≠ 0
def CPow (a n : Int) : Prop := 0 ≤ n ∧ (Builtin.Int.intBits a : Int) * n ≤ 2 ^ 27
theorem opd_mulI : OpD X (binaryOp .Mult) (rBin CMul fun i j => i * j) := opd_int (fun pins s σ H x y v u Q I r1 r2 ⟨i, j, e1, e2, c, q⟩ => op_mulW pins s σ H x y v u Q I r1 r2 ⟨i, j, e1, e2, by have h1 := c.1; have h2 := c.2; unfold Sm at h1 h2; unfold L2.CMulW; omega, q⟩)
theorem op_fdivG : OpR X (binaryOp .FloorDiv) (rI CDiv fun i j => .int (i.fdiv j)) := opI fun i j _ _ _ _ _ hc q => floordiv_int hc.1 q (.inl (PyProof.noPylong_of_log2 hc.2))
theorem opd_fdiv : OpD X (binaryOp .FloorDiv) (rBin CDiv fun i j => i.fdiv j) := opd_int op_fdivG
theorem opd_mod : OpD X (binaryOp .Mod) (rBin CMod fun i j => i.fmod j) := opd_int op_modN
theorem op_powG : OpR X (binaryOp .Pow) (rI CPow fun i j => .int (i ^ j.toNat)) := opI fun i j _ _ _ _ _ hc q => pow_int hc.1 hc.2 q
theorem opd_pow : OpD X (binaryOp .Pow) (rBin CPow fun i j => i ^ j.toNat) := opd_int op_powG
/-- x + y -/
def gAdd : G2 := fun x y M Q => match x, y with
  | .int i, .int j => Q (.int (i + j)) M
  | .str a, .str b => a.length + b.length ≤ sizeLine ∧ Q (.str (a ++ b)) M
  | .lst a, .lst b => a.length + b.length ≤ sizeLine ∧ Q (.lst (a ++ b)) M
  | .tup a, .tup b => a.length + b.length ≤ sizeLine ∧ Q (.tup (a ++ b)) M
  | .own k, .lst b => match M[k]? with
    | some (.lst a) => a.length + b.length ≤ sizeLine ∧ Q (.lst (a ++ b)) M
    | _ => False
  | .lst b, .own k => match M[k]? with
    | some (.lst a) => b.length + a.length ≤ sizeLine ∧ Q (.lst (b ++ a)) M
    | _ => False
  | _, _ => False
theorem Aft.frz {K : PySem.W.Frag} {ph : Ph} {S : Hp} {r : Env} {σ : St} {H : Hp} {M : Mem} {p : Addr} {o : HO} {Q : Ph → Hp → Mem → Prop} (h : Sat K ph S r M σ H) (hp : H p = none) (q : Ext ph S ph (upd S p o) → Q ph (upd S p o) M) : Aft K ph S r σ (upd H p o) Q :=
  let ⟨x, hs⟩ := h.frz hp o
  ⟨ph, _, M, x, hs, q x⟩
theorem opd_add : OpD X (binaryOp .Add) gAdd := by
  intro pins s σ H ph S r M x y dx dy v u Q I hs rx ry qx qy hg
  cases dx <;> cases dy <;> first | exact hg.elim | skip
  · cases qx; cases qy
    exact op_add pins s σ H _ _ v u _ I rx ry ⟨_, _, rfl, rfl, Aft.here hs ⟨_, .int _, hg⟩⟩
  · cases qx; cases qy
    exact op_add_str pins s σ H _ _ v u _ I rx ry ⟨_, _, rfl, rfl, hg.1, Aft.here hs ⟨_, .str _, hg.2⟩⟩
  · cases qx with
    | tup h1 h2 =>
      cases qy with
      | tup h3 h4 =>
        obtain ⟨hz, q⟩ := hg
        rename_i xs _ ys
        have e1 := h2.len
        have e2 := h4.len
        refine op_catA pins s σ H _ _ v u _ I rx ry ⟨_, _, xs, ys, rfl, rfl, h1.sq hs.sub, h3.sq hs.sub, by omega, fun z => ?_, fun _ z => ?_, fun _ _ p hp => Aft.frz hs hp fun x => ⟨_, .tup (.inl upd_same) ((h2.app h4).up x), q⟩⟩
        · refine Aft.here hs ⟨_, .tup h3 ?_, q⟩
          rw [z] at h2
          cases h2
          exact h4
        · refine Aft.here hs ⟨_, .tup h1 ?_, q⟩
          rw [z] at h4
          cases h4
          rw [List.append_nil]; exact h2
  · cases qx with
    | lst h1 h2 =>
      cases qy with
      | lst h3 h4 =>
        have e1 := h2.len
        have e2 := h4.len
        exact op_cat pins s σ H _ _ v u _ I rx ry ⟨_, _, _, _, rfl, rfl, hs.sub _ _ h1, hs.sub _ _ h3, by have := hg.1; omega, fun p hp => Aft.frz hs hp fun x => ⟨_, .lst upd_same ((h2.app h4).up x), hg.2⟩⟩
  · cases qx with
    | lst h1 h2 =>
      cases qy with
      | own h3 =>
        rename_i b k _ _ _
        simp only [gAdd] at hg
        split at hg
        · rename_i a hk
          obtain ⟨a1, xs1, c1, c2, c3, c4⟩ := hs.cell k a hk
          rw [h3] at c1; cases c1
          have e1 := h2.len
          have e2 := c4.len
          exact op_cat pins s σ H _ _ v u _ I rx ry ⟨_, _, _, _, rfl, rfl, hs.sub _ _ h1, c3, by have := hg.1; omega, fun p hp => Aft.frz hs hp fun x => ⟨_, .lst upd_same ((h2.app c4).up x), hg.2⟩⟩
        · exact hg.elim
  · cases qx with
    | own h3 =>
      cases qy with
      | lst h1 h2 =>
        rename_i k b _ _ _
        simp only [gAdd] at hg
        split at hg
        · rename_i a hk
          obtain ⟨a1, xs1, c1, c2, c3, c4⟩ := hs.cell k a hk
          rw [h3] at c1; cases c1
          have e1 := h2.len
          have e2 := c4.len
          exact op_cat pins s σ H _ _ v u _ I rx ry ⟨_, _, _, _, rfl, rfl, c3, hs.sub _ _ h1, by have := hg.1; omega, fun p hp => Aft.frz hs hp fun x => ⟨_, .lst upd_same ((c4.app h2).up x), hg.2⟩⟩
        · exact hg.elim
/-! ### comparisons -/
def gCmpI (p : Int → Int → Bool) : G2 := fun x y M Q => match x, y with
  | .int i, .int j => Q (.bl (p i j)) M
  | _, _ => False
theorem opd_cmpI {F : Value → Value → Sem Value} {p : Int → Int → Bool} (h : OpR X F (rI0 fun i j => .bl (p i j))) : OpD X F (gCmpI p) :=
  OpD.of h fun σ H ph S r M x y dx dy Q hs rx ry hg => by
    cases dx <;> cases dy <;> first | exact hg.elim | skip
    cases rx; cases ry
    exact ⟨_, _, rfl, rfl, Aft.here hs ⟨_, .bl _, hg⟩⟩
theorem opd_lt : OpD X (compareOp .Lt) (gCmpI fun i j => decide (i < j)) := opd_cmpI op_lt
theorem opd_le : OpD X (compareOp .LtE) (gCmpI fun i j => decide (i ≤ j)) := opd_cmpI op_le
theorem opd_gt : OpD X (compareOp .Gt) (gCmpI fun i j => decide (j < i)) := opd_cmpI op_gt
theorem opd_ge : OpD X (compareOp .GtE) (gCmpI fun i j => decide (j ≤ i)) := opd_cmpI op_ge
/-- an owned list as it stands -/
def res (M : Mem) : D → D
  | .own k => match M[k]? with
    | some (.lst ds) => .lst ds
    | _ => .own k
  | d => d
theorem Rep.res {K : PySem.W.Frag} {ph : Ph} {S : Hp} {r : Env} {M : Mem} {σ : St} {H : Hp} {v : V} {d : D} (hs : Sat K ph S r M σ H) (q : Rep K ph S v d) : Rep K ph H v (res M d) := by
  cases d <;> first | exact hs.read q | skip
  rename_i k
  unfold DL.res
  dsimp only
  split
  · rename_i ds hk
    cases q with
    | own h =>
      obtain ⟨a, xs, c1, c2, c3, c4⟩ := hs.cell k ds hk
      rw [h] at c1; cases c1
      exact .lst c3 (hs.readAll c4)
  · exact hs.read q
/-- data that may be compared -/
def cmpd (d : D) : Option PyData := match toPy d with
  | some p => if SeqAt.shaped p = true then some p else none
  | none => none
theorem cmpd_some {d : D} {p : PyData} (h : cmpd d = some p) : toPy d = some p ∧ SeqAt.shaped p = true := by
  unfold cmpd at h
  split at h
  · rename_i p' e
    by_cases hs : SeqAt.shaped p' = true
    · rw [if_pos hs] at h; cases h; exact ⟨e, hs⟩
    · rw [if_neg hs] at h; cases h
  · cases h
/-- x == y of two data read; none: not covered -/
def eqB (x y : D) : Option Bool := match x, y with
  | .str a, .str b => some (a == b)
  | x, y => match cmpd x, cmpd y with
    | some p, some q => some (PyData.eqv p q)
    | _, _ => none
theorem eqB_of {x y : D} {b : Bool} (h : eqB x y = some b) : (∃ p q, x = .str p ∧ y = .str q ∧ b = (p == q)) ∨ ∃ p q, cmpd x = some p ∧ cmpd y = some q ∧ b = PyData.eqv p q := by
  unfold eqB at h
  split at h
  · exact .inl ⟨_, _, rfl, rfl, (Option.some.inj h).symm⟩
  · split at h
    · rename_i e1 e2; exact .inr ⟨_, _, e1, e2, (Option.some.inj h).symm⟩
    · cases h
def gEq : G2 := fun x y M Q => match eqB (res M x) (res M y) with
  | some b => Q (.bl b) M
  | none => False
def gNe : G2 := fun x y M Q => match eqB (res M x) (res M y) with
  | some b => Q (.bl (!b)) M
  | none => False
theorem res_str {M : Mem} {d : D} {z : Str} (h : res M d = .str z) : d = .str z := by
  cases d <;> first | exact h | skip
  rename_i k
  unfold res at h
  dsimp only at h
  split at h <;> cases h
theorem opd_eq (hu : X.A.units + 64 < cLine) : OpD X (compareOp .Eq) gEq := by
  intro pins s σ H ph S r M x y dx dy v u Q I hs rx ry qx qy hg
  unfold gEq at hg
  split at hg
  · rename_i b e
    rcases eqB_of e with ⟨p, q, e1, e2, rfl⟩ | ⟨p, q, e1, e2, rfl⟩
    · cases res_str e1; cases res_str e2
      cases qx; cases qy
      obtain ⟨_, rfl⟩ := rx
      obtain ⟨_, rfl⟩ := ry
      exact PyProof.Rows.eq_str ⟨.bl _, H, I, rfl, Aft.here hs ⟨_, .bl _, hg⟩⟩
    · obtain ⟨as, h1, _⟩ := Rep.reads I _ _ _ _ (Rep.res hs qx) rx (cmpd_some e1).1
      obtain ⟨bs, h2, _⟩ := Rep.reads I _ _ _ _ (Rep.res hs qy) ry (cmpd_some e2).1
      exact SeqAt.compareEq_shaped h1 h2 (cmpd_some e1).2 (cmpd_some e2).2 hu ⟨.bl _, H, I, rfl, Aft.here hs ⟨_, .bl _, hg⟩⟩
  · exact hg.elim
theorem opd_ne (hu : X.A.units + 64 < cLine) : OpD X (compareOp .NotEq) gNe := by
  intro pins s σ H ph S r M x y dx dy v u Q I hs rx ry qx qy hg
  unfold gNe at hg
  split at hg
  · rename_i b e
    rcases eqB_of e with ⟨p, q, e1, e2, rfl⟩ | ⟨p, q, e1, e2, rfl⟩
    · cases res_str e1; cases res_str e2
      cases qx; cases qy
      obtain ⟨_, rfl⟩ := rx
      obtain ⟨_, rfl⟩ := ry
      exact PyProof.Rows.ne_str ⟨.bl _, H, I, rfl, Aft.here hs ⟨_, .bl _, hg⟩⟩
    · obtain ⟨as, h1, _⟩ := Rep.reads I _ _ _ _ (Rep.res hs qx) rx (cmpd_some e1).1
      obtain ⟨bs, h2, _⟩ := Rep.reads I _ _ _ _ (Rep.res hs qy) ry (cmpd_some e2).1
      exact SeqAt.compareNe_shaped h1 h2 (cmpd_some e1).2 (cmpd_some e2).2 hu ⟨.bl _, H, I, rfl, Aft.here hs ⟨_, .bl _, hg⟩⟩
  · exact hg.elim
/-- x in y, y a list -/
def gIn (neg : Bool) : G2 := fun x y M Q => match cmpd (res M x), cmpd (res M y) with
  | some p, some (.list ps) => Q (.bl ((ps.any fun z => PyData.eqv z p) != neg)) M
  | _, _ => False
theorem opd_in (hu : X.A.units + 65 < cLine) : OpD X (compareOp .In) (gIn false) := by
  intro pins s σ H ph S r M x y dx dy v u Q I hs rx ry qx qy hg
  unfold gIn at hg
  split at hg
  · rename_i p ps e1 e2
    obtain ⟨as, h1, _⟩ := Rep.reads I _ _ _ _ (Rep.res hs qx) rx (cmpd_some e1).1
    obtain ⟨bs, h2, _⟩ := Rep.reads I _ _ _ _ (Rep.res hs qy) ry (cmpd_some e2).1
    refine SeqAt.in_list_reads h2 h1 (SeqAt.canLay_of_shaped (cmpd_some e2).2) (SeqAt.canLay_of_shaped (cmpd_some e1).2) (room_in_shaped (cmpd_some e1).2 hu) ⟨.bl _, H, I, rfl, Aft.here hs ⟨_, .bl _, ?_⟩⟩
    rw [Bool.bne_false] at hg; exact hg
  · exact hg.elim
end DL
/-! DL4: is, truth, chains, and/or/not, displays, subscripts, argument lists -/
namespace DL
open PySem PySem.Spec PyProof.Rows L2
variable {X : Cx}
/-! ### is -/
/-- x is y, y written None, True or False -/
def isB (x y : D) : Option Bool := match x, y with
  | .non, .non => some true
  | .bl b, .non => some false
  | .int _, .non => some false
  | .str _, .non => some false
  | .tup _, .non => some false
  | .lst _, .non => some false
  | .own _, .non => some false
  | .dct0, .non => some false
  | .exc _ _, .non => some false
  | .bl a, .bl b => some (decide (a = b))
  | .non, .bl _ => some false
  | .int _, .bl _ => some false
  | .str _, .bl _ => some false
  | .tup _, .bl _ => some false
  | .lst _, .bl _ => some false
  | .own _, .bl _ => some false
  | .dct0, .bl _ => some false
  | _, _ => none
def gIs (neg : Bool) : G2 := fun x y M Q => match isB x y with
  | some b => Q (.bl (b != neg)) M
  | none => False
theorem opd_is : OpD X (compareOp .Is) (gIs false) := by
  intro pins s σ H ph S r M x y dx dy v u Q I hs rx ry qx qy hg
  have fin : ∀ b : Bool, Q (.bl (b != false)) M → EP X pins σ (post X.K ph S r σ Q) (.bool b) s := fun b q => ⟨.bl b, H, I, rfl, Aft.here hs ⟨_, .bl _, by rwa [Bool.bne_false] at q⟩⟩
  cases dy <;> cases dx <;> first | exact hg.elim | skip
  all_goals cases qx <;> cases qy
  all_goals (first | (obtain ⟨t, rfl⟩ := rx) | cases rx)
  all_goals cases ry
  all_goals first
    | exact wpAny_is_other rfl (fun z => nomatch z) (fin false hg)
    | exact wpAny_is_self rfl (fin true hg)
    | skip
  rename_i b c
  by_cases e : c = b
  · subst e
    exact wpAny_is_self rfl (fin true (by simpa [gIs, isB] using hg))
  · exact wpAny_is_other rfl (fun z => e (Value.bool.inj z)) (fin false (by simpa [gIs, isB, e] using hg))
/-! ### truth -/
def tru (M : Mem) : D → Option Bool
  | .non => some false
  | .bl b => some b
  | .int i => some (i != 0)
  | .str x => if x.length ≤ sizeLine then some ((x.length : Int) != 0) else none
  | .tup l => some (!l.isEmpty)
  | .lst l => some (!l.isEmpty)
  | .own k => match M[k]? with
    | some (.lst l) => some (!l.isEmpty)
    | _ => none
  | .dct0 => some false
  | _ => none
theorem isEmp {K : PySem.W.Frag} {ph : Ph} {S : Hp} {xs : List V} {ds : List D} (h : RepAll K ph S xs ds) : (!ds.isEmpty) = !xs.isEmpty := by cases h <;> rfl
theorem tru_V {K : PySem.W.Frag} {ph : Ph} {S : Hp} {r : Env} {M : Mem} {σ : St} {H : Hp} {x : V} {d : D} {k : Bool} (hs : Sat K ph S r M σ H) (q : Rep K ph S x d) (h : tru M d = some k) : TruV K x H k := by
  cases d with
  | non => cases q; exact (Option.some.inj h).symm
  | bl b => cases q; exact (Option.some.inj h).symm
  | int i => cases q; exact (Option.some.inj h).symm
  | str z =>
    cases q
    have h' : (if z.length ≤ sizeLine then some ((z.length : Int) != 0) else none) = some k := h
    by_cases hz : z.length ≤ sizeLine
    · rw [if_pos hz] at h'
      exact ⟨hz, (Option.some.inj h').symm⟩
    · rw [if_neg hz] at h'; cases h'
  | tup l =>
    cases q with
    | tup h1 h2 => exact .inr (.inl ⟨_, h1.sq hs.sub, by rw [← isEmp h2]; exact (Option.some.inj h).symm⟩)
  | lst l =>
    cases q with
    | lst h1 h2 => exact .inl ⟨_, SqL.of (hs.sub _ _ h1), by rw [← isEmp h2]; exact (Option.some.inj h).symm⟩
  | dct0 =>
    cases q with
    | dct0 h1 => exact .inr (.inr ⟨_, hs.sub _ _ h1, (Option.some.inj h).symm⟩)
  | own j =>
    cases q with
    | own h1 =>
      unfold tru at h
      dsimp only at h
      split at h
      · rename_i l hk
        obtain ⟨a, xs, c1, c2, c3, c4⟩ := hs.cell j l hk
        rw [h1] at c1; cases c1
        exact .inl ⟨_, SqL.of c3, by rw [← isEmp c4]; exact (Option.some.inj h).symm⟩
      · cases h
  | scr ns => cases h
  | exc C d => cases h
  | glb x => cases h
  | val v => cases h
/-- what d's truth is -/
def gTru (d : D) (M : Mem) (Q : Bool → Prop) : Prop := match tru M d with
  | some b => Q b
  | none => False
def dTru (t : DTE) : DTT := fun r M Q => t r M fun d M1 => gTru d M1 fun b => Q b M1
theorem gTru_some {d : D} {M : Mem} {Q : Bool → Prop} (h : gTru d M Q) : ∃ b, tru M d = some b ∧ Q b := by
  unfold gTru at h
  split at h
  · rename_i b e; exact ⟨b, e, h⟩
  · exact h.elim
/-- an expression as a test -/
theorem dt_tru {e : Expr} {t : DTE} (h : DE X e t) (he : ∀ whole, isTrue e X.env whole = (do let v ← whole; standAt e.pos; holding [v] (truthy v)) := by intro _; rfl) : DT X e (dTru t) :=
  DT.of (pt_truth h.pe he) fun ph S r M σ H Q hs ht Q' hq => ⟨ph, S, r, M, _, hs, ht, fun v H1 h1 => by
    obtain ⟨ph1, S1, M1, x1, hs1, d, q1, g1⟩ := h1
    obtain ⟨b, eb, qb⟩ := gTru_some g1
    exact ⟨b, tru_V hs1 q1 eb, hq _ _ ⟨ph1, S1, M1, x1, hs1, qb⟩⟩⟩
/-- a comparison as a test -/
theorem dt_cmp {a b : Expr} {ta tb : DTE} {op : CmpOp} {g : G2} {pos : Pos} (ho : OpD X (compareOp op) g) (ha : DE X a ta) (hb : DE X b tb) (hm : behindInMarks op b = false) : DT X (.Compare a [op] [b] pos) (dTru (dOp g ta tb)) :=
  ⟨⟨fun pins s σ H Q I ⟨ph, S, r, M, Q0, hs, ht, hq⟩ => wpAny_isTrue_Compare1 (binD ha hb I hs ht fun v u s2 x y dx dy H2 ph2 S2 M2 x2 I2 hs2 rx ry qx qy h =>
    thn (ho pins s2 σ H2 ph2 S2 r M2 x y dx dy v u _ I2 hs2 rx ry qx qy h) fun c s3 ⟨z, H3, I3, r3, ph3, S3, M3, x3, hs3, d, q3, g3⟩ => by
      obtain ⟨k, ek, qk⟩ := gTru_some g3
      exact tru_ok pins s3 σ H3 z c Q I3 r3 ⟨k, tru_V hs3 q3 ek, hq _ _ ⟨ph3, S3, M3, x2.trans x3, hs3, qk⟩⟩) hm⟩⟩
/-! ### a < b < c -/
def dChain (g g' : G2) (ta tb tc : DTE) : DTE := fun r M Q => ta r M fun x M1 => tb r M1 fun y M2 => g x y M2 fun z M3 => gTru z M3 fun k => if k = true then tc r M3 fun w M4 => g' y w M4 Q else Q z M3
theorem dt_chain {a b c : Expr} {ta tb tc : DTE} {op op' : CmpOp} {g g' : G2} {pos : Pos} (ho : OpD X (compareOp op) g) (ho' : OpD X (compareOp op') g') (ha : DE X a ta) (hb : DE X b tb) (hc : DE X c tc)
    (hm : lastMarks [op, op'] [b, c] = false := by with_unfolding_all rfl) : DT X (.Compare a [op, op'] [b, c] pos) (dTru (dChain g g' ta tb tc)) := by
  refine ⟨⟨fun pins s σ H Q I ⟨ph, S, r, M, Q0, hs, ht, hq⟩ => ?_⟩⟩
  refine isTrue_chain (thn (ha.pe.run pins s σ H _ I ⟨ph, S, r, M, _, hs, ht, fun _ _ q => q⟩) fun v s1 ⟨x, H1, I1, r1, ph1, S1, M1, x1, hs1, dx, q1, h1⟩ =>
    test_link (thn (hb.pe.run pins s1 σ H1 _ I1 ⟨ph1, S1, r, M1, _, hs1, h1, fun _ _ q => q⟩) fun u s2 ⟨y, H2, I2, r2, ph2, S2, M2, x2, hs2, dy, q2, h2⟩ =>
      thn (ho pins s2 σ H2 ph2 S2 r M2 x y dx dy v u _ I2 hs2 r1 r2 (q1.up x2) q2 h2) fun d s3 ⟨z, H3, I3, r3, ph3, S3, M3, x3, hs3, dz, q3, h3⟩ => ?_)) hm
  obtain ⟨k, ek, qk⟩ := gTru_some h3
  refine thn (tru_ok pins s3 σ H3 z d (fun b H' => b = k ∧ H' = H3) I3 r3 ⟨k, tru_V hs3 q3 ek, rfl, rfl⟩) fun b s4 ⟨H4, I4, eb, eH⟩ => ?_
  rw [eH] at I4
  rw [← eb] at qk ek
  cases b with
  | false =>
    have qk' : gTru dz M3 fun b => Q0 b M3 := qk
    obtain ⟨k2, e2, q2'⟩ := gTru_some qk'
    rw [ek] at e2
    cases e2
    exact ite_ff ⟨H3, I4, hq _ _ ⟨ph3, S3, M3, x1.trans (x2.trans x3), hs3, q2'⟩⟩
  | true =>
    refine ite_tt (test_last (thn (hc.pe.run pins s4 σ H3 _ I4 ⟨ph3, S3, r, M3, _, hs3, qk, fun _ _ q => q⟩) fun w' s5 ⟨z', H5, I5, r5, ph5, S5, M5, x5, hs5, dw, q5, h5⟩ =>
      thn (ho' pins s5 σ H5 ph5 S5 r M5 y z' dy dw u w' _ I5 hs5 r2 r5 (q2.up (x3.trans x5)) q5 h5) fun d' s6 ⟨z2, H6, I6, r6, ph6, S6, M6, x6, hs6, d6, q6, h6⟩ => ?_))
    obtain ⟨k2, e2, q2'⟩ := gTru_some h6
    exact tru_ok pins s6 σ H6 z2 d' Q I6 r6 ⟨k2, tru_V hs6 q6 e2, hq _ _ ⟨ph6, S6, M6, x1.trans (x2.trans (x3.trans (x5.trans x6))), hs6, q2'⟩⟩
theorem de_chain {a b c : Expr} {ta tb tc : DTE} {op op' : CmpOp} {g g' : G2} {pos : Pos} (ho : OpD X (compareOp op) g) (ho' : OpD X (compareOp op') g') (ha : DE X a ta) (hb : DE X b tb) (hc : DE X c tc)
    (hm : lastMarks [op, op'] [b, c] = false := by with_unfolding_all rfl) : DE X (.Compare a [op, op'] [b, c] pos) (dChain g g' ta tb tc) := by
  refine ⟨⟨fun pins s σ H Q I ⟨ph, S, r, M, Q0, hs, ht, hq⟩ => ?_⟩⟩
  refine Compare_chain (thn (ha.pe.run pins s σ H _ I ⟨ph, S, r, M, _, hs, ht, fun _ _ q => q⟩) fun v s1 ⟨x, H1, I1, r1, ph1, S1, M1, x1, hs1, dx, q1, h1⟩ =>
    chain_link (thn (hb.pe.run pins s1 σ H1 _ I1 ⟨ph1, S1, r, M1, _, hs1, h1, fun _ _ q => q⟩) fun u s2 ⟨y, H2, I2, r2, ph2, S2, M2, x2, hs2, dy, q2, h2⟩ =>
      thn (ho pins s2 σ H2 ph2 S2 r M2 x y dx dy v u _ I2 hs2 r1 r2 (q1.up x2) q2 h2) fun d s3 ⟨z, H3, I3, r3, ph3, S3, M3, x3, hs3, dz, q3, h3⟩ => ?_)) hm
  obtain ⟨k, ek, qk⟩ := gTru_some h3
  refine thn (tru_ok pins s3 σ H3 z d (fun b H' => b = k ∧ H' = H3) I3 r3 ⟨k, tru_V hs3 q3 ek, rfl, rfl⟩) fun b s4 ⟨H4, I4, eb, eH⟩ => ?_
  rw [eH] at I4
  rw [← eb] at qk
  cases b with
  | false => exact ite_ff ⟨z, H3, I4, r3, hq _ _ ⟨ph3, S3, M3, x1.trans (x2.trans x3), hs3, _, q3, qk⟩⟩
  | true =>
    exact ite_tt (chain_last (thn (hc.pe.run pins s4 σ H3 _ I4 ⟨ph3, S3, r, M3, _, hs3, qk, fun _ _ q => q⟩) fun w' s5 ⟨z', H5, I5, r5, ph5, S5, M5, x5, hs5, dw, q5, h5⟩ =>
      thn (ho' pins s5 σ H5 ph5 S5 r M5 y z' dy dw u w' _ I5 hs5 r2 r5 (q2.up (x3.trans x5)) q5 h5) fun d' s6 q6 => EP.up (x1.trans (x2.trans (x3.trans x5))) q6 hq))
/-! ### and, or, not -/
def dAnd (t u : DTT) : DTT := fun r M Q => t r M fun c M1 => if c = true then u r M1 Q else Q false M1
def dOr (t u : DTT) : DTT := fun r M Q => t r M fun c M1 => if c = true then Q true M1 else u r M1 Q
def dNot (t : DTT) : DTT := fun r M Q => t r M fun c M1 => Q (!c) M1
variable {a b : Expr} {rest : List Expr} {pos : Pos}
theorem DW.dt {e : Expr} {t : DTT} (h : DW X e t) : DT X e t := ⟨h.pw.pt⟩
theorem dw_and1 {t : DTT} (h : DT X a t) : DW X (.BoolOp .And [a] pos) t := ⟨pw_and1 h.pt⟩
theorem dw_or1 {t : DTT} (h : DT X a t) : DW X (.BoolOp .Or [a] pos) t := ⟨pw_or1 h.pt⟩
theorem dw_and {t u : DTT} (h : DT X a t) (h2 : DW X (.BoolOp .And (b :: rest) pos) u) : DW X (.BoolOp .And (a :: b :: rest) pos) (dAnd t u) :=
  DW.of (pw_and h.pt h2.pw) fun ph S r M σ H Q hs ht Q' hq => ⟨ph, S, r, M, _, hs, ht, fun c H1 ⟨ph1, S1, M1, x1, hs1, h1⟩ => by
    cases c with
    | true => exact ⟨ph1, S1, r, M1, _, hs1, h1, fun c' H2 h2 => hq _ _ (Aft.up x1 h2)⟩
    | false => exact hq _ _ ⟨ph1, S1, M1, x1, hs1, h1⟩⟩
theorem dw_or {t u : DTT} (h : DT X a t) (h2 : DW X (.BoolOp .Or (b :: rest) pos) u) : DW X (.BoolOp .Or (a :: b :: rest) pos) (dOr t u) :=
  DW.of (pw_or h.pt h2.pw) fun ph S r M σ H Q hs ht Q' hq => ⟨ph, S, r, M, _, hs, ht, fun c H1 ⟨ph1, S1, M1, x1, hs1, h1⟩ => by
    cases c with
    | false => exact ⟨ph1, S1, r, M1, _, hs1, h1, fun c' H2 h2 => hq _ _ (Aft.up x1 h2)⟩
    | true => exact hq _ _ ⟨ph1, S1, M1, x1, hs1, h1⟩⟩
theorem dt_not {t : DTT} (h : DT X a t) : DT X (.UnaryOp .Not a pos) (dNot t) :=
  DT.of (pt_not h.pt) fun ph S r M σ H Q hs ht Q' hq => ⟨ph, S, r, M, _, hs, ht, fun c H1 h1 => hq _ _ h1⟩
/-- as values -/
def dAndV (t u : DTE) : DTE := fun r M Q => t r M fun d M1 => gTru d M1 fun c => if c = true then u r M1 Q else Q d M1
def dOrV (t u : DTE) : DTE := fun r M Q => t r M fun d M1 => gTru d M1 fun c => if c = true then Q d M1 else u r M1 Q
def dNotV (t : DTE) : DTE := fun r M Q => t r M fun d M1 => gTru d M1 fun c => Q (.bl (!c)) M1
theorem de_one {op} {t : DTE} (h : DE X a t) : DE X (.BoolOp op [a] pos) t := ⟨pe_one h.pe⟩
theorem de_and {t u : DTE} (h : DE X a t) (h2 : DE X (.BoolOp .And (b :: rest) pos) u) : DE X (.BoolOp .And (a :: b :: rest) pos) (dAndV t u) :=
  DE.of (pe_andT h.pe h2.pe) fun ph S r M σ H Q hs ht Q' hq => ⟨ph, S, r, M, _, hs, ht, fun v H1 ⟨ph1, S1, M1, x1, hs1, d, q1, g1⟩ => by
    obtain ⟨c, ec, qc⟩ := gTru_some g1
    refine ⟨c, tru_V hs1 q1 ec, ?_⟩
    cases c with
    | true => exact ⟨ph1, S1, r, M1, _, hs1, qc, fun c' H2 h2 => hq _ _ (Aft.up x1 h2)⟩
    | false => exact hq _ _ ⟨ph1, S1, M1, x1, hs1, _, q1, qc⟩⟩
theorem de_not {t : DTE} (h : DE X a t) : DE X (.UnaryOp .Not a pos) (dNotV t) :=
  DE.of (pe_notT h.pe) fun ph S r M σ H Q hs ht Q' hq => ⟨ph, S, r, M, _, hs, ht, fun v H1 ⟨ph1, S1, M1, x1, hs1, d, q1, g1⟩ => by
    obtain ⟨c, ec, qc⟩ := gTru_some g1
    exact ⟨c, tru_V hs1 q1 ec, hq _ _ ⟨ph1, S1, M1, x1, hs1, _, .bl _, qc⟩⟩⟩
/-- a if t else b -/
def dIf (t : DTT) (u w : DTE) : DTE := fun r M Q => t r M fun c M1 => if c = true then u r M1 Q else w r M1 Q
theorem de_if {c : Expr} {t : DTT} {u w : DTE} (h : DT X c t) (h1 : DE X a u) (h2 : DE X b w) : DE X (.IfExp c a b pos) (dIf t u w) :=
  DE.of (pe_ifExp h.pt h1.pe h2.pe) fun ph S r M σ H Q hs ht Q' hq => ⟨ph, S, r, M, _, hs, ht, fun c H1 ⟨ph1, S1, M1, x1, hs1, g1⟩ => by
    cases c with
    | true => exact ⟨ph1, S1, r, M1, _, hs1, g1, fun c' H2 h2 => hq _ _ (Aft.up x1 h2)⟩
    | false => exact ⟨ph1, S1, r, M1, _, hs1, g1, fun c' H2 h2 => hq _ _ (Aft.up x1 h2)⟩⟩
/-- -a -/
def gNeg (d : D) (M : Mem) (Q : DQ) : Prop := match d with
  | .int i => Q (.int (-i)) M
  | _ => False
def dNeg (t : DTE) : DTE := fun r M Q => t r M fun d M1 => gNeg d M1 Q
theorem de_neg {t : DTE} (h : DE X a t) : DE X (.UnaryOp .USub a pos) (dNeg t) :=
  DE.of (pe_un un_neg h.pe) fun ph S r M σ H Q hs ht Q' hq => ⟨ph, S, r, M, _, hs, ht, fun v H1 ⟨ph1, S1, M1, x1, hs1, d, q1, g1⟩ => by
    cases d <;> first | exact g1.elim | skip
    cases q1
    exact ⟨_, rfl, hq _ _ ⟨ph1, S1, M1, x1, hs1, _, .int _, g1⟩⟩⟩
/-! ### argument lists, displays -/
def dNil : DTA := fun _ M Q => Q [] M
def dCons (t : DTE) (u : DTA) : DTA := fun r M Q => t r M fun d M1 => u r M1 fun ds M2 => Q (d :: ds) M2
theorem da_nil : DA X [] dNil := DA.of pa_nil fun ph S r M σ H Q hs ht Q' hq => hq _ _ (Aft.here hs ⟨_, .nil, ht⟩)
theorem da_cons {e : Expr} {es : List Expr} {t : DTE} {u : DTA} (h : DE X e t) (h2 : DA X es u) (hs : starEach (e :: es) X.env = (false, eval e X.env) :: starEach es X.env := by rfl) : DA X (e :: es) (dCons t u) :=
  DA.of (pa_cons h.pe h2.pa hs) fun ph S r M σ H Q hs ht Q' hq => ⟨ph, S, r, M, _, hs, ht, fun v H1 ⟨ph1, S1, M1, x1, hs1, d, q1, g1⟩ =>
    ⟨ph1, S1, r, M1, _, hs1, g1, fun vs H2 ⟨ph2, S2, M2, x2, hs2, ds, q2, g2⟩ => hq _ _ ⟨ph2, S2, M2, x1.trans x2, hs2, _, .cons (q1.up x2) q2, g2⟩⟩⟩
def dTup (t : DTA) : DTE := fun r M Q => t r M fun ds M1 => ds.length ≤ sizeLine ∧ Q (.tup ds) M1
def dLst (t : DTA) : DTE := fun r M Q => t r M fun ds M1 => ds.length ≤ sizeLine ∧ Q (.lst ds) M1
/-- a list that will be changed -/
def dOwn (t : DTA) : DTE := fun r M Q => t r M fun ds M1 => ds.length ≤ sizeLine ∧ Q (.own M1.length) (M1 ++ [.lst ds])
theorem de_tup {es : List Expr} {x1} {t : DTA} (h : DA X es t) : DE X (.Tuple es x1 pos) (dTup t) :=
  DE.of (pe_tup h.pa) fun ph S r M σ H Q hs ht Q' hq => ⟨ph, S, r, M, _, hs, ht, fun vs H1 ⟨ph1, S1, M1, x1, hs1, ds, q1, hz, g1⟩ =>
    ⟨by rw [q1.len]; exact hz, fun p hp => hq _ _ (Aft.up x1 (Aft.frz hs1 hp fun x => ⟨_, .tup (.inl upd_same) (q1.up x), g1⟩))⟩⟩
theorem de_lst {es : List Expr} {t : DTA} (h : DA X es t) : DE X (.List es pos) (dLst t) :=
  DE.of (pe_lst h.pa) fun ph S r M σ H Q hs ht Q' hq => ⟨ph, S, r, M, _, hs, ht, fun vs H1 ⟨ph1, S1, M1, x1, hs1, ds, q1, hz, g1⟩ =>
    ⟨by rw [q1.len]; exact hz, fun p hp => hq _ _ (Aft.up x1 (Aft.frz hs1 hp fun x => ⟨_, .lst upd_same (q1.up x), g1⟩))⟩⟩
theorem Aft.own {K : PySem.W.Frag} {ph : Ph} {S : Hp} {r : Env} {σ : St} {H : Hp} {M : Mem} {p : Addr} {xs : List V} {ds : List D} {Q : DQ} (h : Sat K ph S r M σ H) (hp : H p = none) (hr : RepAll K ph S xs ds) (q : Q (.own M.length) (M ++ [.lst ds])) :
    post K ph S r σ Q (.ref p) (upd H p (.lst xs)) :=
  let ⟨x, hs, e⟩ := h.new hp hr
  ⟨_, _, _, x, hs, _, .own e, q⟩
theorem de_own {es : List Expr} {t : DTA} (h : DA X es t) : DE X (.List es pos) (dOwn t) :=
  DE.of (pe_lst h.pa) fun ph S r M σ H Q hs ht Q' hq => ⟨ph, S, r, M, _, hs, ht, fun vs H1 ⟨ph1, S1, M1, x1, hs1, ds, q1, hz, g1⟩ =>
    ⟨by rw [q1.len]; exact hz, fun p hp => hq _ _ (Aft.up x1 (Aft.own hs1 hp q1 g1))⟩⟩
/-! ### subscripts -/
/-- d's item at i, for every kind of sequence -/
def gIx : G2 := fun x y M Q => match res M x, y with
  | .lst l, .int i => match atI l i with
    | some d => Q d M
    | none => False
  | .tup l, .int i => match atI l i with
    | some d => Q d M
    | none => False
  | .scr ns, .int i => match atI ns i with
    | some n => Q (.int n) M
    | none => False
  | _, _ => False
theorem atI_rep {K : PySem.W.Frag} {ph : Ph} {S : Hp} {vs : List V} {ds : List D} {i : Int} {d : D} (h : RepAll K ph S vs ds) (e : atI ds i = some d) : ∃ v, atI vs i = some v ∧ Rep K ph S v d := by
  unfold atI at e ⊢
  rw [h.len]
  cases q : ixN ds.length i with
  | none => rw [q] at e; cases e
  | some j =>
    rw [q] at e
    exact h.get e
theorem atI_map {α β : Type} {f : α → β} {l : List α} {i : Int} {x : α} (e : atI l i = some x) : atI (l.map f) i = some (f x) := by
  unfold atI at e ⊢
  rw [List.length_map]
  cases q : ixN l.length i with
  | none => rw [q] at e; cases e
  | some j =>
    rw [q] at e
    show (l.map f)[j]? = _
    rw [List.getElem?_map]
    rw [show l[j]? = some x from e]
    rfl
/-- an owned list's items represent over S -/
theorem res_lst {K : PySem.W.Frag} {ph : Ph} {S : Hp} {r : Env} {M : Mem} {σ : St} {H : Hp} {v : V} {d : D} {l : List D} (hs : Sat K ph S r M σ H) (q : Rep K ph S v d) (e : res M d = .lst l) : ∃ a xs, v = .ref a ∧ H a = some (.lst xs) ∧ RepAll K ph S xs l := by
  cases d <;> first | (unfold res at e; cases e; done) | skip
  · cases e
    cases q with
    | lst h1 h2 => exact ⟨_, _, rfl, hs.sub _ _ h1, h2⟩
  · rename_i k
    unfold res at e
    dsimp only at e
    split at e
    · rename_i ds hk
      cases e
      cases q with
      | own h =>
        obtain ⟨a, xs, c1, c2, c3, c4⟩ := hs.cell k _ hk
        rw [h] at c1; cases c1
        exact ⟨_, _, rfl, c3, c4⟩
    · cases e
theorem res_tup {M : Mem} {d : D} {l : List D} (e : res M d = .tup l) : d = .tup l := by
  cases d <;> first | exact e | skip
  unfold res at e
  dsimp only at e
  split at e <;> cases e
theorem res_scr {M : Mem} {d : D} {l : List Int} (e : res M d = .scr l) : d = .scr l := by
  cases d <;> first | exact e | skip
  unfold res at e
  dsimp only at e
  split at e <;> cases e
theorem de_ix {ta tb : DTE} (ha : DE X a ta) (hb : DE X b tb) (hs : PlainIx b := by exact fun _ _ => rfl) : DE X (.Subscript a b pos) (dOp gIx ta tb) :=
  DE.of (pe_ix (ix_list.or ix_tup) ha.pe hb.pe hs) fun ph S r M σ H Q hs ht Q' hq => ⟨ph, S, r, M, _, hs, ht, fun v H1 ⟨ph1, S1, M1, x1, hs1, d, q1, g1⟩ =>
    ⟨ph1, S1, r, M1, _, hs1, g1, fun u H2 ⟨ph2, S2, M2, x2, hs2, e, q2, g2⟩ => by
      have q1' := q1.up x2
      have xx := x1.trans x2
      replace g2 : gIx d e M2 Q := g2
      unfold gIx at g2
      split at g2
      · rename_i l i er
        cases q2
        split at g2
        · rename_i d' ei
          obtain ⟨p, xs, rfl, hp, hx⟩ := res_lst hs2 q1' er
          obtain ⟨w, ew, qw⟩ := atI_rep hx ei
          exact .inl ⟨p, xs, i, w, rfl, rfl, SqL.of hp, ew, hq _ _ ⟨ph2, S2, M2, xx, hs2, _, qw, g2⟩⟩
        · exact g2.elim
      · rename_i l i er
        cases q2
        split at g2
        · rename_i d' ei
          cases res_tup er
          cases q1' with
          | tup h1 h2 =>
            obtain ⟨w, ew, qw⟩ := atI_rep h2 ei
            exact .inr ⟨_, _, i, w, rfl, rfl, h1.sq hs2.sub, ew, hq _ _ ⟨ph2, S2, M2, xx, hs2, _, qw, g2⟩⟩
        · exact g2.elim
      · rename_i ns i er
        cases q2
        split at g2
        · rename_i n ei
          cases res_scr er
          cases q1' with
          | scr h1 => exact .inl ⟨_, _, i, _, rfl, rfl, hs2.sub.seq h1, atI_map ei, hq _ _ ⟨ph2, S2, M2, xx, hs2, _, .int _, g2⟩⟩
        · exact g2.elim
      · exact g2.elim⟩⟩
end DL
/-! DL5: defs and their calls -/
namespace DL
open PySem PySem.Spec PyProof.Rows L2
/-! ### a def's promise over the hand layer, where no guard runs -/
structure FnG (P : Program) (w : World) (K : PySem.W.Frag) (mg : Str → Option Value) (base : Heap) (CX : CXT) (k : Nat) (f : Addr) (fd : FuncData) (ps : List Str) (sp : Sp) : Prop where
  len : ∀ vs H Q E, sp vs H Q E → vs.length = ps.length
  run : ∀ (A : Around) (outer : List PySem.Env) (s : Shared) (H : Hp) (args : Args) (us : List Value) (vs : List V) (Q : VK) (E : XK), Room k A → A.guards = some [] → Env0 P w K mg base A outer s H → BindsTo s fd args (ps.zip us) → Vals vs us → sp vs H Q E →
    codeAny (model P w) A (.call (.ref f) args) (CR CX outer P w H s Q E) s
theorem FnG.mono {P : Program} {w : World} {K : PySem.W.Frag} {mg : Str → Option Value} {base : Heap} {CX : CXT} {j k : Nat} {f : Addr} {fd : FuncData} {ps : List Str} {sp : Sp} (F : FnG P w K mg base CX j f fd ps sp) (h : j ≤ k) :
    FnG P w K mg base CX k f fd ps sp := ⟨F.len, fun A outer s H args us vs Q E hr => F.run A outer s H args us vs Q E (hr.mono h)⟩
section
variable {X : Cx} {CX : CXT} {k : Nat} {f : Addr} {fd : FuncData} {ps : List Str} {sp : Sp} {dvs : List V} {ds : List Value} {E : XK} {x : Str} {p pos : Pos} {e : Expr} {es : List Expr} {t : TA}
theorem run_fnG {pins : List (Addr × Obj)} {σ : St} {H : Hp} {s : Shared} {Q : VK} {us : List Value} {vs : List V} (F : FnG X.prog X.w X.K X.mg X.base CX k f fd ps sp) (hr : Room k X.A) (gd : X.A.guards = some []) (hb : Binds X.K fd ps ds) (hd : Vals dvs ds) (hx : Passes CX X E)
    (I : Inv X pins σ H s) (r : Vals vs us) (h : sp (vs ++ dvs) H Q E) : wpAny (model X.prog X.w) X.A (call (.ref f) us) (EP X pins σ Q) X.xe s := by
  have r2 : Vals (vs ++ dvs) (us ++ ds) := r.append hd
  have hl : (us ++ ds).length = ps.length := by rw [← r2.length]; exact F.len _ _ _ _ h
  refine wpAny_call (codeAny_mono (F.run X.A X.stack s H ⟨us, []⟩ (us ++ ds) (vs ++ dvs) Q E hr gd I.env0 (hb s us I.kIn hl) r2 h) fun r s' hq => ?_)
  match r, hq with
  | .error e, hq => exact hx pins σ H s e s' I hq
  | .ok (.ret u), hq => exact I.after hq
  | .ok .next, hq => exact False.elim hq
  | .ok .brk, hq => exact False.elim hq
  | .ok .cont, hq => exact False.elim hq
theorem pe_callG (F : FnG X.prog X.w X.K X.mg X.base CX k f fd ps sp) (hr : Room k X.A) (gd : X.A.guards = some []) (hg : Gl X x) (hm : X.mg x = some (.ref f)) (hk : PySem.W.keepIn X.K (.ref f) = true) (hb : Binds X.K fd ps ds) (hd : Vals dvs ds) (hx : Passes CX X E)
    (ha : PA X (e :: es) t) (hdb : (x == ("__debug__" : Str)) = false := by decide) (he : starEach (e :: es) X.env = (false, eval e X.env) :: starEach es X.env := by rfl) (hpl : (backTo pos (starEach es X.env)).any (·.1) = false := by rfl) :
    PE X (.Call (.Name x p) (e :: es) [] pos) (tCall sp dvs E t) :=
  ⟨fun pins s σ H Q I h => wpAny_Call_Name_kw (ld_glob I hg hm (PySem.W.callWith_K (h₀ := X.base) I.ok.mod.kin hk (thn (ha.run pos pins s σ H _ I h) fun us s1 ⟨vs, H1, I1, r, q⟩ => ⟨I1.kIn, run_fnG F hr gd hb hd hx I1 r q⟩) he hpl) hdb)⟩
end
/-- a def by its body -/
theorem fnG_of {CX : CXT} {P : Program} {w : World} {K : PySem.W.Frag} {mg : Str → Option Value} {base : Heap} {k : Nat} {f : Addr} {name qual : Str} {params : Arguments} {body : List Stmt} {scope : Scope} {dV kV doc pm cdv ct oc : Value} {an od : Option Addr}
    {osl : Array (Option Value)} {N ps : List Str} {sp : Sp} (lk : K.lookup f = some ⟨oc, od, .func (PySem.W.fnOf name qual params body scope dV kV doc pm an cdv ct), osl⟩) (hcd : PySem.W.codeIn K cdv qual = true) (S : FnScope N ps scope)
    (len : ∀ vs H Q E, sp vs H Q E → vs.length = ps.length)
    (hbody : ∀ (A : Around) (outer : List PySem.Env) (s : Shared) (H : Hp) (vs : List V) (Q : VK) (E : XK), Room k (A.deeper (envOfC qual scope s.heap.objs.size f cdv)) → A.guards = some [] → sp vs H Q E →
      ∃ t, PSs (cxOf CX P w K mg base N qual scope f cdv A outer s H E) body t ∧ t { nx := fun _ H' => Q .non H', rt := Q } (start N vs) H) :
    FnG P w K mg base CX (k + 1) f (PySem.W.fnOf name qual params body scope dV kV doc pm an cdv ct) ps sp := by
  refine ⟨len, fun A outer s H args us vs Q E hr gd e0 hb r hsp => ?_⟩
  have hl := len _ _ _ _ hsp
  have KX : K.In s.heap := e0.mod.kin.keeps fun b o e => (e0.bs b o e).1
  have lim : s.heap.NoLimit := e0.mod.nolimit.keeps fun b o e => (e0.bs b o e).1
  refine codeAny_call_function hr.depth (KX _ _ lk) rfl S.co S.gen rfl (PySem.W.codeRec_of KX hcd) (hb _ _ _ _ ?_)
  refine wpAny_newFunctionEnv_cells S.kind (fun y hy => ?_) fun env he s1 x => ?_
  · rcases S.par y.1 (List.of_mem_zip (a := y.1) (b := y.2) hy).1 with q | q
    · exact .inl q
    · exact .inr ⟨q, PySem.W.cellsFrom_some _ _ _ (.inl q)⟩
  subst he
  refine ⟨lim.keeps x.toInCall.keep, codeAny_func ?_⟩
  obtain ⟨t, ht, hq⟩ := hbody A outer s H vs Q E (hr.deeper _) gd hsp
  have I : Inv (cxOf CX P w K mg base N qual scope f cdv A outer s H E) [] (start N vs) H s1 := inv_start S hr.hd e0 hl r x
  refine wpAny_mono (ht.run [] s1 (start N vs) H _ I hq) (fun fl s' hs => ?_) fun e s' hs => hs
  match fl, hs with
  | .ret u, ⟨v, σ', H', J, rv, q⟩ => exact ⟨v, H', J.os, J.bare, J.base, J.hok, rv, q⟩
  | .next, ⟨σ', H', J, q⟩ => exact ⟨V.non, H', J.os, J.bare, J.base, J.hok, rfl, q⟩
  | .brk, ⟨_, _, _, q⟩ => exact False.elim q
  | .cont, ⟨_, _, _, q⟩ => exact False.elim q
/-! ### a def's promise over data -/
/-- what is wanted of an exception: its class, its value, the cells -/
abbrev DX := Str → D → Mem → Prop
abbrev DSp := List D → Mem → DQ → DX → Prop
def DX0 : DX := fun _ _ _ => False
def postM (K : PySem.W.Frag) (ph : Ph) (S : Hp) (Q : DQ) : VK := post K ph S [] [] Q
def postX (K : PySem.W.Frag) (ph : Ph) (S : Hp) (E : DX) : XK := fun cls d H => ∃ (x : Str) (C T dd : Addr) (v : V) (dv : D), XA.ErC K x C T ∧ cls = .ref C ∧ d = some dd ∧
  Aft K ph S [] [] H fun ph' S' M => S' dd = some (.xd [(fVal, v)]) ∧ Rep K ph' S' v dv ∧ E x dv M
def lfSp (K : PySem.W.Frag) (n : Nat) (sp : DSp) : Sp := fun vs H Q E => ∃ ph S M ds Q0 E0, ds.length = n ∧ Sat K ph S [] M [] H ∧ RepAll K ph S vs ds ∧ sp ds M Q0 E0 ∧ (∀ v H', postM K ph S Q0 v H' → Q v H') ∧ (∀ cls d H', postX K ph S E0 cls d H' → E cls d H')
abbrev FnD (P : Program) (w : World) (K : PySem.W.Frag) (mg : Str → Option Value) (base : Heap) (CX : CXT) (k : Nat) (f : Addr) (fd : FuncData) (ps : List Str) (sp : DSp) : Prop :=
  FnG P w K mg base CX k f fd ps (lfSp K ps.length sp)
theorem Sat.drop {K : PySem.W.Frag} {ph : Ph} {S : Hp} {r : Env} {M : Mem} {σ : St} {H : Hp} (h : Sat K ph S r M σ H) : Sat K ph S [] M [] H :=
  ⟨h.sub, h.len, h.nd, h.trk, h.own, h.hid, h.hnd, rfl, fun i d e => by simp at e⟩
/-- behind a call the names are as they were -/
theorem Sat.back {K : PySem.W.Frag} {ph ph' : Ph} {S S' : Hp} {r : Env} {M M' : Mem} {σ : St} {H H' : Hp} (h : Sat K ph S r M σ H) (x : Ext ph S ph' S') (h' : Sat K ph' S' [] M' [] H') : Sat K ph' S' r M' σ H' :=
  ⟨h'.sub, h'.len, h'.nd, h'.trk, h'.own, h'.hid, h'.hnd, h.el, fun i d e => let ⟨v, e1, q⟩ := h.env i d e; ⟨v, e1, q.up x⟩⟩
section
variable {X : Cx} {CX : CXT} {k : Nat} {f : Addr} {fd : FuncData} {ps : List Str} {sp : DSp} {x : Str} {p pos : Pos} {e : Expr} {es : List Expr} {t : DTA}
/-- f(..), then the defaults -/
def dCall (n : Nat) (sp : DSp) (dvs : List D) (E : DX) (t : DTA) : DTE := fun r M Q => t r M fun ds M1 => (ds ++ dvs).length = n ∧ sp (ds ++ dvs) M1 Q E
/-- a value that is the same everywhere -/
def Cst (K : PySem.W.Frag) (v : V) (d : D) : Prop := ∀ ph S, Rep K ph S v d
inductive Csts (K : PySem.W.Frag) : List V → List D → Prop
  | nil : Csts K [] []
  | cons {v : V} {d : D} {vs : List V} {ds : List D} : Cst K v d → Csts K vs ds → Csts K (v :: vs) (d :: ds)
theorem Csts.rep {K : PySem.W.Frag} {ph : Ph} {S : Hp} : ∀ {vs : List V} {ds : List D}, Csts K vs ds → RepAll K ph S vs ds
  | _, _, .nil => .nil
  | _, _, .cons h t => .cons (h _ _) t.rep
theorem lf_call {t' : TA} {dvs : List V} {dds : List D} {E' : XK} {E : DX} (hE : ∀ ph S cls d H', postX X.K ph S E cls d H' → E' cls d H') (hc : Csts X.K dvs dds) {ph : Ph} {S : Hp} {r : Env} {M : Mem} {σ : St} {H : Hp} {Q : DQ} {Q' : VK} (hs : Sat X.K ph S r M σ H) (ht : dCall ps.length sp dds E t r M Q) (hq : ∀ v H', post X.K ph S r σ Q v H' → Q' v H')
    (w : ∀ Q1 : List V → Hp → Prop, (∀ vs H', postA X.K ph S r σ (fun ds M1 => (ds ++ dds).length = ps.length ∧ sp (ds ++ dds) M1 Q E) vs H' → Q1 vs H') → t' σ H Q1) : tCall (lfSp X.K ps.length sp) dvs E' t' σ H Q' :=
  w _ fun vs H1 ⟨ph1, S1, M1, x1, hs1, ds, q1, hl, h1⟩ => ⟨ph1, S1, M1, ds ++ dds, Q, E, hl, hs1.drop, q1.app hc.rep, h1, fun v H2 ⟨ph2, S2, M2, x2, hs2, d, q2, h2⟩ => hq _ _ ⟨ph2, S2, M2, x1.trans x2, hs1.back x2 hs2, d, q2, h2⟩, fun cls d H2 h2 => hE _ _ _ _ _ h2⟩
theorem de_callX {dvs : List V} {dds : List D} {ds : List Value} {E' : XK} {E : DX} (F : FnD X.prog X.w X.K X.mg X.base CX k f fd ps sp) (hr : Room k X.A) (gd : X.A.guards = some []) (hm : X.mg x = some (.ref f)) (hk : PySem.W.keepIn X.K (.ref f) = true) (hb : Binds X.K fd ps ds) (hd : Vals dvs ds) (hc : Csts X.K dvs dds) (hx : Passes CX X E') (hE : ∀ ph S cls d H', postX X.K ph S E cls d H' → E' cls d H')
    (ha : DA X (e :: es) t) (hg : Gl X x := by rfl) (hdb : (x == ("__debug__" : Str)) = false := by decide) (he : starEach (e :: es) X.env = (false, eval e X.env) :: starEach es X.env := by rfl) (hpl : (backTo pos (starEach es X.env)).any (·.1) = false := by rfl) :
    DE X (.Call (.Name x p) (e :: es) [] pos) (dCall ps.length sp dds E t) :=
  DE.of (pe_callG F hr gd hg hm hk hb hd hx ha.pa hdb he hpl) fun ph S r M σ H Q hs ht Q' hq => lf_call hE hc hs ht hq fun Q1 hQ1 => ⟨ph, S, r, M, _, hs, ht, hQ1⟩
theorem pX0 : ∀ ph S cls d H', postX X.K ph S DX0 cls d H' → E0 cls d H' := fun _ _ _ _ _ ⟨_, _, _, _, _, _, _, _, _, _, _, _, _, _, _, _, z⟩ => z
/-- what is told of a def of the module, for its callers -/
structure Def (P : Program) (w : World) (K : PySem.W.Frag) (mg : Str → Option Value) (base : Heap) (CX : CXT) (k : Nat) (x : Str) (st : Stmt) (ps : List Str) (sp : DSp) : Prop where
  ex : ∃ (f : Addr) (fd : FuncData), FnD P w K mg base CX k f fd ps sp ∧ mg x = some (.ref f) ∧ PySem.W.keepIn K (.ref f) = true ∧ Binds K fd ps [] ∧ Fun K x x st f fd
/-- a call of a def from which nothing is raised -/
theorem dcall {n : Nat} {st : Stmt} {P : Program} {w : World} {K : PySem.W.Frag} {mg : Str → Option Value} {base : Heap} (F : Def P w K mg base CX0 k x st ps sp) {j : Nat} (hr : Room j X.A) (gd : X.A.guards = some []) (ha : DA X (e :: es) t) (hj : k ≤ j := by decide) (hn : ps.length = n := by rfl)
    (h1 : P = X.prog := by rfl) (h2 : w = X.w := by rfl) (h3 : K = X.K := by rfl) (h4 : mg = X.mg := by rfl) (h5 : base = X.base := by rfl) (hg : Gl X x := by rfl) (hdb : (x == ("__debug__" : Str)) = false := by decide) (he : starEach (e :: es) X.env = (false, eval e X.env) :: starEach es X.env := by rfl)
    (hpl : (backTo pos (starEach es X.env)).any (·.1) = false := by rfl) : DE X (.Call (.Name x p) (e :: es) [] pos) (dCall n sp [] DX0 t) := by
  subst h1 h2 h3 h4 h5 hn
  obtain ⟨f, fd, h1, h2, h3, h4, _⟩ := F.ex
  exact de_callX h1 (hr.mono hj) gd h2 h3 h4 .nil .nil pass0 pX0 ha hg hdb he hpl
end
/-! ### at the end of a def: the cells that it made are left behind -/
mutual
def below (n : Nat) : D → Bool
  | .tup l => belowAll n l
  | .lst l => belowAll n l
  | .own k => decide (k < n)
  | .exc _ d => below n d
  | _ => true
def belowAll (n : Nat) : List D → Bool
  | [] => true
  | d :: ds => below n d && belowAll n ds
end
def belowO (n : Nat) : Own → Bool
  | .lst l => belowAll n l
  | .oth .dead => true
  | .oth (.dT kvs) => belowAll n (kvs.map (·.2))
  | .oth (.dK kvs) => belowAll n (kvs.map (·.2))
section
variable {K : PySem.W.Frag} {ph : Ph} {S : Hp} {n : Nat}
mutual
theorem Rep.take : ∀ (d : D) (v : V), below n d = true → Rep K ph S v d → Rep K (ph.cut n) S v d
  | .non, _, _, h => by cases h; exact .non
  | .bl _, _, _, h => by cases h; exact .bl _
  | .int _, _, _, h => by cases h; exact .int _
  | .str _, _, _, h => by cases h; exact .str _
  | .tup ds, _, e, h => by
    cases h with
    | tup h1 h2 => exact .tup h1 (RepAll.takeP ds _ (by simpa only [below] using e) h2)
  | .lst ds, _, e, h => by
    cases h with
    | lst h1 h2 => exact .lst h1 (RepAll.takeP ds _ (by simpa only [below] using e) h2)
  | .dct0, _, _, h => by
    cases h with
    | dct0 h1 => exact .dct0 h1
  | .scr ns, _, _, h => by
    cases h with
    | scr h1 => exact .scr h1
  | .own k, _, e, h => by
    cases h with
    | own h1 =>
      have e' : k < n := of_decide_eq_true (by simpa only [below] using e)
      exact .own (by show (ph.cells.take n)[k]? = _; rw [List.getElem?_take_of_lt e']; exact h1)
  | .glb _, _, _, h => by
    cases h with
    | glb h1 => exact .glb h1
  | .exc C d, _, e, h => by
    cases h with
    | exc h0 h1 h2 h3 => exact .exc h0 h1 h2 (Rep.take d _ (by simpa only [below] using e) h3)
  | .val v, _, _, h => by cases h; exact .val _
theorem RepAll.takeP : ∀ (ds : List D) (vs : List V), belowAll n ds = true → RepAll K ph S vs ds → RepAll K (ph.cut n) S vs ds
  | [], _, _, h => by cases h; exact .nil
  | d :: ds, _, e, h => by
    have e' : below n d = true ∧ belowAll n ds = true := by simpa only [belowAll, Bool.and_eq_true] using e
    cases h with
    | cons h1 h2 => exact .cons (Rep.take d _ e'.1 h1) (RepAll.takeP ds _ e'.2 h2)
end
mutual
theorem Rep.belowP : ∀ (d : D) (v : V), Rep K ph S v d → below ph.cells.length d = true
  | .non, _, _ => by simp only [below]
  | .bl _, _, _ => by simp only [below]
  | .int _, _, _ => by simp only [below]
  | .str _, _, _ => by simp only [below]
  | .tup ds, _, h => by
    cases h with
    | tup h1 h2 => simp only [below]; exact RepAll.belowP ds _ h2
  | .lst ds, _, h => by
    cases h with
    | lst h1 h2 => simp only [below]; exact RepAll.belowP ds _ h2
  | .dct0, _, _ => by simp only [below]
  | .scr ns, _, _ => by simp only [below]
  | .own k, _, h => by
    cases h with
    | own h1 => simp only [below]; exact decide_eq_true (List.getElem?_eq_some_iff.mp h1).1
  | .glb _, _, _ => by simp only [below]
  | .exc C d, _, h => by
    cases h with
    | exc h0 h1 h2 h3 => simp only [below]; exact Rep.belowP d _ h3
  | .val v, _, _ => by simp only [below]
theorem RepAll.belowP : ∀ (ds : List D) (vs : List V), RepAll K ph S vs ds → belowAll ph.cells.length ds = true
  | [], _, _ => by simp only [belowAll]
  | d :: ds, _, h => by
    cases h with
    | cons h1 h2 => simp only [belowAll, Bool.and_eq_true]; exact ⟨Rep.belowP d _ h1, RepAll.belowP ds _ h2⟩
end
end
mutual
theorem below.mono {m n : Nat} (hmn : m ≤ n) : ∀ d : D, below m d = true → below n d = true
  | .non, _ => by simp only [below]
  | .bl _, _ => by simp only [below]
  | .int _, _ => by simp only [below]
  | .str _, _ => by simp only [below]
  | .tup ds, h => by
    simp only [below] at h ⊢
    exact belowAll.mono hmn ds h
  | .lst ds, h => by
    simp only [below] at h ⊢
    exact belowAll.mono hmn ds h
  | .dct0, _ => by simp only [below]
  | .scr _, _ => by simp only [below]
  | .own k, h => by
    simp only [below] at h ⊢
    have := of_decide_eq_true h
    exact decide_eq_true (by omega)
  | .glb _, _ => by simp only [below]
  | .exc _ d, h => by
    simp only [below] at h ⊢
    exact below.mono hmn d h
  | .val _, _ => by simp only [below]
theorem belowAll.mono {m n : Nat} (hmn : m ≤ n) : ∀ ds : List D, belowAll m ds = true → belowAll n ds = true
  | [], _ => by simp only [belowAll]
  | d :: ds, h => by
    simp only [belowAll, Bool.and_eq_true] at h ⊢
    exact ⟨below.mono hmn d h.1, belowAll.mono hmn ds h.2⟩
end
theorem belowO.monoO {m n : Nat} (hmn : m ≤ n) {w : Own} (h : belowO m w = true) : belowO n w = true := by
  rcases w with l | _ | l | l
  · simp only [belowO] at h ⊢; exact belowAll.mono hmn _ h
  · rfl
  · simp only [belowO] at h ⊢; exact belowAll.mono hmn _ h
  · simp only [belowO] at h ⊢; exact belowAll.mono hmn _ h
theorem OwnR.take {K : PySem.W.Frag} {ph : Ph} {S : Hp} {n : Nat} {w : Own} {o : HO} (hb : belowO n w = true) (h : OwnR K ph S w o) : OwnR K (ph.cut n) S w o := by
  rcases w with l | _ | l | l
  · obtain ⟨xs, e, r⟩ := h; exact ⟨xs, e, RepAll.takeP _ _ (by simpa only [belowO] using hb) r⟩
  · trivial
  · obtain ⟨xs, e, r1, r⟩ := h; exact ⟨xs, e, r1, RepAll.takeP _ _ (by simpa only [belowO] using hb) r⟩
  · obtain ⟨xs, e, r1, r⟩ := h; exact ⟨xs, e, r1, RepAll.takeP _ _ (by simpa only [belowO] using hb) r⟩
theorem OwnR.below {K : PySem.W.Frag} {ph : Ph} {S : Hp} {w : Own} {o : HO} (h : OwnR K ph S w o) : belowO ph.cells.length w = true := by
  rcases w with l | _ | l | l
  · obtain ⟨xs, e, r⟩ := h; simp only [belowO]; exact RepAll.belowP _ _ r
  · rfl
  · obtain ⟨xs, e, r1, r⟩ := h; simp only [belowO]; exact RepAll.belowP _ _ r
  · obtain ⟨xs, e, r1, r⟩ := h; simp only [belowO]; exact RepAll.belowP _ _ r
/-- d and the cells M1 are what stays of M': all else was made by the def -/
def Rtq (M : Mem) (Q : DQ) : DQ := fun d M' => ∃ M1 G, M' = M1 ++ G ∧ M.length ≤ M1.length ∧ below M1.length d = true ∧ (∀ (i : Nat) (c : Own), M1[i]? = some c → M[i]? = some c ∨ belowO M1.length c = true) ∧ Q d M1
theorem Sat.leave {K : PySem.W.Frag} {ph ph1 : Ph} {S S1 : Hp} {r : Env} {M M1 G : Mem} {σ : St} {H H1 : Hp} (h0 : Sat K ph S [] M [] H) (x : Ext ph S ph1 S1) (h : Sat K ph1 S1 r (M1 ++ G) σ H1) (hl : M.length ≤ M1.length) (hc : ∀ (i : Nat) (c : Own), M1[i]? = some c → M[i]? = some c ∨ belowO M1.length c = true) :
    Ext ph S (ph1.cut M1.length) S1 ∧ Sat K (ph1.cut M1.length) S1 [] M1 [] H1 := by
  have hpl : M1.length ≤ ph1.cells.length := by have := h.len; rw [List.length_append] at this; omega
  have up : ∀ (k : Nat) (a : Addr), k < M1.length → ph1.cells[k]? = some a → (ph1.cut M1.length).cells[k]? = some a := fun k a hk e => by show (ph1.cells.take M1.length)[k]? = _; rw [List.getElem?_take_of_lt hk]; exact e
  have dn : ∀ (k : Nat) (a : Addr), (ph1.cut M1.length).cells[k]? = some a → ph1.cells[k]? = some a := fun k a e => by
    replace e : (ph1.cells.take M1.length)[k]? = some a := e
    have hk : k < M1.length := by
      have := (List.getElem?_eq_some_iff.mp e).1
      rw [List.length_take] at this; omega
    rw [List.getElem?_take_of_lt hk] at e; exact e
  refine ⟨⟨fun k a e => up k a ?_ (x.pre k a e), x.same, x.hid⟩, h.sub, ?_, h.nd.sublist (List.take_sublist _ _), fun k a e => h.trk k a (dn k a e), fun k ds e hli => ?_, fun q hq => ?_, h.hnd, rfl, fun i d e => by simp at e⟩
  · refine Nat.lt_of_lt_of_le ?_ hl
    rw [← h0.len]; exact (List.getElem?_eq_some_iff.mp e).1
  · show (ph1.cells.take M1.length).length = _
    rw [List.length_take]; omega
  · have kl : k < M1.length := (List.getElem?_eq_some_iff.mp e).1
    obtain ⟨a, o, c1, c2, c3, c4⟩ := h.own k ds (by rw [List.getElem?_append_left kl]; exact e) hli
    refine ⟨a, o, up k a (by omega) c1, c2, c3, OwnR.take ?_ c4⟩
    rcases hc k _ e with q | q
    · obtain ⟨_, _, _, _, _, b4⟩ := h0.own k ds q hli
      refine belowO.monoO hl ?_
      rw [← h0.len]; exact b4.below
    · exact q
  · obtain ⟨h1, h2, h3⟩ := h.hid q hq
    exact ⟨h1, h2, fun z => h3 (List.mem_of_mem_take z)⟩
theorem Rtq.out {K : PySem.W.Frag} {ph : Ph} {S : Hp} {M : Mem} {H : Hp} {Q : DQ} (h0 : Sat K ph S [] M [] H) {v : V} {H1 : Hp} (h : postR K ph S (Rtq M Q) v H1) : postM K ph S Q v H1 := by
  obtain ⟨r, σ, ph1, S1, M', x, hs, d, q, M1, G, rfl, hl, hb, hc, hq⟩ := h
  obtain ⟨x2, hs2⟩ := Sat.leave h0 x hs hl hc
  exact ⟨_, _, _, x2, hs2, d, Rep.take d v hb q, hq⟩
/-- the names at the entry -/
def startD (n : Nat) (ds : List D) : Env := ds.map some ++ List.replicate (n - ds.length) none
theorem Sat.start {K : PySem.W.Frag} {ph : Ph} {S : Hp} {M : Mem} {H : Hp} {vs : List V} {ds : List D} (h : Sat K ph S [] M [] H) (q : RepAll K ph S vs ds) (N : List Str) : Sat K ph S (startD N.length ds) M (L2.start N vs) H := by
  refine ⟨h.sub, h.len, h.nd, h.trk, h.own, h.hid, h.hnd, ?_, fun i d e => ?_⟩
  · unfold startD L2.start
    rw [List.length_append, List.length_append, List.length_map, List.length_map, List.length_replicate, List.length_replicate, q.len]
  · unfold startD at e
    by_cases hi : i < ds.length
    · rw [List.getElem?_append_left (by rw [List.length_map]; exact hi), List.getElem?_map] at e
      cases e' : ds[i]? with
      | none => rw [e'] at e; cases e
      | some d' =>
        rw [e'] at e
        have e2 : d' = d := by simpa using e
        subst e2
        obtain ⟨v, ev, qv⟩ := q.get e'
        refine ⟨v, ?_, qv⟩
        unfold L2.start
        rw [List.getElem?_append_left (by rw [List.length_map, q.len]; exact hi), List.getElem?_map, ev]
        rfl
    · rw [List.getElem?_append_right (by rw [List.length_map]; omega), List.getElem?_replicate] at e
      split at e <;> cases e
/-- what the body's end is for the def -/
def dEnds (M : Mem) (Q : DQ) : DEnds := { nx := fun _ M' => Rtq M Q .non M', rt := Rtq M Q }
section
variable {P : Program} {w : World} {K : PySem.W.Frag} {mg : Str → Option Value} {base : Heap}
/-- THE RULE: a def from which nothing is raised, by its body; its end leaves its own cells behind -/
theorem Fun.okD {x qual : Str} {st : Stmt} {f : Addr} {fd : FuncData} {N ps : List Str} {k : Nat} {sp : DSp} {t : DTS} (F : Fun K x qual st f fd) (S : FnScope N ps (defScope st))
    (hder : ∀ (cdv : Value) (A : Around) (outer : List PySem.Env) (s : Shared) (H : Hp) (E : XK), Room k (A.deeper (envOfC qual (defScope st) s.heap.objs.size f cdv)) → (A.deeper (envOfC qual (defScope st) s.heap.objs.size f cdv)).guards = some [] →
      DSs (cxOf CX0 P w K mg base N qual (defScope st) f cdv A outer s H E).nox (defBody st) t)
    (hread : ∀ ds M Q, ds.length = ps.length → sp ds M Q DX0 → t (dEnds M Q) (startD N.length ds) M)
    (hX : ∀ ds M Q E, sp ds M Q E → sp ds M Q DX0 := by exact fun _ _ _ _ h => h) : FnD P w K mg base CX0 (k + 1) f fd ps sp := by
  obtain ⟨oc, od, kV, doc, pm, an, cdv, ct, osl, rfl, lk, hcd⟩ := F.ex
  refine fnG_of lk hcd S (fun vs H Q E h => ?_) fun A outer s H vs Q E hr gd hsp => ?_
  · obtain ⟨_, _, _, _, _, _, hl, _, q, _⟩ := h
    rw [q.len]; exact hl
  · obtain ⟨ph, S0, M, ds, Q0, E0, hl, hs, hq, h, h1, h2⟩ := hsp
    refine ⟨_, (hder cdv A outer s H E hr gd).pss.nox, ph, S0, startD N.length ds, M, dEnds M Q0, hs.start hq N, hread ds M Q0 hl (hX _ _ _ _ h), ?_, ?_, ?_, ?_⟩
    · rintro σ' H' ⟨r, ph1, S1, M1, x, hs1, z⟩
      exact h1 _ _ (Rtq.out hs ⟨r, σ', ph1, S1, M1, x, hs1, .non, .non, z⟩)
    · exact fun v H' z => h1 _ _ (Rtq.out hs z)
    · rintro σ' H' ⟨r, ph1, S1, M1, x, hs1, z⟩
      exact z.elim
    · rintro σ' H' ⟨r, ph1, S1, M1, x, hs1, z⟩
      exact z.elim
end
end DL
/-! DL6: statements, loops, comprehensions -/
namespace DL
open PySem PySem.Spec PyProof.Rows L2
variable {X : Cx}
theorem DS.of {st : Stmt} {t' : TS} {t : DTS} (h : PS X st t') (w : ∀ ph S r M σ H E, Sat X.K ph S r M σ H → t E r M → ∀ E', (∀ σ' H', postN X.K ph S E.nx σ' H' → E'.nx σ' H') → (∀ v H', postR X.K ph S E.rt v H' → E'.rt v H') → (∀ σ' H', postN X.K ph S E.bk σ' H' → E'.bk σ' H') → (∀ σ' H', postN X.K ph S E.ct σ' H' → E'.ct σ' H') → t' E' σ H) : DS X st t :=
  ⟨PS.weak h fun E σ H ⟨ph, S, r, M, E0, hs, ht, h1, h2, h3, h4⟩ => w ph S r M σ H E0 hs ht E h1 h2 h3 h4⟩
theorem postN.up {K : PySem.W.Frag} {ph ph1 : Ph} {S S1 : Hp} {Q : Env → Mem → Prop} {σ : St} {H : Hp} (x : Ext ph S ph1 S1) (h : postN K ph1 S1 Q σ H) : postN K ph S Q σ H := let ⟨r, q⟩ := h; ⟨r, Aft.up x q⟩
theorem postR.up {K : PySem.W.Frag} {ph ph1 : Ph} {S S1 : Hp} {Q : DQ} {v : V} {H : Hp} (x : Ext ph S ph1 S1) (h : postR K ph1 S1 Q v H) : postR K ph S Q v H := let ⟨r, σ, q⟩ := h; ⟨r, σ, Aft.up x q⟩
/-! ### blocks -/
def dNext : DTS := fun E r M => E.nx r M
def dSeq (t u : DTS) : DTS := fun E r M => t { E with nx := u E } r M
theorem dss_nil : DSs X [] dNext := ⟨PSs.weak pss_nil fun E σ H ⟨ph, S, r, M, E0, hs, ht, h1, _, _, _⟩ => h1 _ _ ⟨r, Aft.here hs ht⟩⟩
theorem lf_on {ph ph1 : Ph} {S S1 : Hp} {r : Env} {M : Mem} {σ : St} {H : Hp} {t : DTS} {E : DEnds} {E' : Ends} (x : Ext ph S ph1 S1) (hs : Sat X.K ph1 S1 r M σ H) (ht : t E r M)
    (h1 : ∀ σ' H', postN X.K ph S E.nx σ' H' → E'.nx σ' H') (h2 : ∀ v H', postR X.K ph S E.rt v H' → E'.rt v H') (h3 : ∀ σ' H', postN X.K ph S E.bk σ' H' → E'.bk σ' H') (h4 : ∀ σ' H', postN X.K ph S E.ct σ' H' → E'.ct σ' H') : lfS X.K t E' σ H :=
  ⟨ph1, S1, r, M, E, hs, ht, fun _ _ z => h1 _ _ (z.up x), fun _ _ z => h2 _ _ (z.up x), fun _ _ z => h3 _ _ (z.up x), fun _ _ z => h4 _ _ (z.up x)⟩
theorem dss_cons {st : Stmt} {rest : List Stmt} {t u : DTS} (h : DS X st t) (h' : DSs X rest u) : DSs X (st :: rest) (dSeq t u) :=
  ⟨PSs.weak (pss_cons h.ps h'.pss) fun E σ H ⟨ph, S, r, M, E0, hs, ht, h1, h2, h3, h4⟩ =>
    ⟨ph, S, r, M, { E0 with nx := u E0 }, hs, ht, fun σ' H' ⟨r1, ph1, S1, M1, x, hs1, z⟩ => lf_on x hs1 z h1 h2 h3 h4, h2, h3, h4⟩⟩
theorem dss_one {st : Stmt} {t : DTS} (h : DS X st t) : DSs X [st] t := ⟨pss_one h.ps⟩
def dNever : DTS := fun _ _ _ => False
theorem ds_never {st : Stmt} : DS X st dNever := ⟨PS.weak ps_never fun E σ H ⟨ph, S, r, M, E0, hs, ht, _⟩ => ht.elim⟩
section
variable {pos : Pos}
/-- an expression whose value is dropped -/
def dDrop (t : DTE) : DTS := fun E r M => t r M fun _ M1 => E.nx r M1
theorem ds_expr {e : Expr} {t : DTE} (he : DE X e t) (hs : swapsWith e none pos.line X.env = pure false := by rfl) : DS X (.Expr e pos) (dDrop t) :=
  DS.of (ps_expr he.pe hs) fun ph S r M σ H E hs ht E' h1 _ _ _ => ⟨ph, S, r, M, _, hs, ht, fun v H' ⟨ph1, S1, M1, x, hs1, d, _, z⟩ => h1 _ _ ⟨r, ph1, S1, M1, x, hs1, z⟩⟩
def dRet (t : DTE) : DTS := fun E r M => t r M E.rt
theorem ds_ret {e : Expr} {t : DTE} (he : DE X e t) : DS X (.Return (some e) pos) (dRet t) :=
  DS.of (ps_ret he.pe) fun ph S r M σ H E hs ht E' _ h2 _ _ => ⟨ph, S, r, M, _, hs, ht, fun v H' z => h2 _ _ ⟨r, σ, z⟩⟩
def dRetN : DTS := fun E _ M => E.rt .non M
def dIfS (c : DTT) (t u : DTS) : DTS := fun E r M => c r M fun b M1 => if b = true then t E r M1 else u E r M1
theorem ds_if {c : Expr} {a b : List Stmt} {tc : DTT} {t u : DTS} (hc : DT X c tc) (ha : DSs X a t) (hb : DSs X b u) : DS X (.If c a b pos) (dIfS tc t u) :=
  DS.of (ps_if hc.pt ha.pss hb.pss) fun ph S r M σ H E hs ht E' h1 h2 h3 h4 => ⟨ph, S, r, M, _, hs, ht, fun k H1 ⟨ph1, S1, M1, x, hs1, z⟩ => by
    cases k with
    | true => exact lf_on x hs1 z h1 h2 h3 h4
    | false => exact lf_on x hs1 z h1 h2 h3 h4⟩
end
/-! ### targets -/
abbrev DTG := D → Env → Mem → (Env → Mem → Prop) → Prop
structure DG (X : Cx) (target : Expr) (g : DTG) : Prop where
  pg : PG X target (fun v σ H Q => ∃ ph S r M d Q0, Sat X.K ph S r M σ H ∧ Rep X.K ph S v d ∧ g d r M Q0 ∧ ∀ σ' H', postN X.K ph S Q0 σ' H' → Q σ' H')
def dName (i : Nat) : DTG := fun d r M Q => Q (r.set i (some d)) M
theorem dg_name {i : Nat} {x : Str} {pos : Pos} (hN : X.N.Nodup) (hi : X.N[i]? = some x := by rfl) (hx : Loc X.env.scope x := by first | exact Or.inl rfl | exact Or.inr rfl) (hf : X.fn x = true ∨ X.env.scope.names.lookup x = some .local := by first | exact .inl rfl | exact .inr rfl | assumption) : DG X (.Name x pos) (dName i) :=
  ⟨⟨fun pins s σ H v u Q I rv ⟨ph, S, r, M, d, Q0, hs, q, hg, h1⟩ => (pg_name hN hi hx hf).run pins s σ H v u Q I rv (h1 _ _ ⟨_, Aft.here (hs.setN q) hg⟩)⟩⟩
abbrev DTGs := List D → Env → Mem → (Env → Mem → Prop) → Prop
structure DGs (X : Cx) (ts : List Expr) (g : DTGs) : Prop where
  pgs : PGs X ts (fun vs σ H Q => ∃ ph S r M ds Q0, Sat X.K ph S r M σ H ∧ RepAll X.K ph S vs ds ∧ g ds r M Q0 ∧ ∀ σ' H', postN X.K ph S Q0 σ' H' → Q σ' H')
def dGNil : DTGs := fun ds r M Q => match ds with
  | [] => Q r M
  | _ => False
def dGCons (g : DTG) (u : DTGs) : DTGs := fun ds r M Q => match ds with
  | d :: rest => g d r M fun r1 M1 => u rest r1 M1 Q
  | _ => False
theorem dgs_nil : DGs X [] dGNil := ⟨⟨fun pins s σ H vs us Q I rv ⟨ph, S, r, M, ds, Q0, hs, q, hg, h1⟩ => pgs_nil.run pins s σ H vs us Q I rv (by
  cases ds with
  | cons d ds => exact hg.elim
  | nil =>
    cases q
    exact ⟨rfl, h1 _ _ ⟨r, Aft.here hs hg⟩⟩)⟩⟩
theorem dgs_cons {e : Expr} {es : List Expr} {g : DTG} {u : DTGs} (h : DG X e g) (h' : DGs X es u) (hst : (assignEach (e :: es) X.env).map (·.2) = assign e X.env :: (assignEach es X.env).map (·.2) := by rfl) : DGs X (e :: es) (dGCons g u) :=
  ⟨⟨fun pins s σ H vs us Q I rv ⟨ph, S, r, M, ds, Q0, hs, q, hg, h1⟩ => (pgs_cons h.pg h'.pgs hst).run pins s σ H vs us Q I rv (by
    cases ds with
    | nil => exact hg.elim
    | cons d ds =>
      cases q with
      | cons q1 q2 => exact ⟨_, _, rfl, ph, S, r, M, d, _, hs, q1, hg, fun σ1 H1 ⟨r1, ph1, S1, M1, x1, hs1, z⟩ => ⟨ph1, S1, r1, M1, ds, Q0, hs1, q2.up x1, z, fun σ2 H2 z2 => h1 _ _ (z2.up x1)⟩⟩)⟩⟩
/-- (a, b, ..) = a tuple, or a list -/
def dGTup (n : Nat) (u : DTGs) : DTG := fun d r M Q => match res M d with
  | .tup ds => ds.length = n ∧ u ds r M Q
  | .lst ds => ds.length = n ∧ u ds r M Q
  | _ => False
theorem dg_tup {es : List Expr} {k : Nat} {u : DTGs} {n : Nat} {pos : Pos} (hc : X.calm = true) (h : DGs X es u) (hn : (assignEach es X.env).length = n := by rfl) (hst : (assignEach es X.env).findIdx? (·.1) = none := by rfl) : DG X (.Tuple es k pos) (dGTup n u) :=
  ⟨⟨fun pins s σ H v u' Q I rv ⟨ph, S, r, M, d, Q0, hs, q, hg, h1⟩ => by
    unfold dGTup at hg
    split at hg
    · rename_i ds e
      have e' := res_tup e
      subst e'
      refine (pg_tup hc h.pgs hn hst).run pins s σ H v u' Q I rv ?_
      cases q with
      | tup q1 q2 => exact ⟨_, _, rfl, q1.sq hs.sub, by rw [q2.len]; exact hg.1, ph, S, r, M, _, Q0, hs, q2, hg.2, h1⟩
    · rename_i ds e
      obtain ⟨a, xs, e1, e2, q2⟩ := res_lst hs q e
      refine (pg_unl hc h.pgs hn hst).run pins s σ H v u' Q I rv ?_
      exact ⟨a, xs, e1, SqL.of e2, by rw [q2.len]; exact hg.1, ph, S, r, M, _, Q0, hs, q2, hg.2, h1⟩
    · exact hg.elim⟩⟩
/-- o[i] = .., o an owned list -/
def gSetL (o i d : D) (M : Mem) (Q : Mem → Prop) : Prop := match o, i with
  | .own k, .int j => match M[k]? with
    | some (.lst l) => match ixN l.length j with
      | some n => Q (M.set k (.lst (l.set n d)))
      | none => False
    | _ => False
  | _, _ => False
def dSub (to ti : DTE) : DTG := fun d r M Q => to r M fun o M1 => ti r M1 fun i M2 => gSetL o i d M2 fun M3 => Q r M3
theorem dg_sub {o i : Expr} {to ti : DTE} {pos : Pos} (ho : DE X o to) (hi : DE X i ti)
    (ha : ∀ v, assign (.Subscript o i pos) X.env v = (do
      let ov ← holding [v] (eval o X.env)
      let iv ← holding [v, ov] (eval i X.env)
      standAt pos
      holding [v, ov, iv] (setItem ov iv v)
      release [v, ov, iv] []) := by intro _; rfl) : DG X (.Subscript o i pos) (dSub to ti) :=
  ⟨⟨fun pins s σ H v u Q I rv ⟨ph, S, r, M, d, Q0, hs, q, hg, h1⟩ => (pg_sub ho.pe hi.pe set_list ha).run pins s σ H v u Q I rv
    ⟨ph, S, r, M, _, hs, hg, fun ov H1 ⟨ph1, S1, M1, x1, hs1, od, q1, g1⟩ => ⟨ph1, S1, r, M1, _, hs1, g1, fun iv H2 ⟨ph2, S2, M2, x2, hs2, id', q2, g2⟩ => by
      replace g2 : gSetL od id' d M2 fun M3 => Q0 r M3 := g2
      cases od with
      | own k =>
        cases id' with
        | int j =>
          unfold gSetL at g2
          dsimp only at g2
          split at g2
          · rename_i l hk
            split at g2
            · rename_i n hn
              cases q2
              cases q1 with
              | own hp =>
                have hp2 := x2.pre _ _ hp
                obtain ⟨a, xs, c1, c2, c3, c4⟩ := hs2.cell k l hk
                rw [hp2] at c1; cases c1
                exact ⟨_, xs, j, n, rfl, rfl, c3, by rw [c4.len]; exact hn, h1 _ _ ⟨r, ph2, S2, _, x1.trans x2, hs2.put hk hp2 (RepAll.set (q.up (x1.trans x2)) n c4), g2⟩⟩
            · exact g2.elim
          · exact g2.elim
        | _ => exact g2.elim
      | _ => exact g2.elim⟩⟩⟩⟩
/-- target = value -/
def dAsg (t : DTE) (g : DTG) : DTS := fun E r M => t r M fun d M1 => g d r M1 E.nx
section
variable {pos : Pos}
theorem ds_asg {tg e : Expr} {t : DTE} {g : DTG} (he : DE X e t) (hg : DG X tg g) (hs : swapsWithSole [tg] e pos.line X.env = pure false := by rfl) (hw : swappedStores [tg] e X.env = pure none := by rfl)
    (h1 : (assignEach [tg] X.env).map (·.2) = [assign tg X.env] := by rfl) : DS X (.Assign [tg] e pos) (dAsg t g) :=
  DS.of (ps_asg he.pe hg.pg hs hw h1) fun ph S r M σ H E hs ht E' h1 _ _ _ => ⟨ph, S, r, M, _, hs, ht, fun v H' ⟨ph1, S1, M1, x, hs1, d, q, z⟩ => ⟨ph1, S1, r, M1, d, E.nx, hs1, q, z, fun σ2 H2 z2 => h1 _ _ (z2.up x)⟩⟩
/-- name = value -/
theorem ds_set {i : Nat} {x : Str} {e : Expr} {t : DTE} {pos' : Pos} (hN : X.N.Nodup) (he : DE X e t) (hi : X.N[i]? = some x := by rfl) (hx : Loc X.env.scope x := by first | exact Or.inl rfl | exact Or.inr rfl) (hs : swapsWith e (some (.Name x pos')) pos.line X.env = pure false := by rfl) (hf : X.fn x = true ∨ X.env.scope.names.lookup x = some .local := by first | exact .inl rfl | exact .inr rfl | assumption) :
    DS X (.Assign [.Name x pos'] e pos) (dAsg t (dName i)) :=
  DS.of (ps_set hN hi hx he.pe hs hf) fun ph S r M σ H E hs ht E' h1 _ _ _ => ⟨ph, S, r, M, _, hs, ht, fun v H' ⟨ph1, S1, M1, x, hs1, d, q, z⟩ => h1 _ _ ⟨_, ph1, S1, M1, x, hs1.setN q, z⟩⟩
/-- a, b = x, y -/
def dPar (i j : Nat) (t : DTA) : DTS := fun E r M => t r M fun ds M1 => match ds with
  | [d, e] => E.nx ((r.set i (some d)).set j (some e)) M1
  | _ => False
theorem ds_par {i j : Nat} {x y : Str} {a b : Expr} {t : DTA} {px py pt : Pos} {kt k2 pt2} (hc : X.calm = true) (hN : X.N.Nodup) (ha : DA X [a, b] t) (hi : X.N[i]? = some x := by rfl) (hj : X.N[j]? = some y := by rfl) (hij : i ≠ j := by decide)
    (hx : X.env.scope.names.lookup x = some .local := by rfl) (hy : X.env.scope.names.lookup y = some .local := by rfl)
    (hw : swappedStores [.Tuple [.Name x px, .Name y py] kt pt] (.Tuple [a, b] k2 pt2) X.env = pure (some [x, y]) := by rfl)
    (hs : swapsWithSole [.Tuple [.Name x px, .Name y py] kt pt] (.Tuple [a, b] k2 pt2) pos.line X.env = pure false := by rfl) :
    DS X (.Assign [.Tuple [.Name x px, .Name y py] kt pt] (.Tuple [a, b] k2 pt2) pos) (dPar i j t) :=
  DS.of (ps_par hc hN hi hj hij hx hy ha.pa hw hs) fun ph S r M σ H E hs ht E' h1 _ _ _ => ⟨ph, S, r, M, _, hs, ht, fun vs H' ⟨ph1, S1, M1, x, hs1, ds, q, z⟩ => by
    match ds, q, z with
    | [d, e], .cons q1 (.cons q2 .nil), z => exact ⟨_, _, rfl, h1 _ _ ⟨_, ph1, S1, M1, x, (hs1.setN q1).setN q2, z⟩⟩⟩
def dPar3 (i j l : Nat) (t : DTA) : DTS := fun E r M => t r M fun ds M1 => match ds with
  | [d, e, f] => E.nx (((r.set i (some d)).set j (some e)).set l (some f)) M1
  | _ => False
theorem ds_par3 {i j l : Nat} {x y z : Str} {a b c : Expr} {t : DTA} {px py pz pt : Pos} {kt k2 pt2} (hc : X.calm = true) (hN : X.N.Nodup) (ha : DA X [a, b, c] t) (hi : X.N[i]? = some x := by rfl) (hj : X.N[j]? = some y := by rfl) (hl : X.N[l]? = some z := by rfl) (hij : i ≠ j := by decide) (hil : i ≠ l := by decide) (hjl : j ≠ l := by decide)
    (hx : X.env.scope.names.lookup x = some .local := by rfl) (hy : X.env.scope.names.lookup y = some .local := by rfl) (hz : X.env.scope.names.lookup z = some .local := by rfl)
    (hw : swappedStores [.Tuple [.Name x px, .Name y py, .Name z pz] kt pt] (.Tuple [a, b, c] k2 pt2) X.env = pure (some [x, y, z]) := by rfl)
    (hs : swapsWithSole [.Tuple [.Name x px, .Name y py, .Name z pz] kt pt] (.Tuple [a, b, c] k2 pt2) pos.line X.env = pure false := by rfl) :
    DS X (.Assign [.Tuple [.Name x px, .Name y py, .Name z pz] kt pt] (.Tuple [a, b, c] k2 pt2) pos) (dPar3 i j l t) :=
  DS.of (ps_par3 hc hN hi hj hl hij hil hjl hx hy hz ha.pa hw hs) fun ph S r M σ H E hs ht E' h1 _ _ _ => ⟨ph, S, r, M, _, hs, ht, fun vs H' ⟨ph1, S1, M1, x, hs1, ds, q, z⟩ => by
    match ds, q, z with
    | [d, e, f], .cons q1 (.cons q2 (.cons q3 .nil)), z => exact ⟨_, _, _, rfl, h1 _ _ ⟨_, ph1, S1, M1, x, ((hs1.setN q1).setN q2).setN q3, z⟩⟩⟩
/-- name op= e (ints) -/
def gIpI (f : Int → Int → Int) (x y : D) (M : Mem) (Q : DQ) : Prop := match x, y with
  | .int i, .int j => Q (.int (f i j)) M
  | _, _ => False
def dAug (i : Nat) (t : DTE) (f : Int → Int → Int) : DTS := fun E r M => match r[i]? with
  | some (some (.int a)) => t r M fun d M1 => gIpI f (.int a) d M1 fun z M2 => E.nx (r.set i (some z)) M2
  | _ => False
/-! ### while -/
def dWhile (c : DTT) (t : DTS) : DTS := fun E r M => ∃ W : Nat → Env → Mem → Prop, (∃ m, W m r M) ∧ ∀ m r M, W m r M →
  c r M fun b M1 => if b = true then t { E with nx := fun r' M' => ∃ m', m' < m ∧ W m' r' M', ct := fun r' M' => ∃ m', m' < m ∧ W m' r' M', bk := E.nx } r M1 else E.nx r M1
theorem ds_while {c : Expr} {body : List Stmt} {tc : DTT} {t : DTS} (hc : DT X c tc) (hb : DSs X body t) (hp : PassesOwn (model X.prog X.w) X.A X.env X.xe := by exact PassesOwn.never) : DS X (.While c body [] pos) (dWhile tc t) :=
  DS.of (ps_while hp hc.pt hb.pss) fun ph S r M σ H E hs ht E' h1 h2 h3 h4 => by
    obtain ⟨W, ⟨m0, w0⟩, turn⟩ := ht
    refine ⟨fun m σ H => postN X.K ph S (W m) σ H, ⟨m0, r, Aft.here hs w0⟩, fun m σ1 H1 ⟨r1, ph1, S1, M1, x1, hs1, w1⟩ => ?_⟩
    refine ⟨ph1, S1, r1, M1, _, hs1, turn m r1 M1 w1, fun b H2 ⟨ph2, S2, M2, x2, hs2, z⟩ => ?_⟩
    cases b with
    | false =>
      rw [if_neg Bool.false_ne_true] at z ⊢
      exact h1 _ _ ⟨r1, ph2, S2, M2, x1.trans x2, hs2, z⟩
    | true =>
      rw [if_pos rfl] at z ⊢
      refine ⟨fun σ' H' => ∃ m', m' < m ∧ postN X.K ph S (W m') σ' H', fun _ _ q => q, ?_⟩
      exact lf_on (x1.trans x2) hs2 z (fun σ' H' ⟨r', ph', S', M', x', hs', m', hm, w'⟩ => ⟨m', hm, r', ph', S', M', x', hs', w'⟩) h2 h1 (fun σ' H' ⟨r', ph', S', M', x', hs', m', hm, w'⟩ => ⟨m', hm, r', ph', S', M', x', hs', w'⟩)
end
/-! ### what is walked -/
/-- J walks the items ds, while C holds of the cells -/
def Wlk (K : PySem.W.Frag) (ph : Ph) (S : Hp) (J : It) (ds : List D) (C : Mem → Prop) : Prop :=
  ∀ (ph' : Ph) S' r M σ H, (∀ (k : Nat) (a : Addr), ph.cells[k]? = some a → ph'.cells[k]? = some a) → Same S S' → Sat K ph' S' r M σ H → C M →
    (∀ i, ds.length ≤ i → J.stop i H) ∧ ∀ i d, ds[i]? = some d → J.go i H ∧ ∀ x H', J.yld i H x H' → Aft K ph' S' r σ H' fun ph2 S2 M2 => M2 = M ∧ Rep K ph2 S2 x d
abbrev DTI := Env → Mem → (List D → (Mem → Prop) → Mem → Prop) → Prop
structure DI (X : Cx) (tg iter : Expr) (t : DTI) : Prop where
  pi : PI X tg iter (fun σ H R => ∃ ph S r M Q0, Sat X.K ph S r M σ H ∧ t r M Q0 ∧ ∀ J H', (Aft X.K ph S r σ H' fun ph' S' M' => ∃ ds C, Wlk X.K ph' S' J ds C ∧ Q0 ds C M') → R J H')
/-- for: W holds ahead of turn i -/
def forW (ds : List D) (C : Mem → Prop) (g : DTG) (t : DTS) (E : DEnds) (r : Env) (M0 : Mem) : Prop := ∃ W : Nat → Env → Mem → Prop, W 0 r M0 ∧ ∀ i r M, W i r M → C M ∧ (ds.length ≤ i → E.nx r M) ∧
  ∀ d, ds[i]? = some d → g d r M fun r2 M2 => t { E with nx := W (i + 1), ct := W (i + 1), bk := E.nx } r2 M2
def dFor (wi : DTI) (g : DTG) (t : DTS) : DTS := fun E r M => wi r M fun ds C M0 => forW ds C g t E r M0
theorem ds_for {tg iter : Expr} {body : List Stmt} {wi : DTI} {g : DTG} {t : DTS} {pos : Pos} (hc : X.calm = true) (hi : DI X tg iter wi) (hg : DG X tg g) (hb : DSs X body t)
    (hs : ∀ x, foldedSetIterable iter X.env x = pure x := by intro _; rfl) (hp : PassesOwn (model X.prog X.w) X.A X.env X.xe := by exact PassesOwn.never) : DS X (.For tg iter body [] pos) (dFor wi g t) :=
  DS.of (ps_for hp hc hi.pi hg.pg hb.pss hs) fun ph S r M σ H E hs ht E' h1 h2 h3 h4 => by
    refine ⟨ph, S, r, M, _, hs, ht, fun J H1 ⟨ph1, S1, M1, x1, hs1, ds, C, wk, W, w0, turn⟩ => ?_⟩
    refine ⟨fun i m σ H => m = ds.length - i ∧ ∃ r', Aft X.K ph1 S1 r' σ H fun _ _ M => W i r' M, ⟨ds.length, by omega, r, Aft.here hs1 w0⟩, ?_⟩
    rintro i m σ3 H3 ⟨rfl, r3, ph3, S3, M3, x3, hs3, w3⟩
    obtain ⟨c3, f3, g3⟩ := turn i r3 M3 w3
    obtain ⟨k1, k2⟩ := wk ph3 S3 r3 M3 σ3 H3 x3.pre x3.same hs3 c3
    by_cases hl : ds.length ≤ i
    · exact .inl ⟨k1 i hl, h1 _ _ ⟨r3, ph3, S3, M3, x1.trans x3, hs3, f3 hl⟩⟩
    · obtain ⟨d, ed⟩ : ∃ d, ds[i]? = some d := ⟨ds[i]'(by omega), List.getElem?_eq_getElem (by omega)⟩
      obtain ⟨k3, k4⟩ := k2 i d ed
      refine .inr ⟨k3, fun σ' H' => ∃ r', Aft X.K ph1 S1 r' σ' H' fun _ _ M => W (i + 1) r' M, fun σ' H' z => ⟨ds.length - (i + 1), by omega, rfl, z⟩, fun x H4 hy => ?_⟩
      obtain ⟨ph4, S4, M4, x4, hs4, rfl, q4⟩ := k4 x H4 hy
      refine ⟨ph4, S4, r3, M4, d, _, hs4, q4, g3 d ed, fun σ5 H5 ⟨r5, ph5, S5, M5, x5, hs5, z5⟩ => ?_⟩
      have xx : Ext ph1 S1 ph5 S5 := x3.trans (x4.trans x5)
      refine ⟨ph5, S5, r5, M5, _, hs5, z5, ?_, ?_, ?_, ?_⟩
      · exact fun σ6 H6 ⟨r6, z6⟩ => ⟨r6, Aft.up xx z6⟩
      · exact fun v H6 z6 => h2 _ _ (z6.up (x1.trans xx))
      · exact fun σ6 H6 z6 => h1 _ _ (z6.up (x1.trans xx))
      · exact fun σ6 H6 ⟨r6, z6⟩ => ⟨r6, Aft.up xx z6⟩
/-! ### comprehensions -/
/-- the tests behind if -/
def dYes : DTT := fun _ M Q => Q true M
structure DTs (X : Cx) (ifs : List Expr) (t : DTT) : Prop where
  pts : PTs X ifs (fun σ H Q => ∃ ph S r M Q0, Sat X.K ph S r M σ H ∧ t r M Q0 ∧ ∀ b H', postT X.K ph S r σ Q0 b H' → Q b H')
theorem dts_nil : DTs X [] dYes := ⟨⟨fun pins s σ H Q I ⟨ph, S, r, M, Q0, hs, ht, hq⟩ => pts_nil.run pins s σ H Q I (hq _ _ (Aft.here hs ht))⟩⟩
theorem dts_one {c : Expr} {t : DTT} (h : DT X c t) : DTs X [c] t := ⟨pts_one h.pt⟩
def wipeD (r : Env) : List Nat → Env
  | [] => r
  | v :: vs => (wipeD r vs).set v none
theorem Sat.clr {K : PySem.W.Frag} {ph : Ph} {S : Hp} {r : Env} {M : Mem} {σ : St} {H : Hp} (h : Sat K ph S r M σ H) (i : Nat) : Sat K ph S (r.set i none) M (σ.set i none) H := by
  refine ⟨h.sub, h.len, h.nd, h.trk, h.own, h.hid, h.hnd, by rw [List.length_set, List.length_set]; exact h.el, fun j e hj => ?_⟩
  by_cases hi : j = i
  · subst hi
    have jl : j < r.length := by
      have := (List.getElem?_eq_some_iff.mp hj).1
      rwa [List.length_set] at this
    rw [List.getElem?_set_self jl] at hj
    cases hj
  · rw [List.getElem?_set_ne (Ne.symm hi)] at hj
    rw [List.getElem?_set_ne (Ne.symm hi)]
    exact h.env j e hj
theorem Sat.wipe {K : PySem.W.Frag} {ph : Ph} {S : Hp} {r : Env} {M : Mem} {σ : St} {H : Hp} (h : Sat K ph S r M σ H) : ∀ vs : List Nat, Sat K ph S (wipeD r vs) M (L2.wipe σ vs) H
  | [] => h
  | v :: vs => (Sat.wipe h vs).clr v
/-- a target whose names are the comprehension's own (places vs) -/
structure DCG (X : Cx) (target : Expr) (vs : List Nat) (g : DTG) : Prop where
  pg : PG X target (fun v σ H Q => ∃ ph S r M d Q0, Sat X.K ph S r M σ H ∧ Rep X.K ph S v d ∧ g d r M Q0 ∧ ∀ σ' H', postN X.K ph S Q0 σ' H' → L2.wipe σ' vs = L2.wipe σ vs → Q σ' H')
theorem wipe_set {σ : St} {i : Nat} {x : Option V} : ∀ {vs : List Nat}, i ∈ vs → L2.wipe (σ.set i x) vs = L2.wipe σ vs
  | [], h => by cases h
  | v :: vs, h => by
    unfold L2.wipe
    by_cases hv : i ∈ vs
    · rw [wipe_set hv]
    · have e : i = v := (List.mem_cons.mp h).resolve_right hv
      subst e
      have key : ∀ (us : List Nat), i ∉ us → L2.wipe (σ.set i x) us = (L2.wipe σ us).set i x := by
        intro us
        induction us with
        | nil => intro _; rfl
        | cons u us ih =>
          intro hu
          unfold L2.wipe
          rw [ih (fun z => hu (List.mem_cons_of_mem _ z)), List.set_comm _ _ (fun e => hu (by rw [e]; exact List.mem_cons_self))]
      rw [key vs hv, List.set_set]
theorem dcg_name {i : Nat} {x : Str} {pos : Pos} {vs : List Nat} (hN : X.N.Nodup) (hi : X.N[i]? = some x := by rfl) (hv : i ∈ vs := by decide) (hx : Loc X.env.scope x := by first | exact Or.inl rfl | exact Or.inr rfl) (hf : X.fn x = true ∨ X.env.scope.names.lookup x = some .local := by first | exact .inl rfl | exact .inr rfl | assumption) : DCG X (.Name x pos) vs (dName i) :=
  ⟨⟨fun pins s σ H v u Q I rv ⟨ph, S, r, M, d, Q0, hs, q, hg, h1⟩ => (pg_name hN hi hx hf).run pins s σ H v u Q I rv (h1 _ _ ⟨_, Aft.here (hs.setN q) hg⟩ (wipe_set hv))⟩⟩
/-- [e for target in iter if ..]: W holds ahead of turn i with the items made so far; own: the list will be changed -/
def lcW (own : Bool) (ds : List D) (C : Mem → Prop) (g : DTG) (tt : DTT) (te : DTE) (r : Env) (M0 : Mem) (Q : DQ) : Prop := ∃ W : Nat → List D → Mem → Prop, W 0 [] M0 ∧ ∀ i acc M, W i acc M → C M ∧
  (ds.length ≤ i → if own = true then Q (.own M.length) (M ++ [.lst acc]) else Q (.lst acc) M) ∧
  ∀ d, ds[i]? = some d → g d r M fun r2 M2 => tt r2 M2 fun b M3 => if b = true then te r2 M3 fun e M4 => acc.length < sizeLine ∧ W (i + 1) (acc ++ [e]) M4 else W (i + 1) acc M3
def dLc (own : Bool) (wi : DTI) (g : DTG) (tt : DTT) (te : DTE) (vs : List Nat) : DTE := fun r M Q => wi r M fun ds C M0 => lcW own ds C g tt te (wipeD r vs) M0 Q
theorem wipe_at {σ : St} {i : Nat} : ∀ {vs : List Nat}, i ∈ vs → i < σ.length → (L2.wipe σ vs)[i]? = some none
  | [], h, _ => by cases h
  | v :: vs, h, hl => by
    unfold L2.wipe
    by_cases e : v = i
    · subst e
      rw [List.getElem?_set_self (by rw [wipe_length]; exact hl)]
    · rw [List.getElem?_set_ne e]
      exact wipe_at ((List.mem_cons.mp h).resolve_left (fun z => e z.symm)) hl
theorem wipe_wipe (σ : St) (vs : List Nat) : L2.wipe (L2.wipe σ vs) vs = L2.wipe σ vs := by
  refine List.ext_getElem? fun i => ?_
  by_cases hi : i ∈ vs
  · by_cases hl : i < σ.length
    · rw [wipe_at hi (by rw [wipe_length]; exact hl), wipe_at hi hl]
    · rw [List.getElem?_eq_none (by rw [wipe_length, wipe_length]; omega), List.getElem?_eq_none (by rw [wipe_length]; omega)]
  · rw [wipe_out hi]
theorem lc_read (o : Bool) {wi : DTI} {g : DTG} {tt : DTT} {te : DTE} {vs : List Nat} {ph : Ph} {S : Hp} {r : Env} {M : Mem} {σ : St} {H : Hp} {Q : DQ} (hs : Sat X.K ph S r M σ H) (ht : dLc o wi g tt te vs r M Q) (Q' : VK) (hq : ∀ v H', post X.K ph S r σ Q v H' → Q' v H') :
    tLc (fun σ H R => ∃ ph S r M Q0, Sat X.K ph S r M σ H ∧ wi r M Q0 ∧ ∀ J H', (Aft X.K ph S r σ H' fun ph' S' M' => ∃ ds C, Wlk X.K ph' S' J ds C ∧ Q0 ds C M') → R J H')
      (fun v σ H Q => ∃ ph S r M d Q0, Sat X.K ph S r M σ H ∧ Rep X.K ph S v d ∧ g d r M Q0 ∧ ∀ σ' H', postN X.K ph S Q0 σ' H' → L2.wipe σ' vs = L2.wipe σ vs → Q σ' H')
      (fun σ H Q => ∃ ph S r M Q0, Sat X.K ph S r M σ H ∧ tt r M Q0 ∧ ∀ b H', postT X.K ph S r σ Q0 b H' → Q b H')
      (fun σ H Q => ∃ ph S r M Q0, Sat X.K ph S r M σ H ∧ te r M Q0 ∧ ∀ v H', post X.K ph S r σ Q0 v H' → Q v H') vs σ H Q' := by
  refine ⟨ph, S, r, M, _, hs, ht, fun J H1 ⟨ph1, S1, M1, x1, hs1, ds, C, wk, W, w0, turn⟩ => ?_⟩
  intro p hp
  refine ⟨fun i m H => m = ds.length - i ∧ ∃ (ph2 : Ph) (S2 : Hp) (M2 : Mem) (xs : List V) (acc : List D), Ext ph1 S1 ⟨ph2.cells, ph1.hid⟩ S2 ∧ ph2.hid = (p, .lst xs) :: ph1.hid ∧ Sat X.K ph2 S2 r M2 σ H ∧ RepAll X.K ph2 S2 xs acc ∧ W i acc M2,
    ⟨ds.length, by omega, { ph1 with hid := (p, .lst []) :: ph1.hid }, S1, M1, [], [], .refl, rfl, hs1.hide hp _, .nil, w0⟩, ?_⟩
  rintro i m H3 ⟨rfl, ph3, S3, M3, xs, acc, x3, eh, hs3, qa, w3⟩
  obtain ⟨c3, f3, g3⟩ := turn i acc M3 w3
  obtain ⟨k1, k2⟩ := wk ph3 S3 r M3 σ H3 x3.pre x3.same hs3 c3
  by_cases hl : ds.length ≤ i
  · refine .inl ⟨k1 i hl, ?_⟩
    have f := f3 hl
    obtain ⟨c, hd⟩ := ph3
    cases eh
    cases o with
    | false =>
      rw [if_neg Bool.false_ne_true] at f
      obtain ⟨x4, hs4⟩ := hs3.hfrz
      exact hq _ _ ⟨⟨c, ph1.hid⟩, _, M3, x1.trans (x3.trans x4), hs4, _, .lst upd_same ((RepAll.hid qa).up x4), f⟩
    | true =>
      rw [if_pos rfl] at f
      obtain ⟨x4, hs4, e4⟩ := hs3.hown (RepAll.hid qa)
      exact hq _ _ ⟨⟨c ++ [p], ph1.hid⟩, _, _, x1.trans (x3.trans x4), hs4, _, .own e4, f⟩
  · obtain ⟨d, ed⟩ : ∃ d, ds[i]? = some d := ⟨ds[i]'(by omega), List.getElem?_eq_getElem (by omega)⟩
    obtain ⟨k3, k4⟩ := k2 i d ed
    refine .inr ⟨k3, fun H' => ∃ (ph2 : Ph) (S2 : Hp) (M2 : Mem) (xs : List V) (acc : List D), Ext ph1 S1 ⟨ph2.cells, ph1.hid⟩ S2 ∧ ph2.hid = (p, .lst xs) :: ph1.hid ∧ Sat X.K ph2 S2 r M2 σ H' ∧ RepAll X.K ph2 S2 xs acc ∧ W (i + 1) acc M2, fun H' z => ⟨ds.length - (i + 1), by omega, rfl, z⟩, fun x H4 hy => ?_⟩
    obtain ⟨ph4, S4, M4, x4, hs4, rfl, q4⟩ := k4 x H4 hy
    refine ⟨ph4, S4, wipeD r vs, M4, d, _, hs4.wipe vs, q4, g3 d ed, fun σ5 H5 ⟨r5, ph5, S5, M5, x5, hs5, z5⟩ e5 => ⟨e5.trans (wipe_wipe σ vs), ?_⟩⟩
    refine ⟨ph5, S5, r5, M5, _, hs5, z5, fun b H6 ⟨ph6, S6, M6, x6, hs6, z6⟩ => ?_⟩
    cases b with
    | false =>
      have xx := x4.trans (x5.trans x6)
      rw [if_neg Bool.false_ne_true] at z6 ⊢
      exact ⟨ph6, S6, M6, xs, acc, ⟨fun k a e => xx.pre k a (x3.pre k a e), x3.same.trans xx.same, rfl⟩, xx.hid.trans eh, hs3.back xx hs6.drop, qa.up xx, z6⟩
    | true =>
      rw [if_pos rfl] at z6 ⊢
      refine ⟨ph6, S6, r5, M6, _, hs6, z6, fun v H7 ⟨ph7, S7, M7, x7, hs7, e, q7, hlt, w7⟩ => ?_⟩
      have xx := x4.trans (x5.trans (x6.trans x7))
      have eh7 : ph7.hid = (p, .lst xs) :: ph1.hid := xx.hid.trans eh
      obtain ⟨c, hd⟩ := ph7
      cases eh7
      have hb : Sat X.K ⟨c, (p, .lst xs) :: ph1.hid⟩ S7 r M7 σ H7 := hs3.back xx hs7.drop
      obtain ⟨g1, _, _⟩ := hb.hid _ List.mem_cons_self
      refine ⟨xs, g1, by rw [qa.len]; exact hlt, ⟨c, (p, .lst (xs ++ [v])) :: ph1.hid⟩, S7, M7, xs ++ [v], acc ++ [e], ⟨fun k a e => xx.pre k a (x3.pre k a e), x3.same.trans xx.same, rfl⟩, rfl, hb.hset, ?_, w7⟩
      exact (RepAll.hid (qa.up xx)).app (.cons (Rep.hid q7) .nil)
theorem de_lc (o : Bool) {elt tg iter : Expr} {ifs : List Expr} {scope : Scope} {own : List (Str × Nat)} {pos : Pos} {wi : DTI} {g : DTG} {tt : DTT} {te : DTE} (hc : X.calm = true) (hN : X.N.Nodup) (ok : BlkOk X.N X.env.scope scope own) (hi : DI X tg iter wi)
    (hg : ∀ (s : Shared) (H : Hp) (C : Addr) (cl : List (Str × Addr)) (fp : List Addr), DCG (X.blk s H scope (compEnvC scope cl C X.env) fp) tg (own.map (·.2)) g)
    (ht : ∀ (s : Shared) (H : Hp) (C : Addr) (cl : List (Str × Addr)) (fp : List Addr), DTs (X.blk s H scope (compEnvC scope cl C X.env) fp) ifs tt)
    (he : ∀ (s : Shared) (H : Hp) (C : Addr) (cl : List (Str × Addr)) (fp : List Addr), DE (X.blk s H scope (compEnvC scope cl C X.env) fp) elt te)
    (hs : ∀ x, foldedSetIterable iter X.env x = pure x := by intro _; rfl) : DE X (.ListComp elt [⟨tg, iter, ifs, 0⟩] scope pos) (dLc o wi g tt te (own.map (·.2))) :=
  DE.of (pe_lc hc hN hi.pi ok (fun s H C cl fp => (hg s H C cl fp).pg) (fun s H C cl fp => (ht s H C cl fp).pts) (fun s H C cl fp => (he s H C cl fp).pe) hs) fun ph S r M σ H Q hs ht Q' hq => lc_read (X := X) o hs ht Q' hq
/-- y = [..] -/
theorem ds_setLc (o : Bool) {i : Nat} {y : Str} {py : Pos} {elt tg iter : Expr} {ifs : List Expr} {scope : Scope} {own : List (Str × Nat)} {pos spos : Pos} {wi : DTI} {g : DTG} {tt : DTT} {te : DTE} (hc : X.calm = true) (hN : X.N.Nodup) (hsw : swapsWith (.ListComp elt [⟨tg, iter, ifs, 0⟩] scope pos) (some (.Name y py)) spos.line X.env = pure true) (ok : BlkOk X.N X.env.scope scope own) (hi : DI X tg iter wi)
    (hg : ∀ (s : Shared) (H : Hp) (C : Addr) (cl : List (Str × Addr)) (fp : List Addr), DCG (X.blk s H scope (compEnvC scope cl C X.env) fp) tg (own.map (·.2)) g)
    (ht : ∀ (s : Shared) (H : Hp) (C : Addr) (cl : List (Str × Addr)) (fp : List Addr), DTs (X.blk s H scope (compEnvC scope cl C X.env) fp) ifs tt)
    (he : ∀ (s : Shared) (H : Hp) (C : Addr) (cl : List (Str × Addr)) (fp : List Addr), DE (X.blk s H scope (compEnvC scope cl C X.env) fp) elt te)
    (hy : X.N[i]? = some y := by rfl) (hyl : X.env.scope.names.lookup y = some .local := by rfl) (hs : ∀ x, foldedSetIterable iter X.env x = pure x := by intro _; rfl) : DS X (.Assign [.Name y py] (.ListComp elt [⟨tg, iter, ifs, 0⟩] scope pos) spos) (dAsg (dLc o wi g tt te (own.map (·.2))) (dName i)) :=
  DS.of (ps_setLc hc hN hy hyl hsw hi.pi ok (fun s H C cl fp => (hg s H C cl fp).pg) (fun s H C cl fp => (ht s H C cl fp).pts) (fun s H C cl fp => (he s H C cl fp).pe) hs) fun ph S r M σ H E hs ht E' h1 _ _ _ =>
    lc_read (X := X) o hs ht _ fun v H' ⟨ph1, S1, M1, x, hs1, d, q, z⟩ => h1 _ _ ⟨_, ph1, S1, M1, x, hs1.setN q, z⟩
end DL
/-! DL7: what is walked; built-ins; methods; slices; repr -/
namespace DL
open PySem PySem.Spec PyProof.Rows L2
variable {X : Cx}
/-! ### what is walked -/
theorem Wlk.list {K : PySem.W.Frag} {ph : Ph} {S : Hp} {a : Addr} {ds : List D} {C : Mem → Prop} (h : ∀ (ph' : Ph) (S' : Hp) (r : Env) (M : Mem) (σ : St) (H : Hp), (∀ (k : Nat) (a : Addr), ph.cells[k]? = some a → ph'.cells[k]? = some a) → Same S S' → Sat K ph' S' r M σ H → C M → ∃ xs, SqL K H a xs ∧ RepAll K ph' S' xs ds) : Wlk K ph S (Itl K a) ds C :=
  fun ph' S' r M σ H h1 h2 hs hc => by
    obtain ⟨xs, q, qa⟩ := h ph' S' r M σ H h1 h2 hs hc
    refine ⟨fun i hi => ⟨xs, q, by rw [qa.len]; exact hi⟩, fun i d e => ?_⟩
    obtain ⟨x, ex, qx⟩ := qa.get e
    refine ⟨⟨xs, x, q, ex⟩, fun y H' ⟨e1, e2⟩ => ?_⟩
    subst e1
    have ey := e2 xs q
    rw [ex] at ey
    cases ey
    exact Aft.here hs ⟨rfl, qx⟩
theorem Wlk.tup {K : PySem.W.Frag} {ph : Ph} {S : Hp} {a : Addr} {ds : List D} {C : Mem → Prop} (h : ∀ (ph' : Ph) (S' : Hp) (r : Env) (M : Mem) (σ : St) (H : Hp), (∀ (k : Nat) (a : Addr), ph.cells[k]? = some a → ph'.cells[k]? = some a) → Same S S' → Sat K ph' S' r M σ H → C M → ∃ xs, SqT K H a xs ∧ RepAll K ph' S' xs ds) : Wlk K ph S (Itt K a) ds C :=
  fun ph' S' r M σ H h1 h2 hs hc => by
    obtain ⟨xs, q, qa⟩ := h ph' S' r M σ H h1 h2 hs hc
    refine ⟨fun i hi => ⟨xs, q, by rw [qa.len]; exact hi⟩, fun i d e => ?_⟩
    obtain ⟨x, ex, qx⟩ := qa.get e
    refine ⟨⟨xs, x, q, ex⟩, fun y H' ⟨e1, e2⟩ => ?_⟩
    subst e1
    have ey := e2 xs q
    rw [ex] at ey
    cases ey
    exact Aft.here hs ⟨rfl, qx⟩
theorem RepAll.ext0 {K : PySem.W.Frag} {ph ph' : Ph} {S S' : Hp} {d : List D} {v : List V} (h1 : ∀ (k : Nat) (a : Addr), ph.cells[k]? = some a → ph'.cells[k]? = some a) (h2 : Same S S') (q : RepAll K ph S v d) : RepAll K ph' S' v d :=
  RepAll.hid (c := ph'.cells) (l := ph.hid) (l' := ph'.hid) (q.up (ph' := ⟨ph'.cells, ph.hid⟩) ⟨h1, h2, rfl⟩)
/-- a list, a tuple, the script -/
def gSeqI (d : D) (M : Mem) (R : List D → (Mem → Prop) → Mem → Prop) : Prop := match d with
  | .lst ds => R ds (fun _ => True) M
  | .tup ds => R ds (fun _ => True) M
  | .scr ns => R (ns.map D.int) (fun _ => True) M
  | .own k => match M[k]? with
    | some (.lst ds) => R ds (fun M' => M'[k]? = some (.lst ds)) M
    | _ => False
  | _ => False
def dSeqI (t : DTE) : DTI := fun r M R => t r M fun d M1 => gSeqI d M1 R
/-- it is a list at a, or a tuple -/
theorem pi_seq {tg l : Expr} {tl : TE} (hl : PE X l tl) : PI X tg l (fun σ H R => tl σ H fun x H1 => ∃ a, x = .ref a ∧ (((∃ xs, SqL X.K H1 a xs) ∧ R (Itl X.K a) H1) ∨ ((∃ xs, SqT X.K H1 a xs) ∧ R (Itt X.K a) H1))) := by
  refine ⟨fun pins s σ H R I h => thn (hl.run pins s σ H _ I h) fun v s1 ⟨x, H1, I1, r1, a, ex, q1⟩ => ?_⟩
  subst ex
  cases r1
  have fp : ∀ b ∈ [s1.heap.objs.size], FpOk X pins H1 b := fun b hb => by
    have e : b = s1.heap.objs.size := by simpa using hb
    rw [e]
    exact I1.fpOk (Nat.le_refl _) (I1.hok.fresh (Nat.le_refl _))
  rcases q1 with ⟨⟨xs, hq⟩, q⟩ | ⟨⟨xs, hq⟩, q⟩
  · obtain ⟨its, rv, p, hz⟩ := I1.list hq
    exact wpAny_pyIter_list p.isList ⟨s1.heap.objs.size, [s1.heap.objs.size], _, _, H1, rfl, I1.kept (t' := s1.toks) fun b o e => Heap.get?_push_of_some _ e, turn_list a _, ⟨_, Heap.get?_push_size _ rfl, rfl, rfl⟩, fp, q⟩
  · obtain ⟨its, rv, p, hz⟩ := I1.tuple hq
    exact wpAny_pyIter_tuple (show s1.heap.IsTuple a its.toArray from p) ⟨s1.heap.objs.size, [s1.heap.objs.size], _, _, H1, rfl, I1.kept (t' := s1.toks) fun b o e => Heap.get?_push_of_some _ e, turn_tuple a _, ⟨_, Heap.get?_push_size _ rfl, rfl, rfl⟩, fp, q⟩
theorem PI.weak {tg l : Expr} {t t' : TI} (h : PI X tg l t) (w : ∀ σ H R, t' σ H R → t σ H R) : PI X tg l t' := ⟨fun pins s σ H R I q => h.run pins s σ H R I (w _ _ _ q)⟩
theorem di_seq {tg l : Expr} {t : DTE} (h : DE X l t) : DI X tg l (dSeqI t) :=
  ⟨PI.weak (pi_seq h.pe) fun σ H R ⟨ph, S, r, M, Q0, hs, ht, hq⟩ => ⟨ph, S, r, M, _, hs, ht, fun v H1 ⟨ph1, S1, M1, x1, hs1, d, q1, g1⟩ => by
    cases d <;> first | exact g1.elim | skip
    · cases q1 with
      | tup h1 h2 => exact ⟨_, rfl, .inr ⟨⟨_, h1.sq hs1.sub⟩, hq _ _ ⟨ph1, S1, M1, x1, hs1, _, _, Wlk.tup (fun ph' S' r' M' σ' H' e1 e2 hs' _ => ⟨_, (h1.ext e2).sq hs'.sub, h2.ext0 e1 e2⟩), g1⟩⟩⟩
    · cases q1 with
      | lst h1 h2 => exact ⟨_, rfl, .inl ⟨⟨_, SqL.of (hs1.sub _ _ h1)⟩, hq _ _ ⟨ph1, S1, M1, x1, hs1, _, _, Wlk.list (fun ph' S' r' M' σ' H' e1 e2 hs' _ => ⟨_, SqL.of (hs'.sub _ _ (e2 _ _ h1)), h2.ext0 e1 e2⟩), g1⟩⟩⟩
    · cases q1 with
      | scr h1 => exact ⟨_, rfl, .inl ⟨⟨_, hs1.sub.seq h1⟩, hq _ _ ⟨ph1, S1, M1, x1, hs1, _, _, Wlk.list (fun ph' S' r' M' σ' H' e1 e2 hs' _ => ⟨_, hs'.sub.seq (e2.seq h1), RepAll.ints _⟩), g1⟩⟩⟩
    · rename_i k
      cases q1 with
      | own h1 =>
        replace g1 : gSeqI (.own k) M1 Q0 := g1
        unfold gSeqI at g1
        dsimp only at g1
        split at g1
        · rename_i ds hk
          obtain ⟨a, xs, c1, c2, c3, c4⟩ := hs1.cell k ds hk
          rw [h1] at c1; cases c1
          refine ⟨_, rfl, .inl ⟨⟨_, SqL.of c3⟩, hq _ _ ⟨ph1, S1, M1, x1, hs1, _, _, Wlk.list (fun ph' S' r' M' σ' H' e1 e2 hs' hc => ?_), g1⟩⟩⟩
          obtain ⟨a', xs', b1, b2, b3, b4⟩ := hs'.cell k ds hc
          rw [e1 _ _ h1] at b1; cases b1
          exact ⟨xs', SqL.of b3, b4⟩
        · exact g1.elim⟩⟩
/-- lo, lo + 1, .. -/
def rng (lo : Int) (n : Nat) : List D := (List.range n).map fun i => D.int (lo + (i : Nat))
theorem rng_len (lo : Int) (n : Nat) : (rng lo n).length = n := by unfold rng; rw [List.length_map, List.length_range]
theorem rng_get {lo : Int} {n i : Nat} {d : D} : (rng lo n)[i]? = some d ↔ i < n ∧ d = .int (lo + (i : Nat)) := by
  unfold rng
  rw [List.getElem?_map]
  constructor
  · intro e
    cases h : (List.range n)[i]? with
    | none => rw [h] at e; cases e
    | some j =>
      rw [h] at e
      obtain ⟨h1, h2⟩ := List.getElem?_eq_some_iff.mp h
      rw [List.length_range] at h1
      rw [List.getElem_range] at h2
      exact ⟨h1, by rw [h2]; exact (Option.some.inj e).symm⟩
  · rintro ⟨h1, rfl⟩
    rw [List.getElem?_eq_getElem (by rw [List.length_range]; exact h1), List.getElem_range]
    rfl
theorem Wlk.range {K : PySem.W.Frag} {ph : Ph} {S : Hp} {lo : Int} {n : Nat} {C : Mem → Prop} : Wlk K ph S (Itr lo n) (rng lo n) C := fun ph' S' r M σ H h1 h2 hs hc => by
  refine ⟨fun i hi => by rw [rng_len] at hi; exact hi, fun i d e => ?_⟩
  obtain ⟨hi, rfl⟩ := rng_get.mp e
  refine ⟨hi, fun x H' ⟨e1, e2⟩ => ?_⟩
  subst e1 e2
  exact Aft.here hs ⟨rfl, .int _⟩
def Rg (i : Int) : Prop := -(2 ^ 62) ≤ i ∧ i < 2 ^ 62
def gRng1 (ds : List D) (M : Mem) (R : List D → (Mem → Prop) → Mem → Prop) : Prop := match ds with
  | [.int n] => Rg n ∧ R (rng 0 n.toNat) (fun _ => True) M
  | _ => False
def gRng2 (ds : List D) (M : Mem) (R : List D → (Mem → Prop) → Mem → Prop) : Prop := match ds with
  | [.int a, .int b] => (Rg a ∧ Rg b) ∧ R (rng a (b - a).toNat) (fun _ => True) M
  | _ => False
def dRngI (g : List D → Mem → (List D → (Mem → Prop) → Mem → Prop) → Prop) (t : DTA) : DTI := fun r M R => t r M fun ds M1 => g ds M1 R
theorem di_range1 {tg a : Expr} {t : DTA} {p pos : Pos} (hm : X.mg "range" = none) (ha : DA X [a] t) (hg : Gl X "range" := by rfl) (hst : starEach [a] X.env = [(false, eval a X.env)] := by rfl) : DI X tg (.Call (.Name "range" p) [a] [] pos) (dRngI gRng1 t) :=
  ⟨PI.weak (pi_range1 hg hm ha.pa hst) fun σ H R ⟨ph, S, r, M, Q0, hs, ht, hq⟩ => ⟨ph, S, r, M, _, hs, ht, fun vs H1 ⟨ph1, S1, M1, x1, hs1, ds, q1, g1⟩ => by
    match ds, q1, g1 with
    | [.int n], .cons q .nil, ⟨⟨h1, h2⟩, g⟩ =>
      cases q
      exact ⟨n, rfl, h1, h2, hq _ _ ⟨ph1, S1, M1, x1, hs1, _, _, Wlk.range, g⟩⟩⟩⟩
theorem di_range2 {tg a b : Expr} {t : DTA} {p pos : Pos} (hm : X.mg "range" = none) (ha : DA X [a, b] t) (hg : Gl X "range" := by rfl) (hst : starEach [a, b] X.env = [(false, eval a X.env), (false, eval b X.env)] := by rfl) (hs2 : starEach [b] X.env = [(false, eval b X.env)] := by rfl) : DI X tg (.Call (.Name "range" p) [a, b] [] pos) (dRngI gRng2 t) :=
  ⟨PI.weak (pi_range2 hg hm ha.pa hst hs2) fun σ H R ⟨ph, S, r, M, Q0, hs, ht, hq⟩ => ⟨ph, S, r, M, _, hs, ht, fun vs H1 ⟨ph1, S1, M1, x1, hs1, ds, q1, g1⟩ => by
    match ds, q1, g1 with
    | [.int a, .int b], .cons q (.cons q' .nil), ⟨⟨⟨h1, h2⟩, h3, h4⟩, g⟩ =>
      cases q
      cases q'
      exact ⟨a, b, rfl, ⟨h1, h2, h3, h4⟩, hq _ _ ⟨ph1, S1, M1, x1, hs1, _, _, Wlk.range, g⟩⟩⟩⟩
/-! ### calls of what is built in -/
abbrev GA := List D → Mem → DQ → Prop
def CallD (X : Cx) (f : Value) (g : GA) : Prop :=
  ∀ (pins : List (Addr × Obj)) (s : Shared) (σ : St) (H : Hp) (ph : Ph) (S : Hp) (r : Env) (M : Mem) (vs : List V) (us : List Value) (ds : List D) (Q : DQ), Inv X pins σ H s → Sat X.K ph S r M σ H → Vals vs us → RepAll X.K ph S vs ds → g ds M Q →
    wpAny (model X.prog X.w) X.A (call f us) (EP X pins σ (post X.K ph S r σ Q)) X.xe s
theorem CallD.of {f : Value} {r' : List V → Hp → VK → Prop} {g : GA} (h : CallR X f r')
    (w : ∀ (σ : St) (H : Hp) (ph : Ph) (S : Hp) (r : Env) (M : Mem) (vs : List V) (ds : List D) (Q : DQ), Sat X.K ph S r M σ H → RepAll X.K ph S vs ds → g ds M Q → r' vs H (post X.K ph S r σ Q)) : CallD X f g :=
  fun pins s σ H ph S r M vs us ds Q I hs rv q hg => h pins s σ H vs us _ I rv (w σ H ph S r M vs ds Q hs q hg)
def dCB (g : GA) (t : DTA) : DTE := fun r M Q => t r M fun ds M1 => g ds M1 Q
section
variable {x : Str} {p pos : Pos} {e : Expr} {es : List Expr} {t : DTA} {id T : String} {g : GA}
theorem de_blt (hc : CallD X (.builtin id) g) (hm : X.mg x = none) (ha : DA X (e :: es) t) (hv : bootBuiltins x = some (.builtin id) := by decide +kernel) (hg : Gl X x := by rfl) (hn : x ≠ "__name__" := by decide) (hdb : (x == ("__debug__" : Str)) = false := by decide)
    (he : starEach (e :: es) X.env = (false, eval e X.env) :: starEach es X.env := by rfl) (hpl : (backTo pos (starEach es X.env)).any (·.1) = false := by rfl) : DE X (.Call (.Name x p) (e :: es) [] pos) (dCB g t) :=
  ⟨⟨fun pins s σ H Q I ⟨ph, S, r, M, Q0, hs, ht, hq⟩ => wpAny_Call_Name_kw (ld_blt I hg hm hv (PyProof.Rows.callWith_builtin1 (thn (ha.pa.run pos pins s σ H _ I ⟨ph, S, r, M, _, hs, ht, fun _ _ z => z⟩)
    fun us s1 ⟨vs, H1, I1, r1, ph1, S1, M1, x1, hs1, ds, q1, g1⟩ => thn (hc pins s1 σ H1 ph1 S1 r M1 vs us ds Q0 I1 hs1 r1 q1 g1) fun _ _ z => EP.up x1 z hq) he hpl) hn hdb)⟩⟩
theorem de_ty (hc : CallD X (.type T) g) (hm : X.mg x = none) (ha : DA X (e :: es) t) (hv : bootBuiltins x = some (.type T) := by decide +kernel) (hg : Gl X x := by rfl) (hn : x ≠ "__name__" := by decide) (hdb : (x == ("__debug__" : Str)) = false := by decide)
    (he : starEach (e :: es) X.env = (false, eval e X.env) :: starEach es X.env := by rfl) (hpl : (backTo pos (starEach es X.env)).any (·.1) = false := by rfl) : DE X (.Call (.Name x p) (e :: es) [] pos) (dCB g t) :=
  ⟨⟨fun pins s σ H Q I ⟨ph, S, r, M, Q0, hs, ht, hq⟩ => wpAny_Call_Name_kw (ld_blt I hg hm hv (PyProof.Rows.callWith_type1 (thn (ha.pa.run pos pins s σ H _ I ⟨ph, S, r, M, _, hs, ht, fun _ _ z => z⟩)
    fun us s1 ⟨vs, H1, I1, r1, ph1, S1, M1, x1, hs1, ds, q1, g1⟩ => thn (hc pins s1 σ H1 ph1 S1 r M1 vs us ds Q0 I1 hs1 r1 q1 g1) fun _ _ z => EP.up x1 z hq) he hpl) hn hdb)⟩⟩
/-- a built-in name as a value -/
theorem de_bltn {v : V} {u : Value} (hm : X.mg x = none) (r : RelV v u) (hv : bootBuiltins x = some u := by decide +kernel) (hg : Gl X x := by rfl) (hn : x ≠ "__name__" := by decide) (hd : (x == ("__debug__" : Str)) = false := by decide) : DE X (.Name x pos) (dC (.val v)) :=
  de_c (pe_bltn hg hm hv r hn hd) fun _ _ => .val _
end
def gAbs : GA := fun ds M Q => match ds with
  | [.int i] => Q (.int (if i < 0 then -i else i)) M
  | _ => False
theorem cd_abs : CallD X (.builtin "abs") gAbs := CallD.of call_abs fun σ H ph S r M vs ds Q hs q hg => by
  match ds, q, hg with
  | [.int i], .cons q .nil, hg => cases q; exact ⟨_, rfl, Aft.here hs ⟨_, .int _, hg⟩⟩
def gInt : GA := fun ds M Q => match ds with
  | [.int i] => Q (.int i) M
  | [.bl b] => Q (.int (if b then 1 else 0)) M
  | _ => False
theorem cd_int : CallD X (.type "int") gInt := CallD.of call_int1 fun σ H ph S r M vs ds Q hs q hg => by
  match ds, q, hg with
  | [.int i], .cons q .nil, hg => cases q; exact .inl ⟨_, rfl, Aft.here hs ⟨_, .int _, hg⟩⟩
  | [.bl i], .cons q .nil, hg => cases q; exact .inr ⟨_, rfl, Aft.here hs ⟨_, .int _, hg⟩⟩
def gMax : GA := fun ds M Q => match ds with
  | [.int i, .int j] => Q (.int (if j > i then j else i)) M
  | _ => False
theorem cd_max (hc : X.calm = true) : CallD X (.builtin "max") gMax := CallD.of (call_max2 hc) fun σ H ph S r M vs ds Q hs q hg => by
  match ds, q, hg with
  | [.int i, .int j], .cons q (.cons q' .nil), hg => cases q; cases q'; exact ⟨_, _, rfl, Aft.here hs ⟨_, .int _, hg⟩⟩
def gMin : GA := fun ds M Q => match ds with
  | [.int i, .int j] => Q (.int (if j < i then j else i)) M
  | _ => False
def gGcd : GA := fun ds M Q => match ds with
  | [.int i, .int j] => Q (.int (Int.gcd i j)) M
  | _ => False
/-- the length of a list, a tuple, a text -/
def lenD (M : Mem) : D → Option Nat
  | .lst l => some l.length
  | .tup l => some l.length
  | .scr l => some l.length
  | .own k => match M[k]? with
    | some (.lst l) => some l.length
    | _ => none
  | .str x => if x.length ≤ sizeLine then some x.length else none
  | _ => none
def gLen : GA := fun ds M Q => match ds with
  | [d] => match lenD M d with
    | some n => Q (.int n) M
    | none => False
  | _ => False
theorem len_V {K : PySem.W.Frag} {ph : Ph} {S : Hp} {r : Env} {M : Mem} {σ : St} {H : Hp} {v : V} {d : D} {n : Nat} (hs : Sat K ph S r M σ H) (q : Rep K ph S v d) (e : lenD M d = some n) : LenV K v H n := by
  cases d <;> first | (cases e; done) | skip
  · rename_i x
    cases q
    have e' : (if x.length ≤ sizeLine then some x.length else none) = some n := e
    by_cases h : x.length ≤ sizeLine
    · rw [if_pos h] at e'
      exact ⟨h, (Option.some.inj e').symm⟩
    · rw [if_neg h] at e'; cases e'
  · cases q with
    | tup h1 h2 => exact .inr ⟨_, h1.sq hs.sub, by rw [h2.len]; exact (Option.some.inj e).symm⟩
  · cases q with
    | lst h1 h2 => exact .inl ⟨_, SqL.of (hs.sub _ _ h1), by rw [h2.len]; exact (Option.some.inj e).symm⟩
  · cases q with
    | scr h1 => exact .inl ⟨_, hs.sub.seq h1, by rw [List.length_map]; exact (Option.some.inj e).symm⟩
  · rename_i k
    cases q with
    | own h1 =>
      unfold lenD at e
      dsimp only at e
      split at e
      · rename_i l hk
        obtain ⟨a, xs, c1, c2, c3, c4⟩ := hs.cell k l hk
        rw [h1] at c1; cases c1
        exact .inl ⟨_, SqL.of c3, by rw [c4.len]; exact (Option.some.inj e).symm⟩
      · cases e
theorem cd_len : CallD X (.builtin "len") gLen := CallD.of call_len fun σ H ph S r M vs ds Q hs q hg => by
  match ds, q, hg with
  | [d], .cons q .nil, hg =>
    unfold gLen at hg
    dsimp only at hg
    split at hg
    · rename_i n e
      exact ⟨_, n, rfl, len_V hs q e, Aft.here hs ⟨_, .int _, hg⟩⟩
    · exact hg.elim
/-- the ints of a list of ints -/
def intsD : List D → Option (List Int)
  | [] => some []
  | .int i :: ds => match intsD ds with
    | some is => some (i :: is)
    | none => none
  | _ :: _ => none
theorem intsD_rep {K : PySem.W.Frag} {ph : Ph} {S : Hp} : ∀ {vs : List V} {ds : List D} {is : List Int}, RepAll K ph S vs ds → intsD ds = some is → vs = is.map V.int
  | _, [], _, .nil, e => by cases e; rfl
  | _, d :: ds, is, .cons q t, e => by
    cases d <;> first | (cases e; done) | skip
    unfold intsD at e
    split at e
    · rename_i is' e'
      cases e
      cases q
      rw [intsD_rep t e']; rfl
    · cases e
def gSum : GA := fun ds M Q => match ds with
  | [d] => match res M d with
    | .lst l => match intsD l with
      | some is => Q (.int is.sum) M
      | none => False
    | .scr ns => Q (.int ns.sum) M
    | _ => False
  | _ => False
theorem cd_sum (hc : X.calm = true) : CallD X (.builtin "sum") gSum := CallD.of (cr_sum hc) fun σ H ph S r M vs ds Q hs q hg => by
  match ds, q, hg with
  | [d], .cons q .nil, hg =>
    unfold gSum at hg
    dsimp only at hg
    split at hg
    · rename_i l e
      split at hg
      · rename_i is e2
        obtain ⟨a, xs, rfl, h1, h2⟩ := res_lst hs q e
        exact ⟨a, is, rfl, by rw [← intsD_rep h2 e2]; exact SqL.of h1, Aft.here hs ⟨_, .int _, hg⟩⟩
      · exact hg.elim
    · rename_i ns e
      cases res_scr e
      cases q with
      | scr h1 => exact ⟨_, ns, rfl, hs.sub.seq h1, Aft.here hs ⟨_, .int _, hg⟩⟩
    · exact hg.elim
/-- isinstance(x, T), T a built-in class -/
def tyD : D → Option String
  | .non => some "NoneType"
  | .bl _ => some "bool"
  | .int _ => some "int"
  | .str _ => some "str"
  | .tup _ => some "tuple"
  | .lst _ => some "list"
  | .dct0 => some "dict"
  | _ => none
def tyM (M : Mem) : D → Option String
  | .own k => match M[k]? with
    | some (.lst _) => some "list"
    | _ => none
  | d => tyD d
def gIsi : GA := fun ds M Q => match ds with
  | [d, .val (.ty n)] => match tyM M d with
    | some T => match kitB T n with
      | some b => Q (.bl b) M
      | none => False
    | none => False
  | _ => False
theorem ty_V {K : PySem.W.Frag} {ph : Ph} {S : Hp} {r : Env} {M : Mem} {σ : St} {H : Hp} {v : V} {d : D} {T : String} (hs : Sat K ph S r M σ H) (q : Rep K ph S v d) (e : tyM M d = some T) : TyX K H v (.type T) := by
  cases d <;> first | (cases e; done) | skip
  · cases q; cases e; exact .base .non
  · cases q; cases e; exact .base (.bl _)
  · cases q; cases e; exact .base (.int _)
  · cases q; cases e; exact .base (.str _)
  · cases q with
    | tup h1 h2 => cases e; exact h1.elim (fun z => .base (.tup (hs.sub _ _ z))) fun ⟨_, _, _, l, c, _⟩ => .kTuple l c
  · cases q with
    | lst h1 h2 => cases e; exact .base (.lst (hs.sub _ _ h1))
  · cases q with
    | dct0 h1 => cases e; exact .base (.dK (hs.sub _ _ h1))
  · rename_i k
    cases q with
    | own h1 =>
      unfold tyM at e
      dsimp only at e
      split at e
      · rename_i l hk
        cases e
        obtain ⟨a, xs, c1, c2, c3, c4⟩ := hs.cell k l hk
        rw [h1] at c1; cases c1
        exact .base (.lst c3)
      · cases e
theorem cd_isi : CallD X (.builtin "isinstance") gIsi := CallD.of call_isi fun σ H ph S r M vs ds Q hs q hg => by
  match ds, q, hg with
  | [d, .val (.ty n)], .cons q (.cons q' .nil), hg =>
    unfold gIsi at hg
    dsimp only at hg
    split at hg
    · rename_i T e
      split at hg
      · rename_i b eb
        cases q'
        exact ⟨_, _, _, _, b, rfl, .ty n, ty_V hs q e, kit_ty eb, Aft.here hs ⟨_, .bl _, hg⟩⟩
      · exact hg.elim
    · exact hg.elim
/-- n.bit_length() -/
def gBits (d : D) (M : Mem) (Q : DQ) : Prop := match d with
  | .int i => Q (.int (Builtin.Int.intBits i : Nat)) M
  | _ => False
def dBits (t : DTE) : DTE := fun r M Q => t r M fun d M1 => gBits d M1 Q
theorem de_bits {o : Expr} {t : DTE} {apos pos : Pos} (ho : DE X o t) (hbase : attributeBase o "bit_length" X.env (eval o X.env) = eval o X.env := by rfl) (hline : (apos.endLine == pos.line) = true := by rfl) : DE X (.Call (.Attribute o "bit_length" apos) [] [] pos) (dBits t) :=
  DE.of (pe_bits ho.pe hbase hline) fun ph S r M σ H Q hs ht Q' hq => ⟨ph, S, r, M, _, hs, ht, fun v H1 ⟨ph1, S1, M1, x1, hs1, d, q1, g1⟩ => by
    cases d <;> first | exact g1.elim | skip
    cases q1
    exact ⟨_, rfl, hq _ _ ⟨ph1, S1, M1, x1, hs1, _, .int _, g1⟩⟩⟩
/-! ### methods of lists -/
def gAppend (o : D) (ds : List D) (M : Mem) (Q : DQ) : Prop := match o, ds with
  | .own k, [d] => match M[k]? with
    | some (.lst l) => l.length < sizeLine ∧ Q .non (M.set k (.lst (l ++ [d])))
    | _ => False
  | _, _ => False
def dMet (g : D → List D → Mem → DQ → Prop) (to : DTE) (t : DTA) : DTE := fun r M Q => to r M fun o M1 => (∃ k l, o = .own k ∧ M1[k]? = some (.lst l)) ∧ t r M1 fun ds M2 => g o ds M2 Q
theorem de_append {o e : Expr} {to : DTE} {t : DTA} {apos cpos : Pos} (ho : DE X o to) (ha : DA X [e] t) (h1 : attributeBase o "append" X.env (eval o X.env) = eval o X.env := by rfl)
    (h2 : (((backTo cpos (starEach [e] X.env)).all fun x => !x.1) && (backToKw cpos (keywordEach [] X.env)).all (fun x => x.1.isSome) && decide (([e] : List Expr).length + ([] : List Keyword).length + (if ([] : List Keyword).isEmpty then 0 else 1) < 30)) = true := by rfl) (h3 : (apos.endLine == cpos.line) = true := by rfl)
    (h4 : starEach [e] X.env = (false, eval e X.env) :: starEach [] X.env := by rfl) (h5 : (backTo cpos (starEach [] X.env)).any (·.1) = false := by rfl) : DE X (.Call (.Attribute o "append" apos) [e] [] cpos) (dMet gAppend to t) :=
  DE.of (pe_bm PySem.F.plainAttrs_list PySem.F.slot_list_append PySem.F.type_list_append mt_append ho.pe ha.pa h1 h2 h3 h4 h5) fun ph S r M σ H Q hs ht Q' hq => ⟨ph, S, r, M, _, hs, ht, fun v H1 ⟨ph1, S1, M1, x1, hs1, d, q1, ⟨k, l, e1, ek⟩, g1⟩ => by
    subst e1
    cases q1 with
    | own hp =>
      obtain ⟨a, xs, c1, c2, c3, c4⟩ := hs1.cell k l ek
      rw [hp] at c1; cases c1
      refine ⟨.inl ⟨rfl, _, SqL.of c3⟩, ph1, S1, r, M1, _, hs1, g1, fun vs H2 ⟨ph2, S2, M2, x2, hs2, ds, q2, g2⟩ => ?_⟩
      match ds, q2, g2 with
      | [d], .cons q3 .nil, g2 =>
        replace g2 : gAppend (.own k) [d] M2 Q := g2
        unfold gAppend at g2
        dsimp only at g2
        split at g2
        · rename_i l2 hk2
          have hp2 := x2.pre _ _ hp
          obtain ⟨a2, xs2, d1, d2, d3, d4⟩ := hs2.cell k l2 hk2
          rw [hp2] at d1; cases d1
          exact ⟨_, xs2, _, rfl, rfl, d3, by rw [d4.len]; exact g2.1, hq _ _ ⟨ph2, S2, _, x1.trans x2, hs2.put hk2 hp2 (d4.app (.cons q3 .nil)), _, .non, g2.2⟩⟩
        · exact g2.elim⟩
/-! ### slices -/
def cutD (l : List D) (lo hi : Option Int) : List D := List.take (HT.sIx l.length l.length hi - HT.sIx l.length 0 lo) (List.drop (HT.sIx l.length 0 lo) l)
abbrev DTO := Env → Mem → (Option Int → Mem → Prop) → Prop
structure DO (X : Cx) (e : Option Expr) (t : DTO) : Prop where
  po : PO X e (fun σ H Q => ∃ ph S r M Q0, Sat X.K ph S r M σ H ∧ t r M Q0 ∧ ∀ o H', (Aft X.K ph S r σ H' fun _ _ M' => Q0 o M') → Q o H')
def dPart (t : DTE) : DTO := fun r M Q => t r M fun d M1 => match d with
  | .int i => Q (some i) M1
  | _ => False
def dNoPart : DTO := fun _ M Q => Q none M
theorem do_some {e : Expr} {t : DTE} (h : DE X e t) : DO X (some e) (dPart t) :=
  ⟨⟨fun pins s σ H Q I ⟨ph, S, r, M, Q0, hs, ht, hq⟩ => (po_some h.pe).run pins s σ H Q I ⟨ph, S, r, M, _, hs, ht, fun v H1 ⟨ph1, S1, M1, x1, hs1, d, q1, g1⟩ => by
    cases d <;> first | exact g1.elim | skip
    cases q1
    exact ⟨_, rfl, hq _ _ ⟨ph1, S1, M1, x1, hs1, g1⟩⟩⟩⟩⟩
theorem do_none : DO X none dNoPart := ⟨⟨fun pins s σ H Q I ⟨ph, S, r, M, Q0, hs, ht, hq⟩ => po_none.run pins s σ H Q I (hq _ _ (Aft.here hs ht))⟩⟩
/-- l[a:b], a list -/
def gSlL (own : Bool) (d : D) (lo hi : Option Int) (M : Mem) (Q : DQ) : Prop := match res M d with
  | .lst l => if own = true then Q (.own M.length) (M ++ [.lst (cutD l lo hi)]) else Q (.lst (cutD l lo hi)) M
  | .scr ns => if own = true then Q (.own M.length) (M ++ [.lst (cutD (ns.map D.int) lo hi)]) else Q (.lst (cutD (ns.map D.int) lo hi)) M
  | _ => False
def dSl (g : D → Option Int → Option Int → Mem → DQ → Prop) (t : DTE) (tl th : DTO) : DTE := fun r M Q => t r M fun d M1 => tl r M1 fun lo M2 => th r M2 fun hi M3 => g d lo hi M3 Q
theorem cut_rep {K : PySem.W.Frag} {ph : Ph} {S : Hp} {xs : List V} {l : List D} {lo hi : Option Int} (q : RepAll K ph S xs l) : RepAll K ph S (cutV xs lo hi) (cutD l lo hi) := by
  unfold cutV cutD
  rw [q.len]
  exact (q.drop _).take _
theorem de_slL (own : Bool) {e : Expr} {lo hi : Option Expr} {t : DTE} {tl th : DTO} {pos p2 : Pos} (h : DE X e t) (h1 : DO X lo tl) (h2 : DO X hi th) : DE X (.Subscript e (.Slice lo hi none p2) pos) (dSl (gSlL own) t tl th) :=
  DE.of (pe_slice sl_list h.pe h1.po h2.po) fun ph S r M σ H Q hs ht Q' hq => ⟨ph, S, r, M, _, hs, ht, fun v H1 ⟨ph1, S1, M1, x1, hs1, d, q1, g1⟩ =>
    ⟨ph1, S1, r, M1, _, hs1, g1, fun lo H2 ⟨ph2, S2, M2, x2, hs2, g2⟩ => ⟨ph2, S2, r, M2, _, hs2, g2, fun hi H3 ⟨ph3, S3, M3, x3, hs3, g3⟩ => by
      replace g3 : gSlL own d lo hi M3 Q := g3
      have xx := x1.trans (x2.trans x3)
      have q3 := q1.up (x2.trans x3)
      unfold gSlL at g3
      split at g3
      · rename_i l er
        obtain ⟨p, xs, rfl, hp, hx⟩ := res_lst hs3 q3 er
        refine ⟨p, xs, rfl, SqL.of hp, fun b hb => ?_⟩
        cases own with
        | false => exact hq _ _ (Aft.up xx (Aft.frz hs3 hb fun x => ⟨_, .lst upd_same ((cut_rep hx).up x), g3⟩))
        | true => exact hq _ _ (Aft.up xx (Aft.own hs3 hb (cut_rep hx) g3))
      · rename_i ns er
        cases res_scr er
        cases q3 with
        | scr h1 =>
          refine ⟨_, _, rfl, hs3.sub.seq h1, fun b hb => ?_⟩
          cases own with
          | false => exact hq _ _ (Aft.up xx (Aft.frz hs3 hb fun x => ⟨_, .lst upd_same (cut_rep (RepAll.ints _)), g3⟩))
          | true => exact hq _ _ (Aft.up xx (Aft.own hs3 hb (cut_rep (RepAll.ints _)) g3))
      · exact g3.elim⟩⟩⟩
theorem cut_whole {α : Type} {l : List α} {lo hi : Option Int} (h : HT.sIx l.length 0 lo = 0 ∧ HT.sIx l.length l.length hi = l.length) : List.take (HT.sIx l.length l.length hi - HT.sIx l.length 0 lo) (List.drop (HT.sIx l.length 0 lo) l) = l := by
  rw [h.1, h.2]; simp
/-! ### repr -/
/-- data whose repr may be told -/
def shwn (d : D) : Option Str := match toPy d with
  | some p => if p.showable = true ∧ p.depth ≤ 64 ∧ p.shown.length ≤ sizeLine ∧ p.hasDict = false then some p.shown else none
  | none => none
def gRepr : GA := fun ds M Q => match ds with
  | [d] => match shwn (res M d) with
    | some z => Q (.str z) M
    | none => False
  | _ => False
theorem shown_flat {p : PyData} {u : Value} {h : Heap} {as : List Addr} (r : Reads h u p as) (hn : ∀ a, u ≠ .ref a) {A : Around} {P : Program} {w : World} {E : Value → Shared → Prop} {s : Shared} {Q : Value → Shared → Prop} (hs : p.showable = true) (hz : p.shown.length ≤ sizeLine)
    (q : ∀ tk tk', Q (.str p.shown tk) { s with toks := tk' }) : wpAny (model P w) A (call (.builtin "repr") [u]) Q E s := by
  cases r with
  | none => exact PySem.P.repr_of_none (q _ _)
  | bool b => exact PySem.P.repr_of_bool (q _ _)
  | int i t => exact PySem.P.repr_of_int (of_decide_eq_true hs) (q _ _)
  | str x t => exact PySem.P.repr_of_str (q _ _) hz
  | list _ _ _ _ => exact absurd rfl (hn _)
  | tuple _ _ _ _ => exact absurd rfl (hn _)
  | dict _ _ _ _ _ => exact absurd rfl (hn _)
theorem cd_repr (gd : X.A.guards = some []) (hu : X.A.units + 200 < cLine) : CallD X (.builtin "repr") gRepr := by
  intro pins s σ H ph S r M vs us ds Q I hs rv q hg
  match ds, vs, us, rv, q, hg with
  | [d], [v], [u], .cons ru .nil, .cons q .nil, hg =>
    unfold gRepr at hg
    dsimp only at hg
    split at hg
    · rename_i z ez
      unfold shwn at ez
      split at ez
      · rename_i p ep
        by_cases hp : p.showable = true ∧ p.depth ≤ 64 ∧ p.shown.length ≤ sizeLine ∧ p.hasDict = false
        · rw [if_pos hp] at ez
          cases ez
          obtain ⟨as, h1, h2⟩ := Rep.reads I _ _ _ _ (Rep.res hs q) ru ep
          by_cases hr : ∃ a, u = .ref a
          · obtain ⟨a, rfl⟩ := hr
            refine PySem.repr_of_reads' h1 hp.1 (fun hd => ?_) gd ?_ (fun _ _ e => e) (fun h' u tk k => ⟨.str p.shown, H, I.kept k, ⟨_, rfl⟩, Aft.here hs ⟨_, .str _, hg⟩⟩) hp.2.2.1
            · rw [hp.2.2.2] at hd; exact absurd hd Bool.false_ne_true
            · have := hp.2.1; omega
          · exact shown_flat h1 (fun a e => hr ⟨a, e⟩) hp.1 hp.2.2.1 fun tk tk' => ⟨.str p.shown, H, I.tok _, ⟨_, rfl⟩, Aft.here hs ⟨_, .str _, hg⟩⟩
        · rw [if_neg hp] at ez; cases ez
      · cases ez
    · exact hg.elim
end DL
/-! DL8: calls with keywords alone; a def for its callers; the end of a law -/
namespace DL
open PySem PySem.Spec PyProof.Rows L2
section
variable {X : Cx}
structure DK (X : Cx) (kws : List Keyword) (t : DTA) : Prop where
  pk : PK X kws (fun σ H Q => ∃ ph S r M Q0, Sat X.K ph S r M σ H ∧ t r M Q0 ∧ ∀ vs H', postA X.K ph S r σ Q0 vs H' → Q vs H')
theorem PK.weak {kws : List Keyword} {t t' : TA} (h : PK X kws t) (w : ∀ σ H Q, t' σ H Q → t σ H Q) : PK X kws t' := ⟨fun pos pins s σ H Q I q => h.run pos pins s σ H Q I (w _ _ _ q)⟩
theorem dk_nil : DK X [] dNil := ⟨PK.weak pk_nil fun σ H Q ⟨ph, S, r, M, Q0, hs, ht, hq⟩ => hq _ _ (Aft.here hs ⟨_, .nil, ht⟩)⟩
theorem dk_cons {e : Expr} {kws : List Keyword} {nm : Option Str} {kpos : Pos} {t : DTE} {u : DTA} (h : DE X e t) (h2 : DK X kws u) : DK X (⟨nm, e, kpos⟩ :: kws) (dCons t u) :=
  ⟨PK.weak (pk_cons h.pe h2.pk) fun σ H Q ⟨ph, S, r, M, Q0, hs, ht, hq⟩ => ⟨ph, S, r, M, _, hs, ht, fun v H1 ⟨ph1, S1, M1, x1, hs1, d, q1, g1⟩ =>
    ⟨ph1, S1, r, M1, _, hs1, g1, fun vs H2 ⟨ph2, S2, M2, x2, hs2, ds, q2, g2⟩ => hq _ _ ⟨ph2, S2, M2, x1.trans x2, hs2, _, .cons (q1.up x2) q2, g2⟩⟩⟩⟩
/-- the values by place -/
def pick {α : Type} (l : List Nat) (xs : List α) : List α := l.filterMap fun i => xs[i]?
theorem pick_vals {vs : List V} {us : List Value} (r : Vals vs us) : ∀ l : List Nat, Vals (pick l vs) (pick l us)
  | [] => .nil
  | i :: l => by
    unfold pick
    rw [List.filterMap_cons, List.filterMap_cons]
    cases e : vs[i]? with
    | none => rw [r.none_of e]; exact pick_vals r l
    | some v =>
      obtain ⟨u, eu, ru⟩ := r.get e
      rw [eu]
      exact .cons ru (pick_vals r l)
theorem pick_rep {K : PySem.W.Frag} {ph : Ph} {S : Hp} {vs : List V} {ds : List D} (r : RepAll K ph S vs ds) : ∀ l : List Nat, RepAll K ph S (pick l vs) (pick l ds)
  | [] => .nil
  | i :: l => by
    unfold pick
    rw [List.filterMap_cons, List.filterMap_cons]
    cases e : ds[i]? with
    | none =>
      have e' : vs[i]? = none := by
        have := List.getElem?_eq_none_iff.mp e
        exact List.getElem?_eq_none_iff.mpr (by rw [r.len]; exact this)
      rw [e']; exact pick_rep r l
    | some d =>
      obtain ⟨u, eu, ru⟩ := r.get e
      rw [eu]
      exact .cons ru (pick_rep r l)
def dCallK (m n : Nat) (sp : DSp) (l : List Nat) (E : DX) (t : DTA) : DTE := fun r M Q => t r M fun ds M1 => ds.length = m ∧ (pick l ds).length = n ∧ sp (pick l ds) M1 Q E
variable {k : Nat} {ps ks : List Str} {sp : DSp} {x : Str} {p pos : Pos} {kws : List Keyword} {t : DTA}
/-- f(k = v, ..): all arguments by their names -/
theorem dcallK {m n : Nat} {st : Stmt} (l : List Nat) {P : Program} {w : World} {K : PySem.W.Frag} {mg : Str → Option Value} {base : Heap} (F : Def P w K mg base CX0 k x st ps sp) {j : Nat} (hr : Room j X.A) (gd : X.A.guards = some []) (hkw : DK X kws t)
    (hks : (backToKw pos (keywordEach kws X.env)).filterMap (·.1) = ks)
    (hb : ∀ (kV doc pm : Value) (an : Option Addr) (cdv ct : Value) (us : List Value), us.length = ks.length → bindArgs (PySem.W.fnOf x x (defArgs st) (defBody st) (defScope st) .none kV doc pm an cdv ct) ⟨[], ks.zip us⟩ = pure (ps.zip (pick l us)))
    (hj : k ≤ j := by decide) (hm : ks.length = m := by rfl) (hn : ps.length = n := by rfl)
    (h1 : P = X.prog := by rfl) (h2 : w = X.w := by rfl) (h3 : K = X.K := by rfl) (h4 : mg = X.mg := by rfl) (h5 : base = X.base := by rfl) (hg : Gl X x := by rfl) (hdb : (x == ("__debug__" : Str)) = false := by decide) (hall : (backToKw pos (keywordEach kws X.env)).all (·.1.isSome) = true := by rfl)
    (hpl : ((backTo pos (starEach [] X.env)).any (·.1) || (backToKw pos (keywordEach kws X.env)).any (·.1.isNone)) = false := by rfl) : DE X (.Call (.Name x p) [] kws pos) (dCallK m n sp l DX0 t) := by
  subst h1 h2 h3 h4 h5 hn hm
  obtain ⟨f, fd, h1, h2, h3, h4, h5⟩ := F.ex
  refine ⟨⟨fun pins s σ H Q I ⟨ph, S, r, M, Q0, hs, ht, hq⟩ => wpAny_Call_Name_kw (ld_glob I hg h2 ?_ hdb)⟩⟩
  refine PySem.W.callWith_KW0 (h₀ := X.base) I.ok.mod.kin h3 hall (thn (hkw.pk.run pos pins s σ H _ I ⟨ph, S, r, M, _, hs, ht, fun _ _ z => z⟩) fun us s1 ⟨vs, H1, I1, r1, ph1, S1, M1, x1, hs1, ds, q1, hl, hp, g1⟩ => ⟨I1.kIn, ?_⟩) hpl
  rw [hks]
  obtain ⟨oc, od, kV, doc, pm, an, cdv, ct, osl, efd, lk, hcd⟩ := h5.ex
  have hul : us.length = ks.length := by rw [← Paired.length r1, q1.len]; exact hl
  have hb' : BindsTo s1 fd ⟨[], ks.zip us⟩ (ps.zip (pick l us)) := by
    rw [efd]
    exact .of_eq (hb kV doc pm an cdv ct us hul)
  refine wpAny_call (codeAny_mono (h1.run X.A X.stack s1 H1 ⟨[], ks.zip us⟩ (pick l us) (pick l vs) (post X.K ph1 S1 r σ Q0) E0 (hr.mono hj) gd I1.env0 hb' (pick_vals r1 l) ?_) fun r s' hz => ?_)
  · exact ⟨ph1, S1, M1, pick l ds, Q0, DX0, hp, hs1.drop, pick_rep q1 l, g1, fun v H2 ⟨ph2, S2, M2, x2, hs2, d, q2, h2⟩ => ⟨ph2, S2, M2, x2, hs1.back x2 hs2, d, q2, h2⟩, pX0 _ _⟩
  · match r, hz with
    | .error e, hz => exact pass0 pins σ H1 s1 e s' I1 hz
    | .ok (.ret u), hz => exact EP.up x1 (I1.after hz) hq
    | .ok .next, hz => exact False.elim hz
    | .ok .brk, hz => exact False.elim hz
    | .ok .cont, hz => exact False.elim hz
end
/-! ### a def, made known to its callers -/
theorem Def.mk' {P : Program} {w : World} {K : PySem.W.Frag} {mg : Str → Option Value} {base : Heap} {k : Nat} {x : Str} {st : Stmt} {ps : List Str} {sp : DSp} {f : Addr} {fd : FuncData} (F : Fun K x x st f fd) (h : FnD P w K mg base CX0 k f fd ps sp) (hm : mg x = some (.ref f)) (hb : Binds K fd ps []) : Def P w K mg base CX0 k x st ps sp :=
  ⟨f, fd, h, hm, F.kp, hb, F⟩
/-- a def that stands in the module -/
structure Here (K : PySem.W.Frag) (mg : Str → Option Value) (x : Str) (st : Stmt) (ps : List Str) : Prop where
  ex : ∃ (f : Addr) (fd : FuncData), Fun K x x st f fd ∧ mg x = some (.ref f) ∧ Binds K fd ps []
theorem here_of {K : PySem.W.Frag} {h : Heap} {mg : Str → Option Value} {x : Str} {st : Stmt} {ps : List Str} {f : Addr} {oc : Value} {od an : Option Addr} {osl : Array (Option Value)} {kV doc pm cdv ct : Value} (X : K.In h) (G : h.Ns mainGlobals mg)
    (a : PySem.W.nsIn K mainGlobals x = some (some (.ref f))) (l : K.lookup f = some ⟨oc, od, .func (PySem.W.fnOf x x (defArgs st) (defBody st) (defScope st) .none kV doc pm an cdv ct), osl⟩) (c : PySem.W.codeIn K cdv x = true) (k : PySem.W.keepIn K (.ref f) = true)
    (hb : ∀ (kV doc pm : Value) (an : Option Addr) (cdv ct : Value) (us : List Value), us.length = ps.length → bindArgs (PySem.W.fnOf x x (defArgs st) (defBody st) (defScope st) .none kV doc pm an cdv ct) ⟨us, []⟩ = pure (ps.zip us)) : Here K mg x st ps :=
  ⟨f, _, fun_mk (st := st) l c k, PySem.W.mg_of X G a, (fun_mk (st := st) l c k).binds hb⟩
section
variable {P : Program} {w : World} {K : PySem.W.Frag} {mg : Str → Option Value} {base : Heap}
/-- THE RULE for a def of the module -/
theorem Here.ok {x : Str} {st : Stmt} {N ps : List Str} {k : Nat} {sp : DSp} {t : DTS} (F : Here K mg x st ps) (S : FnScope N ps (defScope st))
    (hder : ∀ (f : Addr) (cdv : Value) (A : Around) (outer : List PySem.Env) (s : Shared) (H : Hp) (E : XK), Room k (A.deeper (envOfC x (defScope st) s.heap.objs.size f cdv)) → (A.deeper (envOfC x (defScope st) s.heap.objs.size f cdv)).guards = some [] →
      DSs (cxOf CX0 P w K mg base N x (defScope st) f cdv A outer s H E).nox (defBody st) t)
    (hread : ∀ ds M Q, ds.length = ps.length → sp ds M Q DX0 → t (dEnds M Q) (startD N.length ds) M)
    (hX : ∀ ds M Q E, sp ds M Q E → sp ds M Q DX0 := by exact fun _ _ _ _ h => h) : Def P w K mg base CX0 (k + 1) x st ps sp :=
  let ⟨f, fd, h1, h2, h3⟩ := F.ex
  Def.mk' h1 (Fun.okD h1 S (hder f) hread hX) h2 h3
end
/-! ### the end of a law -/
def spLaw : DSp := fun ds M Q _ => M = [] ∧ (∃ ns, ds = [.scr ns]) ∧ Q (.bl true) []
theorem law_callG {P : Program} {w : World} {K : PySem.W.Frag} {mg mb : Str → Option Value} {k : Nat} {fa a : Addr} {fd : FuncData} {x : Str} {s1 : Shared} {vs : List Value} {ns : List Int}
    (KX : K.In s1.heap) (hns : s1.heap.Ns mainGlobals mg) (hb : s1.heap.Ns builtinsNs mb) (hbb : ∀ x : Str, x ≠ "__name__" → mb x = bootBuiltins x) (hlim : s1.heap.NoLimit) (hg : s1.gens = #[])
    (ha : s1.heap.get? a = some { cls := .type "list", data := .seq vs.toArray }) (hi : IntsAre vs ns) (hl : ns.length ≤ sizeLine) (hr : Room k callerA)
    (F : ∀ base : Heap, K.In base → base.Ns mainGlobals mg → FnD P w K mg base CX0 k fa fd [x] spLaw) (hbind : ∀ (s : Shared) (u : Value), BindsTo s fd ⟨[u], []⟩ [(x, u)]) :
    codeAny (model P w) callerA (.call (.ref fa) ⟨[.ref a], []⟩) (fun r s' => r = .ok (.ret (.bool true)) ∧ OldK s1.heap s'.heap ∧ s'.os = s1.os ∧ AllBare s'.gens) s1 := by
  have rv := vals_ints hi
  have lenV := hi.length
  have core : ∀ H : Hp, Only H → SqL K H a (ns.map V.int) → HOk P w H s1.heap → (∀ b, H b ≠ none → b = a) → (H a ≠ none → K.lookup a = none) →
      codeAny (model P w) callerA (.call (.ref fa) ⟨[.ref a], []⟩) (fun r s' => r = .ok (.ret (.bool true)) ∧ OldK s1.heap s'.heap ∧ s'.os = s1.os ∧ AllBare s'.gens) s1 := by
    intro H hO hS hok hA hK
    have at_ : ∀ {b : Addr}, H b ≠ none → b = a := fun {b} z => hA b z
    have noA : ∀ {b : Addr} {o : Obj} {es : Array DictEntry} {ep : Nat}, s1.heap.get? b = some o → o.data = .dict es ep → H b = none := fun {b o es ep} e d => by
      by_cases z : H b = none
      · exact z
      · have e' := at_ z
        rw [e', ha] at e
        rw [← Option.some.inj e] at d
        exact nomatch d
    have nsK : ∀ {b : Addr} {m : Str → Option Value}, s1.heap.Ns b m → (hidT s1.heap H).Ns b m := fun {b m} ⟨o, es, ep, e, d, r⟩ => ⟨o, es, ep, hidT_get e (noA e d), d, r⟩
    have hKb : K.In (hidT s1.heap H) := fun b o e => hidT_get (KX b o e) (by
      by_cases z : H b = none
      · exact z
      · have e' := at_ z
        rw [e'] at e z
        rw [hK z] at e
        cases e)
    have hM : Mod K mg (hidT s1.heap H) := ⟨hKb, nsK hns, ⟨mb, nsK hb, hbb⟩, let ⟨mc, g1, g2⟩ := hlim; ⟨mc, nsK g1, g2⟩⟩
    have e0 : Env0 P w K mg (hidT s1.heap H) callerA [] s1 H := ⟨rfl, hM, fun b o e => of_hidT e, Nat.le_of_eq (hidT_size _ _), trivial, fun b hb => absurd (show b ∈ ([] : List Addr) from hb) (by simp), hok, .of_eq hg⟩
    have st0 : Sat K ⟨[], []⟩ H [] [] [] H := ⟨fun _ _ e => e, rfl, List.nodup_nil, fun k a e => by simp at e, fun k ds e => by simp at e, fun _ hp => (nomatch hp), List.nodup_nil, rfl, fun i d e => by simp at e⟩
    have sp0 : lfSp K 1 spLaw [.ref a] H (fun v _ => v = .bl true) E0 := ⟨⟨[], []⟩, H, [], [.scr ns], fun d M => d = .bl true, DX0, rfl, st0, .cons (.scr hS) .nil, ⟨rfl, ⟨ns, rfl⟩, rfl⟩, fun v H' ⟨_, _, _, _, _, d, q, e⟩ => by
      rw [e] at q
      cases q
      rfl, fun cls d H' ⟨_, _, _, _, _, _, _, _, _, _, _, _, _, _, _, _, z⟩ => z⟩
    refine codeAny_mono ((F _ hKb (nsK hns)).run callerA [] s1 H ⟨[.ref a], []⟩ [.ref a] [.ref a] _ _ hr rfl e0 (hbind s1 (.ref a)) (.cons rfl .nil) sp0) fun r s' h => ?_
    match r, h with
    | .error e, h => exact False.elim h
    | .ok .next, h => exact False.elim h
    | .ok .brk, h => exact False.elim h
    | .ok .cont, h => exact False.elim h
    | .ok (.ret u), ⟨v, H', os, bare, un, hok', r', q⟩ =>
      have q' : v = .bl true := q
      subst q'
      obtain rfl : u = Value.bool true := r'
      refine ⟨rfl, OldK.of_keep fun b o e => ?_, os, bare⟩
      rcases hO b with q | ⟨ob, xs, q⟩
      · exact un.keep b o e q (fun z => nomatch z) (fun z => nomatch z)
      · obtain ⟨e1, _⟩ := hok b _ q
        obtain ⟨e2, _⟩ := hok' b _ (un.frzs b ob _ q)
        rw [e] at e1
        cases e1
        exact e2
  cases hk : K.lookup a with
  | some o =>
    have e := KX a o hk
    rw [ha] at e
    cases e
    exact core (fun _ => none) (fun _ => .inl rfl) (.inr ⟨_, vs.toArray, _, hk, rfl, rfl, rfl, by rw [List.size_toArray, lenV]; exact hl, by simpa using rv⟩) (fun b u z => (nomatch z)) (fun b z => absurd rfl z) fun z => absurd rfl z
  | none =>
    refine core (fun b => if b = a then some (.frz { cls := .type "list", data := .seq vs.toArray } (.lst (ns.map V.int))) else none) (fun b => ?_) (.inl (.inr ⟨{ cls := .type "list", data := .seq vs.toArray }, if_pos rfl⟩)) (fun b u z => ?_) (fun b z => ?_) fun _ => hk
    · by_cases hb : b = a
      · exact .inr ⟨_, _, if_pos hb⟩
      · exact .inl (if_neg hb)
    · by_cases hb : b = a
      · have z := (if_pos hb).symm.trans z
        cases z
        rw [hb]
        exact ⟨ha, by rw [List.length_map]; exact hl, vs, _, rv, ha⟩
      · have z := (if_neg hb).symm.trans z
        cases z
    · by_cases hb : b = a
      · exact hb
      · exact absurd (if_neg hb) z
/-- the goal that k_head leaves -/
theorem walkD {l : PySem.W.OpenLaw} {n k : Nat} {q : Program} {loose : List Str} {XP : (Str → Option Value) → Heap → Prop} {YP : World → Heap → Prop} {d : DefRec} {K : Params → PySem.W.Frag} {x : Str} {st : Stmt}
    (hn : l.most = some n) (hn2 : n ≤ sizeLine) (hdf : d.params.defaults = []) (hr : Room k callerA) (hY : ∀ (w : World) (h : Heap), YP w h → (K w.params).In h)
    (F : ∀ (w : World) (mg : Str → Option Value) (h : Heap), (K w.params).In h → h.Ns mainGlobals mg → ∀ base : Heap, (K w.params).In base → base.Ns mainGlobals mg → Def l.prog w (K w.params) mg base CX0 k d.name st [x] spLaw)
    (hb : ∀ (kV doc pm : Value) (an : Option Addr) (cdv ct : Value) (u : Value), bindArgs (PySem.W.fnOf d.name d.name (defArgs st) (defBody st) (defScope st) .none kV doc pm an cdv ct) ⟨[u], []⟩ = pure [(x, u)]) :
    PySem.W.WalkO q loose XP YP l.row.toRowW d [] (fun f vs => PySem.call f vs) := by
  refine Att.attach_call hn hdf fun w s0 s1 mg mb fa o pm cd doc a vs ns G Y ho hd hcd hmg hobj hints hlen hg => ?_
  have KX := hY w _ Y
  obtain ⟨f0, fd, g1, g2, g3, g4, g5⟩ := (F w mg _ KX G.T.g _ KX G.T.g).ex
  have ef : f0 = fa := by
    rw [g2] at hmg
    exact Value.ref.inj (Option.some.inj hmg)
  subst ef
  obtain ⟨oc, od, kV, doc', pm', an, cdv, ct, osl, efd, lk, hcd'⟩ := g5.ex
  refine law_callG (fd := fd) (k := k) (x := x) KX G.T.g G.T.b G.T.builtins G.T.nolimit hg hobj hints (Nat.le_trans hlen hn2) hr (fun base h1 h2 => ?_) fun s u => ?_
  · obtain ⟨f1, fd1, k1, k2, k3, k4, k5⟩ := (F w mg _ KX G.T.g base h1 h2).ex
    have e1 : f1 = f0 := by
      rw [g2] at k2
      exact (Value.ref.inj (Option.some.inj k2)).symm
    subst e1
    obtain ⟨_, _, _, _, _, _, _, _, _, _, lk1, _⟩ := k5.ex
    rw [lk] at lk1
    have e2 : fd = fd1 := by
      have := Option.some.inj lk1
      injection this with _ _ z _
      exact Data.func.inj z
    rw [e2]
    exact k1
  · rw [efd]
    exact .of_eq (hb kV doc' pm' an cdv ct u)
end DL
/-! DL9: further rules; lemmas for readings -/
namespace DL
open PySem PySem.Spec PyProof.Rows L2
theorem u64 {A : Around} {k : Nat} (hr : Room k A) : A.units + 64 < cLine := hr.units
theorem u65 {A : Around} {k : Nat} (hr : Room k A) : A.units + 65 < cLine := by have := hr.un; omega
theorem ux {A : Around} {k : Nat} (hr : Room k A) : A.units + 200 < cLine := by have := hr.un; omega
section
variable {X : Cx}
/-- an owned list is handed on: it is changed no more -/
def gFrz (d : D) (M : Mem) (Q : DQ) : Prop := match d with
  | .own k => match M[k]? with
    | some (.lst l) => Q (.lst l) (M.set k .dead)
    | _ => False
  | d => Q d M
def dFrz (t : DTE) : DTE := fun r M Q => t r M fun d M1 => gFrz d M1 Q
theorem de_frz {e : Expr} {t : DTE} (h : DE X e t) : DE X e (dFrz t) :=
  DE.of h.pe fun ph S r M σ H Q hs ht Q' hq => ⟨ph, S, r, M, _, hs, ht, fun v H1 ⟨ph1, S1, M1, x1, hs1, d, q1, g1⟩ => by
    cases d with
    | own k =>
      replace g1 : gFrz (.own k) M1 Q := g1
      unfold gFrz at g1
      dsimp only at g1
      split at g1
      · rename_i l hk
        cases q1 with
        | own hp =>
          obtain ⟨a, xs, e1, x2, hs2, q2⟩ := hs1.freeze hk
          rw [hp] at e1
          cases e1
          exact hq _ _ ⟨ph1, _, _, x1.trans x2, hs2, _, q2, g1⟩
      · exact g1.elim
    | _ => exact hq _ _ ⟨ph1, S1, M1, x1, hs1, _, q1, g1⟩⟩
end
variable {X : Cx}
/-! ### zip, enumerate -/
def pairD (x y : D) : D := .tup [x, y]
theorem RepAll.two {K : PySem.W.Frag} {ph : Ph} {S : Hp} {x y : V} {d e : D} (h : Rep K ph S x d) (g : Rep K ph S y e) : RepAll K ph S [x, y] [d, e] := .cons h (.cons g .nil)
theorem zip_get {l1 l2 : List D} {i : Nat} {d : D} (h : (List.zipWith pairD l1 l2)[i]? = some d) : ∃ x y, l1[i]? = some x ∧ l2[i]? = some y ∧ d = pairD x y := by
  rw [List.getElem?_zipWith] at h
  cases e1 : l1[i]? with
  | none => rw [e1] at h; cases h
  | some x =>
    cases e2 : l2[i]? with
    | none => rw [e1, e2] at h; cases h
    | some y =>
      rw [e1, e2] at h
      exact ⟨x, y, rfl, rfl, (Option.some.inj h).symm⟩
theorem Wlk.zip {K : PySem.W.Frag} {ph : Ph} {S : Hp} {a b : Addr} {d1 d2 : List D} {C1 C2 : Mem → Prop}
    (h1 : ∀ (ph' : Ph) (S' : Hp) (r' : Env) (M' : Mem) (σ' : St) (H' : Hp), (∀ (k : Nat) (a : Addr), ph.cells[k]? = some a → ph'.cells[k]? = some a) → Same S S' → Sat K ph' S' r' M' σ' H' → C1 M' → ∃ xs, SqL K H' a xs ∧ RepAll K ph' S' xs d1)
    (h2 : ∀ (ph' : Ph) (S' : Hp) (r' : Env) (M' : Mem) (σ' : St) (H' : Hp), (∀ (k : Nat) (a : Addr), ph.cells[k]? = some a → ph'.cells[k]? = some a) → Same S S' → Sat K ph' S' r' M' σ' H' → C2 M' → ∃ xs, SqL K H' b xs ∧ RepAll K ph' S' xs d2) :
    Wlk K ph S (Itz K a b) (List.zipWith pairD d1 d2) (fun M => C1 M ∧ C2 M) := fun ph' S' r M σ H e1 e2 hs hc => by
  obtain ⟨xs, q1, qa1⟩ := h1 ph' S' r M σ H e1 e2 hs hc.1
  obtain ⟨ys, q2, qa2⟩ := h2 ph' S' r M σ H e1 e2 hs hc.2
  refine ⟨fun i hi => ⟨xs, ys, q1, q2, by rw [qa1.len, qa2.len]; rw [List.length_zipWith] at hi; omega⟩, fun i d e => ?_⟩
  obtain ⟨x, y, ex, ey, rfl⟩ := zip_get e
  obtain ⟨u, eu, qu⟩ := qa1.get ex
  obtain ⟨w, ew, qw⟩ := qa2.get ey
  refine ⟨⟨xs, ys, u, w, q1, q2, eu, ew⟩, fun z H' ⟨T, u', w', ez, hT, eH, f1, f2⟩ => ?_⟩
  have e3 := f1 xs q1
  have e4 := f2 ys q2
  rw [eu] at e3; cases e3
  rw [ew] at e4; cases e4
  subst ez eH
  obtain ⟨x1, hs1⟩ := hs.frz hT (.tup [u, w])
  exact ⟨_, _, _, x1, hs1, rfl, .tup (.inl upd_same) ((RepAll.two qu qw).up x1)⟩
end DL
namespace DL
open PySem PySem.Spec PyProof.Rows L2
def t_is_whole : DTS :=
 (dRet (dAndV (dCB gIsi (dCons (dVar 0) (dCons (dC (.val (.ty "int"))) dNil))) (dNotV (dCB gIsi (dCons (dVar 0) (dCons (dC (.val (.ty "bool"))) dNil))))))
def t_root_floor_by : DTS :=
 (dSeq (dIfS (dTru (dOp (gCmpI fun i j => decide (i < j)) (dVar 0) (dC (.int 2)))) (dRet (dVar 0)) dNext)
 (dSeq (dAsg (dC (.int 1)) (dName 1))
 (dSeq (dWhile (dTru (dOp (gCmpI fun i j => decide (i ≤ j)) (dOp (rBin CMul fun i j => i * j) (dVar 1) (dVar 1)) (dVar 0))) (dAsg (dOp (rBin CMul fun i j => i * j) (dC (.int 2)) (dVar 1)) (dName 1)))
 (dSeq (dAsg (dOp (rBin CDiv fun i j => i.fdiv j) (dOp gAdd (dVar 1) (dOp (rBin CDiv fun i j => i.fdiv j) (dVar 0) (dVar 1))) (dC (.int 2))) (dName 2))
 (dSeq (dWhile (dTru (dOp (gCmpI fun i j => decide (i < j)) (dVar 2) (dVar 1))) (dPar 1 2 (dCons (dVar 2) (dCons (dOp (rBin CDiv fun i j => i.fdiv j) (dOp gAdd (dVar 2) (dOp (rBin CDiv fun i j => i.fdiv j) (dVar 0) (dVar 2))) (dC (.int 2))) dNil))))
 (dRet (dVar 1)))))))
def t_common_by : DTS :=
 (dSeq (dPar 2 3 (dCons (dCB gAbs (dCons (dVar 0) dNil)) (dCons (dCB gAbs (dCons (dVar 1) dNil)) dNil)))
 (dSeq (dWhile (dTru (dOp gNe (dVar 3) (dC (.int 0)))) (dPar 2 3 (dCons (dVar 3) (dCons (dOp (rBin CMod fun i j => i.fmod j) (dVar 2) (dVar 3)) dNil))))
 (dRet (dVar 2))))
def t_l_random_7821 (c_l_hash_9cde : DSp) : DTS :=
 (dSeq (dIfS (dTru (dOp (gCmpI fun i j => decide (j < i)) (dOp gIx (dVar 0) (dC (.int 0))) (dC (.int 0)))) (dSeq (dAsg (dOp (rBin CMod fun i j => i.fmod j) (dCB gInt (dCons (dOp gIx (dVar 0) (dC (.int 0))) dNil)) (dVar 1)) (dName 2))
 (dSeq (dAsg (dOp (rBin CDiv fun i j => i.fdiv j) (dOp gIx (dVar 0) (dC (.int 0))) (dVar 1)) (dSub (dVar 0) (dC (.int 0))))
 (dRet (dVar 2)))) dNext)
 (dSeq (dAsg (dC (.int 0)) (dName 2))
 (dSeq (dFor (dRngI gRng1 (dCons (dOp gAdd (dC (.int 1)) (dOp (rBin CDiv fun i j => i.fdiv j) (dBits (dVar 1)) (dC (.int 30)))) dNil)) (dName 3) (dSeq (dAsg (dOp gAdd (dOp gIx (dVar 0) (dC (.int 2))) (dC (.int 1))) (dSub (dVar 0) (dC (.int 2))))
 (dAsg (dOp gAdd (dOp (rBin CMul fun i j => i * j) (dVar 2) (dC (.int 2147483587))) (dCall 2 c_l_hash_9cde [] DX0 (dCons (dOp gIx (dVar 0) (dC (.int 1))) (dCons (dOp gIx (dVar 0) (dC (.int 2))) dNil)))) (dName 2))))
 (dRet (dOp (rBin CMod fun i j => i.fmod j) (dCB gInt (dCons (dVar 2) dNil)) (dVar 1))))))
def t_l_cell_cf3b : DTS :=
 (dSeq (dIfS (dTru (dOp (gCmpI fun i j => decide (i < j)) (dVar 1) (dCB gLen (dCons (dVar 0) dNil)))) (dRet (dOp gIx (dVar 0) (dVar 1))) dNext)
 (dRet (dOp (rBin CMod fun i j => i.fmod j) (dCB gSum (dCons (dSl (gSlL false) (dVar 0) dNoPart (dPart (dC (.int 1)))) dNil)) (dC (.int 1000003)))))
def t_l_generator_b324 (c_l_cell_cf3b : DSp) : DTS :=
 (dSeq (dAsg (dCall 2 c_l_cell_cf3b [] DX0 (dCons (dVar 0) (dCons (dVar 1) dNil))) (dName 2))
 (dRet (dOwn (dCons (dOp (rBin CMod fun i j => i.fmod j) (dCB gInt (dCons (dCB gMax (dCons (dOp (rBin (fun _ _ => True) fun i j => i - j) (dVar 2) (dOp (rBin CPow fun i j => i ^ j.toNat) (dC (.int 10)) (dC (.int 18)))) (dCons (dC (.int 0)) dNil))) dNil)) (dOp (rBin CPow fun i j => i ^ j.toNat) (dOp (rBin CPow fun i j => i ^ j.toNat) (dC (.int 10)) (dC (.int 60))) (dC (.int 10)))) (dCons (dOp (rBin CMod fun i j => i.fmod j) (dCB gInt (dCons (dVar 2) dNil)) (dC (.int 2147483647))) (dCons (dOp (rBin CMul fun i j => i * j) (dC (.int 1000)) (dVar 1)) dNil))))))
end DL
namespace DL
open PySem PySem.Spec PyProof.Rows L2
end DL
namespace DL
open PySem PySem.Spec PyProof.Rows L2
end DL
namespace DL
open PySem PySem.Spec PyProof.Rows L2
def t_l_hash_d8d1 : DTS :=
 (dSeq (dAsg (dOp (rBin CMod fun i j => i.fmod j) (dCB gInt (dCons (dOp gAdd (dOp gAdd (dOp gAdd (dOp (rBin CMul fun i j => i * j) (dVar 0) (dC (.int 1140671))) (dOp (rBin CMul fun i j => i * j) (dOp (rBin CMul fun i j => i * j) (dC (.int 27644437)) (dVar 1)) (dVar 1))) (dOp (rBin CMul fun i j => i * j) (dC (.int 131)) (dVar 1))) (dC (.int 19))) dNil)) (dC (.int 2147483629))) (dName 2))
 (dSeq (dAsg (dOp (rBin CMod fun i j => i.fmod j) (dCB gInt (dCons (dOp gAdd (dOp gAdd (dOp (rBin CMul fun i j => i * j) (dVar 2) (dVar 2)) (dOp (rBin CMul fun i j => i * j) (dC (.int 62089)) (dVar 1))) (dC (.int 32416187))) dNil)) (dC (.int 2147483587))) (dName 2))
 (dRet (dOp (rBin CMod fun i j => i.fmod j) (dCB gInt (dCons (dOp (rBin CMul fun i j => i * j) (dVar 2) (dC (.int 48271))) dNil)) (dC (.int 2147483647))))))
def t_is_cutting_by (c_is_whole : DSp) (c_common_by : DSp) : DTS :=
 (dSeq (dIfS (dOr (dNot (dTru (dCB gIsi (dCons (dVar 0) (dCons (dC (.val (.ty "tuple"))) dNil))))) (dOr (dTru (dOp gNe (dCB gLen (dCons (dVar 0) dNil)) (dC (.int 4)))) (dTru (dOp gNe (dLc false (dSeqI (dVar 0)) (dName 1) (dNot (dTru (dCall 1 c_is_whole [] DX0 (dCons (dVar 1) dNil)))) (dVar 1) [1]) (dLst dNil))))) (dRet (dC (.bl false))) dNext)
 (dSeq (dAsg (dVar 0) (dGTup 4 (dGCons (dName 2) (dGCons (dName 3) (dGCons (dName 4) (dGCons (dName 5) dGNil))))))
 (dSeq (dIfS (dOr (dTru (dOp (gCmpI fun i j => decide (i < j)) (dVar 3) (dC (.int 1)))) (dOr (dTru (dOp (gCmpI fun i j => decide (i < j)) (dVar 4) (dC (.int 1)))) (dNot (dTru (dOp (gCmpI fun i j => decide (i < j)) (dOp gAdd (dVar 4) (dVar 5)) (dVar 3)))))) (dRet (dC (.bl false))) dNext)
 (dSeq (dAsg (dCall 2 c_common_by [] DX0 (dCons (dVar 3) (dCons (dVar 4) dNil))) (dName 6))
 (dRet (dAndV (dChain (gCmpI fun i j => decide (i ≤ j)) (gCmpI fun i j => decide (i < j)) (dC (.int 0)) (dVar 2) (dVar 6)) (dOp gEq (dCall 2 c_common_by [] DX0 (dCons (dCall 2 c_common_by [] DX0 (dCons (dVar 2) (dCons (dVar 6) dNil))) (dCons (dVar 5) dNil))) (dC (.int 1)))))))))
def t_l_measure_919a : DTS :=
 (dRet (dOp gAdd (dOp (rBin CMul fun i j => i * j) (dOp gIx (dVar 0) (dC (.int 3))) (dOp gIx (dVar 0) (dC (.int 3)))) (dOp (rBin CMul fun i j => i * j) (dOp (rBin CMul fun i j => i * j) (dC (.int 4)) (dOp gIx (dVar 0) (dC (.int 1)))) (dOp gIx (dVar 0) (dC (.int 2))))))
def t_check_cutting (c_is_cutting_by : DSp) : DTS :=
 (dIfS (dNot (dTru (dCall 1 c_is_cutting_by [] DX0 (dCons (dVar 0) dNil)))) dNever dNext)
def t_measure_by : DTS :=
 (dRet (dOp gAdd (dOp (rBin CMul fun i j => i * j) (dOp gIx (dVar 0) (dC (.int 3))) (dOp gIx (dVar 0) (dC (.int 3)))) (dOp (rBin CMul fun i j => i * j) (dOp (rBin CMul fun i j => i * j) (dC (.int 4)) (dOp gIx (dVar 0) (dC (.int 1)))) (dOp gIx (dVar 0) (dC (.int 2))))))
end DL
namespace DL
open PySem PySem.Spec PyProof.Rows L2
end DL
/-! DLS: sorted of ints, of tuples of ints -/
namespace DL
open PySem PySem.Spec PyProof.Rows L2
/-- by the first unlike number -/
def lexL : List Int → List Int → Bool
  | [], [] => false
  | [], _ :: _ => true
  | _ :: _, [] => false
  | x :: xs, y :: ys => if x = y then lexL xs ys else decide (x < y)
theorem lexL_asym : ∀ x y, lexL x y = true → lexL y x = false
  | [], [], h => by cases h
  | [], _ :: _, _ => rfl
  | _ :: _, [], h => by cases h
  | x :: xs, y :: ys, h => by
    unfold lexL at h ⊢
    by_cases e : x = y
    · rw [if_pos e] at h
      rw [if_pos e.symm]
      exact lexL_asym xs ys h
    · rw [if_neg e] at h
      rw [if_neg (Ne.symm e)]
      have := of_decide_eq_true h
      exact decide_eq_false (by omega)
theorem lexL_tr : ∀ x y z, lexL y x = false → lexL z y = false → lexL z x = false
  | [], [], z, _, h => h
  | [], _ :: _, [], _, h => by cases h
  | [], _ :: _, _ :: _, _, _ => rfl
  | _ :: _, [], _, h, _ => by cases h
  | _ :: _, _ :: _, [], _, h => by cases h
  | x :: xs, y :: ys, z :: zs, h1, h2 => by
    unfold lexL at h1 h2 ⊢
    by_cases e1 : y = x
    · rw [if_pos e1] at h1
      by_cases e2 : z = y
      · rw [if_pos e2] at h2
        rw [if_pos (e2.trans e1)]
        exact lexL_tr xs ys zs h1 h2
      · rw [if_neg e2] at h2
        rw [if_neg (fun z => e2 (z.trans e1.symm)), ← e1]
        exact h2
    · rw [if_neg e1] at h1
      have a1 := of_decide_eq_false h1
      by_cases e2 : z = y
      · rw [if_neg (fun z => e1 (e2.symm.trans z)), e2]
        exact h1
      · rw [if_neg e2] at h2
        have a2 := of_decide_eq_false h2
        rw [if_neg (by omega)]
        exact decide_eq_false (by omega)
theorem lexL_swo {α : Type} (k : α → List Int) : SrtO.Swo fun v u => lexL (k v) (k u) := ⟨fun _ _ => lexL_asym _ _, fun _ _ _ => lexL_tr _ _ _⟩
/-- at v: a tuple of these ints -/
def IsTupI (h : Heap) (v : Value) (ns : List Int) : Prop := ∃ a o us n, v = .ref a ∧ h.get? a = some o ∧ o.cls = .type "tuple" ∧ o.data = .seq (List.toArray us) n ∧ Vals (ns.map V.int) us
theorem IsTupI.keeps {h h' : Heap} {v : Value} {ns : List Int} (p : IsTupI h v ns) (k : ∀ b o, h.get? b = some o → o.cls = .type "tuple" → h'.get? b = some o) : IsTupI h' v ns := by
  obtain ⟨a, o, us, n, e, ho, hc, hd, r⟩ := p
  exact ⟨a, o, us, n, e, k _ _ ho hc, hc, hd, r⟩
theorem lex_run {prog : Program} {w : World} {A : Around} {Q : Bool → Shared → Prop} {s : Shared} : ∀ (ns ms : List Int) (us vs : List Value) (i : Nat), Vals (ns.map V.int) us → Vals (ms.map V.int) vs → ns.length = ms.length → Q (lexL ns ms) s → PySem.W.KatLex prog w A true false Q (us.zip vs) i s
  | [], [], us, vs, i, r1, r2, _, q => by
    cases r1; cases r2
    exact PySem.W.kat_nil q
  | [], _ :: _, _, _, _, _, _, h, _ => by cases h
  | _ :: _, [], _, _, _, _, _, h, _ => by cases h
  | n :: ns, m :: ms, _, _, i, .cons rn r1, .cons rm r2, h, q => by
    obtain ⟨t1, rfl⟩ := rn
    obtain ⟨t2, rfl⟩ := rm
    unfold lexL at q
    refine PySem.W.kat_cons (SeqAt.EqAt.int_int n t1 m t2 prog w _ _ (PySem.W.kat_go (fun e => ?_) fun e => ?_))
    · have e' : n = m := by simpa using e
      rw [if_pos e'] at q
      exact PySem.W.kat_yes (lex_run ns ms _ _ _ r1 r2 (by simpa using h) q)
    · have e' : ¬ n = m := by simpa using e
      rw [if_neg e'] at q
      exact PySem.W.kat_no (oneLt_any_int q)
theorem tup_cmpI {prog : Program} {w : World} {A : Around} {s : Shared} {vs : List Value} {k : Value → List Int} {d : Nat} (hp : ∀ v ∈ vs, IsTupI s.heap v (k v) ∧ (k v).length = d) : SrtO.Cmp prog w A s (tuples' true) (fun p => p.1 ∈ vs) (SrtO.lt2 fun v u => lexL (k v) (k u)) := by
  intro p q hm hm'
  obtain ⟨⟨a, o, us, n, e, ho, hc, hd, r⟩, l1⟩ := hp _ hm
  obtain ⟨⟨a', o', us', n', e', ho', hc', hd', r'⟩, l2⟩ := hp _ hm'
  show wpAny (model prog w) A (keyLt' (tuples' true) p.1 q.1) (fun r s' => s' = s ∧ r = lexL (k p.1) (k q.1)) (fun _ _ => False) s
  generalize k p.1 = ns at r l1 ⊢
  generalize k q.1 = ms at r' l2 ⊢
  rw [e, e']
  refine PySem.W.kat_lt ho hd ho' hd' ?_
  have z1 : us.length = ns.length := by rw [← r.length, List.length_map]
  have z2 : us'.length = ms.length := by rw [← r'.length, List.length_map]
  have z : decide ((List.toArray us).size < (List.toArray us').size) = false := by
    rw [List.size_toArray, List.size_toArray, z1, z2, l1, l2]
    exact decide_eq_false (Nat.lt_irrefl _)
  rw [z]
  exact lex_run ns ms us us' 0 r r' (l1.trans l2.symm) ⟨rfl, rfl⟩
theorem firsts_ofI {h : Heap} {k : Value → List Int} {d : Nat} (hd : 1 ≤ d) : ∀ {vs : List Value}, (∀ v ∈ vs, IsTupI h v (k v) ∧ (k v).length = d) → ∃ fs : List Value, PySem.W.KatTups h vs fs ∧ fs.length = vs.length ∧ ∀ f ∈ fs, ∃ x t, f = Value.int x t
  | [], _ => ⟨[], .nil, rfl, fun f hf => by cases hf⟩
  | v :: vs, hp => by
    obtain ⟨fs, h1, h2, h3⟩ := firsts_ofI hd fun v' hm => hp v' (List.mem_cons_of_mem _ hm)
    obtain ⟨⟨a, o, us, n, e, ho, hc, hdt, r⟩, l⟩ := hp v List.mem_cons_self
    generalize k v = ns at r l
    match ns, us, r, l with
    | [], _, _, l => exact absurd (show (0 : Nat) = d from l) (by omega)
    | x :: xs, _, .cons rx r, l =>
      obtain ⟨t, rfl⟩ := rx
      subst e
      refine ⟨.int x t :: fs, .cons ho hc hdt (by simp) h1, by rw [List.length_cons, List.length_cons, h2], fun f hf => ?_⟩
      rcases List.mem_cons.mp hf with rfl | hf
      · exact ⟨x, t, rfl⟩
      · exact h3 f hf
theorem tups_sortableI {prog : Program} {w : World} {A : Around} {s : Shared} {a : Addr} {vs : List Value} {k : Value → List Int} {d : Nat} (hd : 1 ≤ d) (h0 : 0 < vs.length) (hp : ∀ v ∈ vs, IsTupI s.heap v (k v) ∧ (k v).length = d) (ha : ∀ o, s.heap.get? a = some o → o.cls ≠ .type "tuple") :
    SrtO.SortableO prog w A s a vs fun v u => lexL (k v) (k u) := by
  intro h' keep
  have hp' : ∀ v ∈ vs, IsTupI h' v (k v) ∧ (k v).length = d := fun v hm => ⟨(hp v hm).1.keeps fun b o e c => keep b o (fun z => ha o (by rw [← z]; exact e) c) e, (hp v hm).2⟩
  obtain ⟨fs, h1, h2, h3⟩ := firsts_ofI hd hp'
  refine ⟨tuples' true, fun Q E hq => PySem.W.kat_kind (T := .type "int") h1 (by omega) (fun f hm => ?_) (by rfl) ?_, tup_cmpI hp'⟩
  · obtain ⟨x, t, rfl⟩ := h3 f hm
    exact PySem.W.Looks.now
  · have e : (Value.type "int" != Value.type "tuple") = true := by decide +kernel
    rw [e]
    exact hq
theorem sorted_tupsI {prog : Program} {w : World} {A : Around} {E : Value → Shared → Prop} {s : Shared} {l : Addr} {vs : List Value} {k : Value → List Int} {d : Nat} {Q : Value → Shared → Prop} (hd : 1 ≤ d) (hl : s.heap.IsList l vs.toArray) (hz : vs.length ≤ sizeLine) (hp : ∀ v ∈ vs, IsTupI s.heap v (k v) ∧ (k v).length = d)
    (h : ∀ (h' : Heap) (b : Addr) (out : List Value), SrtO.Srtd (fun v u => lexL (k v) (k u)) out → out.Perm vs → (∀ c o, s.heap.get? c = some o → h'.get? c = some o) → s.heap.objs.size ≤ b → (∃ n, h'.get? b = some (seqObj "list" out.toArray n)) → Q (.ref b) { s with heap := h' }) :
    wpAny (model prog w) A (call (.builtin "sorted") [.ref l]) Q E s := by
  refine SrtO.sorted_ord (lexL_swo k) hl hz (fun h2 h₁ a ha kk => ?_) fun out hs hb => ?_
  · refine tups_sortableI (s := { s with heap := h₁ }) hd (by omega) (fun v hm => ⟨(hp v hm).1.keeps fun b o e _ => (kk b o e).2, (hp v hm).2⟩) fun o e c => ?_
    have e' : some o = some (seqObj "list" vs.toArray 0) := e.symm.trans ha
    cases e'
    exact absurd (Value.type.inj c) (by decide)
  · exact h _ _ out hs hb.perm (fun b o e => sortedAll_old e) (Nat.le_succ _) (sortedAll_at s.heap vs out.toArray)
/-- the ints of a tuple, as H tells -/
def kV (K : PySem.W.Frag) (H : Hp) (v : V) : List Int := match v with
  | .ref t => match H t with
    | some (.tup xs) => xs.map fun x => match x with
      | .int i => i
      | _ => 0
    | _ => match K.lookup t with
      | some ⟨_, _, .seq its _, _⟩ => its.toList.map fun u => match u with
        | .int i _ => i
        | _ => 0
      | _ => []
  | _ => []
theorem kV_at {K : PySem.W.Frag} {H : Hp} {t : Addr} {ns : List Int} (h : H t = some (.tup (ns.map V.int))) : kV K H (.ref t) = ns := by
  unfold kV
  dsimp only
  rw [h]
  dsimp only
  rw [List.map_map]
  exact (List.map_congr_left fun x _ => rfl).trans (List.map_id ns)
theorem ints_vals : ∀ {ns : List Int} {us : List Value}, Vals (ns.map V.int) us → (us.map fun u => match u with | .int i _ => i | _ => 0) = ns
  | [], _, .nil => rfl
  | n :: ns, _, .cons r t => by
    obtain ⟨tk, rfl⟩ := r
    rw [List.map_cons, ints_vals t]
theorem kV_atT {K : PySem.W.Frag} {S H : Hp} {t : Addr} {ns : List Int} (hk : ∀ t o, K.lookup t = some o → H t = none) (s : Same S H) (h : TupK K S t (ns.map V.int)) : kV K H (.ref t) = ns := by
  rcases h with h | ⟨o, its, n, hl, hc, hd, _, hv, _⟩
  · exact kV_at (s _ _ h)
  · unfold kV
    dsimp only
    rw [hk t o hl]
    dsimp only
    obtain ⟨c, d, da, sl⟩ := o
    dsimp only at hd
    subst hd
    rw [hl]
    exact ints_vals hv
theorem _root_.L2.Inv.kNone {X : Cx} {pins : List (Addr × Obj)} {σ : St} {H : Hp} {s : Shared} (I : Inv X pins σ H s) : ∀ t o, X.K.lookup t = some o → H t = none := fun t o e => (I.bs t o (I.ok.mod.kin t o e)).2
def rSortedIT (K : PySem.W.Frag) : List V → Hp → VK → Prop := fun vs H Q => ∃ (a : Addr) (xs : List V) (d : Nat), vs = [V.ref a] ∧ SqL K H a xs ∧ 1 ≤ d ∧ (∀ x ∈ xs, (∃ t, x = V.ref t ∧ SqT K H t ((kV K H x).map V.int)) ∧ (kV K H x).length = d) ∧
  ∀ ys p, ys.Pairwise (fun x y => lexL (kV K H y) (kV K H x) = false) → ys.Perm xs → H p = none → Q (.ref p) (upd H p (.lst ys))
theorem cr_sortedIT {X : Cx} : CallR X (.builtin "sorted") (rSortedIT X.K) := by
  intro pins s σ H vs us Q I r h
  obtain ⟨a, xs, d, rfl, hs, hd, hx, q⟩ := h
  obtain ⟨its, rv, hl, hz⟩ := I.list hs
  match us, r with
  | [u], .cons ru .nil =>
    obtain rfl : u = Value.ref a := ru
    obtain ⟨e1, e2⟩ := refs_back rv fun x m => by
      obtain ⟨⟨t, e, _⟩, _⟩ := hx x m
      exact ⟨t, e⟩
    refine sorted_tupsI (k := fun u => kV X.K H (backV u)) hd hl.isList (by rw [← rv.length]; exact hz) (fun v hv => ?_) fun h' b out h1 h2 kp hb hn => ?_
    · obtain ⟨t, rfl⟩ := e2 v hv
      have hm : V.ref t ∈ xs := by rw [e1]; exact List.mem_map.mpr ⟨_, hv, rfl⟩
      obtain ⟨⟨t', e, ht⟩, hl'⟩ := hx _ hm
      cases e
      obtain ⟨its2, r2, ⟨o, ho, hc, n, hd'⟩, _⟩ := I.tuple ht
      exact ⟨⟨t, o, its2, n, rfl, ho, hc, hd', r2⟩, hl'⟩
    · have h3 : ∀ u ∈ out, ∃ a, u = Value.ref a := fun u hu => e2 u (h2.mem_iff.mp hu)
      obtain ⟨n, hn⟩ := hn
      have hp : (out.map backV).Perm xs := by
        rw [e1]
        exact h2.map _
      have hlen : (out.map backV).length ≤ sizeLine := by rw [hp.length_eq]; exact hz
      exact ⟨.ref b, upd H b (.lst (out.map backV)), I.laid (t' := s.toks) kp hb ⟨hlen, out, n, vals_back h3, hn⟩, rfl, q _ b (List.pairwise_map.mpr h1) hp (I.hok.fresh hb)⟩
/-! ### as a rule for data -/
def tI (ns : List Int) : D := .tup (ns.map D.int)
theorem RepAll.ofMem {K : PySem.W.Frag} {ph : Ph} {S : Hp} {f : V → D} : ∀ {ys : List V}, (∀ y ∈ ys, Rep K ph S y (f y)) → RepAll K ph S ys (ys.map f)
  | [], _ => .nil
  | y :: ys, h => .cons (h y List.mem_cons_self) (RepAll.ofMem fun z hz => h z (List.mem_cons_of_mem _ hz))
theorem RepAll.intsV {K : PySem.W.Frag} {ph : Ph} {S : Hp} : ∀ {xs : List V} {ns : List Int}, RepAll K ph S xs (ns.map D.int) → xs = ns.map V.int
  | _, [], .nil => rfl
  | _, _ :: _, .cons h t => by
    cases h
    rw [RepAll.intsV t]
    rfl
def ownOr (own : Bool) (l : List D) (M : Mem) (Q : DQ) : Prop := if own = true then Q (.own M.length) (M ++ [.lst l]) else Q (.lst l) M
/-- sorted(l), l a list of ints or of tuples of ints of one length -/
def gSorted (own : Bool) : GA := fun ds M Q => match ds with
  | [d] => (∃ l : List Int, res M d = .lst (l.map D.int) ∧ ∀ l' : List Int, l'.Perm l → l'.Pairwise (· ≤ ·) → ownOr own (l'.map D.int) M Q) ∨
    ∃ (k : Nat) (l : List (List Int)), res M d = .lst (l.map tI) ∧ 1 ≤ k ∧ (∀ ns ∈ l, ns.length = k) ∧ ∀ l' : List (List Int), l'.Perm l → l'.Pairwise (fun x y => lexL y x = false) → ownOr own (l'.map tI) M Q
  | _ => False
theorem RepAll.tups {K : PySem.W.Frag} {ph : Ph} {S H : Hp} (hk : ∀ t o, K.lookup t = some o → H t = none) (hsub : Same S H) : ∀ {xs : List V} {l : List (List Int)}, RepAll K ph S xs (l.map tI) → (∀ x ∈ xs, (∃ t, x = V.ref t ∧ SqT K H t ((kV K H x).map V.int)) ∧ kV K H x ∈ l ∧ Rep K ph S x (tI (kV K H x))) ∧ xs.map (kV K H) = l
  | _, [], .nil => ⟨fun x h => (by cases h), rfl⟩
  | _, n :: l, .cons h t => by
    obtain ⟨i1, i2⟩ := RepAll.tups hk hsub t
    have h0 := h
    cases h with
    | tup h1 h2 =>
      have e := RepAll.intsV h2
      subst e
      have e2 := kV_atT hk hsub h1
      refine ⟨fun x hx => ?_, by rw [List.map_cons, e2, i2]⟩
      rcases List.mem_cons.mp hx with rfl | hx
      · rw [e2]
        exact ⟨⟨_, rfl, h1.sq hsub⟩, List.mem_cons_self, h0⟩
      · obtain ⟨j1, j2, j3⟩ := i1 x hx
        exact ⟨j1, List.mem_cons_of_mem _ j2, j3⟩
theorem cd_sorted {X : Cx} (own : Bool) : CallD X (.builtin "sorted") (gSorted own) := by
  intro pins s σ H ph S r M vs us ds Q I hs rv q hg
  match ds, vs, us, rv, q, hg with
  | [d], [v], [u], .cons ru .nil, .cons q .nil, hg =>
    rcases hg with ⟨l, er, g⟩ | ⟨k, l, er, hk, hl, g⟩
    · obtain ⟨p, xs, rfl, hp, hx⟩ := res_lst hs q er
      have e := RepAll.intsV hx
      subst e
      refine cr_sortedI pins s σ H _ _ _ I (.cons ru .nil) ⟨p, l, rfl, SqL.of hp, fun l' b pm sd hb => ?_⟩
      have g' := g l' pm sd
      cases own with
      | false => exact Aft.frz hs hb fun x => ⟨_, .lst upd_same (RepAll.ints _), g'⟩
      | true => exact Aft.own hs hb (RepAll.ints _) g'
    · obtain ⟨p, xs, rfl, hp, hx⟩ := res_lst hs q er
      obtain ⟨i1, i2⟩ := RepAll.tups I.kNone hs.sub hx
      refine cr_sortedIT pins s σ H _ _ _ I (.cons ru .nil) ⟨p, xs, k, rfl, SqL.of hp, hk, fun x hx => ⟨(i1 x hx).1, hl _ (i1 x hx).2.1⟩, fun ys b sd pm hb => ?_⟩
      have ry : RepAll X.K ph S ys ((ys.map (kV X.K H)).map tI) := by
        rw [List.map_map]
        exact RepAll.ofMem fun y hy => (i1 y (pm.mem_iff.mp hy)).2.2
      have g' := g (ys.map (kV X.K H)) (by rw [← i2]; exact pm.map _) (List.pairwise_map.mpr sd)
      cases own with
      | false => exact Aft.frz hs hb fun x => ⟨_, .lst upd_same (ry.up x), g'⟩
      | true => exact Aft.own hs hb ry g'
/-! ### slices of lists and tuples alike -/
section
variable {X : Cx}
def gSl (own : Bool) (d : D) (lo hi : Option Int) (M : Mem) (Q : DQ) : Prop := match d with
  | .tup l => Q (.tup (cutD l lo hi)) M
  | d => gSlL own d lo hi M Q
theorem de_sl (own : Bool) {e : Expr} {lo hi : Option Expr} {t : DTE} {tl th : DTO} {pos p2 : Pos} (h : DE X e t) (h1 : DO X lo tl) (h2 : DO X hi th) : DE X (.Subscript e (.Slice lo hi none p2) pos) (dSl (gSl own) t tl th) :=
  DE.of (pe_slice (SlR.or sl_list sl_tupA) h.pe h1.po h2.po) fun ph S r M σ H Q hs ht Q' hq => ⟨ph, S, r, M, _, hs, ht, fun v H1 ⟨ph1, S1, M1, x1, hs1, d, q1, g1⟩ =>
    ⟨ph1, S1, r, M1, _, hs1, g1, fun lo H2 ⟨ph2, S2, M2, x2, hs2, g2⟩ => ⟨ph2, S2, r, M2, _, hs2, g2, fun hi H3 ⟨ph3, S3, M3, x3, hs3, g3⟩ => by
      replace g3 : gSl own d lo hi M3 Q := g3
      have xx := x1.trans (x2.trans x3)
      have q3 := q1.up (x2.trans x3)
      by_cases htup : ∃ l, d = .tup l
      · obtain ⟨l, rfl⟩ := htup
        cases q3 with
        | tup h1 h2 =>
          refine .inr ⟨_, _, rfl, h1.sq hs3.sub, fun hw => ?_, fun _ b hb => hq _ _ (Aft.up xx (Aft.frz hs3 hb fun x => ⟨_, .tup (.inl upd_same) ((cut_rep h2).up x), g3⟩))⟩
          have hw' : HT.sIx l.length 0 lo = 0 ∧ HT.sIx l.length l.length hi = l.length := by rw [← h2.len]; exact hw
          refine hq _ _ (Aft.up xx (Aft.here hs3 ⟨_, .tup h1 ?_, g3⟩))
          unfold cutD
          rw [cut_whole hw']
          exact h2
      · left
        have g4 : gSlL own d lo hi M3 Q := by cases d <;> first | exact g3 | exact absurd ⟨_, rfl⟩ htup
        unfold gSlL at g4
        split at g4
        · rename_i l er
          obtain ⟨p, xs, rfl, hp, hx⟩ := res_lst hs3 q3 er
          refine ⟨p, xs, rfl, SqL.of hp, fun b hb => ?_⟩
          cases own with
          | false => exact hq _ _ (Aft.up xx (Aft.frz hs3 hb fun x => ⟨_, .lst upd_same ((cut_rep hx).up x), g4⟩))
          | true => exact hq _ _ (Aft.up xx (Aft.own hs3 hb (cut_rep hx) g4))
        · rename_i ns er
          have er' := res_scr er
          subst er'
          cases q3 with
          | scr h1 =>
            refine ⟨_, _, rfl, hs3.sub.seq h1, fun b hb => ?_⟩
            cases own with
            | false => exact hq _ _ (Aft.up xx (Aft.frz hs3 hb fun x => ⟨_, .lst upd_same (cut_rep (RepAll.ints _)), g4⟩))
            | true => exact hq _ _ (Aft.up xx (Aft.own hs3 hb (cut_rep (RepAll.ints _)) g4))
        · exact g4.elim⟩⟩⟩
theorem gSl_tup {own : Bool} {l : List D} {lo hi : Option Int} {M : Mem} {Q : DQ} : gSl own (.tup l) lo hi M Q = Q (.tup (cutD l lo hi)) M := rfl
theorem gSl_lst {l : List D} {lo hi : Option Int} {M : Mem} {Q : DQ} : gSl false (.lst l) lo hi M Q = Q (.lst (cutD l lo hi)) M := rfl
theorem cut_1 {a : D} {l : List D} : cutD (a :: l) (some 1) none = l := by
  unfold cutD
  have e1 : HT.sIx (a :: l).length 0 (some 1) = 1 := by
    have := HT.sIx_nat (a :: l).length 0 1
    rw [show ((1 : Nat) : Int) = 1 from rfl] at this
    rw [this, List.length_cons]
    omega
  have e2 : HT.sIx (a :: l).length (a :: l).length none = (a :: l).length := rfl
  rw [e1, e2]
  simp
end
/-! ### x + y, lists, the sum to be changed -/
end DL
namespace DL
open PySem PySem.Spec PyProof.Rows L2
end DL
namespace DL
open PySem PySem.Spec PyProof.Rows L2
end DL
namespace DL
open PySem PySem.Spec PyProof.Rows L2
end DL
namespace DL
open PySem PySem.Spec PyProof.Rows L2
end DL
/-! DLU: max and min of a list of ints -/
namespace DL
open PySem PySem.Spec PyProof.Rows L2
/-- the ints of a list that is only read -/
def intsOf (M : Mem) (d : D) : Option (List Int) := match res M d with
  | .lst l => intsD l
  | _ => none
def gMaxL : GA := fun ds M Q => match ds with
  | [d] => ∃ l : List Int, intsOf M d = some l ∧ 0 < l.length ∧ ∀ m, m ∈ l → (∀ y, y ∈ l → y ≤ m) → Q (.int m) M
  | _ => False
theorem intsOf_lst {M : Mem} {d : D} {l : List Int} (h : intsOf M d = some l) : ∃ ds, res M d = .lst ds ∧ intsD ds = some l := by
  unfold intsOf at h
  split at h
  · rename_i ds e; exact ⟨ds, e, h⟩
  · cases h
theorem cd_maxL {X : Cx} (hc : X.calm = true) : CallD X (.builtin "max") gMaxL := CallD.of (cr_max hc) fun σ H ph S r M vs ds Q hs q hg => by
  match ds, q, hg with
  | [d], .cons q .nil, ⟨l, e, h0, hg⟩ =>
    obtain ⟨es, e1, e2⟩ := intsOf_lst e
    obtain ⟨a, xs, rfl, h1, h2⟩ := res_lst hs q e1
    exact ⟨a, l, rfl, by rw [← intsD_rep h2 e2]; exact SqL.of h1, h0, fun m m1 m2 => Aft.here hs ⟨_, .int _, hg m m1 m2⟩⟩
end DL
namespace DL
open PySem PySem.Spec PyProof.Rows L2
end DL
namespace DL
open PySem PySem.Spec PyProof.Rows L2
end DL
/-! DLV: sorted({(a, b), (c, d)}) -/
namespace DL
open PySem PySem.Spec PyProof.Rows L2
/-! ### a def whose own code must be known -/
end DL
namespace DL
open PySem PySem.Spec PyProof.Rows L2
end DL
namespace DL
open PySem PySem.Spec PyProof.Rows L2
end DL
/-! DLX: errors over data: raised, passed on, caught, asked -/
namespace DL
open PySem PySem.Spec PyProof.Rows L2
section
variable {X : Cx} {pos : Pos}
/-! ### names of the module as values; an error's value and kind -/
def dFld (t : DTE) : DTE := fun r M Q => t r M fun d M1 => match d with
  | .exc _ v => Q v M1
  | _ => False
end
/-! ### what may leave -/
abbrev DXE := Env → Str → D → Mem → Prop
def postE (K : PySem.W.Frag) (ph : Ph) (S : Hp) (E : DXE) : WX := fun cls d σ H => ∃ (x : Str) (C T dd : Addr) (v : V) (dv : D) (r : Env), XA.ErC K x C T ∧ cls = .ref C ∧ d = some dd ∧
  Aft K ph S r σ H fun ph' S' M => S' dd = some (.xd [(fVal, v)]) ∧ Rep K ph' S' v dv ∧ E r x dv M
theorem postE.up {K : PySem.W.Frag} {ph ph1 : Ph} {S S1 : Hp} {E : DXE} {cls : Value} {d : Option Addr} {σ : St} {H : Hp} (x : Ext ph S ph1 S1) (h : postE K ph1 S1 E cls d σ H) : postE K ph S E cls d σ H :=
  let ⟨y, C, T, dd, v, dv, r, h1, h2, h3, h4⟩ := h
  ⟨y, C, T, dd, v, dv, r, h1, h2, h3, Aft.up x h4⟩
section
variable {X : Cx} {pos : Pos}
theorem postE.back {K : PySem.W.Frag} {ph ph1 : Ph} {S S1 : Hp} {E : DXE} {cls : Value} {d : Option Addr} {σ : St} {H : Hp} (x : Ext ph S ph1 S1) (h : postE K ph1 S1 E cls d σ H) : postE K ph S E cls d σ H := h.up x
variable {k : Nat} {f : Addr} {fd : FuncData} {ps : List Str} {sp : DSp} {x : Str} {p : Pos} {e : Expr} {es : List Expr} {t : DXE → DTA}
/-- f(..), f may raise -/
def dCallX (n : Nat) (sp : DSp) (t : DXE → DTA) : DXE → DTE := fun E r M Q => t E r M fun ds M1 => ds.length = n ∧ sp ds M1 Q (fun y dv M2 => E r y dv M2)
end
end DL
/-! DLY: statements that may raise; try; a def that raises -/
namespace DL
open PySem PySem.Spec PyProof.Rows L2
section
variable {X : Cx} {pos : Pos}
/-- raise x(e) -/
def dRaise (x : Str) (t : DTA) : DXE → DTS := fun E _ r M => t r M fun ds M1 => ∃ d, ds = [d] ∧ E r x d M1
/-! ### try -/
/-- try: t / except c as (slot i): ts, all that t raises being of the class c -/
def dTry (c : Str) (i : Nat) (t : DXE → DTS) (ts : DTS) : DTS := fun E r M => t (fun r' x dv M' => XA.under x c = true ∧
  ts { nx := fun r2 M2 => E.nx (r2.set i none) M2, rt := E.rt, bk := fun r2 M2 => E.bk (r2.set i none) M2, ct := fun r2 M2 => E.ct (r2.set i none) M2 } (r'.set i (some (.exc x dv))) M') E r M
end
/-! ### a def that may raise -/
/-! ### a def that may raise, called where it doesn't -/
section
variable {X : Cx} {k : Nat} {ps ks : List Str} {sp : DSp} {x : Str} {p pos : Pos} {e : Expr} {es : List Expr} {kws : List Keyword} {t : DTA}
/-! ### a call of what an expression tells (a def out of a list of defs) -/
/-- the defs that may be meant: name, number of parameters, contract -/
abbrev Tab := List (Str × Nat × DSp)
def dCallV (L : Tab) (tf : DTE) (t : DXE → DTA) : DXE → DTE := fun E r M Q => tf r M fun d M0 => match d with
  | .glb x => ∃ n sp, (x, n, sp) ∈ L ∧ t E r M0 fun ds M1 => ds.length = n ∧ sp ds M1 Q (fun y dv M2 => E r y dv M2)
  | _ => False
end
end DL
namespace DL
open PySem PySem.Spec PyProof.Rows L2
end DL
namespace DL
open PySem PySem.Spec PyProof.Rows L2
end DL
/-! DLZ: list(range), range with a step, enumerate, xs[::-1], xs.index -/
namespace DL
open PySem PySem.Spec PyProof.Rows L2
section
variable {X : Cx} {pos : Pos}
/-! ### list(range(..)) -/
def gLRng (own : Bool) : GA := fun ds M Q => match ds with
  | [.int b] => RgOk 0 b ∧ (if own = true then Q (.own M.length) (M ++ [.lst (rng 0 b.toNat)]) else Q (.lst (rng 0 b.toNat)) M)
  | [.int a, .int b] => RgOk a b ∧ (if own = true then Q (.own M.length) (M ++ [.lst (rng a (b - a).toNat)]) else Q (.lst (rng a (b - a).toNat)) M)
  | _ => False
/-! ### range(a, b, c) -/
def rngC (lo c : Int) (n : Nat) : List D := (List.range n).map fun i => D.int (lo + (i : Nat) * c)
theorem rngC_len (lo c : Int) (n : Nat) : (rngC lo c n).length = n := by unfold rngC; rw [List.length_map, List.length_range]
theorem rngC_get {lo c : Int} {n i : Nat} {d : D} : (rngC lo c n)[i]? = some d ↔ i < n ∧ d = .int (lo + (i : Nat) * c) := by
  unfold rngC
  rw [List.getElem?_map]
  by_cases h : i < n
  · rw [List.getElem?_range h]
    exact ⟨fun e => ⟨h, (Option.some.inj e).symm⟩, fun e => by rw [e.2]; rfl⟩
  · rw [List.getElem?_eq_none (by rw [List.length_range]; omega)]
    exact ⟨fun e => (nomatch e), fun e => absurd e.1 h⟩
theorem Wlk.rangeC {K : PySem.W.Frag} {ph : Ph} {S : Hp} {lo c : Int} {n : Nat} {C : Mem → Prop} : Wlk K ph S (Itc lo c n) (rngC lo c n) C := fun ph' S' r M σ H h1 h2 hs hc => by
  refine ⟨fun i hi => by rw [rngC_len] at hi; exact hi, fun i d e => ?_⟩
  obtain ⟨hi, rfl⟩ := rngC_get.mp e
  refine ⟨hi, fun x H' ⟨e1, e2⟩ => ?_⟩
  subst e1 e2
  exact Aft.here hs ⟨rfl, .int _⟩
def gRng3 (ds : List D) (M : Mem) (R : List D → (Mem → Prop) → Mem → Prop) : Prop := match ds with
  | [.int a, .int b, .int c] => ∃ n, RgC a b c n ∧ R (rngC a c n) (fun _ => True) M
  | _ => False
theorem di_range3 {tg a b c : Expr} {t : DTA} {p : Pos} (hm : X.mg "range" = none) (ha : DA X [a, b, c] t) (hg : Gl X "range" := by rfl)
    (hs : starEach [a, b, c] X.env = (false, eval a X.env) :: starEach [b, c] X.env := by rfl) (hpl : (backTo pos (starEach [b, c] X.env)).any (·.1) = false := by rfl) : DI X tg (.Call (.Name "range" p) [a, b, c] [] pos) (dRngI gRng3 t) :=
  ⟨PI.weak (pi_range3 hg hm ha.pa hs hpl) fun σ H R ⟨ph, S, r, M, Q0, hs, ht, hq⟩ => ⟨ph, S, r, M, _, hs, ht, fun vs H1 ⟨ph1, S1, M1, x1, hs1, ds, q1, g1⟩ => by
    match ds, q1, g1 with
    | [.int a, .int b, .int c], .cons q (.cons q' (.cons q'' .nil)), ⟨n, h, g⟩ =>
      cases q
      cases q'
      cases q''
      exact ⟨a, b, c, n, rfl, h, hq _ _ ⟨ph1, S1, M1, x1, hs1, _, _, Wlk.rangeC, g⟩⟩⟩⟩
/-! ### enumerate -/
/-! ### xs[::-1] -/
/-! ### xs.index(y) -/
end
end DL
namespace DL
open PySem PySem.Spec PyProof.Rows L2
end DL
namespace DL
open PySem PySem.Spec PyProof.Rows L2
end DL
/-! XC: list(range(a, b, c)); xs.count(y) -/
namespace L2
open PySem PySem.Spec PyProof.Rows PyProof
end L2
/-! DLC: list(range(a, b, c)), xs.count(y), comparisons and reprs of data with owned lists within -/
namespace DL
open PySem PySem.Spec PyProof.Rows L2
section
variable {X : Cx} {pos : Pos}
/-! ### xs.count(y) -/
/-! ### owned lists within -/
def cellL (M : Mem) (k : Nat) : Option (List D) := match M[k]? with
  | some (.lst ds) => some ds
  | _ => none
mutual
/-- every owned list within as it stands -/
def resD (M : Mem) : D → D
  | .own k => match cellL M k with
    | some ds => .lst ds
    | none => .own k
  | .tup l => .tup (resDA M l)
  | .lst l => .lst (resDA M l)
  | d => d
def resDA (M : Mem) : List D → List D
  | [] => []
  | d :: ds => resD M d :: resDA M ds
end
end
end DL
namespace DL
open PySem PySem.Spec PyProof.Rows L2
end DL
/-! XD: repr of a list whose items may be dicts, where no list within is asked about -/
namespace L2
open PySem PySem.Spec PyProof.Rows PyProof
end L2
/-! DLR: how readings are shown -/
namespace DL
open PySem PySem.Spec PyProof.Rows L2
/-! ### while -/
/-- the same, the measure told apart -/
theorem dwhile_of {c : DTT} {t : DTS} {E : DEnds} {r : Env} {M : Mem} (W : Nat → Env → Mem → Prop) (n : Nat) (h0 : W n r M)
    (step : ∀ n r M, W n r M → c r M fun b M1 => if b = true then t { E with nx := fun r' M' => ∃ m', m' < n ∧ W m' r' M', ct := fun r' M' => ∃ m', m' < n ∧ W m' r' M', bk := E.nx } r M1 else E.nx r M1) : dWhile c t E r M := ⟨W, ⟨n, h0⟩, step⟩
/-! ### comparing plain data -/
theorem gEq_int {i j : Int} {M : Mem} {Q : DQ} : gEq (.int i) (.int j) M Q = Q (.bl (i == j)) M := rfl
theorem gNe_int {i j : Int} {M : Mem} {Q : DQ} : gNe (.int i) (.int j) M Q = Q (.bl (!(i == j))) M := rfl
theorem gEq_bl {i j : Bool} {M : Mem} {Q : DQ} : gEq (.bl i) (.bl j) M Q = Q (.bl (i == j)) M := rfl
theorem gNe_bl {i j : Bool} {M : Mem} {Q : DQ} : gNe (.bl i) (.bl j) M Q = Q (.bl (!(i == j))) M := rfl
/-! ### the end of a def -/
theorem rtq {M : Mem} {Q : DQ} {d : D} (q : Q d M) (hb : below M.length d = true := by rfl) : Rtq M Q d M := ⟨M, [], (List.append_nil M).symm, Nat.le_refl _, hb, fun _ _ h => .inl h, q⟩
theorem rtqG {M G : Mem} {Q : DQ} {d : D} (q : Q d M) (hb : below M.length d = true := by rfl) : Rtq M Q d (M ++ G) := ⟨M, G, rfl, Nat.le_refl _, hb, fun _ _ h => .inl h, q⟩
/-- new cells stay, others were changed: all of them plain -/
theorem rtqC {M M1 : Mem} {Q : DQ} {d : D} (q : Q d M1) (hl : M.length ≤ M1.length) (hb : below M1.length d = true) (hc : ∀ (i : Nat) (c : Own), M1[i]? = some c → M[i]? = some c ∨ belowO M1.length c = true) : Rtq M Q d M1 := ⟨M1, [], (List.append_nil _).symm, hl, hb, hc, q⟩
end DL
namespace DL
open PySem PySem.Spec PyProof.Rows L2
/-! ### comprehensions -/
theorem lcW_pure {ds : List D} {C : Mem → Prop} {g : DTG} {tt : DTT} {te : DTE} {r : Env} {M : Mem} {Q : DQ} (f : D → Option D) (hC : C M) (hl : ds.length ≤ sizeLine)
    (step : ∀ d ∈ ds, ∀ (Y : D → Mem → Prop) (N : Mem → Prop), (match f d with | some e => Y e M | none => N M) → g d r M fun r2 M2 => tt r2 M2 fun b M3 => if b = true then te r2 M3 Y else N M3)
    (q : Q (.lst (ds.filterMap f)) M) : lcW false ds C g tt te r M Q := by
  refine ⟨fun i acc M' => M' = M ∧ acc = (ds.take i).filterMap f ∧ i ≤ ds.length, ⟨rfl, rfl, Nat.zero_le _⟩, ?_⟩
  rintro i acc M' ⟨rfl, rfl, hi⟩
  refine ⟨hC, fun hd => ?_, fun d ed => ?_⟩
  · rw [if_neg Bool.false_ne_true]
    rw [List.take_of_length_le hd]; exact q
  · have hlt : i < ds.length := (List.getElem?_eq_some_iff.mp ed).1
    have ht : ds.take (i + 1) = ds.take i ++ [d] := by rw [List.take_add_one, ed]; rfl
    refine step d (List.mem_of_getElem? ed) _ _ ?_
    split
    · rename_i e he
      refine ⟨?_, rfl, ?_, hlt⟩
      · have h1 : ((ds.take i).filterMap f).length ≤ (ds.take i).length := List.length_filterMap_le _ _
        have h2 : (ds.take i).length ≤ i := by rw [List.length_take]; omega
        omega
      · rw [ht, List.filterMap_append]
        simp [he]
    · rename_i he
      refine ⟨rfl, ?_, hlt⟩
      rw [ht, List.filterMap_append]
      simp [he]
/-! ### data that may be compared -/
mutual
def fine (n : Nat) : D → Bool
  | .non => true
  | .bl _ => true
  | .int _ => true
  | .str x => PyData.strOk x
  | .tup l => match n with
    | 0 => false
    | n + 1 => fineAll n l
  | .lst l => match n with
    | 0 => false
    | n + 1 => fineAll n l
  | _ => false
def fineAll (n : Nat) : List D → Bool
  | [] => true
  | d :: ds => fine n d && fineAll n ds
end
mutual
theorem fine_py : ∀ (n : Nat) (d : D), fine n d = true → ∃ p, toPy d = some p ∧ p.canLay0 = true ∧ p.depth ≤ n
  | n, .non, _ => ⟨.none, rfl, by simp only [PyData.canLay0], by simp only [PyData.depth]; omega⟩
  | n, .bl b, _ => ⟨.bool b, rfl, by simp only [PyData.canLay0], by simp only [PyData.depth]; omega⟩
  | n, .int i, _ => ⟨.int i, rfl, by simp only [PyData.canLay0], by simp only [PyData.depth]; omega⟩
  | n, .str x, h => ⟨.str x, rfl, by simpa only [PyData.canLay0, fine] using h, by simp only [PyData.depth]; omega⟩
  | 0, .tup l, h => by simp [fine] at h
  | n + 1, .tup l, h => by
    obtain ⟨ps, h1, h2, h3, _⟩ := fine_pyAll n l (by simpa only [fine] using h)
    exact ⟨.tuple ps, by simp only [toPy, h1], by simpa only [PyData.canLay0] using h2, by simp only [PyData.depth]; omega⟩
  | 0, .lst l, h => by simp [fine] at h
  | n + 1, .lst l, h => by
    obtain ⟨ps, h1, h2, h3, _⟩ := fine_pyAll n l (by simpa only [fine] using h)
    exact ⟨.list ps, by simp only [toPy, h1], by simpa only [PyData.canLay0] using h2, by simp only [PyData.depth]; omega⟩
  | n, .dct0, h => by simp [fine] at h
  | n, .scr _, h => by simp [fine] at h
  | n, .own _, h => by simp [fine] at h
  | n, .exc _ _, h => by simp [fine] at h
  | n, .glb _, h => by simp [fine] at h
  | n, .val _, h => by simp [fine] at h
theorem fine_pyAll : ∀ (n : Nat) (ds : List D), fineAll n ds = true → ∃ ps, toPyAll ds = some ps ∧ PyData.canLayAll0 ps = true ∧ PyData.depthAll ps ≤ n ∧ ps.length = ds.length
  | n, [], _ => ⟨[], rfl, by simp only [PyData.canLayAll0], by simp only [PyData.depthAll]; omega, rfl⟩
  | n, d :: ds, h => by
    have h' : fine n d = true ∧ fineAll n ds = true := by simpa only [fineAll, Bool.and_eq_true] using h
    obtain ⟨p, a1, a2, a3⟩ := fine_py n d h'.1
    obtain ⟨ps, b1, b2, b3, b4⟩ := fine_pyAll n ds h'.2
    exact ⟨p :: ps, by simp only [toPyAll, a1, b1], by simp only [PyData.canLayAll0, a2, b2, Bool.and_self], by simp only [PyData.depthAll]; omega, by rw [List.length_cons, List.length_cons, b4]⟩
end
theorem cmpd_fine {n : Nat} {d : D} (h : fine n d = true) (hn : n ≤ 64 := by decide) : ∃ p, toPy d = some p ∧ cmpd d = some p := by
  obtain ⟨p, h1, h2, h3⟩ := fine_py n d h
  refine ⟨p, h1, ?_⟩
  unfold cmpd
  rw [h1]
  have : SeqAt.shaped p = true := by unfold SeqAt.shaped; rw [h2]; simp; omega
  simp only [this, if_true]
theorem fineAll_iff {n : Nat} : ∀ {l : List D}, fineAll n l = true ↔ ∀ d ∈ l, fine n d = true
  | [] => by simp [fineAll]
  | d :: l => by simp only [fineAll, Bool.and_eq_true, List.mem_cons, forall_eq_or_imp, fineAll_iff (l := l)]
theorem res_fine {n : Nat} {d : D} {M : Mem} (h : fine n d = true) : res M d = d := by
  cases d <;> first | rfl | (simp [fine] at h)
theorem eqv_self {n : Nat} {d : D} {p : PyData} (h : fine n d = true) (hp : toPy d = some p) : PyData.eqv p p = true := by
  obtain ⟨p', h1, h2, _⟩ := fine_py n d h
  rw [hp] at h1; cases h1
  exact SeqAt.eqv_refl p h2
theorem eqB_self {n : Nat} {d : D} (h : fine n d = true) (hn : n ≤ 64 := by decide) : eqB d d = some true := by
  obtain ⟨p, h1, h2⟩ := cmpd_fine h hn
  unfold eqB
  split
  · simp_all
  · rw [h2]
    show some (PyData.eqv p p) = _
    rw [eqv_self h h1]
/-- the same data compared -/
theorem gNe_same {n : Nat} {d : D} {M : Mem} {Q : DQ} (h : fine n d = true) (q : Q (.bl false) M) (hn : n ≤ 64 := by decide) : gNe d d M Q := by
  unfold gNe
  rw [res_fine h, eqB_self h hn]
  exact q
theorem gEq_same {n : Nat} {d : D} {M : Mem} {Q : DQ} (h : fine n d = true) (q : Q (.bl true) M) (hn : n ≤ 64 := by decide) : gEq d d M Q := by
  unfold gEq
  rw [res_fine h, eqB_self h hn]
  exact q
theorem eqB_nil {n : Nat} {l : List D} (h : fineAll n l = true) (hn : n ≤ 60 := by decide) : eqB (.lst l) (.lst []) = some l.isEmpty := by
  have hf : fine (n + 1) (.lst l) = true := by simpa only [fine] using h
  obtain ⟨p, h1, h2⟩ := cmpd_fine hf (by omega)
  obtain ⟨ps, b1, _, _, b4⟩ := fine_pyAll n l h
  have e : p = .list ps := by simp only [toPy, b1] at h1; exact (Option.some.inj h1).symm
  subst e
  show (match cmpd (.lst l), cmpd (.lst []) with
    | some p, some q => some (PyData.eqv p q)
    | _, _ => none) = _
  rw [h2]
  show some (PyData.eqv (.list ps) (.list [])) = _
  cases l with
  | nil => cases ps with
    | nil => rfl
    | cons _ _ => simp at b4
  | cons _ _ => cases ps with
    | nil => simp at b4
    | cons _ _ => rfl
/-- a list beside the empty one -/
theorem gNe_nil' {n : Nat} {l : List D} {M : Mem} {Q : DQ} (h : fineAll n l = true) (q : Q (.bl (!l.isEmpty)) M) (hn : n ≤ 60 := by decide) : gNe (.lst l) (.lst []) M Q := by
  unfold gNe
  show match eqB (.lst l) (.lst []) with | some b => Q (.bl (!b)) M | none => False
  rw [eqB_nil h hn]
  exact q
theorem gNe_strs {a b : Str} {M : Mem} {Q : DQ} : gNe (.str a) (.str b) M Q = Q (.bl (!(a == b))) M := rfl
theorem gEq_strs {a b : Str} {M : Mem} {Q : DQ} : gEq (.str a) (.str b) M Q = Q (.bl (a == b)) M := rfl
/-! ### data that may be shown -/
mutual
def lit (B : Nat) : D → Bool
  | .int i => decide (i.natAbs.log2 < B)
  | .tup l => litAll B l
  | .lst l => litAll B l
  | _ => true
def litAll (B : Nat) : List D → Bool
  | [] => true
  | d :: ds => lit B d && litAll B ds
end
mutual
def wt (B : Nat) : D → Nat
  | .int _ => B + 1
  | .str x => x.cps.size
  | .tup l => wtAll B l
  | .lst l => wtAll B l
  | _ => 0
def wtAll (B : Nat) : List D → Nat
  | [] => 0
  | d :: ds => wt B d + 1 + wtAll B ds
end
theorem strOk_short {x : Str} (h : PyData.strOk x = true) : ∀ c ∈ x.cps.toList, c < 16 ^ 8 := by
  have h0 : x.cps.all (· < 0x110000) = true := h
  intro c hc
  have h1 := (Array.all_eq_true_iff_forall_mem.mp h0) c (Array.mem_toList_iff.mp hc)
  have h2 : c < 0x110000 := by simpa using h1
  have e : (16 : Nat) ^ 8 = 4294967296 := by decide
  omega
mutual
theorem lit_py (B : Nat) (hB : B ≤ 1919) : ∀ (n : Nat) (d : D) (p : PyData), fine n d = true → lit B d = true → toPy d = some p → p.showable = true ∧ p.leavesShort (B + 8) = true ∧ p.weight ≤ wt B d
  | n, .non, p, _, _, e => by cases e; exact ⟨by simp only [PyData.showable], by simp only [PyData.leavesShort], by simp only [PyData.weight]; omega⟩
  | n, .bl b, p, _, _, e => by cases e; exact ⟨by simp only [PyData.showable], by simp only [PyData.leavesShort], by simp only [PyData.weight]; omega⟩
  | n, .int i, p, _, h, e => by
    cases e
    have h' : i.natAbs.log2 < B := by simpa only [lit, decide_eq_true_eq] using h
    refine ⟨?_, ?_, ?_⟩
    · simp only [PyData.showable, decide_eq_true_eq]; omega
    · simp only [PyData.leavesShort, decide_eq_true_eq]
      show (Str.ofString (toString i)).length ≤ _
      rw [PySem.ofString_length]
      have := int_text_length_le (a := i) (k := B) (by omega) h'
      omega
    · simp only [PyData.weight, wt]
      split <;> omega
  | n, .str x, p, hf, _, e => by
    cases e
    refine ⟨by simp only [PyData.showable], ?_, by simp only [PyData.weight, wt]; omega⟩
    simp only [PyData.leavesShort, List.all_eq_true, decide_eq_true_eq]
    exact strOk_short (by simpa only [fine] using hf)
  | 0, .tup l, p, h, _, _ => by simp [fine] at h
  | 0, .lst l, p, h, _, _ => by simp [fine] at h
  | n + 1, .tup l, p, h, h2, e => by
    obtain ⟨ps, e1, _⟩ := fine_pyAll n l (by simpa only [fine] using h)
    have e' : p = .tuple ps := by simp only [toPy, e1] at e; exact (Option.some.inj e).symm
    subst e'
    obtain ⟨a, b, c⟩ := lit_pyAll B hB n l ps (by simpa only [fine] using h) (by simpa only [lit] using h2) e1
    exact ⟨by simpa only [PyData.showable] using a, by simpa only [PyData.leavesShort] using b, by simpa only [PyData.weight, wt] using c⟩
  | n + 1, .lst l, p, h, h2, e => by
    obtain ⟨ps, e1, _⟩ := fine_pyAll n l (by simpa only [fine] using h)
    have e' : p = .list ps := by simp only [toPy, e1] at e; exact (Option.some.inj e).symm
    subst e'
    obtain ⟨a, b, c⟩ := lit_pyAll B hB n l ps (by simpa only [fine] using h) (by simpa only [lit] using h2) e1
    exact ⟨by simpa only [PyData.showable] using a, by simpa only [PyData.leavesShort] using b, by simpa only [PyData.weight, wt] using c⟩
  | n, .dct0, _, h, _, _ => by simp [fine] at h
  | n, .scr _, _, h, _, _ => by simp [fine] at h
  | n, .own _, _, h, _, _ => by simp [fine] at h
  | n, .exc _ _, _, h, _, _ => by simp [fine] at h
  | n, .glb _, _, h, _, _ => by simp [fine] at h
  | n, .val _, _, h, _, _ => by simp [fine] at h
theorem lit_pyAll (B : Nat) (hB : B ≤ 1919) : ∀ (n : Nat) (ds : List D) (ps : List PyData), fineAll n ds = true → litAll B ds = true → toPyAll ds = some ps → PyData.showableAll ps = true ∧ PyData.leavesShortAll (B + 8) ps = true ∧ PyData.weightAll ps ≤ wtAll B ds
  | n, [], ps, _, _, e => by cases e; exact ⟨by simp only [PyData.showableAll], by simp only [PyData.leavesShortAll], by simp only [PyData.weightAll]; omega⟩
  | n, d :: ds, ps, h, h2, e => by
    have h' : fine n d = true ∧ fineAll n ds = true := by simpa only [fineAll, Bool.and_eq_true] using h
    have h2' : lit B d = true ∧ litAll B ds = true := by simpa only [litAll, Bool.and_eq_true] using h2
    obtain ⟨p, a1, _, _⟩ := fine_py n d h'.1
    obtain ⟨qs, b1, _, _, _⟩ := fine_pyAll n ds h'.2
    have e' : ps = p :: qs := by simp only [toPyAll, a1, b1] at e; exact (Option.some.inj e).symm
    subst e'
    obtain ⟨c1, c2, c3⟩ := lit_py B hB n d p h'.1 h2'.1 a1
    obtain ⟨d1, d2, d3⟩ := lit_pyAll B hB n ds qs h'.2 h2'.2 b1
    refine ⟨by simp only [PyData.showableAll, c1, d1, Bool.and_self], by simp only [PyData.leavesShortAll, c2, d2, Bool.and_self], ?_⟩
    simp only [PyData.weightAll, wtAll]; omega
end
/-- d's repr is covered: ints of B bits, at most -/
theorem shw_of (B n : Nat) {d : D} (h : fine n d = true) (hl : lit B d = true) (hw : (B + 10) * wt B d + B + 8 ≤ 16777216) (hB : B ≤ 1919 := by decide) (hn : n ≤ 64 := by decide) : ∃ z, shwn d = some z := by
  obtain ⟨p, e1, e2, e3⟩ := fine_py n d h
  obtain ⟨a, b, c⟩ := lit_py B hB n d p h hl e1
  have h1 := PyData.shown_le (B + 8) (by omega) p b
  have h2 : (B + 8 + 2) * p.weight ≤ (B + 10) * wt B d := Nat.mul_le_mul (by omega) c
  refine ⟨p.shown, ?_⟩
  unfold shwn
  rw [e1]
  dsimp only
  rw [if_pos ⟨a, by omega, by rw [sizeLine_eq]; omega, PyData.hasDict_of_canLay p e2⟩]
theorem gRepr_of (B n : Nat) {d : D} {M : Mem} {Q : DQ} (h : fine n d = true) (hl : lit B d = true) (hw : (B + 10) * wt B d + B + 8 ≤ 16777216) (q : ∀ z, shwn d = some z → Q (.str z) M) (hB : B ≤ 1919 := by decide) (hn : n ≤ 64 := by decide) : gRepr [d] M Q := by
  obtain ⟨z, e⟩ := shw_of B n h hl hw hB hn
  unfold gRepr
  dsimp only
  rw [res_fine h, e]
  exact q z e
/-! ### items by a written index -/
section
variable {α : Type}
theorem atI_of (n : Nat) {l : List α} (h : n < l.length) : atI l (n : Int) = l[n]? := by
  unfold atI ixN
  rw [if_pos (by omega), if_pos (by omega)]
  rfl
theorem atI_0 {a : α} {l : List α} : atI (a :: l) 0 = some a := atI_of 0 (by simp)
theorem atI_1 {a b : α} {l : List α} : atI (a :: b :: l) 1 = some b := atI_of 1 (by simp)
theorem atI_2 {a b c : α} {l : List α} : atI (a :: b :: c :: l) 2 = some c := atI_of 2 (by simp)
theorem atI_3 {a b c d : α} {l : List α} : atI (a :: b :: c :: d :: l) 3 = some d := atI_of 3 (by simp)
theorem atI_4 {a b c d e : α} {l : List α} : atI (a :: b :: c :: d :: e :: l) 4 = some e := atI_of 4 (by simp)
theorem atI_5 {a b c d e f : α} {l : List α} : atI (a :: b :: c :: d :: e :: f :: l) 5 = some f := atI_of 5 (by simp)
theorem ixN_30 : ixN 3 0 = some 0 := by decide
theorem ixN_31 : ixN 3 1 = some 1 := by decide
theorem ixN_32 : ixN 3 2 = some 2 := by decide
end
theorem rs_lst {M : Mem} {l : List D} : res M (.lst l) = .lst l := rfl
theorem rs_tup {M : Mem} {l : List D} : res M (.tup l) = .tup l := rfl
theorem rs_scr {M : Mem} {l : List Int} : res M (.scr l) = .scr l := rfl
theorem rs_int {M : Mem} {i : Int} : res M (.int i) = .int i := rfl
theorem intsD_map : ∀ ns : List Int, intsD (ns.map D.int) = some ns
  | [] => rfl
  | n :: ns => by rw [List.map_cons]; unfold intsD; rw [intsD_map ns]
theorem cut_map (ns : List Int) (lo hi : Option Int) : ∃ xs : List Int, cutD (ns.map D.int) lo hi = xs.map D.int := by
  unfold cutD
  rw [← List.map_drop, ← List.map_take]
  exact ⟨_, rfl⟩
end DL
/-! DLD: repr of data with empty dicts -/
namespace DL
open PySem PySem.Spec PyProof.Rows L2
mutual
/-- no list within -/
def nolst : D → Bool
  | .lst _ => false
  | .own _ => false
  | .tup l => nolstA l
  | _ => true
def nolstA : List D → Bool
  | [] => true
  | d :: ds => nolst d && nolstA ds
end
/-- dicts may stand within -/
def okZ : D → Bool
  | .lst l => nolstA l
  | d => nolst d
def shwnZ (d : D) : Option Str := match toPy d with
  | some p => if p.showable = true ∧ p.depth ≤ 64 ∧ p.shown.length ≤ sizeLine ∧ (p.hasDict = false ∨ okZ d = true) then some p.shown else none
  | none => none
theorem shwnZ_of {d : D} {z : Str} (h : shwn d = some z) : shwnZ d = some z := by
  unfold shwn at h
  unfold shwnZ
  split at h
  · rename_i p ep
    by_cases hp : p.showable = true ∧ p.depth ≤ 64 ∧ p.shown.length ≤ sizeLine ∧ p.hasDict = false
    · rw [if_pos hp] at h
      try rw [ep]
      try dsimp only
      rw [if_pos ⟨hp.1, hp.2.1, hp.2.2.1, .inl hp.2.2.2⟩]
      exact h
    · rw [if_neg hp] at h; cases h
  · cases h
end DL
namespace DL
open PySem PySem.Spec PyProof.Rows L2
end DL
/-! XE: a dict beside an int -/
namespace L2
open PySem PySem.Spec PyProof.Rows PyProof
open PySem.SeqAt PySem.AutoSeq1 PySem.Sem
end L2
/-! DLG: an empty dict beside an int -/
namespace DL
open PySem PySem.Spec PyProof.Rows L2
end DL
namespace DL
open PySem PySem.Spec PyProof.Rows L2
end DL
/-! DLK: the module's own tuples, starred items, len(set(..)) of ints -/
namespace DL
open PySem PySem.Spec PyProof.Rows L2
/-- the module's value at a is the data d -/
def KRep (K : PySem.W.Frag) (u : Value) (d : D) : Prop := ∃ v : V, RelV v u ∧ ∀ ph S, Rep K ph S v d
theorem KRep.int {K : PySem.W.Frag} {i : Int} {t : Tok} : KRep K (.int i t) (.int i) := ⟨.int i, ⟨t, rfl⟩, fun _ _ => .int _⟩
inductive KReps (K : PySem.W.Frag) : List Value → List D → Prop
  | nil : KReps K [] []
  | cons {u : Value} {us : List Value} {d : D} {ds : List D} : KRep K u d → KReps K us ds → KReps K (u :: us) (d :: ds)
theorem KRep.all {K : PySem.W.Frag} : ∀ {us : List Value} {ds : List D}, KReps K us ds → ∃ vs, Vals vs us ∧ ∀ ph S, RepAll K ph S vs ds
  | _, _, .nil => ⟨[], .nil, fun _ _ => .nil⟩
  | _, _, .cons ⟨v, r, q⟩ t => by
    obtain ⟨vs, rs, qs⟩ := KRep.all t
    exact ⟨v :: vs, .cons r rs, fun ph S => .cons (q ph S) (qs ph S)⟩
def dZ : D → Bool
  | .int i => i == 0
  | _ => false
def dTp : D → Bool
  | .tup _ => true
  | _ => false
def kcD (ds : List D) : Bool := ds.length == 3 || decide (3 ≤ (ds.filter dZ).length) || ds.any dTp
theorem dZ_vZ {K : PySem.W.Frag} {ph : Ph} {S : Hp} {v : V} {d : D} (h : Rep K ph S v d) (e : dZ d = true) : vZ v = true := by
  cases h <;> first | exact e | cases e
theorem dTp_vRf {K : PySem.W.Frag} {ph : Ph} {S : Hp} {v : V} {d : D} (h : Rep K ph S v d) (e : dTp d = true) : vRf v = true := by
  cases h <;> first | rfl | cases e
theorem kconst_of {K : PySem.W.Frag} {ph : Ph} {S : Hp} {vs : List V} {ds : List D} (h : RepAll K ph S vs ds) (e : kcD ds = true) : kconst vs = true := by
  unfold kcD at e
  unfold kconst
  rw [Bool.or_eq_true, Bool.or_eq_true] at e ⊢
  rcases e with (e | e) | e
  · exact .inl (.inl (by rw [h.len]; exact e))
  · refine .inl (.inr ?_)
    rw [decide_eq_true_eq] at e ⊢
    refine Nat.le_trans e ?_
    have go : ∀ (ds : List D) (vs : List V), RepAll K ph S vs ds → (ds.filter dZ).length ≤ (vs.filter vZ).length := by
      intro ds
      induction ds with
      | nil => intro vs h; exact Nat.zero_le _
      | cons d ds ih =>
        intro vs h
        cases h with
        | cons h1 h2 =>
          have := ih _ h2
          rw [List.filter_cons, List.filter_cons]
          by_cases z : dZ d = true
          · rw [if_pos z, if_pos (dZ_vZ h1 z), List.length_cons, List.length_cons]; omega
          · rw [if_neg z]; split
            · rw [List.length_cons]; omega
            · exact this
    exact go _ _ h
  · refine .inr ?_
    have go : ∀ (ds : List D) (vs : List V), RepAll K ph S vs ds → ds.any dTp = true → vs.any vRf = true := by
      intro ds
      induction ds with
      | nil => intro vs h e; cases e
      | cons d ds ih =>
        intro vs h e
        cases h with
        | cons h1 h2 =>
          rw [List.any_cons, Bool.or_eq_true] at e ⊢
          exact e.imp (dTp_vRf h1) (ih _ h2)
    exact go _ _ h e
theorem KRep.tup {K : PySem.W.Frag} {a : Addr} {dd : Option Addr} {its : Array Value} {n : Nat} {sl : Array (Option Value)} {ds : List D} (l : K.lookup a = some ⟨.type "tuple", dd, .seq its n, sl⟩)
    (h : KReps K its.toList ds) (hz : its.size ≤ 100 := by decide) (hc : kcD ds = true := by rfl) : KRep K (.ref a) (.tup ds) := by
  obtain ⟨vs, rs, qs⟩ := KRep.all h
  exact ⟨.ref a, rfl, fun ph S => .tup (.inr ⟨_, its, n, l, rfl, rfl, by rw [sizeLine_eq]; omega, rs, kconst_of (qs ph S) hc⟩) (qs ph S)⟩
end DL
namespace DL
open PySem PySem.Spec PyProof.Rows L2
def t_square_part_by (c_root_floor_by : DSp) : DTS :=
 (dSeq (dPar3 1 2 3 (dCons (dC (.int 1)) (dCons (dVar 0) (dCons (dC (.int 2)) dNil))))
 (dSeq (dWhile (dTru (dOp (gCmpI fun i j => decide (i ≤ j)) (dOp (rBin CMul fun i j => i * j) (dOp (rBin CMul fun i j => i * j) (dVar 3) (dVar 3)) (dVar 3)) (dVar 2))) (dSeq (dWhile (dTru (dOp gEq (dOp (rBin CMod fun i j => i.fmod j) (dVar 2) (dOp (rBin CMul fun i j => i * j) (dVar 3) (dVar 3))) (dC (.int 0)))) (dPar 1 2 (dCons (dOp (rBin CMul fun i j => i * j) (dVar 1) (dVar 3)) (dCons (dOp (rBin CDiv fun i j => i.fdiv j) (dVar 2) (dOp (rBin CMul fun i j => i * j) (dVar 3) (dVar 3))) dNil))))
 (dSeq (dIfS (dTru (dOp gEq (dOp (rBin CMod fun i j => i.fmod j) (dVar 2) (dVar 3)) (dC (.int 0)))) (dAsg (dOp (rBin CDiv fun i j => i.fdiv j) (dVar 2) (dVar 3)) (dName 2)) dNext)
 (dAsg (dOp gAdd (dVar 3) (dC (.int 1))) (dName 3)))))
 (dSeq (dAsg (dCall 1 c_root_floor_by [] DX0 (dCons (dVar 2) dNil)) (dName 4))
 (dRet (dIf (dTru (dOp gEq (dOp (rBin CMul fun i j => i * j) (dVar 4) (dVar 4)) (dVar 2))) (dOp (rBin CMul fun i j => i * j) (dVar 1) (dVar 4)) (dVar 1))))))
def t_factor_by (c_square_part_by : DSp) : DTS :=
 (dSeq (dAsg (dCall 1 c_square_part_by [] DX0 (dCons (dVar 0) dNil)) (dName 1))
 (dRet (dIf (dTru (dOp (gIn false) (dOp (rBin CMod fun i j => i.fmod j) (dOp (rBin CDiv fun i j => i.fdiv j) (dVar 0) (dOp (rBin CMul fun i j => i * j) (dVar 1) (dVar 1))) (dC (.int 4))) (dLst (dCons (dC (.int 0)) (dCons (dC (.int 1)) dNil))))) (dVar 1) (dOp (rBin CDiv fun i j => i.fdiv j) (dVar 1) (dC (.int 2))))))
end DL
namespace DL
open PySem PySem.Spec PyProof.Rows L2
end DL
namespace DL
open PySem PySem.Spec PyProof.Rows L2
end DL
/-! ZS: zip(xs, ys, strict=True) of two lists of one length -/
namespace PySem
open Sem (wp)
abbrev IsZipS (h : Heap) (z TI TO : Addr) (f0 : Value) : Prop :=
  h.get? z = some { cls := .type "zip", dict := none, data := .fields #[f0, .bool false, .bool true, .ref TI, .ref TO], slots := #[] }
end PySem
namespace DL
open PySem PySem.Spec PyProof.Rows L2
/-! DLM: zip(xs, ys, strict=True) of two lists of one length -/
end DL
namespace DL
open PySem PySem.Spec PyProof.Rows L2
end DL
namespace DL
open PySem PySem.Spec PyProof.Rows L2
end DL
namespace DL
open PySem PySem.Spec PyProof.Rows L2
/-! DLE: owned lists within owned lists: comparisons and reprs -/
end DL
namespace DL
open PySem PySem.Spec PyProof.Rows L2
end DL
namespace DL
open PySem PySem.Spec PyProof.Rows L2
end DL
namespace DL
open PySem PySem.Spec PyProof.Rows L2
end DL
namespace DL
open PySem PySem.Spec PyProof.Rows L2
end DL
/-! ZT: zip(xs, ys, zs, strict=True) of three lists of one length -/
namespace PySem
open Sem (wp)
abbrev IsTri (h : Heap) (T : Addr) (a b c : Value) : Prop := h.get? T = some { cls := .type "tuple", data := .seq #[a, b, c] }
end PySem
namespace DL
open PySem PySem.Spec PyProof.Rows L2
/-! DLN: zip(xs, ys, zs, strict=True) of three lists of one length -/
end DL
/-! ZV: the zip of three kept under a name, walked later -/
namespace RZ
open PySem PySem.Spec PyProof.Rows L2
section
variable {X : Cx} {pins : List (Addr × Obj)} {σ : L2.St} {H : Hp} {s : Shared}
/-- what is known of an object that belongs to a walk -/
def Phi (X : Cx) (a : Addr) (φ : Heap → Prop) : HO := .ext fun h => φ h ∧ a ∉ X.fs ∧ (a ∈ X.ex ∨ X.s_0.heap.objs.size ≤ a)
end
/-- the six objects of a walk by three, tracked -/
structure Six where
  z : Addr
  TI : Addr
  TO : Addr
  i1 : Addr
  i2 : Addr
  i3 : Addr
def Six.trk (X : Cx) (q : Six) (a b c : Addr) (H : Hp) : Hp :=
  upd (upd (upd (upd (upd (upd H q.i3 (Phi X q.i3 fun h => h.IsListIter q.i3 c 0)) q.i2 (Phi X q.i2 fun h => h.IsListIter q.i2 b 0)) q.i1 (Phi X q.i1 fun h => h.IsListIter q.i1 a 0))
    q.TO (Phi X q.TO fun h => IsTri h q.TO .none .none .none)) q.TI (Phi X q.TI fun h => IsTri h q.TI (.ref q.i1) (.ref q.i2) (.ref q.i3))) q.z (Phi X q.z fun h => IsZipS h q.z q.TI q.TO .none)
end RZ
namespace DL
open PySem PySem.Spec PyProof.Rows L2
/-! DLO: lines = zip(a, b, c, strict=True); found.append([.. for .. in lines]) -/
end DL
/-! XF: Booleans as numbers -/
namespace PySem
end PySem
namespace DL
open PySem PySem.Spec PyProof.Rows L2
/-! DLP: sums and differences of Booleans -/
end DL
namespace DL
open PySem PySem.Spec PyProof.Rows L2
end DL
namespace DL
open PySem PySem.Spec PyProof.Rows L2
/-! DLQ: the place of an owned list within owned lists -/
end DL
namespace DL
open PySem PySem.Spec PyProof.Rows L2
end DL
/-! DLT: dicts that are owned: keys ints and texts, or tuples of them -/
namespace DL
open PySem PySem.Spec PyProof.Rows L2
def keyD : D → Option Key
  | .int i => some (.inl i)
  | .str x => some (.inr x)
  | _ => none
def Oth.asK : Oth → Option (List (Key × D))
  | .dK kvs => some kvs
  | .dT _ => none
  | .dead => none
def Own.asK : Own → Option (List (Key × D))
  | .lst _ => none
  | .oth o => o.asK
def dicAtK (M : Mem) : D → Option (List (Key × D))
  | .own k => M[k]?.bind Own.asK
  | _ => none
section
variable {κ : Type} [DecidableEq κ]
def valD (kvs : List (κ × D)) (k : κ) : Option D := (kvs.find? fun kv => decide (kv.1 = k)).map (·.2)
def putD (kvs : List (κ × D)) (k : κ) (d : D) : List (κ × D) :=
  if (kvs.any fun kv => decide (kv.1 = k)) = true then kvs.map (fun kv => if kv.1 = k then (kv.1, d) else kv) else kvs ++ [(k, d)]
/-- a table and what it is told by -/
def KR (K : PySem.W.Frag) (ph : Ph) (S : Hp) (ys : List (κ × V)) (kvs : List (κ × D)) : Prop := ys.map (·.1) = kvs.map (·.1) ∧ RepAll K ph S (ys.map (·.2)) (kvs.map (·.2))
variable {K : PySem.W.Frag} {ph : Ph} {S : Hp}
theorem KR.nil : KR K ph S ([] : List (κ × V)) [] := ⟨rfl, .nil⟩
theorem KR.cons {k : κ} {v : V} {d : D} {ys : List (κ × V)} {kvs : List (κ × D)} (h : Rep K ph S v d) (t : KR K ph S ys kvs) : KR K ph S ((k, v) :: ys) ((k, d) :: kvs) :=
  ⟨by rw [List.map_cons, List.map_cons, t.1], .cons h t.2⟩
theorem KR.elim {P : List (κ × V) → List (κ × D) → Prop} (h0 : P [] []) (h1 : ∀ k v d ys kvs, Rep K ph S v d → KR K ph S ys kvs → P ys kvs → P ((k, v) :: ys) ((k, d) :: kvs)) :
    ∀ (ys : List (κ × V)) (kvs : List (κ × D)), KR K ph S ys kvs → P ys kvs
  | [], [], _ => h0
  | [], _ :: _, h => by cases h.1
  | _ :: _, [], h => by cases h.1
  | (k, v) :: ys, (k', d) :: kvs, h => by
    obtain ⟨e, r⟩ := h
    rw [List.map_cons, List.map_cons] at e r
    injection e with e1 e2
    dsimp only at e1
    subst e1
    cases r with
    | cons r1 r2 => exact h1 _ _ _ _ _ r1 ⟨e2, r2⟩ (KR.elim h0 h1 ys kvs ⟨e2, r2⟩)
theorem KR.len {ys : List (κ × V)} {kvs : List (κ × D)} (h : KR K ph S ys kvs) : ys.length = kvs.length := by
  have := congrArg List.length h.1
  rw [List.length_map, List.length_map] at this
  exact this
theorem KR.val {ys : List (κ × V)} {kvs : List (κ × D)} (h : KR K ph S ys kvs) (k : κ) :
    (valD kvs k = none → valV ys k = none) ∧ ∀ d, valD kvs k = some d → ∃ v, valV ys k = some v ∧ Rep K ph S v d := by
  refine KR.elim (P := fun ys kvs => (valD kvs k = none → valV ys k = none) ∧ ∀ d, valD kvs k = some d → ∃ v, valV ys k = some v ∧ Rep K ph S v d) ⟨fun _ => rfl, fun d e => nomatch e⟩ (fun k' v d ys kvs r t ih => ?_) ys kvs h
  by_cases e : k' = k
  · rw [valV_pos (p := (k', v)) e, show valD ((k', d) :: kvs) k = some d by simp [valD, List.find?_cons, e]]
    exact ⟨(fun z => nomatch z), fun d' z => by cases z; exact ⟨v, rfl, r⟩⟩
  · rw [valV_neg (p := (k', v)) e, show valD ((k', d) :: kvs) k = valD kvs k by simp [valD, List.find?_cons, e]]
    exact ih
theorem KR.any {ys : List (κ × V)} {kvs : List (κ × D)} (h : KR K ph S ys kvs) (k : κ) : (ys.any fun kv => decide (kv.1 = k)) = kvs.any fun kv => decide (kv.1 = k) :=
  KR.elim (P := fun ys kvs => (ys.any fun kv => decide (kv.1 = k)) = kvs.any fun kv => decide (kv.1 = k)) rfl (fun k' v d ys kvs r t ih => by rw [List.any_cons, List.any_cons, ih]) ys kvs h
theorem KR.app {ys zs : List (κ × V)} {kvs kws : List (κ × D)} (h : KR K ph S ys kvs) (t : KR K ph S zs kws) : KR K ph S (ys ++ zs) (kvs ++ kws) :=
  ⟨by rw [List.map_append, List.map_append, h.1, t.1], by rw [List.map_append, List.map_append]; exact h.2.app t.2⟩
theorem KR.put {ys : List (κ × V)} {kvs : List (κ × D)} (h : KR K ph S ys kvs) (k : κ) {v : V} {d : D} (q : Rep K ph S v d) : KR K ph S (putK ys k v) (putD kvs k d) := by
  unfold putK putD
  rw [h.any k]
  split
  · refine KR.elim (P := fun ys kvs => KR K ph S (ys.map fun kv => if kv.1 = k then (kv.1, v) else kv) (kvs.map fun kv => if kv.1 = k then (kv.1, d) else kv)) KR.nil (fun k' v' d' ys kvs r t ih => ?_) ys kvs h
    rw [List.map_cons, List.map_cons]
    by_cases e : k' = k
    · rw [if_pos e, if_pos e]; exact KR.cons q ih
    · rw [if_neg e, if_neg e]; exact KR.cons r ih
  · exact h.app (KR.cons q KR.nil)
end
section
variable {K : PySem.W.Frag} {ph : Ph} {S : Hp}
theorem keyD_rep {v : V} {d : D} {k : Key} (h : Rep K ph S v d) (e : keyD d = some k) : v = L2.kV k := by
  cases h <;> first | (cases e; rfl) | cases e
theorem dicK_rep {r : Env} {M : Mem} {σ : St} {H : Hp} {v : V} {d : D} {kvs : List (Key × D)} (hs : Sat K ph S r M σ H) (q : Rep K ph S v d) (e : dicAtK M d = some kvs) :
    ∃ (k : Nat) (a : Addr) (ys : List (Key × V)), d = .own k ∧ v = .ref a ∧ M[k]? = some (.dK kvs) ∧ ph.cells[k]? = some a ∧ S a = none ∧ H a = some (.dK ys) ∧ KR K ph S ys kvs := by
  unfold dicAtK at e
  split at e
  · rename_i k
    cases eM : M[k]? with
    | none => rw [eM] at e; cases e
    | some w =>
      rw [eM] at e
      replace e : w.asK = some kvs := e
      rcases w with l | _ | l | l
      · cases e
      · cases e
      · cases e
      · replace e : some l = some kvs := e
        cases e
        obtain ⟨a, ys, c1, c2, c3, c4, c5⟩ := hs.dicK k _ eM
        cases q with
        | own h =>
          rw [h] at c1; cases c1
          exact ⟨k, _, ys, rfl, rfl, eM, h, c2, c3, c4, c5⟩
  · cases e
end
end DL
namespace DL
open PySem PySem.Spec PyProof.Rows L2
def t_is_signed : DTS :=
 (dRet (dAndV (dOp gEq (dOp (rBin CMod fun i j => i.fmod j) (dVar 0) (dC (.int 8))) (dC (.int 1))) (dOp (gCmpI fun i j => decide (j < i)) (dVar 0) (dC (.int 9)))))
def t_turn_by : DTS :=
 (dSeq (dAsg (dVar 0) (dGTup 4 (dGCons (dName 1) (dGCons (dName 2) (dGCons (dName 3) (dGCons (dName 4) dGNil))))))
 (dRet (dOp (rBin CMul fun i j => i * j) (dOp gAdd (dVar 3) (dC (.int 1))) (dOp gAdd (dOp gAdd (dVar 1) (dVar 2)) (dOp (rBin CMul fun i j => i * j) (dVar 1) (dVar 2))))))
def t_sign_by (c_measure_by : DSp) (c_is_signed : DSp) (c_factor_by : DSp) (c_turn_by : DSp) : DTS :=
 (dSeq (dAsg (dCall 1 c_measure_by [] DX0 (dCons (dVar 0) dNil)) (dName 1))
 (dSeq (dIfS (dNot (dTru (dCall 1 c_is_signed [] DX0 (dCons (dVar 1) dNil)))) (dRet (dC .non)) dNext)
 (dRet (dOp (rBin CMod fun i j => i.fmod j) (dOp gAdd (dOp (rBin CDiv fun i j => i.fdiv j) (dOp (rBin (fun _ _ => True) fun i j => i - j) (dOp gIx (dVar 0) (dC (.int 3))) (dCall 1 c_factor_by [] DX0 (dCons (dVar 1) dNil))) (dC (.int 2))) (dCall 1 c_turn_by [] DX0 (dCons (dVar 0) dNil))) (dC (.int 2))))))
def t_sign (c_check_cutting : DSp) (c_sign_by : DSp) : DTS :=
 (dSeq (dDrop (dCall 1 c_check_cutting [] DX0 (dCons (dVar 0) dNil)))
 (dRet (dCall 1 c_sign_by [] DX0 (dCons (dVar 0) dNil))))
end DL
/-! ZD: dict(xs) of a list of pairs whose keys are tuples; {k: v} with a tuple k -/
/-! DLW: dicts made of lists of pairs, dicts of one pair; d.get(k, x) -/
namespace DL
open PySem PySem.Spec PyProof.Rows L2
section
variable {X : Cx} {pos : Pos}
/-! ### dict(xs) -/
def pairsK : List D → Option (List (Key × D))
  | [] => some []
  | .tup [k, v] :: ds => match keyD k with
    | some ks => (pairsK ds).map (fun r => (ks, v) :: r)
    | none => none
  | _ => none
def mergeD {κ : Type} [DecidableEq κ] (kvs more : List (κ × D)) : List (κ × D) := more.foldl (fun acc kv => putD acc kv.1 kv.2) kvs
/-- the items of a list -/
def lstD (M : Mem) (d : D) : Option (List D) := match res M d with
  | .lst l => some l
  | _ => none
theorem lst_V {K : PySem.W.Frag} {ph : Ph} {S : Hp} {r : Env} {M : Mem} {σ : St} {H : Hp} {v : V} {d : D} {l : List D} (hs : Sat K ph S r M σ H) (q : Rep K ph S v d) (e : lstD M d = some l) : ∃ a xs, v = .ref a ∧ H a = some (.lst xs) ∧ RepAll K ph S xs l := by
  unfold lstD at e
  split at e
  · rename_i l' e1
    cases e
    exact res_lst hs q e1
  · cases e
theorem pairsK_rep {K : PySem.W.Frag} {ph : Ph} {S H : Hp} (sub : Same S H) : ∀ {ds : List D} {vs : List V} {kvs : List (Key × D)}, RepAll K ph S vs ds → pairsK ds = some kvs →
    ∃ (ps : List Addr) (ys : List (Key × V)), vs = ps.map V.ref ∧ Paired (fun p kv => SqT K H p [L2.kV kv.1, kv.2]) ps ys ∧ KR K ph S ys kvs
  | [], _, _, h, e => by cases h; cases e; exact ⟨[], [], rfl, .nil, KR.nil⟩
  | d :: ds, _, kvs, h, e => by
    unfold pairsK at e
    split at e
    · rename_i e0; cases e0
    · rename_i k v ds' e0
      cases e0
      split at e
      · rename_i ks ek
        cases er : pairsK ds with
        | none => rw [er] at e; cases e
        | some kvs' =>
          rw [er] at e
          cases e
          cases h with
          | cons h1 h2 =>
            obtain ⟨ps, ys, e1, e2, e3⟩ := pairsK_rep sub h2 er
            subst e1
            cases h1 with
            | tup t1 t2 =>
              cases t2 with
              | cons r1 t3 =>
                cases t3 with
                | cons r2 t4 =>
                  cases t4
                  cases keyD_rep r1 ek
                  exact ⟨_ :: ps, (ks, _) :: ys, rfl, .cons (t1.sq sub) e2, KR.cons r2 e3⟩
      · cases e
    · cases e
theorem KR.merge {κ : Type} [DecidableEq κ] {K : PySem.W.Frag} {ph : Ph} {S : Hp} : ∀ (more : List (κ × D)) (ms : List (κ × V)) (kvs : List (κ × D)) (ys : List (κ × V)), KR K ph S ms more → KR K ph S ys kvs →
    KR K ph S (ms.foldl (fun acc kv => putK acc kv.1 kv.2) ys) (mergeD kvs more)
  | [], [], _, _, _, h => h
  | [], _ :: _, _, _, h, _ => by cases h.1
  | _ :: _, [], _, _, h, _ => by cases h.1
  | (k, d) :: more, (k', v) :: ms, kvs, ys, h, q => by
    obtain ⟨e, r⟩ := h
    rw [List.map_cons, List.map_cons] at e r
    injection e with e1 e2
    dsimp only at e1
    subst e1
    cases r with
    | cons r1 r2 => exact KR.merge more ms _ _ ⟨e2, r2⟩ (q.put _ r1)
def gDictK : GA := fun ds M Q => match ds with
  | [d] => match lstD M d with
    | some l => match pairsK l with
      | some kvs => Q (.own M.length) (M ++ [.dK (mergeD [] kvs)])
      | none => False
    | none => False
  | _ => False
theorem Aft.ownO {K : PySem.W.Frag} {ph : Ph} {S : Hp} {r : Env} {M : Mem} {σ : St} {H : Hp} {p : Addr} {o : HO} {w : Own} {Q : DQ} (hs : Sat K ph S r M σ H) (hp : H p = none) (q : OwnR K ph S w o) (g : Q (.own M.length) (M ++ [w])) : post K ph S r σ Q (.ref p) (upd H p o) := by
  obtain ⟨x, hs', e⟩ := hs.newO hp (o := o) (w := w) q
  exact ⟨_, _, _, x, hs', _, .own e, g⟩
theorem cd_dictK (hc : X.calm = true) : CallD X (.type "dict") gDictK := CallD.of (call_dictP hc) fun σ H ph S r M vs ds Q hs q hg => by
  match ds, q, hg with
  | [d], .cons q .nil, hg =>
    unfold gDictK at hg
    dsimp only at hg
    split at hg
    · rename_i l e
      split at hg
      · rename_i kvs ek
        obtain ⟨a, xs, rfl, h1, h2⟩ := lst_V hs q e
        obtain ⟨ps, ys, rfl, e2, e3⟩ := pairsK_rep hs.sub h2 ek
        refine ⟨a, ps, ys, rfl, SqL.of h1, e2, fun p hp => Aft.ownO hs hp (w := .dK (mergeD [] kvs)) ?_ hg⟩
        have := KR.merge kvs ys [] [] e3 KR.nil
        exact ⟨_, rfl, this.1, this.2⟩
      · exact hg.elim
    · exact hg.elim
/-- the keys, all ints -/
def keyIs {α : Type} : List (Key × α) → Option (List Int)
  | [] => some []
  | (.inl i, _) :: r => (keyIs r).map (i :: ·)
  | (.inr _, _) :: _ => none
theorem keyIs_map {α : Type} : ∀ {kvs : List (Key × α)} {ns : List Int}, keyIs kvs = some ns → kvs.map (·.1) = ns.map Sum.inl
  | [], _, e => by cases e; rfl
  | (.inl i, d) :: r, ns, e => by
    unfold keyIs at e
    cases er : keyIs r with
    | none => rw [er] at e; cases e
    | some ms =>
      rw [er] at e
      cases e
      rw [List.map_cons, keyIs_map er]
      rfl
  | (.inr _, _) :: _, _, e => by cases e
/-- sorted(d), its keys ints -/
def gSortedDI : GA := fun ds M Q => match ds with
  | [d] => match dicAtK M d with
    | some kvs => match keyIs kvs with
      | some ns => ns.length < 64 ∧ ∀ ys : List Int, ys.Perm ns → ys.Pairwise (· ≤ ·) → Q (.lst (ys.map D.int)) M
      | none => False
    | none => False
  | _ => False
theorem cd_sortedDI (hc : X.calm = true) : CallD X (.builtin "sorted") gSortedDI := CallD.of (call_sortedDI hc) fun σ H ph S r M vs ds Q hs q hg => by
  match ds, q, hg with
  | [d], .cons q .nil, hg =>
    unfold gSortedDI at hg
    dsimp only at hg
    split at hg
    · rename_i kvs e
      split at hg
      · rename_i ns en
        obtain ⟨k, a, ys, rfl, rfl, _, _, _, hH, kr⟩ := dicK_rep hs q e
        obtain ⟨hl, hg⟩ := hg
        refine ⟨a, ys, ns, rfl, .inl hH, by rw [kr.1]; exact keyIs_map en, hl, fun zs p pm srt hp => ?_⟩
        exact Aft.frz hs hp fun x => ⟨_, .lst upd_same (RepAll.ints _), hg zs pm srt⟩
      · exact hg.elim
    · exact hg.elim
end
end DL
namespace DL
open PySem PySem.Spec PyProof.Rows L2
def t_l_tens_a574 : DTS :=
 (dSeq (dAsg (dC (.int 1)) (dName 1))
 (dSeq (dFor (dRngI gRng1 (dCons (dVar 0) dNil)) (dName 2) (dAsg (dOp (rBin CMul fun i j => i * j) (dC (.int 10)) (dVar 1)) (dName 1)))
 (dRet (dVar 1))))
def t_l_random_8926 (c_l_hash_d8d1 : DSp) : DTS :=
 (dSeq (dIfS (dTru (dOp (gCmpI fun i j => decide (j < i)) (dOp gIx (dVar 0) (dC (.int 0))) (dC (.int 0)))) (dSeq (dAsg (dOp (rBin CMod fun i j => i.fmod j) (dCB gInt (dCons (dOp gIx (dVar 0) (dC (.int 0))) dNil)) (dVar 1)) (dName 2))
 (dSeq (dAsg (dOp (rBin CDiv fun i j => i.fdiv j) (dOp gIx (dVar 0) (dC (.int 0))) (dVar 1)) (dSub (dVar 0) (dC (.int 0))))
 (dRet (dVar 2)))) dNext)
 (dSeq (dAsg (dC (.int 0)) (dName 2))
 (dSeq (dFor (dRngI gRng1 (dCons (dOp gAdd (dC (.int 1)) (dOp (rBin CDiv fun i j => i.fdiv j) (dBits (dVar 1)) (dC (.int 30)))) dNil)) (dName 3) (dSeq (dAsg (dOp gAdd (dOp gIx (dVar 0) (dC (.int 2))) (dC (.int 1))) (dSub (dVar 0) (dC (.int 2))))
 (dAsg (dOp gAdd (dOp (rBin CMul fun i j => i * j) (dVar 2) (dC (.int 2147483587))) (dCall 2 c_l_hash_d8d1 [] DX0 (dCons (dOp gIx (dVar 0) (dC (.int 1))) (dCons (dOp gIx (dVar 0) (dC (.int 2))) dNil)))) (dName 2))))
 (dRet (dOp (rBin CMod fun i j => i.fmod j) (dCB gInt (dCons (dVar 2) dNil)) (dVar 1))))))
def t_l_common_2228 : DTS :=
 (dSeq (dWhile (dTru (dOp gNe (dVar 1) (dC (.int 0)))) (dPar 0 1 (dCons (dVar 1) (dCons (dOp (rBin CMod fun i j => i.fmod j) (dCB gInt (dCons (dVar 0) dNil)) (dVar 1)) dNil))))
 (dRet (dCB gAbs (dCons (dVar 0) dNil))))
def t_l_is_cutting_5bf1 (c_l_common_2228 : DSp) : DTS :=
 (dSeq (dIfS (dOr (dNot (dTru (dCB gIsi (dCons (dVar 0) (dCons (dC (.val (.ty "tuple"))) dNil))))) (dTru (dOp gNe (dCB gLen (dCons (dVar 0) dNil)) (dC (.int 4))))) (dRet (dC (.bl false))) dNext)
 (dSeq (dIfS (dTru (dOp gNe (dLc false (dSeqI (dVar 0)) (dName 1) (dOr (dTru (dCB gIsi (dCons (dVar 1) (dCons (dC (.val (.ty "bool"))) dNil)))) (dNot (dTru (dCB gIsi (dCons (dVar 1) (dCons (dC (.val (.ty "int"))) dNil)))))) (dVar 1) [1]) (dLst dNil))) (dRet (dC (.bl false))) dNext)
 (dSeq (dAsg (dVar 0) (dGTup 4 (dGCons (dName 2) (dGCons (dName 3) (dGCons (dName 4) (dGCons (dName 5) dGNil))))))
 (dSeq (dIfS (dOr (dTru (dOp (gCmpI fun i j => decide (i < j)) (dVar 3) (dC (.int 1)))) (dOr (dTru (dOp (gCmpI fun i j => decide (i < j)) (dVar 4) (dC (.int 1)))) (dOr (dTru (dOp (gCmpI fun i j => decide (j ≤ i)) (dOp gAdd (dVar 4) (dVar 5)) (dVar 3))) (dNot (dTru (dChain (gCmpI fun i j => decide (i ≤ j)) (gCmpI fun i j => decide (i < j)) (dC (.int 0)) (dVar 2) (dCall 2 c_l_common_2228 [] DX0 (dCons (dVar 3) (dCons (dVar 4) dNil))))))))) (dRet (dC (.bl false))) dNext)
 (dRet (dOp gEq (dCall 2 c_l_common_2228 [] DX0 (dCons (dCall 2 c_l_common_2228 [] DX0 (dCons (dVar 2) (dCons (dVar 3) dNil))) (dCons (dCall 2 c_l_common_2228 [] DX0 (dCons (dVar 4) (dCons (dVar 5) dNil))) dNil))) (dC (.int 1))))))))
def t_l_great_7ce3 (c_l_tens_a574 : DSp) (c_l_random_8926 : DSp) (c_l_common_2228 : DSp) (c_l_is_cutting_5bf1 : DSp) (c_l_measure_919a : DSp) : DTS :=
 (dSeq (dFor (dRngI gRng1 (dCons (dC (.int 12)) dNil)) (dName 2) (dSeq (dPar 3 4 (dCons (dCall 1 c_l_tens_a574 [] DX0 (dCons (dCall 2 c_l_random_8926 [] DX0 (dCons (dVar 0) (dCons (dOp gAdd (dVar 1) (dC (.int 1))) dNil))) dNil)) (dCons (dOp gIx (dLst (dCons (dC (.int 1)) (dCons (dC (.int 1)) (dCons (dC (.int 2)) (dCons (dC (.int 3)) (dCons (dC (.int 6)) (dCons (dC (.int 12)) dNil))))))) (dCall 2 c_l_random_8926 [] DX0 (dCons (dVar 0) (dCons (dC (.int 6)) dNil)))) dNil)))
 (dSeq (dPar 5 6 (dCons (dOp (rBin CMul fun i j => i * j) (dVar 4) (dOp gAdd (dC (.int 1)) (dCall 2 c_l_random_8926 [] DX0 (dCons (dVar 0) (dCons (dVar 3) dNil))))) (dCons (dOp (rBin (fun _ _ => True) fun i j => i - j) (dCall 2 c_l_random_8926 [] DX0 (dCons (dVar 0) (dCons (dOp (rBin CMul fun i j => i * j) (dC (.int 2)) (dVar 3)) dNil))) (dVar 3)) dNil)))
 (dSeq (dAsg (dOp (rBin CMul fun i j => i * j) (dVar 4) (dOp gAdd (dOp gAdd (dOp (rBin CDiv fun i j => i.fdiv j) (dCB gMax (dCons (dOp gAdd (dVar 5) (dVar 6)) (dCons (dC (.int 0)) dNil))) (dVar 4)) (dC (.int 1))) (dCall 2 c_l_random_8926 [] DX0 (dCons (dVar 0) (dCons (dVar 3) dNil))))) (dName 7))
 (dSeq (dAsg (dTup (dCons (dCall 2 c_l_random_8926 [] DX0 (dCons (dVar 0) (dCons (dCall 2 c_l_common_2228 [] DX0 (dCons (dVar 7) (dCons (dVar 5) dNil))) dNil))) (dCons (dVar 7) (dCons (dVar 5) (dCons (dVar 6) dNil))))) (dName 8))
 (dIfS (dAnd (dTru (dCall 1 c_l_is_cutting_5bf1 [] DX0 (dCons (dVar 8) dNil))) (dTru (dOp (gCmpI fun i j => decide (j < i)) (dCall 1 c_l_measure_919a [] DX0 (dCons (dVar 8) dNil)) (dC (.int 40))))) (dRet (dVar 8)) dNext))))))
 (dRet (dTup (dCons (dC (.int 0)) (dCons (dOp gAdd (dCall 1 c_l_tens_a574 [] DX0 (dCons (dVar 1) dNil)) (dC (.int 2))) (dCons (dC (.int 1)) (dCons (dC (.int 1)) dNil)))))))
def t_l_sides_697d : DTS :=
 (dSeq (dAsg (dTup (dCons (dVar 0) (dCons (dVar 1) (dCons (dC (.int 1)) (dCons (dC (.int 0)) (dCons (dC (.int 0)) (dCons (dC (.int 1)) dNil))))))) (dGTup 6 (dGCons (dName 2) (dGCons (dName 3) (dGCons (dName 4) (dGCons (dName 5) (dGCons (dName 6) (dGCons (dName 7) dGNil))))))))
 (dSeq (dWhile (dTru (dOp gNe (dVar 3) (dC (.int 0)))) (dSeq (dAsg (dOp (rBin CDiv fun i j => i.fdiv j) (dVar 2) (dVar 3)) (dName 8))
 (dSeq (dPar 2 3 (dCons (dVar 3) (dCons (dOp (rBin (fun _ _ => True) fun i j => i - j) (dVar 2) (dOp (rBin CMul fun i j => i * j) (dVar 8) (dVar 3))) dNil)))
 (dSeq (dPar 4 5 (dCons (dVar 5) (dCons (dOp (rBin (fun _ _ => True) fun i j => i - j) (dVar 4) (dOp (rBin CMul fun i j => i * j) (dVar 8) (dVar 5))) dNil)))
 (dPar 6 7 (dCons (dVar 7) (dCons (dOp (rBin (fun _ _ => True) fun i j => i - j) (dVar 6) (dOp (rBin CMul fun i j => i * j) (dVar 8) (dVar 7))) dNil)))))))
 (dRet (dTup (dCons (dVar 2) (dCons (dVar 4) (dCons (dVar 6) dNil)))))))
def t_l_done_d2e5 (c_l_sides_697d : DSp) (c_l_common_2228 : DSp) : DTS :=
 (dSeq (dAsg (dVar 0) (dGTup 4 (dGCons (dName 2) (dGCons (dName 3) (dGCons (dName 4) (dGCons (dName 5) dGNil))))))
 (dSeq (dAsg (dVar 1) (dGTup 2 (dGCons (dName 6) (dGCons (dName 7) dGNil))))
 (dSeq (dAsg (dCall 2 c_l_sides_697d [] DX0 (dCons (dVar 6) (dCons (dVar 7) dNil))) (dGTup 3 (dGCons (dName 8) (dGCons (dName 9) (dGCons (dName 10) dGNil)))))
 (dSeq (dAsg (dTup (dCons (dOp gAdd (dOp (rBin CMul fun i j => i * j) (dVar 6) (dVar 3)) (dOp (rBin CMul fun i j => i * j) (dVar 7) (dVar 2))) (dCons (dOp (rBin CMul fun i j => i * j) (dVar 7) (dVar 4)) (dCons (dOp gAdd (dOp gAdd (dOp (rBin (fun _ _ => True) fun i j => i - j) (dOp (rBin CMul fun i j => i * j) (dVar 9) (dVar 2)) (dOp (rBin CMul fun i j => i * j) (dVar 10) (dVar 3))) (dVar 5)) (dOp (rBin CMul fun i j => i * j) (dVar 7) (dVar 4))) (dCons (dOp (rBin CMul fun i j => i * j) (dVar 9) (dVar 4)) dNil))))) (dGTup 4 (dGCons (dName 11) (dGCons (dName 12) (dGCons (dName 13) (dGCons (dName 14) dGNil))))))
 (dSeq (dAsg (dCall 2 c_l_sides_697d [] DX0 (dCons (dVar 11) (dCons (dVar 12) dNil))) (dGTup 3 (dGCons (dName 15) (dGCons (dName 16) (dGCons (dName 17) dGNil)))))
 (dSeq (dAsg (dOp (rBin CDiv fun i j => i.fdiv j) (dOp (rBin (fun _ _ => True) fun i j => i - j) (dOp (rBin CMul fun i j => i * j) (dVar 11) (dVar 14)) (dOp (rBin CMul fun i j => i * j) (dVar 12) (dVar 13))) (dVar 15)) (dName 18))
 (dRet (dTup (dCons (dOp (rBin CMod fun i j => i.fmod j) (dCB gInt (dCons (dNeg (dOp gAdd (dOp (rBin CMul fun i j => i * j) (dVar 16) (dVar 13)) (dOp (rBin CMul fun i j => i * j) (dVar 17) (dVar 14)))) dNil)) (dCall 2 c_l_common_2228 [] DX0 (dCons (dVar 18) (dCons (dVar 15) dNil)))) (dCons (dVar 18) (dCons (dVar 15) (dCons (dOp (rBin (fun _ _ => True) fun i j => i - j) (dNeg (dVar 5)) (dOp (rBin CMul fun i j => i * j) (dOp (rBin CMul fun i j => i * j) (dC (.int 2)) (dVar 7)) (dVar 4))) dNil))))))))))))
def t_l_led_9b7a (c_l_done_d2e5 : DSp) : DTS :=
 (dSeq (dAsg (dVar 0) (dName 2))
 (dSeq (dFor (dSeqI (dVar 1)) (dName 3) (dAsg (dCall 2 c_l_done_d2e5 [] DX0 (dCons (dVar 2) (dCons (dVar 3) dNil))) (dName 2)))
 (dRet (dVar 2))))
def t_l_some_deed_eb4d (c_l_random_8926 : DSp) (c_l_tens_a574 : DSp) (c_l_common_2228 : DSp) : DTS :=
 (dSeq (dAsg (dVar 1) (dGTup 4 (dGCons (dName 2) (dGCons (dName 3) (dGCons (dName 4) (dGCons (dName 5) dGNil))))))
 (dSeq (dPar 6 7 (dCons (dOp gAdd (dC (.int 1)) (dCall 2 c_l_random_8926 [] DX0 (dCons (dVar 0) (dCons (dCall 1 c_l_tens_a574 [] DX0 (dCons (dCall 2 c_l_random_8926 [] DX0 (dCons (dVar 0) (dCons (dC (.int 7)) dNil))) dNil)) dNil)))) (dCons (dOp (rBin CDiv fun i j => i.fdiv j) (dVar 4) (dCall 2 c_l_common_2228 [] DX0 (dCons (dVar 3) (dCons (dVar 4) dNil)))) dNil)))
 (dSeq (dIfS (dTru (dOp (gCmpI fun i j => decide (i ≤ j)) (dOp (rBin (fun _ _ => True) fun i j => i - j) (dOp (rBin (fun _ _ => True) fun i j => i - j) (dVar 3) (dOp (rBin CMul fun i j => i * j) (dVar 6) (dVar 5))) (dOp (rBin CMul fun i j => i * j) (dOp (rBin CMul fun i j => i * j) (dVar 6) (dVar 6)) (dVar 4))) (dC (.int 0)))) (dAsg (dOp gAdd (dC (.int 1)) (dCall 2 c_l_random_8926 [] DX0 (dCons (dVar 0) (dCons (dC (.int 2)) dNil)))) (dName 6)) dNext)
 (dSeq (dAsg (dIf (dTru (dOp (gCmpI fun i j => decide (j < i)) (dOp (rBin (fun _ _ => True) fun i j => i - j) (dOp (rBin (fun _ _ => True) fun i j => i - j) (dVar 3) (dOp (rBin CMul fun i j => i * j) (dVar 6) (dVar 5))) (dOp (rBin CMul fun i j => i * j) (dOp (rBin CMul fun i j => i * j) (dVar 6) (dVar 6)) (dVar 4))) (dC (.int 0)))) (dVar 6) (dC (.int 1))) (dName 6))
 (dSeq (dAsg (dCall 2 c_l_random_8926 [] DX0 (dCons (dVar 0) (dCons (dOp (rBin CMul fun i j => i * j) (dVar 6) (dVar 7)) dNil))) (dName 8))
 (dSeq (dFor (dRngI gRng1 (dCons (dC (.int 60)) dNil)) (dName 9) (dAsg (dIf (dTru (dOp gEq (dCall 2 c_l_common_2228 [] DX0 (dCons (dVar 8) (dCons (dVar 6) dNil))) (dC (.int 1)))) (dVar 8) (dOp (rBin CMod fun i j => i.fmod j) (dCB gInt (dCons (dOp gAdd (dVar 8) (dC (.int 1))) dNil)) (dOp (rBin CMul fun i j => i * j) (dVar 6) (dVar 7)))) (dName 8)))
 (dRet (dIf (dTru (dOp gEq (dCall 2 c_l_common_2228 [] DX0 (dCons (dVar 8) (dCons (dVar 6) dNil))) (dC (.int 1)))) (dTup (dCons (dVar 8) (dCons (dVar 6) dNil))) (dTup (dCons (dC (.int 0)) (dCons (dC (.int 1)) dNil)))))))))))
def t_l_some_word_3bfd (c_l_random_8926 : DSp) (c_l_some_deed_eb4d : DSp) (c_l_done_d2e5 : DSp) : DTS :=
 (dSeq (dPar 3 4 (dCons (dOwn dNil) (dCons (dVar 1) dNil)))
 (dSeq (dFor (dRngI gRng1 (dCons (dCall 2 c_l_random_8926 [] DX0 (dCons (dVar 0) (dCons (dOp gAdd (dVar 2) (dC (.int 1))) dNil))) dNil)) (dName 5) (dSeq (dDrop (dMet gAppend (dVar 3) (dCons (dCall 2 c_l_some_deed_eb4d [] DX0 (dCons (dVar 0) (dCons (dVar 4) dNil))) dNil)))
 (dAsg (dCall 2 c_l_done_d2e5 [] DX0 (dCons (dVar 4) (dCons (dOp gIx (dVar 3) (dNeg (dC (.int 1)))) dNil))) (dName 4))))
 (dRet (dFrz (dVar 3)))))
def t_l_signed_630a : DTS :=
 (dRet (dAndV (dOp gEq (dOp (rBin CMod fun i j => i.fmod j) (dCB gInt (dCons (dVar 0) dNil)) (dC (.int 8))) (dC (.int 1))) (dOp (gCmpI fun i j => decide (j < i)) (dVar 0) (dC (.int 9)))))
def t_l_turn_a0b1 : DTS :=
 (dSeq (dAsg (dVar 0) (dGTup 4 (dGCons (dName 1) (dGCons (dName 2) (dGCons (dName 3) (dGCons (dName 4) dGNil))))))
 (dRet (dOp (rBin CMul fun i j => i * j) (dOp gAdd (dVar 3) (dC (.int 1))) (dOp gAdd (dOp gAdd (dVar 1) (dVar 2)) (dOp (rBin CMul fun i j => i * j) (dVar 1) (dVar 2))))))
def t_l_cuttings_78a4 (c_l_common_2228 : DSp) (c_l_is_cutting_5bf1 : DSp) : DTS :=
 (dSeq (dAsg (dLst dNil) (dName 1))
 (dSeq (dFor (dRngI gRng2 (dCons (dNeg (dC (.int 60))) (dCons (dC (.int 61)) dNil))) (dName 2) (dSeq (dAsg (dOp (rBin (fun _ _ => True) fun i j => i - j) (dVar 0) (dOp (rBin CMul fun i j => i * j) (dVar 2) (dVar 2))) (dName 3))
 (dSeq (dAsg (dOp (rBin CDiv fun i j => i.fdiv j) (dVar 3) (dC (.int 4))) (dName 4))
 (dFor (dRngI gRng2 (dCons (dC (.int 1)) (dCons (dOp gAdd (dVar 4) (dC (.int 1))) dNil))) (dName 5) (dIfS (dAnd (dTru (dOp gEq (dOp (rBin CMod fun i j => i.fmod j) (dCB gInt (dCons (dVar 3) dNil)) (dC (.int 4))) (dC (.int 0)))) (dTru (dOp gEq (dOp (rBin CMod fun i j => i.fmod j) (dCB gInt (dCons (dVar 4) dNil)) (dVar 5)) (dC (.int 0))))) (dAsg (dOp gAdd (dVar 1) (dLc false (dRngI gRng1 (dCons (dCall 2 c_l_common_2228 [] DX0 (dCons (dOp (rBin CDiv fun i j => i.fdiv j) (dVar 4) (dVar 5)) (dCons (dVar 5) dNil))) dNil)) (dName 6) dYes (dTup (dCons (dVar 6) (dCons (dOp (rBin CDiv fun i j => i.fdiv j) (dVar 4) (dVar 5)) (dCons (dVar 5) (dCons (dVar 2) dNil))))) [6])) (dName 1)) dNext)))))
 (dRet (dCB (gSorted false) (dCons (dLc false (dSeqI (dVar 1)) (dName 7) (dTru (dCall 1 c_l_is_cutting_5bf1 [] DX0 (dCons (dVar 7) dNil))) (dVar 7) [7]) dNil)))))
def t_l_some_measure_bbc9 (c_l_random_8926 : DSp) : DTS :=
 (dSeq (dIfS (dTru (dOp gEq (dCall 2 c_l_random_8926 [] DX0 (dCons (dVar 0) (dCons (dC (.int 2)) dNil))) (dC (.int 0)))) (dRet (dOp gAdd (dC (.int 17)) (dOp (rBin CMul fun i j => i * j) (dC (.int 8)) (dCall 2 c_l_random_8926 [] DX0 (dCons (dVar 0) (dCons (dCB gMax (dCons (dOp (rBin CDiv fun i j => i.fdiv j) (dOp (rBin (fun _ _ => True) fun i j => i - j) (dVar 1) (dC (.int 9))) (dC (.int 8))) (dCons (dC (.int 1)) dNil))) dNil)))))) dNext)
 (dSeq (dAsg (dOp gAdd (dC (.int 5)) (dCall 2 c_l_random_8926 [] DX0 (dCons (dVar 0) (dCons (dOp (rBin (fun _ _ => True) fun i j => i - j) (dVar 1) (dC (.int 8))) dNil)))) (dName 2))
 (dRet (dOp gAdd (dVar 2) (dOp gIx (dLst (dCons (dC (.int 0)) (dCons (dC (.int 0)) (dCons (dC (.int 2)) (dCons (dC (.int 1)) dNil))))) (dOp (rBin CMod fun i j => i.fmod j) (dCB gInt (dCons (dVar 2) dNil)) (dC (.int 4))))))))
def t_l_deeds_d0dc (c_l_common_2228 : DSp) : DTS :=
 (dSeq (dAsg (dVar 0) (dGTup 4 (dGCons (dName 1) (dGCons (dName 2) (dGCons (dName 3) (dGCons (dName 4) dGNil))))))
 (dSeq (dPar 5 6 (dCons (dLst dNil) (dCons (dOp (rBin CDiv fun i j => i.fdiv j) (dVar 3) (dCall 2 c_l_common_2228 [] DX0 (dCons (dVar 2) (dCons (dVar 3) dNil)))) dNil)))
 (dSeq (dFor (dRngI gRng2 (dCons (dC (.int 1)) (dCons (dC (.int 400)) dNil))) (dName 7) (dIfS (dTru (dOp (gCmpI fun i j => decide (j < i)) (dOp (rBin (fun _ _ => True) fun i j => i - j) (dOp (rBin (fun _ _ => True) fun i j => i - j) (dVar 2) (dOp (rBin CMul fun i j => i * j) (dVar 7) (dVar 4))) (dOp (rBin CMul fun i j => i * j) (dOp (rBin CMul fun i j => i * j) (dVar 7) (dVar 7)) (dVar 3))) (dC (.int 0)))) (dAsg (dOp gAdd (dVar 5) (dLc false (dRngI gRng1 (dCons (dOp (rBin CMul fun i j => i * j) (dVar 7) (dVar 6)) dNil)) (dName 8) (dTru (dOp gEq (dCall 2 c_l_common_2228 [] DX0 (dCons (dVar 8) (dCons (dVar 7) dNil))) (dC (.int 1)))) (dTup (dCons (dVar 8) (dCons (dVar 7) dNil))) [8])) (dName 5)) dNext))
 (dRet (dCB (gSorted false) (dCons (dVar 5) dNil))))))
end DL
namespace DL
open PySem PySem.Spec PyProof.Rows L2
def t_l_far_right_6012 (c_l_random_8926 : DSp) (c_l_turn_a0b1 : DSp) (c_l_led_9b7a : DSp) (c_l_some_word_3bfd : DSp) (c_sign : DSp) : DTS :=
 (dSeq (dAsg (dTup (dCons (dOp gAdd (dOp (rBin CMul fun i j => i * j) (dC (.int 2)) (dCall 2 c_l_random_8926 [] DX0 (dCons (dVar 0) (dCons (dOp gIx (dLst (dCons (dC (.int 10)) (dCons (dC (.int 1000)) (dCons (dC (.int 49998)) dNil)))) (dCall 2 c_l_random_8926 [] DX0 (dCons (dVar 0) (dCons (dC (.int 3)) dNil)))) dNil)))) (dC (.int 5))) (dCons (dOp gAdd (dC (.int 1)) (dOp (rBin CMul fun i j => i * j) (dC (.int 8)) (dCall 2 c_l_random_8926 [] DX0 (dCons (dVar 0) (dCons (dC (.int 12)) dNil))))) dNil))) (dGTup 2 (dGCons (dName 1) (dGCons (dName 2) dGNil))))
 (dSeq (dAsg (dCB gMaxL (dCons (dLc false (dRngI gRng3 (dCons (dC (.int 1)) (dCons (dC (.int 10)) (dCons (dC (.int 2)) dNil)))) (dName 4) (dTru (dOp gEq (dOp (rBin CMod fun i j => i.fmod j) (dCB gInt (dCons (dVar 2) dNil)) (dOp (rBin CMul fun i j => i * j) (dVar 4) (dVar 4))) (dC (.int 0)))) (dVar 4) [4]) dNil)) (dName 3))
 (dSeq (dAsg (dTup (dCons (dC (.int 0)) (dCons (dOp (rBin CDiv fun i j => i.fdiv j) (dOp (rBin (fun _ _ => True) fun i j => i - j) (dOp (rBin CMul fun i j => i * j) (dOp (rBin CMul fun i j => i * j) (dVar 1) (dVar 1)) (dVar 2)) (dC (.int 1))) (dC (.int 4))) (dCons (dC (.int 1)) (dCons (dC (.int 1)) dNil))))) (dName 5))
 (dSeq (dAsg (dOp (rBin CMod fun i j => i.fmod j) (dCB gInt (dCons (dOp gAdd (dOp (rBin CDiv fun i j => i.fdiv j) (dOp (rBin (fun _ _ => True) fun i j => i - j) (dC (.int 1)) (dOp (rBin CMul fun i j => i * j) (dVar 1) (dVar 3))) (dC (.int 2))) (dCall 1 c_l_turn_a0b1 [] DX0 (dCons (dVar 5) dNil))) dNil)) (dC (.int 2))) (dName 6))
 (dSeq (dAsg (dCall 2 c_l_led_9b7a [] DX0 (dCons (dVar 5) (dCons (dCall 3 c_l_some_word_3bfd [] DX0 (dCons (dVar 0) (dCons (dVar 5) (dCons (dC (.int 4)) dNil)))) dNil))) (dName 7))
 (dRet (dOp gEq (dCB gRepr (dCons (dLst (dCons (dCall 1 c_sign [] DX0 (dCons (dVar 5) dNil)) (dCons (dCall 1 c_sign [] DX0 (dCons (dVar 7) dNil)) dNil))) dNil)) (dCB gRepr (dCons (dLst (dCons (dVar 6) (dCons (dVar 6) dNil))) dNil)))))))))
def t_l_sign_3b1d (c_l_measure_919a : DSp) (c_l_signed_630a : DSp) (c_l_turn_a0b1 : DSp) : DTS :=
 (dSeq (dPar 1 2 (dCons (dCall 1 c_l_measure_919a [] DX0 (dCons (dVar 0) dNil)) (dCons (dC (.int 1)) dNil)))
 (dSeq (dIfS (dNot (dTru (dCall 1 c_l_signed_630a [] DX0 (dCons (dVar 1) dNil)))) (dRet (dC .non)) dNext)
 (dSeq (dFor (dRngI gRng3 (dCons (dC (.int 1)) (dCons (dC (.int 1001)) (dCons (dC (.int 2)) dNil)))) (dName 3) (dIfS (dAnd (dTru (dOp (gCmpI fun i j => decide (i ≤ j)) (dOp (rBin CMul fun i j => i * j) (dVar 3) (dVar 3)) (dVar 1))) (dTru (dOp gEq (dOp (rBin CMod fun i j => i.fmod j) (dCB gInt (dCons (dVar 1) dNil)) (dOp (rBin CMul fun i j => i * j) (dVar 3) (dVar 3))) (dC (.int 0))))) (dAsg (dVar 3) (dName 2)) dNext))
 (dRet (dOp (rBin CMod fun i j => i.fmod j) (dCB gInt (dCons (dOp gAdd (dOp (rBin CDiv fun i j => i.fdiv j) (dOp (rBin (fun _ _ => True) fun i j => i - j) (dOp gIx (dVar 0) (dC (.int 3))) (dVar 2)) (dC (.int 2))) (dCall 1 c_l_turn_a0b1 [] DX0 (dCons (dVar 0) dNil))) dNil)) (dC (.int 2)))))))
def t_l_great_right_fd0d (c_l_great_7ce3 : DSp) (c_l_led_9b7a : DSp) (c_l_some_word_3bfd : DSp) (c_l_signed_630a : DSp) (c_l_measure_919a : DSp) (c_sign : DSp) : DTS :=
 (dSeq (dAsg (dCall 2 c_l_great_7ce3 [] DX0 (dCons (dVar 0) (dCons (dC (.int 4)) dNil))) (dName 1))
 (dSeq (dAsg (dCall 2 c_l_led_9b7a [] DX0 (dCons (dVar 1) (dCons (dCall 3 c_l_some_word_3bfd [] DX0 (dCons (dVar 0) (dCons (dVar 1) (dCons (dC (.int 6)) dNil)))) dNil))) (dName 2))
 (dSeq (dIfS (dNot (dTru (dCall 1 c_l_signed_630a [] DX0 (dCons (dCall 1 c_l_measure_919a [] DX0 (dCons (dVar 1) dNil)) dNil)))) (dRet (dAndV (dOp (gIs false) (dCall 1 c_sign [] DX0 (dCons (dVar 1) dNil)) (dC .non)) (dOp (gIs false) (dCall 1 c_sign [] DX0 (dCons (dVar 2) dNil)) (dC .non)))) dNext)
 (dRet (dAndV (dOp (gIn false) (dCB gRepr (dCons (dCall 1 c_sign [] DX0 (dCons (dVar 1) dNil)) dNil)) (dLst (dCons (dC (.str (PySem.Str.ofString "0"))) (dCons (dC (.str (PySem.Str.ofString "1"))) dNil)))) (dOp gEq (dCall 1 c_sign [] DX0 (dCons (dVar 1) dNil)) (dCall 1 c_sign [] DX0 (dCons (dVar 2) dNil))))))))
def t_l_right_605e (c_l_random_8926 : DSp) (c_l_cuttings_78a4 : DSp) (c_l_sign_3b1d : DSp) (c_sign : DSp) (c_l_deeds_d0dc : DSp) (c_l_done_d2e5 : DSp) (c_l_some_measure_bbc9 : DSp) (c_l_great_right_fd0d : DSp) : DTS :=
 (dSeq (dAsg (dOp gAdd (dC (.int 17)) (dOp (rBin CMul fun i j => i * j) (dC (.int 8)) (dCall 2 c_l_random_8926 [] DX0 (dCons (dVar 0) (dCons (dC (.int 49)) dNil))))) (dName 1))
 (dSeq (dAsg (dCall 1 c_l_cuttings_78a4 [] DX0 (dCons (dVar 1) dNil)) (dName 2))
 (dSeq (dAsg (dLc false (dSeqI (dVar 2)) (dName 4) dYes (dCall 1 c_l_sign_3b1d [] DX0 (dCons (dVar 4) dNil)) [4]) (dName 3))
 (dSeq (dIfS (dOr (dTru (dOp gNe (dCB gRepr (dCons (dLc false (dSeqI (dVar 2)) (dName 4) dYes (dCall 1 c_sign [] DX0 (dCons (dVar 4) dNil)) [4]) dNil)) (dCB gRepr (dCons (dVar 3) dNil)))) (dTru (dOp gNe (dCB gSortedDI (dCons (dCB gDictK (dCons (dLc false (dSeqI (dVar 3)) (dName 5) dYes (dTup (dCons (dVar 5) (dCons (dC (.bl true)) dNil))) [5]) dNil)) dNil)) (dLst (dCons (dC (.int 0)) (dCons (dC (.int 1)) dNil)))))) (dRet (dC (.bl false))) dNext)
 (dSeq (dFor (dRngI gRng1 (dCons (dC (.int 3)) dNil)) (dName 6) (dSeq (dAsg (dCall 2 c_l_random_8926 [] DX0 (dCons (dVar 0) (dCons (dCB gLen (dCons (dVar 2) dNil)) dNil))) (dName 7))
 (dSeq (dFor (dSeqI (dSl (gSl false) (dCall 1 c_l_deeds_d0dc [] DX0 (dCons (dOp gIx (dVar 2) (dVar 7)) dNil)) dNoPart (dPart (dC (.int 40))))) (dName 8) (dIfS (dTru (dOp gNe (dCall 1 c_sign [] DX0 (dCons (dCall 2 c_l_done_d2e5 [] DX0 (dCons (dOp gIx (dVar 2) (dVar 7)) (dCons (dVar 8) dNil))) dNil)) (dOp gIx (dVar 3) (dVar 7)))) (dRet (dC (.bl false))) dNext))
 (dIfS (dTru (dOp gNe (dCallK 1 1 c_sign [0] DX0 (dCons (dOp gIx (dVar 2) (dVar 7)) dNil)) (dOp gIx (dVar 3) (dVar 7)))) (dRet (dC (.bl false))) dNext))))
 (dSeq (dAsg (dCall 1 c_l_cuttings_78a4 [] DX0 (dCons (dCall 2 c_l_some_measure_bbc9 [] DX0 (dCons (dVar 0) (dCons (dC (.int 120)) dNil))) dNil)) (dName 9))
 (dSeq (dAsg (dOp gIx (dVar 9) (dCall 2 c_l_random_8926 [] DX0 (dCons (dVar 0) (dCons (dCB gLen (dCons (dVar 9) dNil)) dNil)))) (dName 4))
 (dRet (dAndV (dOp gEq (dCB gRepr (dCons (dCall 1 c_sign [] DX0 (dCons (dVar 4) dNil)) dNil)) (dCB gRepr (dCons (dCall 1 c_l_sign_3b1d [] DX0 (dCons (dVar 4) dNil)) dNil))) (dCall 1 c_l_great_right_fd0d [] DX0 (dCons (dVar 0) dNil)))))))))))
def t_l_squares_right_3d47 (c_l_random_8926 : DSp) (c_l_is_cutting_5bf1 : DSp) (c_l_measure_919a : DSp) (c_sign : DSp) : DTS :=
 (dSeq (dPar 1 2 (dCons (dOp gAdd (dC (.int 3)) (dCall 2 c_l_random_8926 [] DX0 (dCons (dVar 0) (dCons (dC (.int 400)) dNil)))) (dCons (dOp gAdd (dOp (rBin CMul fun i j => i * j) (dC (.int 2)) (dCall 2 c_l_random_8926 [] DX0 (dCons (dVar 0) (dCons (dC (.int 40)) dNil)))) (dC (.int 1))) dNil)))
 (dSeq (dAsg (dOp gAdd (dOp (rBin CMul fun i j => i * j) (dC (.int 2)) (dVar 1)) (dVar 2)) (dName 3))
 (dSeq (dAsg (dTup (dCons (dC (.int 0)) (dCons (dOp (rBin CMul fun i j => i * j) (dVar 1) (dOp gAdd (dVar 1) (dVar 2))) (dCons (dC (.int 1)) (dCons (dVar 2) dNil))))) (dName 4))
 (dSeq (dIfS (dNot (dTru (dCall 1 c_l_is_cutting_5bf1 [] DX0 (dCons (dVar 4) dNil)))) (dRet (dC (.bl true))) dNext)
 (dRet (dAndV (dOp gEq (dCall 1 c_l_measure_919a [] DX0 (dCons (dVar 4) dNil)) (dOp (rBin CMul fun i j => i * j) (dVar 3) (dVar 3))) (dOp gEq (dCB gRepr (dCons (dCall 1 c_sign [] DX0 (dCons (dVar 4) dNil)) dNil)) (dCB gRepr (dCons (dIf (dTru (dOp gEq (dVar 3) (dC (.int 3)))) (dC .non) (dOp (rBin CMod fun i j => i.fmod j) (dCB gInt (dCons (dOp (rBin CDiv fun i j => i.fdiv j) (dOp (rBin (fun _ _ => True) fun i j => i - j) (dVar 2) (dVar 3)) (dC (.int 2))) dNil)) (dC (.int 2)))) dNil)))))))))
def t_l_law_f635 (c_l_far_right_6012 : DSp) (c_l_generator_b324 : DSp) (c_l_right_605e : DSp) (c_l_squares_right_3d47 : DSp) (c_sign : DSp) (c_l_sign_3b1d : DSp) : DTS :=
 (dSeq (dIfS (dNot (dTru (dCall 1 c_l_far_right_6012 [] DX0 (dCons (dCall 2 c_l_generator_b324 [] DX0 (dCons (dVar 0) (dCons (dC (.int 2)) dNil))) dNil)))) (dRet (dC (.bl false))) dNext)
 (dSeq (dIfS (dOr (dNot (dTru (dCall 1 c_l_right_605e [] DX0 (dCons (dCall 2 c_l_generator_b324 [] DX0 (dCons (dVar 0) (dCons (dC (.int 0)) dNil))) dNil)))) (dNot (dTru (dCall 1 c_l_squares_right_3d47 [] DX0 (dCons (dCall 2 c_l_generator_b324 [] DX0 (dCons (dVar 0) (dCons (dC (.int 1)) dNil))) dNil))))) (dRet (dC (.bl false))) dNext)
 (dSeq (dAsg (dLst (dCons (dTup (dCons (dC (.int 0)) (dCons (dC (.int 1)) (dCons (dC (.int 2)) (dCons (dNeg (dC (.int 3))) dNil))))) (dCons (dTup (dCons (dC (.int 0)) (dCons (dC (.int 2)) (dCons (dC (.int 1)) (dCons (dNeg (dC (.int 3))) dNil))))) (dCons (dTup (dCons (dC (.int 0)) (dCons (dC (.int 2)) (dCons (dC (.int 1)) (dCons (dNeg (dC (.int 1))) dNil))))) (dCons (dTup (dCons (dC (.int 0)) (dCons (dC (.int 1)) (dCons (dC (.int 1)) (dCons (dNeg (dC (.int 1))) dNil))))) (dCons (dTup (dCons (dC (.int 1)) (dCons (dC (.int 2)) (dCons (dC (.int 2)) (dCons (dNeg (dC (.int 1))) dNil))))) (dCons (dTup (dCons (dC (.int 0)) (dCons (dOp (rBin CPow fun i j => i ^ j.toNat) (dC (.int 10)) (dC (.int 11))) (dCons (dC (.int 1)) (dCons (dC (.int 1)) dNil))))) dNil))))))) (dName 1))
 (dRet (dAndV (dOp gEq (dLc false (dSeqI (dVar 1)) (dName 2) dYes (dCall 1 c_sign [] DX0 (dCons (dVar 2) dNil)) [2]) (dLst (dCons (dC (.int 1)) (dCons (dC (.int 0)) (dCons (dC .non) (dCons (dC .non) (dCons (dC (.int 0)) (dCons (dCall 1 c_l_sign_3b1d [] DX0 (dCons (dTup (dCons (dC (.int 0)) (dCons (dOp (rBin CPow fun i j => i ^ j.toNat) (dC (.int 10)) (dC (.int 11))) (dCons (dC (.int 1)) (dCons (dC (.int 1)) dNil))))) dNil)) dNil)))))))) (dOp gEq (dCall 1 c_sign [] DX0 (dCons (dTup (dCons (dC (.int 0)) (dCons (dC (.int 2)) (dCons (dC (.int 2)) (dCons (dNeg (dC (.int 3))) dNil))))) dNil)) (dC (.int 0))))))))
end DL
namespace C_k20
open PySem PySem.Spec PyProof.Rows L2 DL
def topS (i : Nat) : Stmt := PySem.Challenge.pw_slitsheets_k20_whole_signs_kept.main.body.getD i (.Pass ⟨0, 0, 0, 0⟩)
abbrev s_l_hash_d8d1 : Stmt := topS 19
theorem sc_l_hash_d8d1 : FnScope ["_law_seed", "_law_index", "_law_mixed"] ["_law_seed", "_law_index"] (defScope s_l_hash_d8d1) := ⟨rfl, rfl, rfl, by decide +kernel, rfl, by decide +kernel, by decide +kernel⟩
abbrev s_l_random_8926 : Stmt := topS 20
theorem sc_l_random_8926 : FnScope ["_law_generator_here", "_law_bound", "_law_drawn", "_law_turn_here"] ["_law_generator_here", "_law_bound"] (defScope s_l_random_8926) := ⟨rfl, rfl, rfl, by decide +kernel, rfl, by decide +kernel, by decide +kernel⟩
abbrev s_l_turn_a0b1 : Stmt := topS 32
theorem sc_l_turn_a0b1 : FnScope ["_law_cutting", "_law_a", "_law_b", "_law_c", "_law_e"] ["_law_cutting"] (defScope s_l_turn_a0b1) := ⟨rfl, rfl, rfl, by decide +kernel, rfl, by decide +kernel, by decide +kernel⟩
abbrev s_l_sides_697d : Stmt := topS 25
theorem sc_l_sides_697d : FnScope ["_law_one", "_law_other", "_law_low", "_law_high", "_law_first", "_law_second", "_law_third", "_law_fourth", "_law_turn_here"] ["_law_one", "_law_other"] (defScope s_l_sides_697d) := ⟨rfl, rfl, rfl, by decide +kernel, rfl, by decide +kernel, by decide +kernel⟩
abbrev s_l_common_2228 : Stmt := topS 24
theorem sc_l_common_2228 : FnScope ["_law_one", "_law_other"] ["_law_one", "_law_other"] (defScope s_l_common_2228) := ⟨rfl, rfl, rfl, by decide +kernel, rfl, by decide +kernel, by decide +kernel⟩
abbrev s_l_done_d2e5 : Stmt := topS 30
theorem sc_l_done_d2e5 : FnScope ["_law_cutting", "_law_deed", "_law_a", "_law_b", "_law_c", "_law_e", "_law_p", "_law_q", "_law_one", "_law_z", "_law_x", "_law_i", "_law_j", "_law_k", "_law_l", "_law_high", "_law_s", "_law_t", "_law_wide"] ["_law_cutting", "_law_deed"] (defScope s_l_done_d2e5) := ⟨rfl, rfl, rfl, by decide +kernel, rfl, by decide +kernel, by decide +kernel⟩
abbrev s_l_led_9b7a : Stmt := topS 31
theorem sc_l_led_9b7a : FnScope ["_law_cutting", "_law_word", "_law_found", "_law_deed"] ["_law_cutting", "_law_word"] (defScope s_l_led_9b7a) := ⟨rfl, rfl, rfl, by decide +kernel, rfl, by decide +kernel, by decide +kernel⟩
abbrev s_l_tens_a574 : Stmt := topS 23
theorem sc_l_tens_a574 : FnScope ["_law_count", "_law_found", "_law_turn_here"] ["_law_count"] (defScope s_l_tens_a574) := ⟨rfl, rfl, rfl, by decide +kernel, rfl, by decide +kernel, by decide +kernel⟩
abbrev s_l_some_deed_eb4d : Stmt := topS 37
theorem sc_l_some_deed_eb4d : FnScope ["_law_generator_here", "_law_cutting", "_law_a", "_law_b", "_law_c", "_law_e", "_law_q", "_law_rooms", "_law_p", "_law_turn_here"] ["_law_generator_here", "_law_cutting"] (defScope s_l_some_deed_eb4d) := ⟨rfl, rfl, rfl, by decide +kernel, rfl, by decide +kernel, by decide +kernel⟩
abbrev s_l_some_word_3bfd : Stmt := topS 38
theorem sc_l_some_word_3bfd : FnScope ["_law_generator_here", "_law_cutting", "_law_most", "_law_found", "_law_here", "_law_turn_here"] ["_law_generator_here", "_law_cutting", "_law_most"] (defScope s_l_some_word_3bfd) := ⟨rfl, rfl, rfl, by decide +kernel, rfl, by decide +kernel, by decide +kernel⟩
abbrev s_is_whole : Stmt := topS 4
theorem sc_is_whole : FnScope ["value"] ["value"] (defScope s_is_whole) := ⟨rfl, rfl, rfl, by decide +kernel, rfl, by decide +kernel, by decide +kernel⟩
abbrev s_common_by : Stmt := topS 6
theorem sc_common_by : FnScope ["one", "other", "low", "high"] ["one", "other"] (defScope s_common_by) := ⟨rfl, rfl, rfl, by decide +kernel, rfl, by decide +kernel, by decide +kernel⟩
abbrev s_is_cutting_by : Stmt := topS 10
theorem sc_is_cutting_by : FnScope ["value", "item", "low", "high", "side", "turn", "both"] ["value"] (defScope s_is_cutting_by) := ⟨rfl, rfl, rfl, by decide +kernel, rfl, by decide +kernel, by decide +kernel⟩
abbrev s_check_cutting : Stmt := topS 11
theorem sc_check_cutting : FnScope ["cutting"] ["cutting"] (defScope s_check_cutting) := ⟨rfl, rfl, rfl, by decide +kernel, rfl, by decide +kernel, by decide +kernel⟩
abbrev s_measure_by : Stmt := topS 12
theorem sc_measure_by : FnScope ["cutting"] ["cutting"] (defScope s_measure_by) := ⟨rfl, rfl, rfl, by decide +kernel, rfl, by decide +kernel, by decide +kernel⟩
abbrev s_is_signed : Stmt := topS 14
theorem sc_is_signed : FnScope ["measure"] ["measure"] (defScope s_is_signed) := ⟨rfl, rfl, rfl, by decide +kernel, rfl, by decide +kernel, by decide +kernel⟩
abbrev s_root_floor_by : Stmt := topS 5
theorem sc_root_floor_by : FnScope ["number", "found", "again"] ["number"] (defScope s_root_floor_by) := ⟨rfl, rfl, rfl, by decide +kernel, rfl, by decide +kernel, by decide +kernel⟩
abbrev s_square_part_by : Stmt := topS 7
theorem sc_square_part_by : FnScope ["number", "found", "left", "low", "root"] ["number"] (defScope s_square_part_by) := ⟨rfl, rfl, rfl, by decide +kernel, rfl, by decide +kernel, by decide +kernel⟩
abbrev s_factor_by : Stmt := topS 8
theorem sc_factor_by : FnScope ["measure", "found"] ["measure"] (defScope s_factor_by) := ⟨rfl, rfl, rfl, by decide +kernel, rfl, by decide +kernel, by decide +kernel⟩
abbrev s_turn_by : Stmt := topS 15
theorem sc_turn_by : FnScope ["cutting", "a", "b", "c", "e"] ["cutting"] (defScope s_turn_by) := ⟨rfl, rfl, rfl, by decide +kernel, rfl, by decide +kernel, by decide +kernel⟩
abbrev s_sign_by : Stmt := topS 16
theorem sc_sign_by : FnScope ["cutting", "measure"] ["cutting"] (defScope s_sign_by) := ⟨rfl, rfl, rfl, by decide +kernel, rfl, by decide +kernel, by decide +kernel⟩
abbrev s_sign : Stmt := topS 17
theorem sc_sign : FnScope ["cutting"] ["cutting"] (defScope s_sign) := ⟨rfl, rfl, rfl, by decide +kernel, rfl, by decide +kernel, by decide +kernel⟩
abbrev s_l_far_right_6012 : Stmt := topS 42
theorem sc_l_far_right_6012 : FnScope ["_law_generator_here", "_law_f", "_law_k", "_law_whole", "_law_side", "_law_cutting", "_law_due", "_law_other"] ["_law_generator_here"] (defScope s_l_far_right_6012) := ⟨rfl, rfl, rfl, by decide +kernel, rfl, by decide +kernel, by decide +kernel⟩
abbrev s_l_cell_cf3b : Stmt := topS 21
theorem sc_l_cell_cf3b : FnScope ["_law_script", "_law_index"] ["_law_script", "_law_index"] (defScope s_l_cell_cf3b) := ⟨rfl, rfl, rfl, by decide +kernel, rfl, by decide +kernel, by decide +kernel⟩
abbrev s_l_generator_b324 : Stmt := topS 22
theorem sc_l_generator_b324 : FnScope ["_law_script", "_law_index", "_law_seed"] ["_law_script", "_law_index"] (defScope s_l_generator_b324) := ⟨rfl, rfl, rfl, by decide +kernel, rfl, by decide +kernel, by decide +kernel⟩
abbrev s_l_is_cutting_5bf1 : Stmt := topS 27
theorem sc_l_is_cutting_5bf1 : FnScope ["_law_value", "_law_item", "_law_a", "_law_b", "_law_c", "_law_e"] ["_law_value"] (defScope s_l_is_cutting_5bf1) := ⟨rfl, rfl, rfl, by decide +kernel, rfl, by decide +kernel, by decide +kernel⟩
abbrev s_l_cuttings_78a4 : Stmt := topS 28
theorem sc_l_cuttings_78a4 : FnScope ["_law_measure_here", "_law_found", "_law_e", "_law_left", "_law_many", "_law_c", "_law_a", "_law_cutting"] ["_law_measure_here"] (defScope s_l_cuttings_78a4) := ⟨rfl, rfl, rfl, by decide +kernel, rfl, by decide +kernel, by decide +kernel⟩
abbrev s_l_measure_919a : Stmt := topS 26
theorem sc_l_measure_919a : FnScope ["_law_cutting"] ["_law_cutting"] (defScope s_l_measure_919a) := ⟨rfl, rfl, rfl, by decide +kernel, rfl, by decide +kernel, by decide +kernel⟩
abbrev s_l_signed_630a : Stmt := topS 33
theorem sc_l_signed_630a : FnScope ["_law_measure_here"] ["_law_measure_here"] (defScope s_l_signed_630a) := ⟨rfl, rfl, rfl, by decide +kernel, rfl, by decide +kernel, by decide +kernel⟩
abbrev s_l_sign_3b1d : Stmt := topS 34
theorem sc_l_sign_3b1d : FnScope ["_law_cutting", "_law_measure_here", "_law_found", "_law_factor"] ["_law_cutting"] (defScope s_l_sign_3b1d) := ⟨rfl, rfl, rfl, by decide +kernel, rfl, by decide +kernel, by decide +kernel⟩
abbrev s_l_deeds_d0dc : Stmt := topS 29
theorem sc_l_deeds_d0dc : FnScope ["_law_cutting", "_law_a", "_law_b", "_law_c", "_law_e", "_law_found", "_law_rooms", "_law_q", "_law_p"] ["_law_cutting"] (defScope s_l_deeds_d0dc) := ⟨rfl, rfl, rfl, by decide +kernel, rfl, by decide +kernel, by decide +kernel⟩
abbrev s_l_some_measure_bbc9 : Stmt := topS 35
theorem sc_l_some_measure_bbc9 : FnScope ["_law_generator_here", "_law_most", "_law_found"] ["_law_generator_here", "_law_most"] (defScope s_l_some_measure_bbc9) := ⟨rfl, rfl, rfl, by decide +kernel, rfl, by decide +kernel, by decide +kernel⟩
abbrev s_l_great_7ce3 : Stmt := topS 36
theorem sc_l_great_7ce3 : FnScope ["_law_generator_here", "_law_most", "_law_turn_here", "_law_many", "_law_g", "_law_c", "_law_e", "_law_b", "_law_found"] ["_law_generator_here", "_law_most"] (defScope s_l_great_7ce3) := ⟨rfl, rfl, rfl, by decide +kernel, rfl, by decide +kernel, by decide +kernel⟩
abbrev s_l_great_right_fd0d : Stmt := topS 39
theorem sc_l_great_right_fd0d : FnScope ["_law_generator_here", "_law_one", "_law_other"] ["_law_generator_here"] (defScope s_l_great_right_fd0d) := ⟨rfl, rfl, rfl, by decide +kernel, rfl, by decide +kernel, by decide +kernel⟩
abbrev s_l_right_605e : Stmt := topS 40
theorem sc_l_right_605e : FnScope ["_law_generator_here", "_law_measure_here", "_law_cuttings_here", "_law_due", "_law_cutting", "_law_told", "_law_turn_here", "_law_at", "_law_deed", "_law_other"] ["_law_generator_here"] (defScope s_l_right_605e) := ⟨rfl, rfl, rfl, by decide +kernel, rfl, by decide +kernel, by decide +kernel⟩
abbrev s_l_squares_right_3d47 : Stmt := topS 41
theorem sc_l_squares_right_3d47 : FnScope ["_law_generator_here", "_law_half", "_law_e", "_law_size", "_law_cutting"] ["_law_generator_here"] (defScope s_l_squares_right_3d47) := ⟨rfl, rfl, rfl, by decide +kernel, rfl, by decide +kernel, by decide +kernel⟩
abbrev s_l_law_f635 : Stmt := topS 43
theorem sc_l_law_f635 : FnScope ["_law_script", "_law_told", "_law_cutting"] ["_law_script"] (defScope s_l_law_f635) := ⟨rfl, rfl, rfl, by decide +kernel, rfl, by decide +kernel, by decide +kernel⟩
/-- what the top has left -/
structure Txt (K : PySem.W.Frag) (mg : Str → Option Value) (base : Heap) : Prop where
  n_abs : mg "abs" = none
  n_bool : mg "bool" = none
  n_dict : mg "dict" = none
  n_int : mg "int" = none
  n_isinstance : mg "isinstance" = none
  n_len : mg "len" = none
  n_max : mg "max" = none
  n_range : mg "range" = none
  n_repr : mg "repr" = none
  n_sorted : mg "sorted" = none
  n_sum : mg "sum" = none
  n_tuple : mg "tuple" = none
  h_l_hash_d8d1 : Here K mg "_law_hash" s_l_hash_d8d1 ["_law_seed", "_law_index"]
  h_l_random_8926 : Here K mg "_law_random" s_l_random_8926 ["_law_generator_here", "_law_bound"]
  h_l_turn_a0b1 : Here K mg "_law_turn" s_l_turn_a0b1 ["_law_cutting"]
  h_l_sides_697d : Here K mg "_law_sides" s_l_sides_697d ["_law_one", "_law_other"]
  h_l_common_2228 : Here K mg "_law_common" s_l_common_2228 ["_law_one", "_law_other"]
  h_l_done_d2e5 : Here K mg "_law_done" s_l_done_d2e5 ["_law_cutting", "_law_deed"]
  h_l_led_9b7a : Here K mg "_law_led" s_l_led_9b7a ["_law_cutting", "_law_word"]
  h_l_tens_a574 : Here K mg "_law_tens" s_l_tens_a574 ["_law_count"]
  h_l_some_deed_eb4d : Here K mg "_law_some_deed" s_l_some_deed_eb4d ["_law_generator_here", "_law_cutting"]
  h_l_some_word_3bfd : Here K mg "_law_some_word" s_l_some_word_3bfd ["_law_generator_here", "_law_cutting", "_law_most"]
  h_is_whole : Here K mg "is_whole" s_is_whole ["value"]
  h_common_by : Here K mg "common_by" s_common_by ["one", "other"]
  h_is_cutting_by : Here K mg "is_cutting_by" s_is_cutting_by ["value"]
  h_check_cutting : Here K mg "check_cutting" s_check_cutting ["cutting"]
  h_measure_by : Here K mg "measure_by" s_measure_by ["cutting"]
  h_is_signed : Here K mg "is_signed" s_is_signed ["measure"]
  h_root_floor_by : Here K mg "root_floor_by" s_root_floor_by ["number"]
  h_square_part_by : Here K mg "square_part_by" s_square_part_by ["number"]
  h_factor_by : Here K mg "factor_by" s_factor_by ["measure"]
  h_turn_by : Here K mg "turn_by" s_turn_by ["cutting"]
  h_sign_by : Here K mg "sign_by" s_sign_by ["cutting"]
  h_sign : Here K mg "sign" s_sign ["cutting"]
  h_l_far_right_6012 : Here K mg "_law_far_right" s_l_far_right_6012 ["_law_generator_here"]
  h_l_cell_cf3b : Here K mg "_law_cell" s_l_cell_cf3b ["_law_script", "_law_index"]
  h_l_generator_b324 : Here K mg "_law_generator" s_l_generator_b324 ["_law_script", "_law_index"]
  h_l_is_cutting_5bf1 : Here K mg "_law_is_cutting" s_l_is_cutting_5bf1 ["_law_value"]
  h_l_cuttings_78a4 : Here K mg "_law_cuttings" s_l_cuttings_78a4 ["_law_measure_here"]
  h_l_measure_919a : Here K mg "_law_measure" s_l_measure_919a ["_law_cutting"]
  h_l_signed_630a : Here K mg "_law_signed" s_l_signed_630a ["_law_measure_here"]
  h_l_sign_3b1d : Here K mg "_law_sign" s_l_sign_3b1d ["_law_cutting"]
  h_l_deeds_d0dc : Here K mg "_law_deeds" s_l_deeds_d0dc ["_law_cutting"]
  h_l_some_measure_bbc9 : Here K mg "_law_some_measure" s_l_some_measure_bbc9 ["_law_generator_here", "_law_most"]
  h_l_great_7ce3 : Here K mg "_law_great" s_l_great_7ce3 ["_law_generator_here", "_law_most"]
  h_l_great_right_fd0d : Here K mg "_law_great_right" s_l_great_right_fd0d ["_law_generator_here"]
  h_l_right_605e : Here K mg "_law_right" s_l_right_605e ["_law_generator_here"]
  h_l_squares_right_3d47 : Here K mg "_law_squares_right" s_l_squares_right_3d47 ["_law_generator_here"]
  h_l_law_f635 : Here K mg "law" s_l_law_f635 ["_law_script"]
section
variable {P : Program} {w : World} {K : PySem.W.Frag} {mg : Str → Option Value} {base : Heap}
theorem ok_l_hash_d8d1 {sp : DSp} (T : Txt K mg base) (hread : ∀ ds M Q, ds.length = 2 → sp ds M Q DX0 → t_l_hash_d8d1 (dEnds M Q) (startD 3 ds) M) (hX : ∀ ds M Q E, sp ds M Q E → sp ds M Q DX0 := by exact fun _ _ _ _ h => h) : Def P w K mg base CX0 1 "_law_hash" s_l_hash_d8d1 ["_law_seed", "_law_index"] sp :=
 T.h_l_hash_d8d1.ok (t := t_l_hash_d8d1) sc_l_hash_d8d1 (fun f cdv A outer s H E hr gd => (dss_cons (ds_set (i := 2) sc_l_hash_d8d1.nd (de_op opd_mod (de_ty cd_int T.n_int (da_cons (de_op opd_add (de_op opd_add (de_op opd_add (de_op opd_mulI (dv 0) de_int) (de_op opd_mulI (de_op opd_mulI de_int (dv 1)) (dv 1))) (de_op opd_mulI de_int (dv 1))) de_int) da_nil)) de_int))
 (dss_cons (ds_set (i := 2) sc_l_hash_d8d1.nd (de_op opd_mod (de_ty cd_int T.n_int (da_cons (de_op opd_add (de_op opd_add (de_op opd_mulI (dv 2) (dv 2)) (de_op opd_mulI de_int (dv 1))) de_int) da_nil)) de_int))
 (dss_one (ds_ret (de_op opd_mod (de_ty cd_int T.n_int (da_cons (de_op opd_mulI (dv 2) de_int) da_nil)) de_int)))))) hread hX
theorem ok_l_random_8926 {c_l_hash_d8d1 : DSp} {sp : DSp} (T : Txt K mg base) (D_l_hash_d8d1 : Def P w K mg base CX0 1 "_law_hash" s_l_hash_d8d1 ["_law_seed", "_law_index"] c_l_hash_d8d1) (hread : ∀ ds M Q, ds.length = 2 → sp ds M Q DX0 → t_l_random_8926 c_l_hash_d8d1 (dEnds M Q) (startD 4 ds) M) (hX : ∀ ds M Q E, sp ds M Q E → sp ds M Q DX0 := by exact fun _ _ _ _ h => h) : Def P w K mg base CX0 2 "_law_random" s_l_random_8926 ["_law_generator_here", "_law_bound"] sp :=
 T.h_l_random_8926.ok (t := t_l_random_8926 c_l_hash_d8d1) sc_l_random_8926 (fun f cdv A outer s H E hr gd => (dss_cons (ds_if (dt_cmp opd_gt (de_ix (dv 0) de_int) de_int (nomark _)) (dss_cons (ds_set (i := 2) sc_l_random_8926.nd (de_op opd_mod (de_ty cd_int T.n_int (da_cons (de_ix (dv 0) de_int) da_nil)) (dv 1)))
 (dss_cons (ds_asg (de_op opd_fdiv (de_ix (dv 0) de_int) (dv 1)) (dg_sub (dv 0) de_int))
 (dss_one (ds_ret (dv 2))))) dss_nil)
 (dss_cons (ds_set (i := 2) sc_l_random_8926.nd de_int)
 (dss_cons (ds_for rfl (di_range1 T.n_range (da_cons (de_op opd_add de_int (de_op opd_fdiv (de_bits (dv 1)) de_int)) da_nil)) (dg_name (i := 3) sc_l_random_8926.nd) (dss_cons (ds_asg (de_op opd_add (de_ix (dv 0) de_int) de_int) (dg_sub (dv 0) de_int))
 (dss_one (ds_set (i := 2) sc_l_random_8926.nd (de_op opd_add (de_op opd_mulI (dv 2) de_int) (dcall D_l_hash_d8d1 hr gd (da_cons (de_ix (dv 0) de_int) (da_cons (de_ix (dv 0) de_int) da_nil))))))))
 (dss_one (ds_ret (de_op opd_mod (de_ty cd_int T.n_int (da_cons (dv 2) da_nil)) (dv 1)))))))) hread hX
theorem ok_l_turn_a0b1 {sp : DSp} (T : Txt K mg base) (hread : ∀ ds M Q, ds.length = 1 → sp ds M Q DX0 → t_l_turn_a0b1 (dEnds M Q) (startD 5 ds) M) (hX : ∀ ds M Q E, sp ds M Q E → sp ds M Q DX0 := by exact fun _ _ _ _ h => h) : Def P w K mg base CX0 1 "_law_turn" s_l_turn_a0b1 ["_law_cutting"] sp :=
 T.h_l_turn_a0b1.ok (t := t_l_turn_a0b1) sc_l_turn_a0b1 (fun f cdv A outer s H E hr gd => (dss_cons (ds_asg (dv 0) (dg_tup rfl (dgs_cons (dg_name (i := 1) sc_l_turn_a0b1.nd) (dgs_cons (dg_name (i := 2) sc_l_turn_a0b1.nd) (dgs_cons (dg_name (i := 3) sc_l_turn_a0b1.nd) (dgs_cons (dg_name (i := 4) sc_l_turn_a0b1.nd) dgs_nil))))))
 (dss_one (ds_ret (de_op opd_mulI (de_op opd_add (dv 3) de_int) (de_op opd_add (de_op opd_add (dv 1) (dv 2)) (de_op opd_mulI (dv 1) (dv 2)))))))) hread hX
theorem ok_l_sides_697d {sp : DSp} (T : Txt K mg base) (hread : ∀ ds M Q, ds.length = 2 → sp ds M Q DX0 → t_l_sides_697d (dEnds M Q) (startD 9 ds) M) (hX : ∀ ds M Q E, sp ds M Q E → sp ds M Q DX0 := by exact fun _ _ _ _ h => h) : Def P w K mg base CX0 1 "_law_sides" s_l_sides_697d ["_law_one", "_law_other"] sp :=
 T.h_l_sides_697d.ok (t := t_l_sides_697d) sc_l_sides_697d (fun f cdv A outer s H E hr gd => (dss_cons (ds_asg (de_tup (da_cons (dv 0) (da_cons (dv 1) (da_cons de_int (da_cons de_int (da_cons de_int (da_cons de_int da_nil))))))) (dg_tup rfl (dgs_cons (dg_name (i := 2) sc_l_sides_697d.nd) (dgs_cons (dg_name (i := 3) sc_l_sides_697d.nd) (dgs_cons (dg_name (i := 4) sc_l_sides_697d.nd) (dgs_cons (dg_name (i := 5) sc_l_sides_697d.nd) (dgs_cons (dg_name (i := 6) sc_l_sides_697d.nd) (dgs_cons (dg_name (i := 7) sc_l_sides_697d.nd) dgs_nil))))))))
 (dss_cons (ds_while (dt_cmp (opd_ne (u64 hr)) (dv 3) de_int (nomark _)) (dss_cons (ds_set (i := 8) sc_l_sides_697d.nd (de_op opd_fdiv (dv 2) (dv 3)))
 (dss_cons (ds_par (i := 2) (j := 3) rfl sc_l_sides_697d.nd (da_cons (dv 3) (da_cons (de_op opd_sub (dv 2) (de_op opd_mulI (dv 8) (dv 3))) da_nil)))
 (dss_cons (ds_par (i := 4) (j := 5) rfl sc_l_sides_697d.nd (da_cons (dv 5) (da_cons (de_op opd_sub (dv 4) (de_op opd_mulI (dv 8) (dv 5))) da_nil)))
 (dss_one (ds_par (i := 6) (j := 7) rfl sc_l_sides_697d.nd (da_cons (dv 7) (da_cons (de_op opd_sub (dv 6) (de_op opd_mulI (dv 8) (dv 7))) da_nil))))))))
 (dss_one (ds_ret (de_tup (da_cons (dv 2) (da_cons (dv 4) (da_cons (dv 6) da_nil))))))))) hread hX
theorem ok_l_common_2228 {sp : DSp} (T : Txt K mg base) (hread : ∀ ds M Q, ds.length = 2 → sp ds M Q DX0 → t_l_common_2228 (dEnds M Q) (startD 2 ds) M) (hX : ∀ ds M Q E, sp ds M Q E → sp ds M Q DX0 := by exact fun _ _ _ _ h => h) : Def P w K mg base CX0 1 "_law_common" s_l_common_2228 ["_law_one", "_law_other"] sp :=
 T.h_l_common_2228.ok (t := t_l_common_2228) sc_l_common_2228 (fun f cdv A outer s H E hr gd => (dss_cons (ds_while (dt_cmp (opd_ne (u64 hr)) (dv 1) de_int (nomark _)) (dss_one (ds_par (i := 0) (j := 1) rfl sc_l_common_2228.nd (da_cons (dv 1) (da_cons (de_op opd_mod (de_ty cd_int T.n_int (da_cons (dv 0) da_nil)) (dv 1)) da_nil)))))
 (dss_one (ds_ret (de_blt cd_abs T.n_abs (da_cons (dv 0) da_nil)))))) hread hX
theorem ok_l_done_d2e5 {c_l_sides_697d c_l_common_2228 : DSp} {sp : DSp} (T : Txt K mg base) (D_l_sides_697d : Def P w K mg base CX0 1 "_law_sides" s_l_sides_697d ["_law_one", "_law_other"] c_l_sides_697d) (D_l_common_2228 : Def P w K mg base CX0 1 "_law_common" s_l_common_2228 ["_law_one", "_law_other"] c_l_common_2228) (hread : ∀ ds M Q, ds.length = 2 → sp ds M Q DX0 → t_l_done_d2e5 c_l_sides_697d c_l_common_2228 (dEnds M Q) (startD 19 ds) M) (hX : ∀ ds M Q E, sp ds M Q E → sp ds M Q DX0 := by exact fun _ _ _ _ h => h) : Def P w K mg base CX0 2 "_law_done" s_l_done_d2e5 ["_law_cutting", "_law_deed"] sp :=
 T.h_l_done_d2e5.ok (t := t_l_done_d2e5 c_l_sides_697d c_l_common_2228) sc_l_done_d2e5 (fun f cdv A outer s H E hr gd => (dss_cons (ds_asg (dv 0) (dg_tup rfl (dgs_cons (dg_name (i := 2) sc_l_done_d2e5.nd) (dgs_cons (dg_name (i := 3) sc_l_done_d2e5.nd) (dgs_cons (dg_name (i := 4) sc_l_done_d2e5.nd) (dgs_cons (dg_name (i := 5) sc_l_done_d2e5.nd) dgs_nil))))))
 (dss_cons (ds_asg (dv 1) (dg_tup rfl (dgs_cons (dg_name (i := 6) sc_l_done_d2e5.nd) (dgs_cons (dg_name (i := 7) sc_l_done_d2e5.nd) dgs_nil))))
 (dss_cons (ds_asg (dcall D_l_sides_697d hr gd (da_cons (dv 6) (da_cons (dv 7) da_nil))) (dg_tup rfl (dgs_cons (dg_name (i := 8) sc_l_done_d2e5.nd) (dgs_cons (dg_name (i := 9) sc_l_done_d2e5.nd) (dgs_cons (dg_name (i := 10) sc_l_done_d2e5.nd) dgs_nil)))))
 (dss_cons (ds_asg (de_tup (da_cons (de_op opd_add (de_op opd_mulI (dv 6) (dv 3)) (de_op opd_mulI (dv 7) (dv 2))) (da_cons (de_op opd_mulI (dv 7) (dv 4)) (da_cons (de_op opd_add (de_op opd_add (de_op opd_sub (de_op opd_mulI (dv 9) (dv 2)) (de_op opd_mulI (dv 10) (dv 3))) (dv 5)) (de_op opd_mulI (dv 7) (dv 4))) (da_cons (de_op opd_mulI (dv 9) (dv 4)) da_nil))))) (dg_tup rfl (dgs_cons (dg_name (i := 11) sc_l_done_d2e5.nd) (dgs_cons (dg_name (i := 12) sc_l_done_d2e5.nd) (dgs_cons (dg_name (i := 13) sc_l_done_d2e5.nd) (dgs_cons (dg_name (i := 14) sc_l_done_d2e5.nd) dgs_nil))))))
 (dss_cons (ds_asg (dcall D_l_sides_697d hr gd (da_cons (dv 11) (da_cons (dv 12) da_nil))) (dg_tup rfl (dgs_cons (dg_name (i := 15) sc_l_done_d2e5.nd) (dgs_cons (dg_name (i := 16) sc_l_done_d2e5.nd) (dgs_cons (dg_name (i := 17) sc_l_done_d2e5.nd) dgs_nil)))))
 (dss_cons (ds_set (i := 18) sc_l_done_d2e5.nd (de_op opd_fdiv (de_op opd_sub (de_op opd_mulI (dv 11) (dv 14)) (de_op opd_mulI (dv 12) (dv 13))) (dv 15)))
 (dss_one (ds_ret (de_tup (da_cons (de_op opd_mod (de_ty cd_int T.n_int (da_cons (de_neg (de_op opd_add (de_op opd_mulI (dv 16) (dv 13)) (de_op opd_mulI (dv 17) (dv 14)))) da_nil)) (dcall D_l_common_2228 hr gd (da_cons (dv 18) (da_cons (dv 15) da_nil)))) (da_cons (dv 18) (da_cons (dv 15) (da_cons (de_op opd_sub (de_neg (dv 5)) (de_op opd_mulI (de_op opd_mulI de_int (dv 7)) (dv 4))) da_nil)))))))))))))) hread hX
theorem ok_l_led_9b7a {c_l_done_d2e5 : DSp} {sp : DSp} (T : Txt K mg base) (D_l_done_d2e5 : Def P w K mg base CX0 2 "_law_done" s_l_done_d2e5 ["_law_cutting", "_law_deed"] c_l_done_d2e5) (hread : ∀ ds M Q, ds.length = 2 → sp ds M Q DX0 → t_l_led_9b7a c_l_done_d2e5 (dEnds M Q) (startD 4 ds) M) (hX : ∀ ds M Q E, sp ds M Q E → sp ds M Q DX0 := by exact fun _ _ _ _ h => h) : Def P w K mg base CX0 3 "_law_led" s_l_led_9b7a ["_law_cutting", "_law_word"] sp :=
 T.h_l_led_9b7a.ok (t := t_l_led_9b7a c_l_done_d2e5) sc_l_led_9b7a (fun f cdv A outer s H E hr gd => (dss_cons (ds_set (i := 2) sc_l_led_9b7a.nd (dv 0))
 (dss_cons (ds_for rfl (di_seq (dv 1)) (dg_name (i := 3) sc_l_led_9b7a.nd) (dss_one (ds_set (i := 2) sc_l_led_9b7a.nd (dcall D_l_done_d2e5 hr gd (da_cons (dv 2) (da_cons (dv 3) da_nil))))))
 (dss_one (ds_ret (dv 2)))))) hread hX
theorem ok_l_tens_a574 {sp : DSp} (T : Txt K mg base) (hread : ∀ ds M Q, ds.length = 1 → sp ds M Q DX0 → t_l_tens_a574 (dEnds M Q) (startD 3 ds) M) (hX : ∀ ds M Q E, sp ds M Q E → sp ds M Q DX0 := by exact fun _ _ _ _ h => h) : Def P w K mg base CX0 1 "_law_tens" s_l_tens_a574 ["_law_count"] sp :=
 T.h_l_tens_a574.ok (t := t_l_tens_a574) sc_l_tens_a574 (fun f cdv A outer s H E hr gd => (dss_cons (ds_set (i := 1) sc_l_tens_a574.nd de_int)
 (dss_cons (ds_for rfl (di_range1 T.n_range (da_cons (dv 0) da_nil)) (dg_name (i := 2) sc_l_tens_a574.nd) (dss_one (ds_set (i := 1) sc_l_tens_a574.nd (de_op opd_mulI de_int (dv 1)))))
 (dss_one (ds_ret (dv 1)))))) hread hX
theorem ok_l_some_deed_eb4d {c_l_random_8926 c_l_tens_a574 c_l_common_2228 : DSp} {sp : DSp} (T : Txt K mg base) (D_l_random_8926 : Def P w K mg base CX0 2 "_law_random" s_l_random_8926 ["_law_generator_here", "_law_bound"] c_l_random_8926) (D_l_tens_a574 : Def P w K mg base CX0 1 "_law_tens" s_l_tens_a574 ["_law_count"] c_l_tens_a574) (D_l_common_2228 : Def P w K mg base CX0 1 "_law_common" s_l_common_2228 ["_law_one", "_law_other"] c_l_common_2228) (hread : ∀ ds M Q, ds.length = 2 → sp ds M Q DX0 → t_l_some_deed_eb4d c_l_random_8926 c_l_tens_a574 c_l_common_2228 (dEnds M Q) (startD 10 ds) M) (hX : ∀ ds M Q E, sp ds M Q E → sp ds M Q DX0 := by exact fun _ _ _ _ h => h) : Def P w K mg base CX0 3 "_law_some_deed" s_l_some_deed_eb4d ["_law_generator_here", "_law_cutting"] sp :=
 T.h_l_some_deed_eb4d.ok (t := t_l_some_deed_eb4d c_l_random_8926 c_l_tens_a574 c_l_common_2228) sc_l_some_deed_eb4d (fun f cdv A outer s H E hr gd => (dss_cons (ds_asg (dv 1) (dg_tup rfl (dgs_cons (dg_name (i := 2) sc_l_some_deed_eb4d.nd) (dgs_cons (dg_name (i := 3) sc_l_some_deed_eb4d.nd) (dgs_cons (dg_name (i := 4) sc_l_some_deed_eb4d.nd) (dgs_cons (dg_name (i := 5) sc_l_some_deed_eb4d.nd) dgs_nil))))))
 (dss_cons (ds_par (i := 6) (j := 7) rfl sc_l_some_deed_eb4d.nd (da_cons (de_op opd_add de_int (dcall D_l_random_8926 hr gd (da_cons (dv 0) (da_cons (dcall D_l_tens_a574 hr gd (da_cons (dcall D_l_random_8926 hr gd (da_cons (dv 0) (da_cons de_int da_nil))) da_nil)) da_nil)))) (da_cons (de_op opd_fdiv (dv 4) (dcall D_l_common_2228 hr gd (da_cons (dv 3) (da_cons (dv 4) da_nil)))) da_nil)))
 (dss_cons (ds_if (dt_cmp opd_le (de_op opd_sub (de_op opd_sub (dv 3) (de_op opd_mulI (dv 6) (dv 5))) (de_op opd_mulI (de_op opd_mulI (dv 6) (dv 6)) (dv 4))) de_int (nomark _)) (dss_one (ds_set (i := 6) sc_l_some_deed_eb4d.nd (de_op opd_add de_int (dcall D_l_random_8926 hr gd (da_cons (dv 0) (da_cons de_int da_nil)))))) dss_nil)
 (dss_cons (ds_set (i := 6) sc_l_some_deed_eb4d.nd (de_if (dt_cmp opd_gt (de_op opd_sub (de_op opd_sub (dv 3) (de_op opd_mulI (dv 6) (dv 5))) (de_op opd_mulI (de_op opd_mulI (dv 6) (dv 6)) (dv 4))) de_int (nomark _)) (dv 6) de_int))
 (dss_cons (ds_set (i := 8) sc_l_some_deed_eb4d.nd (dcall D_l_random_8926 hr gd (da_cons (dv 0) (da_cons (de_op opd_mulI (dv 6) (dv 7)) da_nil))))
 (dss_cons (ds_for rfl (di_range1 T.n_range (da_cons de_int da_nil)) (dg_name (i := 9) sc_l_some_deed_eb4d.nd) (dss_one (ds_set (i := 8) sc_l_some_deed_eb4d.nd (de_if (dt_cmp (opd_eq (u64 hr)) (dcall D_l_common_2228 hr gd (da_cons (dv 8) (da_cons (dv 6) da_nil))) de_int (nomark _)) (dv 8) (de_op opd_mod (de_ty cd_int T.n_int (da_cons (de_op opd_add (dv 8) de_int) da_nil)) (de_op opd_mulI (dv 6) (dv 7)))))))
 (dss_one (ds_ret (de_if (dt_cmp (opd_eq (u64 hr)) (dcall D_l_common_2228 hr gd (da_cons (dv 8) (da_cons (dv 6) da_nil))) de_int (nomark _)) (de_tup (da_cons (dv 8) (da_cons (dv 6) da_nil))) (de_tup (da_cons de_int (da_cons de_int da_nil))))))))))))) hread hX
theorem ok_l_some_word_3bfd {c_l_random_8926 c_l_some_deed_eb4d c_l_done_d2e5 : DSp} {sp : DSp} (T : Txt K mg base) (D_l_random_8926 : Def P w K mg base CX0 2 "_law_random" s_l_random_8926 ["_law_generator_here", "_law_bound"] c_l_random_8926) (D_l_some_deed_eb4d : Def P w K mg base CX0 3 "_law_some_deed" s_l_some_deed_eb4d ["_law_generator_here", "_law_cutting"] c_l_some_deed_eb4d) (D_l_done_d2e5 : Def P w K mg base CX0 2 "_law_done" s_l_done_d2e5 ["_law_cutting", "_law_deed"] c_l_done_d2e5) (hread : ∀ ds M Q, ds.length = 3 → sp ds M Q DX0 → t_l_some_word_3bfd c_l_random_8926 c_l_some_deed_eb4d c_l_done_d2e5 (dEnds M Q) (startD 6 ds) M) (hX : ∀ ds M Q E, sp ds M Q E → sp ds M Q DX0 := by exact fun _ _ _ _ h => h) : Def P w K mg base CX0 4 "_law_some_word" s_l_some_word_3bfd ["_law_generator_here", "_law_cutting", "_law_most"] sp :=
 T.h_l_some_word_3bfd.ok (t := t_l_some_word_3bfd c_l_random_8926 c_l_some_deed_eb4d c_l_done_d2e5) sc_l_some_word_3bfd (fun f cdv A outer s H E hr gd => (dss_cons (ds_par (i := 3) (j := 4) rfl sc_l_some_word_3bfd.nd (da_cons (de_own da_nil) (da_cons (dv 1) da_nil)))
 (dss_cons (ds_for rfl (di_range1 T.n_range (da_cons (dcall D_l_random_8926 hr gd (da_cons (dv 0) (da_cons (de_op opd_add (dv 2) de_int) da_nil))) da_nil)) (dg_name (i := 5) sc_l_some_word_3bfd.nd) (dss_cons (ds_expr (de_append (dv 3) (da_cons (dcall D_l_some_deed_eb4d hr gd (da_cons (dv 0) (da_cons (dv 4) da_nil))) da_nil)))
 (dss_one (ds_set (i := 4) sc_l_some_word_3bfd.nd (dcall D_l_done_d2e5 hr gd (da_cons (dv 4) (da_cons (de_ix (dv 3) (de_neg de_int)) da_nil)))))))
 (dss_one (ds_ret (de_frz (dv 3))))))) hread hX
theorem ok_is_whole {sp : DSp} (T : Txt K mg base) (hread : ∀ ds M Q, ds.length = 1 → sp ds M Q DX0 → t_is_whole (dEnds M Q) (startD 1 ds) M) (hX : ∀ ds M Q E, sp ds M Q E → sp ds M Q DX0 := by exact fun _ _ _ _ h => h) : Def P w K mg base CX0 1 "is_whole" s_is_whole ["value"] sp :=
 T.h_is_whole.ok (t := t_is_whole) sc_is_whole (fun f cdv A outer s H E hr gd => (dss_one (ds_ret (de_and (de_blt cd_isi T.n_isinstance (da_cons (dv 0) (da_cons (de_bltn (v := .ty "int") T.n_int rfl) da_nil))) (de_one (de_not (de_blt cd_isi T.n_isinstance (da_cons (dv 0) (da_cons (de_bltn (v := .ty "bool") T.n_bool rfl) da_nil))))))))) hread hX
theorem ok_common_by {sp : DSp} (T : Txt K mg base) (hread : ∀ ds M Q, ds.length = 2 → sp ds M Q DX0 → t_common_by (dEnds M Q) (startD 4 ds) M) (hX : ∀ ds M Q E, sp ds M Q E → sp ds M Q DX0 := by exact fun _ _ _ _ h => h) : Def P w K mg base CX0 1 "common_by" s_common_by ["one", "other"] sp :=
 T.h_common_by.ok (t := t_common_by) sc_common_by (fun f cdv A outer s H E hr gd => (dss_cons (ds_par (i := 2) (j := 3) rfl sc_common_by.nd (da_cons (de_blt cd_abs T.n_abs (da_cons (dv 0) da_nil)) (da_cons (de_blt cd_abs T.n_abs (da_cons (dv 1) da_nil)) da_nil)))
 (dss_cons (ds_while (dt_cmp (opd_ne (u64 hr)) (dv 3) de_int (nomark _)) (dss_one (ds_par (i := 2) (j := 3) rfl sc_common_by.nd (da_cons (dv 3) (da_cons (de_op opd_mod (dv 2) (dv 3)) da_nil)))))
 (dss_one (ds_ret (dv 2)))))) hread hX
theorem ok_is_cutting_by {c_is_whole c_common_by : DSp} {sp : DSp} (T : Txt K mg base) (D_is_whole : Def P w K mg base CX0 1 "is_whole" s_is_whole ["value"] c_is_whole) (D_common_by : Def P w K mg base CX0 1 "common_by" s_common_by ["one", "other"] c_common_by) (hread : ∀ ds M Q, ds.length = 1 → sp ds M Q DX0 → t_is_cutting_by c_is_whole c_common_by (dEnds M Q) (startD 7 ds) M) (hX : ∀ ds M Q E, sp ds M Q E → sp ds M Q DX0 := by exact fun _ _ _ _ h => h) : Def P w K mg base CX0 2 "is_cutting_by" s_is_cutting_by ["value"] sp :=
 T.h_is_cutting_by.ok (t := t_is_cutting_by c_is_whole c_common_by) sc_is_cutting_by (fun f cdv A outer s H E hr gd => (dss_cons (ds_if (DW.dt (dw_or (dt_not (dt_tru (de_blt cd_isi T.n_isinstance (da_cons (dv 0) (da_cons (de_bltn (v := .ty "tuple") T.n_tuple rfl) da_nil))))) (dw_or (dt_cmp (opd_ne (u64 hr)) (de_blt cd_len T.n_len (da_cons (dv 0) da_nil)) de_int (nomark _)) (dw_or1 (dt_cmp (opd_ne (u64 hr)) (de_lc false (own := [("item", 1)]) rfl sc_is_cutting_by.nd (blkOk_by (N := ["value", "item", "low", "high", "side", "turn", "both"]) (own := [("item", 1)]) (sc := (defScope s_is_cutting_by)) (by decide +kernel)) (di_seq (dv 0)) (fun _ _ _ _ _ => (dcg_name (i := 1) sc_is_cutting_by.nd)) (fun _ _ _ _ _ => (dts_one (dt_not (dt_tru (dcall D_is_whole hr gd (da_cons (dv 1) da_nil)))))) (fun _ _ _ _ _ => (dv 1))) (de_lst da_nil) (nomark _)))))) (dss_one (ds_ret de_bl)) dss_nil)
 (dss_cons (ds_asg (dv 0) (dg_tup rfl (dgs_cons (dg_name (i := 2) sc_is_cutting_by.nd) (dgs_cons (dg_name (i := 3) sc_is_cutting_by.nd) (dgs_cons (dg_name (i := 4) sc_is_cutting_by.nd) (dgs_cons (dg_name (i := 5) sc_is_cutting_by.nd) dgs_nil))))))
 (dss_cons (ds_if (DW.dt (dw_or (dt_cmp opd_lt (dv 3) de_int (nomark _)) (dw_or (dt_cmp opd_lt (dv 4) de_int (nomark _)) (dw_or1 (dt_not (dt_cmp opd_lt (de_op opd_add (dv 4) (dv 5)) (dv 3) (nomark _))))))) (dss_one (ds_ret de_bl)) dss_nil)
 (dss_cons (ds_set (i := 6) sc_is_cutting_by.nd (dcall D_common_by hr gd (da_cons (dv 3) (da_cons (dv 4) da_nil))))
 (dss_one (ds_ret (de_and (de_chain opd_le opd_lt de_int (dv 2) (dv 6)) (de_one (de_cmp (opd_eq (u64 hr)) (dcall D_common_by hr gd (da_cons (dcall D_common_by hr gd (da_cons (dv 2) (da_cons (dv 6) da_nil))) (da_cons (dv 5) da_nil))) de_int (nomark _))))))))))) hread hX
theorem ok_check_cutting {c_is_cutting_by : DSp} {sp : DSp} (T : Txt K mg base) (D_is_cutting_by : Def P w K mg base CX0 2 "is_cutting_by" s_is_cutting_by ["value"] c_is_cutting_by) (hread : ∀ ds M Q, ds.length = 1 → sp ds M Q DX0 → t_check_cutting c_is_cutting_by (dEnds M Q) (startD 1 ds) M) (hX : ∀ ds M Q E, sp ds M Q E → sp ds M Q DX0 := by exact fun _ _ _ _ h => h) : Def P w K mg base CX0 3 "check_cutting" s_check_cutting ["cutting"] sp :=
 T.h_check_cutting.ok (t := t_check_cutting c_is_cutting_by) sc_check_cutting (fun f cdv A outer s H E hr gd => (dss_one (ds_if (dt_not (dt_tru (dcall D_is_cutting_by hr gd (da_cons (dv 0) da_nil)))) (dss_one ds_never) dss_nil))) hread hX
theorem ok_measure_by {sp : DSp} (T : Txt K mg base) (hread : ∀ ds M Q, ds.length = 1 → sp ds M Q DX0 → t_measure_by (dEnds M Q) (startD 1 ds) M) (hX : ∀ ds M Q E, sp ds M Q E → sp ds M Q DX0 := by exact fun _ _ _ _ h => h) : Def P w K mg base CX0 1 "measure_by" s_measure_by ["cutting"] sp :=
 T.h_measure_by.ok (t := t_measure_by) sc_measure_by (fun f cdv A outer s H E hr gd => (dss_one (ds_ret (de_op opd_add (de_op opd_mulI (de_ix (dv 0) de_int) (de_ix (dv 0) de_int)) (de_op opd_mulI (de_op opd_mulI de_int (de_ix (dv 0) de_int)) (de_ix (dv 0) de_int)))))) hread hX
theorem ok_is_signed {sp : DSp} (T : Txt K mg base) (hread : ∀ ds M Q, ds.length = 1 → sp ds M Q DX0 → t_is_signed (dEnds M Q) (startD 1 ds) M) (hX : ∀ ds M Q E, sp ds M Q E → sp ds M Q DX0 := by exact fun _ _ _ _ h => h) : Def P w K mg base CX0 1 "is_signed" s_is_signed ["measure"] sp :=
 T.h_is_signed.ok (t := t_is_signed) sc_is_signed (fun f cdv A outer s H E hr gd => (dss_one (ds_ret (de_and (de_cmp (opd_eq (u64 hr)) (de_op opd_mod (dv 0) de_int) de_int (nomark _)) (de_one (de_cmp opd_gt (dv 0) de_int (nomark _))))))) hread hX
theorem ok_root_floor_by {sp : DSp} (T : Txt K mg base) (hread : ∀ ds M Q, ds.length = 1 → sp ds M Q DX0 → t_root_floor_by (dEnds M Q) (startD 3 ds) M) (hX : ∀ ds M Q E, sp ds M Q E → sp ds M Q DX0 := by exact fun _ _ _ _ h => h) : Def P w K mg base CX0 1 "root_floor_by" s_root_floor_by ["number"] sp :=
 T.h_root_floor_by.ok (t := t_root_floor_by) sc_root_floor_by (fun f cdv A outer s H E hr gd => (dss_cons (ds_if (dt_cmp opd_lt (dv 0) de_int (nomark _)) (dss_one (ds_ret (dv 0))) dss_nil)
 (dss_cons (ds_set (i := 1) sc_root_floor_by.nd de_int)
 (dss_cons (ds_while (dt_cmp opd_le (de_op opd_mulI (dv 1) (dv 1)) (dv 0) (nomark _)) (dss_one (ds_set (i := 1) sc_root_floor_by.nd (de_op opd_mulI de_int (dv 1)))))
 (dss_cons (ds_set (i := 2) sc_root_floor_by.nd (de_op opd_fdiv (de_op opd_add (dv 1) (de_op opd_fdiv (dv 0) (dv 1))) de_int))
 (dss_cons (ds_while (dt_cmp opd_lt (dv 2) (dv 1) (nomark _)) (dss_one (ds_par (i := 1) (j := 2) rfl sc_root_floor_by.nd (da_cons (dv 2) (da_cons (de_op opd_fdiv (de_op opd_add (dv 2) (de_op opd_fdiv (dv 0) (dv 2))) de_int) da_nil)))))
 (dss_one (ds_ret (dv 1))))))))) hread hX
theorem ok_square_part_by {c_root_floor_by : DSp} {sp : DSp} (T : Txt K mg base) (D_root_floor_by : Def P w K mg base CX0 1 "root_floor_by" s_root_floor_by ["number"] c_root_floor_by) (hread : ∀ ds M Q, ds.length = 1 → sp ds M Q DX0 → t_square_part_by c_root_floor_by (dEnds M Q) (startD 5 ds) M) (hX : ∀ ds M Q E, sp ds M Q E → sp ds M Q DX0 := by exact fun _ _ _ _ h => h) : Def P w K mg base CX0 2 "square_part_by" s_square_part_by ["number"] sp :=
 T.h_square_part_by.ok (t := t_square_part_by c_root_floor_by) sc_square_part_by (fun f cdv A outer s H E hr gd => (dss_cons (ds_par3 (i := 1) (j := 2) (l := 3) rfl sc_square_part_by.nd (da_cons de_int (da_cons (dv 0) (da_cons de_int da_nil))))
 (dss_cons (ds_while (dt_cmp opd_le (de_op opd_mulI (de_op opd_mulI (dv 3) (dv 3)) (dv 3)) (dv 2) (nomark _)) (dss_cons (ds_while (dt_cmp (opd_eq (u64 hr)) (de_op opd_mod (dv 2) (de_op opd_mulI (dv 3) (dv 3))) de_int (nomark _)) (dss_one (ds_par (i := 1) (j := 2) rfl sc_square_part_by.nd (da_cons (de_op opd_mulI (dv 1) (dv 3)) (da_cons (de_op opd_fdiv (dv 2) (de_op opd_mulI (dv 3) (dv 3))) da_nil)))))
 (dss_cons (ds_if (dt_cmp (opd_eq (u64 hr)) (de_op opd_mod (dv 2) (dv 3)) de_int (nomark _)) (dss_one (ds_set (i := 2) sc_square_part_by.nd (de_op opd_fdiv (dv 2) (dv 3)))) dss_nil)
 (dss_one (ds_set (i := 3) sc_square_part_by.nd (de_op opd_add (dv 3) de_int))))))
 (dss_cons (ds_set (i := 4) sc_square_part_by.nd (dcall D_root_floor_by hr gd (da_cons (dv 2) da_nil)))
 (dss_one (ds_ret (de_if (dt_cmp (opd_eq (u64 hr)) (de_op opd_mulI (dv 4) (dv 4)) (dv 2) (nomark _)) (de_op opd_mulI (dv 1) (dv 4)) (dv 1)))))))) hread hX
theorem ok_factor_by {c_square_part_by : DSp} {sp : DSp} (T : Txt K mg base) (D_square_part_by : Def P w K mg base CX0 2 "square_part_by" s_square_part_by ["number"] c_square_part_by) (hread : ∀ ds M Q, ds.length = 1 → sp ds M Q DX0 → t_factor_by c_square_part_by (dEnds M Q) (startD 2 ds) M) (hX : ∀ ds M Q E, sp ds M Q E → sp ds M Q DX0 := by exact fun _ _ _ _ h => h) : Def P w K mg base CX0 3 "factor_by" s_factor_by ["measure"] sp :=
 T.h_factor_by.ok (t := t_factor_by c_square_part_by) sc_factor_by (fun f cdv A outer s H E hr gd => (dss_cons (ds_set (i := 1) sc_factor_by.nd (dcall D_square_part_by hr gd (da_cons (dv 0) da_nil)))
 (dss_one (ds_ret (de_if (dt_cmp (opd_in (u65 hr)) (de_op opd_mod (de_op opd_fdiv (dv 0) (de_op opd_mulI (dv 1) (dv 1))) de_int) (de_lst (da_cons de_int (da_cons de_int da_nil))) (by rfl)) (dv 1) (de_op opd_fdiv (dv 1) de_int)))))) hread hX
theorem ok_turn_by {sp : DSp} (T : Txt K mg base) (hread : ∀ ds M Q, ds.length = 1 → sp ds M Q DX0 → t_turn_by (dEnds M Q) (startD 5 ds) M) (hX : ∀ ds M Q E, sp ds M Q E → sp ds M Q DX0 := by exact fun _ _ _ _ h => h) : Def P w K mg base CX0 1 "turn_by" s_turn_by ["cutting"] sp :=
 T.h_turn_by.ok (t := t_turn_by) sc_turn_by (fun f cdv A outer s H E hr gd => (dss_cons (ds_asg (dv 0) (dg_tup rfl (dgs_cons (dg_name (i := 1) sc_turn_by.nd) (dgs_cons (dg_name (i := 2) sc_turn_by.nd) (dgs_cons (dg_name (i := 3) sc_turn_by.nd) (dgs_cons (dg_name (i := 4) sc_turn_by.nd) dgs_nil))))))
 (dss_one (ds_ret (de_op opd_mulI (de_op opd_add (dv 3) de_int) (de_op opd_add (de_op opd_add (dv 1) (dv 2)) (de_op opd_mulI (dv 1) (dv 2)))))))) hread hX
theorem ok_sign_by {c_measure_by c_is_signed c_factor_by c_turn_by : DSp} {sp : DSp} (T : Txt K mg base) (D_measure_by : Def P w K mg base CX0 1 "measure_by" s_measure_by ["cutting"] c_measure_by) (D_is_signed : Def P w K mg base CX0 1 "is_signed" s_is_signed ["measure"] c_is_signed) (D_factor_by : Def P w K mg base CX0 3 "factor_by" s_factor_by ["measure"] c_factor_by) (D_turn_by : Def P w K mg base CX0 1 "turn_by" s_turn_by ["cutting"] c_turn_by) (hread : ∀ ds M Q, ds.length = 1 → sp ds M Q DX0 → t_sign_by c_measure_by c_is_signed c_factor_by c_turn_by (dEnds M Q) (startD 2 ds) M) (hX : ∀ ds M Q E, sp ds M Q E → sp ds M Q DX0 := by exact fun _ _ _ _ h => h) : Def P w K mg base CX0 4 "sign_by" s_sign_by ["cutting"] sp :=
 T.h_sign_by.ok (t := t_sign_by c_measure_by c_is_signed c_factor_by c_turn_by) sc_sign_by (fun f cdv A outer s H E hr gd => (dss_cons (ds_set (i := 1) sc_sign_by.nd (dcall D_measure_by hr gd (da_cons (dv 0) da_nil)))
 (dss_cons (ds_if (dt_not (dt_tru (dcall D_is_signed hr gd (da_cons (dv 1) da_nil)))) (dss_one (ds_ret de_non)) dss_nil)
 (dss_one (ds_ret (de_op opd_mod (de_op opd_add (de_op opd_fdiv (de_op opd_sub (de_ix (dv 0) de_int) (dcall D_factor_by hr gd (da_cons (dv 1) da_nil))) de_int) (dcall D_turn_by hr gd (da_cons (dv 0) da_nil))) de_int)))))) hread hX
theorem ok_sign {c_check_cutting c_sign_by : DSp} {sp : DSp} (T : Txt K mg base) (D_check_cutting : Def P w K mg base CX0 3 "check_cutting" s_check_cutting ["cutting"] c_check_cutting) (D_sign_by : Def P w K mg base CX0 4 "sign_by" s_sign_by ["cutting"] c_sign_by) (hread : ∀ ds M Q, ds.length = 1 → sp ds M Q DX0 → t_sign c_check_cutting c_sign_by (dEnds M Q) (startD 1 ds) M) (hX : ∀ ds M Q E, sp ds M Q E → sp ds M Q DX0 := by exact fun _ _ _ _ h => h) : Def P w K mg base CX0 5 "sign" s_sign ["cutting"] sp :=
 T.h_sign.ok (t := t_sign c_check_cutting c_sign_by) sc_sign (fun f cdv A outer s H E hr gd => (dss_cons (ds_expr (dcall D_check_cutting hr gd (da_cons (dv 0) da_nil)))
 (dss_one (ds_ret (dcall D_sign_by hr gd (da_cons (dv 0) da_nil)))))) hread hX
theorem ok_l_far_right_6012 {c_l_random_8926 c_l_turn_a0b1 c_l_led_9b7a c_l_some_word_3bfd c_sign : DSp} {sp : DSp} (T : Txt K mg base) (D_l_random_8926 : Def P w K mg base CX0 2 "_law_random" s_l_random_8926 ["_law_generator_here", "_law_bound"] c_l_random_8926) (D_l_turn_a0b1 : Def P w K mg base CX0 1 "_law_turn" s_l_turn_a0b1 ["_law_cutting"] c_l_turn_a0b1) (D_l_led_9b7a : Def P w K mg base CX0 3 "_law_led" s_l_led_9b7a ["_law_cutting", "_law_word"] c_l_led_9b7a) (D_l_some_word_3bfd : Def P w K mg base CX0 4 "_law_some_word" s_l_some_word_3bfd ["_law_generator_here", "_law_cutting", "_law_most"] c_l_some_word_3bfd) (D_sign : Def P w K mg base CX0 5 "sign" s_sign ["cutting"] c_sign) (hread : ∀ ds M Q, ds.length = 1 → sp ds M Q DX0 → t_l_far_right_6012 c_l_random_8926 c_l_turn_a0b1 c_l_led_9b7a c_l_some_word_3bfd c_sign (dEnds M Q) (startD 8 ds) M) (hX : ∀ ds M Q E, sp ds M Q E → sp ds M Q DX0 := by exact fun _ _ _ _ h => h) : Def P w K mg base CX0 6 "_law_far_right" s_l_far_right_6012 ["_law_generator_here"] sp :=
 T.h_l_far_right_6012.ok (t := t_l_far_right_6012 c_l_random_8926 c_l_turn_a0b1 c_l_led_9b7a c_l_some_word_3bfd c_sign) sc_l_far_right_6012 (fun f cdv A outer s H E hr gd => (dss_cons (ds_asg (de_tup (da_cons (de_op opd_add (de_op opd_mulI de_int (dcall D_l_random_8926 hr gd (da_cons (dv 0) (da_cons (de_ix (de_lst (da_cons de_int (da_cons de_int (da_cons de_int da_nil)))) (dcall D_l_random_8926 hr gd (da_cons (dv 0) (da_cons de_int da_nil)))) da_nil)))) de_int) (da_cons (de_op opd_add de_int (de_op opd_mulI de_int (dcall D_l_random_8926 hr gd (da_cons (dv 0) (da_cons de_int da_nil))))) da_nil))) (dg_tup rfl (dgs_cons (dg_name (i := 1) sc_l_far_right_6012.nd) (dgs_cons (dg_name (i := 2) sc_l_far_right_6012.nd) dgs_nil))))
 (dss_cons (ds_set (i := 3) sc_l_far_right_6012.nd (de_blt (cd_maxL rfl) T.n_max (da_cons (de_lc false (own := [("_law_side", 4)]) rfl sc_l_far_right_6012.nd (blkOk_by (N := ["_law_generator_here", "_law_f", "_law_k", "_law_whole", "_law_side", "_law_cutting", "_law_due", "_law_other"]) (own := [("_law_side", 4)]) (sc := (defScope s_l_far_right_6012)) (by decide +kernel)) (di_range3 T.n_range (da_cons de_int (da_cons de_int (da_cons de_int da_nil)))) (fun _ _ _ _ _ => (dcg_name (i := 4) sc_l_far_right_6012.nd)) (fun _ _ _ _ _ => (dts_one (dt_cmp (opd_eq (u64 hr)) (de_op opd_mod (de_ty cd_int T.n_int (da_cons (dv 2) da_nil)) (de_op opd_mulI (dv 4) (dv 4))) de_int (nomark _)))) (fun _ _ _ _ _ => (dv 4))) da_nil)))
 (dss_cons (ds_set (i := 5) sc_l_far_right_6012.nd (de_tup (da_cons de_int (da_cons (de_op opd_fdiv (de_op opd_sub (de_op opd_mulI (de_op opd_mulI (dv 1) (dv 1)) (dv 2)) de_int) de_int) (da_cons de_int (da_cons de_int da_nil))))))
 (dss_cons (ds_set (i := 6) sc_l_far_right_6012.nd (de_op opd_mod (de_ty cd_int T.n_int (da_cons (de_op opd_add (de_op opd_fdiv (de_op opd_sub de_int (de_op opd_mulI (dv 1) (dv 3))) de_int) (dcall D_l_turn_a0b1 hr gd (da_cons (dv 5) da_nil))) da_nil)) de_int))
 (dss_cons (ds_set (i := 7) sc_l_far_right_6012.nd (dcall D_l_led_9b7a hr gd (da_cons (dv 5) (da_cons (dcall D_l_some_word_3bfd hr gd (da_cons (dv 0) (da_cons (dv 5) (da_cons de_int da_nil)))) da_nil))))
 (dss_one (ds_ret (de_cmp (opd_eq (u64 hr)) (de_blt (cd_repr gd (ux hr)) T.n_repr (da_cons (de_lst (da_cons (dcall D_sign hr gd (da_cons (dv 5) da_nil)) (da_cons (dcall D_sign hr gd (da_cons (dv 7) da_nil)) da_nil))) da_nil)) (de_blt (cd_repr gd (ux hr)) T.n_repr (da_cons (de_lst (da_cons (dv 6) (da_cons (dv 6) da_nil))) da_nil)) (nomark _)))))))))) hread hX
theorem ok_l_cell_cf3b {sp : DSp} (T : Txt K mg base) (hread : ∀ ds M Q, ds.length = 2 → sp ds M Q DX0 → t_l_cell_cf3b (dEnds M Q) (startD 2 ds) M) (hX : ∀ ds M Q E, sp ds M Q E → sp ds M Q DX0 := by exact fun _ _ _ _ h => h) : Def P w K mg base CX0 1 "_law_cell" s_l_cell_cf3b ["_law_script", "_law_index"] sp :=
 T.h_l_cell_cf3b.ok (t := t_l_cell_cf3b) sc_l_cell_cf3b (fun f cdv A outer s H E hr gd => (dss_cons (ds_if (dt_cmp opd_lt (dv 1) (de_blt cd_len T.n_len (da_cons (dv 0) da_nil)) (nomark _)) (dss_one (ds_ret (de_ix (dv 0) (dv 1)))) dss_nil)
 (dss_one (ds_ret (de_op opd_mod (de_blt (cd_sum rfl) T.n_sum (da_cons (de_slL false (dv 0) do_none (do_some de_int)) da_nil)) de_int))))) hread hX
theorem ok_l_generator_b324 {c_l_cell_cf3b : DSp} {sp : DSp} (T : Txt K mg base) (D_l_cell_cf3b : Def P w K mg base CX0 1 "_law_cell" s_l_cell_cf3b ["_law_script", "_law_index"] c_l_cell_cf3b) (hread : ∀ ds M Q, ds.length = 2 → sp ds M Q DX0 → t_l_generator_b324 c_l_cell_cf3b (dEnds M Q) (startD 3 ds) M) (hX : ∀ ds M Q E, sp ds M Q E → sp ds M Q DX0 := by exact fun _ _ _ _ h => h) : Def P w K mg base CX0 2 "_law_generator" s_l_generator_b324 ["_law_script", "_law_index"] sp :=
 T.h_l_generator_b324.ok (t := t_l_generator_b324 c_l_cell_cf3b) sc_l_generator_b324 (fun f cdv A outer s H E hr gd => (dss_cons (ds_set (i := 2) sc_l_generator_b324.nd (dcall D_l_cell_cf3b hr gd (da_cons (dv 0) (da_cons (dv 1) da_nil))))
 (dss_one (ds_ret (de_own (da_cons (de_op opd_mod (de_ty cd_int T.n_int (da_cons (de_blt (cd_max rfl) T.n_max (da_cons (de_op opd_sub (dv 2) (de_op opd_pow de_int de_int)) (da_cons de_int da_nil))) da_nil)) (de_op opd_pow (de_op opd_pow de_int de_int) de_int)) (da_cons (de_op opd_mod (de_ty cd_int T.n_int (da_cons (dv 2) da_nil)) de_int) (da_cons (de_op opd_mulI de_int (dv 1)) da_nil)))))))) hread hX
theorem ok_l_is_cutting_5bf1 {c_l_common_2228 : DSp} {sp : DSp} (T : Txt K mg base) (D_l_common_2228 : Def P w K mg base CX0 1 "_law_common" s_l_common_2228 ["_law_one", "_law_other"] c_l_common_2228) (hread : ∀ ds M Q, ds.length = 1 → sp ds M Q DX0 → t_l_is_cutting_5bf1 c_l_common_2228 (dEnds M Q) (startD 6 ds) M) (hX : ∀ ds M Q E, sp ds M Q E → sp ds M Q DX0 := by exact fun _ _ _ _ h => h) : Def P w K mg base CX0 2 "_law_is_cutting" s_l_is_cutting_5bf1 ["_law_value"] sp :=
 T.h_l_is_cutting_5bf1.ok (t := t_l_is_cutting_5bf1 c_l_common_2228) sc_l_is_cutting_5bf1 (fun f cdv A outer s H E hr gd => (dss_cons (ds_if (DW.dt (dw_or (dt_not (dt_tru (de_blt cd_isi T.n_isinstance (da_cons (dv 0) (da_cons (de_bltn (v := .ty "tuple") T.n_tuple rfl) da_nil))))) (dw_or1 (dt_cmp (opd_ne (u64 hr)) (de_blt cd_len T.n_len (da_cons (dv 0) da_nil)) de_int (nomark _))))) (dss_one (ds_ret de_bl)) dss_nil)
 (dss_cons (ds_if (dt_cmp (opd_ne (u64 hr)) (de_lc false (own := [("_law_item", 1)]) rfl sc_l_is_cutting_5bf1.nd (blkOk_by (N := ["_law_value", "_law_item", "_law_a", "_law_b", "_law_c", "_law_e"]) (own := [("_law_item", 1)]) (sc := (defScope s_l_is_cutting_5bf1)) (by decide +kernel)) (di_seq (dv 0)) (fun _ _ _ _ _ => (dcg_name (i := 1) sc_l_is_cutting_5bf1.nd)) (fun _ _ _ _ _ => (dts_one (DW.dt (dw_or (dt_tru (de_blt cd_isi T.n_isinstance (da_cons (dv 1) (da_cons (de_bltn (v := .ty "bool") T.n_bool rfl) da_nil)))) (dw_or1 (dt_not (dt_tru (de_blt cd_isi T.n_isinstance (da_cons (dv 1) (da_cons (de_bltn (v := .ty "int") T.n_int rfl) da_nil)))))))))) (fun _ _ _ _ _ => (dv 1))) (de_lst da_nil) (nomark _)) (dss_one (ds_ret de_bl)) dss_nil)
 (dss_cons (ds_asg (dv 0) (dg_tup rfl (dgs_cons (dg_name (i := 2) sc_l_is_cutting_5bf1.nd) (dgs_cons (dg_name (i := 3) sc_l_is_cutting_5bf1.nd) (dgs_cons (dg_name (i := 4) sc_l_is_cutting_5bf1.nd) (dgs_cons (dg_name (i := 5) sc_l_is_cutting_5bf1.nd) dgs_nil))))))
 (dss_cons (ds_if (DW.dt (dw_or (dt_cmp opd_lt (dv 3) de_int (nomark _)) (dw_or (dt_cmp opd_lt (dv 4) de_int (nomark _)) (dw_or (dt_cmp opd_ge (de_op opd_add (dv 4) (dv 5)) (dv 3) (nomark _)) (dw_or1 (dt_not (dt_chain opd_le opd_lt de_int (dv 2) (dcall D_l_common_2228 hr gd (da_cons (dv 3) (da_cons (dv 4) da_nil)))))))))) (dss_one (ds_ret de_bl)) dss_nil)
 (dss_one (ds_ret (de_cmp (opd_eq (u64 hr)) (dcall D_l_common_2228 hr gd (da_cons (dcall D_l_common_2228 hr gd (da_cons (dv 2) (da_cons (dv 3) da_nil))) (da_cons (dcall D_l_common_2228 hr gd (da_cons (dv 4) (da_cons (dv 5) da_nil))) da_nil))) de_int (nomark _))))))))) hread hX
theorem ok_l_cuttings_78a4 {c_l_common_2228 c_l_is_cutting_5bf1 : DSp} {sp : DSp} (T : Txt K mg base) (D_l_common_2228 : Def P w K mg base CX0 1 "_law_common" s_l_common_2228 ["_law_one", "_law_other"] c_l_common_2228) (D_l_is_cutting_5bf1 : Def P w K mg base CX0 2 "_law_is_cutting" s_l_is_cutting_5bf1 ["_law_value"] c_l_is_cutting_5bf1) (hread : ∀ ds M Q, ds.length = 1 → sp ds M Q DX0 → t_l_cuttings_78a4 c_l_common_2228 c_l_is_cutting_5bf1 (dEnds M Q) (startD 8 ds) M) (hX : ∀ ds M Q E, sp ds M Q E → sp ds M Q DX0 := by exact fun _ _ _ _ h => h) : Def P w K mg base CX0 3 "_law_cuttings" s_l_cuttings_78a4 ["_law_measure_here"] sp :=
 T.h_l_cuttings_78a4.ok (t := t_l_cuttings_78a4 c_l_common_2228 c_l_is_cutting_5bf1) sc_l_cuttings_78a4 (fun f cdv A outer s H E hr gd => (dss_cons (ds_set (i := 1) sc_l_cuttings_78a4.nd (de_lst da_nil))
 (dss_cons (ds_for rfl (di_range2 T.n_range (da_cons (de_neg de_int) (da_cons de_int da_nil))) (dg_name (i := 2) sc_l_cuttings_78a4.nd) (dss_cons (ds_set (i := 3) sc_l_cuttings_78a4.nd (de_op opd_sub (dv 0) (de_op opd_mulI (dv 2) (dv 2))))
 (dss_cons (ds_set (i := 4) sc_l_cuttings_78a4.nd (de_op opd_fdiv (dv 3) de_int))
 (dss_one (ds_for rfl (di_range2 T.n_range (da_cons de_int (da_cons (de_op opd_add (dv 4) de_int) da_nil))) (dg_name (i := 5) sc_l_cuttings_78a4.nd) (dss_one (ds_if (DW.dt (dw_and (dt_cmp (opd_eq (u64 hr)) (de_op opd_mod (de_ty cd_int T.n_int (da_cons (dv 3) da_nil)) de_int) de_int (nomark _)) (dw_and1 (dt_cmp (opd_eq (u64 hr)) (de_op opd_mod (de_ty cd_int T.n_int (da_cons (dv 4) da_nil)) (dv 5)) de_int (nomark _))))) (dss_one (ds_set (i := 1) sc_l_cuttings_78a4.nd (de_op opd_add (dv 1) (de_lc false (own := [("_law_a", 6)]) rfl sc_l_cuttings_78a4.nd (blkOk_by (N := ["_law_measure_here", "_law_found", "_law_e", "_law_left", "_law_many", "_law_c", "_law_a", "_law_cutting"]) (own := [("_law_a", 6)]) (sc := (defScope s_l_cuttings_78a4)) (by decide +kernel)) (di_range1 T.n_range (da_cons (dcall D_l_common_2228 hr gd (da_cons (de_op opd_fdiv (dv 4) (dv 5)) (da_cons (dv 5) da_nil))) da_nil)) (fun _ _ _ _ _ => (dcg_name (i := 6) sc_l_cuttings_78a4.nd)) (fun _ _ _ _ _ => dts_nil) (fun _ _ _ _ _ => (de_tup (da_cons (dv 6) (da_cons (de_op opd_fdiv (dv 4) (dv 5)) (da_cons (dv 5) (da_cons (dv 2) da_nil)))))))))) dss_nil)))))))
 (dss_one (ds_ret (de_blt (cd_sorted false) T.n_sorted (da_cons (de_lc false (own := [("_law_cutting", 7)]) rfl sc_l_cuttings_78a4.nd (blkOk_by (N := ["_law_measure_here", "_law_found", "_law_e", "_law_left", "_law_many", "_law_c", "_law_a", "_law_cutting"]) (own := [("_law_cutting", 7)]) (sc := (defScope s_l_cuttings_78a4)) (by decide +kernel)) (di_seq (dv 1)) (fun _ _ _ _ _ => (dcg_name (i := 7) sc_l_cuttings_78a4.nd)) (fun _ _ _ _ _ => (dts_one (dt_tru (dcall D_l_is_cutting_5bf1 hr gd (da_cons (dv 7) da_nil))))) (fun _ _ _ _ _ => (dv 7))) da_nil))))))) hread hX
theorem ok_l_measure_919a {sp : DSp} (T : Txt K mg base) (hread : ∀ ds M Q, ds.length = 1 → sp ds M Q DX0 → t_l_measure_919a (dEnds M Q) (startD 1 ds) M) (hX : ∀ ds M Q E, sp ds M Q E → sp ds M Q DX0 := by exact fun _ _ _ _ h => h) : Def P w K mg base CX0 1 "_law_measure" s_l_measure_919a ["_law_cutting"] sp :=
 T.h_l_measure_919a.ok (t := t_l_measure_919a) sc_l_measure_919a (fun f cdv A outer s H E hr gd => (dss_one (ds_ret (de_op opd_add (de_op opd_mulI (de_ix (dv 0) de_int) (de_ix (dv 0) de_int)) (de_op opd_mulI (de_op opd_mulI de_int (de_ix (dv 0) de_int)) (de_ix (dv 0) de_int)))))) hread hX
theorem ok_l_signed_630a {sp : DSp} (T : Txt K mg base) (hread : ∀ ds M Q, ds.length = 1 → sp ds M Q DX0 → t_l_signed_630a (dEnds M Q) (startD 1 ds) M) (hX : ∀ ds M Q E, sp ds M Q E → sp ds M Q DX0 := by exact fun _ _ _ _ h => h) : Def P w K mg base CX0 1 "_law_signed" s_l_signed_630a ["_law_measure_here"] sp :=
 T.h_l_signed_630a.ok (t := t_l_signed_630a) sc_l_signed_630a (fun f cdv A outer s H E hr gd => (dss_one (ds_ret (de_and (de_cmp (opd_eq (u64 hr)) (de_op opd_mod (de_ty cd_int T.n_int (da_cons (dv 0) da_nil)) de_int) de_int (nomark _)) (de_one (de_cmp opd_gt (dv 0) de_int (nomark _))))))) hread hX
theorem ok_l_sign_3b1d {c_l_measure_919a c_l_signed_630a c_l_turn_a0b1 : DSp} {sp : DSp} (T : Txt K mg base) (D_l_measure_919a : Def P w K mg base CX0 1 "_law_measure" s_l_measure_919a ["_law_cutting"] c_l_measure_919a) (D_l_signed_630a : Def P w K mg base CX0 1 "_law_signed" s_l_signed_630a ["_law_measure_here"] c_l_signed_630a) (D_l_turn_a0b1 : Def P w K mg base CX0 1 "_law_turn" s_l_turn_a0b1 ["_law_cutting"] c_l_turn_a0b1) (hread : ∀ ds M Q, ds.length = 1 → sp ds M Q DX0 → t_l_sign_3b1d c_l_measure_919a c_l_signed_630a c_l_turn_a0b1 (dEnds M Q) (startD 4 ds) M) (hX : ∀ ds M Q E, sp ds M Q E → sp ds M Q DX0 := by exact fun _ _ _ _ h => h) : Def P w K mg base CX0 2 "_law_sign" s_l_sign_3b1d ["_law_cutting"] sp :=
 T.h_l_sign_3b1d.ok (t := t_l_sign_3b1d c_l_measure_919a c_l_signed_630a c_l_turn_a0b1) sc_l_sign_3b1d (fun f cdv A outer s H E hr gd => (dss_cons (ds_par (i := 1) (j := 2) rfl sc_l_sign_3b1d.nd (da_cons (dcall D_l_measure_919a hr gd (da_cons (dv 0) da_nil)) (da_cons de_int da_nil)))
 (dss_cons (ds_if (dt_not (dt_tru (dcall D_l_signed_630a hr gd (da_cons (dv 1) da_nil)))) (dss_one (ds_ret de_non)) dss_nil)
 (dss_cons (ds_for rfl (di_range3 T.n_range (da_cons de_int (da_cons de_int (da_cons de_int da_nil)))) (dg_name (i := 3) sc_l_sign_3b1d.nd) (dss_one (ds_if (DW.dt (dw_and (dt_cmp opd_le (de_op opd_mulI (dv 3) (dv 3)) (dv 1) (nomark _)) (dw_and1 (dt_cmp (opd_eq (u64 hr)) (de_op opd_mod (de_ty cd_int T.n_int (da_cons (dv 1) da_nil)) (de_op opd_mulI (dv 3) (dv 3))) de_int (nomark _))))) (dss_one (ds_set (i := 2) sc_l_sign_3b1d.nd (dv 3))) dss_nil)))
 (dss_one (ds_ret (de_op opd_mod (de_ty cd_int T.n_int (da_cons (de_op opd_add (de_op opd_fdiv (de_op opd_sub (de_ix (dv 0) de_int) (dv 2)) de_int) (dcall D_l_turn_a0b1 hr gd (da_cons (dv 0) da_nil))) da_nil)) de_int))))))) hread hX
theorem ok_l_deeds_d0dc {c_l_common_2228 : DSp} {sp : DSp} (T : Txt K mg base) (D_l_common_2228 : Def P w K mg base CX0 1 "_law_common" s_l_common_2228 ["_law_one", "_law_other"] c_l_common_2228) (hread : ∀ ds M Q, ds.length = 1 → sp ds M Q DX0 → t_l_deeds_d0dc c_l_common_2228 (dEnds M Q) (startD 9 ds) M) (hX : ∀ ds M Q E, sp ds M Q E → sp ds M Q DX0 := by exact fun _ _ _ _ h => h) : Def P w K mg base CX0 2 "_law_deeds" s_l_deeds_d0dc ["_law_cutting"] sp :=
 T.h_l_deeds_d0dc.ok (t := t_l_deeds_d0dc c_l_common_2228) sc_l_deeds_d0dc (fun f cdv A outer s H E hr gd => (dss_cons (ds_asg (dv 0) (dg_tup rfl (dgs_cons (dg_name (i := 1) sc_l_deeds_d0dc.nd) (dgs_cons (dg_name (i := 2) sc_l_deeds_d0dc.nd) (dgs_cons (dg_name (i := 3) sc_l_deeds_d0dc.nd) (dgs_cons (dg_name (i := 4) sc_l_deeds_d0dc.nd) dgs_nil))))))
 (dss_cons (ds_par (i := 5) (j := 6) rfl sc_l_deeds_d0dc.nd (da_cons (de_lst da_nil) (da_cons (de_op opd_fdiv (dv 3) (dcall D_l_common_2228 hr gd (da_cons (dv 2) (da_cons (dv 3) da_nil)))) da_nil)))
 (dss_cons (ds_for rfl (di_range2 T.n_range (da_cons de_int (da_cons de_int da_nil))) (dg_name (i := 7) sc_l_deeds_d0dc.nd) (dss_one (ds_if (dt_cmp opd_gt (de_op opd_sub (de_op opd_sub (dv 2) (de_op opd_mulI (dv 7) (dv 4))) (de_op opd_mulI (de_op opd_mulI (dv 7) (dv 7)) (dv 3))) de_int (nomark _)) (dss_one (ds_set (i := 5) sc_l_deeds_d0dc.nd (de_op opd_add (dv 5) (de_lc false (own := [("_law_p", 8)]) rfl sc_l_deeds_d0dc.nd (blkOk_by (N := ["_law_cutting", "_law_a", "_law_b", "_law_c", "_law_e", "_law_found", "_law_rooms", "_law_q", "_law_p"]) (own := [("_law_p", 8)]) (sc := (defScope s_l_deeds_d0dc)) (by decide +kernel)) (di_range1 T.n_range (da_cons (de_op opd_mulI (dv 7) (dv 6)) da_nil)) (fun _ _ _ _ _ => (dcg_name (i := 8) sc_l_deeds_d0dc.nd)) (fun _ _ _ _ _ => (dts_one (dt_cmp (opd_eq (u64 hr)) (dcall D_l_common_2228 hr gd (da_cons (dv 8) (da_cons (dv 7) da_nil))) de_int (nomark _)))) (fun _ _ _ _ _ => (de_tup (da_cons (dv 8) (da_cons (dv 7) da_nil)))))))) dss_nil)))
 (dss_one (ds_ret (de_blt (cd_sorted false) T.n_sorted (da_cons (dv 5) da_nil)))))))) hread hX
theorem ok_l_some_measure_bbc9 {c_l_random_8926 : DSp} {sp : DSp} (T : Txt K mg base) (D_l_random_8926 : Def P w K mg base CX0 2 "_law_random" s_l_random_8926 ["_law_generator_here", "_law_bound"] c_l_random_8926) (hread : ∀ ds M Q, ds.length = 2 → sp ds M Q DX0 → t_l_some_measure_bbc9 c_l_random_8926 (dEnds M Q) (startD 3 ds) M) (hX : ∀ ds M Q E, sp ds M Q E → sp ds M Q DX0 := by exact fun _ _ _ _ h => h) : Def P w K mg base CX0 3 "_law_some_measure" s_l_some_measure_bbc9 ["_law_generator_here", "_law_most"] sp :=
 T.h_l_some_measure_bbc9.ok (t := t_l_some_measure_bbc9 c_l_random_8926) sc_l_some_measure_bbc9 (fun f cdv A outer s H E hr gd => (dss_cons (ds_if (dt_cmp (opd_eq (u64 hr)) (dcall D_l_random_8926 hr gd (da_cons (dv 0) (da_cons de_int da_nil))) de_int (nomark _)) (dss_one (ds_ret (de_op opd_add de_int (de_op opd_mulI de_int (dcall D_l_random_8926 hr gd (da_cons (dv 0) (da_cons (de_blt (cd_max rfl) T.n_max (da_cons (de_op opd_fdiv (de_op opd_sub (dv 1) de_int) de_int) (da_cons de_int da_nil))) da_nil))))))) dss_nil)
 (dss_cons (ds_set (i := 2) sc_l_some_measure_bbc9.nd (de_op opd_add de_int (dcall D_l_random_8926 hr gd (da_cons (dv 0) (da_cons (de_op opd_sub (dv 1) de_int) da_nil)))))
 (dss_one (ds_ret (de_op opd_add (dv 2) (de_ix (de_lst (da_cons de_int (da_cons de_int (da_cons de_int (da_cons de_int da_nil))))) (de_op opd_mod (de_ty cd_int T.n_int (da_cons (dv 2) da_nil)) de_int)))))))) hread hX
theorem ok_l_great_7ce3 {c_l_tens_a574 c_l_random_8926 c_l_common_2228 c_l_is_cutting_5bf1 c_l_measure_919a : DSp} {sp : DSp} (T : Txt K mg base) (D_l_tens_a574 : Def P w K mg base CX0 1 "_law_tens" s_l_tens_a574 ["_law_count"] c_l_tens_a574) (D_l_random_8926 : Def P w K mg base CX0 2 "_law_random" s_l_random_8926 ["_law_generator_here", "_law_bound"] c_l_random_8926) (D_l_common_2228 : Def P w K mg base CX0 1 "_law_common" s_l_common_2228 ["_law_one", "_law_other"] c_l_common_2228) (D_l_is_cutting_5bf1 : Def P w K mg base CX0 2 "_law_is_cutting" s_l_is_cutting_5bf1 ["_law_value"] c_l_is_cutting_5bf1) (D_l_measure_919a : Def P w K mg base CX0 1 "_law_measure" s_l_measure_919a ["_law_cutting"] c_l_measure_919a) (hread : ∀ ds M Q, ds.length = 2 → sp ds M Q DX0 → t_l_great_7ce3 c_l_tens_a574 c_l_random_8926 c_l_common_2228 c_l_is_cutting_5bf1 c_l_measure_919a (dEnds M Q) (startD 9 ds) M) (hX : ∀ ds M Q E, sp ds M Q E → sp ds M Q DX0 := by exact fun _ _ _ _ h => h) : Def P w K mg base CX0 3 "_law_great" s_l_great_7ce3 ["_law_generator_here", "_law_most"] sp :=
 T.h_l_great_7ce3.ok (t := t_l_great_7ce3 c_l_tens_a574 c_l_random_8926 c_l_common_2228 c_l_is_cutting_5bf1 c_l_measure_919a) sc_l_great_7ce3 (fun f cdv A outer s H E hr gd => (dss_cons (ds_for rfl (di_range1 T.n_range (da_cons de_int da_nil)) (dg_name (i := 2) sc_l_great_7ce3.nd) (dss_cons (ds_par (i := 3) (j := 4) rfl sc_l_great_7ce3.nd (da_cons (dcall D_l_tens_a574 hr gd (da_cons (dcall D_l_random_8926 hr gd (da_cons (dv 0) (da_cons (de_op opd_add (dv 1) de_int) da_nil))) da_nil)) (da_cons (de_ix (de_lst (da_cons de_int (da_cons de_int (da_cons de_int (da_cons de_int (da_cons de_int (da_cons de_int da_nil))))))) (dcall D_l_random_8926 hr gd (da_cons (dv 0) (da_cons de_int da_nil)))) da_nil)))
 (dss_cons (ds_par (i := 5) (j := 6) rfl sc_l_great_7ce3.nd (da_cons (de_op opd_mulI (dv 4) (de_op opd_add de_int (dcall D_l_random_8926 hr gd (da_cons (dv 0) (da_cons (dv 3) da_nil))))) (da_cons (de_op opd_sub (dcall D_l_random_8926 hr gd (da_cons (dv 0) (da_cons (de_op opd_mulI de_int (dv 3)) da_nil))) (dv 3)) da_nil)))
 (dss_cons (ds_set (i := 7) sc_l_great_7ce3.nd (de_op opd_mulI (dv 4) (de_op opd_add (de_op opd_add (de_op opd_fdiv (de_blt (cd_max rfl) T.n_max (da_cons (de_op opd_add (dv 5) (dv 6)) (da_cons de_int da_nil))) (dv 4)) de_int) (dcall D_l_random_8926 hr gd (da_cons (dv 0) (da_cons (dv 3) da_nil))))))
 (dss_cons (ds_set (i := 8) sc_l_great_7ce3.nd (de_tup (da_cons (dcall D_l_random_8926 hr gd (da_cons (dv 0) (da_cons (dcall D_l_common_2228 hr gd (da_cons (dv 7) (da_cons (dv 5) da_nil))) da_nil))) (da_cons (dv 7) (da_cons (dv 5) (da_cons (dv 6) da_nil))))))
 (dss_one (ds_if (DW.dt (dw_and (dt_tru (dcall D_l_is_cutting_5bf1 hr gd (da_cons (dv 8) da_nil))) (dw_and1 (dt_cmp opd_gt (dcall D_l_measure_919a hr gd (da_cons (dv 8) da_nil)) de_int (nomark _))))) (dss_one (ds_ret (dv 8))) dss_nil)))))))
 (dss_one (ds_ret (de_tup (da_cons de_int (da_cons (de_op opd_add (dcall D_l_tens_a574 hr gd (da_cons (dv 1) da_nil)) de_int) (da_cons de_int (da_cons de_int da_nil))))))))) hread hX
theorem ok_l_great_right_fd0d {c_l_great_7ce3 c_l_led_9b7a c_l_some_word_3bfd c_l_signed_630a c_l_measure_919a c_sign : DSp} {sp : DSp} (T : Txt K mg base) (D_l_great_7ce3 : Def P w K mg base CX0 3 "_law_great" s_l_great_7ce3 ["_law_generator_here", "_law_most"] c_l_great_7ce3) (D_l_led_9b7a : Def P w K mg base CX0 3 "_law_led" s_l_led_9b7a ["_law_cutting", "_law_word"] c_l_led_9b7a) (D_l_some_word_3bfd : Def P w K mg base CX0 4 "_law_some_word" s_l_some_word_3bfd ["_law_generator_here", "_law_cutting", "_law_most"] c_l_some_word_3bfd) (D_l_signed_630a : Def P w K mg base CX0 1 "_law_signed" s_l_signed_630a ["_law_measure_here"] c_l_signed_630a) (D_l_measure_919a : Def P w K mg base CX0 1 "_law_measure" s_l_measure_919a ["_law_cutting"] c_l_measure_919a) (D_sign : Def P w K mg base CX0 5 "sign" s_sign ["cutting"] c_sign) (hread : ∀ ds M Q, ds.length = 1 → sp ds M Q DX0 → t_l_great_right_fd0d c_l_great_7ce3 c_l_led_9b7a c_l_some_word_3bfd c_l_signed_630a c_l_measure_919a c_sign (dEnds M Q) (startD 3 ds) M) (hX : ∀ ds M Q E, sp ds M Q E → sp ds M Q DX0 := by exact fun _ _ _ _ h => h) : Def P w K mg base CX0 6 "_law_great_right" s_l_great_right_fd0d ["_law_generator_here"] sp :=
 T.h_l_great_right_fd0d.ok (t := t_l_great_right_fd0d c_l_great_7ce3 c_l_led_9b7a c_l_some_word_3bfd c_l_signed_630a c_l_measure_919a c_sign) sc_l_great_right_fd0d (fun f cdv A outer s H E hr gd => (dss_cons (ds_set (i := 1) sc_l_great_right_fd0d.nd (dcall D_l_great_7ce3 hr gd (da_cons (dv 0) (da_cons de_int da_nil))))
 (dss_cons (ds_set (i := 2) sc_l_great_right_fd0d.nd (dcall D_l_led_9b7a hr gd (da_cons (dv 1) (da_cons (dcall D_l_some_word_3bfd hr gd (da_cons (dv 0) (da_cons (dv 1) (da_cons de_int da_nil)))) da_nil))))
 (dss_cons (ds_if (dt_not (dt_tru (dcall D_l_signed_630a hr gd (da_cons (dcall D_l_measure_919a hr gd (da_cons (dv 1) da_nil)) da_nil)))) (dss_one (ds_ret (de_and (de_cmp opd_is (dcall D_sign hr gd (da_cons (dv 1) da_nil)) de_non (nomark _)) (de_one (de_cmp opd_is (dcall D_sign hr gd (da_cons (dv 2) da_nil)) de_non (nomark _)))))) dss_nil)
 (dss_one (ds_ret (de_and (de_cmp (opd_in (u65 hr)) (de_blt (cd_repr gd (ux hr)) T.n_repr (da_cons (dcall D_sign hr gd (da_cons (dv 1) da_nil)) da_nil)) (de_lst (da_cons de_str (da_cons de_str da_nil))) (by rfl)) (de_one (de_cmp (opd_eq (u64 hr)) (dcall D_sign hr gd (da_cons (dv 1) da_nil)) (dcall D_sign hr gd (da_cons (dv 2) da_nil)) (nomark _)))))))))) hread hX
theorem ok_l_right_605e {c_l_random_8926 c_l_cuttings_78a4 c_l_sign_3b1d c_sign c_l_deeds_d0dc c_l_done_d2e5 c_l_some_measure_bbc9 c_l_great_right_fd0d : DSp} {sp : DSp} (T : Txt K mg base) (D_l_random_8926 : Def P w K mg base CX0 2 "_law_random" s_l_random_8926 ["_law_generator_here", "_law_bound"] c_l_random_8926) (D_l_cuttings_78a4 : Def P w K mg base CX0 3 "_law_cuttings" s_l_cuttings_78a4 ["_law_measure_here"] c_l_cuttings_78a4) (D_l_sign_3b1d : Def P w K mg base CX0 2 "_law_sign" s_l_sign_3b1d ["_law_cutting"] c_l_sign_3b1d) (D_sign : Def P w K mg base CX0 5 "sign" s_sign ["cutting"] c_sign) (D_l_deeds_d0dc : Def P w K mg base CX0 2 "_law_deeds" s_l_deeds_d0dc ["_law_cutting"] c_l_deeds_d0dc) (D_l_done_d2e5 : Def P w K mg base CX0 2 "_law_done" s_l_done_d2e5 ["_law_cutting", "_law_deed"] c_l_done_d2e5) (D_l_some_measure_bbc9 : Def P w K mg base CX0 3 "_law_some_measure" s_l_some_measure_bbc9 ["_law_generator_here", "_law_most"] c_l_some_measure_bbc9) (D_l_great_right_fd0d : Def P w K mg base CX0 6 "_law_great_right" s_l_great_right_fd0d ["_law_generator_here"] c_l_great_right_fd0d) (hread : ∀ ds M Q, ds.length = 1 → sp ds M Q DX0 → t_l_right_605e c_l_random_8926 c_l_cuttings_78a4 c_l_sign_3b1d c_sign c_l_deeds_d0dc c_l_done_d2e5 c_l_some_measure_bbc9 c_l_great_right_fd0d (dEnds M Q) (startD 10 ds) M) (hX : ∀ ds M Q E, sp ds M Q E → sp ds M Q DX0 := by exact fun _ _ _ _ h => h) : Def P w K mg base CX0 7 "_law_right" s_l_right_605e ["_law_generator_here"] sp :=
 T.h_l_right_605e.ok (t := t_l_right_605e c_l_random_8926 c_l_cuttings_78a4 c_l_sign_3b1d c_sign c_l_deeds_d0dc c_l_done_d2e5 c_l_some_measure_bbc9 c_l_great_right_fd0d) sc_l_right_605e (fun f cdv A outer s H E hr gd => (dss_cons (ds_set (i := 1) sc_l_right_605e.nd (de_op opd_add de_int (de_op opd_mulI de_int (dcall D_l_random_8926 hr gd (da_cons (dv 0) (da_cons de_int da_nil))))))
 (dss_cons (ds_set (i := 2) sc_l_right_605e.nd (dcall D_l_cuttings_78a4 hr gd (da_cons (dv 1) da_nil)))
 (dss_cons (ds_setLc false (i := 3) (own := [("_law_cutting", 4)]) rfl sc_l_right_605e.nd  (sw_true rfl rfl rfl (by decide +kernel)) (blkOk_by (N := ["_law_generator_here", "_law_measure_here", "_law_cuttings_here", "_law_due", "_law_cutting", "_law_told", "_law_turn_here", "_law_at", "_law_deed", "_law_other"]) (own := [("_law_cutting", 4)]) (sc := (defScope s_l_right_605e)) (by decide +kernel)) (di_seq (dv 2)) (fun _ _ _ _ _ => (dcg_name (i := 4) sc_l_right_605e.nd)) (fun _ _ _ _ _ => dts_nil) (fun _ _ _ _ _ => (dcall D_l_sign_3b1d hr gd (da_cons (dv 4) da_nil))))
 (dss_cons (ds_if (DW.dt (dw_or (dt_cmp (opd_ne (u64 hr)) (de_blt (cd_repr gd (ux hr)) T.n_repr (da_cons (de_lc false (own := [("_law_cutting", 4)]) rfl sc_l_right_605e.nd (blkOk_by (N := ["_law_generator_here", "_law_measure_here", "_law_cuttings_here", "_law_due", "_law_cutting", "_law_told", "_law_turn_here", "_law_at", "_law_deed", "_law_other"]) (own := [("_law_cutting", 4)]) (sc := (defScope s_l_right_605e)) (by decide +kernel)) (di_seq (dv 2)) (fun _ _ _ _ _ => (dcg_name (i := 4) sc_l_right_605e.nd)) (fun _ _ _ _ _ => dts_nil) (fun _ _ _ _ _ => (dcall D_sign hr gd (da_cons (dv 4) da_nil)))) da_nil)) (de_blt (cd_repr gd (ux hr)) T.n_repr (da_cons (dv 3) da_nil)) (nomark _)) (dw_or1 (dt_cmp (opd_ne (u64 hr)) (de_blt (cd_sortedDI rfl) T.n_sorted (da_cons (de_ty (cd_dictK rfl) T.n_dict (da_cons (de_lc false (own := [("_law_told", 5)]) rfl sc_l_right_605e.nd (blkOk_by (N := ["_law_generator_here", "_law_measure_here", "_law_cuttings_here", "_law_due", "_law_cutting", "_law_told", "_law_turn_here", "_law_at", "_law_deed", "_law_other"]) (own := [("_law_told", 5)]) (sc := (defScope s_l_right_605e)) (by decide +kernel)) (di_seq (dv 3)) (fun _ _ _ _ _ => (dcg_name (i := 5) sc_l_right_605e.nd)) (fun _ _ _ _ _ => dts_nil) (fun _ _ _ _ _ => (de_tup (da_cons (dv 5) (da_cons de_bl da_nil))))) da_nil)) da_nil)) (de_lst (da_cons de_int (da_cons de_int da_nil))) (nomark _))))) (dss_one (ds_ret de_bl)) dss_nil)
 (dss_cons (ds_for rfl (di_range1 T.n_range (da_cons de_int da_nil)) (dg_name (i := 6) sc_l_right_605e.nd) (dss_cons (ds_set (i := 7) sc_l_right_605e.nd (dcall D_l_random_8926 hr gd (da_cons (dv 0) (da_cons (de_blt cd_len T.n_len (da_cons (dv 2) da_nil)) da_nil))))
 (dss_cons (ds_for rfl (di_seq (de_sl false (dcall D_l_deeds_d0dc hr gd (da_cons (de_ix (dv 2) (dv 7)) da_nil)) do_none (do_some de_int))) (dg_name (i := 8) sc_l_right_605e.nd) (dss_one (ds_if (dt_cmp (opd_ne (u64 hr)) (dcall D_sign hr gd (da_cons (dcall D_l_done_d2e5 hr gd (da_cons (de_ix (dv 2) (dv 7)) (da_cons (dv 8) da_nil))) da_nil)) (de_ix (dv 3) (dv 7)) (nomark _)) (dss_one (ds_ret de_bl)) dss_nil)))
 (dss_one (ds_if (dt_cmp (opd_ne (u64 hr)) (dcallK [0] D_sign hr gd (dk_cons (de_ix (dv 2) (dv 7)) dk_nil) (ks := ["cutting"]) rfl (fun _ _ _ _ _ _ us hl => match us, hl with | [_], _ => rfl)) (de_ix (dv 3) (dv 7)) (nomark _)) (dss_one (ds_ret de_bl)) dss_nil)))))
 (dss_cons (ds_set (i := 9) sc_l_right_605e.nd (dcall D_l_cuttings_78a4 hr gd (da_cons (dcall D_l_some_measure_bbc9 hr gd (da_cons (dv 0) (da_cons de_int da_nil))) da_nil)))
 (dss_cons (ds_set (i := 4) sc_l_right_605e.nd (de_ix (dv 9) (dcall D_l_random_8926 hr gd (da_cons (dv 0) (da_cons (de_blt cd_len T.n_len (da_cons (dv 9) da_nil)) da_nil)))))
 (dss_one (ds_ret (de_and (de_cmp (opd_eq (u64 hr)) (de_blt (cd_repr gd (ux hr)) T.n_repr (da_cons (dcall D_sign hr gd (da_cons (dv 4) da_nil)) da_nil)) (de_blt (cd_repr gd (ux hr)) T.n_repr (da_cons (dcall D_l_sign_3b1d hr gd (da_cons (dv 4) da_nil)) da_nil)) (nomark _)) (de_one (dcall D_l_great_right_fd0d hr gd (da_cons (dv 0) da_nil)))))))))))))) hread hX
theorem ok_l_squares_right_3d47 {c_l_random_8926 c_l_is_cutting_5bf1 c_l_measure_919a c_sign : DSp} {sp : DSp} (T : Txt K mg base) (D_l_random_8926 : Def P w K mg base CX0 2 "_law_random" s_l_random_8926 ["_law_generator_here", "_law_bound"] c_l_random_8926) (D_l_is_cutting_5bf1 : Def P w K mg base CX0 2 "_law_is_cutting" s_l_is_cutting_5bf1 ["_law_value"] c_l_is_cutting_5bf1) (D_l_measure_919a : Def P w K mg base CX0 1 "_law_measure" s_l_measure_919a ["_law_cutting"] c_l_measure_919a) (D_sign : Def P w K mg base CX0 5 "sign" s_sign ["cutting"] c_sign) (hread : ∀ ds M Q, ds.length = 1 → sp ds M Q DX0 → t_l_squares_right_3d47 c_l_random_8926 c_l_is_cutting_5bf1 c_l_measure_919a c_sign (dEnds M Q) (startD 5 ds) M) (hX : ∀ ds M Q E, sp ds M Q E → sp ds M Q DX0 := by exact fun _ _ _ _ h => h) : Def P w K mg base CX0 6 "_law_squares_right" s_l_squares_right_3d47 ["_law_generator_here"] sp :=
 T.h_l_squares_right_3d47.ok (t := t_l_squares_right_3d47 c_l_random_8926 c_l_is_cutting_5bf1 c_l_measure_919a c_sign) sc_l_squares_right_3d47 (fun f cdv A outer s H E hr gd => (dss_cons (ds_par (i := 1) (j := 2) rfl sc_l_squares_right_3d47.nd (da_cons (de_op opd_add de_int (dcall D_l_random_8926 hr gd (da_cons (dv 0) (da_cons de_int da_nil)))) (da_cons (de_op opd_add (de_op opd_mulI de_int (dcall D_l_random_8926 hr gd (da_cons (dv 0) (da_cons de_int da_nil)))) de_int) da_nil)))
 (dss_cons (ds_set (i := 3) sc_l_squares_right_3d47.nd (de_op opd_add (de_op opd_mulI de_int (dv 1)) (dv 2)))
 (dss_cons (ds_set (i := 4) sc_l_squares_right_3d47.nd (de_tup (da_cons de_int (da_cons (de_op opd_mulI (dv 1) (de_op opd_add (dv 1) (dv 2))) (da_cons de_int (da_cons (dv 2) da_nil))))))
 (dss_cons (ds_if (dt_not (dt_tru (dcall D_l_is_cutting_5bf1 hr gd (da_cons (dv 4) da_nil)))) (dss_one (ds_ret de_bl)) dss_nil)
 (dss_one (ds_ret (de_and (de_cmp (opd_eq (u64 hr)) (dcall D_l_measure_919a hr gd (da_cons (dv 4) da_nil)) (de_op opd_mulI (dv 3) (dv 3)) (nomark _)) (de_one (de_cmp (opd_eq (u64 hr)) (de_blt (cd_repr gd (ux hr)) T.n_repr (da_cons (dcall D_sign hr gd (da_cons (dv 4) da_nil)) da_nil)) (de_blt (cd_repr gd (ux hr)) T.n_repr (da_cons (de_if (dt_cmp (opd_eq (u64 hr)) (dv 3) de_int (nomark _)) de_non (de_op opd_mod (de_ty cd_int T.n_int (da_cons (de_op opd_fdiv (de_op opd_sub (dv 2) (dv 3)) de_int) da_nil)) de_int)) da_nil)) (nomark _))))))))))) hread hX
theorem ok_l_law_f635 {c_l_far_right_6012 c_l_generator_b324 c_l_right_605e c_l_squares_right_3d47 c_sign c_l_sign_3b1d : DSp} {sp : DSp} (T : Txt K mg base) (D_l_far_right_6012 : Def P w K mg base CX0 6 "_law_far_right" s_l_far_right_6012 ["_law_generator_here"] c_l_far_right_6012) (D_l_generator_b324 : Def P w K mg base CX0 2 "_law_generator" s_l_generator_b324 ["_law_script", "_law_index"] c_l_generator_b324) (D_l_right_605e : Def P w K mg base CX0 7 "_law_right" s_l_right_605e ["_law_generator_here"] c_l_right_605e) (D_l_squares_right_3d47 : Def P w K mg base CX0 6 "_law_squares_right" s_l_squares_right_3d47 ["_law_generator_here"] c_l_squares_right_3d47) (D_sign : Def P w K mg base CX0 5 "sign" s_sign ["cutting"] c_sign) (D_l_sign_3b1d : Def P w K mg base CX0 2 "_law_sign" s_l_sign_3b1d ["_law_cutting"] c_l_sign_3b1d) (hread : ∀ ds M Q, ds.length = 1 → sp ds M Q DX0 → t_l_law_f635 c_l_far_right_6012 c_l_generator_b324 c_l_right_605e c_l_squares_right_3d47 c_sign c_l_sign_3b1d (dEnds M Q) (startD 3 ds) M) (hX : ∀ ds M Q E, sp ds M Q E → sp ds M Q DX0 := by exact fun _ _ _ _ h => h) : Def P w K mg base CX0 8 "law" s_l_law_f635 ["_law_script"] sp :=
 T.h_l_law_f635.ok (t := t_l_law_f635 c_l_far_right_6012 c_l_generator_b324 c_l_right_605e c_l_squares_right_3d47 c_sign c_l_sign_3b1d) sc_l_law_f635 (fun f cdv A outer s H E hr gd => (dss_cons (ds_if (dt_not (dt_tru (dcall D_l_far_right_6012 hr gd (da_cons (dcall D_l_generator_b324 hr gd (da_cons (dv 0) (da_cons de_int da_nil))) da_nil)))) (dss_one (ds_ret de_bl)) dss_nil)
 (dss_cons (ds_if (DW.dt (dw_or (dt_not (dt_tru (dcall D_l_right_605e hr gd (da_cons (dcall D_l_generator_b324 hr gd (da_cons (dv 0) (da_cons de_int da_nil))) da_nil)))) (dw_or1 (dt_not (dt_tru (dcall D_l_squares_right_3d47 hr gd (da_cons (dcall D_l_generator_b324 hr gd (da_cons (dv 0) (da_cons de_int da_nil))) da_nil))))))) (dss_one (ds_ret de_bl)) dss_nil)
 (dss_cons (ds_set (i := 1) sc_l_law_f635.nd (de_lst (da_cons (de_tup (da_cons de_int (da_cons de_int (da_cons de_int (da_cons (de_neg de_int) da_nil))))) (da_cons (de_tup (da_cons de_int (da_cons de_int (da_cons de_int (da_cons (de_neg de_int) da_nil))))) (da_cons (de_tup (da_cons de_int (da_cons de_int (da_cons de_int (da_cons (de_neg de_int) da_nil))))) (da_cons (de_tup (da_cons de_int (da_cons de_int (da_cons de_int (da_cons (de_neg de_int) da_nil))))) (da_cons (de_tup (da_cons de_int (da_cons de_int (da_cons de_int (da_cons (de_neg de_int) da_nil))))) (da_cons (de_tup (da_cons de_int (da_cons (de_op opd_pow de_int de_int) (da_cons de_int (da_cons de_int da_nil))))) da_nil))))))))
 (dss_one (ds_ret (de_and (de_cmp (opd_eq (u64 hr)) (de_lc false (own := [("_law_cutting", 2)]) rfl sc_l_law_f635.nd (blkOk_by (N := ["_law_script", "_law_told", "_law_cutting"]) (own := [("_law_cutting", 2)]) (sc := (defScope s_l_law_f635)) (by decide +kernel)) (di_seq (dv 1)) (fun _ _ _ _ _ => (dcg_name (i := 2) sc_l_law_f635.nd)) (fun _ _ _ _ _ => dts_nil) (fun _ _ _ _ _ => (dcall D_sign hr gd (da_cons (dv 2) da_nil)))) (de_lst (da_cons de_int (da_cons de_int (da_cons de_non (da_cons de_non (da_cons de_int (da_cons (dcall D_l_sign_3b1d hr gd (da_cons (de_tup (da_cons de_int (da_cons (de_op opd_pow de_int de_int) (da_cons de_int (da_cons de_int da_nil))))) da_nil)) da_nil))))))) (nomark _)) (de_one (de_cmp (opd_eq (u64 hr)) (dcall D_sign hr gd (da_cons (de_tup (da_cons de_int (da_cons de_int (da_cons de_int (da_cons (de_neg de_int) da_nil))))) da_nil)) de_int (nomark _)))))))))) hread hX
end
end C_k20
namespace DL
/-! MV: the heart's steps as a graph of places 0 .. n - 1 -/
def alF (f : Nat → Bool) : Nat → Nat → Bool
  | 0, _ => true
  | k + 1, s => f s && alF f k (s + 1)
theorem alF_iff {f : Nat → Bool} {k s : Nat} : alF f k s = true ↔ ∀ j, s ≤ j → j < s + k → f j = true := by
  induction k generalizing s with
  | zero => simp [alF]; intro j h1 h2; omega
  | succ k ih =>
    simp only [alF, Bool.and_eq_true, ih]
    constructor
    · rintro ⟨h, h'⟩ j h1 h2
      rcases Nat.eq_or_lt_of_le h1 with e | e
      · subst e; exact h
      · exact h' j (by omega) (by omega)
    · intro h
      exact ⟨h s (Nat.le_refl _) (by omega), fun j h1 h2 => h j (by omega) (by omega)⟩
end DL
/-! MA: whole roots, common divisors, sizes; plain -/
namespace DL
/-! ### a great number, by its name -/
def BIGN : Nat := 2 ^ 4000
def BIG : Int := (BIGN : Nat)
theorem bign_pos : 0 < BIGN := Nat.pow_pos (by decide)
theorem log2_of {i : Int} (n : Nat) (h : i.natAbs < 2 ^ n) (h0 : 0 < n) : i.natAbs.log2 < n := by
  by_cases z : i.natAbs = 0
  · rw [z]; simpa using h0
  · exact (Nat.log2_lt z).mpr h
/-! ### whole roots -/
def isqN (n : Nat) : Nat :=
  if h : n = 0 then 0
  else
    let r := 2 * isqN (n / 4)
    if (r + 1) * (r + 1) ≤ n then r + 1 else r
termination_by n
decreasing_by omega
theorem isqN_spec (n : Nat) : isqN n * isqN n ≤ n ∧ n < (isqN n + 1) * (isqN n + 1) := by
  induction n using Nat.strongRecOn with
  | ind n ih =>
    unfold isqN
    split
    · rename_i h; subst h; decide
    · rename_i h
      obtain ⟨h1, h2⟩ := ih (n / 4) (by omega)
      generalize isqN (n / 4) = s at *
      have e1 : 4 * (s * s) ≤ n := by omega
      have e2 : n < 4 * ((s + 1) * (s + 1)) := by omega
      have x1 : (2 * s) * (2 * s) = 4 * (s * s) := by rw [Nat.mul_mul_mul_comm]
      have x2 : (2 * s + 1) * (2 * s + 1) = 4 * (s * s) + 4 * s + 1 := by
        rw [Nat.add_mul, Nat.mul_add, x1]; omega
      have x3 : (s + 1) * (s + 1) = s * s + 2 * s + 1 := by
        rw [Nat.add_mul, Nat.mul_add]; omega
      have x4 : (2 * s + 1 + 1) * (2 * s + 1 + 1) = 4 * (s * s) + 8 * s + 4 := by
        rw [Nat.add_mul, Nat.mul_add, Nat.add_mul, Nat.mul_add, x1]; omega
      dsimp only
      split
      · rename_i hc
        exact ⟨hc, by rw [x4]; omega⟩
      · rename_i hc
        exact ⟨by rw [x1]; omega, by omega⟩
theorem isqN_uni {n r : Nat} (h1 : r * r ≤ n) (h2 : n < (r + 1) * (r + 1)) : isqN n = r := by
  obtain ⟨g1, g2⟩ := isqN_spec n
  rcases Nat.lt_trichotomy (isqN n) r with h | h | h
  · have : (isqN n + 1) * (isqN n + 1) ≤ r * r := Nat.mul_le_mul h h
    omega
  · exact h
  · have : (r + 1) * (r + 1) ≤ isqN n * isqN n := Nat.mul_le_mul h h
    omega
/-- the greatest count whose square is at most n -/
def isq (n : Int) : Int := (isqN n.toNat : Nat)
theorem isq_nn (n : Int) : 0 ≤ isq n := Int.natCast_nonneg _
theorem isq_le {n : Int} (h : 0 ≤ n) : isq n * isq n ≤ n := by
  have := (isqN_spec n.toNat).1
  unfold isq
  rw [← Int.natCast_mul]
  omega
theorem isq_lt {n : Int} (h : 0 ≤ n) : n < (isq n + 1) * (isq n + 1) := by
  have := (isqN_spec n.toNat).2
  unfold isq
  have e : ((isqN n.toNat : Int) + 1) * ((isqN n.toNat : Int) + 1) = (((isqN n.toNat + 1) * (isqN n.toNat + 1) : Nat) : Int) := by
    rw [Int.natCast_mul]; rfl
  rw [e]
  omega
theorem isq_uni {n r : Int} (h0 : 0 ≤ r) (h1 : r * r ≤ n) (h2 : n < (r + 1) * (r + 1)) : isq n = r := by
  obtain ⟨k, rfl⟩ := Int.eq_ofNat_of_zero_le h0
  have h1' : ((k * k : Nat) : Int) ≤ n := by rw [Int.natCast_mul]; exact h1
  have h2' : n < (((k + 1) * (k + 1) : Nat) : Int) := by rw [Int.natCast_mul]; exact h2
  unfold isq
  rw [isqN_uni (n := n.toNat) (r := k) (by omega) (by omega)]
theorem sq_lt {a b : Int} (ha : 0 ≤ a) (h : a < b) : a * a < b * b := by
  have := Int.mul_lt_mul' (Int.le_of_lt h) h ha (by omega : (0:Int) < b)
  exact this
theorem sq_le {a b : Int} (ha : 0 ≤ a) (h : a ≤ b) : a * a ≤ b * b := Int.mul_le_mul h h ha (by omega)
theorem lt_of_sq {a b : Int} (hb : 0 ≤ b) (h : a * a < b * b) : a < b := by
  by_cases z : a < b
  · exact z
  · have := sq_le hb (by omega : b ≤ a)
    omega
theorem isq_self {r : Int} (h : 0 ≤ r) : isq (r * r) = r := isq_uni h (Int.le_refl _) (sq_lt h (by omega))
/-- self is at most n -/
theorem isq_le_self {n : Int} (h : 0 ≤ n) : isq n ≤ n := by
  by_cases z : isq n ≤ n
  · exact z
  · have h1 := isq_le h
    have h2 := isq_nn n
    have h3 : 1 * isq n ≤ isq n * isq n := Int.mul_le_mul_of_nonneg_right (by omega) h2
    omega
theorem newton_ge {n x : Int} (hn : 0 ≤ n) (hx : 0 < x) : isq n ≤ (x + n / x) / 2 := by
  have h1 := isq_le hn
  generalize isq n = s at *
  have h2 : 0 ≤ (x - s) * (x - s) := by
    rcases Int.le_total 0 (x - s) with h | h
    · exact Int.mul_nonneg h h
    · have := Int.mul_nonneg (show (0:Int) ≤ -(x - s) by omega) (show (0:Int) ≤ -(x - s) by omega)
      rwa [Int.neg_mul_neg] at this
  have h3 : (x - s) * (x - s) = x * x - 2 * (s * x) + s * s := by
    rw [Int.sub_mul, Int.mul_sub, Int.mul_sub, Int.mul_comm x s]; omega
  have h4 : (2 * s - x) * x ≤ n := by
    have e : (2 * s - x) * x = 2 * (s * x) - x * x := by rw [Int.sub_mul, Int.mul_assoc]
    omega
  have h5 : 2 * s - x ≤ n / x := (Int.le_ediv_iff_mul_le hx).mpr h4
  omega
theorem newton_end {n x : Int} (hx : 0 < x) (h : x ≤ (x + n / x) / 2) : x * x ≤ n := by
  have h1 : x ≤ n / x := by omega
  exact (Int.le_ediv_iff_mul_le hx).mp h1
theorem sq_big {n x : Int} (hn : 0 ≤ n) (hx : 0 ≤ x) (h : n < x * x) : isq n ≤ x := by
  have h1 := isq_le hn
  have := lt_of_sq hx (by omega : isq n * isq n < x * x)
  omega
/-! ### common divisors -/
theorem gcd_step {l h : Int} (hl : 0 ≤ l) (hh : 0 < h) : Int.gcd h (l.fmod h) = Int.gcd l h := by
  obtain ⟨a, rfl⟩ := Int.eq_ofNat_of_zero_le hl
  obtain ⟨b, rfl⟩ := Int.eq_ofNat_of_zero_le (Int.le_of_lt hh)
  rw [Int.fmod_eq_emod_of_nonneg _ (by omega)]
  show Nat.gcd (b : Int).natAbs ((a : Int) % (b : Int)).natAbs = Nat.gcd (a : Int).natAbs (b : Int).natAbs
  rw [← Int.natCast_emod, Int.natAbs_natCast, Int.natAbs_natCast, Int.natAbs_natCast, Nat.gcd_comm b, Nat.gcd_comm a b]
  exact (Nat.gcd_rec b a).symm
theorem gcd_end {l : Int} (hl : 0 ≤ l) : ((Int.gcd l 0 : Nat) : Int) = l := by
  rw [Int.gcd_zero_right]; omega
end DL
namespace DL
open PySem PySem.Spec PyProof.Rows L2
theorem gIn_two {i a b : Int} {M : Mem} {Q : DQ} : gIn false (.int i) (.lst [.int a, .int b]) M Q = Q (.bl (i == a || i == b)) M := by
  show Q (.bl ((a == i || (b == i || false)) != false)) M = _
  have e : ((a == i || (b == i || false)) != false) = (i == a || i == b) := by
    rw [Bool.bne_false, Bool.or_false, Bool.beq_comm (a := a), Bool.beq_comm (a := b)]
  rw [e]
theorem gRepr_bl {b : Bool} {M : Mem} {Q : DQ} : gRepr [.bl b] M Q = Q (.str (PyData.shown (.bool b))) M := by
  cases b <;> rfl
local macro_rules | `(tactic| walk_at "rd") => `(tactic| simp only [startD, List.map, List.replicate, List.length_cons, List.length_nil, List.append_eq, List.append_nil, List.nil_append, List.cons_append, Nat.reduceSub, Nat.reduceAdd, List.getElem?_cons_zero, List.getElem?_cons_succ, List.set_cons_zero, List.set_cons_succ,
  dC, dVar, dOp, dTru, gTru, tru, dChain, dAnd, dOr, dNot, dAndV, dOrV, dNotV, dIf, dNeg, gNeg, dNil, dCons, dTup, dLst, dOwn, gIx, rBin, gAdd, gCmpI, dCall, dCallK, dSeq, dNext, dDrop, dRet, dRetN, dIfS, dName, dGNil, dGCons, dGTup, dSub, gSetL, dAsg, dPar, dPar3, dAug, gIpI, dSeqI, gSeqI, dRngI, gRng1, gRng2, dCB, gAbs, gInt, gMax, gMin, gGcd, gLen, lenD, gIsi, tyM, tyD, dBits, gBits, dMet, gAppend, dPart, dNoPart, dSl, dEnds, gIs, isB, dNever, dFor, dLc, wipeD, dYes,
  sizeLine_eq, Nat.reduceLeDiff, gEq_int, gNe_int, gEq_strs, gNe_strs, gIn_two, gRepr_bl, rs_lst, rs_tup, rs_scr, rs_int, atI_0, atI_1, atI_2, atI_3, atI_4, atI_5, ixN_30, ixN_31, ixN_32, gEq_bl, gNe_bl, decide_eq_true_eq, beq_iff_eq, Bool.not_eq_true', beq_eq_false_iff_ne, decide_eq_false_iff_not, Bool.not_true, Bool.not_false, if_true, if_false, Bool.false_eq_true, ite_true, ite_false, true_and, and_true, ne_eq, Bool.bne_false, Bool.bne_true, reduceCtorEq])
/-! ### sizes -/
theorem sm_big8 {i : Int} (h1 : -(8 * BIG) ≤ i) (h2 : i ≤ 8 * BIG) : Sm i := by
  refine Sm.of 4004 ?_ (by decide)
  have h3 : (2 : Nat) ^ 4004 = 16 * BIGN := by unfold BIGN; rw [Nat.pow_add 2 4000 4, Nat.mul_comm]
  have h4 := bign_pos
  rw [h3]
  unfold BIG at h1 h2
  omega
theorem cdiv_big {a i : Int} (h0 : i ≠ 0) (h1 : -(8 * BIG) ≤ i) (h2 : i ≤ 8 * BIG) : CDiv a i := by
  refine ⟨h0, Nat.lt_of_lt_of_le (log2_of 4004 ?_ (by decide)) (by decide)⟩
  have h3 : (2 : Nat) ^ 4004 = 16 * BIGN := by unfold BIGN; rw [Nat.pow_add 2 4000 4, Nat.mul_comm]
  have h4 := bign_pos
  rw [h3]
  unfold BIG at h1 h2
  omega
theorem fdiv_pos {a b : Int} (h : 0 < b) : a.fdiv b = a / b := Int.fdiv_eq_ediv_of_nonneg a (Int.le_of_lt h)
theorem fmod_pos {a b : Int} (h : 0 < b) : a.fmod b = a % b := Int.fmod_eq_emod_of_nonneg a (Int.le_of_lt h)
/-! ### kinds -/
theorem kb_NoneType_int : kitB "NoneType" "int" = some false := by decide +kernel
theorem kb_bool_int : kitB "bool" "int" = some true := by decide +kernel
theorem kb_int_int : kitB "int" "int" = some true := by decide +kernel
theorem kb_str_int : kitB "str" "int" = some false := by decide +kernel
theorem kb_tuple_int : kitB "tuple" "int" = some false := by decide +kernel
theorem kb_list_int : kitB "list" "int" = some false := by decide +kernel
theorem kb_dict_int : kitB "dict" "int" = some false := by decide +kernel
theorem kb_NoneType_bool : kitB "NoneType" "bool" = some false := by decide +kernel
theorem kb_bool_bool : kitB "bool" "bool" = some true := by decide +kernel
theorem kb_int_bool : kitB "int" "bool" = some false := by decide +kernel
theorem kb_str_bool : kitB "str" "bool" = some false := by decide +kernel
theorem kb_tuple_bool : kitB "tuple" "bool" = some false := by decide +kernel
theorem kb_list_bool : kitB "list" "bool" = some false := by decide +kernel
theorem kb_dict_bool : kitB "dict" "bool" = some false := by decide +kernel
theorem kb_NoneType_tuple : kitB "NoneType" "tuple" = some false := by decide +kernel
theorem kb_bool_tuple : kitB "bool" "tuple" = some false := by decide +kernel
theorem kb_int_tuple : kitB "int" "tuple" = some false := by decide +kernel
theorem kb_str_tuple : kitB "str" "tuple" = some false := by decide +kernel
theorem kb_tuple_tuple : kitB "tuple" "tuple" = some true := by decide +kernel
theorem kb_list_tuple : kitB "list" "tuple" = some false := by decide +kernel
theorem kb_dict_tuple : kitB "dict" "tuple" = some false := by decide +kernel
theorem kb_NoneType_list : kitB "NoneType" "list" = some false := by decide +kernel
theorem kb_bool_list : kitB "bool" "list" = some false := by decide +kernel
theorem kb_int_list : kitB "int" "list" = some false := by decide +kernel
theorem kb_str_list : kitB "str" "list" = some false := by decide +kernel
theorem kb_tuple_list : kitB "tuple" "list" = some false := by decide +kernel
theorem kb_list_list : kitB "list" "list" = some true := by decide +kernel
theorem kb_dict_list : kitB "dict" "list" = some false := by decide +kernel
local macro_rules | `(tactic| walk_at "kb") => `(tactic| simp only [kb_NoneType_list, kb_bool_list, kb_int_list, kb_str_list, kb_tuple_list, kb_list_list, kb_dict_list, kb_NoneType_int, kb_bool_int, kb_int_int, kb_str_int, kb_tuple_int, kb_list_int, kb_dict_int, kb_NoneType_bool, kb_bool_bool, kb_int_bool, kb_str_bool, kb_tuple_bool, kb_list_bool, kb_dict_bool, kb_NoneType_tuple, kb_bool_tuple, kb_int_tuple, kb_str_tuple, kb_tuple_tuple, kb_list_tuple, kb_dict_tuple, if_true, if_false, Bool.false_eq_true, ite_true, ite_false, Bool.not_true, Bool.not_false])
/-! ### measures -/
def isW : D → Bool
  | .int _ => true
  | _ => false
/-- is_whole(d), d any data -/
def sp_is_whole : DSp := fun ds M Q _ => ∃ d T, ds = [d] ∧ tyM M d = some T ∧ Q (.bl (isW d)) M
theorem rd_is_whole : ∀ ds M Q, ds.length = 1 → sp_is_whole ds M Q DX0 → t_is_whole (dEnds M Q) (startD 1 ds) M := by
  rintro _ M Q _ ⟨d, T, rfl, ht, q⟩
  unfold t_is_whole
  cases d <;> first | (cases ht; done) | skip
  all_goals walk_at "rd"
  case own k =>
    unfold tyM at ht
    dsimp only at ht
    split at ht
    · rename_i ds hk
      simp only [hk]
      walk_at "kb"
      exact rtq q
    · cases ht
  all_goals walk_at "kb"
  all_goals exact rtq q
/-- the common divisor of two ints -/
def sp_gcd : DSp := fun ds M Q _ => ∃ a b : Int, ds = [.int a, .int b] ∧ Q (.int (Int.gcd a b)) M
theorem gcd_abs (a b : Int) : Int.gcd (if a < 0 then -a else a) (if b < 0 then -b else b) = Int.gcd a b := by
  split <;> split <;> simp
theorem rd_common_by : ∀ ds M Q, ds.length = 2 → sp_gcd ds M Q DX0 → t_common_by (dEnds M Q) (startD 4 ds) M := by
  rintro _ M Q _ ⟨a, b, rfl, q⟩
  unfold t_common_by
  walk_at "rd"
  refine dwhile_of (fun n r M' => ∃ l h : Int, r = [some (.int a), some (.int b), some (.int l), some (.int h)] ∧ M' = M ∧ 0 ≤ l ∧ 0 ≤ h ∧ Int.gcd l h = Int.gcd a b ∧ n = h.toNat) _ ⟨_, _, rfl, rfl, ?_, ?_, gcd_abs a b, rfl⟩ ?_
  · split <;> omega
  · split <;> omega
  · rintro n r M' ⟨l, h, rfl, rfl, hl, hh, hg, rfl⟩
    walk_at "rd"
    split
    · rename_i h0
      have hp : 0 < h := by omega
      refine ⟨h0, _, ?_, h, l.fmod h, rfl, hh, ?_, (gcd_step hl hp).trans hg, rfl⟩
      · rw [fmod_pos hp]
        have := Int.emod_lt_of_pos l hp
        have := Int.emod_nonneg l h0
        omega
      · rw [fmod_pos hp]; exact Int.emod_nonneg l h0
    · rename_i h0
      have h0 : h = 0 := by omega
      subst h0
      rw [← hg, gcd_end hl] at q
      exact rtq q
/-- the whole root of a count -/
def sp_isq : DSp := fun ds M Q _ => ∃ n : Int, ds = [.int n] ∧ 0 ≤ n ∧ n ≤ BIG ∧ Q (.int (isq n)) M
theorem rd_root_floor_by : ∀ ds M Q, ds.length = 1 → sp_isq ds M Q DX0 → t_root_floor_by (dEnds M Q) (startD 3 ds) M := by
  rintro _ M Q _ ⟨n, rfl, h0, hB, q⟩
  unfold t_root_floor_by
  walk_at "rd"
  split
  · rename_i h2
    have : isq n = n := by
      rcases (by omega : n = 0 ∨ n = 1) with e | e <;> subst e
      · exact isq_self (r := 0) (by decide)
      · exact isq_self (r := 1) (by decide)
    rw [this] at q
    exact rtq q
  · rename_i h2
    refine dwhile_of (fun m r M' => ∃ f : Int, r = [some (.int n), some (.int f), none] ∧ M' = M ∧ 1 ≤ f ∧ f ≤ 2 * n ∧ m = (2 * n + 2 - f).toNat) _ ⟨1, rfl, rfl, by omega, by omega, rfl⟩ ?_
    rintro m r M' ⟨f, rfl, rfl, hf, hf2, rfl⟩
    walk_at "rd"
    have sf : Sm f := sm_big8 (by omega) (by omega)
    refine ⟨⟨sf, sf⟩, ?_⟩
    split
    · rename_i hc
      refine ⟨⟨Sm.of 4 (by decide), sf⟩, _, ?_, 2 * f, rfl, by omega, ?_, rfl⟩
      · have : f * 1 ≤ f * f := Int.mul_le_mul_of_nonneg_left hf (by omega)
        omega
      · have : f * 1 ≤ f * f := Int.mul_le_mul_of_nonneg_left hf (by omega)
        omega
    · rename_i hc
      have dv : ∀ x : Int, 1 ≤ x → x ≤ 2 * n → CDiv n x := fun x h1 h3 => cdiv_big (by omega) (by omega) (by omega)
      have d2 : ∀ x : Int, CDiv x 2 := fun x => ⟨by decide, by decide⟩
      refine ⟨dv f hf hf2, d2 _, ?_⟩
      refine dwhile_of (fun m r M'' => ∃ x : Int, r = [some (.int n), some (.int x), some (.int ((x + n.fdiv x).fdiv 2))] ∧ M'' = M' ∧ 1 ≤ x ∧ x ≤ 2 * n ∧ isq n ≤ x ∧ m = x.toNat) _ ⟨f, rfl, rfl, hf, hf2, sq_big h0 (by omega) (by omega), rfl⟩ ?_
      rintro m r M'' ⟨x, rfl, rfl, hx, hx2, hs, rfl⟩
      walk_at "rd"
      have e1 : n.fdiv x = n / x := fdiv_pos (by omega)
      have e2 : ∀ y : Int, y.fdiv 2 = y / 2 := fun y => fdiv_pos (by decide)
      rw [e2, e1]
      have ng := newton_ge h0 (x := x) (by omega)
      have h1q : 1 ≤ isq n := by
        by_cases z : 1 ≤ isq n
        · exact z
        · have e : isq n = 0 := by have := isq_nn n; omega
          have := isq_lt h0
          rw [e] at this
          omega
      split
      · rename_i hlt
        refine ⟨dv _ (by omega) (by omega), d2 _, _, ?_, (x + n / x) / 2, ?_, by omega, by omega, ng, rfl⟩
        · omega
        · rw [e2]
      · rename_i hge
        have e : isq n = x := isq_uni (by omega) (newton_end (by omega) (by omega)) (by
          have h3 := isq_lt h0
          have : (isq n + 1) * (isq n + 1) ≤ (x + 1) * (x + 1) := sq_le (by omega) (by omega)
          omega)
        rw [e] at q
        exact rtq q
end DL
namespace DL
open PySem PySem.Spec PyProof.Rows L2
local macro_rules | `(tactic| walk_at "rd") => `(tactic| simp only [startD, List.map, List.replicate, List.length_cons, List.length_nil, List.append_eq, List.append_nil, List.nil_append, List.cons_append, Nat.reduceSub, Nat.reduceAdd, List.getElem?_cons_zero, List.getElem?_cons_succ, List.set_cons_zero, List.set_cons_succ,
  dC, dVar, dOp, dTru, gTru, tru, dChain, dAnd, dOr, dNot, dAndV, dOrV, dNotV, dIf, dNeg, gNeg, dNil, dCons, dTup, dLst, dOwn, gIx, rBin, gAdd, gCmpI, dCall, dCallK, dSeq, dNext, dDrop, dRet, dRetN, dIfS, dName, dGNil, dGCons, dGTup, dSub, gSetL, dAsg, dPar, dPar3, dAug, gIpI, dSeqI, gSeqI, dRngI, gRng1, gRng2, dCB, gAbs, gInt, gMax, gMin, gGcd, gLen, lenD, gIsi, tyM, tyD, dBits, gBits, dMet, gAppend, dPart, dNoPart, dSl, dEnds, gIs, isB, dNever, dFor, dLc, wipeD, dYes,
  sizeLine_eq, Nat.reduceLeDiff, gEq_int, gNe_int, gEq_strs, gNe_strs, gIn_two, gRepr_bl, rs_lst, rs_tup, rs_scr, rs_int, atI_0, atI_1, atI_2, atI_3, atI_4, atI_5, ixN_30, ixN_31, ixN_32, gEq_bl, gNe_bl, decide_eq_true_eq, beq_iff_eq, Bool.not_eq_true', beq_eq_false_iff_ne, decide_eq_false_iff_not, Bool.not_true, Bool.not_false, if_true, if_false, Bool.false_eq_true, ite_true, ite_false, true_and, and_true, ne_eq, Bool.bne_false, Bool.bne_true, reduceCtorEq])
local macro_rules | `(tactic| walk_at "rh") => `(tactic| simp only [*, startD, List.map, List.replicate, List.length_cons, List.length_nil, List.append_eq, List.append_nil, List.nil_append, List.cons_append, Nat.reduceSub, Nat.reduceAdd, List.getElem?_cons_zero, List.getElem?_cons_succ, List.set_cons_zero, List.set_cons_succ,
  dC, dVar, dOp, dTru, gTru, tru, dChain, dAnd, dOr, dNot, dAndV, dOrV, dNotV, dIf, dNeg, gNeg, dNil, dCons, dTup, dLst, dOwn, gIx, rBin, gAdd, gCmpI, dCall, dCallK, dSeq, dNext, dDrop, dRet, dRetN, dIfS, dName, dGNil, dGCons, dGTup, dSub, gSetL, dAsg, dPar, dPar3, dAug, gIpI, dSeqI, gSeqI, dRngI, gRng1, gRng2, dCB, gAbs, gInt, gMax, gMin, gGcd, gLen, lenD, gIsi, tyM, tyD, dBits, gBits, dMet, gAppend, dPart, dNoPart, dSl, dEnds, gIs, isB, dNever, dFor, dLc, wipeD, dYes,
  sizeLine_eq, Nat.reduceLeDiff, gEq_int, gNe_int, gEq_strs, gNe_strs, gIn_two, gRepr_bl, rs_lst, rs_tup, rs_scr, rs_int, atI_0, atI_1, atI_2, atI_3, atI_4, atI_5, ixN_30, ixN_31, ixN_32, gEq_bl, gNe_bl, decide_eq_true_eq, beq_iff_eq, Bool.not_eq_true', beq_eq_false_iff_ne, decide_eq_false_iff_not, Bool.not_true, Bool.not_false, if_true, if_false, Bool.false_eq_true, ite_true, ite_false, true_and, and_true, ne_eq, Bool.bne_false, Bool.bne_true, reduceCtorEq])
local macro_rules | `(tactic| walk_at "kb") => `(tactic| simp only [kb_NoneType_list, kb_bool_list, kb_int_list, kb_str_list, kb_tuple_list, kb_list_list, kb_dict_list, kb_NoneType_int, kb_bool_int, kb_int_int, kb_str_int, kb_tuple_int, kb_list_int, kb_dict_int, kb_NoneType_bool, kb_bool_bool, kb_int_bool, kb_str_bool, kb_tuple_bool, kb_list_bool, kb_dict_bool, kb_NoneType_tuple, kb_bool_tuple, kb_int_tuple, kb_str_tuple, kb_tuple_tuple, kb_list_tuple, kb_dict_tuple, if_true, if_false, Bool.false_eq_true, ite_true, ite_false, Bool.not_true, Bool.not_false])
/-! ### bounds and measures -/
theorem isW_iff {d : D} : isW d = true ↔ ∃ i, d = .int i := by cases d <;> simp [isW]
def isMeas (d : D) : Bool := match d with
  | .int i => decide (5 ≤ i) && (i % 4 == 0 || i % 4 == 1)
  | _ => false
/-! ### root numbers -/
/-- the items that are no whole numbers -/
def bads (l : List D) : List D := l.filterMap fun e => if isW e = true then none else some e
theorem bads_fine {n : Nat} {l : List D} (h : ∀ e ∈ l, fine n e = true) : fineAll n (bads l) = true := by
  rw [fineAll_iff]
  intro d hd
  obtain ⟨e, he, hs⟩ := List.mem_filterMap.mp hd
  split at hs
  · cases hs
  · cases hs; exact h _ he
theorem bads_nil {l : List D} (h : (bads l).isEmpty = true) : ∀ e ∈ l, isW e = true := by
  intro e he
  have h0 : bads l = [] := List.isEmpty_iff.mp h
  by_cases hw : isW e = true
  · exact hw
  · have : e ∈ bads l := List.mem_filterMap.mpr ⟨e, he, by rw [if_neg hw]⟩
    rw [h0] at this; cases this
theorem bads_some {l : List D} (h : (bads l).isEmpty = false) : ∃ e ∈ l, isW e = false := by
  cases hb : bads l with
  | nil => rw [hb] at h; cases h
  | cons x xs =>
    have : x ∈ bads l := by rw [hb]; exact List.mem_cons_self
    obtain ⟨e, he, hs⟩ := List.mem_filterMap.mp this
    refine ⟨e, he, ?_⟩
    split at hs
    · cases hs
    · rename_i hw; exact Bool.eq_false_iff.mpr hw
/-! ### the least form of a root number -/
def isSq (m : Int) : Prop := isq m * isq m = m
instance (m : Int) : Decidable (isSq m) := inferInstanceAs (Decidable (_ = _))
def rnX (m x y : Int) : Int := if isSq m then x + y * isq m else x
def rnY (m y : Int) : Int := if isSq m then 0 else y
def rnC (m x y b : Int) : Int := if b < 0 then 0 - (Int.gcd (Int.gcd (rnX m x y) (rnY m y) : Int) b : Int) else (Int.gcd (Int.gcd (rnX m x y) (rnY m y) : Int) b : Int)
def rootN (m x y b : Int) : D := .tup [.int ((rnX m x y).fdiv (rnC m x y b)), .int ((rnY m y).fdiv (rnC m x y b)), .int (b.fdiv (rnC m x y b))]
theorem gcd_bound {g b : Int} (hb : b ≠ 0) : (1 : Int) ≤ Int.gcd g b ∧ (Int.gcd g b : Int) ≤ b.natAbs := by
  have h1 : 0 < Int.gcd g b := Int.gcd_pos_of_ne_zero_right g hb
  have h2 : Int.gcd g b ≤ b.natAbs := Nat.le_of_dvd (by omega) (Int.gcd_dvd_natAbs_right g b)
  omega
theorem meas_ge {m : Int} (h : isMeas (.int m) = true) : 5 ≤ m := by
  simp only [isMeas, Bool.and_eq_true, decide_eq_true_eq] at h
  exact h.1
end DL
namespace DL
open PySem PySem.Spec PyProof.Rows L2
local macro_rules | `(tactic| walk_at "rd") => `(tactic| simp only [startD, List.map, List.replicate, List.length_cons, List.length_nil, List.append_eq, List.append_nil, List.nil_append, List.cons_append, Nat.reduceSub, Nat.reduceAdd, List.getElem?_cons_zero, List.getElem?_cons_succ, List.set_cons_zero, List.set_cons_succ,
  dC, dVar, dOp, dTru, gTru, tru, dChain, dAnd, dOr, dNot, dAndV, dOrV, dNotV, dIf, dNeg, gNeg, dNil, dCons, dTup, dLst, dOwn, gIx, rBin, gAdd, gCmpI, dCall, dCallK, dSeq, dNext, dDrop, dRet, dRetN, dIfS, dName, dGNil, dGCons, dGTup, dSub, gSetL, dAsg, dPar, dPar3, dAug, gIpI, dSeqI, gSeqI, dRngI, gRng1, gRng2, dCB, gAbs, gInt, gMax, gMin, gGcd, gLen, lenD, gIsi, tyM, tyD, dBits, gBits, dMet, gAppend, dPart, dNoPart, dSl, dEnds, gIs, isB, dNever, dFor, dLc, wipeD, dYes,
  sizeLine_eq, Nat.reduceLeDiff, gEq_int, gNe_int, gEq_strs, gNe_strs, gIn_two, gRepr_bl, rs_lst, rs_tup, rs_scr, rs_int, atI_0, atI_1, atI_2, atI_3, atI_4, atI_5, ixN_30, ixN_31, ixN_32, gEq_bl, gNe_bl, decide_eq_true_eq, beq_iff_eq, Bool.not_eq_true', beq_eq_false_iff_ne, decide_eq_false_iff_not, Bool.not_true, Bool.not_false, if_true, if_false, Bool.false_eq_true, ite_true, ite_false, true_and, and_true, ne_eq, Bool.bne_false, Bool.bne_true, reduceCtorEq])
local macro_rules | `(tactic| walk_at "rh") => `(tactic| simp only [*, startD, List.map, List.replicate, List.length_cons, List.length_nil, List.append_eq, List.append_nil, List.nil_append, List.cons_append, Nat.reduceSub, Nat.reduceAdd, List.getElem?_cons_zero, List.getElem?_cons_succ, List.set_cons_zero, List.set_cons_succ,
  dC, dVar, dOp, dTru, gTru, tru, dChain, dAnd, dOr, dNot, dAndV, dOrV, dNotV, dIf, dNeg, gNeg, dNil, dCons, dTup, dLst, dOwn, gIx, rBin, gAdd, gCmpI, dCall, dCallK, dSeq, dNext, dDrop, dRet, dRetN, dIfS, dName, dGNil, dGCons, dGTup, dSub, gSetL, dAsg, dPar, dPar3, dAug, gIpI, dSeqI, gSeqI, dRngI, gRng1, gRng2, dCB, gAbs, gInt, gMax, gMin, gGcd, gLen, lenD, gIsi, tyM, tyD, dBits, gBits, dMet, gAppend, dPart, dNoPart, dSl, dEnds, gIs, isB, dNever, dFor, dLc, wipeD, dYes,
  sizeLine_eq, Nat.reduceLeDiff, gEq_int, gNe_int, gEq_strs, gNe_strs, gIn_two, gRepr_bl, rs_lst, rs_tup, rs_scr, rs_int, atI_0, atI_1, atI_2, atI_3, atI_4, atI_5, ixN_30, ixN_31, ixN_32, gEq_bl, gNe_bl, decide_eq_true_eq, beq_iff_eq, Bool.not_eq_true', beq_eq_false_iff_ne, decide_eq_false_iff_not, Bool.not_true, Bool.not_false, if_true, if_false, Bool.false_eq_true, ite_true, ite_false, true_and, and_true, ne_eq, Bool.bne_false, Bool.bne_true, reduceCtorEq])
local macro_rules | `(tactic| walk_at "kb") => `(tactic| simp only [kb_NoneType_list, kb_bool_list, kb_int_list, kb_str_list, kb_tuple_list, kb_list_list, kb_dict_list, kb_NoneType_int, kb_bool_int, kb_int_int, kb_str_int, kb_tuple_int, kb_list_int, kb_dict_int, kb_NoneType_bool, kb_bool_bool, kb_int_bool, kb_str_bool, kb_tuple_bool, kb_list_bool, kb_dict_bool, kb_NoneType_tuple, kb_bool_tuple, kb_int_tuple, kb_str_tuple, kb_tuple_tuple, kb_list_tuple, kb_dict_tuple, if_true, if_false, Bool.false_eq_true, ite_true, ite_false, Bool.not_true, Bool.not_false])
/-! ### the law's own draws -/
theorem sm_of {i : Int} (n : Nat) (h1 : -(2 ^ n : Int) < i) (h2 : i < 2 ^ n) (hn : n ≤ 400000 := by decide) : Sm i := by
  refine Sm.of n ?_ hn
  have e : ((2 ^ n : Nat) : Int) = (2 : Int) ^ n := by rw [Int.natCast_pow]; rfl
  omega
theorem fm_range {a b : Int} (h : 0 < b) : 0 ≤ a.fmod b ∧ a.fmod b < b := by
  rw [fmod_pos h]
  exact ⟨Int.emod_nonneg _ (by omega), Int.emod_lt_of_pos _ h⟩
def P31 : Int := 2147483648
def P40 : Int := 1099511627776
def sp_hash : DSp := fun ds M Q _ => ∃ s c : Int, ds = [.int s, .int c] ∧ 0 ≤ s ∧ s < P31 ∧ 0 ≤ c ∧ c ≤ P40 ∧ ∀ v, 0 ≤ v → v < P31 → Q (.int v) M
/-- cell k is a generator that has counted n, at most -/
def Gn (k : Nat) (n : Int) (M : Mem) : Prop := ∃ a s c : Int, M[k]? = some (.lst [.int a, .int s, .int c]) ∧ 0 ≤ s ∧ s < P31 ∧ 0 ≤ c ∧ c ≤ n
/-- cell k alone has changed -/
def Gst (k : Nat) (n : Int) (M M' : Mem) : Prop := M'.length = M.length ∧ Gn k n M' ∧ ∀ i, i ≠ k → M'[i]? = M[i]?
theorem Gn.le {k : Nat} {n m : Int} {M : Mem} (h : Gn k n M) (hn : n ≤ m) : Gn k m M := by
  obtain ⟨a, s, c, h1, h2, h3, h4, h5⟩ := h
  exact ⟨a, s, c, h1, h2, h3, h4, by omega⟩
theorem Gst.refl {k : Nat} {n : Int} {M : Mem} (h : Gn k n M) : Gst k n M M := ⟨rfl, h, fun _ _ => rfl⟩
theorem Gst.trans {k : Nat} {n m : Int} {M M' M'' : Mem} (h : Gst k n M M') (g : Gst k m M' M'') : Gst k m M M'' :=
  ⟨g.1.trans h.1, g.2.1, fun i hi => (g.2.2 i hi).trans (h.2.2 i hi)⟩
theorem Gst.le {k : Nat} {n m : Int} {M M' : Mem} (h : Gst k n M M') (hn : n ≤ m) : Gst k m M M' := ⟨h.1, h.2.1.le hn, h.2.2⟩
theorem Gst.set {k : Nat} {n : Int} {M : Mem} {a s c : Int} (hk : k < M.length) (h2 : 0 ≤ s) (h3 : s < P31) (h4 : 0 ≤ c) (h5 : c ≤ n) : Gst k n M (M.set k (.lst [.int a, .int s, .int c])) :=
  ⟨List.length_set, ⟨a, s, c, List.getElem?_set_self hk, h2, h3, h4, h5⟩, fun _ hi => List.getElem?_set_ne (Ne.symm hi)⟩
/-- a def that has changed the generator alone -/
theorem Gst.rtq {k : Nat} {n : Int} {M M' : Mem} {Q : DQ} {d : D} (h : Gst k n M M') (q : Q d M') (hb : below M'.length d = true := by rfl) : Rtq M Q d M' := by
  refine rtqC q (Nat.le_of_eq h.1.symm) hb fun i c hc => ?_
  by_cases hi : i = k
  · subst hi
    obtain ⟨a, s, c', e, _⟩ := h.2.1
    rw [e] at hc
    cases hc
    exact .inr rfl
  · rw [h.2.2 i hi] at hc
    exact .inl hc
def sp_random : DSp := fun ds M Q _ => ∃ (k : Nat) (b n : Int), ds = [.own k, .int b] ∧ 0 < b ∧ b < 2 ^ 900 ∧ Gn k n M ∧ n ≤ P40 - 40 ∧ ∀ v M', 0 ≤ v → v < b → Gst k (n + 40) M M' → Q (.int v) M'
theorem bits_le {b : Int} {n : Nat} (h0 : 0 < b) (h : b < 2 ^ n) : Builtin.Int.intBits b ≤ n := by
  unfold Builtin.Int.intBits
  rw [if_neg (by simp; omega)]
  have h1 : b.natAbs < 2 ^ n := by
    have e : ((2 ^ n : Nat) : Int) = (2 : Int) ^ n := by rw [Int.natCast_pow]; rfl
    omega
  have := (Nat.log2_lt (by omega)).mpr h1
  omega
theorem rd_l_random_7821 : ∀ ds M Q, ds.length = 2 → sp_random ds M Q DX0 → t_l_random_7821 sp_hash (dEnds M Q) (startD 4 ds) M := by
  rintro _ M Q - ⟨k, b, n, rfl, b0, b1, ⟨a, s, c, hk, s0, s1, c0, c1⟩, hn, q⟩
  have kl : k < M.length := (List.getElem?_eq_some_iff.mp hk).1
  unfold t_l_random_7821
  walk_at "rd"
  have e0 : res M (.own k) = .lst [.int a, .int s, .int c] := by unfold res; dsimp only; rw [hk]
  simp only [e0, hk]
  walk_at "rd"
  by_cases ha : 0 < a
  · rw [if_pos ha]
    have := fm_range (a := a) b0
    refine ⟨(by omega : b ≠ 0), ⟨by omega, Nat.lt_of_lt_of_le (log2_of 900 (by
      have e : ((2 ^ 900 : Nat) : Int) = (2 : Int) ^ 900 := by rw [Int.natCast_pow]; rfl
      omega) (by decide)) (by decide)⟩, ?_⟩
    exact (Gst.set kl s0 s1 c0 (by omega)).rtq (q _ _ this.1 this.2 (Gst.set kl s0 s1 c0 (by omega)))
  · rw [if_neg ha]
    have hb := bits_le b0 b1
    generalize hbits : Builtin.Int.intBits b = bits at hb
    have ef : ((bits : Nat) : Int).fdiv 30 = (bits / 30 : Nat) := by rw [fdiv_pos (by decide)]; omega
    rw [ef]
    refine ⟨⟨by decide, by decide⟩, ⟨by omega, by omega⟩, ?_⟩
    have eT : (1 + ((bits / 30 : Nat) : Int)).toNat = 1 + bits / 30 := by omega
    rw [eT]
    generalize hT : 1 + bits / 30 = T
    have hT1 : T ≤ 31 := by omega
    refine ⟨fun i r M' => i ≤ T ∧ Gst k (n + i) M M' ∧ ∃ dr tn, r = [some (.own k), some (.int b), some (.int dr), tn] ∧ 0 ≤ dr ∧ dr < 2 ^ (32 * i), ⟨by omega, ⟨rfl, ⟨a, s, c, hk, s0, s1, c0, by omega⟩, fun _ _ => rfl⟩, 0, _, rfl, by decide, by decide⟩, ?_⟩
    rintro i r M' ⟨hi, hg, dr, tn, rfl, d0, d1⟩
    refine ⟨trivial, fun hl => ?_, fun d hd => ?_⟩
    · walk_at "rd"
      have := fm_range (a := dr) b0
      exact ⟨(by omega : b ≠ 0), hg.rtq (q _ _ this.1 this.2 (hg.le (by omega)))⟩
    · obtain ⟨hi2, rfl⟩ := rng_get.mp hd
      obtain ⟨a', s', c', hk', s0', s1', c0', c1'⟩ := hg.2.1
      have kl' : k < M'.length := (List.getElem?_eq_some_iff.mp hk').1
      have e1 : res M' (.own k) = .lst [.int a', .int s', .int c'] := by unfold res; dsimp only; rw [hk']
      walk_at "rd"
      simp only [e1, hk']
      walk_at "rd"
      have e2 : res (M'.set k (.lst [.int a', .int s', .int (c' + 1)])) (.own k) = .lst [.int a', .int s', .int (c' + 1)] := by unfold res; dsimp only; rw [List.getElem?_set_self kl']
      simp only [e2]
      walk_at "rd"
      have sd : Sm dr := sm_of (32 * i) (by have := Int.pow_pos (n := 2) (m := 32 * i) (by decide); omega) d1 (by omega)
      unfold P40 at hn
      refine ⟨⟨sd, sm_of 32 (by decide) (by decide)⟩, s', c' + 1, rfl, s0', s1', by omega, by unfold P40; omega, fun v v0 v1 => ?_⟩
      refine ⟨by omega, hg.trans (Gst.set kl' s0' s1' (by omega) (by omega)), _, _, rfl, by omega, ?_⟩
      unfold P31 at v1
      have e3 : (2 : Int) ^ (32 * (i + 1)) = 2 ^ (32 * i) * 4294967296 := by rw [Nat.mul_add, Int.pow_add]; rfl
      rw [e3]
      omega
def sp_cell : DSp := fun ds M Q _ => ∃ (ns : List Int) (i : Int), ds = [.scr ns, .int i] ∧ 0 ≤ i ∧ ∀ v, Q (.int v) M
theorem rd_l_cell_cf3b : ∀ ds M Q, ds.length = 2 → sp_cell ds M Q DX0 → t_l_cell_cf3b (dEnds M Q) (startD 2 ds) M := by
  rintro _ M Q - ⟨ns, i, rfl, i0, q⟩
  unfold t_l_cell_cf3b
  walk_at "rd"
  by_cases hi : i < (ns.length : Nat)
  · rw [if_pos hi]
    have e : i = (i.toNat : Nat) := by omega
    have hl : i.toNat < ns.length := by omega
    rw [e, atI_of _ hl, List.getElem?_eq_getElem hl]
    exact rtq (q _)
  · rw [if_neg hi]
    obtain ⟨xs, ex⟩ := cut_map ns none (some 1)
    unfold gSlL
    walk_at "rd"
    rw [ex]
    unfold gSum
    walk_at "rd"
    rw [intsD_map]
    exact ⟨(by decide : (1000003 : Int) ≠ 0), rtq (q _)⟩
def sp_generator : DSp := fun ds M Q _ => ∃ (ns : List Int) (i : Int), ds = [.scr ns, .int i] ∧ 0 ≤ i ∧ i < P31 ∧ ∀ M', M'.length = M.length + 1 → Gn M.length (1000 * i) M' → (∀ j, j < M.length → M'[j]? = M[j]?) → Q (.own M.length) M'
theorem rd_l_generator_b324 : ∀ ds M Q, ds.length = 2 → sp_generator ds M Q DX0 → t_l_generator_b324 sp_cell (dEnds M Q) (startD 3 ds) M := by
  rintro _ M Q - ⟨ns, i, rfl, i0, i1, q⟩
  unfold t_l_generator_b324
  walk_at "rd"
  refine ⟨ns, i, rfl, i0, fun v => ?_⟩
  dsimp only
  have cp : CPow 10 18 ∧ CPow 10 60 ∧ CPow (10 ^ Int.toNat 60) 10 := by refine ⟨?_, ?_, ?_⟩ <;> (unfold CPow; decide)
  have hi : Sm i := by unfold P31 at i1; exact sm_of 32 (by omega) (by omega)
  refine ⟨cp.1, cp.2.1, cp.2.2, ?_, (by decide : (2147483647 : Int) ≠ 0), ⟨Sm.of 20 (by decide), hi⟩, ?_⟩
  · have h1 : (0 : Int) < (10 ^ Int.toNat 60) ^ Int.toNat 10 := Int.pow_pos (Int.pow_pos (by decide))
    exact fun e => by rw [e] at h1; exact absurd h1 (by decide)
  · have g := fm_range (a := v) (b := 2147483647) (by decide)
    have hl : ∀ c : Own, (M ++ [c])[M.length]? = some c := fun c => by rw [List.getElem?_append_right (Nat.le_refl _), Nat.sub_self]; rfl
    refine rtqC (q _ (by simp) ⟨_, _, _, hl _, g.1, by unfold P31; omega, by omega, Int.le_refl _⟩ fun j hj => List.getElem?_append_left hj) (by simp) (by simp only [below]; exact decide_eq_true (by simp)) fun j c hc => ?_
    by_cases hj : j < M.length
    · rw [List.getElem?_append_left hj] at hc; exact .inl hc
    · have hj2 : j < M.length + 1 := by
        have := (List.getElem?_eq_some_iff.mp hc).1
        simpa using this
      have e : j = M.length := by omega
      subst e
      rw [hl] at hc
      cases hc
      exact .inr rfl
def P400 : Int := 2 ^ 400
theorem p400_big : P400 ≤ BIG := by
  unfold P400 BIG BIGN
  have h : (2 : Nat) ^ 400 ≤ 2 ^ 4000 := Nat.pow_le_pow_right (by decide) (by decide)
  have e : ((2 ^ 400 : Nat) : Int) = (2 : Int) ^ 400 := by rw [Int.natCast_pow]; rfl
  omega
theorem p400_900 : P400 < 2 ^ 900 := by
  unfold P400
  have h : (2 : Nat) ^ 400 < 2 ^ 900 := Nat.pow_lt_pow_right (by decide) (by decide)
  have e : ((2 ^ 400 : Nat) : Int) = (2 : Int) ^ 400 := by rw [Int.natCast_pow]; rfl
  have e2 : ((2 ^ 900 : Nat) : Int) = (2 : Int) ^ 900 := by rw [Int.natCast_pow]; rfl
  omega
theorem p400_ten {i : Nat} (h : i ≤ 110) : 5 * (10 : Int) ^ i + 10 ≤ P400 := by
  have h1 : (10 : Int) ^ i ≤ 10 ^ 110 := by
    have h0 : (10 : Nat) ^ i ≤ 10 ^ 110 := Nat.pow_le_pow_right (by decide) h
    have e : ((10 ^ i : Nat) : Int) = (10 : Int) ^ i := by rw [Int.natCast_pow]; rfl
    have e2 : ((10 ^ 110 : Nat) : Int) = (10 : Int) ^ 110 := by rw [Int.natCast_pow]; rfl
    omega
  have h2 : 5 * (10 : Int) ^ 110 + 10 ≤ P400 := by unfold P400; decide +kernel
  omega
end DL
namespace DL
open PySem PySem.Spec PyProof.Rows L2
local macro_rules | `(tactic| walk_at "rd") => `(tactic| simp only [startD, List.map, List.replicate, List.length_cons, List.length_nil, List.append_eq, List.append_nil, List.nil_append, List.cons_append, Nat.reduceSub, Nat.reduceAdd, List.getElem?_cons_zero, List.getElem?_cons_succ, List.set_cons_zero, List.set_cons_succ,
  dC, dVar, dOp, dTru, gTru, tru, dChain, dAnd, dOr, dNot, dAndV, dOrV, dNotV, dIf, dNeg, gNeg, dNil, dCons, dTup, dLst, dOwn, gIx, rBin, gAdd, gCmpI, dCall, dCallK, dSeq, dNext, dDrop, dRet, dRetN, dIfS, dName, dGNil, dGCons, dGTup, dSub, gSetL, dAsg, dPar, dPar3, dAug, gIpI, dSeqI, gSeqI, dRngI, gRng1, gRng2, dCB, gAbs, gInt, gMax, gMin, gGcd, gLen, lenD, gIsi, tyM, tyD, dBits, gBits, dMet, gAppend, dPart, dNoPart, dSl, dEnds, gIs, isB, dNever, dFor, dLc, wipeD, dYes,
  sizeLine_eq, Nat.reduceLeDiff, gEq_int, gNe_int, gEq_strs, gNe_strs, gIn_two, gRepr_bl, rs_lst, rs_tup, rs_scr, rs_int, atI_0, atI_1, atI_2, atI_3, atI_4, atI_5, ixN_30, ixN_31, ixN_32, gEq_bl, gNe_bl, decide_eq_true_eq, beq_iff_eq, Bool.not_eq_true', beq_eq_false_iff_ne, decide_eq_false_iff_not, Bool.not_true, Bool.not_false, if_true, if_false, Bool.false_eq_true, ite_true, ite_false, true_and, and_true, ne_eq, Bool.bne_false, Bool.bne_true, reduceCtorEq])
local macro_rules | `(tactic| walk_at "rh") => `(tactic| simp only [*, startD, List.map, List.replicate, List.length_cons, List.length_nil, List.append_eq, List.append_nil, List.nil_append, List.cons_append, Nat.reduceSub, Nat.reduceAdd, List.getElem?_cons_zero, List.getElem?_cons_succ, List.set_cons_zero, List.set_cons_succ,
  dC, dVar, dOp, dTru, gTru, tru, dChain, dAnd, dOr, dNot, dAndV, dOrV, dNotV, dIf, dNeg, gNeg, dNil, dCons, dTup, dLst, dOwn, gIx, rBin, gAdd, gCmpI, dCall, dCallK, dSeq, dNext, dDrop, dRet, dRetN, dIfS, dName, dGNil, dGCons, dGTup, dSub, gSetL, dAsg, dPar, dPar3, dAug, gIpI, dSeqI, gSeqI, dRngI, gRng1, gRng2, dCB, gAbs, gInt, gMax, gMin, gGcd, gLen, lenD, gIsi, tyM, tyD, dBits, gBits, dMet, gAppend, dPart, dNoPart, dSl, dEnds, gIs, isB, dNever, dFor, dLc, wipeD, dYes,
  sizeLine_eq, Nat.reduceLeDiff, gEq_int, gNe_int, gEq_strs, gNe_strs, gIn_two, gRepr_bl, rs_lst, rs_tup, rs_scr, rs_int, atI_0, atI_1, atI_2, atI_3, atI_4, atI_5, ixN_30, ixN_31, ixN_32, gEq_bl, gNe_bl, decide_eq_true_eq, beq_iff_eq, Bool.not_eq_true', beq_eq_false_iff_ne, decide_eq_false_iff_not, Bool.not_true, Bool.not_false, if_true, if_false, Bool.false_eq_true, ite_true, ite_false, true_and, and_true, ne_eq, Bool.bne_false, Bool.bne_true, reduceCtorEq])
local macro_rules | `(tactic| walk_at "kb") => `(tactic| simp only [kb_NoneType_list, kb_bool_list, kb_int_list, kb_str_list, kb_tuple_list, kb_list_list, kb_dict_list, kb_NoneType_int, kb_bool_int, kb_int_int, kb_str_int, kb_tuple_int, kb_list_int, kb_dict_int, kb_NoneType_bool, kb_bool_bool, kb_int_bool, kb_str_bool, kb_tuple_bool, kb_list_bool, kb_dict_bool, kb_NoneType_tuple, kb_bool_tuple, kb_int_tuple, kb_str_tuple, kb_tuple_tuple, kb_list_tuple, kb_dict_tuple, if_true, if_false, Bool.false_eq_true, ite_true, ite_false, Bool.not_true, Bool.not_false])
theorem atI_any {l : List D} {v : Int} (h0 : 0 ≤ v) (h1 : v < (l.length : Nat)) : ∃ d, d ∈ l ∧ atI l v = some d := by
  have e : v = (v.toNat : Nat) := by omega
  have hl : v.toNat < l.length := by omega
  refine ⟨l[v.toNat], List.getElem_mem hl, ?_⟩
  have h2 := atI_of _ hl
  rw [← e] at h2
  rw [h2]
  exact List.getElem?_eq_getElem hl
theorem fine_ty {n : Nat} {d : D} (M : Mem) (h : fine n d = true) : ∃ T, tyM M d = some T := by
  cases d <;> first | exact ⟨_, rfl⟩ | (simp [fine] at h)
theorem dSeq_open {a b : DTS} {E : DEnds} {r : Env} {M : Mem} (h : ∀ B : Env → Mem → Prop, b E = B → a { E with nx := B } r M) : dSeq a b E r M := h _ rfl
def okV (d : D) : Bool := fine 41 d && (lit 800 d && decide (wt 800 d ≤ 10000))
/-! ### the least form: scaled, its size -/
theorem gcd_dvd3 (X Y b : Int) : (Int.gcd (Int.gcd X Y : Int) b : Int) ∣ X ∧ (Int.gcd (Int.gcd X Y : Int) b : Int) ∣ Y ∧ (Int.gcd (Int.gcd X Y : Int) b : Int) ∣ b :=
  ⟨Int.dvd_trans (Int.gcd_dvd_left _ _) (Int.gcd_dvd_left _ _), Int.dvd_trans (Int.gcd_dvd_left _ _) (Int.gcd_dvd_right _ _), Int.gcd_dvd_right _ _⟩
theorem rnC_dvd (m x y b : Int) : rnC m x y b ∣ rnX m x y ∧ rnC m x y b ∣ rnY m y ∧ rnC m x y b ∣ b := by
  have h := gcd_dvd3 (rnX m x y) (rnY m y) b
  unfold rnC
  split
  · rw [Int.zero_sub]
    exact ⟨Int.neg_dvd.mpr h.1, Int.neg_dvd.mpr h.2.1, Int.neg_dvd.mpr h.2.2⟩
  · exact h
theorem rnC_ne {m x y b : Int} (hb : b ≠ 0) : rnC m x y b ≠ 0 := by
  have := gcd_bound (g := (Int.gcd (rnX m x y) (rnY m y) : Int)) hb
  unfold rnC
  split <;> omega
theorem fdiv_scale {k a c : Int} (hk : k ≠ 0) (hc : c ≠ 0) (h : c ∣ a) : (k * a).fdiv (k * c) = a.fdiv c := by
  obtain ⟨t, rfl⟩ := h
  rw [Int.mul_fdiv_cancel_left _ hc, ← Int.mul_assoc, Int.mul_fdiv_cancel_left]
  exact Int.mul_ne_zero hk hc
theorem rnX_scale (k m x y : Int) : rnX m (k * x) (k * y) = k * rnX m x y := by
  unfold rnX
  split
  · rw [Int.mul_add, Int.mul_assoc]
  · rfl
theorem rnY_scale (k m y : Int) : rnY m (k * y) = k * rnY m y := by
  unfold rnY
  split
  · rw [Int.mul_zero]
  · rfl
theorem mul_neg_iff {k b : Int} (hk : k < 0) : k * b < 0 ↔ 0 < b := by
  constructor
  · intro h
    by_cases z : 0 < b
    · exact z
    · have := Int.mul_nonneg_of_nonpos_of_nonpos (a := k) (b := b) (by omega) (by omega)
      omega
  · exact fun h => Int.mul_neg_of_neg_of_pos hk h
theorem mul_pos_iff' {k b : Int} (hk : 0 < k) : k * b < 0 ↔ b < 0 := by
  constructor
  · intro h
    by_cases z : b < 0
    · exact z
    · have := Int.mul_nonneg (a := k) (b := b) (by omega) (by omega)
      omega
  · exact fun h => Int.mul_neg_of_pos_of_neg hk h
theorem rnC_scale {k m x y b : Int} (hk : k ≠ 0) (hb : b ≠ 0) : rnC m (k * x) (k * y) (k * b) = k * rnC m x y b := by
  unfold rnC
  rw [rnX_scale, rnY_scale]
  have e : (Int.gcd (Int.gcd (k * rnX m x y) (k * rnY m y) : Int) (k * b) : Int) = k.natAbs * (Int.gcd (Int.gcd (rnX m x y) (rnY m y) : Int) b : Int) := by
    rw [Int.gcd_mul_left]
    have e2 : ((k.natAbs * Int.gcd (rnX m x y) (rnY m y) : Nat) : Int) = (k.natAbs : Int) * (Int.gcd (rnX m x y) (rnY m y) : Int) := Int.natCast_mul _ _
    have e3 : ∀ (u v : Int), Int.gcd ((k.natAbs : Int) * u) (k * v) = k.natAbs * Int.gcd u v := by
      intro u v
      unfold Int.gcd
      rw [Int.natAbs_mul, Int.natAbs_mul, Int.natAbs_natCast, Nat.gcd_mul_left]
    rw [e2, e3, Int.natCast_mul]
  rw [e]
  generalize (Int.gcd (Int.gcd (rnX m x y) (rnY m y) : Int) b : Int) = g
  rcases (by omega : 0 < k ∨ k < 0) with h | h
  · have ek : (k.natAbs : Int) = k := by omega
    rw [ek]
    simp only [mul_pos_iff' h]
    split
    · rw [Int.mul_sub, Int.mul_zero]
    · rfl
  · have ek : (k.natAbs : Int) = -k := by omega
    rw [ek]
    simp only [mul_neg_iff h]
    by_cases z : 0 < b
    · rw [if_pos z, if_neg (by omega), Int.neg_mul]; omega
    · rw [if_neg z, if_pos (by omega), Int.neg_mul, Int.mul_sub]; omega
theorem rootN_scale {k m x y b : Int} (hk : k ≠ 0) (hb : b ≠ 0) : rootN m (k * x) (k * y) (k * b) = rootN m x y b := by
  have h := rnC_dvd m x y b
  have h0 := rnC_ne (m := m) (x := x) (y := y) hb
  unfold rootN
  rw [rnC_scale hk hb, rnX_scale, rnY_scale, fdiv_scale hk h0 h.1, fdiv_scale hk h0 h.2.1, fdiv_scale hk h0 h.2.2]
theorem okV_parts {d : D} (h : okV d = true) : fine 41 d = true ∧ lit 800 d = true ∧ wt 800 d ≤ 10000 := by
  simpa only [okV, Bool.and_eq_true, decide_eq_true_eq] using h
theorem gRepr_ok {d : D} {M : Mem} {Q : DQ} (h : okV d = true) (q : ∀ z, shwn d = some z → Q (.str z) M) : gRepr [d] M Q := by
  obtain ⟨h1, h2, h3⟩ := okV_parts h
  refine gRepr_of 800 41 h1 h2 ?_ q
  have := Nat.mul_le_mul_left (800 + 10) h3
  omega
theorem gRepr_again {d : D} {M : Mem} {Q : DQ} {z : Str} (h : shwn d = some z) (hr : res M d = d) (q : Q (.str z) M) : gRepr [d] M Q := by
  unfold gRepr
  dsimp only
  rw [hr, h]
  exact q
theorem str_self (z : Str) : (z == z) = true := by simp
end DL
namespace DL
open PySem PySem.Spec PyProof.Rows L2
local macro_rules | `(tactic| walk_at "rd") => `(tactic| simp only [startD, List.map, List.replicate, List.length_cons, List.length_nil, List.append_eq, List.append_nil, List.nil_append, List.cons_append, Nat.reduceSub, Nat.reduceAdd, List.getElem?_cons_zero, List.getElem?_cons_succ, List.set_cons_zero, List.set_cons_succ,
  dC, dVar, dOp, dTru, gTru, tru, dChain, dAnd, dOr, dNot, dAndV, dOrV, dNotV, dIf, dNeg, gNeg, dNil, dCons, dTup, dLst, dOwn, gIx, rBin, gAdd, gCmpI, dCall, dCallK, dSeq, dNext, dDrop, dRet, dRetN, dIfS, dName, dGNil, dGCons, dGTup, dSub, gSetL, dAsg, dPar, dPar3, dAug, gIpI, dSeqI, gSeqI, dRngI, gRng1, gRng2, dCB, gAbs, gInt, gMax, gMin, gGcd, gLen, lenD, gIsi, tyM, tyD, dBits, gBits, dMet, gAppend, dPart, dNoPart, dSl, dEnds, gIs, isB, dNever, dFor, dLc, wipeD, dYes,
  sizeLine_eq, Nat.reduceLeDiff, gEq_int, gNe_int, gEq_strs, gNe_strs, gIn_two, gRepr_bl, rs_lst, rs_tup, rs_scr, rs_int, atI_0, atI_1, atI_2, atI_3, atI_4, atI_5, ixN_30, ixN_31, ixN_32, gEq_bl, gNe_bl, decide_eq_true_eq, beq_iff_eq, Bool.not_eq_true', beq_eq_false_iff_ne, decide_eq_false_iff_not, Bool.not_true, Bool.not_false, if_true, if_false, Bool.false_eq_true, ite_true, ite_false, true_and, and_true, ne_eq, Bool.bne_false, Bool.bne_true, reduceCtorEq])
local macro_rules | `(tactic| walk_at "rh") => `(tactic| simp only [*, startD, List.map, List.replicate, List.length_cons, List.length_nil, List.append_eq, List.append_nil, List.nil_append, List.cons_append, Nat.reduceSub, Nat.reduceAdd, List.getElem?_cons_zero, List.getElem?_cons_succ, List.set_cons_zero, List.set_cons_succ,
  dC, dVar, dOp, dTru, gTru, tru, dChain, dAnd, dOr, dNot, dAndV, dOrV, dNotV, dIf, dNeg, gNeg, dNil, dCons, dTup, dLst, dOwn, gIx, rBin, gAdd, gCmpI, dCall, dCallK, dSeq, dNext, dDrop, dRet, dRetN, dIfS, dName, dGNil, dGCons, dGTup, dSub, gSetL, dAsg, dPar, dPar3, dAug, gIpI, dSeqI, gSeqI, dRngI, gRng1, gRng2, dCB, gAbs, gInt, gMax, gMin, gGcd, gLen, lenD, gIsi, tyM, tyD, dBits, gBits, dMet, gAppend, dPart, dNoPart, dSl, dEnds, gIs, isB, dNever, dFor, dLc, wipeD, dYes,
  sizeLine_eq, Nat.reduceLeDiff, gEq_int, gNe_int, gEq_strs, gNe_strs, gIn_two, gRepr_bl, rs_lst, rs_tup, rs_scr, rs_int, atI_0, atI_1, atI_2, atI_3, atI_4, atI_5, ixN_30, ixN_31, ixN_32, gEq_bl, gNe_bl, decide_eq_true_eq, beq_iff_eq, Bool.not_eq_true', beq_eq_false_iff_ne, decide_eq_false_iff_not, Bool.not_true, Bool.not_false, if_true, if_false, Bool.false_eq_true, ite_true, ite_false, true_and, and_true, ne_eq, Bool.bne_false, Bool.bne_true, reduceCtorEq])
local macro_rules | `(tactic| walk_at "kb") => `(tactic| simp only [kb_NoneType_list, kb_bool_list, kb_int_list, kb_str_list, kb_tuple_list, kb_list_list, kb_dict_list, kb_NoneType_int, kb_bool_int, kb_int_int, kb_str_int, kb_tuple_int, kb_list_int, kb_dict_int, kb_NoneType_bool, kb_bool_bool, kb_int_bool, kb_str_bool, kb_tuple_bool, kb_list_bool, kb_dict_bool, kb_NoneType_tuple, kb_bool_tuple, kb_int_tuple, kb_str_tuple, kb_tuple_tuple, kb_list_tuple, kb_dict_tuple, if_true, if_false, Bool.false_eq_true, ite_true, ite_false, Bool.not_true, Bool.not_false])
/-! ### bits -/
def Bi (n : Nat) (i : Int) : Prop := i.natAbs < 2 ^ n
theorem Bi.mono {n k : Nat} {i : Int} (h : Bi n i) (hk : n ≤ k := by decide) : Bi k i := Nat.lt_of_lt_of_le h (Nat.pow_le_pow_right (by decide) hk)
theorem Bi.mul {n k : Nat} {i j : Int} (h : Bi n i) (g : Bi k j) : Bi (n + k) (i * j) := by
  unfold Bi at *
  rw [Int.natAbs_mul, Nat.pow_add]
  exact Nat.mul_lt_mul'' h g
theorem Bi.add {n : Nat} {i j : Int} (h : Bi n i) (g : Bi n j) : Bi (n + 1) (i + j) := by
  unfold Bi at *
  rw [Nat.pow_succ]
  omega
theorem Bi.sub {n : Nat} {i j : Int} (h : Bi n i) (g : Bi n j) : Bi (n + 1) (i - j) := by
  unfold Bi at *
  rw [Nat.pow_succ]
  omega
theorem Bi.sm {n : Nat} {i : Int} (h : Bi n i) (hn : n ≤ 400000 := by decide) : Sm i := Sm.of n h hn
theorem Bi.of_abs {n : Nat} {i : Int} (k : Nat) (h : i.natAbs ≤ k) (hk : k < 2 ^ n := by decide) : Bi n i := Nat.lt_of_le_of_lt h hk
/-! ### normal forms -/
abbrev T3 (a b c : Int) : D := .tup [.int a, .int b, .int c]
def nC (X Y b : Int) : Int := if b < 0 then 0 - (Int.gcd (Int.gcd X Y : Int) b : Int) else (Int.gcd (Int.gcd X Y : Int) b : Int)
def nf (X Y b : Int) : D := T3 (X.fdiv (nC X Y b)) (Y.fdiv (nC X Y b)) (b.fdiv (nC X Y b))
theorem rootN_nf (m x y b : Int) : rootN m x y b = nf (rnX m x y) (rnY m y) b := rfl
theorem rootN_pr {m x y : Int} (b : Int) (h : isSq m → y = 0) : rootN m x y b = nf x y b := by
  rw [rootN_nf]
  by_cases hq : isSq m
  · have e := h hq
    subst e
    unfold rnX rnY
    rw [if_pos hq, if_pos hq, Int.zero_mul, Int.add_zero]
  · unfold rnX rnY
    rw [if_neg hq, if_neg hq]
theorem nf_scale {k X Y b : Int} (hk : k ≠ 0) (hb : b ≠ 0) : nf (k * X) (k * Y) (k * b) = nf X Y b := by
  have h : ¬ isSq 2 := by
    have e : isq 2 = 1 := isq_uni (by decide) (by decide) (by decide)
    unfold isSq; rw [e]; decide
  rw [← rootN_pr (m := 2) (k * b) (fun z => absurd z h), ← rootN_pr (m := 2) b (fun z => absurd z h)]
  exact rootN_scale hk hb
theorem nf_eq {X Y b X' Y' b' : Int} (hb : b ≠ 0) (hb' : b' ≠ 0) (h1 : X * b' = X' * b) (h2 : Y * b' = Y' * b) : nf X Y b = nf X' Y' b' := by
  rw [← nf_scale hb' hb, ← nf_scale (X := X') (Y := Y') hb hb']
  have e1 : b' * X = b * X' := by rw [Int.mul_comm, h1, Int.mul_comm]
  have e2 : b' * Y = b * Y' := by rw [Int.mul_comm, h2, Int.mul_comm]
  rw [e1, e2, Int.mul_comm b' b]
/-! ### sums, products, quotients -/
def Sz (n : Nat) (a b c : Int) : Prop := Bi n a ∧ Bi n b ∧ Bi n c
/-! ### the law's drawn root numbers -/
/-! ### sizes and values, for the laws -/
theorem Sz.mono {n k : Nat} {a b c : Int} (h : Sz n a b c) (hk : n ≤ k := by decide) : Sz k a b c := ⟨h.1.mono hk, h.2.1.mono hk, h.2.2.mono hk⟩
end DL
namespace DL
open PySem PySem.Spec PyProof.Rows L2
local macro_rules | `(tactic| walk_at "rd") => `(tactic| simp only [startD, List.map, List.replicate, List.length_cons, List.length_nil, List.append_eq, List.append_nil, List.nil_append, List.cons_append, Nat.reduceSub, Nat.reduceAdd, List.getElem?_cons_zero, List.getElem?_cons_succ, List.set_cons_zero, List.set_cons_succ,
  dC, dVar, dOp, dTru, gTru, tru, dChain, dAnd, dOr, dNot, dAndV, dOrV, dNotV, dIf, dNeg, gNeg, dNil, dCons, dTup, dLst, dOwn, gIx, rBin, gAdd, gCmpI, dCall, dCallK, dSeq, dNext, dDrop, dRet, dRetN, dIfS, dName, dGNil, dGCons, dGTup, dSub, gSetL, dAsg, dPar, dPar3, dAug, gIpI, dSeqI, gSeqI, dRngI, gRng1, gRng2, dCB, gAbs, gInt, gMax, gMin, gGcd, gLen, lenD, gIsi, tyM, tyD, dBits, gBits, dMet, gAppend, dPart, dNoPart, dSl, dEnds, gIs, isB, dNever, dFor, dLc, wipeD, dYes,
  sizeLine_eq, Nat.reduceLeDiff, gEq_int, gNe_int, gEq_strs, gNe_strs, gIn_two, gRepr_bl, rs_lst, rs_tup, rs_scr, rs_int, atI_0, atI_1, atI_2, atI_3, atI_4, atI_5, ixN_30, ixN_31, ixN_32, gEq_bl, gNe_bl, decide_eq_true_eq, beq_iff_eq, Bool.not_eq_true', beq_eq_false_iff_ne, decide_eq_false_iff_not, Bool.not_true, Bool.not_false, if_true, if_false, Bool.false_eq_true, ite_true, ite_false, true_and, and_true, ne_eq, Bool.bne_false, Bool.bne_true, reduceCtorEq])
local macro_rules | `(tactic| walk_at "rh") => `(tactic| simp only [*, startD, List.map, List.replicate, List.length_cons, List.length_nil, List.append_eq, List.append_nil, List.nil_append, List.cons_append, Nat.reduceSub, Nat.reduceAdd, List.getElem?_cons_zero, List.getElem?_cons_succ, List.set_cons_zero, List.set_cons_succ,
  dC, dVar, dOp, dTru, gTru, tru, dChain, dAnd, dOr, dNot, dAndV, dOrV, dNotV, dIf, dNeg, gNeg, dNil, dCons, dTup, dLst, dOwn, gIx, rBin, gAdd, gCmpI, dCall, dCallK, dSeq, dNext, dDrop, dRet, dRetN, dIfS, dName, dGNil, dGCons, dGTup, dSub, gSetL, dAsg, dPar, dPar3, dAug, gIpI, dSeqI, gSeqI, dRngI, gRng1, gRng2, dCB, gAbs, gInt, gMax, gMin, gGcd, gLen, lenD, gIsi, tyM, tyD, dBits, gBits, dMet, gAppend, dPart, dNoPart, dSl, dEnds, gIs, isB, dNever, dFor, dLc, wipeD, dYes,
  sizeLine_eq, Nat.reduceLeDiff, gEq_int, gNe_int, gEq_strs, gNe_strs, gIn_two, gRepr_bl, rs_lst, rs_tup, rs_scr, rs_int, atI_0, atI_1, atI_2, atI_3, atI_4, atI_5, ixN_30, ixN_31, ixN_32, gEq_bl, gNe_bl, decide_eq_true_eq, beq_iff_eq, Bool.not_eq_true', beq_eq_false_iff_ne, decide_eq_false_iff_not, Bool.not_true, Bool.not_false, if_true, if_false, Bool.false_eq_true, ite_true, ite_false, true_and, and_true, ne_eq, Bool.bne_false, Bool.bne_true, reduceCtorEq])
local macro_rules | `(tactic| walk_at "kb") => `(tactic| simp only [kb_NoneType_list, kb_bool_list, kb_int_list, kb_str_list, kb_tuple_list, kb_list_list, kb_dict_list, kb_NoneType_int, kb_bool_int, kb_int_int, kb_str_int, kb_tuple_int, kb_list_int, kb_dict_int, kb_NoneType_bool, kb_bool_bool, kb_int_bool, kb_str_bool, kb_tuple_bool, kb_list_bool, kb_dict_bool, kb_NoneType_tuple, kb_bool_tuple, kb_int_tuple, kb_str_tuple, kb_tuple_tuple, kb_list_tuple, kb_dict_tuple, if_true, if_false, Bool.false_eq_true, ite_true, ite_false, Bool.not_true, Bool.not_false])
/-! ### the side of x + y root m -/
/-! ### the floor -/
end DL
namespace DL
open PySem PySem.Spec PyProof.Rows L2
local macro_rules | `(tactic| walk_at "rd") => `(tactic| simp only [startD, List.map, List.replicate, List.length_cons, List.length_nil, List.append_eq, List.append_nil, List.nil_append, List.cons_append, Nat.reduceSub, Nat.reduceAdd, List.getElem?_cons_zero, List.getElem?_cons_succ, List.set_cons_zero, List.set_cons_succ,
  dC, dVar, dOp, dTru, gTru, tru, dChain, dAnd, dOr, dNot, dAndV, dOrV, dNotV, dIf, dNeg, gNeg, dNil, dCons, dTup, dLst, dOwn, gIx, rBin, gAdd, gCmpI, dCall, dCallK, dSeq, dNext, dDrop, dRet, dRetN, dIfS, dName, dGNil, dGCons, dGTup, dSub, gSetL, dAsg, dPar, dPar3, dAug, gIpI, dSeqI, gSeqI, dRngI, gRng1, gRng2, dCB, gAbs, gInt, gMax, gMin, gGcd, gLen, lenD, gIsi, tyM, tyD, dBits, gBits, dMet, gAppend, dPart, dNoPart, dSl, dEnds, gIs, isB, dNever, dFor, dLc, wipeD, dYes,
  sizeLine_eq, Nat.reduceLeDiff, gEq_int, gNe_int, gEq_strs, gNe_strs, gIn_two, gRepr_bl, rs_lst, rs_tup, rs_scr, rs_int, atI_0, atI_1, atI_2, atI_3, atI_4, atI_5, ixN_30, ixN_31, ixN_32, gEq_bl, gNe_bl, decide_eq_true_eq, beq_iff_eq, Bool.not_eq_true', beq_eq_false_iff_ne, decide_eq_false_iff_not, Bool.not_true, Bool.not_false, if_true, if_false, Bool.false_eq_true, ite_true, ite_false, true_and, and_true, ne_eq, Bool.bne_false, Bool.bne_true, reduceCtorEq])
local macro_rules | `(tactic| walk_at "rh") => `(tactic| simp only [*, startD, List.map, List.replicate, List.length_cons, List.length_nil, List.append_eq, List.append_nil, List.nil_append, List.cons_append, Nat.reduceSub, Nat.reduceAdd, List.getElem?_cons_zero, List.getElem?_cons_succ, List.set_cons_zero, List.set_cons_succ,
  dC, dVar, dOp, dTru, gTru, tru, dChain, dAnd, dOr, dNot, dAndV, dOrV, dNotV, dIf, dNeg, gNeg, dNil, dCons, dTup, dLst, dOwn, gIx, rBin, gAdd, gCmpI, dCall, dCallK, dSeq, dNext, dDrop, dRet, dRetN, dIfS, dName, dGNil, dGCons, dGTup, dSub, gSetL, dAsg, dPar, dPar3, dAug, gIpI, dSeqI, gSeqI, dRngI, gRng1, gRng2, dCB, gAbs, gInt, gMax, gMin, gGcd, gLen, lenD, gIsi, tyM, tyD, dBits, gBits, dMet, gAppend, dPart, dNoPart, dSl, dEnds, gIs, isB, dNever, dFor, dLc, wipeD, dYes,
  sizeLine_eq, Nat.reduceLeDiff, gEq_int, gNe_int, gEq_strs, gNe_strs, gIn_two, gRepr_bl, rs_lst, rs_tup, rs_scr, rs_int, atI_0, atI_1, atI_2, atI_3, atI_4, atI_5, ixN_30, ixN_31, ixN_32, gEq_bl, gNe_bl, decide_eq_true_eq, beq_iff_eq, Bool.not_eq_true', beq_eq_false_iff_ne, decide_eq_false_iff_not, Bool.not_true, Bool.not_false, if_true, if_false, Bool.false_eq_true, ite_true, ite_false, true_and, and_true, ne_eq, Bool.bne_false, Bool.bne_true, reduceCtorEq])
local macro_rules | `(tactic| walk_at "kb") => `(tactic| simp only [kb_NoneType_list, kb_bool_list, kb_int_list, kb_str_list, kb_tuple_list, kb_list_list, kb_dict_list, kb_NoneType_int, kb_bool_int, kb_int_int, kb_str_int, kb_tuple_int, kb_list_int, kb_dict_int, kb_NoneType_bool, kb_bool_bool, kb_int_bool, kb_str_bool, kb_tuple_bool, kb_list_bool, kb_dict_bool, kb_NoneType_tuple, kb_bool_tuple, kb_int_tuple, kb_str_tuple, kb_tuple_tuple, kb_list_tuple, kb_dict_tuple, if_true, if_false, Bool.false_eq_true, ite_true, ite_false, Bool.not_true, Bool.not_false])
theorem rd_l_hash_d8d1 : ∀ ds M Q, ds.length = 2 → sp_hash ds M Q DX0 → t_l_hash_d8d1 (dEnds M Q) (startD 3 ds) M := by
  rintro _ M Q - ⟨s, c, rfl, s0, s1, c0, c1, q⟩
  unfold P31 P40 at *
  unfold t_l_hash_d8d1
  walk_at "rd"
  have ss : Sm s := sm_of 32 (by omega) (by omega)
  have sc : Sm c := sm_of 42 (by omega) (by omega)
  have hm : ∀ a : Int, 0 ≤ a.fmod 2147483629 ∧ a.fmod 2147483629 < 2147483629 := fun a => fm_range (by decide)
  have k1 : Sm (27644437 * c) := sm_of 72 (by omega) (by omega)
  refine ⟨⟨ss, sm_of 32 (by decide) (by decide)⟩, ⟨sm_of 32 (by decide) (by decide), sc⟩, ⟨k1, sc⟩, ⟨sm_of 32 (by decide) (by decide), sc⟩, (by decide : (2147483629 : Int) ≠ 0), ?_⟩
  generalize hv : Int.fmod _ 2147483629 = v
  have v1 : 0 ≤ v ∧ v < 2147483629 := by rw [← hv]; exact hm _
  have sv : Sm v := sm_of 32 (by omega) (by omega)
  refine ⟨⟨sv, sv⟩, ⟨sm_of 32 (by decide) (by decide), sc⟩, (by decide : (2147483587 : Int) ≠ 0), ?_⟩
  generalize hw : Int.fmod _ 2147483587 = w
  have w1 : 0 ≤ w ∧ w < 2147483587 := by rw [← hw]; exact fm_range (by decide)
  refine ⟨⟨sm_of 32 (by omega) (by omega), sm_of 32 (by decide) (by decide)⟩, (by decide : (2147483647 : Int) ≠ 0), ?_⟩
  have r1 : 0 ≤ (w * 48271).fmod 2147483647 ∧ (w * 48271).fmod 2147483647 < 2147483647 := fm_range (by decide)
  exact rtq (q _ r1.1 (by omega))
/-! ### cuttings -/
/-- a cutting: (a, b, c, e) -/
def isCut (a b c e : Int) : Bool := decide (1 ≤ b) && (decide (1 ≤ c) && (decide (c + e < b) && (decide (0 ≤ a) && (decide (a < (Int.gcd b c : Int)) && (Int.gcd (Int.gcd a (Int.gcd b c : Int) : Int) e : Int) == 1))))
def isCutD (d : D) : Bool := match d with
  | .tup [.int a, .int b, .int c, .int e] => isCut a b c e
  | _ => false
/-- d may be asked: no tuple, or of another length, or of plain data -/
def Askable (n : Nat) (M : Mem) (d : D) : Prop := (∃ T, tyM M d = some T) ∧ (∀ l, d = .tup l → l.length = n → ∀ e ∈ l, (fine 40 e = true ∧ ∃ T, tyM M e = some T))
theorem ask_fine {n : Nat} {d : D} (M : Mem) (h : fine 41 d = true) : Askable n M d := by
  refine ⟨fine_ty M h, ?_⟩
  rintro l rfl h3 e he
  have h' : fineAll 40 l = true := by simpa only [fine] using h
  have := fineAll_iff.mp h' e he
  exact ⟨this, fine_ty M this⟩
abbrev T4 (a b c e : Int) : D := .tup [.int a, .int b, .int c, .int e]
theorem len4 {l : List D} (h : l.length = 4) : ∃ a b c d, l = [a, b, c, d] := by
  match l, h with
  | [a, b, c, d], _ => exact ⟨a, b, c, d, rfl⟩
theorem isCutD_notup {d : D} (h : ∀ l, d ≠ .tup l) : isCutD d = false := by
  cases d <;> first | rfl | exact absurd rfl (h _)
theorem isCutD_len {l : List D} (h : l.length ≠ 4) : isCutD (.tup l) = false := by
  unfold isCutD
  split
  · rename_i e; cases e; exact absurd rfl h
  · rfl
theorem isCutD_bad {l : List D} (h : ∃ e ∈ l, isW e = false) : isCutD (.tup l) = false := by
  unfold isCutD
  split
  · rename_i e
    cases e
    obtain ⟨e, he, hw⟩ := h
    simp only [List.mem_cons, List.not_mem_nil, or_false] at he
    rcases he with rfl | rfl | rfl | rfl <;> cases hw
  · rfl
def sp_is_cutting : DSp := fun ds M Q _ => ∃ d, ds = [d] ∧ Askable 4 M d ∧ Q (.bl (isCutD d)) M
theorem rd_is_cutting_by : ∀ ds M Q, ds.length = 1 → sp_is_cutting ds M Q DX0 → t_is_cutting_by sp_is_whole sp_gcd (dEnds M Q) (startD 7 ds) M := by
  rintro _ M Q - ⟨d, rfl, ⟨⟨T, ht⟩, hr⟩, q⟩
  unfold t_is_cutting_by
  walk_at "rd"
  by_cases htup : ∃ l, d = .tup l
  · obtain ⟨l, rfl⟩ := htup
    walk_at "rd"
    walk_at "kb"
    by_cases h3 : l.length = 4
    · obtain ⟨da, db, dc, de, rfl⟩ := len4 h3
      have hr' := hr _ rfl rfl
      walk_at "rd"
      rw [if_neg (by decide)]
      refine lcW_pure (fun e => if isW e = true then none else some e) trivial (by rw [sizeLine_eq]; exact (by decide : (4 : Nat) ≤ 16777216)) (fun d hd Y N hy => ?_) ?_
      · walk_at "rd"
        obtain ⟨_, T', hT⟩ := hr' d hd
        refine ⟨d, T', rfl, hT, ?_⟩
        by_cases hw : isW d = true
        · simp only [hw, if_true] at hy ⊢
          exact hy
        · rw [Bool.not_eq_true] at hw
          simp only [hw, Bool.false_eq_true, if_false, Bool.not_false, if_true] at hy ⊢
          exact hy
      · refine gNe_nil' (n := 40) (bads_fine fun e he => (hr' e he).1) ?_
        show if (!(bads [da, db, dc, de]).isEmpty) = true then _ else _
        cases hb : (bads [da, db, dc, de]).isEmpty with
        | false =>
          rw [if_pos (by decide)]
          rw [isCutD_bad (bads_some hb)] at q
          exact rtq q
        | true =>
          rw [if_neg (by decide)]
          have hw := bads_nil hb
          obtain ⟨a, rfl⟩ := isW_iff.mp (hw da (by simp))
          obtain ⟨b, rfl⟩ := isW_iff.mp (hw db (by simp))
          obtain ⟨c, rfl⟩ := isW_iff.mp (hw dc (by simp))
          obtain ⟨e, rfl⟩ := isW_iff.mp (hw de (by simp))
          walk_at "rd"
          have fin : ∀ v, v = isCut a b c e → Rtq M Q (.bl v) M := by rintro _ rfl; exact rtq q
          by_cases h1 : b < 1
          · rw [if_pos h1]
            exact fin _ (by unfold isCut; rw [decide_eq_false (show ¬ 1 ≤ b by omega)]; rfl)
          · rw [if_neg h1]
            have e1 := decide_eq_true (show 1 ≤ b by omega)
            by_cases h2 : c < 1
            · rw [if_pos h2]
              exact fin _ (by unfold isCut; rw [e1, decide_eq_false (show ¬ 1 ≤ c by omega)]; rfl)
            · rw [if_neg h2]
              have e2 := decide_eq_true (show 1 ≤ c by omega)
              by_cases h3 : c + e < b
              · rw [if_neg (fun z => z h3)]
                have e3 := decide_eq_true h3
                refine ⟨b, c, rfl, ?_⟩
                dsimp only
                by_cases h4 : 0 ≤ a
                · rw [if_pos h4]
                  have e4 := decide_eq_true h4
                  by_cases h5 : a < (Int.gcd b c : Int)
                  · rw [if_pos h5]
                    have e5 := decide_eq_true h5
                    refine ⟨a, _, rfl, _, e, rfl, ?_⟩
                    dsimp only
                    rw [gEq_int]
                    exact fin _ (by unfold isCut; rw [e1, e2, e3, e4, e5]; rfl)
                  · rw [if_neg h5]
                    exact fin _ (by unfold isCut; rw [e1, e2, e3, e4, decide_eq_false h5]; rfl)
                · rw [if_neg h4, if_neg h4]
                  exact fin _ (by unfold isCut; rw [e1, e2, e3, decide_eq_false h4]; rfl)
              · rw [if_pos h3]
                exact fin _ (by unfold isCut; rw [e1, e2, decide_eq_false h3]; rfl)
    · have h3' : ¬ ((l.length : Nat) : Int) = 4 := by omega
      simp only [h3', not_false_eq_true, if_true]
      rw [isCutD_len h3] at q
      exact rtq q
  · have q' : Q (.bl false) M := by rwa [isCutD_notup fun l e => htup ⟨l, e⟩] at q
    cases d <;> first | exact absurd ⟨_, rfl⟩ htup | (cases ht; done) | skip
    all_goals walk_at "rd"
    case own k =>
      unfold tyM at ht
      dsimp only at ht
      split at ht
      · rename_i ds hk
        simp only [hk]
        walk_at "kb"
        exact rtq q'
      · cases ht
    all_goals walk_at "kb"
    all_goals exact rtq q'
/-- check_cutting of a cutting -/
def sp_check_cutting : DSp := fun ds M Q _ => ∃ a b c e : Int, ds = [T4 a b c e] ∧ isCut a b c e = true ∧ Q .non M
theorem rd_check_cutting : ∀ ds M Q, ds.length = 1 → sp_check_cutting ds M Q DX0 → t_check_cutting sp_is_cutting (dEnds M Q) (startD 1 ds) M := by
  rintro _ M Q - ⟨a, b, c, e, rfl, h, q⟩
  unfold t_check_cutting
  walk_at "rd"
  refine ⟨_, rfl, ask_fine M rfl, ?_⟩
  rw [show isCutD (T4 a b c e) = true from h]
  walk_at "rd"
  exact rtq q
def meas4 (b c e : Int) : Int := e * e + 4 * b * c
def sp_measure_by : DSp := fun ds M Q _ => ∃ a b c e : Int, ds = [T4 a b c e] ∧ Bi 1000 b ∧ Bi 1000 c ∧ Bi 1000 e ∧ Q (.int (meas4 b c e)) M
theorem rd_measure_by : ∀ ds M Q, ds.length = 1 → sp_measure_by ds M Q DX0 → t_measure_by (dEnds M Q) (startD 1 ds) M := by
  rintro _ M Q - ⟨a, b, c, e, rfl, hb, hc, he, q⟩
  unfold t_measure_by
  walk_at "rd"
  have h4 : Bi 3 4 := Bi.of_abs 4 (by decide)
  exact ⟨⟨he.sm, he.sm⟩, ⟨h4.sm, hb.sm⟩, ⟨(h4.mul hb).sm, hc.sm⟩, rtq q⟩
theorem cut_parts {a b c e : Int} (h : isCut a b c e = true) : 1 ≤ b ∧ 1 ≤ c ∧ c + e < b ∧ 0 ≤ a ∧ a < (Int.gcd b c : Int) ∧ (Int.gcd (Int.gcd a (Int.gcd b c : Int) : Int) e : Int) = 1 := by
  simpa only [isCut, Bool.and_eq_true, decide_eq_true_eq, beq_iff_eq] using h
theorem gcd4 (a b c e : Int) : (Int.gcd (Int.gcd a b : Int) (Int.gcd c e : Int) : Int) = (Int.gcd (Int.gcd a (Int.gcd b c : Int) : Int) e : Int) := by
  unfold Int.gcd
  simp only [Int.natAbs_natCast, Nat.gcd_assoc]
end DL
/-! MB: what a deed makes of a cutting; plain -/
namespace DL
/-- two ways to write the common divisor differ by a multiple of the other two -/
theorem bez_diff {m n g u v u' v' : Int} (hg : g ≠ 0) (hm : g ∣ m) (hn : g ∣ n) (h : u * m + v * n = g) (h' : u' * m + v' * n = g) : ∃ t, (u - u') * g = t * n ∧ (v - v') * g = -(t * m) := by
  -- t = u v' - u' v
  refine ⟨u * v' - u' * v, ?_, ?_⟩
  · have : (u - u') * g = u * (u' * m + v' * n) - u' * (u * m + v * n) := by rw [h, h']; grind
    rw [this]; grind
  · have : (v - v') * g = v * (u' * m + v' * n) - v' * (u * m + v * n) := by rw [h, h']; grind
    rw [this]; grind
theorem row_diff {p q x z x' z' : Int} (f1 : p * z - q * x = 1) (f1' : p * z' - q * x' = 1) : ∃ s, x - x' = s * p ∧ z - z' = s * q := by
  refine ⟨x * z' - x' * z, ?_, ?_⟩
  · have : x - x' = x * (p * z' - q * x') - x' * (p * z - q * x) := by rw [f1, f1']; omega
    rw [this]; grind
  · have : z - z' = z * (p * z' - q * x') - z' * (p * z - q * x) := by rw [f1, f1']; omega
    rw [this]; grind
/-- (a', w, g, e') is where the deed (p, q) leads from (a, b, c, e) -/
structure IsDone (a b c e p q a' w g e' : Int) : Prop where
  gc : g = (Int.gcd (p * b + q * a) (q * c) : Int)
  wi : w * g = c * (b - q * e - q * q * c)
  tu : e' = 0 - e - 2 * q * c
  lo : 0 ≤ a'
  hi : a' < (Int.gcd w g : Int)
  ex : ∃ u v x z : Int, p * z - q * x = 1 ∧ u * (p * b + q * a) + v * (q * c) = g ∧ (Int.gcd w g : Int) ∣ a' + (u * (x * b + z * a + e + q * c) + v * (z * c))
theorem isDone_unique {a b c e p q a1 w1 g1 e1 a2 w2 g2 e2 : Int} (hg : g1 ≠ 0) (h1 : IsDone a b c e p q a1 w1 g1 e1) (h2 : IsDone a b c e p q a2 w2 g2 e2) : a1 = a2 ∧ w1 = w2 ∧ g1 = g2 ∧ e1 = e2 := by
  have eg : g1 = g2 := h1.gc.trans h2.gc.symm
  subst eg
  have ew : w1 = w2 := Int.eq_of_mul_eq_mul_right hg (h1.wi.trans h2.wi.symm)
  subst ew
  refine ⟨?_, rfl, rfl, h1.tu.trans h2.tu.symm⟩
  obtain ⟨u, v, x, z, f1, f2, f3⟩ := h1.ex
  obtain ⟨u', v', x', z', f1', f2', f3'⟩ := h2.ex
  have dm : g1 ∣ p * b + q * a := by rw [h1.gc]; exact Int.gcd_dvd_left _ _
  have dn : g1 ∣ q * c := by rw [h1.gc]; exact Int.gcd_dvd_right _ _
  obtain ⟨t, t1, t2⟩ := bez_diff hg dm dn f2 f2'
  -- the second rows differ by a multiple of the first
  have hs := row_diff f1 f1'
  obtain ⟨s, s1, s2⟩ := hs
  have hw : w1 * g1 = (p * b + q * a) * (z' * c) - (q * c) * (x' * b + z' * a + e + q * c) := by
    rw [h1.wi]
    have : (p * b + q * a) * (z' * c) - (q * c) * (x' * b + z' * a + e + q * c) = c * (b * (p * z' - q * x') - q * e - q * q * c) := by grind
    rw [this, f1', Int.mul_one]
  -- the difference of the two rests
  have hd : ∃ k, (u * (x * b + z * a + e + q * c) + v * (z * c)) - (u' * (x' * b + z' * a + e + q * c) + v' * (z' * c)) = s * g1 + k * w1 := by
    refine ⟨-t, ?_⟩
    refine Int.eq_of_mul_eq_mul_right hg ?_
    have ex' : x = x' + s * p := by omega
    have ez' : z = z' + s * q := by omega
    have l1 : ((u * (x * b + z * a + e + q * c) + v * (z * c)) - (u' * (x' * b + z' * a + e + q * c) + v' * (z' * c))) = s * (u * (p * b + q * a) + v * (q * c)) + ((u - u') * (x' * b + z' * a + e + q * c) + (v - v') * (z' * c)) := by
      rw [ex', ez']; grind
    rw [l1, f2]
    have l2 : (s * g1 + ((u - u') * (x' * b + z' * a + e + q * c) + (v - v') * (z' * c))) * g1 = s * g1 * g1 + (((u - u') * g1) * (x' * b + z' * a + e + q * c) + ((v - v') * g1) * (z' * c)) := by grind
    rw [l2, t1, t2]
    have l3 : (s * g1 + -t * w1) * g1 = s * g1 * g1 + -t * (w1 * g1) := by grind
    rw [l3, hw]
    grind
  obtain ⟨k, hk⟩ := hd
  have dG : (Int.gcd w1 g1 : Int) ∣ a1 - a2 := by
    have d1 := Int.dvd_sub f3 f3'
    have d2 : (Int.gcd w1 g1 : Int) ∣ s * g1 + k * w1 := Int.dvd_add (Int.dvd_trans (Int.gcd_dvd_right _ _) (Int.dvd_mul_left _ _)) (Int.dvd_trans (Int.gcd_dvd_left _ _) (Int.dvd_mul_left _ _))
    have d3 := Int.dvd_sub d1 d2
    have e3 : a1 + (u * (x * b + z * a + e + q * c) + v * (z * c)) - (a2 + (u' * (x' * b + z' * a + e + q * c) + v' * (z' * c))) - (s * g1 + k * w1) = a1 - a2 := by rw [← hk]; omega
    rwa [e3] at d3
  obtain ⟨j, hj⟩ := dG
  have l1 := h1.lo
  have l2 := h2.lo
  have u1 := h1.hi
  have u2 := h2.hi
  generalize (Int.gcd w1 g1 : Int) = G at *
  by_cases hj0 : j = 0
  · subst hj0; omega
  · exfalso
    rcases (by omega : 1 ≤ j ∨ j ≤ -1) with q | q
    · have : G * 1 ≤ G * j := Int.mul_le_mul_of_nonneg_left q (by omega)
      omega
    · have : G * j ≤ G * (-1) := Int.mul_le_mul_of_nonneg_left q (by omega)
      omega
/-- a concave form is positive between two places where it is -/
theorem between_pos {b c e q s : Int} (hb : 0 < b) (hc : 0 < c) (hq : 0 < q) (hf : 0 < b - q * e - q * q * c) (s0 : 0 ≤ s) (s1 : s ≤ q * c) : 0 < c * b - s * e - s * s := by
  have hqc : 0 < q * c := Int.mul_pos hq hc
  have e1 : q * c * (c * b - s * e - s * s) = (q * c - s) * (c * b) + s * (c * (b - q * e - q * q * c)) + s * ((q * c - s) * (q * c)) := by grind
  have h1 : 0 < c * b := Int.mul_pos hc hb
  have h2 : 0 < c * (b - q * e - q * q * c) := Int.mul_pos hc hf
  have h3 : 0 ≤ s * ((q * c - s) * (q * c)) := Int.mul_nonneg s0 (Int.mul_nonneg (by omega) (by omega))
  have h4 : 0 < (q * c - s) * (c * b) + s * (c * (b - q * e - q * q * c)) := by
    by_cases z : s = 0
    · subst z
      have := Int.mul_pos hqc h1
      simp only [Int.sub_zero, Int.zero_mul, Int.add_zero]
      exact this
    · have h5 : 0 ≤ (q * c - s) * (c * b) := Int.mul_nonneg (by omega) (by omega)
      have h6 : 0 < s * (c * (b - q * e - q * q * c)) := Int.mul_pos (by omega) h2
      omega
  have h7 : 0 < q * c * (c * b - s * e - s * s) := by omega
  by_cases z : 0 < c * b - s * e - s * s
  · exact z
  · have : q * c * (c * b - s * e - s * s) ≤ 0 := Int.mul_nonpos_of_nonneg_of_nonpos (by omega) (by omega)
    omega
/-- where a deed leads, the side is less wide than it must be -/
theorem done_room {b c e q w g : Int} (hb : 0 < b) (hc : 0 < c) (hq : 0 < q) (hg : 0 < g) (hf : 0 < b - q * e - q * q * c) (hd : g ∣ q * c) (hw : w * g = c * (b - q * e - q * q * c)) : 0 < w ∧ g + (0 - e - 2 * q * c) < w := by
  have h2 : 0 < c * (b - q * e - q * q * c) := Int.mul_pos hc hf
  have hle : g ≤ q * c := Int.le_of_dvd (Int.mul_pos hq hc) hd
  have hp := between_pos (s := q * c - g) hb hc hq hf (by omega) (by omega)
  have e1 : c * b - (q * c - g) * e - (q * c - g) * (q * c - g) = w * g - g * (g + (0 - e - 2 * q * c)) := by rw [hw]; grind
  rw [e1] at hp
  refine ⟨?_, ?_⟩
  · by_cases z : 0 < w
    · exact z
    · have : w * g ≤ 0 := Int.mul_nonpos_of_nonpos_of_nonneg (by omega) (by omega)
      omega
  · by_cases z : g + (0 - e - 2 * q * c) < w
    · exact z
    · have h3 : g * w ≤ g * (g + (0 - e - 2 * q * c)) := Int.mul_le_mul_of_nonneg_left (by omega) (by omega)
      have h4 : g * w = w * g := Int.mul_comm _ _
      omega
/-- what divides all of the new cutting divides all of the old one -/
theorem done_dvd {a b c e p q a' w g e' d : Int} (hg : g ≠ 0) (h : IsDone a b c e p q a' w g e') (d1 : d ∣ a') (d2 : d ∣ w) (d3 : d ∣ g) (d4 : d ∣ e') : d ∣ a ∧ d ∣ b ∧ d ∣ c ∧ d ∣ e := by
  obtain ⟨u, v, x, z, f1, f2, f3⟩ := h.ex
  have dm : g ∣ p * b + q * a := by rw [h.gc]; exact Int.gcd_dvd_left _ _
  have dn : g ∣ q * c := by rw [h.gc]; exact Int.gcd_dvd_right _ _
  obtain ⟨m', hm⟩ := dm
  obtain ⟨n', hn⟩ := dn
  have hu : u * m' + v * n' = 1 := by
    have : g * (u * m' + v * n') = g * 1 := by
      have e1 : g * (u * m' + v * n') = u * (g * m') + v * (g * n') := by grind
      rw [e1, ← hm, ← hn, f2, Int.mul_one]
    exact Int.eq_of_mul_eq_mul_left hg this
  generalize hr3 : x * b + z * a + e + q * c = r3 at f3
  generalize hr4 : z * c = r4 at f3
  have hW : w = m' * r4 - n' * r3 := by
    refine Int.eq_of_mul_eq_mul_right hg ?_
    rw [h.wi]
    have e1 : (m' * r4 - n' * r3) * g = (g * m') * r4 - (g * n') * r3 := by grind
    rw [e1, ← hm, ← hn, ← hr3, ← hr4]
    have e2 : (p * b + q * a) * (z * c) - (q * c) * (x * b + z * a + e + q * c) = c * (b * (p * z - q * x) - q * e - q * q * c) := by grind
    rw [e2, f1, Int.mul_one]
  have dR : d ∣ u * r3 + v * r4 := by
    have h1 : d ∣ (Int.gcd w g : Int) := Int.dvd_coe_gcd d2 d3
    have h2 := Int.dvd_sub (Int.dvd_trans h1 f3) d1
    have e1 : a' + (u * r3 + v * r4) - a' = u * r3 + v * r4 := by omega
    rwa [e1] at h2
  generalize hR : u * r3 + v * r4 = R at dR
  have e3 : r3 = m' * R - v * w := by
    have : m' * R - v * w = (u * m' + v * n') * r3 := by rw [← hR, hW]; grind
    rw [this, hu, Int.one_mul]
  have e4 : r4 = n' * R + u * w := by
    have : n' * R + u * w = (u * m' + v * n') * r4 := by rw [← hR, hW]; grind
    rw [this, hu, Int.one_mul]
  have D3 : d ∣ r3 := by rw [e3]; exact Int.dvd_sub (Int.dvd_mul_of_dvd_right dR) (Int.dvd_mul_of_dvd_right d2)
  have D4 : d ∣ r4 := by rw [e4]; exact Int.dvd_add (Int.dvd_mul_of_dvd_right dR) (Int.dvd_mul_of_dvd_right d2)
  have Dm : d ∣ p * b + q * a := by rw [hm]; exact Int.dvd_mul_of_dvd_left d3
  have Dn : d ∣ q * c := by rw [hn]; exact Int.dvd_mul_of_dvd_left d3
  have De : d ∣ e := by
    have h1 : e = 0 - e' - 2 * (q * c) := by have := h.tu; have e1 : 2 * q * c = 2 * (q * c) := Int.mul_assoc _ _ _; omega
    rw [h1, Int.zero_sub]
    exact Int.dvd_sub (Int.dvd_neg.mpr d4) (Int.dvd_mul_of_dvd_right Dn)
  have Dc : d ∣ c := by
    have h1 : c = p * r4 - x * (q * c) := by
      have : p * r4 - x * (q * c) = c * (p * z - q * x) := by rw [← hr4]; grind
      rw [this, f1, Int.mul_one]
    rw [h1]
    exact Int.dvd_sub (Int.dvd_mul_of_dvd_right D4) (Int.dvd_mul_of_dvd_right Dn)
  have Dx : d ∣ x * b + z * a := by
    have h1 : x * b + z * a = r3 - e - q * c := by omega
    rw [h1]
    exact Int.dvd_sub (Int.dvd_sub D3 De) Dn
  refine ⟨?_, ?_, Dc, De⟩
  · have h1 : a = p * (x * b + z * a) - x * (p * b + q * a) := by
      have : p * (x * b + z * a) - x * (p * b + q * a) = a * (p * z - q * x) := by grind
      rw [this, f1, Int.mul_one]
    rw [h1]
    exact Int.dvd_sub (Int.dvd_mul_of_dvd_right Dx) (Int.dvd_mul_of_dvd_right Dm)
  · have h1 : b = z * (p * b + q * a) - q * (x * b + z * a) := by
      have : z * (p * b + q * a) - q * (x * b + z * a) = b * (p * z - q * x) := by grind
      rw [this, f1, Int.mul_one]
    rw [h1]
    exact Int.dvd_sub (Int.dvd_mul_of_dvd_right Dm) (Int.dvd_mul_of_dvd_right Dx)
end DL
namespace DL
open PySem PySem.Spec PyProof.Rows L2
local macro_rules | `(tactic| walk_at "rd") => `(tactic| simp only [startD, List.map, List.replicate, List.length_cons, List.length_nil, List.append_eq, List.append_nil, List.nil_append, List.cons_append, Nat.reduceSub, Nat.reduceAdd, List.getElem?_cons_zero, List.getElem?_cons_succ, List.set_cons_zero, List.set_cons_succ,
  dC, dVar, dOp, dTru, gTru, tru, dChain, dAnd, dOr, dNot, dAndV, dOrV, dNotV, dIf, dNeg, gNeg, dNil, dCons, dTup, dLst, dOwn, gIx, rBin, gAdd, gCmpI, dCall, dCallK, dSeq, dNext, dDrop, dRet, dRetN, dIfS, dName, dGNil, dGCons, dGTup, dSub, gSetL, dAsg, dPar, dPar3, dAug, gIpI, dSeqI, gSeqI, dRngI, gRng1, gRng2, dCB, gAbs, gInt, gMax, gMin, gGcd, gLen, lenD, gIsi, tyM, tyD, dBits, gBits, dMet, gAppend, dPart, dNoPart, dSl, dEnds, gIs, isB, dNever, dFor, dLc, wipeD, dYes,
  sizeLine_eq, Nat.reduceLeDiff, gEq_int, gNe_int, gEq_strs, gNe_strs, gIn_two, gRepr_bl, rs_lst, rs_tup, rs_scr, rs_int, atI_0, atI_1, atI_2, atI_3, atI_4, atI_5, ixN_30, ixN_31, ixN_32, gEq_bl, gNe_bl, decide_eq_true_eq, beq_iff_eq, Bool.not_eq_true', beq_eq_false_iff_ne, decide_eq_false_iff_not, Bool.not_true, Bool.not_false, if_true, if_false, Bool.false_eq_true, ite_true, ite_false, true_and, and_true, ne_eq, Bool.bne_false, Bool.bne_true, reduceCtorEq])
local macro_rules | `(tactic| walk_at "rh") => `(tactic| simp only [*, startD, List.map, List.replicate, List.length_cons, List.length_nil, List.append_eq, List.append_nil, List.nil_append, List.cons_append, Nat.reduceSub, Nat.reduceAdd, List.getElem?_cons_zero, List.getElem?_cons_succ, List.set_cons_zero, List.set_cons_succ,
  dC, dVar, dOp, dTru, gTru, tru, dChain, dAnd, dOr, dNot, dAndV, dOrV, dNotV, dIf, dNeg, gNeg, dNil, dCons, dTup, dLst, dOwn, gIx, rBin, gAdd, gCmpI, dCall, dCallK, dSeq, dNext, dDrop, dRet, dRetN, dIfS, dName, dGNil, dGCons, dGTup, dSub, gSetL, dAsg, dPar, dPar3, dAug, gIpI, dSeqI, gSeqI, dRngI, gRng1, gRng2, dCB, gAbs, gInt, gMax, gMin, gGcd, gLen, lenD, gIsi, tyM, tyD, dBits, gBits, dMet, gAppend, dPart, dNoPart, dSl, dEnds, gIs, isB, dNever, dFor, dLc, wipeD, dYes,
  sizeLine_eq, Nat.reduceLeDiff, gEq_int, gNe_int, gEq_strs, gNe_strs, gIn_two, gRepr_bl, rs_lst, rs_tup, rs_scr, rs_int, atI_0, atI_1, atI_2, atI_3, atI_4, atI_5, ixN_30, ixN_31, ixN_32, gEq_bl, gNe_bl, decide_eq_true_eq, beq_iff_eq, Bool.not_eq_true', beq_eq_false_iff_ne, decide_eq_false_iff_not, Bool.not_true, Bool.not_false, if_true, if_false, Bool.false_eq_true, ite_true, ite_false, true_and, and_true, ne_eq, Bool.bne_false, Bool.bne_true, reduceCtorEq])
local macro_rules | `(tactic| walk_at "kb") => `(tactic| simp only [kb_NoneType_list, kb_bool_list, kb_int_list, kb_str_list, kb_tuple_list, kb_list_list, kb_dict_list, kb_NoneType_int, kb_bool_int, kb_int_int, kb_str_int, kb_tuple_int, kb_list_int, kb_dict_int, kb_NoneType_bool, kb_bool_bool, kb_int_bool, kb_str_bool, kb_tuple_bool, kb_list_bool, kb_dict_bool, kb_NoneType_tuple, kb_bool_tuple, kb_int_tuple, kb_str_tuple, kb_tuple_tuple, kb_list_tuple, kb_dict_tuple, if_true, if_false, Bool.false_eq_true, ite_true, ite_false, Bool.not_true, Bool.not_false])
/-! ### deeds -/
/-- where a deed leads is a cutting of the same measure -/
theorem done_cut {a b c e p q a' w g e' : Int} (h : isCut a b c e = true) (hq : 1 ≤ q) (hf : 0 < b - q * e - q * q * c) (hd : IsDone a b c e p q a' w g e') : isCut a' w g e' = true ∧ meas4 w g e' = meas4 b c e := by
  obtain ⟨h1, h2, h3, h4, h5, h6⟩ := cut_parts h
  have hqc : 0 < q * c := Int.mul_pos (by omega) (by omega)
  have dn : g ∣ q * c := by rw [hd.gc]; exact Int.gcd_dvd_right _ _
  have hg : 0 < g := by
    have := Int.gcd_pos_of_ne_zero_right (p * b + q * a) (show q * c ≠ 0 by omega)
    rw [hd.gc]; omega
  obtain ⟨w0, room⟩ := done_room (by omega : 0 < b) (by omega : 0 < c) (by omega : 0 < q) hg hf dn hd.wi
  have hprim : (Int.gcd (Int.gcd a' (Int.gcd w g : Int) : Int) e' : Int) = 1 := by
    have d0 : (Int.gcd (Int.gcd a' (Int.gcd w g : Int) : Int) e' : Int) ∣ (Int.gcd a' (Int.gcd w g : Int) : Int) := Int.gcd_dvd_left _ _
    have d4 : (Int.gcd (Int.gcd a' (Int.gcd w g : Int) : Int) e' : Int) ∣ e' := Int.gcd_dvd_right _ _
    have d1 := Int.dvd_trans d0 (Int.gcd_dvd_left _ _)
    have d5 := Int.dvd_trans d0 (Int.gcd_dvd_right _ _)
    have d2 := Int.dvd_trans d5 (Int.gcd_dvd_left _ _)
    have d3 := Int.dvd_trans d5 (Int.gcd_dvd_right _ _)
    obtain ⟨k1, k2, k3, k4⟩ := done_dvd (by omega) hd d1 d2 d3 d4
    have k5 : (Int.gcd (Int.gcd a' (Int.gcd w g : Int) : Int) e' : Int) ∣ 1 := by
      rw [← h6]
      exact Int.dvd_coe_gcd (Int.dvd_coe_gcd k1 (Int.dvd_coe_gcd k2 k3)) k4
    have k6 := Int.le_of_dvd (by decide) k5
    have k7 : (Int.gcd (Int.gcd a' (Int.gcd w g : Int) : Int) e' : Int) ≠ 0 := by
      intro z
      rw [z] at k5
      exact absurd (Int.zero_dvd.mp k5) (by decide)
    omega
  refine ⟨?_, ?_⟩
  · unfold isCut
    rw [decide_eq_true (show 1 ≤ w by omega), decide_eq_true (show 1 ≤ g by omega), decide_eq_true (show g + e' < w by have := hd.tu; omega), decide_eq_true hd.lo, decide_eq_true hd.hi, hprim]
    rfl
  · unfold meas4
    rw [hd.tu]
    have e1 : 4 * w * g = 4 * (w * g) := Int.mul_assoc _ _ _
    rw [e1, hd.wi]
    grind
end DL
/-! MC: Euclid's rule with the factors; plain -/
namespace DL
theorem fmod_pos' {a b : Int} (h : 0 < b) : a.fmod b = a % b := Int.fmod_eq_emod_of_nonneg a (Int.le_of_lt h)
/-- the state of the rule: low = f m + t n, high = s m + h n, the sizes bounded -/
structure Euc (m n low high f s t h : Int) : Prop where
  e1 : low = f * m + t * n
  e2 : high = s * m + h * n
  l0 : 0 < low
  h0 : 0 ≤ high
  sg : (0 ≤ f ∧ s ≤ 0 ∧ f * high - s * low = n) ∨ (f ≤ 0 ∧ 0 ≤ s ∧ s * low - f * high = n)
  fb : -n ≤ f ∧ f ≤ n
  gc : (Int.gcd low high : Int) = Int.gcd m n
theorem Euc.sb {m n low high f s t h : Int} (E : Euc m n low high f s t h) : -n ≤ s ∧ s ≤ n := by
  have l0 := E.l0
  rcases E.sg with ⟨a, b, c⟩ | ⟨a, b, c⟩
  · have h1 : 0 ≤ f * high := Int.mul_nonneg a E.h0
    have h2 : (-s) * 1 ≤ (-s) * low := Int.mul_le_mul_of_nonneg_left l0 (by omega)
    have h3 : (-s) * low = -(s * low) := Int.neg_mul _ _
    omega
  · have h1 : 0 ≤ (-f) * high := Int.mul_nonneg (by omega) E.h0
    have h1' : (-f) * high = -(f * high) := Int.neg_mul _ _
    have h2 : s * 1 ≤ s * low := Int.mul_le_mul_of_nonneg_left l0 b
    omega
theorem Euc.step {m n low high f s t h : Int} (E : Euc m n low high f s t h) (hz : high ≠ 0) : Euc m n high (low - low / high * high) s (f - low / high * s) h (t - low / high * h) := by
  have h0 := E.h0
  have hp : 0 < high := by omega
  have k0 : 0 ≤ low / high := Int.ediv_nonneg (Int.le_of_lt E.l0) h0
  have r0 := Int.emod_nonneg low hz
  have rm : low - low / high * high = low % high := by
    have := Int.mul_ediv_add_emod low high
    have e : low / high * high = high * (low / high) := Int.mul_comm _ _
    omega
  refine ⟨E.e2, ?_, hp, by rw [rm]; exact r0, ?_, E.sb, ?_⟩
  · have e1 := E.e1
    have e2 := E.e2
    generalize low / high = k at *
    rw [e1, e2]
    grind
  · have sg := E.sg
    generalize low / high = k at *
    rcases sg with ⟨a, b, c⟩ | ⟨a, b, c⟩
    · right
      have : k * s ≤ 0 := Int.mul_nonpos_of_nonneg_of_nonpos k0 b
      refine ⟨b, by omega, ?_⟩
      rw [← c]; grind
    · left
      have : 0 ≤ k * s := Int.mul_nonneg k0 b
      refine ⟨b, by omega, ?_⟩
      rw [← c]; grind
  · rw [rm, ← E.gc, ← fmod_pos' hp]
    exact congrArg _ (gcd_step (Int.le_of_lt E.l0) hp)
theorem gcd_emod' (m n : Int) : (Int.gcd n (m % n) : Int) = Int.gcd m n := by
  have h := Int.mul_ediv_add_emod m n
  refine congrArg _ (Nat.dvd_antisymm ?_ ?_)
  · refine Int.natCast_dvd_natCast.mp (Int.dvd_coe_gcd ?_ (Int.gcd_dvd_left _ _))
    have h1 : (Int.gcd n (m % n) : Int) ∣ n * (m / n) + m % n := Int.dvd_add (Int.dvd_mul_of_dvd_left (Int.gcd_dvd_left _ _)) (Int.gcd_dvd_right _ _)
    rwa [h] at h1
  · refine Int.natCast_dvd_natCast.mp (Int.dvd_coe_gcd (Int.gcd_dvd_right _ _) ?_)
    have e : m % n = m - n * (m / n) := by omega
    rw [e]
    exact Int.dvd_sub (Int.gcd_dvd_left _ _) (Int.dvd_mul_of_dvd_left (Int.gcd_dvd_right _ _))
/-- behind the first turn -/
theorem Euc.first {m n : Int} (hn : 0 < n) : Euc m n n (m - m / n * n) 0 (1 - m / n * 0) 1 (0 - m / n * 1) := by
  have hm := Int.mul_ediv_add_emod m n
  have e : m / n * n = n * (m / n) := Int.mul_comm _ _
  have rm : m - m / n * n = m % n := by omega
  refine ⟨by omega, ?_, hn, by rw [rm]; exact Int.emod_nonneg _ (by omega), ?_, by omega, ?_⟩
  · rw [Int.mul_zero, Int.mul_one, Int.sub_zero, Int.one_mul, Int.zero_sub, Int.neg_mul]; omega
  · right
    rw [Int.mul_zero, Int.sub_zero, Int.one_mul, Int.zero_mul]
    omega
  · rw [rm]; exact gcd_emod' m n
/-- the other factors are bounded too -/
theorem Euc.tb {m n low high f s t h : Int} (hn : 0 < n) (E : Euc m n low high f s t h) (hl : low ≤ n) (hh : high ≤ n) : t.natAbs ≤ m.natAbs + 1 ∧ h.natAbs ≤ m.natAbs + 1 := by
  have key : ∀ x y z : Int, 0 ≤ x → x ≤ n → x = y * m + z * n → -n ≤ y → y ≤ n → z.natAbs ≤ m.natAbs + 1 := by
    intro x y z x0 x1 e y0 y1
    have h1 : z * n = x - y * m := by omega
    have h2 : z.natAbs * n.natAbs ≤ (m.natAbs + 1) * n.natAbs := by
      rw [← Int.natAbs_mul, h1]
      have h3 : (x - y * m).natAbs ≤ x.natAbs + (y * m).natAbs := by omega
      have h4 : (y * m).natAbs ≤ n.natAbs * m.natAbs := by rw [Int.natAbs_mul]; exact Nat.mul_le_mul_right _ (by omega)
      have h5 : (m.natAbs + 1) * n.natAbs = n.natAbs * m.natAbs + n.natAbs := by rw [Nat.add_mul, Nat.one_mul, Nat.mul_comm]
      omega
    exact Nat.le_of_mul_le_mul_right h2 (by omega)
  exact ⟨key low f t (Int.le_of_lt E.l0) hl E.e1 E.fb.1 E.fb.2, key high s h E.h0 hh E.e2 E.sb.1 E.sb.2⟩
end DL
namespace DL
open PySem PySem.Spec PyProof.Rows L2
local macro_rules | `(tactic| walk_at "rd") => `(tactic| simp only [startD, List.map, List.replicate, List.length_cons, List.length_nil, List.append_eq, List.append_nil, List.nil_append, List.cons_append, Nat.reduceSub, Nat.reduceAdd, List.getElem?_cons_zero, List.getElem?_cons_succ, List.set_cons_zero, List.set_cons_succ,
  dC, dVar, dOp, dTru, gTru, tru, dChain, dAnd, dOr, dNot, dAndV, dOrV, dNotV, dIf, dNeg, gNeg, dNil, dCons, dTup, dLst, dOwn, gIx, rBin, gAdd, gCmpI, dCall, dCallK, dSeq, dNext, dDrop, dRet, dRetN, dIfS, dName, dGNil, dGCons, dGTup, dSub, gSetL, dAsg, dPar, dPar3, dAug, gIpI, dSeqI, gSeqI, dRngI, gRng1, gRng2, dCB, gAbs, gInt, gMax, gMin, gGcd, gLen, lenD, gIsi, tyM, tyD, dBits, gBits, dMet, gAppend, dPart, dNoPart, dSl, dEnds, gIs, isB, dNever, dFor, dLc, wipeD, dYes,
  sizeLine_eq, Nat.reduceLeDiff, gEq_int, gNe_int, gEq_strs, gNe_strs, gIn_two, gRepr_bl, rs_lst, rs_tup, rs_scr, rs_int, atI_0, atI_1, atI_2, atI_3, atI_4, atI_5, ixN_30, ixN_31, ixN_32, gEq_bl, gNe_bl, decide_eq_true_eq, beq_iff_eq, Bool.not_eq_true', beq_eq_false_iff_ne, decide_eq_false_iff_not, Bool.not_true, Bool.not_false, if_true, if_false, Bool.false_eq_true, ite_true, ite_false, true_and, and_true, ne_eq, Bool.bne_false, Bool.bne_true, reduceCtorEq])
local macro_rules | `(tactic| walk_at "rh") => `(tactic| simp only [*, startD, List.map, List.replicate, List.length_cons, List.length_nil, List.append_eq, List.append_nil, List.nil_append, List.cons_append, Nat.reduceSub, Nat.reduceAdd, List.getElem?_cons_zero, List.getElem?_cons_succ, List.set_cons_zero, List.set_cons_succ,
  dC, dVar, dOp, dTru, gTru, tru, dChain, dAnd, dOr, dNot, dAndV, dOrV, dNotV, dIf, dNeg, gNeg, dNil, dCons, dTup, dLst, dOwn, gIx, rBin, gAdd, gCmpI, dCall, dCallK, dSeq, dNext, dDrop, dRet, dRetN, dIfS, dName, dGNil, dGCons, dGTup, dSub, gSetL, dAsg, dPar, dPar3, dAug, gIpI, dSeqI, gSeqI, dRngI, gRng1, gRng2, dCB, gAbs, gInt, gMax, gMin, gGcd, gLen, lenD, gIsi, tyM, tyD, dBits, gBits, dMet, gAppend, dPart, dNoPart, dSl, dEnds, gIs, isB, dNever, dFor, dLc, wipeD, dYes,
  sizeLine_eq, Nat.reduceLeDiff, gEq_int, gNe_int, gEq_strs, gNe_strs, gIn_two, gRepr_bl, rs_lst, rs_tup, rs_scr, rs_int, atI_0, atI_1, atI_2, atI_3, atI_4, atI_5, ixN_30, ixN_31, ixN_32, gEq_bl, gNe_bl, decide_eq_true_eq, beq_iff_eq, Bool.not_eq_true', beq_eq_false_iff_ne, decide_eq_false_iff_not, Bool.not_true, Bool.not_false, if_true, if_false, Bool.false_eq_true, ite_true, ite_false, true_and, and_true, ne_eq, Bool.bne_false, Bool.bne_true, reduceCtorEq])
local macro_rules | `(tactic| walk_at "kb") => `(tactic| simp only [kb_NoneType_list, kb_bool_list, kb_int_list, kb_str_list, kb_tuple_list, kb_list_list, kb_dict_list, kb_NoneType_int, kb_bool_int, kb_int_int, kb_str_int, kb_tuple_int, kb_list_int, kb_dict_int, kb_NoneType_bool, kb_bool_bool, kb_int_bool, kb_str_bool, kb_tuple_bool, kb_list_bool, kb_dict_bool, kb_NoneType_tuple, kb_bool_tuple, kb_int_tuple, kb_str_tuple, kb_tuple_tuple, kb_list_tuple, kb_dict_tuple, if_true, if_false, Bool.false_eq_true, ite_true, ite_false, Bool.not_true, Bool.not_false])
/-! ### the common divisor with its two factors -/
/-- ds = two ints, not both 0: any two factors will do -/
def sp_shared : DSp := fun ds M Q _ => ∃ m n : Int, ds = [.int m, .int n] ∧ 0 < n ∧ Bi 2000 m ∧ Bi 2000 n ∧ ∀ u v, u * m + v * n = (Int.gcd m n : Int) → Bi 4100 u → Bi 4100 v → Q (.tup [.int (Int.gcd m n), .int u, .int v]) M
end DL
namespace DL
open PySem PySem.Spec PyProof.Rows L2
local macro_rules | `(tactic| walk_at "rd") => `(tactic| simp only [startD, List.map, List.replicate, List.length_cons, List.length_nil, List.append_eq, List.append_nil, List.nil_append, List.cons_append, Nat.reduceSub, Nat.reduceAdd, List.getElem?_cons_zero, List.getElem?_cons_succ, List.set_cons_zero, List.set_cons_succ,
  dC, dVar, dOp, dTru, gTru, tru, dChain, dAnd, dOr, dNot, dAndV, dOrV, dNotV, dIf, dNeg, gNeg, dNil, dCons, dTup, dLst, dOwn, gIx, rBin, gAdd, gCmpI, dCall, dCallK, dSeq, dNext, dDrop, dRet, dRetN, dIfS, dName, dGNil, dGCons, dGTup, dSub, gSetL, dAsg, dPar, dPar3, dAug, gIpI, dSeqI, gSeqI, dRngI, gRng1, gRng2, dCB, gAbs, gInt, gMax, gMin, gGcd, gLen, lenD, gIsi, tyM, tyD, dBits, gBits, dMet, gAppend, dPart, dNoPart, dSl, dEnds, gIs, isB, dNever, dFor, dLc, wipeD, dYes,
  sizeLine_eq, Nat.reduceLeDiff, gEq_int, gNe_int, gEq_strs, gNe_strs, gIn_two, gRepr_bl, rs_lst, rs_tup, rs_scr, rs_int, atI_0, atI_1, atI_2, atI_3, atI_4, atI_5, ixN_30, ixN_31, ixN_32, gEq_bl, gNe_bl, decide_eq_true_eq, beq_iff_eq, Bool.not_eq_true', beq_eq_false_iff_ne, decide_eq_false_iff_not, Bool.not_true, Bool.not_false, if_true, if_false, Bool.false_eq_true, ite_true, ite_false, true_and, and_true, ne_eq, Bool.bne_false, Bool.bne_true, reduceCtorEq])
local macro_rules | `(tactic| walk_at "rh") => `(tactic| simp only [*, startD, List.map, List.replicate, List.length_cons, List.length_nil, List.append_eq, List.append_nil, List.nil_append, List.cons_append, Nat.reduceSub, Nat.reduceAdd, List.getElem?_cons_zero, List.getElem?_cons_succ, List.set_cons_zero, List.set_cons_succ,
  dC, dVar, dOp, dTru, gTru, tru, dChain, dAnd, dOr, dNot, dAndV, dOrV, dNotV, dIf, dNeg, gNeg, dNil, dCons, dTup, dLst, dOwn, gIx, rBin, gAdd, gCmpI, dCall, dCallK, dSeq, dNext, dDrop, dRet, dRetN, dIfS, dName, dGNil, dGCons, dGTup, dSub, gSetL, dAsg, dPar, dPar3, dAug, gIpI, dSeqI, gSeqI, dRngI, gRng1, gRng2, dCB, gAbs, gInt, gMax, gMin, gGcd, gLen, lenD, gIsi, tyM, tyD, dBits, gBits, dMet, gAppend, dPart, dNoPart, dSl, dEnds, gIs, isB, dNever, dFor, dLc, wipeD, dYes,
  sizeLine_eq, Nat.reduceLeDiff, gEq_int, gNe_int, gEq_strs, gNe_strs, gIn_two, gRepr_bl, rs_lst, rs_tup, rs_scr, rs_int, atI_0, atI_1, atI_2, atI_3, atI_4, atI_5, ixN_30, ixN_31, ixN_32, gEq_bl, gNe_bl, decide_eq_true_eq, beq_iff_eq, Bool.not_eq_true', beq_eq_false_iff_ne, decide_eq_false_iff_not, Bool.not_true, Bool.not_false, if_true, if_false, Bool.false_eq_true, ite_true, ite_false, true_and, and_true, ne_eq, Bool.bne_false, Bool.bne_true, reduceCtorEq])
local macro_rules | `(tactic| walk_at "kb") => `(tactic| simp only [kb_NoneType_list, kb_bool_list, kb_int_list, kb_str_list, kb_tuple_list, kb_list_list, kb_dict_list, kb_NoneType_int, kb_bool_int, kb_int_int, kb_str_int, kb_tuple_int, kb_list_int, kb_dict_int, kb_NoneType_bool, kb_bool_bool, kb_int_bool, kb_str_bool, kb_tuple_bool, kb_list_bool, kb_dict_bool, kb_NoneType_tuple, kb_bool_tuple, kb_int_tuple, kb_str_tuple, kb_tuple_tuple, kb_list_tuple, kb_dict_tuple, if_true, if_false, Bool.false_eq_true, ite_true, ite_false, Bool.not_true, Bool.not_false])
end DL
namespace DL
open PySem PySem.Spec PyProof.Rows L2
local macro_rules | `(tactic| walk_at "rd") => `(tactic| simp only [startD, List.map, List.replicate, List.length_cons, List.length_nil, List.append_eq, List.append_nil, List.nil_append, List.cons_append, Nat.reduceSub, Nat.reduceAdd, List.getElem?_cons_zero, List.getElem?_cons_succ, List.set_cons_zero, List.set_cons_succ,
  dC, dVar, dOp, dTru, gTru, tru, dChain, dAnd, dOr, dNot, dAndV, dOrV, dNotV, dIf, dNeg, gNeg, dNil, dCons, dTup, dLst, dOwn, gIx, rBin, gAdd, gCmpI, dCall, dCallK, dSeq, dNext, dDrop, dRet, dRetN, dIfS, dName, dGNil, dGCons, dGTup, dSub, gSetL, dAsg, dPar, dPar3, dAug, gIpI, dSeqI, gSeqI, dRngI, gRng1, gRng2, dCB, gAbs, gInt, gMax, gMin, gGcd, gLen, lenD, gIsi, tyM, tyD, dBits, gBits, dMet, gAppend, dPart, dNoPart, dSl, dEnds, gIs, isB, dNever, dFor, dLc, wipeD, dYes,
  sizeLine_eq, Nat.reduceLeDiff, gEq_int, gNe_int, gEq_strs, gNe_strs, gIn_two, gRepr_bl, rs_lst, rs_tup, rs_scr, rs_int, atI_0, atI_1, atI_2, atI_3, atI_4, atI_5, ixN_30, ixN_31, ixN_32, gEq_bl, gNe_bl, decide_eq_true_eq, beq_iff_eq, Bool.not_eq_true', beq_eq_false_iff_ne, decide_eq_false_iff_not, Bool.not_true, Bool.not_false, if_true, if_false, Bool.false_eq_true, ite_true, ite_false, true_and, and_true, ne_eq, Bool.bne_false, Bool.bne_true, reduceCtorEq])
local macro_rules | `(tactic| walk_at "rh") => `(tactic| simp only [*, startD, List.map, List.replicate, List.length_cons, List.length_nil, List.append_eq, List.append_nil, List.nil_append, List.cons_append, Nat.reduceSub, Nat.reduceAdd, List.getElem?_cons_zero, List.getElem?_cons_succ, List.set_cons_zero, List.set_cons_succ,
  dC, dVar, dOp, dTru, gTru, tru, dChain, dAnd, dOr, dNot, dAndV, dOrV, dNotV, dIf, dNeg, gNeg, dNil, dCons, dTup, dLst, dOwn, gIx, rBin, gAdd, gCmpI, dCall, dCallK, dSeq, dNext, dDrop, dRet, dRetN, dIfS, dName, dGNil, dGCons, dGTup, dSub, gSetL, dAsg, dPar, dPar3, dAug, gIpI, dSeqI, gSeqI, dRngI, gRng1, gRng2, dCB, gAbs, gInt, gMax, gMin, gGcd, gLen, lenD, gIsi, tyM, tyD, dBits, gBits, dMet, gAppend, dPart, dNoPart, dSl, dEnds, gIs, isB, dNever, dFor, dLc, wipeD, dYes,
  sizeLine_eq, Nat.reduceLeDiff, gEq_int, gNe_int, gEq_strs, gNe_strs, gIn_two, gRepr_bl, rs_lst, rs_tup, rs_scr, rs_int, atI_0, atI_1, atI_2, atI_3, atI_4, atI_5, ixN_30, ixN_31, ixN_32, gEq_bl, gNe_bl, decide_eq_true_eq, beq_iff_eq, Bool.not_eq_true', beq_eq_false_iff_ne, decide_eq_false_iff_not, Bool.not_true, Bool.not_false, if_true, if_false, Bool.false_eq_true, ite_true, ite_false, true_and, and_true, ne_eq, Bool.bne_false, Bool.bne_true, reduceCtorEq])
local macro_rules | `(tactic| walk_at "kb") => `(tactic| simp only [kb_NoneType_list, kb_bool_list, kb_int_list, kb_str_list, kb_tuple_list, kb_list_list, kb_dict_list, kb_NoneType_int, kb_bool_int, kb_int_int, kb_str_int, kb_tuple_int, kb_list_int, kb_dict_int, kb_NoneType_bool, kb_bool_bool, kb_int_bool, kb_str_bool, kb_tuple_bool, kb_list_bool, kb_dict_bool, kb_NoneType_tuple, kb_bool_tuple, kb_int_tuple, kb_str_tuple, kb_tuple_tuple, kb_list_tuple, kb_dict_tuple, if_true, if_false, Bool.false_eq_true, ite_true, ite_false, Bool.not_true, Bool.not_false])
/-! ### all that a deed makes -/
theorem gcd_quot {w g G w' lot : Int} (hG : (Int.gcd w g : Int) = G) (h0 : 0 < G) (hw : w = G * w') (hg : g = G * lot) : (Int.gcd w' lot : Int) = 1 := by
  have h1 : G * (Int.gcd w' lot : Int) ∣ G := by
    have d1 : G * (Int.gcd w' lot : Int) ∣ w := by rw [hw]; exact Int.mul_dvd_mul_left _ (Int.gcd_dvd_left _ _)
    have d2 : G * (Int.gcd w' lot : Int) ∣ g := by rw [hg]; exact Int.mul_dvd_mul_left _ (Int.gcd_dvd_right _ _)
    have := Int.dvd_coe_gcd d1 d2
    rwa [hG] at this
  have h2 : G * (Int.gcd w' lot : Int) ∣ G * 1 := by rw [Int.mul_one]; exact h1
  have h3 : (Int.gcd w' lot : Int) ∣ 1 := Int.dvd_of_mul_dvd_mul_left (by omega) h2
  have h4 := Int.le_of_dvd (by decide) h3
  have h5 : (Int.gcd w' lot : Int) ≠ 0 := by
    intro z
    rw [z] at h3
    exact absurd (Int.zero_dvd.mp h3) (by decide)
  omega
theorem Bi.of_dvd' {n : Nat} {c x : Int} (h : Bi n x) (hx : x ≠ 0) (e : c ∣ x) : Bi n c := by
  unfold Bi at h ⊢
  have := Nat.le_of_dvd (by omega) (Int.natAbs_dvd_natAbs.mpr e)
  omega
end DL
/-! MD: deeds with q = 1 that lead nearer to the heart; columns led down; plain -/
namespace DL
end DL
/-! ME: two columns led down; plain -/
namespace DL
/-- (o1, o2), (t1, t2) came of (i, k), (j, l) -/
structure Led (i k j l o1 o2 t1 t2 : Int) : Prop where
  ex : ∃ u v u' v' : Int, o1 = u * i + v * j ∧ o2 = u * k + v * l ∧ t1 = u' * i + v' * j ∧ t2 = u' * k + v' * l ∧ (u * v' - u' * v = 1 ∨ u * v' - u' * v = -1)
theorem Led.start (i k j l : Int) : Led i k j l i k j l := ⟨1, 0, 0, 1, by omega, by omega, by omega, by omega, .inl (by omega)⟩
theorem Led.step {i k j l o1 o2 t1 t2 : Int} (h : Led i k j l o1 o2 t1 t2) (T : Int) : Led i k j l t1 t2 (o1 - T * t1) (o2 - T * t2) := by
  obtain ⟨u, v, u', v', e1, e2, e3, e4, e5⟩ := h.ex
  refine ⟨u', v', u - T * u', v - T * v', e3, e4, ?_, ?_, ?_⟩
  · rw [e1, e3]; grind
  · rw [e2, e4]; grind
  · have : u' * (v - T * v') - (u - T * u') * v' = -(u * v' - u' * v) := by grind
    rw [this]
    omega
/-- sizes of a deed's second number -/
theorem deed_q {b c e q : Int} (hb : 1 ≤ b) (hc : 1 ≤ c) (hq : 1 ≤ q) (hf : 0 < b - q * e - q * q * c) : q < b + e.natAbs := by
  have h1 : q * q * 1 ≤ q * q * c := Int.mul_le_mul_of_nonneg_left hc (Int.mul_nonneg (by omega) (by omega))
  have h2 : q * (-(e.natAbs : Int)) ≤ q * e := Int.mul_le_mul_of_nonneg_left (by omega) (by omega)
  have h3 : q * (q - e.natAbs) < b := by
    have : q * (q - e.natAbs) = q * q * 1 + q * (-(e.natAbs : Int)) := by grind
    omega
  by_cases z : q < b + e.natAbs
  · exact z
  · have h4 : q * b ≤ q * (q - e.natAbs) := Int.mul_le_mul_of_nonneg_left (by omega) (by omega)
    have h5 : 1 * b ≤ q * b := Int.mul_le_mul_of_nonneg_right hq (by omega)
    omega
end DL
namespace DL
open PySem PySem.Spec PyProof.Rows L2
local macro_rules | `(tactic| walk_at "rd") => `(tactic| simp only [startD, List.map, List.replicate, List.length_cons, List.length_nil, List.append_eq, List.append_nil, List.nil_append, List.cons_append, Nat.reduceSub, Nat.reduceAdd, List.getElem?_cons_zero, List.getElem?_cons_succ, List.set_cons_zero, List.set_cons_succ,
  dC, dVar, dOp, dTru, gTru, tru, dChain, dAnd, dOr, dNot, dAndV, dOrV, dNotV, dIf, dNeg, gNeg, dNil, dCons, dTup, dLst, dOwn, gIx, rBin, gAdd, gCmpI, dCall, dCallK, dSeq, dNext, dDrop, dRet, dRetN, dIfS, dName, dGNil, dGCons, dGTup, dSub, gSetL, dAsg, dPar, dPar3, dAug, gIpI, dSeqI, gSeqI, dRngI, gRng1, gRng2, dCB, gAbs, gInt, gMax, gMin, gGcd, gLen, lenD, gIsi, tyM, tyD, dBits, gBits, dMet, gAppend, dPart, dNoPart, dSl, gSl_tup, gSl_lst, cut_1, dEnds, gIs, isB, dNever, dFor, dLc, wipeD, dYes,
  sizeLine_eq, Nat.reduceLeDiff, gEq_int, gNe_int, gEq_strs, gNe_strs, gIn_two, gRepr_bl, rs_lst, rs_tup, rs_scr, rs_int, atI_0, atI_1, atI_2, atI_3, atI_4, atI_5, ixN_30, ixN_31, ixN_32, gEq_bl, gNe_bl, decide_eq_true_eq, beq_iff_eq, Bool.not_eq_true', beq_eq_false_iff_ne, decide_eq_false_iff_not, Bool.not_true, Bool.not_false, if_true, if_false, Bool.false_eq_true, ite_true, ite_false, true_and, and_true, ne_eq, Bool.bne_false, Bool.bne_true, reduceCtorEq])
local macro_rules | `(tactic| walk_at "rh") => `(tactic| simp only [*, startD, List.map, List.replicate, List.length_cons, List.length_nil, List.append_eq, List.append_nil, List.nil_append, List.cons_append, Nat.reduceSub, Nat.reduceAdd, List.getElem?_cons_zero, List.getElem?_cons_succ, List.set_cons_zero, List.set_cons_succ,
  dC, dVar, dOp, dTru, gTru, tru, dChain, dAnd, dOr, dNot, dAndV, dOrV, dNotV, dIf, dNeg, gNeg, dNil, dCons, dTup, dLst, dOwn, gIx, rBin, gAdd, gCmpI, dCall, dCallK, dSeq, dNext, dDrop, dRet, dRetN, dIfS, dName, dGNil, dGCons, dGTup, dSub, gSetL, dAsg, dPar, dPar3, dAug, gIpI, dSeqI, gSeqI, dRngI, gRng1, gRng2, dCB, gAbs, gInt, gMax, gMin, gGcd, gLen, lenD, gIsi, tyM, tyD, dBits, gBits, dMet, gAppend, dPart, dNoPart, dSl, gSl_tup, gSl_lst, cut_1, dEnds, gIs, isB, dNever, dFor, dLc, wipeD, dYes,
  sizeLine_eq, Nat.reduceLeDiff, gEq_int, gNe_int, gEq_strs, gNe_strs, gIn_two, gRepr_bl, rs_lst, rs_tup, rs_scr, rs_int, atI_0, atI_1, atI_2, atI_3, atI_4, atI_5, ixN_30, ixN_31, ixN_32, gEq_bl, gNe_bl, decide_eq_true_eq, beq_iff_eq, Bool.not_eq_true', beq_eq_false_iff_ne, decide_eq_false_iff_not, Bool.not_true, Bool.not_false, if_true, if_false, Bool.false_eq_true, ite_true, ite_false, true_and, and_true, ne_eq, Bool.bne_false, Bool.bne_true, reduceCtorEq])
local macro_rules | `(tactic| walk_at "kb") => `(tactic| simp only [kb_NoneType_list, kb_bool_list, kb_int_list, kb_str_list, kb_tuple_list, kb_list_list, kb_dict_list, kb_NoneType_int, kb_bool_int, kb_int_int, kb_str_int, kb_tuple_int, kb_list_int, kb_dict_int, kb_NoneType_bool, kb_bool_bool, kb_int_bool, kb_str_bool, kb_tuple_bool, kb_list_bool, kb_dict_bool, kb_NoneType_tuple, kb_bool_tuple, kb_int_tuple, kb_str_tuple, kb_tuple_tuple, kb_list_tuple, kb_dict_tuple, if_true, if_false, Bool.false_eq_true, ite_true, ite_false, Bool.not_true, Bool.not_false])
/-! ### sizes of cuttings by their measure -/
theorem sq_nn (e : Int) : 0 ≤ e * e := by rcases (by omega : 0 ≤ e ∨ e ≤ 0) with h | h; exact Int.mul_nonneg h h; exact Int.mul_nonneg_of_nonpos_of_nonpos h h
theorem abs_le_sq (e : Int) : (e.natAbs : Int) ≤ e * e := by
  rcases (by omega : e = 0 ∨ 1 ≤ e ∨ e ≤ -1) with h | h | h
  · subst h; decide
  · have : e * 1 ≤ e * e := Int.mul_le_mul_of_nonneg_left h (by omega); omega
  · have : (-e) * 1 ≤ (-e) * (-e) := Int.mul_le_mul_of_nonneg_left (by omega) (by omega)
    rw [Int.neg_mul_neg] at this; omega
theorem cut_le {a b c e : Int} (h : isCut a b c e = true) : 0 ≤ a ∧ a < c ∧ a < b ∧ b ≤ meas4 b c e ∧ c ≤ meas4 b c e ∧ (e.natAbs : Int) ≤ meas4 b c e ∧ e * e < meas4 b c e := by
  obtain ⟨h1, h2, h3, h4, h5, _⟩ := cut_parts h
  have g1 : (Int.gcd b c : Int) ≤ c := Int.le_of_dvd (by omega) (Int.gcd_dvd_right _ _)
  have g2 : (Int.gcd b c : Int) ≤ b := Int.le_of_dvd (by omega) (Int.gcd_dvd_left _ _)
  have e1 : 4 * b * c = 4 * (b * c) := Int.mul_assoc _ _ _
  have hb : b * 1 ≤ b * c := Int.mul_le_mul_of_nonneg_left h2 (by omega)
  have hc : 1 * c ≤ b * c := Int.mul_le_mul_of_nonneg_right h1 (by omega)
  have he := abs_le_sq e
  have hs := sq_nn e
  unfold meas4
  refine ⟨h4, by omega, by omega, by omega, by omega, by omega, by omega⟩
def CutB (n : Nat) (a b c e : Int) : Prop := Bi n a ∧ Bi n b ∧ Bi n c ∧ Bi n e
theorem cut_bi {n : Nat} {a b c e : Int} (h : isCut a b c e = true) (hm : Bi n (meas4 b c e)) : CutB n a b c e := by
  obtain ⟨h1, h2, h3, h4, h5, h6, h7⟩ := cut_le h
  have h8 := (cut_parts h).1
  have h9 := (cut_parts h).2.1
  have hs := sq_nn e
  unfold CutB Bi at *
  omega
theorem CutB.mono {n k : Nat} {a b c e : Int} (h : CutB n a b c e) (hk : n ≤ k := by decide) : CutB k a b c e := ⟨h.1.mono hk, h.2.1.mono hk, h.2.2.1.mono hk, h.2.2.2.mono hk⟩
/-- a deed's numbers, but for the bound of the first -/
structure DeedQ (b c e p q : Int) : Prop where
  q1 : 1 ≤ q
  al : 0 < b - q * e - q * q * c
  p0 : 0 ≤ p
  cp : Int.gcd p q = 1
theorem deedq_one {a b c e p : Int} (h : isCut a b c e = true) (hp : 0 ≤ p) : DeedQ b c e p 1 := by
  obtain ⟨h1, h2, h3, h4, h5, _⟩ := cut_parts h
  refine ⟨by omega, by rw [Int.one_mul, Int.one_mul, Int.one_mul]; omega, hp, ?_⟩
  simp [Int.gcd]
def farV (a b c : Int) : Int := if c = 1 then 0 else if (Int.gcd (Int.gcd a b : Int) c : Int) = 1 then 1 else 2
theorem done_g {a b c e p q a' w g e' : Int} (hc : 1 ≤ c) (hq : 1 ≤ q) (h : IsDone a b c e p q a' w g e') : 0 < g := by
  have := Int.gcd_pos_of_ne_zero_right (p * b + q * a) (show q * c ≠ 0 by have := Int.mul_pos (show 0 < q by omega) (show 0 < c by omega); omega)
  have := h.gc
  omega
/-- p is the least that leads nearer -/
def IsNear (a b c e p : Int) : Prop := (∀ a' w g e', IsDone a b c e p 1 a' w g e' → farV a' w g + 1 = farV a b c) ∧ ∀ p', 0 ≤ p' → p' < p → ∀ a' w g e', IsDone a b c e p' 1 a' w g e' → farV a b c ≤ farV a' w g
theorem lot_le {b c : Int} (hc : 1 ≤ c) : 1 ≤ c / (Int.gcd b c : Int) ∧ c / (Int.gcd b c : Int) ≤ c := by
  have G0 : 0 < (Int.gcd b c : Int) := by
    have := Int.gcd_pos_of_ne_zero_right b (show c ≠ 0 by omega)
    omega
  exact ⟨Int.ediv_pos_of_pos_of_dvd (by omega) (by omega) (Int.gcd_dvd_right _ _), Int.ediv_le_self _ (by omega)⟩
end DL
namespace DL
open PySem PySem.Spec PyProof.Rows L2
local macro_rules | `(tactic| walk_at "rd") => `(tactic| simp only [startD, List.map, List.replicate, List.length_cons, List.length_nil, List.append_eq, List.append_nil, List.nil_append, List.cons_append, Nat.reduceSub, Nat.reduceAdd, List.getElem?_cons_zero, List.getElem?_cons_succ, List.set_cons_zero, List.set_cons_succ,
  dC, dVar, dOp, dTru, gTru, tru, dChain, dAnd, dOr, dNot, dAndV, dOrV, dNotV, dIf, dNeg, gNeg, dNil, dCons, dTup, dLst, dOwn, gIx, rBin, gAdd, gCmpI, dCall, dCallK, dSeq, dNext, dDrop, dRet, dRetN, dIfS, dName, dGNil, dGCons, dGTup, dSub, gSetL, dAsg, dPar, dPar3, dAug, gIpI, dSeqI, gSeqI, dRngI, gRng1, gRng2, dCB, gAbs, gInt, gMax, gMin, gGcd, gLen, lenD, gIsi, tyM, tyD, dBits, gBits, dMet, gAppend, dPart, dNoPart, dSl, gSl_tup, gSl_lst, cut_1, dEnds, gIs, isB, dNever, dFor, dLc, wipeD, dYes,
  sizeLine_eq, Nat.reduceLeDiff, gEq_int, gNe_int, gEq_strs, gNe_strs, gIn_two, gRepr_bl, rs_lst, rs_tup, rs_scr, rs_int, atI_0, atI_1, atI_2, atI_3, atI_4, atI_5, ixN_30, ixN_31, ixN_32, gEq_bl, gNe_bl, decide_eq_true_eq, beq_iff_eq, Bool.not_eq_true', beq_eq_false_iff_ne, decide_eq_false_iff_not, Bool.not_true, Bool.not_false, if_true, if_false, Bool.false_eq_true, ite_true, ite_false, true_and, and_true, ne_eq, Bool.bne_false, Bool.bne_true, reduceCtorEq])
local macro_rules | `(tactic| walk_at "rh") => `(tactic| simp only [*, startD, List.map, List.replicate, List.length_cons, List.length_nil, List.append_eq, List.append_nil, List.nil_append, List.cons_append, Nat.reduceSub, Nat.reduceAdd, List.getElem?_cons_zero, List.getElem?_cons_succ, List.set_cons_zero, List.set_cons_succ,
  dC, dVar, dOp, dTru, gTru, tru, dChain, dAnd, dOr, dNot, dAndV, dOrV, dNotV, dIf, dNeg, gNeg, dNil, dCons, dTup, dLst, dOwn, gIx, rBin, gAdd, gCmpI, dCall, dCallK, dSeq, dNext, dDrop, dRet, dRetN, dIfS, dName, dGNil, dGCons, dGTup, dSub, gSetL, dAsg, dPar, dPar3, dAug, gIpI, dSeqI, gSeqI, dRngI, gRng1, gRng2, dCB, gAbs, gInt, gMax, gMin, gGcd, gLen, lenD, gIsi, tyM, tyD, dBits, gBits, dMet, gAppend, dPart, dNoPart, dSl, gSl_tup, gSl_lst, cut_1, dEnds, gIs, isB, dNever, dFor, dLc, wipeD, dYes,
  sizeLine_eq, Nat.reduceLeDiff, gEq_int, gNe_int, gEq_strs, gNe_strs, gIn_two, gRepr_bl, rs_lst, rs_tup, rs_scr, rs_int, atI_0, atI_1, atI_2, atI_3, atI_4, atI_5, ixN_30, ixN_31, ixN_32, gEq_bl, gNe_bl, decide_eq_true_eq, beq_iff_eq, Bool.not_eq_true', beq_eq_false_iff_ne, decide_eq_false_iff_not, Bool.not_true, Bool.not_false, if_true, if_false, Bool.false_eq_true, ite_true, ite_false, true_and, and_true, ne_eq, Bool.bne_false, Bool.bne_true, reduceCtorEq])
local macro_rules | `(tactic| walk_at "kb") => `(tactic| simp only [kb_NoneType_list, kb_bool_list, kb_int_list, kb_str_list, kb_tuple_list, kb_list_list, kb_dict_list, kb_NoneType_int, kb_bool_int, kb_int_int, kb_str_int, kb_tuple_int, kb_list_int, kb_dict_int, kb_NoneType_bool, kb_bool_bool, kb_int_bool, kb_str_bool, kb_tuple_bool, kb_list_bool, kb_dict_bool, kb_NoneType_tuple, kb_bool_tuple, kb_int_tuple, kb_str_tuple, kb_tuple_tuple, kb_list_tuple, kb_dict_tuple, if_true, if_false, Bool.false_eq_true, ite_true, ite_false, Bool.not_true, Bool.not_false])
/-! ### the way to the heart -/
/-- deeds (p, 1), one behind the other, from (a, b, c, e) to (a', b', c', e') -/
def HWay : List Int → Int → Int → Int → Int → Int → Int → Int → Int → Prop
  | [], a, b, c, e, a', b', c', e' => a' = a ∧ b' = b ∧ c' = c ∧ e' = e
  | p :: ps, a, b, c, e, a', b', c', e' => ∃ a1 w g e1, 0 ≤ p ∧ p < c / (Int.gcd b c : Int) ∧ IsDone a b c e p 1 a1 w g e1 ∧ HWay ps a1 w g e1 a' b' c' e' ∧ IsNear a b c e p
theorem HWay.snoc : ∀ {ps : List Int} {a b c e a1 b1 c1 e1 p a2 b2 c2 e2 : Int}, HWay ps a b c e a1 b1 c1 e1 → 0 ≤ p → p < c1 / (Int.gcd b1 c1 : Int) → IsDone a1 b1 c1 e1 p 1 a2 b2 c2 e2 → IsNear a1 b1 c1 e1 p → HWay (ps ++ [p]) a b c e a2 b2 c2 e2
  | [], _, _, _, _, _, _, _, _, _, _, _, _, _, ⟨rfl, rfl, rfl, rfl⟩, h0, h1, h2, h3 => ⟨_, _, _, _, h0, h1, h2, ⟨rfl, rfl, rfl, rfl⟩, h3⟩
  | _ :: _, _, _, _, _, _, _, _, _, _, _, _, _, _, ⟨_, _, _, _, k0, k1, k2, k3, k4⟩, h0, h1, h2, h3 => ⟨_, _, _, _, k0, k1, k2, HWay.snoc k3 h0 h1 h2 h3, k4⟩
end DL
namespace DL
open PySem PySem.Spec PyProof.Rows L2
local macro_rules | `(tactic| walk_at "rd") => `(tactic| simp only [startD, List.map, List.replicate, List.length_cons, List.length_nil, List.append_eq, List.append_nil, List.nil_append, List.cons_append, Nat.reduceSub, Nat.reduceAdd, List.getElem?_cons_zero, List.getElem?_cons_succ, List.set_cons_zero, List.set_cons_succ,
  dC, dVar, dOp, dTru, gTru, tru, dChain, dAnd, dOr, dNot, dAndV, dOrV, dNotV, dIf, dNeg, gNeg, dNil, dCons, dTup, dLst, dOwn, gIx, rBin, gAdd, gCmpI, dCall, dCallK, dSeq, dNext, dDrop, dRet, dRetN, dIfS, dName, dGNil, dGCons, dGTup, dSub, gSetL, dAsg, dPar, dPar3, dAug, gIpI, dSeqI, gSeqI, dRngI, gRng1, gRng2, dCB, gAbs, gInt, gMax, gMin, gGcd, gLen, lenD, gIsi, tyM, tyD, dBits, gBits, dMet, gAppend, dPart, dNoPart, dSl, gSl_tup, gSl_lst, cut_1, dEnds, gIs, isB, dNever, dFor, dLc, wipeD, dYes,
  sizeLine_eq, Nat.reduceLeDiff, gEq_int, gNe_int, gEq_strs, gNe_strs, gIn_two, gRepr_bl, rs_lst, rs_tup, rs_scr, rs_int, atI_0, atI_1, atI_2, atI_3, atI_4, atI_5, ixN_30, ixN_31, ixN_32, gEq_bl, gNe_bl, decide_eq_true_eq, beq_iff_eq, Bool.not_eq_true', beq_eq_false_iff_ne, decide_eq_false_iff_not, Bool.not_true, Bool.not_false, if_true, if_false, Bool.false_eq_true, ite_true, ite_false, true_and, and_true, ne_eq, Bool.bne_false, Bool.bne_true, reduceCtorEq])
local macro_rules | `(tactic| walk_at "rh") => `(tactic| simp only [*, startD, List.map, List.replicate, List.length_cons, List.length_nil, List.append_eq, List.append_nil, List.nil_append, List.cons_append, Nat.reduceSub, Nat.reduceAdd, List.getElem?_cons_zero, List.getElem?_cons_succ, List.set_cons_zero, List.set_cons_succ,
  dC, dVar, dOp, dTru, gTru, tru, dChain, dAnd, dOr, dNot, dAndV, dOrV, dNotV, dIf, dNeg, gNeg, dNil, dCons, dTup, dLst, dOwn, gIx, rBin, gAdd, gCmpI, dCall, dCallK, dSeq, dNext, dDrop, dRet, dRetN, dIfS, dName, dGNil, dGCons, dGTup, dSub, gSetL, dAsg, dPar, dPar3, dAug, gIpI, dSeqI, gSeqI, dRngI, gRng1, gRng2, dCB, gAbs, gInt, gMax, gMin, gGcd, gLen, lenD, gIsi, tyM, tyD, dBits, gBits, dMet, gAppend, dPart, dNoPart, dSl, gSl_tup, gSl_lst, cut_1, dEnds, gIs, isB, dNever, dFor, dLc, wipeD, dYes,
  sizeLine_eq, Nat.reduceLeDiff, gEq_int, gNe_int, gEq_strs, gNe_strs, gIn_two, gRepr_bl, rs_lst, rs_tup, rs_scr, rs_int, atI_0, atI_1, atI_2, atI_3, atI_4, atI_5, ixN_30, ixN_31, ixN_32, gEq_bl, gNe_bl, decide_eq_true_eq, beq_iff_eq, Bool.not_eq_true', beq_eq_false_iff_ne, decide_eq_false_iff_not, Bool.not_true, Bool.not_false, if_true, if_false, Bool.false_eq_true, ite_true, ite_false, true_and, and_true, ne_eq, Bool.bne_false, Bool.bne_true, reduceCtorEq])
local macro_rules | `(tactic| walk_at "kb") => `(tactic| simp only [kb_NoneType_list, kb_bool_list, kb_int_list, kb_str_list, kb_tuple_list, kb_list_list, kb_dict_list, kb_NoneType_int, kb_bool_int, kb_int_int, kb_str_int, kb_tuple_int, kb_list_int, kb_dict_int, kb_NoneType_bool, kb_bool_bool, kb_int_bool, kb_str_bool, kb_tuple_bool, kb_list_bool, kb_dict_bool, kb_NoneType_tuple, kb_bool_tuple, kb_int_tuple, kb_str_tuple, kb_tuple_tuple, kb_list_tuple, kb_dict_tuple, if_true, if_false, Bool.false_eq_true, ite_true, ite_false, Bool.not_true, Bool.not_false])
/-! ### the law's own deeds -/
/-- where a deed leads, told by the law -/
def sp_ldone : DSp := fun ds M Q _ => ∃ a b c e p q : Int, ds = [T4 a b c e, .tup [.int p, .int q]] ∧ 1 ≤ q ∧ 1 ≤ c ∧ Int.gcd p q = 1 ∧ 0 < b - q * e - q * q * c ∧ CutB 450 a b c e ∧ Bi 450 p ∧ Bi 450 q ∧
  ∀ a' w g e', IsDone a b c e p q a' w g e' → Q (T4 a' w g e') M
end DL
namespace DL
open PySem PySem.Spec PyProof.Rows L2
local macro_rules | `(tactic| walk_at "rd") => `(tactic| simp only [startD, List.map, List.replicate, List.length_cons, List.length_nil, List.append_eq, List.append_nil, List.nil_append, List.cons_append, Nat.reduceSub, Nat.reduceAdd, List.getElem?_cons_zero, List.getElem?_cons_succ, List.set_cons_zero, List.set_cons_succ,
  dC, dVar, dOp, dTru, gTru, tru, dChain, dAnd, dOr, dNot, dAndV, dOrV, dNotV, dIf, dNeg, gNeg, dNil, dCons, dTup, dLst, dOwn, gIx, rBin, gAdd, gCmpI, dCall, dCallK, dSeq, dNext, dDrop, dRet, dRetN, dIfS, dName, dGNil, dGCons, dGTup, dSub, gSetL, dAsg, dPar, dPar3, dAug, gIpI, dSeqI, gSeqI, dRngI, gRng1, gRng2, dCB, gAbs, gInt, gMax, gMin, gGcd, gLen, lenD, gIsi, tyM, tyD, dBits, gBits, dMet, gAppend, dPart, dNoPart, dSl, gSl_tup, gSl_lst, cut_1, dEnds, gIs, isB, dNever, dFor, dLc, wipeD, dYes,
  sizeLine_eq, Nat.reduceLeDiff, gEq_int, gNe_int, gEq_strs, gNe_strs, gIn_two, gRepr_bl, rs_lst, rs_tup, rs_scr, rs_int, atI_0, atI_1, atI_2, atI_3, atI_4, atI_5, ixN_30, ixN_31, ixN_32, gEq_bl, gNe_bl, decide_eq_true_eq, beq_iff_eq, Bool.not_eq_true', beq_eq_false_iff_ne, decide_eq_false_iff_not, Bool.not_true, Bool.not_false, if_true, if_false, Bool.false_eq_true, ite_true, ite_false, true_and, and_true, ne_eq, Bool.bne_false, Bool.bne_true, reduceCtorEq])
local macro_rules | `(tactic| walk_at "rh") => `(tactic| simp only [*, startD, List.map, List.replicate, List.length_cons, List.length_nil, List.append_eq, List.append_nil, List.nil_append, List.cons_append, Nat.reduceSub, Nat.reduceAdd, List.getElem?_cons_zero, List.getElem?_cons_succ, List.set_cons_zero, List.set_cons_succ,
  dC, dVar, dOp, dTru, gTru, tru, dChain, dAnd, dOr, dNot, dAndV, dOrV, dNotV, dIf, dNeg, gNeg, dNil, dCons, dTup, dLst, dOwn, gIx, rBin, gAdd, gCmpI, dCall, dCallK, dSeq, dNext, dDrop, dRet, dRetN, dIfS, dName, dGNil, dGCons, dGTup, dSub, gSetL, dAsg, dPar, dPar3, dAug, gIpI, dSeqI, gSeqI, dRngI, gRng1, gRng2, dCB, gAbs, gInt, gMax, gMin, gGcd, gLen, lenD, gIsi, tyM, tyD, dBits, gBits, dMet, gAppend, dPart, dNoPart, dSl, gSl_tup, gSl_lst, cut_1, dEnds, gIs, isB, dNever, dFor, dLc, wipeD, dYes,
  sizeLine_eq, Nat.reduceLeDiff, gEq_int, gNe_int, gEq_strs, gNe_strs, gIn_two, gRepr_bl, rs_lst, rs_tup, rs_scr, rs_int, atI_0, atI_1, atI_2, atI_3, atI_4, atI_5, ixN_30, ixN_31, ixN_32, gEq_bl, gNe_bl, decide_eq_true_eq, beq_iff_eq, Bool.not_eq_true', beq_eq_false_iff_ne, decide_eq_false_iff_not, Bool.not_true, Bool.not_false, if_true, if_false, Bool.false_eq_true, ite_true, ite_false, true_and, and_true, ne_eq, Bool.bne_false, Bool.bne_true, reduceCtorEq])
local macro_rules | `(tactic| walk_at "kb") => `(tactic| simp only [kb_NoneType_list, kb_bool_list, kb_int_list, kb_str_list, kb_tuple_list, kb_list_list, kb_dict_list, kb_NoneType_int, kb_bool_int, kb_int_int, kb_str_int, kb_tuple_int, kb_list_int, kb_dict_int, kb_NoneType_bool, kb_bool_bool, kb_int_bool, kb_str_bool, kb_tuple_bool, kb_list_bool, kb_dict_bool, kb_NoneType_tuple, kb_bool_tuple, kb_int_tuple, kb_str_tuple, kb_tuple_tuple, kb_list_tuple, kb_dict_tuple, if_true, if_false, Bool.false_eq_true, ite_true, ite_false, Bool.not_true, Bool.not_false])
/-! ### k63: drawn deeds, the heart's numbers -/
theorem lt900 {b : Int} (h : b < 10 ^ 60) : b < 2 ^ 900 := by
  have e : (2 : Int) ^ 900 = 2 ^ 200 * 2 ^ 700 := by rw [← Int.pow_add]
  have h1 : (0 : Int) < 2 ^ 700 := Int.pow_pos (by decide)
  have h2 : (10 : Int) ^ 60 < 2 ^ 200 := by decide
  have h3 : (2 : Int) ^ 200 * 1 ≤ 2 ^ 200 * 2 ^ 700 := Int.mul_le_mul_of_nonneg_left (by omega) (by decide)
  omega
/-- a deed: (p, q) is one of (a, b, c, e) -/
def isDeed (b c e p q : Int) : Bool := decide (1 ≤ q) && (decide (0 < b - q * e - q * q * c) && (decide (0 ≤ p) && (decide (p < q * (c / (Int.gcd b c : Int))) && (Int.gcd p q : Int) == 1)))
theorem meas_par {a b c e : Int} : (e - meas4 b c e) % 2 = 0 := by
  unfold meas4
  have e1 : 4 * b * c = 4 * (b * c) := Int.mul_assoc _ _ _
  rw [e1]
  rcases (by omega : e % 2 = 0 ∨ e % 2 = 1) with q | q
  · obtain ⟨t, rfl⟩ : ∃ t, e = 2 * t := ⟨e / 2, by omega⟩
    have : 2 * t * (2 * t) = 4 * (t * t) := by grind
    omega
  · obtain ⟨t, rfl⟩ : ∃ t, e = 2 * t + 1 := ⟨e / 2, by omega⟩
    have : (2 * t + 1) * (2 * t + 1) = 4 * (t * t + t) + 1 := by grind
    omega
end DL
namespace DL
open PySem PySem.Spec PyProof.Rows L2
local macro_rules | `(tactic| walk_at "rd") => `(tactic| simp only [startD, List.map, List.replicate, List.length_cons, List.length_nil, List.append_eq, List.append_nil, List.nil_append, List.cons_append, Nat.reduceSub, Nat.reduceAdd, List.getElem?_cons_zero, List.getElem?_cons_succ, List.set_cons_zero, List.set_cons_succ,
  dC, dVar, dOp, dTru, gTru, tru, dChain, dAnd, dOr, dNot, dAndV, dOrV, dNotV, dIf, dNeg, gNeg, dNil, dCons, dTup, dLst, dOwn, gIx, rBin, gAdd, gCmpI, dCall, dCallK, dSeq, dNext, dDrop, dRet, dRetN, dIfS, dName, dGNil, dGCons, dGTup, dSub, gSetL, dAsg, dPar, dPar3, dAug, gIpI, dSeqI, gSeqI, dRngI, gRng1, gRng2, dCB, gAbs, gInt, gMax, gMin, gGcd, gLen, lenD, gIsi, tyM, tyD, dBits, gBits, dMet, gAppend, dPart, dNoPart, dSl, gSl_tup, gSl_lst, cut_1, dEnds, gIs, isB, dNever, dFor, dLc, wipeD, dYes,
  sizeLine_eq, Nat.reduceLeDiff, gEq_int, gNe_int, gEq_strs, gNe_strs, gIn_two, gRepr_bl, rs_lst, rs_tup, rs_scr, rs_int, atI_0, atI_1, atI_2, atI_3, atI_4, atI_5, ixN_30, ixN_31, ixN_32, gEq_bl, gNe_bl, decide_eq_true_eq, beq_iff_eq, Bool.not_eq_true', beq_eq_false_iff_ne, decide_eq_false_iff_not, Bool.not_true, Bool.not_false, if_true, if_false, Bool.false_eq_true, ite_true, ite_false, true_and, and_true, ne_eq, Bool.bne_false, Bool.bne_true, reduceCtorEq])
local macro_rules | `(tactic| walk_at "rh") => `(tactic| simp only [*, startD, List.map, List.replicate, List.length_cons, List.length_nil, List.append_eq, List.append_nil, List.nil_append, List.cons_append, Nat.reduceSub, Nat.reduceAdd, List.getElem?_cons_zero, List.getElem?_cons_succ, List.set_cons_zero, List.set_cons_succ,
  dC, dVar, dOp, dTru, gTru, tru, dChain, dAnd, dOr, dNot, dAndV, dOrV, dNotV, dIf, dNeg, gNeg, dNil, dCons, dTup, dLst, dOwn, gIx, rBin, gAdd, gCmpI, dCall, dCallK, dSeq, dNext, dDrop, dRet, dRetN, dIfS, dName, dGNil, dGCons, dGTup, dSub, gSetL, dAsg, dPar, dPar3, dAug, gIpI, dSeqI, gSeqI, dRngI, gRng1, gRng2, dCB, gAbs, gInt, gMax, gMin, gGcd, gLen, lenD, gIsi, tyM, tyD, dBits, gBits, dMet, gAppend, dPart, dNoPart, dSl, gSl_tup, gSl_lst, cut_1, dEnds, gIs, isB, dNever, dFor, dLc, wipeD, dYes,
  sizeLine_eq, Nat.reduceLeDiff, gEq_int, gNe_int, gEq_strs, gNe_strs, gIn_two, gRepr_bl, rs_lst, rs_tup, rs_scr, rs_int, atI_0, atI_1, atI_2, atI_3, atI_4, atI_5, ixN_30, ixN_31, ixN_32, gEq_bl, gNe_bl, decide_eq_true_eq, beq_iff_eq, Bool.not_eq_true', beq_eq_false_iff_ne, decide_eq_false_iff_not, Bool.not_true, Bool.not_false, if_true, if_false, Bool.false_eq_true, ite_true, ite_false, true_and, and_true, ne_eq, Bool.bne_false, Bool.bne_true, reduceCtorEq])
local macro_rules | `(tactic| walk_at "kb") => `(tactic| simp only [kb_NoneType_list, kb_bool_list, kb_int_list, kb_str_list, kb_tuple_list, kb_list_list, kb_dict_list, kb_NoneType_int, kb_bool_int, kb_int_int, kb_str_int, kb_tuple_int, kb_list_int, kb_dict_int, kb_NoneType_bool, kb_bool_bool, kb_int_bool, kb_str_bool, kb_tuple_bool, kb_list_bool, kb_dict_bool, kb_NoneType_tuple, kb_bool_tuple, kb_int_tuple, kb_str_tuple, kb_tuple_tuple, kb_list_tuple, kb_dict_tuple, if_true, if_false, Bool.false_eq_true, ite_true, ite_false, Bool.not_true, Bool.not_false])
/-! ### all cuttings of a measure, as laws list them -/
def IsC (m : Int) (x : List Int) : Prop := ∃ a b c e, x = [a, b, c, e] ∧ isCut a b c e = true ∧ meas4 b c e = m
theorem tI4 (a b c e : Int) : tI [a, b, c, e] = T4 a b c e := rfl
/-- l: cuttings of the measure m, among them all with P c e -/
def Cov (m : Int) (l : List (List Int)) (P : Int → Int → Prop) : Prop := (∀ x ∈ l, IsC m x) ∧ ∀ a b c e, isCut a b c e = true → meas4 b c e = m → P c e → [a, b, c, e] ∈ l
theorem Cov.app {m : Int} {l l2 : List (List Int)} {P P' : Int → Int → Prop} (h : Cov m l P) (g : Cov m l2 P') : Cov m (l ++ l2) fun c e => P c e ∨ P' c e :=
  ⟨fun x hx => (List.mem_append.mp hx).elim (h.1 x) (g.1 x), fun a b c e h1 h2 h3 => List.mem_append.mpr (h3.imp (h.2 a b c e h1 h2) (g.2 a b c e h1 h2))⟩
theorem Cov.nil {m : Int} : Cov m [] fun _ _ => False := ⟨fun x hx => (by cases hx), fun _ _ _ _ _ _ h => h.elim⟩
def lowsL (n : Nat) (b c e : Int) : List (List Int) := (List.range n).filterMap fun (i : Nat) => if isCut (i : Int) b c e = true then some [(i : Int), b, c, e] else none
theorem lowsL_mem {n : Nat} {b c e : Int} {x : List Int} : x ∈ lowsL n b c e ↔ ∃ i : Nat, i < n ∧ isCut (i : Int) b c e = true ∧ x = [(i : Int), b, c, e] := by
  unfold lowsL
  rw [List.mem_filterMap]
  constructor
  · rintro ⟨i, hi, h⟩
    by_cases hc : isCut (i : Int) b c e = true
    · rw [if_pos hc] at h
      exact ⟨i, List.mem_range.mp hi, hc, (Option.some.inj h).symm⟩
    · rw [if_neg hc] at h; cases h
  · rintro ⟨i, hi, hc, rfl⟩
    exact ⟨i, List.mem_range.mpr hi, by rw [if_pos hc]⟩
theorem lowsL_len {n : Nat} {b c e : Int} : (lowsL n b c e).length ≤ n := by
  unfold lowsL
  exact Nat.le_trans (List.length_filterMap_le _ _) (by rw [List.length_range]; omega)
theorem meas_bc {b c e m : Int} : meas4 b c e = m ↔ 4 * (b * c) = m - e * e := by
  unfold meas4
  rw [Int.mul_assoc]
  omega
theorem lows_cov {m b c e whole : Int} (hc : 1 ≤ c) (hw : 4 * whole = m - e * e) (hb : b * c = whole) : Cov m (lowsL (Int.gcd b c) b c e) fun c' e' => c' = c ∧ e' = e := by
  refine ⟨fun x hx => ?_, ?_⟩
  · obtain ⟨i, hi, h1, rfl⟩ := lowsL_mem.mp hx
    exact ⟨_, _, _, _, rfl, h1, meas_bc.mpr (by rw [hb]; exact hw)⟩
  · rintro a b' c' e' h1 h2 ⟨rfl, rfl⟩
    have h3 := meas_bc.mp h2
    have h4 : b' * c' = b * c' := by omega
    have h5 : b' = b := Int.eq_of_mul_eq_mul_right (by omega) h4
    subst h5
    obtain ⟨_, _, _, k4, k5, _⟩ := cut_parts h1
    obtain ⟨i, rfl⟩ := Int.eq_ofNat_of_zero_le k4
    exact lowsL_mem.mpr ⟨i, by omega, h1, rfl⟩
theorem lows_none {m c e whole : Int} (hw : 4 * whole = m - e * e) (hn : whole % c ≠ 0) : Cov m [] fun c' e' => c' = c ∧ e' = e := by
  refine ⟨fun x hx => (by cases hx), ?_⟩
  rintro a b' c' e' h1 h2 ⟨rfl, rfl⟩
  have h3 := meas_bc.mp h2
  exact absurd (by rw [show whole = b' * c' by omega]; exact Int.mul_emod_left _ _) hn
theorem rng_fm {n : Nat} {lo : Int} {f : D → Option D} {g : Nat → Option (List Int)} (h : ∀ i : Nat, f (.int (lo + (i : Int))) = (g i).map tI) : (rng lo n).filterMap f = ((List.range n).filterMap g).map tI := by
  unfold rng
  rw [List.filterMap_map, List.map_filterMap]
  congr 1
  funext i
  exact h i
/-- there is a cutting of each measure -/
theorem cut_some {m : Int} (h : isMeas (.int m) = true) : ∃ x, IsC m x := by
  have h5 := meas_ge h
  have h4 : m % 4 = 0 ∨ m % 4 = 1 := by
    simp only [isMeas, Bool.and_eq_true, decide_eq_true_eq, Bool.or_eq_true, beq_iff_eq] at h
    omega
  have key : ∀ e : Int, (m - e * e) % 4 = 0 → 1 + e < (m - e * e) / 4 → 1 ≤ (m - e * e) / 4 → IsC m [0, (m - e * e) / 4, 1, e] := by
    intro e h1 h2 h3
    refine ⟨_, _, _, _, rfl, ?_, meas_bc.mpr (by rw [Int.mul_one]; omega)⟩
    have g1 : (Int.gcd ((m - e * e) / 4) 1 : Int) = 1 := by simp [Int.gcd]
    unfold isCut
    rw [g1, decide_eq_true h3, decide_eq_true h2]
    simp [Int.gcd]
  rcases h4 with q | q
  · exact ⟨_, key 0 (by omega) (by omega) (by omega)⟩
  · exact ⟨_, key (-1) (by omega) (by omega) (by omega)⟩
/-- sizes at measures to 1,000 -/
theorem isC_small {m a b c e : Int} (h : isCut a b c e = true) (hm : meas4 b c e = m) (h1 : m ≤ 1000) : 0 ≤ a ∧ 1 ≤ b ∧ 1 ≤ c ∧ a < c ∧ 4 * b ≤ m ∧ 4 * c ≤ m ∧ -31 ≤ e ∧ e ≤ 31 := by
  obtain ⟨k1, k2, k3, k4, k5, _⟩ := cut_parts h
  have k6 := (cut_le h).2.1
  have h3 := meas_bc.mp hm
  have hs := sq_nn e
  have hb : b * 1 ≤ b * c := Int.mul_le_mul_of_nonneg_left k2 (by omega)
  have hc : 1 * c ≤ b * c := Int.mul_le_mul_of_nonneg_right k1 (by omega)
  have he : e * e < 1000 := by omega
  refine ⟨k4, k1, k2, k6, by omega, by omega, ?_, ?_⟩
  · by_cases z : -31 ≤ e
    · exact z
    · have : 32 * 32 ≤ (-e) * (-e) := Int.mul_le_mul (by omega) (by omega) (by decide) (by omega)
      rw [Int.neg_mul_neg] at this
      omega
  · by_cases z : e ≤ 31
    · exact z
    · have : 32 * 32 ≤ e * e := Int.mul_le_mul (by omega) (by omega) (by decide) (by omega)
      omega
/-! ### k28's own lists -/
theorem below_tIs {n : Nat} : ∀ l : List (List Int), belowAll n (l.map tI) = true
  | [] => rfl
  | x :: l => by
    have h1 : ∀ y : List Int, belowAll n (y.map D.int) = true := by
      intro y
      induction y with
      | nil => rfl
      | cons a y ih => exact (by show (true && belowAll n (y.map D.int)) = true; rw [ih]; rfl)
    show (belowAll n (x.map D.int) && belowAll n (l.map tI)) = true
    rw [h1, below_tIs l]
    rfl
/-- a comprehension over tuples of ints that gives such -/
theorem lcW_tI {l : List (List Int)} {C : Mem → Prop} {g : DTG} {tt : DTT} {te : DTE} {r : Env} {M : Mem} {Q : DQ} (f : List Int → Option (List Int)) (hC : C M) (hl : l.length ≤ sizeLine)
    (step : ∀ x ∈ l, ∀ (Y : D → Mem → Prop) (N : Mem → Prop), (match f x with | some e => Y (tI e) M | none => N M) → g (tI x) r M fun r2 M2 => tt r2 M2 fun b M3 => if b = true then te r2 M3 Y else N M3)
    (q : Q (.lst ((l.filterMap f).map tI)) M) : lcW false (l.map tI) C g tt te r M Q := by
  have inj : ∀ x : List Int, intsD (x.map D.int) = some x := intsD_map
  refine lcW_pure (fun d => match d with | .tup y => (intsD y).bind fun x => (f x).map tI | _ => none) hC (by rw [List.length_map]; exact hl) (fun d hd Y N hy => ?_) ?_
  · obtain ⟨x, hx, rfl⟩ := List.mem_map.mp hd
    refine step x hx Y N ?_
    have e : (match tI x with | .tup y => (intsD y).bind fun x => (f x).map tI | _ => none) = (f x).map tI := by
      show (intsD (x.map D.int)).bind (fun x => (f x).map tI) = _
      rw [inj]; rfl
    rw [e] at hy
    cases hf : f x with
    | none => rw [hf] at hy; exact hy
    | some z => rw [hf] at hy; exact hy
  · have e : (l.map tI).filterMap (fun d => match d with | .tup y => (intsD y).bind fun x => (f x).map tI | _ => none) = (l.filterMap f).map tI := by
      rw [List.filterMap_map, List.map_filterMap]
      congr 1
      funext x
      show (intsD (x.map D.int)).bind (fun x => (f x).map tI) = _
      rw [inj]; rfl
    rw [e]; exact q
/-! every deed leads somewhere -/
theorem bez_ex : ∀ (k : Nat) (m n : Int), n.natAbs ≤ k → ∃ u v : Int, u * m + v * n = (Int.gcd m n : Int)
  | 0, m, n, h => by
    have : n = 0 := by omega
    subst this
    rw [Int.gcd_zero_right]
    rcases (by omega : 0 ≤ m ∨ m ≤ 0) with h | h
    · exact ⟨1, 0, by omega⟩
    · exact ⟨-1, 0, by omega⟩
  | k + 1, m, n, h => by
    by_cases z : n = 0
    · subst z
      exact bez_ex k m 0 (by simp)
    · have r0 := Int.emod_nonneg m z
      have r1 := Int.emod_lt m z
      obtain ⟨u, v, e⟩ := bez_ex k n (m % n) (by omega)
      have eg : (Int.gcd n (m % n) : Int) = Int.gcd m n := gcd_emod' m n
      rw [eg] at e
      have em := Int.mul_ediv_add_emod m n
      refine ⟨v, u - v * (m / n), ?_⟩
      have : v * m + (u - v * (m / n)) * n = u * n + v * (m - n * (m / n)) := by grind
      rw [this, ← e]
      have : m - n * (m / n) = m % n := by omega
      rw [this]
/-! where a deed leads, as a function -/
theorem isDeed_parts {b c e p q : Int} (h : isDeed b c e p q = true) : DeedQ b c e p q ∧ p < q * (c / (Int.gcd b c : Int)) := by
  simp only [isDeed, Bool.and_eq_true, decide_eq_true_eq, beq_iff_eq] at h
  obtain ⟨h1, h2, h3, h4, h5⟩ := h
  exact ⟨⟨h1, h2, h3, by omega⟩, h4⟩
theorem isDeed_mk {b c e p q : Int} (h : DeedQ b c e p q) (h2 : p < q * (c / (Int.gcd b c : Int))) : isDeed b c e p q = true := by
  simp only [isDeed, Bool.and_eq_true, decide_eq_true_eq, beq_iff_eq]
  exact ⟨h.q1, h.al, h.p0, h2, by rw [h.cp]; rfl⟩
end DL
namespace DL
open PySem PySem.Spec PyProof.Rows L2
local macro_rules | `(tactic| walk_at "rd") => `(tactic| simp only [startD, List.map, List.replicate, List.length_cons, List.length_nil, List.append_eq, List.append_nil, List.nil_append, List.cons_append, Nat.reduceSub, Nat.reduceAdd, List.getElem?_cons_zero, List.getElem?_cons_succ, List.set_cons_zero, List.set_cons_succ,
  dC, dVar, dOp, dTru, gTru, tru, dChain, dAnd, dOr, dNot, dAndV, dOrV, dNotV, dIf, dNeg, gNeg, dNil, dCons, dTup, dLst, dOwn, gIx, rBin, gAdd, gCmpI, dCall, dCallK, dSeq, dNext, dDrop, dRet, dRetN, dIfS, dName, dGNil, dGCons, dGTup, dSub, gSetL, dAsg, dPar, dPar3, dAug, gIpI, dSeqI, gSeqI, dRngI, gRng1, gRng2, dCB, gAbs, gInt, gMax, gMin, gGcd, gLen, lenD, gIsi, tyM, tyD, dBits, gBits, dMet, gAppend, dPart, dNoPart, dSl, gSl_tup, gSl_lst, cut_1, dEnds, gIs, isB, dNever, dFor, dLc, wipeD, dYes,
  sizeLine_eq, Nat.reduceLeDiff, gEq_int, gNe_int, gEq_strs, gNe_strs, gIn_two, gRepr_bl, rs_lst, rs_tup, rs_scr, rs_int, atI_0, atI_1, atI_2, atI_3, atI_4, atI_5, ixN_30, ixN_31, ixN_32, gEq_bl, gNe_bl, decide_eq_true_eq, beq_iff_eq, Bool.not_eq_true', beq_eq_false_iff_ne, decide_eq_false_iff_not, Bool.not_true, Bool.not_false, if_true, if_false, Bool.false_eq_true, ite_true, ite_false, true_and, and_true, ne_eq, Bool.bne_false, Bool.bne_true, reduceCtorEq])
local macro_rules | `(tactic| walk_at "rh") => `(tactic| simp only [*, startD, List.map, List.replicate, List.length_cons, List.length_nil, List.append_eq, List.append_nil, List.nil_append, List.cons_append, Nat.reduceSub, Nat.reduceAdd, List.getElem?_cons_zero, List.getElem?_cons_succ, List.set_cons_zero, List.set_cons_succ,
  dC, dVar, dOp, dTru, gTru, tru, dChain, dAnd, dOr, dNot, dAndV, dOrV, dNotV, dIf, dNeg, gNeg, dNil, dCons, dTup, dLst, dOwn, gIx, rBin, gAdd, gCmpI, dCall, dCallK, dSeq, dNext, dDrop, dRet, dRetN, dIfS, dName, dGNil, dGCons, dGTup, dSub, gSetL, dAsg, dPar, dPar3, dAug, gIpI, dSeqI, gSeqI, dRngI, gRng1, gRng2, dCB, gAbs, gInt, gMax, gMin, gGcd, gLen, lenD, gIsi, tyM, tyD, dBits, gBits, dMet, gAppend, dPart, dNoPart, dSl, gSl_tup, gSl_lst, cut_1, dEnds, gIs, isB, dNever, dFor, dLc, wipeD, dYes,
  sizeLine_eq, Nat.reduceLeDiff, gEq_int, gNe_int, gEq_strs, gNe_strs, gIn_two, gRepr_bl, rs_lst, rs_tup, rs_scr, rs_int, atI_0, atI_1, atI_2, atI_3, atI_4, atI_5, ixN_30, ixN_31, ixN_32, gEq_bl, gNe_bl, decide_eq_true_eq, beq_iff_eq, Bool.not_eq_true', beq_eq_false_iff_ne, decide_eq_false_iff_not, Bool.not_true, Bool.not_false, if_true, if_false, Bool.false_eq_true, ite_true, ite_false, true_and, and_true, ne_eq, Bool.bne_false, Bool.bne_true, reduceCtorEq])
local macro_rules | `(tactic| walk_at "kb") => `(tactic| simp only [kb_NoneType_list, kb_bool_list, kb_int_list, kb_str_list, kb_tuple_list, kb_list_list, kb_dict_list, kb_NoneType_int, kb_bool_int, kb_int_int, kb_str_int, kb_tuple_int, kb_list_int, kb_dict_int, kb_NoneType_bool, kb_bool_bool, kb_int_bool, kb_str_bool, kb_tuple_bool, kb_list_bool, kb_dict_bool, kb_NoneType_tuple, kb_bool_tuple, kb_int_tuple, kb_str_tuple, kb_tuple_tuple, kb_list_tuple, kb_dict_tuple, if_true, if_false, Bool.false_eq_true, ite_true, ite_false, Bool.not_true, Bool.not_false])
/-! ### cells are only added -/
def Plus (M M' : Mem) : Prop := ∃ G, M' = M ++ G ∧ ∀ c ∈ G, ∀ n, belowO n c = true
theorem Plus.refl (M : Mem) : Plus M M := ⟨[], (List.append_nil M).symm, fun c h => (by cases h)⟩
theorem Plus.trans {M M' M'' : Mem} (h : Plus M M') (g : Plus M' M'') : Plus M M'' := by
  obtain ⟨G, rfl, h1⟩ := h
  obtain ⟨G', rfl, h2⟩ := g
  exact ⟨G ++ G', List.append_assoc _ _ _, fun c hc => (List.mem_append.mp hc).elim (h1 c) (h2 c)⟩
theorem Plus.add {M M' : Mem} {l : List D} (h : Plus M M') (hl : ∀ n, belowAll n l = true) : Plus M (M' ++ [.lst l]) :=
  h.trans ⟨[.lst l], rfl, fun c hc n => by rw [List.mem_singleton.mp hc]; exact hl n⟩
theorem Plus.get {M M' : Mem} (h : Plus M M') {i : Nat} (hi : i < M.length) : M'[i]? = M[i]? := by
  obtain ⟨G, rfl, _⟩ := h
  exact List.getElem?_append_left hi
theorem Plus.len {M M' : Mem} (h : Plus M M') : M.length ≤ M'.length := by
  obtain ⟨G, rfl, _⟩ := h
  rw [List.length_append]; omega
theorem Plus.rtq {M M' : Mem} {Q : DQ} {d : D} (h : Plus M M') (q : Q d M') (hb : below M'.length d = true := by rfl) : Rtq M Q d M' := by
  refine rtqC q h.len hb fun i c hc => ?_
  obtain ⟨G, rfl, h1⟩ := h
  by_cases hi : i < M.length
  · rw [List.getElem?_append_left hi] at hc
    exact .inl hc
  · rw [List.getElem?_append_right (by omega)] at hc
    exact .inr (h1 c (List.mem_of_getElem? hc) _)
/-- the new cells are let go -/
theorem Plus.drop {M M' : Mem} {Q : DQ} {d : D} (h : Plus M M') (q : Q d M) (hb : below M.length d = true := by rfl) : Rtq M Q d M' := by
  obtain ⟨G, rfl, _⟩ := h
  exact rtqG q hb
theorem Plus.set {M M' : Mem} {k : Nat} {l : List D} (h : Plus M M') (hk : M.length ≤ k) (hl : ∀ n, belowAll n l = true) : Plus M (M'.set k (.lst l)) := by
  obtain ⟨G, rfl, h1⟩ := h
  refine ⟨G.set (k - M.length) (.lst l), ?_, fun c hc n => ?_⟩
  · rw [List.set_append_right _ _ hk]
  · rcases List.mem_or_eq_of_mem_set hc with hc | rfl
    · exact h1 c hc n
    · exact hl n
/-! ### the way to the heart, as a list of the caller's -/
/-! ### k28 -/
end DL
namespace DL
open PySem PySem.Spec PyProof.Rows L2
local macro_rules | `(tactic| walk_at "rd") => `(tactic| simp only [startD, List.map, List.replicate, List.length_cons, List.length_nil, List.append_eq, List.append_nil, List.nil_append, List.cons_append, Nat.reduceSub, Nat.reduceAdd, List.getElem?_cons_zero, List.getElem?_cons_succ, List.set_cons_zero, List.set_cons_succ,
  dC, dVar, dOp, dTru, gTru, tru, dChain, dAnd, dOr, dNot, dAndV, dOrV, dNotV, dIf, dNeg, gNeg, dNil, dCons, dTup, dLst, dOwn, gIx, rBin, gAdd, gCmpI, dCall, dCallK, dSeq, dNext, dDrop, dRet, dRetN, dIfS, dName, dGNil, dGCons, dGTup, dSub, gSetL, dAsg, dPar, dPar3, dAug, gIpI, dSeqI, gSeqI, dRngI, gRng1, gRng2, dCB, gAbs, gInt, gMax, gMin, gGcd, gLen, lenD, gIsi, tyM, tyD, dBits, gBits, dMet, gAppend, dPart, dNoPart, dSl, gSl_tup, gSl_lst, cut_1, dEnds, gIs, isB, dNever, dFor, dLc, wipeD, dYes,
  sizeLine_eq, Nat.reduceLeDiff, gEq_int, gNe_int, gEq_strs, gNe_strs, gIn_two, gRepr_bl, rs_lst, rs_tup, rs_scr, rs_int, atI_0, atI_1, atI_2, atI_3, atI_4, atI_5, ixN_30, ixN_31, ixN_32, gEq_bl, gNe_bl, decide_eq_true_eq, beq_iff_eq, Bool.not_eq_true', beq_eq_false_iff_ne, decide_eq_false_iff_not, Bool.not_true, Bool.not_false, if_true, if_false, Bool.false_eq_true, ite_true, ite_false, true_and, and_true, ne_eq, Bool.bne_false, Bool.bne_true, reduceCtorEq])
local macro_rules | `(tactic| walk_at "rh") => `(tactic| simp only [*, startD, List.map, List.replicate, List.length_cons, List.length_nil, List.append_eq, List.append_nil, List.nil_append, List.cons_append, Nat.reduceSub, Nat.reduceAdd, List.getElem?_cons_zero, List.getElem?_cons_succ, List.set_cons_zero, List.set_cons_succ,
  dC, dVar, dOp, dTru, gTru, tru, dChain, dAnd, dOr, dNot, dAndV, dOrV, dNotV, dIf, dNeg, gNeg, dNil, dCons, dTup, dLst, dOwn, gIx, rBin, gAdd, gCmpI, dCall, dCallK, dSeq, dNext, dDrop, dRet, dRetN, dIfS, dName, dGNil, dGCons, dGTup, dSub, gSetL, dAsg, dPar, dPar3, dAug, gIpI, dSeqI, gSeqI, dRngI, gRng1, gRng2, dCB, gAbs, gInt, gMax, gMin, gGcd, gLen, lenD, gIsi, tyM, tyD, dBits, gBits, dMet, gAppend, dPart, dNoPart, dSl, gSl_tup, gSl_lst, cut_1, dEnds, gIs, isB, dNever, dFor, dLc, wipeD, dYes,
  sizeLine_eq, Nat.reduceLeDiff, gEq_int, gNe_int, gEq_strs, gNe_strs, gIn_two, gRepr_bl, rs_lst, rs_tup, rs_scr, rs_int, atI_0, atI_1, atI_2, atI_3, atI_4, atI_5, ixN_30, ixN_31, ixN_32, gEq_bl, gNe_bl, decide_eq_true_eq, beq_iff_eq, Bool.not_eq_true', beq_eq_false_iff_ne, decide_eq_false_iff_not, Bool.not_true, Bool.not_false, if_true, if_false, Bool.false_eq_true, ite_true, ite_false, true_and, and_true, ne_eq, Bool.bne_false, Bool.bne_true, reduceCtorEq])
local macro_rules | `(tactic| walk_at "kb") => `(tactic| simp only [kb_NoneType_list, kb_bool_list, kb_int_list, kb_str_list, kb_tuple_list, kb_list_list, kb_dict_list, kb_NoneType_int, kb_bool_int, kb_int_int, kb_str_int, kb_tuple_int, kb_list_int, kb_dict_int, kb_NoneType_bool, kb_bool_bool, kb_int_bool, kb_str_bool, kb_tuple_bool, kb_list_bool, kb_dict_bool, kb_NoneType_tuple, kb_bool_tuple, kb_int_tuple, kb_str_tuple, kb_tuple_tuple, kb_list_tuple, kb_dict_tuple, if_true, if_false, Bool.false_eq_true, ite_true, ite_false, Bool.not_true, Bool.not_false])
/-! ### sorted lists of tuples of ints -/
abbrev LSorted (l : List (List Int)) : Prop := l.Pairwise fun x y => lexL y x = false
theorem gSorted_tI {k : Nat} {l : List (List Int)} {M : Mem} {Q : DQ} (hk : ∀ x ∈ l, x.length = k) (h1 : 1 ≤ k) (q : ∀ l' : List (List Int), l'.Perm l → LSorted l' → Q (.lst (l'.map tI)) M) : gSorted false [.lst (l.map tI)] M Q :=
  .inr ⟨k, l, rfl, h1, hk, fun l' pm sd => q l' pm sd⟩
/-! ### all cuttings of a measure, each once -/
def CovX (m : Int) (l : List (List Int)) (P : Int → Int → Prop) : Prop := l.Nodup ∧ ∀ x, x ∈ l ↔ ∃ a b c e, x = [a, b, c, e] ∧ isCut a b c e = true ∧ meas4 b c e = m ∧ P c e
theorem CovX.nil {m : Int} {P : Int → Int → Prop} (h : ∀ a b c e, isCut a b c e = true → meas4 b c e = m → ¬ P c e) : CovX m [] P :=
  ⟨List.nodup_nil, fun x => ⟨fun h => (by cases h), by rintro ⟨a, b, c, e, rfl, h1, h2, h3⟩; exact (h a b c e h1 h2 h3).elim⟩⟩
theorem CovX.iff {m : Int} {l : List (List Int)} {P P' : Int → Int → Prop} (h : CovX m l P) (w : ∀ a b c e, isCut a b c e = true → meas4 b c e = m → (P' c e ↔ P c e)) : CovX m l P' := by
  refine ⟨h.1, fun x => (h.2 x).trans ?_⟩
  constructor
  · rintro ⟨a, b, c, e, rfl, h1, h2, h3⟩; exact ⟨a, b, c, e, rfl, h1, h2, (w a b c e h1 h2).mpr h3⟩
  · rintro ⟨a, b, c, e, rfl, h1, h2, h3⟩; exact ⟨a, b, c, e, rfl, h1, h2, (w a b c e h1 h2).mp h3⟩
theorem CovX.app {m : Int} {l l2 : List (List Int)} {P P' : Int → Int → Prop} (h : CovX m l P) (g : CovX m l2 P') (w : ∀ c e, P c e → P' c e → False) : CovX m (l ++ l2) fun c e => P c e ∨ P' c e := by
  refine ⟨List.nodup_append.mpr ⟨h.1, g.1, fun x hx y hy e => ?_⟩, fun x => ?_⟩
  · subst e
    obtain ⟨a, b, c, e, rfl, _, _, h3⟩ := (h.2 x).mp hx
    obtain ⟨a', b', c', e', h4, _, _, h5⟩ := (g.2 _).mp hy
    cases h4
    exact w c e h3 h5
  · rw [List.mem_append, h.2, g.2]
    constructor
    · rintro (⟨a, b, c, e, rfl, h1, h2, h3⟩ | ⟨a, b, c, e, rfl, h1, h2, h3⟩)
      · exact ⟨a, b, c, e, rfl, h1, h2, .inl h3⟩
      · exact ⟨a, b, c, e, rfl, h1, h2, .inr h3⟩
    · rintro ⟨a, b, c, e, rfl, h1, h2, h3 | h3⟩
      · exact .inl ⟨a, b, c, e, rfl, h1, h2, h3⟩
      · exact .inr ⟨a, b, c, e, rfl, h1, h2, h3⟩
theorem lowsL_nodup {n : Nat} {b c e : Int} : (lowsL n b c e).Nodup := by
  unfold lowsL
  refine List.Pairwise.filterMap _ (fun a a' (hne : a ≠ a') x hx y hy => ?_) List.nodup_range
  by_cases h1 : isCut (a : Int) b c e = true
  · by_cases h2 : isCut (a' : Int) b c e = true
    · rw [if_pos h1] at hx
      rw [if_pos h2] at hy
      cases hx; cases hy
      intro z
      have := List.cons.inj z
      omega
    · rw [if_neg h2] at hy; cases hy
  · rw [if_neg h1] at hx; cases hx
theorem lows_covX {m b c e whole : Int} (hc : 1 ≤ c) (hw : 4 * whole = m - e * e) (hb : b * c = whole) : CovX m (lowsL (Int.gcd b c) b c e) fun c' e' => c' = c ∧ e' = e := by
  refine ⟨lowsL_nodup, fun x => ⟨fun hx => ?_, ?_⟩⟩
  · obtain ⟨i, hi, h1, rfl⟩ := lowsL_mem.mp hx
    exact ⟨_, _, _, _, rfl, h1, meas_bc.mpr (by rw [hb]; exact hw), rfl, rfl⟩
  · rintro ⟨a, b', c', e', rfl, h1, h2, h3⟩
    exact (lows_cov hc hw hb).2 a b' c' e' h1 h2 h3
theorem lows_noneX {m c e whole : Int} (hw : 4 * whole = m - e * e) (hn : whole % c ≠ 0) : CovX m [] fun c' e' => c' = c ∧ e' = e :=
  .nil fun a b' c' e' h1 h2 h3 => by have := (lows_none hw hn).2 a b' c' e' h1 h2 h3; cases this
theorem CovX.len4 {m : Int} {l : List (List Int)} {P : Int → Int → Prop} (h : CovX m l P) : ∀ x ∈ l, x.length = 4 := fun x hx => by
  obtain ⟨a, b, c, e, rfl, _⟩ := (h.2 x).mp hx
  rfl
/-- the whole of them, sorted -/
structure AllC (m : Int) (l : List (List Int)) : Prop where
  nd : l.Nodup
  mem : ∀ x, x ∈ l ↔ IsC m x
  srt : LSorted l
  len : l.length ≤ 10000000
theorem AllC.of {m : Int} {l l' : List (List Int)} {P : Int → Int → Prop} (h : CovX m l P) (w : ∀ a b c e, isCut a b c e = true → meas4 b c e = m → P c e) (hl : l.length ≤ 10000000) (pm : l'.Perm l) (sd : LSorted l') : AllC m l' := by
  refine ⟨(pm.nodup_iff).mpr h.1, fun x => ?_, sd, by rw [pm.length_eq]; exact hl⟩
  rw [pm.mem_iff, h.2]
  constructor
  · rintro ⟨a, b, c, e, rfl, h1, h2, _⟩; exact ⟨a, b, c, e, rfl, h1, h2⟩
  · rintro ⟨a, b, c, e, rfl, h1, h2⟩; exact ⟨a, b, c, e, rfl, h1, h2, w a b c e h1 h2⟩
def sp_lcuts : DSp := fun ds M Q _ => ∃ m : Int, ds = [.int m] ∧ isMeas (.int m) = true ∧ m ≤ 1000 ∧ ∀ l, AllC m l → Q (.lst (l.map tI)) M
/-! ### the functions of k13 to k16 -/
end DL
namespace DL
open PySem PySem.Spec PyProof.Rows L2
local macro_rules | `(tactic| walk_at "rd") => `(tactic| simp only [startD, List.map, List.replicate, List.length_cons, List.length_nil, List.append_eq, List.append_nil, List.nil_append, List.cons_append, Nat.reduceSub, Nat.reduceAdd, List.getElem?_cons_zero, List.getElem?_cons_succ, List.set_cons_zero, List.set_cons_succ,
  dC, dVar, dOp, dTru, gTru, tru, dChain, dAnd, dOr, dNot, dAndV, dOrV, dNotV, dIf, dNeg, gNeg, dNil, dCons, dTup, dLst, dOwn, gIx, rBin, gAdd, gCmpI, dCall, dCallK, dSeq, dNext, dDrop, dRet, dRetN, dIfS, dName, dGNil, dGCons, dGTup, dSub, gSetL, dAsg, dPar, dPar3, dAug, gIpI, dSeqI, gSeqI, dRngI, gRng1, gRng2, dCB, gAbs, gInt, gMax, gMin, gGcd, gLen, lenD, gIsi, tyM, tyD, dBits, gBits, dMet, gAppend, dPart, dNoPart, dSl, gSl_tup, gSl_lst, cut_1, dEnds, gIs, isB, dNever, dFor, dLc, wipeD, dYes,
  sizeLine_eq, Nat.reduceLeDiff, gEq_int, gNe_int, gEq_strs, gNe_strs, gIn_two, gRepr_bl, rs_lst, rs_tup, rs_scr, rs_int, atI_0, atI_1, atI_2, atI_3, atI_4, atI_5, ixN_30, ixN_31, ixN_32, gEq_bl, gNe_bl, decide_eq_true_eq, beq_iff_eq, Bool.not_eq_true', beq_eq_false_iff_ne, decide_eq_false_iff_not, Bool.not_true, Bool.not_false, if_true, if_false, Bool.false_eq_true, ite_true, ite_false, true_and, and_true, ne_eq, Bool.bne_false, Bool.bne_true, reduceCtorEq])
local macro_rules | `(tactic| walk_at "rh") => `(tactic| simp only [*, startD, List.map, List.replicate, List.length_cons, List.length_nil, List.append_eq, List.append_nil, List.nil_append, List.cons_append, Nat.reduceSub, Nat.reduceAdd, List.getElem?_cons_zero, List.getElem?_cons_succ, List.set_cons_zero, List.set_cons_succ,
  dC, dVar, dOp, dTru, gTru, tru, dChain, dAnd, dOr, dNot, dAndV, dOrV, dNotV, dIf, dNeg, gNeg, dNil, dCons, dTup, dLst, dOwn, gIx, rBin, gAdd, gCmpI, dCall, dCallK, dSeq, dNext, dDrop, dRet, dRetN, dIfS, dName, dGNil, dGCons, dGTup, dSub, gSetL, dAsg, dPar, dPar3, dAug, gIpI, dSeqI, gSeqI, dRngI, gRng1, gRng2, dCB, gAbs, gInt, gMax, gMin, gGcd, gLen, lenD, gIsi, tyM, tyD, dBits, gBits, dMet, gAppend, dPart, dNoPart, dSl, gSl_tup, gSl_lst, cut_1, dEnds, gIs, isB, dNever, dFor, dLc, wipeD, dYes,
  sizeLine_eq, Nat.reduceLeDiff, gEq_int, gNe_int, gEq_strs, gNe_strs, gIn_two, gRepr_bl, rs_lst, rs_tup, rs_scr, rs_int, atI_0, atI_1, atI_2, atI_3, atI_4, atI_5, ixN_30, ixN_31, ixN_32, gEq_bl, gNe_bl, decide_eq_true_eq, beq_iff_eq, Bool.not_eq_true', beq_eq_false_iff_ne, decide_eq_false_iff_not, Bool.not_true, Bool.not_false, if_true, if_false, Bool.false_eq_true, ite_true, ite_false, true_and, and_true, ne_eq, Bool.bne_false, Bool.bne_true, reduceCtorEq])
local macro_rules | `(tactic| walk_at "kb") => `(tactic| simp only [kb_NoneType_list, kb_bool_list, kb_int_list, kb_str_list, kb_tuple_list, kb_list_list, kb_dict_list, kb_NoneType_int, kb_bool_int, kb_int_int, kb_str_int, kb_tuple_int, kb_list_int, kb_dict_int, kb_NoneType_bool, kb_bool_bool, kb_int_bool, kb_str_bool, kb_tuple_bool, kb_list_bool, kb_dict_bool, kb_NoneType_tuple, kb_bool_tuple, kb_int_tuple, kb_str_tuple, kb_tuple_tuple, kb_list_tuple, kb_dict_tuple, if_true, if_false, Bool.false_eq_true, ite_true, ite_false, Bool.not_true, Bool.not_false])
/-! ### a drawn cutting of a small measure -/
theorem allC_pos {m : Int} {l : List (List Int)} (hm : isMeas (.int m) = true) (h : AllC m l) : 0 < l.length := by
  obtain ⟨x0, hx0⟩ := cut_some hm
  exact List.length_pos_of_mem ((h.mem x0).mpr hx0)
theorem allC_atI {m : Int} {l : List (List Int)} (h : AllC m l) {v : Int} (h0 : 0 ≤ v) (h1 : v < (l.length : Nat)) : ∃ a b c e, atI (l.map tI) v = some (T4 a b c e) ∧ isCut a b c e = true ∧ meas4 b c e = m ∧ [a, b, c, e] ∈ l := by
  obtain ⟨d, hd, ed⟩ := atI_any (l := l.map tI) h0 (by rw [List.length_map]; exact h1)
  obtain ⟨x, hx, rfl⟩ := List.mem_map.mp hd
  obtain ⟨a, b, c, e, rfl, h2, h3⟩ := (h.mem x).mp hx
  exact ⟨a, b, c, e, ed, h2, h3, hx⟩
/-! ### all deeds of a cutting -/
theorem allowed_mono {b c e q q' : Int} (hb : 1 ≤ b) (hc : 1 ≤ c) (h1 : 1 ≤ q) (h2 : q ≤ q') (h : 0 < b - q' * e - q' * q' * c) : 0 < b - q * e - q * q * c := by
  have e1 : q' * (b - q * e - q * q * c) = q * (b - q' * e - q' * q' * c) + (q' - q) * b + q * q' * (q' - q) * c := by grind
  have p1 : 0 < q * (b - q' * e - q' * q' * c) := Int.mul_pos (by omega) h
  have p2 : 0 ≤ (q' - q) * b := Int.mul_nonneg (by omega) (by omega)
  have p3 : 0 ≤ q * q' * (q' - q) * c := Int.mul_nonneg (Int.mul_nonneg (Int.mul_nonneg (by omega) (by omega)) (by omega)) (by omega)
  by_cases z : 0 < b - q * e - q * q * c
  · exact z
  · have : q' * (b - q * e - q * q * c) ≤ 0 := Int.mul_nonpos_of_nonneg_of_nonpos (by omega) (by omega)
    omega
def CovD (b c e : Int) (l : List (List Int)) (k : Int) : Prop := l.Nodup ∧ ∀ x, x ∈ l ↔ ∃ p q, x = [p, q] ∧ isDeed b c e p q = true ∧ q < k
/-- the deeds with a told second number -/
def rowD (N : Nat) (q : Int) : List (List Int) := (List.range N).filterMap fun (i : Nat) => if (Int.gcd (i : Int) q : Int) = 1 then some [(i : Int), q] else none
theorem rowD_mem {N : Nat} {q : Int} {x : List Int} : x ∈ rowD N q ↔ ∃ i : Nat, i < N ∧ (Int.gcd (i : Int) q : Int) = 1 ∧ x = [(i : Int), q] := by
  unfold rowD
  rw [List.mem_filterMap]
  constructor
  · rintro ⟨i, hi, h⟩
    by_cases hc : (Int.gcd (i : Int) q : Int) = 1
    · rw [if_pos hc] at h
      exact ⟨i, List.mem_range.mp hi, hc, (Option.some.inj h).symm⟩
    · rw [if_neg hc] at h; cases h
  · rintro ⟨i, hi, hc, rfl⟩
    exact ⟨i, List.mem_range.mpr hi, by rw [if_pos hc]⟩
theorem rowD_len {N : Nat} {q : Int} : (rowD N q).length ≤ N := Nat.le_trans (List.length_filterMap_le _ _) (by rw [List.length_range]; omega)
theorem rowD_nodup {N : Nat} {q : Int} : (rowD N q).Nodup := by
  unfold rowD
  refine List.Pairwise.filterMap _ (fun a a' (hne : a ≠ a') x hx y hy => ?_) List.nodup_range
  by_cases h1 : (Int.gcd (a : Int) q : Int) = 1
  · by_cases h2 : (Int.gcd (a' : Int) q : Int) = 1
    · rw [if_pos h1] at hx
      rw [if_pos h2] at hy
      cases hx; cases hy
      intro z
      have := List.cons.inj z
      omega
    · rw [if_neg h2] at hy; cases hy
  · rw [if_neg h1] at hx; cases hx
theorem CovD.step {b c e k : Int} {l : List (List Int)} (h : CovD b c e l k) (hk : 1 ≤ k) (ha : 0 < b - k * e - k * k * c) : CovD b c e (l ++ rowD (k * (c / (Int.gcd b c : Int))).toNat k) (k + 1) := by
  refine ⟨List.nodup_append.mpr ⟨h.1, rowD_nodup, fun x hx y hy z => ?_⟩, fun x => ?_⟩
  · subst z
    obtain ⟨p, q, rfl, _, h3⟩ := (h.2 x).mp hx
    obtain ⟨i, _, _, h4⟩ := rowD_mem.mp hy
    cases h4
    omega
  · rw [List.mem_append, h.2, rowD_mem]
    constructor
    · rintro (⟨p, q, rfl, h1, h2⟩ | ⟨i, h1, h2, rfl⟩)
      · exact ⟨p, q, rfl, h1, by omega⟩
      · exact ⟨i, k, rfl, isDeed_mk ⟨hk, ha, by omega, by omega⟩ (by omega), by omega⟩
    · rintro ⟨p, q, rfl, h1, h2⟩
      by_cases z : q < k
      · exact .inl ⟨p, q, rfl, h1, z⟩
      · have : q = k := by omega
        subst this
        obtain ⟨⟨q1, q2, q3, q4⟩, q5⟩ := isDeed_parts h1
        exact .inr ⟨p.toNat, by omega, by rw [Int.toNat_of_nonneg q3]; omega, by rw [Int.toNat_of_nonneg q3]⟩
structure AllD (b c e : Int) (l : List (List Int)) : Prop where
  nd : l.Nodup
  mem : ∀ x, x ∈ l ↔ ∃ p q, x = [p, q] ∧ isDeed b c e p q = true
  srt : LSorted l
  len : l.length ≤ 10000000
theorem CovD.len2 {b c e k : Int} {l : List (List Int)} (h : CovD b c e l k) : ∀ x ∈ l, x.length = 2 := fun x hx => by
  obtain ⟨p, q, rfl, _⟩ := (h.2 x).mp hx
  rfl
theorem AllD.of {b c e k : Int} {l l' : List (List Int)} (hb : 1 ≤ b) (hc : 1 ≤ c) (hk : 1 ≤ k) (h : CovD b c e l k) (hn : ¬ 0 < b - k * e - k * k * c) (hl : l.length ≤ 10000000) (pm : l'.Perm l) (sd : LSorted l') : AllD b c e l' := by
  refine ⟨(pm.nodup_iff).mpr h.1, fun x => ?_, sd, by rw [pm.length_eq]; exact hl⟩
  rw [pm.mem_iff, h.2]
  constructor
  · rintro ⟨p, q, rfl, h1, _⟩; exact ⟨p, q, rfl, h1⟩
  · rintro ⟨p, q, rfl, h1⟩
    refine ⟨p, q, rfl, h1, ?_⟩
    by_cases z : q < k
    · exact z
    · exact (hn (allowed_mono hb hc hk (by omega) (isDeed_parts h1).1.al)).elim
/-- sizes at measures to 600 -/
theorem cut600 {a b c e : Int} (h : isCut a b c e = true) (hm : meas4 b c e ≤ 600) : 0 ≤ a ∧ 1 ≤ b ∧ 1 ≤ c ∧ a < c ∧ b ≤ 150 ∧ c ≤ 150 ∧ -24 ≤ e ∧ e ≤ 24 := by
  obtain ⟨k1, k2, k3, k4, k5, k6, _⟩ := isC_small h rfl (by omega)
  have hs := (cut_le h).2.2.2.2.2.2
  refine ⟨k1, k2, k3, k4, by omega, by omega, ?_, ?_⟩
  · by_cases z : -24 ≤ e
    · exact z
    · have : 25 * 25 ≤ (-e) * (-e) := Int.mul_le_mul (by omega) (by omega) (by decide) (by omega)
      rw [Int.neg_mul_neg] at this
      omega
  · by_cases z : e ≤ 24
    · exact z
    · have : 25 * 25 ≤ e * e := Int.mul_le_mul (by omega) (by omega) (by decide) (by omega)
      omega
def sp_ldeeds : DSp := fun ds M Q _ => ∃ a b c e : Int, ds = [T4 a b c e] ∧ isCut a b c e = true ∧ meas4 b c e ≤ 600 ∧ ∀ l, AllD b c e l → Q (.lst (l.map tI)) M
/-! ### deeds judged -/
theorem len2 {l : List D} (h : l.length = 2) : ∃ a b, l = [a, b] := by
  match l, h with
  | [a, b], _ => exact ⟨a, b, rfl⟩
/-! ### columns led down -/
end DL
namespace DL
open PySem PySem.Spec PyProof.Rows L2
local macro_rules | `(tactic| walk_at "rd") => `(tactic| simp only [startD, List.map, List.replicate, List.length_cons, List.length_nil, List.append_eq, List.append_nil, List.nil_append, List.cons_append, Nat.reduceSub, Nat.reduceAdd, List.getElem?_cons_zero, List.getElem?_cons_succ, List.set_cons_zero, List.set_cons_succ,
  dC, dVar, dOp, dTru, gTru, tru, dChain, dAnd, dOr, dNot, dAndV, dOrV, dNotV, dIf, dNeg, gNeg, dNil, dCons, dTup, dLst, dOwn, gIx, rBin, gAdd, gCmpI, dCall, dCallK, dSeq, dNext, dDrop, dRet, dRetN, dIfS, dName, dGNil, dGCons, dGTup, dSub, gSetL, dAsg, dPar, dPar3, dAug, gIpI, dSeqI, gSeqI, dRngI, gRng1, gRng2, dCB, gAbs, gInt, gMax, gMin, gGcd, gLen, lenD, gIsi, tyM, tyD, dBits, gBits, dMet, gAppend, dPart, dNoPart, dSl, gSl_tup, gSl_lst, cut_1, dEnds, gIs, isB, dNever, dFor, dLc, wipeD, dYes,
  sizeLine_eq, Nat.reduceLeDiff, gEq_int, gNe_int, gEq_strs, gNe_strs, gIn_two, gRepr_bl, rs_lst, rs_tup, rs_scr, rs_int, atI_0, atI_1, atI_2, atI_3, atI_4, atI_5, ixN_30, ixN_31, ixN_32, gEq_bl, gNe_bl, decide_eq_true_eq, beq_iff_eq, Bool.not_eq_true', beq_eq_false_iff_ne, decide_eq_false_iff_not, Bool.not_true, Bool.not_false, if_true, if_false, Bool.false_eq_true, ite_true, ite_false, true_and, and_true, ne_eq, Bool.bne_false, Bool.bne_true, reduceCtorEq])
local macro_rules | `(tactic| walk_at "rh") => `(tactic| simp only [*, startD, List.map, List.replicate, List.length_cons, List.length_nil, List.append_eq, List.append_nil, List.nil_append, List.cons_append, Nat.reduceSub, Nat.reduceAdd, List.getElem?_cons_zero, List.getElem?_cons_succ, List.set_cons_zero, List.set_cons_succ,
  dC, dVar, dOp, dTru, gTru, tru, dChain, dAnd, dOr, dNot, dAndV, dOrV, dNotV, dIf, dNeg, gNeg, dNil, dCons, dTup, dLst, dOwn, gIx, rBin, gAdd, gCmpI, dCall, dCallK, dSeq, dNext, dDrop, dRet, dRetN, dIfS, dName, dGNil, dGCons, dGTup, dSub, gSetL, dAsg, dPar, dPar3, dAug, gIpI, dSeqI, gSeqI, dRngI, gRng1, gRng2, dCB, gAbs, gInt, gMax, gMin, gGcd, gLen, lenD, gIsi, tyM, tyD, dBits, gBits, dMet, gAppend, dPart, dNoPart, dSl, gSl_tup, gSl_lst, cut_1, dEnds, gIs, isB, dNever, dFor, dLc, wipeD, dYes,
  sizeLine_eq, Nat.reduceLeDiff, gEq_int, gNe_int, gEq_strs, gNe_strs, gIn_two, gRepr_bl, rs_lst, rs_tup, rs_scr, rs_int, atI_0, atI_1, atI_2, atI_3, atI_4, atI_5, ixN_30, ixN_31, ixN_32, gEq_bl, gNe_bl, decide_eq_true_eq, beq_iff_eq, Bool.not_eq_true', beq_eq_false_iff_ne, decide_eq_false_iff_not, Bool.not_true, Bool.not_false, if_true, if_false, Bool.false_eq_true, ite_true, ite_false, true_and, and_true, ne_eq, Bool.bne_false, Bool.bne_true, reduceCtorEq])
local macro_rules | `(tactic| walk_at "kb") => `(tactic| simp only [kb_NoneType_list, kb_bool_list, kb_int_list, kb_str_list, kb_tuple_list, kb_list_list, kb_dict_list, kb_NoneType_int, kb_bool_int, kb_int_int, kb_str_int, kb_tuple_int, kb_list_int, kb_dict_int, kb_NoneType_bool, kb_bool_bool, kb_int_bool, kb_str_bool, kb_tuple_bool, kb_list_bool, kb_dict_bool, kb_NoneType_tuple, kb_bool_tuple, kb_int_tuple, kb_str_tuple, kb_tuple_tuple, kb_list_tuple, kb_dict_tuple, if_true, if_false, Bool.false_eq_true, ite_true, ite_false, Bool.not_true, Bool.not_false])
/-! ### columns of a deed's table, led down -/
/-! ### x in l -/
theorem toPyAll_mem : ∀ {l : List D} {ps : List PyData}, toPyAll l = some ps → ∀ d ∈ l, ∃ p ∈ ps, toPy d = some p
  | [], _, _, d, hd => by cases hd
  | x :: l, ps, h, d, hd => by
    unfold toPyAll at h
    cases h1 : toPy x with
    | none => rw [h1] at h; cases h
    | some p =>
      cases h2 : toPyAll l with
      | none => rw [h1, h2] at h; cases h
      | some qs =>
        rw [h1, h2] at h
        cases h
        rcases List.mem_cons.mp hd with rfl | hd
        · exact ⟨p, List.mem_cons_self, h1⟩
        · obtain ⟨p', m, e⟩ := toPyAll_mem h2 d hd
          exact ⟨p', List.mem_cons_of_mem _ m, e⟩
theorem gIn_mem {n : Nat} {neg : Bool} {d : D} {l : List D} {M : Mem} {Q : DQ} (hd : d ∈ l) (hf : fineAll n l = true) (q : Q (.bl (!neg)) M) (hn : n ≤ 60 := by decide) : gIn neg d (.lst l) M Q := by
  have fd := fineAll_iff.mp hf d hd
  have fl : fine (n + 1) (.lst l) = true := by simp only [fine]; exact hf
  obtain ⟨p, hp, cp⟩ := cmpd_fine fd (by omega)
  obtain ⟨pl, hpl, cpl⟩ := cmpd_fine fl (by omega)
  unfold gIn
  rw [res_fine fd, rs_lst, cp, cpl]
  have hpl' := hpl
  unfold toPy at hpl'
  cases hps : toPyAll l with
  | none => rw [hps] at hpl'; cases hpl'
  | some ps =>
    rw [hps] at hpl'
    cases hpl'
    obtain ⟨p', hm, e⟩ := toPyAll_mem hps d hd
    rw [hp] at e
    cases e
    have : (ps.any fun z => PyData.eqv z p) = true := List.any_eq_true.mpr ⟨p, hm, eqv_self fd hp⟩
    dsimp only
    rw [this]
    cases neg <;> exact q
theorem small_cb {a b c e : Int} (h : isCut a b c e = true) (hm : meas4 b c e ≤ 1000) : CutB 12 a b c e := by
  obtain ⟨k1, k2, k3, k4, k5, k6, k7, k8⟩ := isC_small h rfl hm
  exact ⟨Bi.of_abs 1000 (by omega) (by decide), Bi.of_abs 1000 (by omega) (by decide), Bi.of_abs 1000 (by omega) (by decide), Bi.of_abs 1000 (by omega) (by decide)⟩
theorem done_of {a b c e p q a' w g e' : Int} (h : isCut a b c e = true) (hd : isDeed b c e p q = true) (hdn : IsDone a b c e p q a' w g e') : isCut a' w g e' = true ∧ meas4 w g e' = meas4 b c e ∧ 0 < g :=
  have hp := (isDeed_parts hd).1
  let ⟨h1, h2⟩ := done_cut h hp.q1 hp.al hdn
  ⟨h1, h2, done_g (cut_parts h).2.1 hp.q1 hdn⟩
theorem one_deed {a b c e : Int} (h : isCut a b c e = true) : isDeed b c e 0 1 = true :=
  isDeed_mk (deedq_one h (Int.le_refl 0)) (by rw [Int.one_mul]; have := lot_le (b := b) (cut_parts h).2.1; omega)
end DL
/-! MF: the deed that leads back; plain -/
namespace DL
/-- (p1, q1) is the deed of (a', w, g, _) that undoes (p, q) at (a, b, c, e) -/
structure IsBack (a b c e p q a' w g p1 q1 : Int) : Prop where
  nq : q1 * g = q * c
  lo : 0 ≤ p1
  hi : p1 < q1 * (g / (Int.gcd w g : Int))
  ex : ∃ x z t : Int, p * z - q * x = 1 ∧ (-p1) * (p * b + q * a) + t * (q * c) = g ∧ g ∣ (-p1) * (x * b + z * a + e + q * c) + t * (z * c) + a'
theorem wide_of {a b c e p q w g x z : Int} (hw : w * g = c * (b - q * e - q * q * c)) (hr : p * z - q * x = 1) : (p * b + q * a) * (z * c) - (q * c) * (x * b + z * a + e + q * c) = w * g := by
  have h1 : (p * b + q * a) * (z * c) - (q * c) * (x * b + z * a + e + q * c) = c * (b * (p * z - q * x) - q * e - q * q * c) := by grind
  rw [h1, hr, Int.mul_one, hw]
theorem lot_mul {w g : Int} (hg : 0 < g) : ∃ w' lot : Int, w = (Int.gcd w g : Int) * w' ∧ g = (Int.gcd w g : Int) * lot ∧ g / (Int.gcd w g : Int) = lot ∧ 0 < lot ∧ lot * w = g * w' ∧ (Int.gcd w' lot : Int) = 1 := by
  have G0 : 0 < (Int.gcd w g : Int) := by
    have := Int.gcd_pos_of_ne_zero_right w (show g ≠ 0 by omega)
    omega
  obtain ⟨w', hw⟩ := Int.gcd_dvd_left w g
  obtain ⟨lot, hl⟩ := Int.gcd_dvd_right w g
  have e1 : g / (Int.gcd w g : Int) = lot := by
    have : g / (Int.gcd w g : Int) = ((Int.gcd w g : Int) * lot) / (Int.gcd w g : Int) := by rw [← hl]
    rw [this]; exact Int.mul_ediv_cancel_left _ (by omega)
  refine ⟨w', lot, hw, hl, e1, ?_, ?_, gcd_quot rfl G0 hw hl⟩
  · rw [← e1]; exact Int.ediv_pos_of_pos_of_dvd hg (by omega) (Int.gcd_dvd_right _ _)
  · generalize (Int.gcd w g : Int) = G at *
    subst hw
    rw [hl]; grind
/-- what the program's columns give -/
theorem back_of {a b c e p q a' w g x z f s t m n : Int} (hq : 1 ≤ q) (hc : 1 ≤ c) (hg : 0 < g) (hwi : w * g = c * (b - q * e - q * q * c)) (row : p * z - q * x = 1) (im : p * b + q * a = g * m) (jn : q * c = g * n)
    (bz : f * (p * b + q * a) + s * (q * c) = g) (tr : -(f * (x * b + z * a + e + q * c) + s * (z * c)) = a' + t * g) : IsBack a b c e p q a' w g ((-f) % (n * (g / (Int.gcd w g : Int)))) n := by
  obtain ⟨w', lot, e1, e2, e3, e4, e5, e6⟩ := lot_mul (w := w) hg
  have hn : 0 < n := by
    have h1 : 0 < q * c := Int.mul_pos (by omega) (by omega)
    rw [jn] at h1
    exact Int.pos_of_mul_pos_right h1 (by omega)
  have hN : 0 < n * lot := Int.mul_pos hn e4
  rw [e3]
  refine ⟨by rw [jn, Int.mul_comm], Int.emod_nonneg _ (by omega), by rw [e3]; exact Int.emod_lt_of_pos _ hN, x, z, s - ((-f) / (n * lot)) * m * lot, row, ?_, ?_⟩
  · have hd := Int.mul_ediv_add_emod (-f) (n * lot)
    generalize (-f) / (n * lot) = k at *
    have en : -((-f) % (n * lot)) = f + k * (n * lot) := by rw [Int.mul_comm k]; omega
    rw [en]
    have : (f + k * (n * lot)) * (p * b + q * a) + (s - k * m * lot) * (q * c) = (f * (p * b + q * a) + s * (q * c)) + k * lot * (n * (p * b + q * a) - m * (q * c)) := by grind
    rw [this, bz, im, jn]
    grind
  · have hd := Int.mul_ediv_add_emod (-f) (n * lot)
    generalize (-f) / (n * lot) = k at *
    have en : -((-f) % (n * lot)) = f + k * (n * lot) := by rw [Int.mul_comm k]; omega
    rw [en]
    have hwide := wide_of (a := a) hwi row
    have hn2 : m * (z * c) - n * (x * b + z * a + e + q * c) = w := by
      refine Int.eq_of_mul_eq_mul_right (show g ≠ 0 by omega) ?_
      have : (m * (z * c) - n * (x * b + z * a + e + q * c)) * g = (g * m) * (z * c) - (g * n) * (x * b + z * a + e + q * c) := by grind
      rw [this, ← im, ← jn, hwide]
    have : (f + k * (n * lot)) * (x * b + z * a + e + q * c) + (s - k * m * lot) * (z * c) + a' = (f * (x * b + z * a + e + q * c) + s * (z * c) + a') - k * lot * (m * (z * c) - n * (x * b + z * a + e + q * c)) := by grind
    rw [this, hn2]
    have h3 := tr
    have h4 : f * (x * b + z * a + e + q * c) + s * (z * c) + a' = g * (-t) := by rw [Int.mul_neg, Int.mul_comm g]; omega
    rw [h4, show k * lot * w = k * (lot * w) from Int.mul_assoc _ _ _, e5]
    exact Int.dvd_sub (Int.dvd_mul_right _ _) ⟨k * w', by grind⟩
/-- what leads back, and where -/
theorem back_facts {a b c e p q a' w g e' p1 q1 : Int} (hcut : isCut a b c e = true) (hd : isDeed b c e p q = true) (hdn : IsDone a b c e p q a' w g e') (h : IsBack a b c e p q a' w g p1 q1) :
    isDeed w g e' p1 q1 = true ∧ IsDone a' w g e' p1 q1 a b c e ∧ IsBack a' w g e' p1 q1 a b c p q := by
  obtain ⟨⟨hq, hal, hp0, hcp⟩, hpr⟩ := isDeed_parts hd
  obtain ⟨k1, k2, k3, k4, k5, k6⟩ := cut_parts hcut
  have hg := done_g k2 hq hdn
  obtain ⟨x, z, t, f1, f2, f3⟩ := h.ex
  obtain ⟨lo, hi⟩ := And.intro h.lo h.hi
  have hq1 : 1 ≤ q1 := by
    have h1 : 0 < q * c := Int.mul_pos (by omega) (by omega)
    rw [← h.nq] at h1
    exact Int.pos_of_mul_pos_left h1 (by omega)
  have hgI : g ∣ p * b + q * a := by rw [hdn.gc]; exact Int.gcd_dvd_left _ _
  obtain ⟨m, hm⟩ := hgI
  have hnq := h.nq
  have hwide := wide_of (a := a) hdn.wi f1
  have f4 : -p1 * m + t * q1 = 1 := by
    refine Int.eq_of_mul_eq_mul_right (show g ≠ 0 by omega) ?_
    rw [Int.one_mul]
    have : (-p1 * m + t * q1) * g = -p1 * (g * m) + t * (q1 * g) := by grind
    rw [this, ← hm, hnq]
    exact f2
  have cp : Int.gcd p1 q1 = 1 := by
    have d : (Int.gcd p1 q1 : Int) ∣ 1 := by
      rw [← f4]
      refine Int.dvd_add ?_ (Int.dvd_mul_of_dvd_right (Int.gcd_dvd_right _ _))
      rw [Int.neg_mul]
      exact Int.dvd_neg.mpr (Int.dvd_mul_of_dvd_left (Int.gcd_dvd_left _ _))
    have := Int.le_of_dvd (by decide) d
    have := Int.gcd_pos_of_ne_zero_right p1 (show q1 ≠ 0 by omega)
    omega
  obtain ⟨y, hy⟩ := f3
  have hn2 : m * (z * c) - q1 * (x * b + z * a + e + q * c) = w := by
    refine Int.eq_of_mul_eq_mul_right (show g ≠ 0 by omega) ?_
    have : (m * (z * c) - q1 * (x * b + z * a + e + q * c)) * g = (g * m) * (z * c) - (q1 * g) * (x * b + z * a + e + q * c) := by grind
    rw [this, ← hm, hnq, hwide]
  have hJ : a' = g * y + p1 * (x * b + z * a + e + q * c) - t * (z * c) := by
    have : -p1 * (x * b + z * a + e + q * c) = -(p1 * (x * b + z * a + e + q * c)) := Int.neg_mul _ _
    omega
  have eI : p1 * w + q1 * a' = q * c * y - z * c := by
    have h1 : p1 * w + q1 * a' = q1 * g * y - (t * q1 - p1 * m) * (z * c) + (p1 * w - p1 * (m * (z * c) - q1 * (x * b + z * a + e + q * c))) := by rw [hJ]; grind
    have h2 : t * q1 - p1 * m = 1 := by rw [Int.neg_mul] at f4; omega
    rw [h1, hn2, h2, hnq]; omega
  have eU : -p * (p1 * w + q1 * a') + (p * y - x) * (q1 * g) = c := by
    rw [eI, hnq]
    have : -p * (q * c * y - z * c) + (p * y - x) * (q * c) = (p * z - q * x) * c := by grind
    rw [this, f1, Int.one_mul]
  have eR : p1 * (-m) - q1 * (-t) = 1 := by rw [← f4]; grind
  have hwi : b * c = g * (w - q1 * e' - q1 * q1 * g) := by
    have h1 : g * (w - q1 * e' - q1 * q1 * g) = w * g - (q1 * g) * e' - (q1 * g) * (q1 * g) := by grind
    rw [h1, hnq, hdn.wi, hdn.tu]; grind
  have eA : -p * (-t * w + -m * a' + e' + q1 * g) + (p * y - x) * (-m * g) = -a := by
    have h2 : t * q1 - p1 * m = 1 := by rw [Int.neg_mul] at f4; omega
    have h3 : m * a' = (p * b + q * a) * y - (x * b + z * a + e + q * c) - t * w := by
      have h1 : m * a' = g * m * y + (p1 * m - t * q1) * (x * b + z * a + e + q * c) - t * (m * (z * c) - q1 * (x * b + z * a + e + q * c)) := by rw [hJ]; grind
      rw [h1, hn2, hm, show p1 * m - t * q1 = -1 by omega]; omega
    have h4 : -p * (-t * w + -m * a' + e' + q1 * g) + (p * y - x) * (-m * g) = p * (t * w) + p * (m * a') - p * e' - p * (q1 * g) - (p * y - x) * (g * m) := by grind
    rw [h4, h3, hnq, ← hm, hdn.tu]
    have h5 : p * (t * w) + p * ((p * b + q * a) * y - (x * b + z * a + e + q * c) - t * w) - p * (0 - e - 2 * q * c) - p * (q * c) - (p * y - x) * (p * b + q * a) = -(a * (p * z - q * x)) := by grind
    rw [h5, f1]; omega
  have hal1 : 0 < w - q1 * e' - q1 * q1 * g := by
    have h1 : 0 < b * c := Int.mul_pos (by omega) (by omega)
    rw [hwi] at h1
    exact Int.pos_of_mul_pos_right h1 (by omega)
  refine ⟨isDeed_mk ⟨hq1, hal1, lo, cp⟩ hi, ⟨?_, hwi, ?_, k4, k5, -p, p * y - x, -t, -m, eR, eU, ?_⟩, ⟨hnq.symm, hp0, hpr, -t, -m, p * y - x, eR, eU, ?_⟩⟩
  · have d1 : c ∣ p1 * w + q1 * a' := by rw [eI]; exact ⟨q * y - z, by grind⟩
    have d2 : c ∣ q1 * g := by rw [hnq]; exact Int.dvd_mul_left _ _
    have d3 := Int.dvd_coe_gcd d1 d2
    have d4 : (Int.gcd (p1 * w + q1 * a') (q1 * g) : Int) ∣ c := by
      have : (Int.gcd (p1 * w + q1 * a') (q1 * g) : Int) ∣ -p * (p1 * w + q1 * a') + (p * y - x) * (q1 * g) := Int.dvd_add (Int.dvd_mul_of_dvd_right (Int.gcd_dvd_left _ _)) (Int.dvd_mul_of_dvd_right (Int.gcd_dvd_right _ _))
      rwa [eU] at this
    exact Int.dvd_antisymm (by omega) (by omega) d3 d4
  · rw [hdn.tu, Int.mul_assoc 2 q1 g, hnq, Int.mul_assoc 2 q c]; omega
  · rw [eA]; exact ⟨0, by rw [Int.mul_zero]; omega⟩
  · rw [eA]; exact ⟨0, by rw [Int.mul_zero]; omega⟩
theorem back_ex {a b c e p q a' w g e' : Int} (hcut : isCut a b c e = true) (hd : isDeed b c e p q = true) (hdn : IsDone a b c e p q a' w g e') : ∃ p1 q1, IsBack a b c e p q a' w g p1 q1 := by
  obtain ⟨⟨hq, hal, hp0, hcp⟩, hpr⟩ := isDeed_parts hd
  obtain ⟨k1, k2, k3, k4, k5, k6⟩ := cut_parts hcut
  have hg := done_g k2 hq hdn
  obtain ⟨u, v, x, z, f1, f2, d, f3⟩ := hdn.ex
  have dm : g ∣ p * b + q * a := by rw [hdn.gc]; exact Int.gcd_dvd_left _ _
  have dn : g ∣ q * c := by rw [hdn.gc]; exact Int.gcd_dvd_right _ _
  obtain ⟨m, hm⟩ := dm
  obtain ⟨n, hn⟩ := dn
  obtain ⟨α, β, hab⟩ := bez_ex g.natAbs w g (Nat.le_refl _)
  have hwide := wide_of (a := a) hdn.wi f1
  have hn2 : m * (z * c) - n * (x * b + z * a + e + q * c) = w := by
    refine Int.eq_of_mul_eq_mul_right (show g ≠ 0 by omega) ?_
    have : (m * (z * c) - n * (x * b + z * a + e + q * c)) * g = (g * m) * (z * c) - (g * n) * (x * b + z * a + e + q * c) := by grind
    rw [this, ← hm, ← hn, hwide]
  refine ⟨_, _, back_of (f := u + d * α * n) (s := v - d * α * m) (t := -(d * β)) hq k2 hg hdn.wi f1 hm hn ?_ ?_⟩
  · have : (u + d * α * n) * (p * b + q * a) + (v - d * α * m) * (q * c) = (u * (p * b + q * a) + v * (q * c)) + d * α * (n * (p * b + q * a) - m * (q * c)) := by grind
    rw [this, f2, hm, hn]
    grind
  · have : -((u + d * α * n) * (x * b + z * a + e + q * c) + (v - d * α * m) * (z * c)) = -(u * (x * b + z * a + e + q * c) + v * (z * c)) + d * α * (m * (z * c) - n * (x * b + z * a + e + q * c)) := by grind
    rw [this, hn2]
    have h4 : u * (x * b + z * a + e + q * c) + v * (z * c) = d * (α * w + β * g) - a' := by rw [hab, Int.mul_comm d]; omega
    rw [h4]; grind
end DL
namespace DL
open PySem PySem.Spec PyProof.Rows L2
local macro_rules | `(tactic| walk_at "rd") => `(tactic| simp only [startD, List.map, List.replicate, List.length_cons, List.length_nil, List.append_eq, List.append_nil, List.nil_append, List.cons_append, Nat.reduceSub, Nat.reduceAdd, List.getElem?_cons_zero, List.getElem?_cons_succ, List.set_cons_zero, List.set_cons_succ,
  dC, dVar, dOp, dTru, gTru, tru, dChain, dAnd, dOr, dNot, dAndV, dOrV, dNotV, dIf, dNeg, gNeg, dNil, dCons, dTup, dLst, dOwn, gIx, rBin, gAdd, gCmpI, dCall, dCallK, dSeq, dNext, dDrop, dRet, dRetN, dIfS, dName, dGNil, dGCons, dGTup, dSub, gSetL, dAsg, dPar, dPar3, dAug, gIpI, dSeqI, gSeqI, dRngI, gRng1, gRng2, dCB, gAbs, gInt, gMax, gMin, gGcd, gLen, lenD, gIsi, tyM, tyD, dBits, gBits, dMet, gAppend, dPart, dNoPart, dSl, gSl_tup, gSl_lst, cut_1, dEnds, gIs, isB, dNever, dFor, dLc, wipeD, dYes,
  sizeLine_eq, Nat.reduceLeDiff, gEq_int, gNe_int, gEq_strs, gNe_strs, gIn_two, gRepr_bl, rs_lst, rs_tup, rs_scr, rs_int, atI_0, atI_1, atI_2, atI_3, atI_4, atI_5, ixN_30, ixN_31, ixN_32, gEq_bl, gNe_bl, decide_eq_true_eq, beq_iff_eq, Bool.not_eq_true', beq_eq_false_iff_ne, decide_eq_false_iff_not, Bool.not_true, Bool.not_false, if_true, if_false, Bool.false_eq_true, ite_true, ite_false, true_and, and_true, ne_eq, Bool.bne_false, Bool.bne_true, reduceCtorEq])
local macro_rules | `(tactic| walk_at "rh") => `(tactic| simp only [*, startD, List.map, List.replicate, List.length_cons, List.length_nil, List.append_eq, List.append_nil, List.nil_append, List.cons_append, Nat.reduceSub, Nat.reduceAdd, List.getElem?_cons_zero, List.getElem?_cons_succ, List.set_cons_zero, List.set_cons_succ,
  dC, dVar, dOp, dTru, gTru, tru, dChain, dAnd, dOr, dNot, dAndV, dOrV, dNotV, dIf, dNeg, gNeg, dNil, dCons, dTup, dLst, dOwn, gIx, rBin, gAdd, gCmpI, dCall, dCallK, dSeq, dNext, dDrop, dRet, dRetN, dIfS, dName, dGNil, dGCons, dGTup, dSub, gSetL, dAsg, dPar, dPar3, dAug, gIpI, dSeqI, gSeqI, dRngI, gRng1, gRng2, dCB, gAbs, gInt, gMax, gMin, gGcd, gLen, lenD, gIsi, tyM, tyD, dBits, gBits, dMet, gAppend, dPart, dNoPart, dSl, gSl_tup, gSl_lst, cut_1, dEnds, gIs, isB, dNever, dFor, dLc, wipeD, dYes,
  sizeLine_eq, Nat.reduceLeDiff, gEq_int, gNe_int, gEq_strs, gNe_strs, gIn_two, gRepr_bl, rs_lst, rs_tup, rs_scr, rs_int, atI_0, atI_1, atI_2, atI_3, atI_4, atI_5, ixN_30, ixN_31, ixN_32, gEq_bl, gNe_bl, decide_eq_true_eq, beq_iff_eq, Bool.not_eq_true', beq_eq_false_iff_ne, decide_eq_false_iff_not, Bool.not_true, Bool.not_false, if_true, if_false, Bool.false_eq_true, ite_true, ite_false, true_and, and_true, ne_eq, Bool.bne_false, Bool.bne_true, reduceCtorEq])
local macro_rules | `(tactic| walk_at "kb") => `(tactic| simp only [kb_NoneType_list, kb_bool_list, kb_int_list, kb_str_list, kb_tuple_list, kb_list_list, kb_dict_list, kb_NoneType_int, kb_bool_int, kb_int_int, kb_str_int, kb_tuple_int, kb_list_int, kb_dict_int, kb_NoneType_bool, kb_bool_bool, kb_int_bool, kb_str_bool, kb_tuple_bool, kb_list_bool, kb_dict_bool, kb_NoneType_tuple, kb_bool_tuple, kb_int_tuple, kb_str_tuple, kb_tuple_tuple, kb_list_tuple, kb_dict_tuple, if_true, if_false, Bool.false_eq_true, ite_true, ite_false, Bool.not_true, Bool.not_false])
mutual
/-- data without truth values and dicts -/
def nb : PyData → Bool
  | .none => true
  | .int _ => true
  | .str _ => true
  | .list l => nbAll l
  | .tuple l => nbAll l
  | _ => false
def nbAll : List PyData → Bool
  | [] => true
  | d :: ds => nb d && nbAll ds
end
end DL
/-! MG: how many numbers below n are free of n; plain -/
namespace DL
open Classical in
noncomputable def cnt (n : Nat) (P : Nat → Prop) : Nat := (List.range n).countP fun i => decide (P i)
open Classical in
theorem cnt_congr {n : Nat} {P Q : Nat → Prop} (h : ∀ i, i < n → (P i ↔ Q i)) : cnt n P = cnt n Q := by
  unfold cnt
  refine List.countP_congr fun i hi => ?_
  rw [decide_eq_true_iff, decide_eq_true_iff]
  exact h i (List.mem_range.mp hi)
theorem cnt_add (m n : Nat) (P : Nat → Prop) : cnt (m + n) P = cnt m P + cnt n (fun i => P (m + i)) := by
  unfold cnt
  rw [List.range_add, List.countP_append, List.countP_map]
  rfl
open Classical in
theorem cnt_none {n : Nat} {P : Nat → Prop} (h : ∀ i, i < n → ¬ P i) : cnt n P = 0 := by
  unfold cnt
  rw [List.countP_eq_zero]
  intro i hi
  rw [decide_eq_true_iff]
  exact h i (List.mem_range.mp hi)
open Classical in
theorem cnt_split (n : Nat) (P Q : Nat → Prop) : cnt n P = cnt n (fun i => P i ∧ Q i) + cnt n (fun i => P i ∧ ¬ Q i) := by
  induction n with
  | zero => rfl
  | succ n ih =>
    rw [cnt_add, cnt_add, cnt_add, ih]
    have one : ∀ R : Nat → Prop, cnt 1 R = (if R 0 then 1 else 0) := by
      intro R
      unfold cnt
      rw [show List.range 1 = [0] from rfl, List.countP_singleton]
      by_cases h : R 0
      · simp [h]
      · simp [h]
    rw [one, one, one]
    generalize cnt n (fun i => P i ∧ Q i) = A
    generalize cnt n (fun i => P i ∧ ¬ Q i) = B
    generalize P (n + 0) = p
    generalize Q (n + 0) = q
    by_cases h1 : p
    · by_cases h2 : q
      · rw [if_pos h1, if_pos ⟨h1, h2⟩, if_neg (fun z => z.2 h2)]; omega
      · rw [if_pos h1, if_neg (fun z => h2 z.2), if_pos ⟨h1, h2⟩]; omega
    · rw [if_neg h1, if_neg (fun z => h1 z.1), if_neg (fun z => h1 z.1)]; omega
theorem cnt_per {m : Nat} {P : Nat → Prop} (h : ∀ i, P (m + i) ↔ P i) : ∀ k, cnt (k * m) P = k * cnt m P
  | 0 => by rw [Nat.zero_mul, Nat.zero_mul]; rfl
  | k + 1 => by
    rw [Nat.succ_mul, Nat.add_comm, cnt_add, cnt_congr (n := k * m) fun i _ => h i, cnt_per h k, Nat.succ_mul, Nat.add_comm]
theorem cnt_mul {k : Nat} (hk : 1 ≤ k) (P : Nat → Prop) : ∀ m, cnt (m * k) (fun i => k ∣ i ∧ P i) = cnt m (fun j => P (j * k))
  | 0 => by rw [Nat.zero_mul]; rfl
  | m + 1 => by
    rw [Nat.succ_mul, cnt_add, cnt_mul hk P m, cnt_add]
    congr 1
    obtain ⟨j, rfl⟩ : ∃ j, k = 1 + j := ⟨k - 1, by omega⟩
    rw [cnt_add, cnt_none (n := j), Nat.add_zero]
    · refine cnt_congr fun i hi => ?_
      have : i = 0 := by omega
      subst this
      rw [Nat.add_zero, Nat.add_zero]
      exact ⟨fun h => h.2, fun h => ⟨Nat.dvd_mul_left _ _, h⟩⟩
    · intro i hi h
      have h1 := (Nat.dvd_add_right (Nat.dvd_mul_left (1 + j) m)).mp h.1
      have := Nat.le_of_dvd (by omega) h1
      omega
/-- no divisor of n below k divides i -/
def Free (n k i : Nat) : Prop := ∀ d, 2 ≤ d → d < k → d ∣ n → ¬ d ∣ i
noncomputable def phi (n : Nat) : Nat := cnt n fun i => Nat.gcd i n = 1
theorem free_gcd {n k i : Nat} (hn : 1 ≤ n) (hk : n < k) : Free n k i ↔ Nat.gcd i n = 1 := by
  constructor
  · intro h
    have g0 : 0 < Nat.gcd i n := Nat.gcd_pos_of_pos_right _ (by omega)
    have g1 : Nat.gcd i n ≤ n := Nat.le_of_dvd (by omega) (Nat.gcd_dvd_right _ _)
    by_cases z : Nat.gcd i n = 1
    · exact z
    · exact (h (Nat.gcd i n) (by omega) (by omega) (Nat.gcd_dvd_right _ _) (Nat.gcd_dvd_left _ _)).elim
  · intro h d d2 _ dn di
    have := Nat.dvd_gcd di dn
    rw [h] at this
    have := Nat.le_of_dvd (by decide) this
    omega
/-- the state of the reckoning -/
structure Fst (n k left c : Nat) : Prop where
  l1 : 1 ≤ left
  ln : left ∣ n
  low : ∀ d, 2 ≤ d → d < k → ¬ d ∣ left
  up : ∀ d, d ∣ n → (∀ e, 2 ≤ e → e < k → ¬ e ∣ d) → d ∣ left
  ct : c = cnt n (Free n k)
theorem Fst.no {n k left c : Nat} (hk : 2 ≤ k) (h : Fst n k left c) (hd : ¬ k ∣ left) : Fst n (k + 1) left c := by
  refine ⟨h.l1, h.ln, fun d d2 d3 => ?_, fun d d1 d2 => h.up d d1 fun e e1 e2 => d2 e e1 (by omega), ?_⟩
  · by_cases z : d = k
    · subst z; exact hd
    · exact h.low d d2 (by omega)
  · rw [h.ct]
    refine cnt_congr fun i _ => ⟨fun f d d2 d3 dn di => ?_, fun f d d2 d3 => f d d2 (by omega)⟩
    by_cases z : d = k
    · subst z
      refine hd (h.up d dn fun e e2 e3 ed => ?_)
      exact f e e2 e3 (Nat.dvd_trans ed dn) (Nat.dvd_trans ed di)
    · exact f d d2 (by omega) dn di
/-- a divisor of what is left that no lower one divides -/
theorem Fst.yes {n k left c left' : Nat} (hn : 1 ≤ n) (hk : 2 ≤ k) (h : Fst n k left c) (hd : k ∣ left) (h1 : left' ∣ left) (h2 : ¬ k ∣ left') (h3 : ∀ d, Nat.gcd d k = 1 → d ∣ left → d ∣ left') : Fst n (k + 1) left' (c / k * (k - 1)) := by
  have prime : ∀ e, 2 ≤ e → e < k → ¬ e ∣ k := fun e e2 e3 ek => h.low e e2 e3 (Nat.dvd_trans ek hd)
  have cop : ∀ d, (∀ e, 2 ≤ e → e < k + 1 → ¬ e ∣ d) → Nat.gcd d k = 1 := by
    intro d hd'
    have g0 : 0 < Nat.gcd d k := Nat.gcd_pos_of_pos_right _ (by omega)
    have g1 : Nat.gcd d k ≤ k := Nat.le_of_dvd (by omega) (Nat.gcd_dvd_right _ _)
    by_cases z : Nat.gcd d k = 1
    · exact z
    · exact (hd' (Nat.gcd d k) (by omega) (by omega) (Nat.gcd_dvd_left _ _)).elim
  have cop2 : ∀ d, 2 ≤ d → d < k → Nat.gcd d k = 1 := by
    intro d d2 d3
    have g0 : 0 < Nat.gcd d k := Nat.gcd_pos_of_pos_right _ (by omega)
    have g1 : Nat.gcd d k ≤ d := Nat.le_of_dvd (by omega) (Nat.gcd_dvd_left _ _)
    by_cases z : Nat.gcd d k = 1
    · exact z
    · exact (prime (Nat.gcd d k) (by omega) (by omega) (Nat.gcd_dvd_right _ _)).elim
  have l1 : 1 ≤ left' := by
    rcases Nat.eq_zero_or_pos left' with z | z
    · rw [z] at h1
      have := Nat.zero_dvd.mp h1
      have := h.l1
      omega
    · exact z
  refine ⟨l1, Nat.dvd_trans h1 h.ln, fun d d2 d3 dl => ?_, fun d d1 d2 => h3 d (cop d d2) (h.up d d1 fun e e1 e2 => d2 e e1 (by omega)), ?_⟩
  · by_cases z : d = k
    · subst z; exact h2 dl
    · exact h.low d d2 (by omega) (Nat.dvd_trans dl h1)
  · obtain ⟨m, hm⟩ := Nat.dvd_trans hd h.ln
    have per : ∀ i, Free n k (m + i) ↔ Free n k i := by
      have dm : ∀ d, 2 ≤ d → d < k → d ∣ n → d ∣ m := by
        intro d d2 d3 dn
        rw [hm] at dn
        exact Nat.Coprime.dvd_of_dvd_mul_left (cop2 d d2 d3) dn
      refine fun i => ⟨fun f d d2 d3 dn di => f d d2 d3 dn (Nat.dvd_add (dm d d2 d3 dn) di), fun f d d2 d3 dn di => f d d2 d3 dn ((Nat.dvd_add_right (dm d d2 d3 dn)).mp di)⟩
    have e1 : cnt n (Free n k) = k * cnt m (Free n k) := by
      have := cnt_per per k
      rw [← hm] at this
      exact this
    have e2 : cnt n (fun i => Free n k i ∧ k ∣ i) = cnt m (Free n k) := by
      have h5 := cnt_mul (k := k) (by omega) (Free n k) m
      rw [Nat.mul_comm, ← hm] at h5
      rw [cnt_congr (Q := fun i => k ∣ i ∧ Free n k i) (fun i _ => And.comm), h5]
      refine cnt_congr fun j _ => ⟨fun f d d2 d3 dn dj => f d d2 d3 dn (Nat.dvd_mul_right_of_dvd dj _), fun f d d2 d3 dn dj => f d d2 d3 dn ?_⟩
      exact Nat.Coprime.dvd_of_dvd_mul_right (cop2 d d2 d3) dj
    have e3 : cnt n (Free n (k + 1)) = cnt n (fun i => Free n k i ∧ ¬ k ∣ i) := by
      refine cnt_congr fun i _ => ⟨fun f => ⟨fun d d2 d3 => f d d2 (by omega), f k hk (by omega) ⟨m, hm⟩⟩, fun f d d2 d3 dn di => ?_⟩
      by_cases z : d = k
      · subst z; exact f.2 di
      · exact f.1 d d2 (by omega) dn di
    have e4 := cnt_split n (Free n k) (fun i => k ∣ i)
    rw [e3, h.ct, e1, Nat.mul_div_cancel_left _ (by omega)]
    rw [e1, e2] at e4
    obtain ⟨j, rfl⟩ : ∃ j, k = j + 1 := ⟨k - 1, by omega⟩
    rw [Nat.succ_mul] at e4
    rw [Nat.add_sub_cancel, Nat.mul_comm]
    omega
open Classical in
theorem Fst.start {n : Nat} (hn : 1 ≤ n) : Fst n 2 n n := by
  refine ⟨hn, Nat.dvd_refl _, fun d d2 d3 => by omega, fun d h _ => h, ?_⟩
  unfold cnt
  rw [List.countP_eq_length.mpr, List.length_range]
  intro i _
  rw [decide_eq_true_iff]
  intro d d2 d3
  omega
/-- on to a later place, where nothing divides -/
theorem Fst.far {n k left c : Nat} (hk : 2 ≤ k) (h : Fst n k left c) : ∀ j, (∀ d, k ≤ d → d < k + j → ¬ d ∣ left) → Fst n (k + j) left c
  | 0, _ => h
  | j + 1, hd => Fst.no (k := k + j) (by omega) (Fst.far hk h j fun d d1 d2 => hd d d1 (by omega)) (hd (k + j) (by omega) (by omega))
theorem Fst.done {n k left c : Nat} (hn : 1 ≤ n) (hk : n < k) (h : Fst n k left c) : c = phi n := by
  rw [h.ct]
  exact cnt_congr fun i _ => free_gcd hn hk
theorem Fst.fin {n k left c : Nat} (hn : 1 ≤ n) (hk : 2 ≤ k) (h : Fst n k left c) (hl : left < k * k) : (if 1 < left then c / left * (left - 1) else c) = phi n := by
  by_cases h1 : 1 < left
  · rw [if_pos h1]
    -- what is left has no divisor of its own
    have own : ∀ d, 2 ≤ d → d < left → ¬ d ∣ left := by
      intro d d2 d3 ⟨j, hj⟩
      by_cases z : d < k
      · exact h.low d d2 z ⟨j, hj⟩
      · by_cases y : j < k
        · have j2 : 2 ≤ j := by
            rcases (by omega : j = 0 ∨ j = 1 ∨ 2 ≤ j) with e | e | e
            · rw [e] at hj; omega
            · rw [e] at hj; omega
            · exact e
          exact h.low j j2 y ⟨d, by rw [hj, Nat.mul_comm]⟩
        · have : k * k ≤ d * j := Nat.mul_le_mul (by omega) (by omega)
          omega
    have hkl : k ≤ left := by
      by_cases z : k ≤ left
      · exact z
      · exact (h.low left (by omega) (by omega) (Nat.dvd_refl _)).elim
    have s1 := h.far hk (left - k) fun d d1 d2 => own d (by omega) (by omega)
    rw [show k + (left - k) = left by omega] at s1
    have s2 := s1.yes (left' := 1) hn (by omega) (Nat.dvd_refl _) (Nat.one_dvd _) (fun z => by have := Nat.le_of_dvd (by decide) z; omega) (fun d d1 d2 => by
      have := Nat.dvd_gcd (Nat.dvd_refl d) d2
      rw [d1] at this
      exact this)
    have s3 := s2.far (by omega) n fun d d1 d2 z => by have := Nat.le_of_dvd (by decide) z; omega
    exact s3.done hn (by omega)
  · rw [if_neg h1]
    have e : left = 1 := by have := h.l1; omega
    subst e
    have s3 := h.far hk n fun d d1 d2 z => by have := Nat.le_of_dvd (by decide) z; omega
    exact s3.done hn (by omega)
end DL
namespace DL
open PySem PySem.Spec PyProof.Rows L2
local macro_rules | `(tactic| walk_at "rd") => `(tactic| simp only [startD, List.map, List.replicate, List.length_cons, List.length_nil, List.append_eq, List.append_nil, List.nil_append, List.cons_append, Nat.reduceSub, Nat.reduceAdd, List.getElem?_cons_zero, List.getElem?_cons_succ, List.set_cons_zero, List.set_cons_succ,
  dC, dVar, dOp, dTru, gTru, tru, dChain, dAnd, dOr, dNot, dAndV, dOrV, dNotV, dIf, dNeg, gNeg, dNil, dCons, dTup, dLst, dOwn, gIx, rBin, gAdd, gCmpI, dCall, dCallK, dSeq, dNext, dDrop, dRet, dRetN, dIfS, dName, dGNil, dGCons, dGTup, dSub, gSetL, dAsg, dPar, dPar3, dAug, gIpI, dSeqI, gSeqI, dRngI, gRng1, gRng2, dCB, gAbs, gInt, gMax, gMin, gGcd, gLen, lenD, gIsi, tyM, tyD, dBits, gBits, dMet, gAppend, dPart, dNoPart, dSl, gSl_tup, gSl_lst, cut_1, dEnds, gIs, isB, dNever, dFor, dLc, wipeD, dYes,
  sizeLine_eq, Nat.reduceLeDiff, gEq_int, gNe_int, gEq_strs, gNe_strs, gIn_two, gRepr_bl, rs_lst, rs_tup, rs_scr, rs_int, atI_0, atI_1, atI_2, atI_3, atI_4, atI_5, ixN_30, ixN_31, ixN_32, gEq_bl, gNe_bl, decide_eq_true_eq, beq_iff_eq, Bool.not_eq_true', beq_eq_false_iff_ne, decide_eq_false_iff_not, Bool.not_true, Bool.not_false, if_true, if_false, Bool.false_eq_true, ite_true, ite_false, true_and, and_true, ne_eq, Bool.bne_false, Bool.bne_true, reduceCtorEq])
local macro_rules | `(tactic| walk_at "rh") => `(tactic| simp only [*, startD, List.map, List.replicate, List.length_cons, List.length_nil, List.append_eq, List.append_nil, List.nil_append, List.cons_append, Nat.reduceSub, Nat.reduceAdd, List.getElem?_cons_zero, List.getElem?_cons_succ, List.set_cons_zero, List.set_cons_succ,
  dC, dVar, dOp, dTru, gTru, tru, dChain, dAnd, dOr, dNot, dAndV, dOrV, dNotV, dIf, dNeg, gNeg, dNil, dCons, dTup, dLst, dOwn, gIx, rBin, gAdd, gCmpI, dCall, dCallK, dSeq, dNext, dDrop, dRet, dRetN, dIfS, dName, dGNil, dGCons, dGTup, dSub, gSetL, dAsg, dPar, dPar3, dAug, gIpI, dSeqI, gSeqI, dRngI, gRng1, gRng2, dCB, gAbs, gInt, gMax, gMin, gGcd, gLen, lenD, gIsi, tyM, tyD, dBits, gBits, dMet, gAppend, dPart, dNoPart, dSl, gSl_tup, gSl_lst, cut_1, dEnds, gIs, isB, dNever, dFor, dLc, wipeD, dYes,
  sizeLine_eq, Nat.reduceLeDiff, gEq_int, gNe_int, gEq_strs, gNe_strs, gIn_two, gRepr_bl, rs_lst, rs_tup, rs_scr, rs_int, atI_0, atI_1, atI_2, atI_3, atI_4, atI_5, ixN_30, ixN_31, ixN_32, gEq_bl, gNe_bl, decide_eq_true_eq, beq_iff_eq, Bool.not_eq_true', beq_eq_false_iff_ne, decide_eq_false_iff_not, Bool.not_true, Bool.not_false, if_true, if_false, Bool.false_eq_true, ite_true, ite_false, true_and, and_true, ne_eq, Bool.bne_false, Bool.bne_true, reduceCtorEq])
local macro_rules | `(tactic| walk_at "kb") => `(tactic| simp only [kb_NoneType_list, kb_bool_list, kb_int_list, kb_str_list, kb_tuple_list, kb_list_list, kb_dict_list, kb_NoneType_int, kb_bool_int, kb_int_int, kb_str_int, kb_tuple_int, kb_list_int, kb_dict_int, kb_NoneType_bool, kb_bool_bool, kb_int_bool, kb_str_bool, kb_tuple_bool, kb_list_bool, kb_dict_bool, kb_NoneType_tuple, kb_bool_tuple, kb_int_tuple, kb_str_tuple, kb_tuple_tuple, kb_list_tuple, kb_dict_tuple, if_true, if_false, Bool.false_eq_true, ite_true, ite_false, Bool.not_true, Bool.not_false])
/-- long lists of small numbers may be shown -/
def okS (d : D) : Prop := fine 41 d = true ∧ lit 40 d = true ∧ wt 40 d ≤ 300000
theorem gRepr_okS {d : D} {M : Mem} {Q : DQ} (h : okS d) (q : ∀ z, shwn d = some z → Q (.str z) M) : gRepr [d] M Q := by
  refine gRepr_of 40 41 h.1 h.2.1 ?_ q
  have := h.2.2
  omega
end DL
/-! MH: mirrored cuttings, mirrored deeds; plain -/
namespace DL
end DL
namespace DL
open PySem PySem.Spec PyProof.Rows L2
local macro_rules | `(tactic| walk_at "rd") => `(tactic| simp only [startD, List.map, List.replicate, List.length_cons, List.length_nil, List.append_eq, List.append_nil, List.nil_append, List.cons_append, Nat.reduceSub, Nat.reduceAdd, List.getElem?_cons_zero, List.getElem?_cons_succ, List.set_cons_zero, List.set_cons_succ,
  dC, dVar, dOp, dTru, gTru, tru, dChain, dAnd, dOr, dNot, dAndV, dOrV, dNotV, dIf, dNeg, gNeg, dNil, dCons, dTup, dLst, dOwn, gIx, rBin, gAdd, gCmpI, dCall, dCallK, dSeq, dNext, dDrop, dRet, dRetN, dIfS, dName, dGNil, dGCons, dGTup, dSub, gSetL, dAsg, dPar, dPar3, dAug, gIpI, dSeqI, gSeqI, dRngI, gRng1, gRng2, dCB, gAbs, gInt, gMax, gMin, gGcd, gLen, lenD, gIsi, tyM, tyD, dBits, gBits, dMet, gAppend, dPart, dNoPart, dSl, gSl_tup, gSl_lst, cut_1, dEnds, gIs, isB, dNever, dFor, dLc, wipeD, dYes,
  sizeLine_eq, Nat.reduceLeDiff, gEq_int, gNe_int, gEq_strs, gNe_strs, gIn_two, gRepr_bl, rs_lst, rs_tup, rs_scr, rs_int, atI_0, atI_1, atI_2, atI_3, atI_4, atI_5, ixN_30, ixN_31, ixN_32, gEq_bl, gNe_bl, decide_eq_true_eq, beq_iff_eq, Bool.not_eq_true', beq_eq_false_iff_ne, decide_eq_false_iff_not, Bool.not_true, Bool.not_false, if_true, if_false, Bool.false_eq_true, ite_true, ite_false, true_and, and_true, ne_eq, Bool.bne_false, Bool.bne_true, reduceCtorEq])
local macro_rules | `(tactic| walk_at "rh") => `(tactic| simp only [*, startD, List.map, List.replicate, List.length_cons, List.length_nil, List.append_eq, List.append_nil, List.nil_append, List.cons_append, Nat.reduceSub, Nat.reduceAdd, List.getElem?_cons_zero, List.getElem?_cons_succ, List.set_cons_zero, List.set_cons_succ,
  dC, dVar, dOp, dTru, gTru, tru, dChain, dAnd, dOr, dNot, dAndV, dOrV, dNotV, dIf, dNeg, gNeg, dNil, dCons, dTup, dLst, dOwn, gIx, rBin, gAdd, gCmpI, dCall, dCallK, dSeq, dNext, dDrop, dRet, dRetN, dIfS, dName, dGNil, dGCons, dGTup, dSub, gSetL, dAsg, dPar, dPar3, dAug, gIpI, dSeqI, gSeqI, dRngI, gRng1, gRng2, dCB, gAbs, gInt, gMax, gMin, gGcd, gLen, lenD, gIsi, tyM, tyD, dBits, gBits, dMet, gAppend, dPart, dNoPart, dSl, gSl_tup, gSl_lst, cut_1, dEnds, gIs, isB, dNever, dFor, dLc, wipeD, dYes,
  sizeLine_eq, Nat.reduceLeDiff, gEq_int, gNe_int, gEq_strs, gNe_strs, gIn_two, gRepr_bl, rs_lst, rs_tup, rs_scr, rs_int, atI_0, atI_1, atI_2, atI_3, atI_4, atI_5, ixN_30, ixN_31, ixN_32, gEq_bl, gNe_bl, decide_eq_true_eq, beq_iff_eq, Bool.not_eq_true', beq_eq_false_iff_ne, decide_eq_false_iff_not, Bool.not_true, Bool.not_false, if_true, if_false, Bool.false_eq_true, ite_true, ite_false, true_and, and_true, ne_eq, Bool.bne_false, Bool.bne_true, reduceCtorEq])
local macro_rules | `(tactic| walk_at "kb") => `(tactic| simp only [kb_NoneType_list, kb_bool_list, kb_int_list, kb_str_list, kb_tuple_list, kb_list_list, kb_dict_list, kb_NoneType_int, kb_bool_int, kb_int_int, kb_str_int, kb_tuple_int, kb_list_int, kb_dict_int, kb_NoneType_bool, kb_bool_bool, kb_int_bool, kb_str_bool, kb_tuple_bool, kb_list_bool, kb_dict_bool, kb_NoneType_tuple, kb_bool_tuple, kb_int_tuple, kb_str_tuple, kb_tuple_tuple, kb_list_tuple, kb_dict_tuple, if_true, if_false, Bool.false_eq_true, ite_true, ite_false, Bool.not_true, Bool.not_false])
theorem gcd_pos' {b c : Int} (hc : 1 ≤ c) : 0 < (Int.gcd b c : Int) := by
  have := Int.gcd_pos_of_ne_zero_right b (show c ≠ 0 by omega)
  omega
/-! calls whose answers are known -/
end DL
/-! MX: deeds join what has one sign, measures to 145 -/
namespace DL
abbrev Qu := Int × Int × Int × Int
def par (a b c e : Int) : Int := ((e + 1) / 2 + (c + 1) * (a + b + a * b)) % 2
def xgF : Nat → Int → Int → Int × Int × Int
  | 0, a, _ => (a, 1, 0)
  | k + 1, a, b => if b = 0 then (a, 1, 0) else let r := xgF k b (a % b); (r.1, r.2.2, r.2.1 - (a / b) * r.2.2)
/-- where (p, q) leads; the witnesses -/
def ledF (a b c e p q : Int) : Qu × Int × Int × Int × Int :=
  let r := xgF 12 p q
  let z := r.2.1
  let x := 0 - r.2.2
  let s := xgF 12 (p * b + q * a) (q * c)
  let g := s.1
  let w := c * (b - q * e - q * q * c) / g
  let n := s.2.1 * (x * b + z * a + e + q * c) + s.2.2 * (z * c)
  (((0 - n) % (Int.gcd w g : Int), w, g, 0 - e - 2 * q * c), s.2.1, s.2.2, x, z)
def chkD (a b c e p q : Int) (y : Qu) (u v x z : Int) : Bool :=
  decide (y.2.2.1 = (Int.gcd (p * b + q * a) (q * c) : Int)) && (decide (y.2.1 * y.2.2.1 = c * (b - q * e - q * q * c)) && (decide (y.2.2.2 = 0 - e - 2 * q * c) && (decide (0 ≤ y.1) && (decide (y.1 < (Int.gcd y.2.1 y.2.2.1 : Int)) &&
    (decide (p * z - q * x = 1) && (decide (u * (p * b + q * a) + v * (q * c) = y.2.2.1) && decide ((y.1 + (u * (x * b + z * a + e + q * c) + v * (z * c))) % (Int.gcd y.2.1 y.2.2.1 : Int) = 0)))))))
theorem chkD_ok {a b c e p q : Int} {y : Qu} {u v x z : Int} (h : chkD a b c e p q y u v x z = true) : IsDone a b c e p q y.1 y.2.1 y.2.2.1 y.2.2.2 := by
  unfold chkD at h
  simp only [Bool.and_eq_true, decide_eq_true_eq] at h
  obtain ⟨h1, h2, h3, h4, h5, h6, h7, h8⟩ := h
  exact ⟨h1, h2, h3, h4, h5, u, v, x, z, h6, h7, Int.dvd_of_emod_eq_zero h8⟩
def stepB (a b c e p q : Int) : Bool := isDeed b c e p q && (let r := ledF a b c e p q; chkD a b c e p q r.1 r.2.1 r.2.2.1 r.2.2.2.1 r.2.2.2.2)
theorem stepB_ok {a b c e p q : Int} (h : stepB a b c e p q = true) : isDeed b c e p q = true ∧ IsDone a b c e p q (ledF a b c e p q).1.1 (ledF a b c e p q).1.2.1 (ledF a b c e p q).1.2.2.1 (ledF a b c e p q).1.2.2.2 := by
  unfold stepB at h
  rw [Bool.and_eq_true] at h
  exact ⟨h.1, chkD_ok h.2⟩
/-- all cuttings of a measure to 145 -/
def allQ (m : Nat) (f : Int → Int → Int → Int → Bool) : Bool :=
  alF (fun i => let e : Int := (i : Int) - 12; let w : Int := (m : Int) - e * e
    alF (fun c => let b := w / (4 * (c : Int)); if b * (4 * (c : Int)) = w then alF (fun a => !(isCut (a : Int) b (c : Int) e) || f (a : Int) b (c : Int) e) 7 0 else true) 36 1) 25 0
theorem sq_lt12 {e : Int} (h : e * e < 145 + 1) : -12 ≤ e ∧ e ≤ 12 := by
  constructor
  · by_cases z : e ≤ -13
    · have : 13 * 13 ≤ (-e) * (-e) := Int.mul_le_mul (by omega) (by omega) (by decide) (by omega)
      have e1 : (-e) * (-e) = e * e := by rw [Int.neg_mul_neg]
      omega
    · omega
  · by_cases z : 13 ≤ e
    · have : 13 * 13 ≤ e * e := Int.mul_le_mul z z (by decide) (by omega)
      omega
    · omega
theorem allQ_ok {m : Nat} {f : Int → Int → Int → Int → Bool} (h : allQ m f = true) (hm : m ≤ 145) {a b c e : Int} (hc : isCut a b c e = true) (he : meas4 b c e = m) : f a b c e = true := by
  obtain ⟨k1, k2, k3, k4, k5, k6⟩ := cut_parts hc
  have hbc : 0 < b * c := Int.mul_pos (by omega) (by omega)
  have em : e * e + 4 * (b * c) = (m : Int) := by rw [← he]; unfold meas4; grind
  have he2 := sq_lt12 (e := e) (by omega)
  have ee : 0 ≤ e * e := by
    by_cases z : 0 ≤ e
    · exact Int.mul_nonneg z z
    · have := Int.mul_nonneg (show 0 ≤ -e by omega) (show 0 ≤ -e by omega)
      rw [Int.neg_mul_neg] at this; exact this
  have c36 : c ≤ 36 := by
    have : 1 * c ≤ b * c := Int.mul_le_mul_of_nonneg_right (by omega) (by omega)
    omega
  have a7 : a < 7 := by
    have g1 : (Int.gcd b c : Int) ≤ b := Int.le_of_dvd (by omega) (Int.gcd_dvd_left _ _)
    have g2 : (Int.gcd b c : Int) ≤ c := Int.le_of_dvd (by omega) (Int.gcd_dvd_right _ _)
    by_cases z : 7 ≤ a
    · have : 7 * 7 ≤ b * c := Int.mul_le_mul (by omega) (by omega) (by decide) (by omega)
      omega
    · omega
  unfold allQ at h
  have h1 := alF_iff.mp h (e + 12).toNat (by omega) (by omega)
  have e1 : (((e + 12).toNat : Nat) : Int) - 12 = e := by omega
  dsimp only at h1
  rw [e1] at h1
  have h2 := alF_iff.mp h1 c.toNat (by omega) (by omega)
  have e2 : ((c.toNat : Nat) : Int) = c := by omega
  rw [e2] at h2
  have e3 : (m : Int) - e * e = b * (4 * c) := by rw [← em]; grind
  rw [e3, Int.mul_ediv_cancel _ (show 4 * c ≠ 0 by omega), if_pos rfl] at h2
  have h3 := alF_iff.mp h2 a.toNat (by omega) (by omega)
  have e4 : ((a.toNat : Nat) : Int) = a := by omega
  rw [e4, hc] at h3
  simpa using h3
/-- deeds keep the sign -/
def keepQ (m : Nat) : Bool := allQ m fun a b c e => alF (fun q => alF (fun p => !(isDeed b c e (p : Int) (q : Int)) || (stepB a b c e (p : Int) (q : Int) && (let y := (ledF a b c e (p : Int) (q : Int)).1; decide (par y.1 y.2.1 y.2.2.1 y.2.2.2 = par a b c e)))) 13 0) 12 1
def signB (m : Nat) : Bool := Nat.beq (m % 8) 1 && Nat.ble 10 m
theorem keep_all : alF (fun m => !(signB m) || keepQ m) 141 5 = true := by decide +kernel
end DL
/-! MY: what deeds join; measures to 145 -/
namespace DL
/-- deeds lead from x to z -/
inductive Rch : List Int → List Int → Prop
  | refl (x : List Int) : Rch x x
  | step {x : List Int} {a b c e p q a' w g e' : Int} : Rch x [a, b, c, e] → isDeed b c e p q = true → IsDone a b c e p q a' w g e' → Rch x [a', w, g, e']
theorem Rch.trans {x y z : List Int} (h : Rch x y) (g : Rch y z) : Rch x z := by
  induction g with
  | refl => exact h
  | step _ h1 h2 ih => exact .step ih h1 h2
theorem Rch.cut {m : Int} {x y : List Int} (h : Rch x y) (hx : IsC m x) : IsC m y := by
  induction h with
  | refl => exact hx
  | step _ h1 h2 ih =>
    obtain ⟨_, _, _, _, e, hc, hm⟩ := ih
    cases e
    obtain ⟨k1, k2, k3⟩ := done_of hc h1 h2
    exact ⟨_, _, _, _, rfl, k1, k2.trans hm⟩
theorem Rch.symm {m : Int} {x y : List Int} (h : Rch x y) (hx : IsC m x) : Rch y x := by
  induction h with
  | refl => exact .refl _
  | step h0 h1 h2 ih =>
    obtain ⟨_, _, _, _, e, hc, hm⟩ := h0.cut hx
    cases e
    obtain ⟨p1, q1, hb⟩ := back_ex hc h1 h2
    obtain ⟨b1, b2, _⟩ := back_facts hc h1 h2 hb
    exact (Rch.step (.refl _) b1 b2).trans ih
theorem par_01 (a b c e : Int) : par a b c e = 0 ∨ par a b c e = 1 := by
  unfold par
  omega
/-- deeds are small here -/
theorem deed_q12 {m : Nat} (hm : m ≤ 145) {a b c e p q : Int} (hc : isCut a b c e = true) (he : meas4 b c e = m) (hd : isDeed b c e p q = true) : 1 ≤ q ∧ q ≤ 12 ∧ 0 ≤ p ∧ p ≤ 12 := by
  obtain ⟨hq, hpl⟩ := isDeed_parts hd
  obtain ⟨k1, k2, k3, k4, k5, k6⟩ := cut_parts hc
  have q1 := hq.q1
  have al := hq.al
  have p0 := hq.p0
  have em : e * e + 4 * (b * c) = (m : Int) := by rw [← he]; unfold meas4; grind
  have hbc : 0 < b * c := Int.mul_pos (by omega) (by omega)
  have he2 := sq_lt12 (e := e) (by omega)
  have hD : 0 < c * (b - q * e - q * q * c) := Int.mul_pos (by omega) al
  have ht : (e + 2 * (q * c)) * (e + 2 * (q * c)) = (m : Int) - 4 * (c * (b - q * e - q * q * c)) := by rw [← em]; grind
  have ht2 := sq_lt12 (e := e + 2 * (q * c)) (by omega)
  have qc : q * c ≤ 12 := by omega
  have q2 : q * 1 ≤ q * c := Int.mul_le_mul_of_nonneg_left (by omega) (by omega)
  have G0 : 0 < (Int.gcd b c : Int) := by
    have := Int.gcd_pos_of_ne_zero_right b (show c ≠ 0 by omega)
    omega
  have cg : c / (Int.gcd b c : Int) ≤ c := Int.ediv_le_self _ (by omega)
  have q3 : q * (c / (Int.gcd b c : Int)) ≤ q * c := Int.mul_le_mul_of_nonneg_left cg (by omega)
  omega
/-- deeds keep the sign -/
theorem keep {m : Nat} (h5 : 5 ≤ m) (hm : m ≤ 145) (hs : signB m = true) {a b c e p q a' w g e' : Int} (hc : isCut a b c e = true) (he : meas4 b c e = m) (hd : isDeed b c e p q = true) (hdn : IsDone a b c e p q a' w g e') : par a' w g e' = par a b c e := by
  have h := alF_iff.mp keep_all m h5 (by omega)
  rw [hs, Bool.not_true, Bool.false_or] at h
  have h1 := allQ_ok h hm hc he
  obtain ⟨q1, q2, p0, p1⟩ := deed_q12 hm hc he hd
  have h2 := alF_iff.mp h1 q.toNat (by omega) (by omega)
  have h3 := alF_iff.mp h2 p.toNat (by omega) (by omega)
  rw [show ((q.toNat : Nat) : Int) = q by omega, show ((p.toNat : Nat) : Int) = p by omega, hd, Bool.not_true, Bool.false_or, Bool.and_eq_true, decide_eq_true_eq] at h3
  obtain ⟨s1, s2⟩ := h3
  obtain ⟨_, s4⟩ := stepB_ok s1
  have hg := done_g (cut_parts hc).2.1 q1 hdn
  obtain ⟨r1, r2, r3, r4⟩ := isDone_unique (by omega) hdn s4
  rw [r1, r2, r3, r4]
  exact s2
theorem Rch.keep {m : Nat} (h5 : 5 ≤ m) (hm : m ≤ 145) (hs : signB m = true) {x y : List Int} (h : Rch x y) (hx : IsC m x) : ∀ a b c e a' b' c' e', x = [a, b, c, e] → y = [a', b', c', e'] → par a' b' c' e' = par a b c e := by
  induction h with
  | refl => rintro a b c e a' b' c' e' rfl h; cases h; rfl
  | step h0 h1 h2 ih =>
    rintro a b c e a' b' c' e' rfl h
    cases h
    obtain ⟨_, _, _, _, e1, hc, hm2⟩ := h0.cut hx
    cases e1
    rw [DL.keep h5 hm hs hc hm2 h1 h2]
    exact ih _ _ _ _ _ _ _ _ rfl rfl
end DL
/-! MZ: each deed keeps the sign, for all measures -/
namespace DL
open PySem PySem.Spec PyProof.Rows L2
def od (x : Int) : Bool := x % 2 == 1
theorem od_cases (x : Int) : (od x = true ∧ x % 2 = 1) ∨ (od x = false ∧ x % 2 = 0) := by
  unfold od
  rcases (by omega : x % 2 = 1 ∨ x % 2 = 0) with h | h
  · exact .inl ⟨by rw [h]; rfl, h⟩
  · exact .inr ⟨by rw [h]; rfl, h⟩
theorem od_add (x y : Int) : od (x + y) = xor (od x) (od y) := by
  rcases od_cases x with ⟨h1, h2⟩ | ⟨h1, h2⟩ <;> rcases od_cases y with ⟨g1, g2⟩ | ⟨g1, g2⟩ <;> rcases od_cases (x + y) with ⟨k1, k2⟩ | ⟨k1, k2⟩ <;> rw [h1, g1, k1] <;> first | rfl | omega
theorem od_sub (x y : Int) : od (x - y) = xor (od x) (od y) := by
  rcases od_cases x with ⟨h1, h2⟩ | ⟨h1, h2⟩ <;> rcases od_cases y with ⟨g1, g2⟩ | ⟨g1, g2⟩ <;> rcases od_cases (x - y) with ⟨k1, k2⟩ | ⟨k1, k2⟩ <;> rw [h1, g1, k1] <;> first | rfl | omega
theorem od_mul (x y : Int) : od (x * y) = (od x && od y) := by
  have h := Int.mul_emod x y 2
  rcases od_cases x with ⟨h1, h2⟩ | ⟨h1, h2⟩ <;> rcases od_cases y with ⟨g1, g2⟩ | ⟨g1, g2⟩ <;> rcases od_cases (x * y) with ⟨k1, k2⟩ | ⟨k1, k2⟩ <;> rw [h2, g2] at h <;> rw [h1, g1, k1] <;> first | rfl | omega
theorem od_one : od 1 = true := rfl
theorem od_even {x : Int} (h : (2 : Int) ∣ x) : od x = false := by
  rcases od_cases x with ⟨h1, h2⟩ | ⟨h1, h2⟩
  · omega
  · exact h1
theorem od_eq {x y : Int} (h : od x = od y) : x % 2 = y % 2 := by
  rcases od_cases x with ⟨h1, h2⟩ | ⟨h1, h2⟩ <;> rcases od_cases y with ⟨g1, g2⟩ | ⟨g1, g2⟩ <;> rw [h1, g1] at h <;> first | omega | cases h
theorem bits1 : ∀ a b c p q x z : Bool, (b && c) = false → xor (p && z) (q && x) = true →
    xor (xor true (q && c)) (xor c true && xor (xor a b) (a && b)) = (!(xor (p && b) (q && a)) && !(q && c) && (xor (xor (xor (x && b) (z && a)) true) (q && c) || (z && c))) := by decide
theorem bits2 : ∀ g w a' u v i j k l : Bool, xor (u && i) (v && j) = true → w = xor (i && l) (j && k) → (g = false → w = false → a' = xor (u && k) (v && l)) →
    (xor g true && xor (xor a' w) (a' && w)) = (!(g && i) && !(g && j) && (k || l)) := by decide
theorem dist3 (g i j K L : Int) : g * (i * L - j * K) = g * i * L - g * j * K := by grind
theorem det_eq (p b q a z c x e : Int) : (p * b + q * a) * (z * c) - q * c * (x * b + z * a + e + q * c) = c * (b * (p * z - q * x) - q * e - q * q * c) := by grind
theorem keepG {a b c e p q a' w g e' : Int} (hm : meas4 b c e % 8 = 1) (hg : g ≠ 0) (h : IsDone a b c e p q a' w g e') : par a' w g e' = par a b c e := by
  obtain ⟨u, v, x, z, f1, f2, f3⟩ := h.ex
  have hgc := h.gc
  have d1 : g ∣ p * b + q * a := by rw [hgc]; exact Int.gcd_dvd_left ..
  have d2 : g ∣ q * c := by rw [hgc]; exact Int.gcd_dvd_right ..
  obtain ⟨i, hi⟩ := d1
  obtain ⟨j, hj⟩ := d2
  have me : e * e + 4 * (b * c) = meas4 b c e := by unfold meas4; grind
  have ho : od e = true := by
    rcases od_cases e with ⟨h1, h2⟩ | ⟨h1, h2⟩
    · exact h1
    · obtain ⟨t, ht⟩ : ∃ t, e = 2 * t := ⟨e / 2, by omega⟩
      have : e * e = 2 * (2 * (t * t)) := by rw [ht]; grind
      omega
  obtain ⟨t, ht⟩ : ∃ t, e = 2 * t + 1 := by
    rcases od_cases e with ⟨h1, h2⟩ | ⟨h1, h2⟩
    · exact ⟨e / 2, by omega⟩
    · rw [ho] at h1; cases h1
  have hbc : (od b && od c) = false := by
    rw [← od_mul]
    rcases od_cases (b * c) with ⟨h1, h2⟩ | ⟨h1, h2⟩
    · exfalso
      obtain ⟨s, hs⟩ : ∃ s, t * (t + 1) = 2 * s := by
        rcases (by omega : t % 2 = 0 ∨ t % 2 = 1) with z | z
        · exact ⟨t / 2 * (t + 1), by rw [← Int.mul_assoc, show 2 * (t / 2) = t by omega]⟩
        · exact ⟨t * ((t + 1) / 2), by rw [← Int.mul_assoc, Int.mul_comm 2 t, Int.mul_assoc, show 2 * ((t + 1) / 2) = t + 1 by omega]⟩
      have : e * e = 8 * s + 1 := by
        have : e * e = 4 * (t * (t + 1)) + 1 := by rw [ht]; grind
        omega
      omega
    · exact h1
  have e1 : xor (od p && od z) (od q && od x) = true := by rw [← od_mul, ← od_mul, ← od_sub, f1]; rfl
  have e2 : u * i + v * j = 1 := by
    have : g * (u * i + v * j) = g * 1 := by
      have : g * (u * i + v * j) = u * (g * i) + v * (g * j) := by grind
      rw [this, ← hi, ← hj, f2, Int.mul_one]
    exact Int.eq_of_mul_eq_mul_left hg this
  have e3 : w = i * (z * c) - j * (x * b + z * a + e + q * c) := by
    have h2 := det_eq p b q a z c x e
    rw [f1, Int.mul_one, ← h.wi] at h2
    have h3 : g * (i * (z * c) - j * (x * b + z * a + e + q * c)) = g * w := by
      rw [dist3, ← hi, ← hj, h2, Int.mul_comm]
    exact (Int.eq_of_mul_eq_mul_left hg h3).symm
  have b1 := bits1 (od a) (od b) (od c) (od p) (od q) (od x) (od z) hbc e1
  have b2 := bits2 (od g) (od w) (od a') (od u) (od v) (od i) (od j) (od (x * b + z * a + e + q * c)) (od (z * c)) (by rw [← od_mul, ← od_mul, ← od_add, e2]; rfl) (by rw [e3, od_sub, od_mul i, od_mul j]) (fun hg0 hw0 => by
    have hd : (2 : Int) ∣ (Int.gcd w g : Int) := by
      refine Int.dvd_coe_gcd ?_ ?_
      · rcases od_cases w with ⟨h1, h2⟩ | ⟨h1, h2⟩
        · rw [hw0] at h1; cases h1
        · omega
      · rcases od_cases g with ⟨h1, h2⟩ | ⟨h1, h2⟩
        · rw [hg0] at h1; cases h1
        · omega
    have := od_even (Int.dvd_trans hd f3)
    rw [od_add, od_add, od_mul u, od_mul v] at this
    revert this
    generalize od a' = A
    generalize (od u && od (x * b + z * a + e + q * c)) = B
    generalize (od v && od (z * c)) = C
    revert A B C
    decide)
  have ok : od (x * b + z * a + e + q * c) = xor (xor (xor (od x && od b) (od z && od a)) true) (od q && od c) := by rw [od_add, od_add, od_add, od_mul, od_mul, od_mul, ho]
  have oI : (od p && od b ^^ od q && od a) = (od g && od i) := by rw [← od_mul, ← od_mul, ← od_add, hi, od_mul]
  have oJ : (od q && od c) = (od g && od j) := by rw [← od_mul, hj, od_mul]
  rw [← ok, ← od_mul z c, oI, oJ, ← b2] at b1
  have fin : od (1 + q * c + (c + 1) * (a + b + a * b)) = od ((g + 1) * (a' + w + a' * w)) := by
    rw [od_add, od_add, od_mul (c + 1), od_add c, od_add (a + b), od_add a, od_mul a b, od_mul (g + 1), od_add g, od_add (a' + w), od_add a', od_mul a' w, od_mul q c, oJ, od_one]
    exact b1
  have fin2 := od_eq fin
  unfold par
  rw [h.tu, ht]
  generalize (c + 1) * (a + b + a * b) = A at *
  generalize (g + 1) * (a' + w + a' * w) = A' at *
  rw [show 2 * q * c = 2 * (q * c) by rw [Int.mul_assoc]]
  generalize q * c = B at *
  omega
end DL
namespace DL
open PySem PySem.Spec PyProof.Rows L2
local macro_rules | `(tactic| walk_at "rd") => `(tactic| simp only [startD, List.map, List.replicate, List.length_cons, List.length_nil, List.append_eq, List.append_nil, List.nil_append, List.cons_append, Nat.reduceSub, Nat.reduceAdd, List.getElem?_cons_zero, List.getElem?_cons_succ, List.set_cons_zero, List.set_cons_succ,
  dC, dVar, dOp, dTru, gTru, tru, dChain, dAnd, dOr, dNot, dAndV, dOrV, dNotV, dIf, dNeg, gNeg, dNil, dCons, dTup, dLst, dOwn, gIx, rBin, gAdd, gCmpI, dCall, dCallK, dSeq, dNext, dDrop, dRet, dRetN, dIfS, dName, dGNil, dGCons, dGTup, dSub, gSetL, dAsg, dPar, dPar3, dAug, gIpI, dSeqI, gSeqI, dRngI, gRng1, gRng2, dCB, gAbs, gInt, gMax, gMin, gGcd, gLen, lenD, gIsi, tyM, tyD, dBits, gBits, dMet, gAppend, dPart, dNoPart, dSl, gSl_tup, gSl_lst, cut_1, dEnds, gIs, isB, dNever, dFor, dLc, wipeD, dYes,
  sizeLine_eq, Nat.reduceLeDiff, gEq_int, gNe_int, gEq_strs, gNe_strs, gIn_two, gRepr_bl, rs_lst, rs_tup, rs_scr, rs_int, atI_0, atI_1, atI_2, atI_3, atI_4, atI_5, ixN_30, ixN_31, ixN_32, gEq_bl, gNe_bl, decide_eq_true_eq, beq_iff_eq, Bool.not_eq_true', beq_eq_false_iff_ne, decide_eq_false_iff_not, Bool.not_true, Bool.not_false, if_true, if_false, Bool.false_eq_true, ite_true, ite_false, true_and, and_true, ne_eq, Bool.bne_false, Bool.bne_true, reduceCtorEq])
local macro_rules | `(tactic| walk_at "rh") => `(tactic| simp only [*, startD, List.map, List.replicate, List.length_cons, List.length_nil, List.append_eq, List.append_nil, List.nil_append, List.cons_append, Nat.reduceSub, Nat.reduceAdd, List.getElem?_cons_zero, List.getElem?_cons_succ, List.set_cons_zero, List.set_cons_succ,
  dC, dVar, dOp, dTru, gTru, tru, dChain, dAnd, dOr, dNot, dAndV, dOrV, dNotV, dIf, dNeg, gNeg, dNil, dCons, dTup, dLst, dOwn, gIx, rBin, gAdd, gCmpI, dCall, dCallK, dSeq, dNext, dDrop, dRet, dRetN, dIfS, dName, dGNil, dGCons, dGTup, dSub, gSetL, dAsg, dPar, dPar3, dAug, gIpI, dSeqI, gSeqI, dRngI, gRng1, gRng2, dCB, gAbs, gInt, gMax, gMin, gGcd, gLen, lenD, gIsi, tyM, tyD, dBits, gBits, dMet, gAppend, dPart, dNoPart, dSl, gSl_tup, gSl_lst, cut_1, dEnds, gIs, isB, dNever, dFor, dLc, wipeD, dYes,
  sizeLine_eq, Nat.reduceLeDiff, gEq_int, gNe_int, gEq_strs, gNe_strs, gIn_two, gRepr_bl, rs_lst, rs_tup, rs_scr, rs_int, atI_0, atI_1, atI_2, atI_3, atI_4, atI_5, ixN_30, ixN_31, ixN_32, gEq_bl, gNe_bl, decide_eq_true_eq, beq_iff_eq, Bool.not_eq_true', beq_eq_false_iff_ne, decide_eq_false_iff_not, Bool.not_true, Bool.not_false, if_true, if_false, Bool.false_eq_true, ite_true, ite_false, true_and, and_true, ne_eq, Bool.bne_false, Bool.bne_true, reduceCtorEq])
local macro_rules | `(tactic| walk_at "kb") => `(tactic| simp only [kb_NoneType_list, kb_bool_list, kb_int_list, kb_str_list, kb_tuple_list, kb_list_list, kb_dict_list, kb_NoneType_int, kb_bool_int, kb_int_int, kb_str_int, kb_tuple_int, kb_list_int, kb_dict_int, kb_NoneType_bool, kb_bool_bool, kb_int_bool, kb_str_bool, kb_tuple_bool, kb_list_bool, kb_dict_bool, kb_NoneType_tuple, kb_bool_tuple, kb_int_tuple, kb_str_tuple, kb_tuple_tuple, kb_list_tuple, kb_dict_tuple, if_true, if_false, Bool.false_eq_true, ite_true, ite_false, Bool.not_true, Bool.not_false])
/-! ### the sides of cuttings -/
/-! ### what the first numbers may be -/
/-! ### all turns -/
structure TurnsOK (m : Int) (l : List Int) : Prop where
  nd : l.Nodup
  bd : ∀ e ∈ l, -128 ≤ e ∧ e ≤ 128
  all : ∀ e : Int, e * e < m → (m - e) % 2 = 0 → e ∈ l
  len : l.length ≤ 260
theorem CovX.start {m : Int} {T : List Int} : CovX m [] fun _ e' => e' ∈ T.take 0 := CovX.nil fun a b c e _ _ h => by rw [List.take_zero] at h; cases h
theorem CovX.all {m : Int} {l : List (List Int)} {T : List Int} (h : CovX m l fun _ e' => e' ∈ T) (hT : TurnsOK m T) : CovX m l fun _ _ => True :=
  h.iff fun a b c e h1 h2 => ⟨fun _ => by
    obtain ⟨k1, k2, _⟩ := cut_parts h1
    have h3 := meas_bc.mp h2
    have h4 : 1 * 1 ≤ b * c := Int.mul_le_mul k1 k2 (by decide) (by omega)
    have h5 : (e - m) % 2 = 0 := by rw [← h2]; exact meas_par (a := a)
    exact hT.all e (by omega) (by omega), fun _ => trivial⟩
theorem CovX.len {m : Int} {l l' : List (List Int)} (h : CovX m l fun _ _ => True) (g : AllC m l') : l'.length = l.length := by
  refine ((List.perm_ext_iff_of_nodup g.nd h.1).mpr fun x => ?_).length_eq
  rw [g.mem, h.2]
  constructor
  · rintro ⟨a, b, c, e, rfl, h1, h2⟩; exact ⟨a, b, c, e, rfl, h1, h2, trivial⟩
  · rintro ⟨a, b, c, e, rfl, h1, h2, _⟩; exact ⟨a, b, c, e, rfl, h1, h2⟩
/-! ### how many cuttings there are -/
def gsum (W : Nat) : Nat → Nat
  | 0 => 0
  | n + 1 => gsum W n + (if W % (n + 1) = 0 then Nat.gcd (W / (n + 1)) (n + 1) else 0)
def tabN : Nat := 3808836514476480436425501566823650268381887298884600820298512126455273805132299371174516136177247938090408811056691465430970770228047249330072752050607840890087987793927295198210465302567318670989203472358977994843484747945642100194258166892916909424533025696478937806321533572045990426853861620300979684732957885855172749248035204600828542852706620982344324869505590755770404546748763858518759734205825228907452414923237620399712555260983892516163810739786695366875762930745420660309800851222364410905920515135684987405529420938224450128417742141005739864169931510145102595131282382208292840601585914836922858253677215261340497155162916337687046218286942865496291425734279591150588307468831564621585153189962766165082969256518495644343806884153471315702704813923323010719705328188422459668714766086924238353224111798521134400326871809312846980976015613739334962689631930271787315771620932441438290566054144
def tabW (W : Nat) : Nat := tabN / 2 ^ (8 * W) % 256
def bndM (m : Nat) : Nat → Nat
  | 0 => 0
  | d + 1 => bndM m d + (if d * d < m ∧ (m - d * d) % 4 = 0 then 2 * tabW ((m - d * d) / 4) else 0)
theorem tab_ok : ∀ W, W < 377 → gsum W W ≤ tabW W := by decide +kernel
theorem bnd_ok : ∀ m, m < 1506 → bndM m 39 ≤ 900 := by decide +kernel
def withN (e : Int) (W : Nat) : Nat → List (List Int)
  | 0 => []
  | n + 1 => withN e W n ++ (if W % (n + 1) = 0 then lowsL (Nat.gcd (W / (n + 1)) (n + 1)) ((W / (n + 1) : Nat) : Int) ((n + 1 : Nat) : Int) e else [])
theorem withN_len {e : Int} {W : Nat} : ∀ n, (withN e W n).length ≤ gsum W n
  | 0 => Nat.le_refl _
  | n + 1 => by
    unfold withN gsum
    rw [List.length_append]
    have := withN_len (e := e) (W := W) n
    by_cases h : W % (n + 1) = 0
    · rw [if_pos h, if_pos h]
      have := lowsL_len (n := Nat.gcd (W / (n + 1)) (n + 1)) (b := ((W / (n + 1) : Nat) : Int)) (c := ((n + 1 : Nat) : Int)) (e := e)
      omega
    · rw [if_neg h, if_neg h]
      simpa using this
theorem withN_cov {m e : Int} {W : Nat} (hw : 4 * (W : Int) = m - e * e) : ∀ n, CovX m (withN e W n) fun c' e' => c' < 1 + (n : Int) ∧ e' = e
  | 0 => CovX.nil fun a b c e' h1 h2 h3 => by
    have := (cut_parts h1).2.1
    omega
  | n + 1 => by
    unfold withN
    have ih := withN_cov hw n
    have hnext : ∀ c' : Int, c' < 1 + ((n + 1 : Nat) : Int) ↔ c' < 1 + (n : Int) ∨ c' = ((n + 1 : Nat) : Int) := fun c' => by omega
    have fin : ∀ l2, CovX m l2 (fun c' e' => c' = ((n + 1 : Nat) : Int) ∧ e' = e) → CovX m (withN e W n ++ l2) fun c' e' => c' < 1 + ((n + 1 : Nat) : Int) ∧ e' = e := fun l2 h2 => by
      refine (ih.app h2 fun c' e' h3 h4 => by omega).iff fun a b' c' e' _ _ => ?_
      rw [hnext]
      constructor
      · rintro ⟨h3 | h3, h4⟩
        · exact .inl ⟨h3, h4⟩
        · exact .inr ⟨h3, h4⟩
      · rintro (⟨h3, h4⟩ | ⟨h3, h4⟩)
        · exact ⟨.inl h3, h4⟩
        · exact ⟨.inr h3, h4⟩
    by_cases h : W % (n + 1) = 0
    · rw [if_pos h]
      refine fin _ ?_
      have hb : ((W / (n + 1) : Nat) : Int) * ((n + 1 : Nat) : Int) = (W : Int) := by
        rw [← Int.natCast_mul, Nat.div_mul_cancel (Nat.dvd_of_mod_eq_zero h)]
      have := lows_covX (b := ((W / (n + 1) : Nat) : Int)) (c := ((n + 1 : Nat) : Int)) (by omega) hw hb
      rw [Int.gcd_natCast_natCast] at this
      exact this
    · rw [if_neg h]
      refine fin _ (lows_noneX hw fun z => h ?_)
      have : ((W % (n + 1) : Nat) : Int) = 0 := by rw [← z]; rfl
      omega
def withE (m e : Int) : List (List Int) := if e * e < m ∧ (m - e * e) % 4 = 0 then withN e ((m - e * e) / 4).toNat ((m - e * e) / 4).toNat else []
theorem withE_cov {m e : Int} : CovX m (withE m e) fun _ e' => e' = e := by
  unfold withE
  by_cases h : e * e < m ∧ (m - e * e) % 4 = 0
  · rw [if_pos h]
    have hw : 4 * ((((m - e * e) / 4).toNat : Nat) : Int) = m - e * e := by omega
    refine (withN_cov hw _).iff fun a b c e' h1 h2 => ⟨fun h3 => ⟨?_, h3⟩, fun h3 => h3.2⟩
    have h6 := meas_bc.mp h2
    obtain ⟨g1, g2, _⟩ := cut_parts h1
    have : 1 * c ≤ b * c := Int.mul_le_mul_of_nonneg_right g1 (by omega)
    rw [h3] at h6
    omega
  · rw [if_neg h]
    refine CovX.nil fun a b c e' h1 h2 h3 => h ?_
    have h6 := meas_bc.mp h2
    obtain ⟨g1, g2, _⟩ := cut_parts h1
    have : 1 * 1 ≤ b * c := Int.mul_le_mul g1 g2 (by decide) (by omega)
    rw [h3] at h6
    omega
def cutsD (m : Int) : Nat → List (List Int)
  | 0 => []
  | d + 1 => (cutsD m d ++ withE m (d : Int)) ++ (if d = 0 then [] else withE m (-(d : Int)))
theorem cutsD_cov {m : Int} : ∀ d, CovX m (cutsD m d) fun _ e => -(d : Int) < e ∧ e < (d : Int)
  | 0 => CovX.nil fun a b c e h1 h2 h3 => by omega
  | d + 1 => by
    unfold cutsD
    have ih := cutsD_cov (m := m) d
    have h1 := ih.app (withE_cov (m := m) (e := (d : Int))) fun c e h3 h4 => by omega
    by_cases z : d = 0
    · rw [if_pos z, List.append_nil]
      exact h1.iff fun a b c e _ _ => by omega
    · rw [if_neg z]
      exact (h1.app (withE_cov (m := m) (e := -(d : Int))) fun c e h3 h4 => by omega).iff fun a b c e _ _ => by omega
theorem withE_len {m : Nat} {e : Int} {d : Nat} (he : e * e = ((d * d : Nat) : Int)) (hm : m < 1506) : (withE m e).length ≤ if d * d < m ∧ (m - d * d) % 4 = 0 then tabW ((m - d * d) / 4) else 0 := by
  unfold withE
  rw [he]
  by_cases h : d * d < m ∧ (m - d * d) % 4 = 0
  · rw [if_pos h, if_pos (by omega)]
    have e1 : (((m : Int) - ((d * d : Nat) : Int)) / 4).toNat = (m - d * d) / 4 := by omega
    rw [e1]
    exact Nat.le_trans (withN_len _) (tab_ok _ (by omega))
  · rw [if_neg h, if_neg (by omega)]
    exact Nat.le_refl _
theorem cutsD_len {m : Nat} (hm : m < 1506) : ∀ d, (cutsD m d).length ≤ bndM m d
  | 0 => Nat.le_refl _
  | d + 1 => by
    unfold cutsD bndM
    rw [List.length_append, List.length_append]
    have ih := cutsD_len hm d
    have h1 := withE_len (m := m) (e := (d : Int)) (d := d) rfl hm
    have h2 := withE_len (m := m) (e := -(d : Int)) (d := d) (by rw [Int.neg_mul_neg]; rfl) hm
    by_cases h : d * d < m ∧ (m - d * d) % 4 = 0
    · rw [if_pos h] at h1 h2 ⊢
      split <;> (try simp only [List.length_nil]) <;> omega
    · rw [if_neg h] at h1 h2 ⊢
      split <;> (try simp only [List.length_nil]) <;> omega
theorem cov_all {m : Int} {l : List (List Int)} {D : Nat} (h : CovX m l fun _ e => -(D : Int) < e ∧ e < (D : Int)) (hD : m < (D : Int) * D) : CovX m l fun _ _ => True :=
  h.iff fun a b c e h1 h2 => ⟨fun _ => by
    obtain ⟨k1, k2, _⟩ := cut_parts h1
    have h3 := meas_bc.mp h2
    have h4 : 1 * 1 ≤ b * c := Int.mul_le_mul k1 k2 (by decide) (by omega)
    constructor
    · by_cases z : -(D : Int) < e
      · exact z
      · have : (D : Int) * D ≤ (-e) * (-e) := Int.mul_le_mul (by omega) (by omega) (by omega) (by omega)
        rw [Int.neg_mul_neg] at this
        omega
    · by_cases z : e < (D : Int)
      · exact z
      · have : (D : Int) * D ≤ e * e := Int.mul_le_mul (by omega) (by omega) (by omega) (by omega)
        omega, fun _ => trivial⟩
theorem CovX.same {m : Int} {l l' : List (List Int)} {P : Int → Int → Prop} (h : CovX m l P) (g : CovX m l' P) : l.length = l'.length :=
  ((List.perm_ext_iff_of_nodup h.1 g.1).mpr fun x => (h.2 x).trans (g.2 x).symm).length_eq
theorem cov_small {m : Int} {l : List (List Int)} (h : CovX m l fun _ _ => True) (h0 : 0 ≤ m) (hm : m ≤ 1505) : l.length ≤ 900 := by
  obtain ⟨k, rfl⟩ := Int.eq_ofNat_of_zero_le h0
  rw [h.same (cov_all (cutsD_cov (m := (k : Int)) 39) (by omega))]
  exact Nat.le_trans (cutsD_len (by omega) 39) (bnd_ok k (by omega))
end DL
/-! MI: how many cuttings have a told last number; plain -/
namespace DL
end DL
namespace DL
open PySem PySem.Spec PyProof.Rows L2
local macro_rules | `(tactic| walk_at "rd") => `(tactic| simp only [startD, List.map, List.replicate, List.length_cons, List.length_nil, List.append_eq, List.append_nil, List.nil_append, List.cons_append, Nat.reduceSub, Nat.reduceAdd, List.getElem?_cons_zero, List.getElem?_cons_succ, List.set_cons_zero, List.set_cons_succ,
  dC, dVar, dOp, dTru, gTru, tru, dChain, dAnd, dOr, dNot, dAndV, dOrV, dNotV, dIf, dNeg, gNeg, dNil, dCons, dTup, dLst, dOwn, gIx, rBin, gAdd, gCmpI, dCall, dCallK, dSeq, dNext, dDrop, dRet, dRetN, dIfS, dName, dGNil, dGCons, dGTup, dSub, gSetL, dAsg, dPar, dPar3, dAug, gIpI, dSeqI, gSeqI, dRngI, gRng1, gRng2, dCB, gAbs, gInt, gMax, gMin, gGcd, gLen, lenD, gIsi, tyM, tyD, dBits, gBits, dMet, gAppend, dPart, dNoPart, dSl, gSl_tup, gSl_lst, cut_1, dEnds, gIs, isB, dNever, dFor, dLc, wipeD, dYes,
  sizeLine_eq, Nat.reduceLeDiff, gEq_int, gNe_int, gEq_strs, gNe_strs, gIn_two, gRepr_bl, rs_lst, rs_tup, rs_scr, rs_int, atI_0, atI_1, atI_2, atI_3, atI_4, atI_5, ixN_30, ixN_31, ixN_32, gEq_bl, gNe_bl, decide_eq_true_eq, beq_iff_eq, Bool.not_eq_true', beq_eq_false_iff_ne, decide_eq_false_iff_not, Bool.not_true, Bool.not_false, if_true, if_false, Bool.false_eq_true, ite_true, ite_false, true_and, and_true, ne_eq, Bool.bne_false, Bool.bne_true, reduceCtorEq])
local macro_rules | `(tactic| walk_at "rh") => `(tactic| simp only [*, startD, List.map, List.replicate, List.length_cons, List.length_nil, List.append_eq, List.append_nil, List.nil_append, List.cons_append, Nat.reduceSub, Nat.reduceAdd, List.getElem?_cons_zero, List.getElem?_cons_succ, List.set_cons_zero, List.set_cons_succ,
  dC, dVar, dOp, dTru, gTru, tru, dChain, dAnd, dOr, dNot, dAndV, dOrV, dNotV, dIf, dNeg, gNeg, dNil, dCons, dTup, dLst, dOwn, gIx, rBin, gAdd, gCmpI, dCall, dCallK, dSeq, dNext, dDrop, dRet, dRetN, dIfS, dName, dGNil, dGCons, dGTup, dSub, gSetL, dAsg, dPar, dPar3, dAug, gIpI, dSeqI, gSeqI, dRngI, gRng1, gRng2, dCB, gAbs, gInt, gMax, gMin, gGcd, gLen, lenD, gIsi, tyM, tyD, dBits, gBits, dMet, gAppend, dPart, dNoPart, dSl, gSl_tup, gSl_lst, cut_1, dEnds, gIs, isB, dNever, dFor, dLc, wipeD, dYes,
  sizeLine_eq, Nat.reduceLeDiff, gEq_int, gNe_int, gEq_strs, gNe_strs, gIn_two, gRepr_bl, rs_lst, rs_tup, rs_scr, rs_int, atI_0, atI_1, atI_2, atI_3, atI_4, atI_5, ixN_30, ixN_31, ixN_32, gEq_bl, gNe_bl, decide_eq_true_eq, beq_iff_eq, Bool.not_eq_true', beq_eq_false_iff_ne, decide_eq_false_iff_not, Bool.not_true, Bool.not_false, if_true, if_false, Bool.false_eq_true, ite_true, ite_false, true_and, and_true, ne_eq, Bool.bne_false, Bool.bne_true, reduceCtorEq])
local macro_rules | `(tactic| walk_at "kb") => `(tactic| simp only [kb_NoneType_list, kb_bool_list, kb_int_list, kb_str_list, kb_tuple_list, kb_list_list, kb_dict_list, kb_NoneType_int, kb_bool_int, kb_int_int, kb_str_int, kb_tuple_int, kb_list_int, kb_dict_int, kb_NoneType_bool, kb_bool_bool, kb_int_bool, kb_str_bool, kb_tuple_bool, kb_list_bool, kb_dict_bool, kb_NoneType_tuple, kb_bool_tuple, kb_int_tuple, kb_str_tuple, kb_tuple_tuple, kb_list_tuple, kb_dict_tuple, if_true, if_false, Bool.false_eq_true, ite_true, ite_false, Bool.not_true, Bool.not_false])
end DL
namespace DL
open PySem PySem.Spec PyProof.Rows L2
local macro_rules | `(tactic| walk_at "rd") => `(tactic| simp only [startD, List.map, List.replicate, List.length_cons, List.length_nil, List.append_eq, List.append_nil, List.nil_append, List.cons_append, Nat.reduceSub, Nat.reduceAdd, List.getElem?_cons_zero, List.getElem?_cons_succ, List.set_cons_zero, List.set_cons_succ,
  dC, dVar, dOp, dTru, gTru, tru, dChain, dAnd, dOr, dNot, dAndV, dOrV, dNotV, dIf, dNeg, gNeg, dNil, dCons, dTup, dLst, dOwn, gIx, rBin, gAdd, gCmpI, dCall, dCallK, dSeq, dNext, dDrop, dRet, dRetN, dIfS, dName, dGNil, dGCons, dGTup, dSub, gSetL, dAsg, dPar, dPar3, dAug, gIpI, dSeqI, gSeqI, dRngI, gRng1, gRng2, dCB, gAbs, gInt, gMax, gMin, gGcd, gLen, lenD, gIsi, tyM, tyD, dBits, gBits, dMet, gAppend, dPart, dNoPart, dSl, gSl_tup, gSl_lst, cut_1, dEnds, gIs, isB, dNever, dCallX, dRaise, dTry, dFld, dCallV, gLRng, gFrz, dFrz, dFor, dLc, wipeD, dYes,
  sizeLine_eq, Nat.reduceLeDiff, gEq_int, gNe_int, gEq_strs, gNe_strs, gIn_two, gRepr_bl, rs_lst, rs_tup, rs_scr, rs_int, atI_0, atI_1, atI_2, atI_3, atI_4, atI_5, ixN_30, ixN_31, ixN_32, gEq_bl, gNe_bl, decide_eq_true_eq, beq_iff_eq, Bool.not_eq_true', beq_eq_false_iff_ne, decide_eq_false_iff_not, Bool.not_true, Bool.not_false, if_true, if_false, Bool.false_eq_true, ite_true, ite_false, true_and, and_true, ne_eq, Bool.bne_false, Bool.bne_true, reduceCtorEq])
local macro_rules | `(tactic| walk_at "rh") => `(tactic| simp only [*, startD, List.map, List.replicate, List.length_cons, List.length_nil, List.append_eq, List.append_nil, List.nil_append, List.cons_append, Nat.reduceSub, Nat.reduceAdd, List.getElem?_cons_zero, List.getElem?_cons_succ, List.set_cons_zero, List.set_cons_succ,
  dC, dVar, dOp, dTru, gTru, tru, dChain, dAnd, dOr, dNot, dAndV, dOrV, dNotV, dIf, dNeg, gNeg, dNil, dCons, dTup, dLst, dOwn, gIx, rBin, gAdd, gCmpI, dCall, dCallK, dSeq, dNext, dDrop, dRet, dRetN, dIfS, dName, dGNil, dGCons, dGTup, dSub, gSetL, dAsg, dPar, dPar3, dAug, gIpI, dSeqI, gSeqI, dRngI, gRng1, gRng2, dCB, gAbs, gInt, gMax, gMin, gGcd, gLen, lenD, gIsi, tyM, tyD, dBits, gBits, dMet, gAppend, dPart, dNoPart, dSl, gSl_tup, gSl_lst, cut_1, dEnds, gIs, isB, dNever, dCallX, dRaise, dTry, dFld, dCallV, gLRng, gFrz, dFrz, dFor, dLc, wipeD, dYes,
  sizeLine_eq, Nat.reduceLeDiff, gEq_int, gNe_int, gEq_strs, gNe_strs, gIn_two, gRepr_bl, rs_lst, rs_tup, rs_scr, rs_int, atI_0, atI_1, atI_2, atI_3, atI_4, atI_5, ixN_30, ixN_31, ixN_32, gEq_bl, gNe_bl, decide_eq_true_eq, beq_iff_eq, Bool.not_eq_true', beq_eq_false_iff_ne, decide_eq_false_iff_not, Bool.not_true, Bool.not_false, if_true, if_false, Bool.false_eq_true, ite_true, ite_false, true_and, and_true, ne_eq, Bool.bne_false, Bool.bne_true, reduceCtorEq])
local macro_rules | `(tactic| walk_at "kb") => `(tactic| simp only [kb_NoneType_list, kb_bool_list, kb_int_list, kb_str_list, kb_tuple_list, kb_list_list, kb_dict_list, kb_NoneType_int, kb_bool_int, kb_int_int, kb_str_int, kb_tuple_int, kb_list_int, kb_dict_int, kb_NoneType_bool, kb_bool_bool, kb_int_bool, kb_str_bool, kb_tuple_bool, kb_list_bool, kb_dict_bool, kb_NoneType_tuple, kb_bool_tuple, kb_int_tuple, kb_str_tuple, kb_tuple_tuple, kb_list_tuple, kb_dict_tuple, if_true, if_false, Bool.false_eq_true, ite_true, ite_false, Bool.not_true, Bool.not_false])
/-! RdZ: the checks with their errors -/
/-! ### the heart's numbers -/
/-! ### the heart's functions -/
end DL
namespace DL
open PySem PySem.Spec PyProof.Rows L2
local macro_rules | `(tactic| walk_at "rd") => `(tactic| simp only [startD, List.map, List.replicate, List.length_cons, List.length_nil, List.append_eq, List.append_nil, List.nil_append, List.cons_append, Nat.reduceSub, Nat.reduceAdd, List.getElem?_cons_zero, List.getElem?_cons_succ, List.set_cons_zero, List.set_cons_succ,
  dC, dVar, dOp, dTru, gTru, tru, dChain, dAnd, dOr, dNot, dAndV, dOrV, dNotV, dIf, dNeg, gNeg, dNil, dCons, dTup, dLst, dOwn, gIx, rBin, gAdd, gCmpI, dCall, dCallK, dSeq, dNext, dDrop, dRet, dRetN, dIfS, dName, dGNil, dGCons, dGTup, dSub, gSetL, dAsg, dPar, dPar3, dAug, gIpI, dSeqI, gSeqI, dRngI, gRng1, gRng2, dCB, gAbs, gInt, gMax, gMin, gGcd, gLen, lenD, gIsi, tyM, tyD, dBits, gBits, dMet, gAppend, dPart, dNoPart, dSl, gSl_tup, gSl_lst, cut_1, dEnds, gIs, isB, dNever, dCallX, dRaise, dTry, dFld, dCallV, gLRng, gFrz, dFrz, dFor, dLc, wipeD, dYes,
  sizeLine_eq, Nat.reduceLeDiff, gEq_int, gNe_int, gEq_strs, gNe_strs, gIn_two, gRepr_bl, rs_lst, rs_tup, rs_scr, rs_int, atI_0, atI_1, atI_2, atI_3, atI_4, atI_5, ixN_30, ixN_31, ixN_32, gEq_bl, gNe_bl, decide_eq_true_eq, beq_iff_eq, Bool.not_eq_true', beq_eq_false_iff_ne, decide_eq_false_iff_not, Bool.not_true, Bool.not_false, if_true, if_false, Bool.false_eq_true, ite_true, ite_false, true_and, and_true, ne_eq, Bool.bne_false, Bool.bne_true, reduceCtorEq])
local macro_rules | `(tactic| walk_at "rh") => `(tactic| simp only [*, startD, List.map, List.replicate, List.length_cons, List.length_nil, List.append_eq, List.append_nil, List.nil_append, List.cons_append, Nat.reduceSub, Nat.reduceAdd, List.getElem?_cons_zero, List.getElem?_cons_succ, List.set_cons_zero, List.set_cons_succ,
  dC, dVar, dOp, dTru, gTru, tru, dChain, dAnd, dOr, dNot, dAndV, dOrV, dNotV, dIf, dNeg, gNeg, dNil, dCons, dTup, dLst, dOwn, gIx, rBin, gAdd, gCmpI, dCall, dCallK, dSeq, dNext, dDrop, dRet, dRetN, dIfS, dName, dGNil, dGCons, dGTup, dSub, gSetL, dAsg, dPar, dPar3, dAug, gIpI, dSeqI, gSeqI, dRngI, gRng1, gRng2, dCB, gAbs, gInt, gMax, gMin, gGcd, gLen, lenD, gIsi, tyM, tyD, dBits, gBits, dMet, gAppend, dPart, dNoPart, dSl, gSl_tup, gSl_lst, cut_1, dEnds, gIs, isB, dNever, dCallX, dRaise, dTry, dFld, dCallV, gLRng, gFrz, dFrz, dFor, dLc, wipeD, dYes,
  sizeLine_eq, Nat.reduceLeDiff, gEq_int, gNe_int, gEq_strs, gNe_strs, gIn_two, gRepr_bl, rs_lst, rs_tup, rs_scr, rs_int, atI_0, atI_1, atI_2, atI_3, atI_4, atI_5, ixN_30, ixN_31, ixN_32, gEq_bl, gNe_bl, decide_eq_true_eq, beq_iff_eq, Bool.not_eq_true', beq_eq_false_iff_ne, decide_eq_false_iff_not, Bool.not_true, Bool.not_false, if_true, if_false, Bool.false_eq_true, ite_true, ite_false, true_and, and_true, ne_eq, Bool.bne_false, Bool.bne_true, reduceCtorEq])
local macro_rules | `(tactic| walk_at "kb") => `(tactic| simp only [kb_NoneType_list, kb_bool_list, kb_int_list, kb_str_list, kb_tuple_list, kb_list_list, kb_dict_list, kb_NoneType_int, kb_bool_int, kb_int_int, kb_str_int, kb_tuple_int, kb_list_int, kb_dict_int, kb_NoneType_bool, kb_bool_bool, kb_int_bool, kb_str_bool, kb_tuple_bool, kb_list_bool, kb_dict_bool, kb_NoneType_tuple, kb_bool_tuple, kb_int_tuple, kb_str_tuple, kb_tuple_tuple, kb_list_tuple, kb_dict_tuple, if_true, if_false, Bool.false_eq_true, ite_true, ite_false, Bool.not_true, Bool.not_false])
/-! RdDD: data that is shown, dicts among them (X_k11 has its own copy) -/
abbrev er (x : Str) (d : D) : Option (Str × D) := some (x, d)
/-! ### data that is shown -/
structure Sh (d : D) : Prop where
  f : fine 10 d = true
  l : lit 200 d = true
  w : wt 200 d ≤ 10000
mutual
theorem resD_fine (M : Mem) : ∀ (n : Nat) (d : D), fine n d = true → resD M d = d
  | _, .non, _ => rfl
  | _, .bl _, _ => rfl
  | _, .int _, _ => rfl
  | _, .str _, _ => rfl
  | 0, .tup l, h => by simp [fine] at h
  | 0, .lst l, h => by simp [fine] at h
  | n + 1, .tup l, h => by unfold resD; rw [resDA_fine M n l (by simpa only [fine] using h)]
  | n + 1, .lst l, h => by unfold resD; rw [resDA_fine M n l (by simpa only [fine] using h)]
  | _, .dct0, h => rfl
  | _, .scr _, h => by simp [fine] at h
  | _, .own _, h => by simp [fine] at h
  | _, .exc _ _, h => by simp [fine] at h
  | _, .glb _, h => by simp [fine] at h
  | _, .val _, h => by simp [fine] at h
theorem resDA_fine (M : Mem) : ∀ (n : Nat) (ds : List D), fineAll n ds = true → resDA M ds = ds
  | _, [], _ => rfl
  | n, d :: ds, h => by
    have h' : fine n d = true ∧ fineAll n ds = true := by simpa only [fineAll, Bool.and_eq_true] using h
    unfold resDA
    rw [resD_fine M n d h'.1, resDA_fine M n ds h'.2]
end
theorem Sh.shown {d : D} (h : Sh d) (M : Mem) : ∃ z, shwnZ (resD M d) = some z := by
  rw [resD_fine M 10 d h.f]
  obtain ⟨z, hz⟩ := shw_of 200 10 h.f h.l (by have := h.w; omega)
  exact ⟨z, shwnZ_of hz⟩
end DL
/-! MJ: the greatest square in a number -/
namespace DL
def SqF (s : Nat) : Prop := 0 < s ∧ ∀ d, 2 ≤ d → ¬ d * d ∣ s
theorem sqF_one : SqF 1 := ⟨by decide, fun d hd h => by
  have := Nat.le_of_dvd (by decide) h
  have : 2 * 2 ≤ d * d := Nat.mul_le_mul hd hd
  omega⟩
theorem sqF_of {s : Nat} (h0 : 0 < s) (h : ∀ d, d < s + 1 → 2 ≤ d → ¬ d * d ∣ s) : SqF s := ⟨h0, fun d hd hs => by
  have h1 := Nat.le_of_dvd h0 hs
  have h2 : d * 1 ≤ d * d := Nat.mul_le_mul (Nat.le_refl _) (by omega)
  exact h d (by omega) hd hs⟩
theorem SqF.mul {s t : Nat} (hs : SqF s) (ht : SqF t) (hc : Nat.Coprime s t) : SqF (s * t) := ⟨Nat.mul_pos hs.1 ht.1, fun d hd h => by
  have hg := Nat.gcd_dvd_left d s
  have hg2 := Nat.gcd_dvd_right d s
  have hgp : 0 < Nat.gcd d s := Nat.gcd_pos_of_pos_right _ hs.1
  by_cases g1 : Nat.gcd d s = 1
  · have c1 : Nat.Coprime d s := g1
    have c2 : Nat.Coprime (d * d) s := Nat.Coprime.mul_left c1 c1
    exact ht.2 d hd (c2.dvd_of_dvd_mul_left h)
  · have c1 : Nat.Coprime (Nat.gcd d s) t := Nat.Coprime.coprime_dvd_left hg2 hc
    have c2 : Nat.Coprime (Nat.gcd d s * Nat.gcd d s) t := Nat.Coprime.mul_left c1 c1
    have h2 : Nat.gcd d s * Nat.gcd d s ∣ s * t := Nat.dvd_trans (Nat.mul_dvd_mul hg hg) h
    exact hs.2 _ (by omega) (c2.dvd_of_dvd_mul_right h2)⟩
/-- n is F squared times a number without a square -/
def IsPart (n F s : Nat) : Prop := n = F * F * s ∧ SqF s
theorem dvd_part {n F s f : Nat} (h : IsPart n F s) (h0 : 0 < F) (hf : f * f ∣ n) : f ∣ F := by
  obtain ⟨rfl, hs⟩ := h
  have hgp : 0 < Nat.gcd f F := Nat.gcd_pos_of_pos_right _ h0
  obtain ⟨g, f', F', hg, hc, rfl, rfl⟩ := Nat.exists_coprime' hgp
  have hg2 : 0 < g * g := Nat.mul_pos hg hg
  have e1 : f' * g * (f' * g) = g * g * (f' * f') := by grind
  have e2 : F' * g * (F' * g) * s = g * g * (F' * F' * s) := by grind
  rw [e1, e2] at hf
  have h3 : f' * f' ∣ F' * F' * s := Nat.dvd_of_mul_dvd_mul_left hg2 hf
  have c2 : Nat.Coprime (f' * f') (F' * F') := Nat.Coprime.mul_left (Nat.Coprime.mul_right hc hc) (Nat.Coprime.mul_right hc hc)
  have h4 : f' * f' ∣ s := c2.dvd_of_dvd_mul_left h3
  have : f' < 2 := by
    rcases Nat.lt_or_ge f' 2 with h | h
    · exact h
    · exact absurd h4 (hs.2 f' h)
  rcases (by omega : f' = 0 ∨ f' = 1) with rfl | rfl
  · rw [Nat.zero_mul] at h4
    have := Nat.eq_zero_of_zero_dvd h4
    have := hs.1
    omega
  · rw [Nat.one_mul]
    exact Nat.dvd_mul_left _ _
/-- g is the greatest number whose square leaves a measure, or 1 or 4 -/
structure IsFac (n g : Nat) : Prop where
  pos : 0 < g
  dv : g * g ∣ n
  ms : n / (g * g) % 4 < 2
  top : ∀ f, 0 < f → f * f ∣ n → n / (f * f) % 4 < 2 → f ∣ g
theorem IsFac.uni {n g g' : Nat} (h : IsFac n g) (h' : IsFac n g') : g = g' := Nat.dvd_antisymm (h'.top g h.pos h.dv h.ms) (h.top g' h'.pos h'.dv h'.ms)
theorem sq_mod (k : Nat) : k * k % 4 = 0 ∧ k % 2 = 0 ∨ k * k % 4 = 1 ∧ k % 2 = 1 := by
  rcases (by omega : k % 4 = 0 ∨ k % 4 = 1 ∨ k % 4 = 2 ∨ k % 4 = 3) with h | h | h | h <;> (rw [Nat.mul_mod, h]; omega)
theorem IsPart.fac1 {n F s : Nat} (h : IsPart n F s) (h0 : 0 < F) (hs : s % 4 < 2) : IsFac n F := by
  have hFF := Nat.mul_pos h0 h0
  refine ⟨h0, ⟨s, h.1⟩, ?_, fun f _ hf _ => dvd_part h h0 hf⟩
  rw [h.1, Nat.mul_div_cancel_left _ hFF]
  exact hs
theorem IsPart.even {n F s : Nat} (h : IsPart n F s) (hs : 2 ≤ s % 4) (hn : n % 4 < 2) : F % 2 = 0 := by
  rcases sq_mod F with ⟨_, h2⟩ | ⟨h1, _⟩
  · exact h2
  · have e := h.1
    rw [e, Nat.mul_mod, h1, Nat.one_mul, Nat.mod_mod] at hn
    omega
theorem IsPart.fac2 {n F s : Nat} (h : IsPart n F s) (h0 : 0 < F) (hs : 2 ≤ s % 4) (hn : n % 4 < 2) : IsFac n (F / 2) := by
  have he := h.even hs hn
  obtain ⟨G, rfl⟩ : ∃ G, F = 2 * G := ⟨F / 2, by omega⟩
  have hG : 2 * G / 2 = G := by omega
  rw [hG]
  have g0 : 0 < G := by omega
  have hGG := Nat.mul_pos g0 g0
  have e : n = G * G * (4 * s) := by rw [h.1]; grind
  refine ⟨g0, ⟨_, e⟩, ?_, fun f f0 hf hq => ?_⟩
  · rw [e, Nat.mul_div_cancel_left _ hGG]
    omega
  · obtain ⟨k, hk⟩ := dvd_part h h0 hf
    have hff := Nat.mul_pos f0 f0
    have e2 : n = f * f * (k * k * s) := by
      rw [h.1, hk]
      grind
    rw [e2, Nat.mul_div_cancel_left _ hff] at hq
    rcases sq_mod k with ⟨_, h2⟩ | ⟨h1, _⟩
    · obtain ⟨j, rfl⟩ : ∃ j, k = 2 * j := ⟨k / 2, by omega⟩
      have : 2 * G = 2 * (f * j) := by rw [hk]; grind
      exact ⟨j, by omega⟩
    · rw [Nat.mul_mod, h1, Nat.one_mul, Nat.mod_mod] at hq
      omega
/-- the factor, as the program takes it from F -/
theorem IsPart.fac {n F s : Nat} (h : IsPart n F s) (h0 : 0 < F) (hn : n % 4 < 2) : IsFac n (if n / (F * F) % 4 < 2 then F else F / 2) := by
  have hFF := Nat.mul_pos h0 h0
  have e : n / (F * F) = s := by rw [h.1, Nat.mul_div_cancel_left _ hFF]
  rw [e]
  by_cases hs : s % 4 < 2
  · rw [if_pos hs]; exact h.fac1 h0 hs
  · rw [if_neg hs]; exact h.fac2 h0 (by omega) hn
theorem IsPart.times {n F s : Nat} (k : Nat) (h : IsPart n F s) : IsPart (k * k * n) (k * F) s := ⟨by rw [h.1]; grind, h.2⟩
/-- times a square -/
theorem fac_times {n g k : Nat} (hp : ∃ F s, IsPart n F s ∧ 0 < F) (hn : n % 4 < 2) (hk : 0 < k) (h : IsFac n g) : IsFac (k * k * n) (k * g) := by
  obtain ⟨F, s, hp, h0⟩ := hp
  have hkn : k * k * n % 4 < 2 := by
    rcases sq_mod k with ⟨h1, _⟩ | ⟨h1, _⟩
    · rw [Nat.mul_mod, h1]; omega
    · rw [Nat.mul_mod, h1, Nat.one_mul, Nat.mod_mod]; exact hn
  by_cases hs : s % 4 < 2
  · rw [h.uni (hp.fac1 h0 hs)]
    exact (hp.times k).fac1 (Nat.mul_pos hk h0) hs
  · have e := hp.even (by omega) hn
    rw [h.uni (hp.fac2 h0 (by omega) hn)]
    have := (hp.times k).fac2 (Nat.mul_pos hk h0) (by omega) hkn
    have e2 : k * F / 2 = k * (F / 2) := by
      obtain ⟨G, rfl⟩ : ∃ G, F = 2 * G := ⟨F / 2, by omega⟩
      have : k * (2 * G) = 2 * (k * G) := by grind
      rw [this]
      have : 2 * G / 2 = G := by omega
      rw [this]
      omega
    rwa [e2] at this
theorem part_ex : ∀ n : Nat, 0 < n → ∃ F s, IsPart n F s ∧ 0 < F := fun n => by
  induction n using Nat.strongRecOn with
  | ind n ih =>
    intro hn
    by_cases h : ∃ d, 2 ≤ d ∧ d * d ∣ n
    · obtain ⟨d, h2, k, hk⟩ := h
      have k0 : 0 < k := by
        rcases Nat.eq_zero_or_pos k with z | z
        · rw [z] at hk; omega
        · exact z
      have : 2 * 2 ≤ d * d := Nat.mul_le_mul h2 h2
      have : 4 * k ≤ d * d * k := Nat.mul_le_mul this (Nat.le_refl _)
      obtain ⟨F, s, hP, F0⟩ := ih k (by omega) k0
      exact ⟨d * F, s, by rw [hk]; exact hP.times d, Nat.mul_pos (by omega) F0⟩
    · exact ⟨1, n, ⟨by omega, hn, fun d h2 hd => h ⟨d, h2, hd⟩⟩, by decide⟩
/-! ### the loop -/
structure Inv0 (n f l p s : Nat) : Prop where
  eq : n = f * f * l * s
  f0 : 0 < f
  l0 : 0 < l
  p2 : 2 ≤ p
  no : ∀ d, 2 ≤ d → d < p → ¬ d ∣ l
  sq : SqF s
  co : Nat.Coprime s l
theorem Inv0.start {n : Nat} (h : 0 < n) : Inv0 n 1 n 2 1 := ⟨by grind, by decide, h, by decide, fun d a b => by omega, sqF_one, Nat.coprime_one_left _⟩
theorem Inv0.more {n f l p s : Nat} (h : Inv0 n f l p s) (hd : p * p ∣ l) : Inv0 n (f * p) (l / (p * p)) p s ∧ l / (p * p) < l := by
  obtain ⟨k, rfl⟩ := hd
  have hp := h.p2
  have hpp : 0 < p * p := Nat.mul_pos (by omega) (by omega)
  rw [Nat.mul_div_cancel_left _ hpp]
  have k0 : 0 < k := by
    rcases Nat.eq_zero_or_pos k with rfl | h1
    · have := h.l0; simp at this
    · exact h1
  have hk : k ∣ p * p * k := Nat.dvd_mul_left _ _
  refine ⟨⟨by rw [h.eq]; grind, Nat.mul_pos h.f0 (by omega), k0, hp, fun d a b c => h.no d a b (Nat.dvd_trans c hk), h.sq, Nat.Coprime.coprime_dvd_right hk h.co⟩, ?_⟩
  have : 2 * 2 ≤ p * p := Nat.mul_le_mul hp hp
  have : 4 * k ≤ p * p * k := Nat.mul_le_mul this (Nat.le_refl _)
  omega
theorem Inv0.prime {n f l p s : Nat} (h : Inv0 n f l p s) (hd : p ∣ l) : SqF p := ⟨by have := h.p2; omega, fun d h2 hdd => by
  have hp := h.p2
  have d1 : d ∣ p := Nat.dvd_trans (Nat.dvd_mul_right d d) hdd
  have d2 := Nat.le_of_dvd (by omega) d1
  rcases Nat.lt_or_ge d p with h3 | h3
  · exact h.no d h2 h3 (Nat.dvd_trans d1 hd)
  · have : d = p := by omega
    subst this
    have h4 := Nat.le_of_dvd (by omega) hdd
    have : 2 * d ≤ d * d := Nat.mul_le_mul h2 (Nat.le_refl _)
    omega⟩
theorem Inv0.one {n f l p s : Nat} (h : Inv0 n f l p s) (hn : ¬ p * p ∣ l) (hd : p ∣ l) : Inv0 n f (l / p) (p + 1) (s * p) ∧ l / p ≤ l := by
  have hpr := h.prime hd
  have hp := h.p2
  have hcp : Nat.Coprime s p := Nat.Coprime.coprime_dvd_right hd h.co
  obtain ⟨k, rfl⟩ := hd
  have hkk : p * k / p = k := Nat.mul_div_cancel_left _ (by omega)
  rw [hkk]
  have k0 : 0 < k := by
    rcases Nat.eq_zero_or_pos k with rfl | h1
    · have := h.l0; simp at this
    · exact h1
  have hk : k ∣ p * k := Nat.dvd_mul_left _ _
  have hpk : ¬ p ∣ k := fun ⟨j, hj⟩ => hn ⟨j, by rw [hj]; grind⟩
  refine ⟨⟨by rw [h.eq]; grind, h.f0, k0, by omega, fun d a b c => ?_, h.sq.mul hpr hcp, ?_⟩, Nat.le_of_dvd h.l0 hk⟩
  · rcases Nat.lt_or_ge d p with h3 | h3
    · exact h.no d a h3 (Nat.dvd_trans c hk)
    · have : d = p := by omega
      subst this
      exact hpk c
  · refine Nat.Coprime.mul_left (Nat.Coprime.coprime_dvd_right hk h.co) ?_
    show Nat.gcd p k = 1
    have g1 := Nat.gcd_dvd_left p k
    have g2 := Nat.gcd_dvd_right p k
    have g3 := Nat.le_of_dvd (by omega) g1
    have g0 : 0 < Nat.gcd p k := Nat.gcd_pos_of_pos_right _ k0
    rcases Nat.lt_or_ge (Nat.gcd p k) 2 with h2 | h2
    · omega
    · rcases Nat.lt_or_ge (Nat.gcd p k) p with h3 | h3
      · exact absurd (Nat.dvd_trans g2 hk) (h.no _ h2 h3)
      · have : Nat.gcd p k = p := by omega
        rw [this] at g2
        exact absurd g2 hpk
theorem Inv0.none {n f l p s : Nat} (h : Inv0 n f l p s) (hn : ¬ p ∣ l) : Inv0 n f l (p + 1) s :=
  ⟨h.eq, h.f0, h.l0, by have := h.p2; omega, fun d a b c => by
    rcases Nat.lt_or_ge d p with h3 | h3
    · exact h.no d a h3 c
    · have : d = p := by omega
      subst this
      exact hn c, h.sq, h.co⟩
theorem Inv0.fin {n f l p s : Nat} (h : Inv0 n f l p s) (hl : l < p * p * p) (hns : ∀ r, r * r ≠ l) : IsPart n f (l * s) := by
  have hp := h.p2
  refine ⟨by rw [h.eq]; grind, SqF.mul ⟨h.l0, fun d h2 hd => ?_⟩ h.sq h.co.symm⟩
  have d1 : d ∣ l := Nat.dvd_trans (Nat.dvd_mul_right d d) hd
  have dp : p ≤ d := by
    rcases Nat.lt_or_ge d p with h3 | h3
    · exact absurd d1 (h.no d h2 h3)
    · exact h3
  obtain ⟨c, hc⟩ := hd
  have c1 : c ∣ l := ⟨d * d, by rw [hc]; grind⟩
  have c0 : 0 < c := Nat.pos_of_dvd_of_pos c1 h.l0
  rcases Nat.lt_or_ge c 2 with h3 | h3
  · have : c = 1 := by omega
    subst this
    exact hns d (by omega)
  · rcases Nat.lt_or_ge c p with h4 | h4
    · exact absurd c1 (h.no c h3 h4)
    · have a1 : p * p ≤ d * d := Nat.mul_le_mul dp dp
      have a2 : p * p * p ≤ d * d * c := Nat.mul_le_mul a1 h4
      omega
theorem Inv0.finS {n f l p s r : Nat} (h : Inv0 n f l p s) (hr : r * r = l) : IsPart n (f * r) s := ⟨by rw [h.eq, ← hr]; grind, h.sq⟩
theorem part_one : IsPart 1 1 1 := ⟨rfl, sqF_one⟩
theorem fac_sq {k : Nat} (hk : 0 < k) : IsFac (k * k) k := by
  have := fac_times (n := 1) (g := 1) (k := k) ⟨1, 1, part_one, by decide⟩ (by decide) hk (part_one.fac1 (by decide) (by decide))
  rwa [Nat.mul_one, Nat.mul_one] at this
def rests : List Nat := [5, 8, 12, 13, 17, 21, 24, 28, 29, 33]
theorem rest_fac : ∀ R ∈ rests, R % 4 < 2 ∧ 5 ≤ R ∧ R ≤ 33 ∧ IsFac R 1 := by
  have d1 : ∀ R s : Nat, R = s → s < 40 → 0 < s → s % 4 < 2 → (∀ d, d < s + 1 → 2 ≤ d → ¬ d * d ∣ s) → IsFac R 1 := fun R s e _ s0 h4 h => IsPart.fac1 (F := 1) (s := s) ⟨by omega, sqF_of s0 h⟩ (by decide) h4
  have d2 : ∀ R s : Nat, R = 4 * s → s < 40 → 0 < s → 2 ≤ s % 4 → (∀ d, d < s + 1 → 2 ≤ d → ¬ d * d ∣ s) → IsFac R 1 := fun R s e _ s0 h4 h => IsPart.fac2 (F := 2) (s := s) ⟨by omega, sqF_of s0 h⟩ (by decide) h4 (by omega)
  intro R hR
  simp only [rests, List.mem_cons, List.not_mem_nil, or_false] at hR
  rcases hR with rfl | rfl | rfl | rfl | rfl | rfl | rfl | rfl | rfl | rfl
  · exact ⟨by decide, by decide, by decide, d1 _ 5 (by decide) (by decide) (by decide) (by decide) (by decide)⟩
  · exact ⟨by decide, by decide, by decide, d2 _ 2 (by decide) (by decide) (by decide) (by decide) (by decide)⟩
  · exact ⟨by decide, by decide, by decide, d2 _ 3 (by decide) (by decide) (by decide) (by decide) (by decide)⟩
  · exact ⟨by decide, by decide, by decide, d1 _ 13 (by decide) (by decide) (by decide) (by decide) (by decide)⟩
  · exact ⟨by decide, by decide, by decide, d1 _ 17 (by decide) (by decide) (by decide) (by decide) (by decide)⟩
  · exact ⟨by decide, by decide, by decide, d1 _ 21 (by decide) (by decide) (by decide) (by decide) (by decide)⟩
  · exact ⟨by decide, by decide, by decide, d2 _ 6 (by decide) (by decide) (by decide) (by decide) (by decide)⟩
  · exact ⟨by decide, by decide, by decide, d2 _ 7 (by decide) (by decide) (by decide) (by decide) (by decide)⟩
  · exact ⟨by decide, by decide, by decide, d1 _ 29 (by decide) (by decide) (by decide) (by decide) (by decide)⟩
  · exact ⟨by decide, by decide, by decide, d1 _ 33 (by decide) (by decide) (by decide) (by decide) (by decide)⟩
end DL
namespace DL
open PySem PySem.Spec PyProof.Rows L2
local macro_rules | `(tactic| walk_at "rd") => `(tactic| simp only [startD, List.map, List.replicate, List.length_cons, List.length_nil, List.append_eq, List.append_nil, List.nil_append, List.cons_append, Nat.reduceSub, Nat.reduceAdd, List.getElem?_cons_zero, List.getElem?_cons_succ, List.set_cons_zero, List.set_cons_succ,
  dC, dVar, dOp, dTru, gTru, tru, dChain, dAnd, dOr, dNot, dAndV, dOrV, dNotV, dIf, dNeg, gNeg, dNil, dCons, dTup, dLst, dOwn, gIx, rBin, gAdd, gCmpI, dCall, dCallK, dSeq, dNext, dDrop, dRet, dRetN, dIfS, dName, dGNil, dGCons, dGTup, dSub, gSetL, dAsg, dPar, dPar3, dAug, gIpI, dSeqI, gSeqI, dRngI, gRng1, gRng2, dCB, gAbs, gInt, gMax, gMin, gGcd, gLen, lenD, gIsi, tyM, tyD, dBits, gBits, dMet, gAppend, dPart, dNoPart, dSl, gSl_tup, gSl_lst, cut_1, dEnds, gIs, isB, dNever, dCallX, dRaise, dTry, dFld, dCallV, gLRng, gFrz, dFrz, dFor, dLc, wipeD, dYes,
  sizeLine_eq, Nat.reduceLeDiff, gEq_int, gNe_int, gEq_strs, gNe_strs, gIn_two, gRepr_bl, rs_lst, rs_tup, rs_scr, rs_int, atI_0, atI_1, atI_2, atI_3, atI_4, atI_5, ixN_30, ixN_31, ixN_32, gEq_bl, gNe_bl, decide_eq_true_eq, beq_iff_eq, Bool.not_eq_true', beq_eq_false_iff_ne, decide_eq_false_iff_not, Bool.not_true, Bool.not_false, if_true, if_false, Bool.false_eq_true, ite_true, ite_false, true_and, and_true, ne_eq, Bool.bne_false, Bool.bne_true, reduceCtorEq])
local macro_rules | `(tactic| walk_at "rh") => `(tactic| simp only [*, startD, List.map, List.replicate, List.length_cons, List.length_nil, List.append_eq, List.append_nil, List.nil_append, List.cons_append, Nat.reduceSub, Nat.reduceAdd, List.getElem?_cons_zero, List.getElem?_cons_succ, List.set_cons_zero, List.set_cons_succ,
  dC, dVar, dOp, dTru, gTru, tru, dChain, dAnd, dOr, dNot, dAndV, dOrV, dNotV, dIf, dNeg, gNeg, dNil, dCons, dTup, dLst, dOwn, gIx, rBin, gAdd, gCmpI, dCall, dCallK, dSeq, dNext, dDrop, dRet, dRetN, dIfS, dName, dGNil, dGCons, dGTup, dSub, gSetL, dAsg, dPar, dPar3, dAug, gIpI, dSeqI, gSeqI, dRngI, gRng1, gRng2, dCB, gAbs, gInt, gMax, gMin, gGcd, gLen, lenD, gIsi, tyM, tyD, dBits, gBits, dMet, gAppend, dPart, dNoPart, dSl, gSl_tup, gSl_lst, cut_1, dEnds, gIs, isB, dNever, dCallX, dRaise, dTry, dFld, dCallV, gLRng, gFrz, dFrz, dFor, dLc, wipeD, dYes,
  sizeLine_eq, Nat.reduceLeDiff, gEq_int, gNe_int, gEq_strs, gNe_strs, gIn_two, gRepr_bl, rs_lst, rs_tup, rs_scr, rs_int, atI_0, atI_1, atI_2, atI_3, atI_4, atI_5, ixN_30, ixN_31, ixN_32, gEq_bl, gNe_bl, decide_eq_true_eq, beq_iff_eq, Bool.not_eq_true', beq_eq_false_iff_ne, decide_eq_false_iff_not, Bool.not_true, Bool.not_false, if_true, if_false, Bool.false_eq_true, ite_true, ite_false, true_and, and_true, ne_eq, Bool.bne_false, Bool.bne_true, reduceCtorEq])
local macro_rules | `(tactic| walk_at "kb") => `(tactic| simp only [kb_NoneType_list, kb_bool_list, kb_int_list, kb_str_list, kb_tuple_list, kb_list_list, kb_dict_list, kb_NoneType_int, kb_bool_int, kb_int_int, kb_str_int, kb_tuple_int, kb_list_int, kb_dict_int, kb_NoneType_bool, kb_bool_bool, kb_int_bool, kb_str_bool, kb_tuple_bool, kb_list_bool, kb_dict_bool, kb_NoneType_tuple, kb_bool_tuple, kb_int_tuple, kb_str_tuple, kb_tuple_tuple, kb_list_tuple, kb_dict_tuple, if_true, if_false, Bool.false_eq_true, ite_true, ite_false, Bool.not_true, Bool.not_false])
/-! ### the greatest square -/
def sp_square_part : DSp := fun ds M Q _ => ∃ n : Nat, ds = [.int n] ∧ 0 < n ∧ n ≤ 1000000000000 ∧ ∀ F s : Nat, IsPart n F s → 0 < F → F ≤ 1000000 → Q (.int F) M
theorem part_le {n f l p s : Nat} (h : Inv0 n f l p s) (hn : n ≤ 1000000000000) : l ≤ 1000000000000 ∧ f ≤ 1000000 := by
  have h1 : f * f * l * s ≤ 1000000000000 := by rw [← h.eq]; exact hn
  have s0 := h.sq.1
  have l0 := h.l0
  have ff := Nat.mul_pos h.f0 h.f0
  have e1 : f * f * l ≤ f * f * l * s := Nat.le_mul_of_pos_right _ s0
  have e2 : l ≤ f * f * l := Nat.le_mul_of_pos_left _ ff
  have e3 : f * f ≤ f * f * l := Nat.le_mul_of_pos_right _ l0
  refine ⟨by omega, ?_⟩
  rcases Nat.lt_or_ge f 1000001 with h | h
  · omega
  · have := Nat.mul_le_mul h h
    omega
theorem rd_square_part_by : ∀ ds M Q, ds.length = 1 → sp_square_part ds M Q DX0 → t_square_part_by sp_isq (dEnds M Q) (startD 5 ds) M := by
  rintro _ M Q - ⟨n, rfl, n1, n2, q⟩
  unfold t_square_part_by
  have sm : ∀ {i : Nat}, i ≤ 2000000000000 → Bi 42 (i : Int) := fun h => Bi.of_abs 2000000000000 (by omega) (by decide)
  refine dSeq_open fun B hB => ?_
  walk_at "rd"
  rw [← hB]
  clear hB B
  refine dSeq_open fun B hB => ?_
  refine dwhile_of (fun m r M' => M' = M ∧ ∃ f l p s : Nat, r = [some (.int n), some (.int f), some (.int l), some (.int p), none] ∧ p ≤ 10001 ∧ Inv0 n f l p s ∧ m = l + 1 - p) _ ⟨rfl, 1, n, 2, 1, rfl, by decide, Inv0.start n1, rfl⟩ ?_
  rintro m r M' ⟨rfl, f, l, p, s, rfl, hp, hI, rfl⟩
  obtain ⟨hl, hf⟩ := part_le hI n2
  have bp := sm (i := p) (by omega)
  have bpp : Bi 42 ((p : Int) * p) := by
    have : p * p ≤ 10001 * 10001 := Nat.mul_le_mul hp hp
    exact_mod_cast sm (i := p * p) (by omega)
  have bl := sm (i := l) (by omega)
  have bf := sm (i := f) (by omega)
  walk_at "rd"
  refine ⟨⟨bp.sm, bp.sm⟩, ⟨bpp.sm, bp.sm⟩, ?_⟩
  by_cases hkk : (p : Int) * p * p ≤ l
  · rw [if_pos hkk]
    have hkk' : p * p * p ≤ l := by exact_mod_cast hkk
    have p2 := hI.p2
    have hp1 : p ≤ 10000 := by
      rcases Nat.lt_or_ge p 10001 with h | h
      · omega
      · have := Nat.mul_le_mul (Nat.mul_le_mul h h) h
        omega
    have p0 : 0 < (p : Int) := by omega
    have pp0 : 0 < (p : Int) * p := Int.mul_pos p0 p0
    have emm : ∀ x : Nat, ((x : Int)).fmod ((p : Int) * p) = ((x % (p * p) : Nat) : Int) := fun x => by rw [fmod_pos pp0]; rfl
    have edd : ∀ x : Nat, ((x : Int)).fdiv ((p : Int) * p) = ((x / (p * p) : Nat) : Int) := fun x => by rw [fdiv_pos pp0]; rfl
    have em : ∀ x : Nat, ((x : Int)).fmod (p : Int) = ((x % p : Nat) : Int) := fun x => by rw [fmod_pos p0]; rfl
    have ed : ∀ x : Nat, ((x : Int)).fdiv (p : Int) = ((x / p : Nat) : Int) := fun x => by rw [fdiv_pos p0]; rfl
    have lpp : p ≤ p * p * p := by
      have : 1 ≤ p * p := Nat.mul_pos (by omega) (by omega)
      exact Nat.le_mul_of_pos_left _ this
    refine dwhile_of (fun m r M'' => M'' = M' ∧ ∃ f2 l2 : Nat, r = [some (.int n), some (.int f2), some (.int l2), some (.int p), none] ∧ l2 ≤ l ∧ Inv0 n f2 l2 p s ∧ m = l2 + 1) _ ⟨rfl, f, l, rfl, Nat.le_refl _, hI, rfl⟩ ?_
    rintro _ r M'' ⟨rfl, f2, l2, rfl, hl2, hI2, rfl⟩
    obtain ⟨_, hf2⟩ := part_le hI2 n2
    have bf2 := sm (i := f2) (by omega)
    walk_at "rd"
    refine ⟨⟨bp.sm, bp.sm⟩, Int.ne_of_gt pp0, ?_⟩
    rw [emm]
    by_cases hd : p * p ∣ l2
    · rw [if_pos (by rw [Nat.mod_eq_zero_of_dvd hd]; rfl)]
      obtain ⟨i1, i2⟩ := hI2.more hd
      refine ⟨⟨bf2.sm, bp.sm⟩, ⟨bp.sm, bp.sm⟩, ⟨Int.ne_of_gt pp0, Nat.lt_of_lt_of_le (log2_of 42 bpp (by decide)) (by decide)⟩, ?_⟩
      rw [edd]
      exact ⟨l2 / (p * p) + 1, by omega, f2 * p, l2 / (p * p), rfl, by omega, i1, rfl⟩
    · rw [if_neg (fun z => hd (Nat.dvd_of_mod_eq_zero (by exact_mod_cast z)))]
      refine ⟨(by omega : (p : Int) ≠ 0), ?_⟩
      rw [em]
      by_cases hd1 : p ∣ l2
      · rw [if_pos (by rw [Nat.mod_eq_zero_of_dvd hd1]; rfl)]
        obtain ⟨i1, i2⟩ := hI2.one hd hd1
        refine ⟨⟨by omega, Nat.lt_of_lt_of_le (log2_of 42 bp (by decide)) (by decide)⟩, ?_⟩
        rw [ed]
        exact ⟨l2 / p + 1 - (p + 1), by omega, f2, l2 / p, p + 1, s * p, rfl, by omega, i1, rfl⟩
      · rw [if_neg (fun z => hd1 (Nat.dvd_of_mod_eq_zero (by exact_mod_cast z)))]
        exact ⟨l2 + 1 - (p + 1), by omega, f2, l2, p + 1, s, rfl, by omega, hI2.none hd1, rfl⟩
  · rw [if_neg hkk, ← hB]
    clear hB B
    have hkk' : l < p * p * p := by
      rcases Nat.lt_or_ge l (p * p * p) with h | h
      · exact h
      · exact absurd (by exact_mod_cast h) hkk
    refine dSeq_open fun B hB => ?_
    walk_at "rd"
    have pb := p400_big
    have p9 := p400_900
    have p29 := p400_ten (i := 29) (by decide)
    refine ⟨l, rfl, by omega, by omega, ?_⟩
    dsimp only
    rw [← hB]
    clear hB B
    have i0 := isq_nn l
    have i1 := isq_le (n := l) (by omega)
    have i2 := isq_le_self (n := l) (by omega)
    generalize hr : isq (l : Int) = r at *
    obtain ⟨r, rfl⟩ : ∃ k : Nat, r = k := ⟨r.toNat, by omega⟩
    have br := sm (i := r) (by omega)
    walk_at "rd"
    refine ⟨⟨br.sm, br.sm⟩, ?_⟩
    by_cases hq : (r : Int) * r = l
    · rw [if_pos hq]
      have hq' : r * r = l := by exact_mod_cast hq
      have r0 : 0 < r := by
        rcases Nat.eq_zero_or_pos r with z | z
        · have := hI.l0
          rw [z] at hq'
          omega
        · exact z
      have hP := hI.finS hq'
      have hb : f * r ≤ 1000000 := by
        rcases Nat.lt_or_ge (f * r) 1000001 with h | h
        · omega
        · have h1 := Nat.mul_le_mul h h
          have h2 : f * r * (f * r) ≤ f * r * (f * r) * s := Nat.le_mul_of_pos_right _ hI.sq.1
          have := hP.1
          omega
      refine ⟨⟨bf.sm, br.sm⟩, ?_⟩
      exact rtq (q (f * r) s hP (Nat.mul_pos hI.f0 r0) hb)
    · rw [if_neg hq]
      refine rtq (q f (l * s) (hI.fin hkk' fun k hk => hq ?_) hI.f0 hf)
      have hk' : isq (l : Int) = k := by
        rw [← hk]
        exact isq_self (r := k) (by omega)
      rw [hr] at hk'
      rw [hk', ← hk]
      rfl
/-! ### the factor -/
def sp_factor_by : DSp := fun ds M Q _ => ∃ n : Nat, ds = [.int n] ∧ 5 ≤ n ∧ n % 4 < 2 ∧ n ≤ 1000000000000 ∧ ∀ g F s : Nat, IsPart n F s → 0 < F → IsFac n g → g ≤ 1000000 → Q (.int g) M
theorem rd_factor_by : ∀ ds M Q, ds.length = 1 → sp_factor_by ds M Q DX0 → t_factor_by sp_square_part (dEnds M Q) (startD 2 ds) M := by
  rintro _ M Q - ⟨n, rfl, n5, n4, n2, q⟩
  unfold t_factor_by
  have sm : ∀ {i : Nat}, i ≤ 2000000000000 → Bi 42 (i : Int) := fun h => Bi.of_abs 2000000000000 (by omega) (by decide)
  refine dSeq_open fun B hB => ?_
  walk_at "rd"
  refine ⟨n, rfl, by omega, n2, fun F s hP F0 hF => ?_⟩
  dsimp only
  rw [← hB]
  clear hB B
  have hFF := Nat.mul_pos F0 F0
  have bF := sm (i := F) (by omega)
  have bFF : Bi 42 ((F : Int) * F) := by
    have : F * F ≤ 1000000 * 1000000 := Nat.mul_le_mul hF hF
    exact_mod_cast sm (i := F * F) (by omega)
  have FF0 : 0 < (F : Int) * F := by exact_mod_cast hFF
  have F0' : 0 < (F : Int) := by omega
  walk_at "rd"
  refine ⟨⟨bF.sm, bF.sm⟩, ⟨Int.ne_of_gt FF0, Nat.lt_of_lt_of_le (log2_of 42 bFF (by decide)) (by decide)⟩, (by decide : (4 : Int) ≠ 0), ?_⟩
  have e1 : ((n : Int)).fdiv ((F : Int) * F) = ((n / (F * F) : Nat) : Int) := by rw [fdiv_pos FF0]; rfl
  have e2 : ((n / (F * F) : Nat) : Int).fmod 4 = ((n / (F * F) % 4 : Nat) : Int) := by rw [fmod_pos (by decide)]; rfl
  have e3 : ((F : Int)).fdiv 2 = ((F / 2 : Nat) : Int) := by rw [fdiv_pos (by decide)]; rfl
  rw [e1, e2, e3]
  have hfac := hP.fac F0 n4
  by_cases h : n / (F * F) % 4 < 2
  · rw [if_pos h] at hfac
    rw [if_pos (by rcases (by omega : n / (F * F) % 4 = 0 ∨ n / (F * F) % 4 = 1) with e | e <;> rw [e] <;> rfl)]
    exact rtq (q F F s hP F0 hfac hF)
  · rw [if_neg h] at hfac
    rw [if_neg (by
      have h1 : n / (F * F) % 4 < 4 := Nat.mod_lt _ (by decide)
      rcases (by omega : n / (F * F) % 4 = 2 ∨ n / (F * F) % 4 = 3) with e | e <;> rw [e] <;> decide)]
    exact ⟨⟨by decide, by decide⟩, rtq (q (F / 2) F s hP F0 hfac (by omega))⟩
/-! ### the law's own factor -/
/-! ### the drawn ones -/
/-! ### what is told -/
/-! ### the law -/
end DL
namespace DL
open PySem PySem.Spec PyProof.Rows L2
local macro_rules | `(tactic| walk_at "rd") => `(tactic| simp only [startD, List.map, List.replicate, List.length_cons, List.length_nil, List.append_eq, List.append_nil, List.nil_append, List.cons_append, Nat.reduceSub, Nat.reduceAdd, List.getElem?_cons_zero, List.getElem?_cons_succ, List.set_cons_zero, List.set_cons_succ,
  dC, dVar, dOp, dTru, gTru, tru, dChain, dAnd, dOr, dNot, dAndV, dOrV, dNotV, dIf, dNeg, gNeg, dNil, dCons, dTup, dLst, dOwn, gIx, rBin, gAdd, gCmpI, dCall, dCallK, dSeq, dNext, dDrop, dRet, dRetN, dIfS, dName, dGNil, dGCons, dGTup, dSub, gSetL, dAsg, dPar, dPar3, dAug, gIpI, dSeqI, gSeqI, dRngI, gRng1, gRng2, dCB, gAbs, gInt, gMax, gMin, gGcd, gLen, lenD, gIsi, tyM, tyD, dBits, gBits, dMet, gAppend, dPart, dNoPart, dSl, gSl_tup, gSl_lst, cut_1, dEnds, gIs, isB, dNever, dCallX, dRaise, dTry, dFld, dCallV, gLRng, gFrz, dFrz, dFor, dLc, wipeD, dYes,
  sizeLine_eq, Nat.reduceLeDiff, gEq_int, gNe_int, gEq_strs, gNe_strs, gIn_two, gRepr_bl, rs_lst, rs_tup, rs_scr, rs_int, atI_0, atI_1, atI_2, atI_3, atI_4, atI_5, ixN_30, ixN_31, ixN_32, gEq_bl, gNe_bl, decide_eq_true_eq, beq_iff_eq, Bool.not_eq_true', beq_eq_false_iff_ne, decide_eq_false_iff_not, Bool.not_true, Bool.not_false, if_true, if_false, Bool.false_eq_true, ite_true, ite_false, true_and, and_true, ne_eq, Bool.bne_false, Bool.bne_true, reduceCtorEq])
local macro_rules | `(tactic| walk_at "rh") => `(tactic| simp only [*, startD, List.map, List.replicate, List.length_cons, List.length_nil, List.append_eq, List.append_nil, List.nil_append, List.cons_append, Nat.reduceSub, Nat.reduceAdd, List.getElem?_cons_zero, List.getElem?_cons_succ, List.set_cons_zero, List.set_cons_succ,
  dC, dVar, dOp, dTru, gTru, tru, dChain, dAnd, dOr, dNot, dAndV, dOrV, dNotV, dIf, dNeg, gNeg, dNil, dCons, dTup, dLst, dOwn, gIx, rBin, gAdd, gCmpI, dCall, dCallK, dSeq, dNext, dDrop, dRet, dRetN, dIfS, dName, dGNil, dGCons, dGTup, dSub, gSetL, dAsg, dPar, dPar3, dAug, gIpI, dSeqI, gSeqI, dRngI, gRng1, gRng2, dCB, gAbs, gInt, gMax, gMin, gGcd, gLen, lenD, gIsi, tyM, tyD, dBits, gBits, dMet, gAppend, dPart, dNoPart, dSl, gSl_tup, gSl_lst, cut_1, dEnds, gIs, isB, dNever, dCallX, dRaise, dTry, dFld, dCallV, gLRng, gFrz, dFrz, dFor, dLc, wipeD, dYes,
  sizeLine_eq, Nat.reduceLeDiff, gEq_int, gNe_int, gEq_strs, gNe_strs, gIn_two, gRepr_bl, rs_lst, rs_tup, rs_scr, rs_int, atI_0, atI_1, atI_2, atI_3, atI_4, atI_5, ixN_30, ixN_31, ixN_32, gEq_bl, gNe_bl, decide_eq_true_eq, beq_iff_eq, Bool.not_eq_true', beq_eq_false_iff_ne, decide_eq_false_iff_not, Bool.not_true, Bool.not_false, if_true, if_false, Bool.false_eq_true, ite_true, ite_false, true_and, and_true, ne_eq, Bool.bne_false, Bool.bne_true, reduceCtorEq])
local macro_rules | `(tactic| walk_at "kb") => `(tactic| simp only [kb_NoneType_list, kb_bool_list, kb_int_list, kb_str_list, kb_tuple_list, kb_list_list, kb_dict_list, kb_NoneType_int, kb_bool_int, kb_int_int, kb_str_int, kb_tuple_int, kb_list_int, kb_dict_int, kb_NoneType_bool, kb_bool_bool, kb_int_bool, kb_str_bool, kb_tuple_bool, kb_list_bool, kb_dict_bool, kb_NoneType_tuple, kb_bool_tuple, kb_int_tuple, kb_str_tuple, kb_tuple_tuple, kb_list_tuple, kb_dict_tuple, if_true, if_false, Bool.false_eq_true, ite_true, ite_false, Bool.not_true, Bool.not_false])
/-! ### root numbers as what they stand for: d stands for (X + Y times the root) / B -/
structure RV (m : Int) (nx nb : Nat) (d : D) (X Y B : Int) : Prop where
  eq : d = rootN m X Y B
  b0 : B ≠ 0
  bx : Bi nx X
  bY : Bi nx Y
  bB : Bi nb B
theorem Bi.up {n k : Nat} {i : Int} (h : Bi n i) (hk : n ≤ k) : Bi k i := h.mono hk
theorem rn_eq {m X Y B X' Y' B' : Int} (b0 : B ≠ 0) (b0' : B' ≠ 0) (h1 : X * B' = X' * B) (h2 : Y * B' = Y' * B) : rootN m X Y B = rootN m X' Y' B' := by
  rw [rootN_nf, rootN_nf]
  refine nf_eq b0 b0' ?_ ?_
  · unfold rnX
    split
    · have : (X + Y * isq m) * B' = X * B' + Y * B' * isq m := by grind
      rw [this, h1, h2]; grind
    · exact h1
  · unfold rnY
    split
    · rw [Int.zero_mul, Int.zero_mul]
    · exact h2
/-! ### the calls -/
end DL
namespace DL
open PySem PySem.Spec PyProof.Rows L2
local macro_rules | `(tactic| walk_at "rd") => `(tactic| simp only [startD, List.map, List.replicate, List.length_cons, List.length_nil, List.append_eq, List.append_nil, List.nil_append, List.cons_append, Nat.reduceSub, Nat.reduceAdd, List.getElem?_cons_zero, List.getElem?_cons_succ, List.set_cons_zero, List.set_cons_succ,
  dC, dVar, dOp, dTru, gTru, tru, dChain, dAnd, dOr, dNot, dAndV, dOrV, dNotV, dIf, dNeg, gNeg, dNil, dCons, dTup, dLst, dOwn, gIx, rBin, gAdd, gCmpI, dCall, dCallK, dSeq, dNext, dDrop, dRet, dRetN, dIfS, dName, dGNil, dGCons, dGTup, dSub, gSetL, dAsg, dPar, dPar3, dAug, gIpI, dSeqI, gSeqI, dRngI, gRng1, gRng2, dCB, gAbs, gInt, gMax, gMin, gGcd, gLen, lenD, gIsi, tyM, tyD, dBits, gBits, dMet, gAppend, dPart, dNoPart, dSl, gSl_tup, gSl_lst, cut_1, dEnds, gIs, isB, dNever, dCallX, dRaise, dTry, dFld, dCallV, gLRng, gFrz, dFrz, dFor, dLc, wipeD, dYes,
  sizeLine_eq, Nat.reduceLeDiff, gEq_int, gNe_int, gEq_strs, gNe_strs, gIn_two, gRepr_bl, rs_lst, rs_tup, rs_scr, rs_int, atI_0, atI_1, atI_2, atI_3, atI_4, atI_5, ixN_30, ixN_31, ixN_32, gEq_bl, gNe_bl, decide_eq_true_eq, beq_iff_eq, Bool.not_eq_true', beq_eq_false_iff_ne, decide_eq_false_iff_not, Bool.not_true, Bool.not_false, if_true, if_false, Bool.false_eq_true, ite_true, ite_false, true_and, and_true, ne_eq, Bool.bne_false, Bool.bne_true, reduceCtorEq])
local macro_rules | `(tactic| walk_at "rh") => `(tactic| simp only [*, startD, List.map, List.replicate, List.length_cons, List.length_nil, List.append_eq, List.append_nil, List.nil_append, List.cons_append, Nat.reduceSub, Nat.reduceAdd, List.getElem?_cons_zero, List.getElem?_cons_succ, List.set_cons_zero, List.set_cons_succ,
  dC, dVar, dOp, dTru, gTru, tru, dChain, dAnd, dOr, dNot, dAndV, dOrV, dNotV, dIf, dNeg, gNeg, dNil, dCons, dTup, dLst, dOwn, gIx, rBin, gAdd, gCmpI, dCall, dCallK, dSeq, dNext, dDrop, dRet, dRetN, dIfS, dName, dGNil, dGCons, dGTup, dSub, gSetL, dAsg, dPar, dPar3, dAug, gIpI, dSeqI, gSeqI, dRngI, gRng1, gRng2, dCB, gAbs, gInt, gMax, gMin, gGcd, gLen, lenD, gIsi, tyM, tyD, dBits, gBits, dMet, gAppend, dPart, dNoPart, dSl, gSl_tup, gSl_lst, cut_1, dEnds, gIs, isB, dNever, dCallX, dRaise, dTry, dFld, dCallV, gLRng, gFrz, dFrz, dFor, dLc, wipeD, dYes,
  sizeLine_eq, Nat.reduceLeDiff, gEq_int, gNe_int, gEq_strs, gNe_strs, gIn_two, gRepr_bl, rs_lst, rs_tup, rs_scr, rs_int, atI_0, atI_1, atI_2, atI_3, atI_4, atI_5, ixN_30, ixN_31, ixN_32, gEq_bl, gNe_bl, decide_eq_true_eq, beq_iff_eq, Bool.not_eq_true', beq_eq_false_iff_ne, decide_eq_false_iff_not, Bool.not_true, Bool.not_false, if_true, if_false, Bool.false_eq_true, ite_true, ite_false, true_and, and_true, ne_eq, Bool.bne_false, Bool.bne_true, reduceCtorEq])
local macro_rules | `(tactic| walk_at "kb") => `(tactic| simp only [kb_NoneType_list, kb_bool_list, kb_int_list, kb_str_list, kb_tuple_list, kb_list_list, kb_dict_list, kb_NoneType_int, kb_bool_int, kb_int_int, kb_str_int, kb_tuple_int, kb_list_int, kb_dict_int, kb_NoneType_bool, kb_bool_bool, kb_int_bool, kb_str_bool, kb_tuple_bool, kb_list_bool, kb_dict_bool, kb_NoneType_tuple, kb_bool_tuple, kb_int_tuple, kb_str_tuple, kb_tuple_tuple, kb_list_tuple, kb_dict_tuple, if_true, if_false, Bool.false_eq_true, ite_true, ite_false, Bool.not_true, Bool.not_false])
/-! RdGG: what the sheets' laws reckon with -/
theorem RV.same {m X Y B X' Y' B' : Int} {nx nb mx mb : Nat} {d d' : D} (h : RV m nx nb d X Y B) (h' : RV m mx mb d' X' Y' B') (h1 : X * B' = X' * B) (h2 : Y * B' = Y' * B) : d = d' := by
  rw [h.eq, h'.eq, rn_eq h.b0 h'.b0 h1 h2]
/-! ### the side told by the law -/
/-! ### the side of the square -/
/-! ### a drawn cutting -/
end DL
namespace DL
open PySem PySem.Spec PyProof.Rows L2
local macro_rules | `(tactic| walk_at "rd") => `(tactic| simp only [startD, List.map, List.replicate, List.length_cons, List.length_nil, List.append_eq, List.append_nil, List.nil_append, List.cons_append, Nat.reduceSub, Nat.reduceAdd, List.getElem?_cons_zero, List.getElem?_cons_succ, List.set_cons_zero, List.set_cons_succ,
  dC, dVar, dOp, dTru, gTru, tru, dChain, dAnd, dOr, dNot, dAndV, dOrV, dNotV, dIf, dNeg, gNeg, dNil, dCons, dTup, dLst, dOwn, gIx, rBin, gAdd, gCmpI, dCall, dCallK, dSeq, dNext, dDrop, dRet, dRetN, dIfS, dName, dGNil, dGCons, dGTup, dSub, gSetL, dAsg, dPar, dPar3, dAug, gIpI, dSeqI, gSeqI, dRngI, gRng1, gRng2, dCB, gAbs, gInt, gMax, gMin, gGcd, gLen, lenD, gIsi, tyM, tyD, dBits, gBits, dMet, gAppend, dPart, dNoPart, dSl, gSl_tup, gSl_lst, cut_1, dEnds, gIs, isB, dNever, dFor, dLc, wipeD, dYes,
  sizeLine_eq, Nat.reduceLeDiff, gEq_int, gNe_int, gEq_strs, gNe_strs, gIn_two, gRepr_bl, rs_lst, rs_tup, rs_scr, rs_int, atI_0, atI_1, atI_2, atI_3, atI_4, atI_5, ixN_30, ixN_31, ixN_32, gEq_bl, gNe_bl, decide_eq_true_eq, beq_iff_eq, Bool.not_eq_true', beq_eq_false_iff_ne, decide_eq_false_iff_not, Bool.not_true, Bool.not_false, if_true, if_false, Bool.false_eq_true, ite_true, ite_false, true_and, and_true, ne_eq, Bool.bne_false, Bool.bne_true, reduceCtorEq])
local macro_rules | `(tactic| walk_at "rh") => `(tactic| simp only [*, startD, List.map, List.replicate, List.length_cons, List.length_nil, List.append_eq, List.append_nil, List.nil_append, List.cons_append, Nat.reduceSub, Nat.reduceAdd, List.getElem?_cons_zero, List.getElem?_cons_succ, List.set_cons_zero, List.set_cons_succ,
  dC, dVar, dOp, dTru, gTru, tru, dChain, dAnd, dOr, dNot, dAndV, dOrV, dNotV, dIf, dNeg, gNeg, dNil, dCons, dTup, dLst, dOwn, gIx, rBin, gAdd, gCmpI, dCall, dCallK, dSeq, dNext, dDrop, dRet, dRetN, dIfS, dName, dGNil, dGCons, dGTup, dSub, gSetL, dAsg, dPar, dPar3, dAug, gIpI, dSeqI, gSeqI, dRngI, gRng1, gRng2, dCB, gAbs, gInt, gMax, gMin, gGcd, gLen, lenD, gIsi, tyM, tyD, dBits, gBits, dMet, gAppend, dPart, dNoPart, dSl, gSl_tup, gSl_lst, cut_1, dEnds, gIs, isB, dNever, dFor, dLc, wipeD, dYes,
  sizeLine_eq, Nat.reduceLeDiff, gEq_int, gNe_int, gEq_strs, gNe_strs, gIn_two, gRepr_bl, rs_lst, rs_tup, rs_scr, rs_int, atI_0, atI_1, atI_2, atI_3, atI_4, atI_5, ixN_30, ixN_31, ixN_32, gEq_bl, gNe_bl, decide_eq_true_eq, beq_iff_eq, Bool.not_eq_true', beq_eq_false_iff_ne, decide_eq_false_iff_not, Bool.not_true, Bool.not_false, if_true, if_false, Bool.false_eq_true, ite_true, ite_false, true_and, and_true, ne_eq, Bool.bne_false, Bool.bne_true, reduceCtorEq])
local macro_rules | `(tactic| walk_at "kb") => `(tactic| simp only [kb_NoneType_list, kb_bool_list, kb_int_list, kb_str_list, kb_tuple_list, kb_list_list, kb_dict_list, kb_NoneType_int, kb_bool_int, kb_int_int, kb_str_int, kb_tuple_int, kb_list_int, kb_dict_int, kb_NoneType_bool, kb_bool_bool, kb_int_bool, kb_str_bool, kb_tuple_bool, kb_list_bool, kb_dict_bool, kb_NoneType_tuple, kb_bool_tuple, kb_int_tuple, kb_str_tuple, kb_tuple_tuple, kb_list_tuple, kb_dict_tuple, if_true, if_false, Bool.false_eq_true, ite_true, ite_false, Bool.not_true, Bool.not_false])
/-! ### k08's own lists -/
end DL
namespace DL
open PySem PySem.Spec PyProof.Rows L2
local macro_rules | `(tactic| walk_at "rd") => `(tactic| simp only [startD, List.map, List.replicate, List.length_cons, List.length_nil, List.append_eq, List.append_nil, List.nil_append, List.cons_append, Nat.reduceSub, Nat.reduceAdd, List.getElem?_cons_zero, List.getElem?_cons_succ, List.set_cons_zero, List.set_cons_succ,
  dC, dVar, dOp, dTru, gTru, tru, dChain, dAnd, dOr, dNot, dAndV, dOrV, dNotV, dIf, dNeg, gNeg, dNil, dCons, dTup, dLst, dOwn, gIx, rBin, gAdd, gCmpI, dCall, dCallK, dSeq, dNext, dDrop, dRet, dRetN, dIfS, dName, dGNil, dGCons, dGTup, dSub, gSetL, dAsg, dPar, dPar3, dAug, gIpI, dSeqI, gSeqI, dRngI, gRng1, gRng2, dCB, gAbs, gInt, gMax, gMin, gGcd, gLen, lenD, gIsi, tyM, tyD, dBits, gBits, dMet, gAppend, dPart, dNoPart, dSl, gSl_tup, gSl_lst, cut_1, dEnds, gIs, isB, dNever, dCallX, dRaise, dTry, dFld, dCallV, gLRng, gFrz, dFrz, dFor, dLc, wipeD, dYes,
  sizeLine_eq, Nat.reduceLeDiff, gEq_int, gNe_int, gEq_strs, gNe_strs, gIn_two, gRepr_bl, rs_lst, rs_tup, rs_scr, rs_int, atI_0, atI_1, atI_2, atI_3, atI_4, atI_5, ixN_30, ixN_31, ixN_32, gEq_bl, gNe_bl, decide_eq_true_eq, beq_iff_eq, Bool.not_eq_true', beq_eq_false_iff_ne, decide_eq_false_iff_not, Bool.not_true, Bool.not_false, if_true, if_false, Bool.false_eq_true, ite_true, ite_false, true_and, and_true, ne_eq, Bool.bne_false, Bool.bne_true, reduceCtorEq])
local macro_rules | `(tactic| walk_at "rh") => `(tactic| simp only [*, startD, List.map, List.replicate, List.length_cons, List.length_nil, List.append_eq, List.append_nil, List.nil_append, List.cons_append, Nat.reduceSub, Nat.reduceAdd, List.getElem?_cons_zero, List.getElem?_cons_succ, List.set_cons_zero, List.set_cons_succ,
  dC, dVar, dOp, dTru, gTru, tru, dChain, dAnd, dOr, dNot, dAndV, dOrV, dNotV, dIf, dNeg, gNeg, dNil, dCons, dTup, dLst, dOwn, gIx, rBin, gAdd, gCmpI, dCall, dCallK, dSeq, dNext, dDrop, dRet, dRetN, dIfS, dName, dGNil, dGCons, dGTup, dSub, gSetL, dAsg, dPar, dPar3, dAug, gIpI, dSeqI, gSeqI, dRngI, gRng1, gRng2, dCB, gAbs, gInt, gMax, gMin, gGcd, gLen, lenD, gIsi, tyM, tyD, dBits, gBits, dMet, gAppend, dPart, dNoPart, dSl, gSl_tup, gSl_lst, cut_1, dEnds, gIs, isB, dNever, dCallX, dRaise, dTry, dFld, dCallV, gLRng, gFrz, dFrz, dFor, dLc, wipeD, dYes,
  sizeLine_eq, Nat.reduceLeDiff, gEq_int, gNe_int, gEq_strs, gNe_strs, gIn_two, gRepr_bl, rs_lst, rs_tup, rs_scr, rs_int, atI_0, atI_1, atI_2, atI_3, atI_4, atI_5, ixN_30, ixN_31, ixN_32, gEq_bl, gNe_bl, decide_eq_true_eq, beq_iff_eq, Bool.not_eq_true', beq_eq_false_iff_ne, decide_eq_false_iff_not, Bool.not_true, Bool.not_false, if_true, if_false, Bool.false_eq_true, ite_true, ite_false, true_and, and_true, ne_eq, Bool.bne_false, Bool.bne_true, reduceCtorEq])
local macro_rules | `(tactic| walk_at "kb") => `(tactic| simp only [kb_NoneType_list, kb_bool_list, kb_int_list, kb_str_list, kb_tuple_list, kb_list_list, kb_dict_list, kb_NoneType_int, kb_bool_int, kb_int_int, kb_str_int, kb_tuple_int, kb_list_int, kb_dict_int, kb_NoneType_bool, kb_bool_bool, kb_int_bool, kb_str_bool, kb_tuple_bool, kb_list_bool, kb_dict_bool, kb_NoneType_tuple, kb_bool_tuple, kb_int_tuple, kb_str_tuple, kb_tuple_tuple, kb_list_tuple, kb_dict_tuple, if_true, if_false, Bool.false_eq_true, ite_true, ite_false, Bool.not_true, Bool.not_false])
/-! RdCC: cuttings with their errors, numbered -/
/-! ### places in a list of tuples of whole numbers -/
/-! ### the functions -/
end DL
namespace DL
open PySem PySem.Spec PyProof.Rows L2
local macro_rules | `(tactic| walk_at "rd") => `(tactic| simp only [startD, List.map, List.replicate, List.length_cons, List.length_nil, List.append_eq, List.append_nil, List.nil_append, List.cons_append, Nat.reduceSub, Nat.reduceAdd, List.getElem?_cons_zero, List.getElem?_cons_succ, List.set_cons_zero, List.set_cons_succ,
  dC, dVar, dOp, dTru, gTru, tru, dChain, dAnd, dOr, dNot, dAndV, dOrV, dNotV, dIf, dNeg, gNeg, dNil, dCons, dTup, dLst, dOwn, gIx, rBin, gAdd, gCmpI, dCall, dCallK, dSeq, dNext, dDrop, dRet, dRetN, dIfS, dName, dGNil, dGCons, dGTup, dSub, gSetL, dAsg, dPar, dPar3, dAug, gIpI, dSeqI, gSeqI, dRngI, gRng1, gRng2, dCB, gAbs, gInt, gMax, gMin, gGcd, gLen, lenD, gIsi, tyM, tyD, dBits, gBits, dMet, gAppend, dPart, dNoPart, dSl, gSl_tup, gSl_lst, cut_1, dEnds, gIs, isB, dNever, dCallX, dRaise, dTry, dFld, dCallV, gLRng, gFrz, dFrz, dFor, dLc, wipeD, dYes,
  sizeLine_eq, Nat.reduceLeDiff, gEq_int, gNe_int, gEq_strs, gNe_strs, gIn_two, gRepr_bl, rs_lst, rs_tup, rs_scr, rs_int, atI_0, atI_1, atI_2, atI_3, atI_4, atI_5, ixN_30, ixN_31, ixN_32, gEq_bl, gNe_bl, decide_eq_true_eq, beq_iff_eq, Bool.not_eq_true', beq_eq_false_iff_ne, decide_eq_false_iff_not, Bool.not_true, Bool.not_false, if_true, if_false, Bool.false_eq_true, ite_true, ite_false, true_and, and_true, ne_eq, Bool.bne_false, Bool.bne_true, reduceCtorEq])
local macro_rules | `(tactic| walk_at "rh") => `(tactic| simp only [*, startD, List.map, List.replicate, List.length_cons, List.length_nil, List.append_eq, List.append_nil, List.nil_append, List.cons_append, Nat.reduceSub, Nat.reduceAdd, List.getElem?_cons_zero, List.getElem?_cons_succ, List.set_cons_zero, List.set_cons_succ,
  dC, dVar, dOp, dTru, gTru, tru, dChain, dAnd, dOr, dNot, dAndV, dOrV, dNotV, dIf, dNeg, gNeg, dNil, dCons, dTup, dLst, dOwn, gIx, rBin, gAdd, gCmpI, dCall, dCallK, dSeq, dNext, dDrop, dRet, dRetN, dIfS, dName, dGNil, dGCons, dGTup, dSub, gSetL, dAsg, dPar, dPar3, dAug, gIpI, dSeqI, gSeqI, dRngI, gRng1, gRng2, dCB, gAbs, gInt, gMax, gMin, gGcd, gLen, lenD, gIsi, tyM, tyD, dBits, gBits, dMet, gAppend, dPart, dNoPart, dSl, gSl_tup, gSl_lst, cut_1, dEnds, gIs, isB, dNever, dCallX, dRaise, dTry, dFld, dCallV, gLRng, gFrz, dFrz, dFor, dLc, wipeD, dYes,
  sizeLine_eq, Nat.reduceLeDiff, gEq_int, gNe_int, gEq_strs, gNe_strs, gIn_two, gRepr_bl, rs_lst, rs_tup, rs_scr, rs_int, atI_0, atI_1, atI_2, atI_3, atI_4, atI_5, ixN_30, ixN_31, ixN_32, gEq_bl, gNe_bl, decide_eq_true_eq, beq_iff_eq, Bool.not_eq_true', beq_eq_false_iff_ne, decide_eq_false_iff_not, Bool.not_true, Bool.not_false, if_true, if_false, Bool.false_eq_true, ite_true, ite_false, true_and, and_true, ne_eq, Bool.bne_false, Bool.bne_true, reduceCtorEq])
local macro_rules | `(tactic| walk_at "kb") => `(tactic| simp only [kb_NoneType_list, kb_bool_list, kb_int_list, kb_str_list, kb_tuple_list, kb_list_list, kb_dict_list, kb_NoneType_int, kb_bool_int, kb_int_int, kb_str_int, kb_tuple_int, kb_list_int, kb_dict_int, kb_NoneType_bool, kb_bool_bool, kb_int_bool, kb_str_bool, kb_tuple_bool, kb_list_bool, kb_dict_bool, kb_NoneType_tuple, kb_bool_tuple, kb_int_tuple, kb_str_tuple, kb_tuple_tuple, kb_list_tuple, kb_dict_tuple, if_true, if_false, Bool.false_eq_true, ite_true, ite_false, Bool.not_true, Bool.not_false])
/-! ### the outline -/
/-! ### the law's own outline -/
theorem RV.up {m X Y B : Int} {nx nb mx mb : Nat} {d : D} (h : RV m nx nb d X Y B) (h1 : nx ≤ mx := by decide) (h2 : nb ≤ mb := by decide) : RV m mx mb d X Y B := ⟨h.eq, h.b0, h.bx.up h1, h.bY.up h1, h.bB.up h2⟩
theorem b0 : Bi 100 0 := Bi.of_abs 0 (by decide) (by decide)
/-! ### the area -/
/-! ### less than -/
/-! ### all ends are one -/
/-! ### one cutting's outline is right -/
structure Sh4 (d : D) : Prop where
  f : fine 10 d = true
  l : lit 400 d = true
  w : wt 400 d ≤ 40000
theorem Sh4.shown {d : D} (h : Sh4 d) (M : Mem) : ∃ z, shwnZ (resD M d) = some z := by
  rw [resD_fine M 10 d h.f]
  obtain ⟨z, hz⟩ := shw_of 400 10 h.f h.l (by have := h.w; omega)
  exact ⟨z, shwnZ_of hz⟩
/-! ### the law -/
end DL
namespace DL
open PySem PySem.Spec PyProof.Rows L2
local macro_rules | `(tactic| walk_at "rd") => `(tactic| simp only [startD, List.map, List.replicate, List.length_cons, List.length_nil, List.append_eq, List.append_nil, List.nil_append, List.cons_append, Nat.reduceSub, Nat.reduceAdd, List.getElem?_cons_zero, List.getElem?_cons_succ, List.set_cons_zero, List.set_cons_succ,
  dC, dVar, dOp, dTru, gTru, tru, dChain, dAnd, dOr, dNot, dAndV, dOrV, dNotV, dIf, dNeg, gNeg, dNil, dCons, dTup, dLst, dOwn, gIx, rBin, gAdd, gCmpI, dCall, dCallK, dSeq, dNext, dDrop, dRet, dRetN, dIfS, dName, dGNil, dGCons, dGTup, dSub, gSetL, dAsg, dPar, dPar3, dAug, gIpI, dSeqI, gSeqI, dRngI, gRng1, gRng2, dCB, gAbs, gInt, gMax, gMin, gGcd, gLen, lenD, gIsi, tyM, tyD, dBits, gBits, dMet, gAppend, dPart, dNoPart, dSl, gSl_tup, gSl_lst, cut_1, dEnds, gIs, isB, dNever, dCallX, dRaise, dTry, dFld, dCallV, gLRng, gFrz, dFrz, dFor, dLc, wipeD, dYes,
  sizeLine_eq, Nat.reduceLeDiff, gEq_int, gNe_int, gEq_strs, gNe_strs, gIn_two, gRepr_bl, rs_lst, rs_tup, rs_scr, rs_int, atI_0, atI_1, atI_2, atI_3, atI_4, atI_5, ixN_30, ixN_31, ixN_32, gEq_bl, gNe_bl, decide_eq_true_eq, beq_iff_eq, Bool.not_eq_true', beq_eq_false_iff_ne, decide_eq_false_iff_not, Bool.not_true, Bool.not_false, if_true, if_false, Bool.false_eq_true, ite_true, ite_false, true_and, and_true, ne_eq, Bool.bne_false, Bool.bne_true, reduceCtorEq])
local macro_rules | `(tactic| walk_at "rh") => `(tactic| simp only [*, startD, List.map, List.replicate, List.length_cons, List.length_nil, List.append_eq, List.append_nil, List.nil_append, List.cons_append, Nat.reduceSub, Nat.reduceAdd, List.getElem?_cons_zero, List.getElem?_cons_succ, List.set_cons_zero, List.set_cons_succ,
  dC, dVar, dOp, dTru, gTru, tru, dChain, dAnd, dOr, dNot, dAndV, dOrV, dNotV, dIf, dNeg, gNeg, dNil, dCons, dTup, dLst, dOwn, gIx, rBin, gAdd, gCmpI, dCall, dCallK, dSeq, dNext, dDrop, dRet, dRetN, dIfS, dName, dGNil, dGCons, dGTup, dSub, gSetL, dAsg, dPar, dPar3, dAug, gIpI, dSeqI, gSeqI, dRngI, gRng1, gRng2, dCB, gAbs, gInt, gMax, gMin, gGcd, gLen, lenD, gIsi, tyM, tyD, dBits, gBits, dMet, gAppend, dPart, dNoPart, dSl, gSl_tup, gSl_lst, cut_1, dEnds, gIs, isB, dNever, dCallX, dRaise, dTry, dFld, dCallV, gLRng, gFrz, dFrz, dFor, dLc, wipeD, dYes,
  sizeLine_eq, Nat.reduceLeDiff, gEq_int, gNe_int, gEq_strs, gNe_strs, gIn_two, gRepr_bl, rs_lst, rs_tup, rs_scr, rs_int, atI_0, atI_1, atI_2, atI_3, atI_4, atI_5, ixN_30, ixN_31, ixN_32, gEq_bl, gNe_bl, decide_eq_true_eq, beq_iff_eq, Bool.not_eq_true', beq_eq_false_iff_ne, decide_eq_false_iff_not, Bool.not_true, Bool.not_false, if_true, if_false, Bool.false_eq_true, ite_true, ite_false, true_and, and_true, ne_eq, Bool.bne_false, Bool.bne_true, reduceCtorEq])
local macro_rules | `(tactic| walk_at "kb") => `(tactic| simp only [kb_NoneType_list, kb_bool_list, kb_int_list, kb_str_list, kb_tuple_list, kb_list_list, kb_dict_list, kb_NoneType_int, kb_bool_int, kb_int_int, kb_str_int, kb_tuple_int, kb_list_int, kb_dict_int, kb_NoneType_bool, kb_bool_bool, kb_int_bool, kb_str_bool, kb_tuple_bool, kb_list_bool, kb_dict_bool, kb_NoneType_tuple, kb_bool_tuple, kb_int_tuple, kb_str_tuple, kb_tuple_tuple, kb_list_tuple, kb_dict_tuple, if_true, if_false, Bool.false_eq_true, ite_true, ite_false, Bool.not_true, Bool.not_false])
/-! X_k59: sides, signs and what deeds join -/
/-- a measure to 145 -/
structure M59 (m : Nat) : Prop where
  h5 : 5 ≤ m
  h4 : m % 4 < 2
  hm : m ≤ 145
theorem M59.ms {m : Nat} (h : M59 m) : isMeas (.int (m : Int)) = true := by
  have h5 := h.h5
  have h4 := h.h4
  simp only [isMeas, decide_eq_true (show (5 : Int) ≤ m by omega), Bool.true_and, Bool.or_eq_true, beq_iff_eq]
  omega
/-- a cutting of the measure m -/
structure C59 (m : Nat) (a b c e : Int) : Prop where
  mm : M59 m
  cut : isCut a b c e = true
  me : meas4 b c e = (m : Int)
theorem C59.isC {m : Nat} {a b c e : Int} (h : C59 m a b c e) : IsC m [a, b, c, e] := ⟨a, b, c, e, rfl, h.cut, h.me⟩
theorem C59.m600 {m : Nat} {a b c e : Int} (h : C59 m a b c e) : meas4 b c e ≤ 600 := by
  have := h.me
  have := h.mm.hm
  omega
theorem C59.cb {m : Nat} {a b c e : Int} (h : C59 m a b c e) : CutB 12 a b c e := small_cb h.cut (by have := h.m600; omega)
def sp_is_signed : DSp := fun ds M Q _ => ∃ m : Nat, ds = [.int (m : Int)] ∧ Q (.bl (signB m)) M
theorem signB_iff {m : Nat} : signB m = true ↔ m % 8 = 1 ∧ 10 ≤ m := by
  unfold signB
  rw [Bool.and_eq_true, Nat.beq_eq, Nat.ble_eq]
theorem rd_is_signed : ∀ ds M Q, ds.length = 1 → sp_is_signed ds M Q DX0 → t_is_signed (dEnds M Q) (startD 1 ds) M := by
  rintro _ M Q - ⟨m, rfl, q⟩
  unfold t_is_signed
  walk_at "rd"
  refine ⟨(by decide : (8 : Int) ≠ 0), ?_⟩
  rw [fmod_pos (show (0 : Int) < 8 by decide)]
  have fin : ∀ v, v = signB m → Rtq M Q (.bl v) M := by rintro _ rfl; exact rtq q
  by_cases h1 : (m : Int) % 8 = 1
  · rw [if_pos h1]
    refine fin _ ?_
    by_cases h2 : 9 < (m : Int)
    · rw [decide_eq_true h2, signB_iff.mpr ⟨by omega, by omega⟩]
    · rw [decide_eq_false h2]
      cases e : signB m with
      | false => rfl
      | true => have := signB_iff.mp e; omega
  · rw [if_neg h1]
    refine fin _ ?_
    have e0 : ((m : Int) % 8 == 1) = false := beq_eq_false_iff_ne.mpr h1
    rw [e0]
    cases e : signB m with
    | false => rfl
    | true => have := signB_iff.mp e; omega
def sp_turn_by : DSp := fun ds M Q _ => ∃ a b c e : Int, ds = [T4 a b c e] ∧ Bi 100 a ∧ Bi 100 b ∧ Bi 100 c ∧ Q (.int ((c + 1) * (a + b + a * b))) M
theorem rd_turn_by : ∀ ds M Q, ds.length = 1 → sp_turn_by ds M Q DX0 → t_turn_by (dEnds M Q) (startD 5 ds) M := by
  rintro _ M Q - ⟨a, b, c, e, rfl, ba, bb, bc, q⟩
  unfold t_turn_by
  walk_at "rd"
  have b1 : Bi 202 (a + b + a * b) := (((ba.add bb).up (by decide : 101 ≤ 201))).add ((ba.mul bb).up (by decide))
  have b2 : Bi 101 (c + 1) := bc.add (Bi.of_abs 1 (by decide) (by decide))
  exact ⟨⟨ba.sm, bb.sm⟩, ⟨b2.sm, b1.sm⟩, rtq q⟩
/-- what the factor adds to the sign -/
def KF (m : Nat) (κ : Int) : Prop := ∃ g : Nat, IsFac m g ∧ κ = -(((g : Int) + 1) / 2)
theorem KF.uni {m : Nat} {κ κ' : Int} (h : KF m κ) (g : KF m κ') : κ = κ' := by
  obtain ⟨x, h1, rfl⟩ := h
  obtain ⟨y, h2, rfl⟩ := g
  rw [h1.uni h2]
theorem fac_odd {m g : Nat} (h : IsFac m g) (hs : signB m = true) : g % 2 = 1 := by
  have h8 := (signB_iff.mp hs).1
  obtain ⟨k, hk⟩ := h.dv
  rcases (by omega : g % 2 = 0 ∨ g % 2 = 1) with z | z
  · obtain ⟨t, ht⟩ : ∃ t, g = 2 * t := ⟨g / 2, by omega⟩
    have : m = 2 * (2 * (t * t) * k) := by rw [hk, ht]; grind
    omega
  · exact z
/-- joined: one sign, or none -/
def jn (m : Nat) (x y : List Int) : Bool := match x, y with
  | [a, b, c, e], [a', b', c', e'] => !(signB m) || decide (par a b c e = par a' b' c' e')
  | _, _ => false
theorem AllC.c59 {m : Nat} {l : List (List Int)} (h : AllC m l) (hm : M59 m) {x : List Int} (hx : x ∈ l) : ∃ a b c e, x = [a, b, c, e] ∧ C59 m a b c e := by
  obtain ⟨a, b, c, e, rfl, h1, h2⟩ := (h.mem x).mp hx
  exact ⟨a, b, c, e, rfl, hm, h1, h2⟩
/-- a lot -/
def lotL (m : Nat) (x : List Int) (l : List (List Int)) : List (List Int) := l.filter (jn m x)
/-! ### all lots -/
/-- the lots of what came so far -/
inductive LotsP (m : Nat) (p : List (List Int)) : List (List (List Int)) → Prop
  | none : p = [] → LotsP m p []
  | one (x : List Int) (A : List (List Int)) : p = x :: A → (∀ y ∈ p, jn m x y = true) → LotsP m p [x :: A]
  | two (x : List Int) (A : List (List Int)) (z : List Int) (B : List (List Int)) : x :: A = p.filter (jn m x) → z :: B = (p.filter fun y => !(jn m x y)) → LotsP m p [x :: A, z :: B]
theorem getM {M G : Mem} {x : Own} : (M ++ x :: G)[M.length]? = some x := by rw [List.getElem?_append_right (Nat.le_refl _), Nat.sub_self]; rfl
theorem setM {M G : Mem} {x y : Own} : (M ++ x :: G).set M.length y = M ++ y :: G := by rw [List.set_append_right _ _ (Nat.le_refl _), Nat.sub_self]; rfl
theorem jn_swap {m : Nat} {a b c e a' b' c' e' a'' b'' c'' e'' : Int} (h : jn m [a, b, c, e] [a', b', c', e'] = false) : jn m [a', b', c', e'] [a'', b'', c'', e''] = !(jn m [a, b, c, e] [a'', b'', c'', e'']) := by
  replace h : (!(signB m) || decide (par a b c e = par a' b' c' e')) = false := h
  show (!(signB m) || decide (par a' b' c' e' = par a'' b'' c'' e'')) = !(!(signB m) || decide (par a b c e = par a'' b'' c'' e''))
  rw [Bool.or_eq_false_iff, decide_eq_false_iff_not] at h
  rw [h.1, Bool.false_or, Bool.false_or]
  have h1 := par_01 a b c e
  have h2 := par_01 a' b' c' e'
  have h3 := par_01 a'' b'' c'' e''
  by_cases z : par a b c e = par a'' b'' c'' e''
  · rw [decide_eq_true z, decide_eq_false (by omega)]; rfl
  · rw [decide_eq_false z, decide_eq_true (by omega)]; rfl
/-! ### the lots' sizes -/
def Szs (m : Nat) (l : List (List Int)) (zs : List Int) : Prop := (signB m = false ∧ zs = [(l.length : Int)]) ∨
  (signB m = true ∧ ∃ x ∈ l, zs = [((l.filter (jn m x)).length : Int), ((l.filter fun y => !(jn m x y)).length : Int)] ∧ 0 < (l.filter (jn m x)).length ∧ 0 < (l.filter fun y => !(jn m x y)).length)
theorem jn_signed {m : Nat} (hs : signB m = true) {a b c e a' b' c' e' : Int} : jn m [a, b, c, e] [a', b', c', e'] = decide (par a b c e = par a' b' c' e') := by
  show (!(signB m) || decide (par a b c e = par a' b' c' e')) = _
  rw [hs]; rfl
theorem jn_unsigned {m : Nat} (hs : signB m = false) {a b c e a' b' c' e' : Int} : jn m [a, b, c, e] [a', b', c', e'] = true := by
  show (!(signB m) || decide (par a b c e = par a' b' c' e')) = _
  rw [hs]; rfl
theorem LotsP.len {m : Nat} {l : List (List Int)} {ls : List (List (List Int))} (h : LotsP m l ls) : ls.length ≤ 2 := by
  cases h <;> simp
/-! ### what is joined, walked -/
/-- found so far -/
structure Fnd (m : Nat) (x0 : List Int) (F : List (List Int)) : Prop where
  nd : F.Nodup
  st : x0 ∈ F
  cut : ∀ x ∈ F, IsC m x
  rch : ∀ x ∈ F, Rch x0 x
/-- all that deeds lead to from here is there -/
def Cld (x : List Int) (F : List (List Int)) : Prop := ∀ a b c e p q a' w g e', x = [a, b, c, e] → isDeed b c e p q = true → IsDone a b c e p q a' w g e' → [a', w, g, e'] ∈ F
theorem nd_len {α : Type} [DecidableEq α] : ∀ {F l : List α}, F.Nodup → (∀ x ∈ F, x ∈ l) → F.length ≤ l.length
  | [], _, _, _ => Nat.zero_le _
  | x :: F, l, h, hs => by
    have hx := hs x List.mem_cons_self
    obtain ⟨h1, h2⟩ := List.nodup_cons.mp h
    have := nd_len (F := F) (l := l.erase x) h2 fun y hy => (List.mem_erase_of_ne (fun z : y = x => h1 (by rw [← z]; exact hy))).mpr (hs y (List.mem_cons_of_mem _ hy))
    rw [List.length_erase_of_mem hx] at this
    have hp := List.length_pos_of_mem hx
    rw [List.length_cons]
    omega
theorem Fnd.len {m : Nat} {x0 : List Int} {F l : List (List Int)} (h : Fnd m x0 F) (hl : AllC m l) : F.length ≤ l.length :=
  nd_len h.nd fun x hx => (hl.mem x).mpr (h.cut x hx)
theorem Fnd.all {m : Nat} {x0 : List Int} {F : List (List Int)} (h : Fnd m x0 F) (hc : ∀ x ∈ F, Cld x F) : ∀ y, Rch x0 y → y ∈ F := by
  intro y hy
  induction hy with
  | refl => exact h.st
  | step h0 h1 h2 ih => exact hc _ (ih) _ _ _ _ _ _ _ _ _ _ rfl h1 h2
/-! ### sides -/
/-! ### the law -/
theorem flt_len {α : Type} (p : α → Bool) : ∀ l : List α, (l.filter p).length + (l.filter fun y => !(p y)).length = l.length
  | [] => rfl
  | x :: l => by
    have ih := flt_len p l
    rw [List.filter_cons, List.filter_cons]
    cases p x <;> simp <;> omega
theorem Szs.len {m : Nat} {l : List (List Int)} {zs : List Int} (h : Szs m l zs) : (zs.length : Int) = 1 + if signB m = true then 1 else 0 := by
  rcases h with ⟨h, rfl⟩ | ⟨h, x, _, rfl, _⟩ <;> rw [h] <;> rfl
theorem Szs.sum {m : Nat} {l : List (List Int)} {zs : List Int} (h : Szs m l zs) : zs.sum = (l.length : Int) := by
  rcases h with ⟨h, rfl⟩ | ⟨h, x, _, rfl, _⟩
  · simp
  · have := flt_len (jn m x) l
    simp
    omega
theorem Szs.mem {m : Nat} {a b c e : Int} {l : List (List Int)} {zs : List Int} (h : Szs m l zs) (hc : C59 m a b c e) (hl : AllC m l) : ((lotL m [a, b, c, e] l).length : Int) ∈ zs := by
  rcases h with ⟨hs, rfl⟩ | ⟨hs, x, hx, rfl, _⟩
  · have : lotL m [a, b, c, e] l = l := by
      unfold lotL
      rw [List.filter_eq_self]
      intro y hy
      obtain ⟨_, _, _, _, rfl, _⟩ := hl.c59 hc.mm hy
      exact jn_unsigned hs
    rw [this]
    exact List.mem_singleton.mpr rfl
  · obtain ⟨a', b', c', e', rfl, hc'⟩ := hl.c59 hc.mm hx
    cases hj : jn m [a', b', c', e'] [a, b, c, e] with
    | true =>
      have : lotL m [a, b, c, e] l = l.filter (jn m [a', b', c', e']) := by
        unfold lotL
        refine List.filter_congr fun y hy => ?_
        obtain ⟨a2, b2, c2, e2, rfl, _⟩ := hl.c59 hc.mm hy
        rw [jn_signed hs] at hj ⊢
        rw [jn_signed hs, of_decide_eq_true hj]
      rw [this]
      exact List.mem_cons_self
    | false =>
      have : lotL m [a, b, c, e] l = l.filter fun y => !(jn m [a', b', c', e'] y) := by
        unfold lotL
        refine List.filter_congr fun y hy => ?_
        obtain ⟨a2, b2, c2, e2, rfl, _⟩ := hl.c59 hc.mm hy
        exact jn_swap hj
      rw [this]
      exact List.mem_cons_of_mem _ (List.mem_singleton.mpr rfl)
end DL
namespace DL
open PySem PySem.Spec PyProof.Rows L2
/-! RdOO: what the laws on lots and ways (k20 to k26) draw and list -/
local macro_rules | `(tactic| walk_at "rd") => `(tactic| simp only [startD, List.map, List.replicate, List.length_cons, List.length_nil, List.append_eq, List.append_nil, List.nil_append, List.cons_append, Nat.reduceSub, Nat.reduceAdd, List.getElem?_cons_zero, List.getElem?_cons_succ, List.set_cons_zero, List.set_cons_succ,
  dC, dVar, dOp, dTru, gTru, tru, dChain, dAnd, dOr, dNot, dAndV, dOrV, dNotV, dIf, dNeg, gNeg, dNil, dCons, dTup, dLst, dOwn, gIx, rBin, gAdd, gCmpI, dCall, dCallK, dSeq, dNext, dDrop, dRet, dRetN, dIfS, dName, dGNil, dGCons, dGTup, dSub, gSetL, dAsg, dPar, dPar3, dAug, gIpI, dSeqI, gSeqI, dRngI, gRng1, gRng2, dCB, gAbs, gInt, gMax, gMin, gGcd, gLen, lenD, gIsi, tyM, tyD, dBits, gBits, dMet, gAppend, dPart, dNoPart, dSl, gSl_tup, gSl_lst, cut_1, dEnds, gIs, isB, dNever, dCallX, dRaise, dTry, dFld, dCallV, gLRng, gFrz, dFrz, dFor, dLc, wipeD, dYes,
  sizeLine_eq, Nat.reduceLeDiff, gEq_int, gNe_int, gEq_strs, gNe_strs, gIn_two, gRepr_bl, rs_lst, rs_tup, rs_scr, rs_int, atI_0, atI_1, atI_2, atI_3, atI_4, atI_5, ixN_30, ixN_31, ixN_32, gEq_bl, gNe_bl, decide_eq_true_eq, beq_iff_eq, Bool.not_eq_true', beq_eq_false_iff_ne, decide_eq_false_iff_not, Bool.not_true, Bool.not_false, if_true, if_false, Bool.false_eq_true, ite_true, ite_false, true_and, and_true, ne_eq, Bool.bne_false, Bool.bne_true, reduceCtorEq])
local macro_rules | `(tactic| walk_at "rh") => `(tactic| simp only [*, startD, List.map, List.replicate, List.length_cons, List.length_nil, List.append_eq, List.append_nil, List.nil_append, List.cons_append, Nat.reduceSub, Nat.reduceAdd, List.getElem?_cons_zero, List.getElem?_cons_succ, List.set_cons_zero, List.set_cons_succ,
  dC, dVar, dOp, dTru, gTru, tru, dChain, dAnd, dOr, dNot, dAndV, dOrV, dNotV, dIf, dNeg, gNeg, dNil, dCons, dTup, dLst, dOwn, gIx, rBin, gAdd, gCmpI, dCall, dCallK, dSeq, dNext, dDrop, dRet, dRetN, dIfS, dName, dGNil, dGCons, dGTup, dSub, gSetL, dAsg, dPar, dPar3, dAug, gIpI, dSeqI, gSeqI, dRngI, gRng1, gRng2, dCB, gAbs, gInt, gMax, gMin, gGcd, gLen, lenD, gIsi, tyM, tyD, dBits, gBits, dMet, gAppend, dPart, dNoPart, dSl, gSl_tup, gSl_lst, cut_1, dEnds, gIs, isB, dNever, dCallX, dRaise, dTry, dFld, dCallV, gLRng, gFrz, dFrz, dFor, dLc, wipeD, dYes,
  sizeLine_eq, Nat.reduceLeDiff, gEq_int, gNe_int, gEq_strs, gNe_strs, gIn_two, gRepr_bl, rs_lst, rs_tup, rs_scr, rs_int, atI_0, atI_1, atI_2, atI_3, atI_4, atI_5, ixN_30, ixN_31, ixN_32, gEq_bl, gNe_bl, decide_eq_true_eq, beq_iff_eq, Bool.not_eq_true', beq_eq_false_iff_ne, decide_eq_false_iff_not, Bool.not_true, Bool.not_false, if_true, if_false, Bool.false_eq_true, ite_true, ite_false, true_and, and_true, ne_eq, Bool.bne_false, Bool.bne_true, reduceCtorEq])
local macro_rules | `(tactic| walk_at "kb") => `(tactic| simp only [kb_NoneType_list, kb_bool_list, kb_int_list, kb_str_list, kb_tuple_list, kb_list_list, kb_dict_list, kb_NoneType_int, kb_bool_int, kb_int_int, kb_str_int, kb_tuple_int, kb_list_int, kb_dict_int, kb_NoneType_bool, kb_bool_bool, kb_int_bool, kb_str_bool, kb_tuple_bool, kb_list_bool, kb_dict_bool, kb_NoneType_tuple, kb_bool_tuple, kb_int_tuple, kb_str_tuple, kb_tuple_tuple, kb_list_tuple, kb_dict_tuple, if_true, if_false, Bool.false_eq_true, ite_true, ite_false, Bool.not_true, Bool.not_false])
theorem rd_l_random_8926 : ∀ ds M Q, ds.length = 2 → sp_random ds M Q DX0 → t_l_random_8926 sp_hash (dEnds M Q) (startD 4 ds) M := rd_l_random_7821
theorem gcd_stepS (l : Int) {h : Int} (hh : h ≠ 0) : Int.gcd h (l.fmod h) = Int.gcd l h := by
  have e : l.fmod h = l - h * (l.fdiv h) := by
    have := Int.mul_fdiv_add_fmod l h
    omega
  rw [e, Int.gcd_comm l h]
  refine Nat.dvd_antisymm ?_ ?_
  · refine Int.natCast_dvd_natCast.mp (Int.dvd_coe_gcd ?_ ?_)
    · exact Int.gcd_dvd_left ..
    · have h1 : (Int.gcd h (l - h * l.fdiv h) : Int) ∣ h := Int.gcd_dvd_left ..
      have h2 : (Int.gcd h (l - h * l.fdiv h) : Int) ∣ l - h * l.fdiv h := Int.gcd_dvd_right ..
      have := Int.dvd_add h2 (Int.dvd_mul_of_dvd_left (b := h) (c := l.fdiv h) h1)
      rwa [Int.sub_add_cancel] at this
  · refine Int.natCast_dvd_natCast.mp (Int.dvd_coe_gcd ?_ ?_)
    · exact Int.gcd_dvd_left ..
    · have h1 : (Int.gcd h l : Int) ∣ h := Int.gcd_dvd_left ..
      have h2 : (Int.gcd h l : Int) ∣ l := Int.gcd_dvd_right ..
      exact Int.dvd_sub h2 (Int.dvd_mul_of_dvd_left h1)
theorem rd_l_common_2228 : ∀ ds M Q, ds.length = 2 → sp_gcd ds M Q DX0 → t_l_common_2228 (dEnds M Q) (startD 2 ds) M := by
  rintro _ M Q - ⟨a, b, rfl, q⟩
  unfold t_l_common_2228
  refine dSeq_open fun B hB => ?_
  refine dwhile_of (fun n r M' => ∃ l h : Int, r = [some (.int l), some (.int h)] ∧ M' = M ∧ Int.gcd l h = Int.gcd a b ∧ n = h.natAbs) _ ⟨a, b, rfl, rfl, rfl, rfl⟩ ?_
  rintro n r M' ⟨l, h, rfl, rfl, hg, rfl⟩
  walk_at "rd"
  by_cases h0 : h = 0
  · subst h0
    rw [if_neg (fun z => z rfl), ← hB]
    walk_at "rd"
    have e1 : (if l < 0 then -l else l) = (Int.gcd a b : Int) := by
      rw [← hg]
      have : (Int.gcd l 0 : Int) = (l.natAbs : Int) := by simp
      rw [this]; split <;> omega
    rw [e1]
    exact rtq q
  · rw [if_pos h0]
    refine ⟨h0, _, ?_, h, l.fmod h, rfl, (gcd_stepS l h0).trans hg, rfl⟩
    rcases (by omega : 0 < h ∨ h < 0) with z | z
    · have := fm_range (a := l) z
      omega
    · have e1 : l.fmod h = -((-l).fmod (-h)) := by rw [Int.neg_fmod_neg, Int.neg_neg]
      have := fm_range (a := -l) (b := -h) (by omega)
      omega
theorem rd_l_sides_697d : ∀ ds M Q, ds.length = 2 → sp_shared ds M Q DX0 → t_l_sides_697d (dEnds M Q) (startD 9 ds) M := by
  rintro _ M Q - ⟨m, n, rfl, n0, bm, bn, q⟩
  unfold t_l_sides_697d
  walk_at "rd"
  have sN : ∀ {x : Int}, Bi 4100 x → Sm x := fun h => h.sm
  have bound : ∀ {x : Int}, -n ≤ x → x ≤ n → Bi 4100 x := by
    intro x h1 h2
    have h3 : Bi 4100 n := bn.mono
    unfold Bi at h3 ⊢
    omega
  have bound2 : ∀ {x : Int}, x.natAbs ≤ m.natAbs + 1 → Bi 4100 x := by
    intro x h1
    have h3 : Bi 2001 m := bm.mono
    have h4 : Bi 2002 x := by
      unfold Bi at h3 bm ⊢
      rw [Nat.pow_succ 2 2001]
      have : 0 < 2 ^ 2001 := Nat.pow_pos (by decide)
      omega
    exact h4.mono
  refine dwhile_of (fun k r M' => ∃ low high f s t h : Int, ∃ tn, r = [some (.int m), some (.int n), some (.int low), some (.int high), some (.int f), some (.int s), some (.int t), some (.int h), tn] ∧ M' = M ∧ k = high.toNat ∧ ((low = m ∧ high = n ∧ f = 1 ∧ s = 0 ∧ t = 0 ∧ h = 1) ∨ (Euc m n low high f s t h ∧ low ≤ n ∧ high ≤ n))) _ ⟨m, n, 1, 0, 0, 1, none, rfl, rfl, rfl, .inl ⟨rfl, rfl, rfl, rfl, rfl, rfl⟩⟩ ?_
  rintro k r M' ⟨low, high, f, s, t, h, tn, rfl, rfl, rfl, hh⟩
  walk_at "rd"
  have hpos : high ≠ 0 → 0 < high := by
    intro z
    rcases hh with ⟨_, rfl, _⟩ | ⟨E, _⟩
    · exact n0
    · have := E.h0; omega
  have next : high ≠ 0 → (Euc m n high (low - low / high * high) s (f - low / high * s) h (t - low / high * h) ∧ high ≤ n ∧ low - low / high * high < high ∧ 0 ≤ low - low / high * high) := by
    intro z
    have hp := hpos z
    have rm : low - low / high * high = low % high := by
      have := Int.mul_ediv_add_emod low high
      have e : low / high * high = high * (low / high) := Int.mul_comm _ _
      omega
    have r1 := Int.emod_lt_of_pos low hp
    have r0 := Int.emod_nonneg low z
    rcases hh with ⟨rfl, rfl, rfl, rfl, rfl, rfl⟩ | ⟨E, h1, h2⟩
    · exact ⟨Euc.first n0, Int.le_refl _, by omega, by omega⟩
    · exact ⟨E.step z, h2, by omega, by omega⟩
  by_cases z : high = 0
  · subst z
    rw [if_neg (fun w => w rfl)]
    rcases hh with ⟨_, z, _⟩ | ⟨E, h1, h2⟩
    · omega
    · have eg : low = (Int.gcd m n : Int) := by
        have := E.gc
        rw [← this, gcd_end (Int.le_of_lt E.l0)]
      have l0 := E.l0
      rw [eg]
      have tb := E.tb n0 h1 h2
      exact rtq (q f t (by rw [← eg]; exact E.e1.symm) (bound E.fb.1 E.fb.2) (bound2 tb.1))
  · rw [if_pos z]
    have hp := hpos z
    obtain ⟨E, h1, h2, h3⟩ := next z
    have ef : low.fdiv high = low / high := fdiv_pos hp
    rw [ef]
    have bl : Bi 4100 low ∧ Bi 4100 high ∧ Bi 4100 s ∧ Bi 4100 h := by
      rcases hh with ⟨rfl, rfl, rfl, rfl, rfl, rfl⟩ | ⟨E, h1, h2⟩
      · exact ⟨bm.mono, bn.mono, Bi.of_abs 0 (by decide) (Nat.pow_pos (by decide)), bound2 (by omega)⟩
      · have tb := E.tb n0 h1 h2
        have l0 := E.l0
        have h0 := E.h0
        exact ⟨bound (by omega) h1, bound (by omega) h2, bound E.sb.1 E.sb.2, bound2 tb.2⟩
    obtain ⟨b1, b2, b3, b4⟩ := bl
    have bk : Bi 4100 (low / high) := Nat.lt_of_le_of_lt (Int.natAbs_ediv_le_natAbs _ _) b1
    refine ⟨⟨z, Nat.lt_of_lt_of_le (log2_of 4100 b2 (by decide)) (by decide)⟩, ⟨bk.sm, b2.sm⟩, ⟨bk.sm, b3.sm⟩, ⟨bk.sm, b4.sm⟩, _, ?_, _, _, _, _, _, _, _, rfl, rfl, .inr ⟨E, h1, by omega⟩⟩
    omega
/-- a value is judged a cutting -/
theorem rd_l_is_cutting_5bf1 : ∀ ds M Q, ds.length = 1 → sp_is_cutting ds M Q DX0 → t_l_is_cutting_5bf1 sp_gcd (dEnds M Q) (startD 6 ds) M := by
  rintro _ M Q - ⟨d, rfl, ⟨⟨T, ht⟩, hr⟩, q⟩
  unfold t_l_is_cutting_5bf1
  by_cases htup : ∃ l, d = .tup l
  · obtain ⟨l, rfl⟩ := htup
    refine dSeq_open fun B hB => ?_
    walk_at "rd"
    walk_at "kb"
    by_cases h3 : l.length = 4
    · obtain ⟨da, db, dc, de, rfl⟩ := len4 h3
      have hr' := hr _ rfl rfl
      rw [if_neg (by decide), if_neg (fun z => z rfl), ← hB]
      clear hB B
      refine dSeq_open fun B hB => ?_
      walk_at "rd"
      refine lcW_pure (fun e => if isW e = true then none else some e) trivial (by rw [sizeLine_eq]; exact (by decide : (4 : Nat) ≤ 16777216)) (fun x hx Y N hy => ?_) ?_
      · obtain ⟨_, T', hT⟩ := hr' x hx
        cases x <;> first | (cases hT; done) | skip
        all_goals walk_at "rd"
        case own k =>
          unfold tyM at hT
          dsimp only at hT
          split at hT
          · rename_i ds hk
            simp only [hk]
            walk_at "kb"
            exact hy
          · cases hT
        all_goals walk_at "kb"
        all_goals exact hy
      · refine gNe_nil' (n := 40) (bads_fine fun e he => (hr' e he).1) ?_
        show if (!(bads [da, db, dc, de]).isEmpty) = true then _ else _
        cases hb : (bads [da, db, dc, de]).isEmpty with
        | false =>
          rw [if_pos (by decide)]
          rw [isCutD_bad (bads_some hb)] at q
          exact rtq q
        | true =>
          rw [if_neg (by decide), ← hB]
          clear hB B
          have hw := bads_nil hb
          obtain ⟨a, rfl⟩ := isW_iff.mp (hw da (by simp))
          obtain ⟨b, rfl⟩ := isW_iff.mp (hw db (by simp))
          obtain ⟨c, rfl⟩ := isW_iff.mp (hw dc (by simp))
          obtain ⟨e, rfl⟩ := isW_iff.mp (hw de (by simp))
          replace q : Q (.bl (isCut a b c e)) M := q
          walk_at "rd"
          have fin : ∀ v, v = isCut a b c e → Rtq M Q (.bl v) M := by rintro _ rfl; exact rtq q
          by_cases h1 : b < 1
          · rw [if_pos h1]
            exact fin _ (by unfold isCut; rw [decide_eq_false (show ¬ 1 ≤ b by omega)]; rfl)
          · rw [if_neg h1]
            have e1 := decide_eq_true (show 1 ≤ b by omega)
            by_cases h2 : c < 1
            · rw [if_pos h2]
              exact fin _ (by unfold isCut; rw [e1, decide_eq_false (show ¬ 1 ≤ c by omega)]; rfl)
            · rw [if_neg h2]
              have e2 := decide_eq_true (show 1 ≤ c by omega)
              by_cases h3 : c + e < b
              · rw [if_neg (show ¬ b ≤ c + e by omega)]
                have e3 := decide_eq_true h3
                by_cases h4 : 0 ≤ a
                · have e4 := decide_eq_true h4
                  rw [if_pos h4]
                  refine ⟨b, c, rfl, ?_⟩
                  dsimp only
                  by_cases h5 : a < (Int.gcd b c : Int)
                  · have e5 := decide_eq_true h5
                    rw [if_neg (fun z => z h5)]
                    refine ⟨a, b, rfl, c, e, rfl, _, _, rfl, ?_⟩
                    dsimp only
                    rw [gEq_int, gcd4]
                    exact fin _ (by unfold isCut; rw [e1, e2, e3, e4, e5]; rfl)
                  · rw [if_pos h5]
                    exact fin _ (by unfold isCut; rw [e1, e2, e3, e4, decide_eq_false h5]; rfl)
                · rw [if_neg h4, if_pos h4]
                  exact fin _ (by unfold isCut; rw [e1, e2, e3, decide_eq_false h4]; rfl)
              · rw [if_pos (by omega)]
                exact fin _ (by unfold isCut; rw [e1, e2, decide_eq_false h3]; rfl)
    · rw [if_neg (by decide), if_pos (by intro z; apply h3; omega)]
      rw [isCutD_len h3] at q
      exact rtq q
  · have q' : Q (.bl false) M := by rwa [isCutD_notup fun l e => htup ⟨l, e⟩] at q
    cases d <;> first | exact absurd ⟨_, rfl⟩ htup | (cases ht; done) | skip
    all_goals walk_at "rd"
    case own k =>
      unfold tyM at ht
      dsimp only at ht
      split at ht
      · rename_i ds hk
        simp only [hk]
        walk_at "kb"
        exact rtq q'
      · cases ht
    all_goals walk_at "kb"
    all_goals exact rtq q'
theorem sp_is_cutting_T4 {a b c e : Int} {M : Mem} {Q : DQ} (q : Q (.bl (isCut a b c e)) M) : sp_is_cutting [T4 a b c e] M Q DX0 :=
  ⟨_, rfl, ask_fine M rfl, q⟩
theorem rd_l_done_d2e5 : ∀ ds M Q, ds.length = 2 → sp_ldone ds M Q DX0 → t_l_done_d2e5 sp_shared sp_gcd (dEnds M Q) (startD 19 ds) M := by
  rintro _ M Q - ⟨a, b, c, e, p, q, rfl, q1, c1, hg, hf, ⟨ba, bb, bc, be⟩, bp, bq, h⟩
  unfold t_l_done_d2e5
  refine dSeq_open fun B hB => ?_
  walk_at "rd"
  rw [← hB]
  clear hB B
  refine dSeq_open fun B hB => ?_
  walk_at "rd"
  rw [← hB]
  clear hB B
  refine dSeq_open fun B hB => ?_
  walk_at "rd"
  refine ⟨p, q, rfl, by omega, bp.mono, bq.mono, fun z t hz bz bt => ?_⟩
  walk_at "rd"
  rw [hg] at hz
  rw [← hB]
  clear hB B
  refine dSeq_open fun B hB => ?_
  walk_at "rd"
  have hxz : p * z - q * (-t) = 1 := by
    have : z * p + t * q = p * z - q * -t := by grind
    rw [← this]; exact hz
  have bi : Bi 901 (p * b + q * a) := (bp.mul bb).add (bq.mul ba)
  have bj : Bi 900 (q * c) := bq.mul bc
  have hK : z * a - t * b + e + q * c = -t * b + z * a + e + q * c := by grind
  have bk : Bi 4560 (z * a - t * b + e + q * c) := by
    have h1 : Bi 4551 (z * a - t * b) := (bz.mul ba).sub (bt.mul bb)
    have h2 : Bi 4552 (z * a - t * b + e) := h1.add be.mono
    have h3 : Bi 4553 (z * a - t * b + e + q * c) := h2.add bj.mono
    exact h3.mono
  refine ⟨⟨bp.sm, bb.sm⟩, ⟨bq.sm, ba.sm⟩, ⟨bq.sm, bc.sm⟩, ⟨bz.sm, ba.sm⟩, ⟨bt.sm, bb.sm⟩, ⟨bq.sm, bc.sm⟩, ⟨bz.sm, bc.sm⟩, ?_⟩
  rw [← hB]
  clear hB B
  refine dSeq_open fun B hB => ?_
  walk_at "rd"
  have j0 : 0 < q * c := Int.mul_pos (by omega) (by omega)
  refine ⟨_, _, rfl, j0, bi.mono, bj.mono, fun u v huv bu bv => ?_⟩
  walk_at "rd"
  rw [← hB]
  clear hB B
  refine dSeq_open fun B hB => ?_
  walk_at "rd"
  have g0 : 0 < (Int.gcd (p * b + q * a) (q * c) : Int) := by
    have := Int.gcd_pos_of_ne_zero_right (p * b + q * a) (show q * c ≠ 0 by omega)
    omega
  have bg : Bi 900 (Int.gcd (p * b + q * a) (q * c) : Int) := bj.of_dvd' (by omega) (Int.gcd_dvd_right _ _)
  have hdet : (p * b + q * a) * (z * c) - q * c * (z * a - t * b + e + q * c) = c * (b - q * e - q * q * c) := by
    rw [hK, det_eq p b q a z c (-t) e, hxz, Int.mul_one]
  have dg : (Int.gcd (p * b + q * a) (q * c) : Int) ∣ c * (b - q * e - q * q * c) := by
    rw [← hdet]
    exact Int.dvd_sub (Int.dvd_mul_of_dvd_left (Int.gcd_dvd_left _ _)) (Int.dvd_mul_of_dvd_left (Int.gcd_dvd_right _ _))
  refine ⟨⟨bi.sm, (bz.mul bc).sm⟩, ⟨bj.sm, bk.sm⟩, ?_⟩
  rw [hdet]
  generalize hgg : (Int.gcd (p * b + q * a) (q * c) : Int) = g at *
  obtain ⟨w, hw⟩ := dg
  refine ⟨⟨by omega, Nat.lt_of_lt_of_le (log2_of 900 bg (by decide)) (by decide)⟩, ?_⟩
  have ew : (c * (b - q * e - q * q * c)).fdiv g = w := by rw [hw]; exact Int.mul_fdiv_cancel_left _ (by omega)
  rw [ew, ← hB]
  clear hB B
  walk_at "rd"
  have G0 : 0 < (Int.gcd w g : Int) := by
    have := Int.gcd_pos_of_ne_zero_right w (show g ≠ 0 by omega)
    omega
  have b2 : Bi 3 2 := Bi.of_abs 2 (by decide)
  refine ⟨⟨bu.sm, bk.sm⟩, ⟨bv.sm, (bz.mul bc).sm⟩, w, g, rfl, ?_⟩
  dsimp only
  refine ⟨(show (Int.gcd w g : Int) ≠ 0 by omega), ⟨b2.sm, bq.sm⟩, ⟨(b2.mul bq).sm, bc.sm⟩, ?_⟩
  rw [fmod_pos G0]
  refine rtq (h _ _ _ _ ⟨hgg.symm, ?_, by rw [Int.zero_sub], Int.emod_nonneg _ (by omega), Int.emod_lt_of_pos _ G0, u, v, -t, z, hxz, huv, ?_⟩)
  · rw [hw, Int.mul_comm]
  · rw [← hK]
    have := Int.mul_ediv_add_emod (-(u * (z * a - t * b + e + q * c) + v * (z * c))) (Int.gcd w g : Int)
    refine ⟨-(-(u * (z * a - t * b + e + q * c) + v * (z * c)) / (Int.gcd w g : Int)), ?_⟩
    rw [Int.mul_neg]
    omega
def sp_ltens : DSp := fun ds M Q _ => ∃ n : Nat, ds = [.int (n : Int)] ∧ n ≤ 40 ∧ Q (.int (10 ^ n)) M
theorem rd_l_tens_a574 : ∀ ds M Q, ds.length = 1 → sp_ltens ds M Q DX0 → t_l_tens_a574 (dEnds M Q) (startD 3 ds) M := by
  rintro _ M Q - ⟨n, rfl, hn, q⟩
  unfold t_l_tens_a574
  refine dSeq_open fun B hB => ?_
  walk_at "rd"
  rw [← hB]
  clear hB B
  refine dSeq_open fun B hB => ?_
  walk_at "rd"
  refine ⟨⟨by omega, by omega⟩, ?_⟩
  refine ⟨fun i r M' => M' = M ∧ i ≤ n ∧ ∃ t : Option D, r = [some (.int (n : Int)), some (.int (10 ^ i)), t], ⟨rfl, by omega, _, rfl⟩, ?_⟩
  rintro i r M' ⟨rfl, hi, t, rfl⟩
  refine ⟨trivial, fun hl => ?_, fun d hd => ?_⟩
  · dsimp only
    rw [rng_len] at hl
    rw [← hB]
    walk_at "rd"
    have : i = n := by omega
    rw [this]
    exact rtq q
  · obtain ⟨hi2, rfl⟩ := rng_get.mp hd
    walk_at "rd"
    have b10 : Bi 5 10 := Bi.of_abs 10 (by decide)
    have bi : Bi 200 ((10 : Int) ^ i) := by
      have h1 : (10 : Nat) ^ i ≤ 10 ^ 40 := Nat.pow_le_pow_right (by decide) (by omega)
      unfold Bi
      have : ((10 : Int) ^ i).natAbs = 10 ^ i := by rw [Int.natAbs_pow]; rfl
      rw [this]
      exact Nat.lt_of_le_of_lt h1 (by decide)
    have e1 : (10 : Int) * 10 ^ i = 10 ^ (i + 1) := by rw [Int.pow_succ, Int.mul_comm]
    rw [e1]
    exact ⟨⟨b10.sm, bi.sm⟩, by omega, _, rfl⟩
/-! ### great draws -/
theorem pow_le13 {v : Nat} (h : v ≤ 13) : (1 : Int) ≤ 10 ^ v ∧ (10 : Int) ^ v ≤ 10 ^ 13 := by
  have h1 : (10 : Nat) ^ v ≤ 10 ^ 13 := Nat.pow_le_pow_right (by decide) h
  have h2 : 0 < (10 : Nat) ^ v := Nat.pow_pos (by decide)
  have e : ((10 ^ v : Nat) : Int) = (10 : Int) ^ v := by rw [Int.natCast_pow]; rfl
  omega
theorem great_bi {N b c e : Int} (h1 : 1 ≤ N) (hN : N ≤ 10 ^ 13) (c1 : 1 ≤ c) (c2 : c ≤ 12 * N) (b1 : 1 ≤ b) (b2 : b ≤ 25 * N + 12) (e1 : -N ≤ e) (e2 : e ≤ N) : Bi 97 (meas4 b c e) := by
  have f1 : b * c ≤ (25 * 10 ^ 13 + 12) * (12 * 10 ^ 13) := Int.mul_le_mul (by omega) (by omega) (by omega) (by decide)
  have f2 : 0 ≤ b * c := Int.mul_nonneg (by omega) (by omega)
  have f3 : e * e ≤ 10 ^ 13 * 10 ^ 13 := by
    have := Int.mul_nonneg (show 0 ≤ 10 ^ 13 - e by omega) (show 0 ≤ 10 ^ 13 + e by omega)
    have e3 : (10 ^ 13 - e) * (10 ^ 13 + e) = 10 ^ 13 * 10 ^ 13 - e * e := by grind
    omega
  have f4 := sq_nn e
  unfold meas4
  rw [Int.mul_assoc]
  exact Bi.of_abs (13 * 10 ^ 28) (by omega) (by decide)
theorem great_le {N T b c e : Int} (h1 : 1 ≤ N) (hN : N ≤ T) (c1 : 1 ≤ c) (c2 : c ≤ 12 * N) (b1 : 1 ≤ b) (b2 : b ≤ 25 * N + 12) (e1 : -N ≤ e) (e2 : e ≤ N) : meas4 b c e ≤ 2000 * (T * T) := by
  have f1 : b * c ≤ (25 * T + 12 * T) * (12 * T) := Int.mul_le_mul (by omega) (by omega) (by omega) (by omega)
  have f3 : e * e ≤ T * T := by
    have := Int.mul_nonneg (show 0 ≤ T - e by omega) (show 0 ≤ T + e by omega)
    have e3 : (T - e) * (T + e) = T * T - e * e := by grind
    omega
  have f2 : (25 * T + 12 * T) * (12 * T) = 444 * (T * T) := by grind
  have f0 := Int.mul_nonneg (show 0 ≤ T by omega) (show 0 ≤ T by omega)
  unfold meas4
  rw [Int.mul_assoc]
  omega
def sp_lgreat20 : DSp := fun ds M Q _ => ∃ (k most : Nat) (n : Int), ds = [.own k, .int (most : Int)] ∧ most ≤ 13 ∧ Gn k n M ∧ n ≤ P40 - 8000 ∧
  ∀ a b c e M', isCut a b c e = true → Bi 97 (meas4 b c e) → 4 < meas4 b c e → meas4 b c e ≤ 2000 * ((10 : Int) ^ most * 10 ^ most) → Gst k (n + 3000) M M' → Q (T4 a b c e) M'
theorem rd_l_great_7ce3 : ∀ ds M Q, ds.length = 2 → sp_lgreat20 ds M Q DX0 → t_l_great_7ce3 sp_ltens sp_random sp_gcd sp_is_cutting sp_measure_by (dEnds M Q) (startD 9 ds) M := by
  rintro _ M Q - ⟨k, most, n, rfl, hmost, hg, hn, q⟩
  unfold t_l_great_7ce3
  refine dSeq_open fun B hB => ?_
  walk_at "rd"
  refine ⟨⟨by decide, by decide⟩, ?_⟩
  refine ⟨fun i r M' => i ≤ 12 ∧ Gst k (n + 240 * i) M M' ∧ ∃ t2 t3 t4 t5 t6 t7 t8 : Option D, r = [some (.own k), some (.int (most : Int)), t2, t3, t4, t5, t6, t7, t8], ⟨by omega, (Gst.refl hg).le (by omega), _, _, _, _, _, _, _, rfl⟩, ?_⟩
  rintro i r M' ⟨hi, gi, t2, t3, t4, t5, t6, t7, t8, rfl⟩
  refine ⟨trivial, fun hl => ?_, fun d hd => ?_⟩
  · dsimp only
    rw [← hB]
    walk_at "rd"
    have g2 := gi.le (m := n + 3000) (by omega)
    obtain ⟨p1, p2⟩ := pow_le13 hmost
    refine ⟨most, rfl, by omega, g2.rtq (q 0 (10 ^ most + 2) 1 1 M' ?_ ?_ ?_ ?_ g2)⟩
    · generalize (10 : Int) ^ most = T at *
      unfold isCut
      rw [decide_eq_true (show 1 ≤ T + 2 by omega), decide_eq_true (show (1 : Int) + 1 < T + 2 by omega)]
      have : Int.gcd (T + 2) 1 = 1 := Int.gcd_one_right ..
      rw [this]
      rfl
    · generalize (10 : Int) ^ most = T at *
      exact great_bi p1 p2 (by decide) (by omega) (by omega) (by omega) (by omega) (by omega)
    · generalize (10 : Int) ^ most = T at *
      unfold meas4
      omega
    · generalize (10 : Int) ^ most = T at *
      exact great_le p1 (Int.le_refl _) (by decide) (by omega) (by omega) (by omega) (by omega) (by omega)
  · obtain ⟨hi2, rfl⟩ := rng_get.mp hd
    replace hi2 : i < 12 := hi2
    have hT : ∀ j : Nat, j ≤ most → (10 : Int) ^ j ≤ 10 ^ most := fun j hj => by
      have h1 : (10 : Nat) ^ j ≤ 10 ^ most := Nat.pow_le_pow_right (by decide) hj
      have e1 : ((10 ^ j : Nat) : Int) = (10 : Int) ^ j := by rw [Int.natCast_pow]; rfl
      have e2 : ((10 ^ most : Nat) : Int) = (10 : Int) ^ most := by rw [Int.natCast_pow]; rfl
      omega
    refine dSeq_open fun B1 hB1 => ?_
    walk_at "rd"
    refine ⟨k, (most : Int) + 1, _, rfl, by omega, lt900 (by omega), gi.2.1, by omega, fun v2 M2 v20 v21 g2 => ?_⟩
    obtain ⟨j, rfl⟩ := Int.eq_ofNat_of_zero_le v20
    try dsimp only
    refine ⟨j, rfl, by omega, ?_⟩
    obtain ⟨p1, p2⟩ := pow_le13 (show j ≤ 13 by omega)
    have pT := hT j (by omega)
    generalize (10 : Int) ^ j = N at *
    refine ⟨k, 6, _, rfl, by decide, lt900 (by decide), g2.2.1, by omega, fun v3 M3 v30 v31 g3 => ?_⟩
    obtain ⟨d1, hd1, ed1⟩ := atI_any (l := [D.int 1, .int 1, .int 2, .int 3, .int 6, .int 12]) v30 (by simpa using v31)
    try dsimp only
    rw [ed1]
    try dsimp only
    obtain ⟨g, rfl, ga, gb⟩ : ∃ y : Int, d1 = .int y ∧ 1 ≤ y ∧ y ≤ 12 := by
      simp only [List.mem_cons, List.not_mem_nil, or_false] at hd1
      rcases hd1 with rfl | rfl | rfl | rfl | rfl | rfl <;> exact ⟨_, rfl, by decide, by decide⟩
    rw [← hB1]
    clear hB1 B1
    refine dSeq_open fun B1 hB1 => ?_
    walk_at "rd"
    have bg : Bi 5 g := Bi.of_abs 12 (by omega) (by decide)
    have bN : Bi 50 N := Bi.of_abs (10 ^ 13) (by omega) (by decide)
    have b22 : Bi 3 2 := Bi.of_abs 2 (by decide)
    refine ⟨k, N, _, rfl, by omega, lt900 (by omega), g3.2.1, by omega, fun v4 M4 v40 v41 g4 => ?_⟩
    try dsimp only
    have b4 : Bi 50 (1 + v4) := Bi.of_abs (10 ^ 13) (by omega) (by decide)
    refine ⟨⟨bg.sm, b4.sm⟩, ⟨b22.sm, bN.sm⟩, k, _, _, rfl, by omega, lt900 (by omega), g4.2.1, by omega, fun v5 M5 v50 v51 g5 => ?_⟩
    try dsimp only
    have hc : 1 ≤ g * (1 + v4) ∧ g * (1 + v4) ≤ 12 * N := by
      have h1 : 1 * 1 ≤ g * (1 + v4) := Int.mul_le_mul (by omega) (by omega) (by decide) (by omega)
      have h2 : g * (1 + v4) ≤ 12 * N := Int.mul_le_mul (by omega) (by omega) (by omega) (by decide)
      omega
    generalize g * (1 + v4) = c at *
    generalize he : v5 - N = e at *
    rw [← hB1]
    clear hB1 B1
    refine dSeq_open fun B1 hB1 => ?_
    walk_at "rd"
    refine ⟨⟨by omega, Nat.lt_of_lt_of_le (log2_of 5 bg (by decide)) (by decide)⟩, k, N, _, rfl, by omega, lt900 (by omega), g5.2.1, by omega, fun v6 M6 v60 v61 g6 => ?_⟩
    try dsimp only
    rw [fdiv_pos (show 0 < g by omega)]
    have hmx : 0 ≤ (if 0 > c + e then 0 else c + e) ∧ (if 0 > c + e then 0 else c + e) ≤ 13 * N := by split <;> omega
    generalize (if 0 > c + e then 0 else c + e) = mx at *
    have hq0 := Int.mul_ediv_self_le (x := mx) (k := g) (by omega)
    have hq1 : 0 ≤ mx / g := Int.ediv_nonneg (by omega) (by omega)
    have hq2 := Int.ediv_le_self g (show 0 ≤ mx by omega)
    have b6 : Bi 60 (mx / g + 1 + v6) := Bi.of_abs (10 ^ 15) (by omega) (by decide)
    refine ⟨⟨bg.sm, b6.sm⟩, ?_⟩
    have hb : 1 ≤ g * (mx / g + 1 + v6) ∧ g * (mx / g + 1 + v6) ≤ 25 * N + 12 := by
      have h1 : 1 * 1 ≤ g * (mx / g + 1 + v6) := Int.mul_le_mul (by omega) (by omega) (by decide) (by omega)
      have h2 : g * (1 + v6) ≤ 12 * N := Int.mul_le_mul (by omega) (by omega) (by omega) (by decide)
      have h3 : g * (mx / g + 1 + v6) = g * (mx / g) + g * (1 + v6) := by grind
      omega
    generalize g * (mx / g + 1 + v6) = b at *
    rw [← hB1]
    clear hB1 B1
    have G0 := gcd_pos' (b := b) hc.1
    have gc : (Int.gcd b c : Int) ≤ c := Int.le_of_dvd (by omega) (Int.gcd_dvd_right _ _)
    refine dSeq_open fun B1 hB1 => ?_
    walk_at "rd"
    refine ⟨b, c, rfl, k, _, _, rfl, G0, lt900 (by omega), g6.2.1, by omega, fun v7 M7 v70 v71 g7 => ?_⟩
    try dsimp only
    rw [← hB1]
    clear hB1 B1
    have gall := (((((gi.trans g2).trans g3).trans g4).trans g5).trans g6).trans g7
    walk_at "rd"
    refine sp_is_cutting_T4 ?_
    dsimp only
    have bmm := great_bi p1 p2 hc.1 hc.2 hb.1 hb.2 (show -N ≤ e by omega) (show e ≤ N by omega)
    by_cases hcut : isCut v7 b c e = true
    · rw [if_pos hcut]
      have cb := cut_bi hcut bmm
      refine ⟨v7, b, c, e, rfl, cb.2.1.mono, cb.2.2.1.mono, cb.2.2.2.mono, ?_⟩
      dsimp only
      have gl := gall.le (m := n + 3000) (by omega)
      by_cases h40 : 40 < meas4 b c e
      · rw [if_pos h40]
        exact gl.rtq (q v7 b c e M7 hcut bmm (by omega) (great_le p1 pT hc.1 hc.2 hb.1 hb.2 (show -N ≤ e by omega) (show e ≤ N by omega)) gl)
      · rw [if_neg h40]
        exact ⟨by omega, gall.le (by omega), _, _, _, _, _, _, _, rfl⟩
    · rw [if_neg hcut]
      exact ⟨by omega, gall.le (by omega), _, _, _, _, _, _, _, rfl⟩
/-! ### words -/
inductive WdW : List Int → List (List Int) → List Int → Prop
  | nil (x : List Int) : WdW x [] x
  | cons {a b c e p q a' w g e' : Int} {ws : List (List Int)} {y : List Int} : isDeed b c e p q = true → IsDone a b c e p q a' w g e' → WdW [a', w, g, e'] ws y → WdW [a, b, c, e] ([p, q] :: ws) y
theorem WdW.snoc {x : List Int} {ws : List (List Int)} {a b c e p q a' w g e' : Int} (h : WdW x ws [a, b, c, e]) (hd : isDeed b c e p q = true) (hdn : IsDone a b c e p q a' w g e') : WdW x (ws ++ [[p, q]]) [a', w, g, e'] := by
  generalize hy : [a, b, c, e] = y at h
  induction h with
  | nil x => subst hy; exact .cons hd hdn (.nil _)
  | cons h1 h2 _ ih => exact .cons h1 h2 (ih hy)
theorem WdW.cut {m : Int} {x y : List Int} {ws : List (List Int)} (h : WdW x ws y) (hx : IsC m x) : IsC m y := by
  induction h with
  | nil x => exact hx
  | cons h1 h2 _ ih =>
    obtain ⟨a, b, c, e, z, c1, c2⟩ := hx
    cases z
    obtain ⟨d1, d2, _⟩ := done_of c1 h1 h2
    exact ih ⟨_, _, _, _, rfl, d1, d2.trans c2⟩
theorem WdW.par {m : Int} (h8 : m % 8 = 1) {x y : List Int} {ws : List (List Int)} (h : WdW x ws y) (hx : IsC m x) : ∀ a b c e a' b' c' e', x = [a, b, c, e] → y = [a', b', c', e'] → DL.par a' b' c' e' = DL.par a b c e := by
  induction h with
  | nil x => rintro a b c e a' b' c' e' rfl z; cases z; rfl
  | cons h1 h2 _ ih =>
    rintro a b c e a' b' c' e' z1 z2
    cases z1
    obtain ⟨a, b, c, e, z, c1, c2⟩ := hx
    cases z
    obtain ⟨d1, d2, d3⟩ := done_of c1 h1 h2
    rw [ih ⟨_, _, _, _, rfl, d1, d2.trans c2⟩ _ _ _ _ _ _ _ _ rfl z2]
    exact keepG (by rw [c2]; exact h8) (by omega) h2
theorem deed_bi {n : Nat} {a b c e p q : Int} (h : isCut a b c e = true) (cb : CutB n a b c e) (hd : isDeed b c e p q = true) : Bi (n + 1) q ∧ Bi (2 * n + 1) p := by
  obtain ⟨⟨q1, q2, q3, q4⟩, q5⟩ := isDeed_parts hd
  obtain ⟨k1, k2, _⟩ := cut_parts h
  have h1 := deed_q k1 k2 q1 q2
  obtain ⟨l1, l2⟩ := lot_le (b := b) k2
  have hq : Bi (n + 1) q := by
    have hb := cb.2.1
    have he := cb.2.2.2
    unfold Bi at *
    rw [Nat.pow_succ]
    omega
  refine ⟨hq, ?_⟩
  have h2 : Bi (n + 1 + n) (q * c) := hq.mul cb.2.2.1
  have h3 : q * (c / (Int.gcd b c : Int)) ≤ q * c := Int.mul_le_mul_of_nonneg_left l2 (by omega)
  have e1 : n + 1 + n = 2 * n + 1 := by omega
  rw [← e1]
  unfold Bi at h2 ⊢
  omega
def sp_lled20 : DSp := fun ds M Q _ => ∃ (a b c e : Int) (ws : List (List Int)) (y : List Int), ds = [T4 a b c e, .lst (ws.map tI)] ∧ isCut a b c e = true ∧ Bi 200 (meas4 b c e) ∧ WdW [a, b, c, e] ws y ∧ Q (tI y) M
theorem rd_l_led_9b7a : ∀ ds M Q, ds.length = 2 → sp_lled20 ds M Q DX0 → t_l_led_9b7a sp_ldone (dEnds M Q) (startD 4 ds) M := by
  rintro _ M Q - ⟨a, b, c, e, ws, y, rfl, hcut, hm, hw, q⟩
  unfold t_l_led_9b7a
  refine dSeq_open fun B hB => ?_
  walk_at "rd"
  rw [← hB]
  clear hB B
  refine dSeq_open fun B hB => ?_
  walk_at "rd"
  refine ⟨fun i r M' => M' = M ∧ i ≤ ws.length ∧ ∃ (a1 b1 c1 e1 : Int) (t : Option D), r = [some (T4 a b c e), some (.lst (ws.map tI)), some (T4 a1 b1 c1 e1), t] ∧ isCut a1 b1 c1 e1 = true ∧ meas4 b1 c1 e1 = meas4 b c e ∧ WdW [a1, b1, c1, e1] (ws.drop i) y, ⟨rfl, by omega, a, b, c, e, _, rfl, hcut, rfl, hw⟩, ?_⟩
  rintro i r M' ⟨rfl, hi, a1, b1, c1, e1, t, rfl, hc1, hm1, hw1⟩
  refine ⟨trivial, fun hl => ?_, fun d hd => ?_⟩
  · dsimp only
    rw [List.length_map] at hl
    rw [← hB]
    walk_at "rd"
    rw [List.drop_of_length_le hl] at hw1
    cases hw1
    exact rtq q
  · rw [List.getElem?_map] at hd
    obtain ⟨s, hs, rfl⟩ := Option.map_eq_some_iff.mp hd
    have hi2 := (List.getElem?_eq_some_iff.mp hs).1
    rw [List.drop_eq_getElem_cons hi2, (List.getElem?_eq_some_iff.mp hs).2] at hw1
    generalize hx1 : [a1, b1, c1, e1] = x1 at hw1
    generalize hs1 : s :: ws.drop (i + 1) = s1 at hw1
    cases hw1 with
    | nil => cases hs1
    | @cons a2 b2 c2 e2 p q' a' w g e' ws2 y2 h1 h2 h3 =>
      cases hx1
      cases hs1
      have cb := cut_bi hc1 (by rw [hm1]; exact hm)
      obtain ⟨bq, bp⟩ := deed_bi hc1 cb h1
      obtain ⟨dq, _⟩ := isDeed_parts h1
      obtain ⟨d1, d2, _⟩ := done_of hc1 h1 h2
      rw [show tI [p, q'] = .tup [.int p, .int q'] from rfl]
      walk_at "rd"
      refine ⟨a1, b1, c1, e1, p, q', rfl, dq.q1, (cut_parts hc1).2.1, dq.cp, dq.al, cb.mono, bp.mono, bq.mono, fun a3 w3 g3 e3 hd3 => ?_⟩
      obtain ⟨_, _, g3p⟩ := done_of hc1 h1 hd3
      obtain ⟨rfl, rfl, rfl, rfl⟩ := isDone_unique (by omega) hd3 h2
      exact ⟨rfl, by omega, _, _, _, _, _, rfl, d1, d2.trans hm1, h3⟩
/-- a drawn deed -/
def sp_lsome_deed : DSp := fun ds M Q _ => ∃ (k : Nat) (a b c e n : Int), ds = [.own k, T4 a b c e] ∧ isCut a b c e = true ∧ Bi 200 (meas4 b c e) ∧ Gn k n M ∧ n ≤ P40 - 800 ∧
  ∀ p q M', isDeed b c e p q = true → Gst k (n + 160) M M' → Q (.tup [.int p, .int q]) M'
theorem rd_l_some_deed_eb4d : ∀ ds M Q, ds.length = 2 → sp_lsome_deed ds M Q DX0 → t_l_some_deed_eb4d sp_random sp_ltens sp_gcd (dEnds M Q) (startD 10 ds) M := by
  rintro _ M Q - ⟨k, a, b, c, e, n, rfl, hcut, hm, hg, hn, h⟩
  unfold t_l_some_deed_eb4d
  have cb := cut_bi hcut hm
  obtain ⟨k1, k2, k3, k4, k5, k6⟩ := cut_parts hcut
  have G0 := gcd_pos' (b := b) k2
  obtain ⟨l1, l2⟩ := lot_le (b := b) k2
  have bG : Bi 200 (Int.gcd b c : Int) := cb.2.2.1.of_dvd' (by omega) (Int.gcd_dvd_right _ _)
  refine dSeq_open fun B hB => ?_
  walk_at "rd"
  rw [← hB]
  clear hB B
  refine dSeq_open fun B hB => ?_
  walk_at "rd"
  refine ⟨k, 7, n, rfl, by decide, lt900 (by decide), hg, by omega, fun v M1 v0 v1 g1 => ?_⟩
  obtain ⟨j, rfl⟩ := Int.eq_ofNat_of_zero_le v0
  try dsimp only
  refine ⟨j, rfl, by omega, ?_⟩
  have p12 : (1 : Int) ≤ 10 ^ j ∧ (10 : Int) ^ j ≤ 10 ^ 6 := by
    have h1 : (10 : Nat) ^ j ≤ 10 ^ 6 := Nat.pow_le_pow_right (by decide) (by omega)
    have h2 : 0 < (10 : Nat) ^ j := Nat.pow_pos (by decide)
    have e : ((10 ^ j : Nat) : Int) = (10 : Int) ^ j := by rw [Int.natCast_pow]; rfl
    omega
  obtain ⟨p1, p2⟩ := p12
  generalize (10 : Int) ^ j = N at *
  refine ⟨k, N, _, rfl, by omega, lt900 (by omega), g1.2.1, by omega, fun v2 M2 v20 v21 g2 => ?_⟩
  try dsimp only
  refine ⟨b, c, rfl, ⟨by omega, Nat.lt_of_lt_of_le (log2_of 200 bG (by decide)) (by decide)⟩, ?_⟩
  rw [fdiv_pos G0]
  generalize hlot : c / (Int.gcd b c : Int) = lot at *
  have blot : Bi 200 lot := by
    have h1 := cb.2.2.1
    unfold Bi at *
    omega
  rw [← hB]
  clear hB B
  refine dSeq_open fun B hB => ?_
  have step3 : ∀ (q : Int) (M3 : Mem), 1 ≤ q → q ≤ 10 ^ 7 → Gst k (n + 120) M M3 → B [some (.own k), some (T4 a b c e), some (.int a), some (.int b), some (.int c), some (.int e), some (.int q), some (.int lot), none, none] M3 := by
    intro q M3 q1 q2 g3
    rw [← hB]
    clear hB B
    have bq : Bi 30 q := Bi.of_abs (10 ^ 7) (by omega) (by decide)
    refine dSeq_open fun B hB => ?_
    have step4 : ∀ (q : Int), 1 ≤ q → q ≤ 10 ^ 7 → 0 < b - q * e - q * q * c → B [some (.own k), some (T4 a b c e), some (.int a), some (.int b), some (.int c), some (.int e), some (.int q), some (.int lot), none, none] M3 := by
      intro q q1 q2 hal
      have bq : Bi 30 q := Bi.of_abs (10 ^ 7) (by omega) (by decide)
      rw [← hB]
      clear hB B
      refine dSeq_open fun B hB => ?_
      walk_at "rd"
      have hR : 0 < q * lot := Int.mul_pos (by omega) (by omega)
      have bR : Bi 230 (q * lot) := (bq.mul blot).mono
      refine ⟨⟨bq.sm, blot.sm⟩, k, _, _, rfl, hR, ?_, g3.2.1, by omega, fun v4 M4 v40 v41 g4 => ?_⟩
      · unfold Bi at bR
        have e1 : ((2 ^ 230 : Nat) : Int) = (2 : Int) ^ 230 := by rw [Int.natCast_pow]; rfl
        have : (2 : Int) ^ 230 < 2 ^ 900 := by decide
        omega
      try dsimp only
      rw [← hB]
      clear hB B
      refine dSeq_open fun B hB => ?_
      walk_at "rd"
      refine ⟨⟨by decide, by decide⟩, ?_⟩
      refine ⟨fun i r M' => M' = M4 ∧ i ≤ 60 ∧ ∃ (p : Int) (t : Option D), r = [some (.own k), some (T4 a b c e), some (.int a), some (.int b), some (.int c), some (.int e), some (.int q), some (.int lot), some (.int p), t] ∧ 0 ≤ p ∧ p < q * lot, ⟨rfl, by omega, v4, _, rfl, v40, v41⟩, ?_⟩
      rintro i r M' ⟨rfl, hi, p, t, rfl, p0, p1⟩
      refine ⟨trivial, fun hl => ?_, fun d hd => ?_⟩
      · dsimp only
        rw [← hB]
        walk_at "rd"
        refine ⟨p, q, rfl, ?_⟩
        dsimp only
        rw [gEq_int]
        have g4 := (g3.trans g4).le (m := n + 160) (by omega)
        by_cases hg1 : (Int.gcd p q : Int) = 1
        · have : ((Int.gcd p q : Int) == 1) = true := beq_iff_eq.mpr hg1
          simp only [this, if_true]
          exact g4.rtq (h p q M' (isDeed_mk ⟨q1, hal, p0, by omega⟩ (by rw [hlot]; exact p1)) g4)
        · have : ((Int.gcd p q : Int) == 1) = false := beq_eq_false_iff_ne.mpr hg1
          simp only [this, if_false, Bool.false_eq_true]
          exact g4.rtq (h 0 1 M' (one_deed hcut) g4)
      · obtain ⟨hi2, rfl⟩ := rng_get.mp hd
        replace hi2 : i < 60 := hi2
        walk_at "rd"
        refine ⟨p, q, rfl, ?_⟩
        dsimp only
        rw [gEq_int]
        by_cases hg1 : (Int.gcd p q : Int) = 1
        · have : ((Int.gcd p q : Int) == 1) = true := beq_iff_eq.mpr hg1
          simp only [this, if_true]
          exact ⟨trivial, by omega, p, _, rfl, p0, p1⟩
        · have : ((Int.gcd p q : Int) == 1) = false := beq_eq_false_iff_ne.mpr hg1
          simp only [this, if_false, Bool.false_eq_true]
          refine ⟨⟨bq.sm, blot.sm⟩, (show q * lot ≠ 0 by omega), ?_⟩
          rw [fmod_pos hR]
          exact ⟨trivial, by omega, _, _, rfl, Int.emod_nonneg _ (by omega), Int.emod_lt_of_pos _ hR⟩
    walk_at "rd"
    refine ⟨⟨bq.sm, cb.2.2.2.sm⟩, ⟨bq.sm, bq.sm⟩, ⟨(bq.mul bq).sm, cb.2.2.1.sm⟩, ?_⟩
    by_cases hal : 0 < b - q * e - q * q * c
    · rw [if_pos hal]
      exact step4 q q1 q2 hal
    · rw [if_neg hal]
      exact step4 1 (by decide) (by decide) (deedq_one hcut (Int.le_refl 0)).al
  have bq : Bi 30 (1 + v2) := Bi.of_abs (10 ^ 7) (by omega) (by decide)
  have g12 := (g1.trans g2).le (m := n + 80) (by omega)
  walk_at "rd"
  refine ⟨⟨bq.sm, cb.2.2.2.sm⟩, ⟨bq.sm, bq.sm⟩, ⟨(bq.mul bq).sm, cb.2.2.1.sm⟩, ?_⟩
  split
  · refine ⟨k, 2, _, rfl, by decide, lt900 (by decide), g12.2.1, by omega, fun v3 M3 v30 v31 g3 => ?_⟩
    exact step3 _ _ (by omega) (by omega) ((g12.trans g3).le (by omega))
  · exact step3 _ _ (by omega) (by omega) (g12.le (by omega))
theorem Gn.ltO {k : Nat} {n : Int} {M : Mem} (h : Gn k n M) : k < M.length := by
  obtain ⟨a, s, c, e, _⟩ := h
  exact (List.getElem?_eq_some_iff.mp e).1
theorem Gn.appO {k : Nat} {n : Int} {M G : Mem} (h : Gn k n M) : Gn k n (M ++ G) := by
  have hk := h.ltO
  obtain ⟨a, s, c, e, r⟩ := h
  exact ⟨a, s, c, by rw [List.getElem?_append_left hk]; exact e, r⟩
theorem Gst.cutO {k : Nat} {n : Int} {M G M' : Mem} (hk : k < M.length) (h : Gst k n (M ++ G) M') : ∃ M1, M' = M1 ++ G ∧ Gst k n M M1 := by
  obtain ⟨h1, h2, h3⟩ := h
  rw [List.length_append] at h1
  refine ⟨M'.take M.length, ?_, ?_, ?_, fun i hi => ?_⟩
  · refine List.ext_getElem? fun i => ?_
    by_cases hlt : i < M.length
    · rw [List.getElem?_append_left (by rw [List.length_take]; omega), List.getElem?_take_of_lt hlt]
    · rw [List.getElem?_append_right (by rw [List.length_take]; omega), h3 i (by omega), List.getElem?_append_right (by omega)]
      congr 1
      rw [List.length_take]
      omega
  · rw [List.length_take]; omega
  · obtain ⟨a, s, c, e, r⟩ := h2
    exact ⟨a, s, c, by rw [List.getElem?_take_of_lt hk]; exact e, r⟩
  · by_cases hlt : i < M.length
    · rw [List.getElem?_take_of_lt hlt, h3 i hi, List.getElem?_append_left hlt]
    · rw [List.getElem?_eq_none (by rw [List.length_take]; omega), List.getElem?_eq_none (by omega)]
theorem Gst.rtqO {k : Nat} {n : Int} {M M1 G : Mem} {Q : DQ} {d : D} (h : Gst k n M M1) (q : Q d M1) (hb : below M1.length d = true := by rfl) : Rtq M Q d (M1 ++ G) := by
  obtain ⟨M2, G2, e, h2⟩ := h.rtq q hb
  subst e
  exact ⟨M2, G2 ++ G, List.append_assoc _ _ _, h2⟩
theorem setO {M G : Mem} {n : Nat} {x y : Own} (h : M.length = n) : (M ++ x :: G).set n y = M ++ y :: G := by rw [← h]; exact setM
theorem getO {M G : Mem} {n : Nat} {x : Own} (h : M.length = n) : (M ++ x :: G)[n]? = some x := by rw [← h]; exact getM
theorem below_tIs' (n : Nat) (l : List (List Int)) : below n (.lst (l.map tI)) = true := below_tIs (n := n) l
theorem atI_neg1O {l : List D} {x : D} : atI (l ++ [x]) (-1) = some x := by
  unfold atI
  have h : ixN (l ++ [x]).length (-1) = some l.length := by
    rw [List.length_append, List.length_singleton]
    unfold ixN
    split <;> first | omega | (split <;> first | omega | (congr 1; omega))
  rw [h]
  simp
/-- a drawn word -/
def sp_lsome_word : DSp := fun ds M Q _ => ∃ (k : Nat) (a b c e n w : Int), ds = [.own k, T4 a b c e, .int w] ∧ 0 ≤ w ∧ w ≤ 10 ∧ isCut a b c e = true ∧ Bi 200 (meas4 b c e) ∧ Gn k n M ∧ n ≤ P40 - 3000 ∧
  ∀ ws y M', WdW [a, b, c, e] ws y → ws.length ≤ 10 → Gst k (n + 2000) M M' → Q (.lst (ws.map tI)) M'
theorem rd_l_some_word_3bfd : ∀ ds M Q, ds.length = 3 → sp_lsome_word ds M Q DX0 → t_l_some_word_3bfd sp_random sp_lsome_deed sp_ldone (dEnds M Q) (startD 6 ds) M := by
  rintro _ M Q - ⟨k, a, b, c, e, n, w, rfl, w0, w1, hcut, hm, hg, hn, h⟩
  unfold t_l_some_word_3bfd
  have hk := hg.ltO
  refine dSeq_open fun B hB => ?_
  walk_at "rd"
  rw [← hB]
  clear hB B
  refine dSeq_open fun B hB => ?_
  walk_at "rd"
  refine ⟨k, w + 1, n, rfl, by omega, lt900 (by omega), hg.appO, by omega, fun v M1 v0 v1 g1 => ?_⟩
  obtain ⟨N1, rfl, gg1⟩ := g1.cutO hk
  try dsimp only
  refine ⟨⟨by omega, by omega⟩, ?_⟩
  refine ⟨fun i r M' => i ≤ v.toNat ∧ ∃ (N : Mem) (ws : List (List Int)) (a1 b1 c1 e1 : Int) (t : Option D), M' = N ++ [.lst (ws.map tI)] ∧ Gst k (n + 40 + 160 * i) M N ∧ ws.length = i ∧ WdW [a, b, c, e] ws [a1, b1, c1, e1] ∧ isCut a1 b1 c1 e1 = true ∧ meas4 b1 c1 e1 = meas4 b c e ∧
    r = [some (.own k), some (T4 a b c e), some (.int w), some (.own M.length), some (T4 a1 b1 c1 e1), t], ⟨by omega, N1, [], a, b, c, e, _, rfl, gg1.le (m := n + 40 + 160 * ((0 : Nat) : Int)) (by omega), rfl, .nil _, hcut, rfl, rfl⟩, ?_⟩
  rintro i r M' ⟨hi, N, ws, a1, b1, c1, e1, t, rfl, gN, hws, hw, hc1, hm1, rfl⟩
  refine ⟨trivial, fun hl => ?_, fun d hd => ?_⟩
  · dsimp only
    rw [← hB]
    walk_at "rd"
    rw [getO gN.1]
    dsimp only
    have g2 := gN.le (m := n + 2000) (by omega)
    rw [setO gN.1]
    exact g2.rtqO (h ws _ N hw (by omega) g2) (below_tIs' _ _)
  · obtain ⟨hi2, rfl⟩ := rng_get.mp hd
    refine dSeq_open fun B1 hB1 => ?_
    walk_at "rd"
    refine ⟨⟨_, _, rfl, getO gN.1⟩, k, a1, b1, c1, e1, _, rfl, hc1, by rw [hm1]; exact hm, gN.2.1.appO, by omega, fun p q M2 hdq g2 => ?_⟩
    obtain ⟨N2, rfl, gg2⟩ := g2.cutO (by rw [gN.1]; exact hk)
    try dsimp only
    have gN2 := gN.trans gg2
    rw [getO gN2.1]
    dsimp only
    rw [setO gN2.1, ← hB1]
    clear hB1 B1
    have e1' : ws.map tI ++ [.tup [.int p, .int q]] = (ws ++ [[p, q]]).map tI := by rw [List.map_append]; rfl
    rw [e1']
    have hlen : 0 < (ws ++ [[p, q]]).length := by simp
    walk_at "rd"
    refine ⟨by rw [List.length_map]; omega, ?_⟩
    unfold res
    dsimp only
    rw [getO gN2.1]
    dsimp only
    have e2 : atI ((ws ++ [[p, q]]).map tI) (-1) = some (.tup [.int p, .int q]) := by
      rw [← e1']
      exact atI_neg1O
    rw [e2]
    dsimp only
    have cb := cut_bi hc1 (by rw [hm1]; exact hm)
    obtain ⟨bq, bp⟩ := deed_bi hc1 cb hdq
    obtain ⟨dq, _⟩ := isDeed_parts hdq
    refine ⟨a1, b1, c1, e1, p, q, rfl, dq.q1, (cut_parts hc1).2.1, dq.cp, dq.al, cb.mono, bp.mono, bq.mono, fun a3 w3 g3 e3 hd3 => ?_⟩
    obtain ⟨d1, d2, _⟩ := done_of hc1 hdq hd3
    exact ⟨by omega, N2, ws ++ [[p, q]], a3, w3, g3, e3, _, rfl, gN2.le (by omega), by simp; omega, hw.snoc hdq hd3, d1, d2.trans hm1, rfl⟩
/-- a drawn measure -/
def sp_lsome_measure : DSp := fun ds M Q _ => ∃ (k : Nat) (most n : Int), ds = [.own k, .int most] ∧ 17 ≤ most ∧ most ≤ 1000 ∧ Gn k n M ∧ n ≤ P40 - 400 ∧ ∀ (m : Nat) M', 5 ≤ m → m % 4 < 2 → (m : Int) ≤ most → Gst k (n + 80) M M' → Q (.int (m : Int)) M'
theorem rd_l_some_measure_bbc9 : ∀ ds M Q, ds.length = 2 → sp_lsome_measure ds M Q DX0 → t_l_some_measure_bbc9 sp_random (dEnds M Q) (startD 3 ds) M := by
  rintro _ M Q - ⟨k, most, n, rfl, hm1, hm2, hg, hn, h⟩
  unfold t_l_some_measure_bbc9
  refine dSeq_open fun B hB => ?_
  walk_at "rd"
  refine ⟨k, 2, n, rfl, by decide, lt900 (by decide), hg, by omega, fun v M1 v0 v1 g1 => ?_⟩
  try dsimp only
  rw [gEq_int]
  dsimp only
  by_cases hv : v = 0
  · rw [if_pos (beq_iff_eq.mpr hv)]
    rw [fdiv_pos (show (0 : Int) < 8 by decide)]
    have hmx : ∃ mx : Int, (if 1 > (most - 9) / 8 then 1 else (most - 9) / 8) = mx ∧ 1 ≤ mx ∧ 8 * mx ≤ most - 9 ∨ mx = 1 ∧ (if 1 > (most - 9) / 8 then 1 else (most - 9) / 8) = mx := by
      by_cases z : 1 > (most - 9) / 8
      · exact ⟨1, .inr ⟨rfl, by rw [if_pos z]⟩⟩
      · exact ⟨(most - 9) / 8, .inl ⟨by rw [if_neg z], by omega, by omega⟩⟩
    obtain ⟨mx, hmx⟩ := hmx
    have emx : (if 1 > (most - 9) / 8 then 1 else (most - 9) / 8) = mx := hmx.elim (fun h => h.1) fun h => h.2
    have hmx1 : 1 ≤ mx ∧ 8 * mx ≤ most - 9 := by
      rcases hmx with ⟨_, h1, h2⟩ | ⟨h1, h2⟩
      · exact ⟨h1, h2⟩
      · omega
    rw [emx]
    refine ⟨⟨by decide, by decide⟩, k, mx, _, rfl, by omega, lt900 (by omega), g1.2.1, by omega, fun v2 M2 v20 v21 g2 => ?_⟩
    try dsimp only
    have g := (g1.trans g2).le (m := n + 80) (by omega)
    obtain ⟨m, em⟩ := Int.eq_ofNat_of_zero_le (show 0 ≤ 17 + 8 * v2 by omega)
    have b8 : Bi 5 8 := Bi.of_abs 8 (by decide)
    have bv : Bi 12 v2 := Bi.of_abs 1000 (by omega) (by decide)
    refine ⟨⟨b8.sm, bv.sm⟩, ?_⟩
    rw [em]
    exact g.rtq (h m M2 (by omega) (by omega) (by omega) g)
  · rw [if_neg (fun z => hv (beq_iff_eq.mp z)), ← hB]
    clear hB B
    refine dSeq_open fun B hB => ?_
    walk_at "rd"
    refine ⟨k, most - 8, _, rfl, by omega, lt900 (by omega), g1.2.1, by omega, fun v2 M2 v20 v21 g2 => ?_⟩
    try dsimp only
    rw [← hB]
    clear hB B
    walk_at "rd"
    refine ⟨(by decide : (4 : Int) ≠ 0), ?_⟩
    rw [fmod_pos (show (0 : Int) < 4 by decide)]
    have g := (g1.trans g2).le (m := n + 80) (by omega)
    have fin : ∀ z : Int, 5 ≤ z → z % 4 < 2 → z ≤ most → Rtq M Q (.int z) M2 := fun z h1 h2 h3 => by
      obtain ⟨m, em⟩ := Int.eq_ofNat_of_zero_le (show 0 ≤ z by omega)
      rw [em] at h1 h2 h3 ⊢
      exact g.rtq (h m M2 (by omega) (by omega) (by omega) g)
    rcases (by omega : (5 + v2) % 4 = 0 ∨ (5 + v2) % 4 = 1 ∨ (5 + v2) % 4 = 2 ∨ (5 + v2) % 4 = 3) with z | z | z | z
    all_goals
      rw [z]
      walk_at "rd"
      exact fin _ (by omega) (by omega) (by omega)
/-! ### all cuttings of a measure -/
def rawL (n : Nat) (b c e : Int) : List (List Int) := (List.range n).map fun (i : Nat) => [(i : Int), b, c, e]
def cutL (x : List Int) : Bool := match x with
  | [a, b, c, e] => isCut a b c e
  | _ => false
theorem raw_lows (n : Nat) (b c e : Int) : (rawL n b c e).filter cutL = lowsL n b c e := by
  unfold rawL lowsL
  rw [List.filter_map, ← List.filterMap_eq_map, ← List.filterMap_eq_filter, List.filterMap_filterMap]
  congr 1
  funext i
  show ((if cutL [(i : Int), b, c, e] = true then some i else none).bind fun i => some [(i : Int), b, c, e]) = _
  show ((if isCut (i : Int) b c e = true then some i else none).bind fun i => some [(i : Int), b, c, e]) = _
  split <;> rfl
theorem raw_len (n : Nat) (b c e : Int) : (rawL n b c e).length = n := by unfold rawL; rw [List.length_map, List.length_range]
def is4 (x : List Int) : Prop := ∃ a b c e : Int, x = [a, b, c, e]
theorem raw_is4 {n : Nat} {b c e : Int} : ∀ x ∈ rawL n b c e, is4 x := fun x hx => by
  obtain ⟨i, _, rfl⟩ := List.mem_map.mp hx
  exact ⟨_, _, _, _, rfl⟩
theorem rng_map {n : Nat} {lo : Int} {f : D → Option D} {g : Nat → List Int} (h : ∀ i : Nat, f (.int (lo + (i : Int))) = some (tI (g i))) : (rng lo n).filterMap f = ((List.range n).map g).map tI := by
  rw [rng_fm (g := fun i => some (g i)) (fun i => by rw [h]; rfl), List.filterMap_eq_map']
theorem rd_l_cuttings_78a4 : ∀ ds M Q, ds.length = 1 → sp_lcuts ds M Q DX0 → t_l_cuttings_78a4 sp_gcd sp_is_cutting (dEnds M Q) (startD 8 ds) M := by
  rintro _ M Q - ⟨m, rfl, hm, h1000, q⟩
  have m5 := meas_ge hm
  unfold t_l_cuttings_78a4
  refine dSeq_open fun B hB => ?_
  walk_at "rd"
  rw [← hB]
  clear hB B
  refine dSeq_open fun B hB => ?_
  walk_at "rd"
  refine ⟨⟨⟨by decide, by decide⟩, ⟨by decide, by decide⟩⟩, ?_⟩
  have e32 : ∀ a b c e : Int, isCut a b c e = true → meas4 b c e = m → -60 ≤ e ∧ e ≤ 60 := fun a b c e h1 h2 => by
    obtain ⟨_, _, _, _, _, _, k7, k8⟩ := isC_small h1 h2 (by omega)
    omega
  refine ⟨fun i r M' => M' = M ∧ i ≤ 121 ∧ ∃ (l : List (List Int)) (t2 t3 t4 t5 : Option D), r = [some (.int m), some (.lst (l.map tI)), t2, t3, t4, t5, none, none] ∧ CovX m (l.filter cutL) (fun _ e' => e' < -60 + (i : Int)) ∧ l.length ≤ 62500 * i ∧ ∀ x ∈ l, is4 x,
    ⟨rfl, by omega, [], _, _, _, _, rfl, CovX.nil ?_, by simp, fun x hx => nomatch hx⟩, ?_⟩
  · intro a b c e h1 h2 h3
    have := e32 a b c e h1 h2
    omega
  rintro i r M' ⟨rfl, hi, l, t2, t3, t4, t5, rfl, hcov, hlen, h4⟩
  refine ⟨trivial, fun hl => ?_, fun d hd => ?_⟩
  · dsimp only
    rw [rng_len] at hl
    replace hl : 121 ≤ i := hl
    rw [← hB]
    walk_at "rd"
    refine lcW_tI (fun y => if cutL y = true then some y else none) trivial (by rw [sizeLine_eq]; omega) (fun y hy Y N hY => ?_) ?_
    · obtain ⟨a, b, c, e, rfl⟩ := h4 y hy
      rw [tI4]
      walk_at "rd"
      refine sp_is_cutting_T4 ?_
      dsimp only
      rw [show cutL [a, b, c, e] = isCut a b c e from rfl] at hY
      cases hcut : isCut a b c e with
      | true => rw [hcut, if_pos rfl] at hY; rw [if_pos rfl]; exact hY
      | false => rw [hcut, if_neg (by decide)] at hY; rw [if_neg (by decide)]; exact hY
    · rw [show l.filterMap (fun y => if cutL y = true then some y else none) = l.filter cutL from by rw [← List.filterMap_eq_filter]; rfl]
      have hall : CovX m (l.filter cutL) (fun _ e' => e' < -60 + (i : Int)) := hcov
      refine gSorted_tI hall.len4 (by decide) fun l' pm sd => rtq (q l' (AllC.of hall (fun a b c e h1 h2 => ?_) ?_ pm sd)) (below_tIs l')
      · have := e32 a b c e h1 h2
        omega
      · have := List.length_filter_le cutL l
        omega
  · obtain ⟨hi2, rfl⟩ := rng_get.mp hd
    replace hi2 : i < 121 := hi2
    generalize he : -60 + (i : Int) = e at *
    have be : Bi 10 e := Bi.of_abs 60 (by omega) (by decide)
    have hs := sq_nn e
    refine dSeq_open fun B1 hB1 => ?_
    walk_at "rd"
    refine ⟨⟨be.sm, be.sm⟩, ?_⟩
    generalize hleft : m - e * e = left at *
    rw [← hB1]
    clear hB1 B1
    refine dSeq_open fun B1 hB1 => ?_
    walk_at "rd"
    refine ⟨⟨by decide, by decide⟩, ?_⟩
    rw [fdiv_pos (show (0 : Int) < 4 by decide)]
    generalize hmany : left / 4 = many at *
    rw [← hB1]
    clear hB1 B1
    walk_at "rd"
    have hlo : -3600 ≤ e * e - e * e := by omega
    have hee : e * e ≤ 3600 := by
      have := Int.mul_nonneg (show 0 ≤ 60 - e by omega) (show 0 ≤ 60 + e by omega)
      have e3 : (60 - e) * (60 + e) = 3600 - e * e := by grind
      omega
    refine ⟨⟨⟨by decide, by decide⟩, ⟨by omega, by omega⟩⟩, ?_⟩
    refine ⟨fun j r M1 => M1 = M' ∧ j ≤ (many + 1 - 1).toNat ∧ ∃ (l2 : List (List Int)) (t5 : Option D), r = [some (.int m), some (.lst (l2.map tI)), some (.int e), some (.int left), some (.int many), t5, none, none] ∧ CovX m (l2.filter cutL) (fun c' e' => e' < e ∨ (e' = e ∧ c' < 1 + (j : Nat))) ∧ l2.length ≤ 62500 * i + 250 * j ∧ ∀ x ∈ l2, is4 x, ⟨rfl, by omega, l, _, rfl, hcov.iff ?_, by omega, h4⟩, ?_⟩
    · intro a b c e' h1 h2
      have := (cut_parts h1).2.1
      constructor
      · rintro (h | ⟨_, h⟩)
        · exact h
        · omega
      · exact .inl
    rintro j r M1 ⟨rfl, hj, l2, t5', rfl, hcov2, hlen2, h42⟩
    refine ⟨trivial, fun hl2 => ?_, fun d2 hd2 => ?_⟩
    · dsimp only
      rw [rng_len] at hl2
      refine ⟨rfl, by omega, l2, _, _, _, _, rfl, hcov2.iff fun a b c e' h1 h2 => ⟨fun h3 => ?_, fun h3 => ?_⟩, by omega, h42⟩
      · by_cases z : e' = e
        · refine .inr ⟨z, ?_⟩
          have h5 := meas_bc.mp h2
          obtain ⟨g1, g2, _⟩ := cut_parts h1
          have : 1 * c ≤ b * c := Int.mul_le_mul_of_nonneg_right g1 (by omega)
          rw [z] at h5
          omega
        · exact .inl (by omega)
      · rcases h3 with h3 | ⟨h3, _⟩ <;> omega
    · obtain ⟨hj2, rfl⟩ := rng_get.mp hd2
      generalize hc : (1 : Int) + (j : Nat) = c at *
      have c1 : 1 ≤ c := by omega
      have c2 : c ≤ 250 := by omega
      have step0 : (left % 4 ≠ 0 ∨ many % c ≠ 0) → CovX m (l2.filter cutL) (fun c' e' => e' < e ∨ (e' = e ∧ c' < 1 + ((j + 1 : Nat) : Int))) := fun hn => hcov2.iff fun a b c' e' h1 h2 => by
        have h5 := meas_bc.mp h2
        constructor
        · rintro (h | ⟨h, h'⟩)
          · exact .inl h
          · by_cases z : c' = c
            · exfalso
              subst z
              rw [h] at h5
              rcases hn with hn | hn
              · omega
              · apply hn
                have : many = b * c' := by omega
                rw [this]
                exact Int.mul_emod_left ..
            · exact .inr ⟨h, by omega⟩
        · rintro (h | ⟨h, h'⟩)
          · exact .inl h
          · exact .inr ⟨h, by omega⟩
      walk_at "rd"
      refine ⟨(by decide : (4 : Int) ≠ 0), ?_⟩
      rw [fmod_pos (show (0 : Int) < 4 by decide)]
      by_cases hl4 : left % 4 = 0
      · rw [if_pos hl4]
        refine ⟨(show c ≠ 0 by omega), ?_⟩
        rw [fmod_pos (show 0 < c by omega)]
        by_cases hdv : many % c = 0
        · rw [if_pos hdv]
          refine ⟨⟨by omega, Nat.lt_of_lt_of_le (log2_of 10 (show Bi 10 c from Bi.of_abs 300 (by omega) (by decide)) (by decide)) (by decide)⟩, ?_⟩
          rw [fdiv_pos (show 0 < c by omega)]
          have hb : many / c * c = many := Int.ediv_mul_cancel (Int.dvd_of_emod_eq_zero hdv)
          generalize hbb : many / c = b at *
          refine ⟨b, c, rfl, ?_⟩
          dsimp only
          have gc : (Int.gcd b c : Int) ≤ c := Int.le_of_dvd (by omega) (Int.gcd_dvd_right _ _)
          refine ⟨⟨by omega, by omega⟩, ?_⟩
          have eG : ((Int.gcd b c : Nat) : Int).toNat = Int.gcd b c := by omega
          rw [eG]
          refine lcW_pure (fun d => match d with | .int a => some (T4 a b c e) | _ => none) trivial (by rw [rng_len, sizeLine_eq]; omega) (fun d hd Y N hy => ?_) ?_
          · obtain ⟨i2, hi2'⟩ := List.mem_iff_getElem?.mp hd
            obtain ⟨hi3, rfl⟩ := rng_get.mp hi2'
            walk_at "rd"
            refine ⟨⟨by omega, Nat.lt_of_lt_of_le (log2_of 10 (show Bi 10 c from Bi.of_abs 300 (by omega) (by decide)) (by decide)) (by decide)⟩, ?_⟩
            rw [fdiv_pos (show 0 < c by omega), hbb]
            exact hy
          · rw [rng_map (g := fun i => [(i : Int), b, c, e]) (fun i => by
              show some (T4 (0 + (i : Int)) b c e) = _
              rw [Int.zero_add]; rfl)]
            have hcov3 := hcov2.app (lows_covX (m := m) (b := b) (e := e) c1 (show 4 * many = m - e * e by omega) hb) fun c' e' h1 h2 => by
              rcases h1 with h1 | ⟨_, h1⟩ <;> omega
            have hr := raw_len (Int.gcd b c) b c e
            have hr2 : (List.map (fun i : Nat => [(i : Int), b, c, e]) (List.range (Int.gcd b c))).length = Int.gcd b c := hr
            refine ⟨by rw [List.length_map, List.length_map, hr2]; omega, ?_⟩
            rw [← List.map_append]
            refine ⟨rfl, by omega, l2 ++ rawL (Int.gcd b c) b c e, _, rfl, ?_, ?_, fun x hx => ?_⟩
            · rw [List.filter_append, raw_lows]
              refine hcov3.iff fun a b' c' e' h1 h2 => ?_
              constructor
              · rintro (h | ⟨h, h'⟩)
                · exact .inl (.inl h)
                · by_cases z : c' = c
                  · exact .inr ⟨z, h⟩
                  · exact .inl (.inr ⟨h, by omega⟩)
              · rintro ((h | ⟨h, h'⟩) | ⟨h, h'⟩)
                · exact .inl h
                · exact .inr ⟨h, by omega⟩
                · exact .inr ⟨h', by omega⟩
            · rw [List.length_append, raw_len]
              omega
            · rcases List.mem_append.mp hx with hx | hx
              · exact h42 x hx
              · exact raw_is4 x hx
        · rw [if_neg hdv]
          exact ⟨by omega, l2, _, rfl, step0 (.inr hdv), by omega, h42⟩
      · rw [if_neg hl4]
        exact ⟨by omega, l2, _, rfl, step0 (.inl hl4), by omega, h42⟩
theorem CovD.none {b c e k : Int} {l : List (List Int)} (h : CovD b c e l k) (hk : ¬ 0 < b - k * e - k * k * c) : CovD b c e l (k + 1) := by
  refine ⟨h.1, fun x => (h.2 x).trans ⟨?_, ?_⟩⟩
  · rintro ⟨p, q, rfl, h1, h2⟩; exact ⟨p, q, rfl, h1, by omega⟩
  · rintro ⟨p, q, rfl, h1, h2⟩
    refine ⟨p, q, rfl, h1, ?_⟩
    by_cases z : q = k
    · subst z; exact (hk (isDeed_parts h1).1.al).elim
    · omega
theorem rd_l_deeds_d0dc : ∀ ds M Q, ds.length = 1 → sp_ldeeds ds M Q DX0 → t_l_deeds_d0dc sp_gcd (dEnds M Q) (startD 9 ds) M := by
  rintro _ M Q - ⟨a, b, c, e, rfl, hcut, hm, q⟩
  unfold t_l_deeds_d0dc
  obtain ⟨k1, k2, k3, k4, k5, k6, k7, k8⟩ := cut600 hcut hm
  obtain ⟨l1, l2⟩ := lot_le (b := b) k3
  have G0 := gcd_pos' (b := b) k3
  have gc : (Int.gcd b c : Int) ≤ c := Int.le_of_dvd (by omega) (Int.gcd_dvd_right _ _)
  have be : Bi 10 e := Bi.of_abs 100 (by omega) (by decide)
  have bc : Bi 10 c := Bi.of_abs 300 (by omega) (by decide)
  have hrow : ∀ (k : Int) (l : List (List Int)), CovD b c e l k → 1 ≤ k → 0 < b - k * e - k * k * c → CovD b c e (l ++ rowD (k * (c / (Int.gcd b c : Int))).toNat k) (k + 1) := fun k l h h1 h2 => h.step h1 h2
  refine dSeq_open fun B hB => ?_
  walk_at "rd"
  rw [← hB]
  clear hB B
  refine dSeq_open fun B hB => ?_
  walk_at "rd"
  refine ⟨b, c, rfl, ⟨by omega, Nat.lt_of_lt_of_le (log2_of 10 (show Bi 10 (Int.gcd b c : Int) from Bi.of_abs 300 (by omega) (by decide)) (by decide)) (by decide)⟩, ?_⟩
  rw [fdiv_pos G0]
  generalize hlot : c / (Int.gcd b c : Int) = lot at *
  have blot : Bi 10 lot := Bi.of_abs 300 (by omega) (by decide)
  rw [← hB]
  clear hB B
  refine dSeq_open fun B hB => ?_
  walk_at "rd"
  refine ⟨⟨⟨by decide, by decide⟩, ⟨by decide, by decide⟩⟩, ?_⟩
  refine ⟨fun i r M' => M' = M ∧ i ≤ 399 ∧ ∃ (l : List (List Int)) (t : Option D), r = [some (T4 a b c e), some (.int a), some (.int b), some (.int c), some (.int e), some (.lst (l.map tI)), some (.int lot), t, none] ∧ CovD b c e l (1 + (i : Int)) ∧ (l.length : Int) ≤ 26250 * min (i : Int) 175, ⟨rfl, by omega, [], _, rfl, ⟨List.nodup_nil, fun x => ⟨fun h => (by cases h), ?_⟩⟩, by simp only [List.length_nil]; omega⟩, ?_⟩
  · rintro ⟨p, q, rfl, h1, h2⟩
    have := (isDeed_parts h1).1.q1
    omega
  rintro i r M' ⟨rfl, hi, l, t, rfl, hcov, hlen⟩
  refine ⟨trivial, fun hl => ?_, fun d hd => ?_⟩
  · dsimp only
    rw [rng_len] at hl
    replace hl : 399 ≤ i := hl
    have ei : i = 399 := by omega
    subst ei
    rw [← hB]
    walk_at "rd"
    refine gSorted_tI hcov.len2 (by decide) fun l' pm sd => rtq (q l' (AllD.of k2 k3 (by omega) hcov ?_ (by omega) pm sd)) (below_tIs l')
    have : (1 : Int) + (399 : Nat) = 400 := rfl
    rw [this]
    omega
  · obtain ⟨hi2, rfl⟩ := rng_get.mp hd
    replace hi2 : i < 399 := hi2
    generalize hq : (1 : Int) + (i : Int) = q' at *
    have bq : Bi 10 q' := Bi.of_abs 400 (by omega) (by decide)
    have hnx : (1 : Int) + ((i + 1 : Nat) : Int) = q' + 1 := by omega
    walk_at "rd"
    refine ⟨⟨bq.sm, be.sm⟩, ⟨bq.sm, bq.sm⟩, ⟨(bq.mul bq).sm, bc.sm⟩, ?_⟩
    by_cases hal : 0 < b - q' * e - q' * q' * c
    · rw [if_pos hal]
      have hq2 := deed_q k2 k3 (by omega) hal
      have hst := hrow q' l hcov (by omega) hal
      have hle : q' * lot ≤ 175 * 150 := Int.mul_le_mul (by omega) (by omega) (by omega) (by decide)
      have hge : 0 ≤ q' * lot := Int.mul_nonneg (by omega) (by omega)
      refine ⟨⟨bq.sm, blot.sm⟩, ?_⟩
      generalize hN : q' * lot = N at *
      refine ⟨⟨by omega, by omega⟩, ?_⟩
      refine lcW_pure (fun d => match d with | .int p => if (Int.gcd p q' : Int) = 1 then some (.tup [.int p, .int q']) else none | _ => none) trivial (by rw [rng_len, sizeLine_eq]; omega) (fun d hd Y N' hy => ?_) ?_
      · obtain ⟨i2, hi2'⟩ := List.mem_iff_getElem?.mp hd
        obtain ⟨hi3, rfl⟩ := rng_get.mp hi2'
        walk_at "rd"
        refine ⟨_, q', rfl, ?_⟩
        dsimp only at hy ⊢
        rw [gEq_int]
        dsimp only
        by_cases hg : (Int.gcd (0 + (i2 : Int)) q' : Int) = 1
        · rw [if_pos hg] at hy
          rw [if_pos (by simpa using hg)]
          exact hy
        · rw [if_neg hg] at hy
          rw [if_neg (by simpa using hg)]
          exact hy
      · rw [rng_fm (g := fun i => if (Int.gcd (i : Int) q' : Int) = 1 then some [(i : Int), q'] else none) (fun i => by
          show (if (Int.gcd (0 + (i : Int)) q' : Int) = 1 then some (D.tup [.int (0 + (i : Int)), .int q']) else none) = _
          rw [Int.zero_add]
          split <;> rfl)]
        have hl3 := rowD_len (N := N.toNat) (q := q')
        show _ ∧ _
        have hl3' : (List.filterMap (fun i : Nat => if (Int.gcd (i : Int) q' : Int) = 1 then some [(i : Int), q'] else none) (List.range N.toNat)).length ≤ N.toNat := hl3
        refine ⟨by rw [List.length_map, List.length_map]; omega, ?_⟩
        rw [← List.map_append]
        refine ⟨rfl, by omega, l ++ rowD N.toNat q', _, rfl, by rw [hnx]; exact hst, ?_⟩
        rw [List.length_append]
        omega
    · rw [if_neg hal]
      exact ⟨by omega, l, _, rfl, by rw [hnx]; exact hcov.none hal, by omega⟩
/-! ### the graph of deeds -/
end DL
namespace DL
open PySem PySem.Spec PyProof.Rows L2
/-! RdPP: the table of deeds, and the first of the shortest words by going through all -/
local macro_rules | `(tactic| walk_at "rd") => `(tactic| simp only [startD, List.map, List.replicate, List.length_cons, List.length_nil, List.append_eq, List.append_nil, List.nil_append, List.cons_append, Nat.reduceSub, Nat.reduceAdd, List.getElem?_cons_zero, List.getElem?_cons_succ, List.set_cons_zero, List.set_cons_succ,
  dC, dVar, dOp, dTru, gTru, tru, dChain, dAnd, dOr, dNot, dAndV, dOrV, dNotV, dIf, dNeg, gNeg, dNil, dCons, dTup, dLst, dOwn, gIx, rBin, gAdd, gCmpI, dCall, dCallK, dSeq, dNext, dDrop, dRet, dRetN, dIfS, dName, dGNil, dGCons, dGTup, dSub, gSetL, dAsg, dPar, dPar3, dAug, gIpI, dSeqI, gSeqI, dRngI, gRng1, gRng2, dCB, gAbs, gInt, gMax, gMin, gGcd, gLen, lenD, gIsi, tyM, tyD, dBits, gBits, dMet, gAppend, dPart, dNoPart, dSl, gSl_tup, gSl_lst, cut_1, dEnds, gIs, isB, dNever, dCallX, dRaise, dTry, dFld, dCallV, gLRng, gFrz, dFrz, dFor, dLc, wipeD, dYes,
  sizeLine_eq, Nat.reduceLeDiff, gEq_int, gNe_int, gEq_strs, gNe_strs, gIn_two, gRepr_bl, rs_lst, rs_tup, rs_scr, rs_int, atI_0, atI_1, atI_2, atI_3, atI_4, atI_5, ixN_30, ixN_31, ixN_32, gEq_bl, gNe_bl, decide_eq_true_eq, beq_iff_eq, Bool.not_eq_true', beq_eq_false_iff_ne, decide_eq_false_iff_not, Bool.not_true, Bool.not_false, if_true, if_false, Bool.false_eq_true, ite_true, ite_false, true_and, and_true, ne_eq, Bool.bne_false, Bool.bne_true, reduceCtorEq])
local macro_rules | `(tactic| walk_at "rh") => `(tactic| simp only [*, startD, List.map, List.replicate, List.length_cons, List.length_nil, List.append_eq, List.append_nil, List.nil_append, List.cons_append, Nat.reduceSub, Nat.reduceAdd, List.getElem?_cons_zero, List.getElem?_cons_succ, List.set_cons_zero, List.set_cons_succ,
  dC, dVar, dOp, dTru, gTru, tru, dChain, dAnd, dOr, dNot, dAndV, dOrV, dNotV, dIf, dNeg, gNeg, dNil, dCons, dTup, dLst, dOwn, gIx, rBin, gAdd, gCmpI, dCall, dCallK, dSeq, dNext, dDrop, dRet, dRetN, dIfS, dName, dGNil, dGCons, dGTup, dSub, gSetL, dAsg, dPar, dPar3, dAug, gIpI, dSeqI, gSeqI, dRngI, gRng1, gRng2, dCB, gAbs, gInt, gMax, gMin, gGcd, gLen, lenD, gIsi, tyM, tyD, dBits, gBits, dMet, gAppend, dPart, dNoPart, dSl, gSl_tup, gSl_lst, cut_1, dEnds, gIs, isB, dNever, dCallX, dRaise, dTry, dFld, dCallV, gLRng, gFrz, dFrz, dFor, dLc, wipeD, dYes,
  sizeLine_eq, Nat.reduceLeDiff, gEq_int, gNe_int, gEq_strs, gNe_strs, gIn_two, gRepr_bl, rs_lst, rs_tup, rs_scr, rs_int, atI_0, atI_1, atI_2, atI_3, atI_4, atI_5, ixN_30, ixN_31, ixN_32, gEq_bl, gNe_bl, decide_eq_true_eq, beq_iff_eq, Bool.not_eq_true', beq_eq_false_iff_ne, decide_eq_false_iff_not, Bool.not_true, Bool.not_false, if_true, if_false, Bool.false_eq_true, ite_true, ite_false, true_and, and_true, ne_eq, Bool.bne_false, Bool.bne_true, reduceCtorEq])
local macro_rules | `(tactic| walk_at "kb") => `(tactic| simp only [kb_NoneType_list, kb_bool_list, kb_int_list, kb_str_list, kb_tuple_list, kb_list_list, kb_dict_list, kb_NoneType_int, kb_bool_int, kb_int_int, kb_str_int, kb_tuple_int, kb_list_int, kb_dict_int, kb_NoneType_bool, kb_bool_bool, kb_int_bool, kb_str_bool, kb_tuple_bool, kb_list_bool, kb_dict_bool, kb_NoneType_tuple, kb_bool_tuple, kb_int_tuple, kb_str_tuple, kb_tuple_tuple, kb_list_tuple, kb_dict_tuple, if_true, if_false, Bool.false_eq_true, ite_true, ite_false, Bool.not_true, Bool.not_false])
theorem lcW_acc {ds : List D} {C : Mem → Prop} {g : DTG} {tt : DTT} {te : DTE} {r : Env} {M : Mem} {Q : DQ} (f : D → D) (R : D → Prop) (hC : C M) (hl : ds.length ≤ sizeLine)
    (step : ∀ d ∈ ds, ∀ (Y : D → Mem → Prop) (N : Mem → Prop), (R d → Y (f d) M) → g d r M fun r2 M2 => tt r2 M2 fun b M3 => if b = true then te r2 M3 Y else N M3)
    (q : (∀ d ∈ ds, R d) → Q (.lst (ds.map f)) M) : lcW false ds C g tt te r M Q := by
  refine ⟨fun i acc M' => M' = M ∧ acc = (ds.take i).map f ∧ i ≤ ds.length ∧ ∀ d ∈ ds.take i, R d, ⟨rfl, rfl, Nat.zero_le _, fun d hd => by cases hd⟩, ?_⟩
  rintro i acc M' ⟨rfl, rfl, hi, hR⟩
  refine ⟨hC, fun hd => ?_, fun d ed => ?_⟩
  · rw [if_neg Bool.false_ne_true]
    rw [List.take_of_length_le hd] at hR ⊢; exact q hR
  · have hlt : i < ds.length := (List.getElem?_eq_some_iff.mp ed).1
    have ht : ds.take (i + 1) = ds.take i ++ [d] := by rw [List.take_add_one, ed]; rfl
    refine step d (List.mem_of_getElem? ed) _ _ fun hr => ⟨?_, rfl, ?_, hlt, ?_⟩
    · rw [List.length_map, List.length_take]; omega
    · rw [ht, List.map_append]; rfl
    · intro d' hd'
      rw [ht] at hd'
      rcases List.mem_append.mp hd' with h | h
      · exact hR d' h
      · rw [List.mem_singleton.mp h]; exact hr
/-! ### keys -/
/-! ### the law's table -/
/-! ### going through all, by first words -/
/-! ### the law's walk -/
end DL
namespace DL
open PySem PySem.Spec PyProof.Rows L2
local macro_rules | `(tactic| walk_at "rd") => `(tactic| simp only [startD, List.map, List.replicate, List.length_cons, List.length_nil, List.append_eq, List.append_nil, List.nil_append, List.cons_append, Nat.reduceSub, Nat.reduceAdd, List.getElem?_cons_zero, List.getElem?_cons_succ, List.set_cons_zero, List.set_cons_succ,
  dC, dVar, dOp, dTru, gTru, tru, dChain, dAnd, dOr, dNot, dAndV, dOrV, dNotV, dIf, dNeg, gNeg, dNil, dCons, dTup, dLst, dOwn, gIx, rBin, gAdd, gCmpI, dCall, dCallK, dSeq, dNext, dDrop, dRet, dRetN, dIfS, dName, dGNil, dGCons, dGTup, dSub, gSetL, dAsg, dPar, dPar3, dAug, gIpI, dSeqI, gSeqI, dRngI, gRng1, gRng2, dCB, gAbs, gInt, gMax, gMin, gGcd, gLen, lenD, gIsi, tyM, tyD, dBits, gBits, dMet, gAppend, dPart, dNoPart, dSl, gSl_tup, gSl_lst, cut_1, dEnds, gIs, isB, dNever, dCallX, dRaise, dTry, dFld, dCallV, gLRng, gFrz, dFrz, dFor, dLc, wipeD, dYes,
  sizeLine_eq, Nat.reduceLeDiff, gEq_int, gNe_int, gEq_strs, gNe_strs, gIn_two, gRepr_bl, rs_lst, rs_tup, rs_scr, rs_int, atI_0, atI_1, atI_2, atI_3, atI_4, atI_5, ixN_30, ixN_31, ixN_32, gEq_bl, gNe_bl, decide_eq_true_eq, beq_iff_eq, Bool.not_eq_true', beq_eq_false_iff_ne, decide_eq_false_iff_not, Bool.not_true, Bool.not_false, if_true, if_false, Bool.false_eq_true, ite_true, ite_false, true_and, and_true, ne_eq, Bool.bne_false, Bool.bne_true, reduceCtorEq])
local macro_rules | `(tactic| walk_at "rh") => `(tactic| simp only [*, startD, List.map, List.replicate, List.length_cons, List.length_nil, List.append_eq, List.append_nil, List.nil_append, List.cons_append, Nat.reduceSub, Nat.reduceAdd, List.getElem?_cons_zero, List.getElem?_cons_succ, List.set_cons_zero, List.set_cons_succ,
  dC, dVar, dOp, dTru, gTru, tru, dChain, dAnd, dOr, dNot, dAndV, dOrV, dNotV, dIf, dNeg, gNeg, dNil, dCons, dTup, dLst, dOwn, gIx, rBin, gAdd, gCmpI, dCall, dCallK, dSeq, dNext, dDrop, dRet, dRetN, dIfS, dName, dGNil, dGCons, dGTup, dSub, gSetL, dAsg, dPar, dPar3, dAug, gIpI, dSeqI, gSeqI, dRngI, gRng1, gRng2, dCB, gAbs, gInt, gMax, gMin, gGcd, gLen, lenD, gIsi, tyM, tyD, dBits, gBits, dMet, gAppend, dPart, dNoPart, dSl, gSl_tup, gSl_lst, cut_1, dEnds, gIs, isB, dNever, dCallX, dRaise, dTry, dFld, dCallV, gLRng, gFrz, dFrz, dFor, dLc, wipeD, dYes,
  sizeLine_eq, Nat.reduceLeDiff, gEq_int, gNe_int, gEq_strs, gNe_strs, gIn_two, gRepr_bl, rs_lst, rs_tup, rs_scr, rs_int, atI_0, atI_1, atI_2, atI_3, atI_4, atI_5, ixN_30, ixN_31, ixN_32, gEq_bl, gNe_bl, decide_eq_true_eq, beq_iff_eq, Bool.not_eq_true', beq_eq_false_iff_ne, decide_eq_false_iff_not, Bool.not_true, Bool.not_false, if_true, if_false, Bool.false_eq_true, ite_true, ite_false, true_and, and_true, ne_eq, Bool.bne_false, Bool.bne_true, reduceCtorEq])
local macro_rules | `(tactic| walk_at "kb") => `(tactic| simp only [kb_NoneType_list, kb_bool_list, kb_int_list, kb_str_list, kb_tuple_list, kb_list_list, kb_dict_list, kb_NoneType_int, kb_bool_int, kb_int_int, kb_str_int, kb_tuple_int, kb_list_int, kb_dict_int, kb_NoneType_bool, kb_bool_bool, kb_int_bool, kb_str_bool, kb_tuple_bool, kb_list_bool, kb_dict_bool, kb_NoneType_tuple, kb_bool_tuple, kb_int_tuple, kb_str_tuple, kb_tuple_tuple, kb_list_tuple, kb_dict_tuple, if_true, if_false, Bool.false_eq_true, ite_true, ite_false, Bool.not_true, Bool.not_false])
/-! ### lists of whole numbers -/
theorem gRepr_sameE {d : D} {M : Mem} {G : DQ} (h : okV d = true) (hr : res M d = d) (q : G (.bl true) M) : gRepr [d] M (fun x M1 => gRepr [d] M1 fun y M2 => gEq x y M2 G) :=
  gRepr_ok h fun z hz => gRepr_again hz hr (by rw [gEq_strs]; simpa using q)
end DL
namespace DL
open PySem PySem.Spec PyProof.Rows L2
/-! X_k22: joined exactly -/
local macro_rules | `(tactic| walk_at "rd") => `(tactic| simp only [startD, List.map, List.replicate, List.length_cons, List.length_nil, List.append_eq, List.append_nil, List.nil_append, List.cons_append, Nat.reduceSub, Nat.reduceAdd, List.getElem?_cons_zero, List.getElem?_cons_succ, List.set_cons_zero, List.set_cons_succ,
  dC, dVar, dOp, dTru, gTru, tru, dChain, dAnd, dOr, dNot, dAndV, dOrV, dNotV, dIf, dNeg, gNeg, dNil, dCons, dTup, dLst, dOwn, gIx, rBin, gAdd, gCmpI, dCall, dCallK, dSeq, dNext, dDrop, dRet, dRetN, dIfS, dName, dGNil, dGCons, dGTup, dSub, gSetL, dAsg, dPar, dPar3, dAug, gIpI, dSeqI, gSeqI, dRngI, gRng1, gRng2, dCB, gAbs, gInt, gMax, gMin, gGcd, gLen, lenD, gIsi, tyM, tyD, dBits, gBits, dMet, gAppend, dPart, dNoPart, dSl, gSl_tup, gSl_lst, cut_1, dEnds, gIs, isB, dNever, dCallX, dRaise, dTry, dFld, dCallV, gLRng, gFrz, dFrz, dFor, dLc, wipeD, dYes,
  sizeLine_eq, Nat.reduceLeDiff, gEq_int, gNe_int, gEq_strs, gNe_strs, gIn_two, gRepr_bl, rs_lst, rs_tup, rs_scr, rs_int, atI_0, atI_1, atI_2, atI_3, atI_4, atI_5, ixN_30, ixN_31, ixN_32, gEq_bl, gNe_bl, decide_eq_true_eq, beq_iff_eq, Bool.not_eq_true', beq_eq_false_iff_ne, decide_eq_false_iff_not, Bool.not_true, Bool.not_false, if_true, if_false, Bool.false_eq_true, ite_true, ite_false, true_and, and_true, ne_eq, Bool.bne_false, Bool.bne_true, reduceCtorEq])
local macro_rules | `(tactic| walk_at "rh") => `(tactic| simp only [*, startD, List.map, List.replicate, List.length_cons, List.length_nil, List.append_eq, List.append_nil, List.nil_append, List.cons_append, Nat.reduceSub, Nat.reduceAdd, List.getElem?_cons_zero, List.getElem?_cons_succ, List.set_cons_zero, List.set_cons_succ,
  dC, dVar, dOp, dTru, gTru, tru, dChain, dAnd, dOr, dNot, dAndV, dOrV, dNotV, dIf, dNeg, gNeg, dNil, dCons, dTup, dLst, dOwn, gIx, rBin, gAdd, gCmpI, dCall, dCallK, dSeq, dNext, dDrop, dRet, dRetN, dIfS, dName, dGNil, dGCons, dGTup, dSub, gSetL, dAsg, dPar, dPar3, dAug, gIpI, dSeqI, gSeqI, dRngI, gRng1, gRng2, dCB, gAbs, gInt, gMax, gMin, gGcd, gLen, lenD, gIsi, tyM, tyD, dBits, gBits, dMet, gAppend, dPart, dNoPart, dSl, gSl_tup, gSl_lst, cut_1, dEnds, gIs, isB, dNever, dCallX, dRaise, dTry, dFld, dCallV, gLRng, gFrz, dFrz, dFor, dLc, wipeD, dYes,
  sizeLine_eq, Nat.reduceLeDiff, gEq_int, gNe_int, gEq_strs, gNe_strs, gIn_two, gRepr_bl, rs_lst, rs_tup, rs_scr, rs_int, atI_0, atI_1, atI_2, atI_3, atI_4, atI_5, ixN_30, ixN_31, ixN_32, gEq_bl, gNe_bl, decide_eq_true_eq, beq_iff_eq, Bool.not_eq_true', beq_eq_false_iff_ne, decide_eq_false_iff_not, Bool.not_true, Bool.not_false, if_true, if_false, Bool.false_eq_true, ite_true, ite_false, true_and, and_true, ne_eq, Bool.bne_false, Bool.bne_true, reduceCtorEq])
local macro_rules | `(tactic| walk_at "kb") => `(tactic| simp only [kb_NoneType_list, kb_bool_list, kb_int_list, kb_str_list, kb_tuple_list, kb_list_list, kb_dict_list, kb_NoneType_int, kb_bool_int, kb_int_int, kb_str_int, kb_tuple_int, kb_list_int, kb_dict_int, kb_NoneType_bool, kb_bool_bool, kb_int_bool, kb_str_bool, kb_tuple_bool, kb_list_bool, kb_dict_bool, kb_NoneType_tuple, kb_bool_tuple, kb_int_tuple, kb_str_tuple, kb_tuple_tuple, kb_list_tuple, kb_dict_tuple, if_true, if_false, Bool.false_eq_true, ite_true, ite_false, Bool.not_true, Bool.not_false])
/-- a cutting of the measure m -/
structure CG (m : Nat) (a b c e : Int) : Prop where
  cut : isCut a b c e = true
  me : meas4 b c e = (m : Int)
  bi : Bi 200 (m : Int)
theorem CG.cb {m : Nat} {a b c e : Int} (h : CG m a b c e) : CutB 200 a b c e := cut_bi h.cut (by rw [h.me]; exact h.bi)
theorem CG.cb100 {m : Nat} {a b c e : Int} (h : CG m a b c e) (hb : Bi 100 (m : Int)) : CutB 100 a b c e := cut_bi h.cut (by rw [h.me]; exact hb)
theorem CG.isC {m : Nat} {a b c e : Int} (h : CG m a b c e) : IsC m [a, b, c, e] := ⟨a, b, c, e, rfl, h.cut, h.me⟩
theorem odd_of {m : Nat} {b c e : Int} (hm : meas4 b c e = (m : Int)) (hs : signB m = true) : e % 2 = 1 := by
  have h8 := (signB_iff.mp hs).1
  have hm : e * e + 4 * b * c = (m : Int) := hm
  rcases (by omega : e % 2 = 0 ∨ e % 2 = 1) with z | z
  · obtain ⟨t, ht⟩ : ∃ t, e = 2 * t := ⟨e / 2, by omega⟩
    have : e * e + 4 * b * c = 2 * (2 * (t * t) + 2 * b * c) := by rw [ht]; grind
    omega
  · exact z
theorem rd_l_turn_a0b1 : ∀ ds M Q, ds.length = 1 → sp_turn_by ds M Q DX0 → t_l_turn_a0b1 (dEnds M Q) (startD 5 ds) M := rd_turn_by
theorem rd_l_signed_630a : ∀ ds M Q, ds.length = 1 → sp_is_signed ds M Q DX0 → t_l_signed_630a (dEnds M Q) (startD 1 ds) M := by
  rintro _ M Q - ⟨m, rfl, q⟩
  unfold t_l_signed_630a
  walk_at "rd"
  refine ⟨(by decide : (8 : Int) ≠ 0), ?_⟩
  rw [fmod_pos (show (0 : Int) < 8 by decide)]
  have fin : ∀ v, v = signB m → Rtq M Q (.bl v) M := by rintro _ rfl; exact rtq q
  by_cases h1 : (m : Int) % 8 = 1
  · rw [if_pos h1]
    refine fin _ ?_
    by_cases h2 : 9 < (m : Int)
    · rw [decide_eq_true h2, signB_iff.mpr ⟨by omega, by omega⟩]
    · rw [decide_eq_false h2]
      cases e : signB m with
      | false => rfl
      | true => have := signB_iff.mp e; omega
  · rw [if_neg h1]
    refine fin _ ?_
    have e0 : ((m : Int) % 8 == 1) = false := beq_eq_false_iff_ne.mpr h1
    rw [e0]
    cases e : signB m with
    | false => rfl
    | true => have := signB_iff.mp e; omega
theorem WdW.cg {m : Nat} {a b c e a' b' c' e' : Int} {ws : List (List Int)} (h : WdW [a, b, c, e] ws [a', b', c', e']) (hc : CG m a b c e) : CG m a' b' c' e' := by
  obtain ⟨_, _, _, _, z, h1, h2⟩ := h.cut hc.isC
  cases z
  exact ⟨h1, h2, hc.bi⟩
theorem WdW.end4 {m : Nat} {a b c e : Int} {ws : List (List Int)} {y : List Int} (h : WdW [a, b, c, e] ws y) (hc : CG m a b c e) : ∃ a' b' c' e', y = [a', b', c', e'] := by
  obtain ⟨a', b', c', e', z, _⟩ := h.cut hc.isC
  exact ⟨a', b', c', e', z⟩
theorem meas_of {m : Nat} (h5 : 5 ≤ m) (h4 : m % 4 < 2) : isMeas (.int (m : Int)) = true := by
  simp only [isMeas, decide_eq_true (show (5 : Int) ≤ m by omega), Bool.true_and, Bool.or_eq_true, beq_iff_eq]
  omega
theorem cg_small {m : Nat} {a b c e : Int} (hm : m ≤ 1000) (h : IsC m [a, b, c, e]) : CG m a b c e := by
  obtain ⟨_, _, _, _, z, h1, h2⟩ := h
  cases z
  exact ⟨h1, h2, Bi.of_abs 1000 (by omega) (by decide)⟩
end DL
namespace DL
open PySem PySem.Spec PyProof.Rows L2
/-! X_k20: signs are kept -/
local macro_rules | `(tactic| walk_at "rd") => `(tactic| simp only [startD, List.map, List.replicate, List.length_cons, List.length_nil, List.append_eq, List.append_nil, List.nil_append, List.cons_append, Nat.reduceSub, Nat.reduceAdd, List.getElem?_cons_zero, List.getElem?_cons_succ, List.set_cons_zero, List.set_cons_succ,
  dC, dVar, dOp, dTru, gTru, tru, dChain, dAnd, dOr, dNot, dAndV, dOrV, dNotV, dIf, dNeg, gNeg, dNil, dCons, dTup, dLst, dOwn, gIx, rBin, gAdd, gCmpI, dCall, dCallK, dSeq, dNext, dDrop, dRet, dRetN, dIfS, dName, dGNil, dGCons, dGTup, dSub, gSetL, dAsg, dPar, dPar3, dAug, gIpI, dSeqI, gSeqI, dRngI, gRng1, gRng2, dCB, gAbs, gInt, gMax, gMin, gGcd, gLen, lenD, gIsi, tyM, tyD, dBits, gBits, dMet, gAppend, dPart, dNoPart, dSl, gSl_tup, gSl_lst, cut_1, dEnds, gIs, isB, dNever, dCallX, dRaise, dTry, dFld, dCallV, gLRng, gFrz, dFrz, dFor, dLc, wipeD, dYes,
  sizeLine_eq, Nat.reduceLeDiff, gEq_int, gNe_int, gEq_strs, gNe_strs, gIn_two, gRepr_bl, rs_lst, rs_tup, rs_scr, rs_int, atI_0, atI_1, atI_2, atI_3, atI_4, atI_5, ixN_30, ixN_31, ixN_32, gEq_bl, gNe_bl, decide_eq_true_eq, beq_iff_eq, Bool.not_eq_true', beq_eq_false_iff_ne, decide_eq_false_iff_not, Bool.not_true, Bool.not_false, if_true, if_false, Bool.false_eq_true, ite_true, ite_false, true_and, and_true, ne_eq, Bool.bne_false, Bool.bne_true, reduceCtorEq])
local macro_rules | `(tactic| walk_at "rh") => `(tactic| simp only [*, startD, List.map, List.replicate, List.length_cons, List.length_nil, List.append_eq, List.append_nil, List.nil_append, List.cons_append, Nat.reduceSub, Nat.reduceAdd, List.getElem?_cons_zero, List.getElem?_cons_succ, List.set_cons_zero, List.set_cons_succ,
  dC, dVar, dOp, dTru, gTru, tru, dChain, dAnd, dOr, dNot, dAndV, dOrV, dNotV, dIf, dNeg, gNeg, dNil, dCons, dTup, dLst, dOwn, gIx, rBin, gAdd, gCmpI, dCall, dCallK, dSeq, dNext, dDrop, dRet, dRetN, dIfS, dName, dGNil, dGCons, dGTup, dSub, gSetL, dAsg, dPar, dPar3, dAug, gIpI, dSeqI, gSeqI, dRngI, gRng1, gRng2, dCB, gAbs, gInt, gMax, gMin, gGcd, gLen, lenD, gIsi, tyM, tyD, dBits, gBits, dMet, gAppend, dPart, dNoPart, dSl, gSl_tup, gSl_lst, cut_1, dEnds, gIs, isB, dNever, dCallX, dRaise, dTry, dFld, dCallV, gLRng, gFrz, dFrz, dFor, dLc, wipeD, dYes,
  sizeLine_eq, Nat.reduceLeDiff, gEq_int, gNe_int, gEq_strs, gNe_strs, gIn_two, gRepr_bl, rs_lst, rs_tup, rs_scr, rs_int, atI_0, atI_1, atI_2, atI_3, atI_4, atI_5, ixN_30, ixN_31, ixN_32, gEq_bl, gNe_bl, decide_eq_true_eq, beq_iff_eq, Bool.not_eq_true', beq_eq_false_iff_ne, decide_eq_false_iff_not, Bool.not_true, Bool.not_false, if_true, if_false, Bool.false_eq_true, ite_true, ite_false, true_and, and_true, ne_eq, Bool.bne_false, Bool.bne_true, reduceCtorEq])
local macro_rules | `(tactic| walk_at "kb") => `(tactic| simp only [kb_NoneType_list, kb_bool_list, kb_int_list, kb_str_list, kb_tuple_list, kb_list_list, kb_dict_list, kb_NoneType_int, kb_bool_int, kb_int_int, kb_str_int, kb_tuple_int, kb_list_int, kb_dict_int, kb_NoneType_bool, kb_bool_bool, kb_int_bool, kb_str_bool, kb_tuple_bool, kb_list_bool, kb_dict_bool, kb_NoneType_tuple, kb_bool_tuple, kb_int_tuple, kb_str_tuple, kb_tuple_tuple, kb_list_tuple, kb_dict_tuple, if_true, if_false, Bool.false_eq_true, ite_true, ite_false, Bool.not_true, Bool.not_false])
/-- the sign of a cutting -/
def sgD (m : Nat) (a b c e : Int) (v : D) : Prop := (signB m = false ∧ v = .non) ∨ (signB m = true ∧ ∃ κ, KF m κ ∧ v = .int ((par a b c e + κ) % 2))
theorem sgD.uni {m : Nat} {a b c e a' b' c' e' : Int} {v v' : D} (h : sgD m a b c e v) (h' : sgD m a' b' c' e' v') (hp : signB m = true → par a b c e = par a' b' c' e') : v = v' := by
  rcases h with ⟨h1, rfl⟩ | ⟨h1, κ, h2, rfl⟩
  · rcases h' with ⟨_, rfl⟩ | ⟨g1, _⟩
    · rfl
    · rw [h1] at g1; cases g1
  · rcases h' with ⟨g1, _⟩ | ⟨_, κ', g2, rfl⟩
    · rw [h1] at g1; cases g1
    · rw [h2.uni g2, hp h1]
theorem sgD.val {m : Nat} {a b c e : Int} {v : D} (h : sgD m a b c e v) : v = .non ∨ v = .int 0 ∨ v = .int 1 := by
  rcases h with ⟨_, rfl⟩ | ⟨_, κ, _, rfl⟩
  · exact .inl rfl
  · rcases (by omega : (par a b c e + κ) % 2 = 0 ∨ (par a b c e + κ) % 2 = 1) with z | z <;> rw [z]
    · exact .inr (.inl rfl)
    · exact .inr (.inr rfl)
/-- a measure that may be factored -/
structure MF (m : Nat) : Prop where
  h5 : 5 ≤ m
  h4 : m % 4 < 2
  hm : m ≤ 1000000000000
theorem MF.b100 {m : Nat} (h : MF m) : Bi 100 (m : Int) := Bi.of_abs 1000000000000 (by have := h.hm; omega) (by decide)
def sp_signG : DSp := fun ds M Q _ => ∃ (m : Nat) (a b c e : Int), ds = [T4 a b c e] ∧ MF m ∧ CG m a b c e ∧ ∀ v, sgD m a b c e v → Q v M
theorem rd_sign_byG : ∀ ds M Q, ds.length = 1 → sp_signG ds M Q DX0 → t_sign_by sp_measure_by sp_is_signed sp_factor_by sp_turn_by (dEnds M Q) (startD 2 ds) M := by
  rintro _ M Q - ⟨m, a, b, c, e, rfl, hmf, hc, q⟩
  obtain ⟨ba, bb, bc, be⟩ := hc.cb100 hmf.b100
  have hm := hmf.hm
  unfold t_sign_by
  refine dSeq_open fun B hB => ?_
  walk_at "rd"
  refine ⟨a, b, c, e, rfl, bb.mono, bc.mono, be.mono, ?_⟩
  rw [hc.me, ← hB]
  clear hB B
  refine dSeq_open fun B hB => ?_
  walk_at "rd"
  refine ⟨m, rfl, ?_⟩
  cases hs : signB m with
  | false =>
    walk_at "rd"
    exact rtq (q _ (.inl ⟨hs, rfl⟩))
  | true =>
    walk_at "rd"
    rw [← hB]
    clear hB B
    walk_at "rd"
    refine ⟨m, rfl, hmf.h5, hmf.h4, by omega, fun g F s _ _ hg hg2 => ?_⟩
    dsimp only
    have eo := odd_of hc.me hs
    have go := fac_odd hg hs
    refine ⟨⟨by decide, by decide⟩, a, b, c, e, rfl, ba, bb, bc, (by decide : (2 : Int) ≠ 0), ?_⟩
    rw [fdiv_pos (by decide), fmod_pos (by decide)]
    have := q _ (.inr ⟨hs, _, ⟨g, hg, rfl⟩, rfl⟩)
    have ev : ((e - (g : Int)) / 2 + (c + 1) * (a + b + a * b)) % 2 = (par a b c e + -(((g : Int) + 1) / 2)) % 2 := by
      unfold par
      generalize (c + 1) * (a + b + a * b) = t
      omega
    rw [ev]
    exact rtq this
theorem rd_signG : ∀ ds M Q, ds.length = 1 → sp_signG ds M Q DX0 → t_sign sp_check_cutting sp_signG (dEnds M Q) (startD 1 ds) M := by
  rintro _ M Q - ⟨m, a, b, c, e, rfl, hmf, hc, q⟩
  unfold t_sign
  walk_at "rd"
  refine ⟨a, b, c, e, rfl, hc.cut, m, a, b, c, e, rfl, hmf, hc, fun v hv => rtq (q v hv) ?_⟩
  rcases hv.val with rfl | rfl | rfl <;> rfl
/-- the law's own sign: by the greatest odd square to 1,000 -/
def sp_lsign20 : DSp := fun ds M Q _ => ∃ (m : Nat) (a b c e : Int), ds = [T4 a b c e] ∧ MF m ∧ CG m a b c e ∧ (∀ g, IsFac m g → g ≤ 999) ∧ ∀ v, sgD m a b c e v → Q v M
theorem fac_ex {m : Nat} (h : MF m) : ∃ g, IsFac m g := by
  obtain ⟨F, s, hp, h0⟩ := part_ex m (by have := h.h5; omega)
  exact ⟨_, hp.fac h0 h.h4⟩
/-- an odd square in a number with the rest 1 by 8 leaves one with the rest 1 -/
theorem odd_sq_rest {m f : Nat} (hs : signB m = true) (hf : f * f ∣ m) : m / (f * f) % 4 < 2 := by
  have h8 := (signB_iff.mp hs).1
  obtain ⟨k, hk⟩ := hf
  have hm : 10 ≤ m := (signB_iff.mp hs).2
  have hp : 0 < f * f := by
    rcases Nat.eq_zero_or_pos (f * f) with z | z
    · rw [z, Nat.zero_mul] at hk; omega
    · exact z
  rw [hk, Nat.mul_div_cancel_left _ hp]
  rcases sq_mod f with ⟨h1, _⟩ | ⟨h1, _⟩
  · have : m % 4 = f * f % 4 * (k % 4) % 4 := by rw [hk, Nat.mul_mod]
    rw [h1, Nat.zero_mul] at this
    omega
  · have : m % 4 = f * f % 4 * (k % 4) % 4 := by rw [hk, Nat.mul_mod]
    rw [h1, Nat.one_mul] at this
    omega
theorem rd_l_sign_3b1d : ∀ ds M Q, ds.length = 1 → sp_lsign20 ds M Q DX0 → t_l_sign_3b1d sp_measure_by sp_is_signed sp_turn_by (dEnds M Q) (startD 4 ds) M := by
  rintro _ M Q - ⟨m, a, b, c, e, rfl, hmf, hc, hg9, q⟩
  obtain ⟨ba, bb, bc, be⟩ := hc.cb100 hmf.b100
  have hm := hmf.hm
  unfold t_l_sign_3b1d
  refine dSeq_open fun B hB => ?_
  walk_at "rd"
  refine ⟨a, b, c, e, rfl, bb.mono, bc.mono, be.mono, ?_⟩
  rw [hc.me, ← hB]
  clear hB B
  refine dSeq_open fun B hB => ?_
  walk_at "rd"
  refine ⟨m, rfl, ?_⟩
  cases hs : signB m with
  | false =>
    walk_at "rd"
    exact rtq (q _ (.inl ⟨hs, rfl⟩))
  | true =>
    walk_at "rd"
    rw [← hB]
    clear hB B
    obtain ⟨g, hg⟩ := fac_ex hmf
    have go := fac_odd hg hs
    have g9 := hg9 g hg
    have eo := odd_of hc.me hs
    refine dSeq_open fun B hB => ?_
    walk_at "rd"
    refine ⟨500, ⟨by decide, by decide, by decide, by decide⟩, ?_⟩
    refine ⟨fun i r M' => M' = M ∧ i ≤ 500 ∧ ∃ (F : Nat) (t : Option D), r = [some (T4 a b c e), some (.int (m : Int)), some (.int (F : Int)), t] ∧ 0 < F ∧ F ≤ 999 ∧ F * F ∣ m ∧ ∀ j, j < i → (2 * j + 1) * (2 * j + 1) ∣ m → 2 * j + 1 ≤ F, ⟨rfl, by omega, 1, _, rfl, by decide, by decide, ⟨m, by omega⟩, fun j hj => by omega⟩, ?_⟩
    rintro i r M' ⟨rfl, hi, F, t, rfl, F0, F9, hF, hall⟩
    refine ⟨trivial, fun hl => ?_, fun d hd => ?_⟩
    · dsimp only
      rw [rngC_len] at hl
      have ei : i = 500 := by omega
      subst ei
      have hgF : g ≤ F := by
        have h1 := hall (g / 2) (by omega)
        have h2 : 2 * (g / 2) + 1 = g := by omega
        rw [h2] at h1
        exact h1 hg.dv
      have hFg : F ≤ g := Nat.le_of_dvd hg.pos (hg.top F F0 hF (odd_sq_rest hs hF))
      have eF : F = g := by omega
      subst eF
      rw [← hB]
      walk_at "rd"
      refine ⟨⟨by decide, by decide⟩, a, b, c, e, rfl, ba, bb, bc, (by decide : (2 : Int) ≠ 0), ?_⟩
      rw [fdiv_pos (by decide), fmod_pos (by decide)]
      have := q _ (.inr ⟨hs, _, ⟨F, hg, rfl⟩, rfl⟩)
      have ev : ((e - (F : Int)) / 2 + (c + 1) * (a + b + a * b)) % 2 = (par a b c e + -(((F : Int) + 1) / 2)) % 2 := by
        unfold par
        generalize (c + 1) * (a + b + a * b) = t
        omega
      rw [ev]
      exact rtq this
    · obtain ⟨hi2, rfl⟩ := rngC_get.mp hd
      have eq1 : (1 : Int) + (i : Int) * 2 = ((2 * i + 1 : Nat) : Int) := by omega
      rw [eq1]
      generalize hf : 2 * i + 1 = f at *
      have bf : Bi 12 (f : Int) := Bi.of_abs 1000 (by omega) (by decide)
      have eff : (f : Int) * (f : Int) = ((f * f : Nat) : Int) := by rw [Int.natCast_mul]
      walk_at "rd"
      refine ⟨⟨bf.sm, bf.sm⟩, ?_⟩
      have step0 : ¬ f * f ∣ m → ∀ j, j < i + 1 → (2 * j + 1) * (2 * j + 1) ∣ m → 2 * j + 1 ≤ F := fun hn j hj hd2 => by
        by_cases z : j = i
        · subst z; rw [hf] at hd2; exact absurd hd2 hn
        · exact hall j (by omega) hd2
      by_cases hle : (f : Int) * (f : Int) ≤ (m : Int)
      · rw [if_pos hle]
        have hff : 0 < f * f := Nat.mul_pos (by omega) (by omega)
        refine ⟨⟨bf.sm, bf.sm⟩, (by rw [eff]; omega : (f : Int) * (f : Int) ≠ 0), ?_⟩
        rw [eff, fmod_pos (show (0 : Int) < ((f * f : Nat) : Int) by omega)]
        by_cases hdv : f * f ∣ m
        · have : (m : Int) % ((f * f : Nat) : Int) = 0 := by
            have := Nat.mod_eq_zero_of_dvd hdv
            omega
          rw [if_pos this]
          refine ⟨by omega, f, _, rfl, by omega, by omega, hdv, fun j hj hd => ?_⟩
          by_cases z : j = i
          · subst z; omega
          · omega
        · have : ¬ (m : Int) % ((f * f : Nat) : Int) = 0 := by
            intro z
            exact hdv (Nat.dvd_of_mod_eq_zero (by omega))
          rw [if_neg this]
          exact ⟨by omega, F, _, rfl, F0, F9, hF, step0 hdv⟩
      · rw [if_neg hle]
        refine ⟨by omega, F, _, rfl, F0, F9, hF, step0 fun hd => hle ?_⟩
        have := Nat.le_of_dvd (by have := hmf.h5; omega) hd
        rw [eff]; omega
/-! ### squares -/
theorem okV_sg {m : Nat} {a b c e : Int} {v : D} (h : sgD m a b c e v) : okV v = true := by
  rcases h.val with rfl | rfl | rfl <;> decide
theorem sg_res {m : Nat} {a b c e : Int} {v : D} {M : Mem} (h : sgD m a b c e v) : res M v = v := by
  rcases h.val with rfl | rfl | rfl <;> rfl
theorem cut1E {b e : Int} (h1 : 1 + e < b) (h2 : 1 ≤ b) : isCut 0 b 1 e = true := by
  unfold isCut
  rw [decide_eq_true h2, decide_eq_true h1]
  have : Int.gcd b 1 = 1 := Int.gcd_one_right ..
  rw [this]
  have e2 : (Int.gcd 0 ((1 : Nat) : Int) : Int) = 1 := by decide
  rw [e2]
  have : Int.gcd 1 e = 1 := Int.gcd_one_left ..
  rw [this]
  rfl
def sp_lsquares20 : DSp := fun ds M Q _ => ∃ (k : Nat) (n : Int), ds = [.own k] ∧ Gn k n M ∧ n ≤ P40 - 400 ∧ ∀ M', Gst k (n + 80) M M' → Q (.bl true) M'
theorem rd_l_squares_right_3d47 : ∀ ds M Q, ds.length = 1 → sp_lsquares20 ds M Q DX0 → t_l_squares_right_3d47 sp_random sp_is_cutting sp_measure_by sp_signG (dEnds M Q) (startD 5 ds) M := by
  rintro _ M Q - ⟨k, n, rfl, hg, hn, q⟩
  unfold t_l_squares_right_3d47
  have b2 : Bi 3 2 := Bi.of_abs 2 (by decide)
  refine dSeq_open fun B hB => ?_
  walk_at "rd"
  refine ⟨k, 400, n, rfl, by decide, lt900 (by decide), hg, by omega, fun v1 M1 v10 v11 g1 => ?_⟩
  try dsimp only
  refine ⟨k, 40, _, rfl, by decide, lt900 (by decide), g1.2.1, by omega, fun v2 M2 v20 v21 g2 => ?_⟩
  try dsimp only
  have bv2 : Bi 10 v2 := Bi.of_abs 40 (by omega) (by decide)
  refine ⟨⟨b2.sm, bv2.sm⟩, ?_⟩
  obtain ⟨h, hh⟩ : ∃ h, 3 + v1 = h := ⟨_, rfl⟩
  obtain ⟨t, ht⟩ : ∃ t : Nat, v2 = t := Int.eq_ofNat_of_zero_le v20
  rw [hh]
  subst ht
  obtain ⟨e, he⟩ : ∃ e, 2 * (t : Int) + 1 = e := ⟨_, rfl⟩
  rw [he]
  have bh : Bi 12 h := Bi.of_abs 500 (by omega) (by decide)
  have be : Bi 12 e := Bi.of_abs 500 (by omega) (by decide)
  rw [← hB]
  clear hB B
  refine dSeq_open fun B hB => ?_
  walk_at "rd"
  refine ⟨⟨b2.sm, bh.sm⟩, ?_⟩
  obtain ⟨s, hs⟩ : ∃ s : Nat, 2 * h + e = s := Int.eq_ofNat_of_zero_le (by omega)
  rw [hs, ← hB]
  clear hB B
  refine dSeq_open fun B hB => ?_
  walk_at "rd"
  have bhe : Bi 13 (h + e) := bh.add be
  refine ⟨⟨bh.sm, bhe.sm⟩, ?_⟩
  rw [← hB]
  clear hB B
  refine dSeq_open fun B hB => ?_
  walk_at "rd"
  refine sp_is_cutting_T4 ?_
  have g12 := (g1.trans g2).le (m := n + 80) (by omega)
  by_cases hcut : isCut 0 (h * (h + e)) 1 e = true
  · rw [hcut]
    walk_at "rd"
    rw [← hB]
    clear hB B
    have hsq : meas4 (h * (h + e)) 1 e = ((s * s : Nat) : Int) := by
      rw [Int.natCast_mul, ← hs]
      unfold meas4
      grind
    have hs1 : 7 ≤ s ∧ s ≤ 1000 ∧ s % 2 = 1 := by omega
    have hss : s * s ≤ 1000 * 1000 := Nat.mul_le_mul hs1.2.1 hs1.2.1
    have hss7 : 7 * 7 ≤ s * s := Nat.mul_le_mul hs1.1 hs1.1
    obtain ⟨r, hr⟩ : ∃ r, s = 2 * r + 1 := ⟨s / 2, by omega⟩
    have h8 : s * s % 8 = 1 := by
      obtain ⟨w, hw⟩ : ∃ w, r * (r + 1) = 2 * w := by
        rcases (by omega : r % 2 = 0 ∨ r % 2 = 1) with z | z
        · exact ⟨r / 2 * (r + 1), by rw [← Nat.mul_assoc, show 2 * (r / 2) = r by omega]⟩
        · exact ⟨r * ((r + 1) / 2), by rw [← Nat.mul_assoc, Nat.mul_comm 2 r, Nat.mul_assoc, show 2 * ((r + 1) / 2) = r + 1 by omega]⟩
      have : s * s = 4 * (r * (r + 1)) + 1 := by rw [hr]; grind
      omega
    have hmf : MF (s * s) := ⟨by omega, by omega, by omega⟩
    have hsg : signB (s * s) = true := signB_iff.mpr ⟨h8, by omega⟩
    have hcg : CG (s * s) 0 (h * (h + e)) 1 e := ⟨hcut, hsq, hmf.b100.mono⟩
    walk_at "rd"
    refine ⟨0, _, 1, e, rfl, hcg.cb.2.1.mono, hcg.cb.2.2.1.mono, hcg.cb.2.2.2.mono, ?_⟩
    rw [hcg.me]
    have bs : Bi 12 (s : Int) := Bi.of_abs 1000 (by omega) (by decide)
    have e1 : (((s * s : Nat) : Int) == (s : Int) * s) = true := beq_iff_eq.mpr (by rw [Int.natCast_mul])
    refine ⟨⟨bs.sm, bs.sm⟩, ?_⟩
    rw [gEq_int, e1]
    walk_at "rd"
    refine ⟨s * s, 0, _, 1, e, rfl, hmf, hcg, fun v hv => ?_⟩
    have hne : ¬ (s : Int) = 3 := by omega
    have hval : v = .int ((e - (s : Int)) / 2 % 2) := by
      refine hv.uni (.inr ⟨hsg, _, ⟨s, fac_sq (by omega), rfl⟩, ?_⟩) fun _ => rfl
      congr 1
      unfold par
      generalize (0 : Int) + h * (h + e) + 0 * (h * (h + e)) = y
      omega
    subst hval
    refine gRepr_ok (okV_sg hv) fun z hz => ?_
    rw [if_neg hne]
    refine ⟨⟨by decide, by decide⟩, (by decide : (2 : Int) ≠ 0), ?_⟩
    rw [fdiv_pos (show (0 : Int) < 2 by decide), fmod_pos (show (0 : Int) < 2 by decide)]
    refine gRepr_again hz rfl ?_
    rw [gEq_strs, str_self]
    exact g12.rtq (q M2 g12)
  · rw [Bool.not_eq_true] at hcut
    rw [hcut]
    walk_at "rd"
    exact g12.rtq (q M2 g12)
/-! ### a great square times a small number -/
def sidesF (k : Int) : List Int := ([1, 3, 5, 7, 9] : List Int).filter fun s => decide (k % (s * s) = 0)
theorem k12 (t : Nat) (ht : t < 12) : ∃ w : Nat, IsFac (1 + 8 * t) w ∧ w ≤ 9 ∧ ((w : Nat) : Int) ∈ sidesF (1 + 8 * (t : Int)) ∧ ∀ y ∈ sidesF (1 + 8 * (t : Int)), y ≤ (w : Int) := by
  have d1 : ∀ n w s : Nat, n = w * w * s → 0 < w → s < 100 → 0 < s → s % 4 < 2 → (∀ d, d < s + 1 → 2 ≤ d → ¬ d * d ∣ s) → IsFac n w := fun n w s e w0 _ s0 h4 h => IsPart.fac1 (F := w) (s := s) ⟨e, sqF_of s0 h⟩ w0 h4
  match t, ht with
  | 0, _ => exact ⟨1, d1 _ 1 1 (by decide) (by decide) (by decide) (by decide) (by decide) (by decide), by decide, by decide, by decide⟩
  | 1, _ => exact ⟨3, d1 _ 3 1 (by decide) (by decide) (by decide) (by decide) (by decide) (by decide), by decide, by decide, by decide⟩
  | 2, _ => exact ⟨1, d1 _ 1 17 (by decide) (by decide) (by decide) (by decide) (by decide) (by decide), by decide, by decide, by decide⟩
  | 3, _ => exact ⟨5, d1 _ 5 1 (by decide) (by decide) (by decide) (by decide) (by decide) (by decide), by decide, by decide, by decide⟩
  | 4, _ => exact ⟨1, d1 _ 1 33 (by decide) (by decide) (by decide) (by decide) (by decide) (by decide), by decide, by decide, by decide⟩
  | 5, _ => exact ⟨1, d1 _ 1 41 (by decide) (by decide) (by decide) (by decide) (by decide) (by decide), by decide, by decide, by decide⟩
  | 6, _ => exact ⟨7, d1 _ 7 1 (by decide) (by decide) (by decide) (by decide) (by decide) (by decide), by decide, by decide, by decide⟩
  | 7, _ => exact ⟨1, d1 _ 1 57 (by decide) (by decide) (by decide) (by decide) (by decide) (by decide), by decide, by decide, by decide⟩
  | 8, _ => exact ⟨1, d1 _ 1 65 (by decide) (by decide) (by decide) (by decide) (by decide) (by decide), by decide, by decide, by decide⟩
  | 9, _ => exact ⟨1, d1 _ 1 73 (by decide) (by decide) (by decide) (by decide) (by decide) (by decide), by decide, by decide, by decide⟩
  | 10, _ => exact ⟨9, d1 _ 9 1 (by decide) (by decide) (by decide) (by decide) (by decide) (by decide), by decide, by decide, by decide⟩
  | 11, _ => exact ⟨1, d1 _ 1 89 (by decide) (by decide) (by decide) (by decide) (by decide) (by decide), by decide, by decide, by decide⟩
theorem sides_map (k : Int) : (rngC 1 2 5).filterMap (fun d => match d with | .int s => if k % (s * s) = 0 then some (.int s) else none | _ => none) = (sidesF k).map D.int := by
  show ([.int 1, .int 3, .int 5, .int 7, .int 9] : List D).filterMap _ = _
  unfold sidesF
  simp only [List.filterMap_cons, List.filterMap_nil, List.filter_cons, List.filter_nil, decide_eq_true_eq]
  repeat' split
  all_goals first | rfl | simp_all
theorem intsD_mapI : ∀ l : List Int, intsD (l.map D.int) = some l
  | [] => rfl
  | i :: l => by
    rw [List.map_cons]
    unfold intsD
    rw [intsD_mapI l]
def sp_lfar20 : DSp := fun ds M Q _ => ∃ (k : Nat) (n : Int), ds = [.own k] ∧ Gn k n M ∧ n ≤ P40 - 4000 ∧ ∀ M', Gst k (n + 3000) M M' → Q (.bl true) M'
theorem okV_two {a b : D} (h1 : a = .non ∨ a = .int 0 ∨ a = .int 1) (h2 : b = .non ∨ b = .int 0 ∨ b = .int 1) : okV (.lst [a, b]) = true := by
  rcases h1 with rfl | rfl | rfl <;> rcases h2 with rfl | rfl | rfl <;> decide
theorem rd_l_far_right_6012 : ∀ ds M Q, ds.length = 1 → sp_lfar20 ds M Q DX0 → t_l_far_right_6012 sp_random sp_turn_by sp_lled20 sp_lsome_word sp_signG (dEnds M Q) (startD 8 ds) M := by
  rintro _ M Q - ⟨k, n, rfl, hg, hn, q⟩
  unfold t_l_far_right_6012
  have b2 : Bi 3 2 := Bi.of_abs 2 (by decide)
  have b8 : Bi 5 8 := Bi.of_abs 8 (by decide)
  refine dSeq_open fun B hB => ?_
  walk_at "rd"
  refine ⟨k, 3, n, rfl, by decide, lt900 (by decide), hg, by omega, fun v0 M0 v00 v01 g0 => ?_⟩
  obtain ⟨d0, hd0, ed0⟩ := atI_any (l := [D.int 10, .int 1000, .int 49998]) v00 (by simpa using v01)
  try dsimp only
  rw [ed0]
  dsimp only
  obtain ⟨most, rfl, m1, m2⟩ : ∃ y : Int, d0 = .int y ∧ 1 ≤ y ∧ y ≤ 49998 := by
    simp only [List.mem_cons, List.not_mem_nil, or_false] at hd0
    rcases hd0 with rfl | rfl | rfl <;> exact ⟨_, rfl, by decide, by decide⟩
  refine ⟨k, most, _, rfl, by omega, lt900 (by omega), g0.2.1, by omega, fun v1 M1 v10 v11 g1 => ?_⟩
  try dsimp only
  have bv1 : Bi 17 v1 := Bi.of_abs 50000 (by omega) (by decide)
  refine ⟨⟨b2.sm, bv1.sm⟩, k, 12, _, rfl, by decide, lt900 (by decide), g1.2.1, by omega, fun v2 M2 v20 v21 g2 => ?_⟩
  try dsimp only
  have bv2 : Bi 17 v2 := Bi.of_abs 12 (by omega) (by decide)
  refine ⟨⟨b8.sm, bv2.sm⟩, ?_⟩
  obtain ⟨t, rfl⟩ := Int.eq_ofNat_of_zero_le v20
  obtain ⟨f, hf⟩ : ∃ f : Nat, 2 * v1 + 5 = f := Int.eq_ofNat_of_zero_le (by omega)
  obtain ⟨w, hw, hw9, hw1, hw2⟩ := k12 t (by omega)
  rw [hf, ← hB]
  clear hB B
  have g02 := g0.trans (g1.trans g2)
  obtain ⟨kk, hkk⟩ : ∃ kk : Nat, 1 + 8 * t = kk := ⟨_, rfl⟩
  have ekk : (1 : Int) + 8 * (t : Int) = (kk : Int) := by omega
  rw [hkk] at hw
  rw [ekk] at hw1 hw2 ⊢
  have hk89 : 1 ≤ kk ∧ kk ≤ 89 ∧ kk % 8 = 1 := by omega
  refine dSeq_open fun B hB => ?_
  walk_at "rd"
  refine ⟨5, ⟨by decide, by decide, by decide, by decide⟩, ?_⟩
  refine lcW_pure (fun d => match d with | .int s => if (kk : Int) % (s * s) = 0 then some (.int s) else none | _ => none) trivial (by rw [rngC_len, sizeLine_eq]; decide) (fun d hd Y N hy => ?_) ?_
  · obtain ⟨i, hi⟩ := List.mem_iff_getElem?.mp hd
    obtain ⟨hi2, rfl⟩ := rngC_get.mp hi
    generalize hs : (1 : Int) + (i : Nat) * 2 = s at *
    have bs : Bi 5 s := Bi.of_abs 11 (by omega) (by decide)
    have hss : 0 < s * s := Int.mul_pos (by omega) (by omega)
    walk_at "rd"
    refine ⟨⟨bs.sm, bs.sm⟩, (show s * s ≠ 0 by omega), ?_⟩
    rw [fmod_pos hss]
    dsimp only at hy
    by_cases hz : (kk : Int) % (s * s) = 0
    · rw [if_pos hz] at hy ⊢; exact hy
    · rw [if_neg hz] at hy ⊢; exact hy
  · rw [sides_map]
    refine ⟨sidesF (kk : Int), by unfold intsOf res; exact intsD_mapI _, List.length_pos_of_mem hw1, fun mx hm1 hm2 => ?_⟩
    have emx : mx = (w : Int) := by
      have h1 := hm2 _ hw1
      have h2 := hw2 _ hm1
      omega
    subst emx
    dsimp only
    rw [← hB]
    clear hB B
    have hf1 : 5 ≤ f ∧ f ≤ 99999 ∧ f % 2 = 1 := by omega
    obtain ⟨r, hr⟩ : ∃ r, f = 2 * r + 1 := ⟨f / 2, by omega⟩
    obtain ⟨s4, hs4⟩ : ∃ s4, f * f * kk = 8 * s4 + 1 := by
      obtain ⟨u, hu⟩ : ∃ u, r * (r + 1) = 2 * u := by
        rcases (by omega : r % 2 = 0 ∨ r % 2 = 1) with z | z
        · exact ⟨r / 2 * (r + 1), by rw [← Nat.mul_assoc, show 2 * (r / 2) = r by omega]⟩
        · exact ⟨r * ((r + 1) / 2), by rw [← Nat.mul_assoc, Nat.mul_comm 2 r, Nat.mul_assoc, show 2 * ((r + 1) / 2) = r + 1 by omega]⟩
      have h1 : f * f = 8 * u + 1 := by
        have : f * f = 4 * (r * (r + 1)) + 1 := by rw [hr]; grind
        omega
      obtain ⟨x, hx⟩ : ∃ x, kk = 8 * x + 1 := ⟨kk / 8, by omega⟩
      exact ⟨8 * (u * x) + u + x, by rw [h1, hx]; grind⟩
    have hff : f * f ≤ 99999 * 99999 := Nat.mul_le_mul hf1.2.1 hf1.2.1
    have hff5 : 5 * 5 ≤ f * f := Nat.mul_le_mul hf1.1 hf1.1
    have hfk : f * f * kk ≤ 99999 * 99999 * 89 := Nat.mul_le_mul hff hk89.2.1
    have hfk1 : 25 * 1 ≤ f * f * kk := Nat.mul_le_mul hff5 hk89.1
    have hmf : MF (f * f * kk) := ⟨by omega, by omega, by omega⟩
    have hsg : signB (f * f * kk) = true := signB_iff.mpr ⟨by omega, by omega⟩
    have hfac : IsFac (f * f * kk) (f * w) := fac_times (part_ex kk (by omega)) (by omega) (by omega) hw
    have bf : Bi 17 (f : Int) := Bi.of_abs 99999 (by omega) (by decide)
    have bk : Bi 8 (kk : Int) := Bi.of_abs 89 (by omega) (by decide)
    have bw : Bi 8 (w : Int) := Bi.of_abs 9 (by omega) (by decide)
    refine dSeq_open fun B hB => ?_
    walk_at "rd"
    refine ⟨⟨bf.sm, bf.sm⟩, ⟨(bf.mul bf).sm, bk.sm⟩, ⟨by decide, by decide⟩, ?_⟩
    rw [fdiv_pos (show (0 : Int) < 4 by decide)]
    have e2 : ((f : Int) * f * kk - 1) / 4 = ((2 * s4 : Nat) : Int) := by
      have h1 : (f : Int) * f * kk = ((f * f * kk : Nat) : Int) := by rw [Int.natCast_mul, Int.natCast_mul]
      rw [h1, hs4]
      omega
    rw [e2, ← hB]
    clear hB B
    have hcg : CG (f * f * kk) 0 ((2 * s4 : Nat) : Int) 1 1 := ⟨cut1E (by omega) (by omega), by unfold meas4; omega, hmf.b100.mono⟩
    obtain ⟨ca, cb, cc, ce⟩ := hcg.cb100 hmf.b100
    refine dSeq_open fun B hB => ?_
    walk_at "rd"
    refine ⟨⟨bf.sm, bw.sm⟩, ⟨by decide, by decide⟩, 0, _, 1, 1, rfl, ca, cb, cc, (by decide : (2 : Int) ≠ 0), ?_⟩
    rw [fdiv_pos (show (0 : Int) < 2 by decide), fmod_pos (show (0 : Int) < 2 by decide)]
    have hdue : sgD (f * f * kk) 0 ((2 * s4 : Nat) : Int) 1 1 (.int (((1 - (f : Int) * w) / 2 + (1 + 1) * (0 + ((2 * s4 : Nat) : Int) + 0 * ((2 * s4 : Nat) : Int))) % 2)) := by
      refine .inr ⟨hsg, _, ⟨f * w, hfac, rfl⟩, ?_⟩
      congr 1
      unfold par
      rw [Int.natCast_mul f w]
      have ho := fac_odd hfac hsg
      have ho2 : (f : Int) * w % 2 = 1 := by
        have : (f : Int) * w = ((f * w : Nat) : Int) := by rw [Int.natCast_mul]
        omega
      generalize (f : Int) * w = y at *
      generalize (0 : Int) + ((2 * s4 : Nat) : Int) + 0 * ((2 * s4 : Nat) : Int) = x
      omega
    generalize hdv : D.int (((1 - (f : Int) * w) / 2 + (1 + 1) * (0 + ((2 * s4 : Nat) : Int) + 0 * ((2 * s4 : Nat) : Int))) % 2) = due at *
    rw [← hB]
    clear hB B
    refine dSeq_open fun B hB => ?_
    walk_at "rd"
    refine ⟨k, 0, _, 1, 1, _, 4, rfl, by decide, by decide, hcg.cut, by rw [hcg.me]; exact hmf.b100.mono, g2.2.1, by omega, fun ws y M3 hwd _ g3 => ?_⟩
    try dsimp only
    obtain ⟨a', b', c', e', rfl⟩ := hwd.end4 hcg
    have hcg' := hwd.cg hcg
    refine ⟨0, _, 1, 1, ws, _, rfl, hcg.cut, by rw [hcg.me]; exact hmf.b100.mono, hwd, ?_⟩
    try dsimp only
    rw [tI4, ← hB]
    clear hB B
    walk_at "rd"
    refine ⟨_, 0, _, 1, 1, rfl, hmf, hcg, fun v hv => ?_⟩
    try dsimp only
    refine ⟨_, a', b', c', e', rfl, hmf, hcg', fun v' hv' => ?_⟩
    try dsimp only
    have ev : v = due := hv.uni hdue fun _ => rfl
    have ev' : v' = due := hv'.uni hdue fun hs => hwd.par (m := (f * f * kk : Nat)) (by omega) hcg.isC _ _ _ _ _ _ _ _ rfl rfl
    subst ev
    subst ev'
    refine gRepr_sameE (okV_two hv.val hv'.val) rfl ?_
    have g := (g02.trans g3).le (m := n + 3000) (by omega)
    exact g.rtq (q M3 g)
/-! ### a great one -/
def sp_lgreat20b : DSp := fun ds M Q _ => ∃ (k : Nat) (n : Int), ds = [.own k] ∧ Gn k n M ∧ n ≤ P40 - 20000 ∧ ∀ M', Gst k (n + 6000) M M' → Q (.bl true) M'
theorem WdW.sg {m : Nat} {a b c e a' b' c' e' : Int} {ws : List (List Int)} (h : WdW [a, b, c, e] ws [a', b', c', e']) (hc : CG m a b c e) {v v' : D} (hv : sgD m a b c e v) (hv' : sgD m a' b' c' e' v') : v' = v :=
  hv'.uni hv fun hs => h.par (m := (m : Nat)) (by have := (signB_iff.mp hs).1; omega) hc.isC _ _ _ _ _ _ _ _ rfl rfl
theorem meas4_mod {b c e : Int} {m : Nat} (h : meas4 b c e = (m : Int)) : m % 4 < 2 := by
  have h1 : e * e + 4 * (b * c) = (m : Int) := by rw [← h]; unfold meas4; rw [Int.mul_assoc]
  rcases (by omega : e % 2 = 0 ∨ e % 2 = 1) with z | z
  · obtain ⟨t, ht⟩ : ∃ t, e = 2 * t := ⟨e / 2, by omega⟩
    have : e * e = 4 * (t * t) := by rw [ht]; grind
    omega
  · obtain ⟨t, ht⟩ : ∃ t, e = 2 * t + 1 := ⟨e / 2, by omega⟩
    have : e * e = 4 * (t * t + t) + 1 := by rw [ht]; grind
    omega
theorem rd_l_great_right_fd0d : ∀ ds M Q, ds.length = 1 → sp_lgreat20b ds M Q DX0 → t_l_great_right_fd0d sp_lgreat20 sp_lled20 sp_lsome_word sp_is_signed sp_measure_by sp_signG (dEnds M Q) (startD 3 ds) M := by
  rintro _ M Q - ⟨k, n, rfl, hg, hn, q⟩
  unfold t_l_great_right_fd0d
  refine dSeq_open fun B hB => ?_
  walk_at "rd"
  refine ⟨k, 4, n, rfl, by decide, hg, by omega, fun a b c e M1 hcut hbm h4 hmx g1 => ?_⟩
  try dsimp only
  obtain ⟨m, em⟩ := Int.eq_ofNat_of_zero_le (show 0 ≤ meas4 b c e by omega)
  have hc : CG m a b c e := ⟨hcut, em, by rw [← em]; exact hbm.mono⟩
  have hmx' : meas4 b c e ≤ 200000000000 := hmx
  have hmf : MF m := ⟨by omega, meas4_mod em, by omega⟩
  rw [← hB]
  clear hB B
  refine dSeq_open fun B hB => ?_
  walk_at "rd"
  refine ⟨k, a, b, c, e, _, 6, rfl, by decide, by decide, hcut, hbm.mono, g1.2.1, by omega, fun ws y M2 hw hwl g2 => ?_⟩
  try dsimp only
  obtain ⟨a', b', c', e', rfl⟩ := hw.end4 hc
  refine ⟨a, b, c, e, ws, _, rfl, hcut, hbm.mono, hw, ?_⟩
  try dsimp only
  have hc' := hw.cg hc
  rw [tI4, ← hB]
  clear hB B
  have g12 := (g1.trans g2).le (m := n + 6000) (by omega)
  refine dSeq_open fun B hB => ?_
  walk_at "rd"
  refine ⟨a, b, c, e, rfl, hc.cb.2.1.mono, hc.cb.2.2.1.mono, hc.cb.2.2.2.mono, ?_⟩
  try dsimp only
  rw [hc.me]
  refine ⟨m, rfl, ?_⟩
  cases hs : signB m with
  | false =>
    walk_at "rd"
    refine ⟨m, a, b, c, e, rfl, hmf, hc, fun v hv => ?_⟩
    obtain rfl : v = .non := hv.uni (.inl ⟨hs, rfl⟩) fun _ => rfl
    walk_at "rd"
    refine ⟨m, a', b', c', e', rfl, hmf, hc', fun v hv => ?_⟩
    obtain rfl : v = .non := hv.uni (a' := a) (b' := b) (c' := c) (e' := e) (.inl ⟨hs, rfl⟩) fun z => absurd z (by rw [hs]; decide)
    walk_at "rd"
    exact g12.rtq (q M2 g12)
  | true =>
    walk_at "rd"
    rw [← hB]
    clear hB B
    walk_at "rd"
    refine ⟨m, a, b, c, e, rfl, hmf, hc, fun v hv => ?_⟩
    have hv01 : v = .int 0 ∨ v = .int 1 := by
      rcases hv with ⟨h1, _⟩ | ⟨_, κ, _, rfl⟩
      · rw [hs] at h1; cases h1
      · rcases (by omega : (par a b c e + κ) % 2 = 0 ∨ (par a b c e + κ) % 2 = 1) with z | z <;> rw [z]
        · exact .inl rfl
        · exact .inr rfl
    have hin : ∀ {G : DQ}, G (.bl true) M2 → gRepr [v] M2 fun x M1 => gIn false x (.lst [.str (PySem.Str.ofString "0"), .str (PySem.Str.ofString "1")]) M1 G := by
      intro G hG
      refine gRepr_ok (okV_sg hv) fun z hz => ?_
      have hz2 : z = PySem.Str.ofString "0" ∨ z = PySem.Str.ofString "1" := by
        rcases hv01 with rfl | rfl
        · exact .inl (Option.some.inj (hz.symm.trans (show shwn (.int 0) = some (PySem.Str.ofString "0") from rfl)))
        · exact .inr (Option.some.inj (hz.symm.trans (show shwn (.int 1) = some (PySem.Str.ofString "1") from rfl)))
      refine gIn_mem (n := 3) ?_ (by simp only [fineAll, fine]; decide +kernel) hG
      rcases hz2 with rfl | rfl
      · exact List.mem_cons_self
      · exact List.mem_cons_of_mem _ List.mem_cons_self
    try dsimp only
    refine hin ?_
    walk_at "rd"
    refine ⟨m, a, b, c, e, rfl, hmf, hc, fun v1 hv1 => ?_⟩
    try dsimp only
    refine ⟨m, a', b', c', e', rfl, hmf, hc', fun v2 hv2 => ?_⟩
    try dsimp only
    have e12 := hw.sg hc hv1 hv2
    subst e12
    refine gEq_same (n := 2) ?_ (g12.rtq (q M2 g12))
    rcases hv1.val with rfl | rfl | rfl <;> rfl
/-! ### all cuttings of a measure -/
def sp_lright20 : DSp := fun ds M Q _ => ∃ (k : Nat) (n : Int), ds = [.own k] ∧ Gn k n M ∧ n ≤ P40 - 40000 ∧ ∀ M', Gst k (n + 10000) M M' → Q (.bl true) M'
open Classical in
/-- the sign, picked -/
noncomputable def sgF (m : Nat) (x : List Int) : D := match x with
  | [a, b, c, e] => if h : ∃ v, sgD m a b c e v then h.choose else .non
  | _ => .non
open Classical in
theorem sgD.pick {m : Nat} {a b c e : Int} {v : D} (h : sgD m a b c e v) : v = sgF m [a, b, c, e] := by
  have hx : ∃ v, sgD m a b c e v := ⟨v, h⟩
  show v = if h : ∃ v, sgD m a b c e v then h.choose else .non
  rw [dif_pos hx]
  exact h.uni hx.choose_spec fun _ => rfl
theorem sg_ex {m : Nat} (hmf : MF m) (a b c e : Int) : ∃ v, sgD m a b c e v := by
  cases hs : signB m with
  | false => exact ⟨_, .inl ⟨hs, rfl⟩⟩
  | true =>
    obtain ⟨g, hg⟩ := fac_ex hmf
    exact ⟨_, .inr ⟨hs, _, ⟨g, hg, rfl⟩, rfl⟩⟩
theorem sgF_sg {m : Nat} (hmf : MF m) (a b c e : Int) : sgD m a b c e (sgF m [a, b, c, e]) := by
  obtain ⟨v, hv⟩ := sg_ex hmf a b c e
  rw [← hv.pick]; exact hv
theorem fac_small {m g : Nat} (h : IsFac m g) (hm : m ≤ 998001) (h0 : 0 < m) : g ≤ 999 := by
  have h1 := Nat.le_of_dvd h0 h.dv
  rcases Nat.lt_or_ge 999 g with z | z
  · have : 1000 * 1000 ≤ g * g := Nat.mul_le_mul z z
    omega
  · exact z
/-- the keys of a dict made of these -/
theorem keys_merge : ∀ (vs : List Int) (kvs : List (Key × D)) (ns : List Int), keyIs kvs = some ns → ns.Nodup → ∃ ms, keyIs (mergeD kvs (vs.map fun i => (.inl i, .bl true))) = some ms ∧ ms.Nodup ∧ ∀ x, x ∈ ms ↔ x ∈ ns ∨ x ∈ vs := by
  have snoc : ∀ (kvs : List (Key × D)) (ns : List Int) (i : Int) (d : D), keyIs kvs = some ns → keyIs (kvs ++ [(.inl i, d)]) = some (ns ++ [i]) := by
    intro kvs
    induction kvs with
    | nil => intro ns i d h; cases h; rfl
    | cons p kvs ih =>
      intro ns i d h
      obtain ⟨k, v⟩ := p
      cases k with
      | inr s => cases h
      | inl j =>
        unfold keyIs at h
        cases hk : keyIs kvs with
        | none => rw [hk] at h; cases h
        | some ms =>
          rw [hk] at h
          cases h
          show (keyIs (kvs ++ [(.inl i, d)])).map (j :: ·) = _
          rw [ih ms i d hk]
          rfl
  have repl : ∀ (kvs : List (Key × D)) (ns : List Int) (k : Key) (d : D), keyIs kvs = some ns → keyIs (kvs.map fun kv => if kv.1 = k then (kv.1, d) else kv) = some ns := by
    intro kvs
    induction kvs with
    | nil => intro ns k d h; cases h; rfl
    | cons p kvs ih =>
      intro ns k d h
      obtain ⟨k0, v⟩ := p
      cases k0 with
      | inr s => cases h
      | inl j =>
        unfold keyIs at h
        cases hk : keyIs kvs with
        | none => rw [hk] at h; cases h
        | some ms =>
          rw [hk] at h
          cases h
          rw [List.map_cons]
          have := ih ms k d hk
          by_cases z : (Sum.inl j : Key) = k
          · rw [if_pos z]
            show (keyIs _).map (j :: ·) = _
            rw [this]; rfl
          · rw [if_neg z]
            show (keyIs _).map (j :: ·) = _
            rw [this]; rfl
  have anyK : ∀ (kvs : List (Key × D)) (ns : List Int) (i : Int), keyIs kvs = some ns → ((kvs.any fun kv => decide (kv.1 = (Sum.inl i : Key))) = true ↔ i ∈ ns) := by
    intro kvs
    induction kvs with
    | nil => intro ns i h; cases h; simp
    | cons p kvs ih =>
      intro ns i h
      obtain ⟨k0, v⟩ := p
      cases k0 with
      | inr s => cases h
      | inl j =>
        unfold keyIs at h
        cases hk : keyIs kvs with
        | none => rw [hk] at h; cases h
        | some ms =>
          rw [hk] at h
          cases h
          rw [List.any_cons, Bool.or_eq_true, ih ms i hk, List.mem_cons]
          simp [eq_comm]
  intro vs
  induction vs with
  | nil => intro kvs ns h hn; exact ⟨ns, h, hn, fun x => by simp⟩
  | cons i vs ih =>
    intro kvs ns h hn
    show ∃ ms, keyIs (mergeD (putD kvs (.inl i) (.bl true)) (vs.map fun i => (.inl i, .bl true))) = some ms ∧ _
    unfold putD
    by_cases hi : i ∈ ns
    · rw [if_pos ((anyK kvs ns i h).mpr hi)]
      obtain ⟨ms, h1, h2, h3⟩ := ih _ ns (repl kvs ns (.inl i) (.bl true) h) hn
      refine ⟨ms, h1, h2, fun x => (h3 x).trans ?_⟩
      rw [List.mem_cons]
      constructor
      · rintro (h | h)
        · exact .inl h
        · exact .inr (.inr h)
      · rintro (h | rfl | h)
        · exact .inl h
        · exact .inl hi
        · exact .inr h
    · rw [if_neg (fun z => hi ((anyK kvs ns i h).mp z))]
      obtain ⟨ms, h1, h2, h3⟩ := ih _ (ns ++ [i]) (snoc kvs ns i (.bl true) h) (List.nodup_append.mpr ⟨hn, by simp, fun a ha b hb e => hi (by rw [List.mem_singleton] at hb; rw [← hb, ← e]; exact ha)⟩)
      refine ⟨ms, h1, h2, fun x => (h3 x).trans ?_⟩
      rw [List.mem_append, List.mem_singleton, List.mem_cons, or_assoc]
theorem sorted01 {ys ns : List Int} (h1 : ys.Perm ns) (h2 : ys.Pairwise (· ≤ ·)) (h3 : ns.Nodup) (h4 : ∀ x, x ∈ ns ↔ x = 0 ∨ x = 1) : ys = [0, 1] := by
  have p : ys.Perm [0, 1] := h1.trans ((List.perm_ext_iff_of_nodup h3 (by decide)).mpr fun x => by rw [h4]; simp)
  have hl := p.length_eq
  match ys, hl, p, h2 with
  | [a, b], _, p, h2 =>
    have ha : a = 0 ∨ a = 1 := by simpa using p.subset (List.mem_cons_self (a := a) (l := [b]))
    have hb : b = 0 ∨ b = 1 := by simpa using p.subset (List.mem_cons_of_mem a (List.mem_cons_self (a := b) (l := [])))
    have hab : a ≤ b := by simpa using h2
    have hne : a ≠ b := by
      have := p.nodup_iff.mpr (by decide : ([0, 1] : List Int).Nodup)
      simpa using this
    have : a = 0 ∧ b = 1 := by omega
    rw [this.1, this.2]
theorem okS_of_vals {l : List D} (h : ∀ v ∈ l, v = .non ∨ v = .int 0 ∨ v = .int 1) (hl : l.length ≤ 1000) : okS (.lst l) := by
  have key : ∀ l : List D, (∀ v ∈ l, v = .non ∨ v = .int 0 ∨ v = .int 1) → fineAll 40 l = true ∧ litAll 40 l = true ∧ wtAll 40 l ≤ 42 * l.length := by
    intro l
    induction l with
    | nil => intro _; exact ⟨rfl, rfl, by decide⟩
    | cons v l ih =>
      intro h
      obtain ⟨h1, h2, h3⟩ := ih fun v hv => h v (List.mem_cons_of_mem _ hv)
      have hv : fine 40 v = true ∧ lit 40 v = true ∧ wt 40 v ≤ 41 := by
        rcases h v List.mem_cons_self with rfl | rfl | rfl
        · exact ⟨rfl, rfl, by decide⟩
        · exact ⟨rfl, by decide, by decide⟩
        · exact ⟨rfl, by decide, by decide⟩
      refine ⟨?_, ?_, ?_⟩
      · simp only [fineAll, hv.1, h1, Bool.and_self]
      · simp only [litAll, hv.2.1, h2, Bool.and_self]
      · simp only [wtAll, List.length_cons]
        omega
  obtain ⟨h1, h2, h3⟩ := key l h
  refine ⟨?_, ?_, ?_⟩
  · simp only [fine]; exact h1
  · simp only [lit]; exact h2
  · simp only [wt]; omega
/-- signs of the cuttings of a list -/
noncomputable def fS (m : Nat) (d : D) : D := match d with
  | .tup [.int a, .int b, .int c, .int e] => sgF m [a, b, c, e]
  | _ => .non
noncomputable def sgI (m : Nat) (x : List Int) : Int := match sgF m x with
  | .int i => i
  | _ => 0
theorem sgI_eq {m : Nat} (hmf : MF m) (hs : signB m = true) (a b c e : Int) : sgF m [a, b, c, e] = .int (sgI m [a, b, c, e]) := by
  have h := sgF_sg hmf a b c e
  unfold sgI
  rcases h with ⟨h1, _⟩ | ⟨_, κ, _, h3⟩
  · rw [hs] at h1; cases h1
  · rw [h3]
theorem due_ints {m : Nat} (hmf : MF m) (hs : signB m = true) {l : List (List Int)} (hl : AllC m l) : (l.map tI).map (fS m) = (l.map (sgI m)).map D.int := by
  rw [List.map_map, List.map_map]
  refine List.map_congr_left fun x hx => ?_
  obtain ⟨a, b, c, e, rfl, _⟩ := (hl.mem x).mp hx
  exact sgI_eq hmf hs a b c e
theorem due_vals {m : Nat} (hmf : MF m) {l : List (List Int)} (hl : AllC m l) : ∀ v ∈ (l.map tI).map (fS m), v = .non ∨ v = .int 0 ∨ v = .int 1 := by
  intro v hv
  rw [List.map_map] at hv
  obtain ⟨x, hx, rfl⟩ := List.mem_map.mp hv
  obtain ⟨a, b, c, e, rfl, _⟩ := (hl.mem x).mp hx
  exact (sgF_sg hmf a b c e).val
theorem both_signs {m : Nat} (hmf : MF m) (h8 : m % 8 = 1) (h17 : 17 ≤ m) {l : List (List Int)} (hl : AllC m l) (x : Int) : x ∈ l.map (sgI m) ↔ x = 0 ∨ x = 1 := by
  have hs : signB m = true := signB_iff.mpr ⟨h8, by omega⟩
  constructor
  · intro hx
    obtain ⟨y, hy, rfl⟩ := List.mem_map.mp hx
    obtain ⟨a, b, c, e, rfl, _⟩ := (hl.mem y).mp hy
    have h := (sgF_sg hmf a b c e).val
    rw [sgI_eq hmf hs] at h
    rcases h with h | h | h
    · cases h
    · exact .inl (by injection h)
    · exact .inr (by injection h)
  · have two : ∀ e : Int, (e = 1 ∨ e = -1) → [0, ((m : Int) - 1) / 4, 1, e] ∈ l := fun e he => (hl.mem _).mpr ⟨_, _, _, _, rfl, cut1E (by omega) (by omega), by unfold meas4; rcases he with rfl | rfl <;> omega⟩
    have v1 := sgF_sg hmf 0 (((m : Int) - 1) / 4) 1 1
    have v2 := sgF_sg hmf 0 (((m : Int) - 1) / 4) 1 (-1)
    have i1 := sgI_eq hmf hs 0 (((m : Int) - 1) / 4) 1 1
    have i2 := sgI_eq hmf hs 0 (((m : Int) - 1) / 4) 1 (-1)
    have m1 := List.mem_map_of_mem (f := sgI m) (two 1 (.inl rfl))
    have m2 := List.mem_map_of_mem (f := sgI m) (two (-1) (.inr rfl))
    rw [i1] at v1
    rw [i2] at v2
    have hne : sgI m [0, ((m : Int) - 1) / 4, 1, 1] ≠ sgI m [0, ((m : Int) - 1) / 4, 1, -1] := by
      rcases v1 with ⟨h1, _⟩ | ⟨_, κ, hk, e1⟩
      · rw [hs] at h1; cases h1
      · rcases v2 with ⟨h1, _⟩ | ⟨_, κ', hk', e2⟩
        · rw [hs] at h1; cases h1
        · injection e1 with e1
          injection e2 with e2
          rw [e1, e2, hk.uni hk']
          unfold par
          omega
    have c1 := v1.val
    have c2 := v2.val
    generalize sgI m [0, ((m : Int) - 1) / 4, 1, 1] = y1 at *
    generalize sgI m [0, ((m : Int) - 1) / 4, 1, -1] = y2 at *
    have c1' : y1 = 0 ∨ y1 = 1 := by
      rcases c1 with h | h | h
      · cases h
      · exact .inl (by injection h)
      · exact .inr (by injection h)
    have c2' : y2 = 0 ∨ y2 = 1 := by
      rcases c2 with h | h | h
      · cases h
      · exact .inl (by injection h)
      · exact .inr (by injection h)
    rintro (rfl | rfl)
    · rcases c1' with z | z
      · rw [← z]; exact m1
      · rcases c2' with z' | z'
        · rw [← z']; exact m2
        · exact absurd (z.trans z'.symm) hne
    · rcases c1' with z | z
      · rcases c2' with z' | z'
        · exact absurd (z.trans z'.symm) hne
        · rw [← z']; exact m2
      · rw [← z]; exact m1
theorem mem_cutD {l : List D} {lo hi : Option Int} {d : D} (h : d ∈ cutD l lo hi) : d ∈ l := by
  unfold cutD at h
  first
    | exact List.mem_of_mem_take (List.mem_of_mem_drop h)
    | exact List.mem_of_mem_drop (List.mem_of_mem_take h)
theorem rd_l_right_605e : ∀ ds M Q, ds.length = 1 → sp_lright20 ds M Q DX0 → t_l_right_605e sp_random sp_lcuts sp_lsign20 sp_signG sp_ldeeds sp_ldone sp_lsome_measure sp_lgreat20b (dEnds M Q) (startD 10 ds) M := by
  rintro _ M Q - ⟨k, n, rfl, hg, hn, q⟩
  unfold t_l_right_605e
  have hkM := hg.ltO
  have b8 : Bi 5 8 := Bi.of_abs 8 (by decide)
  refine dSeq_open fun B hB => ?_
  walk_at "rd"
  refine ⟨k, 49, n, rfl, by decide, lt900 (by decide), hg, by omega, fun v0 M1 v00 v01 g1 => ?_⟩
  try dsimp only
  have bv : Bi 10 v0 := Bi.of_abs 49 (by omega) (by decide)
  refine ⟨⟨b8.sm, bv.sm⟩, ?_⟩
  obtain ⟨m, em⟩ := Int.eq_ofNat_of_zero_le (show 0 ≤ 17 + 8 * v0 by omega)
  rw [em, ← hB]
  clear hB B
  have h17 : 17 ≤ m ∧ m ≤ 401 ∧ m % 8 = 1 := by omega
  have hmf : MF m := ⟨by omega, by omega, by omega⟩
  have hs : signB m = true := signB_iff.mpr ⟨h17.2.2, by omega⟩
  have hms := meas_of hmf.h5 hmf.h4
  refine dSeq_open fun B hB => ?_
  walk_at "rd"
  refine ⟨m, rfl, hms, by omega, fun l hl => ?_⟩
  try dsimp only
  rw [← hB]
  clear hB B
  have hpos := allC_pos hms hl
  have hlen : l.length ≤ 900 := by
    refine cov_small (m := (m : Int)) ⟨hl.nd, fun x => (hl.mem x).trans ?_⟩ (by omega) (by omega)
    constructor
    · rintro ⟨a, b, c, e, rfl, h1, h2⟩; exact ⟨a, b, c, e, rfl, h1, h2, trivial⟩
    · rintro ⟨a, b, c, e, rfl, h1, h2, _⟩; exact ⟨a, b, c, e, rfl, h1, h2⟩
  have hcg : ∀ {a b c e : Int}, [a, b, c, e] ∈ l → CG m a b c e := fun h => cg_small (by omega) ((hl.mem _).mp h)
  refine dSeq_open fun B hB => ?_
  walk_at "rd"
  refine lcW_acc (fS m) (fun _ => True) trivial (by rw [List.length_map, sizeLine_eq]; omega) (fun d hd Y N hY => ?_) fun _ => ?_
  · obtain ⟨x, hx, rfl⟩ := List.mem_map.mp hd
    obtain ⟨a, b, c, e, rfl, _⟩ := (hl.mem x).mp hx
    rw [tI4] at hY ⊢
    walk_at "rd"
    refine ⟨m, a, b, c, e, rfl, hmf, hcg hx, fun g hg => fac_small hg (by omega) (by omega), fun v hv => ?_⟩
    have := hY trivial
    rw [hv.pick]
    exact this
  rw [due_ints hmf hs hl, ← hB]
  clear hB B
  have hboth := both_signs hmf h17.2.2 h17.1 hl
  refine dSeq_open fun B hB => ?_
  walk_at "rd"
  refine lcW_acc (fS m) (fun _ => True) trivial (by rw [List.length_map, sizeLine_eq]; omega) (fun d hd Y N hY => ?_) fun _ => ?_
  · obtain ⟨x, hx, rfl⟩ := List.mem_map.mp hd
    obtain ⟨a, b, c, e, rfl, _⟩ := (hl.mem x).mp hx
    rw [tI4] at hY ⊢
    walk_at "rd"
    refine ⟨m, a, b, c, e, rfl, hmf, hcg hx, fun v hv => ?_⟩
    have := hY trivial
    rw [hv.pick]
    exact this
  have hvals := due_vals hmf hl
  rw [due_ints hmf hs hl] at hvals ⊢
  refine gRepr_okS (okS_of_vals hvals (by rw [List.length_map, List.length_map]; omega)) fun z hz => ?_
  try dsimp only
  refine gRepr_again hz rfl ?_
  rw [gNe_strs, str_self]
  walk_at "rd"
  refine lcW_acc (fun d => .tup [d, .bl true]) (fun _ => True) trivial (by rw [List.length_map, List.length_map, sizeLine_eq]; omega) (fun d hd Y N hY => ?_) fun _ => ?_
  · walk_at "rd"
    exact hY trivial
  have ep : pairsK (((l.map (sgI m)).map D.int).map fun d => D.tup [d, .bl true]) = some ((l.map (sgI m)).map fun i => ((Sum.inl i : Key), D.bl true)) := by
    generalize l.map (sgI m) = vs
    induction vs with
    | nil => rfl
    | cons i vs ih =>
      rw [List.map_cons, List.map_cons, List.map_cons]
      show (match keyD (.int i) with | some ks => (pairsK ((vs.map D.int).map fun d => D.tup [d, .bl true])).map (fun r => (ks, D.bl true) :: r) | none => none) = _
      rw [ih]
      rfl
  unfold gDictK lstD
  dsimp only
  rw [show res M1 (.lst (((l.map (sgI m)).map D.int).map fun d => D.tup [d, .bl true])) = .lst (((l.map (sgI m)).map D.int).map fun d => D.tup [d, .bl true]) from rfl]
  dsimp only
  rw [ep]
  dsimp only
  obtain ⟨ms, hk1, hk2, hk3⟩ := keys_merge (l.map (sgI m)) [] [] rfl List.nodup_nil
  have hk4 : ∀ x, x ∈ ms ↔ x = 0 ∨ x = 1 := fun x => (hk3 x).trans (by rw [hboth]; simp)
  have hms2 : ms.length < 64 := by
    have : ms.length ≤ ([0, 1] : List Int).length := nd_len hk2 fun x hx => by
      rcases (hk4 x).mp hx with rfl | rfl <;> simp
    have e2 : ([0, 1] : List Int).length = 2 := rfl
    omega
  unfold gSortedDI
  have ed : dicAtK (M1 ++ [Own.dK (mergeD [] ((l.map (sgI m)).map fun i => ((Sum.inl i : Key), D.bl true)))]) (.own M1.length) = some (mergeD [] ((l.map (sgI m)).map fun i => ((Sum.inl i : Key), D.bl true))) := by
    unfold dicAtK
    dsimp only
    rw [List.getElem?_append_right (Nat.le_refl _), Nat.sub_self]
    rfl
  dsimp only
  rw [ed]
  dsimp only
  rw [hk1]
  dsimp only
  refine ⟨hms2, fun ys hy1 hy2 => ?_⟩
  rw [sorted01 hy1 hy2 hk2 hk4]
  refine gNe_same (n := 3) (d := .lst [.int 0, .int 1]) rfl ?_
  walk_at "rd"
  rw [← hB]
  clear hB B
  generalize hW : Own.dK (mergeD [] ((l.map (sgI m)).map fun i => ((Sum.inl i : Key), D.bl true))) = W at *
  have dueI := due_ints hmf hs hl
  generalize hvs : l.map (sgI m) = vs at *
  have vlen : vs.length = l.length := by rw [← hvs, List.length_map]
  have vat : ∀ (v : Int), 0 ≤ v → v < (l.length : Nat) → ∃ a b c e, atI (l.map tI) v = some (T4 a b c e) ∧ [a, b, c, e] ∈ l ∧ atI (vs.map D.int) v = some (sgF m [a, b, c, e]) := by
    intro v v0 v1
    obtain ⟨i, rfl⟩ := Int.eq_ofNat_of_zero_le v0
    have hi : i < l.length := by omega
    obtain ⟨x, hx⟩ : ∃ x, l[i]? = some x := ⟨_, List.getElem?_eq_getElem hi⟩
    obtain ⟨a, b, c, e, rfl, _⟩ := (hl.mem x).mp (List.mem_of_getElem? hx)
    refine ⟨a, b, c, e, atI_nat (by rw [List.getElem?_map, hx]; rfl), List.mem_of_getElem? hx, atI_nat ?_⟩
    rw [← hvs, List.getElem?_map, List.getElem?_map, hx]
    exact congrArg some (sgI_eq hmf hs a b c e).symm
  refine dSeq_open fun B hB => ?_
  walk_at "rd"
  refine ⟨⟨by decide, by decide⟩, ?_⟩
  refine ⟨fun i r M' => i ≤ 3 ∧ ∃ (N : Mem) (t4 t6 t7 t8 : Option D), M' = N ++ [W] ∧ Gst k (n + 40 + 40 * i) M N ∧ r = [some (.own k), some (.int (m : Int)), some (.lst (l.map tI)), some (.lst (vs.map D.int)), t4, none, t6, t7, t8, none], ⟨by omega, M1, _, _, _, _, rfl, g1.le (by omega), rfl⟩, ?_⟩
  rintro i r M' ⟨hi, N, t4, t6, t7, t8, rfl, gN, rfl⟩
  have hkN : k < N.length := by rw [gN.1]; exact hkM
  refine ⟨trivial, fun hle => ?_, fun d hd => ?_⟩
  · dsimp only
    rw [rng_len] at hle
    replace hle : 3 ≤ i := hle
    rw [← hB]
    clear hB B
    refine dSeq_open fun B hB => ?_
    walk_at "rd"
    refine ⟨k, 120, _, rfl, by decide, by decide, gN.2.1.appO, by omega, fun m2 M2 h5 h4 h120 g2 => ?_⟩
    obtain ⟨N2, rfl, gg2⟩ := g2.cutO hkN
    try dsimp only
    have hms' := meas_of h5 h4
    refine ⟨m2, rfl, hms', by omega, fun l2 hl2 => ?_⟩
    try dsimp only
    have hpos2 := allC_pos hms' hl2
    have hl2l := hl2.len
    rw [← hB]
    clear hB B
    refine dSeq_open fun B hB => ?_
    walk_at "rd"
    refine ⟨k, _, _, rfl, by rw [List.length_map]; omega, lt900 (by rw [List.length_map]; omega), gg2.2.1.appO, by omega, fun v3 M3 v30 v31 g3 => ?_⟩
    obtain ⟨N3, rfl, gg3⟩ := g3.cutO (by rw [gg2.1]; exact hkN)
    try dsimp only
    rw [List.length_map] at v31
    obtain ⟨a, b, c, e, ea, hcut, hme, hmem⟩ := allC_atI hl2 v30 v31
    rw [ea]
    dsimp only
    rw [← hB]
    clear hB B
    have hmf2 : MF m2 := ⟨h5, h4, by omega⟩
    have hcg2 : CG m2 a b c e := cg_small (by omega) ((hl2.mem _).mp hmem)
    walk_at "rd"
    refine ⟨m2, a, b, c, e, rfl, hmf2, hcg2, fun v hv => ?_⟩
    try dsimp only
    refine gRepr_ok (okV_sg hv) fun z hz => ?_
    try dsimp only
    refine ⟨m2, a, b, c, e, rfl, hmf2, hcg2, fun g hg => fac_small hg (by omega) (by omega), fun v' hv' => ?_⟩
    obtain rfl := hv'.uni hv fun _ => rfl
    try dsimp only
    refine gRepr_again hz (sg_res hv) ?_
    rw [gEq_strs, str_self]
    walk_at "rd"
    have gA := gN.trans (gg2.trans gg3)
    refine ⟨k, _, rfl, gA.2.1.appO, by omega, fun M4 g4 => ?_⟩
    obtain ⟨N4, rfl, gg4⟩ := g4.cutO (by rw [gA.1]; exact hkM)
    have gB := (gA.trans gg4).le (m := n + 10000) (by omega)
    exact gB.rtqO (q N4 gB)
  · obtain ⟨hi2, rfl⟩ := rng_get.mp hd
    replace hi2 : i < 3 := hi2
    refine dSeq_open fun B1 hB1 => ?_
    walk_at "rd"
    refine ⟨k, _, _, rfl, by rw [List.length_map]; omega, lt900 (by rw [List.length_map]; omega), gN.2.1.appO, by omega, fun v3 M3 v30 v31 g3 => ?_⟩
    obtain ⟨N3, rfl, gg3⟩ := g3.cutO hkN
    try dsimp only
    rw [List.length_map] at v31
    obtain ⟨a, b, c, e, ea, hmem, ev⟩ := vat v3 v30 v31
    have hcgx := hcg hmem
    rw [← hB1]
    clear hB1 B1
    have gA := gN.trans gg3
    refine dSeq_open fun B1 hB1 => ?_
    walk_at "rd"
    rw [ea]
    dsimp only
    refine ⟨a, b, c, e, rfl, hcgx.cut, by rw [hcgx.me]; omega, fun ld hld => ?_⟩
    try dsimp only
    rw [gSl_lst]
    walk_at "rd"
    refine ⟨fun j r M' => M' = N3 ++ [W] ∧ ∃ t8 : Option D, r = [some (.own k), some (.int (m : Int)), some (.lst (l.map tI)), some (.lst (vs.map D.int)), t4, none, some (.int (0 + (i : Int))), some (.int v3), t8, none], ⟨rfl, _, rfl⟩, ?_⟩
    rintro j r M' ⟨rfl, t8', rfl⟩
    refine ⟨trivial, fun hle => ?_, fun d hd => ?_⟩
    · dsimp only
      rw [← hB1]
      walk_at "rd"
      rw [ea]
      dsimp only
      refine ⟨rfl, m, a, b, c, e, rfl, hmf, hcgx, fun v hv => ?_⟩
      try dsimp only
      rw [ev, hv.pick]
      dsimp only
      refine gNe_same (n := 2) (by rcases (sgF_sg hmf a b c e).val with h | h | h <;> rw [h] <;> rfl) ?_
      walk_at "rd"
      exact ⟨by omega, N3, _, _, _, _, rfl, gA.le (by omega), rfl⟩
    · have hdm := mem_cutD (List.mem_of_getElem? hd)
      obtain ⟨y, hy, rfl⟩ := List.mem_map.mp hdm
      obtain ⟨p, qd, rfl, hdd⟩ := (hld.mem y).mp hy
      rw [show tI [p, qd] = .tup [.int p, .int qd] from rfl]
      walk_at "rd"
      rw [ea]
      dsimp only
      have cb := hcgx.cb
      obtain ⟨bq, bp⟩ := deed_bi hcgx.cut cb hdd
      obtain ⟨dq, _⟩ := isDeed_parts hdd
      refine ⟨a, b, c, e, p, qd, rfl, dq.q1, (cut_parts hcgx.cut).2.1, dq.cp, dq.al, cb.mono, bp.mono, bq.mono, fun a' w g e' hdn => ?_⟩
      try dsimp only
      have hwd : WdW [a, b, c, e] [[p, qd]] [a', w, g, e'] := .cons hdd hdn (.nil _)
      refine ⟨m, a', w, g, e', rfl, hmf, hwd.cg hcgx, fun v hv => ?_⟩
      try dsimp only
      have e12 : v = sgF m [a, b, c, e] := hwd.sg hcgx (sgF_sg hmf a b c e) hv
      rw [ev, e12]
      dsimp only
      refine gNe_same (n := 2) (by rcases (sgF_sg hmf a b c e).val with h | h | h <;> rw [h] <;> rfl) ?_
      walk_at "rd"
      exact ⟨_, rfl⟩
theorem fac_big : IsFac 400000000001 19 := by
  have s1 : SqF 7 := sqF_of (by decide) (by decide)
  have s2 : SqF 19 := sqF_of (by decide) (by decide)
  have s3 : SqF 41 := sqF_of (by decide) (by decide)
  have big : ∀ s, 0 < s → (List.range (s + 1)).all (fun d => decide (d < 2) || decide (s < d * d) || !(s % (d * d) == 0)) = true → SqF s := fun s h0 h => sqF_of h0 fun d hd h2 hdv => by
    have := List.all_eq_true.mp h d (List.mem_range.mpr hd)
    simp only [Bool.or_eq_true, decide_eq_true_eq, Bool.not_eq_true', beq_eq_false_iff_ne] at this
    rcases this with (h | h) | h
    · omega
    · have := Nat.le_of_dvd h0 hdv; omega
    · exact h (Nat.mod_eq_zero_of_dvd hdv)
  have s4 : SqF 317 := big _ (by decide) (by decide +kernel)
  have s5 : SqF 641 := big _ (by decide) (by decide +kernel)
  have t1 : SqF (7 * 19) := s1.mul s2 (by decide)
  have t2 : SqF (7 * 19 * 41) := t1.mul s3 (by decide)
  have t3 : SqF (7 * 19 * 41 * 317) := t2.mul s4 (by decide +kernel)
  have t4 : SqF (7 * 19 * 41 * 317 * 641) := t3.mul s5 (by decide +kernel)
  exact IsPart.fac1 (F := 19) (s := 7 * 19 * 41 * 317 * 641) ⟨by decide, t4⟩ (by decide) (by decide)
/-- the sign of a told cutting -/
noncomputable def fT (d : D) : D := match d with
  | .tup [.int a, .int b, .int c, .int e] => sgF (meas4 b c e).toNat [a, b, c, e]
  | _ => .non
theorem sgF_of {m : Nat} {a b c e : Int} {v : D} (hm : meas4 b c e = (m : Int)) (h : sgD m a b c e v) : fT (T4 a b c e) = v := by
  show sgF (meas4 b c e).toNat [a, b, c, e] = v
  rw [hm, Int.toNat_natCast]
  exact h.pick.symm
theorem sg_of {m g : Nat} {a b c e v : Int} (hs : signB m = true) (hg : IsFac m g) (hv : (par a b c e + -(((g : Int) + 1) / 2)) % 2 = v) : sgD m a b c e (.int v) := .inr ⟨hs, _, ⟨g, hg, rfl⟩, by rw [hv]⟩
theorem rd_l_law_f635 : ∀ ds M Q, ds.length = 1 → spLaw ds M Q DX0 → t_l_law_f635 sp_lfar20 sp_generator sp_lright20 sp_lsquares20 sp_signG sp_lsign20 (dEnds M Q) (startD 3 ds) M := by
  rintro _ M Q - ⟨rfl, ⟨ns, rfl⟩, q⟩
  unfold t_l_law_f635
  have fin : ∀ M2, Rtq [] Q (.bl true) M2 := fun M2 => ⟨[], M2, rfl, Nat.zero_le _, rfl, fun i c h => by simp at h, q⟩
  refine dSeq_open fun B hB => ?_
  walk_at "rd"
  refine ⟨ns, 2, rfl, by decide, by decide, fun M1 ml1 hg1 _ => ?_⟩
  try dsimp only
  refine ⟨_, _, rfl, hg1, by decide, fun M2 g2 => ?_⟩
  walk_at "rd"
  rw [← hB]
  clear hB B
  refine dSeq_open fun B hB => ?_
  walk_at "rd"
  refine ⟨ns, 0, rfl, by decide, by decide, fun M3 ml3 hg3 _ => ?_⟩
  try dsimp only
  refine ⟨_, _, rfl, hg3, by decide, fun M4 g4 => ?_⟩
  walk_at "rd"
  refine ⟨ns, 1, rfl, by decide, by decide, fun M5 ml5 hg5 _ => ?_⟩
  try dsimp only
  refine ⟨_, _, rfl, hg5, by decide, fun M6 g6 => ?_⟩
  walk_at "rd"
  rw [← hB]
  clear hB B
  refine dSeq_open fun B hB => ?_
  walk_at "rd"
  have cp : CPow 10 11 := by
    refine ⟨by decide, ?_⟩
    have : (Builtin.Int.intBits 10 : Int) = 4 := by decide
    rw [this]
    decide
  refine ⟨cp, ?_⟩
  have e11 : (10 : Int) ^ (11 : Int).toNat = 100000000000 := by decide
  rw [e11, ← hB]
  clear hB B
  have f17 : IsFac 17 1 := (rest_fac 17 (by decide)).2.2.2
  have m17 : MF 17 := ⟨by decide, by decide, by decide⟩
  have c0 : CG 17 0 1 2 (-3) := ⟨by decide, by decide, m17.b100.mono⟩
  have c1 : CG 17 0 2 1 (-3) := ⟨by decide, by decide, m17.b100.mono⟩
  have m9 : MF 9 := ⟨by decide, by decide, by decide⟩
  have c2 : CG 9 0 2 1 (-1) := ⟨by decide, by decide, m9.b100.mono⟩
  have m5 : MF 5 := ⟨by decide, by decide, by decide⟩
  have c3 : CG 5 0 1 1 (-1) := ⟨by decide, by decide, m5.b100.mono⟩
  have c4 : CG 17 1 2 2 (-1) := ⟨by decide, by decide, m17.b100.mono⟩
  have mB : MF 400000000001 := ⟨by decide, by decide, by decide⟩
  have c5 : CG 400000000001 0 100000000000 1 1 := ⟨by decide, by decide, mB.b100.mono⟩
  have m25 : MF 25 := ⟨by decide, by decide, by decide⟩
  have c6 : CG 25 0 2 2 (-3) := ⟨by decide, by decide, m25.b100.mono⟩
  have v0 : sgD 17 0 1 2 (-3) (.int 1) := sg_of (by decide) f17 (by decide)
  have v1 : sgD 17 0 2 1 (-3) (.int 0) := sg_of (by decide) f17 (by decide)
  have v2 : sgD 9 0 2 1 (-1) .non := .inl ⟨by decide, rfl⟩
  have v3 : sgD 5 0 1 1 (-1) .non := .inl ⟨by decide, rfl⟩
  have v4 : sgD 17 1 2 2 (-1) (.int 0) := sg_of (by decide) f17 (by decide)
  have v5 : sgD 400000000001 0 100000000000 1 1 (.int 1) := sg_of (by decide) fac_big (by decide)
  have v6 : sgD 25 0 2 2 (-3) (.int 0) := sg_of (by decide) (fac_sq (k := 5) (by decide)) (by decide)
  walk_at "rd"
  have step : ∀ (m : Nat) (a b c e : Int) (v : D), MF m → CG m a b c e → sgD m a b c e v → ∀ (r : Env) (Y : D → Mem → Prop) (M : Mem), Y (fT (T4 a b c e)) M → sp_signG [T4 a b c e] M Y DX0 := fun m a b c e v hmf hcg hv r Y M hY => ⟨m, a, b, c, e, rfl, hmf, hcg, fun v' hv' => by
    rw [sgF_of hcg.me hv] at hY
    rw [hv'.uni hv fun _ => rfl]
    exact hY⟩
  refine lcW_acc fT (fun _ => True) trivial (by rw [sizeLine_eq]; decide) (fun d hd Y N hY => ?_) fun _ => ?_
  · have hY := hY trivial
    simp only [List.mem_cons, List.not_mem_nil, or_false] at hd
    rcases hd with rfl | rfl | rfl | rfl | rfl | rfl
    all_goals walk_at "rd"
    · exact step _ _ _ _ _ _ m17 c0 v0 [] _ _ hY
    · exact step _ _ _ _ _ _ m17 c1 v1 [] _ _ hY
    · exact step _ _ _ _ _ _ m9 c2 v2 [] _ _ hY
    · exact step _ _ _ _ _ _ m5 c3 v3 [] _ _ hY
    · exact step _ _ _ _ _ _ m17 c4 v4 [] _ _ hY
    · exact step _ _ _ _ _ _ mB c5 v5 [] _ _ hY
  · simp only [List.map_cons, List.map_nil]
    rw [sgF_of c0.me v0, sgF_of c1.me v1, sgF_of c2.me v2, sgF_of c3.me v3, sgF_of c4.me v4, sgF_of c5.me v5]
    trace_state
    refine ⟨cp, ?_⟩
    rw [e11]
    refine ⟨400000000001, 0, 100000000000, 1, 1, rfl, mB, c5, fun g hg => by rw [hg.uni fac_big]; decide, fun v hv => ?_⟩
    obtain rfl := hv.uni v5 fun _ => rfl
    try dsimp only
    refine gEq_same (n := 3) rfl ?_
    walk_at "rd"
    refine ⟨25, 0, 2, 2, -3, rfl, m25, c6, fun v hv => ?_⟩
    obtain rfl := hv.uni v6 fun _ => rfl
    trace_state
    exact fin _
end DL
namespace C_k20
open PySem PySem.Spec PyProof.Rows L2 DL
theorem law_ok {P : Program} {w : World} {K : PySem.W.Frag} {mg : Str → Option Value} {base : Heap} (T : Txt K mg base) : Def P w K mg base CX0 8 "law" s_l_law_f635 ["_law_script"] spLaw := by
  have D_l_hash_d8d1 := ok_l_hash_d8d1 (P := P) (w := w) T  rd_l_hash_d8d1
  have D_l_random_8926 := ok_l_random_8926 (P := P) (w := w) T D_l_hash_d8d1 rd_l_random_8926
  have D_l_turn_a0b1 := ok_l_turn_a0b1 (P := P) (w := w) T  rd_l_turn_a0b1
  have D_l_sides_697d := ok_l_sides_697d (P := P) (w := w) T  rd_l_sides_697d
  have D_l_common_2228 := ok_l_common_2228 (P := P) (w := w) T  rd_l_common_2228
  have D_l_done_d2e5 := ok_l_done_d2e5 (P := P) (w := w) T D_l_sides_697d D_l_common_2228 rd_l_done_d2e5
  have D_l_led_9b7a := ok_l_led_9b7a (P := P) (w := w) T D_l_done_d2e5 rd_l_led_9b7a
  have D_l_tens_a574 := ok_l_tens_a574 (P := P) (w := w) T  rd_l_tens_a574
  have D_l_some_deed_eb4d := ok_l_some_deed_eb4d (P := P) (w := w) T D_l_random_8926 D_l_tens_a574 D_l_common_2228 rd_l_some_deed_eb4d
  have D_l_some_word_3bfd := ok_l_some_word_3bfd (P := P) (w := w) T D_l_random_8926 D_l_some_deed_eb4d D_l_done_d2e5 rd_l_some_word_3bfd
  have D_is_whole := ok_is_whole (P := P) (w := w) T  rd_is_whole
  have D_common_by := ok_common_by (P := P) (w := w) T  rd_common_by
  have D_is_cutting_by := ok_is_cutting_by (P := P) (w := w) T D_is_whole D_common_by rd_is_cutting_by
  have D_check_cutting := ok_check_cutting (P := P) (w := w) T D_is_cutting_by rd_check_cutting
  have D_measure_by := ok_measure_by (P := P) (w := w) T  rd_measure_by
  have D_is_signed := ok_is_signed (P := P) (w := w) T  rd_is_signed
  have D_root_floor_by := ok_root_floor_by (P := P) (w := w) T  rd_root_floor_by
  have D_square_part_by := ok_square_part_by (P := P) (w := w) T D_root_floor_by rd_square_part_by
  have D_factor_by := ok_factor_by (P := P) (w := w) T D_square_part_by rd_factor_by
  have D_turn_by := ok_turn_by (P := P) (w := w) T  rd_turn_by
  have D_sign_by := ok_sign_by (P := P) (w := w) T D_measure_by D_is_signed D_factor_by D_turn_by rd_sign_byG
  have D_sign := ok_sign (P := P) (w := w) T D_check_cutting D_sign_by rd_signG
  have D_l_far_right_6012 := ok_l_far_right_6012 (P := P) (w := w) T D_l_random_8926 D_l_turn_a0b1 D_l_led_9b7a D_l_some_word_3bfd D_sign rd_l_far_right_6012
  have D_l_cell_cf3b := ok_l_cell_cf3b (P := P) (w := w) T  rd_l_cell_cf3b
  have D_l_generator_b324 := ok_l_generator_b324 (P := P) (w := w) T D_l_cell_cf3b rd_l_generator_b324
  have D_l_is_cutting_5bf1 := ok_l_is_cutting_5bf1 (P := P) (w := w) T D_l_common_2228 rd_l_is_cutting_5bf1
  have D_l_cuttings_78a4 := ok_l_cuttings_78a4 (P := P) (w := w) T D_l_common_2228 D_l_is_cutting_5bf1 rd_l_cuttings_78a4
  have D_l_measure_919a := ok_l_measure_919a (P := P) (w := w) T  rd_measure_by
  have D_l_signed_630a := ok_l_signed_630a (P := P) (w := w) T  rd_l_signed_630a
  have D_l_sign_3b1d := ok_l_sign_3b1d (P := P) (w := w) T D_l_measure_919a D_l_signed_630a D_l_turn_a0b1 rd_l_sign_3b1d
  have D_l_deeds_d0dc := ok_l_deeds_d0dc (P := P) (w := w) T D_l_common_2228 rd_l_deeds_d0dc
  have D_l_some_measure_bbc9 := ok_l_some_measure_bbc9 (P := P) (w := w) T D_l_random_8926 rd_l_some_measure_bbc9
  have D_l_great_7ce3 := ok_l_great_7ce3 (P := P) (w := w) T D_l_tens_a574 D_l_random_8926 D_l_common_2228 D_l_is_cutting_5bf1 D_l_measure_919a rd_l_great_7ce3
  have D_l_great_right_fd0d := ok_l_great_right_fd0d (P := P) (w := w) T D_l_great_7ce3 D_l_led_9b7a D_l_some_word_3bfd D_l_signed_630a D_l_measure_919a D_sign rd_l_great_right_fd0d
  have D_l_right_605e := ok_l_right_605e (P := P) (w := w) T D_l_random_8926 D_l_cuttings_78a4 D_l_sign_3b1d D_sign D_l_deeds_d0dc D_l_done_d2e5 D_l_some_measure_bbc9 D_l_great_right_fd0d rd_l_right_605e
  have D_l_squares_right_3d47 := ok_l_squares_right_3d47 (P := P) (w := w) T D_l_random_8926 D_l_is_cutting_5bf1 D_l_measure_919a D_sign rd_l_squares_right_3d47
  exact ok_l_law_f635 T D_l_far_right_6012 D_l_generator_b324 D_l_right_605e D_l_squares_right_3d47 D_sign D_l_sign_3b1d rd_l_law_f635
end C_k20
namespace C_k20
open PySem PySem.Spec PyProof.Rows L2 DL
theorem all_mk {K : PySem.W.Frag} {h : Heap} {mg : Str → Option Value} (X : K.In h) (G : h.Ns mainGlobals mg)
    (n_abs : PySem.W.nsIn K mainGlobals "abs" = some none)
    (n_bool : PySem.W.nsIn K mainGlobals "bool" = some none)
    (n_dict : PySem.W.nsIn K mainGlobals "dict" = some none)
    (n_int : PySem.W.nsIn K mainGlobals "int" = some none)
    (n_isinstance : PySem.W.nsIn K mainGlobals "isinstance" = some none)
    (n_len : PySem.W.nsIn K mainGlobals "len" = some none)
    (n_max : PySem.W.nsIn K mainGlobals "max" = some none)
    (n_range : PySem.W.nsIn K mainGlobals "range" = some none)
    (n_repr : PySem.W.nsIn K mainGlobals "repr" = some none)
    (n_sorted : PySem.W.nsIn K mainGlobals "sorted" = some none)
    (n_sum : PySem.W.nsIn K mainGlobals "sum" = some none)
    (n_tuple : PySem.W.nsIn K mainGlobals "tuple" = some none)
    {f_l_hash_d8d1 : Addr} {oc_l_hash_d8d1 kV_l_hash_d8d1 dc_l_hash_d8d1 pm_l_hash_d8d1 cd_l_hash_d8d1 ct_l_hash_d8d1 : Value} {od_l_hash_d8d1 an_l_hash_d8d1 : Option Addr} {sl_l_hash_d8d1 : Array (Option Value)}
    (a_l_hash_d8d1 : PySem.W.nsIn K mainGlobals "_law_hash" = some (some (.ref f_l_hash_d8d1))) (l_l_hash_d8d1 : K.lookup f_l_hash_d8d1 = some ⟨oc_l_hash_d8d1, od_l_hash_d8d1, .func (PySem.W.fnOf "_law_hash" "_law_hash" (defArgs s_l_hash_d8d1) (defBody s_l_hash_d8d1) (defScope s_l_hash_d8d1) .none kV_l_hash_d8d1 dc_l_hash_d8d1 pm_l_hash_d8d1 an_l_hash_d8d1 cd_l_hash_d8d1 ct_l_hash_d8d1), sl_l_hash_d8d1⟩) (e_l_hash_d8d1 : PySem.W.codeIn K cd_l_hash_d8d1 "_law_hash" = true) (k_l_hash_d8d1 : PySem.W.keepIn K (.ref f_l_hash_d8d1) = true)
    {f_l_random_8926 : Addr} {oc_l_random_8926 kV_l_random_8926 dc_l_random_8926 pm_l_random_8926 cd_l_random_8926 ct_l_random_8926 : Value} {od_l_random_8926 an_l_random_8926 : Option Addr} {sl_l_random_8926 : Array (Option Value)}
    (a_l_random_8926 : PySem.W.nsIn K mainGlobals "_law_random" = some (some (.ref f_l_random_8926))) (l_l_random_8926 : K.lookup f_l_random_8926 = some ⟨oc_l_random_8926, od_l_random_8926, .func (PySem.W.fnOf "_law_random" "_law_random" (defArgs s_l_random_8926) (defBody s_l_random_8926) (defScope s_l_random_8926) .none kV_l_random_8926 dc_l_random_8926 pm_l_random_8926 an_l_random_8926 cd_l_random_8926 ct_l_random_8926), sl_l_random_8926⟩) (e_l_random_8926 : PySem.W.codeIn K cd_l_random_8926 "_law_random" = true) (k_l_random_8926 : PySem.W.keepIn K (.ref f_l_random_8926) = true)
    {f_l_turn_a0b1 : Addr} {oc_l_turn_a0b1 kV_l_turn_a0b1 dc_l_turn_a0b1 pm_l_turn_a0b1 cd_l_turn_a0b1 ct_l_turn_a0b1 : Value} {od_l_turn_a0b1 an_l_turn_a0b1 : Option Addr} {sl_l_turn_a0b1 : Array (Option Value)}
    (a_l_turn_a0b1 : PySem.W.nsIn K mainGlobals "_law_turn" = some (some (.ref f_l_turn_a0b1))) (l_l_turn_a0b1 : K.lookup f_l_turn_a0b1 = some ⟨oc_l_turn_a0b1, od_l_turn_a0b1, .func (PySem.W.fnOf "_law_turn" "_law_turn" (defArgs s_l_turn_a0b1) (defBody s_l_turn_a0b1) (defScope s_l_turn_a0b1) .none kV_l_turn_a0b1 dc_l_turn_a0b1 pm_l_turn_a0b1 an_l_turn_a0b1 cd_l_turn_a0b1 ct_l_turn_a0b1), sl_l_turn_a0b1⟩) (e_l_turn_a0b1 : PySem.W.codeIn K cd_l_turn_a0b1 "_law_turn" = true) (k_l_turn_a0b1 : PySem.W.keepIn K (.ref f_l_turn_a0b1) = true)
    {f_l_sides_697d : Addr} {oc_l_sides_697d kV_l_sides_697d dc_l_sides_697d pm_l_sides_697d cd_l_sides_697d ct_l_sides_697d : Value} {od_l_sides_697d an_l_sides_697d : Option Addr} {sl_l_sides_697d : Array (Option Value)}
    (a_l_sides_697d : PySem.W.nsIn K mainGlobals "_law_sides" = some (some (.ref f_l_sides_697d))) (l_l_sides_697d : K.lookup f_l_sides_697d = some ⟨oc_l_sides_697d, od_l_sides_697d, .func (PySem.W.fnOf "_law_sides" "_law_sides" (defArgs s_l_sides_697d) (defBody s_l_sides_697d) (defScope s_l_sides_697d) .none kV_l_sides_697d dc_l_sides_697d pm_l_sides_697d an_l_sides_697d cd_l_sides_697d ct_l_sides_697d), sl_l_sides_697d⟩) (e_l_sides_697d : PySem.W.codeIn K cd_l_sides_697d "_law_sides" = true) (k_l_sides_697d : PySem.W.keepIn K (.ref f_l_sides_697d) = true)
    {f_l_common_2228 : Addr} {oc_l_common_2228 kV_l_common_2228 dc_l_common_2228 pm_l_common_2228 cd_l_common_2228 ct_l_common_2228 : Value} {od_l_common_2228 an_l_common_2228 : Option Addr} {sl_l_common_2228 : Array (Option Value)}
    (a_l_common_2228 : PySem.W.nsIn K mainGlobals "_law_common" = some (some (.ref f_l_common_2228))) (l_l_common_2228 : K.lookup f_l_common_2228 = some ⟨oc_l_common_2228, od_l_common_2228, .func (PySem.W.fnOf "_law_common" "_law_common" (defArgs s_l_common_2228) (defBody s_l_common_2228) (defScope s_l_common_2228) .none kV_l_common_2228 dc_l_common_2228 pm_l_common_2228 an_l_common_2228 cd_l_common_2228 ct_l_common_2228), sl_l_common_2228⟩) (e_l_common_2228 : PySem.W.codeIn K cd_l_common_2228 "_law_common" = true) (k_l_common_2228 : PySem.W.keepIn K (.ref f_l_common_2228) = true)
    {f_l_done_d2e5 : Addr} {oc_l_done_d2e5 kV_l_done_d2e5 dc_l_done_d2e5 pm_l_done_d2e5 cd_l_done_d2e5 ct_l_done_d2e5 : Value} {od_l_done_d2e5 an_l_done_d2e5 : Option Addr} {sl_l_done_d2e5 : Array (Option Value)}
    (a_l_done_d2e5 : PySem.W.nsIn K mainGlobals "_law_done" = some (some (.ref f_l_done_d2e5))) (l_l_done_d2e5 : K.lookup f_l_done_d2e5 = some ⟨oc_l_done_d2e5, od_l_done_d2e5, .func (PySem.W.fnOf "_law_done" "_law_done" (defArgs s_l_done_d2e5) (defBody s_l_done_d2e5) (defScope s_l_done_d2e5) .none kV_l_done_d2e5 dc_l_done_d2e5 pm_l_done_d2e5 an_l_done_d2e5 cd_l_done_d2e5 ct_l_done_d2e5), sl_l_done_d2e5⟩) (e_l_done_d2e5 : PySem.W.codeIn K cd_l_done_d2e5 "_law_done" = true) (k_l_done_d2e5 : PySem.W.keepIn K (.ref f_l_done_d2e5) = true)
    {f_l_led_9b7a : Addr} {oc_l_led_9b7a kV_l_led_9b7a dc_l_led_9b7a pm_l_led_9b7a cd_l_led_9b7a ct_l_led_9b7a : Value} {od_l_led_9b7a an_l_led_9b7a : Option Addr} {sl_l_led_9b7a : Array (Option Value)}
    (a_l_led_9b7a : PySem.W.nsIn K mainGlobals "_law_led" = some (some (.ref f_l_led_9b7a))) (l_l_led_9b7a : K.lookup f_l_led_9b7a = some ⟨oc_l_led_9b7a, od_l_led_9b7a, .func (PySem.W.fnOf "_law_led" "_law_led" (defArgs s_l_led_9b7a) (defBody s_l_led_9b7a) (defScope s_l_led_9b7a) .none kV_l_led_9b7a dc_l_led_9b7a pm_l_led_9b7a an_l_led_9b7a cd_l_led_9b7a ct_l_led_9b7a), sl_l_led_9b7a⟩) (e_l_led_9b7a : PySem.W.codeIn K cd_l_led_9b7a "_law_led" = true) (k_l_led_9b7a : PySem.W.keepIn K (.ref f_l_led_9b7a) = true)
    {f_l_tens_a574 : Addr} {oc_l_tens_a574 kV_l_tens_a574 dc_l_tens_a574 pm_l_tens_a574 cd_l_tens_a574 ct_l_tens_a574 : Value} {od_l_tens_a574 an_l_tens_a574 : Option Addr} {sl_l_tens_a574 : Array (Option Value)}
    (a_l_tens_a574 : PySem.W.nsIn K mainGlobals "_law_tens" = some (some (.ref f_l_tens_a574))) (l_l_tens_a574 : K.lookup f_l_tens_a574 = some ⟨oc_l_tens_a574, od_l_tens_a574, .func (PySem.W.fnOf "_law_tens" "_law_tens" (defArgs s_l_tens_a574) (defBody s_l_tens_a574) (defScope s_l_tens_a574) .none kV_l_tens_a574 dc_l_tens_a574 pm_l_tens_a574 an_l_tens_a574 cd_l_tens_a574 ct_l_tens_a574), sl_l_tens_a574⟩) (e_l_tens_a574 : PySem.W.codeIn K cd_l_tens_a574 "_law_tens" = true) (k_l_tens_a574 : PySem.W.keepIn K (.ref f_l_tens_a574) = true)
    {f_l_some_deed_eb4d : Addr} {oc_l_some_deed_eb4d kV_l_some_deed_eb4d dc_l_some_deed_eb4d pm_l_some_deed_eb4d cd_l_some_deed_eb4d ct_l_some_deed_eb4d : Value} {od_l_some_deed_eb4d an_l_some_deed_eb4d : Option Addr} {sl_l_some_deed_eb4d : Array (Option Value)}
    (a_l_some_deed_eb4d : PySem.W.nsIn K mainGlobals "_law_some_deed" = some (some (.ref f_l_some_deed_eb4d))) (l_l_some_deed_eb4d : K.lookup f_l_some_deed_eb4d = some ⟨oc_l_some_deed_eb4d, od_l_some_deed_eb4d, .func (PySem.W.fnOf "_law_some_deed" "_law_some_deed" (defArgs s_l_some_deed_eb4d) (defBody s_l_some_deed_eb4d) (defScope s_l_some_deed_eb4d) .none kV_l_some_deed_eb4d dc_l_some_deed_eb4d pm_l_some_deed_eb4d an_l_some_deed_eb4d cd_l_some_deed_eb4d ct_l_some_deed_eb4d), sl_l_some_deed_eb4d⟩) (e_l_some_deed_eb4d : PySem.W.codeIn K cd_l_some_deed_eb4d "_law_some_deed" = true) (k_l_some_deed_eb4d : PySem.W.keepIn K (.ref f_l_some_deed_eb4d) = true)
    {f_l_some_word_3bfd : Addr} {oc_l_some_word_3bfd kV_l_some_word_3bfd dc_l_some_word_3bfd pm_l_some_word_3bfd cd_l_some_word_3bfd ct_l_some_word_3bfd : Value} {od_l_some_word_3bfd an_l_some_word_3bfd : Option Addr} {sl_l_some_word_3bfd : Array (Option Value)}
    (a_l_some_word_3bfd : PySem.W.nsIn K mainGlobals "_law_some_word" = some (some (.ref f_l_some_word_3bfd))) (l_l_some_word_3bfd : K.lookup f_l_some_word_3bfd = some ⟨oc_l_some_word_3bfd, od_l_some_word_3bfd, .func (PySem.W.fnOf "_law_some_word" "_law_some_word" (defArgs s_l_some_word_3bfd) (defBody s_l_some_word_3bfd) (defScope s_l_some_word_3bfd) .none kV_l_some_word_3bfd dc_l_some_word_3bfd pm_l_some_word_3bfd an_l_some_word_3bfd cd_l_some_word_3bfd ct_l_some_word_3bfd), sl_l_some_word_3bfd⟩) (e_l_some_word_3bfd : PySem.W.codeIn K cd_l_some_word_3bfd "_law_some_word" = true) (k_l_some_word_3bfd : PySem.W.keepIn K (.ref f_l_some_word_3bfd) = true)
    {f_is_whole : Addr} {oc_is_whole kV_is_whole dc_is_whole pm_is_whole cd_is_whole ct_is_whole : Value} {od_is_whole an_is_whole : Option Addr} {sl_is_whole : Array (Option Value)}
    (a_is_whole : PySem.W.nsIn K mainGlobals "is_whole" = some (some (.ref f_is_whole))) (l_is_whole : K.lookup f_is_whole = some ⟨oc_is_whole, od_is_whole, .func (PySem.W.fnOf "is_whole" "is_whole" (defArgs s_is_whole) (defBody s_is_whole) (defScope s_is_whole) .none kV_is_whole dc_is_whole pm_is_whole an_is_whole cd_is_whole ct_is_whole), sl_is_whole⟩) (e_is_whole : PySem.W.codeIn K cd_is_whole "is_whole" = true) (k_is_whole : PySem.W.keepIn K (.ref f_is_whole) = true)
    {f_common_by : Addr} {oc_common_by kV_common_by dc_common_by pm_common_by cd_common_by ct_common_by : Value} {od_common_by an_common_by : Option Addr} {sl_common_by : Array (Option Value)}
    (a_common_by : PySem.W.nsIn K mainGlobals "common_by" = some (some (.ref f_common_by))) (l_common_by : K.lookup f_common_by = some ⟨oc_common_by, od_common_by, .func (PySem.W.fnOf "common_by" "common_by" (defArgs s_common_by) (defBody s_common_by) (defScope s_common_by) .none kV_common_by dc_common_by pm_common_by an_common_by cd_common_by ct_common_by), sl_common_by⟩) (e_common_by : PySem.W.codeIn K cd_common_by "common_by" = true) (k_common_by : PySem.W.keepIn K (.ref f_common_by) = true)
    {f_is_cutting_by : Addr} {oc_is_cutting_by kV_is_cutting_by dc_is_cutting_by pm_is_cutting_by cd_is_cutting_by ct_is_cutting_by : Value} {od_is_cutting_by an_is_cutting_by : Option Addr} {sl_is_cutting_by : Array (Option Value)}
    (a_is_cutting_by : PySem.W.nsIn K mainGlobals "is_cutting_by" = some (some (.ref f_is_cutting_by))) (l_is_cutting_by : K.lookup f_is_cutting_by = some ⟨oc_is_cutting_by, od_is_cutting_by, .func (PySem.W.fnOf "is_cutting_by" "is_cutting_by" (defArgs s_is_cutting_by) (defBody s_is_cutting_by) (defScope s_is_cutting_by) .none kV_is_cutting_by dc_is_cutting_by pm_is_cutting_by an_is_cutting_by cd_is_cutting_by ct_is_cutting_by), sl_is_cutting_by⟩) (e_is_cutting_by : PySem.W.codeIn K cd_is_cutting_by "is_cutting_by" = true) (k_is_cutting_by : PySem.W.keepIn K (.ref f_is_cutting_by) = true)
    {f_check_cutting : Addr} {oc_check_cutting kV_check_cutting dc_check_cutting pm_check_cutting cd_check_cutting ct_check_cutting : Value} {od_check_cutting an_check_cutting : Option Addr} {sl_check_cutting : Array (Option Value)}
    (a_check_cutting : PySem.W.nsIn K mainGlobals "check_cutting" = some (some (.ref f_check_cutting))) (l_check_cutting : K.lookup f_check_cutting = some ⟨oc_check_cutting, od_check_cutting, .func (PySem.W.fnOf "check_cutting" "check_cutting" (defArgs s_check_cutting) (defBody s_check_cutting) (defScope s_check_cutting) .none kV_check_cutting dc_check_cutting pm_check_cutting an_check_cutting cd_check_cutting ct_check_cutting), sl_check_cutting⟩) (e_check_cutting : PySem.W.codeIn K cd_check_cutting "check_cutting" = true) (k_check_cutting : PySem.W.keepIn K (.ref f_check_cutting) = true)
    {f_measure_by : Addr} {oc_measure_by kV_measure_by dc_measure_by pm_measure_by cd_measure_by ct_measure_by : Value} {od_measure_by an_measure_by : Option Addr} {sl_measure_by : Array (Option Value)}
    (a_measure_by : PySem.W.nsIn K mainGlobals "measure_by" = some (some (.ref f_measure_by))) (l_measure_by : K.lookup f_measure_by = some ⟨oc_measure_by, od_measure_by, .func (PySem.W.fnOf "measure_by" "measure_by" (defArgs s_measure_by) (defBody s_measure_by) (defScope s_measure_by) .none kV_measure_by dc_measure_by pm_measure_by an_measure_by cd_measure_by ct_measure_by), sl_measure_by⟩) (e_measure_by : PySem.W.codeIn K cd_measure_by "measure_by" = true) (k_measure_by : PySem.W.keepIn K (.ref f_measure_by) = true)
    {f_is_signed : Addr} {oc_is_signed kV_is_signed dc_is_signed pm_is_signed cd_is_signed ct_is_signed : Value} {od_is_signed an_is_signed : Option Addr} {sl_is_signed : Array (Option Value)}
    (a_is_signed : PySem.W.nsIn K mainGlobals "is_signed" = some (some (.ref f_is_signed))) (l_is_signed : K.lookup f_is_signed = some ⟨oc_is_signed, od_is_signed, .func (PySem.W.fnOf "is_signed" "is_signed" (defArgs s_is_signed) (defBody s_is_signed) (defScope s_is_signed) .none kV_is_signed dc_is_signed pm_is_signed an_is_signed cd_is_signed ct_is_signed), sl_is_signed⟩) (e_is_signed : PySem.W.codeIn K cd_is_signed "is_signed" = true) (k_is_signed : PySem.W.keepIn K (.ref f_is_signed) = true)
    {f_root_floor_by : Addr} {oc_root_floor_by kV_root_floor_by dc_root_floor_by pm_root_floor_by cd_root_floor_by ct_root_floor_by : Value} {od_root_floor_by an_root_floor_by : Option Addr} {sl_root_floor_by : Array (Option Value)}
    (a_root_floor_by : PySem.W.nsIn K mainGlobals "root_floor_by" = some (some (.ref f_root_floor_by))) (l_root_floor_by : K.lookup f_root_floor_by = some ⟨oc_root_floor_by, od_root_floor_by, .func (PySem.W.fnOf "root_floor_by" "root_floor_by" (defArgs s_root_floor_by) (defBody s_root_floor_by) (defScope s_root_floor_by) .none kV_root_floor_by dc_root_floor_by pm_root_floor_by an_root_floor_by cd_root_floor_by ct_root_floor_by), sl_root_floor_by⟩) (e_root_floor_by : PySem.W.codeIn K cd_root_floor_by "root_floor_by" = true) (k_root_floor_by : PySem.W.keepIn K (.ref f_root_floor_by) = true)
    {f_square_part_by : Addr} {oc_square_part_by kV_square_part_by dc_square_part_by pm_square_part_by cd_square_part_by ct_square_part_by : Value} {od_square_part_by an_square_part_by : Option Addr} {sl_square_part_by : Array (Option Value)}
    (a_square_part_by : PySem.W.nsIn K mainGlobals "square_part_by" = some (some (.ref f_square_part_by))) (l_square_part_by : K.lookup f_square_part_by = some ⟨oc_square_part_by, od_square_part_by, .func (PySem.W.fnOf "square_part_by" "square_part_by" (defArgs s_square_part_by) (defBody s_square_part_by) (defScope s_square_part_by) .none kV_square_part_by dc_square_part_by pm_square_part_by an_square_part_by cd_square_part_by ct_square_part_by), sl_square_part_by⟩) (e_square_part_by : PySem.W.codeIn K cd_square_part_by "square_part_by" = true) (k_square_part_by : PySem.W.keepIn K (.ref f_square_part_by) = true)
    {f_factor_by : Addr} {oc_factor_by kV_factor_by dc_factor_by pm_factor_by cd_factor_by ct_factor_by : Value} {od_factor_by an_factor_by : Option Addr} {sl_factor_by : Array (Option Value)}
    (a_factor_by : PySem.W.nsIn K mainGlobals "factor_by" = some (some (.ref f_factor_by))) (l_factor_by : K.lookup f_factor_by = some ⟨oc_factor_by, od_factor_by, .func (PySem.W.fnOf "factor_by" "factor_by" (defArgs s_factor_by) (defBody s_factor_by) (defScope s_factor_by) .none kV_factor_by dc_factor_by pm_factor_by an_factor_by cd_factor_by ct_factor_by), sl_factor_by⟩) (e_factor_by : PySem.W.codeIn K cd_factor_by "factor_by" = true) (k_factor_by : PySem.W.keepIn K (.ref f_factor_by) = true)
    {f_turn_by : Addr} {oc_turn_by kV_turn_by dc_turn_by pm_turn_by cd_turn_by ct_turn_by : Value} {od_turn_by an_turn_by : Option Addr} {sl_turn_by : Array (Option Value)}
    (a_turn_by : PySem.W.nsIn K mainGlobals "turn_by" = some (some (.ref f_turn_by))) (l_turn_by : K.lookup f_turn_by = some ⟨oc_turn_by, od_turn_by, .func (PySem.W.fnOf "turn_by" "turn_by" (defArgs s_turn_by) (defBody s_turn_by) (defScope s_turn_by) .none kV_turn_by dc_turn_by pm_turn_by an_turn_by cd_turn_by ct_turn_by), sl_turn_by⟩) (e_turn_by : PySem.W.codeIn K cd_turn_by "turn_by" = true) (k_turn_by : PySem.W.keepIn K (.ref f_turn_by) = true)
    {f_sign_by : Addr} {oc_sign_by kV_sign_by dc_sign_by pm_sign_by cd_sign_by ct_sign_by : Value} {od_sign_by an_sign_by : Option Addr} {sl_sign_by : Array (Option Value)}
    (a_sign_by : PySem.W.nsIn K mainGlobals "sign_by" = some (some (.ref f_sign_by))) (l_sign_by : K.lookup f_sign_by = some ⟨oc_sign_by, od_sign_by, .func (PySem.W.fnOf "sign_by" "sign_by" (defArgs s_sign_by) (defBody s_sign_by) (defScope s_sign_by) .none kV_sign_by dc_sign_by pm_sign_by an_sign_by cd_sign_by ct_sign_by), sl_sign_by⟩) (e_sign_by : PySem.W.codeIn K cd_sign_by "sign_by" = true) (k_sign_by : PySem.W.keepIn K (.ref f_sign_by) = true)
    {f_sign : Addr} {oc_sign kV_sign dc_sign pm_sign cd_sign ct_sign : Value} {od_sign an_sign : Option Addr} {sl_sign : Array (Option Value)}
    (a_sign : PySem.W.nsIn K mainGlobals "sign" = some (some (.ref f_sign))) (l_sign : K.lookup f_sign = some ⟨oc_sign, od_sign, .func (PySem.W.fnOf "sign" "sign" (defArgs s_sign) (defBody s_sign) (defScope s_sign) .none kV_sign dc_sign pm_sign an_sign cd_sign ct_sign), sl_sign⟩) (e_sign : PySem.W.codeIn K cd_sign "sign" = true) (k_sign : PySem.W.keepIn K (.ref f_sign) = true)
    {f_l_far_right_6012 : Addr} {oc_l_far_right_6012 kV_l_far_right_6012 dc_l_far_right_6012 pm_l_far_right_6012 cd_l_far_right_6012 ct_l_far_right_6012 : Value} {od_l_far_right_6012 an_l_far_right_6012 : Option Addr} {sl_l_far_right_6012 : Array (Option Value)}
    (a_l_far_right_6012 : PySem.W.nsIn K mainGlobals "_law_far_right" = some (some (.ref f_l_far_right_6012))) (l_l_far_right_6012 : K.lookup f_l_far_right_6012 = some ⟨oc_l_far_right_6012, od_l_far_right_6012, .func (PySem.W.fnOf "_law_far_right" "_law_far_right" (defArgs s_l_far_right_6012) (defBody s_l_far_right_6012) (defScope s_l_far_right_6012) .none kV_l_far_right_6012 dc_l_far_right_6012 pm_l_far_right_6012 an_l_far_right_6012 cd_l_far_right_6012 ct_l_far_right_6012), sl_l_far_right_6012⟩) (e_l_far_right_6012 : PySem.W.codeIn K cd_l_far_right_6012 "_law_far_right" = true) (k_l_far_right_6012 : PySem.W.keepIn K (.ref f_l_far_right_6012) = true)
    {f_l_cell_cf3b : Addr} {oc_l_cell_cf3b kV_l_cell_cf3b dc_l_cell_cf3b pm_l_cell_cf3b cd_l_cell_cf3b ct_l_cell_cf3b : Value} {od_l_cell_cf3b an_l_cell_cf3b : Option Addr} {sl_l_cell_cf3b : Array (Option Value)}
    (a_l_cell_cf3b : PySem.W.nsIn K mainGlobals "_law_cell" = some (some (.ref f_l_cell_cf3b))) (l_l_cell_cf3b : K.lookup f_l_cell_cf3b = some ⟨oc_l_cell_cf3b, od_l_cell_cf3b, .func (PySem.W.fnOf "_law_cell" "_law_cell" (defArgs s_l_cell_cf3b) (defBody s_l_cell_cf3b) (defScope s_l_cell_cf3b) .none kV_l_cell_cf3b dc_l_cell_cf3b pm_l_cell_cf3b an_l_cell_cf3b cd_l_cell_cf3b ct_l_cell_cf3b), sl_l_cell_cf3b⟩) (e_l_cell_cf3b : PySem.W.codeIn K cd_l_cell_cf3b "_law_cell" = true) (k_l_cell_cf3b : PySem.W.keepIn K (.ref f_l_cell_cf3b) = true)
    {f_l_generator_b324 : Addr} {oc_l_generator_b324 kV_l_generator_b324 dc_l_generator_b324 pm_l_generator_b324 cd_l_generator_b324 ct_l_generator_b324 : Value} {od_l_generator_b324 an_l_generator_b324 : Option Addr} {sl_l_generator_b324 : Array (Option Value)}
    (a_l_generator_b324 : PySem.W.nsIn K mainGlobals "_law_generator" = some (some (.ref f_l_generator_b324))) (l_l_generator_b324 : K.lookup f_l_generator_b324 = some ⟨oc_l_generator_b324, od_l_generator_b324, .func (PySem.W.fnOf "_law_generator" "_law_generator" (defArgs s_l_generator_b324) (defBody s_l_generator_b324) (defScope s_l_generator_b324) .none kV_l_generator_b324 dc_l_generator_b324 pm_l_generator_b324 an_l_generator_b324 cd_l_generator_b324 ct_l_generator_b324), sl_l_generator_b324⟩) (e_l_generator_b324 : PySem.W.codeIn K cd_l_generator_b324 "_law_generator" = true) (k_l_generator_b324 : PySem.W.keepIn K (.ref f_l_generator_b324) = true)
    {f_l_is_cutting_5bf1 : Addr} {oc_l_is_cutting_5bf1 kV_l_is_cutting_5bf1 dc_l_is_cutting_5bf1 pm_l_is_cutting_5bf1 cd_l_is_cutting_5bf1 ct_l_is_cutting_5bf1 : Value} {od_l_is_cutting_5bf1 an_l_is_cutting_5bf1 : Option Addr} {sl_l_is_cutting_5bf1 : Array (Option Value)}
    (a_l_is_cutting_5bf1 : PySem.W.nsIn K mainGlobals "_law_is_cutting" = some (some (.ref f_l_is_cutting_5bf1))) (l_l_is_cutting_5bf1 : K.lookup f_l_is_cutting_5bf1 = some ⟨oc_l_is_cutting_5bf1, od_l_is_cutting_5bf1, .func (PySem.W.fnOf "_law_is_cutting" "_law_is_cutting" (defArgs s_l_is_cutting_5bf1) (defBody s_l_is_cutting_5bf1) (defScope s_l_is_cutting_5bf1) .none kV_l_is_cutting_5bf1 dc_l_is_cutting_5bf1 pm_l_is_cutting_5bf1 an_l_is_cutting_5bf1 cd_l_is_cutting_5bf1 ct_l_is_cutting_5bf1), sl_l_is_cutting_5bf1⟩) (e_l_is_cutting_5bf1 : PySem.W.codeIn K cd_l_is_cutting_5bf1 "_law_is_cutting" = true) (k_l_is_cutting_5bf1 : PySem.W.keepIn K (.ref f_l_is_cutting_5bf1) = true)
    {f_l_cuttings_78a4 : Addr} {oc_l_cuttings_78a4 kV_l_cuttings_78a4 dc_l_cuttings_78a4 pm_l_cuttings_78a4 cd_l_cuttings_78a4 ct_l_cuttings_78a4 : Value} {od_l_cuttings_78a4 an_l_cuttings_78a4 : Option Addr} {sl_l_cuttings_78a4 : Array (Option Value)}
    (a_l_cuttings_78a4 : PySem.W.nsIn K mainGlobals "_law_cuttings" = some (some (.ref f_l_cuttings_78a4))) (l_l_cuttings_78a4 : K.lookup f_l_cuttings_78a4 = some ⟨oc_l_cuttings_78a4, od_l_cuttings_78a4, .func (PySem.W.fnOf "_law_cuttings" "_law_cuttings" (defArgs s_l_cuttings_78a4) (defBody s_l_cuttings_78a4) (defScope s_l_cuttings_78a4) .none kV_l_cuttings_78a4 dc_l_cuttings_78a4 pm_l_cuttings_78a4 an_l_cuttings_78a4 cd_l_cuttings_78a4 ct_l_cuttings_78a4), sl_l_cuttings_78a4⟩) (e_l_cuttings_78a4 : PySem.W.codeIn K cd_l_cuttings_78a4 "_law_cuttings" = true) (k_l_cuttings_78a4 : PySem.W.keepIn K (.ref f_l_cuttings_78a4) = true)
    {f_l_measure_919a : Addr} {oc_l_measure_919a kV_l_measure_919a dc_l_measure_919a pm_l_measure_919a cd_l_measure_919a ct_l_measure_919a : Value} {od_l_measure_919a an_l_measure_919a : Option Addr} {sl_l_measure_919a : Array (Option Value)}
    (a_l_measure_919a : PySem.W.nsIn K mainGlobals "_law_measure" = some (some (.ref f_l_measure_919a))) (l_l_measure_919a : K.lookup f_l_measure_919a = some ⟨oc_l_measure_919a, od_l_measure_919a, .func (PySem.W.fnOf "_law_measure" "_law_measure" (defArgs s_l_measure_919a) (defBody s_l_measure_919a) (defScope s_l_measure_919a) .none kV_l_measure_919a dc_l_measure_919a pm_l_measure_919a an_l_measure_919a cd_l_measure_919a ct_l_measure_919a), sl_l_measure_919a⟩) (e_l_measure_919a : PySem.W.codeIn K cd_l_measure_919a "_law_measure" = true) (k_l_measure_919a : PySem.W.keepIn K (.ref f_l_measure_919a) = true)
    {f_l_signed_630a : Addr} {oc_l_signed_630a kV_l_signed_630a dc_l_signed_630a pm_l_signed_630a cd_l_signed_630a ct_l_signed_630a : Value} {od_l_signed_630a an_l_signed_630a : Option Addr} {sl_l_signed_630a : Array (Option Value)}
    (a_l_signed_630a : PySem.W.nsIn K mainGlobals "_law_signed" = some (some (.ref f_l_signed_630a))) (l_l_signed_630a : K.lookup f_l_signed_630a = some ⟨oc_l_signed_630a, od_l_signed_630a, .func (PySem.W.fnOf "_law_signed" "_law_signed" (defArgs s_l_signed_630a) (defBody s_l_signed_630a) (defScope s_l_signed_630a) .none kV_l_signed_630a dc_l_signed_630a pm_l_signed_630a an_l_signed_630a cd_l_signed_630a ct_l_signed_630a), sl_l_signed_630a⟩) (e_l_signed_630a : PySem.W.codeIn K cd_l_signed_630a "_law_signed" = true) (k_l_signed_630a : PySem.W.keepIn K (.ref f_l_signed_630a) = true)
    {f_l_sign_3b1d : Addr} {oc_l_sign_3b1d kV_l_sign_3b1d dc_l_sign_3b1d pm_l_sign_3b1d cd_l_sign_3b1d ct_l_sign_3b1d : Value} {od_l_sign_3b1d an_l_sign_3b1d : Option Addr} {sl_l_sign_3b1d : Array (Option Value)}
    (a_l_sign_3b1d : PySem.W.nsIn K mainGlobals "_law_sign" = some (some (.ref f_l_sign_3b1d))) (l_l_sign_3b1d : K.lookup f_l_sign_3b1d = some ⟨oc_l_sign_3b1d, od_l_sign_3b1d, .func (PySem.W.fnOf "_law_sign" "_law_sign" (defArgs s_l_sign_3b1d) (defBody s_l_sign_3b1d) (defScope s_l_sign_3b1d) .none kV_l_sign_3b1d dc_l_sign_3b1d pm_l_sign_3b1d an_l_sign_3b1d cd_l_sign_3b1d ct_l_sign_3b1d), sl_l_sign_3b1d⟩) (e_l_sign_3b1d : PySem.W.codeIn K cd_l_sign_3b1d "_law_sign" = true) (k_l_sign_3b1d : PySem.W.keepIn K (.ref f_l_sign_3b1d) = true)
    {f_l_deeds_d0dc : Addr} {oc_l_deeds_d0dc kV_l_deeds_d0dc dc_l_deeds_d0dc pm_l_deeds_d0dc cd_l_deeds_d0dc ct_l_deeds_d0dc : Value} {od_l_deeds_d0dc an_l_deeds_d0dc : Option Addr} {sl_l_deeds_d0dc : Array (Option Value)}
    (a_l_deeds_d0dc : PySem.W.nsIn K mainGlobals "_law_deeds" = some (some (.ref f_l_deeds_d0dc))) (l_l_deeds_d0dc : K.lookup f_l_deeds_d0dc = some ⟨oc_l_deeds_d0dc, od_l_deeds_d0dc, .func (PySem.W.fnOf "_law_deeds" "_law_deeds" (defArgs s_l_deeds_d0dc) (defBody s_l_deeds_d0dc) (defScope s_l_deeds_d0dc) .none kV_l_deeds_d0dc dc_l_deeds_d0dc pm_l_deeds_d0dc an_l_deeds_d0dc cd_l_deeds_d0dc ct_l_deeds_d0dc), sl_l_deeds_d0dc⟩) (e_l_deeds_d0dc : PySem.W.codeIn K cd_l_deeds_d0dc "_law_deeds" = true) (k_l_deeds_d0dc : PySem.W.keepIn K (.ref f_l_deeds_d0dc) = true)
    {f_l_some_measure_bbc9 : Addr} {oc_l_some_measure_bbc9 kV_l_some_measure_bbc9 dc_l_some_measure_bbc9 pm_l_some_measure_bbc9 cd_l_some_measure_bbc9 ct_l_some_measure_bbc9 : Value} {od_l_some_measure_bbc9 an_l_some_measure_bbc9 : Option Addr} {sl_l_some_measure_bbc9 : Array (Option Value)}
    (a_l_some_measure_bbc9 : PySem.W.nsIn K mainGlobals "_law_some_measure" = some (some (.ref f_l_some_measure_bbc9))) (l_l_some_measure_bbc9 : K.lookup f_l_some_measure_bbc9 = some ⟨oc_l_some_measure_bbc9, od_l_some_measure_bbc9, .func (PySem.W.fnOf "_law_some_measure" "_law_some_measure" (defArgs s_l_some_measure_bbc9) (defBody s_l_some_measure_bbc9) (defScope s_l_some_measure_bbc9) .none kV_l_some_measure_bbc9 dc_l_some_measure_bbc9 pm_l_some_measure_bbc9 an_l_some_measure_bbc9 cd_l_some_measure_bbc9 ct_l_some_measure_bbc9), sl_l_some_measure_bbc9⟩) (e_l_some_measure_bbc9 : PySem.W.codeIn K cd_l_some_measure_bbc9 "_law_some_measure" = true) (k_l_some_measure_bbc9 : PySem.W.keepIn K (.ref f_l_some_measure_bbc9) = true)
    {f_l_great_7ce3 : Addr} {oc_l_great_7ce3 kV_l_great_7ce3 dc_l_great_7ce3 pm_l_great_7ce3 cd_l_great_7ce3 ct_l_great_7ce3 : Value} {od_l_great_7ce3 an_l_great_7ce3 : Option Addr} {sl_l_great_7ce3 : Array (Option Value)}
    (a_l_great_7ce3 : PySem.W.nsIn K mainGlobals "_law_great" = some (some (.ref f_l_great_7ce3))) (l_l_great_7ce3 : K.lookup f_l_great_7ce3 = some ⟨oc_l_great_7ce3, od_l_great_7ce3, .func (PySem.W.fnOf "_law_great" "_law_great" (defArgs s_l_great_7ce3) (defBody s_l_great_7ce3) (defScope s_l_great_7ce3) .none kV_l_great_7ce3 dc_l_great_7ce3 pm_l_great_7ce3 an_l_great_7ce3 cd_l_great_7ce3 ct_l_great_7ce3), sl_l_great_7ce3⟩) (e_l_great_7ce3 : PySem.W.codeIn K cd_l_great_7ce3 "_law_great" = true) (k_l_great_7ce3 : PySem.W.keepIn K (.ref f_l_great_7ce3) = true)
    {f_l_great_right_fd0d : Addr} {oc_l_great_right_fd0d kV_l_great_right_fd0d dc_l_great_right_fd0d pm_l_great_right_fd0d cd_l_great_right_fd0d ct_l_great_right_fd0d : Value} {od_l_great_right_fd0d an_l_great_right_fd0d : Option Addr} {sl_l_great_right_fd0d : Array (Option Value)}
    (a_l_great_right_fd0d : PySem.W.nsIn K mainGlobals "_law_great_right" = some (some (.ref f_l_great_right_fd0d))) (l_l_great_right_fd0d : K.lookup f_l_great_right_fd0d = some ⟨oc_l_great_right_fd0d, od_l_great_right_fd0d, .func (PySem.W.fnOf "_law_great_right" "_law_great_right" (defArgs s_l_great_right_fd0d) (defBody s_l_great_right_fd0d) (defScope s_l_great_right_fd0d) .none kV_l_great_right_fd0d dc_l_great_right_fd0d pm_l_great_right_fd0d an_l_great_right_fd0d cd_l_great_right_fd0d ct_l_great_right_fd0d), sl_l_great_right_fd0d⟩) (e_l_great_right_fd0d : PySem.W.codeIn K cd_l_great_right_fd0d "_law_great_right" = true) (k_l_great_right_fd0d : PySem.W.keepIn K (.ref f_l_great_right_fd0d) = true)
    {f_l_right_605e : Addr} {oc_l_right_605e kV_l_right_605e dc_l_right_605e pm_l_right_605e cd_l_right_605e ct_l_right_605e : Value} {od_l_right_605e an_l_right_605e : Option Addr} {sl_l_right_605e : Array (Option Value)}
    (a_l_right_605e : PySem.W.nsIn K mainGlobals "_law_right" = some (some (.ref f_l_right_605e))) (l_l_right_605e : K.lookup f_l_right_605e = some ⟨oc_l_right_605e, od_l_right_605e, .func (PySem.W.fnOf "_law_right" "_law_right" (defArgs s_l_right_605e) (defBody s_l_right_605e) (defScope s_l_right_605e) .none kV_l_right_605e dc_l_right_605e pm_l_right_605e an_l_right_605e cd_l_right_605e ct_l_right_605e), sl_l_right_605e⟩) (e_l_right_605e : PySem.W.codeIn K cd_l_right_605e "_law_right" = true) (k_l_right_605e : PySem.W.keepIn K (.ref f_l_right_605e) = true)
    {f_l_squares_right_3d47 : Addr} {oc_l_squares_right_3d47 kV_l_squares_right_3d47 dc_l_squares_right_3d47 pm_l_squares_right_3d47 cd_l_squares_right_3d47 ct_l_squares_right_3d47 : Value} {od_l_squares_right_3d47 an_l_squares_right_3d47 : Option Addr} {sl_l_squares_right_3d47 : Array (Option Value)}
    (a_l_squares_right_3d47 : PySem.W.nsIn K mainGlobals "_law_squares_right" = some (some (.ref f_l_squares_right_3d47))) (l_l_squares_right_3d47 : K.lookup f_l_squares_right_3d47 = some ⟨oc_l_squares_right_3d47, od_l_squares_right_3d47, .func (PySem.W.fnOf "_law_squares_right" "_law_squares_right" (defArgs s_l_squares_right_3d47) (defBody s_l_squares_right_3d47) (defScope s_l_squares_right_3d47) .none kV_l_squares_right_3d47 dc_l_squares_right_3d47 pm_l_squares_right_3d47 an_l_squares_right_3d47 cd_l_squares_right_3d47 ct_l_squares_right_3d47), sl_l_squares_right_3d47⟩) (e_l_squares_right_3d47 : PySem.W.codeIn K cd_l_squares_right_3d47 "_law_squares_right" = true) (k_l_squares_right_3d47 : PySem.W.keepIn K (.ref f_l_squares_right_3d47) = true)
    {f_l_law_f635 : Addr} {oc_l_law_f635 kV_l_law_f635 dc_l_law_f635 pm_l_law_f635 cd_l_law_f635 ct_l_law_f635 : Value} {od_l_law_f635 an_l_law_f635 : Option Addr} {sl_l_law_f635 : Array (Option Value)}
    (a_l_law_f635 : PySem.W.nsIn K mainGlobals "law" = some (some (.ref f_l_law_f635))) (l_l_law_f635 : K.lookup f_l_law_f635 = some ⟨oc_l_law_f635, od_l_law_f635, .func (PySem.W.fnOf "law" "law" (defArgs s_l_law_f635) (defBody s_l_law_f635) (defScope s_l_law_f635) .none kV_l_law_f635 dc_l_law_f635 pm_l_law_f635 an_l_law_f635 cd_l_law_f635 ct_l_law_f635), sl_l_law_f635⟩) (e_l_law_f635 : PySem.W.codeIn K cd_l_law_f635 "law" = true) (k_l_law_f635 : PySem.W.keepIn K (.ref f_l_law_f635) = true)
    (base : Heap) (Xb : K.In base) : Txt K mg base where
  n_abs := PySem.W.mg_none_of X G n_abs
  n_bool := PySem.W.mg_none_of X G n_bool
  n_dict := PySem.W.mg_none_of X G n_dict
  n_int := PySem.W.mg_none_of X G n_int
  n_isinstance := PySem.W.mg_none_of X G n_isinstance
  n_len := PySem.W.mg_none_of X G n_len
  n_max := PySem.W.mg_none_of X G n_max
  n_range := PySem.W.mg_none_of X G n_range
  n_repr := PySem.W.mg_none_of X G n_repr
  n_sorted := PySem.W.mg_none_of X G n_sorted
  n_sum := PySem.W.mg_none_of X G n_sum
  n_tuple := PySem.W.mg_none_of X G n_tuple
  h_l_hash_d8d1 := here_of (st := s_l_hash_d8d1) X G a_l_hash_d8d1 l_l_hash_d8d1 e_l_hash_d8d1 k_l_hash_d8d1 fun _ _ _ _ _ _ us hl => match us, hl with | [_, _], _ => rfl
  h_l_random_8926 := here_of (st := s_l_random_8926) X G a_l_random_8926 l_l_random_8926 e_l_random_8926 k_l_random_8926 fun _ _ _ _ _ _ us hl => match us, hl with | [_, _], _ => rfl
  h_l_turn_a0b1 := here_of (st := s_l_turn_a0b1) X G a_l_turn_a0b1 l_l_turn_a0b1 e_l_turn_a0b1 k_l_turn_a0b1 fun _ _ _ _ _ _ us hl => match us, hl with | [_], _ => rfl
  h_l_sides_697d := here_of (st := s_l_sides_697d) X G a_l_sides_697d l_l_sides_697d e_l_sides_697d k_l_sides_697d fun _ _ _ _ _ _ us hl => match us, hl with | [_, _], _ => rfl
  h_l_common_2228 := here_of (st := s_l_common_2228) X G a_l_common_2228 l_l_common_2228 e_l_common_2228 k_l_common_2228 fun _ _ _ _ _ _ us hl => match us, hl with | [_, _], _ => rfl
  h_l_done_d2e5 := here_of (st := s_l_done_d2e5) X G a_l_done_d2e5 l_l_done_d2e5 e_l_done_d2e5 k_l_done_d2e5 fun _ _ _ _ _ _ us hl => match us, hl with | [_, _], _ => rfl
  h_l_led_9b7a := here_of (st := s_l_led_9b7a) X G a_l_led_9b7a l_l_led_9b7a e_l_led_9b7a k_l_led_9b7a fun _ _ _ _ _ _ us hl => match us, hl with | [_, _], _ => rfl
  h_l_tens_a574 := here_of (st := s_l_tens_a574) X G a_l_tens_a574 l_l_tens_a574 e_l_tens_a574 k_l_tens_a574 fun _ _ _ _ _ _ us hl => match us, hl with | [_], _ => rfl
  h_l_some_deed_eb4d := here_of (st := s_l_some_deed_eb4d) X G a_l_some_deed_eb4d l_l_some_deed_eb4d e_l_some_deed_eb4d k_l_some_deed_eb4d fun _ _ _ _ _ _ us hl => match us, hl with | [_, _], _ => rfl
  h_l_some_word_3bfd := here_of (st := s_l_some_word_3bfd) X G a_l_some_word_3bfd l_l_some_word_3bfd e_l_some_word_3bfd k_l_some_word_3bfd fun _ _ _ _ _ _ us hl => match us, hl with | [_, _, _], _ => rfl
  h_is_whole := here_of (st := s_is_whole) X G a_is_whole l_is_whole e_is_whole k_is_whole fun _ _ _ _ _ _ us hl => match us, hl with | [_], _ => rfl
  h_common_by := here_of (st := s_common_by) X G a_common_by l_common_by e_common_by k_common_by fun _ _ _ _ _ _ us hl => match us, hl with | [_, _], _ => rfl
  h_is_cutting_by := here_of (st := s_is_cutting_by) X G a_is_cutting_by l_is_cutting_by e_is_cutting_by k_is_cutting_by fun _ _ _ _ _ _ us hl => match us, hl with | [_], _ => rfl
  h_check_cutting := here_of (st := s_check_cutting) X G a_check_cutting l_check_cutting e_check_cutting k_check_cutting fun _ _ _ _ _ _ us hl => match us, hl with | [_], _ => rfl
  h_measure_by := here_of (st := s_measure_by) X G a_measure_by l_measure_by e_measure_by k_measure_by fun _ _ _ _ _ _ us hl => match us, hl with | [_], _ => rfl
  h_is_signed := here_of (st := s_is_signed) X G a_is_signed l_is_signed e_is_signed k_is_signed fun _ _ _ _ _ _ us hl => match us, hl with | [_], _ => rfl
  h_root_floor_by := here_of (st := s_root_floor_by) X G a_root_floor_by l_root_floor_by e_root_floor_by k_root_floor_by fun _ _ _ _ _ _ us hl => match us, hl with | [_], _ => rfl
  h_square_part_by := here_of (st := s_square_part_by) X G a_square_part_by l_square_part_by e_square_part_by k_square_part_by fun _ _ _ _ _ _ us hl => match us, hl with | [_], _ => rfl
  h_factor_by := here_of (st := s_factor_by) X G a_factor_by l_factor_by e_factor_by k_factor_by fun _ _ _ _ _ _ us hl => match us, hl with | [_], _ => rfl
  h_turn_by := here_of (st := s_turn_by) X G a_turn_by l_turn_by e_turn_by k_turn_by fun _ _ _ _ _ _ us hl => match us, hl with | [_], _ => rfl
  h_sign_by := here_of (st := s_sign_by) X G a_sign_by l_sign_by e_sign_by k_sign_by fun _ _ _ _ _ _ us hl => match us, hl with | [_], _ => rfl
  h_sign := here_of (st := s_sign) X G a_sign l_sign e_sign k_sign fun _ _ _ _ _ _ us hl => match us, hl with | [_], _ => rfl
  h_l_far_right_6012 := here_of (st := s_l_far_right_6012) X G a_l_far_right_6012 l_l_far_right_6012 e_l_far_right_6012 k_l_far_right_6012 fun _ _ _ _ _ _ us hl => match us, hl with | [_], _ => rfl
  h_l_cell_cf3b := here_of (st := s_l_cell_cf3b) X G a_l_cell_cf3b l_l_cell_cf3b e_l_cell_cf3b k_l_cell_cf3b fun _ _ _ _ _ _ us hl => match us, hl with | [_, _], _ => rfl
  h_l_generator_b324 := here_of (st := s_l_generator_b324) X G a_l_generator_b324 l_l_generator_b324 e_l_generator_b324 k_l_generator_b324 fun _ _ _ _ _ _ us hl => match us, hl with | [_, _], _ => rfl
  h_l_is_cutting_5bf1 := here_of (st := s_l_is_cutting_5bf1) X G a_l_is_cutting_5bf1 l_l_is_cutting_5bf1 e_l_is_cutting_5bf1 k_l_is_cutting_5bf1 fun _ _ _ _ _ _ us hl => match us, hl with | [_], _ => rfl
  h_l_cuttings_78a4 := here_of (st := s_l_cuttings_78a4) X G a_l_cuttings_78a4 l_l_cuttings_78a4 e_l_cuttings_78a4 k_l_cuttings_78a4 fun _ _ _ _ _ _ us hl => match us, hl with | [_], _ => rfl
  h_l_measure_919a := here_of (st := s_l_measure_919a) X G a_l_measure_919a l_l_measure_919a e_l_measure_919a k_l_measure_919a fun _ _ _ _ _ _ us hl => match us, hl with | [_], _ => rfl
  h_l_signed_630a := here_of (st := s_l_signed_630a) X G a_l_signed_630a l_l_signed_630a e_l_signed_630a k_l_signed_630a fun _ _ _ _ _ _ us hl => match us, hl with | [_], _ => rfl
  h_l_sign_3b1d := here_of (st := s_l_sign_3b1d) X G a_l_sign_3b1d l_l_sign_3b1d e_l_sign_3b1d k_l_sign_3b1d fun _ _ _ _ _ _ us hl => match us, hl with | [_], _ => rfl
  h_l_deeds_d0dc := here_of (st := s_l_deeds_d0dc) X G a_l_deeds_d0dc l_l_deeds_d0dc e_l_deeds_d0dc k_l_deeds_d0dc fun _ _ _ _ _ _ us hl => match us, hl with | [_], _ => rfl
  h_l_some_measure_bbc9 := here_of (st := s_l_some_measure_bbc9) X G a_l_some_measure_bbc9 l_l_some_measure_bbc9 e_l_some_measure_bbc9 k_l_some_measure_bbc9 fun _ _ _ _ _ _ us hl => match us, hl with | [_, _], _ => rfl
  h_l_great_7ce3 := here_of (st := s_l_great_7ce3) X G a_l_great_7ce3 l_l_great_7ce3 e_l_great_7ce3 k_l_great_7ce3 fun _ _ _ _ _ _ us hl => match us, hl with | [_, _], _ => rfl
  h_l_great_right_fd0d := here_of (st := s_l_great_right_fd0d) X G a_l_great_right_fd0d l_l_great_right_fd0d e_l_great_right_fd0d k_l_great_right_fd0d fun _ _ _ _ _ _ us hl => match us, hl with | [_], _ => rfl
  h_l_right_605e := here_of (st := s_l_right_605e) X G a_l_right_605e l_l_right_605e e_l_right_605e k_l_right_605e fun _ _ _ _ _ _ us hl => match us, hl with | [_], _ => rfl
  h_l_squares_right_3d47 := here_of (st := s_l_squares_right_3d47) X G a_l_squares_right_3d47 l_l_squares_right_3d47 e_l_squares_right_3d47 k_l_squares_right_3d47 fun _ _ _ _ _ _ us hl => match us, hl with | [_], _ => rfl
  h_l_law_f635 := here_of (st := s_l_law_f635) X G a_l_law_f635 l_l_law_f635 e_l_law_f635 k_l_law_f635 fun _ _ _ _ _ _ us hl => match us, hl with | [_], _ => rfl
end C_k20
open PySem PySem.W PyProof.Rows
set_option maxHeartbeats 0 in
theorem PySem.Challenge.cw_slitsheets_k20_whole_signs_kept_holds : PySem.Challenge.rw_slitsheets_k20_whole_signs_kept.Holds := by
  w_on; o_law; k_head; (case hw => w_witness2)
  k_fill
  refine DL.walkD (l := PySem.Challenge.rw_slitsheets_k20_whole_signs_kept) (n := 63) (k := 8) (x := "_law_script") (st := C_k20.s_l_law_f635) rfl (by decide) rfl ⟨rfl, by decide, by decide⟩ (fun w h Y => PySem.W.kIn_of Y) ?F (fun _ _ _ _ _ _ _ => rfl)
  case F =>
    intro w mg h KX G base Xb Gb
    refine' C_k20.law_ok (C_k20.all_mk KX G ?n_abs ?n_bool ?n_dict ?n_int ?n_isinstance ?n_len ?n_max ?n_range ?n_repr ?n_sorted ?n_sum ?n_tuple ?a_l_hash_d8d1 ?l_l_hash_d8d1 ?e_l_hash_d8d1 ?k_l_hash_d8d1 ?a_l_random_8926 ?l_l_random_8926 ?e_l_random_8926 ?k_l_random_8926 ?a_l_turn_a0b1 ?l_l_turn_a0b1 ?e_l_turn_a0b1 ?k_l_turn_a0b1 ?a_l_sides_697d ?l_l_sides_697d ?e_l_sides_697d ?k_l_sides_697d ?a_l_common_2228 ?l_l_common_2228 ?e_l_common_2228 ?k_l_common_2228 ?a_l_done_d2e5 ?l_l_done_d2e5 ?e_l_done_d2e5 ?k_l_done_d2e5 ?a_l_led_9b7a ?l_l_led_9b7a ?e_l_led_9b7a ?k_l_led_9b7a ?a_l_tens_a574 ?l_l_tens_a574 ?e_l_tens_a574 ?k_l_tens_a574 ?a_l_some_deed_eb4d ?l_l_some_deed_eb4d ?e_l_some_deed_eb4d ?k_l_some_deed_eb4d ?a_l_some_word_3bfd ?l_l_some_word_3bfd ?e_l_some_word_3bfd ?k_l_some_word_3bfd ?a_is_whole ?l_is_whole ?e_is_whole ?k_is_whole ?a_common_by ?l_common_by ?e_common_by ?k_common_by ?a_is_cutting_by ?l_is_cutting_by ?e_is_cutting_by ?k_is_cutting_by ?a_check_cutting ?l_check_cutting ?e_check_cutting ?k_check_cutting ?a_measure_by ?l_measure_by ?e_measure_by ?k_measure_by ?a_is_signed ?l_is_signed ?e_is_signed ?k_is_signed ?a_root_floor_by ?l_root_floor_by ?e_root_floor_by ?k_root_floor_by ?a_square_part_by ?l_square_part_by ?e_square_part_by ?k_square_part_by ?a_factor_by ?l_factor_by ?e_factor_by ?k_factor_by ?a_turn_by ?l_turn_by ?e_turn_by ?k_turn_by ?a_sign_by ?l_sign_by ?e_sign_by ?k_sign_by ?a_sign ?l_sign ?e_sign ?k_sign ?a_l_far_right_6012 ?l_l_far_right_6012 ?e_l_far_right_6012 ?k_l_far_right_6012 ?a_l_cell_cf3b ?l_l_cell_cf3b ?e_l_cell_cf3b ?k_l_cell_cf3b ?a_l_generator_b324 ?l_l_generator_b324 ?e_l_generator_b324 ?k_l_generator_b324 ?a_l_is_cutting_5bf1 ?l_l_is_cutting_5bf1 ?e_l_is_cutting_5bf1 ?k_l_is_cutting_5bf1 ?a_l_cuttings_78a4 ?l_l_cuttings_78a4 ?e_l_cuttings_78a4 ?k_l_cuttings_78a4 ?a_l_measure_919a ?l_l_measure_919a ?e_l_measure_919a ?k_l_measure_919a ?a_l_signed_630a ?l_l_signed_630a ?e_l_signed_630a ?k_l_signed_630a ?a_l_sign_3b1d ?l_l_sign_3b1d ?e_l_sign_3b1d ?k_l_sign_3b1d ?a_l_deeds_d0dc ?l_l_deeds_d0dc ?e_l_deeds_d0dc ?k_l_deeds_d0dc ?a_l_some_measure_bbc9 ?l_l_some_measure_bbc9 ?e_l_some_measure_bbc9 ?k_l_some_measure_bbc9 ?a_l_great_7ce3 ?l_l_great_7ce3 ?e_l_great_7ce3 ?k_l_great_7ce3 ?a_l_great_right_fd0d ?l_l_great_right_fd0d ?e_l_great_right_fd0d ?k_l_great_right_fd0d ?a_l_right_605e ?l_l_right_605e ?e_l_right_605e ?k_l_right_605e ?a_l_squares_right_3d47 ?l_l_squares_right_3d47 ?e_l_squares_right_3d47 ?k_l_squares_right_3d47 ?a_l_law_f635 ?l_l_law_f635 ?e_l_law_f635 ?k_l_law_f635 base Xb)
    (case n_abs => k_is)
    (case n_bool => k_is)
    (case n_dict => k_is)
    (case n_int => k_is)
    (case n_isinstance => k_is)
    (case n_len => k_is)
    (case n_max => k_is)
    (case n_range => k_is)
    (case n_repr => k_is)
    (case n_sorted => k_is)
    (case n_sum => k_is)
    (case n_tuple => k_is)
    (case a_l_hash_d8d1 => k_is)
    (case l_l_hash_d8d1 => k_is)
    (case e_l_hash_d8d1 => k_is)
    (case k_l_hash_d8d1 => k_is)
    (case a_l_random_8926 => k_is)
    (case l_l_random_8926 => k_is)
    (case e_l_random_8926 => k_is)
    (case k_l_random_8926 => k_is)
    (case a_l_turn_a0b1 => k_is)
    (case l_l_turn_a0b1 => k_is)
    (case e_l_turn_a0b1 => k_is)
    (case k_l_turn_a0b1 => k_is)
    (case a_l_sides_697d => k_is)
    (case l_l_sides_697d => k_is)
    (case e_l_sides_697d => k_is)
    (case k_l_sides_697d => k_is)
    (case a_l_common_2228 => k_is)
    (case l_l_common_2228 => k_is)
    (case e_l_common_2228 => k_is)
    (case k_l_common_2228 => k_is)
    (case a_l_done_d2e5 => k_is)
    (case l_l_done_d2e5 => k_is)
    (case e_l_done_d2e5 => k_is)
    (case k_l_done_d2e5 => k_is)
    (case a_l_led_9b7a => k_is)
    (case l_l_led_9b7a => k_is)
    (case e_l_led_9b7a => k_is)
    (case k_l_led_9b7a => k_is)
    (case a_l_tens_a574 => k_is)
    (case l_l_tens_a574 => k_is)
    (case e_l_tens_a574 => k_is)
    (case k_l_tens_a574 => k_is)
    (case a_l_some_deed_eb4d => k_is)
    (case l_l_some_deed_eb4d => k_is)
    (case e_l_some_deed_eb4d => k_is)
    (case k_l_some_deed_eb4d => k_is)
    (case a_l_some_word_3bfd => k_is)
    (case l_l_some_word_3bfd => k_is)
    (case e_l_some_word_3bfd => k_is)
    (case k_l_some_word_3bfd => k_is)
    (case a_is_whole => k_is)
    (case l_is_whole => k_is)
    (case e_is_whole => k_is)
    (case k_is_whole => k_is)
    (case a_common_by => k_is)
    (case l_common_by => k_is)
    (case e_common_by => k_is)
    (case k_common_by => k_is)
    (case a_is_cutting_by => k_is)
    (case l_is_cutting_by => k_is)
    (case e_is_cutting_by => k_is)
    (case k_is_cutting_by => k_is)
    (case a_check_cutting => k_is)
    (case l_check_cutting => k_is)
    (case e_check_cutting => k_is)
    (case k_check_cutting => k_is)
    (case a_measure_by => k_is)
    (case l_measure_by => k_is)
    (case e_measure_by => k_is)
    (case k_measure_by => k_is)
    (case a_is_signed => k_is)
    (case l_is_signed => k_is)
    (case e_is_signed => k_is)
    (case k_is_signed => k_is)
    (case a_root_floor_by => k_is)
    (case l_root_floor_by => k_is)
    (case e_root_floor_by => k_is)
    (case k_root_floor_by => k_is)
    (case a_square_part_by => k_is)
    (case l_square_part_by => k_is)
    (case e_square_part_by => k_is)
    (case k_square_part_by => k_is)
    (case a_factor_by => k_is)
    (case l_factor_by => k_is)
    (case e_factor_by => k_is)
    (case k_factor_by => k_is)
    (case a_turn_by => k_is)
    (case l_turn_by => k_is)
    (case e_turn_by => k_is)
    (case k_turn_by => k_is)
    (case a_sign_by => k_is)
    (case l_sign_by => k_is)
    (case e_sign_by => k_is)
    (case k_sign_by => k_is)
    (case a_sign => k_is)
    (case l_sign => k_is)
    (case e_sign => k_is)
    (case k_sign => k_is)
    (case a_l_far_right_6012 => k_is)
    (case l_l_far_right_6012 => k_is)
    (case e_l_far_right_6012 => k_is)
    (case k_l_far_right_6012 => k_is)
    (case a_l_cell_cf3b => k_is)
    (case l_l_cell_cf3b => k_is)
    (case e_l_cell_cf3b => k_is)
    (case k_l_cell_cf3b => k_is)
    (case a_l_generator_b324 => k_is)
    (case l_l_generator_b324 => k_is)
    (case e_l_generator_b324 => k_is)
    (case k_l_generator_b324 => k_is)
    (case a_l_is_cutting_5bf1 => k_is)
    (case l_l_is_cutting_5bf1 => k_is)
    (case e_l_is_cutting_5bf1 => k_is)
    (case k_l_is_cutting_5bf1 => k_is)
    (case a_l_cuttings_78a4 => k_is)
    (case l_l_cuttings_78a4 => k_is)
    (case e_l_cuttings_78a4 => k_is)
    (case k_l_cuttings_78a4 => k_is)
    (case a_l_measure_919a => k_is)
    (case l_l_measure_919a => k_is)
    (case e_l_measure_919a => k_is)
    (case k_l_measure_919a => k_is)
    (case a_l_signed_630a => k_is)
    (case l_l_signed_630a => k_is)
    (case e_l_signed_630a => k_is)
    (case k_l_signed_630a => k_is)
    (case a_l_sign_3b1d => k_is)
    (case l_l_sign_3b1d => k_is)
    (case e_l_sign_3b1d => k_is)
    (case k_l_sign_3b1d => k_is)
    (case a_l_deeds_d0dc => k_is)
    (case l_l_deeds_d0dc => k_is)
    (case e_l_deeds_d0dc => k_is)
    (case k_l_deeds_d0dc => k_is)
    (case a_l_some_measure_bbc9 => k_is)
    (case l_l_some_measure_bbc9 => k_is)
    (case e_l_some_measure_bbc9 => k_is)
    (case k_l_some_measure_bbc9 => k_is)
    (case a_l_great_7ce3 => k_is)
    (case l_l_great_7ce3 => k_is)
    (case e_l_great_7ce3 => k_is)
    (case k_l_great_7ce3 => k_is)
    (case a_l_great_right_fd0d => k_is)
    (case l_l_great_right_fd0d => k_is)
    (case e_l_great_right_fd0d => k_is)
    (case k_l_great_right_fd0d => k_is)
    (case a_l_right_605e => k_is)
    (case l_l_right_605e => k_is)
    (case e_l_right_605e => k_is)
    (case k_l_right_605e => k_is)
    (case a_l_squares_right_3d47 => k_is)
    (case l_l_squares_right_3d47 => k_is)
    (case e_l_squares_right_3d47 => k_is)
    (case k_l_squares_right_3d47 => k_is)
    (case a_l_law_f635 => k_is)
    (case l_l_law_f635 => k_is)
    (case e_l_law_f635 => k_is)
    (case k_l_law_f635 => k_is)
