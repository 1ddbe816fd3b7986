import PyProof.Rows.All
import Wide.All
import OpenK.AllK
import Wide.FinOn
import HandS.ForMost
import HandS.Wide
import HandS.Flow
import HandS.Style
import HandS.Deep
import HandS.TupAny
import HandS.NoneIn
import HandS.IsInst
import HandS.WideBits
import HandS.Gcd
import HandS.Conv
import HandS.Zip
import HandS.SortRule
import HandS.SortInts
import KE.KSortTupAny
import PySem.Challenge.RW_slitsheets_k13_whole_deeds_judged_and_li
set_option Elab.async false
set_option linter.all false
set_option maxRecDepth 100000
set_option maxHeartbeats 4000000
/-! DL1: data D, what represents it, the state of a def as plain data, the judgements -/
namespace DL
open PySem PySem.Spec PyProof.Rows L2

inductive D where
  | non
  | bl (b : Bool)
  | int (i : Int)
  | str (x : Str)
  | tup (l : List D)
  | lst (l : List D)
  | dct0
  | scr (ns : List Int)
  | own (k : Nat)
  | exc (C : Addr) (d : D)
  | val (v : V)

abbrev St := L2.St
abbrev Env := List (Option D)
inductive Own where
  | lst (ds : List D)
  | dead
abbrev Mem := List Own

/-- where the owned cells stand; the lists that are being made out of sight -/
structure Ph where
  cells : List Addr
  hid : List (Addr × HO)
abbrev Ph.add (ph : Ph) (p : Addr) : Ph := { ph with cells := ph.cells ++ [p] }
abbrev Ph.cut (ph : Ph) (n : Nat) : Ph := { ph with cells := ph.cells.take n }
/-- an exception object of the class at C with its own dict at dd -/
def ExcAt (a C dd : Addr) (h : Heap) : Prop := ∃ vs, h.get? a = some { cls := .ref C, dict := some dd, data := .fields vs }
abbrev fVal : Str := "value"
mutual
inductive Rep (K : PySem.W.Frag) (ph : Ph) (S : Hp) : V → D → Prop
  | non : Rep K ph S .non .non
  | bl (b : Bool) : Rep K ph S (.bl b) (.bl b)
  | int (i : Int) : Rep K ph S (.int i) (.int i)
  | str (x : Str) : Rep K ph S (.str x) (.str x)
  | tup {a : Addr} {xs : List V} {ds : List D} : S a = some (.tup xs) → RepAll K ph S xs ds → Rep K ph S (.ref a) (.tup ds)
  | lst {a : Addr} {xs : List V} {ds : List D} : S a = some (.lst xs) → RepAll K ph S xs ds → Rep K ph S (.ref a) (.lst ds)
  | scr {a : Addr} {ns : List Int} : SqL K S a (ns.map V.int) → Rep K ph S (.ref a) (.scr ns)
  | dct0 {a : Addr} : S a = some (.dK []) → Rep K ph S (.ref a) .dct0
  | own {a : Addr} {k : Nat} : ph.cells[k]? = some a → Rep K ph S (.ref a) (.own k)
  | exc {a C dd : Addr} {v : V} {d : D} : S a = some (.ext (ExcAt a C dd)) → S dd = some (.xd [(fVal, v)]) → Rep K ph S v d → Rep K ph S (.ref a) (.exc C d)
  | val (v : V) : Rep K ph S v (.val v)
inductive RepAll (K : PySem.W.Frag) (ph : Ph) (S : Hp) : List V → List D → Prop
  | nil : RepAll K ph S [] []
  | cons {v : V} {vs : List V} {d : D} {ds : List D} : Rep K ph S v d → RepAll K ph S vs ds → RepAll K ph S (v :: vs) (d :: ds)
end

structure Ext (ph : Ph) (S : Hp) (ph' : Ph) (S' : Hp) : Prop where
  pre : ∀ (k : Nat) (a : Addr), ph.cells[k]? = some a → ph'.cells[k]? = some a
  same : Same S S'
  hid : ph'.hid = ph.hid
theorem Ext.refl {ph : Ph} {S : Hp} : Ext ph S ph S := ⟨fun _ _ h => h, fun _ _ h => h, rfl⟩
theorem Ext.trans {ph ph1 ph2 : Ph} {S S1 S2 : Hp} (a : Ext ph S ph1 S1) (b : Ext ph1 S1 ph2 S2) : Ext ph S ph2 S2 :=
  ⟨fun k x h => b.pre k x (a.pre k x h), a.same.trans b.same, b.hid.trans a.hid⟩
section
variable {K : PySem.W.Frag} {ph ph' : Ph} {S S' : Hp}
mutual
theorem Rep.ext (x : Ext ph S ph' S') : ∀ (d : D) (v : V), Rep K ph S v d → Rep K ph' S' v d
  | .non, _, h => by cases h; exact .non
  | .bl _, _, h => by cases h; exact .bl _
  | .int _, _, h => by cases h; exact .int _
  | .str _, _, h => by cases h; exact .str _
  | .tup ds, _, h => by
    cases h with
    | tup h1 h2 => exact .tup (x.same _ _ h1) (RepAll.ext x ds _ h2)
  | .lst ds, _, h => by
    cases h with
    | lst h1 h2 => exact .lst (x.same _ _ h1) (RepAll.ext x ds _ h2)
  | .dct0, _, h => by
    cases h with
    | dct0 h1 => exact .dct0 (x.same _ _ h1)
  | .scr ns, _, h => by
    cases h with
    | scr h1 => exact .scr (x.same.seq h1)
  | .own k, _, h => by
    cases h with
    | own h1 => exact .own (x.pre _ _ h1)
  | .exc C d, _, h => by
    cases h with
    | exc h1 h2 h3 => exact .exc (x.same _ _ h1) (x.same _ _ h2) (Rep.ext x d _ h3)
  | .val v, _, h => by cases h; exact .val _
theorem RepAll.ext (x : Ext ph S ph' S') : ∀ (ds : List D) (vs : List V), RepAll K ph S vs ds → RepAll K ph' S' vs ds
  | [], _, h => by cases h; exact .nil
  | d :: ds, _, h => by
    cases h with
    | cons h1 h2 => exact .cons (Rep.ext x d _ h1) (RepAll.ext x ds _ h2)
end
theorem Rep.up {d : D} {v : V} (h : Rep K ph S v d) (x : Ext ph S ph' S') : Rep K ph' S' v d := Rep.ext x d v h
theorem RepAll.up {ds : List D} {vs : List V} (h : RepAll K ph S vs ds) (x : Ext ph S ph' S') : RepAll K ph' S' vs ds := RepAll.ext x ds vs h
theorem RepAll.len : ∀ {vs : List V} {ds : List D}, RepAll K ph S vs ds → vs.length = ds.length
  | _, _, .nil => rfl
  | _, _, .cons _ t => by rw [List.length_cons, List.length_cons, RepAll.len t]
theorem RepAll.get : ∀ {vs : List V} {ds : List D} {i : Nat} {d : D}, RepAll K ph S vs ds → ds[i]? = some d → ∃ v, vs[i]? = some v ∧ Rep K ph S v d
  | _, _, _, _, .nil, e => by simp at e
  | _, _, 0, _, .cons r _, e => by simp at e; subst e; exact ⟨_, rfl, r⟩
  | _, _, i + 1, _, .cons _ t, e => by
    obtain ⟨v, e1, r⟩ := RepAll.get (i := i) t (by simpa using e)
    exact ⟨v, by simpa using e1, r⟩
theorem RepAll.getV : ∀ {vs : List V} {ds : List D} {i : Nat} {v : V}, RepAll K ph S vs ds → vs[i]? = some v → ∃ d, ds[i]? = some d ∧ Rep K ph S v d
  | _, _, _, _, .nil, e => by simp at e
  | _, _, 0, _, .cons r _, e => by simp at e; subst e; exact ⟨_, rfl, r⟩
  | _, _, i + 1, _, .cons _ t, e => by
    obtain ⟨v, e1, r⟩ := RepAll.getV (i := i) t (by simpa using e)
    exact ⟨v, by simpa using e1, r⟩
theorem RepAll.app : ∀ {vs ws : List V} {ds es : List D}, RepAll K ph S vs ds → RepAll K ph S ws es → RepAll K ph S (vs ++ ws) (ds ++ es)
  | _, _, _, _, .nil, q => q
  | _, _, _, _, .cons r t, q => .cons r (RepAll.app t q)
theorem RepAll.take : ∀ {vs : List V} {ds : List D} (n : Nat), RepAll K ph S vs ds → RepAll K ph S (vs.take n) (ds.take n)
  | _, _, 0, _ => .nil
  | _, _, _ + 1, .nil => .nil
  | _, _, n + 1, .cons r t => .cons r (RepAll.take n t)
theorem RepAll.drop : ∀ {vs : List V} {ds : List D} (n : Nat), RepAll K ph S vs ds → RepAll K ph S (vs.drop n) (ds.drop n)
  | _, _, 0, r => r
  | _, _, _ + 1, .nil => .nil
  | _, _, n + 1, .cons r t => RepAll.drop n t
theorem RepAll.rev : ∀ {vs : List V} {ds : List D}, RepAll K ph S vs ds → RepAll K ph S vs.reverse ds.reverse
  | _, _, .nil => .nil
  | _, _, .cons r t => by
    rw [List.reverse_cons, List.reverse_cons]
    exact (RepAll.rev t).app (.cons r .nil)
theorem RepAll.set {v : V} {d : D} (r : Rep K ph S v d) : ∀ {vs : List V} {ds : List D} (i : Nat), RepAll K ph S vs ds → RepAll K ph S (vs.set i v) (ds.set i d)
  | _, _, _, .nil => .nil
  | _, _, 0, .cons _ t => .cons r t
  | _, _, i + 1, .cons q t => .cons q (RepAll.set r i t)
theorem RepAll.rep {v : V} {d : D} (r : Rep K ph S v d) : ∀ n : Nat, RepAll K ph S (List.replicate n v) (List.replicate n d)
  | 0 => .nil
  | n + 1 => .cons r (RepAll.rep r n)
theorem RepAll.ints : ∀ ns : List Int, RepAll K ph S (ns.map V.int) (ns.map D.int)
  | [] => .nil
  | n :: ns => .cons (.int n) (RepAll.ints ns)
end

/-- the state (σ, H) is told by the names' data ρ and the owned cells M -/
structure Sat (K : PySem.W.Frag) (ph : Ph) (S : Hp) (r : Env) (M : Mem) (σ : St) (H : Hp) : Prop where
  sub : Same S H
  len : ph.cells.length = M.length
  nd : ph.cells.Nodup
  trk : ∀ (k : Nat) (a : Addr), ph.cells[k]? = some a → ∃ o, H a = some o
  cell : ∀ (k : Nat) (ds : List D), M[k]? = some (.lst ds) → ∃ a xs, ph.cells[k]? = some a ∧ S a = none ∧ H a = some (.lst xs) ∧ RepAll K ph S xs ds
  hid : ∀ p ∈ ph.hid, H p.1 = some p.2 ∧ S p.1 = none ∧ p.1 ∉ ph.cells
  hnd : (ph.hid.map (·.1)).Nodup
  el : r.length = σ.length
  env : ∀ (i : Nat) (d : D), r[i]? = some (some d) → ∃ v, σ[i]? = some (some v) ∧ Rep K ph S v d

abbrev DQ := D → Mem → Prop
abbrev DTE := Env → Mem → DQ → Prop
abbrev DTT := Env → Mem → (Bool → Mem → Prop) → Prop
abbrev DTA := Env → Mem → (List D → Mem → Prop) → Prop
structure DEnds where
  nx : Env → Mem → Prop
  rt : DQ
  bk : Env → Mem → Prop := fun _ _ => False
  ct : Env → Mem → Prop := fun _ _ => False
abbrev DTS := DEnds → Env → Mem → Prop

/-- behind a piece, from (ph, S): the state as it is then, and what is wanted of it -/
def Aft (K : PySem.W.Frag) (ph : Ph) (S : Hp) (r : Env) (σ : St) (H : Hp) (Q : Ph → Hp → Mem → Prop) : Prop :=
  ∃ ph' S' M, Ext ph S ph' S' ∧ Sat K ph' S' r M σ H ∧ Q ph' S' M
def post (K : PySem.W.Frag) (ph : Ph) (S : Hp) (r : Env) (σ : St) (Q : DQ) : VK := fun v H => Aft K ph S r σ H fun ph' S' M => ∃ d, Rep K ph' S' v d ∧ Q d M
def postT (K : PySem.W.Frag) (ph : Ph) (S : Hp) (r : Env) (σ : St) (Q : Bool → Mem → Prop) : Bool → Hp → Prop := fun b H => Aft K ph S r σ H fun _ _ M => Q b M
def postA (K : PySem.W.Frag) (ph : Ph) (S : Hp) (r : Env) (σ : St) (Q : List D → Mem → Prop) : List V → Hp → Prop := fun vs H => Aft K ph S r σ H fun ph' S' M => ∃ ds, RepAll K ph' S' vs ds ∧ Q ds M
def postN (K : PySem.W.Frag) (ph : Ph) (S : Hp) (Q : Env → Mem → Prop) : St → Hp → Prop := fun σ H => ∃ r, Aft K ph S r σ H fun _ _ M => Q r M
/-- behind a return the names are gone -/
def postR (K : PySem.W.Frag) (ph : Ph) (S : Hp) (Q : DQ) : VK := fun v H => ∃ r σ, post K ph S r σ Q v H
def ends (K : PySem.W.Frag) (ph : Ph) (S : Hp) (E : DEnds) : Ends where
  nx := postN K ph S E.nx
  rt := postR K ph S E.rt
  bk := postN K ph S E.bk
  ct := postN K ph S E.ct

structure DE (X : Cx) (e : Expr) (t : DTE) : Prop where
  pe : PE X e (fun σ H Q => ∃ ph S r M Q0, Sat X.K ph S r M σ H ∧ t r M Q0 ∧ ∀ v H', post X.K ph S r σ Q0 v H' → Q v H')
structure DT (X : Cx) (e : Expr) (t : DTT) : Prop where
  pt : PT X e (fun σ H Q => ∃ ph S r M Q0, Sat X.K ph S r M σ H ∧ t r M Q0 ∧ ∀ b H', postT X.K ph S r σ Q0 b H' → Q b H')
structure DW (X : Cx) (e : Expr) (t : DTT) : Prop where
  pw : PW X e (fun σ H Q => ∃ ph S r M Q0, Sat X.K ph S r M σ H ∧ t r M Q0 ∧ ∀ b H', postT X.K ph S r σ Q0 b H' → Q b H')
structure DA (X : Cx) (es : List Expr) (t : DTA) : Prop where
  pa : PA X es (fun σ H Q => ∃ ph S r M Q0, Sat X.K ph S r M σ H ∧ t r M Q0 ∧ ∀ vs H', postA X.K ph S r σ Q0 vs H' → Q vs H')
def lfS (K : PySem.W.Frag) (t : DTS) : TS := fun E σ H => ∃ ph S r M E0, Sat K ph S r M σ H ∧ t E0 r M ∧ (∀ σ' H', postN K ph S E0.nx σ' H' → E.nx σ' H') ∧ (∀ v H', postR K ph S E0.rt v H' → E.rt v H') ∧ (∀ σ' H', postN K ph S E0.bk σ' H' → E.bk σ' H') ∧ (∀ σ' H', postN K ph S E0.ct σ' H' → E.ct σ' H')
structure DS (X : Cx) (st : Stmt) (t : DTS) : Prop where
  ps : PS X st (lfS X.K t)
structure DSs (X : Cx) (sts : List Stmt) (t : DTS) : Prop where
  pss : PSs X sts (lfS X.K t)

/-! ### weakening the hand layer's judgements -/
section
variable {X : Cx}
theorem PE.weak {e : Expr} {t t' : TE} (h : PE X e t) (w : ∀ σ H Q, t' σ H Q → t σ H Q) : PE X e t' := ⟨fun pins s σ H Q I q => h.run pins s σ H Q I (w _ _ _ q)⟩
theorem PT.weak {e : Expr} {t t' : TT} (h : PT X e t) (w : ∀ σ H Q, t' σ H Q → t σ H Q) : PT X e t' := ⟨fun pins s σ H Q I q => h.run pins s σ H Q I (w _ _ _ q)⟩
theorem PW.weak {e : Expr} {t t' : TT} (h : PW X e t) (w : ∀ σ H Q, t' σ H Q → t σ H Q) : PW X e t' := ⟨fun wh pins s σ H Q I q => h.run wh pins s σ H Q I (w _ _ _ q)⟩
theorem PA.weak {e : List Expr} {t t' : TA} (h : PA X e t) (w : ∀ σ H Q, t' σ H Q → t σ H Q) : PA X e t' := ⟨fun pos pins s σ H Q I q => h.run pos pins s σ H Q I (w _ _ _ q)⟩
theorem PS.weak {e : Stmt} {t t' : TS} (h : PS X e t) (w : ∀ E σ H, t' E σ H → t E σ H) : PS X e t' := ⟨fun pins s σ H Q I q => h.run pins s σ H Q I (w _ _ _ q)⟩
theorem PSs.weak {e : List Stmt} {t t' : TS} (h : PSs X e t) (w : ∀ E σ H, t' E σ H → t E σ H) : PSs X e t' := ⟨fun pins s σ H Q I q => h.run pins s σ H Q I (w _ _ _ q)⟩
/-- from a rule of the hand layer -/
theorem DE.of {e : Expr} {t' : TE} {t : DTE} (h : PE X e t') (w : ∀ ph S r M σ H Q, Sat X.K ph S r M σ H → t r M Q → ∀ Q', (∀ v H', post X.K ph S r σ Q v H' → Q' v H') → t' σ H Q') : DE X e t :=
  ⟨PE.weak h fun σ H Q ⟨ph, S, r, M, Q0, hs, ht, hq⟩ => w ph S r M σ H Q0 hs ht Q hq⟩
theorem DT.of {e : Expr} {t' : TT} {t : DTT} (h : PT X e t') (w : ∀ ph S r M σ H Q, Sat X.K ph S r M σ H → t r M Q → ∀ Q', (∀ v H', postT X.K ph S r σ Q v H' → Q' v H') → t' σ H Q') : DT X e t :=
  ⟨PT.weak h fun σ H Q ⟨ph, S, r, M, Q0, hs, ht, hq⟩ => w ph S r M σ H Q0 hs ht Q hq⟩
theorem DW.of {e : Expr} {t' : TT} {t : DTT} (h : PW X e t') (w : ∀ ph S r M σ H Q, Sat X.K ph S r M σ H → t r M Q → ∀ Q', (∀ v H', postT X.K ph S r σ Q v H' → Q' v H') → t' σ H Q') : DW X e t :=
  ⟨PW.weak h fun σ H Q ⟨ph, S, r, M, Q0, hs, ht, hq⟩ => w ph S r M σ H Q0 hs ht Q hq⟩
theorem DA.of {e : List Expr} {t' : TA} {t : DTA} (h : PA X e t') (w : ∀ ph S r M σ H Q, Sat X.K ph S r M σ H → t r M Q → ∀ Q', (∀ v H', postA X.K ph S r σ Q v H' → Q' v H') → t' σ H Q') : DA X e t :=
  ⟨PA.weak h fun σ H Q ⟨ph, S, r, M, Q0, hs, ht, hq⟩ => w ph S r M σ H Q0 hs ht Q hq⟩

/-- the end of a reading: this value, this state -/
theorem Aft.here {K : PySem.W.Frag} {ph : Ph} {S : Hp} {r : Env} {σ : St} {H : Hp} {M : Mem} {Q : Ph → Hp → Mem → Prop} (h : Sat K ph S r M σ H) (q : Q ph S M) : Aft K ph S r σ H Q := ⟨ph, S, M, .refl, h, q⟩
theorem Aft.up {K : PySem.W.Frag} {ph ph1 : Ph} {S S1 : Hp} {r : Env} {σ : St} {H : Hp} {Q : Ph → Hp → Mem → Prop} (x : Ext ph S ph1 S1) (h : Aft K ph1 S1 r σ H Q) : Aft K ph S r σ H Q :=
  let ⟨ph', S', M, x', hs, q⟩ := h
  ⟨ph', S', M, x.trans x', hs, q⟩

/-! ### the simplest expressions -/
def dC (d : D) : DTE := fun _ M Q => Q d M
theorem de_c {e : Expr} {v : V} {d : D} (h : PE X e (tC v)) (hr : ∀ ph S, Rep X.K ph S v d) : DE X e (dC d) :=
  DE.of h fun ph S r M σ H Q hs ht Q' hq => hq _ _ (Aft.here hs ⟨d, hr _ _, ht⟩)
theorem de_int {i j pos} : DE X (.Constant (.int i) j pos) (dC (.int i)) := de_c pe_int fun _ _ => .int _
theorem de_bl {b j pos} : DE X (.Constant (.bool b) j pos) (dC (.bl b)) := de_c pe_bl fun _ _ => .bl _
theorem de_non {j pos} : DE X (.Constant .none j pos) (dC .non) := de_c pe_non fun _ _ => .non
theorem de_str {x j pos} : DE X (.Constant (.str x) j pos) (dC (.str x)) := de_c pe_str fun _ _ => .str _
def rd (r : Env) (i : Nat) : Option D := (r[i]?).join
def dVar (i : Nat) : DTE := fun r M Q => match r[i]? with
  | some (some d) => Q d M
  | _ => False
theorem de_var {e : Expr} (i : Nat) (h : PE X e (tVar i)) : DE X e (dVar i) :=
  DE.of h fun ph S r M σ H Q hs ht Q' hq => by
    unfold dVar at ht
    split at ht
    · rename_i d e
      obtain ⟨v, e1, rv⟩ := hs.env i d e
      exact ⟨v, e1, hq _ _ (Aft.here hs ⟨d, rv, ht⟩)⟩
    · exact ht.elim
/-- the name in slot i -/
theorem dv (i : Nat) {x : Str} {pos : Pos} (hN : X.N[i]? = some x := by rfl) (hv : Vis X.env.scope x := by first | exact Or.inl rfl | exact Or.inr (Or.inl rfl) | exact Or.inr (Or.inr rfl)) (hd : (x == ("__debug__" : Str)) = false := by decide)
    (hcd : (x == ("__classdict__" : Str)) = false := by decide) : DE X (.Name x pos) (dVar i) := de_var i (pe_var hN hv hd hcd)
/-- a global's value as a value -/
theorem de_glob {x : Str} {v : V} {u : Value} {pos : Pos} (hg : Gl X x) (hm : X.mg x = some u) (r : RelV v u) (hd : (x == ("__debug__" : Str)) = false := by decide) : DE X (.Name x pos) (dC (.val v)) :=
  de_c (pe_glob hg hm r hd) fun _ _ => .val _
theorem de_globI {x : Str} {i : Int} {t : Tok} {pos : Pos} (hg : Gl X x) (hm : X.mg x = some (.int i t)) (hd : (x == ("__debug__" : Str)) = false := by decide) : DE X (.Name x pos) (dC (.int i)) :=
  de_c (pe_glob (v := .int i) hg hm ⟨t, rfl⟩ hd) fun _ _ => .int _
end
end DL
/-! DL2: heaps that change; data as PyData; operators -/
namespace DL
open PySem PySem.Spec PyProof.Rows L2

mutual
def toPy : D → Option PyData
  | .non => some .none
  | .bl b => some (.bool b)
  | .int i => some (.int i)
  | .str x => some (.str x)
  | .tup l => match toPyAll l with
    | some ps => some (.tuple ps)
    | none => none
  | .lst l => match toPyAll l with
    | some ps => some (.list ps)
    | none => none
  | .dct0 => some (.dict [])
  | .scr _ => none
  | .own _ => none
  | .exc _ _ => none
  | .val _ => none
def toPyAll : List D → Option (List PyData)
  | [] => some []
  | d :: ds => match toPy d, toPyAll ds with
    | some p, some ps => some (p :: ps)
    | _, _ => none
end

section
variable {K : PySem.W.Frag} {ph ph' : Ph} {S S' : Hp} {r : Env} {M : Mem} {σ : St} {H : Hp} {p : Addr}

mutual
theorem Rep.hidP {c : List Addr} {l l' : List (Addr × HO)} : ∀ (d : D) (v : V), Rep K ⟨c, l⟩ S v d → Rep K ⟨c, l'⟩ S v d
  | .non, _, h => by cases h; exact .non
  | .bl _, _, h => by cases h; exact .bl _
  | .int _, _, h => by cases h; exact .int _
  | .str _, _, h => by cases h; exact .str _
  | .tup ds, _, h => by
    cases h with
    | tup h1 h2 => exact .tup h1 (RepAll.hidP ds _ h2)
  | .lst ds, _, h => by
    cases h with
    | lst h1 h2 => exact .lst h1 (RepAll.hidP ds _ h2)
  | .dct0, _, h => by
    cases h with
    | dct0 h1 => exact .dct0 h1
  | .scr ns, _, h => by
    cases h with
    | scr h1 => exact .scr h1
  | .own k, _, h => by
    cases h with
    | own h1 => exact .own h1
  | .exc C d, _, h => by
    cases h with
    | exc h1 h2 h3 => exact .exc h1 h2 (Rep.hidP d _ h3)
  | .val v, _, h => by cases h; exact .val _
theorem RepAll.hidP {c : List Addr} {l l' : List (Addr × HO)} : ∀ (ds : List D) (vs : List V), RepAll K ⟨c, l⟩ S vs ds → RepAll K ⟨c, l'⟩ S vs ds
  | [], _, h => by cases h; exact .nil
  | d :: ds, _, h => by
    cases h with
    | cons h1 h2 => exact .cons (Rep.hidP d _ h1) (RepAll.hidP ds _ h2)
end
theorem Rep.hid {c : List Addr} {l l' : List (Addr × HO)} {d : D} {v : V} (h : Rep K ⟨c, l⟩ S v d) : Rep K ⟨c, l'⟩ S v d := Rep.hidP d v h
theorem RepAll.hid {c : List Addr} {l l' : List (Addr × HO)} {d : List D} {v : List V} (h : RepAll K ⟨c, l⟩ S v d) : RepAll K ⟨c, l'⟩ S v d := RepAll.hidP d v h
theorem Sat.read {d : D} {v : V} (h : Sat K ph S r M σ H) (q : Rep K ph S v d) : Rep K ph H v d := q.up ⟨fun _ _ e => e, h.sub, rfl⟩
theorem Sat.readAll {d : List D} {v : List V} (h : Sat K ph S r M σ H) (q : RepAll K ph S v d) : RepAll K ph H v d := q.up ⟨fun _ _ e => e, h.sub, rfl⟩
theorem Sat.noS (h : Sat K ph S r M σ H) (hp : H p = none) : S p = none := h.sub.free hp
theorem Sat.notin (h : Sat K ph S r M σ H) (hp : H p = none) : ∀ (k : Nat), ph.cells[k]? ≠ some p := fun k e => by
  obtain ⟨o, ho⟩ := h.trk k p e
  rw [hp] at ho; cases ho
theorem sameUpd {p : Addr} {o : HO} (h : H p = none) : Same H (upd H p o) := fun b x e => by
  rw [upd_ne (ne_of_none e h)]
  exact e
/-- a new object that is only read -/
theorem Sat.frz (h : Sat K ph S r M σ H) (hp : H p = none) (o : HO) : Ext ph S ph (upd S p o) ∧ Sat K ph (upd S p o) r M σ (upd H p o) := by
  have x : Ext ph S ph (upd S p o) := ⟨fun _ _ e => e, sameUpd (h.noS hp), rfl⟩
  refine ⟨x, fun b y e => ?_, h.len, h.nd, fun k a e => ?_, fun k ds e => ?_, fun q hq => ?_, h.hnd, h.el, fun i d e => ?_⟩
  · by_cases hb : b = p
    · rw [hb, upd_same] at e ⊢
      exact e
    · rw [upd_ne hb] at e ⊢
      exact h.sub b y e
  · obtain ⟨u, hu⟩ := h.trk k a e
    exact ⟨u, sameUpd hp _ _ hu⟩
  · obtain ⟨a, xs, h1, h2, h3, h4⟩ := h.cell k ds e
    have ne : a ≠ p := fun z => by rw [z, hp] at h3; cases h3
    refine ⟨a, xs, h1, ?_, ?_, h4.up x⟩
    · rw [upd_ne ne]; exact h2
    · rw [upd_ne ne]; exact h3
  · obtain ⟨h1, h2, h3⟩ := h.hid q hq
    have ne : q.1 ≠ p := fun z => by rw [z, hp] at h1; cases h1
    exact ⟨by rw [upd_ne ne]; exact h1, by rw [upd_ne ne]; exact h2, h3⟩
  · obtain ⟨v, e1, q⟩ := h.env i d e
    exact ⟨v, e1, q.up x⟩
/-- a new list that may be changed -/
theorem Sat.new (h : Sat K ph S r M σ H) (hp : H p = none) {xs : List V} {ds : List D} (hr : RepAll K ph S xs ds) :
    Ext ph S (ph.add p) S ∧ Sat K (ph.add p) S r (M ++ [.lst ds]) σ (upd H p (.lst xs)) ∧ (ph.add p).cells[M.length]? = some p := by
  have x : Ext ph S (ph.add p) S := ⟨fun k a e => by
    rw [List.getElem?_append_left (List.getElem?_eq_some_iff.mp e).1]; exact e, fun _ _ e => e, rfl⟩
  have here : (ph.add p).cells[M.length]? = some p := by
    rw [← h.len, List.getElem?_append_right (Nat.le_refl _), Nat.sub_self]; rfl
  have old : ∀ (k : Nat) (a : Addr), (ph.add p).cells[k]? = some a → ph.cells[k]? = some a ∨ (k = ph.cells.length ∧ a = p) := fun k a e => by
    by_cases hk : k < ph.cells.length
    · rw [List.getElem?_append_left hk] at e
      exact .inl e
    · rw [List.getElem?_append_right (by omega)] at e
      cases hk' : k - ph.cells.length with
      | zero =>
        rw [hk'] at e
        exact .inr ⟨by omega, (Option.some.inj e).symm⟩
      | succ n => rw [hk'] at e; simp at e
  refine ⟨x, ⟨fun b y e => sameUpd hp _ _ (h.sub b y e), by rw [List.length_append, List.length_append, h.len]; rfl, ?_, fun k a e => ?_, fun k es e => ?_, fun q hq => ?_, h.hnd, h.el, fun i d e => ?_⟩, here⟩
  · rw [List.nodup_append]
    refine ⟨h.nd, by simp, fun a ha b hb z => ?_⟩
    have hb' : b = p := by simpa using hb
    obtain ⟨k, hk⟩ := List.mem_iff_getElem?.mp ha
    exact h.notin hp k (by rw [hk, z, hb'])
  · rcases old k a e with q | ⟨_, q⟩
    · obtain ⟨u, hu⟩ := h.trk k a q
      exact ⟨u, sameUpd hp _ _ hu⟩
    · exact ⟨_, by rw [q, upd_same]⟩
  · by_cases hk : k < M.length
    · rw [List.getElem?_append_left hk] at e
      obtain ⟨a, ys, h1, h2, h3, h4⟩ := h.cell k es e
      exact ⟨a, ys, x.pre _ _ h1, h2, sameUpd hp _ _ h3, h4.up x⟩
    · rw [List.getElem?_append_right (by omega)] at e
      cases hk' : k - M.length with
      | succ n => rw [hk'] at e; simp at e
      | zero =>
        rw [hk'] at e
        have e' : ds = es := by simpa using e
        have k' : k = M.length := by omega
        subst e'
        subst k'
        exact ⟨p, xs, here, h.noS hp, upd_same, hr.up x⟩
  · obtain ⟨h1, h2, h3⟩ := h.hid q hq
    have ne : q.1 ≠ p := fun z => by rw [z, hp] at h1; cases h1
    exact ⟨by rw [upd_ne ne]; exact h1, h2, fun z => (List.mem_append.mp z).elim h3 fun z => ne (by simpa using z)⟩
  · obtain ⟨v, e1, q⟩ := h.env i d e
    exact ⟨v, e1, q.up x⟩
theorem nd_ix {l : List Addr} (hN : l.Nodup) {i j : Nat} {x : Addr} (a : l[i]? = some x) (b : l[j]? = some x) : i = j := by
  obtain ⟨h1, e1⟩ := List.getElem?_eq_some_iff.mp a
  obtain ⟨h2, e2⟩ := List.getElem?_eq_some_iff.mp b
  exact (List.getElem_inj hN).mp (e1.trans e2.symm)
/-- an owned list is changed -/
theorem Sat.put (h : Sat K ph S r M σ H) {k : Nat} {ds es : List D} {xs : List V} (hk : M[k]? = some (.lst ds)) {a : Addr} (ha : ph.cells[k]? = some a) (hr : RepAll K ph S xs es) :
    Sat K ph S r (M.set k (.lst es)) σ (upd H a (.lst xs)) := by
  obtain ⟨a', ys, h1, h2, h3, h4⟩ := h.cell k ds hk
  rw [ha] at h1
  cases h1
  have kl : k < M.length := (List.getElem?_eq_some_iff.mp hk).1
  refine ⟨fun b y e => ?_, by rw [List.length_set]; exact h.len, h.nd, fun j b e => ?_, fun j fs e => ?_, fun q hq => ?_, h.hnd, h.el, h.env⟩
  · rw [upd_ne (fun z => by rw [z, h2] at e; cases e)]
    exact h.sub b y e
  · by_cases hb : b = a
    · exact ⟨_, by rw [hb, upd_same]⟩
    · rw [upd_ne hb]; exact h.trk j b e
  · by_cases hj : j = k
    · subst hj
      rw [List.getElem?_set_self kl] at e
      cases e
      exact ⟨a, xs, ha, h2, upd_same, hr⟩
    · rw [List.getElem?_set_ne (Ne.symm hj)] at e
      obtain ⟨b, zs, q1, q2, q3, q4⟩ := h.cell j fs e
      have nb : b ≠ a := fun z => by rw [z] at q1; exact hj (nd_ix h.nd q1 ha)
      exact ⟨b, zs, q1, q2, by rw [upd_ne nb]; exact q3, q4⟩
  · obtain ⟨h1, h2, h3⟩ := h.hid q hq
    have ne : q.1 ≠ a := fun z => h3 (by rw [z]; exact List.mem_of_getElem? ha)
    exact ⟨by rw [upd_ne ne]; exact h1, h2, h3⟩
/-- an owned list is changed no more -/
theorem Sat.freeze (h : Sat K ph S r M σ H) {k : Nat} {ds : List D} (hk : M[k]? = some (.lst ds)) :
    ∃ a xs, ph.cells[k]? = some a ∧ Ext ph S ph (upd S a (.lst xs)) ∧ Sat K ph (upd S a (.lst xs)) r (M.set k .dead) σ H ∧ Rep K ph (upd S a (.lst xs)) (.ref a) (.lst ds) := by
  obtain ⟨a, xs, h1, h2, h3, h4⟩ := h.cell k ds hk
  have x : Ext ph S ph (upd S a (.lst xs)) := ⟨fun _ _ e => e, sameUpd h2, rfl⟩
  refine ⟨a, xs, h1, x, ⟨fun b y e => ?_, by rw [List.length_set]; exact h.len, h.nd, h.trk, fun j fs e => ?_, fun q hq => ?_, h.hnd, h.el, fun i d e => ?_⟩, .lst upd_same (h4.up x)⟩
  · by_cases hb : b = a
    · rw [hb, upd_same] at e
      rw [hb, ← e]; exact h3
    · rw [upd_ne hb] at e
      exact h.sub b y e
  · have kl : k < M.length := (List.getElem?_eq_some_iff.mp hk).1
    by_cases hj : j = k
    · subst hj
      rw [List.getElem?_set_self kl] at e
      cases e
    · rw [List.getElem?_set_ne (Ne.symm hj)] at e
      obtain ⟨b, zs, q1, q2, q3, q4⟩ := h.cell j fs e
      have nb : b ≠ a := fun z => by rw [z] at q1; exact hj (nd_ix h.nd q1 h1)
      exact ⟨b, zs, q1, by rw [upd_ne nb]; exact q2, q3, q4.up x⟩
  · obtain ⟨g1, g2, g3⟩ := h.hid q hq
    have ne : q.1 ≠ a := fun z => g3 (by rw [z]; exact List.mem_of_getElem? h1)
    exact ⟨g1, by rw [upd_ne ne]; exact g2, g3⟩
  · obtain ⟨v, e1, q⟩ := h.env i d e
    exact ⟨v, e1, q.up x⟩
/-- the names change -/
theorem Sat.setN (h : Sat K ph S r M σ H) {i : Nat} {d : D} {v : V} (q : Rep K ph S v d) : Sat K ph S (r.set i (some d)) M (σ.set i (some v)) H := by
  refine ⟨h.sub, h.len, h.nd, h.trk, h.cell, h.hid, h.hnd, by rw [List.length_set, List.length_set]; exact h.el, fun j e hj => ?_⟩
  by_cases hi : j = i
  · subst hi
    have jl : j < r.length := by
      have := (List.getElem?_eq_some_iff.mp hj).1
      rwa [List.length_set] at this
    rw [List.getElem?_set_self jl] at hj
    cases hj
    exact ⟨v, by rw [List.getElem?_set_self (by rw [← h.el]; exact jl)], q⟩
  · rw [List.getElem?_set_ne (Ne.symm hi)] at hj
    rw [List.getElem?_set_ne (Ne.symm hi)]
    exact h.env j e hj

/-- a new list, out of sight while it is made -/
theorem Sat.hide (h : Sat K ph S r M σ H) (hp : H p = none) (o : HO) : Sat K { ph with hid := (p, o) :: ph.hid } S r M σ (upd H p o) := by
  refine ⟨fun b y e => sameUpd hp _ _ (h.sub b y e), h.len, h.nd, fun k a e => ?_, fun k ds e => ?_, fun q hq => ?_, ?_, h.el, fun i d e => ?_⟩
  · obtain ⟨u, hu⟩ := h.trk k a e
    exact ⟨u, sameUpd hp _ _ hu⟩
  · obtain ⟨a, xs, h1, h2, h3, h4⟩ := h.cell k ds e
    exact ⟨a, xs, h1, h2, sameUpd hp _ _ h3, RepAll.hid h4⟩
  · rcases List.mem_cons.mp hq with e | hq
    · rw [e]
      exact ⟨upd_same, h.noS hp, fun z => by
        obtain ⟨k, hk⟩ := List.mem_iff_getElem?.mp z
        exact h.notin hp k hk⟩
    · obtain ⟨h1, h2, h3⟩ := h.hid q hq
      exact ⟨sameUpd hp _ _ h1, h2, h3⟩
  · refine List.nodup_cons.mpr ⟨fun z => ?_, h.hnd⟩
    obtain ⟨q, hq, e⟩ := List.mem_map.mp z
    obtain ⟨h1, _, _⟩ := h.hid q hq
    have e' : q.1 = p := e
    rw [e', hp] at h1; cases h1
  · obtain ⟨v, e1, q⟩ := h.env i d e
    exact ⟨v, e1, Rep.hid q⟩
theorem hid_ne {p : Addr} {o : HO} {l : List (Addr × HO)} (h : ((p, o) :: l).map (·.1) |>.Nodup) : ∀ q ∈ l, q.1 ≠ p := fun q hq e =>
  (List.nodup_cons.mp h).1 (List.mem_map.mpr ⟨q, hq, e⟩)
/-- the hidden list changes -/
theorem Sat.hset {o o' : HO} {l : List (Addr × HO)} {c : List Addr} (h : Sat K ⟨c, (p, o) :: l⟩ S r M σ H) : Sat K ⟨c, (p, o') :: l⟩ S r M σ (upd H p o') := by
  obtain ⟨g1, g2, g3⟩ := h.hid _ List.mem_cons_self
  have nS : ∀ b y, S b = some y → b ≠ p := fun b y e z => by rw [z, g2] at e; cases e
  have nc : ∀ (k : Nat) (a : Addr), c[k]? = some a → a ≠ p := fun k a e z => g3 (by rw [← z]; exact List.mem_of_getElem? e)
  refine ⟨fun b y e => by rw [upd_ne (nS b y e)]; exact h.sub b y e, h.len, h.nd, fun k a e => ?_, fun k ds e => ?_, fun q hq => ?_, h.hnd, h.el, fun i d e => ?_⟩
  · obtain ⟨u, hu⟩ := h.trk k a e
    exact ⟨u, by rw [upd_ne (nc k a e)]; exact hu⟩
  · obtain ⟨a, xs, h1, h2, h3, h4⟩ := h.cell k ds e
    exact ⟨a, xs, h1, h2, by rw [upd_ne (nc k a h1)]; exact h3, RepAll.hid h4⟩
  · rcases List.mem_cons.mp hq with e | hq
    · rw [e]
      exact ⟨upd_same, g2, g3⟩
    · obtain ⟨h1, h2, h3⟩ := h.hid q (List.mem_cons_of_mem _ hq)
      exact ⟨by rw [upd_ne (hid_ne h.hnd q hq)]; exact h1, h2, h3⟩
  · obtain ⟨v, e1, q⟩ := h.env i d e
    exact ⟨v, e1, Rep.hid q⟩
/-- the hidden list is done: it is only read from now on -/
theorem Sat.hfrz {o : HO} {l : List (Addr × HO)} {c : List Addr} (h : Sat K ⟨c, (p, o) :: l⟩ S r M σ H) : Ext ⟨c, l⟩ S ⟨c, l⟩ (upd S p o) ∧ Sat K ⟨c, l⟩ (upd S p o) r M σ H := by
  obtain ⟨g1, g2, g3⟩ := h.hid _ List.mem_cons_self
  have x : Ext ⟨c, l⟩ S ⟨c, l⟩ (upd S p o) := ⟨fun _ _ e => e, sameUpd g2, rfl⟩
  refine ⟨x, fun b y e => ?_, h.len, h.nd, h.trk, fun k ds e => ?_, fun q hq => ?_, (List.nodup_cons.mp h.hnd).2, h.el, fun i d e => ?_⟩
  · by_cases hb : b = p
    · rw [hb, upd_same] at e
      rw [hb, ← e]; exact g1
    · rw [upd_ne hb] at e
      exact h.sub b y e
  · obtain ⟨a, xs, h1, h2, h3, h4⟩ := h.cell k ds e
    have ne : a ≠ p := fun z => g3 (by rw [← z]; exact List.mem_of_getElem? h1)
    exact ⟨a, xs, h1, by rw [upd_ne ne]; exact h2, h3, (RepAll.hid h4).up x⟩
  · obtain ⟨h1, h2, h3⟩ := h.hid q (List.mem_cons_of_mem _ hq)
    exact ⟨h1, by rw [upd_ne (hid_ne h.hnd q hq)]; exact h2, h3⟩
  · obtain ⟨v, e1, q⟩ := h.env i d e
    exact ⟨v, e1, (Rep.hid q).up x⟩
/-- .. or it is owned from now on -/
theorem Sat.hown {xs : List V} {ds : List D} {l : List (Addr × HO)} {c : List Addr} (h : Sat K ⟨c, (p, .lst xs) :: l⟩ S r M σ H) (q : RepAll K ⟨c, l⟩ S xs ds) :
    Ext ⟨c, l⟩ S ⟨c ++ [p], l⟩ S ∧ Sat K ⟨c ++ [p], l⟩ S r (M ++ [.lst ds]) σ H ∧ (c ++ [p])[M.length]? = some p := by
  obtain ⟨g1, g2, g3⟩ := h.hid _ List.mem_cons_self
  have hl : c.length = M.length := h.len
  have x : Ext ⟨c, l⟩ S ⟨c ++ [p], l⟩ S := ⟨fun k a e => by
    show (c ++ [p])[k]? = _
    rw [List.getElem?_append_left (List.getElem?_eq_some_iff.mp e).1]; exact e, fun _ _ e => e, rfl⟩
  have here : (c ++ [p])[M.length]? = some p := by rw [← hl, List.getElem?_append_right (Nat.le_refl _), Nat.sub_self]; rfl
  have old : ∀ (k : Nat) (a : Addr), (c ++ [p])[k]? = some a → c[k]? = some a ∨ a = p := fun k a e => by
    by_cases hk : k < c.length
    · rw [List.getElem?_append_left hk] at e
      exact .inl e
    · rw [List.getElem?_append_right (by omega)] at e
      cases hk' : k - c.length with
      | zero => rw [hk'] at e; exact .inr (Option.some.inj e).symm
      | succ n => rw [hk'] at e; simp at e
  refine ⟨x, ⟨h.sub, ?_, ?_, fun k a e => ?_, fun k es e => ?_, fun q hq => ?_, (List.nodup_cons.mp h.hnd).2, h.el, fun i d e => ?_⟩, here⟩
  · show (c ++ [p]).length = _
    rw [List.length_append, List.length_append, hl]; rfl
  · show (c ++ [p]).Nodup
    rw [List.nodup_append]
    exact ⟨h.nd, by simp, fun a ha b hb z => g3 (by rw [show b = p by simpa using hb] at z; rw [← z]; exact ha)⟩
  · rcases old k a e with z | z
    · exact h.trk k a z
    · exact ⟨_, by rw [z]; exact g1⟩
  · by_cases hk : k < M.length
    · rw [List.getElem?_append_left hk] at e
      obtain ⟨a, ys, h1, h2, h3, h4⟩ := h.cell k es e
      exact ⟨a, ys, x.pre _ _ h1, h2, h3, (RepAll.hid h4).up x⟩
    · rw [List.getElem?_append_right (by omega)] at e
      cases hk' : k - M.length with
      | succ n => rw [hk'] at e; simp at e
      | zero =>
        rw [hk'] at e
        have e' : ds = es := by simpa using e
        have k' : k = M.length := by omega
        subst e'
        subst k'
        exact ⟨p, xs, here, g2, g1, q.up x⟩
  · obtain ⟨h1, h2, h3⟩ := h.hid q (List.mem_cons_of_mem _ hq)
    exact ⟨h1, h2, fun z => by
      rcases List.mem_append.mp z with z | z
      · exact h3 z
      · exact hid_ne h.hnd q hq (by simpa using z)⟩
  · obtain ⟨v, e1, q⟩ := h.env i d e
    exact ⟨v, e1, (Rep.hid q).up x⟩

/-! ### data as the library's data -/
variable {X : Cx} {pins : List (Addr × Obj)} {s : Shared}
mutual
theorem Rep.reads (I : Inv X pins σ H s) : ∀ (d : D) (v : V) (u : Value) (p : PyData), Rep X.K ph H v d → RelV v u → toPy d = some p → ∃ as, Reads s.heap u p as ∧ ∀ a ∈ as, H a ≠ none
  | .non, _, _, _, h, rv, e => by cases h; cases rv; cases e; exact ⟨_, .none, fun _ z => nomatch z⟩
  | .bl _, _, _, _, h, rv, e => by cases h; cases rv; cases e; exact ⟨_, .bool _, fun _ z => nomatch z⟩
  | .int _, _, _, _, h, rv, e => by cases h; obtain ⟨t, rfl⟩ := rv; cases e; exact ⟨_, .int _ _, fun _ z => nomatch z⟩
  | .str _, _, _, _, h, rv, e => by cases h; obtain ⟨t, rfl⟩ := rv; cases e; exact ⟨_, .str _ _, fun _ z => nomatch z⟩
  | .tup ds, _, _, _, h, rv, e => by
    cases h with
    | tup h1 h2 =>
      cases rv
      simp only [toPy] at e
      split at e
      · rename_i ps ep
        cases e
        obtain ⟨its, rx, ⟨o, ho, hc, n, hd⟩, _⟩ := I.tuple (SqT.of h1)
        obtain ⟨as, q, qa⟩ := RepAll.reads I ds _ its ps h2 rx ep
        exact ⟨_, .tuple ho hc hd q, qa⟩
      · cases e
  | .lst ds, _, _, _, h, rv, e => by
    cases h with
    | lst h1 h2 =>
      cases rv
      simp only [toPy] at e
      split at e
      · rename_i ps ep
        cases e
        obtain ⟨its, rx, ⟨o, n, ho, hc, _, hd⟩, _⟩ := I.list (SqL.of h1)
        obtain ⟨as, q, qa⟩ := RepAll.reads I ds _ its ps h2 rx ep
        refine ⟨_, .list ho hc hd q, fun a ha => ?_⟩
        rcases List.mem_cons.mp ha with e | ha
        · rw [e, h1]; exact fun z => nomatch z
        · exact qa a ha
      · cases e
  | .dct0, _, _, _, h, rv, e => by
    cases h with
    | dct0 h1 =>
      cases rv
      cases e
      obtain ⟨_, _, vs, hk, o, es, ep, ho, hx, hd, _, he, _⟩ := I.hok _ _ h1
      cases hk
      have e0 : es = #[] := by
        cases es with
        | mk l =>
          cases l with
          | nil => rfl
          | cons x l => exact nomatch he
      subst e0
      refine ⟨_, .dict ho hx.1 hd .nil .nil, fun a ha => ?_⟩
      simp at ha
      rw [ha, h1]; exact fun z => nomatch z
  | .scr ns, _, _, _, _, _, e => by cases e
  | .own _, _, _, _, _, _, e => by cases e
  | .exc _ _, _, _, _, _, _, e => by cases e
  | .val _, _, _, _, _, _, e => by cases e
theorem RepAll.reads (I : Inv X pins σ H s) : ∀ (ds : List D) (vs : List V) (us : List Value) (ps : List PyData), RepAll X.K ph H vs ds → Vals vs us → toPyAll ds = some ps → ∃ as, ReadsAll s.heap us ps as ∧ ∀ a ∈ as, H a ≠ none
  | [], _, _, _, h, rv, e => by cases h; cases rv; cases e; exact ⟨_, .nil, fun _ z => nomatch z⟩
  | d :: ds, _, _, _, h, rv, e => by
    cases h with
    | cons h1 h2 =>
      cases rv with
      | cons r1 r2 =>
        simp only [toPyAll] at e
        split at e
        · rename_i p ps ep eps
          cases e
          obtain ⟨as, q1, a1⟩ := Rep.reads I d _ _ p h1 r1 ep
          obtain ⟨bs, q2, a2⟩ := RepAll.reads I ds _ _ ps h2 r2 eps
          refine ⟨_, .cons q1 q2, fun a ha => ?_⟩
          rcases List.mem_append.mp ha with ha | ha
          · exact a1 a ha
          · exact a2 a ha
        · cases e
end
end
end DL
/-! DL3: operators, comparisons, truth, displays -/
namespace DL
open PySem PySem.Spec PyProof.Rows L2
variable {X : Cx}

/-! ### two values -/
abbrev G2 := D → D → Mem → DQ → Prop
def OpD (X : Cx) (f : Value → Value → Sem Value) (g : G2) : Prop :=
  ∀ (pins : List (Addr × Obj)) (s : Shared) (σ : St) (H : Hp) (ph : Ph) (S : Hp) (r : Env) (M : Mem) (x y : V) (dx dy : D) (v u : Value) (Q : DQ),
    Inv X pins σ H s → Sat X.K ph S r M σ H → RelV x v → RelV y u → Rep X.K ph S x dx → Rep X.K ph S y dy → g dx dy M Q →
    wpAny (model X.prog X.w) X.A (f v u) (EP X pins σ (post X.K ph S r σ Q)) X.xe s
theorem OpD.of {f : Value → Value → Sem Value} {r2 : R2} {g : G2} (h : OpR X f r2)
    (w : ∀ (σ : St) (H : Hp) (ph : Ph) (S : Hp) (r : Env) (M : Mem) (x y : V) (dx dy : D) (Q : DQ), Sat X.K ph S r M σ H → Rep X.K ph S x dx → Rep X.K ph S y dy → g dx dy M Q → r2 x y H (post X.K ph S r σ Q)) : OpD X f g :=
  fun pins s σ H ph S r M x y dx dy v u Q I hs rx ry qx qy hg => h pins s σ H x y v u _ I rx ry (w σ H ph S r M x y dx dy Q hs qx qy hg)
theorem binD {a b : Expr} {ta tb : DTE} (ha : DE X a ta) (hb : DE X b tb) {pins : List (Addr × Obj)} {s : Shared} {σ : St} {H : Hp} {ph : Ph} {S : Hp} {r : Env} {M : Mem} {g : D → D → Mem → Prop}
    (I : Inv X pins σ H s) (hs : Sat X.K ph S r M σ H) (h : ta r M fun x M1 => tb r M1 fun y M2 => g x y M2) {α : Type} {Q : α → Shared → Prop} {f : Value → Value → Sem α}
    (hf : ∀ v u s2 x y dx dy H2 ph2 S2 M2, Ext ph S ph2 S2 → Inv X pins σ H2 s2 → Sat X.K ph2 S2 r M2 σ H2 → RelV x v → RelV y u → Rep X.K ph2 S2 x dx → Rep X.K ph2 S2 y dy → g dx dy M2 → wpAny (model X.prog X.w) X.A (f v u) Q X.xe s2) :
    wpAny (model X.prog X.w) X.A (eval a X.env) (fun v s1 => wpAny (model X.prog X.w) X.A (eval b X.env) (fun u s2 => wpAny (model X.prog X.w) X.A (f v u) Q X.xe s2) X.xe s1) X.xe s := by
  refine thn (ha.pe.run pins s σ H _ I ⟨ph, S, r, M, _, hs, h, fun _ _ q => q⟩) fun v s1 ⟨x, H1, I1, r1, ph1, S1, M1, x1, hs1, dx, q1, h1⟩ => ?_
  refine thn (hb.pe.run pins s1 σ H1 _ I1 ⟨ph1, S1, r, M1, _, hs1, h1, fun _ _ q => q⟩) fun u s2 ⟨y, H2, I2, r2, ph2, S2, M2, x2, hs2, dy, q2, h2⟩ => ?_
  exact hf v u s2 x y dx dy H2 ph2 S2 M2 (x1.trans x2) I2 hs2 r1 r2 (q1.up x2) q2 h2
def dOp (g : G2) (ta tb : DTE) : DTE := fun r M Q => ta r M fun x M1 => tb r M1 fun y M2 => g x y M2 Q
theorem EP.up {pins : List (Addr × Obj)} {σ : St} {ph ph1 : Ph} {S S1 : Hp} {r : Env} {Q : DQ} {u : Value} {s : Shared} (x : Ext ph S ph1 S1) (h : EP X pins σ (post X.K ph1 S1 r σ Q) u s) {Q' : VK} (w : ∀ v H', post X.K ph S r σ Q v H' → Q' v H') : EP X pins σ Q' u s :=
  let ⟨v, H', I, rv, q⟩ := h
  ⟨v, H', I, rv, w _ _ (Aft.up x q)⟩
theorem de_op {a b : Expr} {ta tb : DTE} {op : Operator} {g : G2} {pos : Pos} (ho : OpD X (binaryOp op) g) (ha : DE X a ta) (hb : DE X b tb) : DE X (.BinOp a op b pos) (dOp g ta tb) :=
  ⟨⟨fun pins s σ H Q I ⟨ph, S, r, M, Q0, hs, ht, hq⟩ => wpAny_BinOp (binD ha hb I hs ht fun v u s2 x y dx dy H2 ph2 S2 M2 x2 I2 hs2 rx ry qx qy h =>
    thn (ho pins s2 σ H2 ph2 S2 r M2 x y dx dy v u Q0 I2 hs2 rx ry qx qy h) fun _ _ q => EP.up x2 q hq)⟩⟩
theorem de_cmp {a b : Expr} {ta tb : DTE} {op : CmpOp} {g : G2} {pos : Pos} (ho : OpD X (compareOp op) g) (ha : DE X a ta) (hb : DE X b tb) (hm : behindInMarks op b = false) : DE X (.Compare a [op] [b] pos) (dOp g ta tb) :=
  ⟨⟨fun pins s σ H Q I ⟨ph, S, r, M, Q0, hs, ht, hq⟩ => wpAny_Compare1 (binD ha hb I hs ht fun v u s2 x y dx dy H2 ph2 S2 M2 x2 I2 hs2 rx ry qx qy h =>
    thn (ho pins s2 σ H2 ph2 S2 r M2 x y dx dy v u Q0 I2 hs2 rx ry qx qy h) fun _ _ q => EP.up x2 q hq) hm⟩⟩

/-! ### arithmetic -/
/-- of moderate size -/
def Sm (i : Int) : Prop := i.natAbs.log2 < 400000
theorem Sm.of {i : Int} (n : Nat) (h : i.natAbs < 2 ^ n) (hn : n ≤ 400000 := by decide) : Sm i := by
  unfold Sm
  by_cases h0 : i.natAbs = 0
  · rw [h0]; decide
  · exact Nat.lt_of_lt_of_le ((Nat.log2_lt h0).mpr h) hn
def rBin (C : Int → Int → Prop) (f : Int → Int → Int) : G2 := fun x y M Q => match x, y with
  | .int i, .int j => C i j ∧ Q (.int (f i j)) M
  | _, _ => False
theorem opd_int {F : Value → Value → Sem Value} {C : Int → Int → Prop} {f : Int → Int → Int} (h : OpR X F (rI C fun i j => .int (f i j))) : OpD X F (rBin C f) :=
  OpD.of h fun σ H ph S r M x y dx dy Q hs rx ry hg => by
    cases dx <;> cases dy <;> first | exact hg.elim | skip
    cases rx; cases ry
    exact ⟨_, _, rfl, rfl, hg.1, Aft.here hs ⟨_, .int _, hg.2⟩⟩
theorem opd_sub : OpD X (binaryOp .Sub) (rBin (fun _ _ => True) fun i j => i - j) := opd_int (fun pins s σ H x y v u Q I r1 r2 ⟨i, j, e1, e2, _, q⟩ => op_sub pins s σ H x y v u Q I r1 r2 ⟨i, j, e1, e2, q⟩)
def CMul (i j : Int) : Prop := Sm i ∧ Sm j
def CDiv (_ j : Int) : Prop := j ≠ 0 ∧ j.natAbs.log2 < 9000
def CMod (_ j : Int) : Prop := j ≠ 0
def CPow (a n : Int) : Prop := 0 ≤ n ∧ (Builtin.Int.intBits a : Int) * n ≤ 2 ^ 27
theorem opd_mulI : OpD X (binaryOp .Mult) (rBin CMul fun i j => i * j) := opd_int (fun pins s σ H x y v u Q I r1 r2 ⟨i, j, e1, e2, c, q⟩ => op_mulW pins s σ H x y v u Q I r1 r2 ⟨i, j, e1, e2, by have h1 := c.1; have h2 := c.2; unfold Sm at h1 h2; unfold L2.CMulW; omega, q⟩)
theorem op_fdivG : OpR X (binaryOp .FloorDiv) (rI CDiv fun i j => .int (i.fdiv j)) := opI fun i j _ _ _ _ _ hc q => floordiv_int hc.1 q (.inl (PyProof.noPylong_of_log2 hc.2))
theorem opd_fdiv : OpD X (binaryOp .FloorDiv) (rBin CDiv fun i j => i.fdiv j) := opd_int op_fdivG
theorem opd_mod : OpD X (binaryOp .Mod) (rBin CMod fun i j => i.fmod j) := opd_int op_modN
theorem op_powG : OpR X (binaryOp .Pow) (rI CPow fun i j => .int (i ^ j.toNat)) := opI fun i j _ _ _ _ _ hc q => pow_int hc.1 hc.2 q
theorem opd_pow : OpD X (binaryOp .Pow) (rBin CPow fun i j => i ^ j.toNat) := opd_int op_powG
/-- x + y -/
def gAdd : G2 := fun x y M Q => match x, y with
  | .int i, .int j => Q (.int (i + j)) M
  | .str a, .str b => a.length + b.length ≤ sizeLine ∧ Q (.str (a ++ b)) M
  | .lst a, .lst b => a.length + b.length ≤ sizeLine ∧ Q (.lst (a ++ b)) M
  | .tup a, .tup b => a.length + b.length ≤ sizeLine ∧ Q (.tup (a ++ b)) M
  | .own k, .lst b => match M[k]? with
    | some (.lst a) => a.length + b.length ≤ sizeLine ∧ Q (.lst (a ++ b)) M
    | _ => False
  | .lst b, .own k => match M[k]? with
    | some (.lst a) => b.length + a.length ≤ sizeLine ∧ Q (.lst (b ++ a)) M
    | _ => False
  | _, _ => False
theorem Aft.frz {K : PySem.W.Frag} {ph : Ph} {S : Hp} {r : Env} {σ : St} {H : Hp} {M : Mem} {p : Addr} {o : HO} {Q : Ph → Hp → Mem → Prop} (h : Sat K ph S r M σ H) (hp : H p = none) (q : Ext ph S ph (upd S p o) → Q ph (upd S p o) M) : Aft K ph S r σ (upd H p o) Q :=
  let ⟨x, hs⟩ := h.frz hp o
  ⟨ph, _, M, x, hs, q x⟩
theorem opd_add : OpD X (binaryOp .Add) gAdd := by
  intro pins s σ H ph S r M x y dx dy v u Q I hs rx ry qx qy hg
  cases dx <;> cases dy <;> first | exact hg.elim | skip
  · cases qx; cases qy
    exact op_add pins s σ H _ _ v u _ I rx ry ⟨_, _, rfl, rfl, Aft.here hs ⟨_, .int _, hg⟩⟩
  · cases qx; cases qy
    exact op_add_str pins s σ H _ _ v u _ I rx ry ⟨_, _, rfl, rfl, hg.1, Aft.here hs ⟨_, .str _, hg.2⟩⟩
  · cases qx with
    | tup h1 h2 =>
      cases qy with
      | tup h3 h4 =>
        obtain ⟨hz, q⟩ := hg
        rename_i xs _ ys
        have e1 := h2.len
        have e2 := h4.len
        refine op_catA pins s σ H _ _ v u _ I rx ry ⟨_, _, xs, ys, rfl, rfl, SqT.of (hs.sub _ _ h1), SqT.of (hs.sub _ _ h3), by omega, fun z => ?_, fun _ z => ?_, fun _ _ p hp => Aft.frz hs hp fun x => ⟨_, .tup upd_same ((h2.app h4).up x), q⟩⟩
        · refine Aft.here hs ⟨_, .tup h3 ?_, q⟩
          rw [z] at h2
          cases h2
          exact h4
        · refine Aft.here hs ⟨_, .tup h1 ?_, q⟩
          rw [z] at h4
          cases h4
          rw [List.append_nil]; exact h2
  · cases qx with
    | lst h1 h2 =>
      cases qy with
      | lst h3 h4 =>
        have e1 := h2.len
        have e2 := h4.len
        exact op_cat pins s σ H _ _ v u _ I rx ry ⟨_, _, _, _, rfl, rfl, hs.sub _ _ h1, hs.sub _ _ h3, by have := hg.1; omega, fun p hp => Aft.frz hs hp fun x => ⟨_, .lst upd_same ((h2.app h4).up x), hg.2⟩⟩
  · cases qx with
    | lst h1 h2 =>
      cases qy with
      | own h3 =>
        rename_i b k _ _ _
        simp only [gAdd] at hg
        split at hg
        · rename_i a hk
          obtain ⟨a1, xs1, c1, c2, c3, c4⟩ := hs.cell k a hk
          rw [h3] at c1; cases c1
          have e1 := h2.len
          have e2 := c4.len
          exact op_cat pins s σ H _ _ v u _ I rx ry ⟨_, _, _, _, rfl, rfl, hs.sub _ _ h1, c3, by have := hg.1; omega, fun p hp => Aft.frz hs hp fun x => ⟨_, .lst upd_same ((h2.app c4).up x), hg.2⟩⟩
        · exact hg.elim
  · cases qx with
    | own h3 =>
      cases qy with
      | lst h1 h2 =>
        rename_i k b _ _ _
        simp only [gAdd] at hg
        split at hg
        · rename_i a hk
          obtain ⟨a1, xs1, c1, c2, c3, c4⟩ := hs.cell k a hk
          rw [h3] at c1; cases c1
          have e1 := h2.len
          have e2 := c4.len
          exact op_cat pins s σ H _ _ v u _ I rx ry ⟨_, _, _, _, rfl, rfl, c3, hs.sub _ _ h1, by have := hg.1; omega, fun p hp => Aft.frz hs hp fun x => ⟨_, .lst upd_same ((c4.app h2).up x), hg.2⟩⟩
        · exact hg.elim
/-- x * y -/
def gMul : G2 := fun x y M Q => match x, y with
  | .int i, .int j => (Sm i ∧ Sm j) ∧ Q (.int (i * j)) M
  | .lst a, .int j => (j < 2 ^ 63 ∧ -(2 ^ 63) ≤ j) ∧ a.length * j.toNat ≤ sizeLine ∧ Q (.lst (List.flatten (List.replicate j.toNat a))) M
  | _, _ => False

/-! ### comparisons -/
def gCmpI (p : Int → Int → Bool) : G2 := fun x y M Q => match x, y with
  | .int i, .int j => Q (.bl (p i j)) M
  | _, _ => False
theorem opd_cmpI {F : Value → Value → Sem Value} {p : Int → Int → Bool} (h : OpR X F (rI0 fun i j => .bl (p i j))) : OpD X F (gCmpI p) :=
  OpD.of h fun σ H ph S r M x y dx dy Q hs rx ry hg => by
    cases dx <;> cases dy <;> first | exact hg.elim | skip
    cases rx; cases ry
    exact ⟨_, _, rfl, rfl, Aft.here hs ⟨_, .bl _, hg⟩⟩
theorem opd_lt : OpD X (compareOp .Lt) (gCmpI fun i j => decide (i < j)) := opd_cmpI op_lt
theorem opd_le : OpD X (compareOp .LtE) (gCmpI fun i j => decide (i ≤ j)) := opd_cmpI op_le
theorem opd_gt : OpD X (compareOp .Gt) (gCmpI fun i j => decide (j < i)) := opd_cmpI op_gt
theorem opd_ge : OpD X (compareOp .GtE) (gCmpI fun i j => decide (j ≤ i)) := opd_cmpI op_ge
/-- an owned list as it stands -/
def res (M : Mem) : D → D
  | .own k => match M[k]? with
    | some (.lst ds) => .lst ds
    | _ => .own k
  | d => d
theorem Rep.res {K : PySem.W.Frag} {ph : Ph} {S : Hp} {r : Env} {M : Mem} {σ : St} {H : Hp} {v : V} {d : D} (hs : Sat K ph S r M σ H) (q : Rep K ph S v d) : Rep K ph H v (res M d) := by
  cases d <;> first | exact hs.read q | skip
  rename_i k
  unfold DL.res
  dsimp only
  split
  · rename_i ds hk
    cases q with
    | own h =>
      obtain ⟨a, xs, c1, c2, c3, c4⟩ := hs.cell k ds hk
      rw [h] at c1; cases c1
      exact .lst c3 (hs.readAll c4)
  · exact hs.read q
/-- data that may be compared -/
def cmpd (d : D) : Option PyData := match toPy d with
  | some p => if SeqAt.shaped p = true then some p else none
  | none => none
theorem cmpd_some {d : D} {p : PyData} (h : cmpd d = some p) : toPy d = some p ∧ SeqAt.shaped p = true := by
  unfold cmpd at h
  split at h
  · rename_i p' e
    by_cases hs : SeqAt.shaped p' = true
    · rw [if_pos hs] at h; cases h; exact ⟨e, hs⟩
    · rw [if_neg hs] at h; cases h
  · cases h
/-- x == y of two data read; none: not covered -/
def eqB (x y : D) : Option Bool := match x, y with
  | .str a, .str b => some (a == b)
  | x, y => match cmpd x, cmpd y with
    | some p, some q => some (PyData.eqv p q)
    | _, _ => none
theorem eqB_of {x y : D} {b : Bool} (h : eqB x y = some b) : (∃ p q, x = .str p ∧ y = .str q ∧ b = (p == q)) ∨ ∃ p q, cmpd x = some p ∧ cmpd y = some q ∧ b = PyData.eqv p q := by
  unfold eqB at h
  split at h
  · exact .inl ⟨_, _, rfl, rfl, (Option.some.inj h).symm⟩
  · split at h
    · rename_i e1 e2; exact .inr ⟨_, _, e1, e2, (Option.some.inj h).symm⟩
    · cases h
def gEq : G2 := fun x y M Q => match eqB (res M x) (res M y) with
  | some b => Q (.bl b) M
  | none => False
def gNe : G2 := fun x y M Q => match eqB (res M x) (res M y) with
  | some b => Q (.bl (!b)) M
  | none => False
theorem res_str {M : Mem} {d : D} {z : Str} (h : res M d = .str z) : d = .str z := by
  cases d <;> first | exact h | skip
  rename_i k
  unfold res at h
  dsimp only at h
  split at h <;> cases h
theorem opd_eq (hu : X.A.units + 64 < cLine) : OpD X (compareOp .Eq) gEq := by
  intro pins s σ H ph S r M x y dx dy v u Q I hs rx ry qx qy hg
  unfold gEq at hg
  split at hg
  · rename_i b e
    rcases eqB_of e with ⟨p, q, e1, e2, rfl⟩ | ⟨p, q, e1, e2, rfl⟩
    · cases res_str e1; cases res_str e2
      cases qx; cases qy
      obtain ⟨_, rfl⟩ := rx
      obtain ⟨_, rfl⟩ := ry
      exact PyProof.Rows.eq_str ⟨.bl _, H, I, rfl, Aft.here hs ⟨_, .bl _, hg⟩⟩
    · obtain ⟨as, h1, _⟩ := Rep.reads I _ _ _ _ (Rep.res hs qx) rx (cmpd_some e1).1
      obtain ⟨bs, h2, _⟩ := Rep.reads I _ _ _ _ (Rep.res hs qy) ry (cmpd_some e2).1
      exact SeqAt.compareEq_shaped h1 h2 (cmpd_some e1).2 (cmpd_some e2).2 hu ⟨.bl _, H, I, rfl, Aft.here hs ⟨_, .bl _, hg⟩⟩
  · exact hg.elim
theorem opd_ne (hu : X.A.units + 64 < cLine) : OpD X (compareOp .NotEq) gNe := by
  intro pins s σ H ph S r M x y dx dy v u Q I hs rx ry qx qy hg
  unfold gNe at hg
  split at hg
  · rename_i b e
    rcases eqB_of e with ⟨p, q, e1, e2, rfl⟩ | ⟨p, q, e1, e2, rfl⟩
    · cases res_str e1; cases res_str e2
      cases qx; cases qy
      obtain ⟨_, rfl⟩ := rx
      obtain ⟨_, rfl⟩ := ry
      exact PyProof.Rows.ne_str ⟨.bl _, H, I, rfl, Aft.here hs ⟨_, .bl _, hg⟩⟩
    · obtain ⟨as, h1, _⟩ := Rep.reads I _ _ _ _ (Rep.res hs qx) rx (cmpd_some e1).1
      obtain ⟨bs, h2, _⟩ := Rep.reads I _ _ _ _ (Rep.res hs qy) ry (cmpd_some e2).1
      exact SeqAt.compareNe_shaped h1 h2 (cmpd_some e1).2 (cmpd_some e2).2 hu ⟨.bl _, H, I, rfl, Aft.here hs ⟨_, .bl _, hg⟩⟩
  · exact hg.elim
/-- x in y, y a list -/
def gIn (neg : Bool) : G2 := fun x y M Q => match cmpd (res M x), cmpd (res M y) with
  | some p, some (.list ps) => Q (.bl ((ps.any fun z => PyData.eqv z p) != neg)) M
  | _, _ => False
theorem opd_in (hu : X.A.units + 65 < cLine) : OpD X (compareOp .In) (gIn false) := by
  intro pins s σ H ph S r M x y dx dy v u Q I hs rx ry qx qy hg
  unfold gIn at hg
  split at hg
  · rename_i p ps e1 e2
    obtain ⟨as, h1, _⟩ := Rep.reads I _ _ _ _ (Rep.res hs qx) rx (cmpd_some e1).1
    obtain ⟨bs, h2, _⟩ := Rep.reads I _ _ _ _ (Rep.res hs qy) ry (cmpd_some e2).1
    refine SeqAt.in_list_reads h2 h1 (SeqAt.canLay_of_shaped (cmpd_some e2).2) (SeqAt.canLay_of_shaped (cmpd_some e1).2) (room_in_shaped (cmpd_some e1).2 hu) ⟨.bl _, H, I, rfl, Aft.here hs ⟨_, .bl _, ?_⟩⟩
    rw [Bool.bne_false] at hg; exact hg
  · exact hg.elim
theorem opd_notin (hu : X.A.units + 65 < cLine) : OpD X (compareOp .NotIn) (gIn true) := by
  intro pins s σ H ph S r M x y dx dy v u Q I hs rx ry qx qy hg
  unfold gIn at hg
  split at hg
  · rename_i p ps e1 e2
    obtain ⟨as, h1, _⟩ := Rep.reads I _ _ _ _ (Rep.res hs qx) rx (cmpd_some e1).1
    obtain ⟨bs, h2, _⟩ := Rep.reads I _ _ _ _ (Rep.res hs qy) ry (cmpd_some e2).1
    refine SeqAt.notIn_list_reads h2 h1 (SeqAt.canLay_of_shaped (cmpd_some e2).2) (SeqAt.canLay_of_shaped (cmpd_some e1).2) (room_in_shaped (cmpd_some e1).2 hu) ⟨.bl _, H, I, rfl, Aft.here hs ⟨_, .bl _, ?_⟩⟩
    rw [Bool.bne_true] at hg; exact hg
  · exact hg.elim
end DL
/-! DL4: is, truth, chains, and/or/not, displays, subscripts, argument lists -/
namespace DL
open PySem PySem.Spec PyProof.Rows L2
variable {X : Cx}

/-! ### is -/
/-- x is y, y written None, True or False -/
def isB (x y : D) : Option Bool := match x, y with
  | .non, .non => some true
  | .bl b, .non => some false
  | .int _, .non => some false
  | .str _, .non => some false
  | .tup _, .non => some false
  | .lst _, .non => some false
  | .own _, .non => some false
  | .dct0, .non => some false
  | .exc _ _, .non => some false
  | .bl a, .bl b => some (decide (a = b))
  | .non, .bl _ => some false
  | .int _, .bl _ => some false
  | .str _, .bl _ => some false
  | .tup _, .bl _ => some false
  | .lst _, .bl _ => some false
  | .own _, .bl _ => some false
  | .dct0, .bl _ => some false
  | _, _ => none
def gIs (neg : Bool) : G2 := fun x y M Q => match isB x y with
  | some b => Q (.bl (b != neg)) M
  | none => False
theorem opd_is : OpD X (compareOp .Is) (gIs false) := by
  intro pins s σ H ph S r M x y dx dy v u Q I hs rx ry qx qy hg
  have fin : ∀ b : Bool, Q (.bl (b != false)) M → EP X pins σ (post X.K ph S r σ Q) (.bool b) s := fun b q => ⟨.bl b, H, I, rfl, Aft.here hs ⟨_, .bl _, by rwa [Bool.bne_false] at q⟩⟩
  cases dy <;> cases dx <;> first | exact hg.elim | skip
  all_goals cases qx <;> cases qy
  all_goals (first | (obtain ⟨t, rfl⟩ := rx) | cases rx)
  all_goals cases ry
  all_goals first
    | exact wpAny_is_other rfl (fun z => nomatch z) (fin false hg)
    | exact wpAny_is_self rfl (fin true hg)
    | skip
  rename_i b c
  by_cases e : c = b
  · subst e
    exact wpAny_is_self rfl (fin true (by simpa [gIs, isB] using hg))
  · exact wpAny_is_other rfl (fun z => e (Value.bool.inj z)) (fin false (by simpa [gIs, isB, e] using hg))
theorem opd_isnot : OpD X (compareOp .IsNot) (gIs true) := by
  intro pins s σ H ph S r M x y dx dy v u Q I hs rx ry qx qy hg
  have fin : ∀ b : Bool, Q (.bl (b != true)) M → EP X pins σ (post X.K ph S r σ Q) (.bool (!b)) s := fun b q => ⟨.bl (!b), H, I, rfl, Aft.here hs ⟨_, .bl _, by rwa [Bool.bne_true] at q⟩⟩
  cases dy <;> cases dx <;> first | exact hg.elim | skip
  all_goals cases qx <;> cases qy
  all_goals (first | (obtain ⟨t, rfl⟩ := rx) | cases rx)
  all_goals cases ry
  all_goals first
    | exact wpAny_isNot_other rfl (fun z => nomatch z) (fin false hg)
    | exact wpAny_isNot_self rfl (fin true hg)
    | skip
  rename_i b c
  by_cases e : c = b
  · subst e
    exact wpAny_isNot_self rfl (fin true (by simpa [gIs, isB] using hg))
  · exact wpAny_isNot_other rfl (fun z => e (Value.bool.inj z)) (fin false (by simpa [gIs, isB, e] using hg))

/-! ### truth -/
def tru (M : Mem) : D → Option Bool
  | .non => some false
  | .bl b => some b
  | .int i => some (i != 0)
  | .str x => if x.length ≤ sizeLine then some ((x.length : Int) != 0) else none
  | .tup l => some (!l.isEmpty)
  | .lst l => some (!l.isEmpty)
  | .own k => match M[k]? with
    | some (.lst l) => some (!l.isEmpty)
    | _ => none
  | .dct0 => some false
  | _ => none
theorem isEmp {K : PySem.W.Frag} {ph : Ph} {S : Hp} {xs : List V} {ds : List D} (h : RepAll K ph S xs ds) : (!ds.isEmpty) = !xs.isEmpty := by cases h <;> rfl
theorem tru_V {K : PySem.W.Frag} {ph : Ph} {S : Hp} {r : Env} {M : Mem} {σ : St} {H : Hp} {x : V} {d : D} {k : Bool} (hs : Sat K ph S r M σ H) (q : Rep K ph S x d) (h : tru M d = some k) : TruV K x H k := by
  cases d with
  | non => cases q; exact (Option.some.inj h).symm
  | bl b => cases q; exact (Option.some.inj h).symm
  | int i => cases q; exact (Option.some.inj h).symm
  | str z =>
    cases q
    have h' : (if z.length ≤ sizeLine then some ((z.length : Int) != 0) else none) = some k := h
    by_cases hz : z.length ≤ sizeLine
    · rw [if_pos hz] at h'
      exact ⟨hz, (Option.some.inj h').symm⟩
    · rw [if_neg hz] at h'; cases h'
  | tup l =>
    cases q with
    | tup h1 h2 => exact .inr (.inl ⟨_, SqT.of (hs.sub _ _ h1), by rw [← isEmp h2]; exact (Option.some.inj h).symm⟩)
  | lst l =>
    cases q with
    | lst h1 h2 => exact .inl ⟨_, SqL.of (hs.sub _ _ h1), by rw [← isEmp h2]; exact (Option.some.inj h).symm⟩
  | dct0 =>
    cases q with
    | dct0 h1 => exact .inr (.inr ⟨_, hs.sub _ _ h1, (Option.some.inj h).symm⟩)
  | own j =>
    cases q with
    | own h1 =>
      unfold tru at h
      dsimp only at h
      split at h
      · rename_i l hk
        obtain ⟨a, xs, c1, c2, c3, c4⟩ := hs.cell j l hk
        rw [h1] at c1; cases c1
        exact .inl ⟨_, SqL.of c3, by rw [← isEmp c4]; exact (Option.some.inj h).symm⟩
      · cases h
  | scr ns => cases h
  | exc C d => cases h
  | val v => cases h
/-- what d's truth is -/
def gTru (d : D) (M : Mem) (Q : Bool → Prop) : Prop := match tru M d with
  | some b => Q b
  | none => False
def dTru (t : DTE) : DTT := fun r M Q => t r M fun d M1 => gTru d M1 fun b => Q b M1
theorem gTru_some {d : D} {M : Mem} {Q : Bool → Prop} (h : gTru d M Q) : ∃ b, tru M d = some b ∧ Q b := by
  unfold gTru at h
  split at h
  · rename_i b e; exact ⟨b, e, h⟩
  · exact h.elim
/-- an expression as a test -/
theorem dt_tru {e : Expr} {t : DTE} (h : DE X e t) (he : ∀ whole, isTrue e X.env whole = (do let v ← whole; standAt e.pos; holding [v] (truthy v)) := by intro _; rfl) : DT X e (dTru t) :=
  DT.of (pt_truth h.pe he) fun ph S r M σ H Q hs ht Q' hq => ⟨ph, S, r, M, _, hs, ht, fun v H1 h1 => by
    obtain ⟨ph1, S1, M1, x1, hs1, d, q1, g1⟩ := h1
    obtain ⟨b, eb, qb⟩ := gTru_some g1
    exact ⟨b, tru_V hs1 q1 eb, hq _ _ ⟨ph1, S1, M1, x1, hs1, qb⟩⟩⟩
/-- a comparison as a test -/
theorem dt_cmp {a b : Expr} {ta tb : DTE} {op : CmpOp} {g : G2} {pos : Pos} (ho : OpD X (compareOp op) g) (ha : DE X a ta) (hb : DE X b tb) (hm : behindInMarks op b = false) : DT X (.Compare a [op] [b] pos) (dTru (dOp g ta tb)) :=
  ⟨⟨fun pins s σ H Q I ⟨ph, S, r, M, Q0, hs, ht, hq⟩ => wpAny_isTrue_Compare1 (binD ha hb I hs ht fun v u s2 x y dx dy H2 ph2 S2 M2 x2 I2 hs2 rx ry qx qy h =>
    thn (ho pins s2 σ H2 ph2 S2 r M2 x y dx dy v u _ I2 hs2 rx ry qx qy h) fun c s3 ⟨z, H3, I3, r3, ph3, S3, M3, x3, hs3, d, q3, g3⟩ => by
      obtain ⟨k, ek, qk⟩ := gTru_some g3
      exact tru_ok pins s3 σ H3 z c Q I3 r3 ⟨k, tru_V hs3 q3 ek, hq _ _ ⟨ph3, S3, M3, x2.trans x3, hs3, qk⟩⟩) hm⟩⟩

/-! ### a < b < c -/
def dChain (g g' : G2) (ta tb tc : DTE) : DTE := fun r M Q => ta r M fun x M1 => tb r M1 fun y M2 => g x y M2 fun z M3 => gTru z M3 fun k => if k = true then tc r M3 fun w M4 => g' y w M4 Q else Q z M3
theorem dt_chain {a b c : Expr} {ta tb tc : DTE} {op op' : CmpOp} {g g' : G2} {pos : Pos} (ho : OpD X (compareOp op) g) (ho' : OpD X (compareOp op') g') (ha : DE X a ta) (hb : DE X b tb) (hc : DE X c tc)
    (hm : lastMarks [op, op'] [b, c] = false := by with_unfolding_all rfl) : DT X (.Compare a [op, op'] [b, c] pos) (dTru (dChain g g' ta tb tc)) := by
  refine ⟨⟨fun pins s σ H Q I ⟨ph, S, r, M, Q0, hs, ht, hq⟩ => ?_⟩⟩
  refine isTrue_chain (thn (ha.pe.run pins s σ H _ I ⟨ph, S, r, M, _, hs, ht, fun _ _ q => q⟩) fun v s1 ⟨x, H1, I1, r1, ph1, S1, M1, x1, hs1, dx, q1, h1⟩ =>
    test_link (thn (hb.pe.run pins s1 σ H1 _ I1 ⟨ph1, S1, r, M1, _, hs1, h1, fun _ _ q => q⟩) fun u s2 ⟨y, H2, I2, r2, ph2, S2, M2, x2, hs2, dy, q2, h2⟩ =>
      thn (ho pins s2 σ H2 ph2 S2 r M2 x y dx dy v u _ I2 hs2 r1 r2 (q1.up x2) q2 h2) fun d s3 ⟨z, H3, I3, r3, ph3, S3, M3, x3, hs3, dz, q3, h3⟩ => ?_)) hm
  obtain ⟨k, ek, qk⟩ := gTru_some h3
  refine thn (tru_ok pins s3 σ H3 z d (fun b H' => b = k ∧ H' = H3) I3 r3 ⟨k, tru_V hs3 q3 ek, rfl, rfl⟩) fun b s4 ⟨H4, I4, eb, eH⟩ => ?_
  rw [eH] at I4
  rw [← eb] at qk ek
  cases b with
  | false =>
    have qk' : gTru dz M3 fun b => Q0 b M3 := qk
    obtain ⟨k2, e2, q2'⟩ := gTru_some qk'
    rw [ek] at e2
    cases e2
    exact ite_ff ⟨H3, I4, hq _ _ ⟨ph3, S3, M3, x1.trans (x2.trans x3), hs3, q2'⟩⟩
  | true =>
    refine ite_tt (test_last (thn (hc.pe.run pins s4 σ H3 _ I4 ⟨ph3, S3, r, M3, _, hs3, qk, fun _ _ q => q⟩) fun w' s5 ⟨z', H5, I5, r5, ph5, S5, M5, x5, hs5, dw, q5, h5⟩ =>
      thn (ho' pins s5 σ H5 ph5 S5 r M5 y z' dy dw u w' _ I5 hs5 r2 r5 (q2.up (x3.trans x5)) q5 h5) fun d' s6 ⟨z2, H6, I6, r6, ph6, S6, M6, x6, hs6, d6, q6, h6⟩ => ?_))
    obtain ⟨k2, e2, q2'⟩ := gTru_some h6
    exact tru_ok pins s6 σ H6 z2 d' Q I6 r6 ⟨k2, tru_V hs6 q6 e2, hq _ _ ⟨ph6, S6, M6, x1.trans (x2.trans (x3.trans (x5.trans x6))), hs6, q2'⟩⟩
theorem de_chain {a b c : Expr} {ta tb tc : DTE} {op op' : CmpOp} {g g' : G2} {pos : Pos} (ho : OpD X (compareOp op) g) (ho' : OpD X (compareOp op') g') (ha : DE X a ta) (hb : DE X b tb) (hc : DE X c tc)
    (hm : lastMarks [op, op'] [b, c] = false := by with_unfolding_all rfl) : DE X (.Compare a [op, op'] [b, c] pos) (dChain g g' ta tb tc) := by
  refine ⟨⟨fun pins s σ H Q I ⟨ph, S, r, M, Q0, hs, ht, hq⟩ => ?_⟩⟩
  refine Compare_chain (thn (ha.pe.run pins s σ H _ I ⟨ph, S, r, M, _, hs, ht, fun _ _ q => q⟩) fun v s1 ⟨x, H1, I1, r1, ph1, S1, M1, x1, hs1, dx, q1, h1⟩ =>
    chain_link (thn (hb.pe.run pins s1 σ H1 _ I1 ⟨ph1, S1, r, M1, _, hs1, h1, fun _ _ q => q⟩) fun u s2 ⟨y, H2, I2, r2, ph2, S2, M2, x2, hs2, dy, q2, h2⟩ =>
      thn (ho pins s2 σ H2 ph2 S2 r M2 x y dx dy v u _ I2 hs2 r1 r2 (q1.up x2) q2 h2) fun d s3 ⟨z, H3, I3, r3, ph3, S3, M3, x3, hs3, dz, q3, h3⟩ => ?_)) hm
  obtain ⟨k, ek, qk⟩ := gTru_some h3
  refine thn (tru_ok pins s3 σ H3 z d (fun b H' => b = k ∧ H' = H3) I3 r3 ⟨k, tru_V hs3 q3 ek, rfl, rfl⟩) fun b s4 ⟨H4, I4, eb, eH⟩ => ?_
  rw [eH] at I4
  rw [← eb] at qk
  cases b with
  | false => exact ite_ff ⟨z, H3, I4, r3, hq _ _ ⟨ph3, S3, M3, x1.trans (x2.trans x3), hs3, _, q3, qk⟩⟩
  | true =>
    exact ite_tt (chain_last (thn (hc.pe.run pins s4 σ H3 _ I4 ⟨ph3, S3, r, M3, _, hs3, qk, fun _ _ q => q⟩) fun w' s5 ⟨z', H5, I5, r5, ph5, S5, M5, x5, hs5, dw, q5, h5⟩ =>
      thn (ho' pins s5 σ H5 ph5 S5 r M5 y z' dy dw u w' _ I5 hs5 r2 r5 (q2.up (x3.trans x5)) q5 h5) fun d' s6 q6 => EP.up (x1.trans (x2.trans (x3.trans x5))) q6 hq))

/-! ### and, or, not -/
def dAnd (t u : DTT) : DTT := fun r M Q => t r M fun c M1 => if c = true then u r M1 Q else Q false M1
def dOr (t u : DTT) : DTT := fun r M Q => t r M fun c M1 => if c = true then Q true M1 else u r M1 Q
def dNot (t : DTT) : DTT := fun r M Q => t r M fun c M1 => Q (!c) M1
variable {a b : Expr} {rest : List Expr} {pos : Pos}
theorem DW.dt {e : Expr} {t : DTT} (h : DW X e t) : DT X e t := ⟨h.pw.pt⟩
theorem dw_and1 {t : DTT} (h : DT X a t) : DW X (.BoolOp .And [a] pos) t := ⟨pw_and1 h.pt⟩
theorem dw_or1 {t : DTT} (h : DT X a t) : DW X (.BoolOp .Or [a] pos) t := ⟨pw_or1 h.pt⟩
theorem dw_and {t u : DTT} (h : DT X a t) (h2 : DW X (.BoolOp .And (b :: rest) pos) u) : DW X (.BoolOp .And (a :: b :: rest) pos) (dAnd t u) :=
  DW.of (pw_and h.pt h2.pw) fun ph S r M σ H Q hs ht Q' hq => ⟨ph, S, r, M, _, hs, ht, fun c H1 ⟨ph1, S1, M1, x1, hs1, h1⟩ => by
    cases c with
    | true => exact ⟨ph1, S1, r, M1, _, hs1, h1, fun c' H2 h2 => hq _ _ (Aft.up x1 h2)⟩
    | false => exact hq _ _ ⟨ph1, S1, M1, x1, hs1, h1⟩⟩
theorem dw_or {t u : DTT} (h : DT X a t) (h2 : DW X (.BoolOp .Or (b :: rest) pos) u) : DW X (.BoolOp .Or (a :: b :: rest) pos) (dOr t u) :=
  DW.of (pw_or h.pt h2.pw) fun ph S r M σ H Q hs ht Q' hq => ⟨ph, S, r, M, _, hs, ht, fun c H1 ⟨ph1, S1, M1, x1, hs1, h1⟩ => by
    cases c with
    | false => exact ⟨ph1, S1, r, M1, _, hs1, h1, fun c' H2 h2 => hq _ _ (Aft.up x1 h2)⟩
    | true => exact hq _ _ ⟨ph1, S1, M1, x1, hs1, h1⟩⟩
theorem dt_not {t : DTT} (h : DT X a t) : DT X (.UnaryOp .Not a pos) (dNot t) :=
  DT.of (pt_not h.pt) fun ph S r M σ H Q hs ht Q' hq => ⟨ph, S, r, M, _, hs, ht, fun c H1 h1 => hq _ _ h1⟩
/-- as values -/
def dAndV (t u : DTE) : DTE := fun r M Q => t r M fun d M1 => gTru d M1 fun c => if c = true then u r M1 Q else Q d M1
def dOrV (t u : DTE) : DTE := fun r M Q => t r M fun d M1 => gTru d M1 fun c => if c = true then Q d M1 else u r M1 Q
def dNotV (t : DTE) : DTE := fun r M Q => t r M fun d M1 => gTru d M1 fun c => Q (.bl (!c)) M1
theorem de_one {op} {t : DTE} (h : DE X a t) : DE X (.BoolOp op [a] pos) t := ⟨pe_one h.pe⟩
theorem de_and {t u : DTE} (h : DE X a t) (h2 : DE X (.BoolOp .And (b :: rest) pos) u) : DE X (.BoolOp .And (a :: b :: rest) pos) (dAndV t u) :=
  DE.of (pe_andT h.pe h2.pe) fun ph S r M σ H Q hs ht Q' hq => ⟨ph, S, r, M, _, hs, ht, fun v H1 ⟨ph1, S1, M1, x1, hs1, d, q1, g1⟩ => by
    obtain ⟨c, ec, qc⟩ := gTru_some g1
    refine ⟨c, tru_V hs1 q1 ec, ?_⟩
    cases c with
    | true => exact ⟨ph1, S1, r, M1, _, hs1, qc, fun c' H2 h2 => hq _ _ (Aft.up x1 h2)⟩
    | false => exact hq _ _ ⟨ph1, S1, M1, x1, hs1, _, q1, qc⟩⟩
theorem de_or {t u : DTE} (h : DE X a t) (h2 : DE X (.BoolOp .Or (b :: rest) pos) u) : DE X (.BoolOp .Or (a :: b :: rest) pos) (dOrV t u) :=
  DE.of (pe_orT h.pe h2.pe) fun ph S r M σ H Q hs ht Q' hq => ⟨ph, S, r, M, _, hs, ht, fun v H1 ⟨ph1, S1, M1, x1, hs1, d, q1, g1⟩ => by
    obtain ⟨c, ec, qc⟩ := gTru_some g1
    refine ⟨c, tru_V hs1 q1 ec, ?_⟩
    cases c with
    | false => exact ⟨ph1, S1, r, M1, _, hs1, qc, fun c' H2 h2 => hq _ _ (Aft.up x1 h2)⟩
    | true => exact hq _ _ ⟨ph1, S1, M1, x1, hs1, _, q1, qc⟩⟩
theorem de_not {t : DTE} (h : DE X a t) : DE X (.UnaryOp .Not a pos) (dNotV t) :=
  DE.of (pe_notT h.pe) fun ph S r M σ H Q hs ht Q' hq => ⟨ph, S, r, M, _, hs, ht, fun v H1 ⟨ph1, S1, M1, x1, hs1, d, q1, g1⟩ => by
    obtain ⟨c, ec, qc⟩ := gTru_some g1
    exact ⟨c, tru_V hs1 q1 ec, hq _ _ ⟨ph1, S1, M1, x1, hs1, _, .bl _, qc⟩⟩⟩
/-- a if t else b -/
def dIf (t : DTT) (u w : DTE) : DTE := fun r M Q => t r M fun c M1 => if c = true then u r M1 Q else w r M1 Q
theorem de_if {c : Expr} {t : DTT} {u w : DTE} (h : DT X c t) (h1 : DE X a u) (h2 : DE X b w) : DE X (.IfExp c a b pos) (dIf t u w) :=
  DE.of (pe_ifExp h.pt h1.pe h2.pe) fun ph S r M σ H Q hs ht Q' hq => ⟨ph, S, r, M, _, hs, ht, fun c H1 ⟨ph1, S1, M1, x1, hs1, g1⟩ => by
    cases c with
    | true => exact ⟨ph1, S1, r, M1, _, hs1, g1, fun c' H2 h2 => hq _ _ (Aft.up x1 h2)⟩
    | false => exact ⟨ph1, S1, r, M1, _, hs1, g1, fun c' H2 h2 => hq _ _ (Aft.up x1 h2)⟩⟩
/-- -a -/
def gNeg (d : D) (M : Mem) (Q : DQ) : Prop := match d with
  | .int i => Q (.int (-i)) M
  | _ => False
def dNeg (t : DTE) : DTE := fun r M Q => t r M fun d M1 => gNeg d M1 Q
theorem de_neg {t : DTE} (h : DE X a t) : DE X (.UnaryOp .USub a pos) (dNeg t) :=
  DE.of (pe_un un_neg h.pe) fun ph S r M σ H Q hs ht Q' hq => ⟨ph, S, r, M, _, hs, ht, fun v H1 ⟨ph1, S1, M1, x1, hs1, d, q1, g1⟩ => by
    cases d <;> first | exact g1.elim | skip
    cases q1
    exact ⟨_, rfl, hq _ _ ⟨ph1, S1, M1, x1, hs1, _, .int _, g1⟩⟩⟩

/-! ### argument lists, displays -/
def dNil : DTA := fun _ M Q => Q [] M
def dCons (t : DTE) (u : DTA) : DTA := fun r M Q => t r M fun d M1 => u r M1 fun ds M2 => Q (d :: ds) M2
theorem da_nil : DA X [] dNil := DA.of pa_nil fun ph S r M σ H Q hs ht Q' hq => hq _ _ (Aft.here hs ⟨_, .nil, ht⟩)
theorem da_cons {e : Expr} {es : List Expr} {t : DTE} {u : DTA} (h : DE X e t) (h2 : DA X es u) (hs : starEach (e :: es) X.env = (false, eval e X.env) :: starEach es X.env := by rfl) : DA X (e :: es) (dCons t u) :=
  DA.of (pa_cons h.pe h2.pa hs) fun ph S r M σ H Q hs ht Q' hq => ⟨ph, S, r, M, _, hs, ht, fun v H1 ⟨ph1, S1, M1, x1, hs1, d, q1, g1⟩ =>
    ⟨ph1, S1, r, M1, _, hs1, g1, fun vs H2 ⟨ph2, S2, M2, x2, hs2, ds, q2, g2⟩ => hq _ _ ⟨ph2, S2, M2, x1.trans x2, hs2, _, .cons (q1.up x2) q2, g2⟩⟩⟩
def dTup (t : DTA) : DTE := fun r M Q => t r M fun ds M1 => ds.length ≤ sizeLine ∧ Q (.tup ds) M1
def dLst (t : DTA) : DTE := fun r M Q => t r M fun ds M1 => ds.length ≤ sizeLine ∧ Q (.lst ds) M1
/-- a list that will be changed -/
def dOwn (t : DTA) : DTE := fun r M Q => t r M fun ds M1 => ds.length ≤ sizeLine ∧ Q (.own M1.length) (M1 ++ [.lst ds])
theorem de_tup {es : List Expr} {x1} {t : DTA} (h : DA X es t) : DE X (.Tuple es x1 pos) (dTup t) :=
  DE.of (pe_tup h.pa) fun ph S r M σ H Q hs ht Q' hq => ⟨ph, S, r, M, _, hs, ht, fun vs H1 ⟨ph1, S1, M1, x1, hs1, ds, q1, hz, g1⟩ =>
    ⟨by rw [q1.len]; exact hz, fun p hp => hq _ _ (Aft.up x1 (Aft.frz hs1 hp fun x => ⟨_, .tup upd_same (q1.up x), g1⟩))⟩⟩
theorem de_lst {es : List Expr} {t : DTA} (h : DA X es t) : DE X (.List es pos) (dLst t) :=
  DE.of (pe_lst h.pa) fun ph S r M σ H Q hs ht Q' hq => ⟨ph, S, r, M, _, hs, ht, fun vs H1 ⟨ph1, S1, M1, x1, hs1, ds, q1, hz, g1⟩ =>
    ⟨by rw [q1.len]; exact hz, fun p hp => hq _ _ (Aft.up x1 (Aft.frz hs1 hp fun x => ⟨_, .lst upd_same (q1.up x), g1⟩))⟩⟩
theorem Aft.own {K : PySem.W.Frag} {ph : Ph} {S : Hp} {r : Env} {σ : St} {H : Hp} {M : Mem} {p : Addr} {xs : List V} {ds : List D} {Q : DQ} (h : Sat K ph S r M σ H) (hp : H p = none) (hr : RepAll K ph S xs ds) (q : Q (.own M.length) (M ++ [.lst ds])) :
    post K ph S r σ Q (.ref p) (upd H p (.lst xs)) :=
  let ⟨x, hs, e⟩ := h.new hp hr
  ⟨_, _, _, x, hs, _, .own e, q⟩
theorem de_own {es : List Expr} {t : DTA} (h : DA X es t) : DE X (.List es pos) (dOwn t) :=
  DE.of (pe_lst h.pa) fun ph S r M σ H Q hs ht Q' hq => ⟨ph, S, r, M, _, hs, ht, fun vs H1 ⟨ph1, S1, M1, x1, hs1, ds, q1, hz, g1⟩ =>
    ⟨by rw [q1.len]; exact hz, fun p hp => hq _ _ (Aft.up x1 (Aft.own hs1 hp q1 g1))⟩⟩
theorem de_dct0 : DE X (.Dict [] [] pos) (dC .dct0) :=
  DE.of pe_dnewK fun ph S r M σ H Q hs ht Q' hq p hp => hq _ _ (Aft.frz hs hp fun x => ⟨_, .dct0 upd_same, ht⟩)

/-! ### subscripts -/
/-- d's item at i, for every kind of sequence -/
def gIx : G2 := fun x y M Q => match res M x, y with
  | .lst l, .int i => match atI l i with
    | some d => Q d M
    | none => False
  | .tup l, .int i => match atI l i with
    | some d => Q d M
    | none => False
  | .scr ns, .int i => match atI ns i with
    | some n => Q (.int n) M
    | none => False
  | _, _ => False
theorem atI_rep {K : PySem.W.Frag} {ph : Ph} {S : Hp} {vs : List V} {ds : List D} {i : Int} {d : D} (h : RepAll K ph S vs ds) (e : atI ds i = some d) : ∃ v, atI vs i = some v ∧ Rep K ph S v d := by
  unfold atI at e ⊢
  rw [h.len]
  cases q : ixN ds.length i with
  | none => rw [q] at e; cases e
  | some j =>
    rw [q] at e
    exact h.get e
theorem atI_map {α β : Type} {f : α → β} {l : List α} {i : Int} {x : α} (e : atI l i = some x) : atI (l.map f) i = some (f x) := by
  unfold atI at e ⊢
  rw [List.length_map]
  cases q : ixN l.length i with
  | none => rw [q] at e; cases e
  | some j =>
    rw [q] at e
    show (l.map f)[j]? = _
    rw [List.getElem?_map]
    rw [show l[j]? = some x from e]
    rfl
theorem Rep.unS {K : PySem.W.Frag} {ph : Ph} {S : Hp} {r : Env} {M : Mem} {σ : St} {H : Hp} {v : V} {d : D} (hs : Sat K ph S r M σ H) {xs : List V} (_ : RepAll K ph S xs [d]) (q : Rep K ph S v d) : Rep K ph S v d := q
/-- an owned list's items represent over S -/
theorem res_lst {K : PySem.W.Frag} {ph : Ph} {S : Hp} {r : Env} {M : Mem} {σ : St} {H : Hp} {v : V} {d : D} {l : List D} (hs : Sat K ph S r M σ H) (q : Rep K ph S v d) (e : res M d = .lst l) : ∃ a xs, v = .ref a ∧ H a = some (.lst xs) ∧ RepAll K ph S xs l := by
  cases d <;> first | (unfold res at e; cases e; done) | skip
  · cases e
    cases q with
    | lst h1 h2 => exact ⟨_, _, rfl, hs.sub _ _ h1, h2⟩
  · rename_i k
    unfold res at e
    dsimp only at e
    split at e
    · rename_i ds hk
      cases e
      cases q with
      | own h =>
        obtain ⟨a, xs, c1, c2, c3, c4⟩ := hs.cell k _ hk
        rw [h] at c1; cases c1
        exact ⟨_, _, rfl, c3, c4⟩
    · cases e
theorem res_same {M : Mem} {d : D} (h : ∀ k, d ≠ .own k) : res M d = d := by
  cases d <;> first | rfl | exact absurd rfl (h _)
theorem res_tup {M : Mem} {d : D} {l : List D} (e : res M d = .tup l) : d = .tup l := by
  cases d <;> first | exact e | skip
  unfold res at e
  dsimp only at e
  split at e <;> cases e
theorem res_scr {M : Mem} {d : D} {l : List Int} (e : res M d = .scr l) : d = .scr l := by
  cases d <;> first | exact e | skip
  unfold res at e
  dsimp only at e
  split at e <;> cases e
theorem de_ix {ta tb : DTE} (ha : DE X a ta) (hb : DE X b tb) (hs : PlainIx b := by exact fun _ _ => rfl) : DE X (.Subscript a b pos) (dOp gIx ta tb) :=
  DE.of (pe_ix (ix_list.or ix_tup) ha.pe hb.pe hs) fun ph S r M σ H Q hs ht Q' hq => ⟨ph, S, r, M, _, hs, ht, fun v H1 ⟨ph1, S1, M1, x1, hs1, d, q1, g1⟩ =>
    ⟨ph1, S1, r, M1, _, hs1, g1, fun u H2 ⟨ph2, S2, M2, x2, hs2, e, q2, g2⟩ => by
      have q1' := q1.up x2
      have xx := x1.trans x2
      replace g2 : gIx d e M2 Q := g2
      unfold gIx at g2
      split at g2
      · rename_i l i er
        cases q2
        split at g2
        · rename_i d' ei
          obtain ⟨p, xs, rfl, hp, hx⟩ := res_lst hs2 q1' er
          obtain ⟨w, ew, qw⟩ := atI_rep hx ei
          exact .inl ⟨p, xs, i, w, rfl, rfl, SqL.of hp, ew, hq _ _ ⟨ph2, S2, M2, xx, hs2, _, qw, g2⟩⟩
        · exact g2.elim
      · rename_i l i er
        cases q2
        split at g2
        · rename_i d' ei
          cases res_tup er
          cases q1' with
          | tup h1 h2 =>
            obtain ⟨w, ew, qw⟩ := atI_rep h2 ei
            exact .inr ⟨_, _, i, w, rfl, rfl, SqT.of (hs2.sub _ _ h1), ew, hq _ _ ⟨ph2, S2, M2, xx, hs2, _, qw, g2⟩⟩
        · exact g2.elim
      · rename_i ns i er
        cases q2
        split at g2
        · rename_i n ei
          cases res_scr er
          cases q1' with
          | scr h1 => exact .inl ⟨_, _, i, _, rfl, rfl, hs2.sub.seq h1, atI_map ei, hq _ _ ⟨ph2, S2, M2, xx, hs2, _, .int _, g2⟩⟩
        · exact g2.elim
      · exact g2.elim⟩⟩
end DL
/-! DL5: defs and their calls -/
namespace DL
open PySem PySem.Spec PyProof.Rows L2

/-! ### a def's promise over the hand layer, where no guard runs -/
structure FnG (P : Program) (w : World) (K : PySem.W.Frag) (mg : Str → Option Value) (base : Heap) (CX : CXT) (k : Nat) (f : Addr) (fd : FuncData) (ps : List Str) (sp : Sp) : Prop where
  len : ∀ vs H Q E, sp vs H Q E → vs.length = ps.length
  run : ∀ (A : Around) (outer : List PySem.Env) (s : Shared) (H : Hp) (args : Args) (us : List Value) (vs : List V) (Q : VK) (E : XK), Room k A → A.guards = some [] → Env0 P w K mg base A outer s H → BindsTo s fd args (ps.zip us) → Vals vs us → sp vs H Q E →
    codeAny (model P w) A (.call (.ref f) args) (CR CX outer P w H s Q E) s
theorem FnG.mono {P : Program} {w : World} {K : PySem.W.Frag} {mg : Str → Option Value} {base : Heap} {CX : CXT} {j k : Nat} {f : Addr} {fd : FuncData} {ps : List Str} {sp : Sp} (F : FnG P w K mg base CX j f fd ps sp) (h : j ≤ k) :
    FnG P w K mg base CX k f fd ps sp := ⟨F.len, fun A outer s H args us vs Q E hr => F.run A outer s H args us vs Q E (hr.mono h)⟩
section
variable {X : Cx} {CX : CXT} {k : Nat} {f : Addr} {fd : FuncData} {ps : List Str} {sp : Sp} {dvs : List V} {ds : List Value} {E : XK} {x : Str} {p pos : Pos} {e : Expr} {es : List Expr} {t : TA}
theorem run_fnG {pins : List (Addr × Obj)} {σ : St} {H : Hp} {s : Shared} {Q : VK} {us : List Value} {vs : List V} (F : FnG X.prog X.w X.K X.mg X.base CX k f fd ps sp) (hr : Room k X.A) (gd : X.A.guards = some []) (hb : Binds X.K fd ps ds) (hd : Vals dvs ds) (hx : Passes CX X E)
    (I : Inv X pins σ H s) (r : Vals vs us) (h : sp (vs ++ dvs) H Q E) : wpAny (model X.prog X.w) X.A (call (.ref f) us) (EP X pins σ Q) X.xe s := by
  have r2 : Vals (vs ++ dvs) (us ++ ds) := r.append hd
  have hl : (us ++ ds).length = ps.length := by rw [← r2.length]; exact F.len _ _ _ _ h
  refine wpAny_call (codeAny_mono (F.run X.A X.stack s H ⟨us, []⟩ (us ++ ds) (vs ++ dvs) Q E hr gd I.env0 (hb s us I.kIn hl) r2 h) fun r s' hq => ?_)
  match r, hq with
  | .error e, hq => exact hx pins σ H s e s' I hq
  | .ok (.ret u), hq => exact I.after hq
  | .ok .next, hq => exact False.elim hq
  | .ok .brk, hq => exact False.elim hq
  | .ok .cont, hq => exact False.elim hq
theorem pe_callG (F : FnG X.prog X.w X.K X.mg X.base CX k f fd ps sp) (hr : Room k X.A) (gd : X.A.guards = some []) (hg : Gl X x) (hm : X.mg x = some (.ref f)) (hk : PySem.W.keepIn X.K (.ref f) = true) (hb : Binds X.K fd ps ds) (hd : Vals dvs ds) (hx : Passes CX X E)
    (ha : PA X (e :: es) t) (hdb : (x == ("__debug__" : Str)) = false := by decide) (he : starEach (e :: es) X.env = (false, eval e X.env) :: starEach es X.env := by rfl) (hpl : (backTo pos (starEach es X.env)).any (·.1) = false := by rfl) :
    PE X (.Call (.Name x p) (e :: es) [] pos) (tCall sp dvs E t) :=
  ⟨fun pins s σ H Q I h => wpAny_Call_Name_kw (ld_glob I hg hm (PySem.W.callWith_K (h₀ := X.base) I.ok.mod.kin hk (thn (ha.run pos pins s σ H _ I h) fun us s1 ⟨vs, H1, I1, r, q⟩ => ⟨I1.kIn, run_fnG F hr gd hb hd hx I1 r q⟩) he hpl) hdb)⟩
theorem pe_callG0 (F : FnG X.prog X.w X.K X.mg X.base CX k f fd ps sp) (hr : Room k X.A) (gd : X.A.guards = some []) (hg : Gl X x) (hm : X.mg x = some (.ref f)) (hk : PySem.W.keepIn X.K (.ref f) = true) (hb : Binds X.K fd ps ds) (hd : Vals dvs ds) (hx : Passes CX X E)
    (hdb : (x == ("__debug__" : Str)) = false := by decide) : PE X (.Call (.Name x p) [] [] pos) (tCall sp dvs E tNil) :=
  ⟨fun pins s σ H Q I h => wpAny_Call_Name_kw (ld_glob I hg hm (PySem.W.callWith_K0 I.kIn hk (run_fnG (us := []) F hr gd hb hd hx I .nil h)) hdb)⟩
end
theorem guards_deeper {A : Around} {env : PySem.Env} (h : A.guards = some []) : (A.deeper env).guards = some [] := h
/-- a def by its body -/
theorem fnG_of {CX : CXT} {P : Program} {w : World} {K : PySem.W.Frag} {mg : Str → Option Value} {base : Heap} {k : Nat} {f : Addr} {name qual : Str} {params : Arguments} {body : List Stmt} {scope : Scope} {dV kV doc pm cdv ct oc : Value} {an od : Option Addr}
    {osl : Array (Option Value)} {N ps : List Str} {sp : Sp} (lk : K.lookup f = some ⟨oc, od, .func (PySem.W.fnOf name qual params body scope dV kV doc pm an cdv ct), osl⟩) (hcd : PySem.W.codeIn K cdv qual = true) (S : FnScope N ps scope)
    (len : ∀ vs H Q E, sp vs H Q E → vs.length = ps.length)
    (hbody : ∀ (A : Around) (outer : List PySem.Env) (s : Shared) (H : Hp) (vs : List V) (Q : VK) (E : XK), Room k (A.deeper (envOfC qual scope s.heap.objs.size f cdv)) → A.guards = some [] → sp vs H Q E →
      ∃ t, PSs (cxOf CX P w K mg base N qual scope f cdv A outer s H E) body t ∧ t { nx := fun _ H' => Q .non H', rt := Q } (start N vs) H) :
    FnG P w K mg base CX (k + 1) f (PySem.W.fnOf name qual params body scope dV kV doc pm an cdv ct) ps sp := by
  refine ⟨len, fun A outer s H args us vs Q E hr gd e0 hb r hsp => ?_⟩
  have hl := len _ _ _ _ hsp
  have KX : K.In s.heap := e0.mod.kin.keeps fun b o e => (e0.bs b o e).1
  have lim : s.heap.NoLimit := e0.mod.nolimit.keeps fun b o e => (e0.bs b o e).1
  refine codeAny_call_function hr.depth (KX _ _ lk) rfl S.co S.gen rfl (PySem.W.codeRec_of KX hcd) (hb _ _ _ _ ?_)
  refine wpAny_newFunctionEnv_cells S.kind (fun y hy => ?_) fun env he s1 x => ?_
  · rcases S.par y.1 (List.of_mem_zip (a := y.1) (b := y.2) hy).1 with q | q
    · exact .inl q
    · exact .inr ⟨q, PySem.W.cellsFrom_some _ _ _ (.inl q)⟩
  subst he
  refine ⟨lim.keeps x.toInCall.keep, codeAny_func ?_⟩
  obtain ⟨t, ht, hq⟩ := hbody A outer s H vs Q E (hr.deeper _) gd hsp
  have I : Inv (cxOf CX P w K mg base N qual scope f cdv A outer s H E) [] (start N vs) H s1 := inv_start S hr.hd e0 hl r x
  refine wpAny_mono (ht.run [] s1 (start N vs) H _ I hq) (fun fl s' hs => ?_) fun e s' hs => hs
  match fl, hs with
  | .ret u, ⟨v, σ', H', J, rv, q⟩ => exact ⟨v, H', J.os, J.bare, J.base, J.hok, rv, q⟩
  | .next, ⟨σ', H', J, q⟩ => exact ⟨V.non, H', J.os, J.bare, J.base, J.hok, rfl, q⟩
  | .brk, ⟨_, _, _, q⟩ => exact False.elim q
  | .cont, ⟨_, _, _, q⟩ => exact False.elim q

/-! ### a def's promise over data -/
/-- what is wanted of an exception: its class, its value, the cells -/
abbrev DX := Addr → D → Mem → Prop
abbrev DSp := List D → Mem → DQ → DX → Prop
def DX0 : DX := fun _ _ _ => False
def postM (K : PySem.W.Frag) (ph : Ph) (S : Hp) (Q : DQ) : VK := post K ph S [] [] Q
def postX (K : PySem.W.Frag) (ph : Ph) (S : Hp) (E : DX) : XK := fun cls d H => ∃ (C dd : Addr) (v : V) (dv : D), cls = .ref C ∧ d = some dd ∧
  Aft K ph S [] [] H fun ph' S' M => S' dd = some (.xd [(fVal, v)]) ∧ Rep K ph' S' v dv ∧ E C dv M
def lfSp (K : PySem.W.Frag) (n : Nat) (sp : DSp) : Sp := fun vs H Q E => ∃ ph S M ds Q0 E0, ds.length = n ∧ Sat K ph S [] M [] H ∧ RepAll K ph S vs ds ∧ sp ds M Q0 E0 ∧ (∀ v H', postM K ph S Q0 v H' → Q v H') ∧ (∀ cls d H', postX K ph S E0 cls d H' → E cls d H')
abbrev FnD (P : Program) (w : World) (K : PySem.W.Frag) (mg : Str → Option Value) (base : Heap) (CX : CXT) (k : Nat) (f : Addr) (fd : FuncData) (ps : List Str) (sp : DSp) : Prop :=
  FnG P w K mg base CX k f fd ps (lfSp K ps.length sp)
theorem Sat.drop {K : PySem.W.Frag} {ph : Ph} {S : Hp} {r : Env} {M : Mem} {σ : St} {H : Hp} (h : Sat K ph S r M σ H) : Sat K ph S [] M [] H :=
  ⟨h.sub, h.len, h.nd, h.trk, h.cell, h.hid, h.hnd, rfl, fun i d e => by simp at e⟩
/-- behind a call the names are as they were -/
theorem Sat.back {K : PySem.W.Frag} {ph ph' : Ph} {S S' : Hp} {r : Env} {M M' : Mem} {σ : St} {H H' : Hp} (h : Sat K ph S r M σ H) (x : Ext ph S ph' S') (h' : Sat K ph' S' [] M' [] H') : Sat K ph' S' r M' σ H' :=
  ⟨h'.sub, h'.len, h'.nd, h'.trk, h'.cell, h'.hid, h'.hnd, h.el, fun i d e => let ⟨v, e1, q⟩ := h.env i d e; ⟨v, e1, q.up x⟩⟩
section
variable {X : Cx} {CX : CXT} {k : Nat} {f : Addr} {fd : FuncData} {ps : List Str} {sp : DSp} {x : Str} {p pos : Pos} {e : Expr} {es : List Expr} {t : DTA}
/-- f(..), then the defaults -/
def dCall (n : Nat) (sp : DSp) (dvs : List D) (E : DX) (t : DTA) : DTE := fun r M Q => t r M fun ds M1 => (ds ++ dvs).length = n ∧ sp (ds ++ dvs) M1 Q E
/-- a value that is the same everywhere -/
def Cst (K : PySem.W.Frag) (v : V) (d : D) : Prop := ∀ ph S, Rep K ph S v d
inductive Csts (K : PySem.W.Frag) : List V → List D → Prop
  | nil : Csts K [] []
  | cons {v : V} {d : D} {vs : List V} {ds : List D} : Cst K v d → Csts K vs ds → Csts K (v :: vs) (d :: ds)
theorem Csts.rep {K : PySem.W.Frag} {ph : Ph} {S : Hp} : ∀ {vs : List V} {ds : List D}, Csts K vs ds → RepAll K ph S vs ds
  | _, _, .nil => .nil
  | _, _, .cons h t => .cons (h _ _) t.rep
theorem lf_call {t' : TA} {dvs : List V} {dds : List D} {E' : XK} {E : DX} (hE : ∀ ph S cls d H', postX X.K ph S E cls d H' → E' cls d H') (hc : Csts X.K dvs dds) {ph : Ph} {S : Hp} {r : Env} {M : Mem} {σ : St} {H : Hp} {Q : DQ} {Q' : VK} (hs : Sat X.K ph S r M σ H) (ht : dCall ps.length sp dds E t r M Q) (hq : ∀ v H', post X.K ph S r σ Q v H' → Q' v H')
    (w : ∀ Q1 : List V → Hp → Prop, (∀ vs H', postA X.K ph S r σ (fun ds M1 => (ds ++ dds).length = ps.length ∧ sp (ds ++ dds) M1 Q E) vs H' → Q1 vs H') → t' σ H Q1) : tCall (lfSp X.K ps.length sp) dvs E' t' σ H Q' :=
  w _ fun vs H1 ⟨ph1, S1, M1, x1, hs1, ds, q1, hl, h1⟩ => ⟨ph1, S1, M1, ds ++ dds, Q, E, hl, hs1.drop, q1.app hc.rep, h1, fun v H2 ⟨ph2, S2, M2, x2, hs2, d, q2, h2⟩ => hq _ _ ⟨ph2, S2, M2, x1.trans x2, hs1.back x2 hs2, d, q2, h2⟩, fun cls d H2 h2 => hE _ _ _ _ _ h2⟩
theorem de_callX {dvs : List V} {dds : List D} {ds : List Value} {E' : XK} {E : DX} (F : FnD X.prog X.w X.K X.mg X.base CX k f fd ps sp) (hr : Room k X.A) (gd : X.A.guards = some []) (hm : X.mg x = some (.ref f)) (hk : PySem.W.keepIn X.K (.ref f) = true) (hb : Binds X.K fd ps ds) (hd : Vals dvs ds) (hc : Csts X.K dvs dds) (hx : Passes CX X E') (hE : ∀ ph S cls d H', postX X.K ph S E cls d H' → E' cls d H')
    (ha : DA X (e :: es) t) (hg : Gl X x := by rfl) (hdb : (x == ("__debug__" : Str)) = false := by decide) (he : starEach (e :: es) X.env = (false, eval e X.env) :: starEach es X.env := by rfl) (hpl : (backTo pos (starEach es X.env)).any (·.1) = false := by rfl) :
    DE X (.Call (.Name x p) (e :: es) [] pos) (dCall ps.length sp dds E t) :=
  DE.of (pe_callG F hr gd hg hm hk hb hd hx ha.pa hdb he hpl) fun ph S r M σ H Q hs ht Q' hq => lf_call hE hc hs ht hq fun Q1 hQ1 => ⟨ph, S, r, M, _, hs, ht, hQ1⟩
theorem de_call0X {dvs : List V} {dds : List D} {ds : List Value} {E' : XK} {E : DX} (F : FnD X.prog X.w X.K X.mg X.base CX k f fd ps sp) (hr : Room k X.A) (gd : X.A.guards = some []) (hm : X.mg x = some (.ref f)) (hk : PySem.W.keepIn X.K (.ref f) = true) (hb : Binds X.K fd ps ds) (hd : Vals dvs ds) (hc : Csts X.K dvs dds) (hx : Passes CX X E') (hE : ∀ ph S cls d H', postX X.K ph S E cls d H' → E' cls d H')
    (hg : Gl X x := by rfl) (hdb : (x == ("__debug__" : Str)) = false := by decide) : DE X (.Call (.Name x p) [] [] pos) (dCall ps.length sp dds E dNil) :=
  DE.of (pe_callG0 F hr gd hg hm hk hb hd hx hdb) fun ph S r M σ H Q hs ht Q' hq => lf_call hE hc hs ht hq fun Q1 hQ1 => hQ1 _ _ (Aft.here hs ⟨_, .nil, ht⟩)
theorem pX0 : ∀ ph S cls d H', postX X.K ph S DX0 cls d H' → E0 cls d H' := fun _ _ _ _ _ ⟨_, _, _, _, _, _, _, _, _, _, _, _, _, z⟩ => z
/-- what is told of a def of the module, for its callers -/
structure Def (P : Program) (w : World) (K : PySem.W.Frag) (mg : Str → Option Value) (base : Heap) (CX : CXT) (k : Nat) (x : Str) (st : Stmt) (ps : List Str) (sp : DSp) : Prop where
  ex : ∃ (f : Addr) (fd : FuncData), FnD P w K mg base CX k f fd ps sp ∧ mg x = some (.ref f) ∧ PySem.W.keepIn K (.ref f) = true ∧ Binds K fd ps [] ∧ Fun K x x st f fd
/-- a call of a def from which nothing is raised -/
theorem dcall {n : Nat} {st : Stmt} {P : Program} {w : World} {K : PySem.W.Frag} {mg : Str → Option Value} {base : Heap} (F : Def P w K mg base CX0 k x st ps sp) {j : Nat} (hr : Room j X.A) (gd : X.A.guards = some []) (ha : DA X (e :: es) t) (hj : k ≤ j := by decide) (hn : ps.length = n := by rfl)
    (h1 : P = X.prog := by rfl) (h2 : w = X.w := by rfl) (h3 : K = X.K := by rfl) (h4 : mg = X.mg := by rfl) (h5 : base = X.base := by rfl) (hg : Gl X x := by rfl) (hdb : (x == ("__debug__" : Str)) = false := by decide) (he : starEach (e :: es) X.env = (false, eval e X.env) :: starEach es X.env := by rfl)
    (hpl : (backTo pos (starEach es X.env)).any (·.1) = false := by rfl) : DE X (.Call (.Name x p) (e :: es) [] pos) (dCall n sp [] DX0 t) := by
  subst h1 h2 h3 h4 h5 hn
  obtain ⟨f, fd, h1, h2, h3, h4, _⟩ := F.ex
  exact de_callX h1 (hr.mono hj) gd h2 h3 h4 .nil .nil pass0 pX0 ha hg hdb he hpl
theorem dcall0 {n : Nat} {st : Stmt} {P : Program} {w : World} {K : PySem.W.Frag} {mg : Str → Option Value} {base : Heap} (F : Def P w K mg base CX0 k x st ps sp) {j : Nat} (hr : Room j X.A) (gd : X.A.guards = some []) (hj : k ≤ j := by decide) (hn : ps.length = n := by rfl)
    (h1 : P = X.prog := by rfl) (h2 : w = X.w := by rfl) (h3 : K = X.K := by rfl) (h4 : mg = X.mg := by rfl) (h5 : base = X.base := by rfl) (hg : Gl X x := by rfl) (hdb : (x == ("__debug__" : Str)) = false := by decide) :
    DE X (.Call (.Name x p) [] [] pos) (dCall n sp [] DX0 dNil) := by
  subst h1 h2 h3 h4 h5 hn
  obtain ⟨f, fd, h1, h2, h3, h4, _⟩ := F.ex
  exact de_call0X h1 (hr.mono hj) gd h2 h3 h4 .nil .nil pass0 pX0 hg hdb
end

/-! ### at the end of a def: the cells that it made are left behind -/
mutual
def below (n : Nat) : D → Bool
  | .tup l => belowAll n l
  | .lst l => belowAll n l
  | .own k => decide (k < n)
  | .exc _ d => below n d
  | _ => true
def belowAll (n : Nat) : List D → Bool
  | [] => true
  | d :: ds => below n d && belowAll n ds
end
def belowO (n : Nat) : Own → Bool
  | .lst l => belowAll n l
  | .dead => true
section
variable {K : PySem.W.Frag} {ph : Ph} {S : Hp} {n : Nat}
mutual
theorem Rep.take : ∀ (d : D) (v : V), below n d = true → Rep K ph S v d → Rep K (ph.cut n) S v d
  | .non, _, _, h => by cases h; exact .non
  | .bl _, _, _, h => by cases h; exact .bl _
  | .int _, _, _, h => by cases h; exact .int _
  | .str _, _, _, h => by cases h; exact .str _
  | .tup ds, _, e, h => by
    cases h with
    | tup h1 h2 => exact .tup h1 (RepAll.takeP ds _ (by simpa only [below] using e) h2)
  | .lst ds, _, e, h => by
    cases h with
    | lst h1 h2 => exact .lst h1 (RepAll.takeP ds _ (by simpa only [below] using e) h2)
  | .dct0, _, _, h => by
    cases h with
    | dct0 h1 => exact .dct0 h1
  | .scr ns, _, _, h => by
    cases h with
    | scr h1 => exact .scr h1
  | .own k, _, e, h => by
    cases h with
    | own h1 =>
      have e' : k < n := of_decide_eq_true (by simpa only [below] using e)
      exact .own (by show (ph.cells.take n)[k]? = _; rw [List.getElem?_take_of_lt e']; exact h1)
  | .exc C d, _, e, h => by
    cases h with
    | exc h1 h2 h3 => exact .exc h1 h2 (Rep.take d _ (by simpa only [below] using e) h3)
  | .val v, _, _, h => by cases h; exact .val _
theorem RepAll.takeP : ∀ (ds : List D) (vs : List V), belowAll n ds = true → RepAll K ph S vs ds → RepAll K (ph.cut n) S vs ds
  | [], _, _, h => by cases h; exact .nil
  | d :: ds, _, e, h => by
    have e' : below n d = true ∧ belowAll n ds = true := by simpa only [belowAll, Bool.and_eq_true] using e
    cases h with
    | cons h1 h2 => exact .cons (Rep.take d _ e'.1 h1) (RepAll.takeP ds _ e'.2 h2)
end
mutual
theorem Rep.belowP : ∀ (d : D) (v : V), Rep K ph S v d → below ph.cells.length d = true
  | .non, _, _ => by simp only [below]
  | .bl _, _, _ => by simp only [below]
  | .int _, _, _ => by simp only [below]
  | .str _, _, _ => by simp only [below]
  | .tup ds, _, h => by
    cases h with
    | tup h1 h2 => simp only [below]; exact RepAll.belowP ds _ h2
  | .lst ds, _, h => by
    cases h with
    | lst h1 h2 => simp only [below]; exact RepAll.belowP ds _ h2
  | .dct0, _, _ => by simp only [below]
  | .scr ns, _, _ => by simp only [below]
  | .own k, _, h => by
    cases h with
    | own h1 => simp only [below]; exact decide_eq_true (List.getElem?_eq_some_iff.mp h1).1
  | .exc C d, _, h => by
    cases h with
    | exc h1 h2 h3 => simp only [below]; exact Rep.belowP d _ h3
  | .val v, _, _ => by simp only [below]
theorem RepAll.belowP : ∀ (ds : List D) (vs : List V), RepAll K ph S vs ds → belowAll ph.cells.length ds = true
  | [], _, _ => by simp only [belowAll]
  | d :: ds, _, h => by
    cases h with
    | cons h1 h2 => simp only [belowAll, Bool.and_eq_true]; exact ⟨Rep.belowP d _ h1, RepAll.belowP ds _ h2⟩
end
end
mutual
theorem below.mono {m n : Nat} (hmn : m ≤ n) : ∀ d : D, below m d = true → below n d = true
  | .non, _ => by simp only [below]
  | .bl _, _ => by simp only [below]
  | .int _, _ => by simp only [below]
  | .str _, _ => by simp only [below]
  | .tup ds, h => by
    simp only [below] at h ⊢
    exact belowAll.mono hmn ds h
  | .lst ds, h => by
    simp only [below] at h ⊢
    exact belowAll.mono hmn ds h
  | .dct0, _ => by simp only [below]
  | .scr _, _ => by simp only [below]
  | .own k, h => by
    simp only [below] at h ⊢
    have := of_decide_eq_true h
    exact decide_eq_true (by omega)
  | .exc _ d, h => by
    simp only [below] at h ⊢
    exact below.mono hmn d h
  | .val _, _ => by simp only [below]
theorem belowAll.mono {m n : Nat} (hmn : m ≤ n) : ∀ ds : List D, belowAll m ds = true → belowAll n ds = true
  | [], _ => by simp only [belowAll]
  | d :: ds, h => by
    simp only [belowAll, Bool.and_eq_true] at h ⊢
    exact ⟨below.mono hmn d h.1, belowAll.mono hmn ds h.2⟩
end
/-- d and the cells M1 are what stays of M': all else was made by the def -/
def Rtq (M : Mem) (Q : DQ) : DQ := fun d M' => ∃ M1 G, M' = M1 ++ G ∧ M.length ≤ M1.length ∧ below M1.length d = true ∧ (∀ (i : Nat) (c : Own), M1[i]? = some c → M[i]? = some c ∨ belowO M1.length c = true) ∧ Q d M1
theorem Sat.leave {K : PySem.W.Frag} {ph ph1 : Ph} {S S1 : Hp} {r : Env} {M M1 G : Mem} {σ : St} {H H1 : Hp} (h0 : Sat K ph S [] M [] H) (x : Ext ph S ph1 S1) (h : Sat K ph1 S1 r (M1 ++ G) σ H1) (hl : M.length ≤ M1.length) (hc : ∀ (i : Nat) (c : Own), M1[i]? = some c → M[i]? = some c ∨ belowO M1.length c = true) :
    Ext ph S (ph1.cut M1.length) S1 ∧ Sat K (ph1.cut M1.length) S1 [] M1 [] H1 := by
  have hpl : M1.length ≤ ph1.cells.length := by have := h.len; rw [List.length_append] at this; omega
  have up : ∀ (k : Nat) (a : Addr), k < M1.length → ph1.cells[k]? = some a → (ph1.cut M1.length).cells[k]? = some a := fun k a hk e => by show (ph1.cells.take M1.length)[k]? = _; rw [List.getElem?_take_of_lt hk]; exact e
  have dn : ∀ (k : Nat) (a : Addr), (ph1.cut M1.length).cells[k]? = some a → ph1.cells[k]? = some a := fun k a e => by
    replace e : (ph1.cells.take M1.length)[k]? = some a := e
    have hk : k < M1.length := by
      have := (List.getElem?_eq_some_iff.mp e).1
      rw [List.length_take] at this; omega
    rw [List.getElem?_take_of_lt hk] at e; exact e
  refine ⟨⟨fun k a e => up k a ?_ (x.pre k a e), x.same, x.hid⟩, h.sub, ?_, h.nd.sublist (List.take_sublist _ _), fun k a e => h.trk k a (dn k a e), fun k ds e => ?_, fun q hq => ?_, h.hnd, rfl, fun i d e => by simp at e⟩
  · refine Nat.lt_of_lt_of_le ?_ hl
    rw [← h0.len]; exact (List.getElem?_eq_some_iff.mp e).1
  · show (ph1.cells.take M1.length).length = _
    rw [List.length_take]; omega
  · have kl : k < M1.length := (List.getElem?_eq_some_iff.mp e).1
    obtain ⟨a, xs, c1, c2, c3, c4⟩ := h.cell k ds (by rw [List.getElem?_append_left kl]; exact e)
    refine ⟨a, xs, up k a (by omega) c1, c2, c3, RepAll.takeP ds xs ?_ c4⟩
    rcases hc k _ e with q | q
    · obtain ⟨_, _, _, _, _, b4⟩ := h0.cell k ds q
      refine belowAll.mono hl _ ?_
      rw [← h0.len]; exact RepAll.belowP _ _ b4
    · simpa only [belowO] using q
  · obtain ⟨h1, h2, h3⟩ := h.hid q hq
    exact ⟨h1, h2, fun z => h3 (List.mem_of_mem_take z)⟩
theorem Rtq.out {K : PySem.W.Frag} {ph : Ph} {S : Hp} {M : Mem} {H : Hp} {Q : DQ} (h0 : Sat K ph S [] M [] H) {v : V} {H1 : Hp} (h : postR K ph S (Rtq M Q) v H1) : postM K ph S Q v H1 := by
  obtain ⟨r, σ, ph1, S1, M', x, hs, d, q, M1, G, rfl, hl, hb, hc, hq⟩ := h
  obtain ⟨x2, hs2⟩ := Sat.leave h0 x hs hl hc
  exact ⟨_, _, _, x2, hs2, d, Rep.take d v hb q, hq⟩
/-- the names at the entry -/
def startD (n : Nat) (ds : List D) : Env := ds.map some ++ List.replicate (n - ds.length) none
theorem Sat.start {K : PySem.W.Frag} {ph : Ph} {S : Hp} {M : Mem} {H : Hp} {vs : List V} {ds : List D} (h : Sat K ph S [] M [] H) (q : RepAll K ph S vs ds) (N : List Str) : Sat K ph S (startD N.length ds) M (L2.start N vs) H := by
  refine ⟨h.sub, h.len, h.nd, h.trk, h.cell, h.hid, h.hnd, ?_, fun i d e => ?_⟩
  · unfold startD L2.start
    rw [List.length_append, List.length_append, List.length_map, List.length_map, List.length_replicate, List.length_replicate, q.len]
  · unfold startD at e
    by_cases hi : i < ds.length
    · rw [List.getElem?_append_left (by rw [List.length_map]; exact hi), List.getElem?_map] at e
      cases e' : ds[i]? with
      | none => rw [e'] at e; cases e
      | some d' =>
        rw [e'] at e
        have e2 : d' = d := by simpa using e
        subst e2
        obtain ⟨v, ev, qv⟩ := q.get e'
        refine ⟨v, ?_, qv⟩
        unfold L2.start
        rw [List.getElem?_append_left (by rw [List.length_map, q.len]; exact hi), List.getElem?_map, ev]
        rfl
    · rw [List.getElem?_append_right (by rw [List.length_map]; omega), List.getElem?_replicate] at e
      split at e <;> cases e
/-- what the body's end is for the def -/
def dEnds (M : Mem) (Q : DQ) : DEnds := { nx := fun _ M' => Rtq M Q .non M', rt := Rtq M Q }
section
variable {P : Program} {w : World} {K : PySem.W.Frag} {mg : Str → Option Value} {base : Heap}
/-- THE RULE: a def from which nothing is raised, by its body; its end leaves its own cells behind -/
theorem Fun.okD {x qual : Str} {st : Stmt} {f : Addr} {fd : FuncData} {N ps : List Str} {k : Nat} {sp : DSp} {t : DTS} (F : Fun K x qual st f fd) (S : FnScope N ps (defScope st))
    (hder : ∀ (cdv : Value) (A : Around) (outer : List PySem.Env) (s : Shared) (H : Hp) (E : XK), Room k (A.deeper (envOfC qual (defScope st) s.heap.objs.size f cdv)) → (A.deeper (envOfC qual (defScope st) s.heap.objs.size f cdv)).guards = some [] →
      DSs (cxOf CX0 P w K mg base N qual (defScope st) f cdv A outer s H E).nox (defBody st) t)
    (hread : ∀ ds M Q, ds.length = ps.length → sp ds M Q DX0 → t (dEnds M Q) (startD N.length ds) M)
    (hX : ∀ ds M Q E, sp ds M Q E → sp ds M Q DX0 := by exact fun _ _ _ _ h => h) : FnD P w K mg base CX0 (k + 1) f fd ps sp := by
  obtain ⟨oc, od, kV, doc, pm, an, cdv, ct, osl, rfl, lk, hcd⟩ := F.ex
  refine fnG_of lk hcd S (fun vs H Q E h => ?_) fun A outer s H vs Q E hr gd hsp => ?_
  · obtain ⟨_, _, _, _, _, _, hl, _, q, _⟩ := h
    rw [q.len]; exact hl
  · obtain ⟨ph, S0, M, ds, Q0, E0, hl, hs, hq, h, h1, h2⟩ := hsp
    refine ⟨_, (hder cdv A outer s H E hr gd).pss.nox, ph, S0, startD N.length ds, M, dEnds M Q0, hs.start hq N, hread ds M Q0 hl (hX _ _ _ _ h), ?_, ?_, ?_, ?_⟩
    · rintro σ' H' ⟨r, ph1, S1, M1, x, hs1, z⟩
      exact h1 _ _ (Rtq.out hs ⟨r, σ', ph1, S1, M1, x, hs1, .non, .non, z⟩)
    · exact fun v H' z => h1 _ _ (Rtq.out hs z)
    · rintro σ' H' ⟨r, ph1, S1, M1, x, hs1, z⟩
      exact z.elim
    · rintro σ' H' ⟨r, ph1, S1, M1, x, hs1, z⟩
      exact z.elim
end
end DL
/-! DL6: statements, loops, comprehensions -/
namespace DL
open PySem PySem.Spec PyProof.Rows L2
variable {X : Cx}

theorem DS.of {st : Stmt} {t' : TS} {t : DTS} (h : PS X st t') (w : ∀ ph S r M σ H E, Sat X.K ph S r M σ H → t E r M → ∀ E', (∀ σ' H', postN X.K ph S E.nx σ' H' → E'.nx σ' H') → (∀ v H', postR X.K ph S E.rt v H' → E'.rt v H') → (∀ σ' H', postN X.K ph S E.bk σ' H' → E'.bk σ' H') → (∀ σ' H', postN X.K ph S E.ct σ' H' → E'.ct σ' H') → t' E' σ H) : DS X st t :=
  ⟨PS.weak h fun E σ H ⟨ph, S, r, M, E0, hs, ht, h1, h2, h3, h4⟩ => w ph S r M σ H E0 hs ht E h1 h2 h3 h4⟩
theorem postN.up {K : PySem.W.Frag} {ph ph1 : Ph} {S S1 : Hp} {Q : Env → Mem → Prop} {σ : St} {H : Hp} (x : Ext ph S ph1 S1) (h : postN K ph1 S1 Q σ H) : postN K ph S Q σ H := let ⟨r, q⟩ := h; ⟨r, Aft.up x q⟩
theorem postR.up {K : PySem.W.Frag} {ph ph1 : Ph} {S S1 : Hp} {Q : DQ} {v : V} {H : Hp} (x : Ext ph S ph1 S1) (h : postR K ph1 S1 Q v H) : postR K ph S Q v H := let ⟨r, σ, q⟩ := h; ⟨r, σ, Aft.up x q⟩
/-! ### blocks -/
def dNext : DTS := fun E r M => E.nx r M
def dSeq (t u : DTS) : DTS := fun E r M => t { E with nx := u E } r M
theorem dss_nil : DSs X [] dNext := ⟨PSs.weak pss_nil fun E σ H ⟨ph, S, r, M, E0, hs, ht, h1, _, _, _⟩ => h1 _ _ ⟨r, Aft.here hs ht⟩⟩
theorem lf_on {ph ph1 : Ph} {S S1 : Hp} {r : Env} {M : Mem} {σ : St} {H : Hp} {t : DTS} {E : DEnds} {E' : Ends} (x : Ext ph S ph1 S1) (hs : Sat X.K ph1 S1 r M σ H) (ht : t E r M)
    (h1 : ∀ σ' H', postN X.K ph S E.nx σ' H' → E'.nx σ' H') (h2 : ∀ v H', postR X.K ph S E.rt v H' → E'.rt v H') (h3 : ∀ σ' H', postN X.K ph S E.bk σ' H' → E'.bk σ' H') (h4 : ∀ σ' H', postN X.K ph S E.ct σ' H' → E'.ct σ' H') : lfS X.K t E' σ H :=
  ⟨ph1, S1, r, M, E, hs, ht, fun _ _ z => h1 _ _ (z.up x), fun _ _ z => h2 _ _ (z.up x), fun _ _ z => h3 _ _ (z.up x), fun _ _ z => h4 _ _ (z.up x)⟩
theorem dss_cons {st : Stmt} {rest : List Stmt} {t u : DTS} (h : DS X st t) (h' : DSs X rest u) : DSs X (st :: rest) (dSeq t u) :=
  ⟨PSs.weak (pss_cons h.ps h'.pss) fun E σ H ⟨ph, S, r, M, E0, hs, ht, h1, h2, h3, h4⟩ =>
    ⟨ph, S, r, M, { E0 with nx := u E0 }, hs, ht, fun σ' H' ⟨r1, ph1, S1, M1, x, hs1, z⟩ => lf_on x hs1 z h1 h2 h3 h4, h2, h3, h4⟩⟩
theorem dss_one {st : Stmt} {t : DTS} (h : DS X st t) : DSs X [st] t := ⟨pss_one h.ps⟩
def dNever : DTS := fun _ _ _ => False
theorem ds_never {st : Stmt} : DS X st dNever := ⟨PS.weak ps_never fun E σ H ⟨ph, S, r, M, E0, hs, ht, _⟩ => ht.elim⟩
section
variable {pos : Pos}
theorem ds_pass : DS X (.Pass pos) dNext := DS.of ps_pass fun ph S r M σ H E hs ht E' h1 _ _ _ => h1 _ _ ⟨r, Aft.here hs ht⟩
def dBreak : DTS := fun E r M => E.bk r M
def dCont : DTS := fun E r M => E.ct r M
theorem ds_break : DS X (.Break pos) dBreak := DS.of ps_break fun ph S r M σ H E hs ht E' _ _ h3 _ => h3 _ _ ⟨r, Aft.here hs ht⟩
theorem ds_continue : DS X (.Continue pos) dCont := DS.of ps_continue fun ph S r M σ H E hs ht E' _ _ _ h4 => h4 _ _ ⟨r, Aft.here hs ht⟩
/-- an expression whose value is dropped -/
def dDrop (t : DTE) : DTS := fun E r M => t r M fun _ M1 => E.nx r M1
theorem ds_expr {e : Expr} {t : DTE} (he : DE X e t) (hs : swapsWith e none pos.line X.env = pure false := by rfl) : DS X (.Expr e pos) (dDrop t) :=
  DS.of (ps_expr he.pe hs) fun ph S r M σ H E hs ht E' h1 _ _ _ => ⟨ph, S, r, M, _, hs, ht, fun v H' ⟨ph1, S1, M1, x, hs1, d, _, z⟩ => h1 _ _ ⟨r, ph1, S1, M1, x, hs1, z⟩⟩
def dRet (t : DTE) : DTS := fun E r M => t r M E.rt
theorem ds_ret {e : Expr} {t : DTE} (he : DE X e t) : DS X (.Return (some e) pos) (dRet t) :=
  DS.of (ps_ret he.pe) fun ph S r M σ H E hs ht E' _ h2 _ _ => ⟨ph, S, r, M, _, hs, ht, fun v H' z => h2 _ _ ⟨r, σ, z⟩⟩
def dRetN : DTS := fun E _ M => E.rt .non M
theorem ds_retN : DS X (.Return none pos) dRetN := DS.of ps_retN fun ph S r M σ H E hs ht E' _ h2 _ _ => h2 _ _ ⟨r, σ, Aft.here hs ⟨.non, .non, ht⟩⟩
def dIfS (c : DTT) (t u : DTS) : DTS := fun E r M => c r M fun b M1 => if b = true then t E r M1 else u E r M1
theorem ds_if {c : Expr} {a b : List Stmt} {tc : DTT} {t u : DTS} (hc : DT X c tc) (ha : DSs X a t) (hb : DSs X b u) : DS X (.If c a b pos) (dIfS tc t u) :=
  DS.of (ps_if hc.pt ha.pss hb.pss) fun ph S r M σ H E hs ht E' h1 h2 h3 h4 => ⟨ph, S, r, M, _, hs, ht, fun k H1 ⟨ph1, S1, M1, x, hs1, z⟩ => by
    cases k with
    | true => exact lf_on x hs1 z h1 h2 h3 h4
    | false => exact lf_on x hs1 z h1 h2 h3 h4⟩
end
/-! ### targets -/
abbrev DTG := D → Env → Mem → (Env → Mem → Prop) → Prop
structure DG (X : Cx) (target : Expr) (g : DTG) : Prop where
  pg : PG X target (fun v σ H Q => ∃ ph S r M d Q0, Sat X.K ph S r M σ H ∧ Rep X.K ph S v d ∧ g d r M Q0 ∧ ∀ σ' H', postN X.K ph S Q0 σ' H' → Q σ' H')
def dName (i : Nat) : DTG := fun d r M Q => Q (r.set i (some d)) M
theorem dg_name {i : Nat} {x : Str} {pos : Pos} (hN : X.N.Nodup) (hi : X.N[i]? = some x := by rfl) (hx : Loc X.env.scope x := by first | exact Or.inl rfl | exact Or.inr rfl) (hf : X.fn x = true ∨ X.env.scope.names.lookup x = some .local := by first | exact .inl rfl | exact .inr rfl | assumption) : DG X (.Name x pos) (dName i) :=
  ⟨⟨fun pins s σ H v u Q I rv ⟨ph, S, r, M, d, Q0, hs, q, hg, h1⟩ => (pg_name hN hi hx hf).run pins s σ H v u Q I rv (h1 _ _ ⟨_, Aft.here (hs.setN q) hg⟩)⟩⟩
abbrev DTGs := List D → Env → Mem → (Env → Mem → Prop) → Prop
structure DGs (X : Cx) (ts : List Expr) (g : DTGs) : Prop where
  pgs : PGs X ts (fun vs σ H Q => ∃ ph S r M ds Q0, Sat X.K ph S r M σ H ∧ RepAll X.K ph S vs ds ∧ g ds r M Q0 ∧ ∀ σ' H', postN X.K ph S Q0 σ' H' → Q σ' H')
def dGNil : DTGs := fun ds r M Q => match ds with
  | [] => Q r M
  | _ => False
def dGCons (g : DTG) (u : DTGs) : DTGs := fun ds r M Q => match ds with
  | d :: rest => g d r M fun r1 M1 => u rest r1 M1 Q
  | _ => False
theorem dgs_nil : DGs X [] dGNil := ⟨⟨fun pins s σ H vs us Q I rv ⟨ph, S, r, M, ds, Q0, hs, q, hg, h1⟩ => pgs_nil.run pins s σ H vs us Q I rv (by
  cases ds with
  | cons d ds => exact hg.elim
  | nil =>
    cases q
    exact ⟨rfl, h1 _ _ ⟨r, Aft.here hs hg⟩⟩)⟩⟩
theorem dgs_cons {e : Expr} {es : List Expr} {g : DTG} {u : DTGs} (h : DG X e g) (h' : DGs X es u) (hst : (assignEach (e :: es) X.env).map (·.2) = assign e X.env :: (assignEach es X.env).map (·.2) := by rfl) : DGs X (e :: es) (dGCons g u) :=
  ⟨⟨fun pins s σ H vs us Q I rv ⟨ph, S, r, M, ds, Q0, hs, q, hg, h1⟩ => (pgs_cons h.pg h'.pgs hst).run pins s σ H vs us Q I rv (by
    cases ds with
    | nil => exact hg.elim
    | cons d ds =>
      cases q with
      | cons q1 q2 => exact ⟨_, _, rfl, ph, S, r, M, d, _, hs, q1, hg, fun σ1 H1 ⟨r1, ph1, S1, M1, x1, hs1, z⟩ => ⟨ph1, S1, r1, M1, ds, Q0, hs1, q2.up x1, z, fun σ2 H2 z2 => h1 _ _ (z2.up x1)⟩⟩)⟩⟩
/-- (a, b, ..) = a tuple, or a list -/
def dGTup (n : Nat) (u : DTGs) : DTG := fun d r M Q => match res M d with
  | .tup ds => ds.length = n ∧ u ds r M Q
  | .lst ds => ds.length = n ∧ u ds r M Q
  | _ => False
theorem dg_tup {es : List Expr} {k : Nat} {u : DTGs} {n : Nat} {pos : Pos} (hc : X.calm = true) (h : DGs X es u) (hn : (assignEach es X.env).length = n := by rfl) (hst : (assignEach es X.env).findIdx? (·.1) = none := by rfl) : DG X (.Tuple es k pos) (dGTup n u) :=
  ⟨⟨fun pins s σ H v u' Q I rv ⟨ph, S, r, M, d, Q0, hs, q, hg, h1⟩ => by
    unfold dGTup at hg
    split at hg
    · rename_i ds e
      have e' := res_tup e
      subst e'
      refine (pg_tup hc h.pgs hn hst).run pins s σ H v u' Q I rv ?_
      cases q with
      | tup q1 q2 => exact ⟨_, _, rfl, SqT.of (hs.sub _ _ q1), by rw [q2.len]; exact hg.1, ph, S, r, M, _, Q0, hs, q2, hg.2, h1⟩
    · rename_i ds e
      obtain ⟨a, xs, e1, e2, q2⟩ := res_lst hs q e
      refine (pg_unl hc h.pgs hn hst).run pins s σ H v u' Q I rv ?_
      exact ⟨a, xs, e1, SqL.of e2, by rw [q2.len]; exact hg.1, ph, S, r, M, _, Q0, hs, q2, hg.2, h1⟩
    · exact hg.elim⟩⟩
/-- o[i] = .., o an owned list -/
def gSetL (o i d : D) (M : Mem) (Q : Mem → Prop) : Prop := match o, i with
  | .own k, .int j => match M[k]? with
    | some (.lst l) => match ixN l.length j with
      | some n => Q (M.set k (.lst (l.set n d)))
      | none => False
    | _ => False
  | _, _ => False
def dSub (to ti : DTE) : DTG := fun d r M Q => to r M fun o M1 => ti r M1 fun i M2 => gSetL o i d M2 fun M3 => Q r M3
theorem dg_sub {o i : Expr} {to ti : DTE} {pos : Pos} (ho : DE X o to) (hi : DE X i ti)
    (ha : ∀ v, assign (.Subscript o i pos) X.env v = (do
      let ov ← holding [v] (eval o X.env)
      let iv ← holding [v, ov] (eval i X.env)
      standAt pos
      holding [v, ov, iv] (setItem ov iv v)
      release [v, ov, iv] []) := by intro _; rfl) : DG X (.Subscript o i pos) (dSub to ti) :=
  ⟨⟨fun pins s σ H v u Q I rv ⟨ph, S, r, M, d, Q0, hs, q, hg, h1⟩ => (pg_sub ho.pe hi.pe set_list ha).run pins s σ H v u Q I rv
    ⟨ph, S, r, M, _, hs, hg, fun ov H1 ⟨ph1, S1, M1, x1, hs1, od, q1, g1⟩ => ⟨ph1, S1, r, M1, _, hs1, g1, fun iv H2 ⟨ph2, S2, M2, x2, hs2, id', q2, g2⟩ => by
      replace g2 : gSetL od id' d M2 fun M3 => Q0 r M3 := g2
      cases od with
      | own k =>
        cases id' with
        | int j =>
          unfold gSetL at g2
          dsimp only at g2
          split at g2
          · rename_i l hk
            split at g2
            · rename_i n hn
              cases q2
              cases q1 with
              | own hp =>
                have hp2 := x2.pre _ _ hp
                obtain ⟨a, xs, c1, c2, c3, c4⟩ := hs2.cell k l hk
                rw [hp2] at c1; cases c1
                exact ⟨_, xs, j, n, rfl, rfl, c3, by rw [c4.len]; exact hn, h1 _ _ ⟨r, ph2, S2, _, x1.trans x2, hs2.put hk hp2 (RepAll.set (q.up (x1.trans x2)) n c4), g2⟩⟩
            · exact g2.elim
          · exact g2.elim
        | _ => exact g2.elim
      | _ => exact g2.elim⟩⟩⟩⟩
/-- target = value -/
def dAsg (t : DTE) (g : DTG) : DTS := fun E r M => t r M fun d M1 => g d r M1 E.nx
section
variable {pos : Pos}
theorem ds_asg {tg e : Expr} {t : DTE} {g : DTG} (he : DE X e t) (hg : DG X tg g) (hs : swapsWithSole [tg] e pos.line X.env = pure false := by rfl) (hw : swappedStores [tg] e X.env = pure none := by rfl)
    (h1 : (assignEach [tg] X.env).map (·.2) = [assign tg X.env] := by rfl) : DS X (.Assign [tg] e pos) (dAsg t g) :=
  DS.of (ps_asg he.pe hg.pg hs hw h1) fun ph S r M σ H E hs ht E' h1 _ _ _ => ⟨ph, S, r, M, _, hs, ht, fun v H' ⟨ph1, S1, M1, x, hs1, d, q, z⟩ => ⟨ph1, S1, r, M1, d, E.nx, hs1, q, z, fun σ2 H2 z2 => h1 _ _ (z2.up x)⟩⟩
/-- name = value -/
theorem ds_set {i : Nat} {x : Str} {e : Expr} {t : DTE} {pos' : Pos} (hN : X.N.Nodup) (he : DE X e t) (hi : X.N[i]? = some x := by rfl) (hx : Loc X.env.scope x := by first | exact Or.inl rfl | exact Or.inr rfl) (hs : swapsWith e (some (.Name x pos')) pos.line X.env = pure false := by rfl) (hf : X.fn x = true ∨ X.env.scope.names.lookup x = some .local := by first | exact .inl rfl | exact .inr rfl | assumption) :
    DS X (.Assign [.Name x pos'] e pos) (dAsg t (dName i)) :=
  DS.of (ps_set hN hi hx he.pe hs hf) fun ph S r M σ H E hs ht E' h1 _ _ _ => ⟨ph, S, r, M, _, hs, ht, fun v H' ⟨ph1, S1, M1, x, hs1, d, q, z⟩ => h1 _ _ ⟨_, ph1, S1, M1, x, hs1.setN q, z⟩⟩
/-- a, b = x, y -/
def dPar (i j : Nat) (t : DTA) : DTS := fun E r M => t r M fun ds M1 => match ds with
  | [d, e] => E.nx ((r.set i (some d)).set j (some e)) M1
  | _ => False
theorem ds_par {i j : Nat} {x y : Str} {a b : Expr} {t : DTA} {px py pt : Pos} {kt k2 pt2} (hc : X.calm = true) (hN : X.N.Nodup) (ha : DA X [a, b] t) (hi : X.N[i]? = some x := by rfl) (hj : X.N[j]? = some y := by rfl) (hij : i ≠ j := by decide)
    (hx : X.env.scope.names.lookup x = some .local := by rfl) (hy : X.env.scope.names.lookup y = some .local := by rfl)
    (hw : swappedStores [.Tuple [.Name x px, .Name y py] kt pt] (.Tuple [a, b] k2 pt2) X.env = pure (some [x, y]) := by rfl)
    (hs : swapsWithSole [.Tuple [.Name x px, .Name y py] kt pt] (.Tuple [a, b] k2 pt2) pos.line X.env = pure false := by rfl) :
    DS X (.Assign [.Tuple [.Name x px, .Name y py] kt pt] (.Tuple [a, b] k2 pt2) pos) (dPar i j t) :=
  DS.of (ps_par hc hN hi hj hij hx hy ha.pa hw hs) fun ph S r M σ H E hs ht E' h1 _ _ _ => ⟨ph, S, r, M, _, hs, ht, fun vs H' ⟨ph1, S1, M1, x, hs1, ds, q, z⟩ => by
    match ds, q, z with
    | [d, e], .cons q1 (.cons q2 .nil), z => exact ⟨_, _, rfl, h1 _ _ ⟨_, ph1, S1, M1, x, (hs1.setN q1).setN q2, z⟩⟩⟩
def dPar3 (i j l : Nat) (t : DTA) : DTS := fun E r M => t r M fun ds M1 => match ds with
  | [d, e, f] => E.nx (((r.set i (some d)).set j (some e)).set l (some f)) M1
  | _ => False
theorem ds_par3 {i j l : Nat} {x y z : Str} {a b c : Expr} {t : DTA} {px py pz pt : Pos} {kt k2 pt2} (hc : X.calm = true) (hN : X.N.Nodup) (ha : DA X [a, b, c] t) (hi : X.N[i]? = some x := by rfl) (hj : X.N[j]? = some y := by rfl) (hl : X.N[l]? = some z := by rfl) (hij : i ≠ j := by decide) (hil : i ≠ l := by decide) (hjl : j ≠ l := by decide)
    (hx : X.env.scope.names.lookup x = some .local := by rfl) (hy : X.env.scope.names.lookup y = some .local := by rfl) (hz : X.env.scope.names.lookup z = some .local := by rfl)
    (hw : swappedStores [.Tuple [.Name x px, .Name y py, .Name z pz] kt pt] (.Tuple [a, b, c] k2 pt2) X.env = pure (some [x, y, z]) := by rfl)
    (hs : swapsWithSole [.Tuple [.Name x px, .Name y py, .Name z pz] kt pt] (.Tuple [a, b, c] k2 pt2) pos.line X.env = pure false := by rfl) :
    DS X (.Assign [.Tuple [.Name x px, .Name y py, .Name z pz] kt pt] (.Tuple [a, b, c] k2 pt2) pos) (dPar3 i j l t) :=
  DS.of (ps_par3 hc hN hi hj hl hij hil hjl hx hy hz ha.pa hw hs) fun ph S r M σ H E hs ht E' h1 _ _ _ => ⟨ph, S, r, M, _, hs, ht, fun vs H' ⟨ph1, S1, M1, x, hs1, ds, q, z⟩ => by
    match ds, q, z with
    | [d, e, f], .cons q1 (.cons q2 (.cons q3 .nil)), z => exact ⟨_, _, _, rfl, h1 _ _ ⟨_, ph1, S1, M1, x, ((hs1.setN q1).setN q2).setN q3, z⟩⟩⟩
/-- name op= e (ints) -/
def gIpI (f : Int → Int → Int) (x y : D) (M : Mem) (Q : DQ) : Prop := match x, y with
  | .int i, .int j => Q (.int (f i j)) M
  | _, _ => False
def dAug (i : Nat) (t : DTE) (f : Int → Int → Int) : DTS := fun E r M => match r[i]? with
  | some (some (.int a)) => t r M fun d M1 => gIpI f (.int a) d M1 fun z M2 => E.nx (r.set i (some z)) M2
  | _ => False
theorem ds_aug {i : Nat} {x : Str} {e : Expr} {t : DTE} {op : Operator} {f : Int → Int → Int} {pos' : Pos} (hN : X.N.Nodup) (he : DE X e t) (ho : PIp X op (ipI f)) (hi : X.N[i]? = some x := by rfl) (hx : Loc X.env.scope x := by first | exact Or.inl rfl | exact Or.inr rfl) (hf : X.fn x = true ∨ X.env.scope.names.lookup x = some .local := by first | exact .inl rfl | exact .inr rfl | assumption) :
    DS X (.AugAssign (.Name x pos') op e pos) (dAug i t f) :=
  DS.of (ps_aug hN hi hx he.pe ho hf) fun ph S r M σ H E hs ht E' h1 _ _ _ => by
    unfold dAug at ht
    split at ht
    · rename_i a hr
      obtain ⟨v, e1, q⟩ := hs.env i _ hr
      cases q
      refine ⟨_, e1, ph, S, r, M, _, hs, ht, fun v H' ⟨ph1, S1, M1, x, hs1, d, q, z⟩ => ?_⟩
      cases d <;> first | exact z.elim | skip
      cases q
      exact ⟨_, _, rfl, rfl, h1 _ _ ⟨_, ph1, S1, M1, x, hs1.setN (.int _), z⟩⟩
    · exact ht.elim

/-! ### while -/
def dWhile (c : DTT) (t : DTS) : DTS := fun E r M => ∃ W : Nat → Env → Mem → Prop, (∃ m, W m r M) ∧ ∀ m r M, W m r M →
  c r M fun b M1 => if b = true then t { E with nx := fun r' M' => ∃ m', m' < m ∧ W m' r' M', ct := fun r' M' => ∃ m', m' < m ∧ W m' r' M', bk := E.nx } r M1 else E.nx r M1
theorem ds_while {c : Expr} {body : List Stmt} {tc : DTT} {t : DTS} (hc : DT X c tc) (hb : DSs X body t) (hp : PassesOwn (model X.prog X.w) X.A X.env X.xe := by exact PassesOwn.never) : DS X (.While c body [] pos) (dWhile tc t) :=
  DS.of (ps_while hp hc.pt hb.pss) fun ph S r M σ H E hs ht E' h1 h2 h3 h4 => by
    obtain ⟨W, ⟨m0, w0⟩, turn⟩ := ht
    refine ⟨fun m σ H => postN X.K ph S (W m) σ H, ⟨m0, r, Aft.here hs w0⟩, fun m σ1 H1 ⟨r1, ph1, S1, M1, x1, hs1, w1⟩ => ?_⟩
    refine ⟨ph1, S1, r1, M1, _, hs1, turn m r1 M1 w1, fun b H2 ⟨ph2, S2, M2, x2, hs2, z⟩ => ?_⟩
    cases b with
    | false =>
      rw [if_neg Bool.false_ne_true] at z ⊢
      exact h1 _ _ ⟨r1, ph2, S2, M2, x1.trans x2, hs2, z⟩
    | true =>
      rw [if_pos rfl] at z ⊢
      refine ⟨fun σ' H' => ∃ m', m' < m ∧ postN X.K ph S (W m') σ' H', fun _ _ q => q, ?_⟩
      exact lf_on (x1.trans x2) hs2 z (fun σ' H' ⟨r', ph', S', M', x', hs', m', hm, w'⟩ => ⟨m', hm, r', ph', S', M', x', hs', w'⟩) h2 h1 (fun σ' H' ⟨r', ph', S', M', x', hs', m', hm, w'⟩ => ⟨m', hm, r', ph', S', M', x', hs', w'⟩)
end

/-! ### what is walked -/
/-- J walks the items ds, while C holds of the cells -/
def Wlk (K : PySem.W.Frag) (ph : Ph) (S : Hp) (J : It) (ds : List D) (C : Mem → Prop) : Prop :=
  ∀ (ph' : Ph) S' r M σ H, (∀ (k : Nat) (a : Addr), ph.cells[k]? = some a → ph'.cells[k]? = some a) → Same S S' → Sat K ph' S' r M σ H → C M →
    (∀ i, ds.length ≤ i → J.stop i H) ∧ ∀ i d, ds[i]? = some d → J.go i H ∧ ∀ x H', J.yld i H x H' → Aft K ph' S' r σ H' fun ph2 S2 M2 => M2 = M ∧ Rep K ph2 S2 x d
abbrev DTI := Env → Mem → (List D → (Mem → Prop) → Mem → Prop) → Prop
structure DI (X : Cx) (tg iter : Expr) (t : DTI) : Prop where
  pi : PI X tg iter (fun σ H R => ∃ ph S r M Q0, Sat X.K ph S r M σ H ∧ t r M Q0 ∧ ∀ J H', (Aft X.K ph S r σ H' fun ph' S' M' => ∃ ds C, Wlk X.K ph' S' J ds C ∧ Q0 ds C M') → R J H')
/-- for: W holds ahead of turn i -/
def forW (ds : List D) (C : Mem → Prop) (g : DTG) (t : DTS) (E : DEnds) (r : Env) (M0 : Mem) : Prop := ∃ W : Nat → Env → Mem → Prop, W 0 r M0 ∧ ∀ i r M, W i r M → C M ∧ (ds.length ≤ i → E.nx r M) ∧
  ∀ d, ds[i]? = some d → g d r M fun r2 M2 => t { E with nx := W (i + 1), ct := W (i + 1), bk := E.nx } r2 M2
def dFor (wi : DTI) (g : DTG) (t : DTS) : DTS := fun E r M => wi r M fun ds C M0 => forW ds C g t E r M0
theorem ds_for {tg iter : Expr} {body : List Stmt} {wi : DTI} {g : DTG} {t : DTS} {pos : Pos} (hc : X.calm = true) (hi : DI X tg iter wi) (hg : DG X tg g) (hb : DSs X body t)
    (hs : ∀ x, foldedSetIterable iter X.env x = pure x := by intro _; rfl) (hp : PassesOwn (model X.prog X.w) X.A X.env X.xe := by exact PassesOwn.never) : DS X (.For tg iter body [] pos) (dFor wi g t) :=
  DS.of (ps_for hp hc hi.pi hg.pg hb.pss hs) fun ph S r M σ H E hs ht E' h1 h2 h3 h4 => by
    refine ⟨ph, S, r, M, _, hs, ht, fun J H1 ⟨ph1, S1, M1, x1, hs1, ds, C, wk, W, w0, turn⟩ => ?_⟩
    refine ⟨fun i m σ H => m = ds.length - i ∧ ∃ r', Aft X.K ph1 S1 r' σ H fun _ _ M => W i r' M, ⟨ds.length, by omega, r, Aft.here hs1 w0⟩, ?_⟩
    rintro i m σ3 H3 ⟨rfl, r3, ph3, S3, M3, x3, hs3, w3⟩
    obtain ⟨c3, f3, g3⟩ := turn i r3 M3 w3
    obtain ⟨k1, k2⟩ := wk ph3 S3 r3 M3 σ3 H3 x3.pre x3.same hs3 c3
    by_cases hl : ds.length ≤ i
    · exact .inl ⟨k1 i hl, h1 _ _ ⟨r3, ph3, S3, M3, x1.trans x3, hs3, f3 hl⟩⟩
    · obtain ⟨d, ed⟩ : ∃ d, ds[i]? = some d := ⟨ds[i]'(by omega), List.getElem?_eq_getElem (by omega)⟩
      obtain ⟨k3, k4⟩ := k2 i d ed
      refine .inr ⟨k3, fun σ' H' => ∃ r', Aft X.K ph1 S1 r' σ' H' fun _ _ M => W (i + 1) r' M, fun σ' H' z => ⟨ds.length - (i + 1), by omega, rfl, z⟩, fun x H4 hy => ?_⟩
      obtain ⟨ph4, S4, M4, x4, hs4, rfl, q4⟩ := k4 x H4 hy
      refine ⟨ph4, S4, r3, M4, d, _, hs4, q4, g3 d ed, fun σ5 H5 ⟨r5, ph5, S5, M5, x5, hs5, z5⟩ => ?_⟩
      have xx : Ext ph1 S1 ph5 S5 := x3.trans (x4.trans x5)
      refine ⟨ph5, S5, r5, M5, _, hs5, z5, ?_, ?_, ?_, ?_⟩
      · exact fun σ6 H6 ⟨r6, z6⟩ => ⟨r6, Aft.up xx z6⟩
      · exact fun v H6 z6 => h2 _ _ (z6.up (x1.trans xx))
      · exact fun σ6 H6 z6 => h1 _ _ (z6.up (x1.trans xx))
      · exact fun σ6 H6 ⟨r6, z6⟩ => ⟨r6, Aft.up xx z6⟩

/-! ### comprehensions -/
/-- the tests behind if -/
def dYes : DTT := fun _ M Q => Q true M
structure DTs (X : Cx) (ifs : List Expr) (t : DTT) : Prop where
  pts : PTs X ifs (fun σ H Q => ∃ ph S r M Q0, Sat X.K ph S r M σ H ∧ t r M Q0 ∧ ∀ b H', postT X.K ph S r σ Q0 b H' → Q b H')
theorem dts_nil : DTs X [] dYes := ⟨⟨fun pins s σ H Q I ⟨ph, S, r, M, Q0, hs, ht, hq⟩ => pts_nil.run pins s σ H Q I (hq _ _ (Aft.here hs ht))⟩⟩
theorem dts_one {c : Expr} {t : DTT} (h : DT X c t) : DTs X [c] t := ⟨pts_one h.pt⟩
def wipeD (r : Env) : List Nat → Env
  | [] => r
  | v :: vs => (wipeD r vs).set v none
theorem Sat.clr {K : PySem.W.Frag} {ph : Ph} {S : Hp} {r : Env} {M : Mem} {σ : St} {H : Hp} (h : Sat K ph S r M σ H) (i : Nat) : Sat K ph S (r.set i none) M (σ.set i none) H := by
  refine ⟨h.sub, h.len, h.nd, h.trk, h.cell, h.hid, h.hnd, by rw [List.length_set, List.length_set]; exact h.el, fun j e hj => ?_⟩
  by_cases hi : j = i
  · subst hi
    have jl : j < r.length := by
      have := (List.getElem?_eq_some_iff.mp hj).1
      rwa [List.length_set] at this
    rw [List.getElem?_set_self jl] at hj
    cases hj
  · rw [List.getElem?_set_ne (Ne.symm hi)] at hj
    rw [List.getElem?_set_ne (Ne.symm hi)]
    exact h.env j e hj
theorem Sat.wipe {K : PySem.W.Frag} {ph : Ph} {S : Hp} {r : Env} {M : Mem} {σ : St} {H : Hp} (h : Sat K ph S r M σ H) : ∀ vs : List Nat, Sat K ph S (wipeD r vs) M (L2.wipe σ vs) H
  | [] => h
  | v :: vs => (Sat.wipe h vs).clr v
/-- a target whose names are the comprehension's own (places vs) -/
structure DCG (X : Cx) (target : Expr) (vs : List Nat) (g : DTG) : Prop where
  pg : PG X target (fun v σ H Q => ∃ ph S r M d Q0, Sat X.K ph S r M σ H ∧ Rep X.K ph S v d ∧ g d r M Q0 ∧ ∀ σ' H', postN X.K ph S Q0 σ' H' → L2.wipe σ' vs = L2.wipe σ vs → Q σ' H')
theorem wipe_set {σ : St} {i : Nat} {x : Option V} : ∀ {vs : List Nat}, i ∈ vs → L2.wipe (σ.set i x) vs = L2.wipe σ vs
  | [], h => by cases h
  | v :: vs, h => by
    unfold L2.wipe
    by_cases hv : i ∈ vs
    · rw [wipe_set hv]
    · have e : i = v := (List.mem_cons.mp h).resolve_right hv
      subst e
      have key : ∀ (us : List Nat), i ∉ us → L2.wipe (σ.set i x) us = (L2.wipe σ us).set i x := by
        intro us
        induction us with
        | nil => intro _; rfl
        | cons u us ih =>
          intro hu
          unfold L2.wipe
          rw [ih (fun z => hu (List.mem_cons_of_mem _ z)), List.set_comm _ _ (fun e => hu (by rw [e]; exact List.mem_cons_self))]
      rw [key vs hv, List.set_set]
theorem dcg_name {i : Nat} {x : Str} {pos : Pos} {vs : List Nat} (hN : X.N.Nodup) (hi : X.N[i]? = some x := by rfl) (hv : i ∈ vs := by decide) (hx : Loc X.env.scope x := by first | exact Or.inl rfl | exact Or.inr rfl) (hf : X.fn x = true ∨ X.env.scope.names.lookup x = some .local := by first | exact .inl rfl | exact .inr rfl | assumption) : DCG X (.Name x pos) vs (dName i) :=
  ⟨⟨fun pins s σ H v u Q I rv ⟨ph, S, r, M, d, Q0, hs, q, hg, h1⟩ => (pg_name hN hi hx hf).run pins s σ H v u Q I rv (h1 _ _ ⟨_, Aft.here (hs.setN q) hg⟩ (wipe_set hv))⟩⟩
structure DCGs (X : Cx) (ts : List Expr) (vs : List Nat) (g : DTGs) : Prop where
  pgs : PGs X ts (fun us σ H Q => ∃ ph S r M ds Q0, Sat X.K ph S r M σ H ∧ RepAll X.K ph S us ds ∧ g ds r M Q0 ∧ ∀ σ' H', postN X.K ph S Q0 σ' H' → L2.wipe σ' vs = L2.wipe σ vs → Q σ' H')
theorem dcgs_nil {vs : List Nat} : DCGs X [] vs dGNil := ⟨⟨fun pins s σ H us us' Q I rv ⟨ph, S, r, M, ds, Q0, hs, q, hg, h1⟩ => pgs_nil.run pins s σ H us us' Q I rv (by
  cases ds with
  | cons d ds => exact hg.elim
  | nil =>
    cases q
    exact ⟨rfl, h1 _ _ ⟨r, Aft.here hs hg⟩ rfl⟩)⟩⟩
theorem dcgs_cons {e : Expr} {es : List Expr} {vs : List Nat} {g : DTG} {u : DTGs} (h : DCG X e vs g) (h' : DCGs X es vs u) (hst : (assignEach (e :: es) X.env).map (·.2) = assign e X.env :: (assignEach es X.env).map (·.2) := by rfl) : DCGs X (e :: es) vs (dGCons g u) :=
  ⟨⟨fun pins s σ H us us' Q I rv ⟨ph, S, r, M, ds, Q0, hs, q, hg, h1⟩ => (pgs_cons h.pg h'.pgs hst).run pins s σ H us us' Q I rv (by
    cases ds with
    | nil => exact hg.elim
    | cons d ds =>
      cases q with
      | cons q1 q2 => exact ⟨_, _, rfl, ph, S, r, M, d, _, hs, q1, hg, fun σ1 H1 ⟨r1, ph1, S1, M1, x1, hs1, z⟩ e1 => ⟨ph1, S1, r1, M1, ds, Q0, hs1, q2.up x1, z, fun σ2 H2 z2 e2 => h1 _ _ (z2.up x1) (e2.trans e1)⟩⟩)⟩⟩
theorem dcg_tup {es : List Expr} {k : Nat} {u : DTGs} {n : Nat} {pos : Pos} {vs : List Nat} (hc : X.calm = true) (h : DCGs X es vs u) (hn : (assignEach es X.env).length = n := by rfl) (hst : (assignEach es X.env).findIdx? (·.1) = none := by rfl) : DCG X (.Tuple es k pos) vs (dGTup n u) :=
  ⟨⟨fun pins s σ H v u' Q I rv ⟨ph, S, r, M, d, Q0, hs, q, hg, h1⟩ => by
    unfold dGTup at hg
    split at hg
    · rename_i ds e
      have e' := res_tup e
      subst e'
      refine (pg_tup hc h.pgs hn hst).run pins s σ H v u' Q I rv ?_
      cases q with
      | tup q1 q2 => exact ⟨_, _, rfl, SqT.of (hs.sub _ _ q1), by rw [q2.len]; exact hg.1, ph, S, r, M, _, Q0, hs, q2, hg.2, h1⟩
    · rename_i ds e
      obtain ⟨a, xs, e1, e2, q2⟩ := res_lst hs q e
      refine (pg_unl hc h.pgs hn hst).run pins s σ H v u' Q I rv ?_
      exact ⟨a, xs, e1, SqL.of e2, by rw [q2.len]; exact hg.1, ph, S, r, M, _, Q0, hs, q2, hg.2, h1⟩
    · exact hg.elim⟩⟩
/-- [e for target in iter if ..]: W holds ahead of turn i with the items made so far; own: the list will be changed -/
def lcW (own : Bool) (ds : List D) (C : Mem → Prop) (g : DTG) (tt : DTT) (te : DTE) (r : Env) (M0 : Mem) (Q : DQ) : Prop := ∃ W : Nat → List D → Mem → Prop, W 0 [] M0 ∧ ∀ i acc M, W i acc M → C M ∧
  (ds.length ≤ i → if own = true then Q (.own M.length) (M ++ [.lst acc]) else Q (.lst acc) M) ∧
  ∀ d, ds[i]? = some d → g d r M fun r2 M2 => tt r2 M2 fun b M3 => if b = true then te r2 M3 fun e M4 => acc.length < sizeLine ∧ W (i + 1) (acc ++ [e]) M4 else W (i + 1) acc M3
def dLc (own : Bool) (wi : DTI) (g : DTG) (tt : DTT) (te : DTE) (vs : List Nat) : DTE := fun r M Q => wi r M fun ds C M0 => lcW own ds C g tt te (wipeD r vs) M0 Q
theorem wipe_at {σ : St} {i : Nat} : ∀ {vs : List Nat}, i ∈ vs → i < σ.length → (L2.wipe σ vs)[i]? = some none
  | [], h, _ => by cases h
  | v :: vs, h, hl => by
    unfold L2.wipe
    by_cases e : v = i
    · subst e
      rw [List.getElem?_set_self (by rw [wipe_length]; exact hl)]
    · rw [List.getElem?_set_ne e]
      exact wipe_at ((List.mem_cons.mp h).resolve_left (fun z => e z.symm)) hl
theorem wipe_wipe (σ : St) (vs : List Nat) : L2.wipe (L2.wipe σ vs) vs = L2.wipe σ vs := by
  refine List.ext_getElem? fun i => ?_
  by_cases hi : i ∈ vs
  · by_cases hl : i < σ.length
    · rw [wipe_at hi (by rw [wipe_length]; exact hl), wipe_at hi hl]
    · rw [List.getElem?_eq_none (by rw [wipe_length, wipe_length]; omega), List.getElem?_eq_none (by rw [wipe_length]; omega)]
  · rw [wipe_out hi]
theorem lc_read (o : Bool) {wi : DTI} {g : DTG} {tt : DTT} {te : DTE} {vs : List Nat} {ph : Ph} {S : Hp} {r : Env} {M : Mem} {σ : St} {H : Hp} {Q : DQ} (hs : Sat X.K ph S r M σ H) (ht : dLc o wi g tt te vs r M Q) (Q' : VK) (hq : ∀ v H', post X.K ph S r σ Q v H' → Q' v H') :
    tLc (fun σ H R => ∃ ph S r M Q0, Sat X.K ph S r M σ H ∧ wi r M Q0 ∧ ∀ J H', (Aft X.K ph S r σ H' fun ph' S' M' => ∃ ds C, Wlk X.K ph' S' J ds C ∧ Q0 ds C M') → R J H')
      (fun v σ H Q => ∃ ph S r M d Q0, Sat X.K ph S r M σ H ∧ Rep X.K ph S v d ∧ g d r M Q0 ∧ ∀ σ' H', postN X.K ph S Q0 σ' H' → L2.wipe σ' vs = L2.wipe σ vs → Q σ' H')
      (fun σ H Q => ∃ ph S r M Q0, Sat X.K ph S r M σ H ∧ tt r M Q0 ∧ ∀ b H', postT X.K ph S r σ Q0 b H' → Q b H')
      (fun σ H Q => ∃ ph S r M Q0, Sat X.K ph S r M σ H ∧ te r M Q0 ∧ ∀ v H', post X.K ph S r σ Q0 v H' → Q v H') vs σ H Q' := by
  refine ⟨ph, S, r, M, _, hs, ht, fun J H1 ⟨ph1, S1, M1, x1, hs1, ds, C, wk, W, w0, turn⟩ => ?_⟩
  intro p hp
  refine ⟨fun i m H => m = ds.length - i ∧ ∃ (ph2 : Ph) (S2 : Hp) (M2 : Mem) (xs : List V) (acc : List D), Ext ph1 S1 ⟨ph2.cells, ph1.hid⟩ S2 ∧ ph2.hid = (p, .lst xs) :: ph1.hid ∧ Sat X.K ph2 S2 r M2 σ H ∧ RepAll X.K ph2 S2 xs acc ∧ W i acc M2,
    ⟨ds.length, by omega, { ph1 with hid := (p, .lst []) :: ph1.hid }, S1, M1, [], [], .refl, rfl, hs1.hide hp _, .nil, w0⟩, ?_⟩
  rintro i m H3 ⟨rfl, ph3, S3, M3, xs, acc, x3, eh, hs3, qa, w3⟩
  obtain ⟨c3, f3, g3⟩ := turn i acc M3 w3
  obtain ⟨k1, k2⟩ := wk ph3 S3 r M3 σ H3 x3.pre x3.same hs3 c3
  by_cases hl : ds.length ≤ i
  · refine .inl ⟨k1 i hl, ?_⟩
    have f := f3 hl
    obtain ⟨c, hd⟩ := ph3
    cases eh
    cases o with
    | false =>
      rw [if_neg Bool.false_ne_true] at f
      obtain ⟨x4, hs4⟩ := hs3.hfrz
      exact hq _ _ ⟨⟨c, ph1.hid⟩, _, M3, x1.trans (x3.trans x4), hs4, _, .lst upd_same ((RepAll.hid qa).up x4), f⟩
    | true =>
      rw [if_pos rfl] at f
      obtain ⟨x4, hs4, e4⟩ := hs3.hown (RepAll.hid qa)
      exact hq _ _ ⟨⟨c ++ [p], ph1.hid⟩, _, _, x1.trans (x3.trans x4), hs4, _, .own e4, f⟩
  · obtain ⟨d, ed⟩ : ∃ d, ds[i]? = some d := ⟨ds[i]'(by omega), List.getElem?_eq_getElem (by omega)⟩
    obtain ⟨k3, k4⟩ := k2 i d ed
    refine .inr ⟨k3, fun H' => ∃ (ph2 : Ph) (S2 : Hp) (M2 : Mem) (xs : List V) (acc : List D), Ext ph1 S1 ⟨ph2.cells, ph1.hid⟩ S2 ∧ ph2.hid = (p, .lst xs) :: ph1.hid ∧ Sat X.K ph2 S2 r M2 σ H' ∧ RepAll X.K ph2 S2 xs acc ∧ W (i + 1) acc M2, fun H' z => ⟨ds.length - (i + 1), by omega, rfl, z⟩, fun x H4 hy => ?_⟩
    obtain ⟨ph4, S4, M4, x4, hs4, rfl, q4⟩ := k4 x H4 hy
    refine ⟨ph4, S4, wipeD r vs, M4, d, _, hs4.wipe vs, q4, g3 d ed, fun σ5 H5 ⟨r5, ph5, S5, M5, x5, hs5, z5⟩ e5 => ⟨e5.trans (wipe_wipe σ vs), ?_⟩⟩
    refine ⟨ph5, S5, r5, M5, _, hs5, z5, fun b H6 ⟨ph6, S6, M6, x6, hs6, z6⟩ => ?_⟩
    cases b with
    | false =>
      have xx := x4.trans (x5.trans x6)
      rw [if_neg Bool.false_ne_true] at z6 ⊢
      exact ⟨ph6, S6, M6, xs, acc, ⟨fun k a e => xx.pre k a (x3.pre k a e), x3.same.trans xx.same, rfl⟩, xx.hid.trans eh, hs3.back xx hs6.drop, qa.up xx, z6⟩
    | true =>
      rw [if_pos rfl] at z6 ⊢
      refine ⟨ph6, S6, r5, M6, _, hs6, z6, fun v H7 ⟨ph7, S7, M7, x7, hs7, e, q7, hlt, w7⟩ => ?_⟩
      have xx := x4.trans (x5.trans (x6.trans x7))
      have eh7 : ph7.hid = (p, .lst xs) :: ph1.hid := xx.hid.trans eh
      obtain ⟨c, hd⟩ := ph7
      cases eh7
      have hb : Sat X.K ⟨c, (p, .lst xs) :: ph1.hid⟩ S7 r M7 σ H7 := hs3.back xx hs7.drop
      obtain ⟨g1, _, _⟩ := hb.hid _ List.mem_cons_self
      refine ⟨xs, g1, by rw [qa.len]; exact hlt, ⟨c, (p, .lst (xs ++ [v])) :: ph1.hid⟩, S7, M7, xs ++ [v], acc ++ [e], ⟨fun k a e => xx.pre k a (x3.pre k a e), x3.same.trans xx.same, rfl⟩, rfl, hb.hset, ?_, w7⟩
      exact (RepAll.hid (qa.up xx)).app (.cons (Rep.hid q7) .nil)
theorem de_lc (o : Bool) {elt tg iter : Expr} {ifs : List Expr} {scope : Scope} {own : List (Str × Nat)} {pos : Pos} {wi : DTI} {g : DTG} {tt : DTT} {te : DTE} (hc : X.calm = true) (hN : X.N.Nodup) (ok : BlkOk X.N X.env.scope scope own) (hi : DI X tg iter wi)
    (hg : ∀ (s : Shared) (H : Hp) (C : Addr) (cl : List (Str × Addr)) (fp : List Addr), DCG (X.blk s H scope (compEnvC scope cl C X.env) fp) tg (own.map (·.2)) g)
    (ht : ∀ (s : Shared) (H : Hp) (C : Addr) (cl : List (Str × Addr)) (fp : List Addr), DTs (X.blk s H scope (compEnvC scope cl C X.env) fp) ifs tt)
    (he : ∀ (s : Shared) (H : Hp) (C : Addr) (cl : List (Str × Addr)) (fp : List Addr), DE (X.blk s H scope (compEnvC scope cl C X.env) fp) elt te)
    (hs : ∀ x, foldedSetIterable iter X.env x = pure x := by intro _; rfl) : DE X (.ListComp elt [⟨tg, iter, ifs, 0⟩] scope pos) (dLc o wi g tt te (own.map (·.2))) :=
  DE.of (pe_lc hc hN hi.pi ok (fun s H C cl fp => (hg s H C cl fp).pg) (fun s H C cl fp => (ht s H C cl fp).pts) (fun s H C cl fp => (he s H C cl fp).pe) hs) fun ph S r M σ H Q hs ht Q' hq => lc_read (X := X) o hs ht Q' hq
/-- y = [..] -/
theorem ds_setLc (o : Bool) {i : Nat} {y : Str} {py : Pos} {elt tg iter : Expr} {ifs : List Expr} {scope : Scope} {own : List (Str × Nat)} {pos spos : Pos} {wi : DTI} {g : DTG} {tt : DTT} {te : DTE} (hc : X.calm = true) (hN : X.N.Nodup) (hsw : swapsWith (.ListComp elt [⟨tg, iter, ifs, 0⟩] scope pos) (some (.Name y py)) spos.line X.env = pure true) (ok : BlkOk X.N X.env.scope scope own) (hi : DI X tg iter wi)
    (hg : ∀ (s : Shared) (H : Hp) (C : Addr) (cl : List (Str × Addr)) (fp : List Addr), DCG (X.blk s H scope (compEnvC scope cl C X.env) fp) tg (own.map (·.2)) g)
    (ht : ∀ (s : Shared) (H : Hp) (C : Addr) (cl : List (Str × Addr)) (fp : List Addr), DTs (X.blk s H scope (compEnvC scope cl C X.env) fp) ifs tt)
    (he : ∀ (s : Shared) (H : Hp) (C : Addr) (cl : List (Str × Addr)) (fp : List Addr), DE (X.blk s H scope (compEnvC scope cl C X.env) fp) elt te)
    (hy : X.N[i]? = some y := by rfl) (hyl : X.env.scope.names.lookup y = some .local := by rfl) (hs : ∀ x, foldedSetIterable iter X.env x = pure x := by intro _; rfl) : DS X (.Assign [.Name y py] (.ListComp elt [⟨tg, iter, ifs, 0⟩] scope pos) spos) (dAsg (dLc o wi g tt te (own.map (·.2))) (dName i)) :=
  DS.of (ps_setLc hc hN hy hyl hsw hi.pi ok (fun s H C cl fp => (hg s H C cl fp).pg) (fun s H C cl fp => (ht s H C cl fp).pts) (fun s H C cl fp => (he s H C cl fp).pe) hs) fun ph S r M σ H E hs ht E' h1 _ _ _ =>
    lc_read (X := X) o hs ht _ fun v H' ⟨ph1, S1, M1, x, hs1, d, q, z⟩ => h1 _ _ ⟨_, ph1, S1, M1, x, hs1.setN q, z⟩
end DL
/-! DL7: what is walked; built-ins; methods; slices; repr -/
namespace DL
open PySem PySem.Spec PyProof.Rows L2
variable {X : Cx}

/-! ### what is walked -/
theorem Wlk.list {K : PySem.W.Frag} {ph : Ph} {S : Hp} {a : Addr} {ds : List D} {C : Mem → Prop} (h : ∀ (ph' : Ph) (S' : Hp) (r : Env) (M : Mem) (σ : St) (H : Hp), (∀ (k : Nat) (a : Addr), ph.cells[k]? = some a → ph'.cells[k]? = some a) → Same S S' → Sat K ph' S' r M σ H → C M → ∃ xs, SqL K H a xs ∧ RepAll K ph' S' xs ds) : Wlk K ph S (Itl K a) ds C :=
  fun ph' S' r M σ H h1 h2 hs hc => by
    obtain ⟨xs, q, qa⟩ := h ph' S' r M σ H h1 h2 hs hc
    refine ⟨fun i hi => ⟨xs, q, by rw [qa.len]; exact hi⟩, fun i d e => ?_⟩
    obtain ⟨x, ex, qx⟩ := qa.get e
    refine ⟨⟨xs, x, q, ex⟩, fun y H' ⟨e1, e2⟩ => ?_⟩
    subst e1
    have ey := e2 xs q
    rw [ex] at ey
    cases ey
    exact Aft.here hs ⟨rfl, qx⟩
theorem Wlk.tup {K : PySem.W.Frag} {ph : Ph} {S : Hp} {a : Addr} {ds : List D} {C : Mem → Prop} (h : ∀ (ph' : Ph) (S' : Hp) (r : Env) (M : Mem) (σ : St) (H : Hp), (∀ (k : Nat) (a : Addr), ph.cells[k]? = some a → ph'.cells[k]? = some a) → Same S S' → Sat K ph' S' r M σ H → C M → ∃ xs, SqT K H a xs ∧ RepAll K ph' S' xs ds) : Wlk K ph S (Itt K a) ds C :=
  fun ph' S' r M σ H h1 h2 hs hc => by
    obtain ⟨xs, q, qa⟩ := h ph' S' r M σ H h1 h2 hs hc
    refine ⟨fun i hi => ⟨xs, q, by rw [qa.len]; exact hi⟩, fun i d e => ?_⟩
    obtain ⟨x, ex, qx⟩ := qa.get e
    refine ⟨⟨xs, x, q, ex⟩, fun y H' ⟨e1, e2⟩ => ?_⟩
    subst e1
    have ey := e2 xs q
    rw [ex] at ey
    cases ey
    exact Aft.here hs ⟨rfl, qx⟩
theorem RepAll.ext0 {K : PySem.W.Frag} {ph ph' : Ph} {S S' : Hp} {d : List D} {v : List V} (h1 : ∀ (k : Nat) (a : Addr), ph.cells[k]? = some a → ph'.cells[k]? = some a) (h2 : Same S S') (q : RepAll K ph S v d) : RepAll K ph' S' v d :=
  RepAll.hid (c := ph'.cells) (l := ph.hid) (l' := ph'.hid) (q.up (ph' := ⟨ph'.cells, ph.hid⟩) ⟨h1, h2, rfl⟩)
/-- a list, a tuple, the script -/
def gSeqI (d : D) (M : Mem) (R : List D → (Mem → Prop) → Mem → Prop) : Prop := match d with
  | .lst ds => R ds (fun _ => True) M
  | .tup ds => R ds (fun _ => True) M
  | .scr ns => R (ns.map D.int) (fun _ => True) M
  | .own k => match M[k]? with
    | some (.lst ds) => R ds (fun M' => M'[k]? = some (.lst ds)) M
    | _ => False
  | _ => False
def dSeqI (t : DTE) : DTI := fun r M R => t r M fun d M1 => gSeqI d M1 R
/-- it is a list at a, or a tuple -/
theorem pi_seq {tg l : Expr} {tl : TE} (hl : PE X l tl) : PI X tg l (fun σ H R => tl σ H fun x H1 => ∃ a, x = .ref a ∧ (((∃ xs, SqL X.K H1 a xs) ∧ R (Itl X.K a) H1) ∨ ((∃ xs, SqT X.K H1 a xs) ∧ R (Itt X.K a) H1))) := by
  refine ⟨fun pins s σ H R I h => thn (hl.run pins s σ H _ I h) fun v s1 ⟨x, H1, I1, r1, a, ex, q1⟩ => ?_⟩
  subst ex
  cases r1
  have fp : ∀ b ∈ [s1.heap.objs.size], FpOk X pins H1 b := fun b hb => by
    have e : b = s1.heap.objs.size := by simpa using hb
    rw [e]
    exact I1.fpOk (Nat.le_refl _) (I1.hok.fresh (Nat.le_refl _))
  rcases q1 with ⟨⟨xs, hq⟩, q⟩ | ⟨⟨xs, hq⟩, q⟩
  · obtain ⟨its, rv, p, hz⟩ := I1.list hq
    exact wpAny_pyIter_list p.isList ⟨s1.heap.objs.size, [s1.heap.objs.size], _, _, H1, rfl, I1.kept (t' := s1.toks) fun b o e => Heap.get?_push_of_some _ e, turn_list a _, ⟨_, Heap.get?_push_size _ rfl, rfl, rfl⟩, fp, q⟩
  · obtain ⟨its, rv, p, hz⟩ := I1.tuple hq
    exact wpAny_pyIter_tuple (show s1.heap.IsTuple a its.toArray from p) ⟨s1.heap.objs.size, [s1.heap.objs.size], _, _, H1, rfl, I1.kept (t' := s1.toks) fun b o e => Heap.get?_push_of_some _ e, turn_tuple a _, ⟨_, Heap.get?_push_size _ rfl, rfl, rfl⟩, fp, q⟩
theorem PI.weak {tg l : Expr} {t t' : TI} (h : PI X tg l t) (w : ∀ σ H R, t' σ H R → t σ H R) : PI X tg l t' := ⟨fun pins s σ H R I q => h.run pins s σ H R I (w _ _ _ q)⟩
theorem di_seq {tg l : Expr} {t : DTE} (h : DE X l t) : DI X tg l (dSeqI t) :=
  ⟨PI.weak (pi_seq h.pe) fun σ H R ⟨ph, S, r, M, Q0, hs, ht, hq⟩ => ⟨ph, S, r, M, _, hs, ht, fun v H1 ⟨ph1, S1, M1, x1, hs1, d, q1, g1⟩ => by
    cases d <;> first | exact g1.elim | skip
    · cases q1 with
      | tup h1 h2 => exact ⟨_, rfl, .inr ⟨⟨_, SqT.of (hs1.sub _ _ h1)⟩, hq _ _ ⟨ph1, S1, M1, x1, hs1, _, _, Wlk.tup (fun ph' S' r' M' σ' H' e1 e2 hs' _ => ⟨_, SqT.of (hs'.sub _ _ (e2 _ _ h1)), h2.ext0 e1 e2⟩), g1⟩⟩⟩
    · cases q1 with
      | lst h1 h2 => exact ⟨_, rfl, .inl ⟨⟨_, SqL.of (hs1.sub _ _ h1)⟩, hq _ _ ⟨ph1, S1, M1, x1, hs1, _, _, Wlk.list (fun ph' S' r' M' σ' H' e1 e2 hs' _ => ⟨_, SqL.of (hs'.sub _ _ (e2 _ _ h1)), h2.ext0 e1 e2⟩), g1⟩⟩⟩
    · cases q1 with
      | scr h1 => exact ⟨_, rfl, .inl ⟨⟨_, hs1.sub.seq h1⟩, hq _ _ ⟨ph1, S1, M1, x1, hs1, _, _, Wlk.list (fun ph' S' r' M' σ' H' e1 e2 hs' _ => ⟨_, hs'.sub.seq (e2.seq h1), RepAll.ints _⟩), g1⟩⟩⟩
    · rename_i k
      cases q1 with
      | own h1 =>
        replace g1 : gSeqI (.own k) M1 Q0 := g1
        unfold gSeqI at g1
        dsimp only at g1
        split at g1
        · rename_i ds hk
          obtain ⟨a, xs, c1, c2, c3, c4⟩ := hs1.cell k ds hk
          rw [h1] at c1; cases c1
          refine ⟨_, rfl, .inl ⟨⟨_, SqL.of c3⟩, hq _ _ ⟨ph1, S1, M1, x1, hs1, _, _, Wlk.list (fun ph' S' r' M' σ' H' e1 e2 hs' hc => ?_), g1⟩⟩⟩
          obtain ⟨a', xs', b1, b2, b3, b4⟩ := hs'.cell k ds hc
          rw [e1 _ _ h1] at b1; cases b1
          exact ⟨xs', SqL.of b3, b4⟩
        · exact g1.elim⟩⟩
/-- lo, lo + 1, .. -/
def rng (lo : Int) (n : Nat) : List D := (List.range n).map fun i => D.int (lo + (i : Nat))
theorem rng_len (lo : Int) (n : Nat) : (rng lo n).length = n := by unfold rng; rw [List.length_map, List.length_range]
theorem rng_get {lo : Int} {n i : Nat} {d : D} : (rng lo n)[i]? = some d ↔ i < n ∧ d = .int (lo + (i : Nat)) := by
  unfold rng
  rw [List.getElem?_map]
  constructor
  · intro e
    cases h : (List.range n)[i]? with
    | none => rw [h] at e; cases e
    | some j =>
      rw [h] at e
      obtain ⟨h1, h2⟩ := List.getElem?_eq_some_iff.mp h
      rw [List.length_range] at h1
      rw [List.getElem_range] at h2
      exact ⟨h1, by rw [h2]; exact (Option.some.inj e).symm⟩
  · rintro ⟨h1, rfl⟩
    rw [List.getElem?_eq_getElem (by rw [List.length_range]; exact h1), List.getElem_range]
    rfl
theorem Wlk.range {K : PySem.W.Frag} {ph : Ph} {S : Hp} {lo : Int} {n : Nat} {C : Mem → Prop} : Wlk K ph S (Itr lo n) (rng lo n) C := fun ph' S' r M σ H h1 h2 hs hc => by
  refine ⟨fun i hi => by rw [rng_len] at hi; exact hi, fun i d e => ?_⟩
  obtain ⟨hi, rfl⟩ := rng_get.mp e
  refine ⟨hi, fun x H' ⟨e1, e2⟩ => ?_⟩
  subst e1 e2
  exact Aft.here hs ⟨rfl, .int _⟩
def Rg (i : Int) : Prop := -(2 ^ 62) ≤ i ∧ i < 2 ^ 62
def gRng1 (ds : List D) (M : Mem) (R : List D → (Mem → Prop) → Mem → Prop) : Prop := match ds with
  | [.int n] => Rg n ∧ R (rng 0 n.toNat) (fun _ => True) M
  | _ => False
def gRng2 (ds : List D) (M : Mem) (R : List D → (Mem → Prop) → Mem → Prop) : Prop := match ds with
  | [.int a, .int b] => (Rg a ∧ Rg b) ∧ R (rng a (b - a).toNat) (fun _ => True) M
  | _ => False
def dRngI (g : List D → Mem → (List D → (Mem → Prop) → Mem → Prop) → Prop) (t : DTA) : DTI := fun r M R => t r M fun ds M1 => g ds M1 R
theorem di_range1 {tg a : Expr} {t : DTA} {p pos : Pos} (hm : X.mg "range" = none) (ha : DA X [a] t) (hg : Gl X "range" := by rfl) (hst : starEach [a] X.env = [(false, eval a X.env)] := by rfl) : DI X tg (.Call (.Name "range" p) [a] [] pos) (dRngI gRng1 t) :=
  ⟨PI.weak (pi_range1 hg hm ha.pa hst) fun σ H R ⟨ph, S, r, M, Q0, hs, ht, hq⟩ => ⟨ph, S, r, M, _, hs, ht, fun vs H1 ⟨ph1, S1, M1, x1, hs1, ds, q1, g1⟩ => by
    match ds, q1, g1 with
    | [.int n], .cons q .nil, ⟨⟨h1, h2⟩, g⟩ =>
      cases q
      exact ⟨n, rfl, h1, h2, hq _ _ ⟨ph1, S1, M1, x1, hs1, _, _, Wlk.range, g⟩⟩⟩⟩
theorem di_range2 {tg a b : Expr} {t : DTA} {p pos : Pos} (hm : X.mg "range" = none) (ha : DA X [a, b] t) (hg : Gl X "range" := by rfl) (hst : starEach [a, b] X.env = [(false, eval a X.env), (false, eval b X.env)] := by rfl) (hs2 : starEach [b] X.env = [(false, eval b X.env)] := by rfl) : DI X tg (.Call (.Name "range" p) [a, b] [] pos) (dRngI gRng2 t) :=
  ⟨PI.weak (pi_range2 hg hm ha.pa hst hs2) fun σ H R ⟨ph, S, r, M, Q0, hs, ht, hq⟩ => ⟨ph, S, r, M, _, hs, ht, fun vs H1 ⟨ph1, S1, M1, x1, hs1, ds, q1, g1⟩ => by
    match ds, q1, g1 with
    | [.int a, .int b], .cons q (.cons q' .nil), ⟨⟨⟨h1, h2⟩, h3, h4⟩, g⟩ =>
      cases q
      cases q'
      exact ⟨a, b, rfl, ⟨h1, h2, h3, h4⟩, hq _ _ ⟨ph1, S1, M1, x1, hs1, _, _, Wlk.range, g⟩⟩⟩⟩

/-! ### calls of what is built in -/
abbrev GA := List D → Mem → DQ → Prop
def CallD (X : Cx) (f : Value) (g : GA) : Prop :=
  ∀ (pins : List (Addr × Obj)) (s : Shared) (σ : St) (H : Hp) (ph : Ph) (S : Hp) (r : Env) (M : Mem) (vs : List V) (us : List Value) (ds : List D) (Q : DQ), Inv X pins σ H s → Sat X.K ph S r M σ H → Vals vs us → RepAll X.K ph S vs ds → g ds M Q →
    wpAny (model X.prog X.w) X.A (call f us) (EP X pins σ (post X.K ph S r σ Q)) X.xe s
theorem CallD.of {f : Value} {r' : List V → Hp → VK → Prop} {g : GA} (h : CallR X f r')
    (w : ∀ (σ : St) (H : Hp) (ph : Ph) (S : Hp) (r : Env) (M : Mem) (vs : List V) (ds : List D) (Q : DQ), Sat X.K ph S r M σ H → RepAll X.K ph S vs ds → g ds M Q → r' vs H (post X.K ph S r σ Q)) : CallD X f g :=
  fun pins s σ H ph S r M vs us ds Q I hs rv q hg => h pins s σ H vs us _ I rv (w σ H ph S r M vs ds Q hs q hg)
def dCB (g : GA) (t : DTA) : DTE := fun r M Q => t r M fun ds M1 => g ds M1 Q
section
variable {x : Str} {p pos : Pos} {e : Expr} {es : List Expr} {t : DTA} {id T : String} {g : GA}
theorem de_blt (hc : CallD X (.builtin id) g) (hm : X.mg x = none) (ha : DA X (e :: es) t) (hv : bootBuiltins x = some (.builtin id) := by decide +kernel) (hg : Gl X x := by rfl) (hn : x ≠ "__name__" := by decide) (hdb : (x == ("__debug__" : Str)) = false := by decide)
    (he : starEach (e :: es) X.env = (false, eval e X.env) :: starEach es X.env := by rfl) (hpl : (backTo pos (starEach es X.env)).any (·.1) = false := by rfl) : DE X (.Call (.Name x p) (e :: es) [] pos) (dCB g t) :=
  ⟨⟨fun pins s σ H Q I ⟨ph, S, r, M, Q0, hs, ht, hq⟩ => wpAny_Call_Name_kw (ld_blt I hg hm hv (PyProof.Rows.callWith_builtin1 (thn (ha.pa.run pos pins s σ H _ I ⟨ph, S, r, M, _, hs, ht, fun _ _ z => z⟩)
    fun us s1 ⟨vs, H1, I1, r1, ph1, S1, M1, x1, hs1, ds, q1, g1⟩ => thn (hc pins s1 σ H1 ph1 S1 r M1 vs us ds Q0 I1 hs1 r1 q1 g1) fun _ _ z => EP.up x1 z hq) he hpl) hn hdb)⟩⟩
theorem de_ty (hc : CallD X (.type T) g) (hm : X.mg x = none) (ha : DA X (e :: es) t) (hv : bootBuiltins x = some (.type T) := by decide +kernel) (hg : Gl X x := by rfl) (hn : x ≠ "__name__" := by decide) (hdb : (x == ("__debug__" : Str)) = false := by decide)
    (he : starEach (e :: es) X.env = (false, eval e X.env) :: starEach es X.env := by rfl) (hpl : (backTo pos (starEach es X.env)).any (·.1) = false := by rfl) : DE X (.Call (.Name x p) (e :: es) [] pos) (dCB g t) :=
  ⟨⟨fun pins s σ H Q I ⟨ph, S, r, M, Q0, hs, ht, hq⟩ => wpAny_Call_Name_kw (ld_blt I hg hm hv (PyProof.Rows.callWith_type1 (thn (ha.pa.run pos pins s σ H _ I ⟨ph, S, r, M, _, hs, ht, fun _ _ z => z⟩)
    fun us s1 ⟨vs, H1, I1, r1, ph1, S1, M1, x1, hs1, ds, q1, g1⟩ => thn (hc pins s1 σ H1 ph1 S1 r M1 vs us ds Q0 I1 hs1 r1 q1 g1) fun _ _ z => EP.up x1 z hq) he hpl) hn hdb)⟩⟩
/-- a module's name for a built-in function (gcd) -/
theorem de_bfun (hc : CallD X (.builtin id) g) (hm : X.mg x = some (.builtin id)) (ha : DA X (e :: es) t) (hg : Gl X x := by rfl) (hdb : (x == ("__debug__" : Str)) = false := by decide)
    (he : starEach (e :: es) X.env = (false, eval e X.env) :: starEach es X.env := by rfl) (hpl : (backTo pos (starEach es X.env)).any (·.1) = false := by rfl) : DE X (.Call (.Name x p) (e :: es) [] pos) (dCB g t) :=
  ⟨⟨fun pins s σ H Q I ⟨ph, S, r, M, Q0, hs, ht, hq⟩ => wpAny_Call_Name_kw (ld_glob I hg hm (PyProof.Rows.callWith_builtin1 (thn (ha.pa.run pos pins s σ H _ I ⟨ph, S, r, M, _, hs, ht, fun _ _ z => z⟩)
    fun us s1 ⟨vs, H1, I1, r1, ph1, S1, M1, x1, hs1, ds, q1, g1⟩ => thn (hc pins s1 σ H1 ph1 S1 r M1 vs us ds Q0 I1 hs1 r1 q1 g1) fun _ _ z => EP.up x1 z hq) he hpl) hdb)⟩⟩
/-- a built-in name as a value -/
theorem de_bltn {v : V} {u : Value} (hm : X.mg x = none) (r : RelV v u) (hv : bootBuiltins x = some u := by decide +kernel) (hg : Gl X x := by rfl) (hn : x ≠ "__name__" := by decide) (hd : (x == ("__debug__" : Str)) = false := by decide) : DE X (.Name x pos) (dC (.val v)) :=
  de_c (pe_bltn hg hm hv r hn hd) fun _ _ => .val _
end
def gAbs : GA := fun ds M Q => match ds with
  | [.int i] => Q (.int (if i < 0 then -i else i)) M
  | _ => False
theorem cd_abs : CallD X (.builtin "abs") gAbs := CallD.of call_abs fun σ H ph S r M vs ds Q hs q hg => by
  match ds, q, hg with
  | [.int i], .cons q .nil, hg => cases q; exact ⟨_, rfl, Aft.here hs ⟨_, .int _, hg⟩⟩
def gInt : GA := fun ds M Q => match ds with
  | [.int i] => Q (.int i) M
  | [.bl b] => Q (.int (if b then 1 else 0)) M
  | _ => False
theorem cd_int : CallD X (.type "int") gInt := CallD.of call_int1 fun σ H ph S r M vs ds Q hs q hg => by
  match ds, q, hg with
  | [.int i], .cons q .nil, hg => cases q; exact .inl ⟨_, rfl, Aft.here hs ⟨_, .int _, hg⟩⟩
  | [.bl i], .cons q .nil, hg => cases q; exact .inr ⟨_, rfl, Aft.here hs ⟨_, .int _, hg⟩⟩
def gMax : GA := fun ds M Q => match ds with
  | [.int i, .int j] => Q (.int (if j > i then j else i)) M
  | _ => False
theorem cd_max (hc : X.calm = true) : CallD X (.builtin "max") gMax := CallD.of (call_max2 hc) fun σ H ph S r M vs ds Q hs q hg => by
  match ds, q, hg with
  | [.int i, .int j], .cons q (.cons q' .nil), hg => cases q; cases q'; exact ⟨_, _, rfl, Aft.here hs ⟨_, .int _, hg⟩⟩
def gMin : GA := fun ds M Q => match ds with
  | [.int i, .int j] => Q (.int (if j < i then j else i)) M
  | _ => False
theorem cd_min (hc : X.calm = true) : CallD X (.builtin "min") gMin := CallD.of (call_min2 hc) fun σ H ph S r M vs ds Q hs q hg => by
  match ds, q, hg with
  | [.int i, .int j], .cons q (.cons q' .nil), hg => cases q; cases q'; exact ⟨_, _, rfl, Aft.here hs ⟨_, .int _, hg⟩⟩
def gGcd : GA := fun ds M Q => match ds with
  | [.int i, .int j] => Q (.int (Int.gcd i j)) M
  | _ => False
theorem cd_gcd : CallD X (.builtin "math.gcd") gGcd := CallD.of cr_gcd fun σ H ph S r M vs ds Q hs q hg => by
  match ds, q, hg with
  | [.int i, .int j], .cons q (.cons q' .nil), hg => cases q; cases q'; exact ⟨_, _, rfl, Aft.here hs ⟨_, .int _, hg⟩⟩
/-- the length of a list, a tuple, a text -/
def lenD (M : Mem) : D → Option Nat
  | .lst l => some l.length
  | .tup l => some l.length
  | .scr l => some l.length
  | .own k => match M[k]? with
    | some (.lst l) => some l.length
    | _ => none
  | .str x => if x.length ≤ sizeLine then some x.length else none
  | _ => none
def gLen : GA := fun ds M Q => match ds with
  | [d] => match lenD M d with
    | some n => Q (.int n) M
    | none => False
  | _ => False
theorem len_V {K : PySem.W.Frag} {ph : Ph} {S : Hp} {r : Env} {M : Mem} {σ : St} {H : Hp} {v : V} {d : D} {n : Nat} (hs : Sat K ph S r M σ H) (q : Rep K ph S v d) (e : lenD M d = some n) : LenV K v H n := by
  cases d <;> first | (cases e; done) | skip
  · rename_i x
    cases q
    have e' : (if x.length ≤ sizeLine then some x.length else none) = some n := e
    by_cases h : x.length ≤ sizeLine
    · rw [if_pos h] at e'
      exact ⟨h, (Option.some.inj e').symm⟩
    · rw [if_neg h] at e'; cases e'
  · cases q with
    | tup h1 h2 => exact .inr ⟨_, SqT.of (hs.sub _ _ h1), by rw [h2.len]; exact (Option.some.inj e).symm⟩
  · cases q with
    | lst h1 h2 => exact .inl ⟨_, SqL.of (hs.sub _ _ h1), by rw [h2.len]; exact (Option.some.inj e).symm⟩
  · cases q with
    | scr h1 => exact .inl ⟨_, hs.sub.seq h1, by rw [List.length_map]; exact (Option.some.inj e).symm⟩
  · rename_i k
    cases q with
    | own h1 =>
      unfold lenD at e
      dsimp only at e
      split at e
      · rename_i l hk
        obtain ⟨a, xs, c1, c2, c3, c4⟩ := hs.cell k l hk
        rw [h1] at c1; cases c1
        exact .inl ⟨_, SqL.of c3, by rw [c4.len]; exact (Option.some.inj e).symm⟩
      · cases e
theorem cd_len : CallD X (.builtin "len") gLen := CallD.of call_len fun σ H ph S r M vs ds Q hs q hg => by
  match ds, q, hg with
  | [d], .cons q .nil, hg =>
    unfold gLen at hg
    dsimp only at hg
    split at hg
    · rename_i n e
      exact ⟨_, n, rfl, len_V hs q e, Aft.here hs ⟨_, .int _, hg⟩⟩
    · exact hg.elim
/-- the ints of a list of ints -/
def intsD : List D → Option (List Int)
  | [] => some []
  | .int i :: ds => match intsD ds with
    | some is => some (i :: is)
    | none => none
  | _ :: _ => none
theorem intsD_rep {K : PySem.W.Frag} {ph : Ph} {S : Hp} : ∀ {vs : List V} {ds : List D} {is : List Int}, RepAll K ph S vs ds → intsD ds = some is → vs = is.map V.int
  | _, [], _, .nil, e => by cases e; rfl
  | _, d :: ds, is, .cons q t, e => by
    cases d <;> first | (cases e; done) | skip
    unfold intsD at e
    split at e
    · rename_i is' e'
      cases e
      cases q
      rw [intsD_rep t e']; rfl
    · cases e
def gSum : GA := fun ds M Q => match ds with
  | [d] => match res M d with
    | .lst l => match intsD l with
      | some is => Q (.int is.sum) M
      | none => False
    | .scr ns => Q (.int ns.sum) M
    | _ => False
  | _ => False
theorem cd_sum (hc : X.calm = true) : CallD X (.builtin "sum") gSum := CallD.of (cr_sum hc) fun σ H ph S r M vs ds Q hs q hg => by
  match ds, q, hg with
  | [d], .cons q .nil, hg =>
    unfold gSum at hg
    dsimp only at hg
    split at hg
    · rename_i l e
      split at hg
      · rename_i is e2
        obtain ⟨a, xs, rfl, h1, h2⟩ := res_lst hs q e
        exact ⟨a, is, rfl, by rw [← intsD_rep h2 e2]; exact SqL.of h1, Aft.here hs ⟨_, .int _, hg⟩⟩
      · exact hg.elim
    · rename_i ns e
      cases res_scr e
      cases q with
      | scr h1 => exact ⟨_, ns, rfl, hs.sub.seq h1, Aft.here hs ⟨_, .int _, hg⟩⟩
    · exact hg.elim
/-- list(x): a list that is only read, or one that will be changed -/
def seqD (M : Mem) (d : D) : Option (List D) := match res M d with
  | .lst l => some l
  | .tup l => some l
  | .scr ns => some (ns.map D.int)
  | _ => none
theorem seq_V {K : PySem.W.Frag} {ph : Ph} {S : Hp} {r : Env} {M : Mem} {σ : St} {H : Hp} {v : V} {d : D} {l : List D} (hs : Sat K ph S r M σ H) (q : Rep K ph S v d) (e : seqD M d = some l) : ∃ a xs, v = .ref a ∧ (SqL K H a xs ∨ SqT K H a xs) ∧ RepAll K ph S xs l := by
  unfold seqD at e
  split at e
  · rename_i l' e1
    cases e
    obtain ⟨a, xs, rfl, h1, h2⟩ := res_lst hs q e1
    exact ⟨a, xs, rfl, .inl (SqL.of h1), h2⟩
  · rename_i l' e1
    cases e
    cases res_tup e1
    cases q with
    | tup h1 h2 => exact ⟨_, _, rfl, .inr (SqT.of (hs.sub _ _ h1)), h2⟩
  · rename_i ns e1
    cases e
    cases res_scr e1
    cases q with
    | scr h1 => exact ⟨_, _, rfl, .inl (hs.sub.seq h1), RepAll.ints _⟩
  · cases e
def gList (own : Bool) : GA := fun ds M Q => match ds with
  | [d] => match seqD M d with
    | some l => if own = true then Q (.own M.length) (M ++ [.lst l]) else Q (.lst l) M
    | none => False
  | _ => False
theorem cd_list (own : Bool) : CallD X (.type "list") (gList own) := CallD.of call_list_of fun σ H ph S r M vs ds Q hs q hg => by
  match ds, q, hg with
  | [d], .cons q .nil, hg =>
    unfold gList at hg
    dsimp only at hg
    split at hg
    · rename_i l e
      obtain ⟨a, xs, rfl, h1, h2⟩ := seq_V hs q e
      refine ⟨a, xs, rfl, h1, fun p hp => ?_⟩
      cases own with
      | false => exact Aft.frz hs hp fun x => ⟨_, .lst upd_same (h2.up x), hg⟩
      | true => exact Aft.own hs hp h2 hg
    · exact hg.elim
def gTuple : GA := fun ds M Q => match ds with
  | [d] => match seqD M d with
    | some l => Q (.tup l) M
    | none => False
  | _ => False
theorem cd_tuple : CallD X (.type "tuple") gTuple := CallD.of call_tuple_of fun σ H ph S r M vs ds Q hs q hg => by
  match ds, q, hg with
  | [d], .cons q .nil, hg =>
    unfold gTuple seqD at hg
    dsimp only at hg
    split at hg
    · rename_i l e
      split at e
      · rename_i l' e1
        cases e
        obtain ⟨a, xs, rfl, h1, h2⟩ := res_lst hs q e1
        exact ⟨a, xs, rfl, .inl ⟨SqL.of h1, fun p hp => Aft.frz hs hp fun x => ⟨_, .tup upd_same (h2.up x), hg⟩⟩⟩
      · rename_i l' e1
        cases e
        cases res_tup e1
        cases q with
        | tup h1 h2 => exact ⟨_, _, rfl, .inr ⟨SqT.of (hs.sub _ _ h1), Aft.here hs ⟨_, .tup h1 h2, hg⟩⟩⟩
      · rename_i ns e1
        cases e
        cases res_scr e1
        cases q with
        | scr h1 => exact ⟨_, _, rfl, .inl ⟨hs.sub.seq h1, fun p hp => Aft.frz hs hp fun x => ⟨_, .tup upd_same (RepAll.ints _), hg⟩⟩⟩
      · cases e
    · exact hg.elim
/-- isinstance(x, T), T a built-in class -/
def tyD : D → Option String
  | .non => some "NoneType"
  | .bl _ => some "bool"
  | .int _ => some "int"
  | .str _ => some "str"
  | .tup _ => some "tuple"
  | .lst _ => some "list"
  | .dct0 => some "dict"
  | _ => none
def tyM (M : Mem) : D → Option String
  | .own k => match M[k]? with
    | some (.lst _) => some "list"
    | _ => none
  | d => tyD d
def gIsi : GA := fun ds M Q => match ds with
  | [d, .val (.ty n)] => match tyM M d with
    | some T => match kitB T n with
      | some b => Q (.bl b) M
      | none => False
    | none => False
  | _ => False
theorem ty_V {K : PySem.W.Frag} {ph : Ph} {S : Hp} {r : Env} {M : Mem} {σ : St} {H : Hp} {v : V} {d : D} {T : String} (hs : Sat K ph S r M σ H) (q : Rep K ph S v d) (e : tyM M d = some T) : TyX K H v (.type T) := by
  cases d <;> first | (cases e; done) | skip
  · cases q; cases e; exact .base .non
  · cases q; cases e; exact .base (.bl _)
  · cases q; cases e; exact .base (.int _)
  · cases q; cases e; exact .base (.str _)
  · cases q with
    | tup h1 h2 => cases e; exact .base (.tup (hs.sub _ _ h1))
  · cases q with
    | lst h1 h2 => cases e; exact .base (.lst (hs.sub _ _ h1))
  · cases q with
    | dct0 h1 => cases e; exact .base (.dK (hs.sub _ _ h1))
  · rename_i k
    cases q with
    | own h1 =>
      unfold tyM at e
      dsimp only at e
      split at e
      · rename_i l hk
        cases e
        obtain ⟨a, xs, c1, c2, c3, c4⟩ := hs.cell k l hk
        rw [h1] at c1; cases c1
        exact .base (.lst c3)
      · cases e
theorem cd_isi : CallD X (.builtin "isinstance") gIsi := CallD.of call_isi fun σ H ph S r M vs ds Q hs q hg => by
  match ds, q, hg with
  | [d, .val (.ty n)], .cons q (.cons q' .nil), hg =>
    unfold gIsi at hg
    dsimp only at hg
    split at hg
    · rename_i T e
      split at hg
      · rename_i b eb
        cases q'
        exact ⟨_, _, _, _, b, rfl, .ty n, ty_V hs q e, kit_ty eb, Aft.here hs ⟨_, .bl _, hg⟩⟩
      · exact hg.elim
    · exact hg.elim
/-- n.bit_length() -/
def gBits (d : D) (M : Mem) (Q : DQ) : Prop := match d with
  | .int i => Q (.int (Builtin.Int.intBits i : Nat)) M
  | _ => False
def dBits (t : DTE) : DTE := fun r M Q => t r M fun d M1 => gBits d M1 Q
theorem de_bits {o : Expr} {t : DTE} {apos pos : Pos} (ho : DE X o t) (hbase : attributeBase o "bit_length" X.env (eval o X.env) = eval o X.env := by rfl) (hline : (apos.endLine == pos.line) = true := by rfl) : DE X (.Call (.Attribute o "bit_length" apos) [] [] pos) (dBits t) :=
  DE.of (pe_bits ho.pe hbase hline) fun ph S r M σ H Q hs ht Q' hq => ⟨ph, S, r, M, _, hs, ht, fun v H1 ⟨ph1, S1, M1, x1, hs1, d, q1, g1⟩ => by
    cases d <;> first | exact g1.elim | skip
    cases q1
    exact ⟨_, rfl, hq _ _ ⟨ph1, S1, M1, x1, hs1, _, .int _, g1⟩⟩⟩

/-! ### methods of lists -/
def gAppend (o : D) (ds : List D) (M : Mem) (Q : DQ) : Prop := match o, ds with
  | .own k, [d] => match M[k]? with
    | some (.lst l) => l.length < sizeLine ∧ Q .non (M.set k (.lst (l ++ [d])))
    | _ => False
  | _, _ => False
def dMet (g : D → List D → Mem → DQ → Prop) (to : DTE) (t : DTA) : DTE := fun r M Q => to r M fun o M1 => (∃ k l, o = .own k ∧ M1[k]? = some (.lst l)) ∧ t r M1 fun ds M2 => g o ds M2 Q
theorem de_append {o e : Expr} {to : DTE} {t : DTA} {apos cpos : Pos} (ho : DE X o to) (ha : DA X [e] t) (h1 : attributeBase o "append" X.env (eval o X.env) = eval o X.env := by rfl)
    (h2 : (((backTo cpos (starEach [e] X.env)).all fun x => !x.1) && (backToKw cpos (keywordEach [] X.env)).all (fun x => x.1.isSome) && decide (([e] : List Expr).length + ([] : List Keyword).length + (if ([] : List Keyword).isEmpty then 0 else 1) < 30)) = true := by rfl) (h3 : (apos.endLine == cpos.line) = true := by rfl)
    (h4 : starEach [e] X.env = (false, eval e X.env) :: starEach [] X.env := by rfl) (h5 : (backTo cpos (starEach [] X.env)).any (·.1) = false := by rfl) : DE X (.Call (.Attribute o "append" apos) [e] [] cpos) (dMet gAppend to t) :=
  DE.of (pe_bm PySem.F.plainAttrs_list PySem.F.slot_list_append PySem.F.type_list_append mt_append ho.pe ha.pa h1 h2 h3 h4 h5) fun ph S r M σ H Q hs ht Q' hq => ⟨ph, S, r, M, _, hs, ht, fun v H1 ⟨ph1, S1, M1, x1, hs1, d, q1, ⟨k, l, e1, ek⟩, g1⟩ => by
    subst e1
    cases q1 with
    | own hp =>
      obtain ⟨a, xs, c1, c2, c3, c4⟩ := hs1.cell k l ek
      rw [hp] at c1; cases c1
      refine ⟨.inl ⟨rfl, _, SqL.of c3⟩, ph1, S1, r, M1, _, hs1, g1, fun vs H2 ⟨ph2, S2, M2, x2, hs2, ds, q2, g2⟩ => ?_⟩
      match ds, q2, g2 with
      | [d], .cons q3 .nil, g2 =>
        replace g2 : gAppend (.own k) [d] M2 Q := g2
        unfold gAppend at g2
        dsimp only at g2
        split at g2
        · rename_i l2 hk2
          have hp2 := x2.pre _ _ hp
          obtain ⟨a2, xs2, d1, d2, d3, d4⟩ := hs2.cell k l2 hk2
          rw [hp2] at d1; cases d1
          exact ⟨_, xs2, _, rfl, rfl, d3, by rw [d4.len]; exact g2.1, hq _ _ ⟨ph2, S2, _, x1.trans x2, hs2.put hk2 hp2 (d4.app (.cons q3 .nil)), _, .non, g2.2⟩⟩
        · exact g2.elim⟩

/-! ### slices -/
def cutD (l : List D) (lo hi : Option Int) : List D := List.take (HT.sIx l.length l.length hi - HT.sIx l.length 0 lo) (List.drop (HT.sIx l.length 0 lo) l)
abbrev DTO := Env → Mem → (Option Int → Mem → Prop) → Prop
structure DO (X : Cx) (e : Option Expr) (t : DTO) : Prop where
  po : PO X e (fun σ H Q => ∃ ph S r M Q0, Sat X.K ph S r M σ H ∧ t r M Q0 ∧ ∀ o H', (Aft X.K ph S r σ H' fun _ _ M' => Q0 o M') → Q o H')
def dPart (t : DTE) : DTO := fun r M Q => t r M fun d M1 => match d with
  | .int i => Q (some i) M1
  | _ => False
def dNoPart : DTO := fun _ M Q => Q none M
theorem do_some {e : Expr} {t : DTE} (h : DE X e t) : DO X (some e) (dPart t) :=
  ⟨⟨fun pins s σ H Q I ⟨ph, S, r, M, Q0, hs, ht, hq⟩ => (po_some h.pe).run pins s σ H Q I ⟨ph, S, r, M, _, hs, ht, fun v H1 ⟨ph1, S1, M1, x1, hs1, d, q1, g1⟩ => by
    cases d <;> first | exact g1.elim | skip
    cases q1
    exact ⟨_, rfl, hq _ _ ⟨ph1, S1, M1, x1, hs1, g1⟩⟩⟩⟩⟩
theorem do_none : DO X none dNoPart := ⟨⟨fun pins s σ H Q I ⟨ph, S, r, M, Q0, hs, ht, hq⟩ => po_none.run pins s σ H Q I (hq _ _ (Aft.here hs ht))⟩⟩
/-- l[a:b], a list -/
def gSlL (own : Bool) (d : D) (lo hi : Option Int) (M : Mem) (Q : DQ) : Prop := match res M d with
  | .lst l => if own = true then Q (.own M.length) (M ++ [.lst (cutD l lo hi)]) else Q (.lst (cutD l lo hi)) M
  | .scr ns => if own = true then Q (.own M.length) (M ++ [.lst (cutD (ns.map D.int) lo hi)]) else Q (.lst (cutD (ns.map D.int) lo hi)) M
  | _ => False
def gSlT (d : D) (lo hi : Option Int) (M : Mem) (Q : DQ) : Prop := match d with
  | .tup l => Q (.tup (cutD l lo hi)) M
  | _ => False
def dSl (g : D → Option Int → Option Int → Mem → DQ → Prop) (t : DTE) (tl th : DTO) : DTE := fun r M Q => t r M fun d M1 => tl r M1 fun lo M2 => th r M2 fun hi M3 => g d lo hi M3 Q
theorem cut_rep {K : PySem.W.Frag} {ph : Ph} {S : Hp} {xs : List V} {l : List D} {lo hi : Option Int} (q : RepAll K ph S xs l) : RepAll K ph S (cutV xs lo hi) (cutD l lo hi) := by
  unfold cutV cutD
  rw [q.len]
  exact (q.drop _).take _
theorem de_slL (own : Bool) {e : Expr} {lo hi : Option Expr} {t : DTE} {tl th : DTO} {pos p2 : Pos} (h : DE X e t) (h1 : DO X lo tl) (h2 : DO X hi th) : DE X (.Subscript e (.Slice lo hi none p2) pos) (dSl (gSlL own) t tl th) :=
  DE.of (pe_slice sl_list h.pe h1.po h2.po) fun ph S r M σ H Q hs ht Q' hq => ⟨ph, S, r, M, _, hs, ht, fun v H1 ⟨ph1, S1, M1, x1, hs1, d, q1, g1⟩ =>
    ⟨ph1, S1, r, M1, _, hs1, g1, fun lo H2 ⟨ph2, S2, M2, x2, hs2, g2⟩ => ⟨ph2, S2, r, M2, _, hs2, g2, fun hi H3 ⟨ph3, S3, M3, x3, hs3, g3⟩ => by
      replace g3 : gSlL own d lo hi M3 Q := g3
      have xx := x1.trans (x2.trans x3)
      have q3 := q1.up (x2.trans x3)
      unfold gSlL at g3
      split at g3
      · rename_i l er
        obtain ⟨p, xs, rfl, hp, hx⟩ := res_lst hs3 q3 er
        refine ⟨p, xs, rfl, SqL.of hp, fun b hb => ?_⟩
        cases own with
        | false => exact hq _ _ (Aft.up xx (Aft.frz hs3 hb fun x => ⟨_, .lst upd_same ((cut_rep hx).up x), g3⟩))
        | true => exact hq _ _ (Aft.up xx (Aft.own hs3 hb (cut_rep hx) g3))
      · rename_i ns er
        cases res_scr er
        cases q3 with
        | scr h1 =>
          refine ⟨_, _, rfl, hs3.sub.seq h1, fun b hb => ?_⟩
          cases own with
          | false => exact hq _ _ (Aft.up xx (Aft.frz hs3 hb fun x => ⟨_, .lst upd_same (cut_rep (RepAll.ints _)), g3⟩))
          | true => exact hq _ _ (Aft.up xx (Aft.own hs3 hb (cut_rep (RepAll.ints _)) g3))
      · exact g3.elim⟩⟩⟩
theorem cut_whole {α : Type} {l : List α} {lo hi : Option Int} (h : HT.sIx l.length 0 lo = 0 ∧ HT.sIx l.length l.length hi = l.length) : List.take (HT.sIx l.length l.length hi - HT.sIx l.length 0 lo) (List.drop (HT.sIx l.length 0 lo) l) = l := by
  rw [h.1, h.2]; simp
theorem de_slT {e : Expr} {lo hi : Option Expr} {t : DTE} {tl th : DTO} {pos p2 : Pos} (h : DE X e t) (h1 : DO X lo tl) (h2 : DO X hi th) : DE X (.Subscript e (.Slice lo hi none p2) pos) (dSl gSlT t tl th) :=
  DE.of (pe_slice sl_tupA h.pe h1.po h2.po) fun ph S r M σ H Q hs ht Q' hq => ⟨ph, S, r, M, _, hs, ht, fun v H1 ⟨ph1, S1, M1, x1, hs1, d, q1, g1⟩ =>
    ⟨ph1, S1, r, M1, _, hs1, g1, fun lo H2 ⟨ph2, S2, M2, x2, hs2, g2⟩ => ⟨ph2, S2, r, M2, _, hs2, g2, fun hi H3 ⟨ph3, S3, M3, x3, hs3, g3⟩ => by
      replace g3 : gSlT d lo hi M3 Q := g3
      have xx := x1.trans (x2.trans x3)
      have q3 := q1.up (x2.trans x3)
      cases d with
      | tup l =>
        cases q3 with
        | tup h1 h2 =>
          refine ⟨_, _, rfl, SqT.of (hs3.sub _ _ h1), fun hw => ?_, fun _ b hb => hq _ _ (Aft.up xx (Aft.frz hs3 hb fun x => ⟨_, .tup upd_same ((cut_rep h2).up x), g3⟩))⟩
          have hw' : HT.sIx l.length 0 lo = 0 ∧ HT.sIx l.length l.length hi = l.length := by rw [← h2.len]; exact hw
          refine hq _ _ (Aft.up xx (Aft.here hs3 ⟨_, .tup h1 ?_, g3⟩))
          unfold cutD
          rw [cut_whole hw']
          exact h2
      | _ => exact g3.elim⟩⟩⟩

/-! ### repr -/
/-- data whose repr may be told -/
def shwn (d : D) : Option Str := match toPy d with
  | some p => if p.showable = true ∧ p.depth ≤ 64 ∧ p.shown.length ≤ sizeLine ∧ p.hasDict = false then some p.shown else none
  | none => none
def gRepr : GA := fun ds M Q => match ds with
  | [d] => match shwn (res M d) with
    | some z => Q (.str z) M
    | none => False
  | _ => False
theorem shown_flat {p : PyData} {u : Value} {h : Heap} {as : List Addr} (r : Reads h u p as) (hn : ∀ a, u ≠ .ref a) {A : Around} {P : Program} {w : World} {E : Value → Shared → Prop} {s : Shared} {Q : Value → Shared → Prop} (hs : p.showable = true) (hz : p.shown.length ≤ sizeLine)
    (q : ∀ tk tk', Q (.str p.shown tk) { s with toks := tk' }) : wpAny (model P w) A (call (.builtin "repr") [u]) Q E s := by
  cases r with
  | none => exact PySem.P.repr_of_none (q _ _)
  | bool b => exact PySem.P.repr_of_bool (q _ _)
  | int i t => exact PySem.P.repr_of_int (of_decide_eq_true hs) (q _ _)
  | str x t => exact PySem.P.repr_of_str (q _ _) hz
  | list _ _ _ _ => exact absurd rfl (hn _)
  | tuple _ _ _ _ => exact absurd rfl (hn _)
  | dict _ _ _ _ _ => exact absurd rfl (hn _)
theorem cd_repr (gd : X.A.guards = some []) (hu : X.A.units + 200 < cLine) : CallD X (.builtin "repr") gRepr := by
  intro pins s σ H ph S r M vs us ds Q I hs rv q hg
  match ds, vs, us, rv, q, hg with
  | [d], [v], [u], .cons ru .nil, .cons q .nil, hg =>
    unfold gRepr at hg
    dsimp only at hg
    split at hg
    · rename_i z ez
      unfold shwn at ez
      split at ez
      · rename_i p ep
        by_cases hp : p.showable = true ∧ p.depth ≤ 64 ∧ p.shown.length ≤ sizeLine ∧ p.hasDict = false
        · rw [if_pos hp] at ez
          cases ez
          obtain ⟨as, h1, h2⟩ := Rep.reads I _ _ _ _ (Rep.res hs q) ru ep
          by_cases hr : ∃ a, u = .ref a
          · obtain ⟨a, rfl⟩ := hr
            refine PySem.repr_of_reads' h1 hp.1 (fun hd => ?_) gd ?_ (fun _ _ e => e) (fun h' u tk k => ⟨.str p.shown, H, I.kept k, ⟨_, rfl⟩, Aft.here hs ⟨_, .str _, hg⟩⟩) hp.2.2.1
            · rw [hp.2.2.2] at hd; exact absurd hd Bool.false_ne_true
            · have := hp.2.1; omega
          · exact shown_flat h1 (fun a e => hr ⟨a, e⟩) hp.1 hp.2.2.1 fun tk tk' => ⟨.str p.shown, H, I.tok _, ⟨_, rfl⟩, Aft.here hs ⟨_, .str _, hg⟩⟩
        · rw [if_neg hp] at ez; cases ez
      · cases ez
    · exact hg.elim
end DL
/-! DL8: calls with keywords alone; a def for its callers; the end of a law -/
namespace DL
open PySem PySem.Spec PyProof.Rows L2
section
variable {X : Cx}
structure DK (X : Cx) (kws : List Keyword) (t : DTA) : Prop where
  pk : PK X kws (fun σ H Q => ∃ ph S r M Q0, Sat X.K ph S r M σ H ∧ t r M Q0 ∧ ∀ vs H', postA X.K ph S r σ Q0 vs H' → Q vs H')
theorem PK.weak {kws : List Keyword} {t t' : TA} (h : PK X kws t) (w : ∀ σ H Q, t' σ H Q → t σ H Q) : PK X kws t' := ⟨fun pos pins s σ H Q I q => h.run pos pins s σ H Q I (w _ _ _ q)⟩
theorem dk_nil : DK X [] dNil := ⟨PK.weak pk_nil fun σ H Q ⟨ph, S, r, M, Q0, hs, ht, hq⟩ => hq _ _ (Aft.here hs ⟨_, .nil, ht⟩)⟩
theorem dk_cons {e : Expr} {kws : List Keyword} {nm : Option Str} {kpos : Pos} {t : DTE} {u : DTA} (h : DE X e t) (h2 : DK X kws u) : DK X (⟨nm, e, kpos⟩ :: kws) (dCons t u) :=
  ⟨PK.weak (pk_cons h.pe h2.pk) fun σ H Q ⟨ph, S, r, M, Q0, hs, ht, hq⟩ => ⟨ph, S, r, M, _, hs, ht, fun v H1 ⟨ph1, S1, M1, x1, hs1, d, q1, g1⟩ =>
    ⟨ph1, S1, r, M1, _, hs1, g1, fun vs H2 ⟨ph2, S2, M2, x2, hs2, ds, q2, g2⟩ => hq _ _ ⟨ph2, S2, M2, x1.trans x2, hs2, _, .cons (q1.up x2) q2, g2⟩⟩⟩⟩
/-- the values by place -/
def pick {α : Type} (l : List Nat) (xs : List α) : List α := l.filterMap fun i => xs[i]?
theorem pick_vals {vs : List V} {us : List Value} (r : Vals vs us) : ∀ l : List Nat, Vals (pick l vs) (pick l us)
  | [] => .nil
  | i :: l => by
    unfold pick
    rw [List.filterMap_cons, List.filterMap_cons]
    cases e : vs[i]? with
    | none => rw [r.none_of e]; exact pick_vals r l
    | some v =>
      obtain ⟨u, eu, ru⟩ := r.get e
      rw [eu]
      exact .cons ru (pick_vals r l)
theorem pick_rep {K : PySem.W.Frag} {ph : Ph} {S : Hp} {vs : List V} {ds : List D} (r : RepAll K ph S vs ds) : ∀ l : List Nat, RepAll K ph S (pick l vs) (pick l ds)
  | [] => .nil
  | i :: l => by
    unfold pick
    rw [List.filterMap_cons, List.filterMap_cons]
    cases e : ds[i]? with
    | none =>
      have e' : vs[i]? = none := by
        have := List.getElem?_eq_none_iff.mp e
        exact List.getElem?_eq_none_iff.mpr (by rw [r.len]; exact this)
      rw [e']; exact pick_rep r l
    | some d =>
      obtain ⟨u, eu, ru⟩ := r.get e
      rw [eu]
      exact .cons ru (pick_rep r l)
def dCallK (m n : Nat) (sp : DSp) (l : List Nat) (E : DX) (t : DTA) : DTE := fun r M Q => t r M fun ds M1 => ds.length = m ∧ (pick l ds).length = n ∧ sp (pick l ds) M1 Q E
variable {k : Nat} {ps ks : List Str} {sp : DSp} {x : Str} {p pos : Pos} {kws : List Keyword} {t : DTA}
/-- f(k = v, ..): all arguments by their names -/
theorem dcallK {m n : Nat} {st : Stmt} (l : List Nat) {P : Program} {w : World} {K : PySem.W.Frag} {mg : Str → Option Value} {base : Heap} (F : Def P w K mg base CX0 k x st ps sp) {j : Nat} (hr : Room j X.A) (gd : X.A.guards = some []) (hkw : DK X kws t)
    (hks : (backToKw pos (keywordEach kws X.env)).filterMap (·.1) = ks)
    (hb : ∀ (kV doc pm : Value) (an : Option Addr) (cdv ct : Value) (us : List Value), us.length = ks.length → bindArgs (PySem.W.fnOf x x (defArgs st) (defBody st) (defScope st) .none kV doc pm an cdv ct) ⟨[], ks.zip us⟩ = pure (ps.zip (pick l us)))
    (hj : k ≤ j := by decide) (hm : ks.length = m := by rfl) (hn : ps.length = n := by rfl)
    (h1 : P = X.prog := by rfl) (h2 : w = X.w := by rfl) (h3 : K = X.K := by rfl) (h4 : mg = X.mg := by rfl) (h5 : base = X.base := by rfl) (hg : Gl X x := by rfl) (hdb : (x == ("__debug__" : Str)) = false := by decide) (hall : (backToKw pos (keywordEach kws X.env)).all (·.1.isSome) = true := by rfl)
    (hpl : ((backTo pos (starEach [] X.env)).any (·.1) || (backToKw pos (keywordEach kws X.env)).any (·.1.isNone)) = false := by rfl) : DE X (.Call (.Name x p) [] kws pos) (dCallK m n sp l DX0 t) := by
  subst h1 h2 h3 h4 h5 hn hm
  obtain ⟨f, fd, h1, h2, h3, h4, h5⟩ := F.ex
  refine ⟨⟨fun pins s σ H Q I ⟨ph, S, r, M, Q0, hs, ht, hq⟩ => wpAny_Call_Name_kw (ld_glob I hg h2 ?_ hdb)⟩⟩
  refine PySem.W.callWith_KW0 (h₀ := X.base) I.ok.mod.kin h3 hall (thn (hkw.pk.run pos pins s σ H _ I ⟨ph, S, r, M, _, hs, ht, fun _ _ z => z⟩) fun us s1 ⟨vs, H1, I1, r1, ph1, S1, M1, x1, hs1, ds, q1, hl, hp, g1⟩ => ⟨I1.kIn, ?_⟩) hpl
  rw [hks]
  obtain ⟨oc, od, kV, doc, pm, an, cdv, ct, osl, efd, lk, hcd⟩ := h5.ex
  have hul : us.length = ks.length := by rw [← Paired.length r1, q1.len]; exact hl
  have hb' : BindsTo s1 fd ⟨[], ks.zip us⟩ (ps.zip (pick l us)) := by
    rw [efd]
    exact .of_eq (hb kV doc pm an cdv ct us hul)
  refine wpAny_call (codeAny_mono (h1.run X.A X.stack s1 H1 ⟨[], ks.zip us⟩ (pick l us) (pick l vs) (post X.K ph1 S1 r σ Q0) E0 (hr.mono hj) gd I1.env0 hb' (pick_vals r1 l) ?_) fun r s' hz => ?_)
  · exact ⟨ph1, S1, M1, pick l ds, Q0, DX0, hp, hs1.drop, pick_rep q1 l, g1, fun v H2 ⟨ph2, S2, M2, x2, hs2, d, q2, h2⟩ => ⟨ph2, S2, M2, x2, hs1.back x2 hs2, d, q2, h2⟩, pX0 _ _⟩
  · match r, hz with
    | .error e, hz => exact pass0 pins σ H1 s1 e s' I1 hz
    | .ok (.ret u), hz => exact EP.up x1 (I1.after hz) hq
    | .ok .next, hz => exact False.elim hz
    | .ok .brk, hz => exact False.elim hz
    | .ok .cont, hz => exact False.elim hz
end

/-! ### a def, made known to its callers -/
theorem Def.mk' {P : Program} {w : World} {K : PySem.W.Frag} {mg : Str → Option Value} {base : Heap} {k : Nat} {x : Str} {st : Stmt} {ps : List Str} {sp : DSp} {f : Addr} {fd : FuncData} (F : Fun K x x st f fd) (h : FnD P w K mg base CX0 k f fd ps sp) (hm : mg x = some (.ref f)) (hb : Binds K fd ps []) : Def P w K mg base CX0 k x st ps sp :=
  ⟨f, fd, h, hm, F.kp, hb, F⟩
/-- a def that stands in the module -/
structure Here (K : PySem.W.Frag) (mg : Str → Option Value) (x : Str) (st : Stmt) (ps : List Str) : Prop where
  ex : ∃ (f : Addr) (fd : FuncData), Fun K x x st f fd ∧ mg x = some (.ref f) ∧ Binds K fd ps []
theorem here_of {K : PySem.W.Frag} {h : Heap} {mg : Str → Option Value} {x : Str} {st : Stmt} {ps : List Str} {f : Addr} {oc : Value} {od an : Option Addr} {osl : Array (Option Value)} {kV doc pm cdv ct : Value} (X : K.In h) (G : h.Ns mainGlobals mg)
    (a : PySem.W.nsIn K mainGlobals x = some (some (.ref f))) (l : K.lookup f = some ⟨oc, od, .func (PySem.W.fnOf x x (defArgs st) (defBody st) (defScope st) .none kV doc pm an cdv ct), osl⟩) (c : PySem.W.codeIn K cdv x = true) (k : PySem.W.keepIn K (.ref f) = true)
    (hb : ∀ (kV doc pm : Value) (an : Option Addr) (cdv ct : Value) (us : List Value), us.length = ps.length → bindArgs (PySem.W.fnOf x x (defArgs st) (defBody st) (defScope st) .none kV doc pm an cdv ct) ⟨us, []⟩ = pure (ps.zip us)) : Here K mg x st ps :=
  ⟨f, _, fun_mk (st := st) l c k, PySem.W.mg_of X G a, (fun_mk (st := st) l c k).binds hb⟩
section
variable {P : Program} {w : World} {K : PySem.W.Frag} {mg : Str → Option Value} {base : Heap}
/-- THE RULE for a def of the module -/
theorem Here.ok {x : Str} {st : Stmt} {N ps : List Str} {k : Nat} {sp : DSp} {t : DTS} (F : Here K mg x st ps) (S : FnScope N ps (defScope st))
    (hder : ∀ (f : Addr) (cdv : Value) (A : Around) (outer : List PySem.Env) (s : Shared) (H : Hp) (E : XK), Room k (A.deeper (envOfC x (defScope st) s.heap.objs.size f cdv)) → (A.deeper (envOfC x (defScope st) s.heap.objs.size f cdv)).guards = some [] →
      DSs (cxOf CX0 P w K mg base N x (defScope st) f cdv A outer s H E).nox (defBody st) t)
    (hread : ∀ ds M Q, ds.length = ps.length → sp ds M Q DX0 → t (dEnds M Q) (startD N.length ds) M)
    (hX : ∀ ds M Q E, sp ds M Q E → sp ds M Q DX0 := by exact fun _ _ _ _ h => h) : Def P w K mg base CX0 (k + 1) x st ps sp :=
  let ⟨f, fd, h1, h2, h3⟩ := F.ex
  Def.mk' h1 (Fun.okD h1 S (hder f) hread hX) h2 h3
end

/-! ### the end of a law -/
def spLaw : DSp := fun ds M Q _ => M = [] ∧ (∃ ns, ds = [.scr ns]) ∧ Q (.bl true) []
theorem law_callG {P : Program} {w : World} {K : PySem.W.Frag} {mg mb : Str → Option Value} {k : Nat} {fa a : Addr} {fd : FuncData} {x : Str} {s1 : Shared} {vs : List Value} {ns : List Int}
    (KX : K.In s1.heap) (hns : s1.heap.Ns mainGlobals mg) (hb : s1.heap.Ns builtinsNs mb) (hbb : ∀ x : Str, x ≠ "__name__" → mb x = bootBuiltins x) (hlim : s1.heap.NoLimit) (hg : s1.gens = #[])
    (ha : s1.heap.get? a = some { cls := .type "list", data := .seq vs.toArray }) (hi : IntsAre vs ns) (hl : ns.length ≤ sizeLine) (hr : Room k callerA)
    (F : ∀ base : Heap, K.In base → base.Ns mainGlobals mg → FnD P w K mg base CX0 k fa fd [x] spLaw) (hbind : ∀ (s : Shared) (u : Value), BindsTo s fd ⟨[u], []⟩ [(x, u)]) :
    codeAny (model P w) callerA (.call (.ref fa) ⟨[.ref a], []⟩) (fun r s' => r = .ok (.ret (.bool true)) ∧ OldK s1.heap s'.heap ∧ s'.os = s1.os ∧ AllBare s'.gens) s1 := by
  have rv := vals_ints hi
  have lenV := hi.length
  have core : ∀ H : Hp, Only H → SqL K H a (ns.map V.int) → HOk P w H s1.heap → (∀ b, H b ≠ none → b = a) → (H a ≠ none → K.lookup a = none) →
      codeAny (model P w) callerA (.call (.ref fa) ⟨[.ref a], []⟩) (fun r s' => r = .ok (.ret (.bool true)) ∧ OldK s1.heap s'.heap ∧ s'.os = s1.os ∧ AllBare s'.gens) s1 := by
    intro H hO hS hok hA hK
    have at_ : ∀ {b : Addr}, H b ≠ none → b = a := fun {b} z => hA b z
    have noA : ∀ {b : Addr} {o : Obj} {es : Array DictEntry} {ep : Nat}, s1.heap.get? b = some o → o.data = .dict es ep → H b = none := fun {b o es ep} e d => by
      by_cases z : H b = none
      · exact z
      · have e' := at_ z
        rw [e', ha] at e
        rw [← Option.some.inj e] at d
        exact nomatch d
    have nsK : ∀ {b : Addr} {m : Str → Option Value}, s1.heap.Ns b m → (hidT s1.heap H).Ns b m := fun {b m} ⟨o, es, ep, e, d, r⟩ => ⟨o, es, ep, hidT_get e (noA e d), d, r⟩
    have hKb : K.In (hidT s1.heap H) := fun b o e => hidT_get (KX b o e) (by
      by_cases z : H b = none
      · exact z
      · have e' := at_ z
        rw [e'] at e z
        rw [hK z] at e
        cases e)
    have hM : Mod K mg (hidT s1.heap H) := ⟨hKb, nsK hns, ⟨mb, nsK hb, hbb⟩, let ⟨mc, g1, g2⟩ := hlim; ⟨mc, nsK g1, g2⟩⟩
    have e0 : Env0 P w K mg (hidT s1.heap H) callerA [] s1 H := ⟨rfl, hM, fun b o e => of_hidT e, Nat.le_of_eq (hidT_size _ _), trivial, fun b hb => absurd (show b ∈ ([] : List Addr) from hb) (by simp), hok, .of_eq hg⟩
    have st0 : Sat K ⟨[], []⟩ H [] [] [] H := ⟨fun _ _ e => e, rfl, List.nodup_nil, fun k a e => by simp at e, fun k ds e => by simp at e, fun _ hp => (nomatch hp), List.nodup_nil, rfl, fun i d e => by simp at e⟩
    have sp0 : lfSp K 1 spLaw [.ref a] H (fun v _ => v = .bl true) E0 := ⟨⟨[], []⟩, H, [], [.scr ns], fun d M => d = .bl true, DX0, rfl, st0, .cons (.scr hS) .nil, ⟨rfl, ⟨ns, rfl⟩, rfl⟩, fun v H' ⟨_, _, _, _, _, d, q, e⟩ => by
      rw [e] at q
      cases q
      rfl, fun cls d H' ⟨_, _, _, _, _, _, _, _, _, _, _, _, _, z⟩ => z⟩
    refine codeAny_mono ((F _ hKb (nsK hns)).run callerA [] s1 H ⟨[.ref a], []⟩ [.ref a] [.ref a] _ _ hr rfl e0 (hbind s1 (.ref a)) (.cons rfl .nil) sp0) fun r s' h => ?_
    match r, h with
    | .error e, h => exact False.elim h
    | .ok .next, h => exact False.elim h
    | .ok .brk, h => exact False.elim h
    | .ok .cont, h => exact False.elim h
    | .ok (.ret u), ⟨v, H', os, bare, un, hok', r', q⟩ =>
      have q' : v = .bl true := q
      subst q'
      obtain rfl : u = Value.bool true := r'
      refine ⟨rfl, OldK.of_keep fun b o e => ?_, os, bare⟩
      rcases hO b with q | ⟨ob, xs, q⟩
      · exact un.keep b o e q (fun z => nomatch z) (fun z => nomatch z)
      · obtain ⟨e1, _⟩ := hok b _ q
        obtain ⟨e2, _⟩ := hok' b _ (un.frzs b ob _ q)
        rw [e] at e1
        cases e1
        exact e2
  cases hk : K.lookup a with
  | some o =>
    have e := KX a o hk
    rw [ha] at e
    cases e
    exact core (fun _ => none) (fun _ => .inl rfl) (.inr ⟨_, vs.toArray, _, hk, rfl, rfl, rfl, by rw [List.size_toArray, lenV]; exact hl, by simpa using rv⟩) (fun b u z => (nomatch z)) (fun b z => absurd rfl z) fun z => absurd rfl z
  | none =>
    refine core (fun b => if b = a then some (.frz { cls := .type "list", data := .seq vs.toArray } (.lst (ns.map V.int))) else none) (fun b => ?_) (.inl (.inr ⟨{ cls := .type "list", data := .seq vs.toArray }, if_pos rfl⟩)) (fun b u z => ?_) (fun b z => ?_) fun _ => hk
    · by_cases hb : b = a
      · exact .inr ⟨_, _, if_pos hb⟩
      · exact .inl (if_neg hb)
    · by_cases hb : b = a
      · have z := (if_pos hb).symm.trans z
        cases z
        rw [hb]
        exact ⟨ha, by rw [List.length_map]; exact hl, vs, _, rv, ha⟩
      · have z := (if_neg hb).symm.trans z
        cases z
    · by_cases hb : b = a
      · exact hb
      · exact absurd (if_neg hb) z
/-- the goal that k_head leaves -/
theorem walkD {l : PySem.W.OpenLaw} {n k : Nat} {q : Program} {loose : List Str} {XP : (Str → Option Value) → Heap → Prop} {YP : World → Heap → Prop} {d : DefRec} {K : Params → PySem.W.Frag} {x : Str} {st : Stmt}
    (hn : l.most = some n) (hn2 : n ≤ sizeLine) (hdf : d.params.defaults = []) (hr : Room k callerA) (hY : ∀ (w : World) (h : Heap), YP w h → (K w.params).In h)
    (F : ∀ (w : World) (mg : Str → Option Value) (h : Heap), (K w.params).In h → h.Ns mainGlobals mg → ∀ base : Heap, (K w.params).In base → base.Ns mainGlobals mg → Def l.prog w (K w.params) mg base CX0 k d.name st [x] spLaw)
    (hb : ∀ (kV doc pm : Value) (an : Option Addr) (cdv ct : Value) (u : Value), bindArgs (PySem.W.fnOf d.name d.name (defArgs st) (defBody st) (defScope st) .none kV doc pm an cdv ct) ⟨[u], []⟩ = pure [(x, u)]) :
    PySem.W.WalkO q loose XP YP l.row.toRowW d [] (fun f vs => PySem.call f vs) := by
  refine Att.attach_call hn hdf fun w s0 s1 mg mb fa o pm cd doc a vs ns G Y ho hd hcd hmg hobj hints hlen hg => ?_
  have KX := hY w _ Y
  obtain ⟨f0, fd, g1, g2, g3, g4, g5⟩ := (F w mg _ KX G.T.g _ KX G.T.g).ex
  have ef : f0 = fa := by
    rw [g2] at hmg
    exact Value.ref.inj (Option.some.inj hmg)
  subst ef
  obtain ⟨oc, od, kV, doc', pm', an, cdv, ct, osl, efd, lk, hcd'⟩ := g5.ex
  refine law_callG (fd := fd) (k := k) (x := x) KX G.T.g G.T.b G.T.builtins G.T.nolimit hg hobj hints (Nat.le_trans hlen hn2) hr (fun base h1 h2 => ?_) fun s u => ?_
  · obtain ⟨f1, fd1, k1, k2, k3, k4, k5⟩ := (F w mg _ KX G.T.g base h1 h2).ex
    have e1 : f1 = f0 := by
      rw [g2] at k2
      exact (Value.ref.inj (Option.some.inj k2)).symm
    subst e1
    obtain ⟨_, _, _, _, _, _, _, _, _, _, lk1, _⟩ := k5.ex
    rw [lk] at lk1
    have e2 : fd = fd1 := by
      have := Option.some.inj lk1
      injection this with _ _ z _
      exact Data.func.inj z
    rw [e2]
    exact k1
  · rw [efd]
    exact .of_eq (hb kV doc' pm' an cdv ct u)
end DL
/-! DL9: further rules; lemmas for readings -/
namespace DL
open PySem PySem.Spec PyProof.Rows L2
theorem u64 {A : Around} {k : Nat} (hr : Room k A) : A.units + 64 < cLine := hr.units
theorem u65 {A : Around} {k : Nat} (hr : Room k A) : A.units + 65 < cLine := by have := hr.un; omega
theorem ux {A : Around} {k : Nat} (hr : Room k A) : A.units + 200 < cLine := by have := hr.un; omega
section
variable {X : Cx}
/-- an owned list is handed on: it is changed no more -/
def gFrz (d : D) (M : Mem) (Q : DQ) : Prop := match d with
  | .own k => match M[k]? with
    | some (.lst l) => Q (.lst l) (M.set k .dead)
    | _ => False
  | d => Q d M
def dFrz (t : DTE) : DTE := fun r M Q => t r M fun d M1 => gFrz d M1 Q
theorem de_frz {e : Expr} {t : DTE} (h : DE X e t) : DE X e (dFrz t) :=
  DE.of h.pe fun ph S r M σ H Q hs ht Q' hq => ⟨ph, S, r, M, _, hs, ht, fun v H1 ⟨ph1, S1, M1, x1, hs1, d, q1, g1⟩ => by
    cases d with
    | own k =>
      replace g1 : gFrz (.own k) M1 Q := g1
      unfold gFrz at g1
      dsimp only at g1
      split at g1
      · rename_i l hk
        cases q1 with
        | own hp =>
          obtain ⟨a, xs, e1, x2, hs2, q2⟩ := hs1.freeze hk
          rw [hp] at e1
          cases e1
          exact hq _ _ ⟨ph1, _, _, x1.trans x2, hs2, _, q2, g1⟩
      · exact g1.elim
    | _ => exact hq _ _ ⟨ph1, S1, M1, x1, hs1, _, q1, g1⟩⟩
/-- a list, n times -/
def gMulL : G2 := fun x y M Q => match x, y with
  | .lst a, .int j => (-(2 ^ 63) ≤ j ∧ j < 2 ^ 63 ∧ a.length * j.toNat ≤ sizeLine) ∧ Q (.lst (List.flatten (List.replicate j.toNat a))) M
  | _, _ => False
end
variable {X : Cx}
/-! ### zip, enumerate -/
/-- a list's items, and what must hold of the cells that they stay so -/
def lsqD (M : Mem) : D → Option (List D × (Mem → Prop))
  | .lst ds => some (ds, fun _ => True)
  | .scr ns => some (ns.map D.int, fun _ => True)
  | .own k => match M[k]? with
    | some (.lst ds) => some (ds, fun M' => M'[k]? = some (.lst ds))
    | _ => none
  | _ => none
theorem lsq_rep {K : PySem.W.Frag} {ph : Ph} {S : Hp} {r : Env} {M : Mem} {σ : St} {H : Hp} {v : V} {d : D} {ds : List D} {C : Mem → Prop} (hs : Sat K ph S r M σ H) (q : Rep K ph S v d) (e : lsqD M d = some (ds, C)) :
    ∃ a, v = .ref a ∧ (∃ xs, SqL K H a xs) ∧ ∀ (ph' : Ph) (S' : Hp) (r' : Env) (M' : Mem) (σ' : St) (H' : Hp), (∀ (k : Nat) (a : Addr), ph.cells[k]? = some a → ph'.cells[k]? = some a) → Same S S' → Sat K ph' S' r' M' σ' H' → C M' → ∃ xs, SqL K H' a xs ∧ RepAll K ph' S' xs ds := by
  cases d <;> first | (cases e; done) | skip
  · cases q with
    | lst h1 h2 =>
      cases e
      exact ⟨_, rfl, ⟨_, SqL.of (hs.sub _ _ h1)⟩, fun ph' S' r' M' σ' H' e1 e2 hs' _ => ⟨_, SqL.of (hs'.sub _ _ (e2 _ _ h1)), h2.ext0 e1 e2⟩⟩
  · cases q with
    | scr h1 =>
      cases e
      exact ⟨_, rfl, ⟨_, hs.sub.seq h1⟩, fun ph' S' r' M' σ' H' e1 e2 hs' _ => ⟨_, hs'.sub.seq (e2.seq h1), RepAll.ints _⟩⟩
  · rename_i k
    cases q with
    | own h1 =>
      unfold lsqD at e
      dsimp only at e
      split at e
      · rename_i ds' hk
        cases e
        obtain ⟨a, xs, c1, c2, c3, c4⟩ := hs.cell k _ hk
        rw [h1] at c1; cases c1
        refine ⟨_, rfl, ⟨_, SqL.of c3⟩, fun ph' S' r' M' σ' H' e1 e2 hs' hc => ?_⟩
        obtain ⟨a', xs', b1, b2, b3, b4⟩ := hs'.cell k _ hc
        rw [e1 _ _ h1] at b1; cases b1
        exact ⟨xs', SqL.of b3, b4⟩
      · cases e
def pairD (x y : D) : D := .tup [x, y]
theorem RepAll.two {K : PySem.W.Frag} {ph : Ph} {S : Hp} {x y : V} {d e : D} (h : Rep K ph S x d) (g : Rep K ph S y e) : RepAll K ph S [x, y] [d, e] := .cons h (.cons g .nil)
theorem zip_get {l1 l2 : List D} {i : Nat} {d : D} (h : (List.zipWith pairD l1 l2)[i]? = some d) : ∃ x y, l1[i]? = some x ∧ l2[i]? = some y ∧ d = pairD x y := by
  rw [List.getElem?_zipWith] at h
  cases e1 : l1[i]? with
  | none => rw [e1] at h; cases h
  | some x =>
    cases e2 : l2[i]? with
    | none => rw [e1, e2] at h; cases h
    | some y =>
      rw [e1, e2] at h
      exact ⟨x, y, rfl, rfl, (Option.some.inj h).symm⟩
theorem Wlk.zip {K : PySem.W.Frag} {ph : Ph} {S : Hp} {a b : Addr} {d1 d2 : List D} {C1 C2 : Mem → Prop}
    (h1 : ∀ (ph' : Ph) (S' : Hp) (r' : Env) (M' : Mem) (σ' : St) (H' : Hp), (∀ (k : Nat) (a : Addr), ph.cells[k]? = some a → ph'.cells[k]? = some a) → Same S S' → Sat K ph' S' r' M' σ' H' → C1 M' → ∃ xs, SqL K H' a xs ∧ RepAll K ph' S' xs d1)
    (h2 : ∀ (ph' : Ph) (S' : Hp) (r' : Env) (M' : Mem) (σ' : St) (H' : Hp), (∀ (k : Nat) (a : Addr), ph.cells[k]? = some a → ph'.cells[k]? = some a) → Same S S' → Sat K ph' S' r' M' σ' H' → C2 M' → ∃ xs, SqL K H' b xs ∧ RepAll K ph' S' xs d2) :
    Wlk K ph S (Itz K a b) (List.zipWith pairD d1 d2) (fun M => C1 M ∧ C2 M) := fun ph' S' r M σ H e1 e2 hs hc => by
  obtain ⟨xs, q1, qa1⟩ := h1 ph' S' r M σ H e1 e2 hs hc.1
  obtain ⟨ys, q2, qa2⟩ := h2 ph' S' r M σ H e1 e2 hs hc.2
  refine ⟨fun i hi => ⟨xs, ys, q1, q2, by rw [qa1.len, qa2.len]; rw [List.length_zipWith] at hi; omega⟩, fun i d e => ?_⟩
  obtain ⟨x, y, ex, ey, rfl⟩ := zip_get e
  obtain ⟨u, eu, qu⟩ := qa1.get ex
  obtain ⟨w, ew, qw⟩ := qa2.get ey
  refine ⟨⟨xs, ys, u, w, q1, q2, eu, ew⟩, fun z H' ⟨T, u', w', ez, hT, eH, f1, f2⟩ => ?_⟩
  have e3 := f1 xs q1
  have e4 := f2 ys q2
  rw [eu] at e3; cases e3
  rw [ew] at e4; cases e4
  subst ez eH
  obtain ⟨x1, hs1⟩ := hs.frz hT (.tup [u, w])
  exact ⟨_, _, _, x1, hs1, rfl, .tup upd_same ((RepAll.two qu qw).up x1)⟩
/-- zip of two lists -/
def gZip (ds : List D) (M : Mem) (R : List D → (Mem → Prop) → Mem → Prop) : Prop := match ds with
  | [x, y] => match lsqD M x, lsqD M y with
    | some (xs, C1), some (ys, C2) => R (List.zipWith pairD xs ys) (fun M' => C1 M' ∧ C2 M') M
    | _, _ => False
  | _ => False
theorem di_zip {a b : Expr} {t : DTA} {p pos tpos : Pos} {elts : List Expr} {kk : Nat} (hm : X.mg "zip" = none) (ha : DA X [a, b] t) (hg : Gl X "zip" := by rfl)
    (hs : starEach [a, b] X.env = (false, eval a X.env) :: starEach [b] X.env := by rfl) (hpl : (backTo pos (starEach [b] X.env)).any (·.1) = false := by rfl) : DI X (.Tuple elts kk tpos) (.Call (.Name "zip" p) [a, b] [] pos) (dRngI gZip t) :=
  ⟨PI.weak (RZ.pi_zipA hg hm ha.pa hs hpl) fun σ H R ⟨ph, S, r, M, Q0, hs, ht, hq⟩ => ⟨ph, S, r, M, _, hs, ht, fun vs H1 ⟨ph1, S1, M1, x1, hs1, ds, q1, g1⟩ => by
    match ds, q1, g1 with
    | [x, y], .cons qx (.cons qy .nil), g =>
      unfold gZip at g
      dsimp only at g
      split at g
      · rename_i xs C1 ys C2 e1 e2
        obtain ⟨u, rfl, ⟨us, hu⟩, w1⟩ := lsq_rep hs1 qx e1
        obtain ⟨w, rfl, ⟨ws, hw⟩, w2⟩ := lsq_rep hs1 qy e2
        exact ⟨u, w, us, ws, rfl, .inl ⟨hu, hw, hq _ _ ⟨ph1, S1, M1, x1, hs1, _, _, Wlk.zip w1 w2, g⟩⟩⟩
      · exact g.elim⟩⟩
end DL
/-! DLR: how readings are shown -/
namespace DL
open PySem PySem.Spec PyProof.Rows L2

/-! ### while -/
theorem dwhile_by {τ : Type} {c : DTT} {t : DTS} {E : DEnds} {r : Env} {M : Mem} (en : τ → Env) (P : τ → Prop) (m : τ → Nat) (x0 : τ) (h0 : P x0) (hr : r = en x0)
    (step : ∀ x, P x → c (en x) M fun b M1 => if b = true then t { E with nx := fun r' M' => ∃ y, r' = en y ∧ M' = M ∧ P y ∧ m y < m x, ct := fun r' M' => ∃ y, r' = en y ∧ M' = M ∧ P y ∧ m y < m x, bk := E.nx } (en x) M1 else E.nx (en x) M1)
    (mono : ∀ x Q Q', (∀ b M1, Q b M1 → Q' b M1) → c (en x) M Q → c (en x) M Q')
    (monoT : ∀ x M1 (N N' : Env → Mem → Prop), (∀ r' M', N r' M' → N' r' M') → t { E with nx := N, ct := N, bk := E.nx } (en x) M1 → t { E with nx := N', ct := N', bk := E.nx } (en x) M1) : dWhile c t E r M := by
  subst hr
  refine ⟨fun k r M' => ∃ x, r = en x ∧ M' = M ∧ P x ∧ k = m x, ⟨_, x0, rfl, rfl, h0, rfl⟩, ?_⟩
  rintro k r M' ⟨x, rfl, rfl, hp, rfl⟩
  refine mono x _ _ (fun b M1 h => ?_) (step x hp)
  cases b with
  | false => exact h
  | true =>
    rw [if_pos rfl] at h ⊢
    exact monoT x M1 _ _ (fun r' M2 ⟨y, e1, e2, e3, e4⟩ => ⟨m y, e4, y, e1, e2, e3, rfl⟩) h
/-- the same, the measure told apart -/
theorem dwhile_of {c : DTT} {t : DTS} {E : DEnds} {r : Env} {M : Mem} (W : Nat → Env → Mem → Prop) (n : Nat) (h0 : W n r M)
    (step : ∀ n r M, W n r M → c r M fun b M1 => if b = true then t { E with nx := fun r' M' => ∃ m', m' < n ∧ W m' r' M', ct := fun r' M' => ∃ m', m' < n ∧ W m' r' M', bk := E.nx } r M1 else E.nx r M1) : dWhile c t E r M := ⟨W, ⟨n, h0⟩, step⟩

/-! ### comparing plain data -/
theorem cmpd_int {i : Int} : cmpd (.int i) = some (.int i) := rfl
theorem cmpd_bl {b : Bool} : cmpd (.bl b) = some (.bool b) := rfl
theorem cmpd_non : cmpd .non = some .none := rfl
theorem gEq_int {i j : Int} {M : Mem} {Q : DQ} : gEq (.int i) (.int j) M Q = Q (.bl (i == j)) M := rfl
theorem gNe_int {i j : Int} {M : Mem} {Q : DQ} : gNe (.int i) (.int j) M Q = Q (.bl (!(i == j))) M := rfl
theorem gEq_bl {i j : Bool} {M : Mem} {Q : DQ} : gEq (.bl i) (.bl j) M Q = Q (.bl (i == j)) M := rfl
theorem gNe_bl {i j : Bool} {M : Mem} {Q : DQ} : gNe (.bl i) (.bl j) M Q = Q (.bl (!(i == j))) M := rfl
theorem gNe_nil {M : Mem} {Q : DQ} : gNe (.lst []) (.lst []) M Q = Q (.bl false) M := rfl

/-! ### the end of a def -/
theorem rtq {M : Mem} {Q : DQ} {d : D} (q : Q d M) (hb : below M.length d = true := by rfl) : Rtq M Q d M := ⟨M, [], (List.append_nil M).symm, Nat.le_refl _, hb, fun _ _ h => .inl h, q⟩
theorem rtqG {M G : Mem} {Q : DQ} {d : D} (q : Q d M) (hb : below M.length d = true := by rfl) : Rtq M Q d (M ++ G) := ⟨M, G, rfl, Nat.le_refl _, hb, fun _ _ h => .inl h, q⟩
/-- new cells stay, others were changed: all of them plain -/
theorem rtqC {M M1 : Mem} {Q : DQ} {d : D} (q : Q d M1) (hl : M.length ≤ M1.length) (hb : below M1.length d = true) (hc : ∀ (i : Nat) (c : Own), M1[i]? = some c → M[i]? = some c ∨ belowO M1.length c = true) : Rtq M Q d M1 := ⟨M1, [], (List.append_nil _).symm, hl, hb, hc, q⟩
end DL
namespace DL
open PySem PySem.Spec PyProof.Rows L2
/-! ### comprehensions -/
theorem lcW_pure {ds : List D} {C : Mem → Prop} {g : DTG} {tt : DTT} {te : DTE} {r : Env} {M : Mem} {Q : DQ} (f : D → Option D) (hC : C M) (hl : ds.length ≤ sizeLine)
    (step : ∀ d ∈ ds, ∀ (Y : D → Mem → Prop) (N : Mem → Prop), (match f d with | some e => Y e M | none => N M) → g d r M fun r2 M2 => tt r2 M2 fun b M3 => if b = true then te r2 M3 Y else N M3)
    (q : Q (.lst (ds.filterMap f)) M) : lcW false ds C g tt te r M Q := by
  refine ⟨fun i acc M' => M' = M ∧ acc = (ds.take i).filterMap f ∧ i ≤ ds.length, ⟨rfl, rfl, Nat.zero_le _⟩, ?_⟩
  rintro i acc M' ⟨rfl, rfl, hi⟩
  refine ⟨hC, fun hd => ?_, fun d ed => ?_⟩
  · rw [if_neg Bool.false_ne_true]
    rw [List.take_of_length_le hd]; exact q
  · have hlt : i < ds.length := (List.getElem?_eq_some_iff.mp ed).1
    have ht : ds.take (i + 1) = ds.take i ++ [d] := by rw [List.take_add_one, ed]; rfl
    refine step d (List.mem_of_getElem? ed) _ _ ?_
    split
    · rename_i e he
      refine ⟨?_, rfl, ?_, hlt⟩
      · have h1 : ((ds.take i).filterMap f).length ≤ (ds.take i).length := List.length_filterMap_le _ _
        have h2 : (ds.take i).length ≤ i := by rw [List.length_take]; omega
        omega
      · rw [ht, List.filterMap_append]
        simp [he]
    · rename_i he
      refine ⟨rfl, ?_, hlt⟩
      rw [ht, List.filterMap_append]
      simp [he]
/-! ### data that may be compared -/
mutual
def fine (n : Nat) : D → Bool
  | .non => true
  | .bl _ => true
  | .int _ => true
  | .str x => PyData.strOk x
  | .tup l => match n with
    | 0 => false
    | n + 1 => fineAll n l
  | .lst l => match n with
    | 0 => false
    | n + 1 => fineAll n l
  | _ => false
def fineAll (n : Nat) : List D → Bool
  | [] => true
  | d :: ds => fine n d && fineAll n ds
end
mutual
theorem fine_py : ∀ (n : Nat) (d : D), fine n d = true → ∃ p, toPy d = some p ∧ p.canLay0 = true ∧ p.depth ≤ n
  | n, .non, _ => ⟨.none, rfl, by simp only [PyData.canLay0], by simp only [PyData.depth]; omega⟩
  | n, .bl b, _ => ⟨.bool b, rfl, by simp only [PyData.canLay0], by simp only [PyData.depth]; omega⟩
  | n, .int i, _ => ⟨.int i, rfl, by simp only [PyData.canLay0], by simp only [PyData.depth]; omega⟩
  | n, .str x, h => ⟨.str x, rfl, by simpa only [PyData.canLay0, fine] using h, by simp only [PyData.depth]; omega⟩
  | 0, .tup l, h => by simp [fine] at h
  | n + 1, .tup l, h => by
    obtain ⟨ps, h1, h2, h3, _⟩ := fine_pyAll n l (by simpa only [fine] using h)
    exact ⟨.tuple ps, by simp only [toPy, h1], by simpa only [PyData.canLay0] using h2, by simp only [PyData.depth]; omega⟩
  | 0, .lst l, h => by simp [fine] at h
  | n + 1, .lst l, h => by
    obtain ⟨ps, h1, h2, h3, _⟩ := fine_pyAll n l (by simpa only [fine] using h)
    exact ⟨.list ps, by simp only [toPy, h1], by simpa only [PyData.canLay0] using h2, by simp only [PyData.depth]; omega⟩
  | n, .dct0, h => by simp [fine] at h
  | n, .scr _, h => by simp [fine] at h
  | n, .own _, h => by simp [fine] at h
  | n, .exc _ _, h => by simp [fine] at h
  | n, .val _, h => by simp [fine] at h
theorem fine_pyAll : ∀ (n : Nat) (ds : List D), fineAll n ds = true → ∃ ps, toPyAll ds = some ps ∧ PyData.canLayAll0 ps = true ∧ PyData.depthAll ps ≤ n ∧ ps.length = ds.length
  | n, [], _ => ⟨[], rfl, by simp only [PyData.canLayAll0], by simp only [PyData.depthAll]; omega, rfl⟩
  | n, d :: ds, h => by
    have h' : fine n d = true ∧ fineAll n ds = true := by simpa only [fineAll, Bool.and_eq_true] using h
    obtain ⟨p, a1, a2, a3⟩ := fine_py n d h'.1
    obtain ⟨ps, b1, b2, b3, b4⟩ := fine_pyAll n ds h'.2
    exact ⟨p :: ps, by simp only [toPyAll, a1, b1], by simp only [PyData.canLayAll0, a2, b2, Bool.and_self], by simp only [PyData.depthAll]; omega, by rw [List.length_cons, List.length_cons, b4]⟩
end
theorem cmpd_fine {n : Nat} {d : D} (h : fine n d = true) (hn : n ≤ 64 := by decide) : ∃ p, toPy d = some p ∧ cmpd d = some p := by
  obtain ⟨p, h1, h2, h3⟩ := fine_py n d h
  refine ⟨p, h1, ?_⟩
  unfold cmpd
  rw [h1]
  have : SeqAt.shaped p = true := by unfold SeqAt.shaped; rw [h2]; simp; omega
  simp only [this, if_true]
theorem fineAll_iff {n : Nat} : ∀ {l : List D}, fineAll n l = true ↔ ∀ d ∈ l, fine n d = true
  | [] => by simp [fineAll]
  | d :: l => by simp only [fineAll, Bool.and_eq_true, List.mem_cons, forall_eq_or_imp, fineAll_iff (l := l)]
theorem res_fine {n : Nat} {d : D} {M : Mem} (h : fine n d = true) : res M d = d := by
  cases d <;> first | rfl | (simp [fine] at h)
theorem eqv_self {n : Nat} {d : D} {p : PyData} (h : fine n d = true) (hp : toPy d = some p) : PyData.eqv p p = true := by
  obtain ⟨p', h1, h2, _⟩ := fine_py n d h
  rw [hp] at h1; cases h1
  exact SeqAt.eqv_refl p h2
theorem eqB_self {n : Nat} {d : D} (h : fine n d = true) (hn : n ≤ 64 := by decide) : eqB d d = some true := by
  obtain ⟨p, h1, h2⟩ := cmpd_fine h hn
  unfold eqB
  split
  · simp_all
  · rw [h2]
    show some (PyData.eqv p p) = _
    rw [eqv_self h h1]
/-- the same data compared -/
theorem gNe_same {n : Nat} {d : D} {M : Mem} {Q : DQ} (h : fine n d = true) (q : Q (.bl false) M) (hn : n ≤ 64 := by decide) : gNe d d M Q := by
  unfold gNe
  rw [res_fine h, eqB_self h hn]
  exact q
theorem gEq_same {n : Nat} {d : D} {M : Mem} {Q : DQ} (h : fine n d = true) (q : Q (.bl true) M) (hn : n ≤ 64 := by decide) : gEq d d M Q := by
  unfold gEq
  rw [res_fine h, eqB_self h hn]
  exact q
theorem eqB_nil {n : Nat} {l : List D} (h : fineAll n l = true) (hn : n ≤ 60 := by decide) : eqB (.lst l) (.lst []) = some l.isEmpty := by
  have hf : fine (n + 1) (.lst l) = true := by simpa only [fine] using h
  obtain ⟨p, h1, h2⟩ := cmpd_fine hf (by omega)
  obtain ⟨ps, b1, _, _, b4⟩ := fine_pyAll n l h
  have e : p = .list ps := by simp only [toPy, b1] at h1; exact (Option.some.inj h1).symm
  subst e
  show (match cmpd (.lst l), cmpd (.lst []) with
    | some p, some q => some (PyData.eqv p q)
    | _, _ => none) = _
  rw [h2]
  show some (PyData.eqv (.list ps) (.list [])) = _
  cases l with
  | nil => cases ps with
    | nil => rfl
    | cons _ _ => simp at b4
  | cons _ _ => cases ps with
    | nil => simp at b4
    | cons _ _ => rfl
/-- a list beside the empty one -/
theorem gNe_nil' {n : Nat} {l : List D} {M : Mem} {Q : DQ} (h : fineAll n l = true) (q : Q (.bl (!l.isEmpty)) M) (hn : n ≤ 60 := by decide) : gNe (.lst l) (.lst []) M Q := by
  unfold gNe
  show match eqB (.lst l) (.lst []) with | some b => Q (.bl (!b)) M | none => False
  rw [eqB_nil h hn]
  exact q
theorem gNe_strs {a b : Str} {M : Mem} {Q : DQ} : gNe (.str a) (.str b) M Q = Q (.bl (!(a == b))) M := rfl
theorem gEq_strs {a b : Str} {M : Mem} {Q : DQ} : gEq (.str a) (.str b) M Q = Q (.bl (a == b)) M := rfl

/-! ### data that may be shown -/
mutual
def lit (B : Nat) : D → Bool
  | .int i => decide (i.natAbs.log2 < B)
  | .tup l => litAll B l
  | .lst l => litAll B l
  | _ => true
def litAll (B : Nat) : List D → Bool
  | [] => true
  | d :: ds => lit B d && litAll B ds
end
mutual
def wt (B : Nat) : D → Nat
  | .int _ => B + 1
  | .str x => x.cps.size
  | .tup l => wtAll B l
  | .lst l => wtAll B l
  | _ => 0
def wtAll (B : Nat) : List D → Nat
  | [] => 0
  | d :: ds => wt B d + 1 + wtAll B ds
end
theorem strOk_short {x : Str} (h : PyData.strOk x = true) : ∀ c ∈ x.cps.toList, c < 16 ^ 8 := by
  have h0 : x.cps.all (· < 0x110000) = true := h
  intro c hc
  have h1 := (Array.all_eq_true_iff_forall_mem.mp h0) c (Array.mem_toList_iff.mp hc)
  have h2 : c < 0x110000 := by simpa using h1
  have e : (16 : Nat) ^ 8 = 4294967296 := by decide
  omega
mutual
theorem lit_py (B : Nat) (hB : B ≤ 1919) : ∀ (n : Nat) (d : D) (p : PyData), fine n d = true → lit B d = true → toPy d = some p → p.showable = true ∧ p.leavesShort (B + 8) = true ∧ p.weight ≤ wt B d
  | n, .non, p, _, _, e => by cases e; exact ⟨by simp only [PyData.showable], by simp only [PyData.leavesShort], by simp only [PyData.weight]; omega⟩
  | n, .bl b, p, _, _, e => by cases e; exact ⟨by simp only [PyData.showable], by simp only [PyData.leavesShort], by simp only [PyData.weight]; omega⟩
  | n, .int i, p, _, h, e => by
    cases e
    have h' : i.natAbs.log2 < B := by simpa only [lit, decide_eq_true_eq] using h
    refine ⟨?_, ?_, ?_⟩
    · simp only [PyData.showable, decide_eq_true_eq]; omega
    · simp only [PyData.leavesShort, decide_eq_true_eq]
      show (Str.ofString (toString i)).length ≤ _
      rw [PySem.ofString_length]
      have := int_text_length_le (a := i) (k := B) (by omega) h'
      omega
    · simp only [PyData.weight, wt]
      split <;> omega
  | n, .str x, p, hf, _, e => by
    cases e
    refine ⟨by simp only [PyData.showable], ?_, by simp only [PyData.weight, wt]; omega⟩
    simp only [PyData.leavesShort, List.all_eq_true, decide_eq_true_eq]
    exact strOk_short (by simpa only [fine] using hf)
  | 0, .tup l, p, h, _, _ => by simp [fine] at h
  | 0, .lst l, p, h, _, _ => by simp [fine] at h
  | n + 1, .tup l, p, h, h2, e => by
    obtain ⟨ps, e1, _⟩ := fine_pyAll n l (by simpa only [fine] using h)
    have e' : p = .tuple ps := by simp only [toPy, e1] at e; exact (Option.some.inj e).symm
    subst e'
    obtain ⟨a, b, c⟩ := lit_pyAll B hB n l ps (by simpa only [fine] using h) (by simpa only [lit] using h2) e1
    exact ⟨by simpa only [PyData.showable] using a, by simpa only [PyData.leavesShort] using b, by simpa only [PyData.weight, wt] using c⟩
  | n + 1, .lst l, p, h, h2, e => by
    obtain ⟨ps, e1, _⟩ := fine_pyAll n l (by simpa only [fine] using h)
    have e' : p = .list ps := by simp only [toPy, e1] at e; exact (Option.some.inj e).symm
    subst e'
    obtain ⟨a, b, c⟩ := lit_pyAll B hB n l ps (by simpa only [fine] using h) (by simpa only [lit] using h2) e1
    exact ⟨by simpa only [PyData.showable] using a, by simpa only [PyData.leavesShort] using b, by simpa only [PyData.weight, wt] using c⟩
  | n, .dct0, _, h, _, _ => by simp [fine] at h
  | n, .scr _, _, h, _, _ => by simp [fine] at h
  | n, .own _, _, h, _, _ => by simp [fine] at h
  | n, .exc _ _, _, h, _, _ => by simp [fine] at h
  | n, .val _, _, h, _, _ => by simp [fine] at h
theorem lit_pyAll (B : Nat) (hB : B ≤ 1919) : ∀ (n : Nat) (ds : List D) (ps : List PyData), fineAll n ds = true → litAll B ds = true → toPyAll ds = some ps → PyData.showableAll ps = true ∧ PyData.leavesShortAll (B + 8) ps = true ∧ PyData.weightAll ps ≤ wtAll B ds
  | n, [], ps, _, _, e => by cases e; exact ⟨by simp only [PyData.showableAll], by simp only [PyData.leavesShortAll], by simp only [PyData.weightAll]; omega⟩
  | n, d :: ds, ps, h, h2, e => by
    have h' : fine n d = true ∧ fineAll n ds = true := by simpa only [fineAll, Bool.and_eq_true] using h
    have h2' : lit B d = true ∧ litAll B ds = true := by simpa only [litAll, Bool.and_eq_true] using h2
    obtain ⟨p, a1, _, _⟩ := fine_py n d h'.1
    obtain ⟨qs, b1, _, _, _⟩ := fine_pyAll n ds h'.2
    have e' : ps = p :: qs := by simp only [toPyAll, a1, b1] at e; exact (Option.some.inj e).symm
    subst e'
    obtain ⟨c1, c2, c3⟩ := lit_py B hB n d p h'.1 h2'.1 a1
    obtain ⟨d1, d2, d3⟩ := lit_pyAll B hB n ds qs h'.2 h2'.2 b1
    refine ⟨by simp only [PyData.showableAll, c1, d1, Bool.and_self], by simp only [PyData.leavesShortAll, c2, d2, Bool.and_self], ?_⟩
    simp only [PyData.weightAll, wtAll]; omega
end
/-- d's repr is covered: ints of B bits, at most -/
theorem shw_of (B n : Nat) {d : D} (h : fine n d = true) (hl : lit B d = true) (hw : (B + 10) * wt B d + B + 8 ≤ 16777216) (hB : B ≤ 1919 := by decide) (hn : n ≤ 64 := by decide) : ∃ z, shwn d = some z := by
  obtain ⟨p, e1, e2, e3⟩ := fine_py n d h
  obtain ⟨a, b, c⟩ := lit_py B hB n d p h hl e1
  have h1 := PyData.shown_le (B + 8) (by omega) p b
  have h2 : (B + 8 + 2) * p.weight ≤ (B + 10) * wt B d := Nat.mul_le_mul (by omega) c
  refine ⟨p.shown, ?_⟩
  unfold shwn
  rw [e1]
  dsimp only
  rw [if_pos ⟨a, by omega, by rw [sizeLine_eq]; omega, PyData.hasDict_of_canLay p e2⟩]
theorem gRepr_of (B n : Nat) {d : D} {M : Mem} {Q : DQ} (h : fine n d = true) (hl : lit B d = true) (hw : (B + 10) * wt B d + B + 8 ≤ 16777216) (q : ∀ z, shwn d = some z → Q (.str z) M) (hB : B ≤ 1919 := by decide) (hn : n ≤ 64 := by decide) : gRepr [d] M Q := by
  obtain ⟨z, e⟩ := shw_of B n h hl hw hB hn
  unfold gRepr
  dsimp only
  rw [res_fine h, e]
  exact q z e
/-! ### items by a written index -/
section
variable {α : Type}
theorem atI_of (n : Nat) {l : List α} (h : n < l.length) : atI l (n : Int) = l[n]? := by
  unfold atI ixN
  rw [if_pos (by omega), if_pos (by omega)]
  rfl
theorem atI_0 {a : α} {l : List α} : atI (a :: l) 0 = some a := atI_of 0 (by simp)
theorem atI_1 {a b : α} {l : List α} : atI (a :: b :: l) 1 = some b := atI_of 1 (by simp)
theorem atI_2 {a b c : α} {l : List α} : atI (a :: b :: c :: l) 2 = some c := atI_of 2 (by simp)
theorem atI_3 {a b c d : α} {l : List α} : atI (a :: b :: c :: d :: l) 3 = some d := atI_of 3 (by simp)
theorem atI_4 {a b c d e : α} {l : List α} : atI (a :: b :: c :: d :: e :: l) 4 = some e := atI_of 4 (by simp)
theorem atI_5 {a b c d e f : α} {l : List α} : atI (a :: b :: c :: d :: e :: f :: l) 5 = some f := atI_of 5 (by simp)
theorem ixN_30 : ixN 3 0 = some 0 := by decide
theorem ixN_31 : ixN 3 1 = some 1 := by decide
theorem ixN_32 : ixN 3 2 = some 2 := by decide
end
theorem rs_lst {M : Mem} {l : List D} : res M (.lst l) = .lst l := rfl
theorem rs_tup {M : Mem} {l : List D} : res M (.tup l) = .tup l := rfl
theorem rs_scr {M : Mem} {l : List Int} : res M (.scr l) = .scr l := rfl
theorem rs_int {M : Mem} {i : Int} : res M (.int i) = .int i := rfl
theorem intsD_map : ∀ ns : List Int, intsD (ns.map D.int) = some ns
  | [] => rfl
  | n :: ns => by rw [List.map_cons]; unfold intsD; rw [intsD_map ns]
theorem cut_map (ns : List Int) (lo hi : Option Int) : ∃ xs : List Int, cutD (ns.map D.int) lo hi = xs.map D.int := by
  unfold cutD
  rw [← List.map_drop, ← List.map_take]
  exact ⟨_, rfl⟩
end DL
/-! DLS: sorted of ints, of tuples of ints -/
namespace DL
open PySem PySem.Spec PyProof.Rows L2
/-- by the first unlike number -/
def lexL : List Int → List Int → Bool
  | [], [] => false
  | [], _ :: _ => true
  | _ :: _, [] => false
  | x :: xs, y :: ys => if x = y then lexL xs ys else decide (x < y)
theorem lexL_asym : ∀ x y, lexL x y = true → lexL y x = false
  | [], [], h => by cases h
  | [], _ :: _, _ => rfl
  | _ :: _, [], h => by cases h
  | x :: xs, y :: ys, h => by
    unfold lexL at h ⊢
    by_cases e : x = y
    · rw [if_pos e] at h
      rw [if_pos e.symm]
      exact lexL_asym xs ys h
    · rw [if_neg e] at h
      rw [if_neg (Ne.symm e)]
      have := of_decide_eq_true h
      exact decide_eq_false (by omega)
theorem lexL_tr : ∀ x y z, lexL y x = false → lexL z y = false → lexL z x = false
  | [], [], z, _, h => h
  | [], _ :: _, [], _, h => by cases h
  | [], _ :: _, _ :: _, _, _ => rfl
  | _ :: _, [], _, h, _ => by cases h
  | _ :: _, _ :: _, [], _, h => by cases h
  | x :: xs, y :: ys, z :: zs, h1, h2 => by
    unfold lexL at h1 h2 ⊢
    by_cases e1 : y = x
    · rw [if_pos e1] at h1
      by_cases e2 : z = y
      · rw [if_pos e2] at h2
        rw [if_pos (e2.trans e1)]
        exact lexL_tr xs ys zs h1 h2
      · rw [if_neg e2] at h2
        rw [if_neg (fun z => e2 (z.trans e1.symm)), ← e1]
        exact h2
    · rw [if_neg e1] at h1
      have a1 := of_decide_eq_false h1
      by_cases e2 : z = y
      · rw [if_neg (fun z => e1 (e2.symm.trans z)), e2]
        exact h1
      · rw [if_neg e2] at h2
        have a2 := of_decide_eq_false h2
        rw [if_neg (by omega)]
        exact decide_eq_false (by omega)
theorem lexL_conn : ∀ x y, lexL x y = false → lexL y x = false → x = y
  | [], [], _, _ => rfl
  | [], _ :: _, h, _ => by cases h
  | _ :: _, [], _, h => by cases h
  | x :: xs, y :: ys, h1, h2 => by
    unfold lexL at h1 h2
    by_cases e : x = y
    · rw [if_pos e] at h1
      rw [if_pos e.symm] at h2
      rw [e, lexL_conn xs ys h1 h2]
    · rw [if_neg e] at h1
      rw [if_neg (Ne.symm e)] at h2
      have a1 := of_decide_eq_false h1
      have a2 := of_decide_eq_false h2
      omega
theorem lexL_swo {α : Type} (k : α → List Int) : SrtO.Swo fun v u => lexL (k v) (k u) := ⟨fun _ _ => lexL_asym _ _, fun _ _ _ => lexL_tr _ _ _⟩
/-- at v: a tuple of these ints -/
def IsTupI (h : Heap) (v : Value) (ns : List Int) : Prop := ∃ a o us n, v = .ref a ∧ h.get? a = some o ∧ o.cls = .type "tuple" ∧ o.data = .seq (List.toArray us) n ∧ Vals (ns.map V.int) us
theorem IsTupI.keeps {h h' : Heap} {v : Value} {ns : List Int} (p : IsTupI h v ns) (k : ∀ b o, h.get? b = some o → o.cls = .type "tuple" → h'.get? b = some o) : IsTupI h' v ns := by
  obtain ⟨a, o, us, n, e, ho, hc, hd, r⟩ := p
  exact ⟨a, o, us, n, e, k _ _ ho hc, hc, hd, r⟩
theorem lex_run {prog : Program} {w : World} {A : Around} {Q : Bool → Shared → Prop} {s : Shared} : ∀ (ns ms : List Int) (us vs : List Value) (i : Nat), Vals (ns.map V.int) us → Vals (ms.map V.int) vs → ns.length = ms.length → Q (lexL ns ms) s → PySem.W.KatLex prog w A true false Q (us.zip vs) i s
  | [], [], us, vs, i, r1, r2, _, q => by
    cases r1; cases r2
    exact PySem.W.kat_nil q
  | [], _ :: _, _, _, _, _, _, h, _ => by cases h
  | _ :: _, [], _, _, _, _, _, h, _ => by cases h
  | n :: ns, m :: ms, _, _, i, .cons rn r1, .cons rm r2, h, q => by
    obtain ⟨t1, rfl⟩ := rn
    obtain ⟨t2, rfl⟩ := rm
    unfold lexL at q
    refine PySem.W.kat_cons (SeqAt.EqAt.int_int n t1 m t2 prog w _ _ (PySem.W.kat_go (fun e => ?_) fun e => ?_))
    · have e' : n = m := by simpa using e
      rw [if_pos e'] at q
      exact PySem.W.kat_yes (lex_run ns ms _ _ _ r1 r2 (by simpa using h) q)
    · have e' : ¬ n = m := by simpa using e
      rw [if_neg e'] at q
      exact PySem.W.kat_no (oneLt_any_int q)
theorem tup_cmpI {prog : Program} {w : World} {A : Around} {s : Shared} {vs : List Value} {k : Value → List Int} {d : Nat} (hp : ∀ v ∈ vs, IsTupI s.heap v (k v) ∧ (k v).length = d) : SrtO.Cmp prog w A s (tuples' true) (fun p => p.1 ∈ vs) (SrtO.lt2 fun v u => lexL (k v) (k u)) := by
  intro p q hm hm'
  obtain ⟨⟨a, o, us, n, e, ho, hc, hd, r⟩, l1⟩ := hp _ hm
  obtain ⟨⟨a', o', us', n', e', ho', hc', hd', r'⟩, l2⟩ := hp _ hm'
  show wpAny (model prog w) A (keyLt' (tuples' true) p.1 q.1) (fun r s' => s' = s ∧ r = lexL (k p.1) (k q.1)) (fun _ _ => False) s
  generalize k p.1 = ns at r l1 ⊢
  generalize k q.1 = ms at r' l2 ⊢
  rw [e, e']
  refine PySem.W.kat_lt ho hd ho' hd' ?_
  have z1 : us.length = ns.length := by rw [← r.length, List.length_map]
  have z2 : us'.length = ms.length := by rw [← r'.length, List.length_map]
  have z : decide ((List.toArray us).size < (List.toArray us').size) = false := by
    rw [List.size_toArray, List.size_toArray, z1, z2, l1, l2]
    exact decide_eq_false (Nat.lt_irrefl _)
  rw [z]
  exact lex_run ns ms us us' 0 r r' (l1.trans l2.symm) ⟨rfl, rfl⟩
theorem firsts_ofI {h : Heap} {k : Value → List Int} {d : Nat} (hd : 1 ≤ d) : ∀ {vs : List Value}, (∀ v ∈ vs, IsTupI h v (k v) ∧ (k v).length = d) → ∃ fs : List Value, PySem.W.KatTups h vs fs ∧ fs.length = vs.length ∧ ∀ f ∈ fs, ∃ x t, f = Value.int x t
  | [], _ => ⟨[], .nil, rfl, fun f hf => by cases hf⟩
  | v :: vs, hp => by
    obtain ⟨fs, h1, h2, h3⟩ := firsts_ofI hd fun v' hm => hp v' (List.mem_cons_of_mem _ hm)
    obtain ⟨⟨a, o, us, n, e, ho, hc, hdt, r⟩, l⟩ := hp v List.mem_cons_self
    generalize k v = ns at r l
    match ns, us, r, l with
    | [], _, _, l => exact absurd (show (0 : Nat) = d from l) (by omega)
    | x :: xs, _, .cons rx r, l =>
      obtain ⟨t, rfl⟩ := rx
      subst e
      refine ⟨.int x t :: fs, .cons ho hc hdt (by simp) h1, by rw [List.length_cons, List.length_cons, h2], fun f hf => ?_⟩
      rcases List.mem_cons.mp hf with rfl | hf
      · exact ⟨x, t, rfl⟩
      · exact h3 f hf
theorem tups_sortableI {prog : Program} {w : World} {A : Around} {s : Shared} {a : Addr} {vs : List Value} {k : Value → List Int} {d : Nat} (hd : 1 ≤ d) (h0 : 0 < vs.length) (hp : ∀ v ∈ vs, IsTupI s.heap v (k v) ∧ (k v).length = d) (ha : ∀ o, s.heap.get? a = some o → o.cls ≠ .type "tuple") :
    SrtO.SortableO prog w A s a vs fun v u => lexL (k v) (k u) := by
  intro h' keep
  have hp' : ∀ v ∈ vs, IsTupI h' v (k v) ∧ (k v).length = d := fun v hm => ⟨(hp v hm).1.keeps fun b o e c => keep b o (fun z => ha o (by rw [← z]; exact e) c) e, (hp v hm).2⟩
  obtain ⟨fs, h1, h2, h3⟩ := firsts_ofI hd hp'
  refine ⟨tuples' true, fun Q E hq => PySem.W.kat_kind (T := .type "int") h1 (by omega) (fun f hm => ?_) (by rfl) ?_, tup_cmpI hp'⟩
  · obtain ⟨x, t, rfl⟩ := h3 f hm
    exact PySem.W.Looks.now
  · have e : (Value.type "int" != Value.type "tuple") = true := by decide +kernel
    rw [e]
    exact hq
theorem sorted_tupsI {prog : Program} {w : World} {A : Around} {E : Value → Shared → Prop} {s : Shared} {l : Addr} {vs : List Value} {k : Value → List Int} {d : Nat} {Q : Value → Shared → Prop} (hd : 1 ≤ d) (hl : s.heap.IsList l vs.toArray) (hz : vs.length ≤ sizeLine) (hp : ∀ v ∈ vs, IsTupI s.heap v (k v) ∧ (k v).length = d)
    (h : ∀ (h' : Heap) (b : Addr) (out : List Value), SrtO.Srtd (fun v u => lexL (k v) (k u)) out → out.Perm vs → (∀ c o, s.heap.get? c = some o → h'.get? c = some o) → s.heap.objs.size ≤ b → (∃ n, h'.get? b = some (seqObj "list" out.toArray n)) → Q (.ref b) { s with heap := h' }) :
    wpAny (model prog w) A (call (.builtin "sorted") [.ref l]) Q E s := by
  refine SrtO.sorted_ord (lexL_swo k) hl hz (fun h2 h₁ a ha kk => ?_) fun out hs hb => ?_
  · refine tups_sortableI (s := { s with heap := h₁ }) hd (by omega) (fun v hm => ⟨(hp v hm).1.keeps fun b o e _ => (kk b o e).2, (hp v hm).2⟩) fun o e c => ?_
    have e' : some o = some (seqObj "list" vs.toArray 0) := e.symm.trans ha
    cases e'
    exact absurd (Value.type.inj c) (by decide)
  · exact h _ _ out hs hb.perm (fun b o e => sortedAll_old e) (Nat.le_succ _) (sortedAll_at s.heap vs out.toArray)
/-- the ints of a tuple, as H tells -/
def kV (H : Hp) (v : V) : List Int := match v with
  | .ref t => match H t with
    | some (.tup xs) => xs.map fun x => match x with
      | .int i => i
      | _ => 0
    | _ => []
  | _ => []
theorem kV_at {H : Hp} {t : Addr} {ns : List Int} (h : H t = some (.tup (ns.map V.int))) : kV H (.ref t) = ns := by
  unfold kV
  dsimp only
  rw [h]
  dsimp only
  rw [List.map_map]
  exact (List.map_congr_left fun x _ => rfl).trans (List.map_id ns)
def rSortedIT (K : PySem.W.Frag) : List V → Hp → VK → Prop := fun vs H Q => ∃ (a : Addr) (xs : List V) (d : Nat), vs = [V.ref a] ∧ SqL K H a xs ∧ 1 ≤ d ∧ (∀ x ∈ xs, (∃ t, x = V.ref t ∧ H t = some (.tup ((kV H x).map V.int))) ∧ (kV H x).length = d) ∧
  ∀ ys p, ys.Pairwise (fun x y => lexL (kV H y) (kV H x) = false) → ys.Perm xs → H p = none → Q (.ref p) (upd H p (.lst ys))
theorem cr_sortedIT {X : Cx} : CallR X (.builtin "sorted") (rSortedIT X.K) := by
  intro pins s σ H vs us Q I r h
  obtain ⟨a, xs, d, rfl, hs, hd, hx, q⟩ := h
  obtain ⟨its, rv, hl, hz⟩ := I.list hs
  match us, r with
  | [u], .cons ru .nil =>
    obtain rfl : u = Value.ref a := ru
    obtain ⟨e1, e2⟩ := refs_back rv fun x m => by
      obtain ⟨⟨t, e, _⟩, _⟩ := hx x m
      exact ⟨t, e⟩
    refine sorted_tupsI (k := fun u => kV H (backV u)) hd hl.isList (by rw [← rv.length]; exact hz) (fun v hv => ?_) fun h' b out h1 h2 kp hb hn => ?_
    · obtain ⟨t, rfl⟩ := e2 v hv
      have hm : V.ref t ∈ xs := by rw [e1]; exact List.mem_map.mpr ⟨_, hv, rfl⟩
      obtain ⟨⟨t', e, ht⟩, hl'⟩ := hx _ hm
      cases e
      obtain ⟨_, its2, r2, o, ho, hc, n, hd'⟩ := I.hok _ _ ht
      exact ⟨⟨t, o, its2, n, rfl, ho, hc, hd', r2⟩, hl'⟩
    · have h3 : ∀ u ∈ out, ∃ a, u = Value.ref a := fun u hu => e2 u (h2.mem_iff.mp hu)
      obtain ⟨n, hn⟩ := hn
      have hp : (out.map backV).Perm xs := by
        rw [e1]
        exact h2.map _
      have hlen : (out.map backV).length ≤ sizeLine := by rw [hp.length_eq]; exact hz
      exact ⟨.ref b, upd H b (.lst (out.map backV)), I.laid (t' := s.toks) kp hb ⟨hlen, out, n, vals_back h3, hn⟩, rfl, q _ b (List.pairwise_map.mpr h1) hp (I.hok.fresh hb)⟩

/-! ### as a rule for data -/
def tI (ns : List Int) : D := .tup (ns.map D.int)
theorem RepAll.ofMem {K : PySem.W.Frag} {ph : Ph} {S : Hp} {f : V → D} : ∀ {ys : List V}, (∀ y ∈ ys, Rep K ph S y (f y)) → RepAll K ph S ys (ys.map f)
  | [], _ => .nil
  | y :: ys, h => .cons (h y List.mem_cons_self) (RepAll.ofMem fun z hz => h z (List.mem_cons_of_mem _ hz))
theorem RepAll.intsV {K : PySem.W.Frag} {ph : Ph} {S : Hp} : ∀ {xs : List V} {ns : List Int}, RepAll K ph S xs (ns.map D.int) → xs = ns.map V.int
  | _, [], .nil => rfl
  | _, _ :: _, .cons h t => by
    cases h
    rw [RepAll.intsV t]
    rfl
def ownOr (own : Bool) (l : List D) (M : Mem) (Q : DQ) : Prop := if own = true then Q (.own M.length) (M ++ [.lst l]) else Q (.lst l) M
/-- sorted(l), l a list of ints or of tuples of ints of one length -/
def gSorted (own : Bool) : GA := fun ds M Q => match ds with
  | [d] => (∃ l : List Int, res M d = .lst (l.map D.int) ∧ ∀ l' : List Int, l'.Perm l → l'.Pairwise (· ≤ ·) → ownOr own (l'.map D.int) M Q) ∨
    ∃ (k : Nat) (l : List (List Int)), res M d = .lst (l.map tI) ∧ 1 ≤ k ∧ (∀ ns ∈ l, ns.length = k) ∧ ∀ l' : List (List Int), l'.Perm l → l'.Pairwise (fun x y => lexL y x = false) → ownOr own (l'.map tI) M Q
  | _ => False
theorem RepAll.tups {K : PySem.W.Frag} {ph : Ph} {S H : Hp} (hsub : Same S H) : ∀ {xs : List V} {l : List (List Int)}, RepAll K ph S xs (l.map tI) → (∀ x ∈ xs, (∃ t, x = V.ref t ∧ H t = some (.tup ((kV H x).map V.int))) ∧ kV H x ∈ l ∧ Rep K ph S x (tI (kV H x))) ∧ xs.map (kV H) = l
  | _, [], .nil => ⟨fun x h => (by cases h), rfl⟩
  | _, n :: l, .cons h t => by
    obtain ⟨i1, i2⟩ := RepAll.tups hsub t
    have h0 := h
    cases h with
    | tup h1 h2 =>
      have e := RepAll.intsV h2
      subst e
      have e2 := kV_at (hsub _ _ h1)
      refine ⟨fun x hx => ?_, by rw [List.map_cons, e2, i2]⟩
      rcases List.mem_cons.mp hx with rfl | hx
      · rw [e2]
        exact ⟨⟨_, rfl, hsub _ _ h1⟩, List.mem_cons_self, h0⟩
      · obtain ⟨j1, j2, j3⟩ := i1 x hx
        exact ⟨j1, List.mem_cons_of_mem _ j2, j3⟩
theorem cd_sorted {X : Cx} (own : Bool) : CallD X (.builtin "sorted") (gSorted own) := by
  intro pins s σ H ph S r M vs us ds Q I hs rv q hg
  match ds, vs, us, rv, q, hg with
  | [d], [v], [u], .cons ru .nil, .cons q .nil, hg =>
    rcases hg with ⟨l, er, g⟩ | ⟨k, l, er, hk, hl, g⟩
    · obtain ⟨p, xs, rfl, hp, hx⟩ := res_lst hs q er
      have e := RepAll.intsV hx
      subst e
      refine cr_sortedI pins s σ H _ _ _ I (.cons ru .nil) ⟨p, l, rfl, SqL.of hp, fun l' b pm sd hb => ?_⟩
      have g' := g l' pm sd
      cases own with
      | false => exact Aft.frz hs hb fun x => ⟨_, .lst upd_same (RepAll.ints _), g'⟩
      | true => exact Aft.own hs hb (RepAll.ints _) g'
    · obtain ⟨p, xs, rfl, hp, hx⟩ := res_lst hs q er
      obtain ⟨i1, i2⟩ := RepAll.tups hs.sub hx
      refine cr_sortedIT pins s σ H _ _ _ I (.cons ru .nil) ⟨p, xs, k, rfl, SqL.of hp, hk, fun x hx => ⟨(i1 x hx).1, hl _ (i1 x hx).2.1⟩, fun ys b sd pm hb => ?_⟩
      have ry : RepAll X.K ph S ys ((ys.map (kV H)).map tI) := by
        rw [List.map_map]
        exact RepAll.ofMem fun y hy => (i1 y (pm.mem_iff.mp hy)).2.2
      have g' := g (ys.map (kV H)) (by rw [← i2]; exact pm.map _) (List.pairwise_map.mpr sd)
      cases own with
      | false => exact Aft.frz hs hb fun x => ⟨_, .lst upd_same (ry.up x), g'⟩
      | true => exact Aft.own hs hb ry g'

/-! ### slices of lists and tuples alike -/
section
variable {X : Cx}
def gSl (own : Bool) (d : D) (lo hi : Option Int) (M : Mem) (Q : DQ) : Prop := match d with
  | .tup l => Q (.tup (cutD l lo hi)) M
  | d => gSlL own d lo hi M Q
theorem de_sl (own : Bool) {e : Expr} {lo hi : Option Expr} {t : DTE} {tl th : DTO} {pos p2 : Pos} (h : DE X e t) (h1 : DO X lo tl) (h2 : DO X hi th) : DE X (.Subscript e (.Slice lo hi none p2) pos) (dSl (gSl own) t tl th) :=
  DE.of (pe_slice (SlR.or sl_list sl_tupA) h.pe h1.po h2.po) fun ph S r M σ H Q hs ht Q' hq => ⟨ph, S, r, M, _, hs, ht, fun v H1 ⟨ph1, S1, M1, x1, hs1, d, q1, g1⟩ =>
    ⟨ph1, S1, r, M1, _, hs1, g1, fun lo H2 ⟨ph2, S2, M2, x2, hs2, g2⟩ => ⟨ph2, S2, r, M2, _, hs2, g2, fun hi H3 ⟨ph3, S3, M3, x3, hs3, g3⟩ => by
      replace g3 : gSl own d lo hi M3 Q := g3
      have xx := x1.trans (x2.trans x3)
      have q3 := q1.up (x2.trans x3)
      by_cases htup : ∃ l, d = .tup l
      · obtain ⟨l, rfl⟩ := htup
        cases q3 with
        | tup h1 h2 =>
          refine .inr ⟨_, _, rfl, SqT.of (hs3.sub _ _ h1), fun hw => ?_, fun _ b hb => hq _ _ (Aft.up xx (Aft.frz hs3 hb fun x => ⟨_, .tup upd_same ((cut_rep h2).up x), g3⟩))⟩
          have hw' : HT.sIx l.length 0 lo = 0 ∧ HT.sIx l.length l.length hi = l.length := by rw [← h2.len]; exact hw
          refine hq _ _ (Aft.up xx (Aft.here hs3 ⟨_, .tup h1 ?_, g3⟩))
          unfold cutD
          rw [cut_whole hw']
          exact h2
      · left
        have g4 : gSlL own d lo hi M3 Q := by cases d <;> first | exact g3 | exact absurd ⟨_, rfl⟩ htup
        unfold gSlL at g4
        split at g4
        · rename_i l er
          obtain ⟨p, xs, rfl, hp, hx⟩ := res_lst hs3 q3 er
          refine ⟨p, xs, rfl, SqL.of hp, fun b hb => ?_⟩
          cases own with
          | false => exact hq _ _ (Aft.up xx (Aft.frz hs3 hb fun x => ⟨_, .lst upd_same ((cut_rep hx).up x), g4⟩))
          | true => exact hq _ _ (Aft.up xx (Aft.own hs3 hb (cut_rep hx) g4))
        · rename_i ns er
          have er' := res_scr er
          subst er'
          cases q3 with
          | scr h1 =>
            refine ⟨_, _, rfl, hs3.sub.seq h1, fun b hb => ?_⟩
            cases own with
            | false => exact hq _ _ (Aft.up xx (Aft.frz hs3 hb fun x => ⟨_, .lst upd_same (cut_rep (RepAll.ints _)), g4⟩))
            | true => exact hq _ _ (Aft.up xx (Aft.own hs3 hb (cut_rep (RepAll.ints _)) g4))
        · exact g4.elim⟩⟩⟩
theorem gSl_tup {own : Bool} {l : List D} {lo hi : Option Int} {M : Mem} {Q : DQ} : gSl own (.tup l) lo hi M Q = Q (.tup (cutD l lo hi)) M := rfl
theorem gSl_lst {l : List D} {lo hi : Option Int} {M : Mem} {Q : DQ} : gSl false (.lst l) lo hi M Q = Q (.lst (cutD l lo hi)) M := rfl
theorem cut_1 {a : D} {l : List D} : cutD (a :: l) (some 1) none = l := by
  unfold cutD
  have e1 : HT.sIx (a :: l).length 0 (some 1) = 1 := by
    have := HT.sIx_nat (a :: l).length 0 1
    rw [show ((1 : Nat) : Int) = 1 from rfl] at this
    rw [this, List.length_cons]
    omega
  have e2 : HT.sIx (a :: l).length (a :: l).length none = (a :: l).length := rfl
  rw [e1, e2]
  simp
end

/-! ### x + y, lists, the sum to be changed -/
section
variable {X : Cx}
def gAddO : G2 := fun x y M Q => match res M x, res M y with
  | .lst a, .lst b => a.length + b.length ≤ sizeLine ∧ Q (.own M.length) (M ++ [.lst (a ++ b)])
  | _, _ => False
theorem opd_addO : OpD X (binaryOp .Add) gAddO := by
  intro pins s σ H ph S r M x y dx dy v u Q I hs rx ry qx qy hg
  unfold gAddO at hg
  split at hg
  · rename_i a b e1 e2
    obtain ⟨p1, xs, rfl, h1, hx⟩ := res_lst hs qx e1
    obtain ⟨p2, ys, rfl, h2, hy⟩ := res_lst hs qy e2
    have l1 := hx.len
    have l2 := hy.len
    exact op_cat pins s σ H _ _ v u _ I rx ry ⟨_, _, _, _, rfl, rfl, h1, h2, by have := hg.1; omega, fun p hp => Aft.own hs hp (hx.app hy) hg.2⟩
  · exact hg.elim
/-- as gAdd, for lists of any kind -/
def gAddL : G2 := fun x y M Q => match res M x, res M y with
  | .lst a, .lst b => a.length + b.length ≤ sizeLine ∧ Q (.lst (a ++ b)) M
  | _, _ => False
theorem opd_addL : OpD X (binaryOp .Add) gAddL := by
  intro pins s σ H ph S r M x y dx dy v u Q I hs rx ry qx qy hg
  unfold gAddL at hg
  split at hg
  · rename_i a b e1 e2
    obtain ⟨p1, xs, rfl, h1, hx⟩ := res_lst hs qx e1
    obtain ⟨p2, ys, rfl, h2, hy⟩ := res_lst hs qy e2
    have l1 := hx.len
    have l2 := hy.len
    exact op_cat pins s σ H _ _ v u _ I rx ry ⟨_, _, _, _, rfl, rfl, h1, h2, by have := hg.1; omega, fun p hp => Aft.frz hs hp fun x => ⟨_, .lst upd_same ((hx.app hy).up x), hg.2⟩⟩
  · exact hg.elim
end
end DL
/-! DLU: max and min of a list of ints -/
namespace DL
open PySem PySem.Spec PyProof.Rows L2
/-- the ints of a list that is only read -/
def intsOf (M : Mem) (d : D) : Option (List Int) := match res M d with
  | .lst l => intsD l
  | _ => none
def gMaxL : GA := fun ds M Q => match ds with
  | [d] => ∃ l : List Int, intsOf M d = some l ∧ 0 < l.length ∧ ∀ m, m ∈ l → (∀ y, y ∈ l → y ≤ m) → Q (.int m) M
  | _ => False
def gMinL : GA := fun ds M Q => match ds with
  | [d] => ∃ l : List Int, intsOf M d = some l ∧ 0 < l.length ∧ ∀ m, m ∈ l → (∀ y, y ∈ l → m ≤ y) → Q (.int m) M
  | _ => False
theorem intsOf_lst {M : Mem} {d : D} {l : List Int} (h : intsOf M d = some l) : ∃ ds, res M d = .lst ds ∧ intsD ds = some l := by
  unfold intsOf at h
  split at h
  · rename_i ds e; exact ⟨ds, e, h⟩
  · cases h
theorem cd_maxL {X : Cx} (hc : X.calm = true) : CallD X (.builtin "max") gMaxL := CallD.of (cr_max hc) fun σ H ph S r M vs ds Q hs q hg => by
  match ds, q, hg with
  | [d], .cons q .nil, ⟨l, e, h0, hg⟩ =>
    obtain ⟨es, e1, e2⟩ := intsOf_lst e
    obtain ⟨a, xs, rfl, h1, h2⟩ := res_lst hs q e1
    exact ⟨a, l, rfl, by rw [← intsD_rep h2 e2]; exact SqL.of h1, h0, fun m m1 m2 => Aft.here hs ⟨_, .int _, hg m m1 m2⟩⟩
theorem cd_minL {X : Cx} (hc : X.calm = true) : CallD X (.builtin "min") gMinL := CallD.of (cr_min hc) fun σ H ph S r M vs ds Q hs q hg => by
  match ds, q, hg with
  | [d], .cons q .nil, ⟨l, e, h0, hg⟩ =>
    obtain ⟨es, e1, e2⟩ := intsOf_lst e
    obtain ⟨a, xs, rfl, h1, h2⟩ := res_lst hs q e1
    exact ⟨a, l, rfl, by rw [← intsD_rep h2 e2]; exact SqL.of h1, h0, fun m m1 m2 => Aft.here hs ⟨_, .int _, hg m m1 m2⟩⟩
end DL
/-! MA: whole roots, common divisors, sizes; plain -/
namespace DL

/-! ### a great number, by its name -/
def BIGN : Nat := 2 ^ 4000
def BIG : Int := (BIGN : Nat)
theorem bign_pos : 0 < BIGN := Nat.pow_pos (by decide)
theorem big_pos : 0 < BIG := Int.natCast_pos.mpr bign_pos
theorem bign_ge {k : Nat} (h : k ≤ 4000) : 2 ^ k ≤ BIGN := Nat.pow_le_pow_right (by decide) h
/-- a written number is below BIG -/
theorem big_ge (k : Nat) (h : k < 2 ^ 240 := by decide) : (k : Int) ≤ BIG := by
  have := bign_ge (k := 240) (by decide)
  unfold BIG
  omega
theorem log2_of {i : Int} (n : Nat) (h : i.natAbs < 2 ^ n) (h0 : 0 < n) : i.natAbs.log2 < n := by
  by_cases z : i.natAbs = 0
  · rw [z]; simpa using h0
  · exact (Nat.log2_lt z).mpr h
theorem nat_of_big {i : Int} (h1 : -BIG ≤ i) (h2 : i ≤ BIG) : i.natAbs < 2 ^ 4001 := by
  have h3 : (2 : Nat) ^ 4001 = BIGN + BIGN := by unfold BIGN; rw [Nat.pow_succ, Nat.mul_two]
  have h4 := bign_pos
  rw [h3]
  unfold BIG at h1 h2
  omega
theorem log_of_big {i : Int} (h1 : -BIG ≤ i) (h2 : i ≤ BIG) : i.natAbs.log2 < 4001 := log2_of 4001 (nat_of_big h1 h2) (by decide)

/-! ### whole roots -/
def isqN (n : Nat) : Nat :=
  if h : n = 0 then 0
  else
    let r := 2 * isqN (n / 4)
    if (r + 1) * (r + 1) ≤ n then r + 1 else r
termination_by n
decreasing_by omega
theorem isqN_spec (n : Nat) : isqN n * isqN n ≤ n ∧ n < (isqN n + 1) * (isqN n + 1) := by
  induction n using Nat.strongRecOn with
  | ind n ih =>
    unfold isqN
    split
    · rename_i h; subst h; decide
    · rename_i h
      obtain ⟨h1, h2⟩ := ih (n / 4) (by omega)
      generalize isqN (n / 4) = s at *
      have e1 : 4 * (s * s) ≤ n := by omega
      have e2 : n < 4 * ((s + 1) * (s + 1)) := by omega
      have x1 : (2 * s) * (2 * s) = 4 * (s * s) := by rw [Nat.mul_mul_mul_comm]
      have x2 : (2 * s + 1) * (2 * s + 1) = 4 * (s * s) + 4 * s + 1 := by
        rw [Nat.add_mul, Nat.mul_add, x1]; omega
      have x3 : (s + 1) * (s + 1) = s * s + 2 * s + 1 := by
        rw [Nat.add_mul, Nat.mul_add]; omega
      have x4 : (2 * s + 1 + 1) * (2 * s + 1 + 1) = 4 * (s * s) + 8 * s + 4 := by
        rw [Nat.add_mul, Nat.mul_add, Nat.add_mul, Nat.mul_add, x1]; omega
      dsimp only
      split
      · rename_i hc
        exact ⟨hc, by rw [x4]; omega⟩
      · rename_i hc
        exact ⟨by rw [x1]; omega, by omega⟩
theorem isqN_uni {n r : Nat} (h1 : r * r ≤ n) (h2 : n < (r + 1) * (r + 1)) : isqN n = r := by
  obtain ⟨g1, g2⟩ := isqN_spec n
  rcases Nat.lt_trichotomy (isqN n) r with h | h | h
  · have : (isqN n + 1) * (isqN n + 1) ≤ r * r := Nat.mul_le_mul h h
    omega
  · exact h
  · have : (r + 1) * (r + 1) ≤ isqN n * isqN n := Nat.mul_le_mul h h
    omega
/-- the greatest count whose square is at most n -/
def isq (n : Int) : Int := (isqN n.toNat : Nat)
theorem isq_nn (n : Int) : 0 ≤ isq n := Int.natCast_nonneg _
theorem isq_le {n : Int} (h : 0 ≤ n) : isq n * isq n ≤ n := by
  have := (isqN_spec n.toNat).1
  unfold isq
  rw [← Int.natCast_mul]
  omega
theorem isq_lt {n : Int} (h : 0 ≤ n) : n < (isq n + 1) * (isq n + 1) := by
  have := (isqN_spec n.toNat).2
  unfold isq
  have e : ((isqN n.toNat : Int) + 1) * ((isqN n.toNat : Int) + 1) = (((isqN n.toNat + 1) * (isqN n.toNat + 1) : Nat) : Int) := by
    rw [Int.natCast_mul]; rfl
  rw [e]
  omega
theorem isq_uni {n r : Int} (h0 : 0 ≤ r) (h1 : r * r ≤ n) (h2 : n < (r + 1) * (r + 1)) : isq n = r := by
  obtain ⟨k, rfl⟩ := Int.eq_ofNat_of_zero_le h0
  have h1' : ((k * k : Nat) : Int) ≤ n := by rw [Int.natCast_mul]; exact h1
  have h2' : n < (((k + 1) * (k + 1) : Nat) : Int) := by rw [Int.natCast_mul]; exact h2
  unfold isq
  rw [isqN_uni (n := n.toNat) (r := k) (by omega) (by omega)]
theorem sq_lt {a b : Int} (ha : 0 ≤ a) (h : a < b) : a * a < b * b := by
  have := Int.mul_lt_mul' (Int.le_of_lt h) h ha (by omega : (0:Int) < b)
  exact this
theorem sq_le {a b : Int} (ha : 0 ≤ a) (h : a ≤ b) : a * a ≤ b * b := Int.mul_le_mul h h ha (by omega)
theorem lt_of_sq {a b : Int} (hb : 0 ≤ b) (h : a * a < b * b) : a < b := by
  by_cases z : a < b
  · exact z
  · have := sq_le hb (by omega : b ≤ a)
    omega
theorem le_of_sq {a b : Int} (hb : 0 ≤ b) (h : a * a ≤ b * b) : a ≤ b := by
  by_cases z : a ≤ b
  · exact z
  · have := sq_lt hb (by omega : b < a)
    omega
theorem isq_self {r : Int} (h : 0 ≤ r) : isq (r * r) = r := isq_uni h (Int.le_refl _) (sq_lt h (by omega))
/-- self is at most n -/
theorem isq_le_self {n : Int} (h : 0 ≤ n) : isq n ≤ n := by
  by_cases z : isq n ≤ n
  · exact z
  · have h1 := isq_le h
    have h2 := isq_nn n
    have h3 : 1 * isq n ≤ isq n * isq n := Int.mul_le_mul_of_nonneg_right (by omega) h2
    omega

theorem newton_ge {n x : Int} (hn : 0 ≤ n) (hx : 0 < x) : isq n ≤ (x + n / x) / 2 := by
  have h1 := isq_le hn
  generalize isq n = s at *
  have h2 : 0 ≤ (x - s) * (x - s) := by
    rcases Int.le_total 0 (x - s) with h | h
    · exact Int.mul_nonneg h h
    · have := Int.mul_nonneg (show (0:Int) ≤ -(x - s) by omega) (show (0:Int) ≤ -(x - s) by omega)
      rwa [Int.neg_mul_neg] at this
  have h3 : (x - s) * (x - s) = x * x - 2 * (s * x) + s * s := by
    rw [Int.sub_mul, Int.mul_sub, Int.mul_sub, Int.mul_comm x s]; omega
  have h4 : (2 * s - x) * x ≤ n := by
    have e : (2 * s - x) * x = 2 * (s * x) - x * x := by rw [Int.sub_mul, Int.mul_assoc]
    omega
  have h5 : 2 * s - x ≤ n / x := (Int.le_ediv_iff_mul_le hx).mpr h4
  omega
theorem newton_end {n x : Int} (hx : 0 < x) (h : x ≤ (x + n / x) / 2) : x * x ≤ n := by
  have h1 : x ≤ n / x := by omega
  exact (Int.le_ediv_iff_mul_le hx).mp h1
theorem sq_big {n x : Int} (hn : 0 ≤ n) (hx : 0 ≤ x) (h : n < x * x) : isq n ≤ x := by
  have h1 := isq_le hn
  have := lt_of_sq hx (by omega : isq n * isq n < x * x)
  omega

/-! ### common divisors -/
theorem gcd_step {l h : Int} (hl : 0 ≤ l) (hh : 0 < h) : Int.gcd h (l.fmod h) = Int.gcd l h := by
  obtain ⟨a, rfl⟩ := Int.eq_ofNat_of_zero_le hl
  obtain ⟨b, rfl⟩ := Int.eq_ofNat_of_zero_le (Int.le_of_lt hh)
  rw [Int.fmod_eq_emod_of_nonneg _ (by omega)]
  show Nat.gcd (b : Int).natAbs ((a : Int) % (b : Int)).natAbs = Nat.gcd (a : Int).natAbs (b : Int).natAbs
  rw [← Int.natCast_emod, Int.natAbs_natCast, Int.natAbs_natCast, Int.natAbs_natCast, Nat.gcd_comm b, Nat.gcd_comm a b]
  exact (Nat.gcd_rec b a).symm
theorem gcd_end {l : Int} (hl : 0 ≤ l) : ((Int.gcd l 0 : Nat) : Int) = l := by
  rw [Int.gcd_zero_right]; omega
end DL
namespace DL
open PySem PySem.Spec PyProof.Rows L2
def t_is_whole : DTS :=
 (dRet (dAndV (dCB gIsi (dCons (dVar 0) (dCons (dC (.val (.ty "int"))) dNil))) (dNotV (dCB gIsi (dCons (dVar 0) (dCons (dC (.val (.ty "bool"))) dNil))))))
def t_is_between (c_is_whole : DSp) : DTS :=
 (dRet (dAndV (dCall 1 c_is_whole [] DX0 (dCons (dVar 0) dNil)) (dAndV (dOp (gCmpI fun i j => decide (j ≤ i)) (dVar 0) (dVar 1)) (dOrV (dOp (gIs false) (dVar 2) (dC .non)) (dOp (gCmpI fun i j => decide (i ≤ j)) (dVar 0) (dVar 2))))))
def t_check_number (c_is_whole : DSp) : DTS :=
 (dIfS (dOr (dNot (dTru (dCall 1 c_is_whole [] DX0 (dCons (dVar 0) dNil)))) (dOr (dAnd (dTru (dOp (gIs true) (dVar 1) (dC .non))) (dTru (dOp (gCmpI fun i j => decide (i < j)) (dVar 0) (dVar 1)))) (dAnd (dTru (dOp (gIs true) (dVar 2) (dC .non))) (dTru (dOp (gCmpI fun i j => decide (j < i)) (dVar 0) (dVar 2)))))) dNever dNext)
def t_is_measure_by (c_is_between : DSp) : DTS :=
 (dRet (dAndV (dCall 3 c_is_between [] DX0 (dCons (dVar 0) (dCons (dC (.int 5)) (dCons (dC .non) dNil)))) (dOp (gIn false) (dOp (rBin CMod fun i j => i.fmod j) (dVar 0) (dC (.int 4))) (dLst (dCons (dC (.int 0)) (dCons (dC (.int 1)) dNil))))))
def t_check_measure (c_is_measure_by : DSp) : DTS :=
 (dIfS (dNot (dTru (dCall 1 c_is_measure_by [] DX0 (dCons (dVar 0) dNil)))) dNever dNext)
def t_root_floor_by : DTS :=
 (dSeq (dIfS (dTru (dOp (gCmpI fun i j => decide (i < j)) (dVar 0) (dC (.int 2)))) (dRet (dVar 0)) dNext)
 (dSeq (dAsg (dC (.int 1)) (dName 1))
 (dSeq (dWhile (dTru (dOp (gCmpI fun i j => decide (i ≤ j)) (dOp (rBin CMul fun i j => i * j) (dVar 1) (dVar 1)) (dVar 0))) (dAsg (dOp (rBin CMul fun i j => i * j) (dC (.int 2)) (dVar 1)) (dName 1)))
 (dSeq (dAsg (dOp (rBin CDiv fun i j => i.fdiv j) (dOp gAdd (dVar 1) (dOp (rBin CDiv fun i j => i.fdiv j) (dVar 0) (dVar 1))) (dC (.int 2))) (dName 2))
 (dSeq (dWhile (dTru (dOp (gCmpI fun i j => decide (i < j)) (dVar 2) (dVar 1))) (dPar 1 2 (dCons (dVar 2) (dCons (dOp (rBin CDiv fun i j => i.fdiv j) (dOp gAdd (dVar 2) (dOp (rBin CDiv fun i j => i.fdiv j) (dVar 0) (dVar 2))) (dC (.int 2))) dNil))))
 (dRet (dVar 1)))))))
def t_common_by : DTS :=
 (dSeq (dPar 2 3 (dCons (dCB gAbs (dCons (dVar 0) dNil)) (dCons (dCB gAbs (dCons (dVar 1) dNil)) dNil)))
 (dSeq (dWhile (dTru (dOp gNe (dVar 3) (dC (.int 0)))) (dPar 2 3 (dCons (dVar 3) (dCons (dOp (rBin CMod fun i j => i.fmod j) (dVar 2) (dVar 3)) dNil))))
 (dRet (dVar 2))))
def t_is_root_by (c_is_whole : DSp) (c_common_by : DSp) (c_root_floor_by : DSp) : DTS :=
 (dSeq (dIfS (dOr (dNot (dTru (dCB gIsi (dCons (dVar 1) (dCons (dC (.val (.ty "tuple"))) dNil))))) (dOr (dTru (dOp gNe (dCB gLen (dCons (dVar 1) dNil)) (dC (.int 3)))) (dTru (dOp gNe (dLc false (dSeqI (dVar 1)) (dName 2) (dNot (dTru (dCall 1 c_is_whole [] DX0 (dCons (dVar 2) dNil)))) (dVar 2) [2]) (dLst dNil))))) (dRet (dC (.bl false))) dNext)
 (dSeq (dAsg (dVar 1) (dGTup 3 (dGCons (dName 3) (dGCons (dName 4) (dGCons (dName 5) dGNil)))))
 (dSeq (dIfS (dOr (dTru (dOp (gCmpI fun i j => decide (i < j)) (dVar 5) (dC (.int 1)))) (dTru (dOp gNe (dCall 2 c_common_by [] DX0 (dCons (dCall 2 c_common_by [] DX0 (dCons (dVar 3) (dCons (dVar 4) dNil))) (dCons (dVar 5) dNil))) (dC (.int 1))))) (dRet (dC (.bl false))) dNext)
 (dSeq (dAsg (dCall 1 c_root_floor_by [] DX0 (dCons (dVar 0) dNil)) (dName 6))
 (dRet (dOrV (dOp gEq (dVar 4) (dC (.int 0))) (dOp gNe (dOp (rBin CMul fun i j => i * j) (dVar 6) (dVar 6)) (dVar 0))))))))
def t_root_by (c_root_floor_by : DSp) (c_common_by : DSp) : DTS :=
 (dSeq (dAsg (dCall 1 c_root_floor_by [] DX0 (dCons (dVar 0) dNil)) (dName 4))
 (dSeq (dIfS (dTru (dOp gEq (dOp (rBin CMul fun i j => i * j) (dVar 4) (dVar 4)) (dVar 0))) (dPar 1 2 (dCons (dOp gAdd (dVar 1) (dOp (rBin CMul fun i j => i * j) (dVar 2) (dVar 4))) (dCons (dC (.int 0)) dNil))) dNext)
 (dSeq (dAsg (dCall 2 c_common_by [] DX0 (dCons (dCall 2 c_common_by [] DX0 (dCons (dVar 1) (dCons (dVar 2) dNil))) (dCons (dVar 3) dNil))) (dName 5))
 (dSeq (dIfS (dTru (dOp (gCmpI fun i j => decide (i < j)) (dVar 3) (dC (.int 0)))) (dAsg (dOp (rBin (fun _ _ => True) fun i j => i - j) (dC (.int 0)) (dVar 5)) (dName 5)) dNext)
 (dRet (dTup (dCons (dOp (rBin CDiv fun i j => i.fdiv j) (dVar 1) (dVar 5)) (dCons (dOp (rBin CDiv fun i j => i.fdiv j) (dVar 2) (dVar 5)) (dCons (dOp (rBin CDiv fun i j => i.fdiv j) (dVar 3) (dVar 5)) dNil)))))))))
def t_is_root (c_check_measure : DSp) (c_is_root_by : DSp) : DTS :=
 (dSeq (dDrop (dCall 1 c_check_measure [] DX0 (dCons (dVar 0) dNil)))
 (dRet (dCall 2 c_is_root_by [] DX0 (dCons (dVar 0) (dCons (dVar 1) dNil)))))
def t_root_number (c_check_measure : DSp) (c_check_number : DSp) (c_root_by : DSp) : DTS :=
 (dSeq (dDrop (dCall 1 c_check_measure [] DX0 (dCons (dVar 0) dNil)))
 (dSeq (dFor (dSeqI (dLst (dCons (dVar 1) (dCons (dVar 2) dNil)))) (dName 4) (dDrop (dCall 3 c_check_number [] DX0 (dCons (dVar 4) (dCons (dC .non) (dCons (dC .non) dNil))))))
 (dSeq (dDrop (dCall 3 c_check_number [] DX0 (dCons (dVar 3) (dCons (dIf (dTru (dOp gNe (dVar 3) (dC (.int 0)))) (dC .non) (dC (.int 1))) (dCons (dC .non) dNil)))))
 (dRet (dCall 4 c_root_by [] DX0 (dCons (dVar 0) (dCons (dVar 1) (dCons (dVar 2) (dCons (dVar 3) dNil)))))))))
def t_l_hash_9cde : DTS :=
 (dSeq (dAsg (dOp (rBin CMod fun i j => i.fmod j) (dCB gInt (dCons (dOp gAdd (dOp gAdd (dOp gAdd (dOp (rBin CMul fun i j => i * j) (dVar 0) (dC (.int 1048583))) (dOp (rBin CMul fun i j => i * j) (dOp (rBin CMul fun i j => i * j) (dC (.int 16777259)) (dVar 1)) (dVar 1))) (dOp (rBin CMul fun i j => i * j) (dC (.int 71)) (dVar 1))) (dC (.int 13))) dNil)) (dC (.int 2147483629))) (dName 2))
 (dSeq (dAsg (dOp (rBin CMod fun i j => i.fmod j) (dCB gInt (dCons (dOp gAdd (dOp gAdd (dOp (rBin CMul fun i j => i * j) (dVar 2) (dVar 2)) (dOp (rBin CMul fun i j => i * j) (dC (.int 40503)) (dVar 1))) (dC (.int 27644437))) dNil)) (dC (.int 2147483587))) (dName 2))
 (dRet (dOp (rBin CMod fun i j => i.fmod j) (dCB gInt (dCons (dOp (rBin CMul fun i j => i * j) (dVar 2) (dC (.int 69069))) dNil)) (dC (.int 2147483647))))))
def t_l_random_7821 (c_l_hash_9cde : DSp) : DTS :=
 (dSeq (dIfS (dTru (dOp (gCmpI fun i j => decide (j < i)) (dOp gIx (dVar 0) (dC (.int 0))) (dC (.int 0)))) (dSeq (dAsg (dOp (rBin CMod fun i j => i.fmod j) (dCB gInt (dCons (dOp gIx (dVar 0) (dC (.int 0))) dNil)) (dVar 1)) (dName 2))
 (dSeq (dAsg (dOp (rBin CDiv fun i j => i.fdiv j) (dOp gIx (dVar 0) (dC (.int 0))) (dVar 1)) (dSub (dVar 0) (dC (.int 0))))
 (dRet (dVar 2)))) dNext)
 (dSeq (dAsg (dC (.int 0)) (dName 2))
 (dSeq (dFor (dRngI gRng1 (dCons (dOp gAdd (dC (.int 1)) (dOp (rBin CDiv fun i j => i.fdiv j) (dBits (dVar 1)) (dC (.int 30)))) dNil)) (dName 3) (dSeq (dAsg (dOp gAdd (dOp gIx (dVar 0) (dC (.int 2))) (dC (.int 1))) (dSub (dVar 0) (dC (.int 2))))
 (dAsg (dOp gAdd (dOp (rBin CMul fun i j => i * j) (dVar 2) (dC (.int 2147483587))) (dCall 2 c_l_hash_9cde [] DX0 (dCons (dOp gIx (dVar 0) (dC (.int 1))) (dCons (dOp gIx (dVar 0) (dC (.int 2))) dNil)))) (dName 2))))
 (dRet (dOp (rBin CMod fun i j => i.fmod j) (dCB gInt (dCons (dVar 2) dNil)) (dVar 1))))))
def t_l_cell_cf3b : DTS :=
 (dSeq (dIfS (dTru (dOp (gCmpI fun i j => decide (i < j)) (dVar 1) (dCB gLen (dCons (dVar 0) dNil)))) (dRet (dOp gIx (dVar 0) (dVar 1))) dNext)
 (dRet (dOp (rBin CMod fun i j => i.fmod j) (dCB gSum (dCons (dSl (gSlL false) (dVar 0) dNoPart (dPart (dC (.int 1)))) dNil)) (dC (.int 1000003)))))
def t_l_generator_b324 (c_l_cell_cf3b : DSp) : DTS :=
 (dSeq (dAsg (dCall 2 c_l_cell_cf3b [] DX0 (dCons (dVar 0) (dCons (dVar 1) dNil))) (dName 2))
 (dRet (dOwn (dCons (dOp (rBin CMod fun i j => i.fmod j) (dCB gInt (dCons (dCB gMax (dCons (dOp (rBin (fun _ _ => True) fun i j => i - j) (dVar 2) (dOp (rBin CPow fun i j => i ^ j.toNat) (dC (.int 10)) (dC (.int 18)))) (dCons (dC (.int 0)) dNil))) dNil)) (dOp (rBin CPow fun i j => i ^ j.toNat) (dOp (rBin CPow fun i j => i ^ j.toNat) (dC (.int 10)) (dC (.int 60))) (dC (.int 10)))) (dCons (dOp (rBin CMod fun i j => i.fmod j) (dCB gInt (dCons (dVar 2) dNil)) (dC (.int 2147483647))) (dCons (dOp (rBin CMul fun i j => i * j) (dC (.int 1000)) (dVar 1)) dNil))))))
def t_l_common_6be5 : DTS :=
 (dSeq (dPar 2 3 (dCons (dCB gAbs (dCons (dVar 0) dNil)) (dCons (dCB gAbs (dCons (dVar 1) dNil)) dNil)))
 (dSeq (dWhile (dTru (dOp gNe (dVar 3) (dC (.int 0)))) (dPar 2 3 (dCons (dVar 3) (dCons (dOp (rBin CMod fun i j => i.fmod j) (dCB gInt (dCons (dVar 2) dNil)) (dVar 3)) dNil))))
 (dRet (dVar 2))))
def t_l_root_d754 : DTS :=
 (dSeq (dAsg (dTup (dCons (dC (.int 0)) (dCons (dC (.int 1)) dNil))) (dGTup 2 (dGCons (dName 1) (dGCons (dName 2) dGNil))))
 (dSeq (dWhile (dTru (dOp (gCmpI fun i j => decide (i ≤ j)) (dOp (rBin CMul fun i j => i * j) (dVar 2) (dVar 2)) (dVar 0))) (dAsg (dOp (rBin CMul fun i j => i * j) (dC (.int 2)) (dVar 2)) (dName 2)))
 (dSeq (dWhile (dTru (dOp (gCmpI fun i j => decide (j < i)) (dOp (rBin (fun _ _ => True) fun i j => i - j) (dVar 2) (dVar 1)) (dC (.int 1)))) (dSeq (dAsg (dOp (rBin CDiv fun i j => i.fdiv j) (dOp gAdd (dVar 1) (dVar 2)) (dC (.int 2))) (dName 3))
 (dAsg (dIf (dTru (dOp (gCmpI fun i j => decide (i ≤ j)) (dOp (rBin CMul fun i j => i * j) (dVar 3) (dVar 3)) (dVar 0))) (dTup (dCons (dVar 3) (dCons (dVar 2) dNil))) (dTup (dCons (dVar 1) (dCons (dVar 3) dNil)))) (dGTup 2 (dGCons (dName 1) (dGCons (dName 2) dGNil))))))
 (dRet (dVar 1)))))
def t_l_measure_0db7 (c_l_random_7821 : DSp) (c_l_root_d754 : DSp) : DTS :=
 (dSeq (dAsg (dC (.int 5)) (dName 2))
 (dSeq (dFor (dRngI gRng1 (dCons (dOp gAdd (dC (.int 1)) (dCall 2 c_l_random_7821 [] DX0 (dCons (dVar 0) (dCons (dVar 1) dNil)))) dNil)) (dName 3) (dAsg (dOp (rBin CMul fun i j => i * j) (dC (.int 10)) (dVar 2)) (dName 2)))
 (dSeq (dAsg (dOp gAdd (dC (.int 5)) (dCall 2 c_l_random_7821 [] DX0 (dCons (dVar 0) (dCons (dVar 2) dNil)))) (dName 4))
 (dSeq (dIfS (dTru (dOp gEq (dCall 2 c_l_random_7821 [] DX0 (dCons (dVar 0) (dCons (dC (.int 6)) dNil))) (dC (.int 0)))) (dAsg (dOp (rBin CMul fun i j => i * j) (dCall 1 c_l_root_d754 [] DX0 (dCons (dVar 4) dNil)) (dCall 1 c_l_root_d754 [] DX0 (dCons (dVar 4) dNil))) (dName 4)) dNext)
 (dSeq (dAsg (dOp gAdd (dOp (rBin (fun _ _ => True) fun i j => i - j) (dVar 4) (dOp (rBin CMod fun i j => i.fmod j) (dCB gInt (dCons (dVar 4) dNil)) (dC (.int 4)))) (dCall 2 c_l_random_7821 [] DX0 (dCons (dVar 0) (dCons (dC (.int 2)) dNil)))) (dName 5))
 (dRet (dIf (dTru (dOp (gCmpI fun i j => decide (j < i)) (dVar 5) (dC (.int 4)))) (dVar 5) (dC (.int 5)))))))))
def t_l_least_9529 (c_l_root_d754 : DSp) (c_l_common_6be5 : DSp) : DTS :=
 (dSeq (dAsg (dCall 1 c_l_root_d754 [] DX0 (dCons (dVar 0) dNil)) (dName 4))
 (dSeq (dIfS (dTru (dOp gEq (dOp (rBin CMul fun i j => i * j) (dVar 4) (dVar 4)) (dVar 0))) (dPar 1 2 (dCons (dOp gAdd (dVar 1) (dOp (rBin CMul fun i j => i * j) (dVar 2) (dVar 4))) (dCons (dC (.int 0)) dNil))) dNext)
 (dSeq (dAsg (dCall 2 c_l_common_6be5 [] DX0 (dCons (dCall 2 c_l_common_6be5 [] DX0 (dCons (dVar 1) (dCons (dVar 2) dNil))) (dCons (dVar 3) dNil))) (dName 5))
 (dSeq (dIfS (dTru (dOp (gCmpI fun i j => decide (i < j)) (dVar 3) (dC (.int 0)))) (dAsg (dOp (rBin (fun _ _ => True) fun i j => i - j) (dC (.int 0)) (dVar 5)) (dName 5)) dNext)
 (dRet (dTup (dCons (dOp (rBin CDiv fun i j => i.fdiv j) (dVar 1) (dVar 5)) (dCons (dOp (rBin CDiv fun i j => i.fdiv j) (dVar 2) (dVar 5)) (dCons (dOp (rBin CDiv fun i j => i.fdiv j) (dVar 3) (dVar 5)) dNil)))))))))
def t_l_is_root_1604 (c_l_root_d754 : DSp) (c_l_common_6be5 : DSp) : DTS :=
 (dSeq (dIfS (dOr (dNot (dTru (dCB gIsi (dCons (dVar 1) (dCons (dC (.val (.ty "tuple"))) dNil))))) (dTru (dOp gNe (dCB gLen (dCons (dVar 1) dNil)) (dC (.int 3))))) (dRet (dC (.bl false))) dNext)
 (dSeq (dIfS (dOr (dTru (dOp gNe (dLc false (dSeqI (dVar 1)) (dName 2) (dOr (dTru (dCB gIsi (dCons (dVar 2) (dCons (dC (.val (.ty "bool"))) dNil)))) (dNot (dTru (dCB gIsi (dCons (dVar 2) (dCons (dC (.val (.ty "int"))) dNil)))))) (dVar 2) [2]) (dLst dNil))) (dTru (dOp (gCmpI fun i j => decide (i < j)) (dOp gIx (dVar 1) (dC (.int 2))) (dC (.int 1))))) (dRet (dC (.bl false))) dNext)
 (dSeq (dAsg (dCall 1 c_l_root_d754 [] DX0 (dCons (dVar 0) dNil)) (dName 3))
 (dRet (dAndV (dOp gEq (dCall 2 c_l_common_6be5 [] DX0 (dCons (dCall 2 c_l_common_6be5 [] DX0 (dCons (dOp gIx (dVar 1) (dC (.int 0))) (dCons (dOp gIx (dVar 1) (dC (.int 1))) dNil))) (dCons (dOp gIx (dVar 1) (dC (.int 2))) dNil))) (dC (.int 1))) (dOrV (dOp gEq (dOp gIx (dVar 1) (dC (.int 1))) (dC (.int 0))) (dOp gNe (dOp (rBin CMul fun i j => i * j) (dVar 3) (dVar 3)) (dVar 0))))))))
def t_l_right_b88c (c_l_measure_0db7 : DSp) (c_l_random_7821 : DSp) (c_l_least_9529 : DSp) (c_root_number : DSp) (c_is_root : DSp) (c_l_is_root_1604 : DSp) : DTS :=
 (dSeq (dAsg (dCall 2 c_l_measure_0db7 [] DX0 (dCons (dVar 0) (dCons (dC (.int 28)) dNil))) (dName 1))
 (dSeq (dFor (dRngI gRng1 (dCons (dC (.int 4)) dNil)) (dName 2) (dSeq (dAsg (dOp gIx (dLst (dCons (dC (.int 4)) (dCons (dC (.int 100)) (dCons (dOp (rBin CPow fun i j => i ^ j.toNat) (dC (.int 10)) (dC (.int 20))) dNil)))) (dCall 2 c_l_random_7821 [] DX0 (dCons (dVar 0) (dCons (dC (.int 3)) dNil)))) (dName 3))
 (dSeq (dAsg (dLc false (dRngI gRng1 (dCons (dC (.int 3)) dNil)) (dName 7) dYes (dOp (rBin (fun _ _ => True) fun i j => i - j) (dCall 2 c_l_random_7821 [] DX0 (dCons (dVar 0) (dCons (dOp gAdd (dOp (rBin CMul fun i j => i * j) (dC (.int 2)) (dVar 3)) (dC (.int 1))) dNil))) (dVar 3)) [7]) (dGTup 3 (dGCons (dName 4) (dGCons (dName 5) (dGCons (dName 6) dGNil)))))
 (dSeq (dAsg (dIf (dTru (dOp gNe (dVar 6) (dC (.int 0)))) (dVar 6) (dC (.int 1))) (dName 6))
 (dSeq (dPar 8 9 (dCons (dCall 4 c_l_least_9529 [] DX0 (dCons (dVar 1) (dCons (dVar 4) (dCons (dVar 5) (dCons (dVar 6) dNil))))) (dCons (dOp gIx (dLst (dCons (dC (.int 1)) (dCons (dNeg (dC (.int 1))) (dCons (dC (.int 2)) (dCons (dNeg (dC (.int 6))) (dCons (dC (.int 35)) dNil)))))) (dCall 2 c_l_random_7821 [] DX0 (dCons (dVar 0) (dCons (dC (.int 5)) dNil)))) dNil)))
 (dSeq (dAsg (dCall 4 c_root_number [] DX0 (dCons (dVar 1) (dCons (dVar 4) (dCons (dVar 5) (dCons (dVar 6) dNil))))) (dName 10))
 (dSeq (dIfS (dOr (dTru (dOp gNe (dCB gRepr (dCons (dVar 10) dNil)) (dCB gRepr (dCons (dVar 8) dNil)))) (dOr (dTru (dOp gNe (dCall 4 c_root_number [] DX0 (dCons (dVar 1) (dCons (dOp (rBin CMul fun i j => i * j) (dVar 9) (dVar 4)) (dCons (dOp (rBin CMul fun i j => i * j) (dVar 9) (dVar 5)) (dCons (dOp (rBin CMul fun i j => i * j) (dVar 9) (dVar 6)) dNil))))) (dVar 8))) (dTru (dOp gNe (dCallK 4 4 c_root_number [3, 1, 0, 2] DX0 (dCons (dVar 5) (dCons (dVar 4) (dCons (dVar 6) (dCons (dVar 1) dNil))))) (dVar 8))))) (dRet (dC (.bl false))) dNext)
 (dSeq (dAsg (dLst (dCons (dVar 8) (dCons (dTup (dCons (dVar 4) (dCons (dVar 5) (dCons (dVar 6) dNil)))) (dCons (dCB (gList false) (dCons (dVar 8) dNil)) (dCons (dSl gSlT (dVar 8) dNoPart (dPart (dC (.int 2)))) (dCons (dOp gAdd (dVar 8) (dTup (dCons (dC (.int 1)) dNil))) (dCons (dTup (dCons (dOp gIx (dVar 8) (dC (.int 0))) (dCons (dOp gIx (dVar 8) (dC (.int 1))) (dCons (dOp (rBin (fun _ _ => True) fun i j => i - j) (dC (.int 0)) (dOp gIx (dVar 8) (dC (.int 2)))) dNil)))) (dCons (dTup (dCons (dOp (rBin CMul fun i j => i * j) (dC (.int 2)) (dOp gIx (dVar 8) (dC (.int 0)))) (dCons (dOp (rBin CMul fun i j => i * j) (dC (.int 2)) (dOp gIx (dVar 8) (dC (.int 1)))) (dCons (dOp (rBin CMul fun i j => i * j) (dC (.int 2)) (dOp gIx (dVar 8) (dC (.int 2)))) dNil)))) (dCons (dTup (dCons (dOp gIx (dVar 8) (dC (.int 0))) (dCons (dOp gIx (dVar 8) (dC (.int 1))) (dCons (dC (.int 0)) dNil)))) (dCons (dTup (dCons (dOp gIx (dVar 8) (dC (.int 0))) (dCons (dC (.int 0)) (dCons (dC (.int 1)) dNil)))) (dCons (dTup (dCons (dC (.bl true)) (dCons (dOp gIx (dVar 8) (dC (.int 1))) (dCons (dC (.int 1)) dNil)))) dNil))))))))))) (dName 11))
 (dSeq (dAsg (dOp gAdd (dVar 11) (dLst (dCons (dTup (dCons (dOp gIx (dVar 8) (dC (.int 0))) (dCons (dOp gIx (dVar 8) (dC (.int 1))) (dCons (dC (.bl true)) dNil)))) (dCons (dTup (dCons (dOp gIx (dVar 8) (dC (.int 0))) (dCons (dC .non) (dCons (dC (.int 1)) dNil)))) (dCons (dTup (dCons (dC (.str (PySem.Str.ofString "1"))) (dCons (dC (.int 0)) (dCons (dC (.int 1)) dNil)))) (dCons (dTup (dCons (dLst (dCons (dC (.int 1)) dNil)) (dCons (dC (.int 0)) (dCons (dC (.int 1)) dNil)))) (dCons (dTup (dCons (dC (.int 0)) (dCons (dC (.int 1)) (dCons (dC (.int 1)) dNil)))) (dCons (dTup (dCons (dC (.int 0)) (dCons (dC (.int 0)) (dCons (dC (.int 1)) dNil)))) (dCons (dTup (dCons (dC (.int 0)) (dCons (dC (.int 0)) (dCons (dC (.int 2)) dNil)))) dNil))))))))) (dName 11))
 (dFor (dSeqI (dVar 11)) (dName 12) (dSeq (dAsg (dCB gRepr (dCons (dVar 12) dNil)) (dName 13))
 (dIfS (dOr (dTru (dOp gNe (dCB gRepr (dCons (dCall 2 c_is_root [] DX0 (dCons (dVar 1) (dCons (dVar 12) dNil))) dNil)) (dCB gRepr (dCons (dCall 2 c_l_is_root_1604 [] DX0 (dCons (dVar 1) (dCons (dVar 12) dNil))) dNil)))) (dOr (dTru (dOp gNe (dCallK 2 2 c_is_root [1, 0] DX0 (dCons (dVar 12) (dCons (dVar 1) dNil))) (dCall 2 c_is_root [] DX0 (dCons (dVar 1) (dCons (dVar 12) dNil))))) (dTru (dOp gNe (dCB gRepr (dCons (dVar 12) dNil)) (dVar 13))))) (dRet (dC (.bl false))) dNext))))))))))))
 (dRet (dC (.bl true)))))
def t_l_law_c576 (c_l_right_b88c : DSp) (c_l_generator_b324 : DSp) (c_is_root : DSp) (c_root_number : DSp) : DTS :=
 (dSeq (dIfS (dNot (dTru (dCall 1 c_l_right_b88c [] DX0 (dCons (dCall 2 c_l_generator_b324 [] DX0 (dCons (dVar 0) (dCons (dC (.int 0)) dNil))) dNil)))) (dRet (dC (.bl false))) dNext)
 (dSeq (dIfS (dTru (dOp gNe (dLc false (dSeqI (dLst (dCons (dC .non) (dCons (dC (.int 0)) (dCons (dC (.str (PySem.Str.ofString "x"))) (dCons (dLst dNil) (dCons (dTup dNil) (dCons (dC .dct0) (dCons (dC (.bl true)) dNil))))))))) (dName 1) (dTru (dOp (gIs true) (dCall 2 c_is_root [] DX0 (dCons (dC (.int 5)) (dCons (dVar 1) dNil))) (dC (.bl false)))) (dVar 1) [1]) (dLst dNil))) (dRet (dC (.bl false))) dNext)
 (dRet (dAndV (dOp gEq (dCall 4 c_root_number [] DX0 (dCons (dC (.int 5)) (dCons (dC (.int 2)) (dCons (dC (.int 2)) (dCons (dC (.int 4)) dNil))))) (dTup (dCons (dC (.int 1)) (dCons (dC (.int 1)) (dCons (dC (.int 2)) dNil))))) (dAndV (dOp gEq (dCall 4 c_root_number [] DX0 (dCons (dC (.int 9)) (dCons (dC (.int 1)) (dCons (dC (.int 1)) (dCons (dNeg (dC (.int 2))) dNil))))) (dTup (dCons (dNeg (dC (.int 2))) (dCons (dC (.int 0)) (dCons (dC (.int 1)) dNil))))) (dOp gEq (dCall 4 c_root_number [] DX0 (dCons (dC (.int 8)) (dCons (dC (.int 0)) (dCons (dC (.int 0)) (dCons (dC (.int 7)) dNil))))) (dTup (dCons (dC (.int 0)) (dCons (dC (.int 0)) (dCons (dC (.int 1)) dNil))))))))))
end DL
namespace DL
open PySem PySem.Spec PyProof.Rows L2
theorem gIn_two {i a b : Int} {M : Mem} {Q : DQ} : gIn false (.int i) (.lst [.int a, .int b]) M Q = Q (.bl (i == a || i == b)) M := by
  show Q (.bl ((a == i || (b == i || false)) != false)) M = _
  have e : ((a == i || (b == i || false)) != false) = (i == a || i == b) := by
    rw [Bool.bne_false, Bool.or_false, Bool.beq_comm (a := a), Bool.beq_comm (a := b)]
  rw [e]
theorem gRepr_bl {b : Bool} {M : Mem} {Q : DQ} : gRepr [.bl b] M Q = Q (.str (PyData.shown (.bool b))) M := by
  cases b <;> rfl
local macro_rules | `(tactic| walk_at "rd") => `(tactic| simp only [startD, List.map, List.replicate, List.length_cons, List.length_nil, List.append_eq, List.append_nil, List.nil_append, List.cons_append, Nat.reduceSub, Nat.reduceAdd, List.getElem?_cons_zero, List.getElem?_cons_succ, List.set_cons_zero, List.set_cons_succ,
  dC, dVar, dOp, dTru, gTru, tru, dChain, dAnd, dOr, dNot, dAndV, dOrV, dNotV, dIf, dNeg, gNeg, dNil, dCons, dTup, dLst, dOwn, gIx, rBin, gAdd, gCmpI, dCall, dCallK, dSeq, dNext, dDrop, dRet, dRetN, dIfS, dName, dGNil, dGCons, dGTup, dSub, gSetL, dAsg, dPar, dPar3, dAug, gIpI, dSeqI, gSeqI, dRngI, gRng1, gRng2, dCB, gAbs, gInt, gMax, gMin, gGcd, gLen, lenD, gIsi, tyM, tyD, dBits, gBits, dMet, gAppend, dPart, dNoPart, dSl, dEnds, gIs, isB, dNever, dFor, dLc, wipeD, dYes,
  sizeLine_eq, Nat.reduceLeDiff, gEq_int, gNe_int, gEq_strs, gNe_strs, gIn_two, gRepr_bl, rs_lst, rs_tup, rs_scr, rs_int, atI_0, atI_1, atI_2, atI_3, atI_4, atI_5, ixN_30, ixN_31, ixN_32, gEq_bl, gNe_bl, decide_eq_true_eq, beq_iff_eq, Bool.not_eq_true', beq_eq_false_iff_ne, decide_eq_false_iff_not, Bool.not_true, Bool.not_false, if_true, if_false, Bool.false_eq_true, ite_true, ite_false, true_and, and_true, ne_eq, Bool.bne_false, Bool.bne_true, reduceCtorEq])
/-! ### sizes -/
theorem sm_big {i : Int} (h1 : -BIG ≤ i) (h2 : i ≤ BIG) : Sm i := by
  have := log_of_big h1 h2
  unfold Sm; omega
theorem sm_big8 {i : Int} (h1 : -(8 * BIG) ≤ i) (h2 : i ≤ 8 * BIG) : Sm i := by
  refine Sm.of 4004 ?_ (by decide)
  have h3 : (2 : Nat) ^ 4004 = 16 * BIGN := by unfold BIGN; rw [Nat.pow_add 2 4000 4, Nat.mul_comm]
  have h4 := bign_pos
  rw [h3]
  unfold BIG at h1 h2
  omega
theorem cdiv_big {a i : Int} (h0 : i ≠ 0) (h1 : -(8 * BIG) ≤ i) (h2 : i ≤ 8 * BIG) : CDiv a i := by
  refine ⟨h0, Nat.lt_of_lt_of_le (log2_of 4004 ?_ (by decide)) (by decide)⟩
  have h3 : (2 : Nat) ^ 4004 = 16 * BIGN := by unfold BIGN; rw [Nat.pow_add 2 4000 4, Nat.mul_comm]
  have h4 := bign_pos
  rw [h3]
  unfold BIG at h1 h2
  omega
theorem fdiv_pos {a b : Int} (h : 0 < b) : a.fdiv b = a / b := Int.fdiv_eq_ediv_of_nonneg a (Int.le_of_lt h)
theorem fmod_pos {a b : Int} (h : 0 < b) : a.fmod b = a % b := Int.fmod_eq_emod_of_nonneg a (Int.le_of_lt h)

/-! ### kinds -/
theorem kb_NoneType_int : kitB "NoneType" "int" = some false := by decide +kernel
theorem kb_bool_int : kitB "bool" "int" = some true := by decide +kernel
theorem kb_int_int : kitB "int" "int" = some true := by decide +kernel
theorem kb_str_int : kitB "str" "int" = some false := by decide +kernel
theorem kb_tuple_int : kitB "tuple" "int" = some false := by decide +kernel
theorem kb_list_int : kitB "list" "int" = some false := by decide +kernel
theorem kb_dict_int : kitB "dict" "int" = some false := by decide +kernel
theorem kb_NoneType_bool : kitB "NoneType" "bool" = some false := by decide +kernel
theorem kb_bool_bool : kitB "bool" "bool" = some true := by decide +kernel
theorem kb_int_bool : kitB "int" "bool" = some false := by decide +kernel
theorem kb_str_bool : kitB "str" "bool" = some false := by decide +kernel
theorem kb_tuple_bool : kitB "tuple" "bool" = some false := by decide +kernel
theorem kb_list_bool : kitB "list" "bool" = some false := by decide +kernel
theorem kb_dict_bool : kitB "dict" "bool" = some false := by decide +kernel
theorem kb_NoneType_tuple : kitB "NoneType" "tuple" = some false := by decide +kernel
theorem kb_bool_tuple : kitB "bool" "tuple" = some false := by decide +kernel
theorem kb_int_tuple : kitB "int" "tuple" = some false := by decide +kernel
theorem kb_str_tuple : kitB "str" "tuple" = some false := by decide +kernel
theorem kb_tuple_tuple : kitB "tuple" "tuple" = some true := by decide +kernel
theorem kb_list_tuple : kitB "list" "tuple" = some false := by decide +kernel
theorem kb_dict_tuple : kitB "dict" "tuple" = some false := by decide +kernel
theorem kb_NoneType_list : kitB "NoneType" "list" = some false := by decide +kernel
theorem kb_bool_list : kitB "bool" "list" = some false := by decide +kernel
theorem kb_int_list : kitB "int" "list" = some false := by decide +kernel
theorem kb_str_list : kitB "str" "list" = some false := by decide +kernel
theorem kb_tuple_list : kitB "tuple" "list" = some false := by decide +kernel
theorem kb_list_list : kitB "list" "list" = some true := by decide +kernel
theorem kb_dict_list : kitB "dict" "list" = some false := by decide +kernel
local macro_rules | `(tactic| walk_at "kb") => `(tactic| simp only [kb_NoneType_list, kb_bool_list, kb_int_list, kb_str_list, kb_tuple_list, kb_list_list, kb_dict_list, kb_NoneType_int, kb_bool_int, kb_int_int, kb_str_int, kb_tuple_int, kb_list_int, kb_dict_int, kb_NoneType_bool, kb_bool_bool, kb_int_bool, kb_str_bool, kb_tuple_bool, kb_list_bool, kb_dict_bool, kb_NoneType_tuple, kb_bool_tuple, kb_int_tuple, kb_str_tuple, kb_tuple_tuple, kb_list_tuple, kb_dict_tuple, if_true, if_false, Bool.false_eq_true, ite_true, ite_false, Bool.not_true, Bool.not_false])
/-! ### measures -/
def isW : D → Bool
  | .int _ => true
  | _ => false
/-- is_whole(d), d any data -/
def sp_is_whole : DSp := fun ds M Q _ => ∃ d T, ds = [d] ∧ tyM M d = some T ∧ Q (.bl (isW d)) M
theorem rd_is_whole : ∀ ds M Q, ds.length = 1 → sp_is_whole ds M Q DX0 → t_is_whole (dEnds M Q) (startD 1 ds) M := by
  rintro _ M Q _ ⟨d, T, rfl, ht, q⟩
  unfold t_is_whole
  cases d <;> first | (cases ht; done) | skip
  all_goals walk_at "rd"
  case own k =>
    unfold tyM at ht
    dsimp only at ht
    split at ht
    · rename_i ds hk
      simp only [hk]
      walk_at "kb"
      exact rtq q
    · cases ht
  all_goals walk_at "kb"
  all_goals exact rtq q
/-- the common divisor of two ints -/
def sp_gcd : DSp := fun ds M Q _ => ∃ a b : Int, ds = [.int a, .int b] ∧ Q (.int (Int.gcd a b)) M
theorem gcd_abs (a b : Int) : Int.gcd (if a < 0 then -a else a) (if b < 0 then -b else b) = Int.gcd a b := by
  split <;> split <;> simp
theorem rd_common_by : ∀ ds M Q, ds.length = 2 → sp_gcd ds M Q DX0 → t_common_by (dEnds M Q) (startD 4 ds) M := by
  rintro _ M Q _ ⟨a, b, rfl, q⟩
  unfold t_common_by
  walk_at "rd"
  refine dwhile_of (fun n r M' => ∃ l h : Int, r = [some (.int a), some (.int b), some (.int l), some (.int h)] ∧ M' = M ∧ 0 ≤ l ∧ 0 ≤ h ∧ Int.gcd l h = Int.gcd a b ∧ n = h.toNat) _ ⟨_, _, rfl, rfl, ?_, ?_, gcd_abs a b, rfl⟩ ?_
  · split <;> omega
  · split <;> omega
  · rintro n r M' ⟨l, h, rfl, rfl, hl, hh, hg, rfl⟩
    walk_at "rd"
    split
    · rename_i h0
      have hp : 0 < h := by omega
      refine ⟨h0, _, ?_, h, l.fmod h, rfl, hh, ?_, (gcd_step hl hp).trans hg, rfl⟩
      · rw [fmod_pos hp]
        have := Int.emod_lt_of_pos l hp
        have := Int.emod_nonneg l h0
        omega
      · rw [fmod_pos hp]; exact Int.emod_nonneg l h0
    · rename_i h0
      have h0 : h = 0 := by omega
      subst h0
      rw [← hg, gcd_end hl] at q
      exact rtq q
/-- the whole root of a count -/
def sp_isq : DSp := fun ds M Q _ => ∃ n : Int, ds = [.int n] ∧ 0 ≤ n ∧ n ≤ BIG ∧ Q (.int (isq n)) M
theorem rd_root_floor_by : ∀ ds M Q, ds.length = 1 → sp_isq ds M Q DX0 → t_root_floor_by (dEnds M Q) (startD 3 ds) M := by
  rintro _ M Q _ ⟨n, rfl, h0, hB, q⟩
  unfold t_root_floor_by
  walk_at "rd"
  split
  · rename_i h2
    have : isq n = n := by
      rcases (by omega : n = 0 ∨ n = 1) with e | e <;> subst e
      · exact isq_self (r := 0) (by decide)
      · exact isq_self (r := 1) (by decide)
    rw [this] at q
    exact rtq q
  · rename_i h2
    refine dwhile_of (fun m r M' => ∃ f : Int, r = [some (.int n), some (.int f), none] ∧ M' = M ∧ 1 ≤ f ∧ f ≤ 2 * n ∧ m = (2 * n + 2 - f).toNat) _ ⟨1, rfl, rfl, by omega, by omega, rfl⟩ ?_
    rintro m r M' ⟨f, rfl, rfl, hf, hf2, rfl⟩
    walk_at "rd"
    have sf : Sm f := sm_big8 (by omega) (by omega)
    refine ⟨⟨sf, sf⟩, ?_⟩
    split
    · rename_i hc
      refine ⟨⟨Sm.of 4 (by decide), sf⟩, _, ?_, 2 * f, rfl, by omega, ?_, rfl⟩
      · have : f * 1 ≤ f * f := Int.mul_le_mul_of_nonneg_left hf (by omega)
        omega
      · have : f * 1 ≤ f * f := Int.mul_le_mul_of_nonneg_left hf (by omega)
        omega
    · rename_i hc
      have dv : ∀ x : Int, 1 ≤ x → x ≤ 2 * n → CDiv n x := fun x h1 h3 => cdiv_big (by omega) (by omega) (by omega)
      have d2 : ∀ x : Int, CDiv x 2 := fun x => ⟨by decide, by decide⟩
      refine ⟨dv f hf hf2, d2 _, ?_⟩
      refine dwhile_of (fun m r M'' => ∃ x : Int, r = [some (.int n), some (.int x), some (.int ((x + n.fdiv x).fdiv 2))] ∧ M'' = M' ∧ 1 ≤ x ∧ x ≤ 2 * n ∧ isq n ≤ x ∧ m = x.toNat) _ ⟨f, rfl, rfl, hf, hf2, sq_big h0 (by omega) (by omega), rfl⟩ ?_
      rintro m r M'' ⟨x, rfl, rfl, hx, hx2, hs, rfl⟩
      walk_at "rd"
      have e1 : n.fdiv x = n / x := fdiv_pos (by omega)
      have e2 : ∀ y : Int, y.fdiv 2 = y / 2 := fun y => fdiv_pos (by decide)
      rw [e2, e1]
      have ng := newton_ge h0 (x := x) (by omega)
      have h1q : 1 ≤ isq n := by
        by_cases z : 1 ≤ isq n
        · exact z
        · have e : isq n = 0 := by have := isq_nn n; omega
          have := isq_lt h0
          rw [e] at this
          omega
      split
      · rename_i hlt
        refine ⟨dv _ (by omega) (by omega), d2 _, _, ?_, (x + n / x) / 2, ?_, by omega, by omega, ng, rfl⟩
        · omega
        · rw [e2]
      · rename_i hge
        have e : isq n = x := isq_uni (by omega) (newton_end (by omega) (by omega)) (by
          have h3 := isq_lt h0
          have : (isq n + 1) * (isq n + 1) ≤ (x + 1) * (x + 1) := sq_le (by omega) (by omega)
          omega)
        rw [e] at q
        exact rtq q
end DL
namespace DL
open PySem PySem.Spec PyProof.Rows L2
local macro_rules | `(tactic| walk_at "rd") => `(tactic| simp only [startD, List.map, List.replicate, List.length_cons, List.length_nil, List.append_eq, List.append_nil, List.nil_append, List.cons_append, Nat.reduceSub, Nat.reduceAdd, List.getElem?_cons_zero, List.getElem?_cons_succ, List.set_cons_zero, List.set_cons_succ,
  dC, dVar, dOp, dTru, gTru, tru, dChain, dAnd, dOr, dNot, dAndV, dOrV, dNotV, dIf, dNeg, gNeg, dNil, dCons, dTup, dLst, dOwn, gIx, rBin, gAdd, gCmpI, dCall, dCallK, dSeq, dNext, dDrop, dRet, dRetN, dIfS, dName, dGNil, dGCons, dGTup, dSub, gSetL, dAsg, dPar, dPar3, dAug, gIpI, dSeqI, gSeqI, dRngI, gRng1, gRng2, dCB, gAbs, gInt, gMax, gMin, gGcd, gLen, lenD, gIsi, tyM, tyD, dBits, gBits, dMet, gAppend, dPart, dNoPart, dSl, dEnds, gIs, isB, dNever, dFor, dLc, wipeD, dYes,
  sizeLine_eq, Nat.reduceLeDiff, gEq_int, gNe_int, gEq_strs, gNe_strs, gIn_two, gRepr_bl, rs_lst, rs_tup, rs_scr, rs_int, atI_0, atI_1, atI_2, atI_3, atI_4, atI_5, ixN_30, ixN_31, ixN_32, gEq_bl, gNe_bl, decide_eq_true_eq, beq_iff_eq, Bool.not_eq_true', beq_eq_false_iff_ne, decide_eq_false_iff_not, Bool.not_true, Bool.not_false, if_true, if_false, Bool.false_eq_true, ite_true, ite_false, true_and, and_true, ne_eq, Bool.bne_false, Bool.bne_true, reduceCtorEq])
local macro_rules | `(tactic| walk_at "rh") => `(tactic| simp only [*, startD, List.map, List.replicate, List.length_cons, List.length_nil, List.append_eq, List.append_nil, List.nil_append, List.cons_append, Nat.reduceSub, Nat.reduceAdd, List.getElem?_cons_zero, List.getElem?_cons_succ, List.set_cons_zero, List.set_cons_succ,
  dC, dVar, dOp, dTru, gTru, tru, dChain, dAnd, dOr, dNot, dAndV, dOrV, dNotV, dIf, dNeg, gNeg, dNil, dCons, dTup, dLst, dOwn, gIx, rBin, gAdd, gCmpI, dCall, dCallK, dSeq, dNext, dDrop, dRet, dRetN, dIfS, dName, dGNil, dGCons, dGTup, dSub, gSetL, dAsg, dPar, dPar3, dAug, gIpI, dSeqI, gSeqI, dRngI, gRng1, gRng2, dCB, gAbs, gInt, gMax, gMin, gGcd, gLen, lenD, gIsi, tyM, tyD, dBits, gBits, dMet, gAppend, dPart, dNoPart, dSl, dEnds, gIs, isB, dNever, dFor, dLc, wipeD, dYes,
  sizeLine_eq, Nat.reduceLeDiff, gEq_int, gNe_int, gEq_strs, gNe_strs, gIn_two, gRepr_bl, rs_lst, rs_tup, rs_scr, rs_int, atI_0, atI_1, atI_2, atI_3, atI_4, atI_5, ixN_30, ixN_31, ixN_32, gEq_bl, gNe_bl, decide_eq_true_eq, beq_iff_eq, Bool.not_eq_true', beq_eq_false_iff_ne, decide_eq_false_iff_not, Bool.not_true, Bool.not_false, if_true, if_false, Bool.false_eq_true, ite_true, ite_false, true_and, and_true, ne_eq, Bool.bne_false, Bool.bne_true, reduceCtorEq])
local macro_rules | `(tactic| walk_at "kb") => `(tactic| simp only [kb_NoneType_list, kb_bool_list, kb_int_list, kb_str_list, kb_tuple_list, kb_list_list, kb_dict_list, kb_NoneType_int, kb_bool_int, kb_int_int, kb_str_int, kb_tuple_int, kb_list_int, kb_dict_int, kb_NoneType_bool, kb_bool_bool, kb_int_bool, kb_str_bool, kb_tuple_bool, kb_list_bool, kb_dict_bool, kb_NoneType_tuple, kb_bool_tuple, kb_int_tuple, kb_str_tuple, kb_tuple_tuple, kb_list_tuple, kb_dict_tuple, if_true, if_false, Bool.false_eq_true, ite_true, ite_false, Bool.not_true, Bool.not_false])
/-! ### bounds and measures -/
def btw (d : D) (lo : Int) (hi : D) : Bool := match d with
  | .int i => decide (lo ≤ i) && (match hi with | .int h => decide (i ≤ h) | _ => true)
  | _ => false
def sp_is_between : DSp := fun ds M Q _ => ∃ d lo hi T, ds = [d, .int lo, hi] ∧ tyM M d = some T ∧ (hi = .non ∨ ∃ h, hi = .int h) ∧ Q (.bl (btw d lo hi)) M
theorem isW_iff {d : D} : isW d = true ↔ ∃ i, d = .int i := by cases d <;> simp [isW]
theorem rd_is_between : ∀ ds M Q, ds.length = 3 → sp_is_between ds M Q DX0 → t_is_between sp_is_whole (dEnds M Q) (startD 3 ds) M := by
  rintro _ M Q - ⟨d, lo, hi, T, rfl, ht, hh, q⟩
  unfold t_is_between
  walk_at "rd"
  refine ⟨d, T, rfl, ht, ?_⟩
  cases d <;> first | (simp only [isW, Bool.false_eq_true, if_false]; exact rtq q) | skip
  simp only [isW, if_true]
  by_cases h1 : lo ≤ (‹Int› : Int)
  · simp only [h1, if_true]
    rcases hh with rfl | ⟨h, rfl⟩
    · walk_at "rd"
      simp only [btw, h1, decide_true, Bool.and_true] at q
      exact rtq q
    · walk_at "rd"
      simp only [btw, h1, decide_true, Bool.true_and] at q
      exact rtq q
  · simp only [h1, if_false]
    simp only [btw, h1, decide_false, Bool.false_and] at q
    exact rtq q
def isMeas (d : D) : Bool := match d with
  | .int i => decide (5 ≤ i) && (i % 4 == 0 || i % 4 == 1)
  | _ => false
def sp_is_measure : DSp := fun ds M Q _ => ∃ d T, ds = [d] ∧ tyM M d = some T ∧ Q (.bl (isMeas d)) M
theorem rd_is_measure_by : ∀ ds M Q, ds.length = 1 → sp_is_measure ds M Q DX0 → t_is_measure_by sp_is_between (dEnds M Q) (startD 1 ds) M := by
  rintro _ M Q - ⟨d, T, rfl, ht, q⟩
  unfold t_is_measure_by
  walk_at "rd"
  refine ⟨d, 5, .non, T, rfl, ht, .inl rfl, ?_⟩
  cases d <;> first | (simp only [btw, Bool.false_eq_true, if_false]; exact rtq q) | skip
  rename_i i
  simp only [btw, Bool.and_true, decide_eq_true_eq]
  by_cases h1 : 5 ≤ i
  · simp only [h1, if_true]
    refine ⟨(by decide : (4 : Int) ≠ 0), ?_⟩
    simp only [isMeas, h1, decide_true, Bool.true_and] at q
    rw [fmod_pos (by decide)]
    exact rtq q
  · simp only [h1, if_false]
    simp only [isMeas, h1, decide_false, Bool.false_and] at q
    exact rtq q
/-- check_measure of a measure -/
def sp_check_measure : DSp := fun ds M Q _ => ∃ i, ds = [.int i] ∧ isMeas (.int i) = true ∧ Q .non M
theorem rd_check_measure : ∀ ds M Q, ds.length = 1 → sp_check_measure ds M Q DX0 → t_check_measure sp_is_measure (dEnds M Q) (startD 1 ds) M := by
  rintro _ M Q - ⟨i, rfl, h, q⟩
  unfold t_check_measure
  walk_at "rd"
  refine ⟨.int i, _, rfl, rfl, ?_⟩
  rw [h]
  walk_at "rd"
  exact rtq q
/-- check_number of a number that passes -/
def sp_check_number : DSp := fun ds M Q _ => ∃ i lo hi, ds = [.int i, lo, hi] ∧ (lo = .non ∨ ∃ l, lo = .int l ∧ l ≤ i) ∧ (hi = .non ∨ ∃ l, hi = .int l ∧ i ≤ l) ∧ Q .non M
theorem rd_check_number : ∀ ds M Q, ds.length = 3 → sp_check_number ds M Q DX0 → t_check_number sp_is_whole (dEnds M Q) (startD 3 ds) M := by
  rintro _ M Q - ⟨i, lo, hi, rfl, h1, h2, q⟩
  unfold t_check_number
  walk_at "rd"
  refine ⟨.int i, _, rfl, rfl, ?_⟩
  rcases h1 with rfl | ⟨l, rfl, h1⟩ <;> rcases h2 with rfl | ⟨l', rfl, h2⟩
  all_goals (simp only [isW]; walk_at "rd")
  all_goals try simp only [Int.not_lt.mpr h1, if_false]
  all_goals try simp only [Int.not_lt.mpr h2, if_false]
  all_goals exact rtq q

/-! ### root numbers -/
/-- what is_root says -/
def isRootD (m : Int) (d : D) : Bool := match d with
  | .tup [.int x, .int y, .int b] => decide (1 ≤ b) && ((Int.gcd (Int.gcd x y) b : Int) == 1 && (y == 0 || !(isq m * isq m == m)))
  | _ => false
/-- a value that is_root may be asked: no tuple, a tuple of another length, a tuple of three plain data -/
def Rootable (M : Mem) (d : D) : Prop := (∃ T, tyM M d = some T) ∧ (∀ l, d = .tup l → l.length = 3 → ∀ e ∈ l, (fine 40 e = true ∧ ∃ T, tyM M e = some T))
def sp_is_root_by : DSp := fun ds M Q _ => ∃ m d, ds = [.int m, d] ∧ 0 ≤ m ∧ m ≤ BIG ∧ Rootable M d ∧ Q (.bl (isRootD m d)) M
theorem isRootD_notup {m : Int} {d : D} (h : ∀ l, d ≠ .tup l) : isRootD m d = false := by
  cases d <;> first | rfl | exact absurd rfl (h _)
theorem isRootD_len {m : Int} {l : List D} (h : l.length ≠ 3) : isRootD m (.tup l) = false := by
  unfold isRootD
  split
  · rename_i e; cases e; exact absurd rfl h
  · rfl
theorem isRootD_bad {m : Int} {l : List D} (h : ∃ e ∈ l, isW e = false) : isRootD m (.tup l) = false := by
  unfold isRootD
  split
  · rename_i e
    cases e
    obtain ⟨e, he, hw⟩ := h
    simp only [List.mem_cons, List.not_mem_nil, or_false] at he
    rcases he with rfl | rfl | rfl <;> cases hw
  · rfl
theorem len3 {l : List D} (h : l.length = 3) : ∃ a b c, l = [a, b, c] := by
  match l, h with
  | [a, b, c], _ => exact ⟨a, b, c, rfl⟩
/-- the items that are no whole numbers -/
def bads (l : List D) : List D := l.filterMap fun e => if isW e = true then none else some e
theorem bads_fine {n : Nat} {l : List D} (h : ∀ e ∈ l, fine n e = true) : fineAll n (bads l) = true := by
  rw [fineAll_iff]
  intro d hd
  obtain ⟨e, he, hs⟩ := List.mem_filterMap.mp hd
  split at hs
  · cases hs
  · cases hs; exact h _ he
theorem bads_nil {l : List D} (h : (bads l).isEmpty = true) : ∀ e ∈ l, isW e = true := by
  intro e he
  have h0 : bads l = [] := List.isEmpty_iff.mp h
  by_cases hw : isW e = true
  · exact hw
  · have : e ∈ bads l := List.mem_filterMap.mpr ⟨e, he, by rw [if_neg hw]⟩
    rw [h0] at this; cases this
theorem bads_some {l : List D} (h : (bads l).isEmpty = false) : ∃ e ∈ l, isW e = false := by
  cases hb : bads l with
  | nil => rw [hb] at h; cases h
  | cons x xs =>
    have : x ∈ bads l := by rw [hb]; exact List.mem_cons_self
    obtain ⟨e, he, hs⟩ := List.mem_filterMap.mp this
    refine ⟨e, he, ?_⟩
    split at hs
    · cases hs
    · rename_i hw; exact Bool.eq_false_iff.mpr hw
theorem rd_is_root_by : ∀ ds M Q, ds.length = 2 → sp_is_root_by ds M Q DX0 → t_is_root_by sp_is_whole sp_gcd sp_isq (dEnds M Q) (startD 7 ds) M := by
  rintro _ M Q - ⟨m, d, rfl, h0, hB, ⟨⟨T, ht⟩, hr⟩, q⟩
  unfold t_is_root_by
  walk_at "rd"
  by_cases htup : ∃ l, d = .tup l
  · obtain ⟨l, rfl⟩ := htup
    walk_at "rd"
    walk_at "kb"
    by_cases h3 : l.length = 3
    · obtain ⟨a, b, c, rfl⟩ := len3 h3
      have hr' := hr _ rfl rfl
      walk_at "rd"
      rw [if_neg (by decide)]
      refine lcW_pure (fun e => if isW e = true then none else some e) trivial (by rw [sizeLine_eq]; exact (by decide : (3 : Nat) ≤ 16777216)) (fun d hd Y N hy => ?_) ?_
      · walk_at "rd"
        obtain ⟨_, T', hT⟩ := hr' d hd
        refine ⟨d, T', rfl, hT, ?_⟩
        by_cases hw : isW d = true
        · simp only [hw, if_true] at hy ⊢
          exact hy
        · rw [Bool.not_eq_true] at hw
          simp only [hw, Bool.false_eq_true, if_false, Bool.not_false, if_true] at hy ⊢
          exact hy
      · refine gNe_nil' (n := 40) (bads_fine fun e he => (hr' e he).1) ?_
        show if (!(bads [a, b, c]).isEmpty) = true then _ else _
        cases hb : (bads [a, b, c]).isEmpty with
        | false =>
          rw [if_pos (by decide)]
          rw [isRootD_bad (bads_some hb)] at q
          exact rtq q
        | true =>
          rw [if_neg (by decide)]
          have hw := bads_nil hb
          obtain ⟨x, rfl⟩ := isW_iff.mp (hw a (by simp))
          obtain ⟨y, rfl⟩ := isW_iff.mp (hw b (by simp))
          obtain ⟨z, rfl⟩ := isW_iff.mp (hw c (by simp))
          walk_at "rd"
          simp only [isRootD] at q
          by_cases hz : z < 1
          · rw [if_pos hz]
            have : ¬ 1 ≤ z := by omega
            simp only [this, decide_false, Bool.false_and] at q
            exact rtq q
          · rw [if_neg hz]
            have hz' : 1 ≤ z := by omega
            refine ⟨x, y, rfl, _, z, rfl, ?_⟩
            simp only [hz', decide_true, Bool.true_and] at q
            walk_at "rd"
            by_cases hg : (Int.gcd (Int.gcd x y : Int) z : Int) = 1
            · simp only [hg, not_true, if_false]
              have hs : Sm (isq m) := sm_big (by have := isq_nn m; omega) (Int.le_trans (isq_le_self h0) hB)
              refine ⟨m, rfl, h0, hB, ?_⟩
              simp only [hg, BEq.rfl, Bool.true_and] at q
              by_cases hy : y = 0
              · simp only [hy, if_true]
                simp only [hy, BEq.rfl, Bool.true_or] at q
                exact rtq q
              · have hy' : (y == 0) = false := by simpa using hy
                simp only [hy, if_false]
                simp only [hy', Bool.false_or] at q
                exact ⟨⟨hs, hs⟩, rtq q⟩
            · simp only [hg, not_false_eq_true, if_true]
              have hg' : ((Int.gcd (Int.gcd x y : Int) z : Int) == 1) = false := by simpa using hg
              simp only [hg', Bool.false_and] at q
              exact rtq q
    · have h3' : ¬ ((l.length : Nat) : Int) = 3 := by omega
      simp only [h3', not_false_eq_true, if_true]
      rw [isRootD_len h3] at q
      exact rtq q
  · have q' : Q (.bl false) M := by rwa [isRootD_notup fun l e => htup ⟨l, e⟩] at q
    cases d <;> first | exact absurd ⟨_, rfl⟩ htup | (cases ht; done) | skip
    all_goals walk_at "rd"
    case own k =>
      unfold tyM at ht
      dsimp only at ht
      split at ht
      · rename_i ds hk
        simp only [hk]
        walk_at "kb"
        exact rtq q'
      · cases ht
    all_goals walk_at "kb"
    all_goals exact rtq q'
/-! ### the least form of a root number -/
def isSq (m : Int) : Prop := isq m * isq m = m
instance (m : Int) : Decidable (isSq m) := inferInstanceAs (Decidable (_ = _))
def rnX (m x y : Int) : Int := if isSq m then x + y * isq m else x
def rnY (m y : Int) : Int := if isSq m then 0 else y
def rnC (m x y b : Int) : Int := if b < 0 then 0 - (Int.gcd (Int.gcd (rnX m x y) (rnY m y) : Int) b : Int) else (Int.gcd (Int.gcd (rnX m x y) (rnY m y) : Int) b : Int)
def rootN (m x y b : Int) : D := .tup [.int ((rnX m x y).fdiv (rnC m x y b)), .int ((rnY m y).fdiv (rnC m x y b)), .int (b.fdiv (rnC m x y b))]
def sp_root_by : DSp := fun ds M Q _ => ∃ m x y b : Int, ds = [.int m, .int x, .int y, .int b] ∧ 0 ≤ m ∧ m ≤ BIG ∧ -BIG ≤ y ∧ y ≤ BIG ∧ -BIG ≤ b ∧ b ≤ BIG ∧ b ≠ 0 ∧ Q (rootN m x y b) M
theorem gcd_bound {g b : Int} (hb : b ≠ 0) : (1 : Int) ≤ Int.gcd g b ∧ (Int.gcd g b : Int) ≤ b.natAbs := by
  have h1 : 0 < Int.gcd g b := Int.gcd_pos_of_ne_zero_right g hb
  have h2 : Int.gcd g b ≤ b.natAbs := Nat.le_of_dvd (by omega) (Int.gcd_dvd_natAbs_right g b)
  omega
theorem rnC_ok {m x y b : Int} (hb : b ≠ 0) (h1 : -BIG ≤ b) (h2 : b ≤ BIG) (a : Int) : CDiv a (rnC m x y b) := by
  have := gcd_bound (g := (Int.gcd (rnX m x y) (rnY m y) : Int)) hb
  unfold rnC
  split <;> exact cdiv_big (by omega) (by omega) (by omega)
theorem rd_root_by : ∀ ds M Q, ds.length = 4 → sp_root_by ds M Q DX0 → t_root_by sp_isq sp_gcd (dEnds M Q) (startD 6 ds) M := by
  rintro _ M Q - ⟨m, x, y, b, rfl, h0, hB, y1, y2, b1, b2, hb, q⟩
  unfold t_root_by
  walk_at "rd"
  have hs : Sm (isq m) := sm_big (by have := isq_nn m; omega) (Int.le_trans (isq_le_self h0) hB)
  have hy : Sm y := sm_big y1 y2
  have cd := fun a => rnC_ok (m := m) (x := x) (y := y) hb b1 b2 a
  unfold rootN at q
  refine ⟨m, rfl, h0, hB, ⟨hs, hs⟩, ?_⟩
  by_cases hm : isSq m
  · rw [if_pos (show isq m * isq m = m from hm)]
    refine ⟨⟨hy, hs⟩, ?_⟩
    have ex : rnX m x y = x + y * isq m := if_pos hm
    have ey : rnY m y = 0 := if_pos hm
    refine ⟨_, _, rfl, _, _, rfl, ?_⟩
    rw [ex, ey] at q
    dsimp only
    by_cases h : b < 0
    · have ec : rnC m x y b = 0 - (Int.gcd (Int.gcd (x + y * isq m) 0 : Int) b : Int) := by unfold rnC; rw [if_pos h, ex, ey]
      rw [if_pos h, ← ec]
      exact ⟨cd _, cd _, cd _, rtq q⟩
    · have ec : rnC m x y b = (Int.gcd (Int.gcd (x + y * isq m) 0 : Int) b : Int) := by unfold rnC; rw [if_neg h, ex, ey]
      rw [if_neg h, ← ec]
      exact ⟨cd _, cd _, cd _, rtq q⟩
  · rw [if_neg (show ¬ isq m * isq m = m from hm)]
    have ex : rnX m x y = x := if_neg hm
    have ey : rnY m y = y := if_neg hm
    refine ⟨_, _, rfl, _, _, rfl, ?_⟩
    dsimp only
    by_cases h : b < 0
    · have ec : rnC m x y b = 0 - (Int.gcd (Int.gcd x y : Int) b : Int) := by unfold rnC; rw [if_pos h, ex, ey]
      rw [if_pos h, ← ec]
      rw [ex, ey] at q
      exact ⟨cd _, cd _, cd _, rtq q⟩
    · have ec : rnC m x y b = (Int.gcd (Int.gcd x y : Int) b : Int) := by unfold rnC; rw [if_neg h, ex, ey]
      rw [if_neg h, ← ec]
      rw [ex, ey] at q
      exact ⟨cd _, cd _, cd _, rtq q⟩
def sp_is_root : DSp := fun ds M Q _ => ∃ m d, ds = [.int m, d] ∧ isMeas (.int m) = true ∧ m ≤ BIG ∧ Rootable M d ∧ Q (.bl (isRootD m d)) M
theorem meas_ge {m : Int} (h : isMeas (.int m) = true) : 5 ≤ m := by
  simp only [isMeas, Bool.and_eq_true, decide_eq_true_eq] at h
  exact h.1
theorem rd_is_root : ∀ ds M Q, ds.length = 2 → sp_is_root ds M Q DX0 → t_is_root sp_check_measure sp_is_root_by (dEnds M Q) (startD 2 ds) M := by
  rintro _ M Q - ⟨m, d, rfl, hm, hB, hr, q⟩
  unfold t_is_root
  walk_at "rd"
  exact ⟨m, rfl, hm, m, d, rfl, by have := meas_ge hm; omega, hB, hr, rtq q⟩
def sp_root_number : DSp := fun ds M Q _ => ∃ m x y b : Int, ds = [.int m, .int x, .int y, .int b] ∧ isMeas (.int m) = true ∧ m ≤ BIG ∧ -BIG ≤ y ∧ y ≤ BIG ∧ -BIG ≤ b ∧ b ≤ BIG ∧ b ≠ 0 ∧ Q (rootN m x y b) M
theorem rd_root_number : ∀ ds M Q, ds.length = 4 → sp_root_number ds M Q DX0 → t_root_number sp_check_measure sp_check_number sp_root_by (dEnds M Q) (startD 5 ds) M := by
  rintro _ M Q - ⟨m, x, y, b, rfl, hm, hB, y1, y2, b1, b2, hb, q⟩
  unfold t_root_number
  walk_at "rd"
  refine ⟨m, rfl, hm, ?_⟩
  refine ⟨fun i r M' => M' = M ∧ ∃ n, r = [some (.int m), some (.int x), some (.int y), some (.int b), n], ⟨rfl, none, rfl⟩, ?_⟩
  rintro i r M' ⟨rfl, n, rfl⟩
  refine ⟨trivial, fun _ => ?_, fun d hd => ?_⟩
  · walk_at "rd"
    rw [if_pos hb]
    refine ⟨b, _, _, rfl, .inl rfl, .inl rfl, ?_⟩
    exact ⟨m, x, y, b, rfl, by have := meas_ge hm; omega, hB, y1, y2, b1, b2, hb, rtq q⟩
  · walk_at "rd"
    have : ∃ j, d = .int j := by
      have := List.mem_of_getElem? hd
      simp only [List.mem_cons, List.not_mem_nil, or_false] at this
      rcases this with rfl | rfl <;> exact ⟨_, rfl⟩
    obtain ⟨j, rfl⟩ := this
    exact ⟨j, _, _, rfl, .inl rfl, .inl rfl, rfl, _, rfl⟩
end DL
namespace DL
open PySem PySem.Spec PyProof.Rows L2
local macro_rules | `(tactic| walk_at "rd") => `(tactic| simp only [startD, List.map, List.replicate, List.length_cons, List.length_nil, List.append_eq, List.append_nil, List.nil_append, List.cons_append, Nat.reduceSub, Nat.reduceAdd, List.getElem?_cons_zero, List.getElem?_cons_succ, List.set_cons_zero, List.set_cons_succ,
  dC, dVar, dOp, dTru, gTru, tru, dChain, dAnd, dOr, dNot, dAndV, dOrV, dNotV, dIf, dNeg, gNeg, dNil, dCons, dTup, dLst, dOwn, gIx, rBin, gAdd, gCmpI, dCall, dCallK, dSeq, dNext, dDrop, dRet, dRetN, dIfS, dName, dGNil, dGCons, dGTup, dSub, gSetL, dAsg, dPar, dPar3, dAug, gIpI, dSeqI, gSeqI, dRngI, gRng1, gRng2, dCB, gAbs, gInt, gMax, gMin, gGcd, gLen, lenD, gIsi, tyM, tyD, dBits, gBits, dMet, gAppend, dPart, dNoPart, dSl, dEnds, gIs, isB, dNever, dFor, dLc, wipeD, dYes,
  sizeLine_eq, Nat.reduceLeDiff, gEq_int, gNe_int, gEq_strs, gNe_strs, gIn_two, gRepr_bl, rs_lst, rs_tup, rs_scr, rs_int, atI_0, atI_1, atI_2, atI_3, atI_4, atI_5, ixN_30, ixN_31, ixN_32, gEq_bl, gNe_bl, decide_eq_true_eq, beq_iff_eq, Bool.not_eq_true', beq_eq_false_iff_ne, decide_eq_false_iff_not, Bool.not_true, Bool.not_false, if_true, if_false, Bool.false_eq_true, ite_true, ite_false, true_and, and_true, ne_eq, Bool.bne_false, Bool.bne_true, reduceCtorEq])
local macro_rules | `(tactic| walk_at "rh") => `(tactic| simp only [*, startD, List.map, List.replicate, List.length_cons, List.length_nil, List.append_eq, List.append_nil, List.nil_append, List.cons_append, Nat.reduceSub, Nat.reduceAdd, List.getElem?_cons_zero, List.getElem?_cons_succ, List.set_cons_zero, List.set_cons_succ,
  dC, dVar, dOp, dTru, gTru, tru, dChain, dAnd, dOr, dNot, dAndV, dOrV, dNotV, dIf, dNeg, gNeg, dNil, dCons, dTup, dLst, dOwn, gIx, rBin, gAdd, gCmpI, dCall, dCallK, dSeq, dNext, dDrop, dRet, dRetN, dIfS, dName, dGNil, dGCons, dGTup, dSub, gSetL, dAsg, dPar, dPar3, dAug, gIpI, dSeqI, gSeqI, dRngI, gRng1, gRng2, dCB, gAbs, gInt, gMax, gMin, gGcd, gLen, lenD, gIsi, tyM, tyD, dBits, gBits, dMet, gAppend, dPart, dNoPart, dSl, dEnds, gIs, isB, dNever, dFor, dLc, wipeD, dYes,
  sizeLine_eq, Nat.reduceLeDiff, gEq_int, gNe_int, gEq_strs, gNe_strs, gIn_two, gRepr_bl, rs_lst, rs_tup, rs_scr, rs_int, atI_0, atI_1, atI_2, atI_3, atI_4, atI_5, ixN_30, ixN_31, ixN_32, gEq_bl, gNe_bl, decide_eq_true_eq, beq_iff_eq, Bool.not_eq_true', beq_eq_false_iff_ne, decide_eq_false_iff_not, Bool.not_true, Bool.not_false, if_true, if_false, Bool.false_eq_true, ite_true, ite_false, true_and, and_true, ne_eq, Bool.bne_false, Bool.bne_true, reduceCtorEq])
local macro_rules | `(tactic| walk_at "kb") => `(tactic| simp only [kb_NoneType_list, kb_bool_list, kb_int_list, kb_str_list, kb_tuple_list, kb_list_list, kb_dict_list, kb_NoneType_int, kb_bool_int, kb_int_int, kb_str_int, kb_tuple_int, kb_list_int, kb_dict_int, kb_NoneType_bool, kb_bool_bool, kb_int_bool, kb_str_bool, kb_tuple_bool, kb_list_bool, kb_dict_bool, kb_NoneType_tuple, kb_bool_tuple, kb_int_tuple, kb_str_tuple, kb_tuple_tuple, kb_list_tuple, kb_dict_tuple, if_true, if_false, Bool.false_eq_true, ite_true, ite_false, Bool.not_true, Bool.not_false])
/-! ### the law's own draws -/
theorem sm_of {i : Int} (n : Nat) (h1 : -(2 ^ n : Int) < i) (h2 : i < 2 ^ n) (hn : n ≤ 400000 := by decide) : Sm i := by
  refine Sm.of n ?_ hn
  have e : ((2 ^ n : Nat) : Int) = (2 : Int) ^ n := by rw [Int.natCast_pow]; rfl
  omega
theorem fm_range {a b : Int} (h : 0 < b) : 0 ≤ a.fmod b ∧ a.fmod b < b := by
  rw [fmod_pos h]
  exact ⟨Int.emod_nonneg _ (by omega), Int.emod_lt_of_pos _ h⟩
def P31 : Int := 2147483648
def P40 : Int := 1099511627776
def sp_hash : DSp := fun ds M Q _ => ∃ s c : Int, ds = [.int s, .int c] ∧ 0 ≤ s ∧ s < P31 ∧ 0 ≤ c ∧ c ≤ P40 ∧ ∀ v, 0 ≤ v → v < P31 → Q (.int v) M
theorem mul_lt_pow {a b : Int} {m n : Nat} (a0 : 0 ≤ a) (ha : a < 2 ^ m) (b0 : 0 ≤ b) (hb : b < 2 ^ n) : 0 ≤ a * b ∧ a * b < 2 ^ (m + n) := by
  refine ⟨Int.mul_nonneg a0 b0, ?_⟩
  rw [Int.pow_add]
  exact Int.mul_lt_mul' (Int.le_of_lt ha) hb b0 (Int.pow_pos (by decide))
theorem rd_l_hash_9cde : ∀ ds M Q, ds.length = 2 → sp_hash ds M Q DX0 → t_l_hash_9cde (dEnds M Q) (startD 3 ds) M := by
  rintro _ M Q - ⟨s, c, rfl, s0, s1, c0, c1, q⟩
  unfold P31 P40 at *
  unfold t_l_hash_9cde
  walk_at "rd"
  have ss : Sm s := sm_of 32 (by omega) (by omega)
  have sc : Sm c := sm_of 42 (by omega) (by omega)
  have hm : ∀ a : Int, 0 ≤ a.fmod 2147483629 ∧ a.fmod 2147483629 < 2147483629 := fun a => fm_range (by decide)
  have k1 : Sm (16777259 * c) := sm_of 72 (by omega) (by omega)
  refine ⟨⟨ss, sm_of 32 (by decide) (by decide)⟩, ⟨sm_of 32 (by decide) (by decide), sc⟩, ⟨k1, sc⟩, ⟨sm_of 32 (by decide) (by decide), sc⟩, (by decide : (2147483629 : Int) ≠ 0), ?_⟩
  generalize hv : Int.fmod _ 2147483629 = v
  have v1 : 0 ≤ v ∧ v < 2147483629 := by rw [← hv]; exact hm _
  have sv : Sm v := sm_of 32 (by omega) (by omega)
  refine ⟨⟨sv, sv⟩, ⟨sm_of 32 (by decide) (by decide), sc⟩, (by decide : (2147483587 : Int) ≠ 0), ?_⟩
  generalize hw : Int.fmod _ 2147483587 = w
  have w1 : 0 ≤ w ∧ w < 2147483587 := by rw [← hw]; exact fm_range (by decide)
  refine ⟨⟨sm_of 32 (by omega) (by omega), sm_of 32 (by decide) (by decide)⟩, (by decide : (2147483647 : Int) ≠ 0), ?_⟩
  have r1 : 0 ≤ (w * 69069).fmod 2147483647 ∧ (w * 69069).fmod 2147483647 < 2147483647 := fm_range (by decide)
  exact rtq (q _ r1.1 (by omega))
/-- cell k is a generator that has counted n, at most -/
def Gn (k : Nat) (n : Int) (M : Mem) : Prop := ∃ a s c : Int, M[k]? = some (.lst [.int a, .int s, .int c]) ∧ 0 ≤ s ∧ s < P31 ∧ 0 ≤ c ∧ c ≤ n
/-- cell k alone has changed -/
def Gst (k : Nat) (n : Int) (M M' : Mem) : Prop := M'.length = M.length ∧ Gn k n M' ∧ ∀ i, i ≠ k → M'[i]? = M[i]?
theorem Gn.le {k : Nat} {n m : Int} {M : Mem} (h : Gn k n M) (hn : n ≤ m) : Gn k m M := by
  obtain ⟨a, s, c, h1, h2, h3, h4, h5⟩ := h
  exact ⟨a, s, c, h1, h2, h3, h4, by omega⟩
theorem Gst.refl {k : Nat} {n : Int} {M : Mem} (h : Gn k n M) : Gst k n M M := ⟨rfl, h, fun _ _ => rfl⟩
theorem Gst.trans {k : Nat} {n m : Int} {M M' M'' : Mem} (h : Gst k n M M') (g : Gst k m M' M'') : Gst k m M M'' :=
  ⟨g.1.trans h.1, g.2.1, fun i hi => (g.2.2 i hi).trans (h.2.2 i hi)⟩
theorem Gst.le {k : Nat} {n m : Int} {M M' : Mem} (h : Gst k n M M') (hn : n ≤ m) : Gst k m M M' := ⟨h.1, h.2.1.le hn, h.2.2⟩
theorem Gst.set {k : Nat} {n : Int} {M : Mem} {a s c : Int} (hk : k < M.length) (h2 : 0 ≤ s) (h3 : s < P31) (h4 : 0 ≤ c) (h5 : c ≤ n) : Gst k n M (M.set k (.lst [.int a, .int s, .int c])) :=
  ⟨List.length_set, ⟨a, s, c, List.getElem?_set_self hk, h2, h3, h4, h5⟩, fun _ hi => List.getElem?_set_ne (Ne.symm hi)⟩
/-- a def that has changed the generator alone -/
theorem Gst.rtq {k : Nat} {n : Int} {M M' : Mem} {Q : DQ} {d : D} (h : Gst k n M M') (q : Q d M') (hb : below M'.length d = true := by rfl) : Rtq M Q d M' := by
  refine rtqC q (Nat.le_of_eq h.1.symm) hb fun i c hc => ?_
  by_cases hi : i = k
  · subst hi
    obtain ⟨a, s, c', e, _⟩ := h.2.1
    rw [e] at hc
    cases hc
    exact .inr rfl
  · rw [h.2.2 i hi] at hc
    exact .inl hc
def sp_random : DSp := fun ds M Q _ => ∃ (k : Nat) (b n : Int), ds = [.own k, .int b] ∧ 0 < b ∧ b < 2 ^ 900 ∧ Gn k n M ∧ n ≤ P40 - 40 ∧ ∀ v M', 0 ≤ v → v < b → Gst k (n + 40) M M' → Q (.int v) M'
theorem bits_le {b : Int} {n : Nat} (h0 : 0 < b) (h : b < 2 ^ n) : Builtin.Int.intBits b ≤ n := by
  unfold Builtin.Int.intBits
  rw [if_neg (by simp; omega)]
  have h1 : b.natAbs < 2 ^ n := by
    have e : ((2 ^ n : Nat) : Int) = (2 : Int) ^ n := by rw [Int.natCast_pow]; rfl
    omega
  have := (Nat.log2_lt (by omega)).mpr h1
  omega
theorem rd_l_random_7821 : ∀ ds M Q, ds.length = 2 → sp_random ds M Q DX0 → t_l_random_7821 sp_hash (dEnds M Q) (startD 4 ds) M := by
  rintro _ M Q - ⟨k, b, n, rfl, b0, b1, ⟨a, s, c, hk, s0, s1, c0, c1⟩, hn, q⟩
  have kl : k < M.length := (List.getElem?_eq_some_iff.mp hk).1
  unfold t_l_random_7821
  walk_at "rd"
  have e0 : res M (.own k) = .lst [.int a, .int s, .int c] := by unfold res; dsimp only; rw [hk]
  simp only [e0, hk]
  walk_at "rd"
  by_cases ha : 0 < a
  · rw [if_pos ha]
    have := fm_range (a := a) b0
    refine ⟨(by omega : b ≠ 0), ⟨by omega, Nat.lt_of_lt_of_le (log2_of 900 (by
      have e : ((2 ^ 900 : Nat) : Int) = (2 : Int) ^ 900 := by rw [Int.natCast_pow]; rfl
      omega) (by decide)) (by decide)⟩, ?_⟩
    exact (Gst.set kl s0 s1 c0 (by omega)).rtq (q _ _ this.1 this.2 (Gst.set kl s0 s1 c0 (by omega)))
  · rw [if_neg ha]
    have hb := bits_le b0 b1
    generalize hbits : Builtin.Int.intBits b = bits at hb
    have ef : ((bits : Nat) : Int).fdiv 30 = (bits / 30 : Nat) := by rw [fdiv_pos (by decide)]; omega
    rw [ef]
    refine ⟨⟨by decide, by decide⟩, ⟨by omega, by omega⟩, ?_⟩
    have eT : (1 + ((bits / 30 : Nat) : Int)).toNat = 1 + bits / 30 := by omega
    rw [eT]
    generalize hT : 1 + bits / 30 = T
    have hT1 : T ≤ 31 := by omega
    refine ⟨fun i r M' => i ≤ T ∧ Gst k (n + i) M M' ∧ ∃ dr tn, r = [some (.own k), some (.int b), some (.int dr), tn] ∧ 0 ≤ dr ∧ dr < 2 ^ (32 * i), ⟨by omega, ⟨rfl, ⟨a, s, c, hk, s0, s1, c0, by omega⟩, fun _ _ => rfl⟩, 0, _, rfl, by decide, by decide⟩, ?_⟩
    rintro i r M' ⟨hi, hg, dr, tn, rfl, d0, d1⟩
    refine ⟨trivial, fun hl => ?_, fun d hd => ?_⟩
    · walk_at "rd"
      have := fm_range (a := dr) b0
      exact ⟨(by omega : b ≠ 0), hg.rtq (q _ _ this.1 this.2 (hg.le (by omega)))⟩
    · obtain ⟨hi2, rfl⟩ := rng_get.mp hd
      obtain ⟨a', s', c', hk', s0', s1', c0', c1'⟩ := hg.2.1
      have kl' : k < M'.length := (List.getElem?_eq_some_iff.mp hk').1
      have e1 : res M' (.own k) = .lst [.int a', .int s', .int c'] := by unfold res; dsimp only; rw [hk']
      walk_at "rd"
      simp only [e1, hk']
      walk_at "rd"
      have e2 : res (M'.set k (.lst [.int a', .int s', .int (c' + 1)])) (.own k) = .lst [.int a', .int s', .int (c' + 1)] := by unfold res; dsimp only; rw [List.getElem?_set_self kl']
      simp only [e2]
      walk_at "rd"
      have sd : Sm dr := sm_of (32 * i) (by have := Int.pow_pos (n := 2) (m := 32 * i) (by decide); omega) d1 (by omega)
      unfold P40 at hn
      refine ⟨⟨sd, sm_of 32 (by decide) (by decide)⟩, s', c' + 1, rfl, s0', s1', by omega, by unfold P40; omega, fun v v0 v1 => ?_⟩
      refine ⟨by omega, hg.trans (Gst.set kl' s0' s1' (by omega) (by omega)), _, _, rfl, by omega, ?_⟩
      unfold P31 at v1
      have e3 : (2 : Int) ^ (32 * (i + 1)) = 2 ^ (32 * i) * 4294967296 := by rw [Nat.mul_add, Int.pow_add]; rfl
      rw [e3]
      omega
def sp_cell : DSp := fun ds M Q _ => ∃ (ns : List Int) (i : Int), ds = [.scr ns, .int i] ∧ 0 ≤ i ∧ ∀ v, Q (.int v) M
theorem rd_l_cell_cf3b : ∀ ds M Q, ds.length = 2 → sp_cell ds M Q DX0 → t_l_cell_cf3b (dEnds M Q) (startD 2 ds) M := by
  rintro _ M Q - ⟨ns, i, rfl, i0, q⟩
  unfold t_l_cell_cf3b
  walk_at "rd"
  by_cases hi : i < (ns.length : Nat)
  · rw [if_pos hi]
    have e : i = (i.toNat : Nat) := by omega
    have hl : i.toNat < ns.length := by omega
    rw [e, atI_of _ hl, List.getElem?_eq_getElem hl]
    exact rtq (q _)
  · rw [if_neg hi]
    obtain ⟨xs, ex⟩ := cut_map ns none (some 1)
    unfold gSlL
    walk_at "rd"
    rw [ex]
    unfold gSum
    walk_at "rd"
    rw [intsD_map]
    exact ⟨(by decide : (1000003 : Int) ≠ 0), rtq (q _)⟩
def sp_generator : DSp := fun ds M Q _ => ∃ (ns : List Int) (i : Int), ds = [.scr ns, .int i] ∧ 0 ≤ i ∧ i < P31 ∧ ∀ M', M'.length = M.length + 1 → Gn M.length (1000 * i) M' → (∀ j, j < M.length → M'[j]? = M[j]?) → Q (.own M.length) M'
theorem rd_l_generator_b324 : ∀ ds M Q, ds.length = 2 → sp_generator ds M Q DX0 → t_l_generator_b324 sp_cell (dEnds M Q) (startD 3 ds) M := by
  rintro _ M Q - ⟨ns, i, rfl, i0, i1, q⟩
  unfold t_l_generator_b324
  walk_at "rd"
  refine ⟨ns, i, rfl, i0, fun v => ?_⟩
  dsimp only
  have cp : CPow 10 18 ∧ CPow 10 60 ∧ CPow (10 ^ Int.toNat 60) 10 := by refine ⟨?_, ?_, ?_⟩ <;> (unfold CPow; decide)
  have hi : Sm i := by unfold P31 at i1; exact sm_of 32 (by omega) (by omega)
  refine ⟨cp.1, cp.2.1, cp.2.2, ?_, (by decide : (2147483647 : Int) ≠ 0), ⟨Sm.of 20 (by decide), hi⟩, ?_⟩
  · have h1 : (0 : Int) < (10 ^ Int.toNat 60) ^ Int.toNat 10 := Int.pow_pos (Int.pow_pos (by decide))
    exact fun e => by rw [e] at h1; exact absurd h1 (by decide)
  · have g := fm_range (a := v) (b := 2147483647) (by decide)
    have hl : ∀ c : Own, (M ++ [c])[M.length]? = some c := fun c => by rw [List.getElem?_append_right (Nat.le_refl _), Nat.sub_self]; rfl
    refine rtqC (q _ (by simp) ⟨_, _, _, hl _, g.1, by unfold P31; omega, by omega, Int.le_refl _⟩ fun j hj => List.getElem?_append_left hj) (by simp) (by simp only [below]; exact decide_eq_true (by simp)) fun j c hc => ?_
    by_cases hj : j < M.length
    · rw [List.getElem?_append_left hj] at hc; exact .inl hc
    · have hj2 : j < M.length + 1 := by
        have := (List.getElem?_eq_some_iff.mp hc).1
        simpa using this
      have e : j = M.length := by omega
      subst e
      rw [hl] at hc
      cases hc
      exact .inr rfl
theorem rd_l_common_6be5 : ∀ ds M Q, ds.length = 2 → sp_gcd ds M Q DX0 → t_l_common_6be5 (dEnds M Q) (startD 4 ds) M := by
  rintro _ M Q - ⟨a, b, rfl, q⟩
  unfold t_l_common_6be5
  walk_at "rd"
  refine dwhile_of (fun n r M' => ∃ l h : Int, r = [some (.int a), some (.int b), some (.int l), some (.int h)] ∧ M' = M ∧ 0 ≤ l ∧ 0 ≤ h ∧ Int.gcd l h = Int.gcd a b ∧ n = h.toNat) _ ⟨_, _, rfl, rfl, ?_, ?_, gcd_abs a b, rfl⟩ ?_
  · split <;> omega
  · split <;> omega
  · rintro n r M' ⟨l, h, rfl, rfl, hl, hh, hg, rfl⟩
    walk_at "rd"
    split
    · rename_i h0
      have hp : 0 < h := by omega
      refine ⟨h0, _, ?_, h, l.fmod h, rfl, hh, ?_, (gcd_step hl hp).trans hg, rfl⟩
      · have := fm_range (a := l) hp
        omega
      · exact (fm_range (a := l) hp).1
    · rename_i h0
      have h0 : h = 0 := by omega
      subst h0
      rw [← hg, gcd_end hl] at q
      exact rtq q
theorem rd_l_root_d754 : ∀ ds M Q, ds.length = 1 → sp_isq ds M Q DX0 → t_l_root_d754 (dEnds M Q) (startD 4 ds) M := by
  rintro _ M Q - ⟨n, rfl, h0, hB, q⟩
  unfold t_l_root_d754
  walk_at "rd"
  refine dwhile_of (fun m r M' => ∃ f : Int, r = [some (.int n), some (.int 0), some (.int f), none] ∧ M' = M ∧ 1 ≤ f ∧ f ≤ 2 * n + 1 ∧ m = (2 * n + 2 - f).toNat) _ ⟨1, rfl, rfl, by omega, by omega, rfl⟩ ?_
  rintro m r M' ⟨f, rfl, rfl, hf, hf2, rfl⟩
  walk_at "rd"
  have sf : Sm f := sm_big8 (by have := big_ge 1; omega) (by have := big_ge 1; omega)
  refine ⟨⟨sf, sf⟩, ?_⟩
  split
  · rename_i hc
    have : f * 1 ≤ f * f := Int.mul_le_mul_of_nonneg_left hf (by omega)
    exact ⟨⟨Sm.of 4 (by decide), sf⟩, _, by omega, 2 * f, rfl, by omega, by omega, rfl⟩
  · rename_i hc
    refine dwhile_of (fun m r M'' => ∃ lo hi : Int, ∃ mi, r = [some (.int n), some (.int lo), some (.int hi), mi] ∧ M'' = M' ∧ 0 ≤ lo ∧ lo < hi ∧ hi ≤ 2 * n + 1 ∧ lo * lo ≤ n ∧ n < hi * hi ∧ m = (hi - lo).toNat) _ ⟨0, f, none, rfl, rfl, by omega, by omega, hf2, by omega, by omega, rfl⟩ ?_
    rintro m r M'' ⟨lo, hi, mi, rfl, rfl, g1, g2, g3, g4, g5, rfl⟩
    walk_at "rd"
    split
    · rename_i hlt
      have e2 : (lo + hi).fdiv 2 = (lo + hi) / 2 := fdiv_pos (by decide)
      rw [e2]
      have sm : Sm ((lo + hi) / 2) := sm_big8 (by have := big_ge 1; omega) (by have := big_ge 1; omega)
      refine ⟨⟨by decide, by decide⟩, ⟨sm, sm⟩, ?_⟩
      split
      · rename_i hm
        exact ⟨_, by omega, (lo + hi) / 2, hi, _, rfl, by omega, by omega, by omega, hm, g5, rfl⟩
      · rename_i hm
        exact ⟨_, by omega, lo, (lo + hi) / 2, _, rfl, by omega, by omega, by omega, g4, by omega, rfl⟩
    · rename_i hge
      have e : hi = lo + 1 := by omega
      subst e
      have e : isq n = lo := isq_uni (by omega) g4 g5
      rw [e] at q
      exact rtq q
def P400 : Int := 2 ^ 400
theorem p400_big : P400 ≤ BIG := by
  unfold P400 BIG BIGN
  have h : (2 : Nat) ^ 400 ≤ 2 ^ 4000 := Nat.pow_le_pow_right (by decide) (by decide)
  have e : ((2 ^ 400 : Nat) : Int) = (2 : Int) ^ 400 := by rw [Int.natCast_pow]; rfl
  omega
theorem p400_900 : P400 < 2 ^ 900 := by
  unfold P400
  have h : (2 : Nat) ^ 400 < 2 ^ 900 := Nat.pow_lt_pow_right (by decide) (by decide)
  have e : ((2 ^ 400 : Nat) : Int) = (2 : Int) ^ 400 := by rw [Int.natCast_pow]; rfl
  have e2 : ((2 ^ 900 : Nat) : Int) = (2 : Int) ^ 900 := by rw [Int.natCast_pow]; rfl
  omega
theorem p400_ten {i : Nat} (h : i ≤ 110) : 5 * (10 : Int) ^ i + 10 ≤ P400 := by
  have h1 : (10 : Int) ^ i ≤ 10 ^ 110 := by
    have h0 : (10 : Nat) ^ i ≤ 10 ^ 110 := Nat.pow_le_pow_right (by decide) h
    have e : ((10 ^ i : Nat) : Int) = (10 : Int) ^ i := by rw [Int.natCast_pow]; rfl
    have e2 : ((10 ^ 110 : Nat) : Int) = (10 : Int) ^ 110 := by rw [Int.natCast_pow]; rfl
    omega
  have h2 : 5 * (10 : Int) ^ 110 + 10 ≤ P400 := by unfold P400; decide +kernel
  omega
def sp_lmeasure : DSp := fun ds M Q _ => ∃ (k : Nat) (f n : Int), ds = [.own k, .int f] ∧ 0 < f ∧ f ≤ 100 ∧ Gn k n M ∧ n ≤ P40 - 400 ∧ ∀ m M', isMeas (.int m) = true → m ≤ 10 ^ (f.toNat + 1) → Gst k (n + 160) M M' → Q (.int m) M'
theorem rd_l_measure_0db7 : ∀ ds M Q, ds.length = 2 → sp_lmeasure ds M Q DX0 → t_l_measure_0db7 sp_random sp_isq (dEnds M Q) (startD 6 ds) M := by
  rintro _ M Q - ⟨k, f, n, rfl, f0, f1, hg, hn, q⟩
  unfold t_l_measure_0db7
  walk_at "rd"
  refine ⟨k, f, n, rfl, f0, by have := p400_900; have := p400_ten (i := 3) (by decide); omega, hg, by omega, fun v M1 v0 v1 g1 => ?_⟩
  walk_at "rd"
  refine ⟨⟨by omega, by omega⟩, ?_⟩
  have eT : (1 + v).toNat ≤ 100 := by omega
  have eF : (1 + v).toNat ≤ f.toNat := by omega
  generalize hT : (1 + v).toNat = T at eT eF
  refine ⟨fun i r M' => i ≤ T ∧ M' = M1 ∧ ∃ b tn, r = [some (.own k), some (.int f), some (.int b), tn, none, none] ∧ 5 ≤ b ∧ b ≤ 5 * 10 ^ i, ⟨by omega, rfl, 5, _, rfl, by omega, by decide⟩, ?_⟩
  rintro i r M' ⟨hi, rfl, b, tn, rfl, b5, b1⟩
  have hp := p400_ten (i := i) (by omega)
  refine ⟨trivial, fun hl => ?_, fun d hd => ?_⟩
  · walk_at "rd"
    refine ⟨k, b, n + 40, rfl, by omega, by have := p400_900; omega, g1.2.1, by omega, fun v2 M2 v20 v21 g2 => ?_⟩
    walk_at "rd"
    refine ⟨k, 6, n + 40 + 40, rfl, by decide, by have := p400_900; have := p400_ten (i := 3) (by decide); omega, g2.2.1, by omega, fun v3 M3 v30 v31 g3 => ?_⟩
    walk_at "rd"
    have hq := isq_le_self (n := 5 + v2) (by omega)
    have hq2 := isq_le (n := 5 + v2) (by omega)
    have hq3 := isq_lt (n := 5 + v2) (by omega)
    have hq0 := isq_nn (5 + v2)
    have hq4 : 2 ≤ isq (5 + v2) := by
      by_cases z : 2 ≤ isq (5 + v2)
      · exact z
      · rcases (by omega : isq (5 + v2) = 0 ∨ isq (5 + v2) = 1) with e | e <;> rw [e] at hq3 <;> omega
    have hq5 : 4 ≤ isq (5 + v2) * isq (5 + v2) := by
      have : 2 * 2 ≤ isq (5 + v2) * isq (5 + v2) := Int.mul_le_mul hq4 hq4 (by decide) hq0
      omega
    have pb := p400_big
    have p9 := p400_900
    have p3 := p400_ten (i := 3) (by decide)
    have pF : 5 * (10 : Int) ^ i + 5 ≤ 10 ^ (f.toNat + 1) := by
      have h0 : (10 : Nat) ^ i ≤ 10 ^ f.toNat := Nat.pow_le_pow_right (by decide) (by omega)
      have h1 : (10 : Nat) ^ (f.toNat + 1) = 10 ^ f.toNat * 10 := by rw [Nat.pow_succ]
      have e : ((10 ^ i : Nat) : Int) = (10 : Int) ^ i := by rw [Int.natCast_pow]; rfl
      have e2 : ((10 ^ (f.toNat + 1) : Nat) : Int) = (10 : Int) ^ (f.toNat + 1) := by rw [Int.natCast_pow]; rfl
      have h3 : 0 < (10 : Nat) ^ i := Nat.pow_pos (by decide)
      omega
    have fin : ∀ N : Int, 4 ≤ N → N ≤ 5 + v2 → ∀ (v4 : Int) M4, 0 ≤ v4 → v4 < 2 → Gst k (n + 40 + 40 + 40 + 40) M3 M4 → Q (.int (if 4 < N - N.fmod 4 + v4 then N - N.fmod 4 + v4 else 5)) M4 := by
      intro N n1 n2 v4 M4 v40 v41 g4
      have ef : N.fmod 4 = N % 4 := fmod_pos (by decide)
      rw [ef]
      refine q _ M4 ?_ ?_ (((((g1.trans g2).trans g3).trans g4).le (by omega)))
      · split
        · rename_i h4
          have h5 : 5 ≤ N - N % 4 + v4 := by omega
          simp only [isMeas, h5, decide_true, Bool.true_and, Bool.or_eq_true, beq_iff_eq]
          omega
        · decide
      · split <;> omega
    by_cases h3 : v3 = 0
    · rw [if_pos h3]
      have sq : Sm (isq (5 + v2)) := sm_big (by omega) (by omega)
      refine ⟨_, rfl, by omega, by omega, _, rfl, by omega, by omega, ⟨sq, sq⟩, (by decide : (4 : Int) ≠ 0), k, 2, n + 40 + 40 + 40, rfl, by decide, by omega, g3.2.1, by omega, fun v4 M4 v40 v41 g4 => ?_⟩
      walk_at "rd"
      have g5 := fin _ hq5 hq2 v4 M4 v40 v41 g4
      have gg := ((g1.trans g2).trans g3).trans g4
      split
      · rename_i h4
        rw [if_pos h4] at g5
        exact gg.rtq g5
      · rename_i h4
        rw [if_neg h4] at g5
        exact gg.rtq g5
    · rw [if_neg h3]
      refine ⟨(by decide : (4 : Int) ≠ 0), k, 2, n + 40 + 40 + 40, rfl, by decide, by omega, g3.2.1, by omega, fun v4 M4 v40 v41 g4 => ?_⟩
      walk_at "rd"
      have g5 := fin _ (by omega) (Int.le_refl _) v4 M4 v40 v41 g4
      have gg := ((g1.trans g2).trans g3).trans g4
      split
      · rename_i h4
        rw [if_pos h4] at g5
        exact gg.rtq g5
      · rename_i h4
        rw [if_neg h4] at g5
        exact gg.rtq g5
  · obtain ⟨hi2, rfl⟩ := rng_get.mp hd
    walk_at "rd"
    have sb : Sm b := sm_big (by have := big_pos; omega) (by have := p400_big; omega)
    refine ⟨⟨Sm.of 5 (by decide), sb⟩, by omega, _, _, rfl, by omega, ?_⟩
    rw [Int.pow_succ]
    omega

theorem rd_l_least_9529 : ∀ ds M Q, ds.length = 4 → sp_root_by ds M Q DX0 → t_l_least_9529 sp_isq sp_gcd (dEnds M Q) (startD 6 ds) M := rd_root_by
def sp_lis_root : DSp := sp_is_root_by
theorem rd_l_is_root_1604 : ∀ ds M Q, ds.length = 2 → sp_lis_root ds M Q DX0 → t_l_is_root_1604 sp_isq sp_gcd (dEnds M Q) (startD 4 ds) M := by
  rintro _ M Q - ⟨m, d, rfl, h0, hB, ⟨⟨T, ht⟩, hr⟩, q⟩
  unfold t_l_is_root_1604
  walk_at "rd"
  by_cases htup : ∃ l, d = .tup l
  · obtain ⟨l, rfl⟩ := htup
    walk_at "rd"
    walk_at "kb"
    by_cases h3 : l.length = 3
    · obtain ⟨a, b, c, rfl⟩ := len3 h3
      have hr' := hr _ rfl rfl
      walk_at "rd"
      rw [if_neg (by decide)]
      refine lcW_pure (fun e => if isW e = true then none else some e) trivial (by rw [sizeLine_eq]; exact (by decide : (3 : Nat) ≤ 16777216)) (fun d hd Y N hy => ?_) ?_
      · walk_at "rd"
        obtain ⟨hf, T', hT⟩ := hr' d hd
        cases d <;> first | (simp [fine] at hf; done) | skip
        all_goals walk_at "kb"
        all_goals exact hy
      · refine gNe_nil' (n := 40) (bads_fine fun e he => (hr' e he).1) ?_
        show if (!(bads [a, b, c]).isEmpty) = true then _ else _
        cases hb : (bads [a, b, c]).isEmpty with
        | false =>
          rw [if_pos (by decide)]
          rw [isRootD_bad (bads_some hb)] at q
          exact rtq q
        | true =>
          rw [if_neg (by decide)]
          have hw := bads_nil hb
          obtain ⟨x, rfl⟩ := isW_iff.mp (hw a (by simp))
          obtain ⟨y, rfl⟩ := isW_iff.mp (hw b (by simp))
          obtain ⟨z, rfl⟩ := isW_iff.mp (hw c (by simp))
          walk_at "rd"
          simp only [isRootD] at q
          by_cases hz : z < 1
          · rw [if_pos hz]
            have : ¬ 1 ≤ z := by omega
            simp only [this, decide_false, Bool.false_and] at q
            exact rtq q
          · rw [if_neg hz]
            have hz' : 1 ≤ z := by omega
            simp only [hz', decide_true, Bool.true_and] at q
            refine ⟨m, rfl, h0, hB, x, y, rfl, _, z, rfl, ?_⟩
            have hs : Sm (isq m) := sm_big (by have := isq_nn m; omega) (Int.le_trans (isq_le_self h0) hB)
            walk_at "rd"
            by_cases hg : (Int.gcd (Int.gcd x y : Int) z : Int) = 1
            · rw [if_pos hg]
              simp only [hg, BEq.rfl, Bool.true_and] at q
              by_cases hy : y = 0
              · rw [if_pos hy]
                simp only [hy, BEq.rfl, Bool.true_or] at q ⊢
                exact rtq q
              · have hy' : (y == 0) = false := by simpa using hy
                rw [if_neg hy]
                simp only [hy', Bool.false_or] at q
                exact ⟨⟨hs, hs⟩, rtq q⟩
            · rw [if_neg hg]
              have hg' : ((Int.gcd (Int.gcd x y : Int) z : Int) == 1) = false := by simpa using hg
              simp only [hg', Bool.false_and] at q ⊢
              exact rtq q
    · have h3' : ¬ ((l.length : Nat) : Int) = 3 := by omega
      simp only [h3', not_false_eq_true, if_true]
      rw [isRootD_len h3] at q
      exact rtq q
  · have q' : Q (.bl false) M := by rwa [isRootD_notup fun l e => htup ⟨l, e⟩] at q
    cases d <;> first | exact absurd ⟨_, rfl⟩ htup | (cases ht; done) | skip
    all_goals walk_at "rd"
    case own k =>
      unfold tyM at ht
      dsimp only at ht
      split at ht
      · rename_i ds hk
        simp only [hk]
        walk_at "kb"
        exact rtq q'
      · cases ht
    all_goals walk_at "kb"
    all_goals exact rtq q'

def sp_right : DSp := fun ds M Q _ => ∃ (k : Nat) (n : Int), ds = [.own k] ∧ Gn k n M ∧ n ≤ P40 - 10000 ∧ ∀ M', Gst k (n + 5000) M M' → Q (.bl true) M'
end DL
namespace DL
open PySem PySem.Spec PyProof.Rows L2
local macro_rules | `(tactic| walk_at "rd") => `(tactic| simp only [startD, List.map, List.replicate, List.length_cons, List.length_nil, List.append_eq, List.append_nil, List.nil_append, List.cons_append, Nat.reduceSub, Nat.reduceAdd, List.getElem?_cons_zero, List.getElem?_cons_succ, List.set_cons_zero, List.set_cons_succ,
  dC, dVar, dOp, dTru, gTru, tru, dChain, dAnd, dOr, dNot, dAndV, dOrV, dNotV, dIf, dNeg, gNeg, dNil, dCons, dTup, dLst, dOwn, gIx, rBin, gAdd, gCmpI, dCall, dCallK, dSeq, dNext, dDrop, dRet, dRetN, dIfS, dName, dGNil, dGCons, dGTup, dSub, gSetL, dAsg, dPar, dPar3, dAug, gIpI, dSeqI, gSeqI, dRngI, gRng1, gRng2, dCB, gAbs, gInt, gMax, gMin, gGcd, gLen, lenD, gIsi, tyM, tyD, dBits, gBits, dMet, gAppend, dPart, dNoPart, dSl, dEnds, gIs, isB, dNever, dFor, dLc, wipeD, dYes,
  sizeLine_eq, Nat.reduceLeDiff, gEq_int, gNe_int, gEq_strs, gNe_strs, gIn_two, gRepr_bl, rs_lst, rs_tup, rs_scr, rs_int, atI_0, atI_1, atI_2, atI_3, atI_4, atI_5, ixN_30, ixN_31, ixN_32, gEq_bl, gNe_bl, decide_eq_true_eq, beq_iff_eq, Bool.not_eq_true', beq_eq_false_iff_ne, decide_eq_false_iff_not, Bool.not_true, Bool.not_false, if_true, if_false, Bool.false_eq_true, ite_true, ite_false, true_and, and_true, ne_eq, Bool.bne_false, Bool.bne_true, reduceCtorEq])
local macro_rules | `(tactic| walk_at "rh") => `(tactic| simp only [*, startD, List.map, List.replicate, List.length_cons, List.length_nil, List.append_eq, List.append_nil, List.nil_append, List.cons_append, Nat.reduceSub, Nat.reduceAdd, List.getElem?_cons_zero, List.getElem?_cons_succ, List.set_cons_zero, List.set_cons_succ,
  dC, dVar, dOp, dTru, gTru, tru, dChain, dAnd, dOr, dNot, dAndV, dOrV, dNotV, dIf, dNeg, gNeg, dNil, dCons, dTup, dLst, dOwn, gIx, rBin, gAdd, gCmpI, dCall, dCallK, dSeq, dNext, dDrop, dRet, dRetN, dIfS, dName, dGNil, dGCons, dGTup, dSub, gSetL, dAsg, dPar, dPar3, dAug, gIpI, dSeqI, gSeqI, dRngI, gRng1, gRng2, dCB, gAbs, gInt, gMax, gMin, gGcd, gLen, lenD, gIsi, tyM, tyD, dBits, gBits, dMet, gAppend, dPart, dNoPart, dSl, dEnds, gIs, isB, dNever, dFor, dLc, wipeD, dYes,
  sizeLine_eq, Nat.reduceLeDiff, gEq_int, gNe_int, gEq_strs, gNe_strs, gIn_two, gRepr_bl, rs_lst, rs_tup, rs_scr, rs_int, atI_0, atI_1, atI_2, atI_3, atI_4, atI_5, ixN_30, ixN_31, ixN_32, gEq_bl, gNe_bl, decide_eq_true_eq, beq_iff_eq, Bool.not_eq_true', beq_eq_false_iff_ne, decide_eq_false_iff_not, Bool.not_true, Bool.not_false, if_true, if_false, Bool.false_eq_true, ite_true, ite_false, true_and, and_true, ne_eq, Bool.bne_false, Bool.bne_true, reduceCtorEq])
local macro_rules | `(tactic| walk_at "kb") => `(tactic| simp only [kb_NoneType_list, kb_bool_list, kb_int_list, kb_str_list, kb_tuple_list, kb_list_list, kb_dict_list, kb_NoneType_int, kb_bool_int, kb_int_int, kb_str_int, kb_tuple_int, kb_list_int, kb_dict_int, kb_NoneType_bool, kb_bool_bool, kb_int_bool, kb_str_bool, kb_tuple_bool, kb_list_bool, kb_dict_bool, kb_NoneType_tuple, kb_bool_tuple, kb_int_tuple, kb_str_tuple, kb_tuple_tuple, kb_list_tuple, kb_dict_tuple, if_true, if_false, Bool.false_eq_true, ite_true, ite_false, Bool.not_true, Bool.not_false])

theorem atI_any {l : List D} {v : Int} (h0 : 0 ≤ v) (h1 : v < (l.length : Nat)) : ∃ d, d ∈ l ∧ atI l v = some d := by
  have e : v = (v.toNat : Nat) := by omega
  have hl : v.toNat < l.length := by omega
  refine ⟨l[v.toNat], List.getElem_mem hl, ?_⟩
  have h2 := atI_of _ hl
  rw [← e] at h2
  rw [h2]
  exact List.getElem?_eq_getElem hl
theorem fine_ty {n : Nat} {d : D} (M : Mem) (h : fine n d = true) : ∃ T, tyM M d = some T := by
  cases d <;> first | exact ⟨_, rfl⟩ | (simp [fine] at h)
theorem rootable_fine {d : D} (M : Mem) (h : fine 41 d = true) : Rootable M d := by
  refine ⟨fine_ty M h, ?_⟩
  rintro l rfl h3 e he
  have h' : fineAll 40 l = true := by simpa only [fine] using h
  have := fineAll_iff.mp h' e he
  exact ⟨this, fine_ty M this⟩
theorem dSeq_open {a b : DTS} {E : DEnds} {r : Env} {M : Mem} (h : ∀ B : Env → Mem → Prop, b E = B → a { E with nx := B } r M) : dSeq a b E r M := h _ rfl
def okV (d : D) : Bool := fine 41 d && (lit 800 d && decide (wt 800 d ≤ 10000))
/-! ### the least form: scaled, its size -/
theorem gcd_dvd3 (X Y b : Int) : (Int.gcd (Int.gcd X Y : Int) b : Int) ∣ X ∧ (Int.gcd (Int.gcd X Y : Int) b : Int) ∣ Y ∧ (Int.gcd (Int.gcd X Y : Int) b : Int) ∣ b :=
  ⟨Int.dvd_trans (Int.gcd_dvd_left _ _) (Int.gcd_dvd_left _ _), Int.dvd_trans (Int.gcd_dvd_left _ _) (Int.gcd_dvd_right _ _), Int.gcd_dvd_right _ _⟩
theorem rnC_dvd (m x y b : Int) : rnC m x y b ∣ rnX m x y ∧ rnC m x y b ∣ rnY m y ∧ rnC m x y b ∣ b := by
  have h := gcd_dvd3 (rnX m x y) (rnY m y) b
  unfold rnC
  split
  · rw [Int.zero_sub]
    exact ⟨Int.neg_dvd.mpr h.1, Int.neg_dvd.mpr h.2.1, Int.neg_dvd.mpr h.2.2⟩
  · exact h
theorem rnC_ne {m x y b : Int} (hb : b ≠ 0) : rnC m x y b ≠ 0 := by
  have := gcd_bound (g := (Int.gcd (rnX m x y) (rnY m y) : Int)) hb
  unfold rnC
  split <;> omega
theorem fdiv_scale {k a c : Int} (hk : k ≠ 0) (hc : c ≠ 0) (h : c ∣ a) : (k * a).fdiv (k * c) = a.fdiv c := by
  obtain ⟨t, rfl⟩ := h
  rw [Int.mul_fdiv_cancel_left _ hc, ← Int.mul_assoc, Int.mul_fdiv_cancel_left]
  exact Int.mul_ne_zero hk hc
theorem rnX_scale (k m x y : Int) : rnX m (k * x) (k * y) = k * rnX m x y := by
  unfold rnX
  split
  · rw [Int.mul_add, Int.mul_assoc]
  · rfl
theorem rnY_scale (k m y : Int) : rnY m (k * y) = k * rnY m y := by
  unfold rnY
  split
  · rw [Int.mul_zero]
  · rfl
theorem mul_neg_iff {k b : Int} (hk : k < 0) : k * b < 0 ↔ 0 < b := by
  constructor
  · intro h
    by_cases z : 0 < b
    · exact z
    · have := Int.mul_nonneg_of_nonpos_of_nonpos (a := k) (b := b) (by omega) (by omega)
      omega
  · exact fun h => Int.mul_neg_of_neg_of_pos hk h
theorem mul_pos_iff' {k b : Int} (hk : 0 < k) : k * b < 0 ↔ b < 0 := by
  constructor
  · intro h
    by_cases z : b < 0
    · exact z
    · have := Int.mul_nonneg (a := k) (b := b) (by omega) (by omega)
      omega
  · exact fun h => Int.mul_neg_of_pos_of_neg hk h
theorem rnC_scale {k m x y b : Int} (hk : k ≠ 0) (hb : b ≠ 0) : rnC m (k * x) (k * y) (k * b) = k * rnC m x y b := by
  unfold rnC
  rw [rnX_scale, rnY_scale]
  have e : (Int.gcd (Int.gcd (k * rnX m x y) (k * rnY m y) : Int) (k * b) : Int) = k.natAbs * (Int.gcd (Int.gcd (rnX m x y) (rnY m y) : Int) b : Int) := by
    rw [Int.gcd_mul_left]
    have e2 : ((k.natAbs * Int.gcd (rnX m x y) (rnY m y) : Nat) : Int) = (k.natAbs : Int) * (Int.gcd (rnX m x y) (rnY m y) : Int) := Int.natCast_mul _ _
    have e3 : ∀ (u v : Int), Int.gcd ((k.natAbs : Int) * u) (k * v) = k.natAbs * Int.gcd u v := by
      intro u v
      unfold Int.gcd
      rw [Int.natAbs_mul, Int.natAbs_mul, Int.natAbs_natCast, Nat.gcd_mul_left]
    rw [e2, e3, Int.natCast_mul]
  rw [e]
  generalize (Int.gcd (Int.gcd (rnX m x y) (rnY m y) : Int) b : Int) = g
  rcases (by omega : 0 < k ∨ k < 0) with h | h
  · have ek : (k.natAbs : Int) = k := by omega
    rw [ek]
    simp only [mul_pos_iff' h]
    split
    · rw [Int.mul_sub, Int.mul_zero]
    · rfl
  · have ek : (k.natAbs : Int) = -k := by omega
    rw [ek]
    simp only [mul_neg_iff h]
    by_cases z : 0 < b
    · rw [if_pos z, if_neg (by omega), Int.neg_mul]; omega
    · rw [if_neg z, if_pos (by omega), Int.neg_mul, Int.mul_sub]; omega
theorem rootN_scale {k m x y b : Int} (hk : k ≠ 0) (hb : b ≠ 0) : rootN m (k * x) (k * y) (k * b) = rootN m x y b := by
  have h := rnC_dvd m x y b
  have h0 := rnC_ne (m := m) (x := x) (y := y) hb
  unfold rootN
  rw [rnC_scale hk hb, rnX_scale, rnY_scale, fdiv_scale hk h0 h.1, fdiv_scale hk h0 h.2.1, fdiv_scale hk h0 h.2.2]
def NB : Nat := 2 ^ 600
theorem nb_small {i : Int} (h : i.natAbs ≤ 4 * NB) : lit 800 (.int i) = true := by
  simp only [lit, decide_eq_true_eq]
  refine log2_of 800 (Nat.lt_of_le_of_lt h ?_) (by decide)
  have e : (2 : Nat) ^ 800 = 2 ^ 600 * 2 ^ 200 := by rw [← Nat.pow_add]
  rw [e]
  unfold NB
  rw [Nat.mul_comm 4]
  exact Nat.mul_lt_mul_of_pos_left (by decide) (Nat.pow_pos (by decide))
theorem fdiv_small {a c : Int} (hc : c ≠ 0) (h : c ∣ a) : (a.fdiv c).natAbs ≤ a.natAbs := by
  obtain ⟨t, rfl⟩ := h
  rw [Int.mul_fdiv_cancel_left _ hc, Int.natAbs_mul]
  exact Nat.le_mul_of_pos_left _ (by omega)
theorem rn_small {m x y b bd : Int} (hm0 : 0 ≤ m) (hm : m ≤ P400) (hbd : bd ≤ 10 ^ 20) (x1 : -bd ≤ x) (x2 : x ≤ bd) (y1 : -bd ≤ y) (y2 : y ≤ bd) : (rnX m x y).natAbs ≤ NB ∧ (rnY m y).natAbs ≤ NB := by
  have hr : (isq m).natAbs ≤ 2 ^ 400 := by
    have h1 := isq_le_self hm0
    have h2 := isq_nn m
    have e : ((2 ^ 400 : Nat) : Int) = P400 := by unfold P400; rw [Int.natCast_pow]; rfl
    omega
  have hy : y.natAbs ≤ 10 ^ 20 := by omega
  have hxn : x.natAbs ≤ 10 ^ 20 := by omega
  have hp : (y * isq m).natAbs ≤ 10 ^ 20 * 2 ^ 400 := by rw [Int.natAbs_mul]; exact Nat.mul_le_mul hy hr
  have hN : 10 ^ 20 + 10 ^ 20 * 2 ^ 400 ≤ NB := by unfold NB; decide +kernel
  have hN2 : 10 ^ 20 ≤ NB := Nat.le_trans (Nat.le_add_right _ _) hN
  generalize 10 ^ 20 * 2 ^ 400 = W at hp hN
  generalize hG : NB = G at hN hN2 ⊢
  unfold rnX rnY
  refine ⟨?_, ?_⟩
  · split <;> omega
  · split <;> omega
theorem okV_parts {d : D} (h : okV d = true) : fine 41 d = true ∧ lit 800 d = true ∧ wt 800 d ≤ 10000 := by
  simpa only [okV, Bool.and_eq_true, decide_eq_true_eq] using h
theorem gRepr_ok {d : D} {M : Mem} {Q : DQ} (h : okV d = true) (q : ∀ z, shwn d = some z → Q (.str z) M) : gRepr [d] M Q := by
  obtain ⟨h1, h2, h3⟩ := okV_parts h
  refine gRepr_of 800 41 h1 h2 ?_ q
  have := Nat.mul_le_mul_left (800 + 10) h3
  omega
theorem gRepr_again {d : D} {M : Mem} {Q : DQ} {z : Str} (h : shwn d = some z) (hr : res M d = d) (q : Q (.str z) M) : gRepr [d] M Q := by
  unfold gRepr
  dsimp only
  rw [hr, h]
  exact q
theorem str_self (z : Str) : (z == z) = true := by simp
theorem okV_3 {a b c : Int} (ha : a.natAbs ≤ 4 * NB) (hb : b.natAbs ≤ 4 * NB) (hc : c.natAbs ≤ 4 * NB) : okV (.tup [.int a, .int b, .int c]) = true := by
  unfold okV
  rw [show lit 800 (.tup [.int a, .int b, .int c]) = true from by simp only [lit, litAll] at *; rw [Bool.and_eq_true, Bool.and_eq_true, Bool.and_eq_true]; exact ⟨nb_small ha, nb_small hb, nb_small hc, rfl⟩]
  rfl
theorem gList_tup {l : List D} {M : Mem} {Q : DQ} : gList false [.tup l] M Q = Q (.lst l) M := rfl
theorem gSlT_two {a b c : D} {M : Mem} {Q : DQ} : gSlT (.tup [a, b, c]) none (some 2) M Q = Q (.tup [a, b]) M := rfl
theorem lit_cons {B : Nat} {d : D} {l : List D} (h : lit B d = true) (h2 : litAll B l = true) : litAll B (d :: l) = true := by
  simp only [litAll, h, h2, Bool.and_self]
theorem okV_tup {l : List D} (h : fineAll 40 l = true) (h2 : litAll 800 l = true) (h3 : wtAll 800 l ≤ 10000) : okV (.tup l) = true := by
  simp only [okV, fine, lit, wt, h, h2, h3, decide_true, Bool.and_self]
theorem okV_lst {l : List D} (h : fineAll 40 l = true) (h2 : litAll 800 l = true) (h3 : wtAll 800 l ≤ 10000) : okV (.lst l) = true := by
  simp only [okV, fine, lit, wt, h, h2, h3, decide_true, Bool.and_self]
end DL
namespace DL
open PySem PySem.Spec PyProof.Rows L2
def t_check_root (c_is_root_by : DSp) : DTS :=
 (dIfS (dNot (dTru (dCall 2 c_is_root_by [] DX0 (dCons (dVar 0) (dCons (dVar 1) dNil))))) dNever dNext)
def t_plus_by (c_root_by : DSp) : DTS :=
 (dSeq (dAsg (dOp gAdd (dOp (rBin CMul fun i j => i * j) (dOp gIx (dVar 1) (dC (.int 0))) (dOp gIx (dVar 2) (dC (.int 2)))) (dOp (rBin CMul fun i j => i * j) (dOp gIx (dVar 2) (dC (.int 0))) (dOp gIx (dVar 1) (dC (.int 2))))) (dName 3))
 (dRet (dCall 4 c_root_by [] DX0 (dCons (dVar 0) (dCons (dVar 3) (dCons (dOp gAdd (dOp (rBin CMul fun i j => i * j) (dOp gIx (dVar 1) (dC (.int 1))) (dOp gIx (dVar 2) (dC (.int 2)))) (dOp (rBin CMul fun i j => i * j) (dOp gIx (dVar 2) (dC (.int 1))) (dOp gIx (dVar 1) (dC (.int 2))))) (dCons (dOp (rBin CMul fun i j => i * j) (dOp gIx (dVar 1) (dC (.int 2))) (dOp gIx (dVar 2) (dC (.int 2)))) dNil)))))))
def t_minus_by (c_plus_by : DSp) : DTS :=
 (dRet (dCall 3 c_plus_by [] DX0 (dCons (dVar 0) (dCons (dVar 1) (dCons (dTup (dCons (dOp (rBin (fun _ _ => True) fun i j => i - j) (dC (.int 0)) (dOp gIx (dVar 2) (dC (.int 0)))) (dCons (dOp (rBin (fun _ _ => True) fun i j => i - j) (dC (.int 0)) (dOp gIx (dVar 2) (dC (.int 1)))) (dCons (dOp gIx (dVar 2) (dC (.int 2))) dNil)))) dNil)))))
def t_times_by (c_root_by : DSp) : DTS :=
 (dSeq (dAsg (dOp gAdd (dOp (rBin CMul fun i j => i * j) (dOp gIx (dVar 1) (dC (.int 0))) (dOp gIx (dVar 2) (dC (.int 0)))) (dOp (rBin CMul fun i j => i * j) (dOp (rBin CMul fun i j => i * j) (dVar 0) (dOp gIx (dVar 1) (dC (.int 1)))) (dOp gIx (dVar 2) (dC (.int 1))))) (dName 3))
 (dRet (dCall 4 c_root_by [] DX0 (dCons (dVar 0) (dCons (dVar 3) (dCons (dOp gAdd (dOp (rBin CMul fun i j => i * j) (dOp gIx (dVar 1) (dC (.int 0))) (dOp gIx (dVar 2) (dC (.int 1)))) (dOp (rBin CMul fun i j => i * j) (dOp gIx (dVar 1) (dC (.int 1))) (dOp gIx (dVar 2) (dC (.int 0))))) (dCons (dOp (rBin CMul fun i j => i * j) (dOp gIx (dVar 1) (dC (.int 2))) (dOp gIx (dVar 2) (dC (.int 2)))) dNil)))))))
def t_over_by (c_times_by : DSp) (c_root_by : DSp) : DTS :=
 (dSeq (dAsg (dOp (rBin (fun _ _ => True) fun i j => i - j) (dOp (rBin CMul fun i j => i * j) (dOp gIx (dVar 2) (dC (.int 0))) (dOp gIx (dVar 2) (dC (.int 0)))) (dOp (rBin CMul fun i j => i * j) (dOp (rBin CMul fun i j => i * j) (dVar 0) (dOp gIx (dVar 2) (dC (.int 1)))) (dOp gIx (dVar 2) (dC (.int 1))))) (dName 3))
 (dRet (dCall 3 c_times_by [] DX0 (dCons (dVar 0) (dCons (dVar 1) (dCons (dCall 4 c_root_by [] DX0 (dCons (dVar 0) (dCons (dOp (rBin CMul fun i j => i * j) (dOp gIx (dVar 2) (dC (.int 0))) (dOp gIx (dVar 2) (dC (.int 2)))) (dCons (dOp (rBin (fun _ _ => True) fun i j => i - j) (dC (.int 0)) (dOp (rBin CMul fun i j => i * j) (dOp gIx (dVar 2) (dC (.int 1))) (dOp gIx (dVar 2) (dC (.int 2))))) (dCons (dVar 3) dNil))))) dNil))))))
def t_root_plus (c_check_measure : DSp) (c_check_root : DSp) (c_plus_by : DSp) : DTS :=
 (dSeq (dDrop (dCall 1 c_check_measure [] DX0 (dCons (dVar 0) dNil)))
 (dSeq (dDrop (dCall 2 c_check_root [] DX0 (dCons (dVar 0) (dCons (dVar 1) dNil))))
 (dSeq (dDrop (dCall 2 c_check_root [] DX0 (dCons (dVar 0) (dCons (dVar 2) dNil))))
 (dRet (dCall 3 c_plus_by [] DX0 (dCons (dVar 0) (dCons (dVar 1) (dCons (dVar 2) dNil))))))))
def t_root_less (c_check_measure : DSp) (c_check_root : DSp) (c_minus_by : DSp) : DTS :=
 (dSeq (dDrop (dCall 1 c_check_measure [] DX0 (dCons (dVar 0) dNil)))
 (dSeq (dDrop (dCall 2 c_check_root [] DX0 (dCons (dVar 0) (dCons (dVar 1) dNil))))
 (dSeq (dDrop (dCall 2 c_check_root [] DX0 (dCons (dVar 0) (dCons (dVar 2) dNil))))
 (dRet (dCall 3 c_minus_by [] DX0 (dCons (dVar 0) (dCons (dVar 1) (dCons (dVar 2) dNil))))))))
def t_root_times (c_check_measure : DSp) (c_check_root : DSp) (c_times_by : DSp) : DTS :=
 (dSeq (dDrop (dCall 1 c_check_measure [] DX0 (dCons (dVar 0) dNil)))
 (dSeq (dDrop (dCall 2 c_check_root [] DX0 (dCons (dVar 0) (dCons (dVar 1) dNil))))
 (dSeq (dDrop (dCall 2 c_check_root [] DX0 (dCons (dVar 0) (dCons (dVar 2) dNil))))
 (dRet (dCall 3 c_times_by [] DX0 (dCons (dVar 0) (dCons (dVar 1) (dCons (dVar 2) dNil))))))))
def t_root_over (c_check_measure : DSp) (c_check_root : DSp) (c_over_by : DSp) : DTS :=
 (dSeq (dDrop (dCall 1 c_check_measure [] DX0 (dCons (dVar 0) dNil)))
 (dSeq (dDrop (dCall 2 c_check_root [] DX0 (dCons (dVar 0) (dCons (dVar 1) dNil))))
 (dSeq (dDrop (dCall 2 c_check_root [] DX0 (dCons (dVar 0) (dCons (dVar 2) dNil))))
 (dSeq (dIfS (dAnd (dTru (dOp gEq (dOp gIx (dVar 2) (dC (.int 0))) (dC (.int 0)))) (dTru (dOp gEq (dOp gIx (dVar 2) (dC (.int 1))) (dC (.int 0))))) dNever dNext)
 (dRet (dCall 3 c_over_by [] DX0 (dCons (dVar 0) (dCons (dVar 1) (dCons (dVar 2) dNil)))))))))
def t_l_random_4762 (c_l_hash_9cde : DSp) : DTS :=
 (dSeq (dIfS (dTru (dOp (gCmpI fun i j => decide (j < i)) (dOp gIx (dVar 0) (dC (.int 0))) (dC (.int 0)))) (dSeq (dAsg (dOp (rBin CMod fun i j => i.fmod j) (dCB gInt (dCons (dOp gIx (dVar 0) (dC (.int 0))) dNil)) (dVar 1)) (dName 2))
 (dSeq (dAsg (dOp (rBin CDiv fun i j => i.fdiv j) (dOp gIx (dVar 0) (dC (.int 0))) (dVar 1)) (dSub (dVar 0) (dC (.int 0))))
 (dRet (dVar 2)))) dNext)
 (dSeq (dAsg (dC (.int 0)) (dName 2))
 (dSeq (dFor (dRngI gRng1 (dCons (dOp gAdd (dC (.int 1)) (dOp (rBin CDiv fun i j => i.fdiv j) (dBits (dVar 1)) (dC (.int 30)))) dNil)) (dName 3) (dSeq (dAsg (dOp gAdd (dOp gIx (dVar 0) (dC (.int 2))) (dC (.int 1))) (dSub (dVar 0) (dC (.int 2))))
 (dAsg (dOp gAdd (dOp (rBin CMul fun i j => i * j) (dVar 2) (dC (.int 2147483587))) (dCall 2 c_l_hash_9cde [] DX0 (dCons (dOp gIx (dVar 0) (dC (.int 1))) (dCons (dOp gIx (dVar 0) (dC (.int 2))) dNil)))) (dName 2))))
 (dRet (dOp (rBin CMod fun i j => i.fmod j) (dCB gInt (dCons (dVar 2) dNil)) (dVar 1))))))
def t_l_drawn_33f3 (c_l_root_d754 : DSp) (c_l_random_4762 : DSp) (c_l_least_9529 : DSp) : DTS :=
 (dSeq (dPar 3 4 (dCons (dC (.int 2)) (dCons (dCall 1 c_l_root_d754 [] DX0 (dCons (dVar 1) dNil)) dNil)))
 (dSeq (dFor (dRngI gRng1 (dCons (dCall 2 c_l_random_4762 [] DX0 (dCons (dVar 0) (dCons (dIf (dTru (dOp gEq (dOp (rBin CMul fun i j => i * j) (dVar 4) (dVar 4)) (dVar 1))) (dC (.int 14)) (dVar 2)) dNil))) dNil)) (dName 5) (dAsg (dOp (rBin CMul fun i j => i * j) (dC (.int 10)) (dVar 3)) (dName 3)))
 (dSeq (dPar3 6 7 8 (dCons (dOp (rBin (fun _ _ => True) fun i j => i - j) (dCall 2 c_l_random_4762 [] DX0 (dCons (dVar 0) (dCons (dOp gAdd (dOp (rBin CMul fun i j => i * j) (dC (.int 2)) (dVar 3)) (dC (.int 1))) dNil))) (dVar 3)) (dCons (dOp (rBin (fun _ _ => True) fun i j => i - j) (dCall 2 c_l_random_4762 [] DX0 (dCons (dVar 0) (dCons (dOp gAdd (dOp (rBin CMul fun i j => i * j) (dC (.int 2)) (dVar 3)) (dC (.int 1))) dNil))) (dVar 3)) (dCons (dOp gAdd (dC (.int 1)) (dCall 2 c_l_random_4762 [] DX0 (dCons (dVar 0) (dCons (dVar 3) dNil)))) dNil))))
 (dRet (dCall 4 c_l_least_9529 [] DX0 (dCons (dVar 1) (dCons (dVar 6) (dCons (dVar 7) (dCons (dVar 8) dNil)))))))))
def t_l_plus_6ff7 (c_l_least_9529 : DSp) : DTS :=
 (dSeq (dAsg (dOp gAdd (dOp (rBin CMul fun i j => i * j) (dOp gIx (dVar 1) (dC (.int 0))) (dOp gIx (dVar 2) (dC (.int 2)))) (dOp (rBin CMul fun i j => i * j) (dOp (rBin CMul fun i j => i * j) (dVar 3) (dOp gIx (dVar 2) (dC (.int 0)))) (dOp gIx (dVar 1) (dC (.int 2))))) (dName 4))
 (dRet (dCall 4 c_l_least_9529 [] DX0 (dCons (dVar 0) (dCons (dVar 4) (dCons (dOp gAdd (dOp (rBin CMul fun i j => i * j) (dOp gIx (dVar 1) (dC (.int 1))) (dOp gIx (dVar 2) (dC (.int 2)))) (dOp (rBin CMul fun i j => i * j) (dOp (rBin CMul fun i j => i * j) (dVar 3) (dOp gIx (dVar 2) (dC (.int 1)))) (dOp gIx (dVar 1) (dC (.int 2))))) (dCons (dOp (rBin CMul fun i j => i * j) (dOp gIx (dVar 1) (dC (.int 2))) (dOp gIx (dVar 2) (dC (.int 2)))) dNil)))))))
def t_l_times_84e3 (c_l_least_9529 : DSp) : DTS :=
 (dSeq (dAsg (dOp gAdd (dOp (rBin CMul fun i j => i * j) (dOp gIx (dVar 1) (dC (.int 0))) (dOp gIx (dVar 2) (dC (.int 0)))) (dOp (rBin CMul fun i j => i * j) (dOp (rBin CMul fun i j => i * j) (dVar 0) (dOp gIx (dVar 1) (dC (.int 1)))) (dOp gIx (dVar 2) (dC (.int 1))))) (dName 3))
 (dRet (dCall 4 c_l_least_9529 [] DX0 (dCons (dVar 0) (dCons (dVar 3) (dCons (dOp gAdd (dOp (rBin CMul fun i j => i * j) (dOp gIx (dVar 1) (dC (.int 0))) (dOp gIx (dVar 2) (dC (.int 1)))) (dOp (rBin CMul fun i j => i * j) (dOp gIx (dVar 1) (dC (.int 1))) (dOp gIx (dVar 2) (dC (.int 0))))) (dCons (dOp (rBin CMul fun i j => i * j) (dOp gIx (dVar 1) (dC (.int 2))) (dOp gIx (dVar 2) (dC (.int 2)))) dNil)))))))
def t_l_right_7f64 (c_l_measure_0db7 : DSp) (c_l_drawn_33f3 : DSp) (c_root_times : DSp) (c_root_less : DSp) (c_root_plus : DSp) (c_l_times_84e3 : DSp) (c_l_plus_6ff7 : DSp) (c_root_over : DSp) (c_l_least_9529 : DSp) : DTS :=
 (dSeq (dAsg (dCall 2 c_l_measure_0db7 [] DX0 (dCons (dVar 0) (dCons (dC (.int 28)) dNil))) (dName 1))
 (dSeq (dFor (dRngI gRng1 (dCons (dC (.int 3)) dNil)) (dName 2) (dSeq (dAsg (dLc false (dRngI gRng1 (dCons (dC (.int 3)) dNil)) (dName 6) dYes (dCall 3 c_l_drawn_33f3 [] DX0 (dCons (dVar 0) (dCons (dVar 1) (dCons (dC (.int 20)) dNil)))) [6]) (dGTup 3 (dGCons (dName 3) (dGCons (dName 4) (dGCons (dName 5) dGNil)))))
 (dSeq (dAsg (dLst (dCons (dCall 3 c_root_plus [] DX0 (dCons (dVar 1) (dCons (dVar 3) (dCons (dVar 4) dNil)))) (dCons (dCall 3 c_root_less [] DX0 (dCons (dVar 1) (dCons (dVar 3) (dCons (dVar 4) dNil)))) (dCons (dCall 3 c_root_times [] DX0 (dCons (dVar 1) (dCons (dVar 3) (dCons (dVar 4) dNil)))) dNil)))) (dName 7))
 (dSeq (dIfS (dTru (dOp gNe (dCB gRepr (dCons (dVar 7) dNil)) (dCB gRepr (dCons (dLst (dCons (dCall 4 c_l_plus_6ff7 [] DX0 (dCons (dVar 1) (dCons (dVar 3) (dCons (dVar 4) (dCons (dC (.int 1)) dNil))))) (dCons (dCall 4 c_l_plus_6ff7 [] DX0 (dCons (dVar 1) (dCons (dVar 3) (dCons (dVar 4) (dCons (dNeg (dC (.int 1))) dNil))))) (dCons (dCall 3 c_l_times_84e3 [] DX0 (dCons (dVar 1) (dCons (dVar 3) (dCons (dVar 4) dNil)))) dNil)))) dNil)))) (dRet (dC (.bl false))) dNext)
 (dSeq (dIfS (dOr (dTru (dOp gNe (dCallK 3 3 c_root_plus [2, 1, 0] DX0 (dCons (dVar 4) (dCons (dVar 3) (dCons (dVar 1) dNil)))) (dOp gIx (dVar 7) (dC (.int 0))))) (dTru (dOp gNe (dCallK 3 3 c_root_less [2, 1, 0] DX0 (dCons (dVar 4) (dCons (dVar 3) (dCons (dVar 1) dNil)))) (dOp gIx (dVar 7) (dC (.int 1)))))) (dRet (dC (.bl false))) dNext)
 (dSeq (dIfS (dTru (dOp gNe (dCallK 3 3 c_root_times [2, 1, 0] DX0 (dCons (dVar 4) (dCons (dVar 3) (dCons (dVar 1) dNil)))) (dOp gIx (dVar 7) (dC (.int 2))))) (dRet (dC (.bl false))) dNext)
 (dSeq (dIfS (dTru (dOp gNe (dCall 3 c_root_times [] DX0 (dCons (dVar 1) (dCons (dVar 3) (dCons (dCall 3 c_root_plus [] DX0 (dCons (dVar 1) (dCons (dVar 4) (dCons (dVar 5) dNil)))) dNil)))) (dCall 4 c_l_plus_6ff7 [] DX0 (dCons (dVar 1) (dCons (dOp gIx (dVar 7) (dC (.int 2))) (dCons (dCall 3 c_l_times_84e3 [] DX0 (dCons (dVar 1) (dCons (dVar 3) (dCons (dVar 5) dNil)))) (dCons (dC (.int 1)) dNil))))))) (dRet (dC (.bl false))) dNext)
 (dIfS (dTru (dOp gNe (dTup (dCons (dOp gIx (dVar 4) (dC (.int 0))) (dCons (dOp gIx (dVar 4) (dC (.int 1))) dNil))) (dTup (dCons (dC (.int 0)) (dCons (dC (.int 0)) dNil))))) (dSeq (dAsg (dCall 3 c_root_over [] DX0 (dCons (dVar 1) (dCons (dVar 3) (dCons (dVar 4) dNil)))) (dName 8))
 (dSeq (dIfS (dOr (dTru (dOp gNe (dCall 3 c_l_times_84e3 [] DX0 (dCons (dVar 1) (dCons (dVar 8) (dCons (dVar 4) dNil)))) (dVar 3))) (dTru (dOp gNe (dVar 8) (dCall 4 c_l_least_9529 [] DX0 (dCons (dVar 1) (dCons (dOp gIx (dVar 8) (dC (.int 0))) (dCons (dOp gIx (dVar 8) (dC (.int 1))) (dCons (dOp gIx (dVar 8) (dC (.int 2))) dNil)))))))) (dRet (dC (.bl false))) dNext)
 (dIfS (dOr (dTru (dOp gNe (dCallK 3 3 c_root_over [2, 1, 0] DX0 (dCons (dVar 4) (dCons (dVar 3) (dCons (dVar 1) dNil)))) (dVar 8))) (dTru (dOp gNe (dCall 3 c_root_over [] DX0 (dCons (dVar 1) (dCons (dOp gIx (dVar 7) (dC (.int 2))) (dCons (dVar 4) dNil)))) (dVar 3)))) (dRet (dC (.bl false))) dNext))) dNext))))))))
 (dRet (dC (.bl true)))))
def t_l_law_1aad (c_l_right_7f64 : DSp) (c_l_generator_b324 : DSp) (c_root_times : DSp) (c_root_over : DSp) (c_root_plus : DSp) (c_root_less : DSp) : DTS :=
 (dSeq (dIfS (dNot (dTru (dCall 1 c_l_right_7f64 [] DX0 (dCons (dCall 2 c_l_generator_b324 [] DX0 (dCons (dVar 0) (dCons (dC (.int 0)) dNil))) dNil)))) (dRet (dC (.bl false))) dNext)
 (dSeq (dIfS (dOr (dTru (dOp gNe (dCall 3 c_root_times [] DX0 (dCons (dC (.int 5)) (dCons (dTup (dCons (dC (.int 1)) (dCons (dC (.int 1)) (dCons (dC (.int 2)) dNil)))) (dCons (dTup (dCons (dC (.int 1)) (dCons (dC (.int 1)) (dCons (dC (.int 2)) dNil)))) dNil)))) (dTup (dCons (dC (.int 3)) (dCons (dC (.int 1)) (dCons (dC (.int 2)) dNil)))))) (dTru (dOp gNe (dCall 3 c_root_over [] DX0 (dCons (dC (.int 5)) (dCons (dTup (dCons (dC (.int 1)) (dCons (dC (.int 0)) (dCons (dC (.int 1)) dNil)))) (dCons (dTup (dCons (dC (.int 1)) (dCons (dC (.int 1)) (dCons (dC (.int 2)) dNil)))) dNil)))) (dTup (dCons (dNeg (dC (.int 1))) (dCons (dC (.int 1)) (dCons (dC (.int 2)) dNil))))))) (dRet (dC (.bl false))) dNext)
 (dRet (dAndV (dOp gEq (dCall 3 c_root_plus [] DX0 (dCons (dC (.int 5)) (dCons (dTup (dCons (dC (.int 1)) (dCons (dC (.int 1)) (dCons (dC (.int 2)) dNil)))) (dCons (dTup (dCons (dC (.int 1)) (dCons (dNeg (dC (.int 1))) (dCons (dC (.int 2)) dNil)))) dNil)))) (dTup (dCons (dC (.int 1)) (dCons (dC (.int 0)) (dCons (dC (.int 1)) dNil))))) (dAndV (dOp gEq (dCall 3 c_root_less [] DX0 (dCons (dC (.int 8)) (dCons (dTup (dCons (dC (.int 0)) (dCons (dC (.int 1)) (dCons (dC (.int 2)) dNil)))) (dCons (dTup (dCons (dC (.int 1)) (dCons (dC (.int 0)) (dCons (dC (.int 1)) dNil)))) dNil)))) (dTup (dCons (dNeg (dC (.int 2))) (dCons (dC (.int 1)) (dCons (dC (.int 2)) dNil))))) (dOp gEq (dCall 3 c_root_over [] DX0 (dCons (dC (.int 9)) (dCons (dTup (dCons (dC (.int 6)) (dCons (dC (.int 0)) (dCons (dC (.int 1)) dNil)))) (dCons (dTup (dCons (dC (.int 4)) (dCons (dC (.int 0)) (dCons (dC (.int 1)) dNil)))) dNil)))) (dTup (dCons (dC (.int 3)) (dCons (dC (.int 0)) (dCons (dC (.int 2)) dNil))))))))))
end DL
namespace DL
open PySem PySem.Spec PyProof.Rows L2
local macro_rules | `(tactic| walk_at "rd") => `(tactic| simp only [startD, List.map, List.replicate, List.length_cons, List.length_nil, List.append_eq, List.append_nil, List.nil_append, List.cons_append, Nat.reduceSub, Nat.reduceAdd, List.getElem?_cons_zero, List.getElem?_cons_succ, List.set_cons_zero, List.set_cons_succ,
  dC, dVar, dOp, dTru, gTru, tru, dChain, dAnd, dOr, dNot, dAndV, dOrV, dNotV, dIf, dNeg, gNeg, dNil, dCons, dTup, dLst, dOwn, gIx, rBin, gAdd, gCmpI, dCall, dCallK, dSeq, dNext, dDrop, dRet, dRetN, dIfS, dName, dGNil, dGCons, dGTup, dSub, gSetL, dAsg, dPar, dPar3, dAug, gIpI, dSeqI, gSeqI, dRngI, gRng1, gRng2, dCB, gAbs, gInt, gMax, gMin, gGcd, gLen, lenD, gIsi, tyM, tyD, dBits, gBits, dMet, gAppend, dPart, dNoPart, dSl, dEnds, gIs, isB, dNever, dFor, dLc, wipeD, dYes,
  sizeLine_eq, Nat.reduceLeDiff, gEq_int, gNe_int, gEq_strs, gNe_strs, gIn_two, gRepr_bl, rs_lst, rs_tup, rs_scr, rs_int, atI_0, atI_1, atI_2, atI_3, atI_4, atI_5, ixN_30, ixN_31, ixN_32, gEq_bl, gNe_bl, decide_eq_true_eq, beq_iff_eq, Bool.not_eq_true', beq_eq_false_iff_ne, decide_eq_false_iff_not, Bool.not_true, Bool.not_false, if_true, if_false, Bool.false_eq_true, ite_true, ite_false, true_and, and_true, ne_eq, Bool.bne_false, Bool.bne_true, reduceCtorEq])
local macro_rules | `(tactic| walk_at "rh") => `(tactic| simp only [*, startD, List.map, List.replicate, List.length_cons, List.length_nil, List.append_eq, List.append_nil, List.nil_append, List.cons_append, Nat.reduceSub, Nat.reduceAdd, List.getElem?_cons_zero, List.getElem?_cons_succ, List.set_cons_zero, List.set_cons_succ,
  dC, dVar, dOp, dTru, gTru, tru, dChain, dAnd, dOr, dNot, dAndV, dOrV, dNotV, dIf, dNeg, gNeg, dNil, dCons, dTup, dLst, dOwn, gIx, rBin, gAdd, gCmpI, dCall, dCallK, dSeq, dNext, dDrop, dRet, dRetN, dIfS, dName, dGNil, dGCons, dGTup, dSub, gSetL, dAsg, dPar, dPar3, dAug, gIpI, dSeqI, gSeqI, dRngI, gRng1, gRng2, dCB, gAbs, gInt, gMax, gMin, gGcd, gLen, lenD, gIsi, tyM, tyD, dBits, gBits, dMet, gAppend, dPart, dNoPart, dSl, dEnds, gIs, isB, dNever, dFor, dLc, wipeD, dYes,
  sizeLine_eq, Nat.reduceLeDiff, gEq_int, gNe_int, gEq_strs, gNe_strs, gIn_two, gRepr_bl, rs_lst, rs_tup, rs_scr, rs_int, atI_0, atI_1, atI_2, atI_3, atI_4, atI_5, ixN_30, ixN_31, ixN_32, gEq_bl, gNe_bl, decide_eq_true_eq, beq_iff_eq, Bool.not_eq_true', beq_eq_false_iff_ne, decide_eq_false_iff_not, Bool.not_true, Bool.not_false, if_true, if_false, Bool.false_eq_true, ite_true, ite_false, true_and, and_true, ne_eq, Bool.bne_false, Bool.bne_true, reduceCtorEq])
local macro_rules | `(tactic| walk_at "kb") => `(tactic| simp only [kb_NoneType_list, kb_bool_list, kb_int_list, kb_str_list, kb_tuple_list, kb_list_list, kb_dict_list, kb_NoneType_int, kb_bool_int, kb_int_int, kb_str_int, kb_tuple_int, kb_list_int, kb_dict_int, kb_NoneType_bool, kb_bool_bool, kb_int_bool, kb_str_bool, kb_tuple_bool, kb_list_bool, kb_dict_bool, kb_NoneType_tuple, kb_bool_tuple, kb_int_tuple, kb_str_tuple, kb_tuple_tuple, kb_list_tuple, kb_dict_tuple, if_true, if_false, Bool.false_eq_true, ite_true, ite_false, Bool.not_true, Bool.not_false])
/-! ### bits -/
def Bi (n : Nat) (i : Int) : Prop := i.natAbs < 2 ^ n
theorem Bi.mono {n k : Nat} {i : Int} (h : Bi n i) (hk : n ≤ k := by decide) : Bi k i := Nat.lt_of_lt_of_le h (Nat.pow_le_pow_right (by decide) hk)
theorem Bi.mul {n k : Nat} {i j : Int} (h : Bi n i) (g : Bi k j) : Bi (n + k) (i * j) := by
  unfold Bi at *
  rw [Int.natAbs_mul, Nat.pow_add]
  exact Nat.mul_lt_mul'' h g
theorem Bi.add {n : Nat} {i j : Int} (h : Bi n i) (g : Bi n j) : Bi (n + 1) (i + j) := by
  unfold Bi at *
  rw [Nat.pow_succ]
  omega
theorem Bi.sub {n : Nat} {i j : Int} (h : Bi n i) (g : Bi n j) : Bi (n + 1) (i - j) := by
  unfold Bi at *
  rw [Nat.pow_succ]
  omega
theorem Bi.neg {n : Nat} {i : Int} (h : Bi n i) : Bi n (0 - i) := by
  unfold Bi at *
  omega
theorem Bi.sm {n : Nat} {i : Int} (h : Bi n i) (hn : n ≤ 400000 := by decide) : Sm i := Sm.of n h hn
theorem Bi.big {n : Nat} {i : Int} (h : Bi n i) (hn : n ≤ 4000 := by decide) : -BIG ≤ i ∧ i ≤ BIG := by
  have h1 := bign_ge hn
  unfold Bi at h
  unfold BIG
  omega
theorem Bi.of_dvd {n : Nat} {c a x : Int} (h : Bi n x) (hc : c ≠ 0) (e : x = c * a) : Bi n a := by
  unfold Bi at *
  rw [e, Int.natAbs_mul] at h
  exact Nat.lt_of_le_of_lt (Nat.le_mul_of_pos_left _ (by omega)) h
theorem Bi.lit {n : Nat} {i : Int} (h : Bi n i) : lit n (.int i) = true ∨ n = 0 := by
  by_cases h0 : n = 0
  · exact .inr h0
  · left
    simp only [DL.lit, decide_eq_true_eq]
    exact log2_of n h (by omega)
theorem Bi.of_abs {n : Nat} {i : Int} (k : Nat) (h : i.natAbs ≤ k) (hk : k < 2 ^ n := by decide) : Bi n i := Nat.lt_of_le_of_lt h hk

/-! ### normal forms -/
abbrev T3 (a b c : Int) : D := .tup [.int a, .int b, .int c]
/-- (a, b, c) in least terms, over the measure m -/
structure NF (m a b c : Int) : Prop where
  pos : 1 ≤ c
  cop : Int.gcd (Int.gcd a b : Int) c = 1
  pr : isSq m → b = 0
theorem NF.is {m a b c : Int} (h : NF m a b c) : isRootD m (T3 a b c) = true := by
  have h1 := h.pos
  unfold isRootD
  simp only [T3, h1, decide_true, h.cop, Bool.true_and]
  by_cases hq : isSq m
  · rw [h.pr hq]; rfl
  · have : (isq m * isq m == m) = false := beq_eq_false_iff_ne.mpr hq
    simp [this]
def nC (X Y b : Int) : Int := if b < 0 then 0 - (Int.gcd (Int.gcd X Y : Int) b : Int) else (Int.gcd (Int.gcd X Y : Int) b : Int)
def nf (X Y b : Int) : D := T3 (X.fdiv (nC X Y b)) (Y.fdiv (nC X Y b)) (b.fdiv (nC X Y b))
theorem rootN_nf (m x y b : Int) : rootN m x y b = nf (rnX m x y) (rnY m y) b := rfl
theorem rootN_pr {m x y : Int} (b : Int) (h : isSq m → y = 0) : rootN m x y b = nf x y b := by
  rw [rootN_nf]
  by_cases hq : isSq m
  · have e := h hq
    subst e
    unfold rnX rnY
    rw [if_pos hq, if_pos hq, Int.zero_mul, Int.add_zero]
  · unfold rnX rnY
    rw [if_neg hq, if_neg hq]
theorem nf_parts (X Y : Int) {b : Int} (hb : b ≠ 0) : ∃ c a1 a2 a3, c ≠ 0 ∧ X = c * a1 ∧ Y = c * a2 ∧ b = c * a3 ∧ nf X Y b = T3 a1 a2 a3 ∧ 1 ≤ a3 ∧ Int.gcd (Int.gcd a1 a2 : Int) a3 = 1 := by
  have hg := gcd_dvd3 X Y b
  have hg0 := gcd_bound (g := (Int.gcd X Y : Int)) hb
  have hcd : nC X Y b ≠ 0 ∧ nC X Y b ∣ X ∧ nC X Y b ∣ Y ∧ nC X Y b ∣ b ∧ (nC X Y b).natAbs = Int.gcd (Int.gcd X Y : Int) b ∧ (nC X Y b < 0 ↔ b < 0) := by
    unfold nC
    split
    · refine ⟨by omega, ?_, ?_, ?_, by omega, by omega⟩
      · rw [Int.zero_sub]; exact Int.neg_dvd.mpr hg.1
      · rw [Int.zero_sub]; exact Int.neg_dvd.mpr hg.2.1
      · rw [Int.zero_sub]; exact Int.neg_dvd.mpr hg.2.2
    · exact ⟨by omega, hg.1, hg.2.1, hg.2.2, by omega, by omega⟩
  have hn : nf X Y b = T3 (X.fdiv (nC X Y b)) (Y.fdiv (nC X Y b)) (b.fdiv (nC X Y b)) := rfl
  generalize nC X Y b = c at hcd hn
  obtain ⟨h0, ⟨t1, e1⟩, ⟨t2, e2⟩, ⟨t3, e3⟩, hab, hsg⟩ := hcd
  rw [e1, e2, e3, Int.mul_fdiv_cancel_left _ h0, Int.mul_fdiv_cancel_left _ h0, Int.mul_fdiv_cancel_left _ h0] at hn
  refine ⟨c, t1, t2, t3, h0, e1, e2, e3, by rw [e1, e2, e3]; exact hn, ?_, ?_⟩
  · by_cases z : 1 ≤ t3
    · exact z
    · exfalso
      rcases (by omega : c < 0 ∨ 0 < c) with q | q
      · have h1 : 0 ≤ c * t3 := Int.mul_nonneg_of_nonpos_of_nonpos (by omega) (by omega)
        have := hsg.mp q
        omega
      · have h1 : c * t3 ≤ 0 := Int.mul_nonpos_of_nonneg_of_nonpos (by omega) (by omega)
        omega
  · have h2 : Int.gcd (Int.gcd X Y : Int) b = c.natAbs * Int.gcd (Int.gcd t1 t2 : Int) t3 := by
      rw [e1, e2, e3, Int.gcd_mul_left]
      have e4 : ((c.natAbs * Int.gcd t1 t2 : Nat) : Int) = (c.natAbs : Int) * (Int.gcd t1 t2 : Int) := Int.natCast_mul _ _
      rw [e4]
      unfold Int.gcd
      rw [Int.natAbs_mul, Int.natAbs_mul, Int.natAbs_natCast, Nat.gcd_mul_left]
    rw [← hab] at h2
    have h3 : c.natAbs * 1 = c.natAbs * Int.gcd (Int.gcd t1 t2 : Int) t3 := by omega
    exact (Nat.eq_of_mul_eq_mul_left (by omega) h3).symm
theorem nf_scale {k X Y b : Int} (hk : k ≠ 0) (hb : b ≠ 0) : nf (k * X) (k * Y) (k * b) = nf X Y b := by
  have h : ¬ isSq 2 := by
    have e : isq 2 = 1 := isq_uni (by decide) (by decide) (by decide)
    unfold isSq; rw [e]; decide
  rw [← rootN_pr (m := 2) (k * b) (fun z => absurd z h), ← rootN_pr (m := 2) b (fun z => absurd z h)]
  exact rootN_scale hk hb
theorem nf_eq {X Y b X' Y' b' : Int} (hb : b ≠ 0) (hb' : b' ≠ 0) (h1 : X * b' = X' * b) (h2 : Y * b' = Y' * b) : nf X Y b = nf X' Y' b' := by
  rw [← nf_scale hb' hb, ← nf_scale (X := X') (Y := Y') hb hb']
  have e1 : b' * X = b * X' := by rw [Int.mul_comm, h1, Int.mul_comm]
  have e2 : b' * Y = b * Y' := by rw [Int.mul_comm, h2, Int.mul_comm]
  rw [e1, e2, Int.mul_comm b' b]
theorem nf_self {a b c : Int} (h1 : 1 ≤ c) (h2 : Int.gcd (Int.gcd a b : Int) c = 1) : nf a b c = T3 a b c := by
  have e : nC a b c = 1 := by unfold nC; rw [if_neg (by omega), h2]; rfl
  unfold nf
  rw [e, Int.fdiv_one, Int.fdiv_one, Int.fdiv_one]
theorem NF.self {m a b c : Int} (h : NF m a b c) : rootN m a b c = T3 a b c := by
  rw [rootN_pr c h.pr, nf_self h.pos h.cop]
/-- a root number in least terms: its parts -/
theorem rootN_parts {m x y b : Int} (hb : b ≠ 0) (h : isSq m → y = 0) : ∃ c a1 a2 a3, c ≠ 0 ∧ x = c * a1 ∧ y = c * a2 ∧ b = c * a3 ∧ rootN m x y b = T3 a1 a2 a3 ∧ NF m a1 a2 a3 := by
  obtain ⟨c, a1, a2, a3, h0, e1, e2, e3, e4, h1, h2⟩ := nf_parts x y hb
  refine ⟨c, a1, a2, a3, h0, e1, e2, e3, by rw [rootN_pr b h, e4], h1, h2, fun q => ?_⟩
  have := h q
  rw [this] at e2
  rcases Int.mul_eq_zero.mp e2.symm with z | z
  · exact absurd z h0
  · exact z
theorem rootN_partsX {m x y b : Int} (hb : b ≠ 0) : ∃ c a1 a2 a3, c ≠ 0 ∧ rnX m x y = c * a1 ∧ rnY m y = c * a2 ∧ b = c * a3 ∧ rootN m x y b = T3 a1 a2 a3 ∧ NF m a1 a2 a3 := by
  obtain ⟨c, a1, a2, a3, h0, e1, e2, e3, e4, h1, h2⟩ := nf_parts (rnX m x y) (rnY m y) hb
  refine ⟨c, a1, a2, a3, h0, e1, e2, e3, e4, h1, h2, fun q => ?_⟩
  have e5 : rnY m y = 0 := if_pos q
  rw [e5] at e2
  rcases Int.mul_eq_zero.mp e2.symm with z | z
  · exact absurd z h0
  · exact z
/-- a square times a measure that is a square: the measure is one -/
theorem sq_of_prod {m a b : Int} (hb : b ≠ 0) (hm : 0 ≤ m) (h : a * a = m * b * b) : isSq m := by
  have h1 : b * b ∣ a * a := ⟨m, by rw [h, Int.mul_assoc, Int.mul_comm]⟩
  have h2 : b ∣ a := by
    have h3 : b.natAbs * b.natAbs ∣ a.natAbs * a.natAbs := by
      rw [← Int.natAbs_mul, ← Int.natAbs_mul]; exact Int.natAbs_dvd_natAbs.mpr h1
    have h4 : b.natAbs ^ 2 ∣ a.natAbs ^ 2 := by rw [Nat.pow_two, Nat.pow_two]; exact h3
    exact Int.natAbs_dvd_natAbs.mp ((Nat.pow_dvd_pow_iff (by decide)).mp h4)
  obtain ⟨t, rfl⟩ := h2
  have h5 : (b * b) * (t * t) = (b * b) * m := by grind
  have h6 : t * t = m := Int.eq_of_mul_eq_mul_left (Int.mul_ne_zero hb hb) h5
  have h7 : ((t.natAbs : Nat) : Int) * ((t.natAbs : Nat) : Int) = m := by
    rw [← h6, ← Int.natCast_mul, Int.natAbs_mul_self]
  unfold isSq
  rw [← h7, isq_self (by omega)]
theorem norm_ne {m a b : Int} (hm : 0 ≤ m) (hp : isSq m → b = 0) (h : ¬ (a = 0 ∧ b = 0)) : a * a - m * b * b ≠ 0 := by
  intro e
  by_cases hb : b = 0
  · subst hb
    have : a * a = 0 := by grind
    rcases Int.mul_eq_zero.mp this with z | z <;> exact h ⟨z, rfl⟩
  · exact hb (hp (sq_of_prod (a := a) hb hm (by omega)))

/-! ### sums, products, quotients -/
def Sz (n : Nat) (a b c : Int) : Prop := Bi n a ∧ Bi n b ∧ Bi n c
def rnPlus (m a1 a2 a3 b1 b2 b3 : Int) : D := rootN m (a1 * b3 + b1 * a3) (a2 * b3 + b2 * a3) (a3 * b3)
def rnTimes (m a1 a2 a3 b1 b2 b3 : Int) : D := rootN m (a1 * b1 + m * a2 * b2) (a1 * b2 + a2 * b1) (a3 * b3)
def rnInv (m b1 b2 b3 : Int) : D := rootN m (b1 * b3) (0 - b2 * b3) (b1 * b1 - m * b2 * b2)
theorem rnPlus_parts {m a1 a2 a3 b1 b2 b3 : Int} (ha : NF m a1 a2 a3) (hb : NF m b1 b2 b3) : ∃ c t1 t2 t3, c ≠ 0 ∧ a1 * b3 + b1 * a3 = c * t1 ∧ a2 * b3 + b2 * a3 = c * t2 ∧ a3 * b3 = c * t3 ∧ rnPlus m a1 a2 a3 b1 b2 b3 = T3 t1 t2 t3 ∧ NF m t1 t2 t3 := by
  refine rootN_parts (Int.mul_ne_zero (by have := ha.pos; omega) (by have := hb.pos; omega)) fun q => ?_
  rw [ha.pr q, hb.pr q]; simp
theorem rnTimes_parts {m a1 a2 a3 b1 b2 b3 : Int} (ha : NF m a1 a2 a3) (hb : NF m b1 b2 b3) : ∃ c t1 t2 t3, c ≠ 0 ∧ a1 * b1 + m * a2 * b2 = c * t1 ∧ a1 * b2 + a2 * b1 = c * t2 ∧ a3 * b3 = c * t3 ∧ rnTimes m a1 a2 a3 b1 b2 b3 = T3 t1 t2 t3 ∧ NF m t1 t2 t3 := by
  refine rootN_parts (Int.mul_ne_zero (by have := ha.pos; omega) (by have := hb.pos; omega)) fun q => ?_
  rw [ha.pr q, hb.pr q]; simp
theorem rnInv_parts {m b1 b2 b3 : Int} (hm : 0 ≤ m) (hb : NF m b1 b2 b3) (h : ¬ (b1 = 0 ∧ b2 = 0)) : ∃ c t1 t2 t3, c ≠ 0 ∧ b1 * b3 = c * t1 ∧ 0 - b2 * b3 = c * t2 ∧ b1 * b1 - m * b2 * b2 = c * t3 ∧ rnInv m b1 b2 b3 = T3 t1 t2 t3 ∧ NF m t1 t2 t3 := by
  refine rootN_parts (norm_ne hm hb.pr h) fun q => ?_
  rw [hb.pr q]; simp
def sp_check_root : DSp := fun ds M Q _ => ∃ m d, ds = [.int m, d] ∧ 0 ≤ m ∧ m ≤ BIG ∧ Rootable M d ∧ isRootD m d = true ∧ Q .non M
theorem rd_check_root : ∀ ds M Q, ds.length = 2 → sp_check_root ds M Q DX0 → t_check_root sp_is_root_by (dEnds M Q) (startD 2 ds) M := by
  rintro _ M Q - ⟨m, d, rfl, h0, hB, hr, h, q⟩
  unfold t_check_root
  walk_at "rd"
  refine ⟨m, d, rfl, h0, hB, hr, ?_⟩
  rw [h]
  walk_at "rd"
  exact rtq q
def sp_plus_by : DSp := fun ds M Q _ => ∃ m a1 a2 a3 b1 b2 b3 : Int, ds = [.int m, T3 a1 a2 a3, T3 b1 b2 b3] ∧ 0 ≤ m ∧ Bi 200 m ∧ a3 ≠ 0 ∧ b3 ≠ 0 ∧ Sz 1800 a1 a2 a3 ∧ Sz 1800 b1 b2 b3 ∧ Q (rnPlus m a1 a2 a3 b1 b2 b3) M
theorem rd_plus_by : ∀ ds M Q, ds.length = 3 → sp_plus_by ds M Q DX0 → t_plus_by sp_root_by (dEnds M Q) (startD 4 ds) M := by
  rintro _ M Q - ⟨m, a1, a2, a3, b1, b2, b3, rfl, h0, hm, a0, b0, ⟨sa1, sa2, sa3⟩, ⟨sb1, sb2, sb3⟩, q⟩
  unfold t_plus_by
  walk_at "rd"
  have y := ((sa2.mul sb3).add (sb2.mul sa3)).big
  have b := (sa3.mul sb3).big
  exact ⟨⟨sa1.sm, sb3.sm⟩, ⟨sb1.sm, sa3.sm⟩, ⟨sa2.sm, sb3.sm⟩, ⟨sb2.sm, sa3.sm⟩, ⟨sa3.sm, sb3.sm⟩, m, _, _, _, rfl, h0, hm.big.2, y.1, y.2, b.1, b.2, Int.mul_ne_zero a0 b0, rtq q⟩
def sp_minus_by : DSp := fun ds M Q _ => ∃ m a1 a2 a3 b1 b2 b3 : Int, ds = [.int m, T3 a1 a2 a3, T3 b1 b2 b3] ∧ 0 ≤ m ∧ Bi 200 m ∧ a3 ≠ 0 ∧ b3 ≠ 0 ∧ Sz 1800 a1 a2 a3 ∧ Sz 1800 b1 b2 b3 ∧ Q (rnPlus m a1 a2 a3 (0 - b1) (0 - b2) b3) M
theorem rd_minus_by : ∀ ds M Q, ds.length = 3 → sp_minus_by ds M Q DX0 → t_minus_by sp_plus_by (dEnds M Q) (startD 3 ds) M := by
  rintro _ M Q - ⟨m, a1, a2, a3, b1, b2, b3, rfl, h0, hm, a0, b0, sa, ⟨sb1, sb2, sb3⟩, q⟩
  unfold t_minus_by
  walk_at "rd"
  exact ⟨m, a1, a2, a3, _, _, _, rfl, h0, hm, a0, b0, sa, ⟨sb1.neg, sb2.neg, sb3⟩, rtq q⟩
def sp_times_by : DSp := fun ds M Q _ => ∃ m a1 a2 a3 b1 b2 b3 : Int, ds = [.int m, T3 a1 a2 a3, T3 b1 b2 b3] ∧ 0 ≤ m ∧ Bi 200 m ∧ a3 ≠ 0 ∧ b3 ≠ 0 ∧ Sz 1800 a1 a2 a3 ∧ Sz 2100 b1 b2 b3 ∧ Q (rnTimes m a1 a2 a3 b1 b2 b3) M
theorem rd_times_by : ∀ ds M Q, ds.length = 3 → sp_times_by ds M Q DX0 → t_times_by sp_root_by (dEnds M Q) (startD 4 ds) M := by
  rintro _ M Q - ⟨m, a1, a2, a3, b1, b2, b3, rfl, h0, hm, a0, b0, ⟨sa1, sa2, sa3⟩, ⟨sb1, sb2, sb3⟩, q⟩
  unfold t_times_by
  walk_at "rd"
  have y := ((sa1.mul sb2).add (sa2.mul sb1)).big
  have b := (sa3.mul sb3).big
  exact ⟨⟨sa1.sm, sb1.sm⟩, ⟨hm.sm, sa2.sm⟩, ⟨(hm.mul sa2).sm, sb2.sm⟩, ⟨sa1.sm, sb2.sm⟩, ⟨sa2.sm, sb1.sm⟩, ⟨sa3.sm, sb3.sm⟩, m, _, _, _, rfl, h0, hm.big.2, y.1, y.2, b.1, b.2, Int.mul_ne_zero a0 b0, rtq q⟩
def sp_over_by : DSp := fun ds M Q _ => ∃ m a1 a2 a3 b1 b2 b3 : Int, ds = [.int m, T3 a1 a2 a3, T3 b1 b2 b3] ∧ 0 ≤ m ∧ Bi 200 m ∧ a3 ≠ 0 ∧ Sz 1800 a1 a2 a3 ∧ Sz 900 b1 b2 b3 ∧ NF m b1 b2 b3 ∧ ¬ (b1 = 0 ∧ b2 = 0) ∧
  ∀ w1 w2 w3, rnInv m b1 b2 b3 = T3 w1 w2 w3 → NF m w1 w2 w3 → Q (rnTimes m a1 a2 a3 w1 w2 w3) M
theorem rd_over_by : ∀ ds M Q, ds.length = 3 → sp_over_by ds M Q DX0 → t_over_by sp_times_by sp_root_by (dEnds M Q) (startD 4 ds) M := by
  rintro _ M Q - ⟨m, a1, a2, a3, b1, b2, b3, rfl, h0, hm, a0, sa, ⟨sb1, sb2, sb3⟩, hb, hz, q⟩
  unfold t_over_by
  walk_at "rd"
  have y := (sb2.mul sb3).neg.big
  have bw : Bi 2001 (b1 * b1 - m * b2 * b2) := ((sb1.mul sb1).mono (k := 2000)).sub ((hm.mul sb2).mul sb2)
  have b := bw.big
  obtain ⟨c, w1, w2, w3, c0, e1, e2, e3, e4, hw⟩ := rnInv_parts h0 hb hz
  have e5 : rootN m (b1 * b3) (0 - b2 * b3) (b1 * b1 - m * b2 * b2) = T3 w1 w2 w3 := e4
  refine ⟨⟨sb1.sm, sb1.sm⟩, ⟨hm.sm, sb2.sm⟩, ⟨(hm.mul sb2).sm, sb2.sm⟩, ⟨sb1.sm, sb3.sm⟩, ⟨sb2.sm, sb3.sm⟩, m, _, _, _, rfl, h0, hm.big.2, y.1, y.2, b.1, b.2, norm_ne h0 hb.pr hz, ?_⟩
  rw [e5]
  refine ⟨m, a1, a2, a3, w1, w2, w3, rfl, h0, hm, a0, by have := hw.pos; omega, sa, ⟨?_, ?_, ?_⟩, rtq (q w1 w2 w3 e4 hw)⟩
  · exact ((sb1.mul sb3).of_dvd c0 e1).mono
  · exact ((sb2.mul sb3).neg.of_dvd c0 e2).mono
  · exact (bw.of_dvd c0 e3).mono
theorem rootable_T3 (M : Mem) (a b c : Int) : Rootable M (T3 a b c) := rootable_fine M rfl
theorem meas_le {m : Int} (h : isMeas (.int m) = true) : 0 ≤ m := by have := meas_ge h; omega
def sp_root_plus : DSp := fun ds M Q _ => ∃ m a1 a2 a3 b1 b2 b3 : Int, ds = [.int m, T3 a1 a2 a3, T3 b1 b2 b3] ∧ isMeas (.int m) = true ∧ Bi 200 m ∧ NF m a1 a2 a3 ∧ NF m b1 b2 b3 ∧ Sz 1800 a1 a2 a3 ∧ Sz 1800 b1 b2 b3 ∧ Q (rnPlus m a1 a2 a3 b1 b2 b3) M
def sp_root_less : DSp := fun ds M Q _ => ∃ m a1 a2 a3 b1 b2 b3 : Int, ds = [.int m, T3 a1 a2 a3, T3 b1 b2 b3] ∧ isMeas (.int m) = true ∧ Bi 200 m ∧ NF m a1 a2 a3 ∧ NF m b1 b2 b3 ∧ Sz 1800 a1 a2 a3 ∧ Sz 1800 b1 b2 b3 ∧ Q (rnPlus m a1 a2 a3 (0 - b1) (0 - b2) b3) M
def sp_root_times : DSp := fun ds M Q _ => ∃ m a1 a2 a3 b1 b2 b3 : Int, ds = [.int m, T3 a1 a2 a3, T3 b1 b2 b3] ∧ isMeas (.int m) = true ∧ Bi 200 m ∧ NF m a1 a2 a3 ∧ NF m b1 b2 b3 ∧ Sz 1800 a1 a2 a3 ∧ Sz 2100 b1 b2 b3 ∧ Q (rnTimes m a1 a2 a3 b1 b2 b3) M
def sp_root_over : DSp := fun ds M Q _ => ∃ m a1 a2 a3 b1 b2 b3 : Int, ds = [.int m, T3 a1 a2 a3, T3 b1 b2 b3] ∧ isMeas (.int m) = true ∧ Bi 200 m ∧ NF m a1 a2 a3 ∧ NF m b1 b2 b3 ∧ Sz 1800 a1 a2 a3 ∧ Sz 900 b1 b2 b3 ∧ ¬ (b1 = 0 ∧ b2 = 0) ∧
  ∀ w1 w2 w3, rnInv m b1 b2 b3 = T3 w1 w2 w3 → NF m w1 w2 w3 → Q (rnTimes m a1 a2 a3 w1 w2 w3) M
theorem rd_root_plus : ∀ ds M Q, ds.length = 3 → sp_root_plus ds M Q DX0 → t_root_plus sp_check_measure sp_check_root sp_plus_by (dEnds M Q) (startD 3 ds) M := by
  rintro _ M Q - ⟨m, a1, a2, a3, b1, b2, b3, rfl, hm, bm, ha, hb, sa, sb, q⟩
  unfold t_root_plus
  walk_at "rd"
  have m0 := meas_le hm
  exact ⟨m, rfl, hm, m, _, rfl, m0, bm.big.2, rootable_T3 M _ _ _, ha.is, m, _, rfl, m0, bm.big.2, rootable_T3 M _ _ _, hb.is, m, a1, a2, a3, b1, b2, b3, rfl, m0, bm, by have := ha.pos; omega, by have := hb.pos; omega, sa, sb, rtq q⟩
theorem rd_root_less : ∀ ds M Q, ds.length = 3 → sp_root_less ds M Q DX0 → t_root_less sp_check_measure sp_check_root sp_minus_by (dEnds M Q) (startD 3 ds) M := by
  rintro _ M Q - ⟨m, a1, a2, a3, b1, b2, b3, rfl, hm, bm, ha, hb, sa, sb, q⟩
  unfold t_root_less
  walk_at "rd"
  have m0 := meas_le hm
  exact ⟨m, rfl, hm, m, _, rfl, m0, bm.big.2, rootable_T3 M _ _ _, ha.is, m, _, rfl, m0, bm.big.2, rootable_T3 M _ _ _, hb.is, m, a1, a2, a3, b1, b2, b3, rfl, m0, bm, by have := ha.pos; omega, by have := hb.pos; omega, sa, sb, rtq q⟩
theorem rd_root_times : ∀ ds M Q, ds.length = 3 → sp_root_times ds M Q DX0 → t_root_times sp_check_measure sp_check_root sp_times_by (dEnds M Q) (startD 3 ds) M := by
  rintro _ M Q - ⟨m, a1, a2, a3, b1, b2, b3, rfl, hm, bm, ha, hb, sa, sb, q⟩
  unfold t_root_times
  walk_at "rd"
  have m0 := meas_le hm
  exact ⟨m, rfl, hm, m, _, rfl, m0, bm.big.2, rootable_T3 M _ _ _, ha.is, m, _, rfl, m0, bm.big.2, rootable_T3 M _ _ _, hb.is, m, a1, a2, a3, b1, b2, b3, rfl, m0, bm, by have := ha.pos; omega, by have := hb.pos; omega, sa, sb, rtq q⟩
theorem rd_root_over : ∀ ds M Q, ds.length = 3 → sp_root_over ds M Q DX0 → t_root_over sp_check_measure sp_check_root sp_over_by (dEnds M Q) (startD 3 ds) M := by
  rintro _ M Q - ⟨m, a1, a2, a3, b1, b2, b3, rfl, hm, bm, ha, hb, sa, sb, hz, q⟩
  unfold t_root_over
  walk_at "rd"
  have m0 := meas_le hm
  refine ⟨m, rfl, hm, m, _, rfl, m0, bm.big.2, rootable_T3 M _ _ _, ha.is, m, _, rfl, m0, bm.big.2, rootable_T3 M _ _ _, hb.is, ?_⟩
  have fin : sp_over_by [.int m, T3 a1 a2 a3, T3 b1 b2 b3] M (Rtq M Q) DX0 := ⟨m, a1, a2, a3, b1, b2, b3, rfl, m0, bm, by have := ha.pos; omega, sa, sb, hb, hz, fun w1 w2 w3 e h => rtq (q w1 w2 w3 e h)⟩
  dsimp only
  by_cases z1 : b1 = 0
  · rw [if_pos z1, if_neg (fun z2 => hz ⟨z1, z2⟩)]
    exact fin
  · rw [if_neg z1]
    exact fin
/-! ### the law's drawn root numbers -/
theorem rd_l_random_4762 : ∀ ds M Q, ds.length = 2 → sp_random ds M Q DX0 → t_l_random_4762 sp_hash (dEnds M Q) (startD 4 ds) M := rd_l_random_7821
/-- a drawn root number; its sizes -/
def sp_drawn : DSp := fun ds M Q _ => ∃ (k : Nat) (m n : Int), ds = [.own k, .int m, .int 20] ∧ isMeas (.int m) = true ∧ m ≤ 10 ^ 29 ∧ Gn k n M ∧ n ≤ P40 - 400 ∧ ∀ a1 a2 a3 M', NF m a1 a2 a3 → Sz 130 a1 a2 a3 → Gst k (n + 160) M M' → Q (T3 a1 a2 a3) M'
theorem isq_small {m : Int} (m0 : 0 ≤ m) (h : m ≤ 10 ^ 29) : Bi 50 (isq m) := by
  have i1 := isq_le m0
  have i0 := isq_nn m
  by_cases z : isq m < 10 ^ 15
  · exact Bi.of_abs (10 ^ 15) (by omega)
  · exfalso
    have : (10 ^ 15 : Int) * 10 ^ 15 ≤ isq m * isq m := Int.mul_le_mul (by omega) (by omega) (by decide) i0
    omega
theorem rd_l_drawn_33f3 : ∀ ds M Q, ds.length = 3 → sp_drawn ds M Q DX0 → t_l_drawn_33f3 sp_isq sp_random sp_root_by (dEnds M Q) (startD 9 ds) M := by
  rintro _ M Q - ⟨k, m, n, rfl, hm, hm29, hg, hn, q⟩
  have m0 := meas_le hm
  have p29 := p400_ten (i := 29) (by decide)
  have pb := p400_big
  have p9 := p400_900
  unfold t_l_drawn_33f3
  refine dSeq_open fun B hB => ?_
  walk_at "rd"
  refine ⟨m, rfl, m0, by omega, ?_⟩
  rw [← hB]
  clear hB B
  have i1 := isq_le_self m0
  have i0 := isq_nn m
  have sq : Sm (isq m) := sm_big (by omega) (by omega)
  refine dSeq_open fun B hB => ?_
  walk_at "rd"
  refine ⟨⟨sq, sq⟩, ?_⟩
  have bq := isq_small m0 hm29
  by_cases hq : isSq m
  · rw [if_pos (show isq m * isq m = m from hq)]
    refine ⟨k, 14, n, rfl, by decide, by omega, hg, by omega, fun v M1 v0 v1 g1 => ?_⟩
    dsimp only
    refine ⟨⟨by omega, by omega⟩, ?_⟩
    generalize hT : v.toNat = T
    have eT : T < 14 := by omega
    refine ⟨fun i r M' => i ≤ T ∧ M' = M1 ∧ ∃ b tn, r = [some (.own k), some (.int m), some (.int 20), some (.int b), some (.int (isq m)), tn, none, none, none] ∧ 2 ≤ b ∧ b ≤ 2 * 10 ^ i, ⟨by omega, rfl, 2, _, rfl, by omega, by decide⟩, ?_⟩
    rintro i r M' ⟨hi, rfl, b, tn, rfl, b5, b1⟩
    have hp := p400_ten (i := i) (by omega)
    refine ⟨trivial, fun hl => ?_, fun d hd => ?_⟩
    · have b2 : b ≤ 2 * 10 ^ (14 - 1) := by
        have h0 : (10 : Nat) ^ i ≤ 10 ^ (14 - 1) := Nat.pow_le_pow_right (by decide) (by omega)
        have e : ((10 ^ i : Nat) : Int) = (10 : Int) ^ i := by rw [Int.natCast_pow]; rfl
        omega
      have b2 : b ≤ 20000000000000 := b2
      rw [← hB]
      clear hB B
      dsimp only
      refine dSeq_open fun B hB => ?_
      walk_at "rd"
      have sb : Sm b := sm_big (by omega) (by omega)
      have s2 : Sm 2 := Sm.of 2 (by decide)
      refine ⟨⟨s2, sb⟩, k, _, _, rfl, by omega, by omega, g1.2.1, by omega, fun x M2 x0 x1 g2 => ?_⟩
      dsimp only
      refine ⟨⟨s2, sb⟩, k, _, _, rfl, by omega, by omega, g2.2.1, by omega, fun y M3 y0 y1 g3 => ?_⟩
      dsimp only
      refine ⟨k, _, _, rfl, by omega, by omega, g3.2.1, by omega, fun z M4 z0 z1 g4 => ?_⟩
      dsimp only
      rw [← hB]
      clear hB B
      walk_at "rd"
      refine ⟨m, _, _, _, rfl, m0, by omega, by omega, by omega, by omega, by omega, by omega, ?_⟩
      obtain ⟨c, t1, t2, t3, c0, e1, e2, e3, e4, ht⟩ := rootN_partsX (m := m) (x := x - b) (y := y - b) (b := 1 + z) (by omega)
      rw [e4]
      have bx : Bi 45 (x - b) := Bi.of_abs 20000000000000 (by omega)
      have by' : Bi 45 (y - b) := Bi.of_abs 20000000000000 (by omega)
      have bz : Bi 45 (1 + z) := Bi.of_abs (20000000000000 + 1) (by omega)
      have bX : Bi 130 (rnX m (x - b) (y - b)) := by
        unfold rnX
        rw [if_pos hq]
        exact ((bx.mono (k := 95)).add (by'.mul bq)).mono
      have bY : Bi 130 (rnY m (y - b)) := by
        unfold rnY
        rw [if_pos hq]
        exact Bi.of_abs 0 (by decide)
      exact (((g1.trans g2).trans g3).trans g4).rtq (q t1 t2 t3 M4 ht ⟨bX.of_dvd c0 e1, bY.of_dvd c0 e2, (bz.mono).of_dvd c0 e3⟩ ((((g1.trans g2).trans g3).trans g4).le (by omega)))
    · obtain ⟨hi2, rfl⟩ := rng_get.mp hd
      walk_at "rd"
      have sb : Sm b := sm_big (by omega) (by omega)
      refine ⟨⟨Sm.of 5 (by decide), sb⟩, by omega, _, _, rfl, by omega, ?_⟩
      rw [Int.pow_succ]
      omega
  · rw [if_neg (show ¬ isq m * isq m = m from hq)]
    refine ⟨k, 20, n, rfl, by decide, by omega, hg, by omega, fun v M1 v0 v1 g1 => ?_⟩
    dsimp only
    refine ⟨⟨by omega, by omega⟩, ?_⟩
    generalize hT : v.toNat = T
    have eT : T < 20 := by omega
    refine ⟨fun i r M' => i ≤ T ∧ M' = M1 ∧ ∃ b tn, r = [some (.own k), some (.int m), some (.int 20), some (.int b), some (.int (isq m)), tn, none, none, none] ∧ 2 ≤ b ∧ b ≤ 2 * 10 ^ i, ⟨by omega, rfl, 2, _, rfl, by omega, by decide⟩, ?_⟩
    rintro i r M' ⟨hi, rfl, b, tn, rfl, b5, b1⟩
    have hp := p400_ten (i := i) (by omega)
    refine ⟨trivial, fun hl => ?_, fun d hd => ?_⟩
    · have b2 : b ≤ 2 * 10 ^ (20 - 1) := by
        have h0 : (10 : Nat) ^ i ≤ 10 ^ (20 - 1) := Nat.pow_le_pow_right (by decide) (by omega)
        have e : ((10 ^ i : Nat) : Int) = (10 : Int) ^ i := by rw [Int.natCast_pow]; rfl
        omega
      have b2 : b ≤ 20000000000000000000 := b2
      rw [← hB]
      clear hB B
      dsimp only
      refine dSeq_open fun B hB => ?_
      walk_at "rd"
      have sb : Sm b := sm_big (by omega) (by omega)
      have s2 : Sm 2 := Sm.of 2 (by decide)
      refine ⟨⟨s2, sb⟩, k, _, _, rfl, by omega, by omega, g1.2.1, by omega, fun x M2 x0 x1 g2 => ?_⟩
      dsimp only
      refine ⟨⟨s2, sb⟩, k, _, _, rfl, by omega, by omega, g2.2.1, by omega, fun y M3 y0 y1 g3 => ?_⟩
      dsimp only
      refine ⟨k, _, _, rfl, by omega, by omega, g3.2.1, by omega, fun z M4 z0 z1 g4 => ?_⟩
      dsimp only
      rw [← hB]
      clear hB B
      walk_at "rd"
      refine ⟨m, _, _, _, rfl, m0, by omega, by omega, by omega, by omega, by omega, by omega, ?_⟩
      obtain ⟨c, t1, t2, t3, c0, e1, e2, e3, e4, ht⟩ := rootN_partsX (m := m) (x := x - b) (y := y - b) (b := 1 + z) (by omega)
      rw [e4]
      have bx : Bi 65 (x - b) := Bi.of_abs 20000000000000000000 (by omega)
      have by' : Bi 65 (y - b) := Bi.of_abs 20000000000000000000 (by omega)
      have bz : Bi 65 (1 + z) := Bi.of_abs (20000000000000000000 + 1) (by omega)
      have bX : Bi 130 (rnX m (x - b) (y - b)) := by
        unfold rnX
        rw [if_neg hq]
        exact bx.mono
      have bY : Bi 130 (rnY m (y - b)) := by
        unfold rnY
        rw [if_neg hq]
        exact by'.mono
      exact (((g1.trans g2).trans g3).trans g4).rtq (q t1 t2 t3 M4 ht ⟨bX.of_dvd c0 e1, bY.of_dvd c0 e2, (bz.mono).of_dvd c0 e3⟩ ((((g1.trans g2).trans g3).trans g4).le (by omega)))
    · obtain ⟨hi2, rfl⟩ := rng_get.mp hd
      walk_at "rd"
      have sb : Sm b := sm_big (by omega) (by omega)
      refine ⟨⟨Sm.of 5 (by decide), sb⟩, by omega, _, _, rfl, by omega, ?_⟩
      rw [Int.pow_succ]
      omega

/-! ### sizes and values, for the laws -/
theorem NF.neg {m a b c : Int} (h : NF m a b c) : NF m (0 - a) (0 - b) c := by
  refine ⟨h.pos, ?_, fun q => by rw [h.pr q]; rfl⟩
  rw [Int.zero_sub, Int.zero_sub, Int.gcd_neg, Int.neg_gcd]
  exact h.cop
theorem Sz.neg {n : Nat} {a b c : Int} (h : Sz n a b c) : Sz n (0 - a) (0 - b) c := ⟨h.1.neg, h.2.1.neg, h.2.2⟩
theorem Sz.mono {n k : Nat} {a b c : Int} (h : Sz n a b c) (hk : n ≤ k := by decide) : Sz k a b c := ⟨h.1.mono hk, h.2.1.mono hk, h.2.2.mono hk⟩
theorem plus_sz {c a1 a2 a3 b1 b2 b3 t1 t2 t3 : Int} {u v : Nat} (ha : Sz u a1 a2 a3) (hb : Sz v b1 b2 b3) (c0 : c ≠ 0) (e1 : a1 * b3 + b1 * a3 = c * t1) (e2 : a2 * b3 + b2 * a3 = c * t2) (e3 : a3 * b3 = c * t3) : Sz (u + v + 1) t1 t2 t3 := by
  have f : ∀ {i j : Int}, Bi v i → Bi u j → Bi (u + v) (i * j) := fun h g => by have := h.mul g; rwa [Nat.add_comm] at this
  refine ⟨((ha.1.mul hb.2.2).add (f hb.1 ha.2.2)).of_dvd c0 e1, ((ha.2.1.mul hb.2.2).add (f hb.2.1 ha.2.2)).of_dvd c0 e2, ((ha.2.2.mul hb.2.2).mono (by omega)).of_dvd c0 e3⟩
theorem times_sz {m c a1 a2 a3 b1 b2 b3 t1 t2 t3 : Int} {u v w : Nat} (hm : Bi w m) (ha : Sz u a1 a2 a3) (hb : Sz v b1 b2 b3) (c0 : c ≠ 0) (e1 : a1 * b1 + m * a2 * b2 = c * t1) (e2 : a1 * b2 + a2 * b1 = c * t2) (e3 : a3 * b3 = c * t3) : Sz (w + u + v + 1) t1 t2 t3 := by
  refine ⟨(((ha.1.mul hb.1).mono (by omega)).add ((hm.mul ha.2.1).mul hb.2.1)).of_dvd c0 e1, (((ha.1.mul hb.2.1).add (ha.2.1.mul hb.1)).mono (by omega)).of_dvd c0 e2, ((ha.2.2.mul hb.2.2).mono (by omega)).of_dvd c0 e3⟩
theorem Bi.lit8 {n : Nat} {i : Int} (h : Bi n i) (hn : n ≤ 799 := by decide) : DL.lit 800 (.int i) = true :=
  (Bi.lit (h.mono (k := 800) (by omega))).resolve_right (by decide)
theorem lit_T3 {n : Nat} {a b c : Int} (h : Sz n a b c) (hn : n ≤ 799 := by decide) : lit 800 (T3 a b c) = true := lit_cons (h.1.lit8 hn) (lit_cons (h.2.1.lit8 hn) (lit_cons (h.2.2.lit8 hn) rfl))
theorem okV_T3 {n : Nat} {a b c : Int} (h : Sz n a b c) (hn : n ≤ 799 := by decide) : okV (T3 a b c) = true := okV_tup rfl (lit_T3 h hn) (Nat.le_of_ble_eq_true rfl)
theorem gNe_T3 {a b c : Int} {M : Mem} {Q : DQ} (q : Q (.bl false) M) : gNe (T3 a b c) (T3 a b c) M Q := gNe_same (n := 2) rfl q
theorem nsq5 : ¬ isSq 5 := by
  have e : isq 5 = 2 := isq_uni (by decide) (by decide) (by decide)
  unfold isSq; rw [e]; decide
theorem nsq8 : ¬ isSq 8 := by
  have e : isq 8 = 2 := isq_uni (by decide) (by decide) (by decide)
  unfold isSq; rw [e]; decide
theorem nf_mk {m a b c : Int} (h1 : 1 ≤ c := by decide) (h2 : Int.gcd (Int.gcd a b : Int) c = 1 := by rfl) (h3 : isSq m → b = 0) : NF m a b c := ⟨h1, h2, h3⟩
theorem sz_mk {a b c : Int} {n : Nat} (h : a.natAbs ≤ 100 ∧ b.natAbs ≤ 100 ∧ c.natAbs ≤ 100 := by decide) (hn : 8 ≤ n := by decide) : Sz n a b c :=
  ⟨(Bi.of_abs (n := 8) 100 h.1).mono hn, (Bi.of_abs (n := 8) 100 h.2.1).mono hn, (Bi.of_abs (n := 8) 100 h.2.2).mono hn⟩
theorem bi_mk {a : Int} {n : Nat} (h : a.natAbs ≤ 100 := by decide) (hn : 8 ≤ n := by decide) : Bi n a := (Bi.of_abs (n := 8) 100 h).mono hn
end DL
namespace DL
open PySem PySem.Spec PyProof.Rows L2
def t_side_by : DTS :=
 (dSeq (dPar 2 3 (dCons (dOp gIx (dVar 1) (dC (.int 0))) (dCons (dOp gIx (dVar 1) (dC (.int 1))) dNil)))
 (dSeq (dIfS (dAnd (dTru (dOp (gCmpI fun i j => decide (j ≤ i)) (dVar 2) (dC (.int 0)))) (dTru (dOp (gCmpI fun i j => decide (j ≤ i)) (dVar 3) (dC (.int 0))))) (dRet (dIf (dOr (dTru (dOp (gCmpI fun i j => decide (j < i)) (dVar 2) (dC (.int 0)))) (dTru (dOp (gCmpI fun i j => decide (j < i)) (dVar 3) (dC (.int 0))))) (dC (.int 1)) (dC (.int 0)))) dNext)
 (dSeq (dIfS (dAnd (dTru (dOp (gCmpI fun i j => decide (i ≤ j)) (dVar 2) (dC (.int 0)))) (dTru (dOp (gCmpI fun i j => decide (i ≤ j)) (dVar 3) (dC (.int 0))))) (dRet (dNeg (dC (.int 1)))) dNext)
 (dSeq (dAsg (dOp (rBin (fun _ _ => True) fun i j => i - j) (dOp (rBin CMul fun i j => i * j) (dVar 2) (dVar 2)) (dOp (rBin CMul fun i j => i * j) (dOp (rBin CMul fun i j => i * j) (dVar 0) (dVar 3)) (dVar 3))) (dName 4))
 (dRet (dIf (dTru (dOp (gCmpI fun i j => decide (j < i)) (dVar 2) (dC (.int 0)))) (dIf (dTru (dOp (gCmpI fun i j => decide (j < i)) (dVar 4) (dC (.int 0)))) (dC (.int 1)) (dNeg (dC (.int 1)))) (dIf (dTru (dOp (gCmpI fun i j => decide (i < j)) (dVar 4) (dC (.int 0)))) (dC (.int 1)) (dNeg (dC (.int 1))))))))))
def t_floor_by (c_root_floor_by : DSp) : DTS :=
 (dSeq (dAsg (dVar 1) (dGTup 3 (dGCons (dName 2) (dGCons (dName 3) (dGCons (dName 4) dGNil)))))
 (dSeq (dAsg (dOp (rBin CMul fun i j => i * j) (dOp (rBin CMul fun i j => i * j) (dVar 0) (dVar 3)) (dVar 3)) (dName 5))
 (dSeq (dAsg (dCall 1 c_root_floor_by [] DX0 (dCons (dVar 5) dNil)) (dName 6))
 (dSeq (dIfS (dTru (dOp (gCmpI fun i j => decide (j ≤ i)) (dVar 3) (dC (.int 0)))) (dRet (dOp (rBin CDiv fun i j => i.fdiv j) (dOp gAdd (dVar 2) (dVar 6)) (dVar 4))) dNext)
 (dRet (dOp (rBin CDiv fun i j => i.fdiv j) (dOp (rBin (fun _ _ => True) fun i j => i - j) (dVar 2) (dIf (dTru (dOp gEq (dOp (rBin CMul fun i j => i * j) (dVar 6) (dVar 6)) (dVar 5))) (dVar 6) (dOp gAdd (dVar 6) (dC (.int 1))))) (dVar 4)))))))
def t_root_side (c_check_measure : DSp) (c_check_root : DSp) (c_side_by : DSp) : DTS :=
 (dSeq (dDrop (dCall 1 c_check_measure [] DX0 (dCons (dVar 0) dNil)))
 (dSeq (dDrop (dCall 2 c_check_root [] DX0 (dCons (dVar 0) (dCons (dVar 1) dNil))))
 (dRet (dCall 2 c_side_by [] DX0 (dCons (dVar 0) (dCons (dVar 1) dNil))))))
def t_root_floor (c_check_measure : DSp) (c_check_root : DSp) (c_floor_by : DSp) : DTS :=
 (dSeq (dDrop (dCall 1 c_check_measure [] DX0 (dCons (dVar 0) dNil)))
 (dSeq (dDrop (dCall 2 c_check_root [] DX0 (dCons (dVar 0) (dCons (dVar 1) dNil))))
 (dRet (dCall 2 c_floor_by [] DX0 (dCons (dVar 0) (dCons (dVar 1) dNil))))))
def t_l_side_4cef : DTS :=
 (dSeq (dIfS (dAnd (dTru (dOp gEq (dVar 1) (dC (.int 0)))) (dTru (dOp gEq (dVar 2) (dC (.int 0))))) (dRet (dC (.int 0))) dNext)
 (dSeq (dIfS (dAnd (dTru (dOp (gCmpI fun i j => decide (j ≤ i)) (dVar 1) (dC (.int 0)))) (dTru (dOp (gCmpI fun i j => decide (j ≤ i)) (dVar 2) (dC (.int 0))))) (dRet (dC (.int 1))) dNext)
 (dSeq (dIfS (dAnd (dTru (dOp (gCmpI fun i j => decide (i ≤ j)) (dVar 1) (dC (.int 0)))) (dTru (dOp (gCmpI fun i j => decide (i ≤ j)) (dVar 2) (dC (.int 0))))) (dRet (dNeg (dC (.int 1)))) dNext)
 (dSeq (dAsg (dOp (rBin (fun _ _ => True) fun i j => i - j) (dOp (rBin CMul fun i j => i * j) (dVar 1) (dVar 1)) (dOp (rBin CMul fun i j => i * j) (dOp (rBin CMul fun i j => i * j) (dVar 0) (dVar 2)) (dVar 2))) (dName 3))
 (dSeq (dIfS (dTru (dOp gEq (dVar 3) (dC (.int 0)))) (dRet (dC (.int 0))) dNext)
 (dRet (dIf (dTru (dOp gEq (dOp (gCmpI fun i j => decide (j < i)) (dVar 3) (dC (.int 0))) (dOp (gCmpI fun i j => decide (j < i)) (dVar 1) (dC (.int 0))))) (dC (.int 1)) (dNeg (dC (.int 1))))))))))
def t_l_floor_right_1bbd (c_root_floor : DSp) (c_l_side_4cef : DSp) : DTS :=
 (dSeq (dAsg (dVar 1) (dGTup 3 (dGCons (dName 2) (dGCons (dName 3) (dGCons (dName 4) dGNil)))))
 (dSeq (dAsg (dCall 2 c_root_floor [] DX0 (dCons (dVar 0) (dCons (dVar 1) dNil))) (dName 5))
 (dSeq (dIfS (dOr (dTru (dCB gIsi (dCons (dVar 5) (dCons (dC (.val (.ty "bool"))) dNil)))) (dOr (dNot (dTru (dCB gIsi (dCons (dVar 5) (dCons (dC (.val (.ty "int"))) dNil))))) (dTru (dOp gNe (dCallK 2 2 c_root_floor [1, 0] DX0 (dCons (dVar 1) (dCons (dVar 0) dNil))) (dVar 5))))) (dRet (dC (.bl false))) dNext)
 (dRet (dAndV (dOp (gCmpI fun i j => decide (j ≤ i)) (dCall 3 c_l_side_4cef [] DX0 (dCons (dVar 0) (dCons (dOp (rBin (fun _ _ => True) fun i j => i - j) (dVar 2) (dOp (rBin CMul fun i j => i * j) (dVar 5) (dVar 4))) (dCons (dVar 3) dNil)))) (dC (.int 0))) (dOp (gCmpI fun i j => decide (i < j)) (dCall 3 c_l_side_4cef [] DX0 (dCons (dVar 0) (dCons (dOp (rBin (fun _ _ => True) fun i j => i - j) (dVar 2) (dOp (rBin CMul fun i j => i * j) (dOp gAdd (dVar 5) (dC (.int 1))) (dVar 4))) (dCons (dVar 3) dNil)))) (dC (.int 0))))))))
def t_l_right_2022 (c_l_measure_0db7 : DSp) (c_l_drawn_33f3 : DSp) (c_l_random_4762 : DSp) (c_l_root_d754 : DSp) (c_l_least_9529 : DSp) (c_root_side : DSp) (c_l_side_4cef : DSp) (c_l_floor_right_1bbd : DSp) : DTS :=
 (dSeq (dAsg (dCall 2 c_l_measure_0db7 [] DX0 (dCons (dVar 0) (dCons (dC (.int 28)) dNil))) (dName 1))
 (dSeq (dFor (dRngI gRng1 (dCons (dC (.int 4)) dNil)) (dName 2) (dSeq (dAsg (dCall 3 c_l_drawn_33f3 [] DX0 (dCons (dVar 0) (dCons (dVar 1) (dCons (dC (.int 20)) dNil)))) (dName 3))
 (dSeq (dAsg (dOp gAdd (dC (.int 1)) (dCall 2 c_l_random_4762 [] DX0 (dCons (dVar 0) (dCons (dOp gIx (dLst (dCons (dC (.int 3)) (dCons (dOp (rBin CPow fun i j => i ^ j.toNat) (dC (.int 10)) (dC (.int 12))) dNil))) (dCall 2 c_l_random_4762 [] DX0 (dCons (dVar 0) (dCons (dC (.int 2)) dNil)))) dNil)))) (dName 4))
 (dSeq (dAsg (dOp (rBin (fun _ _ => True) fun i j => i - j) (dOp gAdd (dCall 1 c_l_root_d754 [] DX0 (dCons (dOp (rBin CMul fun i j => i * j) (dOp (rBin CMul fun i j => i * j) (dVar 1) (dVar 4)) (dVar 4)) dNil)) (dCall 2 c_l_random_4762 [] DX0 (dCons (dVar 0) (dCons (dC (.int 3)) dNil)))) (dC (.int 1))) (dName 5))
 (dSeq (dFor (dSeqI (dLst (dCons (dVar 3) (dCons (dCall 4 c_l_least_9529 [] DX0 (dCons (dVar 1) (dCons (dVar 5) (dCons (dOp (rBin (fun _ _ => True) fun i j => i - j) (dC (.int 0)) (dVar 4)) (dCons (dC (.int 1)) dNil))))) (dCons (dCall 4 c_l_least_9529 [] DX0 (dCons (dVar 1) (dCons (dOp (rBin (fun _ _ => True) fun i j => i - j) (dC (.int 0)) (dVar 5)) (dCons (dVar 4) (dCons (dC (.int 1)) dNil))))) (dCons (dCall 4 c_l_least_9529 [] DX0 (dCons (dVar 1) (dCons (dVar 5) (dCons (dVar 4) (dCons (dC (.int 2)) dNil))))) dNil)))))) (dName 6) (dIfS (dOr (dTru (dOp gNe (dCB gRepr (dCons (dCall 2 c_root_side [] DX0 (dCons (dVar 1) (dCons (dVar 6) dNil))) dNil)) (dCB gRepr (dCons (dCall 3 c_l_side_4cef [] DX0 (dCons (dVar 1) (dCons (dOp gIx (dVar 6) (dC (.int 0))) (dCons (dOp gIx (dVar 6) (dC (.int 1))) dNil)))) dNil)))) (dNot (dTru (dCall 2 c_l_floor_right_1bbd [] DX0 (dCons (dVar 1) (dCons (dVar 6) dNil)))))) (dRet (dC (.bl false))) dNext))
 (dIfS (dTru (dOp gNe (dCallK 2 2 c_root_side [1, 0] DX0 (dCons (dVar 3) (dCons (dVar 1) dNil))) (dCall 2 c_root_side [] DX0 (dCons (dVar 1) (dCons (dVar 3) dNil))))) (dRet (dC (.bl false))) dNext))))))
 (dRet (dC (.bl true)))))
def t_l_law_4a23 (c_l_right_2022 : DSp) (c_l_generator_b324 : DSp) (c_root_side : DSp) (c_root_floor : DSp) : DTS :=
 (dSeq (dIfS (dNot (dTru (dCall 1 c_l_right_2022 [] DX0 (dCons (dCall 2 c_l_generator_b324 [] DX0 (dCons (dVar 0) (dCons (dC (.int 0)) dNil))) dNil)))) (dRet (dC (.bl false))) dNext)
 (dSeq (dAsg (dLst (dCons (dCall 2 c_root_side [] DX0 (dCons (dC (.int 5)) (dCons (dTup (dCons (dNeg (dC (.int 2))) (dCons (dC (.int 1)) (dCons (dC (.int 1)) dNil)))) dNil))) (dCons (dCall 2 c_root_side [] DX0 (dCons (dC (.int 8)) (dCons (dTup (dCons (dNeg (dC (.int 3))) (dCons (dC (.int 1)) (dCons (dC (.int 1)) dNil)))) dNil))) (dCons (dCall 2 c_root_side [] DX0 (dCons (dC (.int 5)) (dCons (dTup (dCons (dC (.int 0)) (dCons (dC (.int 0)) (dCons (dC (.int 1)) dNil)))) dNil))) (dCons (dCall 2 c_root_side [] DX0 (dCons (dC (.int 9)) (dCons (dTup (dCons (dNeg (dC (.int 3))) (dCons (dC (.int 0)) (dCons (dC (.int 2)) dNil)))) dNil))) dNil))))) (dName 1))
 (dSeq (dIfS (dTru (dOp gNe (dVar 1) (dLst (dCons (dC (.int 1)) (dCons (dNeg (dC (.int 1))) (dCons (dC (.int 0)) (dCons (dNeg (dC (.int 1))) dNil))))))) (dRet (dC (.bl false))) dNext)
 (dRet (dOp gEq (dLst (dCons (dCall 2 c_root_floor [] DX0 (dCons (dC (.int 5)) (dCons (dTup (dCons (dC (.int 1)) (dCons (dC (.int 1)) (dCons (dC (.int 2)) dNil)))) dNil))) (dCons (dCall 2 c_root_floor [] DX0 (dCons (dC (.int 5)) (dCons (dTup (dCons (dC (.int 1)) (dCons (dNeg (dC (.int 1))) (dCons (dC (.int 2)) dNil)))) dNil))) (dCons (dCall 2 c_root_floor [] DX0 (dCons (dC (.int 8)) (dCons (dTup (dCons (dNeg (dC (.int 3))) (dCons (dC (.int 1)) (dCons (dC (.int 1)) dNil)))) dNil))) (dCons (dCall 2 c_root_floor [] DX0 (dCons (dC (.int 9)) (dCons (dTup (dCons (dNeg (dC (.int 3))) (dCons (dC (.int 0)) (dCons (dC (.int 2)) dNil)))) dNil))) (dCons (dCall 2 c_root_floor [] DX0 (dCons (dC (.int 9)) (dCons (dTup (dCons (dC (.int 4)) (dCons (dC (.int 0)) (dCons (dC (.int 1)) dNil)))) dNil))) dNil)))))) (dLst (dCons (dC (.int 1)) (dCons (dNeg (dC (.int 1))) (dCons (dNeg (dC (.int 1))) (dCons (dNeg (dC (.int 2))) (dCons (dC (.int 4)) dNil)))))))))))
end DL
namespace DL
open PySem PySem.Spec PyProof.Rows L2
local macro_rules | `(tactic| walk_at "rd") => `(tactic| simp only [startD, List.map, List.replicate, List.length_cons, List.length_nil, List.append_eq, List.append_nil, List.nil_append, List.cons_append, Nat.reduceSub, Nat.reduceAdd, List.getElem?_cons_zero, List.getElem?_cons_succ, List.set_cons_zero, List.set_cons_succ,
  dC, dVar, dOp, dTru, gTru, tru, dChain, dAnd, dOr, dNot, dAndV, dOrV, dNotV, dIf, dNeg, gNeg, dNil, dCons, dTup, dLst, dOwn, gIx, rBin, gAdd, gCmpI, dCall, dCallK, dSeq, dNext, dDrop, dRet, dRetN, dIfS, dName, dGNil, dGCons, dGTup, dSub, gSetL, dAsg, dPar, dPar3, dAug, gIpI, dSeqI, gSeqI, dRngI, gRng1, gRng2, dCB, gAbs, gInt, gMax, gMin, gGcd, gLen, lenD, gIsi, tyM, tyD, dBits, gBits, dMet, gAppend, dPart, dNoPart, dSl, dEnds, gIs, isB, dNever, dFor, dLc, wipeD, dYes,
  sizeLine_eq, Nat.reduceLeDiff, gEq_int, gNe_int, gEq_strs, gNe_strs, gIn_two, gRepr_bl, rs_lst, rs_tup, rs_scr, rs_int, atI_0, atI_1, atI_2, atI_3, atI_4, atI_5, ixN_30, ixN_31, ixN_32, gEq_bl, gNe_bl, decide_eq_true_eq, beq_iff_eq, Bool.not_eq_true', beq_eq_false_iff_ne, decide_eq_false_iff_not, Bool.not_true, Bool.not_false, if_true, if_false, Bool.false_eq_true, ite_true, ite_false, true_and, and_true, ne_eq, Bool.bne_false, Bool.bne_true, reduceCtorEq])
local macro_rules | `(tactic| walk_at "rh") => `(tactic| simp only [*, startD, List.map, List.replicate, List.length_cons, List.length_nil, List.append_eq, List.append_nil, List.nil_append, List.cons_append, Nat.reduceSub, Nat.reduceAdd, List.getElem?_cons_zero, List.getElem?_cons_succ, List.set_cons_zero, List.set_cons_succ,
  dC, dVar, dOp, dTru, gTru, tru, dChain, dAnd, dOr, dNot, dAndV, dOrV, dNotV, dIf, dNeg, gNeg, dNil, dCons, dTup, dLst, dOwn, gIx, rBin, gAdd, gCmpI, dCall, dCallK, dSeq, dNext, dDrop, dRet, dRetN, dIfS, dName, dGNil, dGCons, dGTup, dSub, gSetL, dAsg, dPar, dPar3, dAug, gIpI, dSeqI, gSeqI, dRngI, gRng1, gRng2, dCB, gAbs, gInt, gMax, gMin, gGcd, gLen, lenD, gIsi, tyM, tyD, dBits, gBits, dMet, gAppend, dPart, dNoPart, dSl, dEnds, gIs, isB, dNever, dFor, dLc, wipeD, dYes,
  sizeLine_eq, Nat.reduceLeDiff, gEq_int, gNe_int, gEq_strs, gNe_strs, gIn_two, gRepr_bl, rs_lst, rs_tup, rs_scr, rs_int, atI_0, atI_1, atI_2, atI_3, atI_4, atI_5, ixN_30, ixN_31, ixN_32, gEq_bl, gNe_bl, decide_eq_true_eq, beq_iff_eq, Bool.not_eq_true', beq_eq_false_iff_ne, decide_eq_false_iff_not, Bool.not_true, Bool.not_false, if_true, if_false, Bool.false_eq_true, ite_true, ite_false, true_and, and_true, ne_eq, Bool.bne_false, Bool.bne_true, reduceCtorEq])
local macro_rules | `(tactic| walk_at "kb") => `(tactic| simp only [kb_NoneType_list, kb_bool_list, kb_int_list, kb_str_list, kb_tuple_list, kb_list_list, kb_dict_list, kb_NoneType_int, kb_bool_int, kb_int_int, kb_str_int, kb_tuple_int, kb_list_int, kb_dict_int, kb_NoneType_bool, kb_bool_bool, kb_int_bool, kb_str_bool, kb_tuple_bool, kb_list_bool, kb_dict_bool, kb_NoneType_tuple, kb_bool_tuple, kb_int_tuple, kb_str_tuple, kb_tuple_tuple, kb_list_tuple, kb_dict_tuple, if_true, if_false, Bool.false_eq_true, ite_true, ite_false, Bool.not_true, Bool.not_false])
/-! ### the side of x + y root m -/
def sideV (m x y : Int) : Int := if 0 ≤ x ∧ 0 ≤ y then (if 0 < x ∨ 0 < y then 1 else 0) else if x ≤ 0 ∧ y ≤ 0 then -1
  else if 0 < x then (if 0 < x * x - m * y * y then 1 else -1) else if x * x - m * y * y < 0 then 1 else -1
def lsideV (m x y : Int) : Int := if x = 0 ∧ y = 0 then 0 else if 0 ≤ x ∧ 0 ≤ y then 1 else if x ≤ 0 ∧ y ≤ 0 then -1
  else if x * x - m * y * y = 0 then 0 else if (0 < x * x - m * y * y ↔ 0 < x) then 1 else -1
theorem side_same {m x y b : Int} (hm : 0 ≤ m) (h : NF m x y b) : sideV m x y = lsideV m x y := by
  have hw : ¬ (x = 0 ∧ y = 0) → x * x - m * y * y ≠ 0 := fun z => norm_ne hm h.pr z
  unfold sideV lsideV
  generalize x * x - m * y * y = W at hw
  by_cases h0 : x = 0 ∧ y = 0
  · obtain ⟨rfl, rfl⟩ := h0; simp
  · have := hw h0
    rw [if_neg h0]
    by_cases h1 : 0 ≤ x ∧ 0 ≤ y
    · rw [if_pos h1, if_pos h1, if_pos (by omega)]
    · rw [if_neg h1, if_neg h1]
      by_cases h2 : x ≤ 0 ∧ y ≤ 0
      · rw [if_pos h2, if_pos h2]
      · rw [if_neg h2, if_neg h2, if_neg this]
        by_cases h3 : 0 < x
        · rw [if_pos h3]
          by_cases h4 : 0 < W
          · rw [if_pos h4, if_pos (by omega)]
          · rw [if_neg h4, if_neg (by omega)]
        · rw [if_neg h3]
          by_cases h4 : W < 0
          · rw [if_pos h4, if_pos (by omega)]
          · rw [if_neg h4, if_neg (by omega)]
theorem side_rng {m x y : Int} : (lsideV m x y).natAbs ≤ 1 := by
  unfold lsideV
  split
  · decide
  · split
    · decide
    · split
      · decide
      · split
        · decide
        · split <;> decide
/-! ### the floor -/
def upV (s : Int) : Int := if isq s * isq s = s then isq s else isq s + 1
def floorV (m x y b : Int) : Int := if 0 ≤ y then (x + isq (m * y * y)).fdiv b else (x - upV (m * y * y)).fdiv b
theorem fdiv_le {a b : Int} (hb : 0 < b) : a.fdiv b * b ≤ a ∧ a < (a.fdiv b + 1) * b := by
  rw [fdiv_pos hb]
  have h1 := Int.emod_nonneg a (show b ≠ 0 by omega)
  have h2 := Int.emod_lt_of_pos a hb
  have h3 := Int.mul_ediv_add_emod a b
  have h4 : a / b * b = b * (a / b) := Int.mul_comm _ _
  have h5 : (a / b + 1) * b = b * (a / b) + b := by rw [Int.add_mul, Int.one_mul, h4]
  omega
theorem sq_mono {a b : Int} (h0 : 0 ≤ a) (h : a ≤ b) : a * a ≤ b * b := Int.mul_le_mul h h h0 (by omega)
theorem sq_neg' (a : Int) : (-a) * (-a) = a * a := by rw [Int.neg_mul_neg]
theorem floor_right {m x y b : Int} (hm : 5 ≤ m) (hb : 0 < b) : 0 ≤ lsideV m (x - floorV m x y b * b) y ∧ lsideV m (x - (floorV m x y b + 1) * b) y < 0 := by
  have s0 : 0 ≤ m * y * y := by
    rw [Int.mul_assoc]
    exact Int.mul_nonneg (by omega) (by rcases (by omega : 0 ≤ y ∨ y ≤ 0) with h | h; exact Int.mul_nonneg h h; exact Int.mul_nonneg_of_nonpos_of_nonpos h h)
  have l1 := isq_le s0
  have l2 := isq_lt s0
  have l0 := isq_nn (m * y * y)
  have sy : y ≠ 0 → 1 ≤ m * y * y := by
    intro z
    have : m * y * y ≠ 0 := Int.mul_ne_zero (Int.mul_ne_zero (by omega) z) z
    omega
  have sz : y = 0 → isq (m * y * y) = 0 := by
    rintro rfl
    have e : m * 0 * 0 = 0 := by simp
    rw [e] at l1 ⊢
    rcases Int.mul_eq_zero.mp (show isq 0 * isq 0 = 0 from by have := isq_nn 0; have := Int.mul_nonneg (isq_nn 0) (isq_nn 0); omega) with z | z <;> exact z
  unfold floorV
  by_cases hy : 0 ≤ y
  · rw [if_pos hy]
    have hf := fdiv_le (a := x + isq (m * y * y)) hb
    generalize (x + isq (m * y * y)).fdiv b = f at hf
    generalize f * b = F at hf
    generalize (f + 1) * b = G at hf
    generalize isq (m * y * y) = r at *
    generalize hs : m * y * y = s at *
    refine ⟨?_, ?_⟩
    · unfold lsideV
      rw [hs]
      by_cases hu : 0 ≤ x - F
      · split
        · omega
        · rw [if_pos ⟨hu, hy⟩]; omega
      · have hy0 : y ≠ 0 := fun z => by have := sz z; omega
        have : (x - F) * (x - F) ≤ r * r := by
          rw [← sq_neg' (x - F)]
          exact sq_mono (by omega) (by omega)
        rw [if_neg (by omega), if_neg (by omega), if_neg (by omega)]
        split
        · omega
        · rw [if_pos (by omega)]; omega
    · unfold lsideV
      rw [hs]
      have hv : x - G ≤ -(r + 1) := by omega
      rw [if_neg (by omega), if_neg (by omega)]
      by_cases hy0 : y = 0
      · rw [if_pos (by omega)]; omega
      · rw [if_neg (by omega)]
        have : (r + 1) * (r + 1) ≤ (x - G) * (x - G) := by
          rw [← sq_neg' (x - G)]
          exact sq_mono (by omega) (by omega)
        rw [if_neg (by omega), if_neg (by omega)]; omega
  · rw [if_neg hy]
    have s1 := sy (by omega)
    have hup : (upV (m * y * y) = isq (m * y * y) ∧ isq (m * y * y) * isq (m * y * y) = m * y * y) ∨ (upV (m * y * y) = isq (m * y * y) + 1 ∧ isq (m * y * y) * isq (m * y * y) ≠ m * y * y) := by
      unfold upV
      split
      · rename_i h; exact .inl ⟨rfl, h⟩
      · rename_i h; exact .inr ⟨rfl, h⟩
    have hf := fdiv_le (a := x - upV (m * y * y)) hb
    generalize (x - upV (m * y * y)).fdiv b = f at hf
    generalize f * b = F at hf
    generalize (f + 1) * b = G at hf
    generalize upV (m * y * y) = u at *
    generalize isq (m * y * y) = r at *
    generalize hs : m * y * y = s at *
    have u1 : s ≤ u * u := by
      rcases hup with ⟨rfl, h⟩ | ⟨rfl, h⟩ <;> omega
    have u2 : 1 ≤ u := by
      rcases hup with ⟨rfl, h⟩ | ⟨rfl, h⟩
      · by_cases z : u = 0
        · subst z; omega
        · omega
      · omega
    have u3 : ∀ v : Int, 0 < v → v < u → v * v < s := by
      intro v v0 v1
      rcases hup with ⟨rfl, h⟩ | ⟨rfl, h⟩
      · have h1 : v * v ≤ (u - 1) * (u - 1) := sq_mono (by omega) (by omega)
        have h2 : (u - 1) * (u - 1) = u * u - 2 * u + 1 := by grind
        omega
      · have h1 : v * v ≤ r * r := sq_mono (by omega) (by omega)
        omega
    refine ⟨?_, ?_⟩
    · unfold lsideV
      rw [hs]
      have hu : u ≤ x - F := by omega
      have : u * u ≤ (x - F) * (x - F) := sq_mono (by omega) hu
      rw [if_neg (by omega), if_neg (by omega), if_neg (by omega)]
      split
      · omega
      · rw [if_pos (by omega)]; omega
    · unfold lsideV
      rw [hs]
      rw [if_neg (by omega), if_neg (by omega)]
      by_cases hv : x - G ≤ 0
      · rw [if_pos (by omega)]; omega
      · rw [if_neg (by omega)]
        have := u3 (x - G) (by omega) (by omega)
        rw [if_neg (by omega), if_neg (by omega)]; omega
def sp_side_by : DSp := fun ds M Q _ => ∃ m x y b : Int, ds = [.int m, T3 x y b] ∧ Bi 500 m ∧ Bi 500 x ∧ Bi 500 y ∧ Q (.int (sideV m x y)) M
theorem rd_side_by : ∀ ds M Q, ds.length = 2 → sp_side_by ds M Q DX0 → t_side_by (dEnds M Q) (startD 5 ds) M := by
  rintro _ M Q - ⟨m, x, y, b, rfl, bm, bx, by', q⟩
  unfold t_side_by
  walk_at "rd"
  have c1 : CMul x x := ⟨bx.sm, bx.sm⟩
  have c2 : CMul m y := ⟨bm.sm, by'.sm⟩
  have c3 : CMul (m * y) y := ⟨(bm.mul by').sm, by'.sm⟩
  unfold sideV at q
  by_cases x1 : 0 ≤ x
  · by_cases y1 : 0 ≤ y
    · simp only [x1, y1, if_true, and_self] at q ⊢
      by_cases x2 : 0 < x
      · simp only [x2, true_or, if_true] at q ⊢; exact rtq q
      · by_cases y2 : 0 < y
        · simp only [x2, y2, or_true, if_true, if_false] at q ⊢; exact rtq q
        · simp only [x2, y2, or_self, if_false] at q ⊢; exact rtq q
    · have y2 : y ≤ 0 := by omega
      by_cases x2 : 0 < x
      · have x3 : ¬ x ≤ 0 := by omega
        simp only [x1, y1, x2, x3, y2, if_true, if_false, and_false, false_and] at q ⊢
        refine ⟨c1, c2, c3, ?_⟩
        split
        · rename_i h; rw [if_pos h] at q; exact rtq q
        · rename_i h; rw [if_neg h] at q; exact rtq q
      · have x3 : x ≤ 0 := by omega
        simp only [x1, y1, x3, y2, if_true, if_false, and_false, and_self] at q ⊢
        exact rtq q
  · have x2 : x ≤ 0 := by omega
    have x3 : ¬ 0 < x := by omega
    by_cases y1 : y ≤ 0
    · simp only [x1, x2, y1, if_true, if_false, false_and, and_self] at q ⊢
      exact rtq q
    · simp only [x1, x2, x3, y1, if_true, if_false, false_and, and_false] at q ⊢
      refine ⟨c1, c2, c3, ?_⟩
      split
      · rename_i h; rw [if_pos h] at q; exact rtq q
      · rename_i h; rw [if_neg h] at q; exact rtq q
def sp_lside : DSp := fun ds M Q _ => ∃ m x y : Int, ds = [.int m, .int x, .int y] ∧ Bi 500 m ∧ Bi 4000 x ∧ Bi 500 y ∧ Q (.int (lsideV m x y)) M
theorem rd_l_side_4cef : ∀ ds M Q, ds.length = 3 → sp_lside ds M Q DX0 → t_l_side_4cef (dEnds M Q) (startD 4 ds) M := by
  rintro _ M Q - ⟨m, x, y, rfl, bm, bx, by', q⟩
  unfold t_l_side_4cef
  walk_at "rd"
  have c1 : CMul x x := ⟨bx.sm, bx.sm⟩
  have c2 : CMul m y := ⟨bm.sm, by'.sm⟩
  have c3 : CMul (m * y) y := ⟨(bm.mul by').sm, by'.sm⟩
  have fin : ∀ v, v = lsideV m x y → Rtq M Q (.int v) M := by rintro _ rfl; exact rtq q
  simp only [decide_eq_decide]
  repeat' first
    | exact fin _ (by
        unfold lsideV
        generalize x * x - m * y * y = W at *
        (repeat' split) <;> omega)
    | refine ⟨c1, c2, c3, ?_⟩
    | split
def sp_floor_by : DSp := fun ds M Q _ => ∃ m x y b : Int, ds = [.int m, T3 x y b] ∧ 0 ≤ m ∧ Bi 500 m ∧ Bi 500 x ∧ Bi 500 y ∧ Bi 500 b ∧ 0 < b ∧ Q (.int (floorV m x y b)) M
theorem rd_floor_by : ∀ ds M Q, ds.length = 2 → sp_floor_by ds M Q DX0 → t_floor_by sp_isq (dEnds M Q) (startD 7 ds) M := by
  rintro _ M Q - ⟨m, x, y, b, rfl, m0, bm, bx, by', bb, b0, q⟩
  unfold t_floor_by
  walk_at "rd"
  have s0 : 0 ≤ m * y * y := by
    rw [Int.mul_assoc]
    exact Int.mul_nonneg (by omega) (by rcases (by omega : 0 ≤ y ∨ y ≤ 0) with h | h; exact Int.mul_nonneg h h; exact Int.mul_nonneg_of_nonpos_of_nonpos h h)
  have bs := (((bm.mul by').mul by').big).2
  have sr : Sm (isq (m * y * y)) := sm_big (by have := isq_nn (m * y * y); have := big_pos; omega) (by have := isq_le_self s0; omega)
  have cd : ∀ a, CDiv a b := fun a => cdiv_big (by omega) (by have := bb.big; omega) (by have := bb.big; omega)
  refine ⟨⟨bm.sm, by'.sm⟩, ⟨(bm.mul by').sm, by'.sm⟩, _, rfl, s0, bs, ?_⟩
  have fin : ∀ v, v = floorV m x y b → Rtq M Q (.int v) M := by rintro _ rfl; exact rtq q
  dsimp only
  by_cases hy : 0 ≤ y
  · rw [if_pos hy]
    exact ⟨cd _, fin _ (by unfold floorV; rw [if_pos hy])⟩
  · rw [if_neg hy]
    refine ⟨⟨sr, sr⟩, ?_⟩
    by_cases hs : isq (m * y * y) * isq (m * y * y) = m * y * y
    · rw [if_pos hs]
      exact ⟨cd _, fin _ (by unfold floorV upV; rw [if_neg hy, if_pos hs])⟩
    · rw [if_neg hs]
      exact ⟨cd _, fin _ (by unfold floorV upV; rw [if_neg hy, if_neg hs])⟩
def sp_root_side : DSp := fun ds M Q _ => ∃ m x y b : Int, ds = [.int m, T3 x y b] ∧ isMeas (.int m) = true ∧ Bi 500 m ∧ NF m x y b ∧ Sz 500 x y b ∧ Q (.int (sideV m x y)) M
theorem rd_root_side : ∀ ds M Q, ds.length = 2 → sp_root_side ds M Q DX0 → t_root_side sp_check_measure sp_check_root sp_side_by (dEnds M Q) (startD 2 ds) M := by
  rintro _ M Q - ⟨m, x, y, b, rfl, hm, bm, hn, hs, q⟩
  unfold t_root_side
  walk_at "rd"
  exact ⟨m, rfl, hm, m, _, rfl, meas_le hm, bm.big.2, rootable_T3 M _ _ _, hn.is, m, x, y, b, rfl, bm, hs.1, hs.2.1, rtq q⟩
def sp_root_floor : DSp := fun ds M Q _ => ∃ m x y b : Int, ds = [.int m, T3 x y b] ∧ isMeas (.int m) = true ∧ Bi 500 m ∧ NF m x y b ∧ Sz 500 x y b ∧ Q (.int (floorV m x y b)) M
theorem rd_root_floor : ∀ ds M Q, ds.length = 2 → sp_root_floor ds M Q DX0 → t_root_floor sp_check_measure sp_check_root sp_floor_by (dEnds M Q) (startD 2 ds) M := by
  rintro _ M Q - ⟨m, x, y, b, rfl, hm, bm, hn, hs, q⟩
  unfold t_root_floor
  walk_at "rd"
  exact ⟨m, rfl, hm, m, _, rfl, meas_le hm, bm.big.2, rootable_T3 M _ _ _, hn.is, m, x, y, b, rfl, meas_le hm, bm, hs.1, hs.2.1, hs.2.2, by have := hn.pos; omega, rtq q⟩
theorem floor_sz {m x y b : Int} (m0 : 0 ≤ m) (hb : 0 < b) (bm : Bi 500 m) (bx : Bi 500 x) (by' : Bi 500 y) : Bi 1600 (floorV m x y b) := by
  have s0 : 0 ≤ m * y * y := by
    rw [Int.mul_assoc]
    exact Int.mul_nonneg (by omega) (by rcases (by omega : 0 ≤ y ∨ y ≤ 0) with h | h; exact Int.mul_nonneg h h; exact Int.mul_nonneg_of_nonpos_of_nonpos h h)
  have br : Bi 1500 (isq (m * y * y)) := by
    have h1 := isq_le_self s0
    have h2 := isq_nn (m * y * y)
    have h3 : Bi 1500 (m * y * y) := (bm.mul by').mul by'
    unfold Bi at h3 ⊢
    omega
  have bu : Bi 1501 (upV (m * y * y)) := by
    unfold upV
    split
    · exact br.mono
    · exact br.add (Bi.of_abs 1 (by decide) ((Nat.one_lt_two_pow (by decide))))
  have fd : ∀ {a : Int} {n : Nat}, Bi n a → n + 2 ≤ 1600 → Bi 1600 (a.fdiv b) := by
    intro a n h hn
    have h1 := fdiv_le (a := a) hb
    have h2 : (a.fdiv b).natAbs ≤ a.natAbs + 1 := by
      generalize hf : a.fdiv b = f at h1
      by_cases hf0 : 0 ≤ f
      · have : f * 1 ≤ f * b := Int.mul_le_mul_of_nonneg_left (by omega) hf0
        omega
      · have : (f + 1) * b ≤ (f + 1) * 1 := Int.mul_le_mul_of_nonpos_left (by omega) (by omega)
        omega
    have h3 : Bi (n + 2) (a.fdiv b) := by
      unfold Bi at h ⊢
      rw [Nat.pow_add]
      omega
    exact h3.mono hn
  unfold floorV
  split
  · exact fd ((bx.mono (k := 1500)).add br) (by decide)
  · exact fd ((bx.mono (k := 1501)).sub bu) (by decide)
end DL
namespace DL
open PySem PySem.Spec PyProof.Rows L2
def t_l_hash_d8d1 : DTS :=
 (dSeq (dAsg (dOp (rBin CMod fun i j => i.fmod j) (dCB gInt (dCons (dOp gAdd (dOp gAdd (dOp gAdd (dOp (rBin CMul fun i j => i * j) (dVar 0) (dC (.int 1140671))) (dOp (rBin CMul fun i j => i * j) (dOp (rBin CMul fun i j => i * j) (dC (.int 27644437)) (dVar 1)) (dVar 1))) (dOp (rBin CMul fun i j => i * j) (dC (.int 131)) (dVar 1))) (dC (.int 19))) dNil)) (dC (.int 2147483629))) (dName 2))
 (dSeq (dAsg (dOp (rBin CMod fun i j => i.fmod j) (dCB gInt (dCons (dOp gAdd (dOp gAdd (dOp (rBin CMul fun i j => i * j) (dVar 2) (dVar 2)) (dOp (rBin CMul fun i j => i * j) (dC (.int 62089)) (dVar 1))) (dC (.int 32416187))) dNil)) (dC (.int 2147483587))) (dName 2))
 (dRet (dOp (rBin CMod fun i j => i.fmod j) (dCB gInt (dCons (dOp (rBin CMul fun i j => i * j) (dVar 2) (dC (.int 48271))) dNil)) (dC (.int 2147483647))))))
def t_l_common_7348 : DTS :=
 (dSeq (dPar 0 1 (dCons (dCB gAbs (dCons (dVar 0) dNil)) (dCons (dCB gAbs (dCons (dVar 1) dNil)) dNil)))
 (dSeq (dWhile (dTru (dOp gNe (dVar 1) (dC (.int 0)))) (dPar 0 1 (dCons (dVar 1) (dCons (dOp (rBin CMod fun i j => i.fmod j) (dCB gInt (dCons (dVar 0) dNil)) (dVar 1)) dNil))))
 (dRet (dVar 0))))
def t_l_drawn_6386 (c_l_random_4762 : DSp) (c_l_common_7348 : DSp) : DTS :=
 (dSeq (dPar 2 3 (dCons (dOp gAdd (dC (.int 1)) (dCall 2 c_l_random_4762 [] DX0 (dCons (dVar 0) (dCons (dVar 1) dNil)))) (dCons (dOp (rBin (fun _ _ => True) fun i j => i - j) (dCall 2 c_l_random_4762 [] DX0 (dCons (dVar 0) (dCons (dOp (rBin CMul fun i j => i * j) (dC (.int 2)) (dVar 1)) dNil))) (dVar 1)) dNil)))
 (dSeq (dAsg (dOp gAdd (dC (.int 1)) (dCall 2 c_l_random_4762 [] DX0 (dCons (dVar 0) (dCons (dC (.int 6)) dNil)))) (dName 4))
 (dSeq (dPar 5 2 (dCons (dOp (rBin CMul fun i j => i * j) (dVar 4) (dOp gAdd (dC (.int 1)) (dCall 2 c_l_random_4762 [] DX0 (dCons (dVar 0) (dCons (dVar 1) dNil))))) (dCons (dOp (rBin CMul fun i j => i * j) (dVar 4) (dVar 2)) dNil)))
 (dRet (dTup (dCons (dCall 2 c_l_random_4762 [] DX0 (dCons (dVar 0) (dCons (dOp gAdd (dCall 2 c_l_common_7348 [] DX0 (dCons (dVar 5) (dCons (dVar 2) dNil))) (dC (.int 1))) dNil))) (dCons (dVar 5) (dCons (dVar 2) (dCons (dVar 3) dNil)))))))))
def t_l_is_cutting_19aa (c_l_common_7348 : DSp) : DTS :=
 (dSeq (dIfS (dOr (dTru (dOp (gCmpI fun i j => decide (i < j)) (dVar 1) (dC (.int 1)))) (dOr (dTru (dOp (gCmpI fun i j => decide (i < j)) (dVar 2) (dC (.int 1)))) (dOr (dTru (dOp (gCmpI fun i j => decide (j ≤ i)) (dOp gAdd (dVar 2) (dVar 3)) (dVar 1))) (dNot (dTru (dChain (gCmpI fun i j => decide (i ≤ j)) (gCmpI fun i j => decide (i < j)) (dC (.int 0)) (dVar 0) (dCall 2 c_l_common_7348 [] DX0 (dCons (dVar 1) (dCons (dVar 2) dNil))))))))) (dRet (dC (.bl false))) dNext)
 (dRet (dOp gEq (dCall 2 c_l_common_7348 [] DX0 (dCons (dCall 2 c_l_common_7348 [] DX0 (dCons (dVar 0) (dCons (dVar 1) dNil))) (dCons (dCall 2 c_l_common_7348 [] DX0 (dCons (dVar 2) (dCons (dVar 3) dNil))) dNil))) (dC (.int 1)))))
def t_is_cutting_by (c_is_whole : DSp) (c_common_by : DSp) : DTS :=
 (dSeq (dIfS (dOr (dNot (dTru (dCB gIsi (dCons (dVar 0) (dCons (dC (.val (.ty "tuple"))) dNil))))) (dOr (dTru (dOp gNe (dCB gLen (dCons (dVar 0) dNil)) (dC (.int 4)))) (dTru (dOp gNe (dLc false (dSeqI (dVar 0)) (dName 1) (dNot (dTru (dCall 1 c_is_whole [] DX0 (dCons (dVar 1) dNil)))) (dVar 1) [1]) (dLst dNil))))) (dRet (dC (.bl false))) dNext)
 (dSeq (dAsg (dVar 0) (dGTup 4 (dGCons (dName 2) (dGCons (dName 3) (dGCons (dName 4) (dGCons (dName 5) dGNil))))))
 (dSeq (dIfS (dOr (dTru (dOp (gCmpI fun i j => decide (i < j)) (dVar 3) (dC (.int 1)))) (dOr (dTru (dOp (gCmpI fun i j => decide (i < j)) (dVar 4) (dC (.int 1)))) (dNot (dTru (dOp (gCmpI fun i j => decide (i < j)) (dOp gAdd (dVar 4) (dVar 5)) (dVar 3)))))) (dRet (dC (.bl false))) dNext)
 (dSeq (dAsg (dCall 2 c_common_by [] DX0 (dCons (dVar 3) (dCons (dVar 4) dNil))) (dName 6))
 (dRet (dAndV (dChain (gCmpI fun i j => decide (i ≤ j)) (gCmpI fun i j => decide (i < j)) (dC (.int 0)) (dVar 2) (dVar 6)) (dOp gEq (dCall 2 c_common_by [] DX0 (dCons (dCall 2 c_common_by [] DX0 (dCons (dVar 2) (dCons (dVar 6) dNil))) (dCons (dVar 5) dNil))) (dC (.int 1)))))))))
def t_is_cutting (c_is_cutting_by : DSp) : DTS :=
 (dRet (dCall 1 c_is_cutting_by [] DX0 (dCons (dVar 0) dNil)))
def t_is_measure (c_is_measure_by : DSp) : DTS :=
 (dRet (dCall 1 c_is_measure_by [] DX0 (dCons (dVar 0) dNil)))
def t_l_measure_919a : DTS :=
 (dRet (dOp gAdd (dOp (rBin CMul fun i j => i * j) (dOp gIx (dVar 0) (dC (.int 3))) (dOp gIx (dVar 0) (dC (.int 3)))) (dOp (rBin CMul fun i j => i * j) (dOp (rBin CMul fun i j => i * j) (dC (.int 4)) (dOp gIx (dVar 0) (dC (.int 1)))) (dOp gIx (dVar 0) (dC (.int 2))))))
def t_whole_root (c_check_measure : DSp) (c_root_floor_by : DSp) : DTS :=
 (dSeq (dDrop (dCall 1 c_check_measure [] DX0 (dCons (dVar 0) dNil)))
 (dRet (dCall 1 c_root_floor_by [] DX0 (dCons (dVar 0) dNil))))
def t_l_root_right_a4da (c_whole_root : DSp) : DTS :=
 (dSeq (dAsg (dCall 1 c_whole_root [] DX0 (dCons (dVar 0) dNil)) (dName 1))
 (dRet (dChain (gCmpI fun i j => decide (i ≤ j)) (gCmpI fun i j => decide (i < j)) (dOp (rBin CMul fun i j => i * j) (dVar 1) (dVar 1)) (dVar 0) (dOp (rBin CMul fun i j => i * j) (dOp gAdd (dVar 1) (dC (.int 1))) (dOp gAdd (dVar 1) (dC (.int 1)))))))
def t_check_cutting (c_is_cutting_by : DSp) : DTS :=
 (dIfS (dNot (dTru (dCall 1 c_is_cutting_by [] DX0 (dCons (dVar 0) dNil)))) dNever dNext)
def t_measure_by : DTS :=
 (dRet (dOp gAdd (dOp (rBin CMul fun i j => i * j) (dOp gIx (dVar 0) (dC (.int 3))) (dOp gIx (dVar 0) (dC (.int 3)))) (dOp (rBin CMul fun i j => i * j) (dOp (rBin CMul fun i j => i * j) (dC (.int 4)) (dOp gIx (dVar 0) (dC (.int 1)))) (dOp gIx (dVar 0) (dC (.int 2))))))
def t_measure_of (c_check_cutting : DSp) (c_measure_by : DSp) : DTS :=
 (dSeq (dDrop (dCall 1 c_check_cutting [] DX0 (dCons (dVar 0) dNil)))
 (dRet (dCall 1 c_measure_by [] DX0 (dCons (dVar 0) dNil))))
def t_l_value_right_bbd5 (c_l_is_cutting_19aa : DSp) (c_is_cutting : DSp) (c_is_measure : DSp) (c_l_measure_919a : DSp) (c_l_root_right_a4da : DSp) (c_measure_of : DSp) : DTS :=
 (dSeq (dAsg (dCall 4 c_l_is_cutting_19aa [] DX0 (dCons (dOp gIx (dVar 0) (dC (.int 0))) (dCons (dOp gIx (dVar 0) (dC (.int 1))) (dCons (dOp gIx (dVar 0) (dC (.int 2))) (dCons (dOp gIx (dVar 0) (dC (.int 3))) dNil))))) (dName 1))
 (dSeq (dIfS (dOr (dTru (dOp gNe (dCB gRepr (dCons (dCall 1 c_is_cutting [] DX0 (dCons (dVar 0) dNil)) dNil)) (dCB gRepr (dCons (dVar 1) dNil)))) (dTru (dOp gNe (dCB gRepr (dCons (dCallK 1 1 c_is_cutting [0] DX0 (dCons (dVar 0) dNil)) dNil)) (dCB gRepr (dCons (dVar 1) dNil))))) (dRet (dC (.bl false))) dNext)
 (dSeq (dIfS (dAnd (dTru (dVar 1)) (dOr (dTru (dOp (gIs true) (dCall 1 c_is_measure [] DX0 (dCons (dCall 1 c_l_measure_919a [] DX0 (dCons (dVar 0) dNil)) dNil)) (dC (.bl true)))) (dNot (dTru (dCall 1 c_l_root_right_a4da [] DX0 (dCons (dCall 1 c_l_measure_919a [] DX0 (dCons (dVar 0) dNil)) dNil)))))) (dRet (dC (.bl false))) dNext)
 (dRet (dOrV (dNotV (dVar 1)) (dAndV (dOp gEq (dCB gRepr (dCons (dCall 1 c_measure_of [] DX0 (dCons (dVar 0) dNil)) dNil)) (dCB gRepr (dCons (dCall 1 c_l_measure_919a [] DX0 (dCons (dVar 0) dNil)) dNil))) (dOp gEq (dCallK 1 1 c_measure_of [0] DX0 (dCons (dVar 0) dNil)) (dCall 1 c_l_measure_919a [] DX0 (dCons (dVar 0) dNil)))))))))
def t_l_near_right_9e0a (c_l_value_right_bbd5 : DSp) (c_is_cutting : DSp) : DTS :=
 (dSeq (dFor (dRngI gRng1 (dCons (dC (.int 4)) dNil)) (dName 1) (dSeq (dFor (dSeqI (dLst (dCons (dOp (rBin (fun _ _ => True) fun i j => i - j) (dOp gIx (dVar 0) (dVar 1)) (dC (.int 1))) (dCons (dOp gAdd (dOp gIx (dVar 0) (dVar 1)) (dC (.int 1))) (dCons (dOp (rBin (fun _ _ => True) fun i j => i - j) (dC (.int 0)) (dOp gIx (dVar 0) (dVar 1))) (dCons (dC (.int 0)) (dCons (dC (.int 1)) dNil))))))) (dName 2) (dIfS (dNot (dTru (dCall 1 c_l_value_right_bbd5 [] DX0 (dCons (dOp gAdd (dOp gAdd (dSl gSlT (dVar 0) dNoPart (dPart (dVar 1))) (dTup (dCons (dVar 2) dNil))) (dSl gSlT (dVar 0) (dPart (dOp gAdd (dVar 1) (dC (.int 1)))) dNoPart)) dNil)))) (dRet (dC (.bl false))) dNext))
 (dFor (dSeqI (dLst (dCons (dC .non) (dCons (dC (.bl true)) (dCons (dC (.str (PySem.Str.ofString "1"))) (dCons (dLst (dCons (dC (.int 1)) dNil)) (dCons (dTup (dCons (dC (.int 1)) dNil)) dNil))))))) (dName 3) (dIfS (dTru (dOp (gIs true) (dCall 1 c_is_cutting [] DX0 (dCons (dOp gAdd (dOp gAdd (dSl gSlT (dVar 0) dNoPart (dPart (dVar 1))) (dTup (dCons (dVar 3) dNil))) (dSl gSlT (dVar 0) (dPart (dOp gAdd (dVar 1) (dC (.int 1)))) dNoPart)) dNil)) (dC (.bl false)))) (dRet (dC (.bl false))) dNext))))
 (dSeq (dIfS (dOr (dNot (dTru (dCall 1 c_l_value_right_bbd5 [] DX0 (dCons (dTup (dCons (dOp gIx (dVar 0) (dC (.int 0))) (dCons (dOp (rBin (fun _ _ => True) fun i j => i - j) (dC (.int 0)) (dOp gIx (dVar 0) (dC (.int 2)))) (dCons (dOp (rBin (fun _ _ => True) fun i j => i - j) (dC (.int 0)) (dOp gIx (dVar 0) (dC (.int 1)))) (dCons (dOp gIx (dVar 0) (dC (.int 3))) dNil))))) dNil)))) (dNot (dTru (dCall 1 c_l_value_right_bbd5 [] DX0 (dCons (dTup (dCons (dC (.int 0)) (dCons (dOp (rBin (fun _ _ => True) fun i j => i - j) (dC (.int 0)) (dOp gIx (dVar 0) (dC (.int 2)))) (dCons (dOp (rBin (fun _ _ => True) fun i j => i - j) (dC (.int 0)) (dOp gIx (dVar 0) (dC (.int 1)))) (dCons (dOp gIx (dVar 0) (dC (.int 3))) dNil))))) dNil))))) (dRet (dC (.bl false))) dNext)
 (dSeq (dAsg (dCB (gList false) (dCons (dVar 0) dNil)) (dName 4))
 (dSeq (dIfS (dOr (dTru (dOp (gIs true) (dCall 1 c_is_cutting [] DX0 (dCons (dVar 4) dNil)) (dC (.bl false)))) (dTru (dOp gNe (dVar 4) (dCB (gList false) (dCons (dVar 0) dNil))))) (dRet (dC (.bl false))) dNext)
 (dRet (dOp gEq (dLc false (dSeqI (dLst (dCons (dCB (gList false) (dCons (dVar 0) dNil)) (dCons (dSl gSlT (dVar 0) dNoPart (dPart (dC (.int 3)))) (dCons (dOp gAdd (dVar 0) (dTup (dCons (dC (.int 1)) dNil))) (dCons (dTup (dCons (dVar 0) dNil)) (dCons (dC .non) (dCons (dC (.int 0)) (dCons (dC (.str (PySem.Str.ofString "0111"))) (dCons (dTup dNil) dNil)))))))))) (dName 3) (dTru (dOp (gIs true) (dCall 1 c_is_cutting [] DX0 (dCons (dVar 3) dNil)) (dC (.bl false)))) (dVar 3) [3]) (dLst dNil)))))))
def t_l_great_right_8517 (c_measure_of : DSp) (c_is_cutting : DSp) (c_is_measure : DSp) (c_whole_root : DSp) (c_root_floor : DSp) (c_root_side : DSp) (c_root_times : DSp) : DTS :=
 (dSeq (dAsg (dTup (dCons (dC (.int 0)) (dCons (dOp gAdd (dOp (rBin CPow fun i j => i ^ j.toNat) (dC (.int 10)) (dC (.int 29))) (dC (.int 1))) (dCons (dOp (rBin CPow fun i j => i ^ j.toNat) (dC (.int 10)) (dC (.int 29))) (dCons (dC (.int 0)) dNil))))) (dName 0))
 (dSeq (dAsg (dCall 1 c_measure_of [] DX0 (dCons (dVar 0) dNil)) (dName 1))
 (dSeq (dIfS (dOr (dTru (dOp (gIs true) (dCall 1 c_is_cutting [] DX0 (dCons (dVar 0) dNil)) (dC (.bl true)))) (dOr (dTru (dOp gNe (dVar 1) (dOp gAdd (dOp (rBin CMul fun i j => i * j) (dC (.int 4)) (dOp (rBin CPow fun i j => i ^ j.toNat) (dC (.int 10)) (dC (.int 58)))) (dOp (rBin CMul fun i j => i * j) (dC (.int 4)) (dOp (rBin CPow fun i j => i ^ j.toNat) (dC (.int 10)) (dC (.int 29))))))) (dTru (dOp (gIs true) (dCall 1 c_is_measure [] DX0 (dCons (dVar 1) dNil)) (dC (.bl true)))))) (dRet (dC (.bl false))) dNext)
 (dSeq (dIfS (dOr (dTru (dOp gNe (dCall 1 c_whole_root [] DX0 (dCons (dVar 1) dNil)) (dOp (rBin CMul fun i j => i * j) (dC (.int 2)) (dOp (rBin CPow fun i j => i ^ j.toNat) (dC (.int 10)) (dC (.int 29)))))) (dOr (dTru (dOp gNe (dCall 2 c_root_floor [] DX0 (dCons (dVar 1) (dCons (dTup (dCons (dC (.int 0)) (dCons (dC (.int 1)) (dCons (dC (.int 1)) dNil)))) dNil))) (dOp (rBin CMul fun i j => i * j) (dC (.int 2)) (dOp (rBin CPow fun i j => i ^ j.toNat) (dC (.int 10)) (dC (.int 29)))))) (dTru (dOp gNe (dCall 2 c_root_side [] DX0 (dCons (dVar 1) (dCons (dTup (dCons (dOp (rBin (fun _ _ => True) fun i j => i - j) (dC (.int 0)) (dOp (rBin CMul fun i j => i * j) (dC (.int 2)) (dOp (rBin CPow fun i j => i ^ j.toNat) (dC (.int 10)) (dC (.int 29))))) (dCons (dC (.int 1)) (dCons (dC (.int 1)) dNil)))) dNil))) (dC (.int 1)))))) (dRet (dC (.bl false))) dNext)
 (dRet (dOp gEq (dCall 3 c_root_times [] DX0 (dCons (dVar 1) (dCons (dTup (dCons (dC (.int 0)) (dCons (dC (.int 1)) (dCons (dC (.int 1)) dNil)))) (dCons (dTup (dCons (dC (.int 0)) (dCons (dC (.int 1)) (dCons (dC (.int 1)) dNil)))) dNil)))) (dTup (dCons (dVar 1) (dCons (dC (.int 0)) (dCons (dC (.int 1)) dNil))))))))))
def t_l_law_4d19 (c_l_generator_b324 : DSp) (c_l_drawn_6386 : DSp) (c_l_value_right_bbd5 : DSp) (c_l_near_right_9e0a : DSp) (c_is_cutting : DSp) (c_l_great_right_8517 : DSp) (c_measure_of : DSp) : DTS :=
 (dSeq (dFor (dRngI gRng1 (dCons (dC (.int 2)) dNil)) (dName 1) (dSeq (dAsg (dCall 2 c_l_generator_b324 [] DX0 (dCons (dVar 0) (dCons (dVar 1) dNil))) (dName 2))
 (dFor (dSeqI (dLst (dCons (dC (.int 6)) (dCons (dC (.int 20)) (dCons (dOp (rBin CPow fun i j => i ^ j.toNat) (dC (.int 10)) (dC (.int 14))) dNil))))) (dName 3) (dSeq (dAsg (dCall 2 c_l_drawn_6386 [] DX0 (dCons (dVar 2) (dCons (dVar 3) dNil))) (dName 4))
 (dIfS (dOr (dNot (dTru (dCall 1 c_l_value_right_bbd5 [] DX0 (dCons (dVar 4) dNil)))) (dNot (dTru (dCall 1 c_l_near_right_9e0a [] DX0 (dCons (dVar 4) dNil))))) (dRet (dC (.bl false))) dNext)))))
 (dSeq (dIfS (dTru (dOp gNe (dLc false (dSeqI (dLst (dCons (dTup (dCons (dC (.int 0)) (dCons (dC (.int 1)) (dCons (dC (.int 1)) (dCons (dNeg (dC (.int 1))) dNil))))) (dCons (dTup (dCons (dC (.int 1)) (dCons (dC (.int 2)) (dCons (dC (.int 2)) (dCons (dNeg (dC (.int 1))) dNil))))) (dCons (dTup (dCons (dC (.int 0)) (dCons (dC (.int 2)) (dCons (dC (.int 2)) (dCons (dNeg (dC (.int 2))) dNil))))) (dCons (dTup (dCons (dC (.int 0)) (dCons (dC (.int 1)) (dCons (dC (.int 1)) (dCons (dC (.int 0)) dNil))))) (dCons (dTup (dCons (dC (.int 2)) (dCons (dC (.int 2)) (dCons (dC (.int 2)) (dCons (dNeg (dC (.int 1))) dNil))))) dNil))))))) (dName 4) dYes (dCall 1 c_is_cutting [] DX0 (dCons (dVar 4) dNil)) [4]) (dLst (dCons (dC (.bl true)) (dCons (dC (.bl true)) (dCons (dC (.bl false)) (dCons (dC (.bl false)) (dCons (dC (.bl false)) dNil)))))))) (dRet (dC (.bl false))) dNext)
 (dRet (dAndV (dCall 0 c_l_great_right_8517 [] DX0 dNil) (dAndV (dOp gEq (dCall 1 c_measure_of [] DX0 (dCons (dTup (dCons (dC (.int 1)) (dCons (dC (.int 2)) (dCons (dC (.int 2)) (dCons (dNeg (dC (.int 1))) dNil))))) dNil)) (dC (.int 17))) (dAndV (dOp gEq (dCall 1 c_measure_of [] DX0 (dCons (dTup (dCons (dC (.int 0)) (dCons (dOp (rBin CPow fun i j => i ^ j.toNat) (dC (.int 10)) (dC (.int 28))) (dCons (dC (.int 1)) (dCons (dC (.int 1)) dNil))))) dNil)) (dOp gAdd (dC (.int 1)) (dOp (rBin CMul fun i j => i * j) (dC (.int 4)) (dOp (rBin CPow fun i j => i ^ j.toNat) (dC (.int 10)) (dC (.int 28)))))) (dOp (gIs false) (dCall 1 c_is_cutting [] DX0 (dCons (dTup (dCons (dC (.bl false)) (dCons (dC (.int 1)) (dCons (dC (.int 1)) (dCons (dNeg (dC (.int 1))) dNil))))) dNil)) (dC (.bl false)))))))))
end DL
namespace DL
open PySem PySem.Spec PyProof.Rows L2
local macro_rules | `(tactic| walk_at "rd") => `(tactic| simp only [startD, List.map, List.replicate, List.length_cons, List.length_nil, List.append_eq, List.append_nil, List.nil_append, List.cons_append, Nat.reduceSub, Nat.reduceAdd, List.getElem?_cons_zero, List.getElem?_cons_succ, List.set_cons_zero, List.set_cons_succ,
  dC, dVar, dOp, dTru, gTru, tru, dChain, dAnd, dOr, dNot, dAndV, dOrV, dNotV, dIf, dNeg, gNeg, dNil, dCons, dTup, dLst, dOwn, gIx, rBin, gAdd, gCmpI, dCall, dCallK, dSeq, dNext, dDrop, dRet, dRetN, dIfS, dName, dGNil, dGCons, dGTup, dSub, gSetL, dAsg, dPar, dPar3, dAug, gIpI, dSeqI, gSeqI, dRngI, gRng1, gRng2, dCB, gAbs, gInt, gMax, gMin, gGcd, gLen, lenD, gIsi, tyM, tyD, dBits, gBits, dMet, gAppend, dPart, dNoPart, dSl, dEnds, gIs, isB, dNever, dFor, dLc, wipeD, dYes,
  sizeLine_eq, Nat.reduceLeDiff, gEq_int, gNe_int, gEq_strs, gNe_strs, gIn_two, gRepr_bl, rs_lst, rs_tup, rs_scr, rs_int, atI_0, atI_1, atI_2, atI_3, atI_4, atI_5, ixN_30, ixN_31, ixN_32, gEq_bl, gNe_bl, decide_eq_true_eq, beq_iff_eq, Bool.not_eq_true', beq_eq_false_iff_ne, decide_eq_false_iff_not, Bool.not_true, Bool.not_false, if_true, if_false, Bool.false_eq_true, ite_true, ite_false, true_and, and_true, ne_eq, Bool.bne_false, Bool.bne_true, reduceCtorEq])
local macro_rules | `(tactic| walk_at "rh") => `(tactic| simp only [*, startD, List.map, List.replicate, List.length_cons, List.length_nil, List.append_eq, List.append_nil, List.nil_append, List.cons_append, Nat.reduceSub, Nat.reduceAdd, List.getElem?_cons_zero, List.getElem?_cons_succ, List.set_cons_zero, List.set_cons_succ,
  dC, dVar, dOp, dTru, gTru, tru, dChain, dAnd, dOr, dNot, dAndV, dOrV, dNotV, dIf, dNeg, gNeg, dNil, dCons, dTup, dLst, dOwn, gIx, rBin, gAdd, gCmpI, dCall, dCallK, dSeq, dNext, dDrop, dRet, dRetN, dIfS, dName, dGNil, dGCons, dGTup, dSub, gSetL, dAsg, dPar, dPar3, dAug, gIpI, dSeqI, gSeqI, dRngI, gRng1, gRng2, dCB, gAbs, gInt, gMax, gMin, gGcd, gLen, lenD, gIsi, tyM, tyD, dBits, gBits, dMet, gAppend, dPart, dNoPart, dSl, dEnds, gIs, isB, dNever, dFor, dLc, wipeD, dYes,
  sizeLine_eq, Nat.reduceLeDiff, gEq_int, gNe_int, gEq_strs, gNe_strs, gIn_two, gRepr_bl, rs_lst, rs_tup, rs_scr, rs_int, atI_0, atI_1, atI_2, atI_3, atI_4, atI_5, ixN_30, ixN_31, ixN_32, gEq_bl, gNe_bl, decide_eq_true_eq, beq_iff_eq, Bool.not_eq_true', beq_eq_false_iff_ne, decide_eq_false_iff_not, Bool.not_true, Bool.not_false, if_true, if_false, Bool.false_eq_true, ite_true, ite_false, true_and, and_true, ne_eq, Bool.bne_false, Bool.bne_true, reduceCtorEq])
local macro_rules | `(tactic| walk_at "kb") => `(tactic| simp only [kb_NoneType_list, kb_bool_list, kb_int_list, kb_str_list, kb_tuple_list, kb_list_list, kb_dict_list, kb_NoneType_int, kb_bool_int, kb_int_int, kb_str_int, kb_tuple_int, kb_list_int, kb_dict_int, kb_NoneType_bool, kb_bool_bool, kb_int_bool, kb_str_bool, kb_tuple_bool, kb_list_bool, kb_dict_bool, kb_NoneType_tuple, kb_bool_tuple, kb_int_tuple, kb_str_tuple, kb_tuple_tuple, kb_list_tuple, kb_dict_tuple, if_true, if_false, Bool.false_eq_true, ite_true, ite_false, Bool.not_true, Bool.not_false])
theorem rd_l_hash_d8d1 : ∀ ds M Q, ds.length = 2 → sp_hash ds M Q DX0 → t_l_hash_d8d1 (dEnds M Q) (startD 3 ds) M := by
  rintro _ M Q - ⟨s, c, rfl, s0, s1, c0, c1, q⟩
  unfold P31 P40 at *
  unfold t_l_hash_d8d1
  walk_at "rd"
  have ss : Sm s := sm_of 32 (by omega) (by omega)
  have sc : Sm c := sm_of 42 (by omega) (by omega)
  have hm : ∀ a : Int, 0 ≤ a.fmod 2147483629 ∧ a.fmod 2147483629 < 2147483629 := fun a => fm_range (by decide)
  have k1 : Sm (27644437 * c) := sm_of 72 (by omega) (by omega)
  refine ⟨⟨ss, sm_of 32 (by decide) (by decide)⟩, ⟨sm_of 32 (by decide) (by decide), sc⟩, ⟨k1, sc⟩, ⟨sm_of 32 (by decide) (by decide), sc⟩, (by decide : (2147483629 : Int) ≠ 0), ?_⟩
  generalize hv : Int.fmod _ 2147483629 = v
  have v1 : 0 ≤ v ∧ v < 2147483629 := by rw [← hv]; exact hm _
  have sv : Sm v := sm_of 32 (by omega) (by omega)
  refine ⟨⟨sv, sv⟩, ⟨sm_of 32 (by decide) (by decide), sc⟩, (by decide : (2147483587 : Int) ≠ 0), ?_⟩
  generalize hw : Int.fmod _ 2147483587 = w
  have w1 : 0 ≤ w ∧ w < 2147483587 := by rw [← hw]; exact fm_range (by decide)
  refine ⟨⟨sm_of 32 (by omega) (by omega), sm_of 32 (by decide) (by decide)⟩, (by decide : (2147483647 : Int) ≠ 0), ?_⟩
  have r1 : 0 ≤ (w * 48271).fmod 2147483647 ∧ (w * 48271).fmod 2147483647 < 2147483647 := fm_range (by decide)
  exact rtq (q _ r1.1 (by omega))
theorem rd_l_common_7348 : ∀ ds M Q, ds.length = 2 → sp_gcd ds M Q DX0 → t_l_common_7348 (dEnds M Q) (startD 2 ds) M := by
  rintro _ M Q - ⟨a, b, rfl, q⟩
  unfold t_l_common_7348
  walk_at "rd"
  refine dwhile_of (fun n r M' => ∃ l h : Int, r = [some (.int l), some (.int h)] ∧ M' = M ∧ 0 ≤ l ∧ 0 ≤ h ∧ Int.gcd l h = Int.gcd a b ∧ n = h.toNat) _ ⟨_, _, rfl, rfl, ?_, ?_, gcd_abs a b, rfl⟩ ?_
  · split <;> omega
  · split <;> omega
  · rintro n r M' ⟨l, h, rfl, rfl, hl, hh, hg, rfl⟩
    walk_at "rd"
    split
    · rename_i h0
      have hp : 0 < h := by omega
      refine ⟨h0, _, ?_, h, l.fmod h, rfl, hh, ?_, (gcd_step hl hp).trans hg, rfl⟩
      · have := fm_range (a := l) hp
        omega
      · exact (fm_range (a := l) hp).1
    · rename_i h0
      have h0 : h = 0 := by omega
      subst h0
      rw [← hg, gcd_end hl] at q
      exact rtq q
/-! ### cuttings -/
/-- a cutting: (a, b, c, e) -/
def isCut (a b c e : Int) : Bool := decide (1 ≤ b) && (decide (1 ≤ c) && (decide (c + e < b) && (decide (0 ≤ a) && (decide (a < (Int.gcd b c : Int)) && (Int.gcd (Int.gcd a (Int.gcd b c : Int) : Int) e : Int) == 1))))
def isCutD (d : D) : Bool := match d with
  | .tup [.int a, .int b, .int c, .int e] => isCut a b c e
  | _ => false
/-- d may be asked: no tuple, or of another length, or of plain data -/
def Askable (n : Nat) (M : Mem) (d : D) : Prop := (∃ T, tyM M d = some T) ∧ (∀ l, d = .tup l → l.length = n → ∀ e ∈ l, (fine 40 e = true ∧ ∃ T, tyM M e = some T))
theorem ask_fine {n : Nat} {d : D} (M : Mem) (h : fine 41 d = true) : Askable n M d := by
  refine ⟨fine_ty M h, ?_⟩
  rintro l rfl h3 e he
  have h' : fineAll 40 l = true := by simpa only [fine] using h
  have := fineAll_iff.mp h' e he
  exact ⟨this, fine_ty M this⟩
abbrev T4 (a b c e : Int) : D := .tup [.int a, .int b, .int c, .int e]
theorem len4 {l : List D} (h : l.length = 4) : ∃ a b c d, l = [a, b, c, d] := by
  match l, h with
  | [a, b, c, d], _ => exact ⟨a, b, c, d, rfl⟩
theorem isCutD_notup {d : D} (h : ∀ l, d ≠ .tup l) : isCutD d = false := by
  cases d <;> first | rfl | exact absurd rfl (h _)
theorem isCutD_len {l : List D} (h : l.length ≠ 4) : isCutD (.tup l) = false := by
  unfold isCutD
  split
  · rename_i e; cases e; exact absurd rfl h
  · rfl
theorem isCutD_bad {l : List D} (h : ∃ e ∈ l, isW e = false) : isCutD (.tup l) = false := by
  unfold isCutD
  split
  · rename_i e
    cases e
    obtain ⟨e, he, hw⟩ := h
    simp only [List.mem_cons, List.not_mem_nil, or_false] at he
    rcases he with rfl | rfl | rfl | rfl <;> cases hw
  · rfl
def sp_is_cutting : DSp := fun ds M Q _ => ∃ d, ds = [d] ∧ Askable 4 M d ∧ Q (.bl (isCutD d)) M
theorem rd_is_cutting_by : ∀ ds M Q, ds.length = 1 → sp_is_cutting ds M Q DX0 → t_is_cutting_by sp_is_whole sp_gcd (dEnds M Q) (startD 7 ds) M := by
  rintro _ M Q - ⟨d, rfl, ⟨⟨T, ht⟩, hr⟩, q⟩
  unfold t_is_cutting_by
  walk_at "rd"
  by_cases htup : ∃ l, d = .tup l
  · obtain ⟨l, rfl⟩ := htup
    walk_at "rd"
    walk_at "kb"
    by_cases h3 : l.length = 4
    · obtain ⟨da, db, dc, de, rfl⟩ := len4 h3
      have hr' := hr _ rfl rfl
      walk_at "rd"
      rw [if_neg (by decide)]
      refine lcW_pure (fun e => if isW e = true then none else some e) trivial (by rw [sizeLine_eq]; exact (by decide : (4 : Nat) ≤ 16777216)) (fun d hd Y N hy => ?_) ?_
      · walk_at "rd"
        obtain ⟨_, T', hT⟩ := hr' d hd
        refine ⟨d, T', rfl, hT, ?_⟩
        by_cases hw : isW d = true
        · simp only [hw, if_true] at hy ⊢
          exact hy
        · rw [Bool.not_eq_true] at hw
          simp only [hw, Bool.false_eq_true, if_false, Bool.not_false, if_true] at hy ⊢
          exact hy
      · refine gNe_nil' (n := 40) (bads_fine fun e he => (hr' e he).1) ?_
        show if (!(bads [da, db, dc, de]).isEmpty) = true then _ else _
        cases hb : (bads [da, db, dc, de]).isEmpty with
        | false =>
          rw [if_pos (by decide)]
          rw [isCutD_bad (bads_some hb)] at q
          exact rtq q
        | true =>
          rw [if_neg (by decide)]
          have hw := bads_nil hb
          obtain ⟨a, rfl⟩ := isW_iff.mp (hw da (by simp))
          obtain ⟨b, rfl⟩ := isW_iff.mp (hw db (by simp))
          obtain ⟨c, rfl⟩ := isW_iff.mp (hw dc (by simp))
          obtain ⟨e, rfl⟩ := isW_iff.mp (hw de (by simp))
          walk_at "rd"
          have fin : ∀ v, v = isCut a b c e → Rtq M Q (.bl v) M := by rintro _ rfl; exact rtq q
          by_cases h1 : b < 1
          · rw [if_pos h1]
            exact fin _ (by unfold isCut; rw [decide_eq_false (show ¬ 1 ≤ b by omega)]; rfl)
          · rw [if_neg h1]
            have e1 := decide_eq_true (show 1 ≤ b by omega)
            by_cases h2 : c < 1
            · rw [if_pos h2]
              exact fin _ (by unfold isCut; rw [e1, decide_eq_false (show ¬ 1 ≤ c by omega)]; rfl)
            · rw [if_neg h2]
              have e2 := decide_eq_true (show 1 ≤ c by omega)
              by_cases h3 : c + e < b
              · rw [if_neg (fun z => z h3)]
                have e3 := decide_eq_true h3
                refine ⟨b, c, rfl, ?_⟩
                dsimp only
                by_cases h4 : 0 ≤ a
                · rw [if_pos h4]
                  have e4 := decide_eq_true h4
                  by_cases h5 : a < (Int.gcd b c : Int)
                  · rw [if_pos h5]
                    have e5 := decide_eq_true h5
                    refine ⟨a, _, rfl, _, e, rfl, ?_⟩
                    dsimp only
                    rw [gEq_int]
                    exact fin _ (by unfold isCut; rw [e1, e2, e3, e4, e5]; rfl)
                  · rw [if_neg h5]
                    exact fin _ (by unfold isCut; rw [e1, e2, e3, e4, decide_eq_false h5]; rfl)
                · rw [if_neg h4, if_neg h4]
                  exact fin _ (by unfold isCut; rw [e1, e2, e3, decide_eq_false h4]; rfl)
              · rw [if_pos h3]
                exact fin _ (by unfold isCut; rw [e1, e2, decide_eq_false h3]; rfl)
    · have h3' : ¬ ((l.length : Nat) : Int) = 4 := by omega
      simp only [h3', not_false_eq_true, if_true]
      rw [isCutD_len h3] at q
      exact rtq q
  · have q' : Q (.bl false) M := by rwa [isCutD_notup fun l e => htup ⟨l, e⟩] at q
    cases d <;> first | exact absurd ⟨_, rfl⟩ htup | (cases ht; done) | skip
    all_goals walk_at "rd"
    case own k =>
      unfold tyM at ht
      dsimp only at ht
      split at ht
      · rename_i ds hk
        simp only [hk]
        walk_at "kb"
        exact rtq q'
      · cases ht
    all_goals walk_at "kb"
    all_goals exact rtq q'

theorem rd_is_cutting : ∀ ds M Q, ds.length = 1 → sp_is_cutting ds M Q DX0 → t_is_cutting sp_is_cutting (dEnds M Q) (startD 1 ds) M := by
  rintro _ M Q - ⟨d, rfl, ha, q⟩
  unfold t_is_cutting
  walk_at "rd"
  exact ⟨d, rfl, ha, rtq q⟩
theorem rd_is_measure : ∀ ds M Q, ds.length = 1 → sp_is_measure ds M Q DX0 → t_is_measure sp_is_measure (dEnds M Q) (startD 1 ds) M := by
  rintro _ M Q - ⟨d, T, rfl, ht, q⟩
  unfold t_is_measure
  walk_at "rd"
  exact ⟨d, T, rfl, ht, rtq q⟩
def sp_whole_root : DSp := fun ds M Q _ => ∃ m : Int, ds = [.int m] ∧ isMeas (.int m) = true ∧ m ≤ BIG ∧ Q (.int (isq m)) M
theorem rd_whole_root : ∀ ds M Q, ds.length = 1 → sp_whole_root ds M Q DX0 → t_whole_root sp_check_measure sp_isq (dEnds M Q) (startD 1 ds) M := by
  rintro _ M Q - ⟨m, rfl, hm, hB, q⟩
  unfold t_whole_root
  walk_at "rd"
  exact ⟨m, rfl, hm, m, rfl, meas_le hm, hB, rtq q⟩
/-- check_cutting of a cutting -/
def sp_check_cutting : DSp := fun ds M Q _ => ∃ a b c e : Int, ds = [T4 a b c e] ∧ isCut a b c e = true ∧ Q .non M
theorem rd_check_cutting : ∀ ds M Q, ds.length = 1 → sp_check_cutting ds M Q DX0 → t_check_cutting sp_is_cutting (dEnds M Q) (startD 1 ds) M := by
  rintro _ M Q - ⟨a, b, c, e, rfl, h, q⟩
  unfold t_check_cutting
  walk_at "rd"
  refine ⟨_, rfl, ask_fine M rfl, ?_⟩
  rw [show isCutD (T4 a b c e) = true from h]
  walk_at "rd"
  exact rtq q
def meas4 (b c e : Int) : Int := e * e + 4 * b * c
def sp_measure_by : DSp := fun ds M Q _ => ∃ a b c e : Int, ds = [T4 a b c e] ∧ Bi 1000 b ∧ Bi 1000 c ∧ Bi 1000 e ∧ Q (.int (meas4 b c e)) M
theorem rd_measure_by : ∀ ds M Q, ds.length = 1 → sp_measure_by ds M Q DX0 → t_measure_by (dEnds M Q) (startD 1 ds) M := by
  rintro _ M Q - ⟨a, b, c, e, rfl, hb, hc, he, q⟩
  unfold t_measure_by
  walk_at "rd"
  have h4 : Bi 3 4 := Bi.of_abs 4 (by decide)
  exact ⟨⟨he.sm, he.sm⟩, ⟨h4.sm, hb.sm⟩, ⟨(h4.mul hb).sm, hc.sm⟩, rtq q⟩
def sp_measure_of : DSp := fun ds M Q _ => ∃ a b c e : Int, ds = [T4 a b c e] ∧ isCut a b c e = true ∧ Bi 1000 b ∧ Bi 1000 c ∧ Bi 1000 e ∧ Q (.int (meas4 b c e)) M
theorem rd_measure_of : ∀ ds M Q, ds.length = 1 → sp_measure_of ds M Q DX0 → t_measure_of sp_check_cutting sp_measure_by (dEnds M Q) (startD 1 ds) M := by
  rintro _ M Q - ⟨a, b, c, e, rfl, h, hb, hc, he, q⟩
  unfold t_measure_of
  walk_at "rd"
  exact ⟨a, b, c, e, rfl, h, a, b, c, e, rfl, hb, hc, he, rtq q⟩
theorem cut_parts {a b c e : Int} (h : isCut a b c e = true) : 1 ≤ b ∧ 1 ≤ c ∧ c + e < b ∧ 0 ≤ a ∧ a < (Int.gcd b c : Int) ∧ (Int.gcd (Int.gcd a (Int.gcd b c : Int) : Int) e : Int) = 1 := by
  simpa only [isCut, Bool.and_eq_true, decide_eq_true_eq, beq_iff_eq] using h
/-- the measure of a cutting is one -/
theorem meas4_ok {a b c e : Int} (h : isCut a b c e = true) : isMeas (.int (meas4 b c e)) = true := by
  obtain ⟨h1, h2, h3, _⟩ := cut_parts h
  have hbc : b * 1 ≤ b * c := Int.mul_le_mul_of_nonneg_left h2 (by omega)
  have he : 0 ≤ e * e := by rcases (by omega : 0 ≤ e ∨ e ≤ 0) with h | h; exact Int.mul_nonneg h h; exact Int.mul_nonneg_of_nonpos_of_nonpos h h
  have hm : meas4 b c e = e * e + 4 * (b * c) := by unfold meas4; rw [Int.mul_assoc]
  have h5 : 5 ≤ e * e + 4 * (b * c) := by
    by_cases z : e = 0
    · omega
    · have : 0 < e * e := by
        rcases (by omega : 0 < e ∨ e < 0) with q | q
        · exact Int.mul_pos q q
        · exact Int.mul_pos_of_neg_of_neg q q
      omega
  have hs : e * e % 4 = 0 ∨ e * e % 4 = 1 := by
    rcases (by omega : e % 2 = 0 ∨ e % 2 = 1) with q | q
    · obtain ⟨t, rfl⟩ : ∃ t, e = 2 * t := ⟨e / 2, by omega⟩
      left
      have : 2 * t * (2 * t) = 4 * (t * t) := by grind
      omega
    · obtain ⟨t, rfl⟩ : ∃ t, e = 2 * t + 1 := ⟨e / 2, by omega⟩
      right
      have : (2 * t + 1) * (2 * t + 1) = 4 * (t * t + t) + 1 := by grind
      omega
  simp only [isMeas, hm, h5, decide_true, Bool.true_and, Bool.or_eq_true, beq_iff_eq]
  omega

theorem gcd4 (a b c e : Int) : (Int.gcd (Int.gcd a b : Int) (Int.gcd c e : Int) : Int) = (Int.gcd (Int.gcd a (Int.gcd b c : Int) : Int) e : Int) := by
  unfold Int.gcd
  simp only [Int.natAbs_natCast, Nat.gcd_assoc]
def sp_lis_cutting : DSp := fun ds M Q _ => ∃ a b c e : Int, ds = [.int a, .int b, .int c, .int e] ∧ Q (.bl (isCut a b c e)) M
theorem rd_l_is_cutting_19aa : ∀ ds M Q, ds.length = 4 → sp_lis_cutting ds M Q DX0 → t_l_is_cutting_19aa sp_gcd (dEnds M Q) (startD 4 ds) M := by
  rintro _ M Q - ⟨a, b, c, e, rfl, q⟩
  unfold t_l_is_cutting_19aa
  walk_at "rd"
  have fin : ∀ v, v = isCut a b c e → Rtq M Q (.bl v) M := by rintro _ rfl; exact rtq q
  by_cases h1 : b < 1
  · rw [if_pos h1]
    exact fin _ (by unfold isCut; rw [decide_eq_false (show ¬ 1 ≤ b by omega)]; rfl)
  · rw [if_neg h1]
    have e1 := decide_eq_true (show 1 ≤ b by omega)
    by_cases h2 : c < 1
    · rw [if_pos h2]
      exact fin _ (by unfold isCut; rw [e1, decide_eq_false (show ¬ 1 ≤ c by omega)]; rfl)
    · rw [if_neg h2]
      have e2 := decide_eq_true (show 1 ≤ c by omega)
      by_cases h3 : c + e < b
      · rw [if_neg (show ¬ b ≤ c + e by omega)]
        have e3 := decide_eq_true h3
        by_cases h4 : 0 ≤ a
        · have e4 := decide_eq_true h4
          rw [if_pos h4]
          refine ⟨b, c, rfl, ?_⟩
          dsimp only
          by_cases h5 : a < (Int.gcd b c : Int)
          · have e5 := decide_eq_true h5
            rw [if_neg (fun z => z h5)]
            refine ⟨a, b, rfl, c, e, rfl, _, _, rfl, ?_⟩
            dsimp only
            rw [gEq_int, gcd4]
            exact fin _ (by unfold isCut; rw [e1, e2, e3, e4, e5]; rfl)
          · rw [if_pos h5]
            exact fin _ (by unfold isCut; rw [e1, e2, e3, e4, decide_eq_false h5]; rfl)
        · rw [if_neg h4, if_pos h4]
          exact fin _ (by unfold isCut; rw [e1, e2, e3, decide_eq_false h4]; rfl)
      · rw [if_pos (by omega)]
        exact fin _ (by unfold isCut; rw [e1, e2, decide_eq_false h3]; rfl)

theorem sl_take {l : List D} {i : Nat} : cutD l none (some (i : Int)) = l.take i := by
  unfold cutD
  have e1 : HT.sIx l.length l.length (some (i : Int)) = min i l.length := HT.sIx_nat _ _ _
  have e2 : HT.sIx l.length 0 none = 0 := rfl
  rw [e1, e2, Nat.sub_zero, List.drop_zero, ← List.take_eq_take_min]
theorem sl_drop {l : List D} {i : Nat} : cutD l (some (i : Int)) none = l.drop i := by
  unfold cutD
  have e1 : HT.sIx l.length 0 (some (i : Int)) = min i l.length := HT.sIx_nat _ _ _
  have e2 : HT.sIx l.length l.length none = l.length := rfl
  rw [e1, e2]
  by_cases h : i ≤ l.length
  · rw [Nat.min_eq_left h, List.take_of_length_le (by rw [List.length_drop]; omega)]
  · rw [Nat.min_eq_right (by omega), List.drop_length, List.drop_of_length_le (by omega)]
    simp
end DL
namespace DL
open PySem PySem.Spec PyProof.Rows L2
def t_l_common_b8b4 : DTS :=
 (dSeq (dPar 2 3 (dCons (dCB gAbs (dCons (dVar 0) dNil)) (dCons (dCB gAbs (dCons (dVar 1) dNil)) dNil)))
 (dSeq (dWhile (dTru (dOp (gCmpI fun i j => decide (j < i)) (dVar 3) (dC (.int 0)))) (dPar 2 3 (dCons (dVar 3) (dCons (dOp (rBin CMod fun i j => i.fmod j) (dCB gInt (dCons (dVar 2) dNil)) (dVar 3)) dNil))))
 (dRet (dVar 2))))
def t_l_cutting_f2c0 (c_l_random_7821 : DSp) (c_l_common_b8b4 : DSp) (c_l_is_cutting_19aa : DSp) : DTS :=
 (dSeq (dFor (dRngI gRng1 (dCons (dC (.int 30)) dNil)) (dName 2) (dSeq (dPar 3 4 (dCons (dOp gAdd (dC (.int 1)) (dCall 2 c_l_random_7821 [] DX0 (dCons (dVar 0) (dCons (dVar 1) dNil)))) (dCons (dOp gAdd (dC (.int 1)) (dCall 2 c_l_random_7821 [] DX0 (dCons (dVar 0) (dCons (dVar 1) dNil)))) dNil)))
 (dSeq (dIfS (dTru (dOp gEq (dCall 2 c_l_random_7821 [] DX0 (dCons (dVar 0) (dCons (dC (.int 3)) dNil))) (dC (.int 0)))) (dSeq (dAsg (dOp gAdd (dC (.int 2)) (dCall 2 c_l_random_7821 [] DX0 (dCons (dVar 0) (dCons (dC (.int 3)) dNil)))) (dName 5))
 (dPar 3 4 (dCons (dOp (rBin CMul fun i j => i * j) (dVar 3) (dVar 5)) (dCons (dOp (rBin CMul fun i j => i * j) (dVar 4) (dVar 5)) dNil)))) dNext)
 (dSeq (dAsg (dOp (rBin (fun _ _ => True) fun i j => i - j) (dOp (rBin (fun _ _ => True) fun i j => i - j) (dOp (rBin (fun _ _ => True) fun i j => i - j) (dVar 3) (dVar 4)) (dC (.int 1))) (dCall 2 c_l_random_7821 [] DX0 (dCons (dVar 0) (dCons (dOp (rBin CMul fun i j => i * j) (dC (.int 2)) (dVar 1)) dNil)))) (dName 6))
 (dSeq (dAsg (dCall 2 c_l_random_7821 [] DX0 (dCons (dVar 0) (dCons (dCall 2 c_l_common_b8b4 [] DX0 (dCons (dVar 3) (dCons (dVar 4) dNil))) dNil))) (dName 7))
 (dIfS (dTru (dCall 4 c_l_is_cutting_19aa [] DX0 (dCons (dVar 7) (dCons (dVar 3) (dCons (dVar 4) (dCons (dVar 6) dNil)))))) (dRet (dTup (dCons (dVar 7) (dCons (dVar 3) (dCons (dVar 4) (dCons (dVar 6) dNil)))))) dNext))))))
 (dRet (dTup (dCons (dC (.int 0)) (dCons (dOp gAdd (dC (.int 1)) (dVar 1)) (dCons (dC (.int 1)) (dCons (dOp (rBin (fun _ _ => True) fun i j => i - j) (dC (.int 0)) (dC (.int 1))) dNil)))))))
def t_l_path_108b (c_l_random_7821 : DSp) : DTS :=
 (dSeq (dAsg (dOp gIx (dLst (dCons (dC (.int 3)) (dCons (dOp (rBin CPow fun i j => i ^ j.toNat) (dC (.int 10)) (dC (.int 6))) (dCons (dOp (rBin CPow fun i j => i ^ j.toNat) (dC (.int 10)) (dC (.int 20))) dNil)))) (dCall 2 c_l_random_7821 [] DX0 (dCons (dVar 0) (dCons (dC (.int 3)) dNil)))) (dName 1))
 (dRet (dLc false (dRngI gRng1 (dCons (dC (.int 4)) dNil)) (dName 2) dYes (dOp (rBin (fun _ _ => True) fun i j => i - j) (dCall 2 c_l_random_7821 [] DX0 (dCons (dVar 0) (dCons (dOp gAdd (dOp (rBin CMul fun i j => i * j) (dC (.int 2)) (dVar 1)) (dC (.int 1))) dNil))) (dVar 1)) [2])))
def t_is_path_list (c_is_whole : DSp) : DTS :=
 (dRet (dAndV (dCB gIsi (dCons (dVar 0) (dCons (dC (.val (.ty "list"))) dNil))) (dAndV (dOp gEq (dCB gLen (dCons (dVar 0) dNil)) (dC (.int 4))) (dOp gEq (dLc false (dSeqI (dVar 0)) (dName 1) (dNot (dTru (dCall 1 c_is_whole [] DX0 (dCons (dVar 1) dNil)))) (dVar 1) [1]) (dLst dNil)))))
def t_check_path (c_is_path_list : DSp) : DTS :=
 (dIfS (dNot (dTru (dCall 1 c_is_path_list [] DX0 (dCons (dVar 0) dNil)))) dNever dNext)
def t_crossing_by : DTS :=
 (dSeq (dAsg (dOp (rBin (fun _ _ => True) fun i j => i - j) (dOp (rBin CMul fun i j => i * j) (dOp gIx (dVar 0) (dC (.int 0))) (dOp gIx (dVar 1) (dC (.int 1)))) (dOp (rBin CMul fun i j => i * j) (dOp gIx (dVar 0) (dC (.int 1))) (dOp gIx (dVar 1) (dC (.int 0))))) (dName 2))
 (dRet (dOp (rBin (fun _ _ => True) fun i j => i - j) (dOp gAdd (dVar 2) (dOp (rBin CMul fun i j => i * j) (dOp gIx (dVar 0) (dC (.int 2))) (dOp gIx (dVar 1) (dC (.int 3))))) (dOp (rBin CMul fun i j => i * j) (dOp gIx (dVar 0) (dC (.int 3))) (dOp gIx (dVar 1) (dC (.int 2)))))))
def t_crossing (c_check_path : DSp) (c_crossing_by : DSp) : DTS :=
 (dSeq (dDrop (dCall 1 c_check_path [] DX0 (dCons (dVar 0) dNil)))
 (dSeq (dDrop (dCall 1 c_check_path [] DX0 (dCons (dVar 1) dNil)))
 (dRet (dCall 2 c_crossing_by [] DX0 (dCons (dVar 0) (dCons (dVar 1) dNil))))))
def t_l_crossing_3f18 : DTS :=
 (dRet (dOp (rBin (fun _ _ => True) fun i j => i - j) (dOp gAdd (dOp (rBin (fun _ _ => True) fun i j => i - j) (dOp (rBin CMul fun i j => i * j) (dOp gIx (dVar 0) (dC (.int 0))) (dOp gIx (dVar 1) (dC (.int 1)))) (dOp (rBin CMul fun i j => i * j) (dOp gIx (dVar 0) (dC (.int 1))) (dOp gIx (dVar 1) (dC (.int 0))))) (dOp (rBin CMul fun i j => i * j) (dOp gIx (dVar 0) (dC (.int 2))) (dOp gIx (dVar 1) (dC (.int 3))))) (dOp (rBin CMul fun i j => i * j) (dOp gIx (dVar 0) (dC (.int 3))) (dOp gIx (dVar 1) (dC (.int 2))))))
def t_l_sum_cfa2 : DTS :=
 (dRet (dLc false (dRngI gZip (dCons (dVar 0) (dCons (dVar 1) dNil))) (dGTup 2 (dGCons (dName 3) (dGCons (dName 4) dGNil))) dYes (dOp gAdd (dVar 3) (dOp (rBin CMul fun i j => i * j) (dVar 2) (dVar 4))) [3, 4]))
def t_rooted_o : DTS :=
 (dSeq (dAsg (dVar 0) (dGTup 4 (dGCons (dName 2) (dGCons (dName 3) (dGCons (dName 4) (dGCons (dName 5) dGNil))))))
 (dSeq (dAsg (dVar 1) (dGTup 4 (dGCons (dName 6) (dGCons (dName 7) (dGCons (dName 8) (dGCons (dName 9) dGNil))))))
 (dRet (dOwn (dCons (dOp gAdd (dOp gAdd (dOp (rBin CMul fun i j => i * j) (dVar 5) (dVar 6)) (dOp (rBin CMul fun i j => i * j) (dVar 3) (dVar 8))) (dOp (rBin CMul fun i j => i * j) (dVar 2) (dVar 9))) (dCons (dOp gAdd (dOp (rBin CMul fun i j => i * j) (dVar 5) (dVar 7)) (dOp (rBin CMul fun i j => i * j) (dVar 4) (dVar 9))) (dCons (dOp (rBin (fun _ _ => True) fun i j => i - j) (dOp (rBin CMul fun i j => i * j) (dVar 4) (dVar 6)) (dOp (rBin CMul fun i j => i * j) (dVar 2) (dVar 7))) (dCons (dOp (rBin CMul fun i j => i * j) (dVar 3) (dVar 7)) dNil))))))))
def t_root_path (c_check_cutting : DSp) (c_check_path : DSp) (c_rooted_o : DSp) : DTS :=
 (dSeq (dDrop (dCall 1 c_check_cutting [] DX0 (dCons (dVar 0) dNil)))
 (dSeq (dDrop (dCall 1 c_check_path [] DX0 (dCons (dVar 1) dNil)))
 (dRet (dCall 2 c_rooted_o [] DX0 (dCons (dVar 0) (dCons (dVar 1) dNil))))))
def t_l_rooted_6254 : DTS :=
 (dSeq (dAsg (dVar 0) (dGTup 4 (dGCons (dName 2) (dGCons (dName 3) (dGCons (dName 4) (dGCons (dName 5) dGNil))))))
 (dRet (dLst (dCons (dOp gAdd (dOp gAdd (dOp (rBin CMul fun i j => i * j) (dVar 5) (dOp gIx (dVar 1) (dC (.int 0)))) (dOp (rBin CMul fun i j => i * j) (dVar 3) (dOp gIx (dVar 1) (dC (.int 2))))) (dOp (rBin CMul fun i j => i * j) (dVar 2) (dOp gIx (dVar 1) (dC (.int 3))))) (dCons (dOp gAdd (dOp (rBin CMul fun i j => i * j) (dVar 5) (dOp gIx (dVar 1) (dC (.int 1)))) (dOp (rBin CMul fun i j => i * j) (dVar 4) (dOp gIx (dVar 1) (dC (.int 3))))) (dCons (dOp (rBin (fun _ _ => True) fun i j => i - j) (dOp (rBin CMul fun i j => i * j) (dVar 4) (dOp gIx (dVar 1) (dC (.int 0)))) (dOp (rBin CMul fun i j => i * j) (dVar 2) (dOp gIx (dVar 1) (dC (.int 1))))) (dCons (dOp (rBin CMul fun i j => i * j) (dVar 3) (dOp gIx (dVar 1) (dC (.int 1)))) dNil)))))))
def t_l_right_dc29 (c_l_cutting_f2c0 : DSp) (c_l_random_7821 : DSp) (c_l_path_108b : DSp) (c_crossing : DSp) (c_l_crossing_3f18 : DSp) (c_l_sum_cfa2 : DSp) (c_root_path : DSp) (c_l_rooted_6254 : DSp) : DTS :=
 (dSeq (dAsg (dCall 2 c_l_cutting_f2c0 [] DX0 (dCons (dVar 0) (dCons (dOp gIx (dLst (dCons (dC (.int 30)) (dCons (dOp (rBin CPow fun i j => i ^ j.toNat) (dC (.int 10)) (dC (.int 12))) dNil))) (dCall 2 c_l_random_7821 [] DX0 (dCons (dVar 0) (dCons (dC (.int 2)) dNil)))) dNil))) (dName 1))
 (dSeq (dAsg (dLc false (dRngI gRng1 (dCons (dC (.int 3)) dNil)) (dName 5) dYes (dCall 1 c_l_path_108b [] DX0 (dCons (dVar 0) dNil)) [5]) (dGTup 3 (dGCons (dName 2) (dGCons (dName 3) (dGCons (dName 4) dGNil)))))
 (dSeq (dPar 6 7 (dCons (dCB gRepr (dCons (dLst (dCons (dVar 2) (dCons (dVar 3) (dCons (dVar 1) dNil)))) dNil)) (dCons (dOp (rBin (fun _ _ => True) fun i j => i - j) (dCall 2 c_l_random_7821 [] DX0 (dCons (dVar 0) (dCons (dC (.int 9)) dNil))) (dC (.int 4))) dNil)))
 (dSeq (dAsg (dCall 2 c_crossing [] DX0 (dCons (dVar 2) (dCons (dVar 3) dNil))) (dName 8))
 (dSeq (dIfS (dOr (dTru (dOp gNe (dCB gRepr (dCons (dVar 8) dNil)) (dCB gRepr (dCons (dCall 2 c_l_crossing_3f18 [] DX0 (dCons (dVar 2) (dCons (dVar 3) dNil))) dNil)))) (dOr (dTru (dOp gNe (dCallK 2 2 c_crossing [1, 0] DX0 (dCons (dVar 3) (dCons (dVar 2) dNil))) (dVar 8))) (dOr (dTru (dOp gNe (dCall 2 c_crossing [] DX0 (dCons (dVar 3) (dCons (dVar 2) dNil))) (dOp (rBin (fun _ _ => True) fun i j => i - j) (dC (.int 0)) (dVar 8)))) (dTru (dOp gNe (dCall 2 c_crossing [] DX0 (dCons (dVar 2) (dCons (dVar 2) dNil))) (dC (.int 0))))))) (dRet (dC (.bl false))) dNext)
 (dSeq (dIfS (dTru (dOp gNe (dCall 2 c_crossing [] DX0 (dCons (dCall 3 c_l_sum_cfa2 [] DX0 (dCons (dVar 2) (dCons (dVar 4) (dCons (dVar 7) dNil)))) (dCons (dVar 3) dNil))) (dOp gAdd (dVar 8) (dOp (rBin CMul fun i j => i * j) (dVar 7) (dCall 2 c_l_crossing_3f18 [] DX0 (dCons (dVar 4) (dCons (dVar 3) dNil))))))) (dRet (dC (.bl false))) dNext)
 (dSeq (dAsg (dCall 2 c_root_path [] DX0 (dCons (dVar 1) (dCons (dVar 2) dNil))) (dName 9))
 (dSeq (dIfS (dOr (dTru (dOp gNe (dCB gRepr (dCons (dVar 9) dNil)) (dCB gRepr (dCons (dCall 2 c_l_rooted_6254 [] DX0 (dCons (dVar 1) (dCons (dVar 2) dNil))) dNil)))) (dTru (dOp gNe (dCallK 2 2 c_root_path [1, 0] DX0 (dCons (dVar 2) (dCons (dVar 1) dNil))) (dVar 9)))) (dRet (dC (.bl false))) dNext)
 (dSeq (dIfS (dTru (dOp gNe (dCall 2 c_root_path [] DX0 (dCons (dVar 1) (dCons (dCall 3 c_l_sum_cfa2 [] DX0 (dCons (dVar 2) (dCons (dVar 4) (dCons (dVar 7) dNil)))) dNil))) (dCall 3 c_l_sum_cfa2 [] DX0 (dCons (dVar 9) (dCons (dCall 2 c_l_rooted_6254 [] DX0 (dCons (dVar 1) (dCons (dVar 4) dNil))) (dCons (dVar 7) dNil)))))) (dRet (dC (.bl false))) dNext)
 (dSeq (dAsg (dVar 1) (dGTup 4 (dGCons (dName 10) (dGCons (dName 11) (dGCons (dName 12) (dGCons (dName 13) dGNil))))))
 (dSeq (dIfS (dTru (dOp gNe (dCall 2 c_root_path [] DX0 (dCons (dVar 1) (dCons (dCB (gList false) (dCons (dVar 9) dNil)) dNil))) (dLc false (dRngI gZip (dCons (dVar 9) (dCons (dVar 2) dNil))) (dGTup 2 (dGCons (dName 14) (dGCons (dName 15) dGNil))) dYes (dOp gAdd (dOp (rBin CMul fun i j => i * j) (dVar 13) (dVar 14)) (dOp (rBin CMul fun i j => i * j) (dOp (rBin CMul fun i j => i * j) (dVar 11) (dVar 12)) (dVar 15))) [14, 15]))) (dRet (dC (.bl false))) dNext)
 (dSeq (dIfS (dTru (dOp gNe (dCall 2 c_crossing [] DX0 (dCons (dVar 9) (dCons (dVar 3) dNil))) (dCall 2 c_crossing [] DX0 (dCons (dVar 2) (dCons (dCall 2 c_root_path [] DX0 (dCons (dVar 1) (dCons (dVar 3) dNil))) dNil))))) (dRet (dC (.bl false))) dNext)
 (dSeq (dDrop (dMet gAppend (dVar 9) (dCons (dC .non) dNil)))
 (dRet (dAndV (dOp gEq (dCall 2 c_root_path [] DX0 (dCons (dVar 1) (dCons (dVar 2) dNil))) (dCall 2 c_l_rooted_6254 [] DX0 (dCons (dVar 1) (dCons (dVar 2) dNil)))) (dOp gEq (dCB gRepr (dCons (dLst (dCons (dVar 2) (dCons (dVar 3) (dCons (dVar 1) dNil)))) dNil)) (dVar 6)))))))))))))))))
def t_l_law_540c (c_l_right_dc29 : DSp) (c_l_generator_b324 : DSp) (c_crossing : DSp) (c_root_path : DSp) : DTS :=
 (dSeq (dFor (dRngI gRng1 (dCons (dC (.int 2)) dNil)) (dName 1) (dIfS (dNot (dTru (dCall 1 c_l_right_dc29 [] DX0 (dCons (dCall 2 c_l_generator_b324 [] DX0 (dCons (dVar 0) (dCons (dVar 1) dNil))) dNil)))) (dRet (dC (.bl false))) dNext))
 (dSeq (dIfS (dTru (dOp gNe (dLst (dCons (dCall 2 c_crossing [] DX0 (dCons (dLst (dCons (dC (.int 1)) (dCons (dC (.int 0)) (dCons (dC (.int 0)) (dCons (dC (.int 0)) dNil))))) (dCons (dLst (dCons (dC (.int 0)) (dCons (dC (.int 1)) (dCons (dC (.int 0)) (dCons (dC (.int 0)) dNil))))) dNil))) (dCons (dCall 2 c_crossing [] DX0 (dCons (dLst (dCons (dC (.int 0)) (dCons (dC (.int 2)) (dCons (dC (.int 1)) (dCons (dC (.int 0)) dNil))))) (dCons (dLst (dCons (dC (.int 1)) (dCons (dC (.int 0)) (dCons (dC (.int 0)) (dCons (dC (.int 3)) dNil))))) dNil))) (dCons (dCall 2 c_crossing [] DX0 (dCons (dLst (dCons (dC (.int 0)) (dCons (dC (.int 0)) (dCons (dC (.int 0)) (dCons (dC (.int 1)) dNil))))) (dCons (dLst (dCons (dC (.int 0)) (dCons (dC (.int 0)) (dCons (dC (.int 1)) (dCons (dC (.int 0)) dNil))))) dNil))) dNil)))) (dLst (dCons (dC (.int 1)) (dCons (dC (.int 1)) (dCons (dNeg (dC (.int 1))) dNil)))))) (dRet (dC (.bl false))) dNext)
 (dRet (dAndV (dOp gEq (dCall 2 c_root_path [] DX0 (dCons (dTup (dCons (dC (.int 0)) (dCons (dC (.int 1)) (dCons (dC (.int 1)) (dCons (dNeg (dC (.int 1))) dNil))))) (dCons (dLst (dCons (dC (.int 1)) (dCons (dC (.int 0)) (dCons (dC (.int 0)) (dCons (dC (.int 0)) dNil))))) dNil))) (dLst (dCons (dNeg (dC (.int 1))) (dCons (dC (.int 0)) (dCons (dC (.int 1)) (dCons (dC (.int 0)) dNil)))))) (dOp gEq (dCall 2 c_root_path [] DX0 (dCons (dTup (dCons (dC (.int 0)) (dCons (dC (.int 2)) (dCons (dC (.int 1)) (dCons (dC (.int 0)) dNil))))) (dCons (dLst (dCons (dC (.int 1)) (dCons (dC (.int 2)) (dCons (dC (.int 0)) (dCons (dNeg (dC (.int 1))) dNil))))) dNil))) (dLst (dCons (dC (.int 0)) (dCons (dNeg (dC (.int 1))) (dCons (dC (.int 1)) (dCons (dC (.int 4)) dNil))))))))))
end DL
namespace DL
open PySem PySem.Spec PyProof.Rows L2
def t_l_great_deed_6536 (c_l_random_7821 : DSp) (c_l_common_6be5 : DSp) : DTS :=
 (dSeq (dAsg (dSl (gSl false) (dVar 1) (dPart (dC (.int 1))) dNoPart) (dGTup 3 (dGCons (dName 2) (dGCons (dName 3) (dGCons (dName 4) dGNil)))))
 (dSeq (dPar 5 6 (dCons (dC (.int 1)) (dCons (dOp gIx (dLst (dCons (dC (.int 3)) (dCons (dC (.int 40)) (dCons (dOp (rBin CPow fun i j => i ^ j.toNat) (dC (.int 10)) (dC (.int 14))) dNil)))) (dCall 2 c_l_random_7821 [] DX0 (dCons (dVar 0) (dCons (dC (.int 3)) dNil)))) dNil)))
 (dSeq (dAsg (dOp gIx (dLst (dCons (dC (.int 1)) (dCons (dC (.int 1)) (dCons (dC (.int 2)) (dCons (dC (.int 3)) (dCons (dC (.int 6)) (dCons (dC (.int 30)) dNil))))))) (dCall 2 c_l_random_7821 [] DX0 (dCons (dVar 0) (dCons (dC (.int 6)) dNil)))) (dName 7))
 (dSeq (dFor (dRngI gRng1 (dCons (dC (.int 8)) dNil)) (dName 8) (dSeq (dAsg (dOp (rBin CMul fun i j => i * j) (dVar 7) (dOp gAdd (dC (.int 1)) (dCall 2 c_l_random_7821 [] DX0 (dCons (dVar 0) (dCons (dVar 6) dNil))))) (dName 9))
 (dSeq (dIfS (dTru (dOp (gCmpI fun i j => decide (j < i)) (dOp (rBin (fun _ _ => True) fun i j => i - j) (dOp (rBin (fun _ _ => True) fun i j => i - j) (dVar 2) (dOp (rBin CMul fun i j => i * j) (dVar 9) (dVar 4))) (dOp (rBin CMul fun i j => i * j) (dOp (rBin CMul fun i j => i * j) (dVar 9) (dVar 9)) (dVar 3))) (dC (.int 0)))) (dSeq (dAsg (dVar 9) (dName 5))
 dBreak) dNext)
 (dAsg (dOp gAdd (dC (.int 1)) (dOp (rBin CDiv fun i j => i.fdiv j) (dVar 6) (dC (.int 40)))) (dName 6)))))
 (dSeq (dAsg (dCall 2 c_l_random_7821 [] DX0 (dCons (dVar 0) (dCons (dVar 5) dNil))) (dName 10))
 (dSeq (dFor (dRngI gRng1 (dCons (dVar 5) dNil)) (dName 8) (dSeq (dIfS (dTru (dOp gEq (dCall 2 c_l_common_6be5 [] DX0 (dCons (dVar 10) (dCons (dVar 5) dNil))) (dC (.int 1)))) (dRet (dTup (dCons (dVar 10) (dCons (dVar 5) dNil)))) dNext)
 (dAsg (dOp (rBin CMod fun i j => i.fmod j) (dCB gInt (dCons (dOp gAdd (dVar 10) (dC (.int 1))) dNil)) (dVar 5)) (dName 10))))
 (dRet (dTup (dCons (dC (.int 0)) (dCons (dC (.int 1)) dNil))))))))))
def t_l_bezout_3a39 : DTS :=
 (dSeq (dAsg (dTup (dCons (dVar 0) (dCons (dVar 1) (dCons (dTup (dCons (dC (.int 1)) (dCons (dC (.int 0)) dNil))) (dCons (dTup (dCons (dC (.int 0)) (dCons (dC (.int 1)) dNil))) dNil))))) (dGTup 4 (dGCons (dName 2) (dGCons (dName 3) (dGCons (dName 4) (dGCons (dName 5) dGNil))))))
 (dSeq (dWhile (dTru (dOp gNe (dVar 3) (dC (.int 0)))) (dSeq (dAsg (dOp (rBin CDiv fun i j => i.fdiv j) (dVar 2) (dVar 3)) (dName 6))
 (dSeq (dPar 2 3 (dCons (dVar 3) (dCons (dOp (rBin (fun _ _ => True) fun i j => i - j) (dVar 2) (dOp (rBin CMul fun i j => i * j) (dVar 6) (dVar 3))) dNil)))
 (dPar 4 5 (dCons (dVar 5) (dCons (dTup (dCons (dOp (rBin (fun _ _ => True) fun i j => i - j) (dOp gIx (dVar 4) (dC (.int 0))) (dOp (rBin CMul fun i j => i * j) (dVar 6) (dOp gIx (dVar 5) (dC (.int 0))))) (dCons (dOp (rBin (fun _ _ => True) fun i j => i - j) (dOp gIx (dVar 4) (dC (.int 1))) (dOp (rBin CMul fun i j => i * j) (dVar 6) (dOp gIx (dVar 5) (dC (.int 1))))) dNil))) dNil))))))
 (dRet (dIf (dTru (dOp (gCmpI fun i j => decide (j < i)) (dVar 2) (dC (.int 0)))) (dTup (dCons (dVar 2) (dCons (dOp gIx (dVar 4) (dC (.int 0))) (dCons (dOp gIx (dVar 4) (dC (.int 1))) dNil)))) (dTup (dCons (dOp (rBin (fun _ _ => True) fun i j => i - j) (dC (.int 0)) (dVar 2)) (dCons (dOp (rBin (fun _ _ => True) fun i j => i - j) (dC (.int 0)) (dOp gIx (dVar 4) (dC (.int 0)))) (dCons (dOp (rBin (fun _ _ => True) fun i j => i - j) (dC (.int 0)) (dOp gIx (dVar 4) (dC (.int 1)))) dNil))))))))
def t_l_done_bebf (c_l_bezout_3a39 : DSp) (c_l_common_6be5 : DSp) : DTS :=
 (dSeq (dAsg (dVar 0) (dGTup 4 (dGCons (dName 2) (dGCons (dName 3) (dGCons (dName 4) (dGCons (dName 5) dGNil))))))
 (dSeq (dAsg (dVar 1) (dGTup 2 (dGCons (dName 6) (dGCons (dName 7) dGNil))))
 (dSeq (dAsg (dOp gIx (dCall 2 c_l_bezout_3a39 [] DX0 (dCons (dVar 6) (dCons (dVar 7) dNil))) (dC (.int 1))) (dName 8))
 (dSeq (dAsg (dOp (rBin CDiv fun i j => i.fdiv j) (dOp (rBin (fun _ _ => True) fun i j => i - j) (dOp (rBin CMul fun i j => i * j) (dVar 6) (dVar 8)) (dC (.int 1))) (dVar 7)) (dName 9))
 (dSeq (dPar 10 11 (dCons (dOp gAdd (dOp (rBin CMul fun i j => i * j) (dVar 6) (dVar 3)) (dOp (rBin CMul fun i j => i * j) (dVar 7) (dVar 2))) (dCons (dOp (rBin CMul fun i j => i * j) (dVar 7) (dVar 4)) dNil)))
 (dSeq (dAsg (dCall 2 c_l_bezout_3a39 [] DX0 (dCons (dVar 10) (dCons (dVar 11) dNil))) (dGTup 3 (dGCons (dName 12) (dGCons (dName 13) (dGCons (dName 14) dGNil)))))
 (dSeq (dAsg (dOp gAdd (dOp (rBin CMul fun i j => i * j) (dVar 13) (dOp gAdd (dOp gAdd (dOp gAdd (dOp (rBin CMul fun i j => i * j) (dVar 9) (dVar 3)) (dOp (rBin CMul fun i j => i * j) (dVar 8) (dVar 2))) (dVar 5)) (dOp (rBin CMul fun i j => i * j) (dVar 7) (dVar 4)))) (dOp (rBin CMul fun i j => i * j) (dOp (rBin CMul fun i j => i * j) (dVar 14) (dVar 8)) (dVar 4))) (dName 15))
 (dSeq (dAsg (dOp (rBin CDiv fun i j => i.fdiv j) (dOp (rBin CMul fun i j => i * j) (dVar 4) (dOp (rBin (fun _ _ => True) fun i j => i - j) (dOp (rBin (fun _ _ => True) fun i j => i - j) (dVar 3) (dOp (rBin CMul fun i j => i * j) (dVar 7) (dVar 5))) (dOp (rBin CMul fun i j => i * j) (dOp (rBin CMul fun i j => i * j) (dVar 7) (dVar 7)) (dVar 4)))) (dVar 12)) (dName 16))
 (dRet (dTup (dCons (dOp (rBin CMod fun i j => i.fmod j) (dCB gInt (dCons (dOp (rBin (fun _ _ => True) fun i j => i - j) (dC (.int 0)) (dVar 15)) dNil)) (dCall 2 c_l_common_6be5 [] DX0 (dCons (dVar 16) (dCons (dVar 12) dNil)))) (dCons (dVar 16) (dCons (dVar 12) (dCons (dOp (rBin (fun _ _ => True) fun i j => i - j) (dOp (rBin (fun _ _ => True) fun i j => i - j) (dC (.int 0)) (dVar 5)) (dOp (rBin CMul fun i j => i * j) (dOp (rBin CMul fun i j => i * j) (dC (.int 2)) (dVar 7)) (dVar 4))) dNil))))))))))))))
def t_far_by (c_common_by : DSp) : DTS :=
 (dSeq (dAsg (dVar 0) (dGTup 4 (dGCons (dName 1) (dGCons (dName 2) (dGCons (dName 3) (dGCons (dName 4) dGNil))))))
 (dSeq (dIfS (dTru (dOp gEq (dVar 3) (dC (.int 1)))) (dRet (dC (.int 0))) dNext)
 (dRet (dIf (dTru (dOp gEq (dCall 2 c_common_by [] DX0 (dCons (dCall 2 c_common_by [] DX0 (dCons (dVar 1) (dCons (dVar 2) dNil))) (dCons (dVar 3) dNil))) (dC (.int 1)))) (dC (.int 1)) (dC (.int 2))))))
def t_heart_distance (c_check_cutting : DSp) (c_far_by : DSp) : DTS :=
 (dSeq (dDrop (dCall 1 c_check_cutting [] DX0 (dCons (dVar 0) dNil)))
 (dRet (dCall 1 c_far_by [] DX0 (dCons (dVar 0) dNil))))
def t_is_heart (c_is_cutting_by : DSp) : DTS :=
 (dRet (dAndV (dCall 1 c_is_cutting_by [] DX0 (dCons (dVar 0) dNil)) (dOp gEq (dOp gIx (dVar 0) (dC (.int 2))) (dC (.int 1)))))
def t_shared : DTS :=
 (dSeq (dAsg (dTup (dCons (dVar 0) (dCons (dVar 1) (dCons (dC (.int 1)) (dCons (dC (.int 0)) (dCons (dC (.int 0)) (dCons (dC (.int 1)) dNil))))))) (dGTup 6 (dGCons (dName 2) (dGCons (dName 3) (dGCons (dName 4) (dGCons (dName 5) (dGCons (dName 6) (dGCons (dName 7) dGNil))))))))
 (dSeq (dWhile (dTru (dOp gNe (dVar 3) (dC (.int 0)))) (dSeq (dAsg (dOp (rBin CDiv fun i j => i.fdiv j) (dVar 2) (dVar 3)) (dName 8))
 (dSeq (dPar 2 3 (dCons (dVar 3) (dCons (dOp (rBin (fun _ _ => True) fun i j => i - j) (dVar 2) (dOp (rBin CMul fun i j => i * j) (dVar 8) (dVar 3))) dNil)))
 (dSeq (dPar 4 5 (dCons (dVar 5) (dCons (dOp (rBin (fun _ _ => True) fun i j => i - j) (dVar 4) (dOp (rBin CMul fun i j => i * j) (dVar 8) (dVar 5))) dNil)))
 (dPar 6 7 (dCons (dVar 7) (dCons (dOp (rBin (fun _ _ => True) fun i j => i - j) (dVar 6) (dOp (rBin CMul fun i j => i * j) (dVar 8) (dVar 7))) dNil)))))))
 (dRet (dIf (dTru (dOp (gCmpI fun i j => decide (j < i)) (dVar 2) (dC (.int 0)))) (dTup (dCons (dVar 2) (dCons (dVar 4) (dCons (dVar 6) dNil)))) (dTup (dCons (dNeg (dVar 2)) (dCons (dNeg (dVar 4)) (dCons (dNeg (dVar 6)) dNil))))))))
def t_opposite_by (c_shared : DSp) : DTS :=
 (dRet (dOp (rBin CMod fun i j => i.fmod j) (dOp gIx (dCall 2 c_shared [] DX0 (dCons (dOp (rBin CMod fun i j => i.fmod j) (dVar 0) (dVar 1)) (dCons (dVar 1) dNil))) (dC (.int 1))) (dVar 1)))
def t_beside (c_opposite_by : DSp) : DTS :=
 (dSeq (dAsg (dVar 0) (dGTup 2 (dGCons (dName 1) (dGCons (dName 2) dGNil))))
 (dSeq (dAsg (dIf (dTru (dOp (gCmpI fun i j => decide (j < i)) (dVar 2) (dC (.int 1)))) (dCall 2 c_opposite_by [] DX0 (dCons (dVar 1) (dCons (dVar 2) dNil))) (dC (.int 0))) (dName 3))
 (dRet (dTup (dCons (dOp (rBin CDiv fun i j => i.fdiv j) (dOp (rBin (fun _ _ => True) fun i j => i - j) (dOp (rBin CMul fun i j => i * j) (dVar 1) (dVar 3)) (dC (.int 1))) (dVar 2)) (dCons (dVar 3) dNil))))))
def t_table_by (c_beside : DSp) : DTS :=
 (dSeq (dAsg (dVar 0) (dGTup 4 (dGCons (dName 2) (dGCons (dName 3) (dGCons (dName 4) (dGCons (dName 5) dGNil))))))
 (dSeq (dAsg (dVar 1) (dGTup 2 (dGCons (dName 6) (dGCons (dName 7) dGNil))))
 (dSeq (dAsg (dCall 1 c_beside [] DX0 (dCons (dVar 1) dNil)) (dGTup 2 (dGCons (dName 8) (dGCons (dName 9) dGNil))))
 (dSeq (dAsg (dOp gAdd (dOp gAdd (dOp gAdd (dOp (rBin CMul fun i j => i * j) (dVar 8) (dVar 3)) (dOp (rBin CMul fun i j => i * j) (dVar 9) (dVar 2))) (dVar 5)) (dOp (rBin CMul fun i j => i * j) (dVar 7) (dVar 4))) (dName 10))
 (dRet (dTup (dCons (dTup (dCons (dOp gAdd (dOp (rBin CMul fun i j => i * j) (dVar 6) (dVar 3)) (dOp (rBin CMul fun i j => i * j) (dVar 7) (dVar 2))) (dCons (dOp (rBin CMul fun i j => i * j) (dVar 7) (dVar 4)) (dCons (dVar 10) (dCons (dOp (rBin CMul fun i j => i * j) (dVar 9) (dVar 4)) dNil))))) (dCons (dVar 8) (dCons (dVar 9) dNil)))))))))
def t_full_by (c_table_by : DSp) (c_shared : DSp) (c_opposite_by : DSp) : DTS :=
 (dSeq (dAsg (dCall 2 c_table_by [] DX0 (dCons (dVar 0) (dCons (dVar 1) dNil))) (dGTup 3 (dGCons (dGTup 4 (dGCons (dName 2) (dGCons (dName 3) (dGCons (dName 4) (dGCons (dName 5) dGNil))))) (dGCons (dName 6) (dGCons (dName 7) dGNil)))))
 (dSeq (dAsg (dCall 2 c_shared [] DX0 (dCons (dVar 2) (dCons (dVar 3) dNil))) (dGTup 3 (dGCons (dName 8) (dGCons (dName 9) (dGCons (dName 10) dGNil)))))
 (dSeq (dAsg (dOp (rBin CDiv fun i j => i.fdiv j) (dOp (rBin (fun _ _ => True) fun i j => i - j) (dOp (rBin CMul fun i j => i * j) (dVar 2) (dVar 5)) (dOp (rBin CMul fun i j => i * j) (dVar 3) (dVar 4))) (dVar 8)) (dName 11))
 (dSeq (dPar 12 13 (dCons (dCB gGcd (dCons (dVar 11) (dCons (dVar 8) dNil))) (dCons (dNeg (dOp gAdd (dOp (rBin CMul fun i j => i * j) (dVar 9) (dVar 4)) (dOp (rBin CMul fun i j => i * j) (dVar 10) (dVar 5)))) dNil)))
 (dSeq (dPar 14 15 (dCons (dOp (rBin CMod fun i j => i.fmod j) (dVar 13) (dVar 12)) (dCons (dOp (rBin CDiv fun i j => i.fdiv j) (dVar 8) (dVar 12)) dNil)))
 (dSeq (dAsg (dIf (dTru (dOp (gCmpI fun i j => decide (j < i)) (dVar 15) (dC (.int 1)))) (dOp (rBin CMod fun i j => i.fmod j) (dOp (rBin CMul fun i j => i * j) (dOp (rBin CDiv fun i j => i.fdiv j) (dOp (rBin (fun _ _ => True) fun i j => i - j) (dVar 14) (dVar 13)) (dVar 12)) (dCall 2 c_opposite_by [] DX0 (dCons (dOp (rBin CDiv fun i j => i.fdiv j) (dVar 11) (dVar 12)) (dCons (dVar 15) dNil)))) (dVar 15)) (dC (.int 0))) (dName 16))
 (dSeq (dPar3 9 10 13 (dCons (dOp gAdd (dVar 9) (dOp (rBin CMul fun i j => i * j) (dVar 16) (dOp (rBin CDiv fun i j => i.fdiv j) (dVar 3) (dVar 8)))) (dCons (dOp (rBin (fun _ _ => True) fun i j => i - j) (dVar 10) (dOp (rBin CMul fun i j => i * j) (dVar 16) (dOp (rBin CDiv fun i j => i.fdiv j) (dVar 2) (dVar 8)))) (dCons (dOp gAdd (dVar 13) (dOp (rBin CMul fun i j => i * j) (dVar 16) (dVar 11))) dNil))))
 (dSeq (dAsg (dTup (dCons (dVar 14) (dCons (dVar 11) (dCons (dVar 8) (dCons (dOp (rBin (fun _ _ => True) fun i j => i - j) (dNeg (dOp gIx (dVar 0) (dC (.int 3)))) (dOp (rBin CMul fun i j => i * j) (dOp (rBin CMul fun i j => i * j) (dC (.int 2)) (dOp gIx (dVar 1) (dC (.int 1)))) (dOp gIx (dVar 0) (dC (.int 2))))) dNil))))) (dName 17))
 (dRet (dTup (dCons (dVar 17) (dCons (dTup (dCons (dTup (dCons (dVar 9) (dCons (dVar 10) dNil))) (dCons (dTup (dCons (dNeg (dOp (rBin CDiv fun i j => i.fdiv j) (dVar 3) (dVar 8))) (dCons (dOp (rBin CDiv fun i j => i.fdiv j) (dVar 2) (dVar 8)) dNil))) dNil))) (dCons (dOp (rBin CDiv fun i j => i.fdiv j) (dOp (rBin (fun _ _ => True) fun i j => i - j) (dVar 13) (dVar 14)) (dVar 8)) (dCons (dVar 6) (dCons (dVar 7) dNil)))))))))))))))
def t_done_by (c_full_by : DSp) : DTS :=
 (dRet (dOp gIx (dCall 2 c_full_by [] DX0 (dCons (dVar 0) (dCons (dVar 1) dNil))) (dC (.int 0))))
def t_nearer_by (c_far_by : DSp) (c_done_by : DSp) : DTS :=
 (dSeq (dPar 1 2 (dCons (dCall 1 c_far_by [] DX0 (dCons (dVar 0) dNil)) (dCons (dC (.int 0)) dNil)))
 (dSeq (dWhile (dTru (dOp (gCmpI fun i j => decide (j ≤ i)) (dCall 1 c_far_by [] DX0 (dCons (dCall 2 c_done_by [] DX0 (dCons (dVar 0) (dCons (dTup (dCons (dVar 2) (dCons (dC (.int 1)) dNil))) dNil))) dNil)) (dVar 1))) (dAsg (dOp gAdd (dVar 2) (dC (.int 1))) (dName 2)))
 (dRet (dTup (dCons (dVar 2) (dCons (dC (.int 1)) dNil))))))
def t_to_heart_by (c_nearer_by : DSp) (c_done_by : DSp) : DTS :=
 (dSeq (dPar 1 2 (dCons (dVar 0) (dCons (dLst dNil) dNil)))
 (dSeq (dWhile (dTru (dOp gNe (dOp gIx (dVar 1) (dC (.int 2))) (dC (.int 1)))) (dSeq (dAsg (dCall 1 c_nearer_by [] DX0 (dCons (dVar 1) dNil)) (dName 3))
 (dPar 1 2 (dCons (dCall 2 c_done_by [] DX0 (dCons (dVar 1) (dCons (dVar 3) dNil))) (dCons (dOp gAdd (dVar 2) (dLst (dCons (dVar 3) dNil))) dNil)))))
 (dRet (dTup (dCons (dVar 2) (dCons (dVar 1) dNil))))))
def t_word_to_heart (c_check_cutting : DSp) (c_to_heart_by : DSp) : DTS :=
 (dSeq (dDrop (dCall 1 c_check_cutting [] DX0 (dCons (dVar 0) dNil)))
 (dRet (dOp gIx (dCall 1 c_to_heart_by [] DX0 (dCons (dVar 0) dNil)) (dC (.int 0)))))
def t_bounds_by (c_root_floor_by : DSp) : DTS :=
 (dSeq (dAsg (dCall 1 c_root_floor_by [] DX0 (dCons (dVar 0) dNil)) (dName 1))
 (dSeq (dAsg (dIf (dTru (dOp (gCmpI fun i j => decide (i < j)) (dOp (rBin CMul fun i j => i * j) (dVar 1) (dVar 1)) (dVar 0))) (dOp (rBin (fun _ _ => True) fun i j => i - j) (dC (.int 0)) (dVar 1)) (dOp (rBin (fun _ _ => True) fun i j => i - j) (dC (.int 1)) (dVar 1))) (dName 2))
 (dSeq (dAsg (dOp (rBin (fun _ _ => True) fun i j => i - j) (dOp (rBin (fun _ _ => True) fun i j => i - j) (dC (.int 0)) (dVar 2)) (dC (.int 2))) (dName 3))
 (dSeq (dIfS (dTru (dOp gNe (dOp (rBin CMod fun i j => i.fmod j) (dOp (rBin (fun _ _ => True) fun i j => i - j) (dVar 2) (dVar 0)) (dC (.int 2))) (dC (.int 0)))) (dAsg (dOp gAdd (dVar 2) (dC (.int 1))) (dName 2)) dNext)
 (dSeq (dIfS (dTru (dOp gNe (dOp (rBin CMod fun i j => i.fmod j) (dOp (rBin (fun _ _ => True) fun i j => i - j) (dVar 3) (dVar 0)) (dC (.int 2))) (dC (.int 0)))) (dAsg (dOp (rBin (fun _ _ => True) fun i j => i - j) (dVar 3) (dC (.int 1))) (dName 3)) dNext)
 (dRet (dTup (dCons (dVar 2) (dCons (dVar 3) dNil)))))))))
def t_heart_number (c_is_heart : DSp) (c_bounds_by : DSp) (c_measure_by : DSp) : DTS :=
 (dSeq (dIfS (dNot (dTru (dCall 1 c_is_heart [] DX0 (dCons (dVar 0) dNil)))) dNever dNext)
 (dRet (dOp (rBin CDiv fun i j => i.fdiv j) (dOp (rBin (fun _ _ => True) fun i j => i - j) (dOp gIx (dVar 0) (dC (.int 3))) (dOp gIx (dCall 1 c_bounds_by [] DX0 (dCons (dCall 1 c_measure_by [] DX0 (dCons (dVar 0) dNil)) dNil)) (dC (.int 0)))) (dC (.int 2)))))
def t_l_made_4c69 : DTS :=
 (dRet (dTup (dCons (dC (.int 0)) (dCons (dOp (rBin CDiv fun i j => i.fdiv j) (dOp (rBin (fun _ _ => True) fun i j => i - j) (dVar 0) (dOp (rBin CMul fun i j => i * j) (dVar 1) (dVar 1))) (dC (.int 4))) (dCons (dC (.int 1)) (dCons (dVar 1) dNil))))))
def t_l_measured_5aba : DTS :=
 (dRet (dOp gAdd (dOp (rBin CMul fun i j => i * j) (dOp gIx (dVar 0) (dC (.int 3))) (dOp gIx (dVar 0) (dC (.int 3)))) (dOp (rBin CMul fun i j => i * j) (dOp (rBin CMul fun i j => i * j) (dC (.int 4)) (dOp gIx (dVar 0) (dC (.int 1)))) (dOp gIx (dVar 0) (dC (.int 2))))))
def t_l_is_deed_51a8 (c_l_common_6be5 : DSp) : DTS :=
 (dSeq (dAsg (dSl (gSl false) (dVar 0) (dPart (dC (.int 1))) dNoPart) (dGTup 3 (dGCons (dName 2) (dGCons (dName 3) (dGCons (dName 4) dGNil)))))
 (dSeq (dAsg (dVar 1) (dGTup 2 (dGCons (dName 5) (dGCons (dName 6) dGNil))))
 (dSeq (dIfS (dOr (dTru (dOp (gCmpI fun i j => decide (i < j)) (dVar 6) (dC (.int 1)))) (dTru (dOp (gCmpI fun i j => decide (i ≤ j)) (dOp (rBin (fun _ _ => True) fun i j => i - j) (dOp (rBin (fun _ _ => True) fun i j => i - j) (dVar 2) (dOp (rBin CMul fun i j => i * j) (dVar 6) (dVar 4))) (dOp (rBin CMul fun i j => i * j) (dOp (rBin CMul fun i j => i * j) (dVar 6) (dVar 6)) (dVar 3))) (dC (.int 0))))) (dRet (dC (.bl false))) dNext)
 (dRet (dAndV (dChain (gCmpI fun i j => decide (i ≤ j)) (gCmpI fun i j => decide (i < j)) (dC (.int 0)) (dVar 5) (dOp (rBin CMul fun i j => i * j) (dVar 6) (dOp (rBin CDiv fun i j => i.fdiv j) (dVar 3) (dCall 2 c_l_common_6be5 [] DX0 (dCons (dVar 2) (dCons (dVar 3) dNil)))))) (dOp gEq (dCall 2 c_l_common_6be5 [] DX0 (dCons (dVar 5) (dCons (dVar 6) dNil))) (dC (.int 1))))))))
def t_l_right_3c6a (c_l_great_deed_6536 : DSp) (c_l_done_bebf : DSp) (c_l_common_6be5 : DSp) (c_heart_distance : DSp) (c_is_heart : DSp) (c_word_to_heart : DSp) (c_heart_number : DSp) (c_l_made_4c69 : DSp) (c_l_measured_5aba : DSp) (c_l_is_deed_51a8 : DSp) : DTS :=
 (dSeq (dAsg (dCall 2 c_l_great_deed_6536 [] DX0 (dCons (dVar 0) (dCons (dVar 1) dNil))) (dName 2))
 (dSeq (dPar 3 4 (dCons (dCall 2 c_l_done_bebf [] DX0 (dCons (dVar 1) (dCons (dVar 2) dNil))) (dCons (dCall 2 c_l_common_6be5 [] DX0 (dCons (dOp gIx (dVar 2) (dC (.int 1))) (dCons (dOp gIx (dVar 1) (dC (.int 1))) dNil))) dNil)))
 (dSeq (dIfS (dOr (dTru (dOp gNe (dOp gIx (dVar 3) (dC (.int 2))) (dVar 4))) (dOr (dTru (dOp gNe (dCB gRepr (dCons (dCall 1 c_heart_distance [] DX0 (dCons (dVar 3) dNil)) dNil)) (dCB gRepr (dCons (dCB gInt (dCons (dOp (gCmpI fun i j => decide (j < i)) (dVar 4) (dC (.int 1))) dNil)) dNil)))) (dTru (dOp gNe (dCB gRepr (dCons (dCall 1 c_is_heart [] DX0 (dCons (dVar 3) dNil)) dNil)) (dCB gRepr (dCons (dOp gEq (dVar 4) (dC (.int 1))) dNil)))))) (dRet (dC (.bl false))) dNext)
 (dSeq (dAsg (dCall 1 c_word_to_heart [] DX0 (dCons (dVar 3) dNil)) (dName 5))
 (dSeq (dIfS (dOr (dNot (dTru (dCB gIsi (dCons (dVar 5) (dCons (dC (.val (.ty "list"))) dNil))))) (dTru (dOp gNe (dCB gLen (dCons (dVar 5) dNil)) (dCB gInt (dCons (dOp (gCmpI fun i j => decide (j < i)) (dVar 4) (dC (.int 1))) dNil))))) (dRet (dC (.bl false))) dNext)
 (dSeq (dIfS (dTru (dOp gEq (dVar 5) (dLst dNil))) (dRet (dAndV (dOp (gCmpI fun i j => decide (j ≤ i)) (dCall 1 c_heart_number [] DX0 (dCons (dVar 3) dNil)) (dC (.int 0))) (dOp gEq (dVar 3) (dCall 2 c_l_made_4c69 [] DX0 (dCons (dCall 1 c_l_measured_5aba [] DX0 (dCons (dVar 1) dNil)) (dCons (dOp (rBin (fun _ _ => True) fun i j => i - j) (dOp (rBin (fun _ _ => True) fun i j => i - j) (dC (.int 0)) (dOp gIx (dVar 1) (dC (.int 3)))) (dOp (rBin CMul fun i j => i * j) (dC (.int 2)) (dOp gIx (dVar 2) (dC (.int 1))))) dNil)))))) dNext)
 (dSeq (dIfS (dNot (dTru (dCall 2 c_l_is_deed_51a8 [] DX0 (dCons (dVar 3) (dCons (dOp gIx (dVar 5) (dC (.int 0))) dNil))))) (dRet (dC (.bl false))) dNext)
 (dSeq (dAsg (dCall 2 c_l_done_bebf [] DX0 (dCons (dVar 3) (dCons (dOp gIx (dVar 5) (dC (.int 0))) dNil))) (dName 6))
 (dSeq (dIfS (dOr (dTru (dOp gNe (dOp gIx (dVar 6) (dC (.int 2))) (dC (.int 1)))) (dTru (dOp (gIs true) (dCall 1 c_is_heart [] DX0 (dCons (dVar 6) dNil)) (dC (.bl true))))) (dRet (dC (.bl false))) dNext)
 (dRet (dOrV (dOp gNe (dOp gIx (dOp gIx (dVar 5) (dC (.int 0))) (dC (.int 1))) (dC (.int 1))) (dOp gEq (dOp gIx (dVar 6) (dC (.int 3))) (dOp gAdd (dOp gIx (dVar 1) (dC (.int 3))) (dOp (rBin CMul fun i j => i * j) (dC (.int 2)) (dOp (rBin (fun _ _ => True) fun i j => i - j) (dOp gIx (dVar 2) (dC (.int 1))) (dVar 4))))))))))))))))
def t_l_heart_drawn_5fc2 (c_l_root_d754 : DSp) (c_l_random_7821 : DSp) (c_l_made_4c69 : DSp) : DTS :=
 (dSeq (dAsg (dCall 1 c_l_root_d754 [] DX0 (dCons (dOp (rBin (fun _ _ => True) fun i j => i - j) (dVar 1) (dC (.int 1))) dNil)) (dName 2))
 (dSeq (dAsg (dOp gAdd (dOp (rBin (fun _ _ => True) fun i j => i - j) (dC (.int 0)) (dVar 2)) (dOp (rBin CMod fun i j => i.fmod j) (dCB gInt (dCons (dOp gAdd (dVar 2) (dVar 1)) dNil)) (dC (.int 2)))) (dName 3))
 (dSeq (dAsg (dOp gAdd (dVar 3) (dOp (rBin CMul fun i j => i * j) (dC (.int 2)) (dCall 2 c_l_random_7821 [] DX0 (dCons (dVar 0) (dCons (dOp gAdd (dC (.int 1)) (dOp (rBin CDiv fun i j => i.fdiv j) (dOp (rBin (fun _ _ => True) fun i j => i - j) (dOp (rBin (fun _ _ => True) fun i j => i - j) (dOp (rBin (fun _ _ => True) fun i j => i - j) (dC (.int 0)) (dVar 3)) (dC (.int 2))) (dVar 3)) (dC (.int 2)))) dNil))))) (dName 4))
 (dRet (dCall 2 c_l_made_4c69 [] DX0 (dCons (dVar 1) (dCons (dIf (dTru (dOp (gCmpI fun i j => decide (i < j)) (dOp (rBin CMul fun i j => i * j) (dOp gAdd (dVar 4) (dC (.int 2))) (dOp gAdd (dVar 4) (dC (.int 2)))) (dVar 1))) (dVar 4) (dVar 3)) dNil)))))))
def t_l_law_73a7 (c_l_generator_b324 : DSp) (c_l_random_7821 : DSp) (c_l_right_3c6a : DSp) (c_l_heart_drawn_5fc2 : DSp) (c_l_measure_0db7 : DSp) (c_l_done_bebf : DSp) (c_heart_distance : DSp) (c_is_heart : DSp) : DTS :=
 (dSeq (dAsg (dCall 2 c_l_generator_b324 [] DX0 (dCons (dVar 0) (dCons (dC (.int 0)) dNil))) (dName 1))
 (dSeq (dFor (dRngI gRng1 (dCons (dC (.int 3)) dNil)) (dName 2) (dSeq (dAsg (dOp gAdd (dC (.int 5)) (dCall 2 c_l_random_7821 [] DX0 (dCons (dVar 1) (dCons (dC (.int 4000)) dNil)))) (dName 3))
 (dSeq (dAsg (dCB gMax (dCons (dC (.int 5)) (dCons (dOp gAdd (dOp (rBin (fun _ _ => True) fun i j => i - j) (dVar 3) (dOp (rBin CMod fun i j => i.fmod j) (dCB gInt (dCons (dVar 3) dNil)) (dC (.int 4)))) (dCall 2 c_l_random_7821 [] DX0 (dCons (dVar 1) (dCons (dC (.int 2)) dNil)))) dNil))) (dName 3))
 (dSeq (dIfS (dNot (dTru (dCall 2 c_l_right_3c6a [] DX0 (dCons (dVar 1) (dCons (dCall 2 c_l_heart_drawn_5fc2 [] DX0 (dCons (dVar 1) (dCons (dVar 3) dNil))) dNil))))) (dRet (dC (.bl false))) dNext)
 (dIfS (dNot (dTru (dCall 2 c_l_right_3c6a [] DX0 (dCons (dVar 1) (dCons (dCall 2 c_l_heart_drawn_5fc2 [] DX0 (dCons (dVar 1) (dCons (dCall 2 c_l_measure_0db7 [] DX0 (dCons (dVar 1) (dCons (dC (.int 28)) dNil))) dNil))) dNil))))) (dRet (dC (.bl false))) dNext)))))
 (dSeq (dAsg (dCall 2 c_l_done_bebf [] DX0 (dCons (dTup (dCons (dC (.int 0)) (dCons (dC (.int 2)) (dCons (dC (.int 1)) (dCons (dNeg (dC (.int 7))) dNil))))) (dCons (dTup (dCons (dC (.int 1)) (dCons (dC (.int 4)) dNil))) dNil))) (dName 4))
 (dRet (dAndV (dOp gEq (dVar 4) (dTup (dCons (dC (.int 0)) (dCons (dC (.int 7)) (dCons (dC (.int 2)) (dCons (dNeg (dC (.int 1))) dNil)))))) (dAndV (dOp gEq (dCall 1 c_heart_distance [] DX0 (dCons (dVar 4) dNil)) (dC (.int 1))) (dOp (gIs false) (dCall 1 c_is_heart [] DX0 (dCons (dCall 2 c_l_done_bebf [] DX0 (dCons (dVar 4) (dCons (dTup (dCons (dC (.int 1)) (dCons (dC (.int 1)) dNil))) dNil))) dNil)) (dC (.bl true)))))))))
end DL
/-! MB: what a deed makes of a cutting; plain -/
namespace DL
/-- two ways to write the common divisor differ by a multiple of the other two -/
theorem bez_diff {m n g u v u' v' : Int} (hg : g ≠ 0) (hm : g ∣ m) (hn : g ∣ n) (h : u * m + v * n = g) (h' : u' * m + v' * n = g) : ∃ t, (u - u') * g = t * n ∧ (v - v') * g = -(t * m) := by
  -- t = u v' - u' v
  refine ⟨u * v' - u' * v, ?_, ?_⟩
  · have : (u - u') * g = u * (u' * m + v' * n) - u' * (u * m + v * n) := by rw [h, h']; grind
    rw [this]; grind
  · have : (v - v') * g = v * (u' * m + v' * n) - v' * (u * m + v * n) := by rw [h, h']; grind
    rw [this]; grind
theorem row_diff {p q x z x' z' : Int} (f1 : p * z - q * x = 1) (f1' : p * z' - q * x' = 1) : ∃ s, x - x' = s * p ∧ z - z' = s * q := by
  refine ⟨x * z' - x' * z, ?_, ?_⟩
  · have : x - x' = x * (p * z' - q * x') - x' * (p * z - q * x) := by rw [f1, f1']; omega
    rw [this]; grind
  · have : z - z' = z * (p * z' - q * x') - z' * (p * z - q * x) := by rw [f1, f1']; omega
    rw [this]; grind
/-- (a', w, g, e') is where the deed (p, q) leads from (a, b, c, e) -/
structure IsDone (a b c e p q a' w g e' : Int) : Prop where
  gc : g = (Int.gcd (p * b + q * a) (q * c) : Int)
  wi : w * g = c * (b - q * e - q * q * c)
  tu : e' = 0 - e - 2 * q * c
  lo : 0 ≤ a'
  hi : a' < (Int.gcd w g : Int)
  ex : ∃ u v x z : Int, p * z - q * x = 1 ∧ u * (p * b + q * a) + v * (q * c) = g ∧ (Int.gcd w g : Int) ∣ a' + (u * (x * b + z * a + e + q * c) + v * (z * c))
theorem isDone_unique {a b c e p q a1 w1 g1 e1 a2 w2 g2 e2 : Int} (hg : g1 ≠ 0) (h1 : IsDone a b c e p q a1 w1 g1 e1) (h2 : IsDone a b c e p q a2 w2 g2 e2) : a1 = a2 ∧ w1 = w2 ∧ g1 = g2 ∧ e1 = e2 := by
  have eg : g1 = g2 := h1.gc.trans h2.gc.symm
  subst eg
  have ew : w1 = w2 := Int.eq_of_mul_eq_mul_right hg (h1.wi.trans h2.wi.symm)
  subst ew
  refine ⟨?_, rfl, rfl, h1.tu.trans h2.tu.symm⟩
  obtain ⟨u, v, x, z, f1, f2, f3⟩ := h1.ex
  obtain ⟨u', v', x', z', f1', f2', f3'⟩ := h2.ex
  have dm : g1 ∣ p * b + q * a := by rw [h1.gc]; exact Int.gcd_dvd_left _ _
  have dn : g1 ∣ q * c := by rw [h1.gc]; exact Int.gcd_dvd_right _ _
  obtain ⟨t, t1, t2⟩ := bez_diff hg dm dn f2 f2'
  -- the second rows differ by a multiple of the first
  have hs := row_diff f1 f1'
  obtain ⟨s, s1, s2⟩ := hs
  have hw : w1 * g1 = (p * b + q * a) * (z' * c) - (q * c) * (x' * b + z' * a + e + q * c) := by
    rw [h1.wi]
    have : (p * b + q * a) * (z' * c) - (q * c) * (x' * b + z' * a + e + q * c) = c * (b * (p * z' - q * x') - q * e - q * q * c) := by grind
    rw [this, f1', Int.mul_one]
  -- the difference of the two rests
  have hd : ∃ k, (u * (x * b + z * a + e + q * c) + v * (z * c)) - (u' * (x' * b + z' * a + e + q * c) + v' * (z' * c)) = s * g1 + k * w1 := by
    refine ⟨-t, ?_⟩
    refine Int.eq_of_mul_eq_mul_right hg ?_
    have ex' : x = x' + s * p := by omega
    have ez' : z = z' + s * q := by omega
    have l1 : ((u * (x * b + z * a + e + q * c) + v * (z * c)) - (u' * (x' * b + z' * a + e + q * c) + v' * (z' * c))) = s * (u * (p * b + q * a) + v * (q * c)) + ((u - u') * (x' * b + z' * a + e + q * c) + (v - v') * (z' * c)) := by
      rw [ex', ez']; grind
    rw [l1, f2]
    have l2 : (s * g1 + ((u - u') * (x' * b + z' * a + e + q * c) + (v - v') * (z' * c))) * g1 = s * g1 * g1 + (((u - u') * g1) * (x' * b + z' * a + e + q * c) + ((v - v') * g1) * (z' * c)) := by grind
    rw [l2, t1, t2]
    have l3 : (s * g1 + -t * w1) * g1 = s * g1 * g1 + -t * (w1 * g1) := by grind
    rw [l3, hw]
    grind
  obtain ⟨k, hk⟩ := hd
  have dG : (Int.gcd w1 g1 : Int) ∣ a1 - a2 := by
    have d1 := Int.dvd_sub f3 f3'
    have d2 : (Int.gcd w1 g1 : Int) ∣ s * g1 + k * w1 := Int.dvd_add (Int.dvd_trans (Int.gcd_dvd_right _ _) (Int.dvd_mul_left _ _)) (Int.dvd_trans (Int.gcd_dvd_left _ _) (Int.dvd_mul_left _ _))
    have d3 := Int.dvd_sub d1 d2
    have e3 : a1 + (u * (x * b + z * a + e + q * c) + v * (z * c)) - (a2 + (u' * (x' * b + z' * a + e + q * c) + v' * (z' * c))) - (s * g1 + k * w1) = a1 - a2 := by rw [← hk]; omega
    rwa [e3] at d3
  obtain ⟨j, hj⟩ := dG
  have l1 := h1.lo
  have l2 := h2.lo
  have u1 := h1.hi
  have u2 := h2.hi
  generalize (Int.gcd w1 g1 : Int) = G at *
  by_cases hj0 : j = 0
  · subst hj0; omega
  · exfalso
    rcases (by omega : 1 ≤ j ∨ j ≤ -1) with q | q
    · have : G * 1 ≤ G * j := Int.mul_le_mul_of_nonneg_left q (by omega)
      omega
    · have : G * j ≤ G * (-1) := Int.mul_le_mul_of_nonneg_left q (by omega)
      omega
/-- a concave form is positive between two places where it is -/
theorem between_pos {b c e q s : Int} (hb : 0 < b) (hc : 0 < c) (hq : 0 < q) (hf : 0 < b - q * e - q * q * c) (s0 : 0 ≤ s) (s1 : s ≤ q * c) : 0 < c * b - s * e - s * s := by
  have hqc : 0 < q * c := Int.mul_pos hq hc
  have e1 : q * c * (c * b - s * e - s * s) = (q * c - s) * (c * b) + s * (c * (b - q * e - q * q * c)) + s * ((q * c - s) * (q * c)) := by grind
  have h1 : 0 < c * b := Int.mul_pos hc hb
  have h2 : 0 < c * (b - q * e - q * q * c) := Int.mul_pos hc hf
  have h3 : 0 ≤ s * ((q * c - s) * (q * c)) := Int.mul_nonneg s0 (Int.mul_nonneg (by omega) (by omega))
  have h4 : 0 < (q * c - s) * (c * b) + s * (c * (b - q * e - q * q * c)) := by
    by_cases z : s = 0
    · subst z
      have := Int.mul_pos hqc h1
      simp only [Int.sub_zero, Int.zero_mul, Int.add_zero]
      exact this
    · have h5 : 0 ≤ (q * c - s) * (c * b) := Int.mul_nonneg (by omega) (by omega)
      have h6 : 0 < s * (c * (b - q * e - q * q * c)) := Int.mul_pos (by omega) h2
      omega
  have h7 : 0 < q * c * (c * b - s * e - s * s) := by omega
  by_cases z : 0 < c * b - s * e - s * s
  · exact z
  · have : q * c * (c * b - s * e - s * s) ≤ 0 := Int.mul_nonpos_of_nonneg_of_nonpos (by omega) (by omega)
    omega
/-- where a deed leads, the side is less wide than it must be -/
theorem done_room {b c e q w g : Int} (hb : 0 < b) (hc : 0 < c) (hq : 0 < q) (hg : 0 < g) (hf : 0 < b - q * e - q * q * c) (hd : g ∣ q * c) (hw : w * g = c * (b - q * e - q * q * c)) : 0 < w ∧ g + (0 - e - 2 * q * c) < w := by
  have h2 : 0 < c * (b - q * e - q * q * c) := Int.mul_pos hc hf
  have hle : g ≤ q * c := Int.le_of_dvd (Int.mul_pos hq hc) hd
  have hp := between_pos (s := q * c - g) hb hc hq hf (by omega) (by omega)
  have e1 : c * b - (q * c - g) * e - (q * c - g) * (q * c - g) = w * g - g * (g + (0 - e - 2 * q * c)) := by rw [hw]; grind
  rw [e1] at hp
  refine ⟨?_, ?_⟩
  · by_cases z : 0 < w
    · exact z
    · have : w * g ≤ 0 := Int.mul_nonpos_of_nonpos_of_nonneg (by omega) (by omega)
      omega
  · by_cases z : g + (0 - e - 2 * q * c) < w
    · exact z
    · have h3 : g * w ≤ g * (g + (0 - e - 2 * q * c)) := Int.mul_le_mul_of_nonneg_left (by omega) (by omega)
      have h4 : g * w = w * g := Int.mul_comm _ _
      omega
/-- what divides all of the new cutting divides all of the old one -/
theorem done_dvd {a b c e p q a' w g e' d : Int} (hg : g ≠ 0) (h : IsDone a b c e p q a' w g e') (d1 : d ∣ a') (d2 : d ∣ w) (d3 : d ∣ g) (d4 : d ∣ e') : d ∣ a ∧ d ∣ b ∧ d ∣ c ∧ d ∣ e := by
  obtain ⟨u, v, x, z, f1, f2, f3⟩ := h.ex
  have dm : g ∣ p * b + q * a := by rw [h.gc]; exact Int.gcd_dvd_left _ _
  have dn : g ∣ q * c := by rw [h.gc]; exact Int.gcd_dvd_right _ _
  obtain ⟨m', hm⟩ := dm
  obtain ⟨n', hn⟩ := dn
  have hu : u * m' + v * n' = 1 := by
    have : g * (u * m' + v * n') = g * 1 := by
      have e1 : g * (u * m' + v * n') = u * (g * m') + v * (g * n') := by grind
      rw [e1, ← hm, ← hn, f2, Int.mul_one]
    exact Int.eq_of_mul_eq_mul_left hg this
  generalize hr3 : x * b + z * a + e + q * c = r3 at f3
  generalize hr4 : z * c = r4 at f3
  have hW : w = m' * r4 - n' * r3 := by
    refine Int.eq_of_mul_eq_mul_right hg ?_
    rw [h.wi]
    have e1 : (m' * r4 - n' * r3) * g = (g * m') * r4 - (g * n') * r3 := by grind
    rw [e1, ← hm, ← hn, ← hr3, ← hr4]
    have e2 : (p * b + q * a) * (z * c) - (q * c) * (x * b + z * a + e + q * c) = c * (b * (p * z - q * x) - q * e - q * q * c) := by grind
    rw [e2, f1, Int.mul_one]
  have dR : d ∣ u * r3 + v * r4 := by
    have h1 : d ∣ (Int.gcd w g : Int) := Int.dvd_coe_gcd d2 d3
    have h2 := Int.dvd_sub (Int.dvd_trans h1 f3) d1
    have e1 : a' + (u * r3 + v * r4) - a' = u * r3 + v * r4 := by omega
    rwa [e1] at h2
  generalize hR : u * r3 + v * r4 = R at dR
  have e3 : r3 = m' * R - v * w := by
    have : m' * R - v * w = (u * m' + v * n') * r3 := by rw [← hR, hW]; grind
    rw [this, hu, Int.one_mul]
  have e4 : r4 = n' * R + u * w := by
    have : n' * R + u * w = (u * m' + v * n') * r4 := by rw [← hR, hW]; grind
    rw [this, hu, Int.one_mul]
  have D3 : d ∣ r3 := by rw [e3]; exact Int.dvd_sub (Int.dvd_mul_of_dvd_right dR) (Int.dvd_mul_of_dvd_right d2)
  have D4 : d ∣ r4 := by rw [e4]; exact Int.dvd_add (Int.dvd_mul_of_dvd_right dR) (Int.dvd_mul_of_dvd_right d2)
  have Dm : d ∣ p * b + q * a := by rw [hm]; exact Int.dvd_mul_of_dvd_left d3
  have Dn : d ∣ q * c := by rw [hn]; exact Int.dvd_mul_of_dvd_left d3
  have De : d ∣ e := by
    have h1 : e = 0 - e' - 2 * (q * c) := by have := h.tu; have e1 : 2 * q * c = 2 * (q * c) := Int.mul_assoc _ _ _; omega
    rw [h1, Int.zero_sub]
    exact Int.dvd_sub (Int.dvd_neg.mpr d4) (Int.dvd_mul_of_dvd_right Dn)
  have Dc : d ∣ c := by
    have h1 : c = p * r4 - x * (q * c) := by
      have : p * r4 - x * (q * c) = c * (p * z - q * x) := by rw [← hr4]; grind
      rw [this, f1, Int.mul_one]
    rw [h1]
    exact Int.dvd_sub (Int.dvd_mul_of_dvd_right D4) (Int.dvd_mul_of_dvd_right Dn)
  have Dx : d ∣ x * b + z * a := by
    have h1 : x * b + z * a = r3 - e - q * c := by omega
    rw [h1]
    exact Int.dvd_sub (Int.dvd_sub D3 De) Dn
  refine ⟨?_, ?_, Dc, De⟩
  · have h1 : a = p * (x * b + z * a) - x * (p * b + q * a) := by
      have : p * (x * b + z * a) - x * (p * b + q * a) = a * (p * z - q * x) := by grind
      rw [this, f1, Int.mul_one]
    rw [h1]
    exact Int.dvd_sub (Int.dvd_mul_of_dvd_right Dx) (Int.dvd_mul_of_dvd_right Dm)
  · have h1 : b = z * (p * b + q * a) - q * (x * b + z * a) := by
      have : z * (p * b + q * a) - q * (x * b + z * a) = b * (p * z - q * x) := by grind
      rw [this, f1, Int.mul_one]
    rw [h1]
    exact Int.dvd_sub (Int.dvd_mul_of_dvd_right Dm) (Int.dvd_mul_of_dvd_right Dx)
end DL
/-! MC: Euclid's rule with the factors; plain -/
namespace DL
theorem fmod_pos' {a b : Int} (h : 0 < b) : a.fmod b = a % b := Int.fmod_eq_emod_of_nonneg a (Int.le_of_lt h)
/-- the state of the rule: low = f m + t n, high = s m + h n, the sizes bounded -/
structure Euc (m n low high f s t h : Int) : Prop where
  e1 : low = f * m + t * n
  e2 : high = s * m + h * n
  l0 : 0 < low
  h0 : 0 ≤ high
  sg : (0 ≤ f ∧ s ≤ 0 ∧ f * high - s * low = n) ∨ (f ≤ 0 ∧ 0 ≤ s ∧ s * low - f * high = n)
  fb : -n ≤ f ∧ f ≤ n
  gc : (Int.gcd low high : Int) = Int.gcd m n
theorem Euc.sb {m n low high f s t h : Int} (E : Euc m n low high f s t h) : -n ≤ s ∧ s ≤ n := by
  have l0 := E.l0
  rcases E.sg with ⟨a, b, c⟩ | ⟨a, b, c⟩
  · have h1 : 0 ≤ f * high := Int.mul_nonneg a E.h0
    have h2 : (-s) * 1 ≤ (-s) * low := Int.mul_le_mul_of_nonneg_left l0 (by omega)
    have h3 : (-s) * low = -(s * low) := Int.neg_mul _ _
    omega
  · have h1 : 0 ≤ (-f) * high := Int.mul_nonneg (by omega) E.h0
    have h1' : (-f) * high = -(f * high) := Int.neg_mul _ _
    have h2 : s * 1 ≤ s * low := Int.mul_le_mul_of_nonneg_left l0 b
    omega
theorem Euc.step {m n low high f s t h : Int} (E : Euc m n low high f s t h) (hz : high ≠ 0) : Euc m n high (low - low / high * high) s (f - low / high * s) h (t - low / high * h) := by
  have h0 := E.h0
  have hp : 0 < high := by omega
  have k0 : 0 ≤ low / high := Int.ediv_nonneg (Int.le_of_lt E.l0) h0
  have r0 := Int.emod_nonneg low hz
  have rm : low - low / high * high = low % high := by
    have := Int.mul_ediv_add_emod low high
    have e : low / high * high = high * (low / high) := Int.mul_comm _ _
    omega
  refine ⟨E.e2, ?_, hp, by rw [rm]; exact r0, ?_, E.sb, ?_⟩
  · have e1 := E.e1
    have e2 := E.e2
    generalize low / high = k at *
    rw [e1, e2]
    grind
  · have sg := E.sg
    generalize low / high = k at *
    rcases sg with ⟨a, b, c⟩ | ⟨a, b, c⟩
    · right
      have : k * s ≤ 0 := Int.mul_nonpos_of_nonneg_of_nonpos k0 b
      refine ⟨b, by omega, ?_⟩
      rw [← c]; grind
    · left
      have : 0 ≤ k * s := Int.mul_nonneg k0 b
      refine ⟨b, by omega, ?_⟩
      rw [← c]; grind
  · rw [rm, ← E.gc, ← fmod_pos' hp]
    exact congrArg _ (gcd_step (Int.le_of_lt E.l0) hp)
theorem gcd_emod' (m n : Int) : (Int.gcd n (m % n) : Int) = Int.gcd m n := by
  have h := Int.mul_ediv_add_emod m n
  refine congrArg _ (Nat.dvd_antisymm ?_ ?_)
  · refine Int.natCast_dvd_natCast.mp (Int.dvd_coe_gcd ?_ (Int.gcd_dvd_left _ _))
    have h1 : (Int.gcd n (m % n) : Int) ∣ n * (m / n) + m % n := Int.dvd_add (Int.dvd_mul_of_dvd_left (Int.gcd_dvd_left _ _)) (Int.gcd_dvd_right _ _)
    rwa [h] at h1
  · refine Int.natCast_dvd_natCast.mp (Int.dvd_coe_gcd (Int.gcd_dvd_right _ _) ?_)
    have e : m % n = m - n * (m / n) := by omega
    rw [e]
    exact Int.dvd_sub (Int.gcd_dvd_left _ _) (Int.dvd_mul_of_dvd_left (Int.gcd_dvd_right _ _))
/-- behind the first turn -/
theorem Euc.first {m n : Int} (hn : 0 < n) : Euc m n n (m - m / n * n) 0 (1 - m / n * 0) 1 (0 - m / n * 1) := by
  have hm := Int.mul_ediv_add_emod m n
  have e : m / n * n = n * (m / n) := Int.mul_comm _ _
  have rm : m - m / n * n = m % n := by omega
  refine ⟨by omega, ?_, hn, by rw [rm]; exact Int.emod_nonneg _ (by omega), ?_, by omega, ?_⟩
  · rw [Int.mul_zero, Int.mul_one, Int.sub_zero, Int.one_mul, Int.zero_sub, Int.neg_mul]; omega
  · right
    rw [Int.mul_zero, Int.sub_zero, Int.one_mul, Int.zero_mul]
    omega
  · rw [rm]; exact gcd_emod' m n
/-- the other factors are bounded too -/
theorem Euc.tb {m n low high f s t h : Int} (hn : 0 < n) (E : Euc m n low high f s t h) (hl : low ≤ n) (hh : high ≤ n) : t.natAbs ≤ m.natAbs + 1 ∧ h.natAbs ≤ m.natAbs + 1 := by
  have key : ∀ x y z : Int, 0 ≤ x → x ≤ n → x = y * m + z * n → -n ≤ y → y ≤ n → z.natAbs ≤ m.natAbs + 1 := by
    intro x y z x0 x1 e y0 y1
    have h1 : z * n = x - y * m := by omega
    have h2 : z.natAbs * n.natAbs ≤ (m.natAbs + 1) * n.natAbs := by
      rw [← Int.natAbs_mul, h1]
      have h3 : (x - y * m).natAbs ≤ x.natAbs + (y * m).natAbs := by omega
      have h4 : (y * m).natAbs ≤ n.natAbs * m.natAbs := by rw [Int.natAbs_mul]; exact Nat.mul_le_mul_right _ (by omega)
      have h5 : (m.natAbs + 1) * n.natAbs = n.natAbs * m.natAbs + n.natAbs := by rw [Nat.add_mul, Nat.one_mul, Nat.mul_comm]
      omega
    exact Nat.le_of_mul_le_mul_right h2 (by omega)
  exact ⟨key low f t (Int.le_of_lt E.l0) hl E.e1 E.fb.1 E.fb.2, key high s h E.h0 hh E.e2 E.sb.1 E.sb.2⟩
end DL
/-! MD: deeds with q = 1 that lead nearer to the heart; columns led down; plain -/
namespace DL
theorem split_by (a : Nat) : ∀ N : Nat, 1 ≤ N → ∃ m n, N = m * n ∧ Nat.gcd m a = 1 ∧ ∀ d, d ∣ n → Nat.gcd d a = 1 → d = 1 := by
  intro N
  induction N using Nat.strongRecOn with
  | ind N ih =>
    intro hN
    by_cases h : Nat.gcd N a = 1
    · exact ⟨N, 1, by omega, h, fun d hd _ => Nat.dvd_one.mp hd⟩
    · have h0 : 0 < Nat.gcd N a := Nat.gcd_pos_of_pos_left _ hN
      obtain ⟨c, hc⟩ := Nat.gcd_dvd_left N a
      have c0 : 1 ≤ c := by
        by_cases z : c = 0
        · rw [z, Nat.mul_zero] at hc; omega
        · omega
      have lt : c < N := by
        have h2 : 2 ≤ Nat.gcd N a := by omega
        have : 2 * c ≤ Nat.gcd N a * c := Nat.mul_le_mul_right _ h2
        omega
      obtain ⟨m, n, e1, e2, e3⟩ := ih c lt c0
      refine ⟨m, Nat.gcd N a * n, ?_, e2, fun d hd hg => ?_⟩
      · rw [Nat.mul_left_comm, ← e1]; exact hc
      · have cp : Nat.Coprime d (Nat.gcd N a) := by
          have d1 : Nat.gcd d (Nat.gcd N a) ∣ Nat.gcd d a := Nat.dvd_gcd (Nat.gcd_dvd_left _ _) (Nat.dvd_trans (Nat.gcd_dvd_right _ _) (Nat.gcd_dvd_right _ _))
          rw [hg] at d1
          exact Nat.dvd_one.mp d1
        exact e3 d (Nat.Coprime.dvd_of_dvd_mul_left cp hd) hg
theorem pick_free {a b N : Nat} (hN : 1 ≤ N) (h : Nat.gcd (Nat.gcd a b) N = 1) : ∃ p, Nat.gcd (p * b + a) N = 1 := by
  obtain ⟨m, n, e1, e2, e3⟩ := split_by a N hN
  refine ⟨m, ?_⟩
  have dm : Nat.gcd (m * b + a) N ∣ m * b + a := Nat.gcd_dvd_left _ _
  have dN : Nat.gcd (m * b + a) N ∣ N := Nat.gcd_dvd_right _ _
  generalize Nat.gcd (m * b + a) N = d at dm dN
  have c1 : Nat.Coprime d m := by
    have d1 : Nat.gcd d m ∣ Nat.gcd m a := by
      refine Nat.dvd_gcd (Nat.gcd_dvd_right _ _) ?_
      have h1 : Nat.gcd d m ∣ m * b + a := Nat.dvd_trans (Nat.gcd_dvd_left _ _) dm
      exact (Nat.dvd_add_right (Nat.dvd_mul_right_of_dvd (Nat.gcd_dvd_right _ _) _)).mp h1
    rw [e2] at d1
    exact Nat.dvd_one.mp d1
  refine e3 d (Nat.Coprime.dvd_of_dvd_mul_left c1 (by rw [← e1]; exact dN)) ?_
  have d2 : Nat.gcd d a ∣ Nat.gcd (Nat.gcd a b) N := by
    refine Nat.dvd_gcd (Nat.dvd_gcd (Nat.gcd_dvd_right _ _) ?_) (Nat.dvd_trans (Nat.gcd_dvd_left _ _) dN)
    have h1 : Nat.gcd d a ∣ m * b := (Nat.dvd_add_left (Nat.gcd_dvd_right d a)).mp (Nat.dvd_trans (Nat.gcd_dvd_left _ _) dm)
    have c2 : Nat.Coprime (Nat.gcd d a) m := Nat.Coprime.coprime_dvd_left (Nat.gcd_dvd_left _ _) c1
    exact Nat.Coprime.dvd_of_dvd_mul_left c2 h1
  rw [h] at d2
  exact Nat.dvd_one.mp d2
theorem pick_freeI {a b N : Int} (ha : 0 ≤ a) (hb : 0 ≤ b) (hN : 1 ≤ N) (h : (Int.gcd (Int.gcd a b : Int) N : Int) = 1) : ∃ p : Nat, (Int.gcd ((p : Int) * b + a) N : Int) = 1 := by
  obtain ⟨A, rfl⟩ := Int.eq_ofNat_of_zero_le ha
  obtain ⟨B, rfl⟩ := Int.eq_ofNat_of_zero_le hb
  obtain ⟨C, rfl⟩ := Int.eq_ofNat_of_zero_le (show 0 ≤ N by omega)
  obtain ⟨p, hp⟩ := pick_free (a := A) (b := B) (N := C) (by omega) (by
    have h1 : Int.gcd (Int.gcd (A : Int) (B : Int) : Int) (C : Int) = 1 := by omega
    simpa [Int.gcd] using h1)
  refine ⟨p, ?_⟩
  have e1 : ((p : Int) * (B : Int) + (A : Int)) = ((p * B + A : Nat) : Int) := by rw [Int.natCast_add, Int.natCast_mul]
  rw [e1]
  show ((Nat.gcd (p * B + A) C : Nat) : Int) = 1
  rw [hp]; rfl
/-- what all but the last item of the new cutting share, behind a deed (p, 1) -/
theorem far_done {a b c e p a' w g e' : Int} (hc : 1 ≤ c) (h : IsDone a b c e p 1 a' w g e') : (Int.gcd (Int.gcd a' w : Int) g : Int) = (Int.gcd (p * b + a) (Int.gcd c (e - b) : Int) : Int) := by
  have hg : g ≠ 0 := by
    have := Int.gcd_pos_of_ne_zero_right (p * b + 1 * a) (show 1 * c ≠ 0 by omega)
    have := h.gc
    omega
  obtain ⟨u, v, x, z, f1, f2, f3⟩ := h.ex
  have dm : g ∣ p * b + 1 * a := by rw [h.gc]; exact Int.gcd_dvd_left _ _
  have dn : g ∣ 1 * c := by rw [h.gc]; exact Int.gcd_dvd_right _ _
  obtain ⟨m', hm⟩ := dm
  obtain ⟨n', hn⟩ := dn
  have hu : u * m' + v * n' = 1 := by
    have : g * (u * m' + v * n') = g * 1 := by
      have e1 : g * (u * m' + v * n') = u * (g * m') + v * (g * n') := by grind
      rw [e1, ← hm, ← hn, f2, Int.mul_one]
    exact Int.eq_of_mul_eq_mul_left hg this
  have hx : x = p * z - 1 := by omega
  have h3 : x * b + z * a + e + 1 * c = z * (p * b + 1 * a) + (e - b) + c := by rw [hx]; grind
  generalize hr3 : x * b + z * a + e + 1 * c = r3 at f3 h3
  generalize hr4 : z * c = r4 at f3
  have hW : w = m' * r4 - n' * r3 := by
    refine Int.eq_of_mul_eq_mul_right hg ?_
    rw [h.wi]
    have e1 : (m' * r4 - n' * r3) * g = (g * m') * r4 - (g * n') * r3 := by grind
    rw [e1, ← hm, ← hn, ← hr3, ← hr4]
    have e2 : (p * b + 1 * a) * (z * c) - (1 * c) * (x * b + z * a + e + 1 * c) = c * (b * (p * z - 1 * x) - 1 * e - 1 * 1 * c) := by grind
    rw [e2, f1, Int.mul_one, Int.mul_one]
  -- one way
  have way1 : ∀ d : Int, d ∣ a' → d ∣ w → d ∣ g → d ∣ p * b + a ∧ d ∣ c ∧ d ∣ e - b := by
    intro d d1 d2 d3
    have Dm : d ∣ p * b + 1 * a := by rw [hm]; exact Int.dvd_mul_of_dvd_left d3
    have Dn : d ∣ 1 * c := by rw [hn]; exact Int.dvd_mul_of_dvd_left d3
    have dR : d ∣ u * r3 + v * r4 := by
      have h1 : d ∣ (Int.gcd w g : Int) := Int.dvd_coe_gcd d2 d3
      have h2 := Int.dvd_sub (Int.dvd_trans h1 f3) d1
      have e1 : a' + (u * r3 + v * r4) - a' = u * r3 + v * r4 := by omega
      rwa [e1] at h2
    have D3 : d ∣ r3 := by
      have e3 : r3 = m' * (u * r3 + v * r4) - v * w := by
        have : m' * (u * r3 + v * r4) - v * w = (u * m' + v * n') * r3 := by rw [hW]; grind
        rw [this, hu, Int.one_mul]
      rw [e3]; exact Int.dvd_sub (Int.dvd_mul_of_dvd_right dR) (Int.dvd_mul_of_dvd_right d2)
    rw [Int.one_mul] at Dm Dn
    refine ⟨Dm, Dn, ?_⟩
    have e4 : e - b = r3 - z * (p * b + a) - c := by rw [h3, Int.one_mul]; omega
    rw [e4]
    exact Int.dvd_sub (Int.dvd_sub D3 (Int.dvd_mul_of_dvd_right Dm)) Dn
  have way2 : ∀ d : Int, d ∣ p * b + a → d ∣ c → d ∣ e - b → d ∣ a' ∧ d ∣ w ∧ d ∣ g := by
    intro d d1 d2 d3
    have dg : d ∣ g := by rw [h.gc, Int.one_mul, Int.one_mul]; exact Int.dvd_coe_gcd d1 d2
    have D3 : d ∣ r3 := by rw [h3, Int.one_mul]; exact Int.dvd_add (Int.dvd_add (Int.dvd_mul_of_dvd_right d1) d3) d2
    have D4 : d ∣ r4 := by rw [← hr4]; exact Int.dvd_mul_of_dvd_right d2
    have dw : d ∣ w := by rw [hW]; exact Int.dvd_sub (Int.dvd_mul_of_dvd_right D4) (Int.dvd_mul_of_dvd_right D3)
    refine ⟨?_, dw, dg⟩
    have h1 : d ∣ (Int.gcd w g : Int) := Int.dvd_coe_gcd dw dg
    have h2 := Int.dvd_sub (Int.dvd_trans h1 f3) (Int.dvd_add (Int.dvd_mul_of_dvd_right (b := u) D3) (Int.dvd_mul_of_dvd_right (b := v) D4))
    have e1 : a' + (u * r3 + v * r4) - (u * r3 + v * r4) = a' := by omega
    rwa [e1] at h2
  refine congrArg _ (Nat.dvd_antisymm ?_ ?_)
  · refine Int.natCast_dvd_natCast.mp ?_
    have d0 : (Int.gcd (Int.gcd a' w : Int) g : Int) ∣ (Int.gcd a' w : Int) := Int.gcd_dvd_left _ _
    obtain ⟨k1, k2, k3⟩ := way1 _ (Int.dvd_trans d0 (Int.gcd_dvd_left _ _)) (Int.dvd_trans d0 (Int.gcd_dvd_right _ _)) (Int.gcd_dvd_right _ _)
    exact Int.dvd_coe_gcd k1 (Int.dvd_coe_gcd k2 k3)
  · refine Int.natCast_dvd_natCast.mp ?_
    have d0 : (Int.gcd (p * b + a) (Int.gcd c (e - b) : Int) : Int) ∣ (Int.gcd c (e - b) : Int) := Int.gcd_dvd_right _ _
    obtain ⟨k1, k2, k3⟩ := way2 _ (Int.gcd_dvd_left _ _) (Int.dvd_trans d0 (Int.gcd_dvd_left _ _)) (Int.dvd_trans d0 (Int.gcd_dvd_right _ _))
    exact Int.dvd_coe_gcd (Int.dvd_coe_gcd k1 k2) k3
end DL
/-! ME: two columns led down; plain -/
namespace DL
/-- (o1, o2), (t1, t2) came of (i, k), (j, l) -/
structure Led (i k j l o1 o2 t1 t2 : Int) : Prop where
  ex : ∃ u v u' v' : Int, o1 = u * i + v * j ∧ o2 = u * k + v * l ∧ t1 = u' * i + v' * j ∧ t2 = u' * k + v' * l ∧ (u * v' - u' * v = 1 ∨ u * v' - u' * v = -1)
theorem Led.start (i k j l : Int) : Led i k j l i k j l := ⟨1, 0, 0, 1, by omega, by omega, by omega, by omega, .inl (by omega)⟩
theorem Led.step {i k j l o1 o2 t1 t2 : Int} (h : Led i k j l o1 o2 t1 t2) (T : Int) : Led i k j l t1 t2 (o1 - T * t1) (o2 - T * t2) := by
  obtain ⟨u, v, u', v', e1, e2, e3, e4, e5⟩ := h.ex
  refine ⟨u', v', u - T * u', v - T * v', e3, e4, ?_, ?_, ?_⟩
  · rw [e1, e3]; grind
  · rw [e2, e4]; grind
  · have : u' * (v - T * v') - (u - T * u') * v' = -(u * v' - u' * v) := by grind
    rw [this]
    omega
theorem led_gcd {i k j l o1 o2 t2 : Int} (h : Led i k j l o1 o2 0 t2) (h0 : 0 < o1) : o1 = (Int.gcd i j : Int) := by
  obtain ⟨u, v, u', v', e1, e2, e3, e4, e5⟩ := h.ex
  have hi : (u * v' - u' * v) * i = v' * o1 := by
    have : (u * v' - u' * v) * i = v' * (u * i + v * j) - v * (u' * i + v' * j) := by grind
    rw [this, ← e1, ← e3, Int.mul_zero, Int.sub_zero]
  have hj : (u * v' - u' * v) * j = -(u' * o1) := by
    have : (u * v' - u' * v) * j = u * (u' * i + v' * j) - u' * (u * i + v * j) := by grind
    rw [this, ← e1, ← e3, Int.mul_zero, Int.zero_sub]
  have di : o1 ∣ i := by
    rcases e5 with z | z <;> rw [z] at hi
    · exact ⟨v', by rw [Int.mul_comm o1]; omega⟩
    · exact ⟨-v', by rw [Int.mul_neg, Int.mul_comm o1]; omega⟩
  have dj : o1 ∣ j := by
    rcases e5 with z | z <;> rw [z] at hj
    · exact ⟨-u', by rw [Int.mul_neg, Int.mul_comm o1]; omega⟩
    · exact ⟨u', by rw [Int.mul_comm o1]; omega⟩
  have d1 : o1 ∣ (Int.gcd i j : Int) := Int.dvd_coe_gcd di dj
  have d2 : (Int.gcd i j : Int) ∣ o1 := by rw [e1]; exact Int.dvd_add (Int.dvd_mul_of_dvd_right (Int.gcd_dvd_left _ _)) (Int.dvd_mul_of_dvd_right (Int.gcd_dvd_right _ _))
  have g0 : (Int.gcd i j : Int) ≠ 0 := fun z => by rw [z] at d2; have := Int.zero_dvd.mp d2; omega
  have l1 := Int.le_of_dvd (by omega) d1
  have l2 := Int.le_of_dvd h0 d2
  omega
/-- columns of a deed's table, led down, tell where the deed leads -/
theorem led_done {a b c e p q x z o1 o2 t2 : Int} (row : p * z - q * x = 1) (hc : 0 < c) (hq : 0 < q) (hf : 0 < b - q * e - q * q * c) (h : Led (p * b + q * a) (x * b + z * a + e + q * c) (q * c) (z * c) o1 o2 0 t2) (h0 : 0 < o1) :
    IsDone a b c e p q ((0 - o2) % (Int.gcd (t2.natAbs : Int) o1 : Int)) (t2.natAbs : Int) o1 (0 - e - 2 * q * c) := by
  have hg := led_gcd h h0
  obtain ⟨u, v, u', v', e1, e2, e3, e4, e5⟩ := h.ex
  have G0 : 0 < (Int.gcd (t2.natAbs : Int) o1 : Int) := by
    have := Int.gcd_pos_of_ne_zero_right (t2.natAbs : Int) (show o1 ≠ 0 by omega)
    omega
  have hw : o1 * t2 = (u * v' - u' * v) * (c * (b - q * e - q * q * c)) := by
    have h1 : o1 * t2 = o1 * t2 - o2 * 0 := by omega
    have h2 : o1 * t2 - o2 * 0 = (u * v' - u' * v) * ((p * b + q * a) * (z * c) - (q * c) * (x * b + z * a + e + q * c)) := by rw [e3, e4, e1, e2]; grind
    have h3 : (p * b + q * a) * (z * c) - (q * c) * (x * b + z * a + e + q * c) = c * (b * (p * z - q * x) - q * e - q * q * c) := by grind
    rw [h1, h2, h3, row, Int.mul_one]
  have hp : 0 < c * (b - q * e - q * q * c) := Int.mul_pos hc hf
  refine ⟨hg, ?_, rfl, Int.emod_nonneg _ (by omega), Int.emod_lt_of_pos _ G0, u, v, x, z, row, e1.symm, ?_⟩
  · have h1 : (t2.natAbs : Int) * o1 = ((o1 * t2).natAbs : Int) := by
      rw [Int.natAbs_mul, Int.natCast_mul, Int.mul_comm]
      congr 1
      omega
    rw [h1, hw]
    rcases e5 with z' | z' <;> rw [z']
    · rw [Int.one_mul]; omega
    · rw [Int.neg_one_mul]; omega
  · rw [← e2]
    have := Int.mul_ediv_add_emod (0 - o2) (Int.gcd (t2.natAbs : Int) o1 : Int)
    refine ⟨-((0 - o2) / (Int.gcd (t2.natAbs : Int) o1 : Int)), ?_⟩
    rw [Int.mul_neg]
    omega
/-- sizes of a deed's second number -/
theorem deed_q {b c e q : Int} (hb : 1 ≤ b) (hc : 1 ≤ c) (hq : 1 ≤ q) (hf : 0 < b - q * e - q * q * c) : q < b + e.natAbs := by
  have h1 : q * q * 1 ≤ q * q * c := Int.mul_le_mul_of_nonneg_left hc (Int.mul_nonneg (by omega) (by omega))
  have h2 : q * (-(e.natAbs : Int)) ≤ q * e := Int.mul_le_mul_of_nonneg_left (by omega) (by omega)
  have h3 : q * (q - e.natAbs) < b := by
    have : q * (q - e.natAbs) = q * q * 1 + q * (-(e.natAbs : Int)) := by grind
    omega
  by_cases z : q < b + e.natAbs
  · exact z
  · have h4 : q * b ≤ q * (q - e.natAbs) := Int.mul_le_mul_of_nonneg_left (by omega) (by omega)
    have h5 : 1 * b ≤ q * b := Int.mul_le_mul_of_nonneg_right hq (by omega)
    omega
end DL
namespace DL
open PySem PySem.Spec PyProof.Rows L2
local macro_rules | `(tactic| walk_at "rd") => `(tactic| simp only [startD, List.map, List.replicate, List.length_cons, List.length_nil, List.append_eq, List.append_nil, List.nil_append, List.cons_append, Nat.reduceSub, Nat.reduceAdd, List.getElem?_cons_zero, List.getElem?_cons_succ, List.set_cons_zero, List.set_cons_succ,
  dC, dVar, dOp, dTru, gTru, tru, dChain, dAnd, dOr, dNot, dAndV, dOrV, dNotV, dIf, dNeg, gNeg, dNil, dCons, dTup, dLst, dOwn, gIx, rBin, gAdd, gCmpI, dCall, dCallK, dSeq, dNext, dDrop, dRet, dRetN, dIfS, dName, dGNil, dGCons, dGTup, dSub, gSetL, dAsg, dPar, dPar3, dAug, gIpI, dSeqI, gSeqI, dRngI, gRng1, gRng2, dCB, gAbs, gInt, gMax, gMin, gGcd, gLen, lenD, gIsi, tyM, tyD, dBits, gBits, dMet, gAppend, dPart, dNoPart, dSl, dEnds, gIs, isB, dNever, dFor, dLc, wipeD, dYes,
  sizeLine_eq, Nat.reduceLeDiff, gEq_int, gNe_int, gEq_strs, gNe_strs, gIn_two, gRepr_bl, rs_lst, rs_tup, rs_scr, rs_int, atI_0, atI_1, atI_2, atI_3, atI_4, atI_5, ixN_30, ixN_31, ixN_32, gEq_bl, gNe_bl, decide_eq_true_eq, beq_iff_eq, Bool.not_eq_true', beq_eq_false_iff_ne, decide_eq_false_iff_not, Bool.not_true, Bool.not_false, if_true, if_false, Bool.false_eq_true, ite_true, ite_false, true_and, and_true, ne_eq, Bool.bne_false, Bool.bne_true, reduceCtorEq])
local macro_rules | `(tactic| walk_at "rh") => `(tactic| simp only [*, startD, List.map, List.replicate, List.length_cons, List.length_nil, List.append_eq, List.append_nil, List.nil_append, List.cons_append, Nat.reduceSub, Nat.reduceAdd, List.getElem?_cons_zero, List.getElem?_cons_succ, List.set_cons_zero, List.set_cons_succ,
  dC, dVar, dOp, dTru, gTru, tru, dChain, dAnd, dOr, dNot, dAndV, dOrV, dNotV, dIf, dNeg, gNeg, dNil, dCons, dTup, dLst, dOwn, gIx, rBin, gAdd, gCmpI, dCall, dCallK, dSeq, dNext, dDrop, dRet, dRetN, dIfS, dName, dGNil, dGCons, dGTup, dSub, gSetL, dAsg, dPar, dPar3, dAug, gIpI, dSeqI, gSeqI, dRngI, gRng1, gRng2, dCB, gAbs, gInt, gMax, gMin, gGcd, gLen, lenD, gIsi, tyM, tyD, dBits, gBits, dMet, gAppend, dPart, dNoPart, dSl, dEnds, gIs, isB, dNever, dFor, dLc, wipeD, dYes,
  sizeLine_eq, Nat.reduceLeDiff, gEq_int, gNe_int, gEq_strs, gNe_strs, gIn_two, gRepr_bl, rs_lst, rs_tup, rs_scr, rs_int, atI_0, atI_1, atI_2, atI_3, atI_4, atI_5, ixN_30, ixN_31, ixN_32, gEq_bl, gNe_bl, decide_eq_true_eq, beq_iff_eq, Bool.not_eq_true', beq_eq_false_iff_ne, decide_eq_false_iff_not, Bool.not_true, Bool.not_false, if_true, if_false, Bool.false_eq_true, ite_true, ite_false, true_and, and_true, ne_eq, Bool.bne_false, Bool.bne_true, reduceCtorEq])
local macro_rules | `(tactic| walk_at "kb") => `(tactic| simp only [kb_NoneType_list, kb_bool_list, kb_int_list, kb_str_list, kb_tuple_list, kb_list_list, kb_dict_list, kb_NoneType_int, kb_bool_int, kb_int_int, kb_str_int, kb_tuple_int, kb_list_int, kb_dict_int, kb_NoneType_bool, kb_bool_bool, kb_int_bool, kb_str_bool, kb_tuple_bool, kb_list_bool, kb_dict_bool, kb_NoneType_tuple, kb_bool_tuple, kb_int_tuple, kb_str_tuple, kb_tuple_tuple, kb_list_tuple, kb_dict_tuple, if_true, if_false, Bool.false_eq_true, ite_true, ite_false, Bool.not_true, Bool.not_false])
/-! ### deeds -/
/-- where a deed leads is a cutting of the same measure -/
theorem done_cut {a b c e p q a' w g e' : Int} (h : isCut a b c e = true) (hq : 1 ≤ q) (hf : 0 < b - q * e - q * q * c) (hd : IsDone a b c e p q a' w g e') : isCut a' w g e' = true ∧ meas4 w g e' = meas4 b c e := by
  obtain ⟨h1, h2, h3, h4, h5, h6⟩ := cut_parts h
  have hqc : 0 < q * c := Int.mul_pos (by omega) (by omega)
  have dn : g ∣ q * c := by rw [hd.gc]; exact Int.gcd_dvd_right _ _
  have hg : 0 < g := by
    have := Int.gcd_pos_of_ne_zero_right (p * b + q * a) (show q * c ≠ 0 by omega)
    rw [hd.gc]; omega
  obtain ⟨w0, room⟩ := done_room (by omega : 0 < b) (by omega : 0 < c) (by omega : 0 < q) hg hf dn hd.wi
  have hprim : (Int.gcd (Int.gcd a' (Int.gcd w g : Int) : Int) e' : Int) = 1 := by
    have d0 : (Int.gcd (Int.gcd a' (Int.gcd w g : Int) : Int) e' : Int) ∣ (Int.gcd a' (Int.gcd w g : Int) : Int) := Int.gcd_dvd_left _ _
    have d4 : (Int.gcd (Int.gcd a' (Int.gcd w g : Int) : Int) e' : Int) ∣ e' := Int.gcd_dvd_right _ _
    have d1 := Int.dvd_trans d0 (Int.gcd_dvd_left _ _)
    have d5 := Int.dvd_trans d0 (Int.gcd_dvd_right _ _)
    have d2 := Int.dvd_trans d5 (Int.gcd_dvd_left _ _)
    have d3 := Int.dvd_trans d5 (Int.gcd_dvd_right _ _)
    obtain ⟨k1, k2, k3, k4⟩ := done_dvd (by omega) hd d1 d2 d3 d4
    have k5 : (Int.gcd (Int.gcd a' (Int.gcd w g : Int) : Int) e' : Int) ∣ 1 := by
      rw [← h6]
      exact Int.dvd_coe_gcd (Int.dvd_coe_gcd k1 (Int.dvd_coe_gcd k2 k3)) k4
    have k6 := Int.le_of_dvd (by decide) k5
    have k7 : (Int.gcd (Int.gcd a' (Int.gcd w g : Int) : Int) e' : Int) ≠ 0 := by
      intro z
      rw [z] at k5
      exact absurd (Int.zero_dvd.mp k5) (by decide)
    omega
  refine ⟨?_, ?_⟩
  · unfold isCut
    rw [decide_eq_true (show 1 ≤ w by omega), decide_eq_true (show 1 ≤ g by omega), decide_eq_true (show g + e' < w by have := hd.tu; omega), decide_eq_true hd.lo, decide_eq_true hd.hi, hprim]
    rfl
  · unfold meas4
    rw [hd.tu]
    have e1 : 4 * w * g = 4 * (w * g) := Int.mul_assoc _ _ _
    rw [e1, hd.wi]
    grind
end DL
namespace DL
open PySem PySem.Spec PyProof.Rows L2
local macro_rules | `(tactic| walk_at "rd") => `(tactic| simp only [startD, List.map, List.replicate, List.length_cons, List.length_nil, List.append_eq, List.append_nil, List.nil_append, List.cons_append, Nat.reduceSub, Nat.reduceAdd, List.getElem?_cons_zero, List.getElem?_cons_succ, List.set_cons_zero, List.set_cons_succ,
  dC, dVar, dOp, dTru, gTru, tru, dChain, dAnd, dOr, dNot, dAndV, dOrV, dNotV, dIf, dNeg, gNeg, dNil, dCons, dTup, dLst, dOwn, gIx, rBin, gAdd, gCmpI, dCall, dCallK, dSeq, dNext, dDrop, dRet, dRetN, dIfS, dName, dGNil, dGCons, dGTup, dSub, gSetL, dAsg, dPar, dPar3, dAug, gIpI, dSeqI, gSeqI, dRngI, gRng1, gRng2, dCB, gAbs, gInt, gMax, gMin, gGcd, gLen, lenD, gIsi, tyM, tyD, dBits, gBits, dMet, gAppend, dPart, dNoPart, dSl, dEnds, gIs, isB, dNever, dFor, dLc, wipeD, dYes,
  sizeLine_eq, Nat.reduceLeDiff, gEq_int, gNe_int, gEq_strs, gNe_strs, gIn_two, gRepr_bl, rs_lst, rs_tup, rs_scr, rs_int, atI_0, atI_1, atI_2, atI_3, atI_4, atI_5, ixN_30, ixN_31, ixN_32, gEq_bl, gNe_bl, decide_eq_true_eq, beq_iff_eq, Bool.not_eq_true', beq_eq_false_iff_ne, decide_eq_false_iff_not, Bool.not_true, Bool.not_false, if_true, if_false, Bool.false_eq_true, ite_true, ite_false, true_and, and_true, ne_eq, Bool.bne_false, Bool.bne_true, reduceCtorEq])
local macro_rules | `(tactic| walk_at "rh") => `(tactic| simp only [*, startD, List.map, List.replicate, List.length_cons, List.length_nil, List.append_eq, List.append_nil, List.nil_append, List.cons_append, Nat.reduceSub, Nat.reduceAdd, List.getElem?_cons_zero, List.getElem?_cons_succ, List.set_cons_zero, List.set_cons_succ,
  dC, dVar, dOp, dTru, gTru, tru, dChain, dAnd, dOr, dNot, dAndV, dOrV, dNotV, dIf, dNeg, gNeg, dNil, dCons, dTup, dLst, dOwn, gIx, rBin, gAdd, gCmpI, dCall, dCallK, dSeq, dNext, dDrop, dRet, dRetN, dIfS, dName, dGNil, dGCons, dGTup, dSub, gSetL, dAsg, dPar, dPar3, dAug, gIpI, dSeqI, gSeqI, dRngI, gRng1, gRng2, dCB, gAbs, gInt, gMax, gMin, gGcd, gLen, lenD, gIsi, tyM, tyD, dBits, gBits, dMet, gAppend, dPart, dNoPart, dSl, dEnds, gIs, isB, dNever, dFor, dLc, wipeD, dYes,
  sizeLine_eq, Nat.reduceLeDiff, gEq_int, gNe_int, gEq_strs, gNe_strs, gIn_two, gRepr_bl, rs_lst, rs_tup, rs_scr, rs_int, atI_0, atI_1, atI_2, atI_3, atI_4, atI_5, ixN_30, ixN_31, ixN_32, gEq_bl, gNe_bl, decide_eq_true_eq, beq_iff_eq, Bool.not_eq_true', beq_eq_false_iff_ne, decide_eq_false_iff_not, Bool.not_true, Bool.not_false, if_true, if_false, Bool.false_eq_true, ite_true, ite_false, true_and, and_true, ne_eq, Bool.bne_false, Bool.bne_true, reduceCtorEq])
local macro_rules | `(tactic| walk_at "kb") => `(tactic| simp only [kb_NoneType_list, kb_bool_list, kb_int_list, kb_str_list, kb_tuple_list, kb_list_list, kb_dict_list, kb_NoneType_int, kb_bool_int, kb_int_int, kb_str_int, kb_tuple_int, kb_list_int, kb_dict_int, kb_NoneType_bool, kb_bool_bool, kb_int_bool, kb_str_bool, kb_tuple_bool, kb_list_bool, kb_dict_bool, kb_NoneType_tuple, kb_bool_tuple, kb_int_tuple, kb_str_tuple, kb_tuple_tuple, kb_list_tuple, kb_dict_tuple, if_true, if_false, Bool.false_eq_true, ite_true, ite_false, Bool.not_true, Bool.not_false])
/-! ### the common divisor with its two factors -/
/-- ds = two ints, not both 0: any two factors will do -/
def sp_shared : DSp := fun ds M Q _ => ∃ m n : Int, ds = [.int m, .int n] ∧ 0 < n ∧ Bi 2000 m ∧ Bi 2000 n ∧ ∀ u v, u * m + v * n = (Int.gcd m n : Int) → Bi 4100 u → Bi 4100 v → Q (.tup [.int (Int.gcd m n), .int u, .int v]) M
theorem rd_shared : ∀ ds M Q, ds.length = 2 → sp_shared ds M Q DX0 → t_shared (dEnds M Q) (startD 9 ds) M := by
  rintro _ M Q - ⟨m, n, rfl, n0, bm, bn, q⟩
  unfold t_shared
  walk_at "rd"
  have sN : ∀ {x : Int}, Bi 4100 x → Sm x := fun h => h.sm
  have bound : ∀ {x : Int}, -n ≤ x → x ≤ n → Bi 4100 x := by
    intro x h1 h2
    have h3 : Bi 4100 n := bn.mono
    unfold Bi at h3 ⊢
    omega
  have bound2 : ∀ {x : Int}, x.natAbs ≤ m.natAbs + 1 → Bi 4100 x := by
    intro x h1
    have h3 : Bi 2001 m := bm.mono
    have h4 : Bi 2002 x := by
      unfold Bi at h3 bm ⊢
      rw [Nat.pow_succ 2 2001]
      have : 0 < 2 ^ 2001 := Nat.pow_pos (by decide)
      omega
    exact h4.mono
  refine dwhile_of (fun k r M' => ∃ low high f s t h : Int, ∃ tn, r = [some (.int m), some (.int n), some (.int low), some (.int high), some (.int f), some (.int s), some (.int t), some (.int h), tn] ∧ M' = M ∧ k = high.toNat ∧ ((low = m ∧ high = n ∧ f = 1 ∧ s = 0 ∧ t = 0 ∧ h = 1) ∨ (Euc m n low high f s t h ∧ low ≤ n ∧ high ≤ n))) _ ⟨m, n, 1, 0, 0, 1, none, rfl, rfl, rfl, .inl ⟨rfl, rfl, rfl, rfl, rfl, rfl⟩⟩ ?_
  rintro k r M' ⟨low, high, f, s, t, h, tn, rfl, rfl, rfl, hh⟩
  walk_at "rd"
  have hpos : high ≠ 0 → 0 < high := by
    intro z
    rcases hh with ⟨_, rfl, _⟩ | ⟨E, _⟩
    · exact n0
    · have := E.h0; omega
  have next : high ≠ 0 → (Euc m n high (low - low / high * high) s (f - low / high * s) h (t - low / high * h) ∧ high ≤ n ∧ low - low / high * high < high ∧ 0 ≤ low - low / high * high) := by
    intro z
    have hp := hpos z
    have rm : low - low / high * high = low % high := by
      have := Int.mul_ediv_add_emod low high
      have e : low / high * high = high * (low / high) := Int.mul_comm _ _
      omega
    have r1 := Int.emod_lt_of_pos low hp
    have r0 := Int.emod_nonneg low z
    rcases hh with ⟨rfl, rfl, rfl, rfl, rfl, rfl⟩ | ⟨E, h1, h2⟩
    · exact ⟨Euc.first n0, Int.le_refl _, by omega, by omega⟩
    · exact ⟨E.step z, h2, by omega, by omega⟩
  by_cases z : high = 0
  · subst z
    rw [if_neg (fun w => w rfl)]
    rcases hh with ⟨_, z, _⟩ | ⟨E, h1, h2⟩
    · omega
    · have eg : low = (Int.gcd m n : Int) := by
        have := E.gc
        rw [← this, gcd_end (Int.le_of_lt E.l0)]
      have l0 := E.l0
      rw [if_pos l0]
      rw [eg]
      have tb := E.tb n0 h1 h2
      exact rtq (q f t (by rw [← eg]; exact E.e1.symm) (bound E.fb.1 E.fb.2) (bound2 tb.1))
  · rw [if_pos z]
    have hp := hpos z
    obtain ⟨E, h1, h2, h3⟩ := next z
    have ef : low.fdiv high = low / high := fdiv_pos hp
    rw [ef]
    have bl : Bi 4100 low ∧ Bi 4100 high ∧ Bi 4100 s ∧ Bi 4100 h := by
      rcases hh with ⟨rfl, rfl, rfl, rfl, rfl, rfl⟩ | ⟨E, h1, h2⟩
      · exact ⟨bm.mono, bn.mono, Bi.of_abs 0 (by decide) (Nat.pow_pos (by decide)), bound2 (by omega)⟩
      · have tb := E.tb n0 h1 h2
        have l0 := E.l0
        have h0 := E.h0
        exact ⟨bound (by omega) h1, bound (by omega) h2, bound E.sb.1 E.sb.2, bound2 tb.2⟩
    obtain ⟨b1, b2, b3, b4⟩ := bl
    have bk : Bi 4100 (low / high) := Nat.lt_of_le_of_lt (Int.natAbs_ediv_le_natAbs _ _) b1
    refine ⟨⟨z, Nat.lt_of_lt_of_le (log2_of 4100 b2 (by decide)) (by decide)⟩, ⟨bk.sm, b2.sm⟩, ⟨bk.sm, b3.sm⟩, ⟨bk.sm, b4.sm⟩, _, ?_, _, _, _, _, _, _, _, rfl, rfl, .inr ⟨E, h1, by omega⟩⟩
    omega
end DL
namespace DL
open PySem PySem.Spec PyProof.Rows L2
local macro_rules | `(tactic| walk_at "rd") => `(tactic| simp only [startD, List.map, List.replicate, List.length_cons, List.length_nil, List.append_eq, List.append_nil, List.nil_append, List.cons_append, Nat.reduceSub, Nat.reduceAdd, List.getElem?_cons_zero, List.getElem?_cons_succ, List.set_cons_zero, List.set_cons_succ,
  dC, dVar, dOp, dTru, gTru, tru, dChain, dAnd, dOr, dNot, dAndV, dOrV, dNotV, dIf, dNeg, gNeg, dNil, dCons, dTup, dLst, dOwn, gIx, rBin, gAdd, gCmpI, dCall, dCallK, dSeq, dNext, dDrop, dRet, dRetN, dIfS, dName, dGNil, dGCons, dGTup, dSub, gSetL, dAsg, dPar, dPar3, dAug, gIpI, dSeqI, gSeqI, dRngI, gRng1, gRng2, dCB, gAbs, gInt, gMax, gMin, gGcd, gLen, lenD, gIsi, tyM, tyD, dBits, gBits, dMet, gAppend, dPart, dNoPart, dSl, dEnds, gIs, isB, dNever, dFor, dLc, wipeD, dYes,
  sizeLine_eq, Nat.reduceLeDiff, gEq_int, gNe_int, gEq_strs, gNe_strs, gIn_two, gRepr_bl, rs_lst, rs_tup, rs_scr, rs_int, atI_0, atI_1, atI_2, atI_3, atI_4, atI_5, ixN_30, ixN_31, ixN_32, gEq_bl, gNe_bl, decide_eq_true_eq, beq_iff_eq, Bool.not_eq_true', beq_eq_false_iff_ne, decide_eq_false_iff_not, Bool.not_true, Bool.not_false, if_true, if_false, Bool.false_eq_true, ite_true, ite_false, true_and, and_true, ne_eq, Bool.bne_false, Bool.bne_true, reduceCtorEq])
local macro_rules | `(tactic| walk_at "rh") => `(tactic| simp only [*, startD, List.map, List.replicate, List.length_cons, List.length_nil, List.append_eq, List.append_nil, List.nil_append, List.cons_append, Nat.reduceSub, Nat.reduceAdd, List.getElem?_cons_zero, List.getElem?_cons_succ, List.set_cons_zero, List.set_cons_succ,
  dC, dVar, dOp, dTru, gTru, tru, dChain, dAnd, dOr, dNot, dAndV, dOrV, dNotV, dIf, dNeg, gNeg, dNil, dCons, dTup, dLst, dOwn, gIx, rBin, gAdd, gCmpI, dCall, dCallK, dSeq, dNext, dDrop, dRet, dRetN, dIfS, dName, dGNil, dGCons, dGTup, dSub, gSetL, dAsg, dPar, dPar3, dAug, gIpI, dSeqI, gSeqI, dRngI, gRng1, gRng2, dCB, gAbs, gInt, gMax, gMin, gGcd, gLen, lenD, gIsi, tyM, tyD, dBits, gBits, dMet, gAppend, dPart, dNoPart, dSl, dEnds, gIs, isB, dNever, dFor, dLc, wipeD, dYes,
  sizeLine_eq, Nat.reduceLeDiff, gEq_int, gNe_int, gEq_strs, gNe_strs, gIn_two, gRepr_bl, rs_lst, rs_tup, rs_scr, rs_int, atI_0, atI_1, atI_2, atI_3, atI_4, atI_5, ixN_30, ixN_31, ixN_32, gEq_bl, gNe_bl, decide_eq_true_eq, beq_iff_eq, Bool.not_eq_true', beq_eq_false_iff_ne, decide_eq_false_iff_not, Bool.not_true, Bool.not_false, if_true, if_false, Bool.false_eq_true, ite_true, ite_false, true_and, and_true, ne_eq, Bool.bne_false, Bool.bne_true, reduceCtorEq])
local macro_rules | `(tactic| walk_at "kb") => `(tactic| simp only [kb_NoneType_list, kb_bool_list, kb_int_list, kb_str_list, kb_tuple_list, kb_list_list, kb_dict_list, kb_NoneType_int, kb_bool_int, kb_int_int, kb_str_int, kb_tuple_int, kb_list_int, kb_dict_int, kb_NoneType_bool, kb_bool_bool, kb_int_bool, kb_str_bool, kb_tuple_bool, kb_list_bool, kb_dict_bool, kb_NoneType_tuple, kb_bool_tuple, kb_int_tuple, kb_str_tuple, kb_tuple_tuple, kb_list_tuple, kb_dict_tuple, if_true, if_false, Bool.false_eq_true, ite_true, ite_false, Bool.not_true, Bool.not_false])
def sp_opposite_by : DSp := fun ds M Q _ => ∃ x k : Int, ds = [.int x, .int k] ∧ 0 < k ∧ Bi 1900 k ∧ ∀ r, 0 ≤ r → r < k → k ∣ r * x - (Int.gcd x k : Int) → Q (.int r) M
theorem rd_opposite_by : ∀ ds M Q, ds.length = 2 → sp_opposite_by ds M Q DX0 → t_opposite_by sp_shared (dEnds M Q) (startD 2 ds) M := by
  rintro _ M Q - ⟨x, k, rfl, k0, bk, q⟩
  unfold t_opposite_by
  walk_at "rd"
  have hx := fm_range (a := x) k0
  have bx : Bi 2000 (x.fmod k) := by
    have h3 : Bi 2000 k := bk.mono
    unfold Bi at h3 ⊢
    omega
  refine ⟨(show k ≠ 0 by omega), x.fmod k, k, rfl, k0, bx, bk.mono, fun u v e _ _ => ?_⟩
  walk_at "rd"
  refine ⟨(show k ≠ 0 by omega), rtq (q _ (fm_range k0).1 (fm_range k0).2 ?_)⟩
  have eg : (Int.gcd (x.fmod k) k : Int) = Int.gcd x k := by
    rw [fmod_pos k0, Int.gcd_comm, gcd_emod']
  rw [eg] at e
  rw [fmod_pos k0] at e ⊢
  have m1 := Int.mul_ediv_add_emod x k
  have m2 := Int.mul_ediv_add_emod u k
  generalize u / k = i at m2
  generalize u % k = r at m2 ⊢
  generalize x / k = j at m1
  generalize x % k = y at m1 e
  refine ⟨r * j - i * y - v, ?_⟩
  rw [← e, ← m1, ← m2]
  grind
/-- ds = a deed: any row that goes with it will do -/
def sp_beside : DSp := fun ds M Q _ => ∃ p q : Int, ds = [.tup [.int p, .int q]] ∧ 1 ≤ q ∧ Int.gcd p q = 1 ∧ Bi 1900 p ∧ Bi 1900 q ∧ ∀ x z, p * z - q * x = 1 → 0 ≤ z → z ≤ q → Q (.tup [.int x, .int z]) M
theorem rd_beside : ∀ ds M Q, ds.length = 1 → sp_beside ds M Q DX0 → t_beside sp_opposite_by (dEnds M Q) (startD 4 ds) M := by
  rintro _ M Q - ⟨p, q, rfl, q1, hg, bp, bq, h⟩
  unfold t_beside
  walk_at "rd"
  have fin : ∀ z, 0 ≤ z → z ≤ q → q ∣ p * z - 1 → CDiv (p * z - 1) q ∧ Rtq M Q (.tup [.int ((p * z - 1).fdiv q), .int z]) M := by
    intro z z0 z1 ⟨t, ht⟩
    refine ⟨⟨by omega, Nat.lt_of_lt_of_le (log2_of 1900 bq (by decide)) (by decide)⟩, ?_⟩
    have e : (p * z - 1).fdiv q = t := by rw [ht]; exact Int.mul_fdiv_cancel_left _ (by omega)
    rw [e]
    exact rtq (h t z (by omega) z0 z1)
  have bz : ∀ z : Int, 0 ≤ z → z ≤ q → Sm z := by
    intro z z0 z1
    have : Bi 1900 z := by unfold Bi at bq ⊢; omega
    exact this.sm
  by_cases hq : 1 < q
  · rw [if_pos hq]
    refine ⟨p, q, rfl, by omega, bq, fun r r0 r1 hd => ?_⟩
    rw [hg] at hd
    dsimp only
    refine ⟨⟨bp.sm, bz r r0 (by omega)⟩, fin r r0 (by omega) ?_⟩
    rw [Int.mul_comm p r]
    exact hd
  · rw [if_neg hq]
    have e : q = 1 := by omega
    subst e
    refine ⟨⟨bp.sm, bz 0 (by omega) (by omega)⟩, fin 0 (by omega) (by omega) ?_⟩
    exact Int.one_dvd _
theorem row_bound {p q x z : Int} (hq : 1 ≤ q) (h : p * z - q * x = 1) (z0 : 0 ≤ z) (z1 : z ≤ q) : x.natAbs ≤ p.natAbs + 1 := by
  have h1 : q * x = p * z - 1 := by omega
  have h2 : q.natAbs * x.natAbs ≤ q.natAbs * (p.natAbs + 1) := by
    rw [← Int.natAbs_mul, h1]
    have h3 : (p * z - 1).natAbs ≤ (p * z).natAbs + 1 := by omega
    have h4 : (p * z).natAbs ≤ q.natAbs * p.natAbs := by rw [Int.natAbs_mul, Nat.mul_comm]; exact Nat.mul_le_mul_right _ (by omega)
    have h5 : q.natAbs * (p.natAbs + 1) = q.natAbs * p.natAbs + q.natAbs := by rw [Nat.mul_add, Nat.mul_one]
    omega
  exact Nat.le_of_mul_le_mul_left h2 (by omega)
/-- the two rows of a deed's table -/
def sp_table_by : DSp := fun ds M Q _ => ∃ a b c e p q : Int, ds = [T4 a b c e, .tup [.int p, .int q]] ∧ 1 ≤ q ∧ Int.gcd p q = 1 ∧ (Bi 450 a ∧ Bi 450 b ∧ Bi 450 c ∧ Bi 450 e) ∧ Bi 450 p ∧ Bi 450 q ∧
  ∀ x z, p * z - q * x = 1 → 0 ≤ z → z ≤ q → Q (.tup [T4 (p * b + q * a) (q * c) (x * b + z * a + e + q * c) (z * c), .int x, .int z]) M
theorem rd_table_by : ∀ ds M Q, ds.length = 2 → sp_table_by ds M Q DX0 → t_table_by sp_beside (dEnds M Q) (startD 11 ds) M := by
  rintro _ M Q - ⟨a, b, c, e, p, q, rfl, q1, hg, ⟨ba, bb, bc, be⟩, bp, bq, h⟩
  unfold t_table_by
  walk_at "rd"
  refine ⟨p, q, rfl, q1, hg, bp.mono, bq.mono, fun x z hxz z0 z1 => ?_⟩
  have bx : Bi 451 x := by
    have := row_bound q1 hxz z0 z1
    unfold Bi at bp ⊢
    rw [Nat.pow_succ]
    have : 0 < 2 ^ 450 := Nat.pow_pos (by decide)
    omega
  have bz : Bi 450 z := by unfold Bi at bq ⊢; omega
  walk_at "rd"
  exact ⟨⟨bx.sm, bb.sm⟩, ⟨bz.sm, ba.sm⟩, ⟨bq.sm, bc.sm⟩, ⟨bp.sm, bb.sm⟩, ⟨bq.sm, ba.sm⟩, ⟨bq.sm, bc.sm⟩, ⟨bz.sm, bc.sm⟩, rtq (h x z hxz z0 z1)⟩
end DL
namespace DL
open PySem PySem.Spec PyProof.Rows L2
local macro_rules | `(tactic| walk_at "rd") => `(tactic| simp only [startD, List.map, List.replicate, List.length_cons, List.length_nil, List.append_eq, List.append_nil, List.nil_append, List.cons_append, Nat.reduceSub, Nat.reduceAdd, List.getElem?_cons_zero, List.getElem?_cons_succ, List.set_cons_zero, List.set_cons_succ,
  dC, dVar, dOp, dTru, gTru, tru, dChain, dAnd, dOr, dNot, dAndV, dOrV, dNotV, dIf, dNeg, gNeg, dNil, dCons, dTup, dLst, dOwn, gIx, rBin, gAdd, gCmpI, dCall, dCallK, dSeq, dNext, dDrop, dRet, dRetN, dIfS, dName, dGNil, dGCons, dGTup, dSub, gSetL, dAsg, dPar, dPar3, dAug, gIpI, dSeqI, gSeqI, dRngI, gRng1, gRng2, dCB, gAbs, gInt, gMax, gMin, gGcd, gLen, lenD, gIsi, tyM, tyD, dBits, gBits, dMet, gAppend, dPart, dNoPart, dSl, dEnds, gIs, isB, dNever, dFor, dLc, wipeD, dYes,
  sizeLine_eq, Nat.reduceLeDiff, gEq_int, gNe_int, gEq_strs, gNe_strs, gIn_two, gRepr_bl, rs_lst, rs_tup, rs_scr, rs_int, atI_0, atI_1, atI_2, atI_3, atI_4, atI_5, ixN_30, ixN_31, ixN_32, gEq_bl, gNe_bl, decide_eq_true_eq, beq_iff_eq, Bool.not_eq_true', beq_eq_false_iff_ne, decide_eq_false_iff_not, Bool.not_true, Bool.not_false, if_true, if_false, Bool.false_eq_true, ite_true, ite_false, true_and, and_true, ne_eq, Bool.bne_false, Bool.bne_true, reduceCtorEq])
local macro_rules | `(tactic| walk_at "rh") => `(tactic| simp only [*, startD, List.map, List.replicate, List.length_cons, List.length_nil, List.append_eq, List.append_nil, List.nil_append, List.cons_append, Nat.reduceSub, Nat.reduceAdd, List.getElem?_cons_zero, List.getElem?_cons_succ, List.set_cons_zero, List.set_cons_succ,
  dC, dVar, dOp, dTru, gTru, tru, dChain, dAnd, dOr, dNot, dAndV, dOrV, dNotV, dIf, dNeg, gNeg, dNil, dCons, dTup, dLst, dOwn, gIx, rBin, gAdd, gCmpI, dCall, dCallK, dSeq, dNext, dDrop, dRet, dRetN, dIfS, dName, dGNil, dGCons, dGTup, dSub, gSetL, dAsg, dPar, dPar3, dAug, gIpI, dSeqI, gSeqI, dRngI, gRng1, gRng2, dCB, gAbs, gInt, gMax, gMin, gGcd, gLen, lenD, gIsi, tyM, tyD, dBits, gBits, dMet, gAppend, dPart, dNoPart, dSl, dEnds, gIs, isB, dNever, dFor, dLc, wipeD, dYes,
  sizeLine_eq, Nat.reduceLeDiff, gEq_int, gNe_int, gEq_strs, gNe_strs, gIn_two, gRepr_bl, rs_lst, rs_tup, rs_scr, rs_int, atI_0, atI_1, atI_2, atI_3, atI_4, atI_5, ixN_30, ixN_31, ixN_32, gEq_bl, gNe_bl, decide_eq_true_eq, beq_iff_eq, Bool.not_eq_true', beq_eq_false_iff_ne, decide_eq_false_iff_not, Bool.not_true, Bool.not_false, if_true, if_false, Bool.false_eq_true, ite_true, ite_false, true_and, and_true, ne_eq, Bool.bne_false, Bool.bne_true, reduceCtorEq])
local macro_rules | `(tactic| walk_at "kb") => `(tactic| simp only [kb_NoneType_list, kb_bool_list, kb_int_list, kb_str_list, kb_tuple_list, kb_list_list, kb_dict_list, kb_NoneType_int, kb_bool_int, kb_int_int, kb_str_int, kb_tuple_int, kb_list_int, kb_dict_int, kb_NoneType_bool, kb_bool_bool, kb_int_bool, kb_str_bool, kb_tuple_bool, kb_list_bool, kb_dict_bool, kb_NoneType_tuple, kb_bool_tuple, kb_int_tuple, kb_str_tuple, kb_tuple_tuple, kb_list_tuple, kb_dict_tuple, if_true, if_false, Bool.false_eq_true, ite_true, ite_false, Bool.not_true, Bool.not_false])
/-! ### all that a deed makes -/
structure Full (a b c e p q a' w g e' x z f s t m n : Int) : Prop where
  dn : IsDone a b c e p q a' w g e'
  row : p * z - q * x = 1
  z0 : 0 ≤ z
  z1 : z ≤ q
  g0 : 0 < g
  im : p * b + q * a = g * m
  jn : q * c = g * n
  bz : f * (p * b + q * a) + s * (q * c) = g
  tr : -(f * (x * b + z * a + e + q * c) + s * (z * c)) = a' + t * g
theorem gcd_quot {w g G w' lot : Int} (hG : (Int.gcd w g : Int) = G) (h0 : 0 < G) (hw : w = G * w') (hg : g = G * lot) : (Int.gcd w' lot : Int) = 1 := by
  have h1 : G * (Int.gcd w' lot : Int) ∣ G := by
    have d1 : G * (Int.gcd w' lot : Int) ∣ w := by rw [hw]; exact Int.mul_dvd_mul_left _ (Int.gcd_dvd_left _ _)
    have d2 : G * (Int.gcd w' lot : Int) ∣ g := by rw [hg]; exact Int.mul_dvd_mul_left _ (Int.gcd_dvd_right _ _)
    have := Int.dvd_coe_gcd d1 d2
    rwa [hG] at this
  have h2 : G * (Int.gcd w' lot : Int) ∣ G * 1 := by rw [Int.mul_one]; exact h1
  have h3 : (Int.gcd w' lot : Int) ∣ 1 := Int.dvd_of_mul_dvd_mul_left (by omega) h2
  have h4 := Int.le_of_dvd (by decide) h3
  have h5 : (Int.gcd w' lot : Int) ≠ 0 := by
    intro z
    rw [z] at h3
    exact absurd (Int.zero_dvd.mp h3) (by decide)
  omega
/-- the turn by which the found rest becomes the told one -/
theorem turn_ok {w G w' lot found slant turn : Int} (hG : 0 < G) (hl : 0 < lot) (hw : w = G * w') (hs : slant = found % G)
    (ht : (lot = 1 ∧ turn = 0) ∨ ∃ r, lot ∣ r * w' - 1 ∧ turn = ((slant - found) / G * r) % lot) : ∃ t, found + turn * w = slant + t * (G * lot) := by
  have hm := Int.mul_ediv_add_emod found G
  rcases ht with ⟨rfl, rfl⟩ | ⟨r, ⟨y, hy⟩, rfl⟩
  · refine ⟨found / G, ?_⟩
    rw [hs, Int.mul_one, Int.zero_mul, Int.add_zero, Int.mul_comm (found / G) G]
    omega
  · have e1 : slant - found = G * (-(found / G)) := by rw [hs, Int.mul_neg]; omega
    have e2 : (slant - found) / G = -(found / G) := by rw [e1]; exact Int.mul_ediv_cancel_left _ (by omega)
    rw [e2]
    generalize found / G = k at *
    have e3 := Int.mul_ediv_add_emod (-k * r) lot
    generalize (-k * r) / lot = i at e3
    generalize (-k * r) % lot = tn at e3 ⊢
    have e4 : found = slant + G * k := by rw [hs]; omega
    refine ⟨-(k * y) - i * w', ?_⟩
    have e5 : r * w' = lot * y + 1 := by omega
    have e6 : tn = -k * r - lot * i := by omega
    rw [e4, hw, e6]
    have e7 : slant + G * k + (-k * r - lot * i) * (G * w') = slant + G * k - G * k * (r * w') - lot * i * G * w' := by grind
    rw [e7, e5]
    grind
theorem Bi.of_dvd' {n : Nat} {c x : Int} (h : Bi n x) (hx : x ≠ 0) (e : c ∣ x) : Bi n c := by
  unfold Bi at h ⊢
  have := Nat.le_of_dvd (by omega) (Int.natAbs_dvd_natAbs.mpr e)
  omega
def sp_full_by : DSp := fun ds M Q _ => ∃ a b c e p q : Int, ds = [T4 a b c e, .tup [.int p, .int q]] ∧ 1 ≤ q ∧ 1 ≤ c ∧ Int.gcd p q = 1 ∧ (Bi 450 a ∧ Bi 450 b ∧ Bi 450 c ∧ Bi 450 e) ∧ Bi 450 p ∧ Bi 450 q ∧
  ∀ a' w g e' x z f s t m n, Full a b c e p q a' w g e' x z f s t m n → Bi 4200 f → Bi 4200 s → Q (.tup [T4 a' w g e', .tup [.tup [.int f, .int s], .tup [.int (-n), .int m]], .int t, .int x, .int z]) M
theorem rd_full_by : ∀ ds M Q, ds.length = 2 → sp_full_by ds M Q DX0 → t_full_by sp_table_by sp_shared sp_opposite_by (dEnds M Q) (startD 18 ds) M := by
  rintro _ M Q - ⟨a, b, c, e, p, q, rfl, q1, c1, hg, ⟨ba, bb, bc, be⟩, bp, bq, h⟩
  unfold t_full_by
  refine dSeq_open fun B hB => ?_
  walk_at "rd"
  refine ⟨a, b, c, e, p, q, rfl, q1, hg, ⟨ba, bb, bc, be⟩, bp, bq, fun x z hxz z0 z1 => ?_⟩
  walk_at "rd"
  have bx : Bi 451 x := by
    have := row_bound q1 hxz z0 z1
    unfold Bi at bp ⊢
    rw [Nat.pow_succ]
    have : 0 < 2 ^ 450 := Nat.pow_pos (by decide)
    omega
  have bz : Bi 450 z := by unfold Bi at bq ⊢; omega
  have hwi : (p * b + q * a) * (z * c) - (q * c) * (x * b + z * a + e + q * c) = c * (b - q * e - q * q * c) := by
    have : (p * b + q * a) * (z * c) - (q * c) * (x * b + z * a + e + q * c) = c * (b * (p * z - q * x) - q * e - q * q * c) := by grind
    rw [this, hxz, Int.mul_one]
  have bi : Bi 901 (p * b + q * a) := (bp.mul bb).add (bq.mul ba)
  have bj : Bi 900 (q * c) := bq.mul bc
  have bk : Bi 904 (x * b + z * a + e + q * c) := by
    have h1 : Bi 902 (x * b + z * a) := (bx.mul bb).add ((bz.mul ba).mono)
    have h2 : Bi 903 (x * b + z * a + e) := h1.add be.mono
    exact h2.add bj.mono
  have bl : Bi 900 (z * c) := bz.mul bc
  have j0 : 0 < q * c := Int.mul_pos (by omega) (by omega)
  generalize hi : p * b + q * a = i at *
  generalize hj : q * c = j at *
  generalize hk : x * b + z * a + e + j = k at *
  generalize hl : z * c = l at *
  rw [← hB]
  clear hB B
  refine dSeq_open fun B hB => ?_
  walk_at "rd"
  refine ⟨i, j, rfl, j0, bi.mono, bj.mono, fun u v huv bu bv => ?_⟩
  walk_at "rd"
  have g0 : 0 < (Int.gcd i j : Int) := by
    have := Int.gcd_pos_of_ne_zero_right i (show j ≠ 0 by omega)
    omega
  have di : (Int.gcd i j : Int) ∣ i := Int.gcd_dvd_left _ _
  have dj : (Int.gcd i j : Int) ∣ j := Int.gcd_dvd_right _ _
  generalize hg' : (Int.gcd i j : Int) = g at *
  obtain ⟨m, hm⟩ := di
  obtain ⟨n, hn⟩ := dj
  have bg : Bi 900 g := bj.of_dvd' (by omega) ⟨n, hn⟩
  have bm : Bi 901 m := bi.of_dvd (by omega) hm
  have bn : Bi 900 n := bj.of_dvd (by omega) hn
  have cg : ∀ t : Int, CDiv t g := fun t => ⟨by omega, Nat.lt_of_lt_of_le (log2_of 900 bg (by decide)) (by decide)⟩
  have ew : i * l - j * k = g * (m * l - n * k) := by rw [hm, hn]; grind
  have fw : (i * l - j * k).fdiv g = m * l - n * k := by rw [ew]; exact Int.mul_fdiv_cancel_left _ (by omega)
  have fm : i.fdiv g = m := by rw [hm]; exact Int.mul_fdiv_cancel_left _ (by omega)
  have fn : j.fdiv g = n := by rw [hn]; exact Int.mul_fdiv_cancel_left _ (by omega)
  rw [← hB]
  clear hB B
  refine dSeq_open fun B hB => ?_
  walk_at "rd"
  refine ⟨⟨bi.sm, bl.sm⟩, ⟨bj.sm, bk.sm⟩, cg _, ?_⟩
  rw [fw]
  generalize hw : m * l - n * k = w at *
  have wg : w * g = c * (b - q * e - q * q * c) := by rw [← hwi, ew, Int.mul_comm]
  rw [← hB]
  clear hB B
  refine dSeq_open fun B hB => ?_
  walk_at "rd"
  refine ⟨⟨bu.sm, bk.sm⟩, ⟨bv.sm, bl.sm⟩, ?_⟩
  have G0 : 0 < (Int.gcd w g : Int) := by
    have := Int.gcd_pos_of_ne_zero_right w (show g ≠ 0 by omega)
    omega
  have dw : (Int.gcd w g : Int) ∣ w := Int.gcd_dvd_left _ _
  have dg : (Int.gcd w g : Int) ∣ g := Int.gcd_dvd_right _ _
  generalize hG : (Int.gcd w g : Int) = G at *
  obtain ⟨w', hw'⟩ := dw
  obtain ⟨lot, hlot⟩ := dg
  have l0 : 0 < lot := by
    by_cases zz : 0 < lot
    · exact zz
    · have : G * lot ≤ 0 := Int.mul_nonpos_of_nonneg_of_nonpos (by omega) (by omega)
      omega
  have bG : Bi 900 G := bg.of_dvd' (by omega) ⟨lot, hlot⟩
  have blot : Bi 900 lot := bg.of_dvd (by omega) hlot
  have cG : ∀ t : Int, CDiv t G := fun t => ⟨by omega, Nat.lt_of_lt_of_le (log2_of 900 bG (by decide)) (by decide)⟩
  have flot : g.fdiv G = lot := by rw [hlot]; exact Int.mul_fdiv_cancel_left _ (by omega)
  have fw' : w.fdiv G = w' := by rw [hw']; exact Int.mul_fdiv_cancel_left _ (by omega)
  have cop := gcd_quot hG G0 hw' hlot
  generalize hfd : -(u * k + v * l) = found at *
  have bfd : Bi 5010 found := by
    rw [← hfd]
    have h1 : Bi 5004 (u * k) := (bu.mul bk).mono
    have h2 : Bi 5004 (v * l) := (bv.mul bl).mono
    have := (h1.add h2).neg
    rw [Int.zero_sub] at this
    exact this.mono
  rw [← hB]
  clear hB B
  refine dSeq_open fun B hB => ?_
  walk_at "rd"
  refine ⟨(show G ≠ 0 by omega), cG _, ?_⟩
  rw [flot, fmod_pos G0]
  have s0 := Int.emod_nonneg found (show G ≠ 0 by omega)
  have s1 := Int.emod_lt_of_pos found G0
  generalize hs : found % G = slant at *
  have bs : Bi 900 slant := by unfold Bi at bG ⊢; omega
  rw [← hB]
  clear hB B
  refine dSeq_open fun B hB => ?_
  -- the turn
  have fin : ∀ turn : Int, 0 ≤ turn → turn < lot ∨ turn = 0 → ((lot = 1 ∧ turn = 0) ∨ ∃ r, lot ∣ r * w' - 1 ∧ turn = ((slant - found) / G * r) % lot) → B
      [some (T4 a b c e), some (.tup [.int p, .int q]), some (.int i), some (.int j), some (.int k), some (.int l), some (.int x), some (.int z), some (.int g), some (.int u), some (.int v), some (.int w), some (.int G), some (.int found), some (.int slant), some (.int lot), some (.int turn), none] M := by
    intro turn t0 t1 ht
    have bt : Bi 900 turn := by unfold Bi at blot ⊢; omega
    have btn : Bi 1800 (turn * n) := bt.mul bn
    have btm : Bi 1801 (turn * m) := bt.mul bm
    obtain ⟨t, ht'⟩ := turn_ok G0 l0 hw' hs.symm ht
    rw [← hlot] at ht'
    have bw : Bi 2000 w := by
      rw [← hw]
      exact Bi.mono (k := 2000) (((bm.mul bl).mono (k := 1804)).sub ((bn.mul bk).mono (k := 1804)))
    rw [← hB]
    clear hB B
    refine dSeq_open fun B hB => ?_
    walk_at "rd"
    refine ⟨cg _, ⟨bt.sm, (by rw [fn]; exact bn.sm)⟩, cg _, ⟨bt.sm, (by rw [fm]; exact bm.sm)⟩, ⟨bt.sm, bw.sm⟩, ?_⟩
    rw [fm, fn]
    rw [← hB]
    clear hB B
    refine dSeq_open fun B hB => ?_
    walk_at "rd"
    have b2 : Bi 3 2 := Bi.of_abs 2 (by decide)
    refine ⟨⟨b2.sm, bq.sm⟩, ⟨(b2.mul bq).sm, bc.sm⟩, ?_⟩
    rw [← hB]
    clear hB B
    walk_at "rd"
    refine ⟨cg _, cg _, cg _, ?_⟩
    rw [fm, fn]
    have et : (found + turn * w - slant).fdiv g = t := by
      have : found + turn * w - slant = g * t := by rw [ht', Int.mul_comm]; omega
      rw [this]; exact Int.mul_fdiv_cancel_left _ (by omega)
    rw [et]
    refine rtq (h slant w g (-e - 2 * q * c) x z (u + turn * n) (v - turn * m) t m n ⟨⟨?_, wg, ?_, ?_, ?_, u, v, x, z, hxz, ?_, ?_⟩, hxz, z0, z1, g0, ?_, ?_, ?_, ?_⟩ ?_ ?_)
    · rw [hi, hj, hg']
    · omega
    · exact s0
    · rw [hG]; exact s1
    · rw [hi, hj]; exact huv
    · rw [hG]
      have e1 : x * b + z * a + e + q * c = k := by rw [hj]; exact hk
      rw [e1, hl]
      have e2 := Int.mul_ediv_add_emod found G
      refine ⟨-(found / G), ?_⟩
      rw [Int.mul_neg]
      omega
    · rw [hi]; exact hm
    · rw [hj]; exact hn
    · rw [hi, hj]
      have : (u + turn * n) * i + (v - turn * m) * j = u * i + v * j + turn * (n * i - m * j) := by grind
      rw [this, huv]
      have : n * i - m * j = 0 := by rw [hm, hn]; grind
      rw [this, Int.mul_zero, Int.add_zero]
    · have e1 : x * b + z * a + e + q * c = k := by rw [hj]; exact hk
      rw [e1, hl]
      have : -((u + turn * n) * k + (v - turn * m) * l) = -(u * k + v * l) + turn * (m * l - n * k) := by grind
      rw [this, hfd, hw, ht']
    · exact ((bu.mono (k := 4100)).add (btn.mono (k := 4100))).mono
    · exact ((bv.mono (k := 4100)).sub (btm.mono (k := 4100))).mono
  walk_at "rd"
  by_cases hl1 : 1 < lot
  · rw [if_pos hl1]
    refine ⟨cG _, cG _, w', lot, by rw [fw'], l0, blot.mono, fun r r0 r1 hd => ?_⟩
    rw [cop] at hd
    dsimp only
    have e1 : (slant - found).fdiv G = (slant - found) / G := fdiv_pos G0
    rw [e1]
    have bq1 : Bi 5011 ((slant - found) / G) := Nat.lt_of_le_of_lt (Int.natAbs_ediv_le_natAbs _ _) ((bs.mono (k := 5010)).sub bfd)
    have br : Bi 900 r := by unfold Bi at blot ⊢; omega
    refine ⟨⟨bq1.sm, br.sm⟩, (show lot ≠ 0 by omega), ?_⟩
    rw [fmod_pos l0]
    exact fin _ (Int.emod_nonneg _ (by omega)) (.inl (Int.emod_lt_of_pos _ l0)) (.inr ⟨r, hd, rfl⟩)
  · rw [if_neg hl1]
    exact fin 0 (Int.le_refl _) (.inr rfl) (.inl ⟨by omega, rfl⟩)
end DL
namespace DL
open PySem PySem.Spec PyProof.Rows L2
local macro_rules | `(tactic| walk_at "rd") => `(tactic| simp only [startD, List.map, List.replicate, List.length_cons, List.length_nil, List.append_eq, List.append_nil, List.nil_append, List.cons_append, Nat.reduceSub, Nat.reduceAdd, List.getElem?_cons_zero, List.getElem?_cons_succ, List.set_cons_zero, List.set_cons_succ,
  dC, dVar, dOp, dTru, gTru, tru, dChain, dAnd, dOr, dNot, dAndV, dOrV, dNotV, dIf, dNeg, gNeg, dNil, dCons, dTup, dLst, dOwn, gIx, rBin, gAdd, gCmpI, dCall, dCallK, dSeq, dNext, dDrop, dRet, dRetN, dIfS, dName, dGNil, dGCons, dGTup, dSub, gSetL, dAsg, dPar, dPar3, dAug, gIpI, dSeqI, gSeqI, dRngI, gRng1, gRng2, dCB, gAbs, gInt, gMax, gMin, gGcd, gLen, lenD, gIsi, tyM, tyD, dBits, gBits, dMet, gAppend, dPart, dNoPart, dSl, gSl_tup, gSl_lst, cut_1, dEnds, gIs, isB, dNever, dFor, dLc, wipeD, dYes,
  sizeLine_eq, Nat.reduceLeDiff, gEq_int, gNe_int, gEq_strs, gNe_strs, gIn_two, gRepr_bl, rs_lst, rs_tup, rs_scr, rs_int, atI_0, atI_1, atI_2, atI_3, atI_4, atI_5, ixN_30, ixN_31, ixN_32, gEq_bl, gNe_bl, decide_eq_true_eq, beq_iff_eq, Bool.not_eq_true', beq_eq_false_iff_ne, decide_eq_false_iff_not, Bool.not_true, Bool.not_false, if_true, if_false, Bool.false_eq_true, ite_true, ite_false, true_and, and_true, ne_eq, Bool.bne_false, Bool.bne_true, reduceCtorEq])
local macro_rules | `(tactic| walk_at "rh") => `(tactic| simp only [*, startD, List.map, List.replicate, List.length_cons, List.length_nil, List.append_eq, List.append_nil, List.nil_append, List.cons_append, Nat.reduceSub, Nat.reduceAdd, List.getElem?_cons_zero, List.getElem?_cons_succ, List.set_cons_zero, List.set_cons_succ,
  dC, dVar, dOp, dTru, gTru, tru, dChain, dAnd, dOr, dNot, dAndV, dOrV, dNotV, dIf, dNeg, gNeg, dNil, dCons, dTup, dLst, dOwn, gIx, rBin, gAdd, gCmpI, dCall, dCallK, dSeq, dNext, dDrop, dRet, dRetN, dIfS, dName, dGNil, dGCons, dGTup, dSub, gSetL, dAsg, dPar, dPar3, dAug, gIpI, dSeqI, gSeqI, dRngI, gRng1, gRng2, dCB, gAbs, gInt, gMax, gMin, gGcd, gLen, lenD, gIsi, tyM, tyD, dBits, gBits, dMet, gAppend, dPart, dNoPart, dSl, gSl_tup, gSl_lst, cut_1, dEnds, gIs, isB, dNever, dFor, dLc, wipeD, dYes,
  sizeLine_eq, Nat.reduceLeDiff, gEq_int, gNe_int, gEq_strs, gNe_strs, gIn_two, gRepr_bl, rs_lst, rs_tup, rs_scr, rs_int, atI_0, atI_1, atI_2, atI_3, atI_4, atI_5, ixN_30, ixN_31, ixN_32, gEq_bl, gNe_bl, decide_eq_true_eq, beq_iff_eq, Bool.not_eq_true', beq_eq_false_iff_ne, decide_eq_false_iff_not, Bool.not_true, Bool.not_false, if_true, if_false, Bool.false_eq_true, ite_true, ite_false, true_and, and_true, ne_eq, Bool.bne_false, Bool.bne_true, reduceCtorEq])
local macro_rules | `(tactic| walk_at "kb") => `(tactic| simp only [kb_NoneType_list, kb_bool_list, kb_int_list, kb_str_list, kb_tuple_list, kb_list_list, kb_dict_list, kb_NoneType_int, kb_bool_int, kb_int_int, kb_str_int, kb_tuple_int, kb_list_int, kb_dict_int, kb_NoneType_bool, kb_bool_bool, kb_int_bool, kb_str_bool, kb_tuple_bool, kb_list_bool, kb_dict_bool, kb_NoneType_tuple, kb_bool_tuple, kb_int_tuple, kb_str_tuple, kb_tuple_tuple, kb_list_tuple, kb_dict_tuple, if_true, if_false, Bool.false_eq_true, ite_true, ite_false, Bool.not_true, Bool.not_false])
/-! ### sizes of cuttings by their measure -/
theorem sq_nn (e : Int) : 0 ≤ e * e := by rcases (by omega : 0 ≤ e ∨ e ≤ 0) with h | h; exact Int.mul_nonneg h h; exact Int.mul_nonneg_of_nonpos_of_nonpos h h
theorem abs_le_sq (e : Int) : (e.natAbs : Int) ≤ e * e := by
  rcases (by omega : e = 0 ∨ 1 ≤ e ∨ e ≤ -1) with h | h | h
  · subst h; decide
  · have : e * 1 ≤ e * e := Int.mul_le_mul_of_nonneg_left h (by omega); omega
  · have : (-e) * 1 ≤ (-e) * (-e) := Int.mul_le_mul_of_nonneg_left (by omega) (by omega)
    rw [Int.neg_mul_neg] at this; omega
theorem cut_le {a b c e : Int} (h : isCut a b c e = true) : 0 ≤ a ∧ a < c ∧ a < b ∧ b ≤ meas4 b c e ∧ c ≤ meas4 b c e ∧ (e.natAbs : Int) ≤ meas4 b c e ∧ e * e < meas4 b c e := by
  obtain ⟨h1, h2, h3, h4, h5, _⟩ := cut_parts h
  have g1 : (Int.gcd b c : Int) ≤ c := Int.le_of_dvd (by omega) (Int.gcd_dvd_right _ _)
  have g2 : (Int.gcd b c : Int) ≤ b := Int.le_of_dvd (by omega) (Int.gcd_dvd_left _ _)
  have e1 : 4 * b * c = 4 * (b * c) := Int.mul_assoc _ _ _
  have hb : b * 1 ≤ b * c := Int.mul_le_mul_of_nonneg_left h2 (by omega)
  have hc : 1 * c ≤ b * c := Int.mul_le_mul_of_nonneg_right h1 (by omega)
  have he := abs_le_sq e
  have hs := sq_nn e
  unfold meas4
  refine ⟨h4, by omega, by omega, by omega, by omega, by omega, by omega⟩
def CutB (n : Nat) (a b c e : Int) : Prop := Bi n a ∧ Bi n b ∧ Bi n c ∧ Bi n e
theorem cut_bi {n : Nat} {a b c e : Int} (h : isCut a b c e = true) (hm : Bi n (meas4 b c e)) : CutB n a b c e := by
  obtain ⟨h1, h2, h3, h4, h5, h6, h7⟩ := cut_le h
  have h8 := (cut_parts h).1
  have h9 := (cut_parts h).2.1
  have hs := sq_nn e
  unfold CutB Bi at *
  omega
theorem CutB.mono {n k : Nat} {a b c e : Int} (h : CutB n a b c e) (hk : n ≤ k := by decide) : CutB k a b c e := ⟨h.1.mono hk, h.2.1.mono hk, h.2.2.1.mono hk, h.2.2.2.mono hk⟩
/-- a deed's numbers, but for the bound of the first -/
structure DeedQ (b c e p q : Int) : Prop where
  q1 : 1 ≤ q
  al : 0 < b - q * e - q * q * c
  p0 : 0 ≤ p
  cp : Int.gcd p q = 1
theorem deedq_one {a b c e p : Int} (h : isCut a b c e = true) (hp : 0 ≤ p) : DeedQ b c e p 1 := by
  obtain ⟨h1, h2, h3, h4, h5, _⟩ := cut_parts h
  refine ⟨by omega, by rw [Int.one_mul, Int.one_mul, Int.one_mul]; omega, hp, ?_⟩
  simp [Int.gcd]
def sp_done_by : DSp := fun ds M Q _ => ∃ a b c e p q : Int, ds = [T4 a b c e, .tup [.int p, .int q]] ∧ 1 ≤ q ∧ 1 ≤ c ∧ Int.gcd p q = 1 ∧ CutB 450 a b c e ∧ Bi 450 p ∧ Bi 450 q ∧
  ∀ a' w g e', IsDone a b c e p q a' w g e' → Q (T4 a' w g e') M
theorem rd_done_by : ∀ ds M Q, ds.length = 2 → sp_done_by ds M Q DX0 → t_done_by sp_full_by (dEnds M Q) (startD 2 ds) M := by
  rintro _ M Q - ⟨a, b, c, e, p, q, rfl, q1, c1, hg, hb, bp, bq, h⟩
  unfold t_done_by
  walk_at "rd"
  refine ⟨a, b, c, e, p, q, rfl, q1, c1, hg, hb, bp, bq, fun a' w g e' x z f s t m n hF _ _ => ?_⟩
  walk_at "rd"
  exact rtq (h a' w g e' hF.dn)
def farV (a b c : Int) : Int := if c = 1 then 0 else if (Int.gcd (Int.gcd a b : Int) c : Int) = 1 then 1 else 2
def sp_far_by : DSp := fun ds M Q _ => ∃ a b c e : Int, ds = [T4 a b c e] ∧ Q (.int (farV a b c)) M
theorem rd_far_by : ∀ ds M Q, ds.length = 1 → sp_far_by ds M Q DX0 → t_far_by sp_gcd (dEnds M Q) (startD 5 ds) M := by
  rintro _ M Q - ⟨a, b, c, e, rfl, q⟩
  unfold t_far_by
  walk_at "rd"
  unfold farV at q
  by_cases h1 : c = 1
  · rw [if_pos h1] at q ⊢
    exact rtq q
  · rw [if_neg h1] at q ⊢
    refine ⟨a, b, rfl, _, c, rfl, ?_⟩
    dsimp only
    rw [gEq_int]
    dsimp only
    by_cases h2 : (Int.gcd (Int.gcd a b : Int) c : Int) = 1
    · rw [if_pos h2] at q
      rw [if_pos (by simpa using h2)]
      exact rtq q
    · rw [if_neg h2] at q
      rw [if_neg (by simpa using h2)]
      exact rtq q
theorem farV_nn (a b c : Int) : 0 ≤ farV a b c ∧ farV a b c ≤ 2 := by
  unfold farV
  split
  · omega
  · split <;> omega
theorem gcd_per {a b c N p k : Int} (hN : N ∣ c) : (Int.gcd ((p + k * (c / (Int.gcd b c : Int))) * b + a) N : Int) = Int.gcd (p * b + a) N := by
  have d1 : (Int.gcd b c : Int) ∣ b := Int.gcd_dvd_left _ _
  have d2 : (Int.gcd b c : Int) ∣ c := Int.gcd_dvd_right _ _
  have key : N ∣ k * (c / (Int.gcd b c : Int)) * b := by
    obtain ⟨t, ht⟩ := d1
    have e1 : c / (Int.gcd b c : Int) * b = c * t := by
      have h1 : c / (Int.gcd b c : Int) * (Int.gcd b c : Int) = c := Int.ediv_mul_cancel d2
      generalize (Int.gcd b c : Int) = G at *
      generalize c / G = l at *
      rw [ht, ← h1]; grind
    rw [Int.mul_assoc, e1]
    exact Int.dvd_mul_of_dvd_right (Int.dvd_mul_of_dvd_left hN)
  have e2 : (p + k * (c / (Int.gcd b c : Int))) * b + a = (p * b + a) + k * (c / (Int.gcd b c : Int)) * b := by grind
  rw [e2]
  generalize k * (c / (Int.gcd b c : Int)) * b = T at key
  generalize p * b + a = S
  refine congrArg _ (Nat.dvd_antisymm ?_ ?_)
  · refine Int.natCast_dvd_natCast.mp (Int.dvd_coe_gcd ?_ (Int.gcd_dvd_right _ _))
    have h1 : (Int.gcd (S + T) N : Int) ∣ S + T := Int.gcd_dvd_left _ _
    have h2 : (Int.gcd (S + T) N : Int) ∣ T := Int.dvd_trans (Int.gcd_dvd_right _ _) key
    have h3 := Int.dvd_sub h1 h2
    have e3 : S + T - T = S := by omega
    rwa [e3] at h3
  · refine Int.natCast_dvd_natCast.mp (Int.dvd_coe_gcd ?_ (Int.gcd_dvd_right _ _))
    exact Int.dvd_add (Int.gcd_dvd_left _ _) (Int.dvd_trans (Int.gcd_dvd_right _ _) key)
theorem free_mod {a b c N : Int} (hc : 1 ≤ c) (hN : N ∣ c) {p : Int} (h : (Int.gcd (p * b + a) N : Int) = 1) : ∃ r : Int, 0 ≤ r ∧ r < c / (Int.gcd b c : Int) ∧ (Int.gcd (r * b + a) N : Int) = 1 := by
  have G0 : 0 < (Int.gcd b c : Int) := by
    have := Int.gcd_pos_of_ne_zero_right b (show c ≠ 0 by omega)
    omega
  have l0 : 0 < c / (Int.gcd b c : Int) := Int.ediv_pos_of_pos_of_dvd (by omega) (by omega) (Int.gcd_dvd_right _ _)
  refine ⟨p % (c / (Int.gcd b c : Int)), Int.emod_nonneg _ (by omega), Int.emod_lt_of_pos _ l0, ?_⟩
  have h1 := Int.mul_ediv_add_emod p (c / (Int.gcd b c : Int))
  have h2 := gcd_per (a := a) (b := b) (c := c) (N := N) (p := p % (c / (Int.gcd b c : Int))) (k := p / (c / (Int.gcd b c : Int))) hN
  have e : p % (c / (Int.gcd b c : Int)) + p / (c / (Int.gcd b c : Int)) * (c / (Int.gcd b c : Int)) = p := by rw [Int.mul_comm (p / _)]; omega
  rw [e, h] at h2
  exact h2.symm
theorem cut_a0 {a b c e : Int} (h : isCut a b c e = true) : (Int.gcd (Int.gcd a b : Int) (Int.gcd c (e - b) : Int) : Int) = 1 := by
  obtain ⟨_, _, _, _, _, h6⟩ := cut_parts h
  have d0 : (Int.gcd (Int.gcd a b : Int) (Int.gcd c (e - b) : Int) : Int) ∣ 1 := by
    rw [← h6]
    have d1 : (Int.gcd (Int.gcd a b : Int) (Int.gcd c (e - b) : Int) : Int) ∣ (Int.gcd a b : Int) := Int.gcd_dvd_left _ _
    have d2 : (Int.gcd (Int.gcd a b : Int) (Int.gcd c (e - b) : Int) : Int) ∣ (Int.gcd c (e - b) : Int) := Int.gcd_dvd_right _ _
    have da := Int.dvd_trans d1 (Int.gcd_dvd_left _ _)
    have db := Int.dvd_trans d1 (Int.gcd_dvd_right _ _)
    have dc := Int.dvd_trans d2 (Int.gcd_dvd_left _ _)
    have de := Int.dvd_trans d2 (Int.gcd_dvd_right _ _)
    refine Int.dvd_coe_gcd (Int.dvd_coe_gcd da (Int.dvd_coe_gcd db dc)) ?_
    have := Int.dvd_add de db
    have e1 : e - b + b = e := by omega
    rwa [e1] at this
  have h5 : (Int.gcd (Int.gcd a b : Int) (Int.gcd c (e - b) : Int) : Int) ≠ 0 := fun z => by
    rw [z] at d0
    exact absurd (Int.zero_dvd.mp d0) (by decide)
  have := Int.le_of_dvd (by decide) d0
  omega
/-- how far a deed (p, 1) leads nearer, at most by one -/
theorem nearer_le {a b c e p a' w g e' : Int} (hd : IsDone a b c e p 1 a' w g e') : farV a b c ≤ farV a' w g + 1 := by
  have n1 := farV_nn a' w g
  have n2 := farV_nn a b c
  by_cases h2 : farV a b c = 2
  · have hg : g ≠ 1 := by
      intro z
      unfold farV at h2
      by_cases h3 : c = 1
      · rw [if_pos h3] at h2; omega
      · rw [if_neg h3] at h2
        by_cases h4 : (Int.gcd (Int.gcd a b : Int) c : Int) = 1
        · rw [if_pos h4] at h2; omega
        · have d1 : (Int.gcd (Int.gcd a b : Int) c : Int) ∣ g := by
            rw [hd.gc, Int.one_mul, Int.one_mul]
            have d0 : (Int.gcd (Int.gcd a b : Int) c : Int) ∣ (Int.gcd a b : Int) := Int.gcd_dvd_left _ _
            exact Int.dvd_coe_gcd (Int.dvd_add (Int.dvd_mul_of_dvd_right (Int.dvd_trans d0 (Int.gcd_dvd_right _ _))) (Int.dvd_trans d0 (Int.gcd_dvd_left _ _))) (Int.gcd_dvd_right _ _)
          rw [z] at d1
          have := Int.le_of_dvd (by decide) d1
          have h5 : (Int.gcd (Int.gcd a b : Int) c : Int) ≠ 0 := fun z => by
            rw [z] at d1
            exact absurd (Int.zero_dvd.mp d1) (by decide)
          omega
    have : 1 ≤ farV a' w g := by
      unfold farV
      rw [if_neg hg]
      split <;> omega
    omega
  · omega
theorem nearer_ex {a b c e : Int} (h : isCut a b c e = true) (hc : c ≠ 1) : ∃ p : Int, 0 ≤ p ∧ p < c / (Int.gcd b c : Int) ∧ ∀ a' w g e', IsDone a b c e p 1 a' w g e' → farV a' w g + 1 ≤ farV a b c := by
  obtain ⟨h1, h2, h3, h4, h5, h6⟩ := cut_parts h
  by_cases hf : (Int.gcd (Int.gcd a b : Int) c : Int) = 1
  · obtain ⟨p, hp⟩ := pick_freeI h4 (by omega) h2 hf
    obtain ⟨r, r0, r1, r2⟩ := free_mod h2 (Int.dvd_refl c) hp
    refine ⟨r, r0, r1, fun a' w g e' hd => ?_⟩
    have hg : g = 1 := by rw [hd.gc, Int.one_mul, Int.one_mul]; exact r2
    have e1 : farV a' w g = 0 := by unfold farV; rw [if_pos hg]
    have e2 : farV a b c = 1 := by unfold farV; rw [if_neg hc, if_pos hf]
    omega
  · have hN : 1 ≤ (Int.gcd c (e - b) : Int) := by
      have := Int.gcd_pos_of_ne_zero_left (e - b) (show c ≠ 0 by omega)
      omega
    obtain ⟨p, hp⟩ := pick_freeI h4 (by omega) hN (cut_a0 h)
    obtain ⟨r, r0, r1, r2⟩ := free_mod h2 (Int.gcd_dvd_left c (e - b)) hp
    refine ⟨r, r0, r1, fun a' w g e' hd => ?_⟩
    have e1 := far_done h2 hd
    rw [r2] at e1
    have e2 : farV a b c = 2 := by unfold farV; rw [if_neg hc, if_neg hf]
    have e3 : farV a' w g ≤ 1 := by
      unfold farV
      by_cases z : g = 1
      · rw [if_pos z]; omega
      · rw [if_neg z, if_pos e1]; omega
    omega
theorem done_g {a b c e p q a' w g e' : Int} (hc : 1 ≤ c) (hq : 1 ≤ q) (h : IsDone a b c e p q a' w g e') : 0 < g := by
  have := Int.gcd_pos_of_ne_zero_right (p * b + q * a) (show q * c ≠ 0 by have := Int.mul_pos (show 0 < q by omega) (show 0 < c by omega); omega)
  have := h.gc
  omega
/-- p is the least that leads nearer -/
def IsNear (a b c e p : Int) : Prop := (∀ a' w g e', IsDone a b c e p 1 a' w g e' → farV a' w g + 1 = farV a b c) ∧ ∀ p', 0 ≤ p' → p' < p → ∀ a' w g e', IsDone a b c e p' 1 a' w g e' → farV a b c ≤ farV a' w g
def sp_nearer_by : DSp := fun ds M Q _ => ∃ a b c e : Int, ds = [T4 a b c e] ∧ isCut a b c e = true ∧ c ≠ 1 ∧ CutB 300 a b c e ∧
  ∀ p, 0 ≤ p → p < c / (Int.gcd b c : Int) → IsNear a b c e p → Q (.tup [.int p, .int 1]) M
theorem lot_le {b c : Int} (hc : 1 ≤ c) : 1 ≤ c / (Int.gcd b c : Int) ∧ c / (Int.gcd b c : Int) ≤ c := by
  have G0 : 0 < (Int.gcd b c : Int) := by
    have := Int.gcd_pos_of_ne_zero_right b (show c ≠ 0 by omega)
    omega
  exact ⟨Int.ediv_pos_of_pos_of_dvd (by omega) (by omega) (Int.gcd_dvd_right _ _), Int.ediv_le_self _ (by omega)⟩
theorem rd_nearer_by : ∀ ds M Q, ds.length = 1 → sp_nearer_by ds M Q DX0 → t_nearer_by sp_far_by sp_done_by (dEnds M Q) (startD 3 ds) M := by
  rintro _ M Q - ⟨a, b, c, e, rfl, hcut, hc, hb, q⟩
  unfold t_nearer_by
  obtain ⟨h1, h2, h3, h4, h5, h6⟩ := cut_parts hcut
  obtain ⟨p0, p00, p01, hp⟩ := nearer_ex hcut hc
  obtain ⟨l1, l2⟩ := lot_le (b := b) h2
  refine dSeq_open fun B hB => ?_
  walk_at "rd"
  refine ⟨a, b, c, e, rfl, ?_⟩
  rw [← hB]
  clear hB B
  refine dSeq_open fun B hB => ?_
  refine dwhile_of (fun m r M' => M' = M ∧ ∃ p : Int, r = [some (T4 a b c e), some (.int (farV a b c)), some (.int p)] ∧ 0 ≤ p ∧ p ≤ p0 ∧ m = (p0 - p).toNat ∧ ∀ p', 0 ≤ p' → p' < p → ∀ a' w g e', IsDone a b c e p' 1 a' w g e' → farV a b c ≤ farV a' w g) _ ⟨rfl, 0, rfl, Int.le_refl _, p00, rfl, fun p' h1 h2 => by omega⟩ ?_
  rintro m r M' ⟨rfl, p, rfl, z0, z1, rfl, hmin⟩
  walk_at "rd"
  refine ⟨a, b, c, e, p, 1, rfl, Int.le_refl _, h2, (deedq_one hcut z0).cp, hb.mono, ?_, Bi.of_abs 1 (by decide) (by decide), fun a' w g e' hd => ⟨a', w, g, e', rfl, ?_⟩⟩
  · have := hb.2.2.1
    unfold Bi at this ⊢
    have := Nat.pow_le_pow_right (show 0 < 2 by decide) (show 300 ≤ 450 by decide)
    omega
  have n1 := nearer_le hd
  dsimp only
  by_cases hlt : farV a b c ≤ farV a' w g
  · rw [if_pos hlt]
    have ne : p ≠ p0 := by
      rintro rfl
      have := hp _ _ _ _ hd
      omega
    refine ⟨(p0 - (p + 1)).toNat, by omega, rfl, p + 1, rfl, by omega, by omega, rfl, fun p' y1 y2 a2 w2 g2 e2 hd2 => ?_⟩
    by_cases z : p' = p
    · subst z
      have hg := done_g h2 (Int.le_refl 1) hd
      obtain ⟨rfl, rfl, rfl, rfl⟩ := isDone_unique (by omega) hd hd2
      exact hlt
    · exact hmin p' y1 (by omega) _ _ _ _ hd2
  · rw [if_neg hlt, ← hB]
    walk_at "rd"
    refine rtq (q p z0 (by omega) ⟨fun a2 w2 g2 e2 hd2 => ?_, hmin⟩)
    have hg : g ≠ 0 := by
      have := Int.gcd_pos_of_ne_zero_right (p * b + 1 * a) (show 1 * c ≠ 0 by omega)
      have := hd.gc
      omega
    obtain ⟨rfl, rfl, rfl, rfl⟩ := isDone_unique hg hd hd2
    omega
end DL
namespace DL
open PySem PySem.Spec PyProof.Rows L2
local macro_rules | `(tactic| walk_at "rd") => `(tactic| simp only [startD, List.map, List.replicate, List.length_cons, List.length_nil, List.append_eq, List.append_nil, List.nil_append, List.cons_append, Nat.reduceSub, Nat.reduceAdd, List.getElem?_cons_zero, List.getElem?_cons_succ, List.set_cons_zero, List.set_cons_succ,
  dC, dVar, dOp, dTru, gTru, tru, dChain, dAnd, dOr, dNot, dAndV, dOrV, dNotV, dIf, dNeg, gNeg, dNil, dCons, dTup, dLst, dOwn, gIx, rBin, gAdd, gCmpI, dCall, dCallK, dSeq, dNext, dDrop, dRet, dRetN, dIfS, dName, dGNil, dGCons, dGTup, dSub, gSetL, dAsg, dPar, dPar3, dAug, gIpI, dSeqI, gSeqI, dRngI, gRng1, gRng2, dCB, gAbs, gInt, gMax, gMin, gGcd, gLen, lenD, gIsi, tyM, tyD, dBits, gBits, dMet, gAppend, dPart, dNoPart, dSl, gSl_tup, gSl_lst, cut_1, dEnds, gIs, isB, dNever, dFor, dLc, wipeD, dYes,
  sizeLine_eq, Nat.reduceLeDiff, gEq_int, gNe_int, gEq_strs, gNe_strs, gIn_two, gRepr_bl, rs_lst, rs_tup, rs_scr, rs_int, atI_0, atI_1, atI_2, atI_3, atI_4, atI_5, ixN_30, ixN_31, ixN_32, gEq_bl, gNe_bl, decide_eq_true_eq, beq_iff_eq, Bool.not_eq_true', beq_eq_false_iff_ne, decide_eq_false_iff_not, Bool.not_true, Bool.not_false, if_true, if_false, Bool.false_eq_true, ite_true, ite_false, true_and, and_true, ne_eq, Bool.bne_false, Bool.bne_true, reduceCtorEq])
local macro_rules | `(tactic| walk_at "rh") => `(tactic| simp only [*, startD, List.map, List.replicate, List.length_cons, List.length_nil, List.append_eq, List.append_nil, List.nil_append, List.cons_append, Nat.reduceSub, Nat.reduceAdd, List.getElem?_cons_zero, List.getElem?_cons_succ, List.set_cons_zero, List.set_cons_succ,
  dC, dVar, dOp, dTru, gTru, tru, dChain, dAnd, dOr, dNot, dAndV, dOrV, dNotV, dIf, dNeg, gNeg, dNil, dCons, dTup, dLst, dOwn, gIx, rBin, gAdd, gCmpI, dCall, dCallK, dSeq, dNext, dDrop, dRet, dRetN, dIfS, dName, dGNil, dGCons, dGTup, dSub, gSetL, dAsg, dPar, dPar3, dAug, gIpI, dSeqI, gSeqI, dRngI, gRng1, gRng2, dCB, gAbs, gInt, gMax, gMin, gGcd, gLen, lenD, gIsi, tyM, tyD, dBits, gBits, dMet, gAppend, dPart, dNoPart, dSl, gSl_tup, gSl_lst, cut_1, dEnds, gIs, isB, dNever, dFor, dLc, wipeD, dYes,
  sizeLine_eq, Nat.reduceLeDiff, gEq_int, gNe_int, gEq_strs, gNe_strs, gIn_two, gRepr_bl, rs_lst, rs_tup, rs_scr, rs_int, atI_0, atI_1, atI_2, atI_3, atI_4, atI_5, ixN_30, ixN_31, ixN_32, gEq_bl, gNe_bl, decide_eq_true_eq, beq_iff_eq, Bool.not_eq_true', beq_eq_false_iff_ne, decide_eq_false_iff_not, Bool.not_true, Bool.not_false, if_true, if_false, Bool.false_eq_true, ite_true, ite_false, true_and, and_true, ne_eq, Bool.bne_false, Bool.bne_true, reduceCtorEq])
local macro_rules | `(tactic| walk_at "kb") => `(tactic| simp only [kb_NoneType_list, kb_bool_list, kb_int_list, kb_str_list, kb_tuple_list, kb_list_list, kb_dict_list, kb_NoneType_int, kb_bool_int, kb_int_int, kb_str_int, kb_tuple_int, kb_list_int, kb_dict_int, kb_NoneType_bool, kb_bool_bool, kb_int_bool, kb_str_bool, kb_tuple_bool, kb_list_bool, kb_dict_bool, kb_NoneType_tuple, kb_bool_tuple, kb_int_tuple, kb_str_tuple, kb_tuple_tuple, kb_list_tuple, kb_dict_tuple, if_true, if_false, Bool.false_eq_true, ite_true, ite_false, Bool.not_true, Bool.not_false])
/-! ### the way to the heart -/
/-- deeds (p, 1), one behind the other, from (a, b, c, e) to (a', b', c', e') -/
def HWay : List Int → Int → Int → Int → Int → Int → Int → Int → Int → Prop
  | [], a, b, c, e, a', b', c', e' => a' = a ∧ b' = b ∧ c' = c ∧ e' = e
  | p :: ps, a, b, c, e, a', b', c', e' => ∃ a1 w g e1, 0 ≤ p ∧ p < c / (Int.gcd b c : Int) ∧ IsDone a b c e p 1 a1 w g e1 ∧ HWay ps a1 w g e1 a' b' c' e' ∧ IsNear a b c e p
theorem HWay.snoc : ∀ {ps : List Int} {a b c e a1 b1 c1 e1 p a2 b2 c2 e2 : Int}, HWay ps a b c e a1 b1 c1 e1 → 0 ≤ p → p < c1 / (Int.gcd b1 c1 : Int) → IsDone a1 b1 c1 e1 p 1 a2 b2 c2 e2 → IsNear a1 b1 c1 e1 p → HWay (ps ++ [p]) a b c e a2 b2 c2 e2
  | [], _, _, _, _, _, _, _, _, _, _, _, _, _, ⟨rfl, rfl, rfl, rfl⟩, h0, h1, h2, h3 => ⟨_, _, _, _, h0, h1, h2, ⟨rfl, rfl, rfl, rfl⟩, h3⟩
  | _ :: _, _, _, _, _, _, _, _, _, _, _, _, _, _, ⟨_, _, _, _, k0, k1, k2, k3, k4⟩, h0, h1, h2, h3 => ⟨_, _, _, _, k0, k1, k2, HWay.snoc k3 h0 h1 h2 h3, k4⟩
def wd1 (ps : List Int) : List D := ps.map fun p => .tup [.int p, .int 1]
theorem farV_zero {a b c : Int} : farV a b c = 0 ↔ c = 1 := by
  unfold farV
  by_cases h : c = 1
  · simp [h]
  · rw [if_neg h]
    constructor
    · intro z; split at z <;> omega
    · intro z; exact absurd z h
theorem done_one {a b c e p a' w g e' : Int} (h : isCut a b c e = true) (hp : 0 ≤ p) (hd : IsDone a b c e p 1 a' w g e') : isCut a' w g e' = true ∧ meas4 w g e' = meas4 b c e :=
  done_cut h (Int.le_refl _) (deedq_one h hp).al hd
def sp_to_heart_by : DSp := fun ds M Q _ => ∃ a b c e : Int, ds = [T4 a b c e] ∧ isCut a b c e = true ∧ Bi 300 (meas4 b c e) ∧
  ∀ ps a' b' c' e', HWay ps a b c e a' b' c' e' → c' = 1 → (ps.length : Int) = farV a b c → isCut a' b' c' e' = true → meas4 b' c' e' = meas4 b c e → Q (.tup [.lst (wd1 ps), T4 a' b' c' e']) M
theorem below_wd1 {n : Nat} {ps : List Int} : belowAll n (wd1 ps) = true := by
  induction ps with
  | nil => rfl
  | cons p ps ih => exact (by show (true && belowAll n (wd1 ps)) = true; rw [ih]; rfl)
theorem rd_to_heart_by : ∀ ds M Q, ds.length = 1 → sp_to_heart_by ds M Q DX0 → t_to_heart_by sp_nearer_by sp_done_by (dEnds M Q) (startD 4 ds) M := by
  rintro _ M Q - ⟨a, b, c, e, rfl, hcut, hm, q⟩
  unfold t_to_heart_by
  have n0 := farV_nn a b c
  refine dSeq_open fun B hB => ?_
  walk_at "rd"
  rw [← hB]
  clear hB B
  refine dSeq_open fun B hB => ?_
  refine dwhile_of (fun m r M' => M' = M ∧ ∃ ps a1 b1 c1 e1 t, r = [some (T4 a b c e), some (T4 a1 b1 c1 e1), some (.lst (wd1 ps)), t] ∧ HWay ps a b c e a1 b1 c1 e1 ∧ isCut a1 b1 c1 e1 = true ∧ meas4 b1 c1 e1 = meas4 b c e ∧ (ps.length : Int) + farV a1 b1 c1 = farV a b c ∧ m = (farV a1 b1 c1).toNat) _
    ⟨rfl, [], a, b, c, e, none, rfl, ⟨rfl, rfl, rfl, rfl⟩, hcut, rfl, by simp, rfl⟩ ?_
  rintro m r M' ⟨rfl, ps, a1, b1, c1, e1, t, rfl, hw, hc1, hm1, hl, rfl⟩
  have n1 := farV_nn a1 b1 c1
  walk_at "rd"
  by_cases h1 : c1 = 1
  · rw [if_neg (fun z => z h1), ← hB]
    walk_at "rd"
    have hz := (farV_zero (a := a1) (b := b1)).mpr h1
    refine rtq (q ps a1 b1 c1 e1 hw h1 (by omega) hc1 hm1) ?_
    show (belowAll _ (wd1 ps) && _) = true
    rw [below_wd1]
    rfl
  · rw [if_pos h1]
    have hb1 := cut_bi hc1 (n := 300) (by rw [hm1]; exact hm)
    obtain ⟨k1, k2, k3, k4, k5, k6⟩ := cut_parts hc1
    refine ⟨a1, b1, c1, e1, rfl, hc1, h1, hb1, fun p p0 p1 hp => ?_⟩
    obtain ⟨l1, l2⟩ := lot_le (b := b1) k2
    have bp : Bi 450 p := by
      have := hb1.2.2.1
      unfold Bi at this ⊢
      have := Nat.pow_le_pow_right (show 0 < 2 by decide) (show 300 ≤ 450 by decide)
      omega
    refine ⟨a1, b1, c1, e1, p, 1, rfl, Int.le_refl _, k2, (deedq_one hc1 p0).cp, hb1.mono, bp, Bi.of_abs 1 (by decide) (by decide), fun a2 w2 g2 e2 hd => ?_⟩
    dsimp only
    have h2 := hp.1 _ _ _ _ hd
    have n2 := farV_nn a2 w2 g2
    obtain ⟨hc2, hm2⟩ := done_one hc1 p0 hd
    refine ⟨?_, ?_⟩
    · have : (wd1 ps).length = ps.length := List.length_map _
      rw [this]
      omega
    · have e1 : wd1 (ps ++ [p]) = wd1 ps ++ [.tup [.int p, .int 1]] := List.map_append
      exact ⟨(farV a2 w2 g2).toNat, by omega, rfl, ps ++ [p], a2, w2, g2, e2, some (.tup [.int p, .int 1]), by rw [e1], hw.snoc p0 p1 hd hp, hc2, hm2.trans hm1, by rw [List.length_append, List.length_singleton]; omega, rfl⟩
def sp_word_to_heart : DSp := fun ds M Q _ => ∃ a b c e : Int, ds = [T4 a b c e] ∧ isCut a b c e = true ∧ Bi 300 (meas4 b c e) ∧
  ∀ ps a' b' c' e', HWay ps a b c e a' b' c' e' → c' = 1 → (ps.length : Int) = farV a b c → isCut a' b' c' e' = true → meas4 b' c' e' = meas4 b c e → Q (.lst (wd1 ps)) M
theorem rd_word_to_heart : ∀ ds M Q, ds.length = 1 → sp_word_to_heart ds M Q DX0 → t_word_to_heart sp_check_cutting sp_to_heart_by (dEnds M Q) (startD 1 ds) M := by
  rintro _ M Q - ⟨a, b, c, e, rfl, hcut, hm, q⟩
  unfold t_word_to_heart
  walk_at "rd"
  refine ⟨a, b, c, e, rfl, hcut, a, b, c, e, rfl, hcut, hm, fun ps a' b' c' e' h1 h2 h3 h4 h5 => ?_⟩
  walk_at "rd"
  exact rtq (q ps a' b' c' e' h1 h2 h3 h4 h5) below_wd1
def sp_heart_distance : DSp := fun ds M Q _ => ∃ a b c e : Int, ds = [T4 a b c e] ∧ isCut a b c e = true ∧ Q (.int (farV a b c)) M
theorem rd_heart_distance : ∀ ds M Q, ds.length = 1 → sp_heart_distance ds M Q DX0 → t_heart_distance sp_check_cutting sp_far_by (dEnds M Q) (startD 1 ds) M := by
  rintro _ M Q - ⟨a, b, c, e, rfl, hcut, q⟩
  unfold t_heart_distance
  walk_at "rd"
  exact ⟨a, b, c, e, rfl, hcut, a, b, c, e, rfl, rtq q⟩
def sp_is_heart : DSp := fun ds M Q _ => ∃ a b c e : Int, ds = [T4 a b c e] ∧ isCut a b c e = true ∧ Q (.bl (c == 1)) M
theorem rd_is_heart : ∀ ds M Q, ds.length = 1 → sp_is_heart ds M Q DX0 → t_is_heart sp_is_cutting (dEnds M Q) (startD 1 ds) M := by
  rintro _ M Q - ⟨a, b, c, e, rfl, hcut, q⟩
  unfold t_is_heart
  walk_at "rd"
  refine ⟨_, rfl, ask_fine M rfl, ?_⟩
  rw [show isCutD (T4 a b c e) = true from hcut]
  walk_at "rd"
  exact rtq q
end DL
namespace DL
open PySem PySem.Spec PyProof.Rows L2
local macro_rules | `(tactic| walk_at "rd") => `(tactic| simp only [startD, List.map, List.replicate, List.length_cons, List.length_nil, List.append_eq, List.append_nil, List.nil_append, List.cons_append, Nat.reduceSub, Nat.reduceAdd, List.getElem?_cons_zero, List.getElem?_cons_succ, List.set_cons_zero, List.set_cons_succ,
  dC, dVar, dOp, dTru, gTru, tru, dChain, dAnd, dOr, dNot, dAndV, dOrV, dNotV, dIf, dNeg, gNeg, dNil, dCons, dTup, dLst, dOwn, gIx, rBin, gAdd, gCmpI, dCall, dCallK, dSeq, dNext, dDrop, dRet, dRetN, dIfS, dName, dGNil, dGCons, dGTup, dSub, gSetL, dAsg, dPar, dPar3, dAug, gIpI, dSeqI, gSeqI, dRngI, gRng1, gRng2, dCB, gAbs, gInt, gMax, gMin, gGcd, gLen, lenD, gIsi, tyM, tyD, dBits, gBits, dMet, gAppend, dPart, dNoPart, dSl, gSl_tup, gSl_lst, cut_1, dEnds, gIs, isB, dNever, dFor, dLc, wipeD, dYes,
  sizeLine_eq, Nat.reduceLeDiff, gEq_int, gNe_int, gEq_strs, gNe_strs, gIn_two, gRepr_bl, rs_lst, rs_tup, rs_scr, rs_int, atI_0, atI_1, atI_2, atI_3, atI_4, atI_5, ixN_30, ixN_31, ixN_32, gEq_bl, gNe_bl, decide_eq_true_eq, beq_iff_eq, Bool.not_eq_true', beq_eq_false_iff_ne, decide_eq_false_iff_not, Bool.not_true, Bool.not_false, if_true, if_false, Bool.false_eq_true, ite_true, ite_false, true_and, and_true, ne_eq, Bool.bne_false, Bool.bne_true, reduceCtorEq])
local macro_rules | `(tactic| walk_at "rh") => `(tactic| simp only [*, startD, List.map, List.replicate, List.length_cons, List.length_nil, List.append_eq, List.append_nil, List.nil_append, List.cons_append, Nat.reduceSub, Nat.reduceAdd, List.getElem?_cons_zero, List.getElem?_cons_succ, List.set_cons_zero, List.set_cons_succ,
  dC, dVar, dOp, dTru, gTru, tru, dChain, dAnd, dOr, dNot, dAndV, dOrV, dNotV, dIf, dNeg, gNeg, dNil, dCons, dTup, dLst, dOwn, gIx, rBin, gAdd, gCmpI, dCall, dCallK, dSeq, dNext, dDrop, dRet, dRetN, dIfS, dName, dGNil, dGCons, dGTup, dSub, gSetL, dAsg, dPar, dPar3, dAug, gIpI, dSeqI, gSeqI, dRngI, gRng1, gRng2, dCB, gAbs, gInt, gMax, gMin, gGcd, gLen, lenD, gIsi, tyM, tyD, dBits, gBits, dMet, gAppend, dPart, dNoPart, dSl, gSl_tup, gSl_lst, cut_1, dEnds, gIs, isB, dNever, dFor, dLc, wipeD, dYes,
  sizeLine_eq, Nat.reduceLeDiff, gEq_int, gNe_int, gEq_strs, gNe_strs, gIn_two, gRepr_bl, rs_lst, rs_tup, rs_scr, rs_int, atI_0, atI_1, atI_2, atI_3, atI_4, atI_5, ixN_30, ixN_31, ixN_32, gEq_bl, gNe_bl, decide_eq_true_eq, beq_iff_eq, Bool.not_eq_true', beq_eq_false_iff_ne, decide_eq_false_iff_not, Bool.not_true, Bool.not_false, if_true, if_false, Bool.false_eq_true, ite_true, ite_false, true_and, and_true, ne_eq, Bool.bne_false, Bool.bne_true, reduceCtorEq])
local macro_rules | `(tactic| walk_at "kb") => `(tactic| simp only [kb_NoneType_list, kb_bool_list, kb_int_list, kb_str_list, kb_tuple_list, kb_list_list, kb_dict_list, kb_NoneType_int, kb_bool_int, kb_int_int, kb_str_int, kb_tuple_int, kb_list_int, kb_dict_int, kb_NoneType_bool, kb_bool_bool, kb_int_bool, kb_str_bool, kb_tuple_bool, kb_list_bool, kb_dict_bool, kb_NoneType_tuple, kb_bool_tuple, kb_int_tuple, kb_str_tuple, kb_tuple_tuple, kb_list_tuple, kb_dict_tuple, if_true, if_false, Bool.false_eq_true, ite_true, ite_false, Bool.not_true, Bool.not_false])
/-! ### the law's own deeds -/
theorem rd_l_bezout_3a39 : ∀ ds M Q, ds.length = 2 → sp_shared ds M Q DX0 → t_l_bezout_3a39 (dEnds M Q) (startD 7 ds) M := by
  rintro _ M Q - ⟨m, n, rfl, n0, bm, bn, q⟩
  unfold t_l_bezout_3a39
  walk_at "rd"
  have bound : ∀ {x : Int}, -n ≤ x → x ≤ n → Bi 4100 x := by
    intro x h1 h2
    have h3 : Bi 4100 n := bn.mono
    unfold Bi at h3 ⊢
    omega
  have bound2 : ∀ {x : Int}, x.natAbs ≤ m.natAbs + 1 → Bi 4100 x := by
    intro x h1
    have h3 : Bi 2001 m := bm.mono
    have h4 : Bi 2002 x := by
      unfold Bi at h3 bm ⊢
      rw [Nat.pow_succ 2 2001]
      have : 0 < 2 ^ 2001 := Nat.pow_pos (by decide)
      omega
    exact h4.mono
  refine dwhile_of (fun k r M' => ∃ low high f s t h : Int, ∃ tn, r = [some (.int m), some (.int n), some (.int low), some (.int high), some (.tup [.int f, .int t]), some (.tup [.int s, .int h]), tn] ∧ M' = M ∧ k = high.toNat ∧ ((low = m ∧ high = n ∧ f = 1 ∧ s = 0 ∧ t = 0 ∧ h = 1) ∨ (Euc m n low high f s t h ∧ low ≤ n ∧ high ≤ n))) _ ⟨m, n, 1, 0, 0, 1, none, rfl, rfl, rfl, .inl ⟨rfl, rfl, rfl, rfl, rfl, rfl⟩⟩ ?_
  rintro k r M' ⟨low, high, f, s, t, h, tn, rfl, rfl, rfl, hh⟩
  walk_at "rd"
  have hpos : high ≠ 0 → 0 < high := by
    intro z
    rcases hh with ⟨_, rfl, _⟩ | ⟨E, _⟩
    · exact n0
    · have := E.h0; omega
  have next : high ≠ 0 → (Euc m n high (low - low / high * high) s (f - low / high * s) h (t - low / high * h) ∧ high ≤ n ∧ low - low / high * high < high ∧ 0 ≤ low - low / high * high) := by
    intro z
    have hp := hpos z
    have rm : low - low / high * high = low % high := by
      have := Int.mul_ediv_add_emod low high
      have e : low / high * high = high * (low / high) := Int.mul_comm _ _
      omega
    have r1 := Int.emod_lt_of_pos low hp
    have r0 := Int.emod_nonneg low z
    rcases hh with ⟨rfl, rfl, rfl, rfl, rfl, rfl⟩ | ⟨E, h1, h2⟩
    · exact ⟨Euc.first n0, Int.le_refl _, by omega, by omega⟩
    · exact ⟨E.step z, h2, by omega, by omega⟩
  by_cases z : high = 0
  · subst z
    rw [if_neg (fun w => w rfl)]
    rcases hh with ⟨_, z, _⟩ | ⟨E, h1, h2⟩
    · omega
    · have eg : low = (Int.gcd m n : Int) := by
        have := E.gc
        rw [← this, gcd_end (Int.le_of_lt E.l0)]
      have l0 := E.l0
      rw [if_pos l0]
      rw [eg]
      have tb := E.tb n0 h1 h2
      exact rtq (q f t (by rw [← eg]; exact E.e1.symm) (bound E.fb.1 E.fb.2) (bound2 tb.1))
  · rw [if_pos z]
    have hp := hpos z
    obtain ⟨E, h1, h2, h3⟩ := next z
    have ef : low.fdiv high = low / high := fdiv_pos hp
    rw [ef]
    have bl : Bi 4100 low ∧ Bi 4100 high ∧ Bi 4100 s ∧ Bi 4100 h := by
      rcases hh with ⟨rfl, rfl, rfl, rfl, rfl, rfl⟩ | ⟨E, h1, h2⟩
      · exact ⟨bm.mono, bn.mono, Bi.of_abs 0 (by decide) (Nat.pow_pos (by decide)), bound2 (by omega)⟩
      · have tb := E.tb n0 h1 h2
        have l0 := E.l0
        have h0 := E.h0
        exact ⟨bound (by omega) h1, bound (by omega) h2, bound E.sb.1 E.sb.2, bound2 tb.2⟩
    obtain ⟨b1, b2, b3, b4⟩ := bl
    have bk : Bi 4100 (low / high) := Nat.lt_of_le_of_lt (Int.natAbs_ediv_le_natAbs _ _) b1
    refine ⟨⟨z, Nat.lt_of_lt_of_le (log2_of 4100 b2 (by decide)) (by decide)⟩, ⟨bk.sm, b2.sm⟩, ⟨bk.sm, b3.sm⟩, ⟨bk.sm, b4.sm⟩, (low - low / high * high).toNat, ?_, _, _, _, _, _, _, _, rfl, rfl, .inr ⟨E, h1, by omega⟩⟩
    omega
/-- where a deed leads, told by the law -/
def sp_ldone : DSp := fun ds M Q _ => ∃ a b c e p q : Int, ds = [T4 a b c e, .tup [.int p, .int q]] ∧ 1 ≤ q ∧ 1 ≤ c ∧ Int.gcd p q = 1 ∧ 0 < b - q * e - q * q * c ∧ CutB 450 a b c e ∧ Bi 450 p ∧ Bi 450 q ∧
  ∀ a' w g e', IsDone a b c e p q a' w g e' → Q (T4 a' w g e') M
theorem rd_l_done_bebf : ∀ ds M Q, ds.length = 2 → sp_ldone ds M Q DX0 → t_l_done_bebf sp_shared sp_gcd (dEnds M Q) (startD 17 ds) M := by
  rintro _ M Q - ⟨a, b, c, e, p, q, rfl, q1, c1, hg, hf, ⟨ba, bb, bc, be⟩, bp, bq, h⟩
  unfold t_l_done_bebf
  refine dSeq_open fun B hB => ?_
  walk_at "rd"
  rw [← hB]
  clear hB B
  refine dSeq_open fun B hB => ?_
  walk_at "rd"
  rw [← hB]
  clear hB B
  refine dSeq_open fun B hB => ?_
  walk_at "rd"
  refine ⟨p, q, rfl, by omega, bp.mono, bq.mono, fun z t hz bz bt => ?_⟩
  walk_at "rd"
  rw [hg] at hz
  rw [← hB]
  clear hB B
  refine dSeq_open fun B hB => ?_
  walk_at "rd"
  have e1 : (p * z - 1).fdiv q = -t := by
    have : p * z - 1 = q * (-t) := by
      have h1 : p * z = 1 - t * q := by rw [Int.mul_comm]; omega
      rw [h1]; grind
    rw [this]; exact Int.mul_fdiv_cancel_left _ (by omega)
  refine ⟨⟨bp.sm, bz.sm⟩, ⟨by omega, Nat.lt_of_lt_of_le (log2_of 450 bq (by decide)) (by decide)⟩, ?_⟩
  rw [e1]
  generalize hx : -t = x
  have hxz : p * z - q * x = 1 := by
    rw [← hx]
    have : z * p + t * q = p * z - q * -t := by grind
    rw [← this]; exact hz
  have bx : Bi 4100 x := by rw [← hx]; have := bt.neg; rwa [Int.zero_sub] at this
  rw [← hB]
  clear hB B
  refine dSeq_open fun B hB => ?_
  walk_at "rd"
  have bi : Bi 901 (p * b + q * a) := (bp.mul bb).add (bq.mul ba)
  have bj : Bi 900 (q * c) := bq.mul bc
  refine ⟨⟨bp.sm, bb.sm⟩, ⟨bq.sm, ba.sm⟩, ⟨bq.sm, bc.sm⟩, ?_⟩
  rw [← hB]
  clear hB B
  refine dSeq_open fun B hB => ?_
  walk_at "rd"
  have j0 : 0 < q * c := Int.mul_pos (by omega) (by omega)
  refine ⟨_, _, rfl, j0, bi.mono, bj.mono, fun u v huv bu bv => ?_⟩
  walk_at "rd"
  rw [← hB]
  clear hB B
  refine dSeq_open fun B hB => ?_
  walk_at "rd"
  have bk : Bi 4560 (x * b + z * a + e + q * c) := by
    have h1 : Bi 4551 (x * b + z * a) := (bx.mul bb).add (bz.mul ba)
    have h2 : Bi 4552 (x * b + z * a + e) := h1.add be.mono
    have h3 : Bi 4553 (x * b + z * a + e + q * c) := h2.add bj.mono
    exact h3.mono
  refine ⟨⟨bx.sm, bb.sm⟩, ⟨bz.sm, ba.sm⟩, ⟨bq.sm, bc.sm⟩, ⟨bu.sm, bk.sm⟩, ⟨bv.sm, bz.sm⟩, ⟨(bv.mul bz).sm, bc.sm⟩, ?_⟩
  have g0 : 0 < (Int.gcd (p * b + q * a) (q * c) : Int) := by
    have := Int.gcd_pos_of_ne_zero_right (p * b + q * a) (show q * c ≠ 0 by omega)
    omega
  have dg : (Int.gcd (p * b + q * a) (q * c) : Int) ∣ c * (b - q * e - q * q * c) := by
    have h1 : c * (b - q * e - q * q * c) = (p * b + q * a) * (z * c) - (q * c) * (x * b + z * a + e + q * c) := by
      have : (p * b + q * a) * (z * c) - (q * c) * (x * b + z * a + e + q * c) = c * (b * (p * z - q * x) - q * e - q * q * c) := by grind
      rw [this, hxz, Int.mul_one]
    rw [h1]
    exact Int.dvd_sub (Int.dvd_mul_of_dvd_left (Int.gcd_dvd_left _ _)) (Int.dvd_mul_of_dvd_left (Int.gcd_dvd_right _ _))
  have bg : Bi 900 (Int.gcd (p * b + q * a) (q * c) : Int) := bj.of_dvd' (by omega) (Int.gcd_dvd_right _ _)
  generalize hgg : (Int.gcd (p * b + q * a) (q * c) : Int) = g at *
  obtain ⟨w, hw⟩ := dg
  rw [← hB]
  clear hB B
  refine dSeq_open fun B hB => ?_
  walk_at "rd"
  have bqe : Bi 900 (q * e) := bq.mul be
  have b3 : Bi 1352 (b - q * e - q * q * c) := ((bb.mono (k := 1350)).sub (bqe.mono (k := 1350))).sub (((bq.mul bq).mul bc).mono (k := 1351))
  refine ⟨⟨bq.sm, be.sm⟩, ⟨bq.sm, bq.sm⟩, ⟨(bq.mul bq).sm, bc.sm⟩, ⟨bc.sm, b3.sm⟩, ⟨by omega, Nat.lt_of_lt_of_le (log2_of 900 bg (by decide)) (by decide)⟩, ?_⟩
  have ew : (c * (b - q * e - q * q * c)).fdiv g = w := by rw [hw]; exact Int.mul_fdiv_cancel_left _ (by omega)
  rw [ew, ← hB]
  clear hB B
  walk_at "rd"
  refine ⟨w, g, rfl, ?_⟩
  dsimp only
  have G0 : 0 < (Int.gcd w g : Int) := by
    have := Int.gcd_pos_of_ne_zero_right w (show g ≠ 0 by omega)
    omega
  have b2 : Bi 3 2 := Bi.of_abs 2 (by decide)
  refine ⟨(show (Int.gcd w g : Int) ≠ 0 by omega), ⟨b2.sm, bq.sm⟩, ⟨(b2.mul bq).sm, bc.sm⟩, rtq (h _ _ _ _ ⟨hgg.symm, ?_, rfl, ?_, ?_, u, v, x, z, hxz, huv, ?_⟩)⟩
  · rw [hw, Int.mul_comm]
  · rw [fmod_pos G0]; exact Int.emod_nonneg _ (by omega)
  · rw [fmod_pos G0]; exact Int.emod_lt_of_pos _ G0
  · rw [fmod_pos G0]
    have e3 : v * z * c = v * (z * c) := Int.mul_assoc _ _ _
    rw [e3]
    have := Int.mul_ediv_add_emod (0 - (u * (x * b + z * a + e + q * c) + v * (z * c))) (Int.gcd w g : Int)
    refine ⟨-((0 - (u * (x * b + z * a + e + q * c) + v * (z * c))) / (Int.gcd w g : Int)), ?_⟩
    rw [Int.mul_neg]
    omega
theorem gRepr_same {d : D} {M : Mem} {G : DQ} (h : okV d = true) (q : G (.bl false) M) : gRepr [d] M (fun x M1 => gRepr [d] M1 fun y M2 => gNe x y M2 G) :=
  gRepr_ok h fun z hz => gRepr_again hz (res_fine (okV_parts h).1) (by rw [gNe_strs, str_self]; exact q)
theorem okV_int {n : Nat} {i : Int} (h : Bi n i) (hn : n ≤ 799 := by decide) : okV (.int i) = true := by
  unfold okV
  rw [h.lit8 hn]
  rfl
theorem gEq_nil' {n : Nat} {l : List D} {M : Mem} {Q : DQ} (h : fineAll n l = true) (q : Q (.bl l.isEmpty) M) (hn : n ≤ 60 := by decide) : gEq (.lst l) (.lst []) M Q := by
  unfold gEq
  rw [rs_lst, rs_lst, eqB_nil h hn]
  exact q
end DL
namespace DL
open PySem PySem.Spec PyProof.Rows L2
local macro_rules | `(tactic| walk_at "rd") => `(tactic| simp only [startD, List.map, List.replicate, List.length_cons, List.length_nil, List.append_eq, List.append_nil, List.nil_append, List.cons_append, Nat.reduceSub, Nat.reduceAdd, List.getElem?_cons_zero, List.getElem?_cons_succ, List.set_cons_zero, List.set_cons_succ,
  dC, dVar, dOp, dTru, gTru, tru, dChain, dAnd, dOr, dNot, dAndV, dOrV, dNotV, dIf, dNeg, gNeg, dNil, dCons, dTup, dLst, dOwn, gIx, rBin, gAdd, gCmpI, dCall, dCallK, dSeq, dNext, dDrop, dRet, dRetN, dIfS, dName, dGNil, dGCons, dGTup, dSub, gSetL, dAsg, dPar, dPar3, dAug, gIpI, dSeqI, gSeqI, dRngI, gRng1, gRng2, dCB, gAbs, gInt, gMax, gMin, gGcd, gLen, lenD, gIsi, tyM, tyD, dBits, gBits, dMet, gAppend, dPart, dNoPart, dSl, gSl_tup, gSl_lst, cut_1, dEnds, gIs, isB, dNever, dFor, dLc, wipeD, dYes,
  sizeLine_eq, Nat.reduceLeDiff, gEq_int, gNe_int, gEq_strs, gNe_strs, gIn_two, gRepr_bl, rs_lst, rs_tup, rs_scr, rs_int, atI_0, atI_1, atI_2, atI_3, atI_4, atI_5, ixN_30, ixN_31, ixN_32, gEq_bl, gNe_bl, decide_eq_true_eq, beq_iff_eq, Bool.not_eq_true', beq_eq_false_iff_ne, decide_eq_false_iff_not, Bool.not_true, Bool.not_false, if_true, if_false, Bool.false_eq_true, ite_true, ite_false, true_and, and_true, ne_eq, Bool.bne_false, Bool.bne_true, reduceCtorEq])
local macro_rules | `(tactic| walk_at "rh") => `(tactic| simp only [*, startD, List.map, List.replicate, List.length_cons, List.length_nil, List.append_eq, List.append_nil, List.nil_append, List.cons_append, Nat.reduceSub, Nat.reduceAdd, List.getElem?_cons_zero, List.getElem?_cons_succ, List.set_cons_zero, List.set_cons_succ,
  dC, dVar, dOp, dTru, gTru, tru, dChain, dAnd, dOr, dNot, dAndV, dOrV, dNotV, dIf, dNeg, gNeg, dNil, dCons, dTup, dLst, dOwn, gIx, rBin, gAdd, gCmpI, dCall, dCallK, dSeq, dNext, dDrop, dRet, dRetN, dIfS, dName, dGNil, dGCons, dGTup, dSub, gSetL, dAsg, dPar, dPar3, dAug, gIpI, dSeqI, gSeqI, dRngI, gRng1, gRng2, dCB, gAbs, gInt, gMax, gMin, gGcd, gLen, lenD, gIsi, tyM, tyD, dBits, gBits, dMet, gAppend, dPart, dNoPart, dSl, gSl_tup, gSl_lst, cut_1, dEnds, gIs, isB, dNever, dFor, dLc, wipeD, dYes,
  sizeLine_eq, Nat.reduceLeDiff, gEq_int, gNe_int, gEq_strs, gNe_strs, gIn_two, gRepr_bl, rs_lst, rs_tup, rs_scr, rs_int, atI_0, atI_1, atI_2, atI_3, atI_4, atI_5, ixN_30, ixN_31, ixN_32, gEq_bl, gNe_bl, decide_eq_true_eq, beq_iff_eq, Bool.not_eq_true', beq_eq_false_iff_ne, decide_eq_false_iff_not, Bool.not_true, Bool.not_false, if_true, if_false, Bool.false_eq_true, ite_true, ite_false, true_and, and_true, ne_eq, Bool.bne_false, Bool.bne_true, reduceCtorEq])
local macro_rules | `(tactic| walk_at "kb") => `(tactic| simp only [kb_NoneType_list, kb_bool_list, kb_int_list, kb_str_list, kb_tuple_list, kb_list_list, kb_dict_list, kb_NoneType_int, kb_bool_int, kb_int_int, kb_str_int, kb_tuple_int, kb_list_int, kb_dict_int, kb_NoneType_bool, kb_bool_bool, kb_int_bool, kb_str_bool, kb_tuple_bool, kb_list_bool, kb_dict_bool, kb_NoneType_tuple, kb_bool_tuple, kb_int_tuple, kb_str_tuple, kb_tuple_tuple, kb_list_tuple, kb_dict_tuple, if_true, if_false, Bool.false_eq_true, ite_true, ite_false, Bool.not_true, Bool.not_false])
/-! ### k63: drawn deeds, the heart's numbers -/
theorem lt900 {b : Int} (h : b < 10 ^ 60) : b < 2 ^ 900 := by
  have e : (2 : Int) ^ 900 = 2 ^ 200 * 2 ^ 700 := by rw [← Int.pow_add]
  have h1 : (0 : Int) < 2 ^ 700 := Int.pow_pos (by decide)
  have h2 : (10 : Int) ^ 60 < 2 ^ 200 := by decide
  have h3 : (2 : Int) ^ 200 * 1 ≤ 2 ^ 200 * 2 ^ 700 := Int.mul_le_mul_of_nonneg_left (by omega) (by decide)
  omega
def sp_lgreat_deed : DSp := fun ds M Q _ => ∃ (k : Nat) (a b c e n : Int), ds = [.own k, T4 a b c e] ∧ isCut a b c e = true ∧ CutB 300 a b c e ∧ Gn k n M ∧ n ≤ P40 - 800 ∧
  ∀ p q M', DeedQ b c e p q → Bi 60 p → Bi 60 q → (p < q ∨ (p = 0 ∧ q = 1)) → Gst k (n + 440) M M' → Q (.tup [.int p, .int q]) M'
theorem rd_l_great_deed_6536 : ∀ ds M Q, ds.length = 2 → sp_lgreat_deed ds M Q DX0 → t_l_great_deed_6536 sp_random sp_gcd (dEnds M Q) (startD 11 ds) M := by
  rintro _ M Q - ⟨k, a, b, c, e, n, rfl, hcut, ⟨ba, bb, bc, be⟩, hg, hn, q⟩
  unfold t_l_great_deed_6536
  have one := (deedq_one hcut (Int.le_refl 0)).al
  refine dSeq_open fun B hB => ?_
  walk_at "rd"
  rw [← hB]
  clear hB B
  refine dSeq_open fun B hB => ?_
  walk_at "rd"
  refine ⟨⟨by decide, by decide +kernel⟩, k, 3, n, rfl, by decide, lt900 (by decide), hg, by omega, fun v M1 v0 v1 g1 => ?_⟩
  obtain ⟨d0, hd0, ed0⟩ := atI_any (l := [D.int 3, .int 40, .int (10 ^ (14 : Int).toNat)]) v0 (by simpa using v1)
  walk_at "rd"
  rw [ed0]
  dsimp only
  obtain ⟨most, rfl, m1, m2⟩ : ∃ most : Int, d0 = .int most ∧ 1 ≤ most ∧ most ≤ 10 ^ 14 := by
    simp only [List.mem_cons, List.not_mem_nil, or_false] at hd0
    rcases hd0 with rfl | rfl | rfl
    · exact ⟨_, rfl, by decide, by decide⟩
    · exact ⟨_, rfl, by decide, by decide⟩
    · exact ⟨_, rfl, by decide, by decide⟩
  rw [← hB]
  clear hB B
  refine dSeq_open fun B hB => ?_
  walk_at "rd"
  refine ⟨k, 6, n + 40, rfl, by decide, lt900 (by decide), g1.2.1, by omega, fun v2 M2 v20 v21 g2 => ?_⟩
  obtain ⟨d1, hd1, ed1⟩ := atI_any (l := [D.int 1, .int 1, .int 2, .int 3, .int 6, .int 30]) v20 (by simpa using v21)
  walk_at "rd"
  rw [ed1]
  dsimp only
  obtain ⟨by', rfl, y1, y2⟩ : ∃ y : Int, d1 = .int y ∧ 1 ≤ y ∧ y ≤ 30 := by
    simp only [List.mem_cons, List.not_mem_nil, or_false] at hd1
    rcases hd1 with rfl | rfl | rfl | rfl | rfl | rfl <;> exact ⟨_, rfl, by decide, by decide⟩
  have g12 := (g1.trans g2).le (m := n + 80) (by omega)
  rw [← hB]
  clear hB B
  refine dSeq_open fun B hB => ?_
  -- behind the loop
  have fin : ∀ (q' : Int) (s6 s8 s9 : Option D) (M3 : Mem), 1 ≤ q' → q' ≤ 30 * (1 + 10 ^ 14) → 0 < b - q' * e - q' * q' * c → Gst k (n + 400) M M3 →
      B [some (.own k), some (T4 a b c e), some (.int b), some (.int c), some (.int e), some (.int q'), s6, some (.int by'), s8, s9, none] M3 := by
    intro q' s6 s8 s9 M3 q1 q2 al g3
    rw [← hB]
    clear hB B
    have hbig : (30 : Int) * (1 + 10 ^ 14) < 2 ^ 60 := by decide
    have bq : Bi 60 q' := Bi.of_abs (30 * (1 + 10 ^ 14)) (by omega) (by decide)
    refine dSeq_open fun B hB => ?_
    walk_at "rd"
    refine ⟨k, q', n + 400, rfl, by omega, lt900 (by omega), g3.2.1, by omega, fun v4 M4 v40 v41 g4 => ?_⟩
    have g5 := (g3.trans g4).le (m := n + 440) (by omega)
    rw [← hB]
    clear hB B
    refine dSeq_open fun B hB => ?_
    walk_at "rd"
    refine ⟨⟨by omega, by omega⟩, ?_⟩
    refine ⟨fun i r M' => M' = M4 ∧ ∃ (p : Int) (t : Option D), r = [some (.own k), some (T4 a b c e), some (.int b), some (.int c), some (.int e), some (.int q'), s6, some (.int by'), t, s9, some (.int p)] ∧ 0 ≤ p ∧ p < q', ⟨rfl, v4, _, rfl, v40, v41⟩, ?_⟩
    rintro i r M' ⟨rfl, p, t, rfl, p0, p1⟩
    refine ⟨trivial, fun _ => ?_, fun d hd => ?_⟩
    · dsimp only
      rw [← hB]
      walk_at "rd"
      exact g5.rtq (q 0 1 M' ⟨Int.le_refl _, one, Int.le_refl _, by decide⟩ (Bi.of_abs 0 (by decide) (by decide)) (Bi.of_abs 1 (by decide) (by decide)) (.inr ⟨rfl, rfl⟩) g5)
    · walk_at "rd"
      refine ⟨p, q', rfl, ?_⟩
      dsimp only
      rw [gEq_int]
      dsimp only
      by_cases h1 : (Int.gcd p q' : Int) = 1
      · rw [if_pos (by simpa using h1)]
        have bp : Bi 60 p := by unfold Bi at bq ⊢; omega
        exact g5.rtq (q p q' M' ⟨q1, al, p0, by omega⟩ bp bq (.inl p1) g5)
      · rw [if_neg (by simpa using h1)]
        have hm := fm_range (a := p + 1) (show 0 < q' by omega)
        exact ⟨(by omega : q' ≠ 0), rfl, _, _, rfl, hm.1, hm.2⟩
  walk_at "rd"
  refine ⟨⟨by decide, by decide⟩, ?_⟩
  refine ⟨fun i r M' => i ≤ 8 ∧ Gst k (n + 80 + 40 * i) M M' ∧ ∃ (m : Int) (t u : Option D), r = [some (.own k), some (T4 a b c e), some (.int b), some (.int c), some (.int e), some (.int 1), some (.int m), some (.int by'), t, u, none] ∧ 1 ≤ m ∧ m ≤ 10 ^ 14, ⟨by omega, g12.le (by omega), most, _, _, rfl, m1, m2⟩, ?_⟩
  rintro i r M' ⟨hi, gi, m, t, u, rfl, k1, k2⟩
  refine ⟨trivial, fun hl => ?_, fun d hd => ?_⟩
  · exact fin 1 _ _ _ M' (Int.le_refl _) (by decide) one (gi.le (by omega))
  · obtain ⟨hi2, rfl⟩ := rng_get.mp hd
    replace hi2 : i < 8 := hi2
    walk_at "rd"
    refine ⟨k, m, n + 80 + 40 * i, rfl, by omega, lt900 (by omega), gi.2.1, by omega, fun v3 M3 v30 v31 g3 => ?_⟩
    dsimp only
    have g4 := (gi.trans g3).le (m := n + 80 + 40 * ((i + 1 : Nat) : Int)) (by omega)
    have by1 : Bi 6 by' := Bi.of_abs 30 (by omega) (by decide)
    have bv : Bi 50 (1 + v3) := Bi.of_abs (10 ^ 14) (by omega) (by decide)
    have w1 : 1 ≤ by' * (1 + v3) := by
      have : 1 * 1 ≤ by' * (1 + v3) := Int.mul_le_mul y1 (by omega) (by decide) (by omega)
      omega
    have w2 : by' * (1 + v3) ≤ 30 * (1 + 10 ^ 14) := Int.mul_le_mul y2 (by omega) (by omega) (by decide)
    have bw : Bi 56 (by' * (1 + v3)) := by1.mul bv
    refine ⟨⟨by1.sm, bv.sm⟩, ?_⟩
    generalize by' * (1 + v3) = w at *
    refine ⟨⟨bw.sm, be.sm⟩, ⟨bw.sm, bw.sm⟩, ⟨(bw.mul bw).sm, bc.sm⟩, ?_⟩
    by_cases hal : 0 < b - w * e - w * w * c
    · rw [if_pos hal]
      exact fin w _ _ _ M3 w1 w2 hal (g4.le (by omega))
    · rw [if_neg hal]
      have ef : m.fdiv 40 = m / 40 := fdiv_pos (by decide)
      rw [ef]
      exact ⟨⟨by decide, by decide⟩, by omega, g4, _, _, _, rfl, by omega, by omega⟩
/-- a deed: (p, q) is one of (a, b, c, e) -/
def isDeed (b c e p q : Int) : Bool := decide (1 ≤ q) && (decide (0 < b - q * e - q * q * c) && (decide (0 ≤ p) && (decide (p < q * (c / (Int.gcd b c : Int))) && (Int.gcd p q : Int) == 1)))
def sp_lis_deed : DSp := fun ds M Q _ => ∃ a b c e p q : Int, ds = [T4 a b c e, .tup [.int p, .int q]] ∧ 1 ≤ c ∧ CutB 450 a b c e ∧ Bi 450 q ∧ Q (.bl (isDeed b c e p q)) M
theorem rd_l_is_deed_51a8 : ∀ ds M Q, ds.length = 2 → sp_lis_deed ds M Q DX0 → t_l_is_deed_51a8 sp_gcd (dEnds M Q) (startD 7 ds) M := by
  rintro _ M Q - ⟨a, b, c, e, p, q, rfl, c1, ⟨ba, bb, bc, be⟩, bq, h⟩
  unfold t_l_is_deed_51a8
  refine dSeq_open fun B hB => ?_
  walk_at "rd"
  rw [← hB]
  clear hB B
  refine dSeq_open fun B hB => ?_
  walk_at "rd"
  rw [← hB]
  clear hB B
  have fin : ∀ v, v = isDeed b c e p q → Rtq M Q (.bl v) M := by rintro _ rfl; exact rtq h
  refine dSeq_open fun B hB => ?_
  walk_at "rd"
  by_cases h1 : q < 1
  · rw [if_pos h1]
    exact fin _ (by unfold isDeed; rw [decide_eq_false (show ¬ 1 ≤ q by omega)]; rfl)
  · rw [if_neg h1]
    have e1 := decide_eq_true (show 1 ≤ q by omega)
    refine ⟨⟨bq.sm, be.sm⟩, ⟨bq.sm, bq.sm⟩, ⟨(bq.mul bq).sm, bc.sm⟩, ?_⟩
    by_cases h2 : b - q * e - q * q * c ≤ 0
    · rw [if_pos h2]
      exact fin _ (by unfold isDeed; rw [e1, decide_eq_false (show ¬ 0 < b - q * e - q * q * c by omega)]; rfl)
    · rw [if_neg h2, ← hB]
      have e2 := decide_eq_true (show 0 < b - q * e - q * q * c by omega)
      walk_at "rd"
      by_cases h3 : 0 ≤ p
      · rw [if_pos h3]
        have e3 := decide_eq_true h3
        have G0 : 0 < (Int.gcd b c : Int) := by
          have := Int.gcd_pos_of_ne_zero_right b (show c ≠ 0 by omega)
          omega
        have bG : Bi 450 (Int.gcd b c : Int) := bc.of_dvd' (by omega) (Int.gcd_dvd_right _ _)
        obtain ⟨l1, l2⟩ := lot_le (b := b) c1
        have bl : Bi 450 (c / (Int.gcd b c : Int)) := by unfold Bi at bc ⊢; omega
        have ef : c.fdiv (Int.gcd b c : Int) = c / (Int.gcd b c : Int) := fdiv_pos G0
        refine ⟨b, c, rfl, ⟨by omega, Nat.lt_of_lt_of_le (log2_of 450 bG (by decide)) (by decide)⟩, ⟨bq.sm, by rw [ef]; exact bl.sm⟩, ?_⟩
        simp only [ef]
        by_cases h4 : p < q * (c / (Int.gcd b c : Int))
        · rw [if_pos h4]
          have e4 := decide_eq_true h4
          refine ⟨p, q, rfl, ?_⟩
          dsimp only
          rw [gEq_int]
          exact fin _ (by unfold isDeed; rw [e1, e2, e3, e4]; rfl)
        · rw [if_neg h4]
          exact fin _ (by unfold isDeed; rw [e1, e2, e3, decide_eq_false h4]; rfl)
      · rw [if_neg h3, if_neg h3]
        exact fin _ (by unfold isDeed; rw [e1, e2, decide_eq_false h3]; rfl)
def sp_lmade : DSp := fun ds M Q _ => ∃ m n : Int, ds = [.int m, .int n] ∧ Bi 450 n ∧ Q (T4 0 ((m - n * n) / 4) 1 n) M
theorem rd_l_made_4c69 : ∀ ds M Q, ds.length = 2 → sp_lmade ds M Q DX0 → t_l_made_4c69 (dEnds M Q) (startD 2 ds) M := by
  rintro _ M Q - ⟨m, n, rfl, bn, q⟩
  unfold t_l_made_4c69
  walk_at "rd"
  rw [← fdiv_pos (show (0 : Int) < 4 by decide)] at q
  exact ⟨⟨bn.sm, bn.sm⟩, ⟨by decide, by decide⟩, rtq q⟩
theorem rd_l_measured_5aba : ∀ ds M Q, ds.length = 1 → sp_measure_by ds M Q DX0 → t_l_measured_5aba (dEnds M Q) (startD 1 ds) M := rd_measure_by
/-- the heart's bounds -/
def hLow (m : Int) : Int := let r := if isq m * isq m < m then 0 - isq m else 1 - isq m; if (r - m) % 2 = 0 then r else r + 1
def hHigh (m : Int) : Int := let r := 0 - (if isq m * isq m < m then 0 - isq m else 1 - isq m) - 2; if (r - m) % 2 = 0 then r else r - 1
def sp_bounds_by : DSp := fun ds M Q _ => ∃ m : Int, ds = [.int m] ∧ 0 ≤ m ∧ m ≤ BIG ∧ Q (.tup [.int (hLow m), .int (hHigh m)]) M
theorem rd_bounds_by : ∀ ds M Q, ds.length = 1 → sp_bounds_by ds M Q DX0 → t_bounds_by sp_isq (dEnds M Q) (startD 4 ds) M := by
  rintro _ M Q - ⟨m, rfl, m0, mB, q⟩
  unfold t_bounds_by
  have h4 := isq_le_self m0
  have h3 := isq_nn m
  have sr : Sm (isq m) := sm_big (by have := big_pos; omega) (by omega)
  refine dSeq_open fun B hB => ?_
  walk_at "rd"
  refine ⟨m, rfl, m0, mB, ?_⟩
  rw [← hB]
  clear hB B
  unfold hLow hHigh at q
  dsimp only at q
  refine dSeq_open fun B hB => ?_
  walk_at "rd"
  refine ⟨⟨sr, sr⟩, ?_⟩
  have main : ∀ r : Int, (if isq m * isq m < m then 0 - isq m else 1 - isq m) = r → B [some (.int m), some (.int (isq m)), some (.int r), none] M := by
    intro r hr
    rw [hr] at q
    rw [← hB]
    clear hB B
    walk_at "rd"
    refine ⟨(by decide : (2 : Int) ≠ 0), ?_⟩
    rw [fmod_pos (show (0 : Int) < 2 by decide)]
    by_cases z : (r - m) % 2 = 0
    · rw [if_neg (fun w => w z)]
      rw [if_pos z] at q
      refine ⟨(by decide : (2 : Int) ≠ 0), ?_⟩
      rw [fmod_pos (show (0 : Int) < 2 by decide)]
      by_cases z2 : (0 - r - 2 - m) % 2 = 0
      · rw [if_neg (fun w => w z2)]
        rw [if_pos z2] at q
        exact rtq q
      · rw [if_pos z2]
        rw [if_neg z2] at q
        exact rtq q
    · rw [if_pos z]
      rw [if_neg z] at q
      refine ⟨(by decide : (2 : Int) ≠ 0), ?_⟩
      rw [fmod_pos (show (0 : Int) < 2 by decide)]
      by_cases z2 : (0 - r - 2 - m) % 2 = 0
      · rw [if_neg (fun w => w z2)]
        rw [if_pos z2] at q
        exact rtq q
      · rw [if_pos z2]
        rw [if_neg z2] at q
        exact rtq q
  by_cases hs : isq m * isq m < m
  · rw [if_pos hs]
    exact main _ (if_pos hs)
  · rw [if_neg hs]
    exact main _ (if_neg hs)

theorem hLow_le {m e : Int} (hm : 0 ≤ m) (h : e * e < m) (hp : (e - m) % 2 = 0) : hLow m ≤ e := by
  unfold hLow
  dsimp only
  have r0 := isq_nn m
  have r1 := isq_le hm
  have r2 := isq_lt hm
  have k1 : -e ≤ isq m := by
    by_cases z : -e ≤ isq m
    · exact z
    · have : (isq m + 1) * (isq m + 1) ≤ (-e) * (-e) := Int.mul_le_mul (by omega) (by omega) (by omega) (by omega)
      rw [Int.neg_mul_neg] at this
      omega
  have k2 : isq m * isq m = m → -e < isq m := by
    intro z
    by_cases z2 : -e < isq m
    · exact z2
    · have : isq m * isq m ≤ (-e) * (-e) := Int.mul_le_mul (by omega) (by omega) (by omega) (by omega)
      rw [Int.neg_mul_neg] at this
      omega
  by_cases hs : isq m * isq m < m
  · rw [if_pos hs]
    split <;> omega
  · rw [if_neg hs]
    have := k2 (by omega)
    split <;> omega
theorem meas_par {a b c e : Int} : (e - meas4 b c e) % 2 = 0 := by
  unfold meas4
  have e1 : 4 * b * c = 4 * (b * c) := Int.mul_assoc _ _ _
  rw [e1]
  rcases (by omega : e % 2 = 0 ∨ e % 2 = 1) with q | q
  · obtain ⟨t, rfl⟩ : ∃ t, e = 2 * t := ⟨e / 2, by omega⟩
    have : 2 * t * (2 * t) = 4 * (t * t) := by grind
    omega
  · obtain ⟨t, rfl⟩ : ∃ t, e = 2 * t + 1 := ⟨e / 2, by omega⟩
    have : (2 * t + 1) * (2 * t + 1) = 4 * (t * t + t) + 1 := by grind
    omega
def sp_heart_number : DSp := fun ds M Q _ => ∃ a b c e : Int, ds = [T4 a b c e] ∧ isCut a b c e = true ∧ c = 1 ∧ Bi 300 (meas4 b c e) ∧ ∀ v, 0 ≤ v → v = (e - hLow (meas4 b c e)) / 2 → Q (.int v) M
theorem rd_heart_number : ∀ ds M Q, ds.length = 1 → sp_heart_number ds M Q DX0 → t_heart_number sp_is_heart sp_bounds_by sp_measure_by (dEnds M Q) (startD 1 ds) M := by
  rintro _ M Q - ⟨a, b, c, e, rfl, hcut, hc, hm, q⟩
  unfold t_heart_number
  have hb := cut_bi hcut hm
  have hms := meas_ge (meas4_ok hcut)
  walk_at "rd"
  refine ⟨a, b, c, e, rfl, hcut, ?_⟩
  subst hc
  walk_at "rd"
  refine ⟨a, b, 1, e, rfl, hb.2.1.mono, hb.2.2.1.mono, hb.2.2.2.mono, _, rfl, by omega, (hm.mono (k := 4000)).big.2, ?_⟩
  walk_at "rd"
  have h1 := hLow_le (e := e) (show 0 ≤ meas4 b 1 e by omega) (cut_le hcut).2.2.2.2.2.2 (meas_par (a := a))
  refine ⟨⟨by decide, by decide⟩, rtq (q _ ?_ (fdiv_pos (by decide)))⟩
  rw [fdiv_pos (by decide)]
  omega
end DL
namespace DL
open PySem PySem.Spec PyProof.Rows L2
def t_l_is_cutting_9b45 (c_l_common_6be5 : DSp) (c_l_measured_5aba : DSp) : DTS :=
 (dSeq (dAsg (dVar 0) (dGTup 4 (dGCons (dName 1) (dGCons (dName 2) (dGCons (dName 3) (dGCons (dName 4) dGNil))))))
 (dSeq (dIfS (dOr (dTru (dOp (gCmpI fun i j => decide (i < j)) (dVar 2) (dC (.int 1)))) (dOr (dTru (dOp (gCmpI fun i j => decide (i < j)) (dVar 3) (dC (.int 1)))) (dOr (dTru (dOp (gCmpI fun i j => decide (j ≤ i)) (dOp gAdd (dVar 3) (dVar 4)) (dVar 2))) (dNot (dTru (dChain (gCmpI fun i j => decide (i ≤ j)) (gCmpI fun i j => decide (i < j)) (dC (.int 0)) (dVar 1) (dCall 2 c_l_common_6be5 [] DX0 (dCons (dVar 2) (dCons (dVar 3) dNil))))))))) (dRet (dC (.bl false))) dNext)
 (dRet (dAndV (dOp gEq (dCall 2 c_l_common_6be5 [] DX0 (dCons (dCall 2 c_l_common_6be5 [] DX0 (dCons (dVar 1) (dCons (dVar 2) dNil))) (dCons (dCall 2 c_l_common_6be5 [] DX0 (dCons (dVar 3) (dCons (dVar 4) dNil))) dNil))) (dC (.int 1))) (dOp (gCmpI fun i j => decide (j < i)) (dCall 1 c_l_measured_5aba [] DX0 (dCons (dVar 0) dNil)) (dC (.int 4)))))))
def t_l_cuttings_ee80 (c_l_root_d754 : DSp) (c_l_common_6be5 : DSp) (c_l_is_cutting_9b45 : DSp) : DTS :=
 (dSeq (dPar 1 2 (dCons (dLst dNil) (dCons (dCall 1 c_l_root_d754 [] DX0 (dCons (dVar 0) dNil)) dNil)))
 (dSeq (dFor (dRngI gRng2 (dCons (dOp (rBin (fun _ _ => True) fun i j => i - j) (dC (.int 0)) (dVar 2)) (dCons (dOp gAdd (dVar 2) (dC (.int 1))) dNil))) (dName 3) (dIfS (dAnd (dTru (dOp gEq (dOp (rBin CMod fun i j => i.fmod j) (dCB gInt (dCons (dOp (rBin (fun _ _ => True) fun i j => i - j) (dVar 0) (dVar 3)) dNil)) (dC (.int 2))) (dC (.int 0)))) (dTru (dOp (gCmpI fun i j => decide (j < i)) (dOp (rBin (fun _ _ => True) fun i j => i - j) (dVar 0) (dOp (rBin CMul fun i j => i * j) (dVar 3) (dVar 3))) (dC (.int 0))))) (dSeq (dAsg (dOp (rBin CDiv fun i j => i.fdiv j) (dOp (rBin (fun _ _ => True) fun i j => i - j) (dVar 0) (dOp (rBin CMul fun i j => i * j) (dVar 3) (dVar 3))) (dC (.int 4))) (dName 4))
 (dFor (dRngI gRng2 (dCons (dC (.int 1)) (dCons (dOp gAdd (dVar 4) (dC (.int 1))) dNil))) (dName 5) (dIfS (dTru (dOp gEq (dOp (rBin CMod fun i j => i.fmod j) (dCB gInt (dCons (dVar 4) dNil)) (dVar 5)) (dC (.int 0)))) (dSeq (dAsg (dOp (rBin CDiv fun i j => i.fdiv j) (dVar 4) (dVar 5)) (dName 6))
 (dAsg (dOp gAdd (dVar 1) (dLc false (dRngI gRng1 (dCons (dCall 2 c_l_common_6be5 [] DX0 (dCons (dVar 6) (dCons (dVar 5) dNil))) dNil)) (dName 7) (dTru (dCall 1 c_l_is_cutting_9b45 [] DX0 (dCons (dTup (dCons (dVar 7) (dCons (dVar 6) (dCons (dVar 5) (dCons (dVar 3) dNil))))) dNil))) (dTup (dCons (dVar 7) (dCons (dVar 6) (dCons (dVar 5) (dCons (dVar 3) dNil))))) [7])) (dName 1))) dNext))) dNext))
 (dRet (dVar 1))))
def t_l_deeds_09a3 (c_l_common_6be5 : DSp) : DTS :=
 (dSeq (dAsg (dSl (gSl false) (dVar 0) (dPart (dC (.int 1))) dNoPart) (dGTup 3 (dGCons (dName 1) (dGCons (dName 2) (dGCons (dName 3) dGNil)))))
 (dSeq (dAsg (dTup (dCons (dLst dNil) (dCons (dC (.int 1)) dNil))) (dGTup 2 (dGCons (dName 4) (dGCons (dName 5) dGNil))))
 (dSeq (dFor (dRngI gRng1 (dCons (dVar 1) dNil)) (dName 6) (dIfS (dTru (dOp (gCmpI fun i j => decide (j < i)) (dOp (rBin (fun _ _ => True) fun i j => i - j) (dOp (rBin (fun _ _ => True) fun i j => i - j) (dVar 1) (dOp (rBin CMul fun i j => i * j) (dVar 5) (dVar 3))) (dOp (rBin CMul fun i j => i * j) (dOp (rBin CMul fun i j => i * j) (dVar 5) (dVar 5)) (dVar 2))) (dC (.int 0)))) (dSeq (dAsg (dOp gAdd (dVar 4) (dLc false (dRngI gRng1 (dCons (dOp (rBin CMul fun i j => i * j) (dVar 5) (dOp (rBin CDiv fun i j => i.fdiv j) (dVar 2) (dCall 2 c_l_common_6be5 [] DX0 (dCons (dVar 1) (dCons (dVar 2) dNil))))) dNil)) (dName 7) (dTru (dOp gEq (dCall 2 c_l_common_6be5 [] DX0 (dCons (dVar 7) (dCons (dVar 5) dNil))) (dC (.int 1)))) (dTup (dCons (dVar 7) (dCons (dVar 5) dNil))) [7])) (dName 4))
 (dAsg (dOp gAdd (dVar 5) (dC (.int 1))) (dName 5))) dNext))
 (dRet (dVar 4)))))
def t_l_bezout_1443 : DTS :=
 (dSeq (dAsg (dTup (dCons (dVar 0) (dCons (dVar 1) (dCons (dTup (dCons (dC (.int 1)) (dCons (dC (.int 0)) dNil))) (dCons (dTup (dCons (dC (.int 0)) (dCons (dC (.int 1)) dNil))) dNil))))) (dGTup 4 (dGCons (dName 2) (dGCons (dName 3) (dGCons (dName 4) (dGCons (dName 5) dGNil))))))
 (dSeq (dWhile (dTru (dOp gNe (dVar 3) (dC (.int 0)))) (dSeq (dAsg (dOp (rBin CDiv fun i j => i.fdiv j) (dVar 2) (dVar 3)) (dName 6))
 (dSeq (dPar 2 3 (dCons (dVar 3) (dCons (dOp (rBin (fun _ _ => True) fun i j => i - j) (dVar 2) (dOp (rBin CMul fun i j => i * j) (dVar 6) (dVar 3))) dNil)))
 (dPar 4 5 (dCons (dVar 5) (dCons (dTup (dCons (dOp (rBin (fun _ _ => True) fun i j => i - j) (dOp gIx (dVar 4) (dC (.int 0))) (dOp (rBin CMul fun i j => i * j) (dVar 6) (dOp gIx (dVar 5) (dC (.int 0))))) (dCons (dOp (rBin (fun _ _ => True) fun i j => i - j) (dOp gIx (dVar 4) (dC (.int 1))) (dOp (rBin CMul fun i j => i * j) (dVar 6) (dOp gIx (dVar 5) (dC (.int 1))))) dNil))) dNil))))))
 (dRet (dIf (dTru (dOp (gCmpI fun i j => decide (j < i)) (dVar 2) (dC (.int 0)))) (dTup (dCons (dVar 2) (dCons (dOp gIx (dVar 4) (dC (.int 0))) (dCons (dOp gIx (dVar 4) (dC (.int 1))) dNil)))) (dTup (dCons (dOp (rBin (fun _ _ => True) fun i j => i - j) (dC (.int 0)) (dVar 2)) (dCons (dOp (rBin (fun _ _ => True) fun i j => i - j) (dC (.int 0)) (dOp gIx (dVar 4) (dC (.int 0)))) (dCons (dOp (rBin (fun _ _ => True) fun i j => i - j) (dC (.int 0)) (dOp gIx (dVar 4) (dC (.int 1)))) dNil))))))))
def t_l_far_a6bc (c_l_deeds_09a3 : DSp) (c_l_done_bebf : DSp) : DTS :=
 (dSeq (dIfS (dTru (dOp gEq (dOp gIx (dVar 0) (dC (.int 2))) (dC (.int 1)))) (dRet (dC (.int 0))) dNext)
 (dSeq (dAsg (dLc false (dSeqI (dCall 1 c_l_deeds_09a3 [] DX0 (dCons (dVar 0) dNil))) (dName 2) dYes (dCall 2 c_l_done_bebf [] DX0 (dCons (dVar 0) (dCons (dVar 2) dNil))) [2]) (dName 1))
 (dRet (dIf (dTru (dOp gNe (dLc false (dSeqI (dVar 1)) (dName 3) (dTru (dOp gEq (dOp gIx (dVar 3) (dC (.int 2))) (dC (.int 1)))) (dVar 3) [3]) (dLst dNil))) (dC (.int 1)) (dC (.int 2))))))
def t_to_heart_by_o (c_nearer_by : DSp) (c_done_by : DSp) : DTS :=
 (dSeq (dPar 1 2 (dCons (dVar 0) (dCons (dOwn dNil) dNil)))
 (dSeq (dWhile (dTru (dOp gNe (dOp gIx (dVar 1) (dC (.int 2))) (dC (.int 1)))) (dSeq (dAsg (dCall 1 c_nearer_by [] DX0 (dCons (dVar 1) dNil)) (dName 3))
 (dPar 1 2 (dCons (dCall 2 c_done_by [] DX0 (dCons (dVar 1) (dCons (dVar 3) dNil))) (dCons (dOp gAddO (dVar 2) (dLst (dCons (dVar 3) dNil))) dNil)))))
 (dRet (dTup (dCons (dVar 2) (dCons (dVar 1) dNil))))))
def t_word_to_heart_o (c_check_cutting : DSp) (c_to_heart_by_o : DSp) : DTS :=
 (dSeq (dDrop (dCall 1 c_check_cutting [] DX0 (dCons (dVar 0) dNil)))
 (dRet (dOp gIx (dCall 1 c_to_heart_by_o [] DX0 (dCons (dVar 0) dNil)) (dC (.int 0)))))
def t_l_word_right_9c97 (c_word_to_heart_o : DSp) (c_l_is_deed_51a8 : DSp) (c_l_done_bebf : DSp) (c_l_is_cutting_9b45 : DSp) : DTS :=
 (dSeq (dPar 2 3 (dCons (dCall 1 c_word_to_heart_o [] DX0 (dCons (dVar 0) dNil)) (dCons (dVar 0) dNil)))
 (dSeq (dIfS (dOr (dNot (dTru (dCB gIsi (dCons (dVar 2) (dCons (dC (.val (.ty "list"))) dNil))))) (dOr (dTru (dOp gNe (dCB gLen (dCons (dVar 2) dNil)) (dVar 1))) (dTru (dOp gNe (dCallK 1 1 c_word_to_heart_o [0] DX0 (dCons (dVar 0) dNil)) (dVar 2))))) (dRet (dC (.bl false))) dNext)
 (dSeq (dFor (dSeqI (dVar 2)) (dName 4) (dSeq (dIfS (dOr (dNot (dTru (dCB gIsi (dCons (dVar 4) (dCons (dC (.val (.ty "tuple"))) dNil))))) (dOr (dTru (dOp gNe (dCB gLen (dCons (dVar 4) dNil)) (dC (.int 2)))) (dNot (dTru (dCall 2 c_l_is_deed_51a8 [] DX0 (dCons (dVar 3) (dCons (dVar 4) dNil))))))) (dRet (dC (.bl false))) dNext)
 (dAsg (dCall 2 c_l_done_bebf [] DX0 (dCons (dVar 3) (dCons (dVar 4) dNil))) (dName 3))))
 (dSeq (dAsg (dCB gRepr (dCons (dVar 2) dNil)) (dName 5))
 (dSeq (dDrop (dMet gAppend (dVar 2) (dCons (dC .non) dNil)))
 (dRet (dAndV (dOp gEq (dOp gIx (dVar 3) (dC (.int 2))) (dC (.int 1))) (dAndV (dCall 1 c_l_is_cutting_9b45 [] DX0 (dCons (dVar 3) dNil)) (dOp gEq (dCB gRepr (dCons (dCall 1 c_word_to_heart_o [] DX0 (dCons (dVar 0) dNil)) dNil)) (dVar 5))))))))))
def t_l_first_deed_394d (c_l_random_7821 : DSp) (c_l_is_deed_51a8 : DSp) : DTS :=
 (dSeq (dPar 2 3 (dCons (dCall 2 c_l_random_7821 [] DX0 (dCons (dVar 0) (dCons (dC (.int 40)) dNil))) (dCons (dOp gAdd (dC (.int 1)) (dCall 2 c_l_random_7821 [] DX0 (dCons (dVar 0) (dCons (dC (.int 6)) dNil)))) dNil)))
 (dSeq (dFor (dRngI gRng1 (dCons (dC (.int 60)) dNil)) (dName 4) (dSeq (dIfS (dTru (dCall 2 c_l_is_deed_51a8 [] DX0 (dCons (dVar 1) (dCons (dTup (dCons (dVar 2) (dCons (dVar 3) dNil))) dNil)))) (dRet (dTup (dCons (dVar 2) (dCons (dVar 3) dNil)))) dNext)
 (dAsg (dIf (dTru (dOp (gCmpI fun i j => decide (j < i)) (dVar 2) (dC (.int 0)))) (dTup (dCons (dOp (rBin (fun _ _ => True) fun i j => i - j) (dVar 2) (dC (.int 1))) (dCons (dVar 3) dNil))) (dTup (dCons (dOp gAdd (dVar 2) (dC (.int 7))) (dCons (dIf (dTru (dOp (gCmpI fun i j => decide (j < i)) (dVar 3) (dC (.int 1)))) (dOp (rBin (fun _ _ => True) fun i j => i - j) (dVar 3) (dC (.int 1))) (dC (.int 1))) dNil)))) (dGTup 2 (dGCons (dName 2) (dGCons (dName 3) dGNil))))))
 (dRet (dTup (dCons (dC (.int 0)) (dCons (dC (.int 1)) dNil))))))
def t_l_walked_1581 (c_l_random_7821 : DSp) (c_l_done_bebf : DSp) (c_l_first_deed_394d : DSp) : DTS :=
 (dSeq (dAsg (dVar 1) (dName 3))
 (dSeq (dFor (dRngI gRng1 (dCons (dCall 2 c_l_random_7821 [] DX0 (dCons (dVar 0) (dCons (dOp gAdd (dVar 2) (dC (.int 1))) dNil))) dNil)) (dName 4) (dAsg (dCall 2 c_l_done_bebf [] DX0 (dCons (dVar 3) (dCons (dCall 2 c_l_first_deed_394d [] DX0 (dCons (dVar 0) (dCons (dVar 3) dNil))) dNil))) (dName 3)))
 (dRet (dVar 3))))
def t_l_great_5836 (c_l_random_7821 : DSp) (c_l_common_6be5 : DSp) (c_l_is_cutting_9b45 : DSp) : DTS :=
 (dSeq (dAsg (dC (.int 3)) (dName 2))
 (dSeq (dFor (dRngI gRng1 (dCons (dCall 2 c_l_random_7821 [] DX0 (dCons (dVar 0) (dCons (dVar 1) dNil))) dNil)) (dName 3) (dAsg (dOp (rBin CMul fun i j => i * j) (dC (.int 10)) (dVar 2)) (dName 2)))
 (dSeq (dAsg (dOp gIx (dLst (dCons (dC (.int 1)) (dCons (dC (.int 1)) (dCons (dC (.int 2)) (dCons (dC (.int 3)) (dCons (dC (.int 6)) (dCons (dC (.int 12)) dNil))))))) (dCall 2 c_l_random_7821 [] DX0 (dCons (dVar 0) (dCons (dC (.int 6)) dNil)))) (dName 4))
 (dSeq (dPar 5 6 (dCons (dOp (rBin CMul fun i j => i * j) (dVar 4) (dOp gAdd (dC (.int 1)) (dCall 2 c_l_random_7821 [] DX0 (dCons (dVar 0) (dCons (dVar 2) dNil))))) (dCons (dOp (rBin (fun _ _ => True) fun i j => i - j) (dCall 2 c_l_random_7821 [] DX0 (dCons (dVar 0) (dCons (dOp gAdd (dOp (rBin CMul fun i j => i * j) (dC (.int 2)) (dVar 2)) (dC (.int 1))) dNil))) (dVar 2)) dNil)))
 (dSeq (dAsg (dCB gMax (dCons (dC (.int 1)) (dCons (dOp gAdd (dOp gAdd (dVar 5) (dVar 6)) (dC (.int 1))) dNil))) (dName 7))
 (dSeq (dAsg (dOp gAdd (dVar 7) (dCall 2 c_l_random_7821 [] DX0 (dCons (dVar 0) (dCons (dVar 2) dNil)))) (dName 8))
 (dSeq (dAsg (dOp (rBin (fun _ _ => True) fun i j => i - j) (dOp gAdd (dVar 8) (dVar 4)) (dOp (rBin CMod fun i j => i.fmod j) (dCB gInt (dCons (dVar 8) dNil)) (dVar 4))) (dName 8))
 (dSeq (dAsg (dTup (dCons (dCall 2 c_l_random_7821 [] DX0 (dCons (dVar 0) (dCons (dCall 2 c_l_common_6be5 [] DX0 (dCons (dVar 8) (dCons (dVar 5) dNil))) dNil))) (dCons (dVar 8) (dCons (dVar 5) (dCons (dVar 6) dNil))))) (dName 9))
 (dRet (dIf (dTru (dCall 1 c_l_is_cutting_9b45 [] DX0 (dCons (dVar 9) dNil))) (dVar 9) (dTup (dCons (dC (.int 0)) (dCons (dVar 8) (dCons (dC (.int 1)) (dCons (dIf (dTru (dOp (gCmpI fun i j => decide (i < j)) (dOp gAdd (dC (.int 1)) (dVar 6)) (dVar 8))) (dVar 6) (dOp (rBin (fun _ _ => True) fun i j => i - j) (dC (.int 0)) (dVar 8))) dNil)))))))))))))))
def t_l_law_173c (c_l_generator_b324 : DSp) (c_l_random_7821 : DSp) (c_l_cuttings_ee80 : DSp) (c_l_far_a6bc : DSp) (c_heart_distance : DSp) (c_l_word_right_9c97 : DSp) (c_l_walked_1581 : DSp) (c_l_great_5836 : DSp) (c_l_common_6be5 : DSp) (c_word_to_heart_o : DSp) : DTS :=
 (dSeq (dAsg (dCall 2 c_l_generator_b324 [] DX0 (dCons (dVar 0) (dCons (dC (.int 0)) dNil))) (dName 1))
 (dSeq (dFor (dRngI gRng1 (dCons (dC (.int 3)) dNil)) (dName 2) (dSeq (dAsg (dOp gAdd (dC (.int 5)) (dCall 2 c_l_random_7821 [] DX0 (dCons (dVar 1) (dCons (dC (.int 176)) dNil)))) (dName 3))
 (dSeq (dAsg (dCB gMax (dCons (dC (.int 5)) (dCons (dOp gAdd (dOp (rBin (fun _ _ => True) fun i j => i - j) (dVar 3) (dOp (rBin CMod fun i j => i.fmod j) (dCB gInt (dCons (dVar 3) dNil)) (dC (.int 4)))) (dCall 2 c_l_random_7821 [] DX0 (dCons (dVar 1) (dCons (dC (.int 2)) dNil)))) dNil))) (dName 3))
 (dSeq (dAsg (dCall 1 c_l_cuttings_ee80 [] DX0 (dCons (dVar 3) dNil)) (dName 4))
 (dSeq (dAsg (dOp gIx (dVar 4) (dCall 2 c_l_random_7821 [] DX0 (dCons (dVar 1) (dCons (dCB gLen (dCons (dVar 4) dNil)) dNil)))) (dName 5))
 (dSeq (dAsg (dCall 1 c_l_far_a6bc [] DX0 (dCons (dVar 5) dNil)) (dName 6))
 (dSeq (dIfS (dOr (dTru (dOp gNe (dCB gRepr (dCons (dCall 1 c_heart_distance [] DX0 (dCons (dVar 5) dNil)) dNil)) (dCB gRepr (dCons (dVar 6) dNil)))) (dOr (dTru (dOp gNe (dCallK 1 1 c_heart_distance [0] DX0 (dCons (dVar 5) dNil)) (dVar 6))) (dNot (dTru (dCall 2 c_l_word_right_9c97 [] DX0 (dCons (dVar 5) (dCons (dVar 6) dNil))))))) (dRet (dC (.bl false))) dNext)
 (dSeq (dAsg (dCall 3 c_l_walked_1581 [] DX0 (dCons (dVar 1) (dCons (dCall 2 c_l_great_5836 [] DX0 (dCons (dVar 1) (dCons (dC (.int 14)) dNil))) (dCons (dC (.int 3)) dNil)))) (dName 7))
 (dSeq (dAsg (dSl (gSl false) (dVar 7) dNoPart (dPart (dC (.int 3)))) (dGTup 3 (dGCons (dName 8) (dGCons (dName 9) (dGCons (dName 10) dGNil)))))
 (dSeq (dAsg (dIf (dTru (dOp gEq (dVar 10) (dC (.int 1)))) (dC (.int 0)) (dOp gAdd (dC (.int 1)) (dCB gInt (dCons (dOp (gCmpI fun i j => decide (j < i)) (dCall 2 c_l_common_6be5 [] DX0 (dCons (dCall 2 c_l_common_6be5 [] DX0 (dCons (dVar 8) (dCons (dVar 9) dNil))) (dCons (dVar 10) dNil))) (dC (.int 1))) dNil)))) (dName 6))
 (dIfS (dOr (dTru (dOp gNe (dCall 1 c_heart_distance [] DX0 (dCons (dVar 7) dNil)) (dVar 6))) (dNot (dTru (dCall 2 c_l_word_right_9c97 [] DX0 (dCons (dVar 7) (dCons (dVar 6) dNil)))))) (dRet (dC (.bl false))) dNext)))))))))))
 (dRet (dAndV (dOp gEq (dLc false (dSeqI (dLst (dCons (dTup (dCons (dC (.int 0)) (dCons (dC (.int 4)) (dCons (dC (.int 1)) (dCons (dC (.int 1)) dNil))))) (dCons (dTup (dCons (dC (.int 1)) (dCons (dC (.int 2)) (dCons (dC (.int 2)) (dCons (dNeg (dC (.int 1))) dNil))))) (dCons (dTup (dCons (dC (.int 0)) (dCons (dC (.int 2)) (dCons (dC (.int 2)) (dCons (dNeg (dC (.int 1))) dNil))))) dNil))))) (dName 11) dYes (dCall 1 c_heart_distance [] DX0 (dCons (dVar 11) dNil)) [11]) (dLst (dCons (dC (.int 0)) (dCons (dC (.int 1)) (dCons (dC (.int 2)) dNil))))) (dOp gEq (dCall 1 c_word_to_heart_o [] DX0 (dCons (dTup (dCons (dC (.int 0)) (dCons (dC (.int 4)) (dCons (dC (.int 1)) (dCons (dC (.int 1)) dNil))))) dNil)) (dLst dNil))))))
end DL
namespace DL
open PySem PySem.Spec PyProof.Rows L2
local macro_rules | `(tactic| walk_at "rd") => `(tactic| simp only [startD, List.map, List.replicate, List.length_cons, List.length_nil, List.append_eq, List.append_nil, List.nil_append, List.cons_append, Nat.reduceSub, Nat.reduceAdd, List.getElem?_cons_zero, List.getElem?_cons_succ, List.set_cons_zero, List.set_cons_succ,
  dC, dVar, dOp, dTru, gTru, tru, dChain, dAnd, dOr, dNot, dAndV, dOrV, dNotV, dIf, dNeg, gNeg, dNil, dCons, dTup, dLst, dOwn, gIx, rBin, gAdd, gCmpI, dCall, dCallK, dSeq, dNext, dDrop, dRet, dRetN, dIfS, dName, dGNil, dGCons, dGTup, dSub, gSetL, dAsg, dPar, dPar3, dAug, gIpI, dSeqI, gSeqI, dRngI, gRng1, gRng2, dCB, gAbs, gInt, gMax, gMin, gGcd, gLen, lenD, gIsi, tyM, tyD, dBits, gBits, dMet, gAppend, dPart, dNoPart, dSl, gSl_tup, gSl_lst, cut_1, dEnds, gIs, isB, dNever, dFor, dLc, wipeD, dYes,
  sizeLine_eq, Nat.reduceLeDiff, gEq_int, gNe_int, gEq_strs, gNe_strs, gIn_two, gRepr_bl, rs_lst, rs_tup, rs_scr, rs_int, atI_0, atI_1, atI_2, atI_3, atI_4, atI_5, ixN_30, ixN_31, ixN_32, gEq_bl, gNe_bl, decide_eq_true_eq, beq_iff_eq, Bool.not_eq_true', beq_eq_false_iff_ne, decide_eq_false_iff_not, Bool.not_true, Bool.not_false, if_true, if_false, Bool.false_eq_true, ite_true, ite_false, true_and, and_true, ne_eq, Bool.bne_false, Bool.bne_true, reduceCtorEq])
local macro_rules | `(tactic| walk_at "rh") => `(tactic| simp only [*, startD, List.map, List.replicate, List.length_cons, List.length_nil, List.append_eq, List.append_nil, List.nil_append, List.cons_append, Nat.reduceSub, Nat.reduceAdd, List.getElem?_cons_zero, List.getElem?_cons_succ, List.set_cons_zero, List.set_cons_succ,
  dC, dVar, dOp, dTru, gTru, tru, dChain, dAnd, dOr, dNot, dAndV, dOrV, dNotV, dIf, dNeg, gNeg, dNil, dCons, dTup, dLst, dOwn, gIx, rBin, gAdd, gCmpI, dCall, dCallK, dSeq, dNext, dDrop, dRet, dRetN, dIfS, dName, dGNil, dGCons, dGTup, dSub, gSetL, dAsg, dPar, dPar3, dAug, gIpI, dSeqI, gSeqI, dRngI, gRng1, gRng2, dCB, gAbs, gInt, gMax, gMin, gGcd, gLen, lenD, gIsi, tyM, tyD, dBits, gBits, dMet, gAppend, dPart, dNoPart, dSl, gSl_tup, gSl_lst, cut_1, dEnds, gIs, isB, dNever, dFor, dLc, wipeD, dYes,
  sizeLine_eq, Nat.reduceLeDiff, gEq_int, gNe_int, gEq_strs, gNe_strs, gIn_two, gRepr_bl, rs_lst, rs_tup, rs_scr, rs_int, atI_0, atI_1, atI_2, atI_3, atI_4, atI_5, ixN_30, ixN_31, ixN_32, gEq_bl, gNe_bl, decide_eq_true_eq, beq_iff_eq, Bool.not_eq_true', beq_eq_false_iff_ne, decide_eq_false_iff_not, Bool.not_true, Bool.not_false, if_true, if_false, Bool.false_eq_true, ite_true, ite_false, true_and, and_true, ne_eq, Bool.bne_false, Bool.bne_true, reduceCtorEq])
local macro_rules | `(tactic| walk_at "kb") => `(tactic| simp only [kb_NoneType_list, kb_bool_list, kb_int_list, kb_str_list, kb_tuple_list, kb_list_list, kb_dict_list, kb_NoneType_int, kb_bool_int, kb_int_int, kb_str_int, kb_tuple_int, kb_list_int, kb_dict_int, kb_NoneType_bool, kb_bool_bool, kb_int_bool, kb_str_bool, kb_tuple_bool, kb_list_bool, kb_dict_bool, kb_NoneType_tuple, kb_bool_tuple, kb_int_tuple, kb_str_tuple, kb_tuple_tuple, kb_list_tuple, kb_dict_tuple, if_true, if_false, Bool.false_eq_true, ite_true, ite_false, Bool.not_true, Bool.not_false])
/-! ### all cuttings of a measure, as laws list them -/
def IsC (m : Int) (x : List Int) : Prop := ∃ a b c e, x = [a, b, c, e] ∧ isCut a b c e = true ∧ meas4 b c e = m
theorem tI4 (a b c e : Int) : tI [a, b, c, e] = T4 a b c e := rfl
/-- l: cuttings of the measure m, among them all with P c e -/
def Cov (m : Int) (l : List (List Int)) (P : Int → Int → Prop) : Prop := (∀ x ∈ l, IsC m x) ∧ ∀ a b c e, isCut a b c e = true → meas4 b c e = m → P c e → [a, b, c, e] ∈ l
theorem Cov.weak {m : Int} {l : List (List Int)} {P P' : Int → Int → Prop} (h : Cov m l P) (w : ∀ a b c e, isCut a b c e = true → meas4 b c e = m → P' c e → P c e) : Cov m l P' := ⟨h.1, fun a b c e h1 h2 h3 => h.2 a b c e h1 h2 (w a b c e h1 h2 h3)⟩
theorem Cov.app {m : Int} {l l2 : List (List Int)} {P P' : Int → Int → Prop} (h : Cov m l P) (g : Cov m l2 P') : Cov m (l ++ l2) fun c e => P c e ∨ P' c e :=
  ⟨fun x hx => (List.mem_append.mp hx).elim (h.1 x) (g.1 x), fun a b c e h1 h2 h3 => List.mem_append.mpr (h3.imp (h.2 a b c e h1 h2) (g.2 a b c e h1 h2))⟩
theorem Cov.nil {m : Int} : Cov m [] fun _ _ => False := ⟨fun x hx => (by cases hx), fun _ _ _ _ _ _ h => h.elim⟩
theorem Cov.full {m : Int} {l : List (List Int)} {P : Int → Int → Prop} (h : Cov m l P) (w : ∀ a b c e, isCut a b c e = true → meas4 b c e = m → P c e) (x : List Int) : x ∈ l ↔ IsC m x :=
  ⟨h.1 x, by rintro ⟨a, b, c, e, rfl, h1, h2⟩; exact h.2 a b c e h1 h2 (w a b c e h1 h2)⟩
def lowsL (n : Nat) (b c e : Int) : List (List Int) := (List.range n).filterMap fun (i : Nat) => if isCut (i : Int) b c e = true then some [(i : Int), b, c, e] else none
theorem lowsL_mem {n : Nat} {b c e : Int} {x : List Int} : x ∈ lowsL n b c e ↔ ∃ i : Nat, i < n ∧ isCut (i : Int) b c e = true ∧ x = [(i : Int), b, c, e] := by
  unfold lowsL
  rw [List.mem_filterMap]
  constructor
  · rintro ⟨i, hi, h⟩
    by_cases hc : isCut (i : Int) b c e = true
    · rw [if_pos hc] at h
      exact ⟨i, List.mem_range.mp hi, hc, (Option.some.inj h).symm⟩
    · rw [if_neg hc] at h; cases h
  · rintro ⟨i, hi, hc, rfl⟩
    exact ⟨i, List.mem_range.mpr hi, by rw [if_pos hc]⟩
theorem lowsL_len {n : Nat} {b c e : Int} : (lowsL n b c e).length ≤ n := by
  unfold lowsL
  exact Nat.le_trans (List.length_filterMap_le _ _) (by rw [List.length_range]; omega)
theorem meas_bc {b c e m : Int} : meas4 b c e = m ↔ 4 * (b * c) = m - e * e := by
  unfold meas4
  rw [Int.mul_assoc]
  omega
theorem lows_cov {m b c e whole : Int} (hc : 1 ≤ c) (hw : 4 * whole = m - e * e) (hb : b * c = whole) : Cov m (lowsL (Int.gcd b c) b c e) fun c' e' => c' = c ∧ e' = e := by
  refine ⟨fun x hx => ?_, ?_⟩
  · obtain ⟨i, hi, h1, rfl⟩ := lowsL_mem.mp hx
    exact ⟨_, _, _, _, rfl, h1, meas_bc.mpr (by rw [hb]; exact hw)⟩
  · rintro a b' c' e' h1 h2 ⟨rfl, rfl⟩
    have h3 := meas_bc.mp h2
    have h4 : b' * c' = b * c' := by omega
    have h5 : b' = b := Int.eq_of_mul_eq_mul_right (by omega) h4
    subst h5
    obtain ⟨_, _, _, k4, k5, _⟩ := cut_parts h1
    obtain ⟨i, rfl⟩ := Int.eq_ofNat_of_zero_le k4
    exact lowsL_mem.mpr ⟨i, by omega, h1, rfl⟩
theorem lows_none {m c e whole : Int} (hw : 4 * whole = m - e * e) (hn : whole % c ≠ 0) : Cov m [] fun c' e' => c' = c ∧ e' = e := by
  refine ⟨fun x hx => (by cases hx), ?_⟩
  rintro a b' c' e' h1 h2 ⟨rfl, rfl⟩
  have h3 := meas_bc.mp h2
  exact absurd (by rw [show whole = b' * c' by omega]; exact Int.mul_emod_left _ _) hn
theorem rng_fm {n : Nat} {lo : Int} {f : D → Option D} {g : Nat → Option (List Int)} (h : ∀ i : Nat, f (.int (lo + (i : Int))) = (g i).map tI) : (rng lo n).filterMap f = ((List.range n).filterMap g).map tI := by
  unfold rng
  rw [List.filterMap_map, List.map_filterMap]
  congr 1
  funext i
  exact h i
/-- there is a cutting of each measure -/
theorem cut_some {m : Int} (h : isMeas (.int m) = true) : ∃ x, IsC m x := by
  have h5 := meas_ge h
  have h4 : m % 4 = 0 ∨ m % 4 = 1 := by
    simp only [isMeas, Bool.and_eq_true, decide_eq_true_eq, Bool.or_eq_true, beq_iff_eq] at h
    omega
  have key : ∀ e : Int, (m - e * e) % 4 = 0 → 1 + e < (m - e * e) / 4 → 1 ≤ (m - e * e) / 4 → IsC m [0, (m - e * e) / 4, 1, e] := by
    intro e h1 h2 h3
    refine ⟨_, _, _, _, rfl, ?_, meas_bc.mpr (by rw [Int.mul_one]; omega)⟩
    have g1 : (Int.gcd ((m - e * e) / 4) 1 : Int) = 1 := by simp [Int.gcd]
    unfold isCut
    rw [g1, decide_eq_true h3, decide_eq_true h2]
    simp [Int.gcd]
  rcases h4 with q | q
  · exact ⟨_, key 0 (by omega) (by omega) (by omega)⟩
  · exact ⟨_, key (-1) (by omega) (by omega) (by omega)⟩
/-- sizes at measures to 1,000 -/
theorem isC_small {m a b c e : Int} (h : isCut a b c e = true) (hm : meas4 b c e = m) (h1 : m ≤ 1000) : 0 ≤ a ∧ 1 ≤ b ∧ 1 ≤ c ∧ a < c ∧ 4 * b ≤ m ∧ 4 * c ≤ m ∧ -31 ≤ e ∧ e ≤ 31 := by
  obtain ⟨k1, k2, k3, k4, k5, _⟩ := cut_parts h
  have k6 := (cut_le h).2.1
  have h3 := meas_bc.mp hm
  have hs := sq_nn e
  have hb : b * 1 ≤ b * c := Int.mul_le_mul_of_nonneg_left k2 (by omega)
  have hc : 1 * c ≤ b * c := Int.mul_le_mul_of_nonneg_right k1 (by omega)
  have he : e * e < 1000 := by omega
  refine ⟨k4, k1, k2, k6, by omega, by omega, ?_, ?_⟩
  · by_cases z : -31 ≤ e
    · exact z
    · have : 32 * 32 ≤ (-e) * (-e) := Int.mul_le_mul (by omega) (by omega) (by decide) (by omega)
      rw [Int.neg_mul_neg] at this
      omega
  · by_cases z : e ≤ 31
    · exact z
    · have : 32 * 32 ≤ e * e := Int.mul_le_mul (by omega) (by omega) (by decide) (by omega)
      omega
/-! ### k28's own lists -/
def sp_liscut1 : DSp := fun ds M Q _ => ∃ a b c e : Int, ds = [T4 a b c e] ∧ CutB 400 a b c e ∧ Q (.bl (isCut a b c e)) M
theorem rd_l_is_cutting_9b45 : ∀ ds M Q, ds.length = 1 → sp_liscut1 ds M Q DX0 → t_l_is_cutting_9b45 sp_gcd sp_measure_by (dEnds M Q) (startD 5 ds) M := by
  rintro _ M Q - ⟨a, b, c, e, rfl, ⟨ba, bb, bc, be⟩, q⟩
  unfold t_l_is_cutting_9b45
  walk_at "rd"
  have fin : ∀ v, v = isCut a b c e → Rtq M Q (.bl v) M := by rintro _ rfl; exact rtq q
  by_cases h1 : b < 1
  · rw [if_pos h1]
    exact fin _ (by unfold isCut; rw [decide_eq_false (show ¬ 1 ≤ b by omega)]; rfl)
  · rw [if_neg h1]
    have e1 := decide_eq_true (show 1 ≤ b by omega)
    by_cases h2 : c < 1
    · rw [if_pos h2]
      exact fin _ (by unfold isCut; rw [e1, decide_eq_false (show ¬ 1 ≤ c by omega)]; rfl)
    · rw [if_neg h2]
      have e2 := decide_eq_true (show 1 ≤ c by omega)
      by_cases h3 : c + e < b
      · rw [if_neg (show ¬ b ≤ c + e by omega)]
        have e3 := decide_eq_true h3
        by_cases h4 : 0 ≤ a
        · have e4 := decide_eq_true h4
          rw [if_pos h4]
          refine ⟨b, c, rfl, ?_⟩
          dsimp only
          by_cases h5 : a < (Int.gcd b c : Int)
          · have e5 := decide_eq_true h5
            rw [if_neg (fun z => z h5)]
            refine ⟨a, b, rfl, c, e, rfl, _, _, rfl, ?_⟩
            dsimp only
            rw [gEq_int, gcd4]
            dsimp only
            by_cases h6 : (Int.gcd (Int.gcd a (Int.gcd b c : Int) : Int) e : Int) = 1
            · have hc : isCut a b c e = true := by unfold isCut; rw [e1, e2, e3, e4, e5, h6]; rfl
              have := meas_ge (meas4_ok hc)
              rw [h6, if_pos (by rfl)]
              refine ⟨a, b, c, e, rfl, bb.mono, bc.mono, be.mono, ?_⟩
              exact fin _ (by rw [hc]; exact decide_eq_true (by omega))
            · have hf : ((Int.gcd (Int.gcd a (Int.gcd b c : Int) : Int) e : Int) == 1) = false := by simpa using h6
              rw [hf, if_neg (by decide)]
              exact fin _ (by unfold isCut; rw [e1, e2, e3, e4, e5, hf]; rfl)
          · rw [if_pos h5]
            exact fin _ (by unfold isCut; rw [e1, e2, e3, e4, decide_eq_false h5]; rfl)
        · rw [if_neg h4, if_pos h4]
          exact fin _ (by unfold isCut; rw [e1, e2, e3, decide_eq_false h4]; rfl)
      · rw [if_pos (by omega)]
        exact fin _ (by unfold isCut; rw [e1, e2, decide_eq_false h3]; rfl)
/-- ds = a measure up to 1,000: all its cuttings, in any order -/
def sp_lcuttings : DSp := fun ds M Q _ => ∃ m : Int, ds = [.int m] ∧ isMeas (.int m) = true ∧ m ≤ 1000 ∧ ∀ l : List (List Int), (∀ x, x ∈ l ↔ IsC m x) → l.length ≤ 10000000 → Q (.lst (l.map tI)) M
theorem below_tIs {n : Nat} : ∀ l : List (List Int), belowAll n (l.map tI) = true
  | [] => rfl
  | x :: l => by
    have h1 : ∀ y : List Int, belowAll n (y.map D.int) = true := by
      intro y
      induction y with
      | nil => rfl
      | cons a y ih => exact (by show (true && belowAll n (y.map D.int)) = true; rw [ih]; rfl)
    show (belowAll n (x.map D.int) && belowAll n (l.map tI)) = true
    rw [h1, below_tIs l]
    rfl
theorem rd_l_cuttings_ee80 : ∀ ds M Q, ds.length = 1 → sp_lcuttings ds M Q DX0 → t_l_cuttings_ee80 sp_isq sp_gcd sp_liscut1 (dEnds M Q) (startD 8 ds) M := by
  rintro _ M Q - ⟨m, rfl, hm, h1000, q⟩
  have m5 := meas_ge hm
  unfold t_l_cuttings_ee80
  refine dSeq_open fun B hB => ?_
  walk_at "rd"
  have hBIG := big_ge 1000
  refine ⟨m, rfl, by omega, by omega, ?_⟩
  have r0 := isq_nn m
  have r1 := isq_le (n := m) (by omega)
  have r2 := isq_lt (n := m) (by omega)
  have r3 : isq m ≤ 31 := by
    by_cases z : isq m ≤ 31
    · exact z
    · have : 32 * 32 ≤ isq m * isq m := Int.mul_le_mul (by omega) (by omega) (by decide) (by omega)
      omega
  generalize isq m = root at *
  have eb : ∀ e : Int, e * e < m → -root ≤ e ∧ e ≤ root := by
    intro e he
    refine ⟨?_, ?_⟩
    · by_cases z : -root ≤ e
      · exact z
      · have : (root + 1) * (root + 1) ≤ (-e) * (-e) := Int.mul_le_mul (by omega) (by omega) (by omega) (by omega)
        rw [Int.neg_mul_neg] at this
        omega
    · by_cases z : e ≤ root
      · exact z
      · have : (root + 1) * (root + 1) ≤ e * e := Int.mul_le_mul (by omega) (by omega) (by omega) (by omega)
        omega
  rw [← hB]
  clear hB B
  refine dSeq_open fun B hB => ?_
  walk_at "rd"
  refine ⟨⟨⟨by omega, by omega⟩, ⟨by omega, by omega⟩⟩, ?_⟩
  have eN : (root + 1 - (0 - root)).toNat = 2 * root.toNat + 1 := by omega
  rw [eN]
  refine ⟨fun i r M' => M' = M ∧ i ≤ 2 * root.toNat + 1 ∧ ∃ (l : List (List Int)) (t3 t4 t5 t6 : Option D), r = [some (.int m), some (.lst (l.map tI)), some (.int root), t3, t4, t5, t6, none] ∧ Cov m l (fun _ e => e < 0 - root + (i : Nat)) ∧ l.length ≤ 62500 * i, ⟨rfl, by omega, [], _, _, _, _, rfl, Cov.nil.weak ?_, by simp⟩, ?_⟩
  · intro a b c e k1 k2 k3
    have := eb e (by rw [← k2]; exact (cut_le k1).2.2.2.2.2.2)
    omega
  rintro i r M' ⟨rfl, hi, l, t3, t4, t5, t6, rfl, hcov, hlen⟩
  refine ⟨trivial, fun hl => ?_, fun d hd => ?_⟩
  · dsimp only
    rw [rng_len] at hl
    rw [← hB]
    walk_at "rd"
    refine rtq (q l (fun x => hcov.full (fun a b c e k1 k2 => ?_) x) (by omega)) ?_
    · have := eb e (by rw [← k2]; exact (cut_le k1).2.2.2.2.2.2)
      omega
    · exact below_tIs l
  · obtain ⟨hi2, rfl⟩ := rng_get.mp hd
    have hnext : ∀ l2 : List (List Int), l2.length ≤ 62500 * (i + 1) → Cov m l2 (fun _ e => e < 0 - root + (i : Nat) ∨ e = 0 - root + (i : Nat)) → Cov m l2 (fun _ e => e < 0 - root + ((i + 1 : Nat) : Int)) ∧ l2.length ≤ 62500 * (i + 1) :=
      fun l2 h1 h2 => ⟨h2.weak fun a b c e _ _ h => by omega, h1⟩
    generalize he : (0 : Int) - root + (i : Nat) = e at *
    have be : Bi 10 e := Bi.of_abs 100 (by omega) (by decide)
    walk_at "rd"
    refine ⟨(by decide : (2 : Int) ≠ 0), ?_⟩
    rw [fmod_pos (show (0 : Int) < 2 by decide)]
    by_cases hpar : (m - e) % 2 = 0
    · rw [if_pos hpar]
      refine ⟨⟨be.sm, be.sm⟩, ?_⟩
      by_cases hpos : 0 < m - e * e
      · rw [if_pos hpos]
        have h4 : (m - e * e) % 4 = 0 := by
          have hm4 : m % 4 = 0 ∨ m % 4 = 1 := by
            simp only [isMeas, Bool.and_eq_true, decide_eq_true_eq, Bool.or_eq_true, beq_iff_eq] at hm
            omega
          rcases (by omega : e % 2 = 0 ∨ e % 2 = 1) with z | z
          · obtain ⟨t, ht⟩ : ∃ t, e = 2 * t := ⟨e / 2, by omega⟩
            have : e * e = 4 * (t * t) := by rw [ht]; grind
            omega
          · obtain ⟨t, ht⟩ : ∃ t, e = 2 * t + 1 := ⟨e / 2, by omega⟩
            have : e * e = 4 * (t * t + t) + 1 := by rw [ht]; grind
            omega
        have hs := sq_nn e
        refine ⟨⟨be.sm, be.sm⟩, ⟨by decide, by decide⟩, ?_⟩
        rw [fdiv_pos (show (0 : Int) < 4 by decide)]
        have hw : 4 * ((m - e * e) / 4) = m - e * e := by omega
        generalize (m - e * e) / 4 = whole at *
        refine ⟨⟨⟨by decide, by decide⟩, ⟨by omega, by omega⟩⟩, ?_⟩
        have eW : (whole + 1 - 1).toNat = whole.toNat := by omega
        rw [eW]
        refine ⟨fun j r M1 => M1 = M' ∧ j ≤ whole.toNat ∧ ∃ (l2 : List (List Int)) (t5 t6 : Option D), r = [some (.int m), some (.lst (l2.map tI)), some (.int root), some (.int e), some (.int whole), t5, t6, none] ∧ Cov m l2 (fun c' e' => e' < e ∨ (c' < 1 + (j : Nat) ∧ e' = e)) ∧ l2.length ≤ 62500 * i + 250 * j, ⟨rfl, by omega, l, _, _, rfl, hcov.weak ?_, by omega⟩, ?_⟩
        · rintro a b c e' h1 h2 (h3 | ⟨h3, h4⟩)
          · exact h3
          · have := (cut_parts h1).2.1
            omega
        rintro j r M1 ⟨rfl, hj, l2, t5, t6, rfl, hcov2, hlen2⟩
        refine ⟨trivial, fun hl2 => ?_, fun d2 hd2 => ?_⟩
        · rw [rng_len] at hl2
          obtain ⟨k1, k2⟩ := hnext l2 (by omega) (hcov2.weak fun a b c e' h1 h2 h3 => by
            rcases h3 with h3 | h3
            · exact .inl h3
            · refine .inr ⟨?_, h3⟩
              have h5 := meas_bc.mp h2
              obtain ⟨g1, g2, _⟩ := cut_parts h1
              have : 1 * c ≤ b * c := Int.mul_le_mul_of_nonneg_right g1 (by omega)
              rw [h3] at h5
              omega)
          first | exact ⟨rfl, by omega, l2, _, _, _, _, rfl, k1, k2⟩ | exact ⟨by omega, l2, _, _, _, _, rfl, k1, k2⟩
        · obtain ⟨hj2, rfl⟩ := rng_get.mp hd2
          generalize hc : (1 : Int) + (j : Nat) = c at *
          have c1 : 1 ≤ c := by omega
          have c2 : c ≤ 250 := by omega
          walk_at "rd"
          refine ⟨(show c ≠ 0 by omega), ?_⟩
          rw [fmod_pos (show 0 < c by omega)]
          by_cases hdv : whole % c = 0
          · rw [if_pos hdv]
            refine ⟨⟨by omega, Nat.lt_of_lt_of_le (log2_of 10 (by omega) (by decide)) (by decide)⟩, ?_⟩
            rw [fdiv_pos (show 0 < c by omega)]
            have hb : whole / c * c = whole := Int.ediv_mul_cancel (Int.dvd_of_emod_eq_zero hdv)
            have hb0 : 0 ≤ whole / c := Int.ediv_nonneg (by omega) (by omega)
            have hb1 : whole / c ≤ 250 := by
              have := Int.ediv_le_self c (show 0 ≤ whole by omega)
              omega
            generalize whole / c = b at *
            refine ⟨b, c, rfl, ?_⟩
            have gc : (Int.gcd b c : Int) ≤ c := Int.le_of_dvd (by omega) (Int.gcd_dvd_right _ _)
            refine ⟨⟨by omega, by omega⟩, ?_⟩
            have eG : ((Int.gcd b c : Nat) : Int).toNat = Int.gcd b c := by omega
            rw [eG]
            refine lcW_pure (fun d => match d with | .int a => if isCut a b c e = true then some (T4 a b c e) else none | _ => none) trivial (by rw [rng_len, sizeLine_eq]; omega) (fun d hd Y N hy => ?_) ?_
            · obtain ⟨i2, hi2'⟩ := List.mem_iff_getElem?.mp hd
              obtain ⟨hi3, rfl⟩ := rng_get.mp hi2'
              walk_at "rd"
              refine ⟨_, b, c, e, rfl, ⟨Bi.of_abs 1000 (by omega) (by decide), Bi.of_abs 1000 (by omega) (by decide), Bi.of_abs 1000 (by omega) (by decide), be.mono⟩, ?_⟩
              dsimp only at hy ⊢
              by_cases hcut : isCut (0 + (i2 : Int)) b c e = true
              · rw [if_pos hcut] at hy ⊢
                exact hy
              · rw [if_neg hcut] at hy ⊢
                exact hy
            · rw [rng_fm (g := fun i => if isCut (i : Int) b c e = true then some [(i : Int), b, c, e] else none) (fun i => by
                show (if isCut (0 + (i : Int)) b c e = true then some (T4 (0 + (i : Int)) b c e) else none) = _
                rw [Int.zero_add]
                split <;> rfl)]
              have hl3 := lowsL_len (n := Int.gcd b c) (b := b) (c := c) (e := e)
              have hcov3 := hcov2.app (lows_cov (b := b) c1 hw hb)
              refine ⟨?_, ?_⟩
              · rw [List.length_map, List.length_map]
                have : (List.filterMap (fun i : Nat => if isCut (i : Int) b c e = true then some [(i : Int), b, c, e] else none) (List.range (Int.gcd b c))).length ≤ Int.gcd b c := hl3
                omega
              · rw [← List.map_append]
                refine ⟨rfl, by omega, l2 ++ lowsL (Int.gcd b c) b c e, _, _, rfl, hcov3.weak fun a b' c' e' h1 h2 h3 => ?_, ?_⟩
                · rcases h3 with h3 | ⟨h3, h4⟩
                  · exact .inl (.inl h3)
                  · by_cases z : c' = c
                    · exact .inr ⟨z, h4⟩
                    · exact .inl (.inr ⟨by omega, h4⟩)
                · rw [List.length_append]
                  omega
          · rw [if_neg hdv]
            have hcov3 := hcov2.app (lows_none (e := e) hw hdv)
            rw [List.append_nil] at hcov3
            have hcov4 : Cov m l2 (fun c' e' => e' < e ∨ (c' < 1 + ((j + 1 : Nat) : Int) ∧ e' = e)) := hcov3.weak fun a b' c' e' h1 h2 h3 => by
              rcases h3 with h3 | ⟨h3, h4⟩
              · exact .inl (.inl h3)
              · by_cases z : c' = c
                · exact .inr ⟨z, h4⟩
                · exact .inl (.inr ⟨by omega, h4⟩)
            first | exact ⟨rfl, by omega, l2, _, _, rfl, hcov4, by omega⟩ | exact ⟨by omega, l2, _, _, rfl, hcov4, by omega⟩
      · rw [if_neg hpos]
        obtain ⟨k1, k2⟩ := hnext l (by omega) (hcov.weak fun a b c e' h1 h2 h3 => h3.resolve_right fun z => by
          have := (cut_le h1).2.2.2.2.2.2
          rw [h2, z] at this
          omega)
        first | exact ⟨rfl, by omega, l, _, _, _, _, rfl, k1, k2⟩ | exact ⟨by omega, l, _, _, _, _, rfl, k1, k2⟩
    · rw [if_neg hpar]
      obtain ⟨k1, k2⟩ := hnext l (by omega) (hcov.weak fun a b c e' h1 h2 h3 => h3.resolve_right fun z => by
        have := meas_par (a := a) (b := b) (c := c) (e := e')
        rw [h2, z] at this
        omega)
      first | exact ⟨rfl, by omega, l, _, _, _, _, rfl, k1, k2⟩ | exact ⟨by omega, l, _, _, _, _, rfl, k1, k2⟩
/-- a comprehension over tuples of ints that gives such -/
theorem lcW_tI {l : List (List Int)} {C : Mem → Prop} {g : DTG} {tt : DTT} {te : DTE} {r : Env} {M : Mem} {Q : DQ} (f : List Int → Option (List Int)) (hC : C M) (hl : l.length ≤ sizeLine)
    (step : ∀ x ∈ l, ∀ (Y : D → Mem → Prop) (N : Mem → Prop), (match f x with | some e => Y (tI e) M | none => N M) → g (tI x) r M fun r2 M2 => tt r2 M2 fun b M3 => if b = true then te r2 M3 Y else N M3)
    (q : Q (.lst ((l.filterMap f).map tI)) M) : lcW false (l.map tI) C g tt te r M Q := by
  have inj : ∀ x : List Int, intsD (x.map D.int) = some x := intsD_map
  refine lcW_pure (fun d => match d with | .tup y => (intsD y).bind fun x => (f x).map tI | _ => none) hC (by rw [List.length_map]; exact hl) (fun d hd Y N hy => ?_) ?_
  · obtain ⟨x, hx, rfl⟩ := List.mem_map.mp hd
    refine step x hx Y N ?_
    have e : (match tI x with | .tup y => (intsD y).bind fun x => (f x).map tI | _ => none) = (f x).map tI := by
      show (intsD (x.map D.int)).bind (fun x => (f x).map tI) = _
      rw [inj]; rfl
    rw [e] at hy
    cases hf : f x with
    | none => rw [hf] at hy; exact hy
    | some z => rw [hf] at hy; exact hy
  · have e : (l.map tI).filterMap (fun d => match d with | .tup y => (intsD y).bind fun x => (f x).map tI | _ => none) = (l.filterMap f).map tI := by
      rw [List.filterMap_map, List.map_filterMap]
      congr 1
      funext x
      show (intsD (x.map D.int)).bind (fun x => (f x).map tI) = _
      rw [inj]; rfl
    rw [e]; exact q
/-! every deed leads somewhere -/
theorem bez_ex : ∀ (k : Nat) (m n : Int), n.natAbs ≤ k → ∃ u v : Int, u * m + v * n = (Int.gcd m n : Int)
  | 0, m, n, h => by
    have : n = 0 := by omega
    subst this
    rw [Int.gcd_zero_right]
    rcases (by omega : 0 ≤ m ∨ m ≤ 0) with h | h
    · exact ⟨1, 0, by omega⟩
    · exact ⟨-1, 0, by omega⟩
  | k + 1, m, n, h => by
    by_cases z : n = 0
    · subst z
      exact bez_ex k m 0 (by simp)
    · have r0 := Int.emod_nonneg m z
      have r1 := Int.emod_lt m z
      obtain ⟨u, v, e⟩ := bez_ex k n (m % n) (by omega)
      have eg : (Int.gcd n (m % n) : Int) = Int.gcd m n := gcd_emod' m n
      rw [eg] at e
      have em := Int.mul_ediv_add_emod m n
      refine ⟨v, u - v * (m / n), ?_⟩
      have : v * m + (u - v * (m / n)) * n = u * n + v * (m - n * (m / n)) := by grind
      rw [this, ← e]
      have : m - n * (m / n) = m % n := by omega
      rw [this]
theorem done_ex {a b c e p q : Int} (hc : 1 ≤ c) (hq : 1 ≤ q) (cp : Int.gcd p q = 1) : ∃ a' w g e', IsDone a b c e p q a' w g e' := by
  obtain ⟨z, y, hz⟩ := bez_ex q.natAbs p q (Nat.le_refl _)
  rw [cp] at hz
  have row : p * z - q * (-y) = 1 := by
    have : p * z - q * (-y) = z * p + y * q := by grind
    rw [this]; exact hz
  obtain ⟨u, v, huv⟩ := bez_ex (q * c).natAbs (p * b + q * a) (q * c) (Nat.le_refl _)
  have j0 : 0 < q * c := Int.mul_pos (by omega) (by omega)
  have g0 : 0 < (Int.gcd (p * b + q * a) (q * c) : Int) := by
    have := Int.gcd_pos_of_ne_zero_right (p * b + q * a) (show q * c ≠ 0 by omega)
    omega
  have dg : (Int.gcd (p * b + q * a) (q * c) : Int) ∣ c * (b - q * e - q * q * c) := by
    have h1 : c * (b - q * e - q * q * c) = (p * b + q * a) * (z * c) - (q * c) * ((-y) * b + z * a + e + q * c) := by
      have : (p * b + q * a) * (z * c) - (q * c) * ((-y) * b + z * a + e + q * c) = c * (b * (p * z - q * (-y)) - q * e - q * q * c) := by grind
      rw [this, row, Int.mul_one]
    rw [h1]
    exact Int.dvd_sub (Int.dvd_mul_of_dvd_left (Int.gcd_dvd_left _ _)) (Int.dvd_mul_of_dvd_left (Int.gcd_dvd_right _ _))
  obtain ⟨w, hw⟩ := dg
  have G0 : 0 < (Int.gcd w (Int.gcd (p * b + q * a) (q * c) : Int) : Int) := by
    have := Int.gcd_pos_of_ne_zero_right w (show (Int.gcd (p * b + q * a) (q * c) : Int) ≠ 0 by omega)
    omega
  refine ⟨_, w, _, _, rfl, by rw [hw, Int.mul_comm], rfl, Int.emod_nonneg (0 - (u * ((-y) * b + z * a + e + q * c) + v * (z * c))) (by omega), Int.emod_lt_of_pos _ G0, u, v, -y, z, row, huv, ?_⟩
  have := Int.mul_ediv_add_emod (0 - (u * ((-y) * b + z * a + e + q * c) + v * (z * c))) (Int.gcd w (Int.gcd (p * b + q * a) (q * c) : Int) : Int)
  refine ⟨-((0 - (u * ((-y) * b + z * a + e + q * c) + v * (z * c))) / (Int.gcd w (Int.gcd (p * b + q * a) (q * c) : Int) : Int)), ?_⟩
  rw [Int.mul_neg]
  omega
/-! where a deed leads, as a function -/
open Classical in
noncomputable def doneL (a b c e p q : Int) : List Int := if h : ∃ x : Int × Int × Int × Int, IsDone a b c e p q x.1 x.2.1 x.2.2.1 x.2.2.2 then [h.choose.1, h.choose.2.1, h.choose.2.2.1, h.choose.2.2.2] else []
theorem doneL_eq {a b c e p q a' w g e' : Int} (hg : g ≠ 0) (h : IsDone a b c e p q a' w g e') : doneL a b c e p q = [a', w, g, e'] := by
  unfold doneL
  have hx : ∃ x : Int × Int × Int × Int, IsDone a b c e p q x.1 x.2.1 x.2.2.1 x.2.2.2 := ⟨(a', w, g, e'), h⟩
  rw [dif_pos hx]
  obtain ⟨h1, h2, h3, h4⟩ := isDone_unique hg h hx.choose_spec
  rw [← h1, ← h2, ← h3, ← h4]
theorem isDeed_parts {b c e p q : Int} (h : isDeed b c e p q = true) : DeedQ b c e p q ∧ p < q * (c / (Int.gcd b c : Int)) := by
  simp only [isDeed, Bool.and_eq_true, decide_eq_true_eq, beq_iff_eq] at h
  obtain ⟨h1, h2, h3, h4, h5⟩ := h
  exact ⟨⟨h1, h2, h3, by omega⟩, h4⟩
theorem isDeed_mk {b c e p q : Int} (h : DeedQ b c e p q) (h2 : p < q * (c / (Int.gcd b c : Int))) : isDeed b c e p q = true := by
  simp only [isDeed, Bool.and_eq_true, decide_eq_true_eq, beq_iff_eq]
  exact ⟨h.q1, h.al, h.p0, h2, by rw [h.cp]; rfl⟩
/-- at small measures a deed's numbers are small -/
theorem deed_small {a b c e p q : Int} (h : isCut a b c e = true) (hm : meas4 b c e ≤ 1000) (hd : isDeed b c e p q = true) : 0 ≤ p ∧ p ≤ 75000 ∧ 1 ≤ q ∧ q ≤ 300 := by
  obtain ⟨⟨q1, al, p0, _⟩, h2⟩ := isDeed_parts hd
  obtain ⟨k1, k2, k3, k4, k5, k6, k7, k8⟩ := isC_small h rfl hm
  have hq := deed_q k2 k3 q1 al
  obtain ⟨l1, l2⟩ := lot_le (b := b) k3
  have : q * (c / (Int.gcd b c : Int)) ≤ 300 * 250 := Int.mul_le_mul (by omega) (by omega) (by omega) (by decide)
  omega
def sp_ldeeds28 : DSp := fun ds M Q _ => ∃ a b c e : Int, ds = [T4 a b c e] ∧ isCut a b c e = true ∧ meas4 b c e ≤ 400 ∧
  ∀ l : List (List Int), (∀ x ∈ l, ∃ p q, x = [p, q] ∧ isDeed b c e p q = true) → (∀ p, 0 ≤ p → p < c / (Int.gcd b c : Int) → [p, 1] ∈ l) → l.length ≤ 5000000 → Q (.lst (l.map tI)) M
theorem rd_l_deeds_09a3 : ∀ ds M Q, ds.length = 1 → sp_ldeeds28 ds M Q DX0 → t_l_deeds_09a3 sp_gcd (dEnds M Q) (startD 8 ds) M := by
  rintro _ M Q - ⟨a, b, c, e, rfl, hcut, hm, q⟩
  unfold t_l_deeds_09a3
  obtain ⟨k1, k2, k3, k4, k5, k6, k7, k8⟩ := isC_small hcut rfl (by omega)
  obtain ⟨l1, l2⟩ := lot_le (b := b) k3
  have G0 : 0 < (Int.gcd b c : Int) := by
    have := Int.gcd_pos_of_ne_zero_right b (show c ≠ 0 by omega)
    omega
  have gc : (Int.gcd b c : Int) ≤ c := Int.le_of_dvd (by omega) (Int.gcd_dvd_right _ _)
  have one := (deedq_one hcut (Int.le_refl 0)).al
  refine dSeq_open fun B hB => ?_
  walk_at "rd"
  rw [← hB]
  clear hB B
  refine dSeq_open fun B hB => ?_
  walk_at "rd"
  rw [← hB]
  clear hB B
  refine dSeq_open fun B hB => ?_
  walk_at "rd"
  refine ⟨⟨by omega, by omega⟩, ?_⟩
  refine ⟨fun i r M' => M' = M ∧ i ≤ b.toNat ∧ ∃ (l : List (List Int)) (q : Int) (t : Option D), r = [some (T4 a b c e), some (.int b), some (.int c), some (.int e), some (.lst (l.map tI)), some (.int q), t, none] ∧ 1 ≤ q ∧ q ≤ i + 1 ∧
    (∀ x ∈ l, ∃ p q, x = [p, q] ∧ isDeed b c e p q = true) ∧ ((i = 0 ∧ q = 1) ∨ (∀ p, 0 ≤ p → p < c / (Int.gcd b c : Int) → [p, 1] ∈ l)) ∧ l.length ≤ 11000 * i, ⟨rfl, by omega, [], 1, _, rfl, by omega, by omega, fun x hx => (by cases hx), .inl ⟨rfl, rfl⟩, by simp⟩, ?_⟩
  rintro i r M' ⟨rfl, hi, l, q', t, rfl, q1, q2, hs, ho, hlen⟩
  refine ⟨trivial, fun hl => ?_, fun d hd => ?_⟩
  · dsimp only
    rw [rng_len] at hl
    rw [← hB]
    walk_at "rd"
    refine rtq (q l hs (ho.resolve_left fun z => ?_) (by omega)) (below_tIs l)
    omega
  · obtain ⟨hi2, rfl⟩ := rng_get.mp hd
    have bq : Bi 10 q' := Bi.of_abs 200 (by omega) (by decide)
    have be : Bi 10 e := Bi.of_abs 100 (by omega) (by decide)
    have bc : Bi 10 c := Bi.of_abs 300 (by omega) (by decide)
    walk_at "rd"
    refine ⟨⟨bq.sm, be.sm⟩, ⟨bq.sm, bq.sm⟩, ⟨(bq.mul bq).sm, bc.sm⟩, ?_⟩
    by_cases hal : 0 < b - q' * e - q' * q' * c
    · rw [if_pos hal]
      refine ⟨b, c, rfl, ⟨by omega, Nat.lt_of_lt_of_le (log2_of 10 (by omega) (by decide)) (by decide)⟩, ?_⟩
      rw [fdiv_pos G0]
      have bl : Bi 10 (c / (Int.gcd b c : Int)) := Bi.of_abs 300 (by omega) (by decide)
      have hle : q' * (c / (Int.gcd b c : Int)) ≤ 101 * 100 := Int.mul_le_mul (by omega) (by omega) (by omega) (by decide)
      have hge : 0 ≤ q' * (c / (Int.gcd b c : Int)) := Int.mul_nonneg (by omega) (by omega)
      have hone : q' = 1 → q' * (c / (Int.gcd b c : Int)) = c / (Int.gcd b c : Int) := by rintro rfl; exact Int.one_mul _
      refine ⟨⟨bq.sm, bl.sm⟩, ?_⟩
      have hdd : ∀ p : Int, 0 ≤ p → p < q' * (c / (Int.gcd b c : Int)) → (Int.gcd p q' : Int) = 1 → isDeed b c e p q' = true := fun p h1 h2 h3 => isDeed_mk ⟨q1, hal, h1, by omega⟩ h2
      generalize hN : q' * (c / (Int.gcd b c : Int)) = N at *
      refine ⟨⟨by omega, by omega⟩, ?_⟩
      refine lcW_pure (fun d => match d with | .int p => if (Int.gcd p q' : Int) = 1 then some (.tup [.int p, .int q']) else none | _ => none) trivial (by rw [rng_len, sizeLine_eq]; omega) (fun d hd Y N hy => ?_) ?_
      · obtain ⟨i2, hi2'⟩ := List.mem_iff_getElem?.mp hd
        obtain ⟨hi3, rfl⟩ := rng_get.mp hi2'
        walk_at "rd"
        refine ⟨_, q', rfl, ?_⟩
        dsimp only at hy ⊢
        rw [gEq_int]
        dsimp only
        by_cases hg : (Int.gcd (0 + (i2 : Int)) q' : Int) = 1
        · rw [if_pos hg] at hy
          rw [if_pos (by simpa using hg)]
          exact hy
        · rw [if_neg hg] at hy
          rw [if_neg (by simpa using hg)]
          exact hy
      · rw [rng_fm (g := fun i => if (Int.gcd (i : Int) q' : Int) = 1 then some [(i : Int), q'] else none) (fun i => by
          show (if (Int.gcd (0 + (i : Int)) q' : Int) = 1 then some (D.tup [.int (0 + (i : Int)), .int q']) else none) = _
          rw [Int.zero_add]
          split <;> rfl)]
        have hlen2 : (List.filterMap (fun i : Nat => if (Int.gcd (i : Int) q' : Int) = 1 then some [(i : Int), q'] else none) (List.range N.toNat)).length ≤ N.toNat := Nat.le_trans (List.length_filterMap_le _ _) (by rw [List.length_range]; omega)
        have hmem : ∀ x, x ∈ List.filterMap (fun i : Nat => if (Int.gcd (i : Int) q' : Int) = 1 then some [(i : Int), q'] else none) (List.range N.toNat) ↔ ∃ i : Nat, (i : Int) < N ∧ (Int.gcd (i : Int) q' : Int) = 1 ∧ x = [(i : Int), q'] := by
          intro x
          rw [List.mem_filterMap]
          constructor
          · rintro ⟨i, hi, h⟩
            by_cases hc : (Int.gcd (i : Int) q' : Int) = 1
            · rw [if_pos hc] at h
              exact ⟨i, by have := List.mem_range.mp hi; omega, hc, (Option.some.inj h).symm⟩
            · rw [if_neg hc] at h; cases h
          · rintro ⟨i, hi, hc, rfl⟩
            exact ⟨i, List.mem_range.mpr (by omega), by rw [if_pos hc]⟩
        generalize List.filterMap (fun i : Nat => if (Int.gcd (i : Int) q' : Int) = 1 then some [(i : Int), q'] else none) (List.range N.toNat) = l3 at *
        refine ⟨by rw [List.length_map, List.length_map]; omega, ?_⟩
        rw [← List.map_append]
        refine ⟨rfl, by omega, l ++ l3, _, _, rfl, by omega, by omega, fun x hx => ?_, .inr fun p h1 h2 => ?_, by rw [List.length_append]; omega⟩
        · rcases List.mem_append.mp hx with hx | hx
          · exact hs x hx
          · obtain ⟨i3, h1, h2, rfl⟩ := (hmem x).mp hx
            exact ⟨_, _, rfl, hdd _ (by omega) h1 h2⟩
        · rcases ho with ⟨_, rfl⟩ | ho
          · refine List.mem_append.mpr (.inr ((hmem _).mpr ⟨p.toNat, ?_, ?_, ?_⟩))
            · have := hone rfl; omega
            · simp [Int.gcd]
            · rw [Int.toNat_of_nonneg h1]
          · exact List.mem_append.mpr (.inl (ho p h1 h2))
    · rw [if_neg hal]
      have h0 : ¬ (i = 0 ∧ q' = 1) := by
        rintro ⟨_, rfl⟩
        exact hal one
      first | exact ⟨rfl, by omega, l, q', _, rfl, q1, by omega, hs, .inr (ho.resolve_left h0), by omega⟩ | exact ⟨by omega, l, q', _, rfl, q1, by omega, hs, .inr (ho.resolve_left h0), by omega⟩
end DL
namespace DL
open PySem PySem.Spec PyProof.Rows L2
local macro_rules | `(tactic| walk_at "rd") => `(tactic| simp only [startD, List.map, List.replicate, List.length_cons, List.length_nil, List.append_eq, List.append_nil, List.nil_append, List.cons_append, Nat.reduceSub, Nat.reduceAdd, List.getElem?_cons_zero, List.getElem?_cons_succ, List.set_cons_zero, List.set_cons_succ,
  dC, dVar, dOp, dTru, gTru, tru, dChain, dAnd, dOr, dNot, dAndV, dOrV, dNotV, dIf, dNeg, gNeg, dNil, dCons, dTup, dLst, dOwn, gIx, rBin, gAdd, gCmpI, dCall, dCallK, dSeq, dNext, dDrop, dRet, dRetN, dIfS, dName, dGNil, dGCons, dGTup, dSub, gSetL, dAsg, dPar, dPar3, dAug, gIpI, dSeqI, gSeqI, dRngI, gRng1, gRng2, dCB, gAbs, gInt, gMax, gMin, gGcd, gLen, lenD, gIsi, tyM, tyD, dBits, gBits, dMet, gAppend, dPart, dNoPart, dSl, gSl_tup, gSl_lst, cut_1, dEnds, gIs, isB, dNever, dFor, dLc, wipeD, dYes,
  sizeLine_eq, Nat.reduceLeDiff, gEq_int, gNe_int, gEq_strs, gNe_strs, gIn_two, gRepr_bl, rs_lst, rs_tup, rs_scr, rs_int, atI_0, atI_1, atI_2, atI_3, atI_4, atI_5, ixN_30, ixN_31, ixN_32, gEq_bl, gNe_bl, decide_eq_true_eq, beq_iff_eq, Bool.not_eq_true', beq_eq_false_iff_ne, decide_eq_false_iff_not, Bool.not_true, Bool.not_false, if_true, if_false, Bool.false_eq_true, ite_true, ite_false, true_and, and_true, ne_eq, Bool.bne_false, Bool.bne_true, reduceCtorEq])
local macro_rules | `(tactic| walk_at "rh") => `(tactic| simp only [*, startD, List.map, List.replicate, List.length_cons, List.length_nil, List.append_eq, List.append_nil, List.nil_append, List.cons_append, Nat.reduceSub, Nat.reduceAdd, List.getElem?_cons_zero, List.getElem?_cons_succ, List.set_cons_zero, List.set_cons_succ,
  dC, dVar, dOp, dTru, gTru, tru, dChain, dAnd, dOr, dNot, dAndV, dOrV, dNotV, dIf, dNeg, gNeg, dNil, dCons, dTup, dLst, dOwn, gIx, rBin, gAdd, gCmpI, dCall, dCallK, dSeq, dNext, dDrop, dRet, dRetN, dIfS, dName, dGNil, dGCons, dGTup, dSub, gSetL, dAsg, dPar, dPar3, dAug, gIpI, dSeqI, gSeqI, dRngI, gRng1, gRng2, dCB, gAbs, gInt, gMax, gMin, gGcd, gLen, lenD, gIsi, tyM, tyD, dBits, gBits, dMet, gAppend, dPart, dNoPart, dSl, gSl_tup, gSl_lst, cut_1, dEnds, gIs, isB, dNever, dFor, dLc, wipeD, dYes,
  sizeLine_eq, Nat.reduceLeDiff, gEq_int, gNe_int, gEq_strs, gNe_strs, gIn_two, gRepr_bl, rs_lst, rs_tup, rs_scr, rs_int, atI_0, atI_1, atI_2, atI_3, atI_4, atI_5, ixN_30, ixN_31, ixN_32, gEq_bl, gNe_bl, decide_eq_true_eq, beq_iff_eq, Bool.not_eq_true', beq_eq_false_iff_ne, decide_eq_false_iff_not, Bool.not_true, Bool.not_false, if_true, if_false, Bool.false_eq_true, ite_true, ite_false, true_and, and_true, ne_eq, Bool.bne_false, Bool.bne_true, reduceCtorEq])
local macro_rules | `(tactic| walk_at "kb") => `(tactic| simp only [kb_NoneType_list, kb_bool_list, kb_int_list, kb_str_list, kb_tuple_list, kb_list_list, kb_dict_list, kb_NoneType_int, kb_bool_int, kb_int_int, kb_str_int, kb_tuple_int, kb_list_int, kb_dict_int, kb_NoneType_bool, kb_bool_bool, kb_int_bool, kb_str_bool, kb_tuple_bool, kb_list_bool, kb_dict_bool, kb_NoneType_tuple, kb_bool_tuple, kb_int_tuple, kb_str_tuple, kb_tuple_tuple, kb_list_tuple, kb_dict_tuple, if_true, if_false, Bool.false_eq_true, ite_true, ite_false, Bool.not_true, Bool.not_false])
/-! ### cells are only added -/
def Plus (M M' : Mem) : Prop := ∃ G, M' = M ++ G ∧ ∀ c ∈ G, ∀ n, belowO n c = true
theorem Plus.refl (M : Mem) : Plus M M := ⟨[], (List.append_nil M).symm, fun c h => (by cases h)⟩
theorem Plus.trans {M M' M'' : Mem} (h : Plus M M') (g : Plus M' M'') : Plus M M'' := by
  obtain ⟨G, rfl, h1⟩ := h
  obtain ⟨G', rfl, h2⟩ := g
  exact ⟨G ++ G', List.append_assoc _ _ _, fun c hc => (List.mem_append.mp hc).elim (h1 c) (h2 c)⟩
theorem Plus.add {M M' : Mem} {l : List D} (h : Plus M M') (hl : ∀ n, belowAll n l = true) : Plus M (M' ++ [.lst l]) :=
  h.trans ⟨[.lst l], rfl, fun c hc n => by rw [List.mem_singleton.mp hc]; exact hl n⟩
theorem Plus.get {M M' : Mem} (h : Plus M M') {i : Nat} (hi : i < M.length) : M'[i]? = M[i]? := by
  obtain ⟨G, rfl, _⟩ := h
  exact List.getElem?_append_left hi
theorem Plus.len {M M' : Mem} (h : Plus M M') : M.length ≤ M'.length := by
  obtain ⟨G, rfl, _⟩ := h
  rw [List.length_append]; omega
theorem Plus.rtq {M M' : Mem} {Q : DQ} {d : D} (h : Plus M M') (q : Q d M') (hb : below M'.length d = true := by rfl) : Rtq M Q d M' := by
  refine rtqC q h.len hb fun i c hc => ?_
  obtain ⟨G, rfl, h1⟩ := h
  by_cases hi : i < M.length
  · rw [List.getElem?_append_left hi] at hc
    exact .inl hc
  · rw [List.getElem?_append_right (by omega)] at hc
    exact .inr (h1 c (List.mem_of_getElem? hc) _)
/-- the new cells are let go -/
theorem Plus.drop {M M' : Mem} {Q : DQ} {d : D} (h : Plus M M') (q : Q d M) (hb : below M.length d = true := by rfl) : Rtq M Q d M' := by
  obtain ⟨G, rfl, _⟩ := h
  exact rtqG q hb
theorem Plus.set {M M' : Mem} {k : Nat} {l : List D} (h : Plus M M') (hk : M.length ≤ k) (hl : ∀ n, belowAll n l = true) : Plus M (M'.set k (.lst l)) := by
  obtain ⟨G, rfl, h1⟩ := h
  refine ⟨G.set (k - M.length) (.lst l), ?_, fun c hc n => ?_⟩
  · rw [List.set_append_right _ _ hk]
  · rcases List.mem_or_eq_of_mem_set hc with hc | rfl
    · exact h1 c hc n
    · exact hl n
theorem Gn.plus {k : Nat} {n : Int} {M M' : Mem} (h : Gn k n M) (p : Plus M M') : Gn k n M' := by
  obtain ⟨a, s, c, h1, h2⟩ := h
  exact ⟨a, s, c, by rw [p.get (List.getElem?_eq_some_iff.mp h1).1]; exact h1, h2⟩
theorem res_own {M : Mem} {k : Nat} {l : List D} (h : M[k]? = some (.lst l)) : res M (.own k) = .lst l := by unfold res; dsimp only; rw [h]
theorem new_at (M : Mem) (c : Own) : (M ++ [c])[M.length]? = some c := by rw [List.getElem?_append_right (Nat.le_refl _), Nat.sub_self]; rfl
/-! ### the way to the heart, as a list of the caller's -/
def sp_to_heart_by_o : DSp := fun ds M Q _ => ∃ a b c e : Int, ds = [T4 a b c e] ∧ isCut a b c e = true ∧ Bi 300 (meas4 b c e) ∧
  ∀ ps a' b' c' e' k M', HWay ps a b c e a' b' c' e' → c' = 1 → (ps.length : Int) = farV a b c → isCut a' b' c' e' = true → meas4 b' c' e' = meas4 b c e → Plus M M' → M.length ≤ k → M'[k]? = some (.lst (wd1 ps)) → Q (.tup [.own k, T4 a' b' c' e']) M'
theorem below_own {k : Nat} {M : Mem} {c : Own} (h : M[k]? = some c) : below M.length (.own k) = true := by
  simp only [below]
  exact decide_eq_true (List.getElem?_eq_some_iff.mp h).1
theorem rd_to_heart_by_o : ∀ ds M Q, ds.length = 1 → sp_to_heart_by_o ds M Q DX0 → t_to_heart_by_o sp_nearer_by sp_done_by (dEnds M Q) (startD 4 ds) M := by
  rintro _ M Q - ⟨a, b, c, e, rfl, hcut, hm, q⟩
  unfold t_to_heart_by_o
  have n0 := farV_nn a b c
  refine dSeq_open fun B hB => ?_
  walk_at "rd"
  rw [← hB]
  clear hB B
  refine dSeq_open fun B hB => ?_
  refine dwhile_of (fun m r M' => Plus M M' ∧ ∃ ps a1 b1 c1 e1 t, ∃ k : Nat, r = [some (T4 a b c e), some (T4 a1 b1 c1 e1), some (.own k), t] ∧ M.length ≤ k ∧ M'[k]? = some (.lst (wd1 ps)) ∧ HWay ps a b c e a1 b1 c1 e1 ∧ isCut a1 b1 c1 e1 = true ∧ meas4 b1 c1 e1 = meas4 b c e ∧ (ps.length : Int) + farV a1 b1 c1 = farV a b c ∧ m = (farV a1 b1 c1).toNat) _
    ⟨(Plus.refl M).add (fun _ => rfl), [], a, b, c, e, none, M.length, rfl, Nat.le_refl _, new_at M _, ⟨rfl, rfl, rfl, rfl⟩, hcut, rfl, by simp, rfl⟩ ?_
  rintro m r M' ⟨hP, ps, a1, b1, c1, e1, t, k, rfl, hk, hat, hw, hc1, hm1, hl, rfl⟩
  have n1 := farV_nn a1 b1 c1
  walk_at "rd"
  by_cases h1 : c1 = 1
  · rw [if_neg (fun z => z h1), ← hB]
    walk_at "rd"
    have hz := (farV_zero (a := a1) (b := b1)).mpr h1
    refine hP.rtq (q ps a1 b1 c1 e1 k M' hw h1 (by omega) hc1 hm1 hP hk hat) ?_
    show (below _ (.own k) && _) = true
    rw [below_own hat]
    rfl
  · rw [if_pos h1]
    have hb1 := cut_bi hc1 (n := 300) (by rw [hm1]; exact hm)
    obtain ⟨k1, k2, k3, k4, k5, k6⟩ := cut_parts hc1
    refine ⟨a1, b1, c1, e1, rfl, hc1, h1, hb1, fun p p0 p1 hp => ?_⟩
    obtain ⟨l1, l2⟩ := lot_le (b := b1) k2
    have bp : Bi 450 p := by
      have := hb1.2.2.1
      unfold Bi at this ⊢
      have := Nat.pow_le_pow_right (show 0 < 2 by decide) (show 300 ≤ 450 by decide)
      omega
    refine ⟨a1, b1, c1, e1, p, 1, rfl, Int.le_refl _, k2, (deedq_one hc1 p0).cp, hb1.mono, bp, Bi.of_abs 1 (by decide) (by decide), fun a2 w2 g2 e2 hd => ?_⟩
    dsimp only
    have h2 := hp.1 _ _ _ _ hd
    have n2 := farV_nn a2 w2 g2
    obtain ⟨hc2, hm2⟩ := done_one hc1 p0 hd
    have e1 : wd1 (ps ++ [p]) = wd1 ps ++ [.tup [.int p, .int 1]] := List.map_append
    have hlw : (wd1 ps).length = ps.length := List.length_map _
    unfold gAddO
    rw [res_own hat, rs_lst]
    dsimp only
    refine ⟨?_, (farV a2 w2 g2).toNat, by omega, ?_, ps ++ [p], a2, w2, g2, e2, some (.tup [.int p, .int 1]), M'.length, rfl, hP.len, ?_, hw.snoc p0 p1 hd hp, hc2, hm2.trans hm1, by rw [List.length_append, List.length_singleton]; omega, rfl⟩
    · rw [hlw, sizeLine_eq]
      show ps.length + 1 ≤ _
      omega
    · rw [← e1]; exact hP.add fun n => below_wd1
    · rw [← e1]; exact new_at _ _
def sp_word_to_heart_o : DSp := fun ds M Q _ => ∃ a b c e : Int, ds = [T4 a b c e] ∧ isCut a b c e = true ∧ Bi 300 (meas4 b c e) ∧
  ∀ ps a' b' c' e' k M', HWay ps a b c e a' b' c' e' → c' = 1 → (ps.length : Int) = farV a b c → isCut a' b' c' e' = true → meas4 b' c' e' = meas4 b c e → Plus M M' → M.length ≤ k → M'[k]? = some (.lst (wd1 ps)) → Q (.own k) M'
theorem rd_word_to_heart_o : ∀ ds M Q, ds.length = 1 → sp_word_to_heart_o ds M Q DX0 → t_word_to_heart_o sp_check_cutting sp_to_heart_by_o (dEnds M Q) (startD 1 ds) M := by
  rintro _ M Q - ⟨a, b, c, e, rfl, hcut, hm, q⟩
  unfold t_word_to_heart_o
  walk_at "rd"
  refine ⟨a, b, c, e, rfl, hcut, a, b, c, e, rfl, hcut, hm, fun ps a' b' c' e' k M' h1 h2 h3 h4 h5 h6 h7 h8 => ?_⟩
  walk_at "rd"
  exact h6.rtq (q ps a' b' c' e' k M' h1 h2 h3 h4 h5 h6 h7 h8) (below_own h8)
/-! ### k28 -/
theorem rd_l_bezout_1443 : ∀ ds M Q, ds.length = 2 → sp_shared ds M Q DX0 → t_l_bezout_1443 (dEnds M Q) (startD 7 ds) M := rd_l_bezout_3a39
def sp_lfar28 : DSp := fun ds M Q _ => ∃ a b c e : Int, ds = [T4 a b c e] ∧ isCut a b c e = true ∧ meas4 b c e ≤ 400 ∧ Q (.int (farV a b c)) M
theorem rd_l_far_a6bc : ∀ ds M Q, ds.length = 1 → sp_lfar28 ds M Q DX0 → t_l_far_a6bc sp_ldeeds28 sp_ldone (dEnds M Q) (startD 4 ds) M := by
  rintro _ M Q - ⟨a, b, c, e, rfl, hcut, hm, q⟩
  unfold t_l_far_a6bc
  obtain ⟨k1, k2, k3, k4, k5, k6, k7, k8⟩ := isC_small hcut rfl (by omega)
  have cb : CutB 450 a b c e := ⟨Bi.of_abs 1000 (by omega) (by decide), Bi.of_abs 1000 (by omega) (by decide), Bi.of_abs 1000 (by omega) (by decide), Bi.of_abs 1000 (by omega) (by decide)⟩
  refine dSeq_open fun B hB => ?_
  walk_at "rd"
  by_cases h1 : c = 1
  · rw [if_pos h1]
    have := (farV_zero (a := a) (b := b)).mpr h1
    rw [this] at q
    exact rtq q
  · rw [if_neg h1, ← hB]
    clear hB B
    refine dSeq_open fun B hB => ?_
    walk_at "rd"
    refine ⟨a, b, c, e, rfl, hcut, hm, fun l hs ho hlen => ?_⟩
    dsimp only
    refine lcW_tI (fun x => match x with | [p, q] => some (doneL a b c e p q) | _ => none) trivial (by rw [sizeLine_eq]; omega) (fun x hx Y N hy => ?_) ?_
    · obtain ⟨p, q', rfl, hd⟩ := hs x hx
      obtain ⟨s1, s2, s3, s4⟩ := deed_small hcut (by omega) hd
      obtain ⟨dq, _⟩ := isDeed_parts hd
      dsimp only at hy
      show _
      walk_at "rd"
      refine ⟨a, b, c, e, p, q', rfl, dq.q1, k3, dq.cp, dq.al, cb, Bi.of_abs 100000 (by omega) (by decide), Bi.of_abs 1000 (by omega) (by decide), fun a' w g e' hdn => ?_⟩
      have hg := done_g k3 dq.q1 hdn
      rw [doneL_eq (by omega) hdn] at hy
      exact hy
    · have hbe : ∀ y ∈ l.filterMap (fun x => match x with | [p, q] => some (doneL a b c e p q) | _ => none), ∃ p q' a' w g e', [p, q'] ∈ l ∧ y = [a', w, g, e'] ∧ isDeed b c e p q' = true ∧ IsDone a b c e p q' a' w g e' := by
        intro y hy
        obtain ⟨x, hx, h⟩ := List.mem_filterMap.mp hy
        obtain ⟨p, q', rfl, hd⟩ := hs x hx
        obtain ⟨dq, _⟩ := isDeed_parts hd
        obtain ⟨a', w, g, e', hdn⟩ := done_ex (a := a) (b := b) (e := e) k3 dq.q1 dq.cp
        have hg := done_g k3 dq.q1 hdn
        refine ⟨p, q', a', w, g, e', hx, ?_, hd, hdn⟩
        rw [← doneL_eq (by omega) hdn]
        exact (Option.some.inj h).symm
      have hin : ∀ p, 0 ≤ p → p < c / (Int.gcd b c : Int) → ∀ a' w g e', IsDone a b c e p 1 a' w g e' → [a', w, g, e'] ∈ l.filterMap (fun x => match x with | [p, q] => some (doneL a b c e p q) | _ => none) := by
        intro p h0 h1 a' w g e' hdn
        refine List.mem_filterMap.mpr ⟨_, ho p h0 h1, ?_⟩
        have hg := done_g k3 (Int.le_refl 1) hdn
        rw [← doneL_eq (by omega) hdn]
      have hlen2 := List.length_filterMap_le (fun x : List Int => match x with | [p, q] => some (doneL a b c e p q) | _ => none) l
      generalize l.filterMap (fun x => match x with | [p, q] => some (doneL a b c e p q) | _ => none) = be at hbe hin hlen2
      rw [← hB]
      clear hB B
      walk_at "rd"
      refine lcW_tI (fun x => match x with | [a', w, g, e'] => if g = 1 then some [a', w, g, e'] else none | _ => none) trivial (by rw [sizeLine_eq]; omega) (fun x hx Y N hy => ?_) ?_
      · obtain ⟨p, q', a', w, g, e', _, rfl, _, _⟩ := hbe x hx
        dsimp only at hy
        show _
        rw [tI4]
        walk_at "rd"
        by_cases hg : g = 1
        · rw [if_pos hg] at hy ⊢
          exact hy
        · rw [if_neg hg] at hy ⊢
          exact hy
      · have hemp : (be.filterMap (fun x : List Int => match x with | [a', w, g, e'] => if g = 1 then some [a', w, g, e'] else none | _ => none)).isEmpty = true ↔ farV a b c ≠ 1 := by
          rw [List.isEmpty_iff, List.filterMap_eq_nil_iff]
          constructor
          · intro hn z
            obtain ⟨p, p0, p1, hp⟩ := nearer_ex hcut h1
            obtain ⟨a', w, g, e', hdn⟩ := done_ex (a := a) (b := b) (e := e) (p := p) k3 (Int.le_refl 1) (deedq_one hcut p0).cp
            have h2 := hp _ _ _ _ hdn
            have n2 := farV_nn a' w g
            have hg : g = 1 := farV_zero.mp (show farV a' w g = 0 by omega)
            have := hn _ (hin p p0 p1 _ _ _ _ hdn)
            simp [hg] at this
          · intro hn y hy
            obtain ⟨p, q', a', w, g, e', _, rfl, hd, hdn⟩ := hbe y hy
            have hg : g ≠ 1 := by
              intro z
              apply hn
              unfold farV
              have d1 : (Int.gcd (Int.gcd a b : Int) c : Int) ∣ g := by
                rw [hdn.gc]
                have d0 : (Int.gcd (Int.gcd a b : Int) c : Int) ∣ (Int.gcd a b : Int) := Int.gcd_dvd_left _ _
                exact Int.dvd_coe_gcd (Int.dvd_add (Int.dvd_mul_of_dvd_right (Int.dvd_trans d0 (Int.gcd_dvd_right _ _))) (Int.dvd_mul_of_dvd_right (Int.dvd_trans d0 (Int.gcd_dvd_left _ _)))) (Int.dvd_mul_of_dvd_right (Int.gcd_dvd_right _ _))
              rw [z] at d1
              have l1 := Int.le_of_dvd (by decide) d1
              have l2 : (Int.gcd (Int.gcd a b : Int) c : Int) ≠ 0 := fun z => by
                rw [z] at d1
                exact absurd (Int.zero_dvd.mp d1) (by decide)
              rw [if_neg h1, if_pos (by omega)]
            simp [hg]
        refine gNe_nil' (n := 20) ?_ ?_
        · rw [fineAll_iff]
          intro d hd
          obtain ⟨x, hx, rfl⟩ := List.mem_map.mp hd
          obtain ⟨y, hy, hxy⟩ := List.mem_filterMap.mp hx
          obtain ⟨p, q', a', w, g, e', _, rfl, _, _⟩ := hbe y hy
          dsimp only at hxy
          by_cases hg : g = 1
          · rw [if_pos hg] at hxy
            cases hxy; rfl
          · rw [if_neg hg] at hxy; cases hxy
        · dsimp only
          have n0 := farV_nn a b c
          have nz : farV a b c ≠ 0 := fun z => h1 (farV_zero.mp z)
          rw [show ∀ l : List (List Int), (l.map tI).isEmpty = l.isEmpty from fun l => by cases l <;> rfl]
          by_cases hf : farV a b c = 1
          · have : (be.filterMap (fun x : List Int => match x with | [a', w, g, e'] => if g = 1 then some [a', w, g, e'] else none | _ => none)).isEmpty = false := by
              rw [← Bool.not_eq_true, hemp]; exact fun z => z hf
            rw [hf] at q
            rw [this]
            exact rtq q
          · rw [hemp.mpr hf]
            have : farV a b c = 2 := by omega
            rw [this] at q
            exact rtq q

theorem near_uniq {a b c e p p2 : Int} (h : isCut a b c e = true) (h1 : IsNear a b c e p) (h2 : IsNear a b c e p2) (k1 : 0 ≤ p) (k2 : 0 ≤ p2) : p = p2 := by
  have key : ∀ x y : Int, IsNear a b c e x → IsNear a b c e y → 0 ≤ x → x < y → False := by
    intro x y hx hy x0 xy
    obtain ⟨a', w, g, e', hd⟩ := done_ex (a := a) (b := b) (e := e) (p := x) (cut_parts h).2.1 (Int.le_refl 1) (deedq_one h x0).cp
    have := hx.1 _ _ _ _ hd
    have := hy.2 x x0 xy _ _ _ _ hd
    omega
  rcases (by omega : p = p2 ∨ p < p2 ∨ p2 < p) with z | z | z
  · exact z
  · exact (key p p2 h1 h2 k1 z).elim
  · exact (key p2 p h2 h1 k2 z).elim
theorem HWay.uniq : ∀ {ps ps2 : List Int} {a b c e a1 b1 c1 e1 a2 b2 c2 e2 : Int}, isCut a b c e = true → HWay ps a b c e a1 b1 c1 e1 → HWay ps2 a b c e a2 b2 c2 e2 → ps.length = ps2.length → ps = ps2
  | [], [], _, _, _, _, _, _, _, _, _, _, _, _, _, _, _, _ => rfl
  | [], _ :: _, _, _, _, _, _, _, _, _, _, _, _, _, _, _, _, h => by cases h
  | _ :: _, [], _, _, _, _, _, _, _, _, _, _, _, _, _, _, _, h => by cases h
  | p :: ps, p2 :: ps2, _, _, _, _, _, _, _, _, _, _, _, _, hc, ⟨x1, x2, x3, x4, u0, u1, u2, u3, u4⟩, ⟨y1, y2, y3, y4, v0, v1, v2, v3, v4⟩, h => by
    have ep := near_uniq hc u4 v4 u0 v0
    subst ep
    have hg := done_g (cut_parts hc).2.1 (Int.le_refl 1) u2
    obtain ⟨rfl, rfl, rfl, rfl⟩ := isDone_unique (by omega) u2 v2
    rw [HWay.uniq (done_one hc u0 u2).1 u3 v3 (by simpa using h)]
theorem gRepr_own {k : Nat} {l : List D} {M : Mem} {Q : DQ} (h : M[k]? = some (.lst l)) (ok : okV (.lst l) = true) (q : ∀ z, shwn (.lst l) = some z → Q (.str z) M) : gRepr [.own k] M Q := by
  obtain ⟨h1, h2, h3⟩ := okV_parts ok
  obtain ⟨z, hz⟩ := shw_of 800 41 h1 h2 (by omega)
  unfold gRepr
  dsimp only
  rw [res_own h, hz]
  exact q z hz
theorem gRepr_own2 {k : Nat} {l : List D} {M : Mem} {Q : DQ} {z : Str} (h : M[k]? = some (.lst l)) (hz : shwn (.lst l) = some z) (q : Q (.str z) M) : gRepr [.own k] M Q := by
  unfold gRepr
  dsimp only
  rw [res_own h, hz]
  exact q
theorem hway_bi {n : Nat} : ∀ {ps : List Int} {a b c e a1 b1 c1 e1 : Int}, isCut a b c e = true → Bi n (meas4 b c e) → HWay ps a b c e a1 b1 c1 e1 → ∀ p ∈ ps, Bi n p
  | [], _, _, _, _, _, _, _, _, _, _, _, p, h => by cases h
  | q :: ps, _, b0, _, _, _, _, _, _, hc, hm, ⟨x1, x2, x3, x4, u0, u1, u2, u3, u4⟩, p, h => by
    obtain ⟨hc2, hm2⟩ := done_one hc u0 u2
    rcases List.mem_cons.mp h with rfl | h
    · have h1 := (cut_bi hc hm).2.2.1
      have h2 := lot_le (b := b0) (cut_parts hc).2.1
      unfold Bi at h1 ⊢
      omega
    · exact hway_bi hc2 (by rw [hm2]; exact hm) u3 p h
theorem okV_wd1 {n : Nat} {ps : List Int} (h : ∀ p ∈ ps, Bi n p) (hl : ps.length ≤ 2) (hn : n ≤ 799 := by decide) : okV (.lst (wd1 ps)) = true := by
  have one : ∀ p ∈ ps, lit 800 (.tup [.int p, .int 1]) = true := fun p hp => lit_cons ((h p hp).lit8 hn) (lit_cons ((Bi.of_abs 1 (by decide) : Bi 3 1).lit8) rfl)
  match ps, hl, one with
  | [], _, _ => rfl
  | [p], _, one => exact okV_lst rfl (lit_cons (one p (by simp)) rfl) (Nat.le_of_ble_eq_true rfl)
  | [p, p2], _, one => exact okV_lst rfl (lit_cons (one p (by simp)) (lit_cons (one p2 (by simp)) rfl)) (Nat.le_of_ble_eq_true rfl)
def sp_lwordright28 : DSp := fun ds M Q _ => ∃ a b c e : Int, ds = [T4 a b c e, .int (farV a b c)] ∧ isCut a b c e = true ∧ Bi 250 (meas4 b c e) ∧ Q (.bl true) M
theorem fine_wd1 (ps : List Int) : fineAll 20 (wd1 ps) = true := by
  rw [fineAll_iff]
  intro d hd
  obtain ⟨x, _, rfl⟩ := List.mem_map.mp hd
  rfl
theorem gNe_own {n : Nat} {k j : Nat} {l : List D} {M : Mem} {Q : DQ} (h1 : M[k]? = some (.lst l)) (h2 : M[j]? = some (.lst l)) (hf : fineAll n l = true) (q : Q (.bl false) M) (hn : n ≤ 60 := by decide) : gNe (.own k) (.own j) M Q := by
  unfold gNe
  rw [res_own h1, res_own h2]
  have := eqB_self (n := n + 1) (d := .lst l) (by simp only [fine]; exact hf) (by omega)
  rw [this]
  exact q
theorem rd_l_word_right_9c97 : ∀ ds M Q, ds.length = 2 → sp_lwordright28 ds M Q DX0 → t_l_word_right_9c97 sp_word_to_heart_o sp_lis_deed sp_ldone sp_liscut1 (dEnds M Q) (startD 6 ds) M := by
  rintro _ M Q - ⟨a, b, c, e, rfl, hcut, hm, q⟩
  unfold t_l_word_right_9c97
  have n0 := farV_nn a b c
  refine dSeq_open fun B hB => ?_
  walk_at "rd"
  refine ⟨a, b, c, e, rfl, hcut, hm.mono, fun ps a' b' c' e' k M1 h1 h2 h3 h4 h5 P1 hk hat => ?_⟩
  rw [← hB]
  clear hB B
  refine dSeq_open fun B hB => ?_
  have hlw : (wd1 ps).length = ps.length := List.length_map _
  walk_at "rd"
  simp only [hat]
  walk_at "kb"
  rw [if_neg (by decide), if_neg (by rw [hlw, h3]; exact fun z => z rfl)]
  refine ⟨rfl, a, b, c, e, rfl, hcut, hm.mono, fun ps2 a2 b2 c2 e2 k2 M2 x1 x2 x3 x4 x5 P2 hk2 hat2 => ?_⟩
  have eps : ps2 = ps := HWay.uniq hcut x1 h1 (by omega)
  subst eps
  have hat1 : M2[k]? = some (.lst (wd1 ps2)) := by rw [P2.get (List.getElem?_eq_some_iff.mp hat).1]; exact hat
  have P3 := P1.trans P2
  refine gNe_own hat2 hat1 (fine_wd1 ps2) ?_
  dsimp only
  rw [if_neg (by decide), ← hB]
  clear hB B
  have hb := cut_bi hcut hm
  refine dSeq_open fun B hB => ?_
  walk_at "rd"
  simp only [hat1]
  refine ⟨fun i r M3 => M3 = M2 ∧ ∃ a3 b3 c3 e3 t, ∃ ps3 : List Int, r = [some (T4 a b c e), some (.int (farV a b c)), some (.own k), some (T4 a3 b3 c3 e3), t, none] ∧ ps2.drop i = ps3 ∧ HWay ps3 a3 b3 c3 e3 a' b' c' e' ∧ isCut a3 b3 c3 e3 = true ∧ meas4 b3 c3 e3 = meas4 b c e, ⟨rfl, a, b, c, e, _, ps2, rfl, rfl, h1, hcut, rfl⟩, ?_⟩
  rintro i r M3 ⟨rfl, a3, b3, c3, e3, t, ps3, rfl, hps, hw3, hc3, hm3⟩
  refine ⟨hat1, fun hl => ?_, fun d hd => ?_⟩
  · have : ps3 = [] := by rw [← hps]; exact List.drop_of_length_le (by rw [hlw] at hl; exact hl)
    subst this
    obtain ⟨rfl, rfl, rfl, rfl⟩ := hw3
    dsimp only
    rw [← hB]
    clear hB B
    subst h2
    have ok := okV_wd1 (hway_bi hcut hm h1) (by omega)
    refine dSeq_open fun B hB => ?_
    walk_at "rd"
    refine gRepr_own hat1 ok fun z hz => ?_
    rw [← hB]
    clear hB B
    refine dSeq_open fun B hB => ?_
    walk_at "rd"
    refine ⟨⟨k, _, rfl, hat1⟩, ?_⟩
    simp only [hat1]
    refine ⟨by rw [hlw]; omega, ?_⟩
    rw [← hB]
    clear hB B
    have P4 : Plus M (M3.set k (.lst (wd1 ps2 ++ [.non]))) := P3.set hk fun n => by
      have : ∀ l : List D, belowAll n l = true → belowAll n (l ++ [.non]) = true := by
        intro l
        induction l with
        | nil => intro _; rfl
        | cons d l ih =>
          intro h
          have h' : below n d = true ∧ belowAll n l = true := by simpa [belowAll] using h
          show (below n d && belowAll n (l ++ [.non])) = true
          rw [h'.1, ih h'.2]; rfl
      exact this _ below_wd1
    walk_at "rd"
    have hb4 := cut_bi hc3 (n := 250) (by rw [hm3]; exact hm)
    refine ⟨a', b', 1, e', rfl, hb4.mono, ?_⟩
    rw [h4]
    dsimp only
    rw [if_pos rfl]
    refine ⟨a, b, c, e, rfl, hcut, hm.mono, fun ps5 a5 b5 c5 e5 k5 M5 y1 y2 y3 y4 y5 P5 hk5 hat5 => ?_⟩
    have eps5 : ps5 = ps2 := HWay.uniq hcut y1 h1 (by omega)
    subst eps5
    dsimp only
    refine gRepr_own2 hat5 hz ?_
    rw [gEq_strs, str_self]
    exact (P4.trans P5).drop q
  · have hi : i < ps2.length := by
      have := (List.getElem?_eq_some_iff.mp hd).1
      rwa [hlw] at this
    have hd' : (ps2.map fun p => D.tup [.int p, .int 1])[i]? = some d := hd
    rw [List.getElem?_map, List.getElem?_eq_getElem hi] at hd'
    have hdrop : ps2.drop i = ps2[i] :: ps2.drop (i + 1) := List.drop_eq_getElem_cons hi
    have ed := Option.some.inj hd'
    subst ed
    rw [hps] at hdrop
    subst hdrop
    generalize hp : ps2[i] = p at hw3 hps
    obtain ⟨a4, w4, g4, e4, u0, u1, u2, u3, u4⟩ := hw3
    have hb3 := cut_bi hc3 (n := 250) (by rw [hm3]; exact hm)
    obtain ⟨v1, v2, v3, v4, v5, v6⟩ := cut_parts hc3
    have l2 := lot_le (b := b3) v2
    have bp : Bi 250 p := by
      have := hb3.2.2.1
      unfold Bi at this ⊢
      omega
    have one := deedq_one hc3 u0
    walk_at "rd"
    walk_at "kb"
    rw [if_neg (by decide), if_neg (by decide)]
    have b1 : Bi 450 1 := Bi.of_abs 1 (by decide) (by decide)
    refine ⟨a3, b3, c3, e3, p, 1, rfl, v2, hb3.mono, b1, ?_⟩
    rw [isDeed_mk one (by rw [Int.one_mul]; exact u1)]
    dsimp only
    rw [if_neg (by decide)]
    refine ⟨a3, b3, c3, e3, p, 1, rfl, Int.le_refl _, v2, one.cp, one.al, hb3.mono, bp.mono, b1, fun a6 w6 g6 e6 hd6 => ?_⟩
    have hg := done_g v2 (Int.le_refl 1) u2
    obtain ⟨rfl, rfl, rfl, rfl⟩ := isDone_unique (by omega) u2 hd6
    obtain ⟨z1, z2⟩ := done_one hc3 u0 u2
    exact ⟨rfl, _, _, _, _, _, _, rfl, rfl, u3, z1, z2.trans hm3⟩

def sp_lfirst_deed : DSp := fun ds M Q _ => ∃ (k : Nat) (a b c e n : Int), ds = [.own k, T4 a b c e] ∧ isCut a b c e = true ∧ CutB 300 a b c e ∧ Gn k n M ∧ n ≤ P40 - 800 ∧
  ∀ p q M', DeedQ b c e p q → Bi 12 p → Bi 12 q → Gst k (n + 80) M M' → Q (.tup [.int p, .int q]) M'
theorem rd_l_first_deed_394d : ∀ ds M Q, ds.length = 2 → sp_lfirst_deed ds M Q DX0 → t_l_first_deed_394d sp_random sp_lis_deed (dEnds M Q) (startD 5 ds) M := by
  rintro _ M Q - ⟨k, a, b, c, e, n, rfl, hcut, hb, hg, hn, h⟩
  unfold t_l_first_deed_394d
  refine dSeq_open fun B hB => ?_
  walk_at "rd"
  refine ⟨k, 40, n, rfl, by decide, lt900 (by decide), hg, by omega, fun v M1 v0 v1 g1 => ?_⟩
  dsimp only
  refine ⟨k, 6, n + 40, rfl, by decide, lt900 (by decide), g1.2.1, by omega, fun v2 M2 v20 v21 g2 => ?_⟩
  dsimp only
  have g3 := (g1.trans g2).le (m := n + 80) (by omega)
  rw [← hB]
  clear hB B
  refine dSeq_open fun B hB => ?_
  walk_at "rd"
  refine ⟨⟨by decide, by decide⟩, ?_⟩
  refine ⟨fun i r M' => M' = M2 ∧ i ≤ 60 ∧ ∃ (p q : Int) (t : Option D), r = [some (.own k), some (T4 a b c e), some (.int p), some (.int q), t] ∧ 0 ≤ p ∧ p ≤ 40 + 7 * i ∧ 1 ≤ q ∧ q ≤ 7, ⟨rfl, by omega, v, 1 + v2, _, rfl, v0, by omega, by omega, by omega⟩, ?_⟩
  rintro i r M' ⟨rfl, hi, p, q, t, rfl, p0, p1, q0, q1⟩
  refine ⟨trivial, fun hl => ?_, fun d hd => ?_⟩
  · dsimp only
    rw [← hB]
    walk_at "rd"
    exact g3.rtq (h 0 1 M' (deedq_one hcut (Int.le_refl 0)) (Bi.of_abs 0 (by decide) (by decide)) (Bi.of_abs 1 (by decide) (by decide)) g3)
  · obtain ⟨hi2, rfl⟩ := rng_get.mp hd
    replace hi2 : i < 60 := hi2
    walk_at "rd"
    refine ⟨a, b, c, e, p, q, rfl, (cut_parts hcut).2.1, hb.mono, Bi.of_abs 7 (by omega) (by decide), ?_⟩
    dsimp only
    cases hdd : isDeed b c e p q with
    | true =>
      rw [if_pos rfl]
      exact g3.rtq (h p q M' (isDeed_parts hdd).1 (Bi.of_abs 1000 (by omega) (by decide)) (Bi.of_abs 7 (by omega) (by decide)) g3)
    | false =>
      rw [if_neg (by decide)]
      by_cases hp : 0 < p
      · rw [if_pos hp]
        walk_at "rd"
        first | exact ⟨rfl, by omega, _, _, _, rfl, by omega, by omega, by omega, by omega⟩ | exact ⟨by omega, _, _, _, rfl, by omega, by omega, by omega, by omega⟩
      · rw [if_neg hp]
        by_cases hq : 1 < q
        · rw [if_pos hq]
          walk_at "rd"
          first | exact ⟨rfl, by omega, _, _, _, rfl, by omega, by omega, by omega, by omega⟩ | exact ⟨by omega, _, _, _, rfl, by omega, by omega, by omega, by omega⟩
        · rw [if_neg hq]
          walk_at "rd"
          first | exact ⟨rfl, by omega, _, _, _, rfl, by omega, by omega, by omega, by omega⟩ | exact ⟨by omega, _, _, _, rfl, by omega, by omega, by omega, by omega⟩
def sp_lwalked : DSp := fun ds M Q _ => ∃ (k : Nat) (a b c e n w : Int), ds = [.own k, T4 a b c e, .int w] ∧ 0 ≤ w ∧ w ≤ 10 ∧ isCut a b c e = true ∧ Bi 250 (meas4 b c e) ∧ Gn k n M ∧ n ≤ P40 - 2000 ∧
  ∀ a' b' c' e' M', isCut a' b' c' e' = true → meas4 b' c' e' = meas4 b c e → Gst k (n + 1000) M M' → Q (T4 a' b' c' e') M'
theorem rd_l_walked_1581 : ∀ ds M Q, ds.length = 3 → sp_lwalked ds M Q DX0 → t_l_walked_1581 sp_random sp_ldone sp_lfirst_deed (dEnds M Q) (startD 5 ds) M := by
  rintro _ M Q - ⟨k, a, b, c, e, n, w, rfl, w0, w1, hcut, hm, hg, hn, h⟩
  unfold t_l_walked_1581
  refine dSeq_open fun B hB => ?_
  walk_at "rd"
  rw [← hB]
  clear hB B
  refine dSeq_open fun B hB => ?_
  walk_at "rd"
  refine ⟨k, w + 1, n, rfl, by omega, lt900 (by omega), hg, by omega, fun v M1 v0 v1 g1 => ?_⟩
  dsimp only
  refine ⟨⟨by omega, by omega⟩, ?_⟩
  refine ⟨fun i r M' => i ≤ v.toNat ∧ Gst k (n + 40 + 80 * i) M M' ∧ ∃ (a1 b1 c1 e1 : Int) (t : Option D), r = [some (.own k), some (T4 a b c e), some (.int w), some (T4 a1 b1 c1 e1), t] ∧ isCut a1 b1 c1 e1 = true ∧ meas4 b1 c1 e1 = meas4 b c e, ⟨by omega, g1.le (by omega), a, b, c, e, _, rfl, hcut, rfl⟩, ?_⟩
  rintro i r M' ⟨hi, gi, a1, b1, c1, e1, t, rfl, hc1, hm1⟩
  refine ⟨trivial, fun hl => ?_, fun d hd => ?_⟩
  · dsimp only
    rw [← hB]
    walk_at "rd"
    have g2 := gi.le (m := n + 1000) (by omega)
    exact g2.rtq (h a1 b1 c1 e1 M' hc1 hm1 g2)
  · obtain ⟨hi2, rfl⟩ := rng_get.mp hd
    have hb1 := cut_bi hc1 (n := 250) (by rw [hm1]; exact hm)
    walk_at "rd"
    refine ⟨k, a1, b1, c1, e1, _, rfl, hc1, hb1.mono, gi.2.1, by omega, fun p q M2 hdq bp bq g2 => ?_⟩
    dsimp only
    refine ⟨a1, b1, c1, e1, p, q, rfl, hdq.q1, (cut_parts hc1).2.1, hdq.cp, hdq.al, hb1.mono, bp.mono, bq.mono, fun a2 w2 g2' e2 hd2 => ?_⟩
    obtain ⟨z1, z2⟩ := done_cut hc1 hdq.q1 hdq.al hd2
    exact ⟨by omega, (gi.trans g2).le (by omega), a2, w2, g2', e2, _, rfl, z1, z2.trans hm1⟩
end DL
namespace DL
open PySem PySem.Spec PyProof.Rows L2
def t_l_divisor_b609 : DTS :=
 (dSeq (dPar 2 3 (dCons (dCB gAbs (dCons (dVar 0) dNil)) (dCons (dCB gAbs (dCons (dVar 1) dNil)) dNil)))
 (dSeq (dWhile (dTru (dOp gNe (dVar 3) (dC (.int 0)))) (dPar 2 3 (dCons (dVar 3) (dCons (dOp (rBin CMod fun i j => i.fmod j) (dCB gInt (dCons (dVar 2) dNil)) (dVar 3)) dNil))))
 (dRet (dVar 2))))
def t_l_is_cutting_a37b (c_l_divisor_b609 : DSp) : DTS :=
 (dSeq (dAsg (dVar 0) (dGTup 4 (dGCons (dName 1) (dGCons (dName 2) (dGCons (dName 3) (dGCons (dName 4) dGNil))))))
 (dSeq (dIfS (dOr (dTru (dOp (gCmpI fun i j => decide (i < j)) (dVar 2) (dC (.int 1)))) (dOr (dTru (dOp (gCmpI fun i j => decide (i < j)) (dVar 3) (dC (.int 1)))) (dOr (dTru (dOp (gCmpI fun i j => decide (j ≤ i)) (dOp gAdd (dVar 3) (dVar 4)) (dVar 2))) (dNot (dTru (dChain (gCmpI fun i j => decide (i ≤ j)) (gCmpI fun i j => decide (i < j)) (dC (.int 0)) (dVar 1) (dCall 2 c_l_divisor_b609 [] DX0 (dCons (dVar 2) (dCons (dVar 3) dNil))))))))) (dRet (dC (.bl false))) dNext)
 (dRet (dOp gEq (dCall 2 c_l_divisor_b609 [] DX0 (dCons (dCall 2 c_l_divisor_b609 [] DX0 (dCons (dVar 1) (dCons (dVar 2) dNil))) (dCons (dCall 2 c_l_divisor_b609 [] DX0 (dCons (dVar 3) (dCons (dVar 4) dNil))) dNil))) (dC (.int 1))))))
def t_l_with_a07e (c_l_divisor_b609 : DSp) (c_l_is_cutting_a37b : DSp) : DTS :=
 (dSeq (dPar 2 3 (dCons (dLst dNil) (dCons (dOp (rBin CDiv fun i j => i.fdiv j) (dOp (rBin (fun _ _ => True) fun i j => i - j) (dVar 0) (dOp (rBin CMul fun i j => i * j) (dVar 1) (dVar 1))) (dC (.int 4))) dNil)))
 (dSeq (dFor (dRngI gRng2 (dCons (dC (.int 1)) (dCons (dOp gAdd (dVar 3) (dC (.int 1))) dNil))) (dName 4) (dIfS (dTru (dOp gEq (dOp (rBin CMod fun i j => i.fmod j) (dCB gInt (dCons (dVar 3) dNil)) (dVar 4)) (dC (.int 0)))) (dSeq (dAsg (dOp (rBin CDiv fun i j => i.fdiv j) (dVar 3) (dVar 4)) (dName 5))
 (dAsg (dOp gAdd (dVar 2) (dLc false (dRngI gRng1 (dCons (dCall 2 c_l_divisor_b609 [] DX0 (dCons (dVar 5) (dCons (dVar 4) dNil))) dNil)) (dName 6) (dTru (dCall 1 c_l_is_cutting_a37b [] DX0 (dCons (dTup (dCons (dVar 6) (dCons (dVar 5) (dCons (dVar 4) (dCons (dVar 1) dNil))))) dNil))) (dTup (dCons (dVar 6) (dCons (dVar 5) (dCons (dVar 4) (dCons (dVar 1) dNil))))) [6])) (dName 2))) dNext))
 (dRet (dVar 2))))
def t_l_cuttings_cac1 (c_l_with_a07e : DSp) : DTS :=
 (dSeq (dPar 1 2 (dCons (dLst dNil) (dCons (dC (.int 0)) dNil)))
 (dSeq (dWhile (dTru (dOp (gCmpI fun i j => decide (i < j)) (dOp (rBin CMul fun i j => i * j) (dVar 2) (dVar 2)) (dVar 0))) (dSeq (dFor (dSeqI (dIf (dTru (dOp (gCmpI fun i j => decide (j < i)) (dVar 2) (dC (.int 0)))) (dLst (dCons (dVar 2) (dCons (dOp (rBin (fun _ _ => True) fun i j => i - j) (dC (.int 0)) (dVar 2)) dNil))) (dLst (dCons (dC (.int 0)) dNil)))) (dName 3) (dIfS (dTru (dOp gEq (dOp (rBin CMod fun i j => i.fmod j) (dCB gInt (dCons (dOp (rBin (fun _ _ => True) fun i j => i - j) (dVar 0) (dVar 2)) dNil)) (dC (.int 2))) (dC (.int 0)))) (dAsg (dOp gAdd (dVar 1) (dCall 2 c_l_with_a07e [] DX0 (dCons (dVar 0) (dCons (dVar 3) dNil)))) (dName 1)) dNext))
 (dAsg (dOp gAdd (dVar 2) (dC (.int 1))) (dName 2))))
 (dRet (dCB (gSorted false) (dCons (dVar 1) dNil)))))
def t_l_small_f084 (c_l_random_7821 : DSp) (c_l_cuttings_cac1 : DSp) : DTS :=
 (dSeq (dAsg (dOp gAdd (dC (.int 5)) (dCall 2 c_l_random_7821 [] DX0 (dCons (dVar 0) (dCons (dC (.int 140)) dNil)))) (dName 1))
 (dSeq (dAsg (dOp gAdd (dOp (rBin (fun _ _ => True) fun i j => i - j) (dVar 1) (dOp (rBin CMod fun i j => i.fmod j) (dCB gInt (dCons (dVar 1) dNil)) (dC (.int 4)))) (dCall 2 c_l_random_7821 [] DX0 (dCons (dVar 0) (dCons (dC (.int 2)) dNil)))) (dName 1))
 (dSeq (dAsg (dCall 1 c_l_cuttings_cac1 [] DX0 (dCons (dCB gMax (dCons (dVar 1) (dCons (dC (.int 5)) dNil))) dNil)) (dName 2))
 (dRet (dTup (dCons (dOp gIx (dVar 2) (dCall 2 c_l_random_7821 [] DX0 (dCons (dVar 0) (dCons (dCB gLen (dCons (dVar 2) dNil)) dNil)))) (dCons (dVar 2) dNil)))))))
def t_l_allowed_c76c : DTS :=
 (dSeq (dAsg (dVar 0) (dGTup 4 (dGCons (dName 2) (dGCons (dName 3) (dGCons (dName 4) (dGCons (dName 5) dGNil))))))
 (dRet (dOp (gCmpI fun i j => decide (j < i)) (dOp (rBin (fun _ _ => True) fun i j => i - j) (dOp (rBin (fun _ _ => True) fun i j => i - j) (dVar 3) (dOp (rBin CMul fun i j => i * j) (dVar 1) (dVar 5))) (dOp (rBin CMul fun i j => i * j) (dOp (rBin CMul fun i j => i * j) (dVar 1) (dVar 1)) (dVar 4))) (dC (.int 0)))))
def t_l_deeds_faf6 (c_l_divisor_b609 : DSp) (c_l_allowed_c76c : DSp) : DTS :=
 (dSeq (dAsg (dTup (dCons (dLst dNil) (dCons (dC (.int 1)) (dCons (dOp (rBin CDiv fun i j => i.fdiv j) (dOp gIx (dVar 0) (dC (.int 2))) (dCall 2 c_l_divisor_b609 [] DX0 (dCons (dOp gIx (dVar 0) (dC (.int 1))) (dCons (dOp gIx (dVar 0) (dC (.int 2))) dNil)))) dNil)))) (dGTup 3 (dGCons (dName 1) (dGCons (dName 2) (dGCons (dName 3) dGNil)))))
 (dSeq (dWhile (dTru (dCall 2 c_l_allowed_c76c [] DX0 (dCons (dVar 0) (dCons (dVar 2) dNil)))) (dSeq (dAsg (dOp gAdd (dVar 1) (dLc false (dRngI gRng1 (dCons (dOp (rBin CMul fun i j => i * j) (dVar 2) (dVar 3)) dNil)) (dName 4) (dTru (dOp gEq (dCall 2 c_l_divisor_b609 [] DX0 (dCons (dVar 4) (dCons (dVar 2) dNil))) (dC (.int 1)))) (dTup (dCons (dVar 4) (dCons (dVar 2) dNil))) [4])) (dName 1))
 (dAsg (dOp gAdd (dVar 2) (dC (.int 1))) (dName 2))))
 (dRet (dCB (gSorted false) (dCons (dVar 1) dNil)))))
def t_allowed_by : DTS :=
 (dSeq (dAsg (dVar 0) (dGTup 4 (dGCons (dName 2) (dGCons (dName 3) (dGCons (dName 4) (dGCons (dName 5) dGNil))))))
 (dRet (dOp (gCmpI fun i j => decide (j < i)) (dOp (rBin (fun _ _ => True) fun i j => i - j) (dOp (rBin (fun _ _ => True) fun i j => i - j) (dVar 3) (dOp (rBin CMul fun i j => i * j) (dVar 1) (dVar 5))) (dOp (rBin CMul fun i j => i * j) (dOp (rBin CMul fun i j => i * j) (dVar 1) (dVar 1)) (dVar 4))) (dC (.int 0)))))
def t_round_of : DTS :=
 (dRet (dOp (rBin CDiv fun i j => i.fdiv j) (dOp gIx (dVar 0) (dC (.int 2))) (dCB gGcd (dCons (dOp gIx (dVar 0) (dC (.int 1))) (dCons (dOp gIx (dVar 0) (dC (.int 2))) dNil)))))
def t_is_deed_by (c_allowed_by : DSp) (c_round_of : DSp) : DTS :=
 (dSeq (dIfS (dOr (dNot (dTru (dCB gIsi (dCons (dVar 1) (dCons (dC (.val (.ty "tuple"))) dNil))))) (dTru (dOp gNe (dCB gLen (dCons (dVar 1) dNil)) (dC (.int 2))))) (dRet (dC (.bl false))) dNext)
 (dSeq (dIfS (dTru (dOp gNe (dLc false (dSeqI (dVar 1)) (dName 2) (dOr (dNot (dTru (dCB gIsi (dCons (dVar 2) (dCons (dC (.val (.ty "int"))) dNil))))) (dTru (dCB gIsi (dCons (dVar 2) (dCons (dC (.val (.ty "bool"))) dNil))))) (dVar 2) [2]) (dLst dNil))) (dRet (dC (.bl false))) dNext)
 (dSeq (dAsg (dVar 1) (dGTup 2 (dGCons (dName 3) (dGCons (dName 4) dGNil))))
 (dSeq (dIfS (dOr (dTru (dOp (gCmpI fun i j => decide (i < j)) (dVar 4) (dC (.int 1)))) (dOr (dNot (dTru (dCall 2 c_allowed_by [] DX0 (dCons (dVar 0) (dCons (dVar 4) dNil))))) (dNot (dTru (dChain (gCmpI fun i j => decide (i ≤ j)) (gCmpI fun i j => decide (i < j)) (dC (.int 0)) (dVar 3) (dOp (rBin CMul fun i j => i * j) (dVar 4) (dCall 1 c_round_of [] DX0 (dCons (dVar 0) dNil)))))))) (dRet (dC (.bl false))) dNext)
 (dRet (dOp gEq (dCB gGcd (dCons (dVar 3) (dCons (dVar 4) dNil))) (dC (.int 1))))))))
def t_check_deed (c_check_cutting : DSp) (c_is_deed_by : DSp) : DTS :=
 (dSeq (dDrop (dCall 1 c_check_cutting [] DX0 (dCons (dVar 0) dNil)))
 (dIfS (dNot (dTru (dCall 2 c_is_deed_by [] DX0 (dCons (dVar 0) (dCons (dVar 1) dNil))))) dNever dNext))
def t_done (c_check_deed : DSp) (c_done_by : DSp) : DTS :=
 (dSeq (dDrop (dCall 2 c_check_deed [] DX0 (dCons (dVar 0) (dCons (dVar 1) dNil))))
 (dRet (dCall 2 c_done_by [] DX0 (dCons (dVar 0) (dCons (dVar 1) dNil)))))
def t_l_beside_ee64 : DTS :=
 (dSeq (dAsg (dTup (dCons (dVar 0) (dCons (dVar 1) (dCons (dC (.int 0)) (dCons (dC (.int 1)) (dCons (dOp (rBin (fun _ _ => True) fun i j => i - j) (dC (.int 0)) (dC (.int 1))) (dCons (dC (.int 0)) dNil))))))) (dGTup 6 (dGCons (dName 2) (dGCons (dName 3) (dGCons (dName 4) (dGCons (dName 5) (dGCons (dName 6) (dGCons (dName 7) dGNil))))))))
 (dSeq (dWhile (dTru (dOp gNe (dVar 3) (dC (.int 0)))) (dSeq (dAsg (dOp (rBin CDiv fun i j => i.fdiv j) (dVar 2) (dVar 3)) (dName 8))
 (dSeq (dPar 2 3 (dCons (dVar 3) (dCons (dOp (rBin (fun _ _ => True) fun i j => i - j) (dVar 2) (dOp (rBin CMul fun i j => i * j) (dVar 8) (dVar 3))) dNil)))
 (dSeq (dPar 5 7 (dCons (dVar 7) (dCons (dOp (rBin (fun _ _ => True) fun i j => i - j) (dVar 5) (dOp (rBin CMul fun i j => i * j) (dVar 8) (dVar 7))) dNil)))
 (dPar 4 6 (dCons (dVar 6) (dCons (dOp (rBin (fun _ _ => True) fun i j => i - j) (dVar 4) (dOp (rBin CMul fun i j => i * j) (dVar 8) (dVar 6))) dNil)))))))
 (dRet (dTup (dCons (dVar 4) (dCons (dVar 5) dNil))))))
def t_l_pairs_e6d0 (c_l_beside_ee64 : DSp) : DTS :=
 (dSeq (dAsg (dCall 2 c_l_beside_ee64 [] DX0 (dCons (dVar 0) (dCons (dVar 1) dNil))) (dGTup 2 (dGCons (dName 2) (dGCons (dName 3) dGNil))))
 (dRet (dLst (dCons (dTup (dCons (dVar 2) (dCons (dVar 3) dNil))) (dCons (dTup (dCons (dOp (rBin (fun _ _ => True) fun i j => i - j) (dC (.int 0)) (dVar 2)) (dCons (dOp (rBin (fun _ _ => True) fun i j => i - j) (dC (.int 0)) (dVar 3)) dNil))) (dCons (dTup (dCons (dOp (rBin (fun _ _ => True) fun i j => i - j) (dC (.int 0)) (dVar 2)) (dCons (dVar 3) dNil))) (dCons (dTup (dCons (dVar 2) (dCons (dOp (rBin (fun _ _ => True) fun i j => i - j) (dC (.int 0)) (dVar 3)) dNil))) dNil)))))))
def t_l_columns_575c (c_l_pairs_e6d0 : DSp) : DTS :=
 (dSeq (dAsg (dVar 0) (dGTup 4 (dGCons (dName 2) (dGCons (dName 3) (dGCons (dName 4) (dGCons (dName 5) dGNil))))))
 (dSeq (dAsg (dVar 1) (dGTup 2 (dGCons (dName 6) (dGCons (dName 7) dGNil))))
 (dSeq (dAsg (dOp gIx (dLc false (dSeqI (dCall 2 c_l_pairs_e6d0 [] DX0 (dCons (dVar 6) (dCons (dVar 7) dNil)))) (dName 10) (dTru (dOp gEq (dOp (rBin (fun _ _ => True) fun i j => i - j) (dOp (rBin CMul fun i j => i * j) (dVar 6) (dOp gIx (dVar 10) (dC (.int 1)))) (dOp (rBin CMul fun i j => i * j) (dVar 7) (dOp gIx (dVar 10) (dC (.int 0))))) (dC (.int 1)))) (dVar 10) [10]) (dC (.int 0))) (dGTup 2 (dGCons (dName 8) (dGCons (dName 9) dGNil))))
 (dRet (dTup (dCons (dTup (dCons (dOp gAdd (dOp (rBin CMul fun i j => i * j) (dVar 6) (dVar 3)) (dOp (rBin CMul fun i j => i * j) (dVar 7) (dVar 2))) (dCons (dOp gAdd (dOp gAdd (dOp gAdd (dOp (rBin CMul fun i j => i * j) (dVar 8) (dVar 3)) (dOp (rBin CMul fun i j => i * j) (dVar 9) (dVar 2))) (dVar 5)) (dOp (rBin CMul fun i j => i * j) (dVar 7) (dVar 4))) dNil))) (dCons (dTup (dCons (dOp (rBin CMul fun i j => i * j) (dVar 7) (dVar 4)) (dCons (dOp (rBin CMul fun i j => i * j) (dVar 9) (dVar 4)) dNil))) dNil)))))))
def t_l_led_ad47 (c_l_columns_575c : DSp) (c_l_divisor_b609 : DSp) : DTS :=
 (dSeq (dAsg (dCall 2 c_l_columns_575c [] DX0 (dCons (dVar 0) (dCons (dVar 1) dNil))) (dGTup 2 (dGCons (dName 2) (dGCons (dName 3) dGNil))))
 (dSeq (dWhile (dTru (dOp gNe (dOp gIx (dVar 3) (dC (.int 0))) (dC (.int 0)))) (dSeq (dAsg (dOp (rBin CDiv fun i j => i.fdiv j) (dOp gIx (dVar 2) (dC (.int 0))) (dOp gIx (dVar 3) (dC (.int 0)))) (dName 4))
 (dPar 2 3 (dCons (dVar 3) (dCons (dTup (dCons (dOp (rBin (fun _ _ => True) fun i j => i - j) (dOp gIx (dVar 2) (dC (.int 0))) (dOp (rBin CMul fun i j => i * j) (dVar 4) (dOp gIx (dVar 3) (dC (.int 0))))) (dCons (dOp (rBin (fun _ _ => True) fun i j => i - j) (dOp gIx (dVar 2) (dC (.int 1))) (dOp (rBin CMul fun i j => i * j) (dVar 4) (dOp gIx (dVar 3) (dC (.int 1))))) dNil))) dNil)))))
 (dSeq (dIfS (dTru (dOp (gCmpI fun i j => decide (i < j)) (dOp gIx (dVar 2) (dC (.int 0))) (dC (.int 0)))) (dAsg (dTup (dCons (dOp (rBin (fun _ _ => True) fun i j => i - j) (dC (.int 0)) (dOp gIx (dVar 2) (dC (.int 0)))) (dCons (dOp (rBin (fun _ _ => True) fun i j => i - j) (dC (.int 0)) (dOp gIx (dVar 2) (dC (.int 1)))) dNil))) (dName 2)) dNext)
 (dSeq (dPar 5 6 (dCons (dCB gAbs (dCons (dOp gIx (dVar 3) (dC (.int 1))) dNil)) (dCons (dOp gIx (dVar 2) (dC (.int 0))) dNil)))
 (dRet (dTup (dCons (dOp (rBin CMod fun i j => i.fmod j) (dCB gInt (dCons (dOp (rBin (fun _ _ => True) fun i j => i - j) (dC (.int 0)) (dOp gIx (dVar 2) (dC (.int 1)))) dNil)) (dCall 2 c_l_divisor_b609 [] DX0 (dCons (dVar 5) (dCons (dVar 6) dNil)))) (dCons (dVar 5) (dCons (dVar 6) (dCons (dOp (rBin (fun _ _ => True) fun i j => i - j) (dOp (rBin (fun _ _ => True) fun i j => i - j) (dC (.int 0)) (dOp gIx (dVar 0) (dC (.int 3)))) (dOp (rBin CMul fun i j => i * j) (dOp (rBin CMul fun i j => i * j) (dC (.int 2)) (dOp gIx (dVar 1) (dC (.int 1)))) (dOp gIx (dVar 0) (dC (.int 2))))) dNil))))))))))
def t_l_right_7e45 (c_l_small_f084 : DSp) (c_l_deeds_faf6 : DSp) (c_done : DSp) (c_l_led_ad47 : DSp) (c_l_random_7821 : DSp) : DTS :=
 (dSeq (dAsg (dCall 1 c_l_small_f084 [] DX0 (dCons (dVar 0) dNil)) (dGTup 2 (dGCons (dName 1) (dGCons (dName 2) dGNil))))
 (dSeq (dFor (dSeqI (dCall 1 c_l_deeds_faf6 [] DX0 (dCons (dVar 1) dNil))) (dName 3) (dSeq (dAsg (dCall 2 c_done [] DX0 (dCons (dVar 1) (dCons (dVar 3) dNil))) (dName 4))
 (dSeq (dIfS (dOr (dTru (dOp gNe (dCB gRepr (dCons (dVar 4) dNil)) (dCB gRepr (dCons (dCall 2 c_l_led_ad47 [] DX0 (dCons (dVar 1) (dCons (dVar 3) dNil))) dNil)))) (dOr (dTru (dOp (gIn true) (dVar 4) (dVar 2))) (dTru (dOp gNe (dCallK 2 2 c_done [1, 0] DX0 (dCons (dVar 3) (dCons (dVar 1) dNil))) (dVar 4))))) (dRet (dC (.bl false))) dNext)
 (dSeq (dAsg (dVar 1) (dGTup 4 (dGCons (dName 5) (dGCons (dName 6) (dGCons (dName 7) (dGCons (dName 8) dGNil))))))
 (dIfS (dOr (dTru (dOp gNe (dOp gIx (dVar 4) (dC (.int 3))) (dOp (rBin (fun _ _ => True) fun i j => i - j) (dOp (rBin (fun _ _ => True) fun i j => i - j) (dC (.int 0)) (dVar 8)) (dOp (rBin CMul fun i j => i * j) (dOp (rBin CMul fun i j => i * j) (dC (.int 2)) (dOp gIx (dVar 3) (dC (.int 1)))) (dVar 7))))) (dTru (dOp gNe (dOp (rBin CMul fun i j => i * j) (dOp gIx (dVar 4) (dC (.int 1))) (dOp gIx (dVar 4) (dC (.int 2)))) (dOp (rBin CMul fun i j => i * j) (dVar 7) (dOp (rBin (fun _ _ => True) fun i j => i - j) (dOp (rBin (fun _ _ => True) fun i j => i - j) (dVar 6) (dOp (rBin CMul fun i j => i * j) (dOp gIx (dVar 3) (dC (.int 1))) (dVar 8))) (dOp (rBin CMul fun i j => i * j) (dOp (rBin CMul fun i j => i * j) (dOp gIx (dVar 3) (dC (.int 1))) (dOp gIx (dVar 3) (dC (.int 1)))) (dVar 7))))))) (dRet (dC (.bl false))) dNext)))))
 (dSeq (dAsg (dOp gIx (dVar 2) (dCall 2 c_l_random_7821 [] DX0 (dCons (dVar 0) (dCons (dCB gLen (dCons (dVar 2) dNil)) dNil)))) (dName 9))
 (dSeq (dFor (dSeqI (dLst (dCons (dVar 1) (dCons (dVar 9) (dCons (dVar 1) dNil))))) (dName 10) (dIfS (dTru (dOp gNe (dCall 2 c_done [] DX0 (dCons (dVar 10) (dCons (dTup (dCons (dC (.int 0)) (dCons (dC (.int 1)) dNil))) dNil))) (dCall 2 c_l_led_ad47 [] DX0 (dCons (dVar 10) (dCons (dTup (dCons (dC (.int 0)) (dCons (dC (.int 1)) dNil))) dNil))))) (dRet (dC (.bl false))) dNext))
 (dRet (dC (.bl true)))))))
def t_l_law_5738 (c_l_right_7e45 : DSp) (c_l_generator_b324 : DSp) (c_done : DSp) : DTS :=
 (dSeq (dIfS (dNot (dTru (dCall 1 c_l_right_7e45 [] DX0 (dCons (dCall 2 c_l_generator_b324 [] DX0 (dCons (dVar 0) (dCons (dC (.int 0)) dNil))) dNil)))) (dRet (dC (.bl false))) dNext)
 (dSeq (dAsg (dTup (dCons (dC (.int 0)) (dCons (dC (.int 2)) (dCons (dC (.int 1)) (dCons (dOp (rBin (fun _ _ => True) fun i j => i - j) (dC (.int 0)) (dC (.int 3))) dNil))))) (dName 1))
 (dSeq (dIfS (dTru (dOp gNe (dLc false (dSeqI (dLst (dCons (dTup (dCons (dC (.int 0)) (dCons (dC (.int 1)) dNil))) (dCons (dTup (dCons (dC (.int 1)) (dCons (dC (.int 2)) dNil))) (dCons (dTup (dCons (dC (.int 1)) (dCons (dC (.int 3)) dNil))) (dCons (dTup (dCons (dC (.int 2)) (dCons (dC (.int 3)) dNil))) dNil)))))) (dName 2) dYes (dCall 2 c_done [] DX0 (dCons (dVar 1) (dCons (dVar 2) dNil))) [2]) (dLst (dCons (dTup (dCons (dC (.int 0)) (dCons (dC (.int 4)) (dCons (dC (.int 1)) (dCons (dC (.int 1)) dNil))))) (dCons (dTup (dCons (dC (.int 1)) (dCons (dC (.int 2)) (dCons (dC (.int 2)) (dCons (dOp (rBin (fun _ _ => True) fun i j => i - j) (dC (.int 0)) (dC (.int 1))) dNil))))) (dCons (dVar 1) (dCons (dVar 1) dNil))))))) (dRet (dC (.bl false))) dNext)
 (dRet (dAndV (dOp gEq (dCall 2 c_done [] DX0 (dCons (dTup (dCons (dC (.int 1)) (dCons (dC (.int 2)) (dCons (dC (.int 4)) (dCons (dOp (rBin (fun _ _ => True) fun i j => i - j) (dC (.int 0)) (dC (.int 9))) dNil))))) (dCons (dTup (dCons (dC (.int 3)) (dCons (dC (.int 2)) dNil))) dNil))) (dTup (dCons (dC (.int 0)) (dCons (dC (.int 2)) (dCons (dC (.int 8)) (dCons (dOp (rBin (fun _ _ => True) fun i j => i - j) (dC (.int 0)) (dC (.int 7))) dNil)))))) (dOp gEq (dCall 2 c_done [] DX0 (dCons (dTup (dCons (dC (.int 0)) (dCons (dC (.int 1)) (dCons (dC (.int 1)) (dCons (dOp (rBin (fun _ _ => True) fun i j => i - j) (dC (.int 0)) (dC (.int 1))) dNil))))) (dCons (dTup (dCons (dC (.int 0)) (dCons (dC (.int 1)) dNil))) dNil))) (dTup (dCons (dC (.int 0)) (dCons (dC (.int 1)) (dCons (dC (.int 1)) (dCons (dOp (rBin (fun _ _ => True) fun i j => i - j) (dC (.int 0)) (dC (.int 1))) dNil)))))))))))
end DL
namespace DL
open PySem PySem.Spec PyProof.Rows L2
local macro_rules | `(tactic| walk_at "rd") => `(tactic| simp only [startD, List.map, List.replicate, List.length_cons, List.length_nil, List.append_eq, List.append_nil, List.nil_append, List.cons_append, Nat.reduceSub, Nat.reduceAdd, List.getElem?_cons_zero, List.getElem?_cons_succ, List.set_cons_zero, List.set_cons_succ,
  dC, dVar, dOp, dTru, gTru, tru, dChain, dAnd, dOr, dNot, dAndV, dOrV, dNotV, dIf, dNeg, gNeg, dNil, dCons, dTup, dLst, dOwn, gIx, rBin, gAdd, gCmpI, dCall, dCallK, dSeq, dNext, dDrop, dRet, dRetN, dIfS, dName, dGNil, dGCons, dGTup, dSub, gSetL, dAsg, dPar, dPar3, dAug, gIpI, dSeqI, gSeqI, dRngI, gRng1, gRng2, dCB, gAbs, gInt, gMax, gMin, gGcd, gLen, lenD, gIsi, tyM, tyD, dBits, gBits, dMet, gAppend, dPart, dNoPart, dSl, gSl_tup, gSl_lst, cut_1, dEnds, gIs, isB, dNever, dFor, dLc, wipeD, dYes,
  sizeLine_eq, Nat.reduceLeDiff, gEq_int, gNe_int, gEq_strs, gNe_strs, gIn_two, gRepr_bl, rs_lst, rs_tup, rs_scr, rs_int, atI_0, atI_1, atI_2, atI_3, atI_4, atI_5, ixN_30, ixN_31, ixN_32, gEq_bl, gNe_bl, decide_eq_true_eq, beq_iff_eq, Bool.not_eq_true', beq_eq_false_iff_ne, decide_eq_false_iff_not, Bool.not_true, Bool.not_false, if_true, if_false, Bool.false_eq_true, ite_true, ite_false, true_and, and_true, ne_eq, Bool.bne_false, Bool.bne_true, reduceCtorEq])
local macro_rules | `(tactic| walk_at "rh") => `(tactic| simp only [*, startD, List.map, List.replicate, List.length_cons, List.length_nil, List.append_eq, List.append_nil, List.nil_append, List.cons_append, Nat.reduceSub, Nat.reduceAdd, List.getElem?_cons_zero, List.getElem?_cons_succ, List.set_cons_zero, List.set_cons_succ,
  dC, dVar, dOp, dTru, gTru, tru, dChain, dAnd, dOr, dNot, dAndV, dOrV, dNotV, dIf, dNeg, gNeg, dNil, dCons, dTup, dLst, dOwn, gIx, rBin, gAdd, gCmpI, dCall, dCallK, dSeq, dNext, dDrop, dRet, dRetN, dIfS, dName, dGNil, dGCons, dGTup, dSub, gSetL, dAsg, dPar, dPar3, dAug, gIpI, dSeqI, gSeqI, dRngI, gRng1, gRng2, dCB, gAbs, gInt, gMax, gMin, gGcd, gLen, lenD, gIsi, tyM, tyD, dBits, gBits, dMet, gAppend, dPart, dNoPart, dSl, gSl_tup, gSl_lst, cut_1, dEnds, gIs, isB, dNever, dFor, dLc, wipeD, dYes,
  sizeLine_eq, Nat.reduceLeDiff, gEq_int, gNe_int, gEq_strs, gNe_strs, gIn_two, gRepr_bl, rs_lst, rs_tup, rs_scr, rs_int, atI_0, atI_1, atI_2, atI_3, atI_4, atI_5, ixN_30, ixN_31, ixN_32, gEq_bl, gNe_bl, decide_eq_true_eq, beq_iff_eq, Bool.not_eq_true', beq_eq_false_iff_ne, decide_eq_false_iff_not, Bool.not_true, Bool.not_false, if_true, if_false, Bool.false_eq_true, ite_true, ite_false, true_and, and_true, ne_eq, Bool.bne_false, Bool.bne_true, reduceCtorEq])
local macro_rules | `(tactic| walk_at "kb") => `(tactic| simp only [kb_NoneType_list, kb_bool_list, kb_int_list, kb_str_list, kb_tuple_list, kb_list_list, kb_dict_list, kb_NoneType_int, kb_bool_int, kb_int_int, kb_str_int, kb_tuple_int, kb_list_int, kb_dict_int, kb_NoneType_bool, kb_bool_bool, kb_int_bool, kb_str_bool, kb_tuple_bool, kb_list_bool, kb_dict_bool, kb_NoneType_tuple, kb_bool_tuple, kb_int_tuple, kb_str_tuple, kb_tuple_tuple, kb_list_tuple, kb_dict_tuple, if_true, if_false, Bool.false_eq_true, ite_true, ite_false, Bool.not_true, Bool.not_false])
/-! ### sorted lists of tuples of ints -/
abbrev LSorted (l : List (List Int)) : Prop := l.Pairwise fun x y => lexL y x = false
theorem sorted_uniq : ∀ {l1 l2 : List (List Int)}, l1.Perm l2 → LSorted l1 → LSorted l2 → l1 = l2
  | [], l2, h, _, _ => (List.Perm.eq_nil h.symm).symm
  | x :: l1, [], h, _, _ => absurd h.length_eq (by simp)
  | x :: l1, y :: l2, h, s1, s2 => by
    have h1 := List.pairwise_cons.mp s1
    have h2 := List.pairwise_cons.mp s2
    have e : x = y := by
      rcases List.mem_cons.mp (h.mem_iff.mp (List.mem_cons_self (a := x) (l := l1))) with e | hx
      · exact e
      · rcases List.mem_cons.mp (h.mem_iff.mpr (List.mem_cons_self (a := y) (l := l2))) with e | hy
        · exact e.symm
        · exact lexL_conn x y (h2.1 x hx) (h1.1 y hy)
    subst e
    rw [sorted_uniq h.cons_inv h1.2 h2.2]
theorem nodup_perm {α : Type} {l1 l2 : List α} (h1 : l1.Nodup) (h2 : l2.Nodup) (h : ∀ x, x ∈ l1 ↔ x ∈ l2) : l1.Perm l2 := (List.perm_ext_iff_of_nodup h1 h2).mpr h
theorem sorted_one {l1 l2 : List (List Int)} (h1 : l1.Nodup) (h2 : l2.Nodup) (h : ∀ x, x ∈ l1 ↔ x ∈ l2) (s1 : LSorted l1) (s2 : LSorted l2) : l1 = l2 := sorted_uniq (nodup_perm h1 h2 h) s1 s2
theorem gSorted_tI {k : Nat} {l : List (List Int)} {M : Mem} {Q : DQ} (hk : ∀ x ∈ l, x.length = k) (h1 : 1 ≤ k) (q : ∀ l' : List (List Int), l'.Perm l → LSorted l' → Q (.lst (l'.map tI)) M) : gSorted false [.lst (l.map tI)] M Q :=
  .inr ⟨k, l, rfl, h1, hk, fun l' pm sd => q l' pm sd⟩
/-! ### all cuttings of a measure, each once -/
def CovX (m : Int) (l : List (List Int)) (P : Int → Int → Prop) : Prop := l.Nodup ∧ ∀ x, x ∈ l ↔ ∃ a b c e, x = [a, b, c, e] ∧ isCut a b c e = true ∧ meas4 b c e = m ∧ P c e
theorem CovX.nil {m : Int} {P : Int → Int → Prop} (h : ∀ a b c e, isCut a b c e = true → meas4 b c e = m → ¬ P c e) : CovX m [] P :=
  ⟨List.nodup_nil, fun x => ⟨fun h => (by cases h), by rintro ⟨a, b, c, e, rfl, h1, h2, h3⟩; exact (h a b c e h1 h2 h3).elim⟩⟩
theorem CovX.iff {m : Int} {l : List (List Int)} {P P' : Int → Int → Prop} (h : CovX m l P) (w : ∀ a b c e, isCut a b c e = true → meas4 b c e = m → (P' c e ↔ P c e)) : CovX m l P' := by
  refine ⟨h.1, fun x => (h.2 x).trans ?_⟩
  constructor
  · rintro ⟨a, b, c, e, rfl, h1, h2, h3⟩; exact ⟨a, b, c, e, rfl, h1, h2, (w a b c e h1 h2).mpr h3⟩
  · rintro ⟨a, b, c, e, rfl, h1, h2, h3⟩; exact ⟨a, b, c, e, rfl, h1, h2, (w a b c e h1 h2).mp h3⟩
theorem CovX.app {m : Int} {l l2 : List (List Int)} {P P' : Int → Int → Prop} (h : CovX m l P) (g : CovX m l2 P') (w : ∀ c e, P c e → P' c e → False) : CovX m (l ++ l2) fun c e => P c e ∨ P' c e := by
  refine ⟨List.nodup_append.mpr ⟨h.1, g.1, fun x hx y hy e => ?_⟩, fun x => ?_⟩
  · subst e
    obtain ⟨a, b, c, e, rfl, _, _, h3⟩ := (h.2 x).mp hx
    obtain ⟨a', b', c', e', h4, _, _, h5⟩ := (g.2 _).mp hy
    cases h4
    exact w c e h3 h5
  · rw [List.mem_append, h.2, g.2]
    constructor
    · rintro (⟨a, b, c, e, rfl, h1, h2, h3⟩ | ⟨a, b, c, e, rfl, h1, h2, h3⟩)
      · exact ⟨a, b, c, e, rfl, h1, h2, .inl h3⟩
      · exact ⟨a, b, c, e, rfl, h1, h2, .inr h3⟩
    · rintro ⟨a, b, c, e, rfl, h1, h2, h3 | h3⟩
      · exact .inl ⟨a, b, c, e, rfl, h1, h2, h3⟩
      · exact .inr ⟨a, b, c, e, rfl, h1, h2, h3⟩
theorem lowsL_nodup {n : Nat} {b c e : Int} : (lowsL n b c e).Nodup := by
  unfold lowsL
  refine List.Pairwise.filterMap _ (fun a a' (hne : a ≠ a') x hx y hy => ?_) List.nodup_range
  by_cases h1 : isCut (a : Int) b c e = true
  · by_cases h2 : isCut (a' : Int) b c e = true
    · rw [if_pos h1] at hx
      rw [if_pos h2] at hy
      cases hx; cases hy
      intro z
      have := List.cons.inj z
      omega
    · rw [if_neg h2] at hy; cases hy
  · rw [if_neg h1] at hx; cases hx
theorem lows_covX {m b c e whole : Int} (hc : 1 ≤ c) (hw : 4 * whole = m - e * e) (hb : b * c = whole) : CovX m (lowsL (Int.gcd b c) b c e) fun c' e' => c' = c ∧ e' = e := by
  refine ⟨lowsL_nodup, fun x => ⟨fun hx => ?_, ?_⟩⟩
  · obtain ⟨i, hi, h1, rfl⟩ := lowsL_mem.mp hx
    exact ⟨_, _, _, _, rfl, h1, meas_bc.mpr (by rw [hb]; exact hw), rfl, rfl⟩
  · rintro ⟨a, b', c', e', rfl, h1, h2, h3⟩
    exact (lows_cov hc hw hb).2 a b' c' e' h1 h2 h3
theorem lows_noneX {m c e whole : Int} (hw : 4 * whole = m - e * e) (hn : whole % c ≠ 0) : CovX m [] fun c' e' => c' = c ∧ e' = e :=
  .nil fun a b' c' e' h1 h2 h3 => by have := (lows_none hw hn).2 a b' c' e' h1 h2 h3; cases this
theorem CovX.len4 {m : Int} {l : List (List Int)} {P : Int → Int → Prop} (h : CovX m l P) : ∀ x ∈ l, x.length = 4 := fun x hx => by
  obtain ⟨a, b, c, e, rfl, _⟩ := (h.2 x).mp hx
  rfl
/-- the whole of them, sorted -/
structure AllC (m : Int) (l : List (List Int)) : Prop where
  nd : l.Nodup
  mem : ∀ x, x ∈ l ↔ IsC m x
  srt : LSorted l
  len : l.length ≤ 10000000
theorem AllC.of {m : Int} {l l' : List (List Int)} {P : Int → Int → Prop} (h : CovX m l P) (w : ∀ a b c e, isCut a b c e = true → meas4 b c e = m → P c e) (hl : l.length ≤ 10000000) (pm : l'.Perm l) (sd : LSorted l') : AllC m l' := by
  refine ⟨(pm.nodup_iff).mpr h.1, fun x => ?_, sd, by rw [pm.length_eq]; exact hl⟩
  rw [pm.mem_iff, h.2]
  constructor
  · rintro ⟨a, b, c, e, rfl, h1, h2, _⟩; exact ⟨a, b, c, e, rfl, h1, h2⟩
  · rintro ⟨a, b, c, e, rfl, h1, h2⟩; exact ⟨a, b, c, e, rfl, h1, h2, w a b c e h1 h2⟩
theorem AllC.uniq {m : Int} {l l' : List (List Int)} (h : AllC m l) (g : AllC m l') : l = l' := sorted_one h.nd g.nd (fun x => (h.mem x).trans (g.mem x).symm) h.srt g.srt
def sp_lcuts : DSp := fun ds M Q _ => ∃ m : Int, ds = [.int m] ∧ isMeas (.int m) = true ∧ m ≤ 1000 ∧ ∀ l, AllC m l → Q (.lst (l.map tI)) M
/-! ### the functions of k13 to k16 -/
theorem rd_l_divisor_b609 : ∀ ds M Q, ds.length = 2 → sp_gcd ds M Q DX0 → t_l_divisor_b609 (dEnds M Q) (startD 4 ds) M := rd_l_common_6be5
def sp_lcut1 : DSp := fun ds M Q _ => ∃ a b c e : Int, ds = [T4 a b c e] ∧ Q (.bl (isCut a b c e)) M
theorem rd_l_is_cutting_a37b : ∀ ds M Q, ds.length = 1 → sp_lcut1 ds M Q DX0 → t_l_is_cutting_a37b sp_gcd (dEnds M Q) (startD 5 ds) M := by
  rintro _ M Q - ⟨a, b, c, e, rfl, q⟩
  unfold t_l_is_cutting_a37b
  walk_at "rd"
  have fin : ∀ v, v = isCut a b c e → Rtq M Q (.bl v) M := by rintro _ rfl; exact rtq q
  by_cases h1 : b < 1
  · rw [if_pos h1]
    exact fin _ (by unfold isCut; rw [decide_eq_false (show ¬ 1 ≤ b by omega)]; rfl)
  · rw [if_neg h1]
    have e1 := decide_eq_true (show 1 ≤ b by omega)
    by_cases h2 : c < 1
    · rw [if_pos h2]
      exact fin _ (by unfold isCut; rw [e1, decide_eq_false (show ¬ 1 ≤ c by omega)]; rfl)
    · rw [if_neg h2]
      have e2 := decide_eq_true (show 1 ≤ c by omega)
      by_cases h3 : c + e < b
      · rw [if_neg (show ¬ b ≤ c + e by omega)]
        have e3 := decide_eq_true h3
        by_cases h4 : 0 ≤ a
        · have e4 := decide_eq_true h4
          rw [if_pos h4]
          refine ⟨b, c, rfl, ?_⟩
          dsimp only
          by_cases h5 : a < (Int.gcd b c : Int)
          · have e5 := decide_eq_true h5
            rw [if_neg (fun z => z h5)]
            refine ⟨a, b, rfl, c, e, rfl, _, _, rfl, ?_⟩
            dsimp only
            rw [gEq_int, gcd4]
            exact fin _ (by unfold isCut; rw [e1, e2, e3, e4, e5]; rfl)
          · rw [if_pos h5]
            exact fin _ (by unfold isCut; rw [e1, e2, e3, e4, decide_eq_false h5]; rfl)
        · rw [if_neg h4, if_pos h4]
          exact fin _ (by unfold isCut; rw [e1, e2, e3, decide_eq_false h4]; rfl)
      · rw [if_pos (by omega)]
        exact fin _ (by unfold isCut; rw [e1, e2, decide_eq_false h3]; rfl)
/-- the cuttings with a told last number -/
def sp_lwith : DSp := fun ds M Q _ => ∃ m e : Int, ds = [.int m, .int e] ∧ m ≤ 1000 ∧ -40 ≤ e ∧ e ≤ 40 ∧ 0 ≤ m - e * e ∧ (m - e * e) % 4 = 0 ∧ ∀ l, CovX m l (fun _ e' => e' = e) → l.length ≤ 62500 → Q (.lst (l.map tI)) M
theorem rd_l_with_a07e : ∀ ds M Q, ds.length = 2 → sp_lwith ds M Q DX0 → t_l_with_a07e sp_gcd sp_lcut1 (dEnds M Q) (startD 7 ds) M := by
  rintro _ M Q - ⟨m, e, rfl, h1000, e0, e1, hpos, h4, q⟩
  unfold t_l_with_a07e
  have be : Bi 10 e := Bi.of_abs 100 (by omega) (by decide)
  have hs := sq_nn e
  refine dSeq_open fun B hB => ?_
  walk_at "rd"
  refine ⟨⟨be.sm, be.sm⟩, ⟨by decide, by decide⟩, ?_⟩
  rw [fdiv_pos (show (0 : Int) < 4 by decide)]
  have hw : 4 * ((m - e * e) / 4) = m - e * e := by omega
  generalize (m - e * e) / 4 = whole at *
  rw [← hB]
  clear hB B
  refine dSeq_open fun B hB => ?_
  walk_at "rd"
  refine ⟨⟨⟨by decide, by decide⟩, ⟨by omega, by omega⟩⟩, ?_⟩
  have eW : (whole + 1 - 1).toNat = whole.toNat := by omega
  rw [eW]
  refine ⟨fun j r M1 => M1 = M ∧ j ≤ whole.toNat ∧ ∃ (l2 : List (List Int)) (t5 t6 : Option D), r = [some (.int m), some (.int e), some (.lst (l2.map tI)), some (.int whole), t5, t6, none] ∧ CovX m l2 (fun c' e' => c' < 1 + (j : Nat) ∧ e' = e) ∧ l2.length ≤ 250 * j, ⟨rfl, by omega, [], _, _, rfl, CovX.nil ?_, by simp⟩, ?_⟩
  · rintro a b c e' h1 h2 ⟨h3, h4⟩
    have := (cut_parts h1).2.1
    omega
  rintro j r M1 ⟨rfl, hj, l2, t5, t6, rfl, hcov2, hlen2⟩
  refine ⟨trivial, fun hl2 => ?_, fun d2 hd2 => ?_⟩
  · dsimp only
    rw [rng_len] at hl2
    rw [← hB]
    walk_at "rd"
    refine rtq (q l2 (hcov2.iff fun a b c e' h1 h2 => ⟨fun h3 => ⟨?_, h3⟩, fun h3 => h3.2⟩) (by omega)) (below_tIs l2)
    have h5 := meas_bc.mp h2
    obtain ⟨g1, g2, _⟩ := cut_parts h1
    have : 1 * c ≤ b * c := Int.mul_le_mul_of_nonneg_right g1 (by omega)
    rw [h3] at h5
    omega
  · obtain ⟨hj2, rfl⟩ := rng_get.mp hd2
    generalize hc : (1 : Int) + (j : Nat) = c at *
    have c1 : 1 ≤ c := by omega
    have c2 : c ≤ 250 := by omega
    walk_at "rd"
    refine ⟨(show c ≠ 0 by omega), ?_⟩
    rw [fmod_pos (show 0 < c by omega)]
    by_cases hdv : whole % c = 0
    · rw [if_pos hdv]
      refine ⟨⟨by omega, Nat.lt_of_lt_of_le (log2_of 10 (by omega) (by decide)) (by decide)⟩, ?_⟩
      rw [fdiv_pos (show 0 < c by omega)]
      have hb : whole / c * c = whole := Int.ediv_mul_cancel (Int.dvd_of_emod_eq_zero hdv)
      have hb0 : 0 ≤ whole / c := Int.ediv_nonneg (by omega) (by omega)
      have hb1 : whole / c ≤ 250 := by
        have := Int.ediv_le_self c (show 0 ≤ whole by omega)
        omega
      generalize whole / c = b at *
      refine ⟨b, c, rfl, ?_⟩
      have gc : (Int.gcd b c : Int) ≤ c := Int.le_of_dvd (by omega) (Int.gcd_dvd_right _ _)
      refine ⟨⟨by omega, by omega⟩, ?_⟩
      have eG : ((Int.gcd b c : Nat) : Int).toNat = Int.gcd b c := by omega
      rw [eG]
      refine lcW_pure (fun d => match d with | .int a => if isCut a b c e = true then some (T4 a b c e) else none | _ => none) trivial (by rw [rng_len, sizeLine_eq]; omega) (fun d hd Y N hy => ?_) ?_
      · obtain ⟨i2, hi2'⟩ := List.mem_iff_getElem?.mp hd
        obtain ⟨hi3, rfl⟩ := rng_get.mp hi2'
        walk_at "rd"
        refine ⟨_, b, c, e, rfl, ?_⟩
        dsimp only at hy ⊢
        by_cases hcut : isCut (0 + (i2 : Int)) b c e = true
        · rw [if_pos hcut] at hy ⊢
          exact hy
        · rw [if_neg hcut] at hy ⊢
          exact hy
      · rw [rng_fm (g := fun i => if isCut (i : Int) b c e = true then some [(i : Int), b, c, e] else none) (fun i => by
          show (if isCut (0 + (i : Int)) b c e = true then some (T4 (0 + (i : Int)) b c e) else none) = _
          rw [Int.zero_add]
          split <;> rfl)]
        have hl3 := lowsL_len (n := Int.gcd b c) (b := b) (c := c) (e := e)
        have hcov3 := hcov2.app (lows_covX (b := b) c1 hw hb) fun c' e' h1 h2 => by omega
        refine ⟨?_, ?_⟩
        · rw [List.length_map, List.length_map]
          have : (List.filterMap (fun i : Nat => if isCut (i : Int) b c e = true then some [(i : Int), b, c, e] else none) (List.range (Int.gcd b c))).length ≤ Int.gcd b c := hl3
          omega
        · rw [← List.map_append]
          refine ⟨rfl, by omega, l2 ++ lowsL (Int.gcd b c) b c e, _, _, rfl, hcov3.iff fun a b' c' e' h1 h2 => ?_, ?_⟩
          · constructor
            · rintro ⟨h3, h4⟩
              by_cases z : c' = c
              · exact .inr ⟨z, h4⟩
              · exact .inl ⟨by omega, h4⟩
            · rintro (⟨h3, h4⟩ | ⟨h3, h4⟩) <;> exact ⟨by omega, h4⟩
          · rw [List.length_append]
            omega
    · rw [if_neg hdv]
      have hcov3 := hcov2.app (lows_noneX (e := e) hw hdv) fun c' e' h1 h2 => by omega
      rw [List.append_nil] at hcov3
      have hcov4 : CovX m l2 (fun c' e' => c' < 1 + ((j + 1 : Nat) : Int) ∧ e' = e) := hcov3.iff fun a b' c' e' h1 h2 => by
        constructor
        · rintro ⟨h3, h4⟩
          by_cases z : c' = c
          · exact .inr ⟨z, h4⟩
          · exact .inl ⟨by omega, h4⟩
        · rintro (⟨h3, h4⟩ | ⟨h3, h4⟩) <;> exact ⟨by omega, h4⟩
      first | exact ⟨rfl, by omega, l2, _, _, rfl, hcov4, by omega⟩ | exact ⟨by omega, l2, _, _, rfl, hcov4, by omega⟩
theorem meas_mod {m e : Int} (hm : isMeas (.int m) = true) (hp : (m - e) % 2 = 0) : (m - e * e) % 4 = 0 := by
  have hm4 : m % 4 = 0 ∨ m % 4 = 1 := by
    simp only [isMeas, Bool.and_eq_true, decide_eq_true_eq, Bool.or_eq_true, beq_iff_eq] at hm
    omega
  rcases (by omega : e % 2 = 0 ∨ e % 2 = 1) with z | z
  · obtain ⟨t, ht⟩ : ∃ t, e = 2 * t := ⟨e / 2, by omega⟩
    have : e * e = 4 * (t * t) := by rw [ht]; grind
    omega
  · obtain ⟨t, ht⟩ : ∃ t, e = 2 * t + 1 := ⟨e / 2, by omega⟩
    have : e * e = 4 * (t * t + t) + 1 := by rw [ht]; grind
    omega
theorem rd_l_cuttings_cac1 : ∀ ds M Q, ds.length = 1 → sp_lcuts ds M Q DX0 → t_l_cuttings_cac1 sp_lwith (dEnds M Q) (startD 4 ds) M := by
  rintro _ M Q - ⟨m, rfl, hm, h1000, q⟩
  have m5 := meas_ge hm
  unfold t_l_cuttings_cac1
  refine dSeq_open fun B hB => ?_
  walk_at "rd"
  rw [← hB]
  clear hB B
  refine dSeq_open fun B hB => ?_
  refine dwhile_of (fun n r M' => M' = M ∧ ∃ (l : List (List Int)) (e : Int) (t : Option D), r = [some (.int m), some (.lst (l.map tI)), some (.int e), t] ∧ 0 ≤ e ∧ e ≤ 32 ∧ n = (32 - e).toNat ∧ CovX m l (fun _ e' => (e'.natAbs : Int) < e) ∧ (l.length : Int) ≤ 125000 * e) _ ⟨rfl, [], 0, none, rfl, by omega, by omega, rfl, CovX.nil fun _ _ _ _ _ _ h => by omega, by simp⟩ ?_
  rintro n r M' ⟨rfl, l, e, t, rfl, e0, e1, rfl, hcov, hlen⟩
  have be : Bi 10 e := Bi.of_abs 100 (by omega) (by decide)
  walk_at "rd"
  refine ⟨⟨be.sm, be.sm⟩, ?_⟩
  by_cases hlt : e * e < m
  · rw [if_pos hlt]
    have e31 : e ≤ 31 := by
      by_cases z : e ≤ 31
      · exact z
      · have : 32 * 32 ≤ e * e := Int.mul_le_mul (by omega) (by omega) (by decide) (by omega)
        omega
    -- the loop over the shifts
    have loop : ∀ (L : List Int), (∀ x, x ∈ L ↔ (x.natAbs : Int) = e) → L.Nodup → L.length ≤ 2 → ∀ t : Option D, ∀ (E : DEnds), (∀ (l2 : List (List Int)) (t : Option D), CovX m l2 (fun _ e' => (e'.natAbs : Int) < e + 1) → (l2.length : Int) ≤ 125000 * (e + 1) → E.nx [some (.int m), some (.lst (l2.map tI)), some (.int e), t] M') →
        ∃ W : Nat → Env → Mem → Prop, W 0 [some (.int m), some (.lst (l.map tI)), some (.int e), t] M' ∧ ∀ i r M1, W i r M1 → True ∧ ((L.map D.int).length ≤ i → E.nx r M1) ∧ ∀ d, (L.map D.int)[i]? = some d → dName 3 d r M1 fun r1 M2 => (dIfS (dTru (dOp gEq (dOp (rBin CMod fun i j => i.fmod j) (dCB gInt (dCons (dOp (rBin (fun _ _ => True) fun i j => i - j) (dVar 0) (dVar 2)) dNil)) (dC (.int 2))) (dC (.int 0)))) (dAsg (dOp gAdd (dVar 1) (dCall 2 sp_lwith [] DX0 (dCons (dVar 0) (dCons (dVar 3) dNil)))) (dName 1)) dNext) { nx := W (i + 1), rt := E.rt, bk := E.nx, ct := W (i + 1) } r1 M2 := by
      intro L hL hnd hl2 t E hE
      refine ⟨fun i r M1 => M1 = M' ∧ i ≤ L.length ∧ ∃ (l2 : List (List Int)) (t : Option D), r = [some (.int m), some (.lst (l2.map tI)), some (.int e), t] ∧ CovX m l2 (fun _ e' => (e'.natAbs : Int) < e ∨ e' ∈ L.take i) ∧ (l2.length : Int) ≤ 125000 * e + 62500 * i, ⟨rfl, by omega, l, t, rfl, hcov.iff fun _ _ _ e' _ _ => by simp, by omega⟩, ?_⟩
      rintro i r M1 ⟨rfl, hi, l2, t, rfl, hcov2, hlen2⟩
      refine ⟨trivial, fun hli => ?_, fun d hd => ?_⟩
      · rw [List.length_map] at hli
        refine hE l2 t (hcov2.iff fun a b c e' h1 h2 => ?_) (by omega)
        rw [List.take_of_length_le hli, hL]
        omega
      · rw [List.getElem?_map] at hd
        obtain ⟨s, hs, rfl⟩ := Option.map_eq_some_iff.mp hd
        have his : i < L.length := (List.getElem?_eq_some_iff.mp hs).1
        have hsm : s ∈ L := List.mem_of_getElem? hs
        have hse := (hL s).mp hsm
        have ht : L.take (i + 1) = L.take i ++ [s] := by rw [List.take_add_one, hs]; rfl
        have hsn : s ∉ L.take i := by
          intro z
          have := ht ▸ (List.Sublist.nodup (List.take_sublist (i + 1) L) hnd)
          have := List.nodup_append.mp this
          exact this.2.2 s z s (by simp) rfl
        walk_at "rd"
        refine ⟨(by decide : (2 : Int) ≠ 0), ?_⟩
        rw [fmod_pos (show (0 : Int) < 2 by decide)]
        by_cases hpar : (m - e) % 2 = 0
        · rw [if_pos hpar]
          have hss : s * s = e * e := by
            rcases (by omega : s = e ∨ s = -e) with z | z <;> rw [z]
            rw [Int.neg_mul_neg]
          refine ⟨m, s, rfl, h1000, by omega, by omega, by rw [hss]; omega, meas_mod hm (by omega), fun l3 hc3 hl3 => ?_⟩
          dsimp only
          refine ⟨by rw [List.length_map, List.length_map]; omega, ?_⟩
          rw [← List.map_append]
          have hcov3 := hcov2.app hc3 (fun c e' h1 h2 => by
            subst h2
            rcases h1 with h1 | h1
            · omega
            · exact hsn h1)
          have hcov4 : CovX m (l2 ++ l3) (fun _ e' => (e'.natAbs : Int) < e ∨ e' ∈ L.take (i + 1)) := hcov3.iff fun a b c e' h1 h2 => by
            rw [ht, List.mem_append, List.mem_singleton]
            constructor
            · rintro (h | h | h)
              · exact .inl (.inl h)
              · exact .inl (.inr h)
              · exact .inr h
            · rintro ((h | h) | h)
              · exact .inl h
              · exact .inr (.inl h)
              · exact .inr (.inr h)
          refine ⟨rfl, by omega, l2 ++ l3, _, rfl, hcov4, ?_⟩
          rw [List.length_append]
          omega
        · rw [if_neg hpar]
          have hcov4 : CovX m l2 (fun _ e' => (e'.natAbs : Int) < e ∨ e' ∈ L.take (i + 1)) := hcov2.iff fun a b c e' h1 h2 => by
            rw [ht, List.mem_append, List.mem_singleton]
            have h3 := meas_par (a := a) (b := b) (c := c) (e := e')
            rw [h2] at h3
            have : e' ≠ s := by
              intro z
              omega
            simp [this]
          first | exact ⟨rfl, by omega, l2, _, rfl, hcov4, by omega⟩ | exact ⟨by omega, l2, _, rfl, hcov4, by omega⟩
    by_cases hp : 0 < e
    · rw [if_pos hp]
      refine loop [e, 0 - e] (fun x => ?_) ?_ (by simp) t _ fun l2 t h1 h2 => ?_
      · simp only [List.mem_cons, List.not_mem_nil, or_false]
        omega
      · simp
        omega
      · walk_at "rd"
        exact ⟨(32 - (e + 1)).toNat, by omega, l2, e + 1, t, rfl, by omega, by omega, rfl, h1, h2⟩
    · rw [if_neg hp]
      have ez : e = 0 := by omega
      refine loop [0] (fun x => ?_) (by simp) (by simp) t _ fun l2 t h1 h2 => ?_
      · simp only [List.mem_cons, List.not_mem_nil, or_false]
        omega
      · walk_at "rd"
        exact ⟨(32 - (e + 1)).toNat, by omega, l2, e + 1, t, rfl, by omega, by omega, rfl, h1, h2⟩
  · rw [if_neg hlt, ← hB]
    walk_at "rd"
    refine gSorted_tI hcov.len4 (by decide) fun l' pm sd => rtq (q l' (AllC.of hcov (fun a b c e' h1 h2 => ?_) (by omega) pm sd)) (below_tIs l')
    have h3 := (cut_le h1).2.2.2.2.2.2
    rw [h2] at h3
    by_cases z : (e'.natAbs : Int) < e
    · exact z
    · have : e * e ≤ (e'.natAbs : Int) * (e'.natAbs : Int) := Int.mul_le_mul (by omega) (by omega) e0 (by omega)
      rw [← Int.natCast_mul, Int.natAbs_mul_self] at this
      omega
end DL
namespace DL
open PySem PySem.Spec PyProof.Rows L2
local macro_rules | `(tactic| walk_at "rd") => `(tactic| simp only [startD, List.map, List.replicate, List.length_cons, List.length_nil, List.append_eq, List.append_nil, List.nil_append, List.cons_append, Nat.reduceSub, Nat.reduceAdd, List.getElem?_cons_zero, List.getElem?_cons_succ, List.set_cons_zero, List.set_cons_succ,
  dC, dVar, dOp, dTru, gTru, tru, dChain, dAnd, dOr, dNot, dAndV, dOrV, dNotV, dIf, dNeg, gNeg, dNil, dCons, dTup, dLst, dOwn, gIx, rBin, gAdd, gCmpI, dCall, dCallK, dSeq, dNext, dDrop, dRet, dRetN, dIfS, dName, dGNil, dGCons, dGTup, dSub, gSetL, dAsg, dPar, dPar3, dAug, gIpI, dSeqI, gSeqI, dRngI, gRng1, gRng2, dCB, gAbs, gInt, gMax, gMin, gGcd, gLen, lenD, gIsi, tyM, tyD, dBits, gBits, dMet, gAppend, dPart, dNoPart, dSl, gSl_tup, gSl_lst, cut_1, dEnds, gIs, isB, dNever, dFor, dLc, wipeD, dYes,
  sizeLine_eq, Nat.reduceLeDiff, gEq_int, gNe_int, gEq_strs, gNe_strs, gIn_two, gRepr_bl, rs_lst, rs_tup, rs_scr, rs_int, atI_0, atI_1, atI_2, atI_3, atI_4, atI_5, ixN_30, ixN_31, ixN_32, gEq_bl, gNe_bl, decide_eq_true_eq, beq_iff_eq, Bool.not_eq_true', beq_eq_false_iff_ne, decide_eq_false_iff_not, Bool.not_true, Bool.not_false, if_true, if_false, Bool.false_eq_true, ite_true, ite_false, true_and, and_true, ne_eq, Bool.bne_false, Bool.bne_true, reduceCtorEq])
local macro_rules | `(tactic| walk_at "rh") => `(tactic| simp only [*, startD, List.map, List.replicate, List.length_cons, List.length_nil, List.append_eq, List.append_nil, List.nil_append, List.cons_append, Nat.reduceSub, Nat.reduceAdd, List.getElem?_cons_zero, List.getElem?_cons_succ, List.set_cons_zero, List.set_cons_succ,
  dC, dVar, dOp, dTru, gTru, tru, dChain, dAnd, dOr, dNot, dAndV, dOrV, dNotV, dIf, dNeg, gNeg, dNil, dCons, dTup, dLst, dOwn, gIx, rBin, gAdd, gCmpI, dCall, dCallK, dSeq, dNext, dDrop, dRet, dRetN, dIfS, dName, dGNil, dGCons, dGTup, dSub, gSetL, dAsg, dPar, dPar3, dAug, gIpI, dSeqI, gSeqI, dRngI, gRng1, gRng2, dCB, gAbs, gInt, gMax, gMin, gGcd, gLen, lenD, gIsi, tyM, tyD, dBits, gBits, dMet, gAppend, dPart, dNoPart, dSl, gSl_tup, gSl_lst, cut_1, dEnds, gIs, isB, dNever, dFor, dLc, wipeD, dYes,
  sizeLine_eq, Nat.reduceLeDiff, gEq_int, gNe_int, gEq_strs, gNe_strs, gIn_two, gRepr_bl, rs_lst, rs_tup, rs_scr, rs_int, atI_0, atI_1, atI_2, atI_3, atI_4, atI_5, ixN_30, ixN_31, ixN_32, gEq_bl, gNe_bl, decide_eq_true_eq, beq_iff_eq, Bool.not_eq_true', beq_eq_false_iff_ne, decide_eq_false_iff_not, Bool.not_true, Bool.not_false, if_true, if_false, Bool.false_eq_true, ite_true, ite_false, true_and, and_true, ne_eq, Bool.bne_false, Bool.bne_true, reduceCtorEq])
local macro_rules | `(tactic| walk_at "kb") => `(tactic| simp only [kb_NoneType_list, kb_bool_list, kb_int_list, kb_str_list, kb_tuple_list, kb_list_list, kb_dict_list, kb_NoneType_int, kb_bool_int, kb_int_int, kb_str_int, kb_tuple_int, kb_list_int, kb_dict_int, kb_NoneType_bool, kb_bool_bool, kb_int_bool, kb_str_bool, kb_tuple_bool, kb_list_bool, kb_dict_bool, kb_NoneType_tuple, kb_bool_tuple, kb_int_tuple, kb_str_tuple, kb_tuple_tuple, kb_list_tuple, kb_dict_tuple, if_true, if_false, Bool.false_eq_true, ite_true, ite_false, Bool.not_true, Bool.not_false])
/-! ### a drawn cutting of a small measure -/
theorem allC_pos {m : Int} {l : List (List Int)} (hm : isMeas (.int m) = true) (h : AllC m l) : 0 < l.length := by
  obtain ⟨x0, hx0⟩ := cut_some hm
  exact List.length_pos_of_mem ((h.mem x0).mpr hx0)
theorem allC_atI {m : Int} {l : List (List Int)} (h : AllC m l) {v : Int} (h0 : 0 ≤ v) (h1 : v < (l.length : Nat)) : ∃ a b c e, atI (l.map tI) v = some (T4 a b c e) ∧ isCut a b c e = true ∧ meas4 b c e = m ∧ [a, b, c, e] ∈ l := by
  obtain ⟨d, hd, ed⟩ := atI_any (l := l.map tI) h0 (by rw [List.length_map]; exact h1)
  obtain ⟨x, hx, rfl⟩ := List.mem_map.mp hd
  obtain ⟨a, b, c, e, rfl, h2, h3⟩ := (h.mem x).mp hx
  exact ⟨a, b, c, e, ed, h2, h3, hx⟩
def sp_lsmall : DSp := fun ds M Q _ => ∃ (k : Nat) (n : Int), ds = [.own k] ∧ Gn k n M ∧ n ≤ P40 - 400 ∧
  ∀ m a b c e l M', isMeas (.int m) = true → m ≤ 200 → AllC m l → isCut a b c e = true → meas4 b c e = m → Gst k (n + 120) M M' → Q (.tup [T4 a b c e, .lst (l.map tI)]) M'
theorem rd_l_small_f084 : ∀ ds M Q, ds.length = 1 → sp_lsmall ds M Q DX0 → t_l_small_f084 sp_random sp_lcuts (dEnds M Q) (startD 3 ds) M := by
  rintro _ M Q - ⟨k, n, rfl, hg, hn, h⟩
  unfold t_l_small_f084
  refine dSeq_open fun B hB => ?_
  walk_at "rd"
  refine ⟨k, 140, n, rfl, by decide, lt900 (by decide), hg, by omega, fun v M1 v0 v1 g1 => ?_⟩
  dsimp only
  rw [← hB]
  clear hB B
  refine dSeq_open fun B hB => ?_
  walk_at "rd"
  refine ⟨(by decide : (4 : Int) ≠ 0), k, 2, _, rfl, by decide, lt900 (by decide), g1.2.1, by omega, fun v' M2 v0' v1' g2 => ?_⟩
  dsimp only
  rw [fmod_pos (show (0 : Int) < 4 by decide)]
  rw [← hB]
  clear hB B
  have hmm : ∃ m : Int, (if 5 > 5 + v - (5 + v) % 4 + v' then 5 else 5 + v - (5 + v) % 4 + v') = m ∧ isMeas (.int m) = true ∧ m ≤ 200 := by
    refine ⟨_, rfl, ?_, ?_⟩
    · split
      · decide
      · rename_i h5
        simp only [isMeas, decide_eq_true (show 5 ≤ 5 + v - (5 + v) % 4 + v' by omega), Bool.true_and, Bool.or_eq_true, beq_iff_eq]
        omega
    · split <;> omega
  obtain ⟨m, em, hm, hm2⟩ := hmm
  refine dSeq_open fun B hB => ?_
  walk_at "rd"
  rw [em]
  refine ⟨m, rfl, hm, by omega, fun l hl => ?_⟩
  rw [← hB]
  clear hB B
  have hpos := allC_pos hm hl
  have hlen := hl.len
  walk_at "rd"
  refine ⟨k, _, _, rfl, by rw [List.length_map]; omega, lt900 (by rw [List.length_map]; omega), g2.2.1, by omega, fun v2 M3 v20 v21 g3 => ?_⟩
  rw [List.length_map] at v21
  obtain ⟨a1, b1, c1, e1, ea, hc1, hm1, _⟩ := allC_atI hl v20 v21
  dsimp only
  rw [ea]
  dsimp only
  have g4 := (g1.trans (g2.trans g3)).le (m := n + 120) (by omega)
  refine g4.rtq (h m a1 b1 c1 e1 l M3 hm hm2 hl hc1 hm1 g4) ?_
  show (true && (belowAll _ (l.map tI) && true)) = true
  rw [below_tIs]
  rfl
/-! ### all deeds of a cutting -/
theorem allowed_mono {b c e q q' : Int} (hb : 1 ≤ b) (hc : 1 ≤ c) (h1 : 1 ≤ q) (h2 : q ≤ q') (h : 0 < b - q' * e - q' * q' * c) : 0 < b - q * e - q * q * c := by
  have e1 : q' * (b - q * e - q * q * c) = q * (b - q' * e - q' * q' * c) + (q' - q) * b + q * q' * (q' - q) * c := by grind
  have p1 : 0 < q * (b - q' * e - q' * q' * c) := Int.mul_pos (by omega) h
  have p2 : 0 ≤ (q' - q) * b := Int.mul_nonneg (by omega) (by omega)
  have p3 : 0 ≤ q * q' * (q' - q) * c := Int.mul_nonneg (Int.mul_nonneg (Int.mul_nonneg (by omega) (by omega)) (by omega)) (by omega)
  by_cases z : 0 < b - q * e - q * q * c
  · exact z
  · have : q' * (b - q * e - q * q * c) ≤ 0 := Int.mul_nonpos_of_nonneg_of_nonpos (by omega) (by omega)
    omega
def CovD (b c e : Int) (l : List (List Int)) (k : Int) : Prop := l.Nodup ∧ ∀ x, x ∈ l ↔ ∃ p q, x = [p, q] ∧ isDeed b c e p q = true ∧ q < k
/-- the deeds with a told second number -/
def rowD (N : Nat) (q : Int) : List (List Int) := (List.range N).filterMap fun (i : Nat) => if (Int.gcd (i : Int) q : Int) = 1 then some [(i : Int), q] else none
theorem rowD_mem {N : Nat} {q : Int} {x : List Int} : x ∈ rowD N q ↔ ∃ i : Nat, i < N ∧ (Int.gcd (i : Int) q : Int) = 1 ∧ x = [(i : Int), q] := by
  unfold rowD
  rw [List.mem_filterMap]
  constructor
  · rintro ⟨i, hi, h⟩
    by_cases hc : (Int.gcd (i : Int) q : Int) = 1
    · rw [if_pos hc] at h
      exact ⟨i, List.mem_range.mp hi, hc, (Option.some.inj h).symm⟩
    · rw [if_neg hc] at h; cases h
  · rintro ⟨i, hi, hc, rfl⟩
    exact ⟨i, List.mem_range.mpr hi, by rw [if_pos hc]⟩
theorem rowD_len {N : Nat} {q : Int} : (rowD N q).length ≤ N := Nat.le_trans (List.length_filterMap_le _ _) (by rw [List.length_range]; omega)
theorem rowD_nodup {N : Nat} {q : Int} : (rowD N q).Nodup := by
  unfold rowD
  refine List.Pairwise.filterMap _ (fun a a' (hne : a ≠ a') x hx y hy => ?_) List.nodup_range
  by_cases h1 : (Int.gcd (a : Int) q : Int) = 1
  · by_cases h2 : (Int.gcd (a' : Int) q : Int) = 1
    · rw [if_pos h1] at hx
      rw [if_pos h2] at hy
      cases hx; cases hy
      intro z
      have := List.cons.inj z
      omega
    · rw [if_neg h2] at hy; cases hy
  · rw [if_neg h1] at hx; cases hx
theorem CovD.step {b c e k : Int} {l : List (List Int)} (h : CovD b c e l k) (hk : 1 ≤ k) (ha : 0 < b - k * e - k * k * c) : CovD b c e (l ++ rowD (k * (c / (Int.gcd b c : Int))).toNat k) (k + 1) := by
  refine ⟨List.nodup_append.mpr ⟨h.1, rowD_nodup, fun x hx y hy z => ?_⟩, fun x => ?_⟩
  · subst z
    obtain ⟨p, q, rfl, _, h3⟩ := (h.2 x).mp hx
    obtain ⟨i, _, _, h4⟩ := rowD_mem.mp hy
    cases h4
    omega
  · rw [List.mem_append, h.2, rowD_mem]
    constructor
    · rintro (⟨p, q, rfl, h1, h2⟩ | ⟨i, h1, h2, rfl⟩)
      · exact ⟨p, q, rfl, h1, by omega⟩
      · exact ⟨i, k, rfl, isDeed_mk ⟨hk, ha, by omega, by omega⟩ (by omega), by omega⟩
    · rintro ⟨p, q, rfl, h1, h2⟩
      by_cases z : q < k
      · exact .inl ⟨p, q, rfl, h1, z⟩
      · have : q = k := by omega
        subst this
        obtain ⟨⟨q1, q2, q3, q4⟩, q5⟩ := isDeed_parts h1
        exact .inr ⟨p.toNat, by omega, by rw [Int.toNat_of_nonneg q3]; omega, by rw [Int.toNat_of_nonneg q3]⟩
structure AllD (b c e : Int) (l : List (List Int)) : Prop where
  nd : l.Nodup
  mem : ∀ x, x ∈ l ↔ ∃ p q, x = [p, q] ∧ isDeed b c e p q = true
  srt : LSorted l
  len : l.length ≤ 10000000
theorem AllD.uniq {b c e : Int} {l l' : List (List Int)} (h : AllD b c e l) (g : AllD b c e l') : l = l' := sorted_one h.nd g.nd (fun x => (h.mem x).trans (g.mem x).symm) h.srt g.srt
theorem CovD.len2 {b c e k : Int} {l : List (List Int)} (h : CovD b c e l k) : ∀ x ∈ l, x.length = 2 := fun x hx => by
  obtain ⟨p, q, rfl, _⟩ := (h.2 x).mp hx
  rfl
theorem AllD.of {b c e k : Int} {l l' : List (List Int)} (hb : 1 ≤ b) (hc : 1 ≤ c) (hk : 1 ≤ k) (h : CovD b c e l k) (hn : ¬ 0 < b - k * e - k * k * c) (hl : l.length ≤ 10000000) (pm : l'.Perm l) (sd : LSorted l') : AllD b c e l' := by
  refine ⟨(pm.nodup_iff).mpr h.1, fun x => ?_, sd, by rw [pm.length_eq]; exact hl⟩
  rw [pm.mem_iff, h.2]
  constructor
  · rintro ⟨p, q, rfl, h1, _⟩; exact ⟨p, q, rfl, h1⟩
  · rintro ⟨p, q, rfl, h1⟩
    refine ⟨p, q, rfl, h1, ?_⟩
    by_cases z : q < k
    · exact z
    · exact (hn (allowed_mono hb hc hk (by omega) (isDeed_parts h1).1.al)).elim
/-- sizes at measures to 600 -/
theorem cut600 {a b c e : Int} (h : isCut a b c e = true) (hm : meas4 b c e ≤ 600) : 0 ≤ a ∧ 1 ≤ b ∧ 1 ≤ c ∧ a < c ∧ b ≤ 150 ∧ c ≤ 150 ∧ -24 ≤ e ∧ e ≤ 24 := by
  obtain ⟨k1, k2, k3, k4, k5, k6, _⟩ := isC_small h rfl (by omega)
  have hs := (cut_le h).2.2.2.2.2.2
  refine ⟨k1, k2, k3, k4, by omega, by omega, ?_, ?_⟩
  · by_cases z : -24 ≤ e
    · exact z
    · have : 25 * 25 ≤ (-e) * (-e) := Int.mul_le_mul (by omega) (by omega) (by decide) (by omega)
      rw [Int.neg_mul_neg] at this
      omega
  · by_cases z : e ≤ 24
    · exact z
    · have : 25 * 25 ≤ e * e := Int.mul_le_mul (by omega) (by omega) (by decide) (by omega)
      omega
def sp_lallowed : DSp := fun ds M Q _ => ∃ a b c e q : Int, ds = [T4 a b c e, .int q] ∧ CutB 450 a b c e ∧ Bi 450 q ∧ Q (.bl (decide (0 < b - q * e - q * q * c))) M
theorem rd_l_allowed_c76c : ∀ ds M Q, ds.length = 2 → sp_lallowed ds M Q DX0 → t_l_allowed_c76c (dEnds M Q) (startD 6 ds) M := by
  rintro _ M Q - ⟨a, b, c, e, q, rfl, ⟨ba, bb, bc, be⟩, bq, h⟩
  unfold t_l_allowed_c76c
  walk_at "rd"
  exact ⟨⟨bq.sm, be.sm⟩, ⟨bq.sm, bq.sm⟩, ⟨(bq.mul bq).sm, bc.sm⟩, rtq h⟩
theorem rd_allowed_by : ∀ ds M Q, ds.length = 2 → sp_lallowed ds M Q DX0 → t_allowed_by (dEnds M Q) (startD 6 ds) M := rd_l_allowed_c76c
def sp_ldeeds : DSp := fun ds M Q _ => ∃ a b c e : Int, ds = [T4 a b c e] ∧ isCut a b c e = true ∧ meas4 b c e ≤ 600 ∧ ∀ l, AllD b c e l → Q (.lst (l.map tI)) M
theorem rd_l_deeds_faf6 : ∀ ds M Q, ds.length = 1 → sp_ldeeds ds M Q DX0 → t_l_deeds_faf6 sp_gcd sp_lallowed (dEnds M Q) (startD 5 ds) M := by
  rintro _ M Q - ⟨a, b, c, e, rfl, hcut, hm, q⟩
  unfold t_l_deeds_faf6
  obtain ⟨k1, k2, k3, k4, k5, k6, k7, k8⟩ := cut600 hcut hm
  obtain ⟨l1, l2⟩ := lot_le (b := b) k3
  have G0 : 0 < (Int.gcd b c : Int) := by
    have := Int.gcd_pos_of_ne_zero_right b (show c ≠ 0 by omega)
    omega
  have gc : (Int.gcd b c : Int) ≤ c := Int.le_of_dvd (by omega) (Int.gcd_dvd_right _ _)
  have cb : CutB 450 a b c e := ⟨Bi.of_abs 1000 (by omega) (by decide), Bi.of_abs 1000 (by omega) (by decide), Bi.of_abs 1000 (by omega) (by decide), Bi.of_abs 1000 (by omega) (by decide)⟩
  have hrow : ∀ (k : Int) (l : List (List Int)), CovD b c e l k → 1 ≤ k → 0 < b - k * e - k * k * c → CovD b c e (l ++ rowD (k * (c / (Int.gcd b c : Int))).toNat k) (k + 1) := fun k l h h1 h2 => h.step h1 h2
  refine dSeq_open fun B hB => ?_
  walk_at "rd"
  refine ⟨b, c, rfl, ⟨by omega, Nat.lt_of_lt_of_le (log2_of 10 (by omega) (by decide)) (by decide)⟩, ?_⟩
  rw [fdiv_pos G0]
  generalize hlot : c / (Int.gcd b c : Int) = lot at *
  have blot : Bi 10 lot := Bi.of_abs 300 (by omega) (by decide)
  rw [← hB]
  clear hB B
  refine dSeq_open fun B hB => ?_
  refine dwhile_of (fun n r M' => M' = M ∧ ∃ (l : List (List Int)) (q : Int), r = [some (T4 a b c e), some (.lst (l.map tI)), some (.int q), some (.int lot), none] ∧ 1 ≤ q ∧ q ≤ 175 ∧ n = (175 - q).toNat ∧ CovD b c e l q ∧ (l.length : Int) ≤ 26250 * (q - 1)) _ ⟨rfl, [], 1, rfl, by omega, by omega, rfl, ⟨List.nodup_nil, fun x => ⟨fun h => (by cases h), ?_⟩⟩, by simp⟩ ?_
  · rintro ⟨p, q, rfl, h1, h2⟩
    have := (isDeed_parts h1).1.q1
    omega
  rintro n r M' ⟨rfl, l, q', rfl, q1, q2, rfl, hcov, hlen⟩
  have bq : Bi 10 q' := Bi.of_abs 200 (by omega) (by decide)
  walk_at "rd"
  refine ⟨a, b, c, e, q', rfl, cb, bq.mono, ?_⟩
  dsimp only
  by_cases hal : 0 < b - q' * e - q' * q' * c
  · rw [if_pos (by simpa using hal)]
    have hq := deed_q k2 k3 q1 hal
    have hst := hrow q' l hcov q1 hal
    have hle : q' * lot ≤ 175 * 150 := Int.mul_le_mul (by omega) (by omega) (by omega) (by decide)
    have hge : 0 ≤ q' * lot := Int.mul_nonneg (by omega) (by omega)
    refine ⟨⟨bq.sm, blot.sm⟩, ?_⟩
    generalize hN : q' * lot = N at *
    refine ⟨⟨by omega, by omega⟩, ?_⟩
    refine lcW_pure (fun d => match d with | .int p => if (Int.gcd p q' : Int) = 1 then some (.tup [.int p, .int q']) else none | _ => none) trivial (by rw [rng_len, sizeLine_eq]; omega) (fun d hd Y N' hy => ?_) ?_
    · obtain ⟨i2, hi2'⟩ := List.mem_iff_getElem?.mp hd
      obtain ⟨hi3, rfl⟩ := rng_get.mp hi2'
      walk_at "rd"
      refine ⟨_, q', rfl, ?_⟩
      dsimp only at hy ⊢
      rw [gEq_int]
      dsimp only
      by_cases hg : (Int.gcd (0 + (i2 : Int)) q' : Int) = 1
      · rw [if_pos hg] at hy
        rw [if_pos (by simpa using hg)]
        exact hy
      · rw [if_neg hg] at hy
        rw [if_neg (by simpa using hg)]
        exact hy
    · rw [rng_fm (g := fun i => if (Int.gcd (i : Int) q' : Int) = 1 then some [(i : Int), q'] else none) (fun i => by
        show (if (Int.gcd (0 + (i : Int)) q' : Int) = 1 then some (D.tup [.int (0 + (i : Int)), .int q']) else none) = _
        rw [Int.zero_add]
        split <;> rfl)]
      have hl3 := rowD_len (N := N.toNat) (q := q')
      show _ ∧ _
      have hl3' : (List.filterMap (fun i : Nat => if (Int.gcd (i : Int) q' : Int) = 1 then some [(i : Int), q'] else none) (List.range N.toNat)).length ≤ N.toNat := hl3
      refine ⟨by rw [List.length_map, List.length_map]; omega, ?_⟩
      rw [← List.map_append]
      refine ⟨(175 - (q' + 1)).toNat, by omega, rfl, l ++ rowD N.toNat q', q' + 1, rfl, by omega, by omega, rfl, hst, ?_⟩
      rw [List.length_append]
      omega
  · rw [if_neg (by simpa using hal), ← hB]
    walk_at "rd"
    exact gSorted_tI hcov.len2 (by decide) fun l' pm sd => rtq (q l' (AllD.of k2 k3 q1 hcov hal (by omega) pm sd)) (below_tIs l')
/-! ### deeds judged -/
def isDeedD (b c e : Int) (d : D) : Bool := match d with
  | .tup [.int p, .int q] => isDeed b c e p q
  | _ => false
theorem isDeedD_notup {b c e : Int} {d : D} (h : ∀ l, d ≠ .tup l) : isDeedD b c e d = false := by
  cases d <;> first | rfl | exact absurd rfl (h _)
theorem isDeedD_len {b c e : Int} {l : List D} (h : l.length ≠ 2) : isDeedD b c e (.tup l) = false := by
  unfold isDeedD
  split
  · rename_i z; cases z; exact absurd rfl h
  · rfl
theorem isDeedD_bad {b c e : Int} {l : List D} (h : ∃ x ∈ l, isW x = false) : isDeedD b c e (.tup l) = false := by
  unfold isDeedD
  split
  · rename_i z
    cases z
    obtain ⟨x, hx, hw⟩ := h
    simp only [List.mem_cons, List.not_mem_nil, or_false] at hx
    rcases hx with rfl | rfl <;> cases hw
  · rfl
theorem len2 {l : List D} (h : l.length = 2) : ∃ a b, l = [a, b] := by
  match l, h with
  | [a, b], _ => exact ⟨a, b, rfl⟩
def sp_round_of : DSp := fun ds M Q _ => ∃ a b c e : Int, ds = [T4 a b c e] ∧ 1 ≤ c ∧ Bi 1000 c ∧ Q (.int (c / (Int.gcd b c : Int))) M
theorem rd_round_of : ∀ ds M Q, ds.length = 1 → sp_round_of ds M Q DX0 → t_round_of (dEnds M Q) (startD 1 ds) M := by
  rintro _ M Q - ⟨a, b, c, e, rfl, c1, bc, q⟩
  unfold t_round_of
  walk_at "rd"
  have G0 : 0 < (Int.gcd b c : Int) := by
    have := Int.gcd_pos_of_ne_zero_right b (show c ≠ 0 by omega)
    omega
  have bG : Bi 1000 (Int.gcd b c : Int) := bc.of_dvd' (by omega) (Int.gcd_dvd_right _ _)
  rw [← fdiv_pos G0] at q
  exact ⟨⟨by omega, Nat.lt_of_lt_of_le (log2_of 1000 bG (by decide)) (by decide)⟩, rtq q⟩
def sp_is_deed_by : DSp := fun ds M Q _ => ∃ (a b c e : Int) (d : D), ds = [T4 a b c e, d] ∧ 1 ≤ c ∧ CutB 450 a b c e ∧ Askable 2 M d ∧ (∀ p q, d = .tup [.int p, .int q] → Bi 450 q) ∧ Q (.bl (isDeedD b c e d)) M
theorem odd_part {d : D} {T : String} {M : Mem} (ht : tyM M d = some T) {K : Bool → Prop} (h : K (!(isW d))) : (match kitB T "int" with | some b => if b = false then K true else (match kitB T "bool" with | some b2 => K b2 | none => False) | none => False) := by
  cases d <;> first | (cases ht; done) | skip
  case own k =>
    unfold tyM at ht
    dsimp only at ht
    split at ht
    · cases ht
      rw [kb_list_int]
      exact h
    · cases ht
  all_goals cases ht
  all_goals simp only [kb_NoneType_int, kb_bool_int, kb_int_int, kb_str_int, kb_tuple_int, kb_list_int, kb_dict_int, kb_bool_bool, kb_int_bool]
  all_goals exact h
theorem rd_is_deed_by : ∀ ds M Q, ds.length = 2 → sp_is_deed_by ds M Q DX0 → t_is_deed_by sp_lallowed sp_round_of (dEnds M Q) (startD 5 ds) M := by
  rintro _ M Q - ⟨a, b, c, e, d, rfl, c1, cb, ⟨⟨T, ht⟩, hr⟩, hq, h⟩
  unfold t_is_deed_by
  by_cases htup : ∃ l, d = .tup l
  · obtain ⟨l, rfl⟩ := htup
    refine dSeq_open fun B hB => ?_
    walk_at "rd"
    walk_at "kb"
    by_cases h2 : l.length = 2
    · obtain ⟨dp, dq, rfl⟩ := len2 h2
      have hr' := hr _ rfl rfl
      rw [if_neg (by decide), if_neg (fun z => z rfl), ← hB]
      clear hB B
      refine dSeq_open fun B hB => ?_
      walk_at "rd"
      refine lcW_pure (fun e => if isW e = true then none else some e) trivial (by rw [sizeLine_eq]; exact (by decide : (2 : Nat) ≤ 16777216)) (fun x hx Y N hy => ?_) ?_
      · obtain ⟨_, T', hT⟩ := hr' x hx
        cases x <;> first | (cases hT; done) | skip
        all_goals walk_at "rd"
        case own k =>
          unfold tyM at hT
          dsimp only at hT
          split at hT
          · rename_i ds hk
            simp only [hk]
            walk_at "kb"
            exact hy
          · cases hT
        all_goals walk_at "kb"
        all_goals exact hy
      · refine gNe_nil' (n := 40) (bads_fine fun e he => (hr' e he).1) ?_
        show if (!(bads [dp, dq]).isEmpty) = true then _ else _
        cases hb : (bads [dp, dq]).isEmpty with
        | false =>
          rw [if_pos (by decide)]
          rw [isDeedD_bad (bads_some hb)] at h
          exact rtq h
        | true =>
          rw [if_neg (by decide), ← hB]
          clear hB B
          have hw := bads_nil hb
          obtain ⟨p, rfl⟩ := isW_iff.mp (hw dp (by simp))
          obtain ⟨q, rfl⟩ := isW_iff.mp (hw dq (by simp))
          have bq := hq p q rfl
          replace h : Q (.bl (isDeed b c e p q)) M := h
          have fin : ∀ v, v = isDeed b c e p q → Rtq M Q (.bl v) M := by rintro _ rfl; exact rtq h
          obtain ⟨l1, l2⟩ := lot_le (b := b) c1
          have bl : Bi 450 (c / (Int.gcd b c : Int)) := by have := cb.2.2.1; unfold Bi at this ⊢; omega
          walk_at "rd"
          by_cases h1 : q < 1
          · rw [if_pos h1]
            exact fin _ (by unfold isDeed; rw [decide_eq_false (show ¬ 1 ≤ q by omega)]; rfl)
          · rw [if_neg h1]
            have e1 := decide_eq_true (show 1 ≤ q by omega)
            refine ⟨a, b, c, e, q, rfl, cb, bq, ?_⟩
            dsimp only
            by_cases h2 : 0 < b - q * e - q * q * c
            · have e2 := decide_eq_true h2
              rw [e2, if_neg (by decide)]
              by_cases h3 : 0 ≤ p
              · have e3 := decide_eq_true h3
                rw [if_pos h3]
                refine ⟨a, b, c, e, rfl, c1, cb.2.2.1.mono, ?_⟩
                dsimp only
                refine ⟨⟨bq.sm, bl.sm⟩, ?_⟩
                by_cases h4 : p < q * (c / (Int.gcd b c : Int))
                · have e4 := decide_eq_true h4
                  rw [if_neg (fun z => z h4)]
                  exact fin _ (by unfold isDeed; rw [e1, e2, e3, e4]; rfl)
                · rw [if_pos h4]
                  exact fin _ (by unfold isDeed; rw [e1, e2, e3, decide_eq_false h4]; rfl)
              · rw [if_neg h3, if_pos h3]
                exact fin _ (by unfold isDeed; rw [e1, e2, decide_eq_false h3]; rfl)
            · have e2 := decide_eq_false h2
              rw [e2, if_pos (by decide)]
              exact fin _ (by unfold isDeed; rw [e1, e2]; rfl)
    · rw [if_neg (by decide), if_pos (by intro z; apply h2; omega)]
      rw [isDeedD_len h2] at h
      exact rtq h
  · have h' : Q (.bl false) M := by rwa [isDeedD_notup fun l z => htup ⟨l, z⟩] at h
    cases d <;> first | exact absurd ⟨_, rfl⟩ htup | (cases ht; done) | skip
    all_goals walk_at "rd"
    case own k =>
      unfold tyM at ht
      dsimp only at ht
      split at ht
      · rename_i ds hk
        simp only [hk]
        walk_at "kb"
        exact rtq h'
      · cases ht
    all_goals walk_at "kb"
    all_goals exact rtq h'
/-- check_deed of a deed -/
def sp_check_deed : DSp := fun ds M Q _ => ∃ a b c e p q : Int, ds = [T4 a b c e, .tup [.int p, .int q]] ∧ isCut a b c e = true ∧ CutB 450 a b c e ∧ Bi 450 q ∧ isDeed b c e p q = true ∧ Q .non M
theorem rd_check_deed : ∀ ds M Q, ds.length = 2 → sp_check_deed ds M Q DX0 → t_check_deed sp_check_cutting sp_is_deed_by (dEnds M Q) (startD 2 ds) M := by
  rintro _ M Q - ⟨a, b, c, e, p, q, rfl, hcut, cb, bq, hd, h⟩
  unfold t_check_deed
  walk_at "rd"
  refine ⟨a, b, c, e, rfl, hcut, a, b, c, e, _, rfl, (cut_parts hcut).2.1, cb, ask_fine M rfl, fun p' q' z => (by cases z; exact bq), ?_⟩
  rw [show isDeedD b c e (.tup [.int p, .int q]) = true from hd]
  walk_at "rd"
  exact rtq h
def sp_done : DSp := fun ds M Q _ => ∃ a b c e p q : Int, ds = [T4 a b c e, .tup [.int p, .int q]] ∧ isCut a b c e = true ∧ CutB 450 a b c e ∧ Bi 450 p ∧ Bi 450 q ∧ isDeed b c e p q = true ∧
  ∀ a' w g e', IsDone a b c e p q a' w g e' → Q (T4 a' w g e') M
theorem rd_done : ∀ ds M Q, ds.length = 2 → sp_done ds M Q DX0 → t_done sp_check_deed sp_done_by (dEnds M Q) (startD 2 ds) M := by
  rintro _ M Q - ⟨a, b, c, e, p, q, rfl, hcut, cb, bp, bq, hd, h⟩
  unfold t_done
  walk_at "rd"
  have hp := (isDeed_parts hd).1
  exact ⟨a, b, c, e, p, q, rfl, hcut, cb, bq, hd, a, b, c, e, p, q, rfl, hp.q1, (cut_parts hcut).2.1, hp.cp, cb, bp, bq, fun a' w g e' hdn => rtq (h a' w g e' hdn)⟩
/-! ### columns led down -/
def sp_lbeside : DSp := fun ds M Q _ => ∃ p q : Int, ds = [.int p, .int q] ∧ 1 ≤ q ∧ Int.gcd p q = 1 ∧ Bi 450 p ∧ Bi 450 q ∧ ∀ x z : Int, p * z - q * x = 1 → Bi 451 x → Bi 451 z → Q (.tup [.int x, .int z]) M
theorem rd_l_beside_ee64 : ∀ ds M Q, ds.length = 2 → sp_lbeside ds M Q DX0 → t_l_beside_ee64 (dEnds M Q) (startD 9 ds) M := by
  rintro _ M Q - ⟨m, n, rfl, n1, hg, bm, bn, q⟩
  have n0 : 0 < n := by omega
  unfold t_l_beside_ee64
  walk_at "rd"
  have bound : ∀ {x : Int}, -n ≤ x → x ≤ n → Bi 451 x := by
    intro x h1 h2
    have h3 : Bi 451 n := bn.mono
    unfold Bi at h3 ⊢
    omega
  have bound2 : ∀ {x : Int}, x.natAbs ≤ m.natAbs + 1 → Bi 451 x := by
    intro x h1
    unfold Bi at bm ⊢
    rw [Nat.pow_succ 2 450]
    have : 0 < 2 ^ 450 := Nat.pow_pos (by decide)
    omega
  refine dwhile_of (fun k r M' => ∃ low high f s t h : Int, ∃ tn, r = [some (.int m), some (.int n), some (.int low), some (.int high), some (.int (-t)), some (.int f), some (.int (-h)), some (.int s), tn] ∧ M' = M ∧ k = high.toNat ∧ ((low = m ∧ high = n ∧ f = 1 ∧ s = 0 ∧ t = 0 ∧ h = 1) ∨ (Euc m n low high f s t h ∧ low ≤ n ∧ high ≤ n))) _ ⟨m, n, 1, 0, 0, 1, none, rfl, rfl, rfl, .inl ⟨rfl, rfl, rfl, rfl, rfl, rfl⟩⟩ ?_
  rintro k r M' ⟨low, high, f, s, t, h, tn, rfl, rfl, rfl, hh⟩
  walk_at "rd"
  have hpos : high ≠ 0 → 0 < high := by
    intro z
    rcases hh with ⟨_, rfl, _⟩ | ⟨E, _⟩
    · exact n0
    · have := E.h0; omega
  have next : high ≠ 0 → (Euc m n high (low - low / high * high) s (f - low / high * s) h (t - low / high * h) ∧ high ≤ n ∧ low - low / high * high < high ∧ 0 ≤ low - low / high * high) := by
    intro z
    have hp := hpos z
    have rm : low - low / high * high = low % high := by
      have := Int.mul_ediv_add_emod low high
      have e : low / high * high = high * (low / high) := Int.mul_comm _ _
      omega
    have r1 := Int.emod_lt_of_pos low hp
    have r0 := Int.emod_nonneg low z
    rcases hh with ⟨rfl, rfl, rfl, rfl, rfl, rfl⟩ | ⟨E, h1, h2⟩
    · exact ⟨Euc.first n0, Int.le_refl _, by omega, by omega⟩
    · exact ⟨E.step z, h2, by omega, by omega⟩
  by_cases z : high = 0
  · subst z
    rw [if_neg (fun w => w rfl)]
    rcases hh with ⟨_, z, _⟩ | ⟨E, h1, h2⟩
    · omega
    · have eg : low = (Int.gcd m n : Int) := by
        have := E.gc
        rw [← this, gcd_end (Int.le_of_lt E.l0)]
      rw [hg] at eg
      have tb := E.tb n0 h1 h2
      have e1 := E.e1
      refine rtq (q (-t) f ?_ ?_ (bound E.fb.1 E.fb.2))
      · have : m * f - n * -t = f * m + t * n := by grind
        rw [this, ← e1, eg]; rfl
      · have := (bound2 tb.1).neg
        rwa [Int.zero_sub] at this
  · rw [if_pos z]
    have hp := hpos z
    obtain ⟨E, h1, h2, h3⟩ := next z
    have ef : low.fdiv high = low / high := fdiv_pos hp
    rw [ef]
    have bl : Bi 451 low ∧ Bi 451 high ∧ Bi 451 s ∧ Bi 451 h := by
      rcases hh with ⟨rfl, rfl, rfl, rfl, rfl, rfl⟩ | ⟨E, h1, h2⟩
      · exact ⟨bm.mono, bn.mono, Bi.of_abs 0 (by decide) (Nat.pow_pos (by decide)), bound2 (by omega)⟩
      · have tb := E.tb n0 h1 h2
        have l0 := E.l0
        have h0 := E.h0
        exact ⟨bound (by omega) h1, bound (by omega) h2, bound E.sb.1 E.sb.2, bound2 tb.2⟩
    obtain ⟨b1, b2, b3, b4⟩ := bl
    have bk : Bi 451 (low / high) := Nat.lt_of_le_of_lt (Int.natAbs_ediv_le_natAbs _ _) b1
    have b4' : Bi 451 (-h) := by have := b4.neg; rwa [Int.zero_sub] at this
    refine ⟨⟨z, Nat.lt_of_lt_of_le (log2_of 451 b2 (by decide)) (by decide)⟩, ⟨bk.sm, b2.sm⟩, ⟨bk.sm, b3.sm⟩, ⟨bk.sm, b4'.sm⟩, (low - low / high * high).toNat, by omega, high, low - low / high * high, s, f - low / high * s, h, t - low / high * h, some (.int (low / high)), ?_, rfl, .inr ⟨E, h1, by omega⟩⟩
    have : -t - low / high * -h = -(t - low / high * h) := by grind
    rw [this]
end DL
namespace DL
open PySem PySem.Spec PyProof.Rows L2
local macro_rules | `(tactic| walk_at "rd") => `(tactic| simp only [startD, List.map, List.replicate, List.length_cons, List.length_nil, List.append_eq, List.append_nil, List.nil_append, List.cons_append, Nat.reduceSub, Nat.reduceAdd, List.getElem?_cons_zero, List.getElem?_cons_succ, List.set_cons_zero, List.set_cons_succ,
  dC, dVar, dOp, dTru, gTru, tru, dChain, dAnd, dOr, dNot, dAndV, dOrV, dNotV, dIf, dNeg, gNeg, dNil, dCons, dTup, dLst, dOwn, gIx, rBin, gAdd, gCmpI, dCall, dCallK, dSeq, dNext, dDrop, dRet, dRetN, dIfS, dName, dGNil, dGCons, dGTup, dSub, gSetL, dAsg, dPar, dPar3, dAug, gIpI, dSeqI, gSeqI, dRngI, gRng1, gRng2, dCB, gAbs, gInt, gMax, gMin, gGcd, gLen, lenD, gIsi, tyM, tyD, dBits, gBits, dMet, gAppend, dPart, dNoPart, dSl, gSl_tup, gSl_lst, cut_1, dEnds, gIs, isB, dNever, dFor, dLc, wipeD, dYes,
  sizeLine_eq, Nat.reduceLeDiff, gEq_int, gNe_int, gEq_strs, gNe_strs, gIn_two, gRepr_bl, rs_lst, rs_tup, rs_scr, rs_int, atI_0, atI_1, atI_2, atI_3, atI_4, atI_5, ixN_30, ixN_31, ixN_32, gEq_bl, gNe_bl, decide_eq_true_eq, beq_iff_eq, Bool.not_eq_true', beq_eq_false_iff_ne, decide_eq_false_iff_not, Bool.not_true, Bool.not_false, if_true, if_false, Bool.false_eq_true, ite_true, ite_false, true_and, and_true, ne_eq, Bool.bne_false, Bool.bne_true, reduceCtorEq])
local macro_rules | `(tactic| walk_at "rh") => `(tactic| simp only [*, startD, List.map, List.replicate, List.length_cons, List.length_nil, List.append_eq, List.append_nil, List.nil_append, List.cons_append, Nat.reduceSub, Nat.reduceAdd, List.getElem?_cons_zero, List.getElem?_cons_succ, List.set_cons_zero, List.set_cons_succ,
  dC, dVar, dOp, dTru, gTru, tru, dChain, dAnd, dOr, dNot, dAndV, dOrV, dNotV, dIf, dNeg, gNeg, dNil, dCons, dTup, dLst, dOwn, gIx, rBin, gAdd, gCmpI, dCall, dCallK, dSeq, dNext, dDrop, dRet, dRetN, dIfS, dName, dGNil, dGCons, dGTup, dSub, gSetL, dAsg, dPar, dPar3, dAug, gIpI, dSeqI, gSeqI, dRngI, gRng1, gRng2, dCB, gAbs, gInt, gMax, gMin, gGcd, gLen, lenD, gIsi, tyM, tyD, dBits, gBits, dMet, gAppend, dPart, dNoPart, dSl, gSl_tup, gSl_lst, cut_1, dEnds, gIs, isB, dNever, dFor, dLc, wipeD, dYes,
  sizeLine_eq, Nat.reduceLeDiff, gEq_int, gNe_int, gEq_strs, gNe_strs, gIn_two, gRepr_bl, rs_lst, rs_tup, rs_scr, rs_int, atI_0, atI_1, atI_2, atI_3, atI_4, atI_5, ixN_30, ixN_31, ixN_32, gEq_bl, gNe_bl, decide_eq_true_eq, beq_iff_eq, Bool.not_eq_true', beq_eq_false_iff_ne, decide_eq_false_iff_not, Bool.not_true, Bool.not_false, if_true, if_false, Bool.false_eq_true, ite_true, ite_false, true_and, and_true, ne_eq, Bool.bne_false, Bool.bne_true, reduceCtorEq])
local macro_rules | `(tactic| walk_at "kb") => `(tactic| simp only [kb_NoneType_list, kb_bool_list, kb_int_list, kb_str_list, kb_tuple_list, kb_list_list, kb_dict_list, kb_NoneType_int, kb_bool_int, kb_int_int, kb_str_int, kb_tuple_int, kb_list_int, kb_dict_int, kb_NoneType_bool, kb_bool_bool, kb_int_bool, kb_str_bool, kb_tuple_bool, kb_list_bool, kb_dict_bool, kb_NoneType_tuple, kb_bool_tuple, kb_int_tuple, kb_str_tuple, kb_tuple_tuple, kb_list_tuple, kb_dict_tuple, if_true, if_false, Bool.false_eq_true, ite_true, ite_false, Bool.not_true, Bool.not_false])
/-! ### columns of a deed's table, led down -/
def sp_lpairs : DSp := fun ds M Q _ => ∃ p q : Int, ds = [.int p, .int q] ∧ 1 ≤ q ∧ Int.gcd p q = 1 ∧ Bi 450 p ∧ Bi 450 q ∧ ∀ x z : Int, p * z - q * x = 1 → Bi 451 x → Bi 451 z → Q (.lst ([[x, z], [0 - x, 0 - z], [0 - x, z], [x, 0 - z]].map tI)) M
theorem rd_l_pairs_e6d0 : ∀ ds M Q, ds.length = 2 → sp_lpairs ds M Q DX0 → t_l_pairs_e6d0 sp_lbeside (dEnds M Q) (startD 4 ds) M := by
  rintro _ M Q - ⟨p, q, rfl, q1, hg, bp, bq, h⟩
  unfold t_l_pairs_e6d0
  walk_at "rd"
  refine ⟨p, q, rfl, q1, hg, bp, bq, fun x z hxz bx bz => ?_⟩
  walk_at "rd"
  exact rtq (h x z hxz bx bz)
def sp_lcolumns : DSp := fun ds M Q _ => ∃ a b c e p q : Int, ds = [T4 a b c e, .tup [.int p, .int q]] ∧ 1 ≤ q ∧ Int.gcd p q = 1 ∧ CutB 450 a b c e ∧ Bi 450 p ∧ Bi 450 q ∧
  ∀ x z : Int, p * z - q * x = 1 → Bi 451 x → Bi 451 z → Q (.tup [.tup [.int (p * b + q * a), .int (x * b + z * a + e + q * c)], .tup [.int (q * c), .int (z * c)]]) M
theorem rd_l_columns_575c : ∀ ds M Q, ds.length = 2 → sp_lcolumns ds M Q DX0 → t_l_columns_575c sp_lpairs (dEnds M Q) (startD 11 ds) M := by
  rintro _ M Q - ⟨a, b, c, e, p, q, rfl, q1, hg, ⟨ba, bb, bc, be⟩, bp, bq, h⟩
  unfold t_l_columns_575c
  refine dSeq_open fun B hB => ?_
  walk_at "rd"
  rw [← hB]
  clear hB B
  refine dSeq_open fun B hB => ?_
  walk_at "rd"
  rw [← hB]
  clear hB B
  refine dSeq_open fun B hB => ?_
  walk_at "rd"
  refine ⟨p, q, rfl, q1, hg, bp, bq, fun x z hxz bx bz => ?_⟩
  have hL : ∀ y ∈ [[x, z], [0 - x, 0 - z], [0 - x, z], [x, 0 - z]], ∃ u v : Int, y = [u, v] ∧ Bi 451 u ∧ Bi 451 v := by
    intro y hy
    simp only [List.mem_cons, List.not_mem_nil, or_false] at hy
    rcases hy with rfl | rfl | rfl | rfl
    · exact ⟨_, _, rfl, bx, bz⟩
    · exact ⟨_, _, rfl, bx.neg, bz.neg⟩
    · exact ⟨_, _, rfl, bx.neg, bz⟩
    · exact ⟨_, _, rfl, bx, bz.neg⟩
  have hne : ∃ y ∈ [[x, z], [0 - x, 0 - z], [0 - x, z], [x, 0 - z]], ∃ u v : Int, y = [u, v] ∧ p * v - q * u = 1 := ⟨_, List.mem_cons_self, _, _, rfl, hxz⟩
  have hlen : [[x, z], [0 - x, 0 - z], [0 - x, z], [x, 0 - z]].length ≤ 10 := by simp
  generalize [[x, z], [0 - x, 0 - z], [0 - x, z], [x, 0 - z]] = L at hL hne hlen
  dsimp only
  refine lcW_tI (fun y => match y with | [u, v] => if p * v - q * u = 1 then some [u, v] else none | _ => none) trivial (by rw [sizeLine_eq]; omega) (fun y hy Y N hyn => ?_) ?_
  · obtain ⟨u, v, rfl, bu, bv⟩ := hL y hy
    dsimp only at hyn
    show _
    unfold tI
    walk_at "rd"
    refine ⟨⟨bp.sm, bv.sm⟩, ⟨bq.sm, bu.sm⟩, ?_⟩
    by_cases hz : p * v - q * u = 1
    · rw [if_pos hz] at hyn ⊢
      exact hyn
    · rw [if_neg hz] at hyn ⊢
      exact hyn
  · have hres : ∃ u v rest, L.filterMap (fun y : List Int => match y with | [u, v] => if p * v - q * u = 1 then some [u, v] else none | _ => none) = [u, v] :: rest ∧ p * v - q * u = 1 ∧ Bi 451 u ∧ Bi 451 v := by
      cases hf : L.filterMap (fun y : List Int => match y with | [u, v] => if p * v - q * u = 1 then some [u, v] else none | _ => none) with
      | nil =>
        obtain ⟨y, hy, u, v, rfl, huv⟩ := hne
        have := List.filterMap_eq_nil_iff.mp hf _ hy
        simp [huv] at this
      | cons y rest =>
        have hy : y ∈ L.filterMap (fun y : List Int => match y with | [u, v] => if p * v - q * u = 1 then some [u, v] else none | _ => none) := by rw [hf]; exact List.mem_cons_self
        obtain ⟨y0, hy0, h0⟩ := List.mem_filterMap.mp hy
        obtain ⟨u, v, rfl, bu, bv⟩ := hL y0 hy0
        dsimp only at h0
        by_cases hz : p * v - q * u = 1
        · rw [if_pos hz] at h0
          cases h0
          exact ⟨u, v, rest, rfl, hz, bu, bv⟩
        · rw [if_neg hz] at h0; cases h0
    obtain ⟨u, v, rest, e1, huv, bu, bv⟩ := hres
    rw [e1]
    have e2 : atI (([u, v] :: rest).map tI) 0 = some (.tup [.int u, .int v]) := atI_0
    rw [rs_lst]
    dsimp only
    rw [e2]
    walk_at "rd"
    rw [← hB]
    clear hB B
    walk_at "rd"
    refine ⟨⟨bp.sm, bb.sm⟩, ⟨bq.sm, ba.sm⟩, ⟨bu.sm, bb.sm⟩, ⟨bv.sm, ba.sm⟩, ⟨bq.sm, bc.sm⟩, ⟨bq.sm, bc.sm⟩, ⟨bv.sm, bc.sm⟩, rtq (h u v huv bu bv)⟩
def sp_lled : DSp := fun ds M Q _ => ∃ a b c e p q : Int, ds = [T4 a b c e, .tup [.int p, .int q]] ∧ 1 ≤ c ∧ 0 < b - q * e - q * q * c ∧ 0 ≤ p * b + q * a ∧ 1 ≤ q ∧ Int.gcd p q = 1 ∧ CutB 100 a b c e ∧ Bi 100 p ∧ Bi 100 q ∧
  ∀ a' w g e', IsDone a b c e p q a' w g e' → Q (T4 a' w g e') M
theorem rd_l_led_ad47 : ∀ ds M Q, ds.length = 2 → sp_lled ds M Q DX0 → t_l_led_ad47 sp_lcolumns sp_gcd (dEnds M Q) (startD 7 ds) M := by
  rintro _ M Q - ⟨a, b, c, e, p, q, rfl, c1, hal, i0, q1, hg, ⟨ba, bb, bc, be⟩, bp, bq, h⟩
  unfold t_l_led_ad47
  refine dSeq_open fun B hB => ?_
  walk_at "rd"
  refine ⟨a, b, c, e, p, q, rfl, q1, hg, ⟨ba.mono, bb.mono, bc.mono, be.mono⟩, bp.mono, bq.mono, fun x z hxz bx bz => ?_⟩
  walk_at "rd"
  rw [← hB]
  clear hB B
  have j0 : 0 < q * c := Int.mul_pos (by omega) (by omega)
  have bi : Bi 201 (p * b + q * a) := (bp.mul bb).add (bq.mul ba)
  have bj : Bi 200 (q * c) := bq.mul bc
  have bk : Bi 560 (x * b + z * a + e + q * c) := by
    have h1 : Bi 552 (x * b + z * a) := (bx.mul bb).add (bz.mul ba)
    have h2 : Bi 553 (x * b + z * a + e) := h1.add be.mono
    have h3 : Bi 554 (x * b + z * a + e + q * c) := h2.add bj.mono
    exact h3.mono
  have bl : Bi 560 (z * c) := (bz.mul bc).mono
  have led := fun (o1 o2 t2 : Int) (hl : Led (p * b + q * a) (x * b + z * a + e + q * c) (q * c) (z * c) o1 o2 0 t2) (h0 : 0 < o1) => led_done hxz (by omega) (by omega) hal hl h0
  generalize hi : p * b + q * a = i at *
  generalize hj : q * c = j at *
  generalize hk : x * b + z * a + e + j = k at *
  generalize hl : z * c = l at *
  have bnd1 : ∀ {y : Int}, -j ≤ y → y ≤ j → Bi 203 y := by
    intro y h1 h2
    have h3 : Bi 203 j := bj.mono
    unfold Bi at h3 ⊢
    omega
  have bnd2 : ∀ {y : Int}, y.natAbs ≤ i.natAbs + 1 → Bi 203 y := by
    intro y h1
    have h3 : Bi 202 i := bi.mono
    unfold Bi at h3 bi ⊢
    rw [Nat.pow_succ 2 202, Nat.pow_succ 2 201] at *
    have : 0 < 2 ^ 201 := Nat.pow_pos (by decide)
    omega
  refine dSeq_open fun B hB => ?_
  refine dwhile_of (fun n r M' => ∃ low high f s t h : Int, ∃ tn, r = [some (T4 a b c e), some (.tup [.int p, .int q]), some (.tup [.int low, .int (f * k + t * l)]), some (.tup [.int high, .int (s * k + h * l)]), tn, none, none] ∧ M' = M ∧ n = high.toNat ∧ ((low = i ∧ high = j ∧ f = 1 ∧ s = 0 ∧ t = 0 ∧ h = 1) ∨ (Euc i j low high f s t h ∧ low ≤ j ∧ high ≤ j))) _ ⟨i, j, 1, 0, 0, 1, none, by simp, rfl, rfl, .inl ⟨rfl, rfl, rfl, rfl, rfl, rfl⟩⟩ ?_
  rintro n r M' ⟨low, high, f, s, t, h', tn, rfl, rfl, rfl, hh⟩
  have bl4 : Bi 203 low ∧ Bi 203 high ∧ Bi 203 s ∧ Bi 203 h' := by
    rcases hh with ⟨rfl, rfl, rfl, rfl, rfl, rfl⟩ | ⟨E, h1, h2⟩
    · exact ⟨bi.mono, bj.mono, Bi.of_abs 0 (by decide) (Nat.pow_pos (by decide)), bnd2 (by omega)⟩
    · have tb := E.tb j0 h1 h2
      have l0 := E.l0
      have h0 := E.h0
      exact ⟨bnd1 (by omega) h1, bnd1 (by omega) h2, bnd1 E.sb.1 E.sb.2, bnd2 tb.2⟩
  obtain ⟨b1, b2, b3, b4⟩ := bl4
  walk_at "rd"
  by_cases zz : high = 0
  · rw [if_neg (fun w => w zz), ← hB]
    subst zz
    rcases hh with ⟨_, z0, _⟩ | ⟨E, h1, h2⟩
    · omega
    have l0 := E.l0
    have det : f * h' - s * t = 1 ∨ f * h' - s * t = -1 := by
      have e1 := E.e1
      have e2 := E.e2
      have hd : f * 0 - s * low = (f * h' - s * t) * j := by
        have e3 : f * 0 = f * (s * i + h' * j) := by rw [← e2]
        rw [e3, e1]
        grind
      rcases E.sg with ⟨_, _, h3⟩ | ⟨_, _, h3⟩
      · left
        have h4 : (f * h' - s * t) * j = 1 * j := by rw [← hd]; omega
        exact Int.eq_of_mul_eq_mul_right (by omega) h4
      · right
        have h4 : (f * h' - s * t) * j = (-1) * j := by rw [← hd]; omega
        exact Int.eq_of_mul_eq_mul_right (by omega) h4
    have hled : Led i k j l low (f * k + t * l) 0 (s * k + h' * l) := ⟨f, t, s, h', E.e1, rfl, E.e2, rfl, det⟩
    have hdn := led low (f * k + t * l) (s * k + h' * l) hled l0
    have tb := E.tb j0 h1 h2
    have bf := bnd1 E.fb.1 E.fb.2
    have bt := bnd2 tb.1
    generalize f * k + t * l = o2 at *
    generalize s * k + h' * l = t2 at *
    walk_at "rd"
    rw [if_neg (show ¬ low < 0 by omega)]
    have eabs : (if t2 < 0 then -t2 else t2) = (t2.natAbs : Int) := by split <;> omega
    rw [eabs]
    refine ⟨_, _, rfl, ?_⟩
    dsimp only
    have G0 : 0 < (Int.gcd (t2.natAbs : Int) low : Int) := by
      have := Int.gcd_pos_of_ne_zero_right (t2.natAbs : Int) (show low ≠ 0 by omega)
      omega
    refine ⟨(show (Int.gcd (t2.natAbs : Int) low : Int) ≠ 0 by omega), ⟨(Bi.of_abs 2 (by decide) : Bi 3 2).sm, bq.sm⟩, ⟨((Bi.of_abs 2 (by decide) : Bi 3 2).mul bq).sm, bc.sm⟩, ?_⟩
    rw [fmod_pos G0]
    exact rtq (h _ _ _ _ hdn)
  · rw [if_pos zz]
    have hp : 0 < high := by
      rcases hh with ⟨_, rfl, _⟩ | ⟨E, _⟩
      · exact j0
      · have := E.h0; omega
    have rm : low - low / high * high = low % high := by
      have := Int.mul_ediv_add_emod low high
      have e : low / high * high = high * (low / high) := Int.mul_comm _ _
      omega
    have r1 := Int.emod_lt_of_pos low hp
    have r0 := Int.emod_nonneg low zz
    have next : Euc i j high (low - low / high * high) s (f - low / high * s) h' (t - low / high * h') ∧ high ≤ j ∧ low - low / high * high < high ∧ 0 ≤ low - low / high * high := by
      rcases hh with ⟨rfl, rfl, rfl, rfl, rfl, rfl⟩ | ⟨E, h1, h2⟩
      · exact ⟨Euc.first j0, Int.le_refl _, by omega, by omega⟩
      · exact ⟨E.step zz, h2, by omega, by omega⟩
    obtain ⟨E, h1, h2, h3⟩ := next
    have ef : low.fdiv high = low / high := fdiv_pos hp
    rw [ef]
    have bq' : Bi 203 (low / high) := Nat.lt_of_le_of_lt (Int.natAbs_ediv_le_natAbs _ _) b1
    have bt2 : Bi 764 (s * k + h' * l) := (b3.mul bk).add (b4.mul bl)
    refine ⟨⟨zz, Nat.lt_of_lt_of_le (log2_of 203 b2 (by decide)) (by decide)⟩, ⟨bq'.sm, b2.sm⟩, ⟨bq'.sm, bt2.sm⟩, (low - low / high * high).toNat, by omega, high, low - low / high * high, s, f - low / high * s, h', t - low / high * h', some (.int (low / high)), ?_, rfl, .inr ⟨E, h1, by omega⟩⟩
    have : f * k + t * l - low / high * (s * k + h' * l) = (f - low / high * s) * k + (t - low / high * h') * l := by grind
    rw [this]
/-! ### x in l -/
theorem toPyAll_mem : ∀ {l : List D} {ps : List PyData}, toPyAll l = some ps → ∀ d ∈ l, ∃ p ∈ ps, toPy d = some p
  | [], _, _, d, hd => by cases hd
  | x :: l, ps, h, d, hd => by
    unfold toPyAll at h
    cases h1 : toPy x with
    | none => rw [h1] at h; cases h
    | some p =>
      cases h2 : toPyAll l with
      | none => rw [h1, h2] at h; cases h
      | some qs =>
        rw [h1, h2] at h
        cases h
        rcases List.mem_cons.mp hd with rfl | hd
        · exact ⟨p, List.mem_cons_self, h1⟩
        · obtain ⟨p', m, e⟩ := toPyAll_mem h2 d hd
          exact ⟨p', List.mem_cons_of_mem _ m, e⟩
theorem gIn_mem {n : Nat} {neg : Bool} {d : D} {l : List D} {M : Mem} {Q : DQ} (hd : d ∈ l) (hf : fineAll n l = true) (q : Q (.bl (!neg)) M) (hn : n ≤ 60 := by decide) : gIn neg d (.lst l) M Q := by
  have fd := fineAll_iff.mp hf d hd
  have fl : fine (n + 1) (.lst l) = true := by simp only [fine]; exact hf
  obtain ⟨p, hp, cp⟩ := cmpd_fine fd (by omega)
  obtain ⟨pl, hpl, cpl⟩ := cmpd_fine fl (by omega)
  unfold gIn
  rw [res_fine fd, rs_lst, cp, cpl]
  have hpl' := hpl
  unfold toPy at hpl'
  cases hps : toPyAll l with
  | none => rw [hps] at hpl'; cases hpl'
  | some ps =>
    rw [hps] at hpl'
    cases hpl'
    obtain ⟨p', hm, e⟩ := toPyAll_mem hps d hd
    rw [hp] at e
    cases e
    have : (ps.any fun z => PyData.eqv z p) = true := List.any_eq_true.mpr ⟨p, hm, eqv_self fd hp⟩
    dsimp only
    rw [this]
    cases neg <;> exact q
theorem fine_tI {n : Nat} (x : List Int) : fine (n + 2) (tI x) = true := by
  unfold tI
  simp only [fine]
  rw [fineAll_iff]
  intro d hd
  obtain ⟨i, _, rfl⟩ := List.mem_map.mp hd
  rfl
theorem fine_tIs {n : Nat} (l : List (List Int)) : fineAll (n + 2) (l.map tI) = true := by
  rw [fineAll_iff]
  intro d hd
  obtain ⟨x, _, rfl⟩ := List.mem_map.mp hd
  exact fine_tI x
theorem small_cb {a b c e : Int} (h : isCut a b c e = true) (hm : meas4 b c e ≤ 1000) : CutB 12 a b c e := by
  obtain ⟨k1, k2, k3, k4, k5, k6, k7, k8⟩ := isC_small h rfl hm
  exact ⟨Bi.of_abs 1000 (by omega) (by decide), Bi.of_abs 1000 (by omega) (by decide), Bi.of_abs 1000 (by omega) (by decide), Bi.of_abs 1000 (by omega) (by decide)⟩
theorem done_of {a b c e p q a' w g e' : Int} (h : isCut a b c e = true) (hd : isDeed b c e p q = true) (hdn : IsDone a b c e p q a' w g e') : isCut a' w g e' = true ∧ meas4 w g e' = meas4 b c e ∧ 0 < g :=
  have hp := (isDeed_parts hd).1
  let ⟨h1, h2⟩ := done_cut h hp.q1 hp.al hdn
  ⟨h1, h2, done_g (cut_parts h).2.1 hp.q1 hdn⟩
/-- done(..) and the law's own way, at small measures -/
theorem sp_done_small {a b c e p q a' w g e' : Int} {M : Mem} {Q : DQ} (h : isCut a b c e = true) (hm : meas4 b c e ≤ 1000) (hd : isDeed b c e p q = true) (hdn : IsDone a b c e p q a' w g e') (k : Q (T4 a' w g e') M) : sp_done [T4 a b c e, .tup [.int p, .int q]] M Q DX0 := by
  obtain ⟨s1, s2, s3, s4⟩ := deed_small h hm hd
  refine ⟨a, b, c, e, p, q, rfl, h, (small_cb h hm).mono, Bi.of_abs 100000 (by omega) (by decide), Bi.of_abs 1000 (by omega) (by decide), hd, fun a2 w2 g2 e2 hd2 => ?_⟩
  obtain ⟨_, _, g0⟩ := done_of h hd hdn
  obtain ⟨rfl, rfl, rfl, rfl⟩ := isDone_unique (by omega) hdn hd2
  exact k
theorem sp_lled_small {a b c e p q a' w g e' : Int} {M : Mem} {Q : DQ} (h : isCut a b c e = true) (hm : meas4 b c e ≤ 1000) (hd : isDeed b c e p q = true) (hdn : IsDone a b c e p q a' w g e') (k : Q (T4 a' w g e') M) : sp_lled [T4 a b c e, .tup [.int p, .int q]] M Q DX0 := by
  obtain ⟨s1, s2, s3, s4⟩ := deed_small h hm hd
  have hp := (isDeed_parts hd).1
  obtain ⟨k1, k2, k3, k4, k5, k6⟩ := cut_parts h
  refine ⟨a, b, c, e, p, q, rfl, k2, hp.al, Int.add_nonneg (Int.mul_nonneg s1 (by omega)) (Int.mul_nonneg (by omega) k4), hp.q1, hp.cp, (small_cb h hm).mono, Bi.of_abs 100000 (by omega) (by decide), Bi.of_abs 1000 (by omega) (by decide), fun a2 w2 g2 e2 hd2 => ?_⟩
  obtain ⟨_, _, g0⟩ := done_of h hd hdn
  obtain ⟨rfl, rfl, rfl, rfl⟩ := isDone_unique (by omega) hdn hd2
  exact k
theorem okV_T4 {n : Nat} {a b c e : Int} (h : CutB n a b c e) (hn : n ≤ 799 := by decide) : okV (T4 a b c e) = true :=
  okV_tup rfl (lit_cons (h.1.lit8 hn) (lit_cons (h.2.1.lit8 hn) (lit_cons (h.2.2.1.lit8 hn) (lit_cons (h.2.2.2.lit8 hn) rfl)))) (Nat.le_of_ble_eq_true rfl)
theorem one_deed {a b c e : Int} (h : isCut a b c e = true) : isDeed b c e 0 1 = true :=
  isDeed_mk (deedq_one h (Int.le_refl 0)) (by rw [Int.one_mul]; have := lot_le (b := b) (cut_parts h).2.1; omega)
end DL
/-! MF: the deed that leads back; plain -/
namespace DL
/-- (p1, q1) is the deed of (a', w, g, _) that undoes (p, q) at (a, b, c, e) -/
structure IsBack (a b c e p q a' w g p1 q1 : Int) : Prop where
  nq : q1 * g = q * c
  lo : 0 ≤ p1
  hi : p1 < q1 * (g / (Int.gcd w g : Int))
  ex : ∃ x z t : Int, p * z - q * x = 1 ∧ (-p1) * (p * b + q * a) + t * (q * c) = g ∧ g ∣ (-p1) * (x * b + z * a + e + q * c) + t * (z * c) + a'
theorem wide_of {a b c e p q w g x z : Int} (hw : w * g = c * (b - q * e - q * q * c)) (hr : p * z - q * x = 1) : (p * b + q * a) * (z * c) - (q * c) * (x * b + z * a + e + q * c) = w * g := by
  have h1 : (p * b + q * a) * (z * c) - (q * c) * (x * b + z * a + e + q * c) = c * (b * (p * z - q * x) - q * e - q * q * c) := by grind
  rw [h1, hr, Int.mul_one, hw]
/-- the rest does not hang on the second row -/
theorem rest_row {a b c e p q g u t x z x' z' a' : Int} (hr : p * z - q * x = 1) (hr' : p * z' - q * x' = 1) (hb : u * (p * b + q * a) + t * (q * c) = g)
    (hd : g ∣ u * (x * b + z * a + e + q * c) + t * (z * c) + a') : g ∣ u * (x' * b + z' * a + e + q * c) + t * (z' * c) + a' := by
  obtain ⟨s, s1, s2⟩ := row_diff hr' hr
  have ex : x' = x + s * p := by omega
  have ez : z' = z + s * q := by omega
  have : u * (x' * b + z' * a + e + q * c) + t * (z' * c) + a' = (u * (x * b + z * a + e + q * c) + t * (z * c) + a') + s * (u * (p * b + q * a) + t * (q * c)) := by rw [ex, ez]; grind
  rw [this, hb]
  exact Int.dvd_add hd (Int.dvd_mul_left _ _)
theorem lot_mul {w g : Int} (hg : 0 < g) : ∃ w' lot : Int, w = (Int.gcd w g : Int) * w' ∧ g = (Int.gcd w g : Int) * lot ∧ g / (Int.gcd w g : Int) = lot ∧ 0 < lot ∧ lot * w = g * w' ∧ (Int.gcd w' lot : Int) = 1 := by
  have G0 : 0 < (Int.gcd w g : Int) := by
    have := Int.gcd_pos_of_ne_zero_right w (show g ≠ 0 by omega)
    omega
  obtain ⟨w', hw⟩ := Int.gcd_dvd_left w g
  obtain ⟨lot, hl⟩ := Int.gcd_dvd_right w g
  have e1 : g / (Int.gcd w g : Int) = lot := by
    have : g / (Int.gcd w g : Int) = ((Int.gcd w g : Int) * lot) / (Int.gcd w g : Int) := by rw [← hl]
    rw [this]; exact Int.mul_ediv_cancel_left _ (by omega)
  refine ⟨w', lot, hw, hl, e1, ?_, ?_, gcd_quot rfl G0 hw hl⟩
  · rw [← e1]; exact Int.ediv_pos_of_pos_of_dvd hg (by omega) (Int.gcd_dvd_right _ _)
  · generalize (Int.gcd w g : Int) = G at *
    subst hw
    rw [hl]; grind
theorem dvd_cop {w k t : Int} (h : (Int.gcd w k : Int) = 1) (hd : k ∣ w * t) : k ∣ t := by
  have h1 := Int.natAbs_dvd_natAbs.mpr hd
  rw [Int.natAbs_mul] at h1
  have h2 : Nat.Coprime k.natAbs w.natAbs := by
    show Nat.gcd k.natAbs w.natAbs = 1
    rw [Nat.gcd_comm]
    have : Int.gcd w k = 1 := by omega
    exact this
  exact Int.natAbs_dvd_natAbs.mp (Nat.Coprime.dvd_of_dvd_mul_left h2 h1)
theorem back_unique {a b c e p q a' w g p1 q1 p2 q2 : Int} (hg : 0 < g) (hw : w * g = c * (b - q * e - q * q * c)) (hgI : g ∣ p * b + q * a)
    (h1 : IsBack a b c e p q a' w g p1 q1) (h2 : IsBack a b c e p q a' w g p2 q2) : p1 = p2 ∧ q1 = q2 := by
  have eq : q1 = q2 := Int.eq_of_mul_eq_mul_right (show g ≠ 0 by omega) (h1.nq.trans h2.nq.symm)
  subst eq
  refine ⟨?_, rfl⟩
  obtain ⟨x, z, t, f1, f2, f3⟩ := h1.ex
  obtain ⟨x', z', t', f1', f2', f3'⟩ := h2.ex
  have f3 := rest_row f1 f1' f2 f3
  have hgn : g ∣ q * c := ⟨q1, by rw [← h1.nq, Int.mul_comm]⟩
  obtain ⟨T, t1, t2⟩ := bez_diff (show g ≠ 0 by omega) hgI hgn f2 f2'
  obtain ⟨w', lot, e1, e2, e3, e4, e5, e6⟩ := lot_mul (w := w) hg
  have k1 : (-p1 - -p2) = T * q1 := by
    refine Int.eq_of_mul_eq_mul_right (show g ≠ 0 by omega) ?_
    rw [t1, ← h1.nq, Int.mul_assoc]
  have hwide := wide_of (a := a) hw f1'
  have k2 : (-p1 - -p2) * (x' * b + z' * a + e + q * c) + (t - t') * (z' * c) = -(T * w) := by
    refine Int.eq_of_mul_eq_mul_right (show g ≠ 0 by omega) ?_
    have : ((-p1 - -p2) * (x' * b + z' * a + e + q * c) + (t - t') * (z' * c)) * g = ((-p1 - -p2) * g) * (x' * b + z' * a + e + q * c) + ((t - t') * g) * (z' * c) := by grind
    rw [this, t1, t2]
    have : -(T * w) * g = -(T * (w * g)) := by grind
    rw [this, ← hwide]
    grind
  have k3 : g ∣ T * w := by
    have := Int.dvd_sub f3' f3
    have e : ((-p2 * (x' * b + z' * a + e + q * c) + t' * (z' * c) + a') - (-p1 * (x' * b + z' * a + e + q * c) + t * (z' * c) + a')) = T * w := by
      have : ((-p2 * (x' * b + z' * a + e + q * c) + t' * (z' * c) + a') - (-p1 * (x' * b + z' * a + e + q * c) + t * (z' * c) + a')) = -((-p1 - -p2) * (x' * b + z' * a + e + q * c) + (t - t') * (z' * c)) := by grind
      rw [this, k2]; omega
    rwa [e] at this
  have G0 : 0 < (Int.gcd w g : Int) := by
    have := Int.gcd_pos_of_ne_zero_right w (show g ≠ 0 by omega)
    omega
  have k4 : lot ∣ T := by
    have : (Int.gcd w g : Int) * lot ∣ (Int.gcd w g : Int) * (w' * T) := by
      rw [← e2, ← Int.mul_assoc, ← e1, Int.mul_comm w T]; exact k3
    have := Int.dvd_of_mul_dvd_mul_left (by omega) this
    exact dvd_cop e6 this
  obtain ⟨y, hy⟩ := k4
  have l1 := h1.lo
  have l2 := h2.lo
  have l3 := h1.hi
  have l4 := h2.hi
  rw [e3] at l3 l4
  have k5 : p2 - p1 = q1 * lot * y := by
    have : p2 - p1 = T * q1 := by omega
    rw [this, hy]; grind
  rcases (by omega : y = 0 ∨ 1 ≤ y ∨ y ≤ -1) with rfl | hy | hy
  · omega
  · have := Int.mul_le_mul_of_nonneg_left hy (show 0 ≤ q1 * lot by omega)
    omega
  · have := Int.mul_le_mul_of_nonneg_left hy (show 0 ≤ q1 * lot by omega)
    rw [Int.mul_neg] at this
    omega
/-- what the program's columns give -/
theorem back_of {a b c e p q a' w g x z f s t m n : Int} (hq : 1 ≤ q) (hc : 1 ≤ c) (hg : 0 < g) (hwi : w * g = c * (b - q * e - q * q * c)) (row : p * z - q * x = 1) (im : p * b + q * a = g * m) (jn : q * c = g * n)
    (bz : f * (p * b + q * a) + s * (q * c) = g) (tr : -(f * (x * b + z * a + e + q * c) + s * (z * c)) = a' + t * g) : IsBack a b c e p q a' w g ((-f) % (n * (g / (Int.gcd w g : Int)))) n := by
  obtain ⟨w', lot, e1, e2, e3, e4, e5, e6⟩ := lot_mul (w := w) hg
  have hn : 0 < n := by
    have h1 : 0 < q * c := Int.mul_pos (by omega) (by omega)
    rw [jn] at h1
    exact Int.pos_of_mul_pos_right h1 (by omega)
  have hN : 0 < n * lot := Int.mul_pos hn e4
  rw [e3]
  refine ⟨by rw [jn, Int.mul_comm], Int.emod_nonneg _ (by omega), by rw [e3]; exact Int.emod_lt_of_pos _ hN, x, z, s - ((-f) / (n * lot)) * m * lot, row, ?_, ?_⟩
  · have hd := Int.mul_ediv_add_emod (-f) (n * lot)
    generalize (-f) / (n * lot) = k at *
    have en : -((-f) % (n * lot)) = f + k * (n * lot) := by rw [Int.mul_comm k]; omega
    rw [en]
    have : (f + k * (n * lot)) * (p * b + q * a) + (s - k * m * lot) * (q * c) = (f * (p * b + q * a) + s * (q * c)) + k * lot * (n * (p * b + q * a) - m * (q * c)) := by grind
    rw [this, bz, im, jn]
    grind
  · have hd := Int.mul_ediv_add_emod (-f) (n * lot)
    generalize (-f) / (n * lot) = k at *
    have en : -((-f) % (n * lot)) = f + k * (n * lot) := by rw [Int.mul_comm k]; omega
    rw [en]
    have hwide := wide_of (a := a) hwi row
    have hn2 : m * (z * c) - n * (x * b + z * a + e + q * c) = w := by
      refine Int.eq_of_mul_eq_mul_right (show g ≠ 0 by omega) ?_
      have : (m * (z * c) - n * (x * b + z * a + e + q * c)) * g = (g * m) * (z * c) - (g * n) * (x * b + z * a + e + q * c) := by grind
      rw [this, ← im, ← jn, hwide]
    have : (f + k * (n * lot)) * (x * b + z * a + e + q * c) + (s - k * m * lot) * (z * c) + a' = (f * (x * b + z * a + e + q * c) + s * (z * c) + a') - k * lot * (m * (z * c) - n * (x * b + z * a + e + q * c)) := by grind
    rw [this, hn2]
    have h3 := tr
    have h4 : f * (x * b + z * a + e + q * c) + s * (z * c) + a' = g * (-t) := by rw [Int.mul_neg, Int.mul_comm g]; omega
    rw [h4, show k * lot * w = k * (lot * w) from Int.mul_assoc _ _ _, e5]
    exact Int.dvd_sub (Int.dvd_mul_right _ _) ⟨k * w', by grind⟩
theorem back_of_full {a b c e p q a' w g e' x z f s t m n : Int} (hq : 1 ≤ q) (hc : 1 ≤ c) (h : Full a b c e p q a' w g e' x z f s t m n) : IsBack a b c e p q a' w g ((-f) % (n * (g / (Int.gcd w g : Int)))) n :=
  back_of hq hc h.g0 h.dn.wi h.row h.im h.jn h.bz h.tr
/-- what leads back, and where -/
theorem back_facts {a b c e p q a' w g e' p1 q1 : Int} (hcut : isCut a b c e = true) (hd : isDeed b c e p q = true) (hdn : IsDone a b c e p q a' w g e') (h : IsBack a b c e p q a' w g p1 q1) :
    isDeed w g e' p1 q1 = true ∧ IsDone a' w g e' p1 q1 a b c e ∧ IsBack a' w g e' p1 q1 a b c p q := by
  obtain ⟨⟨hq, hal, hp0, hcp⟩, hpr⟩ := isDeed_parts hd
  obtain ⟨k1, k2, k3, k4, k5, k6⟩ := cut_parts hcut
  have hg := done_g k2 hq hdn
  obtain ⟨x, z, t, f1, f2, f3⟩ := h.ex
  obtain ⟨lo, hi⟩ := And.intro h.lo h.hi
  have hq1 : 1 ≤ q1 := by
    have h1 : 0 < q * c := Int.mul_pos (by omega) (by omega)
    rw [← h.nq] at h1
    exact Int.pos_of_mul_pos_left h1 (by omega)
  have hgI : g ∣ p * b + q * a := by rw [hdn.gc]; exact Int.gcd_dvd_left _ _
  obtain ⟨m, hm⟩ := hgI
  have hnq := h.nq
  have hwide := wide_of (a := a) hdn.wi f1
  have f4 : -p1 * m + t * q1 = 1 := by
    refine Int.eq_of_mul_eq_mul_right (show g ≠ 0 by omega) ?_
    rw [Int.one_mul]
    have : (-p1 * m + t * q1) * g = -p1 * (g * m) + t * (q1 * g) := by grind
    rw [this, ← hm, hnq]
    exact f2
  have cp : Int.gcd p1 q1 = 1 := by
    have d : (Int.gcd p1 q1 : Int) ∣ 1 := by
      rw [← f4]
      refine Int.dvd_add ?_ (Int.dvd_mul_of_dvd_right (Int.gcd_dvd_right _ _))
      rw [Int.neg_mul]
      exact Int.dvd_neg.mpr (Int.dvd_mul_of_dvd_left (Int.gcd_dvd_left _ _))
    have := Int.le_of_dvd (by decide) d
    have := Int.gcd_pos_of_ne_zero_right p1 (show q1 ≠ 0 by omega)
    omega
  obtain ⟨y, hy⟩ := f3
  have hn2 : m * (z * c) - q1 * (x * b + z * a + e + q * c) = w := by
    refine Int.eq_of_mul_eq_mul_right (show g ≠ 0 by omega) ?_
    have : (m * (z * c) - q1 * (x * b + z * a + e + q * c)) * g = (g * m) * (z * c) - (q1 * g) * (x * b + z * a + e + q * c) := by grind
    rw [this, ← hm, hnq, hwide]
  have hJ : a' = g * y + p1 * (x * b + z * a + e + q * c) - t * (z * c) := by
    have : -p1 * (x * b + z * a + e + q * c) = -(p1 * (x * b + z * a + e + q * c)) := Int.neg_mul _ _
    omega
  have eI : p1 * w + q1 * a' = q * c * y - z * c := by
    have h1 : p1 * w + q1 * a' = q1 * g * y - (t * q1 - p1 * m) * (z * c) + (p1 * w - p1 * (m * (z * c) - q1 * (x * b + z * a + e + q * c))) := by rw [hJ]; grind
    have h2 : t * q1 - p1 * m = 1 := by rw [Int.neg_mul] at f4; omega
    rw [h1, hn2, h2, hnq]; omega
  have eU : -p * (p1 * w + q1 * a') + (p * y - x) * (q1 * g) = c := by
    rw [eI, hnq]
    have : -p * (q * c * y - z * c) + (p * y - x) * (q * c) = (p * z - q * x) * c := by grind
    rw [this, f1, Int.one_mul]
  have eR : p1 * (-m) - q1 * (-t) = 1 := by rw [← f4]; grind
  have hwi : b * c = g * (w - q1 * e' - q1 * q1 * g) := by
    have h1 : g * (w - q1 * e' - q1 * q1 * g) = w * g - (q1 * g) * e' - (q1 * g) * (q1 * g) := by grind
    rw [h1, hnq, hdn.wi, hdn.tu]; grind
  have eA : -p * (-t * w + -m * a' + e' + q1 * g) + (p * y - x) * (-m * g) = -a := by
    have h2 : t * q1 - p1 * m = 1 := by rw [Int.neg_mul] at f4; omega
    have h3 : m * a' = (p * b + q * a) * y - (x * b + z * a + e + q * c) - t * w := by
      have h1 : m * a' = g * m * y + (p1 * m - t * q1) * (x * b + z * a + e + q * c) - t * (m * (z * c) - q1 * (x * b + z * a + e + q * c)) := by rw [hJ]; grind
      rw [h1, hn2, hm, show p1 * m - t * q1 = -1 by omega]; omega
    have h4 : -p * (-t * w + -m * a' + e' + q1 * g) + (p * y - x) * (-m * g) = p * (t * w) + p * (m * a') - p * e' - p * (q1 * g) - (p * y - x) * (g * m) := by grind
    rw [h4, h3, hnq, ← hm, hdn.tu]
    have h5 : p * (t * w) + p * ((p * b + q * a) * y - (x * b + z * a + e + q * c) - t * w) - p * (0 - e - 2 * q * c) - p * (q * c) - (p * y - x) * (p * b + q * a) = -(a * (p * z - q * x)) := by grind
    rw [h5, f1]; omega
  have hal1 : 0 < w - q1 * e' - q1 * q1 * g := by
    have h1 : 0 < b * c := Int.mul_pos (by omega) (by omega)
    rw [hwi] at h1
    exact Int.pos_of_mul_pos_right h1 (by omega)
  refine ⟨isDeed_mk ⟨hq1, hal1, lo, cp⟩ hi, ⟨?_, hwi, ?_, k4, k5, -p, p * y - x, -t, -m, eR, eU, ?_⟩, ⟨hnq.symm, hp0, hpr, -t, -m, p * y - x, eR, eU, ?_⟩⟩
  · have d1 : c ∣ p1 * w + q1 * a' := by rw [eI]; exact ⟨q * y - z, by grind⟩
    have d2 : c ∣ q1 * g := by rw [hnq]; exact Int.dvd_mul_left _ _
    have d3 := Int.dvd_coe_gcd d1 d2
    have d4 : (Int.gcd (p1 * w + q1 * a') (q1 * g) : Int) ∣ c := by
      have : (Int.gcd (p1 * w + q1 * a') (q1 * g) : Int) ∣ -p * (p1 * w + q1 * a') + (p * y - x) * (q1 * g) := Int.dvd_add (Int.dvd_mul_of_dvd_right (Int.gcd_dvd_left _ _)) (Int.dvd_mul_of_dvd_right (Int.gcd_dvd_right _ _))
      rwa [eU] at this
    exact Int.dvd_antisymm (by omega) (by omega) d3 d4
  · rw [hdn.tu, Int.mul_assoc 2 q1 g, hnq, Int.mul_assoc 2 q c]; omega
  · rw [eA]; exact ⟨0, by rw [Int.mul_zero]; omega⟩
  · rw [eA]; exact ⟨0, by rw [Int.mul_zero]; omega⟩
theorem back_ex {a b c e p q a' w g e' : Int} (hcut : isCut a b c e = true) (hd : isDeed b c e p q = true) (hdn : IsDone a b c e p q a' w g e') : ∃ p1 q1, IsBack a b c e p q a' w g p1 q1 := by
  obtain ⟨⟨hq, hal, hp0, hcp⟩, hpr⟩ := isDeed_parts hd
  obtain ⟨k1, k2, k3, k4, k5, k6⟩ := cut_parts hcut
  have hg := done_g k2 hq hdn
  obtain ⟨u, v, x, z, f1, f2, d, f3⟩ := hdn.ex
  have dm : g ∣ p * b + q * a := by rw [hdn.gc]; exact Int.gcd_dvd_left _ _
  have dn : g ∣ q * c := by rw [hdn.gc]; exact Int.gcd_dvd_right _ _
  obtain ⟨m, hm⟩ := dm
  obtain ⟨n, hn⟩ := dn
  obtain ⟨α, β, hab⟩ := bez_ex g.natAbs w g (Nat.le_refl _)
  have hwide := wide_of (a := a) hdn.wi f1
  have hn2 : m * (z * c) - n * (x * b + z * a + e + q * c) = w := by
    refine Int.eq_of_mul_eq_mul_right (show g ≠ 0 by omega) ?_
    have : (m * (z * c) - n * (x * b + z * a + e + q * c)) * g = (g * m) * (z * c) - (g * n) * (x * b + z * a + e + q * c) := by grind
    rw [this, ← hm, ← hn, hwide]
  refine ⟨_, _, back_of (f := u + d * α * n) (s := v - d * α * m) (t := -(d * β)) hq k2 hg hdn.wi f1 hm hn ?_ ?_⟩
  · have : (u + d * α * n) * (p * b + q * a) + (v - d * α * m) * (q * c) = (u * (p * b + q * a) + v * (q * c)) + d * α * (n * (p * b + q * a) - m * (q * c)) := by grind
    rw [this, f2, hm, hn]
    grind
  · have : -((u + d * α * n) * (x * b + z * a + e + q * c) + (v - d * α * m) * (z * c)) = -(u * (x * b + z * a + e + q * c) + v * (z * c)) + d * α * (m * (z * c) - n * (x * b + z * a + e + q * c)) := by grind
    rw [this, hn2]
    have h4 : u * (x * b + z * a + e + q * c) + v * (z * c) = d * (α * w + β * g) - a' := by rw [hab, Int.mul_comm d]; omega
    rw [h4]; grind
end DL
namespace DL
open PySem PySem.Spec PyProof.Rows L2
def t_back_by (c_full_by : DSp) (c_round_of : DSp) : DTS :=
 (dSeq (dAsg (dCall 2 c_full_by [] DX0 (dCons (dVar 0) (dCons (dVar 1) dNil))) (dGTup 5 (dGCons (dName 2) (dGCons (dName 3) (dGCons (dName 4) (dGCons (dName 4) (dGCons (dName 4) dGNil)))))))
 (dSeq (dAsg (dNeg (dOp gIx (dOp gIx (dVar 3) (dC (.int 1))) (dC (.int 0)))) (dName 5))
 (dRet (dTup (dCons (dOp (rBin CMod fun i j => i.fmod j) (dNeg (dOp gIx (dOp gIx (dVar 3) (dC (.int 0))) (dC (.int 0)))) (dOp (rBin CMul fun i j => i * j) (dVar 5) (dCall 1 c_round_of [] DX0 (dCons (dVar 2) dNil)))) (dCons (dVar 5) dNil))))))
def t_back (c_check_deed : DSp) (c_back_by : DSp) : DTS :=
 (dSeq (dDrop (dCall 2 c_check_deed [] DX0 (dCons (dVar 0) (dCons (dVar 1) dNil))))
 (dRet (dCall 2 c_back_by [] DX0 (dCons (dVar 0) (dCons (dVar 1) dNil)))))
def t_l_fits_back_8544 (c_l_columns_575c : DSp) : DTS :=
 (dSeq (dAsg (dCall 2 c_l_columns_575c [] DX0 (dCons (dVar 0) (dCons (dVar 1) dNil))) (dGTup 2 (dGCons (dName 4) (dGCons (dName 5) dGNil))))
 (dSeq (dPar 6 7 (dCons (dOp gIx (dVar 2) (dC (.int 2))) (dCons (dOp (rBin (fun _ _ => True) fun i j => i - j) (dC (.int 0)) (dOp gIx (dVar 3) (dC (.int 0)))) dNil)))
 (dSeq (dIfS (dOr (dTru (dOp gNe (dOp (rBin CMul fun i j => i * j) (dOp gIx (dVar 3) (dC (.int 1))) (dVar 6)) (dOp gIx (dVar 5) (dC (.int 0))))) (dTru (dOp gNe (dOp (rBin CMod fun i j => i.fmod j) (dCB gInt (dCons (dOp (rBin (fun _ _ => True) fun i j => i - j) (dVar 6) (dOp (rBin CMul fun i j => i * j) (dVar 7) (dOp gIx (dVar 4) (dC (.int 0))))) dNil)) (dOp gIx (dVar 5) (dC (.int 0)))) (dC (.int 0))))) (dRet (dC (.bl false))) dNext)
 (dSeq (dAsg (dOp (rBin CDiv fun i j => i.fdiv j) (dOp (rBin (fun _ _ => True) fun i j => i - j) (dVar 6) (dOp (rBin CMul fun i j => i * j) (dVar 7) (dOp gIx (dVar 4) (dC (.int 0))))) (dOp gIx (dVar 5) (dC (.int 0)))) (dName 8))
 (dRet (dOp gEq (dOp (rBin CMod fun i j => i.fmod j) (dCB gInt (dCons (dOp (rBin (fun _ _ => True) fun i j => i - j) (dOp (rBin (fun _ _ => True) fun i j => i - j) (dOp (rBin (fun _ _ => True) fun i j => i - j) (dC (.int 0)) (dOp (rBin CMul fun i j => i * j) (dVar 7) (dOp gIx (dVar 4) (dC (.int 1))))) (dOp (rBin CMul fun i j => i * j) (dVar 8) (dOp gIx (dVar 5) (dC (.int 1))))) (dOp gIx (dVar 2) (dC (.int 0)))) dNil)) (dVar 6)) (dC (.int 0))))))))
def t_l_back_ac0c (c_l_led_ad47 : DSp) (c_l_deeds_faf6 : DSp) (c_l_fits_back_8544 : DSp) : DTS :=
 (dSeq (dAsg (dCall 2 c_l_led_ad47 [] DX0 (dCons (dVar 0) (dCons (dVar 1) dNil))) (dName 2))
 (dRet (dLc false (dSeqI (dCall 1 c_l_deeds_faf6 [] DX0 (dCons (dVar 2) dNil))) (dName 3) (dAnd (dTru (dOp gEq (dOp (rBin CMul fun i j => i * j) (dOp gIx (dVar 3) (dC (.int 1))) (dOp gIx (dVar 2) (dC (.int 2)))) (dOp (rBin CMul fun i j => i * j) (dOp gIx (dVar 1) (dC (.int 1))) (dOp gIx (dVar 0) (dC (.int 2)))))) (dTru (dCall 4 c_l_fits_back_8544 [] DX0 (dCons (dVar 0) (dCons (dVar 1) (dCons (dVar 2) (dCons (dVar 3) dNil))))))) (dVar 3) [3])))
def t_l_right_87a1 (c_l_small_f084 : DSp) (c_l_deeds_faf6 : DSp) (c_l_led_ad47 : DSp) (c_back : DSp) (c_l_back_ac0c : DSp) (c_l_random_7821 : DSp) : DTS :=
 (dSeq (dAsg (dCall 1 c_l_small_f084 [] DX0 (dCons (dVar 0) dNil)) (dGTup 2 (dGCons (dName 1) (dGCons (dName 2) dGNil))))
 (dSeq (dAsg (dOwn dNil) (dName 3))
 (dSeq (dFor (dSeqI (dCall 1 c_l_deeds_faf6 [] DX0 (dCons (dVar 1) dNil))) (dName 4) (dSeq (dPar 5 6 (dCons (dCall 2 c_l_led_ad47 [] DX0 (dCons (dVar 1) (dCons (dVar 4) dNil))) (dCons (dCall 2 c_back [] DX0 (dCons (dVar 1) (dCons (dVar 4) dNil))) dNil)))
 (dSeq (dIfS (dOr (dTru (dOp gNe (dCB gRepr (dCons (dLst (dCons (dVar 6) dNil)) dNil)) (dCB gRepr (dCons (dCall 2 c_l_back_ac0c [] DX0 (dCons (dVar 1) (dCons (dVar 4) dNil))) dNil)))) (dTru (dOp gNe (dCallK 2 2 c_back [1, 0] DX0 (dCons (dVar 4) (dCons (dVar 1) dNil))) (dVar 6)))) (dRet (dC (.bl false))) dNext)
 (dSeq (dIfS (dOr (dTru (dOp gNe (dCall 2 c_l_led_ad47 [] DX0 (dCons (dVar 5) (dCons (dVar 6) dNil))) (dVar 1))) (dOr (dTru (dOp gNe (dCall 2 c_back [] DX0 (dCons (dVar 5) (dCons (dVar 6) dNil))) (dVar 4))) (dTru (dOp (gIn false) (dTup (dCons (dVar 5) (dCons (dVar 6) dNil))) (dVar 3))))) (dRet (dC (.bl false))) dNext)
 (dDrop (dMet gAppend (dVar 3) (dCons (dTup (dCons (dVar 5) (dCons (dVar 6) dNil))) dNil)))))))
 (dSeq (dAsg (dOp gIx (dVar 2) (dCall 2 c_l_random_7821 [] DX0 (dCons (dVar 0) (dCons (dCB gLen (dCons (dVar 2) dNil)) dNil)))) (dName 7))
 (dSeq (dFor (dSeqI (dLst (dCons (dVar 7) (dCons (dVar 1) (dCons (dVar 7) dNil))))) (dName 8) (dIfS (dTru (dOp gNe (dLst (dCons (dCall 2 c_back [] DX0 (dCons (dVar 8) (dCons (dTup (dCons (dC (.int 0)) (dCons (dC (.int 1)) dNil))) dNil))) dNil)) (dCall 2 c_l_back_ac0c [] DX0 (dCons (dVar 8) (dCons (dTup (dCons (dC (.int 0)) (dCons (dC (.int 1)) dNil))) dNil))))) (dRet (dC (.bl false))) dNext))
 (dRet (dC (.bl true))))))))
def t_l_law_22c4 (c_l_right_87a1 : DSp) (c_l_generator_b324 : DSp) (c_back : DSp) : DTS :=
 (dSeq (dIfS (dNot (dTru (dCall 1 c_l_right_87a1 [] DX0 (dCons (dCall 2 c_l_generator_b324 [] DX0 (dCons (dVar 0) (dCons (dC (.int 0)) dNil))) dNil)))) (dRet (dC (.bl false))) dNext)
 (dSeq (dAsg (dTup (dCons (dC (.int 0)) (dCons (dC (.int 2)) (dCons (dC (.int 1)) (dCons (dOp (rBin (fun _ _ => True) fun i j => i - j) (dC (.int 0)) (dC (.int 3))) dNil))))) (dName 1))
 (dSeq (dIfS (dTru (dOp gNe (dLc false (dSeqI (dLst (dCons (dTup (dCons (dC (.int 0)) (dCons (dC (.int 1)) dNil))) (dCons (dTup (dCons (dC (.int 1)) (dCons (dC (.int 2)) dNil))) (dCons (dTup (dCons (dC (.int 1)) (dCons (dC (.int 3)) dNil))) (dCons (dTup (dCons (dC (.int 2)) (dCons (dC (.int 3)) dNil))) dNil)))))) (dName 2) dYes (dCall 2 c_back [] DX0 (dCons (dVar 1) (dCons (dVar 2) dNil))) [2]) (dLst (dCons (dTup (dCons (dC (.int 0)) (dCons (dC (.int 1)) dNil))) (dCons (dTup (dCons (dC (.int 0)) (dCons (dC (.int 1)) dNil))) (dCons (dTup (dCons (dC (.int 1)) (dCons (dC (.int 3)) dNil))) (dCons (dTup (dCons (dC (.int 2)) (dCons (dC (.int 3)) dNil))) dNil))))))) (dRet (dC (.bl false))) dNext)
 (dRet (dAndV (dOp gEq (dCall 2 c_back [] DX0 (dCons (dTup (dCons (dC (.int 1)) (dCons (dC (.int 2)) (dCons (dC (.int 2)) (dCons (dOp (rBin (fun _ _ => True) fun i j => i - j) (dC (.int 0)) (dC (.int 1))) dNil))))) (dCons (dTup (dCons (dC (.int 0)) (dCons (dC (.int 1)) dNil))) dNil))) (dTup (dCons (dC (.int 1)) (dCons (dC (.int 2)) dNil)))) (dOp gEq (dCall 2 c_back [] DX0 (dCons (dTup (dCons (dC (.int 0)) (dCons (dC (.int 1)) (dCons (dC (.int 2)) (dCons (dOp (rBin (fun _ _ => True) fun i j => i - j) (dC (.int 0)) (dC (.int 3))) dNil))))) (dCons (dTup (dCons (dC (.int 1)) (dCons (dC (.int 1)) dNil))) dNil))) (dTup (dCons (dC (.int 1)) (dCons (dC (.int 2)) dNil)))))))))
end DL
namespace DL
open PySem PySem.Spec PyProof.Rows L2
local macro_rules | `(tactic| walk_at "rd") => `(tactic| simp only [startD, List.map, List.replicate, List.length_cons, List.length_nil, List.append_eq, List.append_nil, List.nil_append, List.cons_append, Nat.reduceSub, Nat.reduceAdd, List.getElem?_cons_zero, List.getElem?_cons_succ, List.set_cons_zero, List.set_cons_succ,
  dC, dVar, dOp, dTru, gTru, tru, dChain, dAnd, dOr, dNot, dAndV, dOrV, dNotV, dIf, dNeg, gNeg, dNil, dCons, dTup, dLst, dOwn, gIx, rBin, gAdd, gCmpI, dCall, dCallK, dSeq, dNext, dDrop, dRet, dRetN, dIfS, dName, dGNil, dGCons, dGTup, dSub, gSetL, dAsg, dPar, dPar3, dAug, gIpI, dSeqI, gSeqI, dRngI, gRng1, gRng2, dCB, gAbs, gInt, gMax, gMin, gGcd, gLen, lenD, gIsi, tyM, tyD, dBits, gBits, dMet, gAppend, dPart, dNoPart, dSl, gSl_tup, gSl_lst, cut_1, dEnds, gIs, isB, dNever, dFor, dLc, wipeD, dYes,
  sizeLine_eq, Nat.reduceLeDiff, gEq_int, gNe_int, gEq_strs, gNe_strs, gIn_two, gRepr_bl, rs_lst, rs_tup, rs_scr, rs_int, atI_0, atI_1, atI_2, atI_3, atI_4, atI_5, ixN_30, ixN_31, ixN_32, gEq_bl, gNe_bl, decide_eq_true_eq, beq_iff_eq, Bool.not_eq_true', beq_eq_false_iff_ne, decide_eq_false_iff_not, Bool.not_true, Bool.not_false, if_true, if_false, Bool.false_eq_true, ite_true, ite_false, true_and, and_true, ne_eq, Bool.bne_false, Bool.bne_true, reduceCtorEq])
local macro_rules | `(tactic| walk_at "rh") => `(tactic| simp only [*, startD, List.map, List.replicate, List.length_cons, List.length_nil, List.append_eq, List.append_nil, List.nil_append, List.cons_append, Nat.reduceSub, Nat.reduceAdd, List.getElem?_cons_zero, List.getElem?_cons_succ, List.set_cons_zero, List.set_cons_succ,
  dC, dVar, dOp, dTru, gTru, tru, dChain, dAnd, dOr, dNot, dAndV, dOrV, dNotV, dIf, dNeg, gNeg, dNil, dCons, dTup, dLst, dOwn, gIx, rBin, gAdd, gCmpI, dCall, dCallK, dSeq, dNext, dDrop, dRet, dRetN, dIfS, dName, dGNil, dGCons, dGTup, dSub, gSetL, dAsg, dPar, dPar3, dAug, gIpI, dSeqI, gSeqI, dRngI, gRng1, gRng2, dCB, gAbs, gInt, gMax, gMin, gGcd, gLen, lenD, gIsi, tyM, tyD, dBits, gBits, dMet, gAppend, dPart, dNoPart, dSl, gSl_tup, gSl_lst, cut_1, dEnds, gIs, isB, dNever, dFor, dLc, wipeD, dYes,
  sizeLine_eq, Nat.reduceLeDiff, gEq_int, gNe_int, gEq_strs, gNe_strs, gIn_two, gRepr_bl, rs_lst, rs_tup, rs_scr, rs_int, atI_0, atI_1, atI_2, atI_3, atI_4, atI_5, ixN_30, ixN_31, ixN_32, gEq_bl, gNe_bl, decide_eq_true_eq, beq_iff_eq, Bool.not_eq_true', beq_eq_false_iff_ne, decide_eq_false_iff_not, Bool.not_true, Bool.not_false, if_true, if_false, Bool.false_eq_true, ite_true, ite_false, true_and, and_true, ne_eq, Bool.bne_false, Bool.bne_true, reduceCtorEq])
local macro_rules | `(tactic| walk_at "kb") => `(tactic| simp only [kb_NoneType_list, kb_bool_list, kb_int_list, kb_str_list, kb_tuple_list, kb_list_list, kb_dict_list, kb_NoneType_int, kb_bool_int, kb_int_int, kb_str_int, kb_tuple_int, kb_list_int, kb_dict_int, kb_NoneType_bool, kb_bool_bool, kb_int_bool, kb_str_bool, kb_tuple_bool, kb_list_bool, kb_dict_bool, kb_NoneType_tuple, kb_bool_tuple, kb_int_tuple, kb_str_tuple, kb_tuple_tuple, kb_list_tuple, kb_dict_tuple, if_true, if_false, Bool.false_eq_true, ite_true, ite_false, Bool.not_true, Bool.not_false])
theorem toPy_tupE {l : List D} {p : PyData} (h : toPy (.tup l) = some p) : ∃ ps, toPyAll l = some ps ∧ p = .tuple ps := by
  unfold toPy at h
  cases hl : toPyAll l with
  | none => rw [hl] at h; cases h
  | some ps => rw [hl] at h; cases h; exact ⟨ps, rfl, rfl⟩
theorem toPy_lstE {l : List D} {p : PyData} (h : toPy (.lst l) = some p) : ∃ ps, toPyAll l = some ps ∧ p = .list ps := by
  unfold toPy at h
  cases hl : toPyAll l with
  | none => rw [hl] at h; cases h
  | some ps => rw [hl] at h; cases h; exact ⟨ps, rfl, rfl⟩
theorem toPyAll_cons {d : D} {ds : List D} {ps : List PyData} (h : toPyAll (d :: ds) = some ps) : ∃ p qs, toPy d = some p ∧ toPyAll ds = some qs ∧ ps = p :: qs := by
  unfold toPyAll at h
  cases h1 : toPy d with
  | none => rw [h1] at h; cases h
  | some p =>
    cases h2 : toPyAll ds with
    | none => rw [h1, h2] at h; cases h
    | some qs => rw [h1, h2] at h; cases h; exact ⟨p, qs, rfl, rfl, rfl⟩
theorem toPy_non {d : D}  {p : PyData} (h : toPy d = some p) (e : p = .none) : d = .non := by
  cases d with
  | non => subst e; first | (cases h; done) | (cases h; rfl)
  | bl b => subst e; first | (cases h; done) | (cases h; rfl)
  | int i => subst e; first | (cases h; done) | (cases h; rfl)
  | str x => subst e; first | (cases h; done) | (cases h; rfl)
  | dct0 => subst e; first | (cases h; done) | (cases h; rfl)
  | scr ns => subst e; first | (cases h; done) | (cases h; rfl)
  | own k => subst e; first | (cases h; done) | (cases h; rfl)
  | exc C d => subst e; first | (cases h; done) | (cases h; rfl)
  | val v => subst e; first | (cases h; done) | (cases h; rfl)
  | tup l => obtain ⟨ps, h1, h2⟩ := toPy_tupE h; subst e; first | (cases h2; done) | (cases h2; exact ⟨l, rfl, h1⟩)
  | lst l => obtain ⟨ps, h1, h2⟩ := toPy_lstE h; subst e; first | (cases h2; done) | (cases h2; exact ⟨l, rfl, h1⟩)
theorem toPy_bl {d : D} {b : Bool} {p : PyData} (h : toPy d = some p) (e : p = .bool b) : d = .bl b := by
  cases d with
  | non => subst e; first | (cases h; done) | (cases h; rfl)
  | bl b => subst e; first | (cases h; done) | (cases h; rfl)
  | int i => subst e; first | (cases h; done) | (cases h; rfl)
  | str x => subst e; first | (cases h; done) | (cases h; rfl)
  | dct0 => subst e; first | (cases h; done) | (cases h; rfl)
  | scr ns => subst e; first | (cases h; done) | (cases h; rfl)
  | own k => subst e; first | (cases h; done) | (cases h; rfl)
  | exc C d => subst e; first | (cases h; done) | (cases h; rfl)
  | val v => subst e; first | (cases h; done) | (cases h; rfl)
  | tup l => obtain ⟨ps, h1, h2⟩ := toPy_tupE h; subst e; first | (cases h2; done) | (cases h2; exact ⟨l, rfl, h1⟩)
  | lst l => obtain ⟨ps, h1, h2⟩ := toPy_lstE h; subst e; first | (cases h2; done) | (cases h2; exact ⟨l, rfl, h1⟩)
theorem toPy_int {d : D} {i : Int} {p : PyData} (h : toPy d = some p) (e : p = .int i) : d = .int i := by
  cases d with
  | non => subst e; first | (cases h; done) | (cases h; rfl)
  | bl b => subst e; first | (cases h; done) | (cases h; rfl)
  | int i => subst e; first | (cases h; done) | (cases h; rfl)
  | str x => subst e; first | (cases h; done) | (cases h; rfl)
  | dct0 => subst e; first | (cases h; done) | (cases h; rfl)
  | scr ns => subst e; first | (cases h; done) | (cases h; rfl)
  | own k => subst e; first | (cases h; done) | (cases h; rfl)
  | exc C d => subst e; first | (cases h; done) | (cases h; rfl)
  | val v => subst e; first | (cases h; done) | (cases h; rfl)
  | tup l => obtain ⟨ps, h1, h2⟩ := toPy_tupE h; subst e; first | (cases h2; done) | (cases h2; exact ⟨l, rfl, h1⟩)
  | lst l => obtain ⟨ps, h1, h2⟩ := toPy_lstE h; subst e; first | (cases h2; done) | (cases h2; exact ⟨l, rfl, h1⟩)
theorem toPy_str {d : D} {x : Str} {p : PyData} (h : toPy d = some p) (e : p = .str x) : d = .str x := by
  cases d with
  | non => subst e; first | (cases h; done) | (cases h; rfl)
  | bl b => subst e; first | (cases h; done) | (cases h; rfl)
  | int i => subst e; first | (cases h; done) | (cases h; rfl)
  | str x => subst e; first | (cases h; done) | (cases h; rfl)
  | dct0 => subst e; first | (cases h; done) | (cases h; rfl)
  | scr ns => subst e; first | (cases h; done) | (cases h; rfl)
  | own k => subst e; first | (cases h; done) | (cases h; rfl)
  | exc C d => subst e; first | (cases h; done) | (cases h; rfl)
  | val v => subst e; first | (cases h; done) | (cases h; rfl)
  | tup l => obtain ⟨ps, h1, h2⟩ := toPy_tupE h; subst e; first | (cases h2; done) | (cases h2; exact ⟨l, rfl, h1⟩)
  | lst l => obtain ⟨ps, h1, h2⟩ := toPy_lstE h; subst e; first | (cases h2; done) | (cases h2; exact ⟨l, rfl, h1⟩)
theorem toPy_list {d : D} {qs : List PyData} {p : PyData} (h : toPy d = some p) (e : p = .list qs) : ∃ l, d = .lst l ∧ toPyAll l = some qs := by
  cases d with
  | non => subst e; first | (cases h; done) | (cases h; rfl)
  | bl b => subst e; first | (cases h; done) | (cases h; rfl)
  | int i => subst e; first | (cases h; done) | (cases h; rfl)
  | str x => subst e; first | (cases h; done) | (cases h; rfl)
  | dct0 => subst e; first | (cases h; done) | (cases h; rfl)
  | scr ns => subst e; first | (cases h; done) | (cases h; rfl)
  | own k => subst e; first | (cases h; done) | (cases h; rfl)
  | exc C d => subst e; first | (cases h; done) | (cases h; rfl)
  | val v => subst e; first | (cases h; done) | (cases h; rfl)
  | tup l => obtain ⟨ps, h1, h2⟩ := toPy_tupE h; subst e; first | (cases h2; done) | (cases h2; exact ⟨l, rfl, h1⟩)
  | lst l => obtain ⟨ps, h1, h2⟩ := toPy_lstE h; subst e; first | (cases h2; done) | (cases h2; exact ⟨l, rfl, h1⟩)
theorem toPy_tuple {d : D} {qs : List PyData} {p : PyData} (h : toPy d = some p) (e : p = .tuple qs) : ∃ l, d = .tup l ∧ toPyAll l = some qs := by
  cases d with
  | non => subst e; first | (cases h; done) | (cases h; rfl)
  | bl b => subst e; first | (cases h; done) | (cases h; rfl)
  | int i => subst e; first | (cases h; done) | (cases h; rfl)
  | str x => subst e; first | (cases h; done) | (cases h; rfl)
  | dct0 => subst e; first | (cases h; done) | (cases h; rfl)
  | scr ns => subst e; first | (cases h; done) | (cases h; rfl)
  | own k => subst e; first | (cases h; done) | (cases h; rfl)
  | exc C d => subst e; first | (cases h; done) | (cases h; rfl)
  | val v => subst e; first | (cases h; done) | (cases h; rfl)
  | tup l => obtain ⟨ps, h1, h2⟩ := toPy_tupE h; subst e; first | (cases h2; done) | (cases h2; exact ⟨l, rfl, h1⟩)
  | lst l => obtain ⟨ps, h1, h2⟩ := toPy_lstE h; subst e; first | (cases h2; done) | (cases h2; exact ⟨l, rfl, h1⟩)
theorem toPy_dict {d : D} {qs : List (PyData × PyData)} {p : PyData} (h : toPy d = some p) (e : p = .dict qs) : d = .dct0 := by
  cases d with
  | non => subst e; first | (cases h; done) | (cases h; rfl)
  | bl b => subst e; first | (cases h; done) | (cases h; rfl)
  | int i => subst e; first | (cases h; done) | (cases h; rfl)
  | str x => subst e; first | (cases h; done) | (cases h; rfl)
  | dct0 => subst e; first | (cases h; done) | (cases h; rfl)
  | scr ns => subst e; first | (cases h; done) | (cases h; rfl)
  | own k => subst e; first | (cases h; done) | (cases h; rfl)
  | exc C d => subst e; first | (cases h; done) | (cases h; rfl)
  | val v => subst e; first | (cases h; done) | (cases h; rfl)
  | tup l => obtain ⟨ps, h1, h2⟩ := toPy_tupE h; subst e; first | (cases h2; done) | (cases h2; exact ⟨l, rfl, h1⟩)
  | lst l => obtain ⟨ps, h1, h2⟩ := toPy_lstE h; subst e; first | (cases h2; done) | (cases h2; exact ⟨l, rfl, h1⟩)
mutual
/-- data without truth values and dicts -/
def nb : PyData → Bool
  | .none => true
  | .int _ => true
  | .str _ => true
  | .list l => nbAll l
  | .tuple l => nbAll l
  | _ => false
def nbAll : List PyData → Bool
  | [] => true
  | d :: ds => nb d && nbAll ds
end
mutual
theorem eqv_iff : ∀ p q : PyData, nb p = true → nb q = true → (PyData.eqv p q = true ↔ p = q)
  | .none, .none, _, _ => by simp [PyData.eqv]
  | .none, .int _, _, _ => by simp [PyData.eqv]
  | .none, .str _, _, _ => by simp [PyData.eqv]
  | .none, .list _, _, _ => by simp [PyData.eqv]
  | .none, .tuple _, _, _ => by simp [PyData.eqv]
  | .int _, .none, _, _ => by simp [PyData.eqv]
  | .int _, .int _, _, _ => by simp [PyData.eqv]
  | .int _, .str _, _, _ => by simp [PyData.eqv]
  | .int _, .list _, _, _ => by simp [PyData.eqv]
  | .int _, .tuple _, _, _ => by simp [PyData.eqv]
  | .str _, .none, _, _ => by simp [PyData.eqv]
  | .str _, .int _, _, _ => by simp [PyData.eqv]
  | .str _, .str _, _, _ => by simp [PyData.eqv]
  | .str _, .list _, _, _ => by simp [PyData.eqv]
  | .str _, .tuple _, _, _ => by simp [PyData.eqv]
  | .list _, .none, _, _ => by simp [PyData.eqv]
  | .list _, .int _, _, _ => by simp [PyData.eqv]
  | .list _, .str _, _, _ => by simp [PyData.eqv]
  | .list xs, .list ys, h, g => by
    rw [PyData.eqv, eqv_iffAll xs ys (by simpa only [nb] using h) (by simpa only [nb] using g)]
    simp
  | .list _, .tuple _, _, _ => by simp [PyData.eqv]
  | .tuple _, .none, _, _ => by simp [PyData.eqv]
  | .tuple _, .int _, _, _ => by simp [PyData.eqv]
  | .tuple _, .str _, _, _ => by simp [PyData.eqv]
  | .tuple _, .list _, _, _ => by simp [PyData.eqv]
  | .tuple xs, .tuple ys, h, g => by
    rw [PyData.eqv, eqv_iffAll xs ys (by simpa only [nb] using h) (by simpa only [nb] using g)]
    simp
  | .bool _, _, h, _ => by simp [nb] at h
  | .dict _, _, h, _ => by simp [nb] at h
  | _, .bool _, _, h => by simp [nb] at h
  | _, .dict _, _, h => by simp [nb] at h
theorem eqv_iffAll : ∀ ps qs : List PyData, nbAll ps = true → nbAll qs = true → (PyData.eqvAll ps qs = true ↔ ps = qs)
  | [], [], _, _ => by simp [PyData.eqvAll]
  | [], _ :: _, _, _ => by simp [PyData.eqvAll]
  | _ :: _, [], _, _ => by simp [PyData.eqvAll]
  | p :: ps, q :: qs, h, g => by
    have h' : nb p = true ∧ nbAll ps = true := by simpa only [nbAll, Bool.and_eq_true] using h
    have g' : nb q = true ∧ nbAll qs = true := by simpa only [nbAll, Bool.and_eq_true] using g
    rw [PyData.eqvAll, Bool.and_eq_true, eqv_iff p q h'.1 g'.1, eqv_iffAll ps qs h'.2 g'.2]
    simp
end
mutual
/-- .. among our data -/
def nbD : D → Bool
  | .non => true
  | .int _ => true
  | .str _ => true
  | .tup l => nbDAll l
  | .lst l => nbDAll l
  | _ => false
def nbDAll : List D → Bool
  | [] => true
  | d :: ds => nbD d && nbDAll ds
end
theorem nbDAll_iff : ∀ {l : List D}, nbDAll l = true ↔ ∀ d ∈ l, nbD d = true
  | [] => by simp [nbDAll]
  | d :: l => by simp only [nbDAll, Bool.and_eq_true, List.mem_cons, forall_eq_or_imp, nbDAll_iff (l := l)]
mutual
theorem nb_py : ∀ (d : D) (p : PyData), nbD d = true → toPy d = some p → nb p = true
  | .non, _, _, h => by cases h; rfl
  | .int _, _, _, h => by cases h; rfl
  | .str _, _, _, h => by cases h; rfl
  | .tup l, p, g, h => by
    unfold toPy at h
    cases hl : toPyAll l with
    | none => rw [hl] at h; cases h
    | some ps =>
      rw [hl] at h
      cases h
      simp only [nb]
      exact nb_pyAll l ps (by simpa only [nbD] using g) hl
  | .lst l, p, g, h => by
    unfold toPy at h
    cases hl : toPyAll l with
    | none => rw [hl] at h; cases h
    | some ps =>
      rw [hl] at h
      cases h
      simp only [nb]
      exact nb_pyAll l ps (by simpa only [nbD] using g) hl
  | .bl _, _, g, _ => by simp [nbD] at g
  | .dct0, _, g, _ => by simp [nbD] at g
  | .scr _, _, g, _ => by simp [nbD] at g
  | .own _, _, g, _ => by simp [nbD] at g
  | .exc _ _, _, g, _ => by simp [nbD] at g
  | .val _, _, g, _ => by simp [nbD] at g
theorem nb_pyAll : ∀ (ds : List D) (ps : List PyData), nbDAll ds = true → toPyAll ds = some ps → nbAll ps = true
  | [], _, _, h => by cases h; rfl
  | d :: ds, ps, g, h => by
    have g' : nbD d = true ∧ nbDAll ds = true := by simpa only [nbDAll, Bool.and_eq_true] using g
    unfold toPyAll at h
    cases h1 : toPy d with
    | none => rw [h1] at h; cases h
    | some p =>
      cases h2 : toPyAll ds with
      | none => rw [h1, h2] at h; cases h
      | some ps' =>
        rw [h1, h2] at h
        cases h
        simp only [nbAll, Bool.and_eq_true]
        exact ⟨nb_py d p g'.1 h1, nb_pyAll ds ps' g'.2 h2⟩
end
mutual
theorem toPy_inj : ∀ (d d' : D) (p : PyData), toPy d = some p → toPy d' = some p → d = d'
  | d, d', .none, h, h' => by
    rw [toPy_non h rfl, toPy_non h' rfl]
  | d, d', .bool b, h, h' => by rw [toPy_bl h rfl, toPy_bl h' rfl]
  | d, d', .int i, h, h' => by rw [toPy_int h rfl, toPy_int h' rfl]
  | d, d', .str x, h, h' => by rw [toPy_str h rfl, toPy_str h' rfl]
  | d, d', .list ps, h, h' => by
    obtain ⟨l, rfl, e⟩ := toPy_list h rfl
    obtain ⟨l', rfl, e'⟩ := toPy_list h' rfl
    rw [toPy_injAll l l' ps e e']
  | d, d', .tuple ps, h, h' => by
    obtain ⟨l, rfl, e⟩ := toPy_tuple h rfl
    obtain ⟨l', rfl, e'⟩ := toPy_tuple h' rfl
    rw [toPy_injAll l l' ps e e']
  | d, d', .dict ps, h, h' => by rw [toPy_dict h rfl, toPy_dict h' rfl]
theorem toPy_injAll : ∀ (l l' : List D) (ps : List PyData), toPyAll l = some ps → toPyAll l' = some ps → l = l'
  | [], [], _, _, _ => rfl
  | [], d :: ds, ps, h, h' => by
    cases h
    obtain ⟨p, ps, h1, h2, e⟩ := toPyAll_cons h'
    cases e
  | d :: ds, [], ps, h, h' => by
    cases h'
    obtain ⟨p, ps, h1, h2, e⟩ := toPyAll_cons h
    cases e
  | d :: ds, d' :: ds', ps, h, h' => by
    obtain ⟨p, qs, h1, h2, rfl⟩ := toPyAll_cons h
    obtain ⟨p', qs', h1', h2', e⟩ := toPyAll_cons h'
    cases e
    rw [toPy_inj d d' p h1 h1', toPy_injAll ds ds' qs h2 h2']
end
/-- equality of plain data -/
theorem eqB_iff {n : Nat} {d d' : D} (h : fine n d = true) (h' : fine n d' = true) (g : nbD d = true) (g' : nbD d' = true) (hn : n ≤ 64 := by decide) : ∃ b, eqB d d' = some b ∧ (b = true ↔ d = d') := by
  obtain ⟨p, h1, h2⟩ := cmpd_fine h hn
  obtain ⟨p', h1', h2'⟩ := cmpd_fine h' hn
  unfold eqB
  split
  · refine ⟨_, rfl, ?_⟩
    rw [beq_iff_eq]
    exact ⟨fun e => by rw [e], fun e => by cases e; rfl⟩
  · rw [h2, h2']
    refine ⟨_, rfl, ?_⟩
    rw [eqv_iff p p' (nb_py d p g h1) (nb_py d' p' g' h1')]
    refine ⟨fun e => ?_, fun e => ?_⟩
    · subst e
      exact toPy_inj d d' p h1 h1'
    · subst e
      rw [h1] at h1'
      exact Option.some.inj h1'
theorem gEq_iff {n : Nat} {d d' : D} {M : Mem} {Q : DQ} (h : fine n d = true) (h' : fine n d' = true) (g : nbD d = true) (g' : nbD d' = true) (q : ∀ b, (b = true ↔ d = d') → Q (.bl b) M) (hn : n ≤ 64 := by decide) : gEq d d' M Q := by
  obtain ⟨b, e, hb⟩ := eqB_iff h h' g g' hn
  unfold gEq
  rw [res_fine h, res_fine h', e]
  exact q b hb
theorem gNe_iff {n : Nat} {d d' : D} {M : Mem} {Q : DQ} (h : fine n d = true) (h' : fine n d' = true) (g : nbD d = true) (g' : nbD d' = true) (q : ∀ b, (b = true ↔ d = d') → Q (.bl (!b)) M) (hn : n ≤ 64 := by decide) : gNe d d' M Q := by
  obtain ⟨b, e, hb⟩ := eqB_iff h h' g g' hn
  unfold gNe
  rw [res_fine h, res_fine h', e]
  exact q b hb
/-- one datum among others -/
theorem gIn_iff {n : Nat} {neg : Bool} {d e : D} {l : List D} {M : Mem} {Q : DQ} (hr : res M e = .lst l) (fd : fine n d = true) (hf : fineAll n l = true) (g : nbD d = true) (gl : nbDAll l = true) (q : ∀ b, (b = true ↔ d ∈ l) → Q (.bl (b != neg)) M) (hn : n ≤ 60 := by decide) : gIn neg d e M Q := by
  have fl : fine (n + 1) (.lst l) = true := by simp only [fine]; exact hf
  obtain ⟨p, hp, cp⟩ := cmpd_fine fd (by omega)
  obtain ⟨pl, hpl, cpl⟩ := cmpd_fine fl (by omega)
  unfold gIn
  rw [res_fine fd, hr, cp, cpl]
  have hpl' := hpl
  unfold toPy at hpl'
  cases hps : toPyAll l with
  | none => rw [hps] at hpl'; cases hpl'
  | some ps =>
    rw [hps] at hpl'
    cases hpl'
    refine q _ ?_
    have np := nb_py d p g hp
    clear hpl cpl fl hf cp hr q
    induction l generalizing ps with
    | nil => cases hps; simp
    | cons x l ih =>
      obtain ⟨p', qs, h1, h2, rfl⟩ := toPyAll_cons hps
      have gl' : nbD x = true ∧ nbDAll l = true := by simpa only [nbDAll, Bool.and_eq_true] using gl
      rw [List.any_cons, Bool.or_eq_true, List.mem_cons]
      refine or_congr ?_ (ih gl'.2 _ h2)
      rw [eqv_iff p' p (nb_py x p' gl'.1 h1) np]
      refine ⟨fun e => ?_, fun e => ?_⟩
      · subst e; exact toPy_inj d x _ hp h1
      · subst e; rw [hp] at h1; exact (Option.some.inj h1).symm
def sp_back_by : DSp := fun ds M Q _ => ∃ a b c e p q : Int, ds = [T4 a b c e, .tup [.int p, .int q]] ∧ 1 ≤ q ∧ 1 ≤ c ∧ Int.gcd p q = 1 ∧ CutB 450 a b c e ∧ Bi 450 p ∧ Bi 450 q ∧
  ∀ a' w g e' p1 q1, IsDone a b c e p q a' w g e' → IsBack a b c e p q a' w g p1 q1 → Q (.tup [.int p1, .int q1]) M
theorem rd_back_by : ∀ ds M Q, ds.length = 2 → sp_back_by ds M Q DX0 → t_back_by sp_full_by sp_round_of (dEnds M Q) (startD 6 ds) M := by
  rintro _ M Q - ⟨a, b, c, e, p, q, rfl, q1, c1, hg, ⟨ba, bb, bc, be⟩, bp, bq, h⟩
  unfold t_back_by
  refine dSeq_open fun B hB => ?_
  walk_at "rd"
  refine ⟨a, b, c, e, p, q, rfl, q1, c1, hg, ⟨ba, bb, bc, be⟩, bp, bq, fun a' w g e' x z f s t m n hF bf bs => ?_⟩
  walk_at "rd"
  rw [← hB]
  clear hB B
  have g0 := hF.g0
  walk_at "rd"
  have hgd : g ∣ q * c := ⟨n, hF.jn⟩
  have hqc : 0 < q * c := Int.mul_pos (by omega) (by omega)
  have bg : Bi 1000 g := ((bq.mul bc).of_dvd' (by omega) hgd).mono
  have bn : Bi 1000 n := ((bq.mul bc).of_dvd' (by omega) ⟨g, by rw [hF.jn, Int.mul_comm]⟩).mono
  have hn : 0 < n := by
    rw [hF.jn] at hqc
    exact Int.pos_of_mul_pos_right hqc (by omega)
  obtain ⟨l1, l2⟩ := lot_le (b := w) (show 1 ≤ g by omega)
  have bl : Bi 1000 (g / (Int.gcd w g : Int)) := by unfold Bi at bg ⊢; omega
  refine ⟨a', w, g, e', rfl, by omega, bg, ?_⟩
  dsimp only
  rw [Int.neg_neg]
  have hN : 0 < n * (g / (Int.gcd w g : Int)) := Int.mul_pos hn (by omega)
  refine ⟨⟨bn.sm, bl.sm⟩, Int.ne_of_gt hN, rtq ?_⟩
  rw [fmod_pos hN]
  exact h _ _ _ _ _ _ hF.dn (back_of_full q1 c1 hF)
def sp_back : DSp := fun ds M Q _ => ∃ a b c e p q : Int, ds = [T4 a b c e, .tup [.int p, .int q]] ∧ isCut a b c e = true ∧ CutB 450 a b c e ∧ Bi 450 p ∧ Bi 450 q ∧ isDeed b c e p q = true ∧
  ∀ a' w g e' p1 q1, IsDone a b c e p q a' w g e' → IsBack a b c e p q a' w g p1 q1 → Q (.tup [.int p1, .int q1]) M
theorem rd_back : ∀ ds M Q, ds.length = 2 → sp_back ds M Q DX0 → t_back sp_check_deed sp_back_by (dEnds M Q) (startD 2 ds) M := by
  rintro _ M Q - ⟨a, b, c, e, p, q, rfl, hcut, cb, bp, bq, hd, h⟩
  unfold t_back
  walk_at "rd"
  have hp := (isDeed_parts hd).1
  refine ⟨a, b, c, e, p, q, rfl, hcut, cb, bq, hd, a, b, c, e, p, q, rfl, hp.q1, (cut_parts hcut).2.1, hp.cp, cb, bp, bq, fun a' w g e' p1 q1 h1 h2 => ?_⟩
  exact rtq (h _ _ _ _ _ _ h1 h2)
def sp_lfits : DSp := fun ds M Q _ => ∃ a b c e p q a' w g e' p1 q1 : Int, ds = [T4 a b c e, .tup [.int p, .int q], T4 a' w g e', .tup [.int p1, .int q1]] ∧ 1 ≤ q ∧ 1 ≤ c ∧ 1 ≤ g ∧ Int.gcd p q = 1 ∧ CutB 100 a b c e ∧ Bi 100 p ∧ Bi 100 q ∧
  CutB 100 a' w g e' ∧ Bi 100 p1 ∧ Bi 100 q1 ∧ 0 ≤ p1 ∧ p1 < q1 * (g / (Int.gcd w g : Int)) ∧ ∀ v, (v = true ↔ IsBack a b c e p q a' w g p1 q1) → Q (.bl v) M
theorem rd_l_fits_back_8544 : ∀ ds M Q, ds.length = 4 → sp_lfits ds M Q DX0 → t_l_fits_back_8544 sp_lcolumns (dEnds M Q) (startD 9 ds) M := by
  rintro _ M Q - ⟨a, b, c, e, p, q, a', w, g, e', p1, q1, rfl, hq, hc, hg, cp, cb, bp, bq, cb', bp1, bq1, hp0, hp1, h⟩
  unfold t_l_fits_back_8544
  refine dSeq_open fun B hB => ?_
  walk_at "rd"
  refine ⟨a, b, c, e, p, q, rfl, hq, cp, ⟨cb.1.mono, cb.2.1.mono, cb.2.2.1.mono, cb.2.2.2.mono⟩, bp.mono, bq.mono, fun x z hxz bx bz => ?_⟩
  walk_at "rd"
  rw [← hB]
  clear hB B
  refine dSeq_open fun B hB => ?_
  walk_at "rd"
  rw [← hB]
  clear hB B
  refine dSeq_open fun B hB => ?_
  walk_at "rd"
  have hqc : 0 < q * c := Int.mul_pos (by omega) (by omega)
  have bI : Bi 203 (p * b + q * a) := ((bp.mul cb.2.1).add (bq.mul cb.1)).mono
  have bs : Bi 103 (0 - p1) := bp1.neg.mono
  have bK : Bi 310 (g - (0 - p1) * (p * b + q * a)) := (((cb'.2.2.1.mono (k := 306)).sub (bs.mul bI)).mono)
  refine ⟨⟨bq1.sm, cb'.2.2.1.sm⟩, ?_⟩
  by_cases h1 : q1 * g = q * c
  · rw [if_neg (fun z => z h1)]
    refine ⟨⟨bs.sm, bI.sm⟩, Int.ne_of_gt hqc, ?_⟩
    rw [fmod_pos hqc]
    by_cases h2 : (g - (0 - p1) * (p * b + q * a)) % (q * c) = 0
    · rw [if_neg (fun z => z h2), ← hB]
      clear hB B
      walk_at "rd"
      obtain ⟨t, ht⟩ := Int.dvd_of_emod_eq_zero h2
      have et : (g - (0 - p1) * (p * b + q * a)).fdiv (q * c) = t := by
        rw [fdiv_pos hqc, ht]
        exact Int.mul_ediv_cancel_left _ (by omega)
      rw [et]
      have bt : Bi 311 t := by
        by_cases hz : g - (0 - p1) * (p * b + q * a) = 0
        · rw [hz] at ht
          have : t = 0 := by
            rcases Int.mul_eq_zero.mp ht.symm with h | h
            · omega
            · exact h
          rw [this]; exact (Bi.of_abs 1 (by decide) : Bi 311 0)
        · exact (bK.of_dvd' hz ⟨q * c, by rw [ht, Int.mul_comm]⟩).mono
      have bJ : Bi 560 (x * b + z * a + e + q * c) := (((((bx.mul cb.2.1).add (bz.mul cb.1)).add (cb.2.2.2.mono (k := 552))).add ((bq.mul cb.2.2.1).mono (k := 553))).mono)
      refine ⟨⟨bs.sm, bI.sm⟩, ⟨Int.ne_of_gt hqc, Nat.lt_of_lt_of_le (log2_of 200 (bq.mul cb.2.2.1) (by decide)) (by decide)⟩, ⟨bs.sm, bJ.sm⟩, ⟨bt.sm, (bz.mul cb.2.2.1).sm⟩, show g ≠ 0 by omega, rtq ?_⟩
      rw [fmod_pos (show 0 < g by omega)]
      have key : 0 - (0 - p1) * (x * b + z * a + e + q * c) - t * (z * c) - a' = -((-p1) * (x * b + z * a + e + q * c) + t * (z * c) + a') := by rw [Int.zero_sub p1]; omega
      have bz1 : (-p1) * (p * b + q * a) + t * (q * c) = g := by rw [Int.zero_sub] at ht; rw [Int.mul_comm t]; omega
      refine h _ ?_
      rw [beq_iff_eq, key]
      constructor
      · intro h3
        exact ⟨h1, hp0, hp1, x, z, t, hxz, bz1, Int.dvd_neg.mp (Int.dvd_of_emod_eq_zero h3)⟩
      · intro hb
        obtain ⟨x', z', t', f1, f2, f3⟩ := hb.ex
        have et : t' = t := by
          refine Int.eq_of_mul_eq_mul_right (show q * c ≠ 0 by omega) ?_
          omega
        subst et
        exact Int.emod_eq_zero_of_dvd (Int.dvd_neg.mpr (rest_row f1 hxz f2 f3))
    · rw [if_pos h2]
      refine rtq (h false ⟨fun z => (by cases z), fun hb => ?_⟩)
      obtain ⟨x', z', t, f1, f2, f3⟩ := hb.ex
      refine absurd ?_ h2
      have : g - (0 - p1) * (p * b + q * a) = q * c * t := by
        rw [Int.zero_sub, Int.mul_comm (q * c) t]
        omega
      rw [this]
      exact Int.mul_emod_right _ _
  · rw [if_pos h1]
    exact rtq (h false ⟨fun z => (by cases z), fun hb => absurd hb.nq h1⟩)
theorem filt_one {α : Type} [DecidableEq α] {l : List α} {y : α} (h : l.Nodup) (hy : y ∈ l) : (l.filterMap fun x => if x = y then some x else none) = [y] := by
  induction l with
  | nil => cases hy
  | cons x l ih =>
    obtain ⟨h1, h2⟩ := List.nodup_cons.mp h
    rw [List.filterMap_cons]
    by_cases hx : x = y
    · subst hx
      rw [if_pos rfl]
      dsimp only
      rw [List.filterMap_eq_nil_iff.mpr]
      intro z hz
      rw [if_neg]
      rintro rfl
      exact h1 hz
    · rw [if_neg hx]
      dsimp only
      refine ih h2 ?_
      rcases List.mem_cons.mp hy with h | h
      · exact absurd h.symm hx
      · exact h
def sp_lback : DSp := fun ds M Q _ => ∃ a b c e p q : Int, ds = [T4 a b c e, .tup [.int p, .int q]] ∧ isCut a b c e = true ∧ meas4 b c e ≤ 600 ∧ isDeed b c e p q = true ∧
  ∀ a' w g e' p1 q1, IsDone a b c e p q a' w g e' → IsBack a b c e p q a' w g p1 q1 → Q (.lst [tI [p1, q1]]) M
theorem rd_l_back_ac0c : ∀ ds M Q, ds.length = 2 → sp_lback ds M Q DX0 → t_l_back_ac0c sp_lled sp_ldeeds sp_lfits (dEnds M Q) (startD 4 ds) M := by
  rintro _ M Q - ⟨a, b, c, e, p, q, rfl, hcut, hm, hd, h⟩
  unfold t_l_back_ac0c
  obtain ⟨a', w, g, e', hdn⟩ := done_ex (a := a) (b := b) (e := e) (cut_parts hcut).2.1 (isDeed_parts hd).1.q1 (isDeed_parts hd).1.cp
  obtain ⟨p1, q1, hb⟩ := back_ex hcut hd hdn
  obtain ⟨hc2, hm2, hg0⟩ := done_of hcut hd hdn
  obtain ⟨hd1, hdn1, hb1⟩ := back_facts hcut hd hdn hb
  have q0 := h _ _ _ _ _ _ hdn hb
  clear h
  refine dSeq_open fun B hB => ?_
  walk_at "rd"
  refine sp_lled_small hcut (by omega) hd hdn ?_
  rw [← hB]
  clear hB B
  walk_at "rd"
  refine ⟨a', w, g, e', rfl, hc2, by omega, fun l hl => ?_⟩
  refine lcW_tI (fun x => if x = [p1, q1] then some x else none) trivial (by rw [sizeLine_eq]; exact Nat.le_trans hl.len (by decide)) (fun x hx Y N hy => ?_) ?_
  · obtain ⟨p2, q2, rfl, hd2⟩ := (hl.mem x).mp hx
    show _
    unfold tI
    walk_at "rd"
    have cb := small_cb hcut (by omega)
    have cb2 := small_cb hc2 (by omega)
    obtain ⟨s1, s2, s3, s4⟩ := deed_small hcut (by omega) hd
    obtain ⟨t1, t2, t3, t4⟩ := deed_small hc2 (by omega) hd2
    have bq : Bi 12 q := Bi.of_abs 1000 (by omega) (by decide)
    have bq2 : Bi 12 q2 := Bi.of_abs 1000 (by omega) (by decide)
    have hp2 := isDeed_parts hd2
    have hpp := isDeed_parts hd
    have hother : ¬ IsBack a b c e p q a' w g p2 q2 → [p2, q2] ≠ [p1, q1] := by
      rintro hn z
      cases z
      exact hn hb
    have hsame : IsBack a b c e p q a' w g p2 q2 → [p2, q2] = [p1, q1] := fun h2 => by
      obtain ⟨rfl, rfl⟩ := back_unique hg0 hdn.wi (by rw [hdn.gc]; exact Int.gcd_dvd_left _ _) h2 hb
      rfl
    refine ⟨⟨bq2.sm, cb2.2.2.1.sm⟩, ⟨bq.sm, cb.2.2.1.sm⟩, ?_⟩
    by_cases h1 : q2 * g = q * c
    · rw [if_pos h1]
      refine ⟨a, b, c, e, p, q, a', w, g, e', p2, q2, rfl, hpp.1.q1, (cut_parts hcut).2.1, by omega, hpp.1.cp, cb.mono, Bi.of_abs 100000 (by omega) (by decide), bq.mono, cb2.mono, Bi.of_abs 100000 (by omega) (by decide), bq2.mono, t1, hp2.2, fun v hv => ?_⟩
      dsimp only
      cases v
      · rw [if_neg (hother (fun z => by cases hv.mpr z))] at hy
        exact hy
      · rw [if_pos (hsame (hv.mp rfl))] at hy
        exact hy
    · rw [if_neg h1]
      rw [if_neg (hother (fun z => h1 z.nq))] at hy
      exact hy
  · rw [filt_one hl.nd ((hl.mem _).mpr ⟨p1, q1, rfl, hd1⟩)]
    first | exact ⟨rfl, rtq q0⟩ | exact rtq q0
end DL
/-! MG: how many numbers below n are free of n; plain -/
namespace DL
open Classical in
noncomputable def cnt (n : Nat) (P : Nat → Prop) : Nat := (List.range n).countP fun i => decide (P i)
open Classical in
theorem cnt_congr {n : Nat} {P Q : Nat → Prop} (h : ∀ i, i < n → (P i ↔ Q i)) : cnt n P = cnt n Q := by
  unfold cnt
  refine List.countP_congr fun i hi => ?_
  rw [decide_eq_true_iff, decide_eq_true_iff]
  exact h i (List.mem_range.mp hi)
theorem cnt_zero (P : Nat → Prop) : cnt 0 P = 0 := rfl
theorem cnt_add (m n : Nat) (P : Nat → Prop) : cnt (m + n) P = cnt m P + cnt n (fun i => P (m + i)) := by
  unfold cnt
  rw [List.range_add, List.countP_append, List.countP_map]
  rfl
open Classical in
theorem cnt_none {n : Nat} {P : Nat → Prop} (h : ∀ i, i < n → ¬ P i) : cnt n P = 0 := by
  unfold cnt
  rw [List.countP_eq_zero]
  intro i hi
  rw [decide_eq_true_iff]
  exact h i (List.mem_range.mp hi)
open Classical in
theorem cnt_split (n : Nat) (P Q : Nat → Prop) : cnt n P = cnt n (fun i => P i ∧ Q i) + cnt n (fun i => P i ∧ ¬ Q i) := by
  induction n with
  | zero => rfl
  | succ n ih =>
    rw [cnt_add, cnt_add, cnt_add, ih]
    have one : ∀ R : Nat → Prop, cnt 1 R = (if R 0 then 1 else 0) := by
      intro R
      unfold cnt
      rw [show List.range 1 = [0] from rfl, List.countP_singleton]
      by_cases h : R 0
      · simp [h]
      · simp [h]
    rw [one, one, one]
    generalize cnt n (fun i => P i ∧ Q i) = A
    generalize cnt n (fun i => P i ∧ ¬ Q i) = B
    generalize P (n + 0) = p
    generalize Q (n + 0) = q
    by_cases h1 : p
    · by_cases h2 : q
      · rw [if_pos h1, if_pos ⟨h1, h2⟩, if_neg (fun z => z.2 h2)]; omega
      · rw [if_pos h1, if_neg (fun z => h2 z.2), if_pos ⟨h1, h2⟩]; omega
    · rw [if_neg h1, if_neg (fun z => h1 z.1), if_neg (fun z => h1 z.1)]; omega
open Classical in
theorem cnt_one (R : Nat → Prop) (h : R 0) : cnt 1 R = 1 := by
  unfold cnt
  rw [show List.range 1 = [0] from rfl, List.countP_singleton]
  simp [h]
theorem cnt_per {m : Nat} {P : Nat → Prop} (h : ∀ i, P (m + i) ↔ P i) : ∀ k, cnt (k * m) P = k * cnt m P
  | 0 => by rw [Nat.zero_mul, Nat.zero_mul]; rfl
  | k + 1 => by
    rw [Nat.succ_mul, Nat.add_comm, cnt_add, cnt_congr (n := k * m) fun i _ => h i, cnt_per h k, Nat.succ_mul, Nat.add_comm]
theorem cnt_mul {k : Nat} (hk : 1 ≤ k) (P : Nat → Prop) : ∀ m, cnt (m * k) (fun i => k ∣ i ∧ P i) = cnt m (fun j => P (j * k))
  | 0 => by rw [Nat.zero_mul]; rfl
  | m + 1 => by
    rw [Nat.succ_mul, cnt_add, cnt_mul hk P m, cnt_add]
    congr 1
    obtain ⟨j, rfl⟩ : ∃ j, k = 1 + j := ⟨k - 1, by omega⟩
    rw [cnt_add, cnt_none (n := j), Nat.add_zero]
    · refine cnt_congr fun i hi => ?_
      have : i = 0 := by omega
      subst this
      rw [Nat.add_zero, Nat.add_zero]
      exact ⟨fun h => h.2, fun h => ⟨Nat.dvd_mul_left _ _, h⟩⟩
    · intro i hi h
      have h1 := (Nat.dvd_add_right (Nat.dvd_mul_left (1 + j) m)).mp h.1
      have := Nat.le_of_dvd (by omega) h1
      omega
/-- no divisor of n below k divides i -/
def Free (n k i : Nat) : Prop := ∀ d, 2 ≤ d → d < k → d ∣ n → ¬ d ∣ i
noncomputable def phi (n : Nat) : Nat := cnt n fun i => Nat.gcd i n = 1
theorem free_gcd {n k i : Nat} (hn : 1 ≤ n) (hk : n < k) : Free n k i ↔ Nat.gcd i n = 1 := by
  constructor
  · intro h
    have g0 : 0 < Nat.gcd i n := Nat.gcd_pos_of_pos_right _ (by omega)
    have g1 : Nat.gcd i n ≤ n := Nat.le_of_dvd (by omega) (Nat.gcd_dvd_right _ _)
    by_cases z : Nat.gcd i n = 1
    · exact z
    · exact (h (Nat.gcd i n) (by omega) (by omega) (Nat.gcd_dvd_right _ _) (Nat.gcd_dvd_left _ _)).elim
  · intro h d d2 _ dn di
    have := Nat.dvd_gcd di dn
    rw [h] at this
    have := Nat.le_of_dvd (by decide) this
    omega
/-- the state of the reckoning -/
structure Fst (n k left c : Nat) : Prop where
  l1 : 1 ≤ left
  ln : left ∣ n
  low : ∀ d, 2 ≤ d → d < k → ¬ d ∣ left
  up : ∀ d, d ∣ n → (∀ e, 2 ≤ e → e < k → ¬ e ∣ d) → d ∣ left
  ct : c = cnt n (Free n k)
theorem Fst.no {n k left c : Nat} (hk : 2 ≤ k) (h : Fst n k left c) (hd : ¬ k ∣ left) : Fst n (k + 1) left c := by
  refine ⟨h.l1, h.ln, fun d d2 d3 => ?_, fun d d1 d2 => h.up d d1 fun e e1 e2 => d2 e e1 (by omega), ?_⟩
  · by_cases z : d = k
    · subst z; exact hd
    · exact h.low d d2 (by omega)
  · rw [h.ct]
    refine cnt_congr fun i _ => ⟨fun f d d2 d3 dn di => ?_, fun f d d2 d3 => f d d2 (by omega)⟩
    by_cases z : d = k
    · subst z
      refine hd (h.up d dn fun e e2 e3 ed => ?_)
      exact f e e2 e3 (Nat.dvd_trans ed dn) (Nat.dvd_trans ed di)
    · exact f d d2 (by omega) dn di
/-- a divisor of what is left that no lower one divides -/
theorem Fst.yes {n k left c left' : Nat} (hn : 1 ≤ n) (hk : 2 ≤ k) (h : Fst n k left c) (hd : k ∣ left) (h1 : left' ∣ left) (h2 : ¬ k ∣ left') (h3 : ∀ d, Nat.gcd d k = 1 → d ∣ left → d ∣ left') : Fst n (k + 1) left' (c / k * (k - 1)) := by
  have prime : ∀ e, 2 ≤ e → e < k → ¬ e ∣ k := fun e e2 e3 ek => h.low e e2 e3 (Nat.dvd_trans ek hd)
  have cop : ∀ d, (∀ e, 2 ≤ e → e < k + 1 → ¬ e ∣ d) → Nat.gcd d k = 1 := by
    intro d hd'
    have g0 : 0 < Nat.gcd d k := Nat.gcd_pos_of_pos_right _ (by omega)
    have g1 : Nat.gcd d k ≤ k := Nat.le_of_dvd (by omega) (Nat.gcd_dvd_right _ _)
    by_cases z : Nat.gcd d k = 1
    · exact z
    · exact (hd' (Nat.gcd d k) (by omega) (by omega) (Nat.gcd_dvd_left _ _)).elim
  have cop2 : ∀ d, 2 ≤ d → d < k → Nat.gcd d k = 1 := by
    intro d d2 d3
    have g0 : 0 < Nat.gcd d k := Nat.gcd_pos_of_pos_right _ (by omega)
    have g1 : Nat.gcd d k ≤ d := Nat.le_of_dvd (by omega) (Nat.gcd_dvd_left _ _)
    by_cases z : Nat.gcd d k = 1
    · exact z
    · exact (prime (Nat.gcd d k) (by omega) (by omega) (Nat.gcd_dvd_right _ _)).elim
  have l1 : 1 ≤ left' := by
    rcases Nat.eq_zero_or_pos left' with z | z
    · rw [z] at h1
      have := Nat.zero_dvd.mp h1
      have := h.l1
      omega
    · exact z
  refine ⟨l1, Nat.dvd_trans h1 h.ln, fun d d2 d3 dl => ?_, fun d d1 d2 => h3 d (cop d d2) (h.up d d1 fun e e1 e2 => d2 e e1 (by omega)), ?_⟩
  · by_cases z : d = k
    · subst z; exact h2 dl
    · exact h.low d d2 (by omega) (Nat.dvd_trans dl h1)
  · obtain ⟨m, hm⟩ := Nat.dvd_trans hd h.ln
    have per : ∀ i, Free n k (m + i) ↔ Free n k i := by
      have dm : ∀ d, 2 ≤ d → d < k → d ∣ n → d ∣ m := by
        intro d d2 d3 dn
        rw [hm] at dn
        exact Nat.Coprime.dvd_of_dvd_mul_left (cop2 d d2 d3) dn
      refine fun i => ⟨fun f d d2 d3 dn di => f d d2 d3 dn (Nat.dvd_add (dm d d2 d3 dn) di), fun f d d2 d3 dn di => f d d2 d3 dn ((Nat.dvd_add_right (dm d d2 d3 dn)).mp di)⟩
    have e1 : cnt n (Free n k) = k * cnt m (Free n k) := by
      have := cnt_per per k
      rw [← hm] at this
      exact this
    have e2 : cnt n (fun i => Free n k i ∧ k ∣ i) = cnt m (Free n k) := by
      have h5 := cnt_mul (k := k) (by omega) (Free n k) m
      rw [Nat.mul_comm, ← hm] at h5
      rw [cnt_congr (Q := fun i => k ∣ i ∧ Free n k i) (fun i _ => And.comm), h5]
      refine cnt_congr fun j _ => ⟨fun f d d2 d3 dn dj => f d d2 d3 dn (Nat.dvd_mul_right_of_dvd dj _), fun f d d2 d3 dn dj => f d d2 d3 dn ?_⟩
      exact Nat.Coprime.dvd_of_dvd_mul_right (cop2 d d2 d3) dj
    have e3 : cnt n (Free n (k + 1)) = cnt n (fun i => Free n k i ∧ ¬ k ∣ i) := by
      refine cnt_congr fun i _ => ⟨fun f => ⟨fun d d2 d3 => f d d2 (by omega), f k hk (by omega) ⟨m, hm⟩⟩, fun f d d2 d3 dn di => ?_⟩
      by_cases z : d = k
      · subst z; exact f.2 di
      · exact f.1 d d2 (by omega) dn di
    have e4 := cnt_split n (Free n k) (fun i => k ∣ i)
    rw [e3, h.ct, e1, Nat.mul_div_cancel_left _ (by omega)]
    rw [e1, e2] at e4
    obtain ⟨j, rfl⟩ : ∃ j, k = j + 1 := ⟨k - 1, by omega⟩
    rw [Nat.succ_mul] at e4
    rw [Nat.add_sub_cancel, Nat.mul_comm]
    omega
open Classical in
theorem Fst.start {n : Nat} (hn : 1 ≤ n) : Fst n 2 n n := by
  refine ⟨hn, Nat.dvd_refl _, fun d d2 d3 => by omega, fun d h _ => h, ?_⟩
  unfold cnt
  rw [List.countP_eq_length.mpr, List.length_range]
  intro i _
  rw [decide_eq_true_iff]
  intro d d2 d3
  omega
/-- on to a later place, where nothing divides -/
theorem Fst.far {n k left c : Nat} (hk : 2 ≤ k) (h : Fst n k left c) : ∀ j, (∀ d, k ≤ d → d < k + j → ¬ d ∣ left) → Fst n (k + j) left c
  | 0, _ => h
  | j + 1, hd => Fst.no (k := k + j) (by omega) (Fst.far hk h j fun d d1 d2 => hd d d1 (by omega)) (hd (k + j) (by omega) (by omega))
theorem Fst.done {n k left c : Nat} (hn : 1 ≤ n) (hk : n < k) (h : Fst n k left c) : c = phi n := by
  rw [h.ct]
  exact cnt_congr fun i _ => free_gcd hn hk
theorem Fst.fin {n k left c : Nat} (hn : 1 ≤ n) (hk : 2 ≤ k) (h : Fst n k left c) (hl : left < k * k) : (if 1 < left then c / left * (left - 1) else c) = phi n := by
  by_cases h1 : 1 < left
  · rw [if_pos h1]
    -- what is left has no divisor of its own
    have own : ∀ d, 2 ≤ d → d < left → ¬ d ∣ left := by
      intro d d2 d3 ⟨j, hj⟩
      by_cases z : d < k
      · exact h.low d d2 z ⟨j, hj⟩
      · by_cases y : j < k
        · have j2 : 2 ≤ j := by
            rcases (by omega : j = 0 ∨ j = 1 ∨ 2 ≤ j) with e | e | e
            · rw [e] at hj; omega
            · rw [e] at hj; omega
            · exact e
          exact h.low j j2 y ⟨d, by rw [hj, Nat.mul_comm]⟩
        · have : k * k ≤ d * j := Nat.mul_le_mul (by omega) (by omega)
          omega
    have hkl : k ≤ left := by
      by_cases z : k ≤ left
      · exact z
      · exact (h.low left (by omega) (by omega) (Nat.dvd_refl _)).elim
    have s1 := h.far hk (left - k) fun d d1 d2 => own d (by omega) (by omega)
    rw [show k + (left - k) = left by omega] at s1
    have s2 := s1.yes (left' := 1) hn (by omega) (Nat.dvd_refl _) (Nat.one_dvd _) (fun z => by have := Nat.le_of_dvd (by decide) z; omega) (fun d d1 d2 => by
      have := Nat.dvd_gcd (Nat.dvd_refl d) d2
      rw [d1] at this
      exact this)
    have s3 := s2.far (by omega) n fun d d1 d2 z => by have := Nat.le_of_dvd (by decide) z; omega
    exact s3.done hn (by omega)
  · rw [if_neg h1]
    have e : left = 1 := by have := h.l1; omega
    subst e
    have s3 := h.far hk n fun d d1 d2 z => by have := Nat.le_of_dvd (by decide) z; omega
    exact s3.done hn (by omega)
theorem cnt_le (n : Nat) (P : Nat → Prop) : cnt n P ≤ n := by
  unfold cnt
  exact Nat.le_trans List.countP_le_length (by rw [List.length_range]; omega)
theorem phi_le (n : Nat) : phi n ≤ n := by
  unfold phi cnt
  exact Nat.le_trans List.countP_le_length (by rw [List.length_range]; omega)
/-- as many in each turn -/
theorem phi_rows (n k : Nat) : cnt (k * n) (fun i => Nat.gcd i n = 1) = k * phi n := by
  refine cnt_per (fun i => ?_) k
  rw [Nat.gcd_comm (n + i), Nat.gcd_comm i, Nat.add_comm n i, Nat.gcd_add_self_right]
end DL
namespace DL
open PySem PySem.Spec PyProof.Rows L2
def t_free_count : DTS :=
 (dSeq (dPar3 1 2 3 (dCons (dVar 0) (dCons (dVar 0) (dCons (dC (.int 2)) dNil))))
 (dSeq (dWhile (dTru (dOp (gCmpI fun i j => decide (i ≤ j)) (dOp (rBin CMul fun i j => i * j) (dVar 3) (dVar 3)) (dVar 2))) (dSeq (dIfS (dTru (dOp gEq (dOp (rBin CMod fun i j => i.fmod j) (dVar 2) (dVar 3)) (dC (.int 0)))) (dSeq (dAsg (dOp (rBin CMul fun i j => i * j) (dOp (rBin CDiv fun i j => i.fdiv j) (dVar 1) (dVar 3)) (dOp (rBin (fun _ _ => True) fun i j => i - j) (dVar 3) (dC (.int 1)))) (dName 1))
 (dWhile (dTru (dOp gEq (dOp (rBin CMod fun i j => i.fmod j) (dVar 2) (dVar 3)) (dC (.int 0)))) (dAsg (dOp (rBin CDiv fun i j => i.fdiv j) (dVar 2) (dVar 3)) (dName 2)))) dNext)
 (dAsg (dOp gAdd (dVar 3) (dC (.int 1))) (dName 3))))
 (dRet (dIf (dTru (dOp (gCmpI fun i j => decide (j < i)) (dVar 2) (dC (.int 1)))) (dOp (rBin CMul fun i j => i * j) (dOp (rBin CDiv fun i j => i.fdiv j) (dVar 1) (dVar 2)) (dOp (rBin (fun _ _ => True) fun i j => i - j) (dVar 2) (dC (.int 1)))) (dVar 1)))))
def t_count_deeds (c_allowed_by : DSp) (c_free_count : DSp) (c_round_of : DSp) : DTS :=
 (dSeq (dAsg (dTup (dCons (dC (.int 0)) (dCons (dC (.int 1)) dNil))) (dGTup 2 (dGCons (dName 1) (dGCons (dName 2) dGNil))))
 (dSeq (dWhile (dTru (dCall 2 c_allowed_by [] DX0 (dCons (dVar 0) (dCons (dVar 2) dNil)))) (dPar 1 2 (dCons (dOp gAdd (dVar 1) (dCall 1 c_free_count [] DX0 (dCons (dVar 2) dNil))) (dCons (dOp gAdd (dVar 2) (dC (.int 1))) dNil))))
 (dRet (dOp (rBin CMul fun i j => i * j) (dVar 1) (dCall 1 c_round_of [] DX0 (dCons (dVar 0) dNil))))))
def t_check_few (c_count_deeds : DSp) : DTS :=
 (dSeq (dAsg (dCall 1 c_count_deeds [] DX0 (dCons (dVar 0) dNil)) (dName 1))
 (dIfS (dTru (dOp (gCmpI fun i j => decide (j < i)) (dVar 1) (dC (.int 2000)))) dNever dNext))
def t_deeds_by_o (c_allowed_by : DSp) (c_round_of : DSp) : DTS :=
 (dSeq (dAsg (dTup (dCons (dLst dNil) (dCons (dC (.int 1)) dNil))) (dGTup 2 (dGCons (dName 1) (dGCons (dName 2) dGNil))))
 (dSeq (dWhile (dTru (dCall 2 c_allowed_by [] DX0 (dCons (dVar 0) (dCons (dVar 2) dNil)))) (dSeq (dAsg (dOp gAdd (dVar 1) (dLc false (dRngI gRng1 (dCons (dOp (rBin CMul fun i j => i * j) (dVar 2) (dCall 1 c_round_of [] DX0 (dCons (dVar 0) dNil))) dNil)) (dName 3) (dTru (dOp gEq (dCB gGcd (dCons (dVar 3) (dCons (dVar 2) dNil))) (dC (.int 1)))) (dTup (dCons (dVar 3) (dCons (dVar 2) dNil))) [3])) (dName 1))
 (dAsg (dOp gAdd (dVar 2) (dC (.int 1))) (dName 2))))
 (dRet (dCB (gSorted true) (dCons (dVar 1) dNil)))))
def t_deeds_o (c_check_cutting : DSp) (c_check_few : DSp) (c_deeds_by_o : DSp) : DTS :=
 (dSeq (dDrop (dCall 1 c_check_cutting [] DX0 (dCons (dVar 0) dNil)))
 (dSeq (dDrop (dCall 1 c_check_few [] DX0 (dCons (dVar 0) dNil)))
 (dRet (dCall 1 c_deeds_by_o [] DX0 (dCons (dVar 0) dNil)))))
def t_how_many_deeds (c_check_cutting : DSp) (c_count_deeds : DSp) : DTS :=
 (dSeq (dDrop (dCall 1 c_check_cutting [] DX0 (dCons (dVar 0) dNil)))
 (dRet (dCall 1 c_count_deeds [] DX0 (dCons (dVar 0) dNil))))
def t_l_listed_right_e3bd (c_l_deeds_faf6 : DSp) (c_deeds_o : DSp) (c_how_many_deeds : DSp) : DTS :=
 (dSeq (dAsg (dCall 1 c_l_deeds_faf6 [] DX0 (dCons (dVar 0) dNil)) (dName 1))
 (dSeq (dAsg (dCall 1 c_deeds_o [] DX0 (dCons (dVar 0) dNil)) (dName 2))
 (dSeq (dIfS (dOr (dTru (dOp gNe (dCB gRepr (dCons (dVar 2) dNil)) (dCB gRepr (dCons (dVar 1) dNil)))) (dOr (dTru (dOp gNe (dCB gRepr (dCons (dCall 1 c_how_many_deeds [] DX0 (dCons (dVar 0) dNil)) dNil)) (dCB gRepr (dCons (dCB gLen (dCons (dVar 1) dNil)) dNil)))) (dOr (dTru (dOp gNe (dCallK 1 1 c_deeds_o [0] DX0 (dCons (dVar 0) dNil)) (dVar 1))) (dTru (dOp (gIn true) (dTup (dCons (dC (.int 0)) (dCons (dC (.int 1)) dNil))) (dVar 2)))))) (dRet (dC (.bl false))) dNext)
 (dSeq (dIfS (dTru (dOp gNe (dCallK 1 1 c_how_many_deeds [0] DX0 (dCons (dVar 0) dNil)) (dCB gLen (dCons (dVar 1) dNil)))) (dRet (dC (.bl false))) dNext)
 (dSeq (dDrop (dMet gAppend (dVar 2) (dCons (dC .non) dNil)))
 (dRet (dOp gEq (dCall 1 c_deeds_o [] DX0 (dCons (dVar 0) dNil)) (dVar 1))))))))
def t_is_deed (c_check_cutting : DSp) (c_is_deed_by : DSp) : DTS :=
 (dSeq (dDrop (dCall 1 c_check_cutting [] DX0 (dCons (dVar 0) dNil)))
 (dRet (dCall 2 c_is_deed_by [] DX0 (dCons (dVar 0) (dCons (dVar 1) dNil)))))
def t_l_judged_right_ab6f (c_l_deeds_faf6 : DSp) (c_l_divisor_b609 : DSp) (c_is_deed : DSp) : DTS :=
 (dSeq (dPar 1 2 (dCons (dCall 1 c_l_deeds_faf6 [] DX0 (dCons (dVar 0) dNil)) (dCons (dOp gAdd (dCB gMaxL (dCons (dLc false (dSeqI (dCall 1 c_l_deeds_faf6 [] DX0 (dCons (dVar 0) dNil))) (dName 3) dYes (dOp gIx (dVar 3) (dC (.int 1))) [3]) dNil)) (dC (.int 2))) dNil)))
 (dSeq (dAsg (dOp (rBin CDiv fun i j => i.fdiv j) (dOp gIx (dVar 0) (dC (.int 2))) (dCall 2 c_l_divisor_b609 [] DX0 (dCons (dOp gIx (dVar 0) (dC (.int 1))) (dCons (dOp gIx (dVar 0) (dC (.int 2))) dNil)))) (dName 4))
 (dSeq (dFor (dSeqI (dLst (dCons (dOp (rBin (fun _ _ => True) fun i j => i - j) (dC (.int 0)) (dC (.int 1))) (dCons (dC (.int 0)) (dCons (dC (.int 1)) (dCons (dC (.int 2)) (dCons (dC (.int 3)) (dCons (dOp (rBin CDiv fun i j => i.fdiv j) (dVar 2) (dC (.int 2))) (dCons (dOp (rBin (fun _ _ => True) fun i j => i - j) (dVar 2) (dC (.int 2))) (dCons (dOp (rBin (fun _ _ => True) fun i j => i - j) (dVar 2) (dC (.int 1))) (dCons (dVar 2) dNil))))))))))) (dName 5) (dFor (dSeqI (dLst (dCons (dOp (rBin (fun _ _ => True) fun i j => i - j) (dC (.int 0)) (dC (.int 1))) (dCons (dC (.int 0)) (dCons (dC (.int 1)) (dCons (dC (.int 2)) (dCons (dC (.int 3)) (dCons (dVar 5) (dCons (dOp (rBin (fun _ _ => True) fun i j => i - j) (dOp (rBin CMul fun i j => i * j) (dVar 5) (dVar 4)) (dC (.int 1))) (dCons (dOp (rBin CMul fun i j => i * j) (dVar 5) (dVar 4)) (dCons (dOp gAdd (dOp (rBin CMul fun i j => i * j) (dVar 5) (dVar 4)) (dC (.int 1))) dNil))))))))))) (dName 6) (dIfS (dOr (dTru (dOp gNe (dCB gRepr (dCons (dCall 2 c_is_deed [] DX0 (dCons (dVar 0) (dCons (dTup (dCons (dVar 6) (dCons (dVar 5) dNil))) dNil))) dNil)) (dCB gRepr (dCons (dOp (gIn false) (dTup (dCons (dVar 6) (dCons (dVar 5) dNil))) (dVar 1)) dNil)))) (dTru (dOp gNe (dCallK 2 2 c_is_deed [1, 0] DX0 (dCons (dTup (dCons (dVar 6) (dCons (dVar 5) dNil))) (dCons (dVar 0) dNil))) (dOp (gIn false) (dTup (dCons (dVar 6) (dCons (dVar 5) dNil))) (dVar 1))))) (dRet (dC (.bl false))) dNext)))
 (dSeq (dAsg (dLst (dCons (dC .non) (dCons (dC (.int 0)) (dCons (dC (.str (PySem.Str.ofString "01"))) (dCons (dTup dNil) (dCons (dTup (dCons (dC (.int 0)) dNil)) (dCons (dLst (dCons (dC (.int 0)) (dCons (dC (.int 1)) dNil))) (dCons (dTup (dCons (dC (.int 0)) (dCons (dC (.int 1)) (dCons (dC (.int 1)) dNil)))) (dCons (dTup (dCons (dC .non) (dCons (dC (.int 1)) dNil))) (dCons (dTup (dCons (dC (.int 0)) (dCons (dC .non) dNil))) (dCons (dTup (dCons (dC (.str (PySem.Str.ofString "0"))) (dCons (dC (.int 1)) dNil))) (dCons (dTup (dCons (dC (.bl false)) (dCons (dC (.int 1)) dNil))) (dCons (dTup (dCons (dC (.int 0)) (dCons (dC (.bl true)) dNil))) (dCons (dTup (dCons (dTup (dCons (dC (.int 0)) dNil)) (dCons (dC (.int 1)) dNil))) (dCons (dC .dct0) (dCons (dTup (dCons (dOp (rBin CPow fun i j => i ^ j.toNat) (dC (.int 10)) (dC (.int 29))) (dCons (dC (.int 1)) dNil))) (dCons (dTup (dCons (dC (.int 0)) (dCons (dOp (rBin CPow fun i j => i ^ j.toNat) (dC (.int 10)) (dC (.int 29))) dNil))) dNil))))))))))))))))) (dName 7))
 (dRet (dOp gEq (dLc false (dSeqI (dVar 7)) (dName 8) (dTru (dOp (gIs true) (dCall 2 c_is_deed [] DX0 (dCons (dVar 0) (dCons (dVar 8) dNil))) (dC (.bl false)))) (dVar 8) [8]) (dLst dNil)))))))
def t_l_law_2aea (c_l_generator_b324 : DSp) (c_l_small_f084 : DSp) (c_l_random_7821 : DSp) (c_l_listed_right_e3bd : DSp) (c_l_judged_right_ab6f : DSp) (c_deeds_o : DSp) (c_how_many_deeds : DSp) (c_is_deed : DSp) : DTS :=
 (dSeq (dAsg (dCall 2 c_l_generator_b324 [] DX0 (dCons (dVar 0) (dCons (dC (.int 0)) dNil))) (dName 1))
 (dSeq (dAsg (dCall 1 c_l_small_f084 [] DX0 (dCons (dVar 1) dNil)) (dGTup 2 (dGCons (dName 2) (dGCons (dName 3) dGNil))))
 (dSeq (dAsg (dOp gIx (dVar 3) (dCall 2 c_l_random_7821 [] DX0 (dCons (dVar 1) (dCons (dCB gLen (dCons (dVar 3) dNil)) dNil)))) (dName 4))
 (dSeq (dFor (dSeqI (dLst (dCons (dVar 2) (dCons (dVar 4) (dCons (dVar 2) dNil))))) (dName 5) (dIfS (dOr (dNot (dTru (dCall 1 c_l_listed_right_e3bd [] DX0 (dCons (dVar 5) dNil)))) (dNot (dTru (dCall 1 c_l_judged_right_ab6f [] DX0 (dCons (dVar 5) dNil))))) (dRet (dC (.bl false))) dNext))
 (dSeq (dIfS (dOr (dTru (dOp gNe (dCall 1 c_deeds_o [] DX0 (dCons (dTup (dCons (dC (.int 0)) (dCons (dC (.int 2)) (dCons (dC (.int 1)) (dCons (dOp (rBin (fun _ _ => True) fun i j => i - j) (dC (.int 0)) (dC (.int 3))) dNil))))) dNil)) (dLst (dCons (dTup (dCons (dC (.int 0)) (dCons (dC (.int 1)) dNil))) (dCons (dTup (dCons (dC (.int 1)) (dCons (dC (.int 2)) dNil))) (dCons (dTup (dCons (dC (.int 1)) (dCons (dC (.int 3)) dNil))) (dCons (dTup (dCons (dC (.int 2)) (dCons (dC (.int 3)) dNil))) dNil))))))) (dTru (dOp gNe (dCall 1 c_deeds_o [] DX0 (dCons (dTup (dCons (dC (.int 1)) (dCons (dC (.int 2)) (dCons (dC (.int 4)) (dCons (dOp (rBin (fun _ _ => True) fun i j => i - j) (dC (.int 0)) (dC (.int 9))) dNil))))) dNil)) (dLst (dCons (dTup (dCons (dC (.int 0)) (dCons (dC (.int 1)) dNil))) (dCons (dTup (dCons (dC (.int 1)) (dCons (dC (.int 1)) dNil))) (dCons (dTup (dCons (dC (.int 1)) (dCons (dC (.int 2)) dNil))) (dCons (dTup (dCons (dC (.int 3)) (dCons (dC (.int 2)) dNil))) dNil)))))))) (dRet (dC (.bl false))) dNext)
 (dSeq (dIfS (dTru (dOp gNe (dCall 1 c_deeds_o [] DX0 (dCons (dTup (dCons (dC (.int 0)) (dCons (dC (.int 1)) (dCons (dC (.int 1)) (dCons (dOp (rBin (fun _ _ => True) fun i j => i - j) (dC (.int 0)) (dC (.int 4))) dNil))))) dNil)) (dLst (dCons (dTup (dCons (dC (.int 0)) (dCons (dC (.int 1)) dNil))) (dCons (dTup (dCons (dC (.int 1)) (dCons (dC (.int 2)) dNil))) (dCons (dTup (dCons (dC (.int 1)) (dCons (dC (.int 3)) dNil))) (dCons (dTup (dCons (dC (.int 1)) (dCons (dC (.int 4)) dNil))) (dCons (dTup (dCons (dC (.int 2)) (dCons (dC (.int 3)) dNil))) (dCons (dTup (dCons (dC (.int 3)) (dCons (dC (.int 4)) dNil))) dNil))))))))) (dRet (dC (.bl false))) dNext)
 (dRet (dAndV (dOp gEq (dCall 1 c_how_many_deeds [] DX0 (dCons (dTup (dCons (dC (.int 0)) (dCons (dC (.int 1)) (dCons (dC (.int 1)) (dCons (dOp (rBin (fun _ _ => True) fun i j => i - j) (dC (.int 0)) (dC (.int 1))) dNil))))) dNil)) (dC (.int 1))) (dOp (gIs false) (dCall 2 c_is_deed [] DX0 (dCons (dTup (dCons (dC (.int 0)) (dCons (dC (.int 2)) (dCons (dC (.int 1)) (dCons (dOp (rBin (fun _ _ => True) fun i j => i - j) (dC (.int 0)) (dC (.int 3))) dNil))))) (dCons (dTup (dCons (dC (.int 2)) (dCons (dC (.int 2)) dNil))) dNil))) (dC (.bl false)))))))))))
end DL
namespace DL
open PySem PySem.Spec PyProof.Rows L2
local macro_rules | `(tactic| walk_at "rd") => `(tactic| simp only [startD, List.map, List.replicate, List.length_cons, List.length_nil, List.append_eq, List.append_nil, List.nil_append, List.cons_append, Nat.reduceSub, Nat.reduceAdd, List.getElem?_cons_zero, List.getElem?_cons_succ, List.set_cons_zero, List.set_cons_succ,
  dC, dVar, dOp, dTru, gTru, tru, dChain, dAnd, dOr, dNot, dAndV, dOrV, dNotV, dIf, dNeg, gNeg, dNil, dCons, dTup, dLst, dOwn, gIx, rBin, gAdd, gCmpI, dCall, dCallK, dSeq, dNext, dDrop, dRet, dRetN, dIfS, dName, dGNil, dGCons, dGTup, dSub, gSetL, dAsg, dPar, dPar3, dAug, gIpI, dSeqI, gSeqI, dRngI, gRng1, gRng2, dCB, gAbs, gInt, gMax, gMin, gGcd, gLen, lenD, gIsi, tyM, tyD, dBits, gBits, dMet, gAppend, dPart, dNoPart, dSl, gSl_tup, gSl_lst, cut_1, dEnds, gIs, isB, dNever, dFor, dLc, wipeD, dYes,
  sizeLine_eq, Nat.reduceLeDiff, gEq_int, gNe_int, gEq_strs, gNe_strs, gIn_two, gRepr_bl, rs_lst, rs_tup, rs_scr, rs_int, atI_0, atI_1, atI_2, atI_3, atI_4, atI_5, ixN_30, ixN_31, ixN_32, gEq_bl, gNe_bl, decide_eq_true_eq, beq_iff_eq, Bool.not_eq_true', beq_eq_false_iff_ne, decide_eq_false_iff_not, Bool.not_true, Bool.not_false, if_true, if_false, Bool.false_eq_true, ite_true, ite_false, true_and, and_true, ne_eq, Bool.bne_false, Bool.bne_true, reduceCtorEq])
local macro_rules | `(tactic| walk_at "rh") => `(tactic| simp only [*, startD, List.map, List.replicate, List.length_cons, List.length_nil, List.append_eq, List.append_nil, List.nil_append, List.cons_append, Nat.reduceSub, Nat.reduceAdd, List.getElem?_cons_zero, List.getElem?_cons_succ, List.set_cons_zero, List.set_cons_succ,
  dC, dVar, dOp, dTru, gTru, tru, dChain, dAnd, dOr, dNot, dAndV, dOrV, dNotV, dIf, dNeg, gNeg, dNil, dCons, dTup, dLst, dOwn, gIx, rBin, gAdd, gCmpI, dCall, dCallK, dSeq, dNext, dDrop, dRet, dRetN, dIfS, dName, dGNil, dGCons, dGTup, dSub, gSetL, dAsg, dPar, dPar3, dAug, gIpI, dSeqI, gSeqI, dRngI, gRng1, gRng2, dCB, gAbs, gInt, gMax, gMin, gGcd, gLen, lenD, gIsi, tyM, tyD, dBits, gBits, dMet, gAppend, dPart, dNoPart, dSl, gSl_tup, gSl_lst, cut_1, dEnds, gIs, isB, dNever, dFor, dLc, wipeD, dYes,
  sizeLine_eq, Nat.reduceLeDiff, gEq_int, gNe_int, gEq_strs, gNe_strs, gIn_two, gRepr_bl, rs_lst, rs_tup, rs_scr, rs_int, atI_0, atI_1, atI_2, atI_3, atI_4, atI_5, ixN_30, ixN_31, ixN_32, gEq_bl, gNe_bl, decide_eq_true_eq, beq_iff_eq, Bool.not_eq_true', beq_eq_false_iff_ne, decide_eq_false_iff_not, Bool.not_true, Bool.not_false, if_true, if_false, Bool.false_eq_true, ite_true, ite_false, true_and, and_true, ne_eq, Bool.bne_false, Bool.bne_true, reduceCtorEq])
local macro_rules | `(tactic| walk_at "kb") => `(tactic| simp only [kb_NoneType_list, kb_bool_list, kb_int_list, kb_str_list, kb_tuple_list, kb_list_list, kb_dict_list, kb_NoneType_int, kb_bool_int, kb_int_int, kb_str_int, kb_tuple_int, kb_list_int, kb_dict_int, kb_NoneType_bool, kb_bool_bool, kb_int_bool, kb_str_bool, kb_tuple_bool, kb_list_bool, kb_dict_bool, kb_NoneType_tuple, kb_bool_tuple, kb_int_tuple, kb_str_tuple, kb_tuple_tuple, kb_list_tuple, kb_dict_tuple, if_true, if_false, Bool.false_eq_true, ite_true, ite_false, Bool.not_true, Bool.not_false])
def sp_free_count : DSp := fun ds M Q _ => ∃ n : Nat, ds = [.int n] ∧ 1 ≤ n ∧ n ≤ 1000000 ∧ Q (.int (phi n)) M
theorem rd_free_count : ∀ ds M Q, ds.length = 1 → sp_free_count ds M Q DX0 → t_free_count (dEnds M Q) (startD 4 ds) M := by
  rintro _ M Q - ⟨n, rfl, n1, n2, q⟩
  unfold t_free_count
  have sm : ∀ {i : Nat}, i ≤ 2000000 → Bi 24 (i : Int) := fun h => Bi.of_abs 2000000 (by omega) (by decide)
  refine dSeq_open fun B hB => ?_
  walk_at "rd"
  rw [← hB]
  clear hB B
  refine dSeq_open fun B hB => ?_
  refine dwhile_of (fun m r M' => M' = M ∧ ∃ k left c : Nat, r = [some (.int n), some (.int c), some (.int left), some (.int k)] ∧ 2 ≤ k ∧ k ≤ n + 2 ∧ Fst n k left c ∧ m = left + 2 - k) _ ⟨rfl, 2, n, n, rfl, Nat.le_refl _, by omega, Fst.start n1, rfl⟩ ?_
  rintro m r M' ⟨rfl, k, left, c, rfl, k2, kn, hF, rfl⟩
  have ll := hF.l1
  have ln : left ≤ n := Nat.le_of_dvd (by omega) hF.ln
  have bk := sm (i := k) (by omega)
  walk_at "rd"
  refine ⟨⟨bk.sm, bk.sm⟩, ?_⟩
  by_cases hkk : (k : Int) * k ≤ left
  · rw [if_pos hkk]
    have hkk' : k * k ≤ left := by exact_mod_cast hkk
    have hkl : k ≤ left := Nat.le_trans (Nat.le_mul_self k) hkk'
    have cn : c ≤ n := by rw [hF.ct]; exact cnt_le _ _
    have bc := sm (i := c) (by omega)
    have bl := sm (i := left) (by omega)
    have k0 : (k : Int) ≠ 0 := by omega
    have em : ∀ x : Nat, ((x : Int)).fmod (k : Int) = ((x % k : Nat) : Int) := fun x => by rw [fmod_pos (show 0 < (k : Int) by omega)]; rfl
    have ed : ∀ x : Nat, ((x : Int)).fdiv (k : Int) = ((x / k : Nat) : Int) := fun x => by rw [fdiv_pos (show 0 < (k : Int) by omega)]; rfl
    have hdiv : ∀ x : Int, CDiv x (k : Int) := fun x => ⟨k0, Nat.lt_of_lt_of_le (log2_of 24 bk (by decide)) (by decide)⟩
    refine ⟨k0, ?_⟩
    rw [em]
    by_cases hd : k ∣ left
    · rw [if_pos (by rw [Nat.mod_eq_zero_of_dvd hd]; rfl)]
      have bq : Bi 24 ((c : Int).fdiv k) := by rw [ed]; exact sm (by have := Nat.div_le_self c k; omega)
      have bk1 : Bi 25 ((k : Int) - 1) := bk.sub (Bi.of_abs 1 (by decide) : Bi 24 1)
      refine ⟨hdiv _, ⟨bq.sm, bk1.sm⟩, ?_⟩
      have e1 : (c : Int).fdiv k * ((k : Int) - 1) = ((c / k * (k - 1) : Nat) : Int) := by
        rw [ed, show (k : Int) - 1 = ((k - 1 : Nat) : Int) by omega]
        rfl
      rw [e1]
      refine dwhile_of (fun m r M'' => M'' = M' ∧ ∃ l2 : Nat, r = [some (.int n), some (.int ((c / k * (k - 1) : Nat) : Int)), some (.int l2), some (.int k)] ∧ 1 ≤ l2 ∧ l2 ∣ left ∧ (∀ d, Nat.gcd d k = 1 → d ∣ left → d ∣ l2) ∧ m = l2) _ ⟨rfl, left, rfl, ll, Nat.dvd_refl _, fun d _ h => h, rfl⟩ ?_
      rintro l2 r M'' ⟨rfl, _, rfl, l21, l22, l23, rfl⟩
      have l2n : l2 ≤ left := Nat.le_of_dvd (by omega) l22
      walk_at "rd"
      refine ⟨k0, ?_⟩
      rw [em]
      by_cases hd2 : k ∣ l2
      · rw [if_pos (by rw [Nat.mod_eq_zero_of_dvd hd2]; rfl)]
        refine ⟨hdiv _, ?_⟩
        obtain ⟨j, hj⟩ := hd2
        have e2 : l2 / k = j := by rw [hj]; exact Nat.mul_div_cancel_left _ (by omega)
        have j1 : 1 ≤ j := by
          rcases Nat.eq_zero_or_pos j with z | z
          · rw [z] at hj; omega
          · exact z
        have jl : j < l2 := by
          rw [hj]
          have := Nat.mul_le_mul_right j k2
          omega
        rw [ed, e2]
        refine ⟨j, jl, j, rfl, j1, Nat.dvd_trans ⟨k, by rw [hj, Nat.mul_comm]⟩ l22, fun d d1 d2 => ?_, rfl⟩
        have := l23 d d1 d2
        rw [hj] at this
        exact Nat.Coprime.dvd_of_dvd_mul_left d1 this
      · rw [if_neg (fun z => hd2 (Nat.dvd_of_mod_eq_zero (by exact_mod_cast z)))]
        have := hF.yes n1 k2 hd l22 hd2 l23
        refine ⟨l2 + 2 - (k + 1), by omega, k + 1, l2, _, rfl, by omega, by omega, this, rfl⟩
    · rw [if_neg (fun z => hd (Nat.dvd_of_mod_eq_zero (by exact_mod_cast z)))]
      refine ⟨left + 2 - (k + 1), by omega, k + 1, left, c, rfl, by omega, by omega, hF.no k2 hd, rfl⟩
  · rw [if_neg hkk, ← hB]
    walk_at "rd"
    have hkk' : left < k * k := by
      have : ¬ k * k ≤ left := fun z => hkk (by exact_mod_cast z)
      omega
    have hfin := hF.fin n1 k2 hkk'
    have cn : c ≤ n := by rw [hF.ct]; exact cnt_le _ _
    have bl := sm (i := left) (by omega)
    by_cases h1 : 1 < left
    · rw [if_pos (by omega)]
      rw [if_pos h1] at hfin
      have ed : (c : Int).fdiv left = ((c / left : Nat) : Int) := by rw [fdiv_pos (show 0 < (left : Int) by omega)]; rfl
      have e2 : (left : Int) - 1 = ((left - 1 : Nat) : Int) := by omega
      rw [ed, e2]
      have b1 : Bi 24 ((c / left : Nat) : Int) := sm (by have := Nat.div_le_self c left; omega)
      have b2 : Bi 24 ((left - 1 : Nat) : Int) := sm (by omega)
      refine ⟨⟨by omega, Nat.lt_of_lt_of_le (log2_of 24 bl (by decide)) (by decide)⟩, ⟨b1.sm, b2.sm⟩, ?_⟩
      rw [show ((c / left : Nat) : Int) * ((left - 1 : Nat) : Int) = ((c / left * (left - 1) : Nat) : Int) from rfl, hfin]
      exact rtq q
    · rw [if_neg (by omega)]
      rw [if_neg h1] at hfin
      rw [hfin]
      exact rtq q
/-- how far the deeds reach at measures to 600 -/
theorem allowed_qc {a b c e q : Int} (h : isCut a b c e = true) (hm : meas4 b c e ≤ 600) (hq : 1 ≤ q) (hal : 0 < b - q * e - q * q * c) : 1 ≤ q * c ∧ q * c ≤ 24 ∧ q ≤ 24 := by
  obtain ⟨k1, k2, k3, k4, k5, k6, k7, k8⟩ := cut600 h hm
  have h1 : 1 * 1 ≤ q * c := Int.mul_le_mul hq k3 (by decide) (by omega)
  have h2 : q * 1 ≤ q * c := Int.mul_le_mul_of_nonneg_left k3 (by omega)
  have h3 : q * c ≤ 24 := by
    by_cases z : q * c ≤ 24
    · exact z
    · have e1 : 0 < c * (b - q * e - q * q * c) := Int.mul_pos (by omega) hal
      have e2 : c * (b - q * e - q * q * c) = b * c - (q * c) * e - (q * c) * (q * c) := by grind
      have e3 : (2 * (q * c) + e) * (2 * (q * c) + e) = e * e + 4 * ((q * c) * e + (q * c) * (q * c)) := by grind
      have e4 : 26 * 26 ≤ (2 * (q * c) + e) * (2 * (q * c) + e) := Int.mul_le_mul (by omega) (by omega) (by decide) (by omega)
      unfold meas4 at hm
      have e5 : 4 * b * c = 4 * (b * c) := Int.mul_assoc _ _ _
      omega
  omega
theorem rowD_phi {q lot : Nat} : (rowD (lot * q) (q : Int)).length = lot * phi q := by
  rw [← phi_rows]
  unfold rowD cnt
  rw [List.length_filterMap_eq_countP]
  refine List.countP_congr fun i _ => ?_
  simp only [decide_eq_true_eq]
  by_cases h : Nat.gcd i q = 1
  · have : (Int.gcd (i : Int) (q : Int) : Int) = 1 := by rw [Int.gcd_natCast_natCast, h]; rfl
    rw [if_pos this]
    exact ⟨fun _ => h, fun _ => rfl⟩
  · have : ¬ (Int.gcd (i : Int) (q : Int) : Int) = 1 := by rw [Int.gcd_natCast_natCast]; omega
    rw [if_neg this]
    exact ⟨fun z => (by cases z), fun z => absurd z h⟩
theorem CovD.count {b c e k : Int} {l l' : List (List Int)} (hb : 1 ≤ b) (hc : 1 ≤ c) (hk : 1 ≤ k) (h : CovD b c e l k) (hn : ¬ 0 < b - k * e - k * k * c) (g : AllD b c e l') : l'.length = l.length := by
  refine (List.perm_ext_iff_of_nodup g.nd h.1).mpr (fun x => ?_) |>.length_eq
  rw [g.mem, h.2]
  constructor
  · rintro ⟨p, q, rfl, h1⟩
    refine ⟨p, q, rfl, h1, ?_⟩
    by_cases z : q < k
    · exact z
    · exact (hn (allowed_mono hb hc hk (by omega) (isDeed_parts h1).1.al)).elim
  · rintro ⟨p, q, rfl, h1, _⟩; exact ⟨p, q, rfl, h1⟩
def sp_count_deeds : DSp := fun ds M Q _ => ∃ a b c e : Int, ds = [T4 a b c e] ∧ isCut a b c e = true ∧ meas4 b c e ≤ 600 ∧ ∀ N : Nat, N ≤ 600 → (∀ l, AllD b c e l → l.length = N) → Q (.int N) M
theorem rd_count_deeds : ∀ ds M Q, ds.length = 1 → sp_count_deeds ds M Q DX0 → t_count_deeds sp_lallowed sp_free_count sp_round_of (dEnds M Q) (startD 3 ds) M := by
  rintro _ M Q - ⟨a, b, c, e, rfl, hcut, hm, q⟩
  unfold t_count_deeds
  obtain ⟨k1, k2, k3, k4, k5, k6, k7, k8⟩ := cut600 hcut hm
  obtain ⟨l1, l2⟩ := lot_le (b := b) k3
  have cb := small_cb hcut (by omega)
  refine dSeq_open fun B hB => ?_
  walk_at "rd"
  rw [← hB]
  clear hB B
  refine dSeq_open fun B hB => ?_
  obtain ⟨lot, hlot⟩ : ∃ lot : Nat, c / (Int.gcd b c : Int) = lot := ⟨(c / (Int.gcd b c : Int)).toNat, by omega⟩
  refine dwhile_of (fun m r M' => M' = M ∧ ∃ (l : List (List Int)) (k f : Nat), r = [some (T4 a b c e), some (.int f), some (.int k)] ∧ 1 ≤ k ∧ k ≤ 25 ∧ CovD b c e l k ∧ l.length = f * lot ∧ l.length ≤ 24 * (k - 1) ∧ m = 25 - k) _ ⟨rfl, [], 1, 0, rfl, Nat.le_refl _, by decide, ⟨List.nodup_nil, fun x => ⟨fun h => (by cases h), ?_⟩⟩, by simp, by simp, rfl⟩ ?_
  · rintro ⟨p, q, rfl, h1, h2⟩
    have := (isDeed_parts h1).1.q1
    omega
  rintro m r M' ⟨rfl, l, k, f, rfl, hk1, hk2, hcov, hlen, hle, rfl⟩
  have bk : Bi 12 (k : Int) := Bi.of_abs 1000 (by omega) (by decide)
  walk_at "rd"
  refine ⟨a, b, c, e, k, rfl, cb.mono, bk.mono, ?_⟩
  dsimp only
  by_cases hal : 0 < b - (k : Int) * e - k * k * c
  · rw [if_pos (by simpa using hal)]
    obtain ⟨r1, r2, r3⟩ := allowed_qc hcut hm (by omega) hal
    refine ⟨k, rfl, hk1, by omega, ?_⟩
    have hst := hcov.step (by omega) hal
    rw [hlot] at hst
    have e1 : ((k : Int) * (lot : Int)).toNat = lot * k := by
      rw [show (k : Int) * (lot : Int) = ((lot * k : Nat) : Int) by rw [Nat.mul_comm]; rfl]
      rfl
    rw [e1] at hst
    have e2 : (rowD (lot * k) (k : Int)).length = lot * phi k := rowD_phi
    have e3 : lot * phi k ≤ 24 := by
      have h1 : lot * phi k ≤ lot * k := Nat.mul_le_mul_left _ (phi_le k)
      have h2 : (lot : Int) * (k : Int) ≤ c * k := Int.mul_le_mul_of_nonneg_right (by omega) (by omega)
      rw [Int.mul_comm c] at h2
      have h3 : ((lot * k : Nat) : Int) ≤ 24 := by
        show (lot : Int) * (k : Int) ≤ 24
        omega
      omega
    refine ⟨25 - (k + 1), by omega, rfl, _, k + 1, f + phi k, rfl, by omega, by omega, hst, ?_, ?_, rfl⟩
    · rw [List.length_append, hlen, e2, Nat.add_mul, Nat.mul_comm lot]
    · rw [List.length_append, e2]
      omega
  · rw [if_neg (by simpa using hal), ← hB]
    walk_at "rd"
    have hf : f ≤ 600 ∨ 600 < f := Nat.lt_or_ge 600 f |>.elim .inr .inl
    have lot1 : 1 ≤ lot := by omega
    have hf2 : f ≤ l.length := by rw [hlen]; exact Nat.le_mul_of_pos_right _ lot1
    have bf : Bi 12 (f : Int) := Bi.of_abs 1000 (by omega) (by decide)
    have bl : Bi 12 (lot : Int) := Bi.of_abs 1000 (by omega) (by decide)
    refine ⟨a, b, c, e, rfl, k3, cb.2.2.1.mono, ?_⟩
    dsimp only
    rw [hlot]
    refine ⟨⟨bf.sm, bl.sm⟩, ?_⟩
    rw [show (f : Int) * (lot : Int) = ((f * lot : Nat) : Int) from rfl, ← hlen]
    exact rtq (q _ (by omega) fun l' hl' => hcov.count k2 k3 (by omega) hal hl')
def sp_check_few : DSp := fun ds M Q _ => ∃ a b c e : Int, ds = [T4 a b c e] ∧ isCut a b c e = true ∧ meas4 b c e ≤ 600 ∧ Q .non M
theorem rd_check_few : ∀ ds M Q, ds.length = 1 → sp_check_few ds M Q DX0 → t_check_few sp_count_deeds (dEnds M Q) (startD 2 ds) M := by
  rintro _ M Q - ⟨a, b, c, e, rfl, hcut, hm, q⟩
  unfold t_check_few
  walk_at "rd"
  refine ⟨a, b, c, e, rfl, hcut, hm, fun N hN _ => ?_⟩
  dsimp only
  rw [if_neg (by omega)]
  exact rtq q
theorem gSorted_tIo {k : Nat} {l : List (List Int)} {M : Mem} {Q : DQ} (hk : ∀ x ∈ l, x.length = k) (h1 : 1 ≤ k) (q : ∀ l' : List (List Int), l'.Perm l → LSorted l' → Q (.own M.length) (M ++ [.lst (l'.map tI)])) : gSorted true [.lst (l.map tI)] M Q :=
  .inr ⟨k, l, rfl, h1, hk, fun l' pm sd => q l' pm sd⟩
def sp_deeds_by_o : DSp := fun ds M Q _ => ∃ a b c e : Int, ds = [T4 a b c e] ∧ isCut a b c e = true ∧ meas4 b c e ≤ 600 ∧ ∀ l, AllD b c e l → Q (.own M.length) (M ++ [.lst (l.map tI)])
theorem rd_deeds_by_o : ∀ ds M Q, ds.length = 1 → sp_deeds_by_o ds M Q DX0 → t_deeds_by_o sp_lallowed sp_round_of (dEnds M Q) (startD 4 ds) M := by
  rintro _ M Q - ⟨a, b, c, e, rfl, hcut, hm, q⟩
  unfold t_deeds_by_o
  obtain ⟨k1, k2, k3, k4, k5, k6, k7, k8⟩ := cut600 hcut hm
  obtain ⟨l1, l2⟩ := lot_le (b := b) k3
  have cb := small_cb hcut (by omega)
  refine dSeq_open fun B hB => ?_
  walk_at "rd"
  rw [← hB]
  clear hB B
  refine dSeq_open fun B hB => ?_
  refine dwhile_of (fun n r M' => M' = M ∧ ∃ (l : List (List Int)) (q : Int), r = [some (T4 a b c e), some (.lst (l.map tI)), some (.int q), none] ∧ 1 ≤ q ∧ q ≤ 25 ∧ n = (25 - q).toNat ∧ CovD b c e l q ∧ (l.length : Int) ≤ 4000 * (q - 1)) _ ⟨rfl, [], 1, rfl, by omega, by omega, rfl, ⟨List.nodup_nil, fun x => ⟨fun h => (by cases h), ?_⟩⟩, by simp⟩ ?_
  · rintro ⟨p, q, rfl, h1, h2⟩
    have := (isDeed_parts h1).1.q1
    omega
  rintro n r M' ⟨rfl, l, q', rfl, q1, q2, rfl, hcov, hlen⟩
  have bq : Bi 12 q' := Bi.of_abs 200 (by omega) (by decide)
  walk_at "rd"
  refine ⟨a, b, c, e, q', rfl, cb.mono, bq.mono, ?_⟩
  dsimp only
  by_cases hal : 0 < b - q' * e - q' * q' * c
  · rw [if_pos (by simpa using hal)]
    obtain ⟨r1, r2, r3⟩ := allowed_qc hcut hm (by omega) hal
    have hst := hcov.step q1 hal
    refine ⟨a, b, c, e, rfl, k3, cb.2.2.1.mono, ?_⟩
    dsimp only
    generalize hlot : c / (Int.gcd b c : Int) = lot at *
    have blot : Bi 12 lot := Bi.of_abs 300 (by omega) (by decide)
    have hle : q' * lot ≤ 24 * 150 := Int.mul_le_mul (by omega) (by omega) (by omega) (by decide)
    have hge : 0 ≤ q' * lot := Int.mul_nonneg (by omega) (by omega)
    refine ⟨⟨bq.sm, blot.sm⟩, ?_⟩
    generalize hN : q' * lot = N at *
    refine ⟨⟨by omega, by omega⟩, ?_⟩
    refine lcW_pure (fun d => match d with | .int p => if (Int.gcd p q' : Int) = 1 then some (.tup [.int p, .int q']) else none | _ => none) trivial (by rw [rng_len, sizeLine_eq]; omega) (fun d hd Y N' hy => ?_) ?_
    · obtain ⟨i2, hi2'⟩ := List.mem_iff_getElem?.mp hd
      obtain ⟨hi3, rfl⟩ := rng_get.mp hi2'
      walk_at "rd"
      dsimp only at hy ⊢
      by_cases hg : (Int.gcd (0 + (i2 : Int)) q' : Int) = 1
      · rw [if_pos hg] at hy
        rw [if_pos (by simpa using hg)]
        exact hy
      · rw [if_neg hg] at hy
        rw [if_neg (by simpa using hg)]
        exact hy
    · rw [rng_fm (g := fun i => if (Int.gcd (i : Int) q' : Int) = 1 then some [(i : Int), q'] else none) (fun i => by
        show (if (Int.gcd (0 + (i : Int)) q' : Int) = 1 then some (D.tup [.int (0 + (i : Int)), .int q']) else none) = _
        rw [Int.zero_add]
        split <;> rfl)]
      have hl3 := rowD_len (N := N.toNat) (q := q')
      show _ ∧ _
      have hl3' : (List.filterMap (fun i : Nat => if (Int.gcd (i : Int) q' : Int) = 1 then some [(i : Int), q'] else none) (List.range N.toNat)).length ≤ N.toNat := hl3
      refine ⟨by rw [List.length_map, List.length_map]; omega, ?_⟩
      rw [← List.map_append]
      refine ⟨(25 - (q' + 1)).toNat, by omega, rfl, l ++ rowD N.toNat q', q' + 1, rfl, by omega, by omega, rfl, hst, ?_⟩
      rw [List.length_append]
      omega
  · rw [if_neg (by simpa using hal), ← hB]
    walk_at "rd"
    refine gSorted_tIo hcov.len2 (by decide) fun l' pm sd => ?_
    have hall := AllD.of k2 k3 q1 hcov hal (by omega) pm sd
    exact ((Plus.refl M').add (fun n => below_tIs l')).rtq (q l' hall) (below_own (new_at M' _))
def sp_deeds_o : DSp := sp_deeds_by_o
theorem rd_deeds_o : ∀ ds M Q, ds.length = 1 → sp_deeds_o ds M Q DX0 → t_deeds_o sp_check_cutting sp_check_few sp_deeds_by_o (dEnds M Q) (startD 1 ds) M := by
  rintro _ M Q - ⟨a, b, c, e, rfl, hcut, hm, q⟩
  unfold t_deeds_o
  walk_at "rd"
  refine ⟨a, b, c, e, rfl, hcut, a, b, c, e, rfl, hcut, hm, a, b, c, e, rfl, hcut, hm, fun l hl => ?_⟩
  exact ((Plus.refl M).add (fun n => below_tIs l)).rtq (q l hl) (below_own (new_at M _))
def sp_how_many_deeds : DSp := sp_count_deeds
theorem rd_how_many_deeds : ∀ ds M Q, ds.length = 1 → sp_how_many_deeds ds M Q DX0 → t_how_many_deeds sp_check_cutting sp_count_deeds (dEnds M Q) (startD 1 ds) M := by
  rintro _ M Q - ⟨a, b, c, e, rfl, hcut, hm, q⟩
  unfold t_how_many_deeds
  walk_at "rd"
  exact ⟨a, b, c, e, rfl, hcut, a, b, c, e, rfl, hcut, hm, fun N h1 h2 => rtq (q N h1 h2)⟩
def sp_is_deed : DSp := fun ds M Q _ => ∃ (a b c e : Int) (d : D), ds = [T4 a b c e, d] ∧ isCut a b c e = true ∧ CutB 450 a b c e ∧ Askable 2 M d ∧ (∀ p q, d = .tup [.int p, .int q] → Bi 450 q) ∧ Q (.bl (isDeedD b c e d)) M
theorem rd_is_deed : ∀ ds M Q, ds.length = 2 → sp_is_deed ds M Q DX0 → t_is_deed sp_check_cutting sp_is_deed_by (dEnds M Q) (startD 2 ds) M := by
  rintro _ M Q - ⟨a, b, c, e, d, rfl, hcut, cb, ha, hq, q⟩
  unfold t_is_deed
  walk_at "rd"
  exact ⟨a, b, c, e, rfl, hcut, a, b, c, e, d, rfl, (cut_parts hcut).2.1, cb, ha, hq, rtq q⟩
/-- a run through the deeds -/
theorem cov_run {a b c e : Int} (hcut : isCut a b c e = true) (hm : meas4 b c e ≤ 600) : ∀ (n k : Nat) (l : List (List Int)), 25 - k ≤ n → 1 ≤ k → k ≤ 25 → CovD b c e l k → l.length ≤ 24 * (k - 1) → ∃ (l' : List (List Int)) (k' : Nat), CovD b c e l' k' ∧ 1 ≤ k' ∧ ¬ 0 < b - (k' : Int) * e - k' * k' * c ∧ l'.length ≤ 600
  | n, k, l, hn, h1, h2, hc, hl => by
    by_cases hal : 0 < b - (k : Int) * e - k * k * c
    · obtain ⟨r1, r2, r3⟩ := allowed_qc hcut hm (by omega) hal
      obtain ⟨k1, k2, k3, _⟩ := cut600 hcut hm
      obtain ⟨l1, l2⟩ := lot_le (b := b) k3
      have hst := hc.step (by omega) hal
      have hr := rowD_len (N := ((k : Int) * (c / (Int.gcd b c : Int))).toNat) (q := (k : Int))
      have h3 : (k : Int) * (c / (Int.gcd b c : Int)) ≤ k * c := Int.mul_le_mul_of_nonneg_left l2 (by omega)
      match n, hn with
      | 0, hn => omega
      | n + 1, hn => exact cov_run hcut hm n (k + 1) _ (by omega) (by omega) (by omega) hst (by rw [List.length_append]; omega)
    · exact ⟨l, k, hc, h1, hal, by omega⟩
theorem AllD.small {a b c e : Int} {l : List (List Int)} (hcut : isCut a b c e = true) (hm : meas4 b c e ≤ 600) (h : AllD b c e l) : l.length ≤ 600 := by
  obtain ⟨k1, k2, k3, _⟩ := cut600 hcut hm
  obtain ⟨l', k', h1, h2, h3, h4⟩ := cov_run hcut hm 25 1 [] (by decide) (Nat.le_refl _) (by decide) ⟨List.nodup_nil, fun x => ⟨fun h => (by cases h), by
    rintro ⟨p, q, rfl, h1, h2⟩
    have := (isDeed_parts h1).1.q1
    omega⟩⟩ (Nat.zero_le _)
  rw [h1.count k2 k3 (by omega) h3 h]
  exact h4
/-- long lists of small numbers may be shown -/
def okS (d : D) : Prop := fine 41 d = true ∧ lit 40 d = true ∧ wt 40 d ≤ 300000
theorem gRepr_okS {d : D} {M : Mem} {Q : DQ} (h : okS d) (q : ∀ z, shwn d = some z → Q (.str z) M) : gRepr [d] M Q := by
  refine gRepr_of 40 41 h.1 h.2.1 ?_ q
  have := h.2.2
  omega
theorem gRepr_ownS {k : Nat} {l : List D} {M : Mem} {Q : DQ} (h : M[k]? = some (.lst l)) (ok : okS (.lst l)) (q : ∀ z, shwn (.lst l) = some z → Q (.str z) M) : gRepr [.own k] M Q := by
  obtain ⟨h1, h2, h3⟩ := ok
  obtain ⟨z, hz⟩ := shw_of 40 41 h1 h2 (by omega)
  unfold gRepr
  dsimp only
  rw [res_own h, hz]
  exact q z hz
theorem lit40 {i : Int} (h : Bi 24 i) : lit 40 (.int i) = true := decide_eq_true (Nat.lt_of_lt_of_le (log2_of 24 h (by decide)) (by decide))
theorem okS_tIs {l : List (List Int)} (h : ∀ x ∈ l, x.length ≤ 4 ∧ ∀ i ∈ x, Bi 24 i) (hl : l.length ≤ 1700) : okS (.lst (l.map tI)) := by
  have hx : ∀ x : List Int, (∀ i ∈ x, Bi 24 i) → litAll 40 (x.map D.int) = true ∧ wtAll 40 (x.map D.int) = 42 * x.length := by
    intro x hx
    induction x with
    | nil => exact ⟨rfl, rfl⟩
    | cons i x ih =>
      obtain ⟨i1, i2⟩ := ih fun y hy => hx y (List.mem_cons_of_mem _ hy)
      refine ⟨lit_cons (lit40 (hx i List.mem_cons_self)) i1, ?_⟩
      rw [List.map_cons, List.length_cons]
      simp only [wtAll, wt, i2]
      omega
  refine ⟨?_, ?_, ?_⟩
  · show fineAll 40 (l.map tI) = true
    rw [fineAll_iff]
    intro d hd
    obtain ⟨x, _, rfl⟩ := List.mem_map.mp hd
    exact fine_tI x
  · clear hl
    show litAll 40 (l.map tI) = true
    induction l with
    | nil => rfl
    | cons x l ih => exact lit_cons (hx x (h x List.mem_cons_self).2).1 (ih fun y hy => h y (List.mem_cons_of_mem _ hy))
  · have : ∀ l : List (List Int), (∀ x ∈ l, x.length ≤ 4 ∧ ∀ i ∈ x, Bi 24 i) → wtAll 40 (l.map tI) ≤ 170 * l.length := by
      intro l h
      induction l with
      | nil => simp [wtAll]
      | cons x l ih =>
        have i1 := ih fun y hy => h y (List.mem_cons_of_mem _ hy)
        have i2 := h x List.mem_cons_self
        have i3 := (hx x i2.2).2
        rw [List.map_cons, List.length_cons]
        simp only [wtAll]
        have i4 : wt 40 (tI x) = 42 * x.length := i3
        omega
    have := this l h
    show wtAll 40 (l.map tI) ≤ 300000
    omega
theorem okS_deeds {a b c e : Int} {l : List (List Int)} (hcut : isCut a b c e = true) (hm : meas4 b c e ≤ 600) (h : AllD b c e l) : okS (.lst (l.map tI)) := by
  have hs := h.small hcut hm
  refine okS_tIs (fun x hx => ?_) (by omega)
  obtain ⟨p, q, rfl, hd⟩ := (h.mem x).mp hx
  obtain ⟨s1, s2, s3, s4⟩ := deed_small hcut (by omega) hd
  refine ⟨by simp, fun i hi => ?_⟩
  simp only [List.mem_cons, List.not_mem_nil, or_false] at hi
  rcases hi with rfl | rfl <;> exact Bi.of_abs 100000 (by omega) (by decide)
end DL
namespace DL
open PySem PySem.Spec PyProof.Rows L2
local macro_rules | `(tactic| walk_at "rd") => `(tactic| simp only [startD, List.map, List.replicate, List.length_cons, List.length_nil, List.append_eq, List.append_nil, List.nil_append, List.cons_append, Nat.reduceSub, Nat.reduceAdd, List.getElem?_cons_zero, List.getElem?_cons_succ, List.set_cons_zero, List.set_cons_succ,
  dC, dVar, dOp, dTru, gTru, tru, dChain, dAnd, dOr, dNot, dAndV, dOrV, dNotV, dIf, dNeg, gNeg, dNil, dCons, dTup, dLst, dOwn, gIx, rBin, gAdd, gCmpI, dCall, dCallK, dSeq, dNext, dDrop, dRet, dRetN, dIfS, dName, dGNil, dGCons, dGTup, dSub, gSetL, dAsg, dPar, dPar3, dAug, gIpI, dSeqI, gSeqI, dRngI, gRng1, gRng2, dCB, gAbs, gInt, gMax, gMin, gGcd, gLen, lenD, gIsi, tyM, tyD, dBits, gBits, dMet, gAppend, dPart, dNoPart, dSl, gSl_tup, gSl_lst, cut_1, dEnds, gIs, isB, dNever, dFor, dLc, wipeD, dYes,
  sizeLine_eq, Nat.reduceLeDiff, gEq_int, gNe_int, gEq_strs, gNe_strs, gIn_two, gRepr_bl, rs_lst, rs_tup, rs_scr, rs_int, atI_0, atI_1, atI_2, atI_3, atI_4, atI_5, ixN_30, ixN_31, ixN_32, gEq_bl, gNe_bl, decide_eq_true_eq, beq_iff_eq, Bool.not_eq_true', beq_eq_false_iff_ne, decide_eq_false_iff_not, Bool.not_true, Bool.not_false, if_true, if_false, Bool.false_eq_true, ite_true, ite_false, true_and, and_true, ne_eq, Bool.bne_false, Bool.bne_true, reduceCtorEq])
local macro_rules | `(tactic| walk_at "rh") => `(tactic| simp only [*, startD, List.map, List.replicate, List.length_cons, List.length_nil, List.append_eq, List.append_nil, List.nil_append, List.cons_append, Nat.reduceSub, Nat.reduceAdd, List.getElem?_cons_zero, List.getElem?_cons_succ, List.set_cons_zero, List.set_cons_succ,
  dC, dVar, dOp, dTru, gTru, tru, dChain, dAnd, dOr, dNot, dAndV, dOrV, dNotV, dIf, dNeg, gNeg, dNil, dCons, dTup, dLst, dOwn, gIx, rBin, gAdd, gCmpI, dCall, dCallK, dSeq, dNext, dDrop, dRet, dRetN, dIfS, dName, dGNil, dGCons, dGTup, dSub, gSetL, dAsg, dPar, dPar3, dAug, gIpI, dSeqI, gSeqI, dRngI, gRng1, gRng2, dCB, gAbs, gInt, gMax, gMin, gGcd, gLen, lenD, gIsi, tyM, tyD, dBits, gBits, dMet, gAppend, dPart, dNoPart, dSl, gSl_tup, gSl_lst, cut_1, dEnds, gIs, isB, dNever, dFor, dLc, wipeD, dYes,
  sizeLine_eq, Nat.reduceLeDiff, gEq_int, gNe_int, gEq_strs, gNe_strs, gIn_two, gRepr_bl, rs_lst, rs_tup, rs_scr, rs_int, atI_0, atI_1, atI_2, atI_3, atI_4, atI_5, ixN_30, ixN_31, ixN_32, gEq_bl, gNe_bl, decide_eq_true_eq, beq_iff_eq, Bool.not_eq_true', beq_eq_false_iff_ne, decide_eq_false_iff_not, Bool.not_true, Bool.not_false, if_true, if_false, Bool.false_eq_true, ite_true, ite_false, true_and, and_true, ne_eq, Bool.bne_false, Bool.bne_true, reduceCtorEq])
local macro_rules | `(tactic| walk_at "kb") => `(tactic| simp only [kb_NoneType_list, kb_bool_list, kb_int_list, kb_str_list, kb_tuple_list, kb_list_list, kb_dict_list, kb_NoneType_int, kb_bool_int, kb_int_int, kb_str_int, kb_tuple_int, kb_list_int, kb_dict_int, kb_NoneType_bool, kb_bool_bool, kb_int_bool, kb_str_bool, kb_tuple_bool, kb_list_bool, kb_dict_bool, kb_NoneType_tuple, kb_bool_tuple, kb_int_tuple, kb_str_tuple, kb_tuple_tuple, kb_list_tuple, kb_dict_tuple, if_true, if_false, Bool.false_eq_true, ite_true, ite_false, Bool.not_true, Bool.not_false])
theorem gNe_res {n : Nat} {d e x : D} {M : Mem} {Q : DQ} (h1 : res M d = x) (h2 : res M e = x) (h : fine n x = true) (q : Q (.bl false) M) (hn : n ≤ 64 := by decide) : gNe d e M Q := by
  unfold gNe
  rw [h1, h2, eqB_self h hn]
  exact q
theorem gEq_res {n : Nat} {d e x : D} {M : Mem} {Q : DQ} (h1 : res M d = x) (h2 : res M e = x) (h : fine n x = true) (q : Q (.bl true) M) (hn : n ≤ 64 := by decide) : gEq d e M Q := by
  unfold gEq
  rw [h1, h2, eqB_self h hn]
  exact q
theorem fine_lst_tIs {n : Nat} (l : List (List Int)) : fine (n + 3) (.lst (l.map tI)) = true := by simp only [fine]; exact fine_tIs l
theorem nbD_tI (x : List Int) : nbD (tI x) = true := by
  unfold tI
  simp only [nbD]
  rw [nbDAll_iff]
  intro d hd
  obtain ⟨i, _, rfl⟩ := List.mem_map.mp hd
  rfl
theorem nbD_tIs (l : List (List Int)) : nbDAll (l.map tI) = true := by
  rw [nbDAll_iff]
  intro d hd
  obtain ⟨x, _, rfl⟩ := List.mem_map.mp hd
  exact nbD_tI x
theorem tI_inj {x y : List Int} (h : tI x = tI y) : x = y := by
  have h1 := D.tup.inj h
  have := congrArg intsD h1
  rw [intsD_map, intsD_map] at this
  exact Option.some.inj this
theorem mem_tIs {x : List Int} {l : List (List Int)} : tI x ∈ l.map tI ↔ x ∈ l := by
  rw [List.mem_map]
  exact ⟨fun ⟨y, hy, e⟩ => tI_inj e ▸ hy, fun h => ⟨x, h, rfl⟩⟩
theorem AllD.deed_iff {b c e p q : Int} {l : List (List Int)} (h : AllD b c e l) : [p, q] ∈ l ↔ isDeed b c e p q = true := by
  rw [h.mem]
  exact ⟨fun ⟨p', q', e1, h1⟩ => by cases e1; exact h1, fun h1 => ⟨p, q, rfl, h1⟩⟩
def sp_llisted13 : DSp := fun ds M Q _ => ∃ a b c e : Int, ds = [T4 a b c e] ∧ isCut a b c e = true ∧ meas4 b c e ≤ 600 ∧ Q (.bl true) M
theorem rd_l_listed_right_e3bd : ∀ ds M Q, ds.length = 1 → sp_llisted13 ds M Q DX0 → t_l_listed_right_e3bd sp_ldeeds sp_deeds_o sp_how_many_deeds (dEnds M Q) (startD 3 ds) M := by
  rintro _ M Q - ⟨a, b, c, e, rfl, hcut, hm, q⟩
  unfold t_l_listed_right_e3bd
  refine dSeq_open fun B hB => ?_
  walk_at "rd"
  refine ⟨a, b, c, e, rfl, hcut, hm, fun l hl => ?_⟩
  dsimp only
  rw [← hB]
  clear hB B
  have hok := okS_deeds hcut hm hl
  have hlen := hl.small hcut hm
  have hbl : ∀ n, belowAll n (l.map tI) = true := fun n => below_tIs l
  refine dSeq_open fun B hB => ?_
  walk_at "rd"
  refine ⟨a, b, c, e, rfl, hcut, hm, fun l' hl' => ?_⟩
  obtain rfl := hl.uniq hl'
  clear hl'
  rw [← hB]
  clear hB B
  refine dSeq_open fun B hB => ?_
  walk_at "rd"
  refine gRepr_ownS (new_at M _) hok fun z hz => ?_
  refine gRepr_again hz rfl ?_
  rw [gNe_strs, str_self]
  dsimp only
  rw [if_neg (by decide)]
  refine ⟨a, b, c, e, rfl, hcut, hm, fun N hN hN2 => ?_⟩
  obtain rfl := hN2 l hl
  have hoki : okV (.int (l.length : Int)) = true := okV_int (n := 20) (Bi.of_abs 100000 (by omega) (by decide))
  refine gRepr_ok hoki fun z2 hz2 => ?_
  rw [List.length_map]
  refine gRepr_again hz2 rfl ?_
  rw [gNe_strs, str_self]
  dsimp only
  rw [if_neg (by decide)]
  generalize hM1 : M ++ [Own.lst (l.map tI)] = M1
  have hc1 : M1[M.length]? = some (.lst (l.map tI)) := by rw [← hM1]; exact new_at M _
  have hP1 : Plus M M1 := by rw [← hM1]; exact (Plus.refl M).add hbl
  have hl1 : M.length < M1.length := (List.getElem?_eq_some_iff.mp hc1).1
  refine ⟨rfl, a, b, c, e, rfl, hcut, hm, fun l' hl' => ?_⟩
  obtain rfl := hl.uniq hl'
  clear hl'
  refine gNe_res (n := 5) (res_own (new_at M1 _)) rfl (fine_lst_tIs _) ?_
  dsimp only
  rw [if_neg (by decide)]
  have hc2 : (M1 ++ [Own.lst (l.map tI)])[M.length]? = some (.lst (l.map tI)) := by rw [List.getElem?_append_left hl1]; exact hc1
  have hP2 : Plus M (M1 ++ [Own.lst (l.map tI)]) := hP1.add hbl
  generalize M1 ++ [Own.lst (l.map tI)] = M2 at *
  refine gIn_iff (n := 4) (l := l.map tI) (d := tI [0, 1]) (res_own hc2) (fine_tI _) (fine_tIs l) (nbD_tI _) (nbD_tIs l) fun v hv => ?_
  have ev : v = true := hv.mpr (mem_tIs.mpr (hl.deed_iff.mpr (one_deed hcut)))
  subst ev
  dsimp only
  rw [if_neg (by decide), ← hB]
  clear hB B
  refine dSeq_open fun B hB => ?_
  walk_at "rd"
  refine ⟨rfl, a, b, c, e, rfl, hcut, hm, fun N hN hN2 => ?_⟩
  obtain rfl := hN2 l hl
  rw [List.length_map, gNe_int]
  dsimp only
  rw [if_neg (by simp), ← hB]
  clear hB B
  refine dSeq_open fun B hB => ?_
  walk_at "rd"
  refine ⟨⟨_, _, rfl, hc2⟩, ?_⟩
  rw [hc2]
  dsimp only
  refine ⟨by rw [List.length_map]; omega, ?_⟩
  rw [← hB]
  clear hB B
  have hP3 : Plus M (M2.set M.length (.lst (l.map tI ++ [.non]))) := hP2.set (Nat.le_refl _) fun n => by
    have : ∀ l : List D, belowAll n l = true → belowAll n (l ++ [.non]) = true := by
      intro l
      induction l with
      | nil => intro _; rfl
      | cons d l ih =>
        intro h
        have h' : below n d = true ∧ belowAll n l = true := by simpa only [belowAll, Bool.and_eq_true] using h
        show (below n d && belowAll n (l ++ [.non])) = true
        rw [h'.1, ih h'.2]; rfl
    exact this _ (hbl n)
  generalize M2.set M.length (.lst (l.map tI ++ [.non])) = M3 at *
  walk_at "rd"
  refine ⟨a, b, c, e, rfl, hcut, hm, fun l' hl' => ?_⟩
  obtain rfl := hl.uniq hl'
  clear hl'
  refine gEq_res (n := 5) (res_own (new_at M3 _)) rfl (fine_lst_tIs _) ?_
  exact (hP3.add hbl).drop q
/-- a value among the deeds -/
def sp_ljudged13 : DSp := fun ds M Q _ => ∃ a b c e : Int, ds = [T4 a b c e] ∧ isCut a b c e = true ∧ meas4 b c e ≤ 600 ∧ Q (.bl true) M
theorem rd_l_judged_right_ab6f : ∀ ds M Q, ds.length = 1 → sp_ljudged13 ds M Q DX0 → t_l_judged_right_ab6f sp_ldeeds sp_gcd sp_is_deed (dEnds M Q) (startD 9 ds) M := by
  rintro _ M Q - ⟨a, b, c, e, rfl, hcut, hm, q⟩
  unfold t_l_judged_right_ab6f
  obtain ⟨k1, k2, k3, k4, k5, k6, k7, k8⟩ := cut600 hcut hm
  obtain ⟨l1, l2⟩ := lot_le (b := b) k3
  have cb := small_cb hcut (by omega)
  have G0 : 0 < (Int.gcd b c : Int) := by
    have := Int.gcd_pos_of_ne_zero_right b (show c ≠ 0 by omega)
    omega
  have gc : (Int.gcd b c : Int) ≤ c := Int.le_of_dvd (by omega) (Int.gcd_dvd_right _ _)
  refine dSeq_open fun B hB => ?_
  walk_at "rd"
  refine ⟨a, b, c, e, rfl, hcut, hm, fun l hl => ?_⟩
  refine ⟨a, b, c, e, rfl, hcut, hm, fun l' hl' => ?_⟩
  obtain rfl := hl.uniq hl'
  clear hl'
  have hlen := hl.small hcut hm
  refine lcW_pure (fun d => match d with | .tup [.int p, .int q] => some (.int q) | _ => none) trivial (by rw [List.length_map, sizeLine_eq]; omega) (fun d hd Y N' hy => ?_) ?_
  · obtain ⟨x, hx, rfl⟩ := List.mem_map.mp hd
    obtain ⟨p, q, rfl, _⟩ := (hl.mem x).mp hx
    exact hy
  have eqs : (l.map tI).filterMap (fun d => match d with | .tup [.int p, .int q] => some (.int q) | _ => none) = (l.map fun x => x.getD 1 0).map D.int := by
    have : ∀ l : List (List Int), (∀ x ∈ l, ∃ p q : Int, x = [p, q]) → (l.map tI).filterMap (fun d => match d with | .tup [.int p, .int q] => some (.int q) | _ => none) = (l.map fun x => x.getD 1 0).map D.int := by
      intro l hl
      induction l with
      | nil => rfl
      | cons x l ih =>
        obtain ⟨p, q, rfl⟩ := hl x List.mem_cons_self
        have := ih fun y hy => hl y (List.mem_cons_of_mem _ hy)
        show D.int q :: _ = D.int q :: _
        rw [this]
    exact this l fun x hx => by
      obtain ⟨p, q, e1, _⟩ := (hl.mem x).mp hx
      exact ⟨p, q, e1⟩
  rw [eqs]
  have hfar : ∀ m, m ∈ (l.map fun x => x.getD 1 0) → 1 ≤ m ∧ m ≤ 24 := by
    intro m hm1
    obtain ⟨x, hx, rfl⟩ := List.mem_map.mp hm1
    obtain ⟨p, q, rfl, hd⟩ := (hl.mem x).mp hx
    have hd' := (isDeed_parts hd).1
    have := allowed_qc hcut hm hd'.q1 hd'.al
    exact ⟨hd'.q1, this.2.2⟩
  refine ⟨(l.map fun x => x.getD 1 0), ?_, ?_, fun m hm1 _ => ?_⟩
  · show intsD _ = _
    exact intsD_map _
  · rw [List.length_map]
    exact List.length_pos_of_mem (hl.deed_iff.mpr (one_deed hcut))
  obtain ⟨m1, m2⟩ := hfar m hm1
  clear hfar eqs hm1
  dsimp only
  rw [← hB]
  clear hB B
  refine dSeq_open fun B hB => ?_
  walk_at "rd"
  refine ⟨b, c, rfl, ⟨by omega, Nat.lt_of_lt_of_le (log2_of 10 (by omega) (by decide)) (by decide)⟩, ?_⟩
  rw [fdiv_pos G0]
  generalize hlot : c / (Int.gcd b c : Int) = lot at *
  have blot : Bi 10 lot := Bi.of_abs 300 (by omega) (by decide)
  rw [← hB]
  clear hB B
  refine dSeq_open fun B hB => ?_
  walk_at "rd"
  rw [fdiv_pos (show (0 : Int) < 2 by decide)]
  refine ⟨⟨by decide, by decide⟩, ?_⟩
  have hL : ∀ d ∈ [D.int (0 - 1), D.int 0, D.int 1, D.int 2, D.int 3, D.int ((m + 2) / 2), D.int (m + 2 - 2), D.int (m + 2 - 1), D.int (m + 2)], ∃ i : Int, d = .int i ∧ -30 ≤ i ∧ i ≤ 30 := by
    intro d hd
    simp only [List.mem_cons, List.not_mem_nil, or_false] at hd
    rcases hd with rfl | rfl | rfl | rfl | rfl | rfl | rfl | rfl | rfl <;> exact ⟨_, rfl, by omega, by omega⟩
  generalize [D.int (0 - 1), D.int 0, D.int 1, D.int 2, D.int 3, D.int ((m + 2) / 2), D.int (m + 2 - 2), D.int (m + 2 - 1), D.int (m + 2)] = L at hL
  refine ⟨fun i r M' => M' = M ∧ ∃ t5 t6, r = [some (T4 a b c e), some (.lst (l.map tI)), some (.int (m + 2)), none, some (.int lot), t5, t6, none, none], ⟨rfl, _, _, rfl⟩, ?_⟩
  rintro i r M' ⟨rfl, t5, t6, rfl⟩
  refine ⟨trivial, fun hli => ?_, fun d hd => ?_⟩
  · dsimp only
    rw [← hB]
    clear hB B
    refine dSeq_open fun B hB => ?_
    walk_at "rd"
    have cpow : CPow 10 29 := ⟨by decide, by decide⟩
    refine ⟨cpow, cpow, ?_⟩
    rw [← hB]
    clear hB B
    have hodd : ∀ d ∈ [D.non, D.int 0, D.str (Str.ofString "01"), D.tup [], D.tup [D.int 0], D.lst [D.int 0, D.int 1],
                D.tup [D.int 0, D.int 1, D.int 1], D.tup [D.non, D.int 1], D.tup [D.int 0, D.non],
                D.tup [D.str (Str.ofString "0"), D.int 1], D.tup [D.bl false, D.int 1], D.tup [D.int 0, D.bl true],
                D.tup [D.tup [D.int 0], D.int 1], D.dct0, D.tup [D.int (10 ^ Int.toNat 29), D.int 1],
                D.tup [D.int 0, D.int (10 ^ Int.toNat 29)]], Askable 2 M' d ∧ (∀ p q, d = .tup [.int p, .int q] → Bi 450 q) ∧ isDeedD b c e d = false := by
      intro d hd
      simp only [List.mem_cons, List.not_mem_nil, or_false] at hd
      rcases hd with rfl | rfl | rfl | rfl | rfl | rfl | rfl | rfl | rfl | rfl | rfl | rfl | rfl | rfl | rfl | rfl
      · exact ⟨ask_fine M' (by decide +kernel), fun p q z => (by cases z), rfl⟩
      · exact ⟨ask_fine M' (by decide +kernel), fun p q z => (by cases z), rfl⟩
      · exact ⟨ask_fine M' (by decide +kernel), fun p q z => (by cases z), rfl⟩
      · exact ⟨ask_fine M' (by decide +kernel), fun p q z => (by cases z), rfl⟩
      · exact ⟨ask_fine M' (by decide +kernel), fun p q z => (by cases z), rfl⟩
      · exact ⟨ask_fine M' (by decide +kernel), fun p q z => (by cases z), rfl⟩
      · exact ⟨ask_fine M' (by decide +kernel), fun p q z => (by cases z), rfl⟩
      · exact ⟨ask_fine M' (by decide +kernel), fun p q z => (by cases z), rfl⟩
      · exact ⟨ask_fine M' (by decide +kernel), fun p q z => (by cases z), rfl⟩
      · exact ⟨ask_fine M' (by decide +kernel), fun p q z => (by cases z), rfl⟩
      · exact ⟨ask_fine M' (by decide +kernel), fun p q z => (by cases z), rfl⟩
      · exact ⟨ask_fine M' (by decide +kernel), fun p q z => (by cases z), rfl⟩
      · exact ⟨ask_fine M' (by decide +kernel), fun p q z => (by cases z), rfl⟩
      · exact ⟨⟨⟨_, rfl⟩, fun l z => (by cases z)⟩, fun p q z => (by cases z), rfl⟩
      · refine ⟨ask_fine M' rfl, fun p q z => ?_, ?_⟩
        · cases z
          exact Bi.of_abs 1 (by decide)
        · show isDeed b c e _ 1 = false
          refine Bool.eq_false_iff.mpr fun h => ?_
          have := (isDeed_parts h).2
          rw [hlot] at this
          have : (10 : Int) ^ Int.toNat 29 = 100000000000000000000000000000 := by decide
          omega
      · refine ⟨ask_fine M' rfl, fun p q z => ?_, ?_⟩
        · cases z
          exact Bi.of_abs (10 ^ 29) (by decide) (by decide)
        · show isDeed b c e 0 _ = false
          refine Bool.eq_false_iff.mpr fun h => ?_
          have hd' := (isDeed_parts h).1
          have := (allowed_qc hcut hm hd'.q1 hd'.al).2.2
          have : (10 : Int) ^ Int.toNat 29 = 100000000000000000000000000000 := by decide
          omega
    generalize hLo : [D.non, D.int 0, D.str (Str.ofString "01"), D.tup [], D.tup [D.int 0], D.lst [D.int 0, D.int 1],
                D.tup [D.int 0, D.int 1, D.int 1], D.tup [D.non, D.int 1], D.tup [D.int 0, D.non],
                D.tup [D.str (Str.ofString "0"), D.int 1], D.tup [D.bl false, D.int 1], D.tup [D.int 0, D.bl true],
                D.tup [D.tup [D.int 0], D.int 1], D.dct0, D.tup [D.int (10 ^ Int.toNat 29), D.int 1],
                D.tup [D.int 0, D.int (10 ^ Int.toNat 29)]] = L2 at hodd
    have hlen2 : L2.length = 16 := by rw [← hLo]; rfl
    walk_at "rd"
    refine lcW_pure (fun _ => none) trivial (by rw [hlen2, sizeLine_eq]; decide) (fun d hd Y N' hy => ?_) ?_
    · obtain ⟨o1, o2, o3⟩ := hodd d hd
      walk_at "rd"
      refine ⟨a, b, c, e, d, rfl, hcut, cb.mono, o1, o2, ?_⟩
      rw [o3]
      exact hy
    · rw [List.filterMap_eq_nil_iff.mpr fun _ _ => rfl]
      refine gEq_same (n := 3) rfl ?_
      exact rtq q
  · obtain ⟨q1, rfl, hq1, hq2⟩ := hL d (List.mem_of_getElem? hd)
    have bq : Bi 10 q1 := Bi.of_abs 300 (by omega) (by decide)
    walk_at "rd"
    refine ⟨⟨bq.sm, blot.sm⟩, ⟨bq.sm, blot.sm⟩, ⟨bq.sm, blot.sm⟩, ?_⟩
    have hL2 : ∀ d ∈ [D.int (0 - 1), D.int 0, D.int 1, D.int 2, D.int 3, D.int q1, D.int (q1 * lot - 1), D.int (q1 * lot), D.int (q1 * lot + 1)], ∃ i : Int, d = .int i := by
      intro d hd
      simp only [List.mem_cons, List.not_mem_nil, or_false] at hd
      rcases hd with rfl | rfl | rfl | rfl | rfl | rfl | rfl | rfl | rfl <;> exact ⟨_, rfl⟩
    generalize [D.int (0 - 1), D.int 0, D.int 1, D.int 2, D.int 3, D.int q1, D.int (q1 * lot - 1), D.int (q1 * lot), D.int (q1 * lot + 1)] = L2 at hL2
    refine ⟨fun i r M2 => M2 = M' ∧ ∃ t6, r = [some (T4 a b c e), some (.lst (l.map tI)), some (.int (m + 2)), none, some (.int lot), some (.int q1), t6, none, none], ⟨rfl, _, rfl⟩, ?_⟩
    rintro i2 r M2 ⟨rfl, t6, rfl⟩
    refine ⟨trivial, fun hli => ⟨rfl, _, _, rfl⟩, fun d hd2 => ?_⟩
    obtain ⟨p1, rfl⟩ := hL2 d (List.mem_of_getElem? hd2)
    have hbq : ∀ p q, D.tup [.int p1, .int q1] = .tup [.int p, .int q] → Bi 450 q := fun p q z => by cases z; exact bq.mono
    have hin : ∀ {G : DQ}, G (.bl (isDeed b c e p1 q1)) M2 → gIn false (.tup [.int p1, .int q1]) (.lst (l.map tI)) M2 G := fun {G} h => by
      refine gIn_iff (n := 4) (l := l.map tI) (d := tI [p1, q1]) rfl (fine_tI _) (fine_tIs l) (nbD_tI _) (nbD_tIs l) fun v hv => ?_
      rw [Bool.bne_false]
      have : v = isDeed b c e p1 q1 := by rw [mem_tIs, hl.deed_iff] at hv; exact Bool.eq_iff_iff.mpr hv
      rw [this]
      exact h
    walk_at "rd"
    refine ⟨a, b, c, e, _, rfl, hcut, cb.mono, ask_fine M2 rfl, hbq, ?_⟩
    rw [show isDeedD b c e (.tup [.int p1, .int q1]) = isDeed b c e p1 q1 from rfl]
    dsimp only
    rw [gRepr_bl]
    refine hin ?_
    rw [gRepr_bl, gNe_strs, str_self]
    dsimp only
    rw [if_neg (by decide)]
    refine ⟨rfl, a, b, c, e, _, rfl, hcut, cb.mono, ask_fine M2 rfl, hbq, ?_⟩
    rw [show isDeedD b c e (.tup [.int p1, .int q1]) = isDeed b c e p1 q1 from rfl]
    refine hin ?_
    rw [gNe_bl]
    dsimp only
    rw [if_neg (by simp)]
    exact ⟨rfl, _, rfl⟩
theorem allD_conc {a b c e : Int} {L : List (List Int)} (hcut : isCut a b c e = true) (hm : meas4 b c e ≤ 600) (h1 : ∀ x ∈ L, x.length = 2 ∧ isDeed b c e (x.getD 0 0) (x.getD 1 0) = true)
    (h2 : ∀ q : Nat, q < 25 → ∀ p : Nat, p < 25 → isDeed b c e p q = true → [(p : Int), (q : Int)] ∈ L) (nd : L.Nodup) (srt : LSorted L) (len : L.length ≤ 100) : AllD b c e L := by
  refine ⟨nd, fun x => ⟨fun hx => ?_, ?_⟩, srt, by omega⟩
  · obtain ⟨e1, e2⟩ := h1 x hx
    match x, e1, e2 with
    | [p, q], _, e2 => exact ⟨p, q, rfl, e2⟩
  · rintro ⟨p, q, rfl, hd⟩
    obtain ⟨⟨q1, q2, q3, q4⟩, q5⟩ := isDeed_parts hd
    have h3 := allowed_qc hcut hm q1 q2
    have h4 := (lot_le (b := b) (cut_parts hcut).2.1).2
    have h5 : q * (c / (Int.gcd b c : Int)) ≤ q * c := Int.mul_le_mul_of_nonneg_left h4 (by omega)
    have := h2 q.toNat (by omega) p.toNat (by omega)
    rw [Int.toNat_of_nonneg q3, Int.toNat_of_nonneg (show 0 ≤ q by omega)] at this
    exact this hd
theorem rd_l_law_2aea : ∀ ds M Q, ds.length = 1 → spLaw ds M Q DX0 → t_l_law_2aea sp_generator sp_lsmall sp_random sp_llisted13 sp_ljudged13 sp_deeds_o sp_how_many_deeds sp_is_deed (dEnds M Q) (startD 6 ds) M := by
  rintro _ M Q - ⟨rfl, ⟨ns, rfl⟩, q⟩
  unfold t_l_law_2aea
  have fin : ∀ M2, Rtq [] Q (.bl true) M2 := fun M2 => ⟨[], M2, rfl, Nat.zero_le _, rfl, fun i c h => by simp at h, q⟩
  refine dSeq_open fun B hB => ?_
  walk_at "rd"
  refine ⟨ns, 0, rfl, Int.le_refl _, by decide, fun M1 ml hg _ => ?_⟩
  dsimp only
  rw [← hB]
  clear hB B
  refine dSeq_open fun B hB => ?_
  walk_at "rd"
  refine ⟨0, 0, rfl, hg, by decide, fun m a b c e l M2 hm hm2 hl hcut hmm g2 => ?_⟩
  walk_at "rd"
  rw [← hB]
  clear hB B
  have hpos := allC_pos hm hl
  have hlen := hl.len
  refine dSeq_open fun B hB => ?_
  walk_at "rd"
  refine ⟨0, _, _, rfl, by rw [List.length_map]; omega, lt900 (by rw [List.length_map]; omega), g2.2.1, by decide, fun v2 M3 v20 v21 g3 => ?_⟩
  rw [List.length_map] at v21
  obtain ⟨a1, b1, c1, e1, ea, hc1, hm1, _⟩ := allC_atI hl v20 v21
  dsimp only
  rw [ea]
  dsimp only
  rw [← hB]
  clear hB B
  refine dSeq_open fun B hB => ?_
  have hL : ∀ d ∈ [T4 a b c e, T4 a1 b1 c1 e1, T4 a b c e], ∃ a b c e, d = T4 a b c e ∧ isCut a b c e = true ∧ meas4 b c e ≤ 600 := by
    intro d hd
    simp only [List.mem_cons, List.not_mem_nil, or_false] at hd
    rcases hd with rfl | rfl | rfl
    · exact ⟨_, _, _, _, rfl, hcut, by omega⟩
    · exact ⟨_, _, _, _, rfl, hc1, by omega⟩
    · exact ⟨_, _, _, _, rfl, hcut, by omega⟩
  walk_at "rd"
  generalize [T4 a b c e, T4 a1 b1 c1 e1, T4 a b c e] = L at hL
  refine ⟨fun i r M' => ∃ t, r = [some (.scr ns), some (.own 0), some (T4 a b c e), some (.lst (l.map tI)), some (T4 a1 b1 c1 e1), t], ⟨_, rfl⟩, ?_⟩
  rintro i r M' ⟨t, rfl⟩
  refine ⟨trivial, fun hli => ?_, fun d hd => ?_⟩
  · dsimp only
    rw [← hB]
    clear hB B
    have D1 : AllD 2 1 (-3) [[0, 1], [1, 2], [1, 3], [2, 3]] := allD_conc (a := 0) (by decide) (by decide) (by decide +kernel) (by decide +kernel) (by decide) (by decide) (by decide)
    have D2 : AllD 2 4 (-9) [[0, 1], [1, 1], [1, 2], [3, 2]] := allD_conc (a := 1) (by decide) (by decide) (by decide +kernel) (by decide +kernel) (by decide) (by decide) (by decide)
    have D3 : AllD 1 1 (-4) [[0, 1], [1, 2], [1, 3], [1, 4], [2, 3], [3, 4]] := allD_conc (a := 0) (by decide) (by decide) (by decide +kernel) (by decide +kernel) (by decide) (by decide) (by decide)
    have D4 : AllD 1 1 (-1) [[0, 1]] := allD_conc (a := 0) (by decide) (by decide) (by decide +kernel) (by decide +kernel) (by decide) (by decide) (by decide)
    refine dSeq_open fun B hB => ?_
    walk_at "rd"
    refine ⟨0, 2, 1, -3, rfl, by decide, by decide, fun l1 hl1 => ?_⟩
    obtain rfl := hl1.uniq D1
    refine gNe_res (n := 5) (res_own (new_at _ _)) rfl (fine_lst_tIs _) ?_
    dsimp only
    rw [if_neg (by decide)]
    refine ⟨1, 2, 4, -9, rfl, by decide, by decide, fun l1 hl1 => ?_⟩
    obtain rfl := hl1.uniq D2
    refine gNe_res (n := 5) (res_own (new_at _ _)) rfl (fine_lst_tIs _) ?_
    dsimp only
    rw [if_neg (by decide), ← hB]
    clear hB B
    refine dSeq_open fun B hB => ?_
    walk_at "rd"
    refine ⟨0, 1, 1, -4, rfl, by decide, by decide, fun l1 hl1 => ?_⟩
    obtain rfl := hl1.uniq D3
    refine gNe_res (n := 5) (res_own (new_at _ _)) rfl (fine_lst_tIs _) ?_
    dsimp only
    rw [if_neg (by decide), ← hB]
    clear hB B
    walk_at "rd"
    refine ⟨0, 1, 1, -1, rfl, by decide, by decide, fun N hN hN2 => ?_⟩
    obtain rfl := hN2 _ D4
    refine gEq_same (n := 3) (d := .int 1) rfl ?_
    dsimp only
    rw [if_pos rfl]
    refine ⟨0, 2, 1, -3, _, rfl, by decide, (small_cb (a := 0) (b := 2) (c := 1) (e := -3) (by decide) (by decide)).mono, ask_fine _ rfl, fun p q z => (by cases z; exact Bi.of_abs 5 (by decide)), ?_⟩
    rw [show isDeedD 2 1 (-3) (.tup [.int 2, .int 2]) = false from by decide +kernel]
    exact fin _
  · obtain ⟨a2, b2, c2, e2, rfl, hc2, hm2⟩ := hL d (List.mem_of_getElem? hd)
    walk_at "rd"
    refine ⟨a2, b2, c2, e2, rfl, hc2, hm2, ?_⟩
    dsimp only
    rw [if_neg (by decide)]
    refine ⟨a2, b2, c2, e2, rfl, hc2, hm2, ?_⟩
    dsimp only
    rw [if_neg (by decide)]
    exact ⟨_, rfl⟩
end DL
namespace C_k13
open PySem PySem.Spec PyProof.Rows L2 DL
def topS (i : Nat) : Stmt := PySem.Challenge.pw_slitsheets_k13_whole_deeds_judged_and_li.main.body.getD i (.Pass ⟨0, 0, 0, 0⟩)
abbrev s_l_cell_cf3b : Stmt := topS 26
theorem sc_l_cell_cf3b : FnScope ["_law_script", "_law_index"] ["_law_script", "_law_index"] (defScope s_l_cell_cf3b) := ⟨rfl, rfl, rfl, by decide +kernel, rfl, by decide +kernel, by decide +kernel⟩
abbrev s_l_generator_b324 : Stmt := topS 27
theorem sc_l_generator_b324 : FnScope ["_law_script", "_law_index", "_law_seed"] ["_law_script", "_law_index"] (defScope s_l_generator_b324) := ⟨rfl, rfl, rfl, by decide +kernel, rfl, by decide +kernel, by decide +kernel⟩
abbrev s_l_hash_d8d1 : Stmt := topS 24
theorem sc_l_hash_d8d1 : FnScope ["_law_seed", "_law_index", "_law_mixed"] ["_law_seed", "_law_index"] (defScope s_l_hash_d8d1) := ⟨rfl, rfl, rfl, by decide +kernel, rfl, by decide +kernel, by decide +kernel⟩
abbrev s_l_random_7821 : Stmt := topS 25
theorem sc_l_random_7821 : FnScope ["_law_generator_here", "_law_bound", "_law_drawn", "_law_turn"] ["_law_generator_here", "_law_bound"] (defScope s_l_random_7821) := ⟨rfl, rfl, rfl, by decide +kernel, rfl, by decide +kernel, by decide +kernel⟩
abbrev s_l_divisor_b609 : Stmt := topS 28
theorem sc_l_divisor_b609 : FnScope ["_law_one", "_law_other", "_law_low", "_law_high"] ["_law_one", "_law_other"] (defScope s_l_divisor_b609) := ⟨rfl, rfl, rfl, by decide +kernel, rfl, by decide +kernel, by decide +kernel⟩
abbrev s_l_is_cutting_a37b : Stmt := topS 29
theorem sc_l_is_cutting_a37b : FnScope ["_law_cutting", "_law_a", "_law_b", "_law_c", "_law_e"] ["_law_cutting"] (defScope s_l_is_cutting_a37b) := ⟨rfl, rfl, rfl, by decide +kernel, rfl, by decide +kernel, by decide +kernel⟩
abbrev s_l_with_a07e : Stmt := topS 31
theorem sc_l_with_a07e : FnScope ["_law_measure", "_law_shift", "_law_found", "_law_whole", "_law_c", "_law_b", "_law_a"] ["_law_measure", "_law_shift"] (defScope s_l_with_a07e) := ⟨rfl, rfl, rfl, by decide +kernel, rfl, by decide +kernel, by decide +kernel⟩
abbrev s_l_cuttings_cac1 : Stmt := topS 30
theorem sc_l_cuttings_cac1 : FnScope ["_law_measure", "_law_found", "_law_e", "_law_shift"] ["_law_measure"] (defScope s_l_cuttings_cac1) := ⟨rfl, rfl, rfl, by decide +kernel, rfl, by decide +kernel, by decide +kernel⟩
abbrev s_l_small_f084 : Stmt := topS 32
theorem sc_l_small_f084 : FnScope ["_law_generator_here", "_law_measure", "_law_every"] ["_law_generator_here"] (defScope s_l_small_f084) := ⟨rfl, rfl, rfl, by decide +kernel, rfl, by decide +kernel, by decide +kernel⟩
abbrev s_l_allowed_c76c : Stmt := topS 33
theorem sc_l_allowed_c76c : FnScope ["_law_cutting", "_law_q", "_law_a", "_law_b", "_law_c", "_law_e"] ["_law_cutting", "_law_q"] (defScope s_l_allowed_c76c) := ⟨rfl, rfl, rfl, by decide +kernel, rfl, by decide +kernel, by decide +kernel⟩
abbrev s_l_deeds_faf6 : Stmt := topS 34
theorem sc_l_deeds_faf6 : FnScope ["_law_cutting", "_law_found", "_law_q", "_law_lot", "_law_p"] ["_law_cutting"] (defScope s_l_deeds_faf6) := ⟨rfl, rfl, rfl, by decide +kernel, rfl, by decide +kernel, by decide +kernel⟩
abbrev s_is_whole : Stmt := topS 6
theorem sc_is_whole : FnScope ["value"] ["value"] (defScope s_is_whole) := ⟨rfl, rfl, rfl, by decide +kernel, rfl, by decide +kernel, by decide +kernel⟩
abbrev s_common_by : Stmt := topS 7
theorem sc_common_by : FnScope ["one", "other", "low", "high"] ["one", "other"] (defScope s_common_by) := ⟨rfl, rfl, rfl, by decide +kernel, rfl, by decide +kernel, by decide +kernel⟩
abbrev s_is_cutting_by : Stmt := topS 9
theorem sc_is_cutting_by : FnScope ["value", "item", "low", "high", "side", "turn", "both"] ["value"] (defScope s_is_cutting_by) := ⟨rfl, rfl, rfl, by decide +kernel, rfl, by decide +kernel, by decide +kernel⟩
abbrev s_check_cutting : Stmt := topS 10
theorem sc_check_cutting : FnScope ["cutting"] ["cutting"] (defScope s_check_cutting) := ⟨rfl, rfl, rfl, by decide +kernel, rfl, by decide +kernel, by decide +kernel⟩
abbrev s_allowed_by : Stmt := topS 13
theorem sc_allowed_by : FnScope ["cutting", "far", "_", "wide", "high", "shift"] ["cutting", "far"] (defScope s_allowed_by) := ⟨rfl, rfl, rfl, by decide +kernel, rfl, by decide +kernel, by decide +kernel⟩
abbrev s_free_count : Stmt := topS 16
theorem sc_free_count : FnScope ["number", "found", "left", "part"] ["number"] (defScope s_free_count) := ⟨rfl, rfl, rfl, by decide +kernel, rfl, by decide +kernel, by decide +kernel⟩
abbrev s_round_of : Stmt := topS 14
theorem sc_round_of : FnScope ["cutting"] ["cutting"] (defScope s_round_of) := ⟨rfl, rfl, rfl, by decide +kernel, rfl, by decide +kernel, by decide +kernel⟩
abbrev s_count_deeds : Stmt := topS 17
theorem sc_count_deeds : FnScope ["cutting", "found", "far"] ["cutting"] (defScope s_count_deeds) := ⟨rfl, rfl, rfl, by decide +kernel, rfl, by decide +kernel, by decide +kernel⟩
abbrev s_check_few : Stmt := topS 19
theorem sc_check_few : FnScope ["cutting", "many"] ["cutting"] (defScope s_check_few) := ⟨rfl, rfl, rfl, by decide +kernel, rfl, by decide +kernel, by decide +kernel⟩
abbrev s_deeds_by_o : Stmt := topS 18
theorem sc_deeds_by_o : FnScope ["cutting", "found", "far", "near"] ["cutting"] (defScope s_deeds_by_o) := ⟨rfl, rfl, rfl, by decide +kernel, rfl, by decide +kernel, by decide +kernel⟩
abbrev s_deeds_o : Stmt := topS 22
theorem sc_deeds_o : FnScope ["cutting"] ["cutting"] (defScope s_deeds_o) := ⟨rfl, rfl, rfl, by decide +kernel, rfl, by decide +kernel, by decide +kernel⟩
abbrev s_how_many_deeds : Stmt := topS 21
theorem sc_how_many_deeds : FnScope ["cutting"] ["cutting"] (defScope s_how_many_deeds) := ⟨rfl, rfl, rfl, by decide +kernel, rfl, by decide +kernel, by decide +kernel⟩
abbrev s_l_listed_right_e3bd : Stmt := topS 35
theorem sc_l_listed_right_e3bd : FnScope ["_law_cutting", "_law_due", "_law_told"] ["_law_cutting"] (defScope s_l_listed_right_e3bd) := ⟨rfl, rfl, rfl, by decide +kernel, rfl, by decide +kernel, by decide +kernel⟩
abbrev s_is_deed_by : Stmt := topS 15
theorem sc_is_deed_by : FnScope ["cutting", "value", "part", "near", "far"] ["cutting", "value"] (defScope s_is_deed_by) := ⟨rfl, rfl, rfl, by decide +kernel, rfl, by decide +kernel, by decide +kernel⟩
abbrev s_is_deed : Stmt := topS 20
theorem sc_is_deed : FnScope ["cutting", "value"] ["cutting", "value"] (defScope s_is_deed) := ⟨rfl, rfl, rfl, by decide +kernel, rfl, by decide +kernel, by decide +kernel⟩
abbrev s_l_judged_right_ab6f : Stmt := topS 36
theorem sc_l_judged_right_ab6f : FnScope ["_law_cutting", "_law_due", "_law_far", "_law_deed", "_law_lot", "_law_q", "_law_p", "_law_odd", "_law_value"] ["_law_cutting"] (defScope s_l_judged_right_ab6f) := ⟨rfl, rfl, rfl, by decide +kernel, rfl, by decide +kernel, by decide +kernel⟩
abbrev s_l_law_2aea : Stmt := topS 37
theorem sc_l_law_2aea : FnScope ["_law_script", "_law_generator_here", "_law_cutting", "_law_every", "_law_other", "_law_one"] ["_law_script"] (defScope s_l_law_2aea) := ⟨rfl, rfl, rfl, by decide +kernel, rfl, by decide +kernel, by decide +kernel⟩
/-- what the top has left -/
structure Txt (K : PySem.W.Frag) (mg : Str → Option Value) (base : Heap) : Prop where
  n_abs : mg "abs" = none
  n_bool : mg "bool" = none
  n_int : mg "int" = none
  n_isinstance : mg "isinstance" = none
  n_len : mg "len" = none
  n_max : mg "max" = none
  n_range : mg "range" = none
  n_repr : mg "repr" = none
  n_sorted : mg "sorted" = none
  n_sum : mg "sum" = none
  n_tuple : mg "tuple" = none
  g_gcd : mg "gcd" = some (.builtin "math.gcd")
  c_MOST_LISTED : ∃ t, mg "MOST_LISTED" = some (.int 2000 t)
  h_l_cell_cf3b : Here K mg "_law_cell" s_l_cell_cf3b ["_law_script", "_law_index"]
  h_l_generator_b324 : Here K mg "_law_generator" s_l_generator_b324 ["_law_script", "_law_index"]
  h_l_hash_d8d1 : Here K mg "_law_hash" s_l_hash_d8d1 ["_law_seed", "_law_index"]
  h_l_random_7821 : Here K mg "_law_random" s_l_random_7821 ["_law_generator_here", "_law_bound"]
  h_l_divisor_b609 : Here K mg "_law_divisor" s_l_divisor_b609 ["_law_one", "_law_other"]
  h_l_is_cutting_a37b : Here K mg "_law_is_cutting" s_l_is_cutting_a37b ["_law_cutting"]
  h_l_with_a07e : Here K mg "_law_with" s_l_with_a07e ["_law_measure", "_law_shift"]
  h_l_cuttings_cac1 : Here K mg "_law_cuttings" s_l_cuttings_cac1 ["_law_measure"]
  h_l_small_f084 : Here K mg "_law_small" s_l_small_f084 ["_law_generator_here"]
  h_l_allowed_c76c : Here K mg "_law_allowed" s_l_allowed_c76c ["_law_cutting", "_law_q"]
  h_l_deeds_faf6 : Here K mg "_law_deeds" s_l_deeds_faf6 ["_law_cutting"]
  h_is_whole : Here K mg "is_whole" s_is_whole ["value"]
  h_common_by : Here K mg "common_by" s_common_by ["one", "other"]
  h_is_cutting_by : Here K mg "is_cutting_by" s_is_cutting_by ["value"]
  h_check_cutting : Here K mg "check_cutting" s_check_cutting ["cutting"]
  h_allowed_by : Here K mg "allowed_by" s_allowed_by ["cutting", "far"]
  h_free_count : Here K mg "free_count" s_free_count ["number"]
  h_round_of : Here K mg "round_of" s_round_of ["cutting"]
  h_count_deeds : Here K mg "count_deeds" s_count_deeds ["cutting"]
  h_check_few : Here K mg "check_few" s_check_few ["cutting"]
  h_deeds_by_o : Here K mg "deeds_by" s_deeds_by_o ["cutting"]
  h_deeds_o : Here K mg "deeds" s_deeds_o ["cutting"]
  h_how_many_deeds : Here K mg "how_many_deeds" s_how_many_deeds ["cutting"]
  h_l_listed_right_e3bd : Here K mg "_law_listed_right" s_l_listed_right_e3bd ["_law_cutting"]
  h_is_deed_by : Here K mg "is_deed_by" s_is_deed_by ["cutting", "value"]
  h_is_deed : Here K mg "is_deed" s_is_deed ["cutting", "value"]
  h_l_judged_right_ab6f : Here K mg "_law_judged_right" s_l_judged_right_ab6f ["_law_cutting"]
  h_l_law_2aea : Here K mg "law" s_l_law_2aea ["_law_script"]
section
variable {P : Program} {w : World} {K : PySem.W.Frag} {mg : Str → Option Value} {base : Heap}
theorem ok_l_cell_cf3b {sp : DSp} (T : Txt K mg base) (hread : ∀ ds M Q, ds.length = 2 → sp ds M Q DX0 → t_l_cell_cf3b (dEnds M Q) (startD 2 ds) M) (hX : ∀ ds M Q E, sp ds M Q E → sp ds M Q DX0 := by exact fun _ _ _ _ h => h) : Def P w K mg base CX0 1 "_law_cell" s_l_cell_cf3b ["_law_script", "_law_index"] sp :=
 T.h_l_cell_cf3b.ok (t := t_l_cell_cf3b) sc_l_cell_cf3b (fun f cdv A outer s H E hr gd => (dss_cons (ds_if (dt_cmp opd_lt (dv 1) (de_blt cd_len T.n_len (da_cons (dv 0) da_nil)) (nomark _)) (dss_one (ds_ret (de_ix (dv 0) (dv 1)))) dss_nil)
 (dss_one (ds_ret (de_op opd_mod (de_blt (cd_sum rfl) T.n_sum (da_cons (de_slL false (dv 0) do_none (do_some de_int)) da_nil)) de_int))))) hread hX
theorem ok_l_generator_b324 {c_l_cell_cf3b : DSp} {sp : DSp} (T : Txt K mg base) (D_l_cell_cf3b : Def P w K mg base CX0 1 "_law_cell" s_l_cell_cf3b ["_law_script", "_law_index"] c_l_cell_cf3b) (hread : ∀ ds M Q, ds.length = 2 → sp ds M Q DX0 → t_l_generator_b324 c_l_cell_cf3b (dEnds M Q) (startD 3 ds) M) (hX : ∀ ds M Q E, sp ds M Q E → sp ds M Q DX0 := by exact fun _ _ _ _ h => h) : Def P w K mg base CX0 2 "_law_generator" s_l_generator_b324 ["_law_script", "_law_index"] sp :=
 T.h_l_generator_b324.ok (t := t_l_generator_b324 c_l_cell_cf3b) sc_l_generator_b324 (fun f cdv A outer s H E hr gd => (dss_cons (ds_set (i := 2) sc_l_generator_b324.nd (dcall D_l_cell_cf3b hr gd (da_cons (dv 0) (da_cons (dv 1) da_nil))))
 (dss_one (ds_ret (de_own (da_cons (de_op opd_mod (de_ty cd_int T.n_int (da_cons (de_blt (cd_max rfl) T.n_max (da_cons (de_op opd_sub (dv 2) (de_op opd_pow de_int de_int)) (da_cons de_int da_nil))) da_nil)) (de_op opd_pow (de_op opd_pow de_int de_int) de_int)) (da_cons (de_op opd_mod (de_ty cd_int T.n_int (da_cons (dv 2) da_nil)) de_int) (da_cons (de_op opd_mulI de_int (dv 1)) da_nil)))))))) hread hX
theorem ok_l_hash_d8d1 {sp : DSp} (T : Txt K mg base) (hread : ∀ ds M Q, ds.length = 2 → sp ds M Q DX0 → t_l_hash_d8d1 (dEnds M Q) (startD 3 ds) M) (hX : ∀ ds M Q E, sp ds M Q E → sp ds M Q DX0 := by exact fun _ _ _ _ h => h) : Def P w K mg base CX0 1 "_law_hash" s_l_hash_d8d1 ["_law_seed", "_law_index"] sp :=
 T.h_l_hash_d8d1.ok (t := t_l_hash_d8d1) sc_l_hash_d8d1 (fun f cdv A outer s H E hr gd => (dss_cons (ds_set (i := 2) sc_l_hash_d8d1.nd (de_op opd_mod (de_ty cd_int T.n_int (da_cons (de_op opd_add (de_op opd_add (de_op opd_add (de_op opd_mulI (dv 0) de_int) (de_op opd_mulI (de_op opd_mulI de_int (dv 1)) (dv 1))) (de_op opd_mulI de_int (dv 1))) de_int) da_nil)) de_int))
 (dss_cons (ds_set (i := 2) sc_l_hash_d8d1.nd (de_op opd_mod (de_ty cd_int T.n_int (da_cons (de_op opd_add (de_op opd_add (de_op opd_mulI (dv 2) (dv 2)) (de_op opd_mulI de_int (dv 1))) de_int) da_nil)) de_int))
 (dss_one (ds_ret (de_op opd_mod (de_ty cd_int T.n_int (da_cons (de_op opd_mulI (dv 2) de_int) da_nil)) de_int)))))) hread hX
theorem ok_l_random_7821 {c_l_hash_d8d1 : DSp} {sp : DSp} (T : Txt K mg base) (D_l_hash_d8d1 : Def P w K mg base CX0 1 "_law_hash" s_l_hash_d8d1 ["_law_seed", "_law_index"] c_l_hash_d8d1) (hread : ∀ ds M Q, ds.length = 2 → sp ds M Q DX0 → t_l_random_7821 c_l_hash_d8d1 (dEnds M Q) (startD 4 ds) M) (hX : ∀ ds M Q E, sp ds M Q E → sp ds M Q DX0 := by exact fun _ _ _ _ h => h) : Def P w K mg base CX0 2 "_law_random" s_l_random_7821 ["_law_generator_here", "_law_bound"] sp :=
 T.h_l_random_7821.ok (t := t_l_random_7821 c_l_hash_d8d1) sc_l_random_7821 (fun f cdv A outer s H E hr gd => (dss_cons (ds_if (dt_cmp opd_gt (de_ix (dv 0) de_int) de_int (nomark _)) (dss_cons (ds_set (i := 2) sc_l_random_7821.nd (de_op opd_mod (de_ty cd_int T.n_int (da_cons (de_ix (dv 0) de_int) da_nil)) (dv 1)))
 (dss_cons (ds_asg (de_op opd_fdiv (de_ix (dv 0) de_int) (dv 1)) (dg_sub (dv 0) de_int))
 (dss_one (ds_ret (dv 2))))) dss_nil)
 (dss_cons (ds_set (i := 2) sc_l_random_7821.nd de_int)
 (dss_cons (ds_for rfl (di_range1 T.n_range (da_cons (de_op opd_add de_int (de_op opd_fdiv (de_bits (dv 1)) de_int)) da_nil)) (dg_name (i := 3) sc_l_random_7821.nd) (dss_cons (ds_asg (de_op opd_add (de_ix (dv 0) de_int) de_int) (dg_sub (dv 0) de_int))
 (dss_one (ds_set (i := 2) sc_l_random_7821.nd (de_op opd_add (de_op opd_mulI (dv 2) de_int) (dcall D_l_hash_d8d1 hr gd (da_cons (de_ix (dv 0) de_int) (da_cons (de_ix (dv 0) de_int) da_nil))))))))
 (dss_one (ds_ret (de_op opd_mod (de_ty cd_int T.n_int (da_cons (dv 2) da_nil)) (dv 1)))))))) hread hX
theorem ok_l_divisor_b609 {sp : DSp} (T : Txt K mg base) (hread : ∀ ds M Q, ds.length = 2 → sp ds M Q DX0 → t_l_divisor_b609 (dEnds M Q) (startD 4 ds) M) (hX : ∀ ds M Q E, sp ds M Q E → sp ds M Q DX0 := by exact fun _ _ _ _ h => h) : Def P w K mg base CX0 1 "_law_divisor" s_l_divisor_b609 ["_law_one", "_law_other"] sp :=
 T.h_l_divisor_b609.ok (t := t_l_divisor_b609) sc_l_divisor_b609 (fun f cdv A outer s H E hr gd => (dss_cons (ds_par (i := 2) (j := 3) rfl sc_l_divisor_b609.nd (da_cons (de_blt cd_abs T.n_abs (da_cons (dv 0) da_nil)) (da_cons (de_blt cd_abs T.n_abs (da_cons (dv 1) da_nil)) da_nil)))
 (dss_cons (ds_while (dt_cmp (opd_ne (u64 hr)) (dv 3) de_int (nomark _)) (dss_one (ds_par (i := 2) (j := 3) rfl sc_l_divisor_b609.nd (da_cons (dv 3) (da_cons (de_op opd_mod (de_ty cd_int T.n_int (da_cons (dv 2) da_nil)) (dv 3)) da_nil)))))
 (dss_one (ds_ret (dv 2)))))) hread hX
theorem ok_l_is_cutting_a37b {c_l_divisor_b609 : DSp} {sp : DSp} (T : Txt K mg base) (D_l_divisor_b609 : Def P w K mg base CX0 1 "_law_divisor" s_l_divisor_b609 ["_law_one", "_law_other"] c_l_divisor_b609) (hread : ∀ ds M Q, ds.length = 1 → sp ds M Q DX0 → t_l_is_cutting_a37b c_l_divisor_b609 (dEnds M Q) (startD 5 ds) M) (hX : ∀ ds M Q E, sp ds M Q E → sp ds M Q DX0 := by exact fun _ _ _ _ h => h) : Def P w K mg base CX0 2 "_law_is_cutting" s_l_is_cutting_a37b ["_law_cutting"] sp :=
 T.h_l_is_cutting_a37b.ok (t := t_l_is_cutting_a37b c_l_divisor_b609) sc_l_is_cutting_a37b (fun f cdv A outer s H E hr gd => (dss_cons (ds_asg (dv 0) (dg_tup rfl (dgs_cons (dg_name (i := 1) sc_l_is_cutting_a37b.nd) (dgs_cons (dg_name (i := 2) sc_l_is_cutting_a37b.nd) (dgs_cons (dg_name (i := 3) sc_l_is_cutting_a37b.nd) (dgs_cons (dg_name (i := 4) sc_l_is_cutting_a37b.nd) dgs_nil))))))
 (dss_cons (ds_if (DW.dt (dw_or (dt_cmp opd_lt (dv 2) de_int (nomark _)) (dw_or (dt_cmp opd_lt (dv 3) de_int (nomark _)) (dw_or (dt_cmp opd_ge (de_op opd_add (dv 3) (dv 4)) (dv 2) (nomark _)) (dw_or1 (dt_not (dt_chain opd_le opd_lt de_int (dv 1) (dcall D_l_divisor_b609 hr gd (da_cons (dv 2) (da_cons (dv 3) da_nil)))))))))) (dss_one (ds_ret de_bl)) dss_nil)
 (dss_one (ds_ret (de_cmp (opd_eq (u64 hr)) (dcall D_l_divisor_b609 hr gd (da_cons (dcall D_l_divisor_b609 hr gd (da_cons (dv 1) (da_cons (dv 2) da_nil))) (da_cons (dcall D_l_divisor_b609 hr gd (da_cons (dv 3) (da_cons (dv 4) da_nil))) da_nil))) de_int (nomark _))))))) hread hX
theorem ok_l_with_a07e {c_l_divisor_b609 c_l_is_cutting_a37b : DSp} {sp : DSp} (T : Txt K mg base) (D_l_divisor_b609 : Def P w K mg base CX0 1 "_law_divisor" s_l_divisor_b609 ["_law_one", "_law_other"] c_l_divisor_b609) (D_l_is_cutting_a37b : Def P w K mg base CX0 2 "_law_is_cutting" s_l_is_cutting_a37b ["_law_cutting"] c_l_is_cutting_a37b) (hread : ∀ ds M Q, ds.length = 2 → sp ds M Q DX0 → t_l_with_a07e c_l_divisor_b609 c_l_is_cutting_a37b (dEnds M Q) (startD 7 ds) M) (hX : ∀ ds M Q E, sp ds M Q E → sp ds M Q DX0 := by exact fun _ _ _ _ h => h) : Def P w K mg base CX0 3 "_law_with" s_l_with_a07e ["_law_measure", "_law_shift"] sp :=
 T.h_l_with_a07e.ok (t := t_l_with_a07e c_l_divisor_b609 c_l_is_cutting_a37b) sc_l_with_a07e (fun f cdv A outer s H E hr gd => (dss_cons (ds_par (i := 2) (j := 3) rfl sc_l_with_a07e.nd (da_cons (de_lst da_nil) (da_cons (de_op opd_fdiv (de_op opd_sub (dv 0) (de_op opd_mulI (dv 1) (dv 1))) de_int) da_nil)))
 (dss_cons (ds_for rfl (di_range2 T.n_range (da_cons de_int (da_cons (de_op opd_add (dv 3) de_int) da_nil))) (dg_name (i := 4) sc_l_with_a07e.nd) (dss_one (ds_if (dt_cmp (opd_eq (u64 hr)) (de_op opd_mod (de_ty cd_int T.n_int (da_cons (dv 3) da_nil)) (dv 4)) de_int (nomark _)) (dss_cons (ds_set (i := 5) sc_l_with_a07e.nd (de_op opd_fdiv (dv 3) (dv 4)))
 (dss_one (ds_set (i := 2) sc_l_with_a07e.nd (de_op opd_add (dv 2) (de_lc false (own := [("_law_a", 6)]) rfl sc_l_with_a07e.nd (blkOk_by (N := ["_law_measure", "_law_shift", "_law_found", "_law_whole", "_law_c", "_law_b", "_law_a"]) (own := [("_law_a", 6)]) (sc := (defScope s_l_with_a07e)) (by decide +kernel)) (di_range1 T.n_range (da_cons (dcall D_l_divisor_b609 hr gd (da_cons (dv 5) (da_cons (dv 4) da_nil))) da_nil)) (fun _ _ _ _ _ => (dcg_name (i := 6) sc_l_with_a07e.nd)) (fun _ _ _ _ _ => (dts_one (dt_tru (dcall D_l_is_cutting_a37b hr gd (da_cons (de_tup (da_cons (dv 6) (da_cons (dv 5) (da_cons (dv 4) (da_cons (dv 1) da_nil))))) da_nil))))) (fun _ _ _ _ _ => (de_tup (da_cons (dv 6) (da_cons (dv 5) (da_cons (dv 4) (da_cons (dv 1) da_nil))))))))))) dss_nil)))
 (dss_one (ds_ret (dv 2)))))) hread hX
theorem ok_l_cuttings_cac1 {c_l_with_a07e : DSp} {sp : DSp} (T : Txt K mg base) (D_l_with_a07e : Def P w K mg base CX0 3 "_law_with" s_l_with_a07e ["_law_measure", "_law_shift"] c_l_with_a07e) (hread : ∀ ds M Q, ds.length = 1 → sp ds M Q DX0 → t_l_cuttings_cac1 c_l_with_a07e (dEnds M Q) (startD 4 ds) M) (hX : ∀ ds M Q E, sp ds M Q E → sp ds M Q DX0 := by exact fun _ _ _ _ h => h) : Def P w K mg base CX0 4 "_law_cuttings" s_l_cuttings_cac1 ["_law_measure"] sp :=
 T.h_l_cuttings_cac1.ok (t := t_l_cuttings_cac1 c_l_with_a07e) sc_l_cuttings_cac1 (fun f cdv A outer s H E hr gd => (dss_cons (ds_par (i := 1) (j := 2) rfl sc_l_cuttings_cac1.nd (da_cons (de_lst da_nil) (da_cons de_int da_nil)))
 (dss_cons (ds_while (dt_cmp opd_lt (de_op opd_mulI (dv 2) (dv 2)) (dv 0) (nomark _)) (dss_cons (ds_for rfl (di_seq (de_if (dt_cmp opd_gt (dv 2) de_int (nomark _)) (de_lst (da_cons (dv 2) (da_cons (de_op opd_sub de_int (dv 2)) da_nil))) (de_lst (da_cons de_int da_nil)))) (dg_name (i := 3) sc_l_cuttings_cac1.nd) (dss_one (ds_if (dt_cmp (opd_eq (u64 hr)) (de_op opd_mod (de_ty cd_int T.n_int (da_cons (de_op opd_sub (dv 0) (dv 2)) da_nil)) de_int) de_int (nomark _)) (dss_one (ds_set (i := 1) sc_l_cuttings_cac1.nd (de_op opd_add (dv 1) (dcall D_l_with_a07e hr gd (da_cons (dv 0) (da_cons (dv 3) da_nil)))))) dss_nil)))
 (dss_one (ds_set (i := 2) sc_l_cuttings_cac1.nd (de_op opd_add (dv 2) de_int)))))
 (dss_one (ds_ret (de_blt (cd_sorted false) T.n_sorted (da_cons (dv 1) da_nil))))))) hread hX
theorem ok_l_small_f084 {c_l_random_7821 c_l_cuttings_cac1 : DSp} {sp : DSp} (T : Txt K mg base) (D_l_random_7821 : Def P w K mg base CX0 2 "_law_random" s_l_random_7821 ["_law_generator_here", "_law_bound"] c_l_random_7821) (D_l_cuttings_cac1 : Def P w K mg base CX0 4 "_law_cuttings" s_l_cuttings_cac1 ["_law_measure"] c_l_cuttings_cac1) (hread : ∀ ds M Q, ds.length = 1 → sp ds M Q DX0 → t_l_small_f084 c_l_random_7821 c_l_cuttings_cac1 (dEnds M Q) (startD 3 ds) M) (hX : ∀ ds M Q E, sp ds M Q E → sp ds M Q DX0 := by exact fun _ _ _ _ h => h) : Def P w K mg base CX0 5 "_law_small" s_l_small_f084 ["_law_generator_here"] sp :=
 T.h_l_small_f084.ok (t := t_l_small_f084 c_l_random_7821 c_l_cuttings_cac1) sc_l_small_f084 (fun f cdv A outer s H E hr gd => (dss_cons (ds_set (i := 1) sc_l_small_f084.nd (de_op opd_add de_int (dcall D_l_random_7821 hr gd (da_cons (dv 0) (da_cons de_int da_nil)))))
 (dss_cons (ds_set (i := 1) sc_l_small_f084.nd (de_op opd_add (de_op opd_sub (dv 1) (de_op opd_mod (de_ty cd_int T.n_int (da_cons (dv 1) da_nil)) de_int)) (dcall D_l_random_7821 hr gd (da_cons (dv 0) (da_cons de_int da_nil)))))
 (dss_cons (ds_set (i := 2) sc_l_small_f084.nd (dcall D_l_cuttings_cac1 hr gd (da_cons (de_blt (cd_max rfl) T.n_max (da_cons (dv 1) (da_cons de_int da_nil))) da_nil)))
 (dss_one (ds_ret (de_tup (da_cons (de_ix (dv 2) (dcall D_l_random_7821 hr gd (da_cons (dv 0) (da_cons (de_blt cd_len T.n_len (da_cons (dv 2) da_nil)) da_nil)))) (da_cons (dv 2) da_nil))))))))) hread hX
theorem ok_l_allowed_c76c {sp : DSp} (T : Txt K mg base) (hread : ∀ ds M Q, ds.length = 2 → sp ds M Q DX0 → t_l_allowed_c76c (dEnds M Q) (startD 6 ds) M) (hX : ∀ ds M Q E, sp ds M Q E → sp ds M Q DX0 := by exact fun _ _ _ _ h => h) : Def P w K mg base CX0 1 "_law_allowed" s_l_allowed_c76c ["_law_cutting", "_law_q"] sp :=
 T.h_l_allowed_c76c.ok (t := t_l_allowed_c76c) sc_l_allowed_c76c (fun f cdv A outer s H E hr gd => (dss_cons (ds_asg (dv 0) (dg_tup rfl (dgs_cons (dg_name (i := 2) sc_l_allowed_c76c.nd) (dgs_cons (dg_name (i := 3) sc_l_allowed_c76c.nd) (dgs_cons (dg_name (i := 4) sc_l_allowed_c76c.nd) (dgs_cons (dg_name (i := 5) sc_l_allowed_c76c.nd) dgs_nil))))))
 (dss_one (ds_ret (de_cmp opd_gt (de_op opd_sub (de_op opd_sub (dv 3) (de_op opd_mulI (dv 1) (dv 5))) (de_op opd_mulI (de_op opd_mulI (dv 1) (dv 1)) (dv 4))) de_int (nomark _)))))) hread hX
theorem ok_l_deeds_faf6 {c_l_divisor_b609 c_l_allowed_c76c : DSp} {sp : DSp} (T : Txt K mg base) (D_l_divisor_b609 : Def P w K mg base CX0 1 "_law_divisor" s_l_divisor_b609 ["_law_one", "_law_other"] c_l_divisor_b609) (D_l_allowed_c76c : Def P w K mg base CX0 1 "_law_allowed" s_l_allowed_c76c ["_law_cutting", "_law_q"] c_l_allowed_c76c) (hread : ∀ ds M Q, ds.length = 1 → sp ds M Q DX0 → t_l_deeds_faf6 c_l_divisor_b609 c_l_allowed_c76c (dEnds M Q) (startD 5 ds) M) (hX : ∀ ds M Q E, sp ds M Q E → sp ds M Q DX0 := by exact fun _ _ _ _ h => h) : Def P w K mg base CX0 2 "_law_deeds" s_l_deeds_faf6 ["_law_cutting"] sp :=
 T.h_l_deeds_faf6.ok (t := t_l_deeds_faf6 c_l_divisor_b609 c_l_allowed_c76c) sc_l_deeds_faf6 (fun f cdv A outer s H E hr gd => (dss_cons (ds_asg (de_tup (da_cons (de_lst da_nil) (da_cons de_int (da_cons (de_op opd_fdiv (de_ix (dv 0) de_int) (dcall D_l_divisor_b609 hr gd (da_cons (de_ix (dv 0) de_int) (da_cons (de_ix (dv 0) de_int) da_nil)))) da_nil)))) (dg_tup rfl (dgs_cons (dg_name (i := 1) sc_l_deeds_faf6.nd) (dgs_cons (dg_name (i := 2) sc_l_deeds_faf6.nd) (dgs_cons (dg_name (i := 3) sc_l_deeds_faf6.nd) dgs_nil)))))
 (dss_cons (ds_while (dt_tru (dcall D_l_allowed_c76c hr gd (da_cons (dv 0) (da_cons (dv 2) da_nil)))) (dss_cons (ds_set (i := 1) sc_l_deeds_faf6.nd (de_op opd_add (dv 1) (de_lc false (own := [("_law_p", 4)]) rfl sc_l_deeds_faf6.nd (blkOk_by (N := ["_law_cutting", "_law_found", "_law_q", "_law_lot", "_law_p"]) (own := [("_law_p", 4)]) (sc := (defScope s_l_deeds_faf6)) (by decide +kernel)) (di_range1 T.n_range (da_cons (de_op opd_mulI (dv 2) (dv 3)) da_nil)) (fun _ _ _ _ _ => (dcg_name (i := 4) sc_l_deeds_faf6.nd)) (fun _ _ _ _ _ => (dts_one (dt_cmp (opd_eq (u64 hr)) (dcall D_l_divisor_b609 hr gd (da_cons (dv 4) (da_cons (dv 2) da_nil))) de_int (nomark _)))) (fun _ _ _ _ _ => (de_tup (da_cons (dv 4) (da_cons (dv 2) da_nil)))))))
 (dss_one (ds_set (i := 2) sc_l_deeds_faf6.nd (de_op opd_add (dv 2) de_int)))))
 (dss_one (ds_ret (de_blt (cd_sorted false) T.n_sorted (da_cons (dv 1) da_nil))))))) hread hX
theorem ok_is_whole {sp : DSp} (T : Txt K mg base) (hread : ∀ ds M Q, ds.length = 1 → sp ds M Q DX0 → t_is_whole (dEnds M Q) (startD 1 ds) M) (hX : ∀ ds M Q E, sp ds M Q E → sp ds M Q DX0 := by exact fun _ _ _ _ h => h) : Def P w K mg base CX0 1 "is_whole" s_is_whole ["value"] sp :=
 T.h_is_whole.ok (t := t_is_whole) sc_is_whole (fun f cdv A outer s H E hr gd => (dss_one (ds_ret (de_and (de_blt cd_isi T.n_isinstance (da_cons (dv 0) (da_cons (de_bltn (v := .ty "int") T.n_int rfl) da_nil))) (de_one (de_not (de_blt cd_isi T.n_isinstance (da_cons (dv 0) (da_cons (de_bltn (v := .ty "bool") T.n_bool rfl) da_nil))))))))) hread hX
theorem ok_common_by {sp : DSp} (T : Txt K mg base) (hread : ∀ ds M Q, ds.length = 2 → sp ds M Q DX0 → t_common_by (dEnds M Q) (startD 4 ds) M) (hX : ∀ ds M Q E, sp ds M Q E → sp ds M Q DX0 := by exact fun _ _ _ _ h => h) : Def P w K mg base CX0 1 "common_by" s_common_by ["one", "other"] sp :=
 T.h_common_by.ok (t := t_common_by) sc_common_by (fun f cdv A outer s H E hr gd => (dss_cons (ds_par (i := 2) (j := 3) rfl sc_common_by.nd (da_cons (de_blt cd_abs T.n_abs (da_cons (dv 0) da_nil)) (da_cons (de_blt cd_abs T.n_abs (da_cons (dv 1) da_nil)) da_nil)))
 (dss_cons (ds_while (dt_cmp (opd_ne (u64 hr)) (dv 3) de_int (nomark _)) (dss_one (ds_par (i := 2) (j := 3) rfl sc_common_by.nd (da_cons (dv 3) (da_cons (de_op opd_mod (dv 2) (dv 3)) da_nil)))))
 (dss_one (ds_ret (dv 2)))))) hread hX
theorem ok_is_cutting_by {c_is_whole c_common_by : DSp} {sp : DSp} (T : Txt K mg base) (D_is_whole : Def P w K mg base CX0 1 "is_whole" s_is_whole ["value"] c_is_whole) (D_common_by : Def P w K mg base CX0 1 "common_by" s_common_by ["one", "other"] c_common_by) (hread : ∀ ds M Q, ds.length = 1 → sp ds M Q DX0 → t_is_cutting_by c_is_whole c_common_by (dEnds M Q) (startD 7 ds) M) (hX : ∀ ds M Q E, sp ds M Q E → sp ds M Q DX0 := by exact fun _ _ _ _ h => h) : Def P w K mg base CX0 2 "is_cutting_by" s_is_cutting_by ["value"] sp :=
 T.h_is_cutting_by.ok (t := t_is_cutting_by c_is_whole c_common_by) sc_is_cutting_by (fun f cdv A outer s H E hr gd => (dss_cons (ds_if (DW.dt (dw_or (dt_not (dt_tru (de_blt cd_isi T.n_isinstance (da_cons (dv 0) (da_cons (de_bltn (v := .ty "tuple") T.n_tuple rfl) da_nil))))) (dw_or (dt_cmp (opd_ne (u64 hr)) (de_blt cd_len T.n_len (da_cons (dv 0) da_nil)) de_int (nomark _)) (dw_or1 (dt_cmp (opd_ne (u64 hr)) (de_lc false (own := [("item", 1)]) rfl sc_is_cutting_by.nd (blkOk_by (N := ["value", "item", "low", "high", "side", "turn", "both"]) (own := [("item", 1)]) (sc := (defScope s_is_cutting_by)) (by decide +kernel)) (di_seq (dv 0)) (fun _ _ _ _ _ => (dcg_name (i := 1) sc_is_cutting_by.nd)) (fun _ _ _ _ _ => (dts_one (dt_not (dt_tru (dcall D_is_whole hr gd (da_cons (dv 1) da_nil)))))) (fun _ _ _ _ _ => (dv 1))) (de_lst da_nil) (nomark _)))))) (dss_one (ds_ret de_bl)) dss_nil)
 (dss_cons (ds_asg (dv 0) (dg_tup rfl (dgs_cons (dg_name (i := 2) sc_is_cutting_by.nd) (dgs_cons (dg_name (i := 3) sc_is_cutting_by.nd) (dgs_cons (dg_name (i := 4) sc_is_cutting_by.nd) (dgs_cons (dg_name (i := 5) sc_is_cutting_by.nd) dgs_nil))))))
 (dss_cons (ds_if (DW.dt (dw_or (dt_cmp opd_lt (dv 3) de_int (nomark _)) (dw_or (dt_cmp opd_lt (dv 4) de_int (nomark _)) (dw_or1 (dt_not (dt_cmp opd_lt (de_op opd_add (dv 4) (dv 5)) (dv 3) (nomark _))))))) (dss_one (ds_ret de_bl)) dss_nil)
 (dss_cons (ds_set (i := 6) sc_is_cutting_by.nd (dcall D_common_by hr gd (da_cons (dv 3) (da_cons (dv 4) da_nil))))
 (dss_one (ds_ret (de_and (de_chain opd_le opd_lt de_int (dv 2) (dv 6)) (de_one (de_cmp (opd_eq (u64 hr)) (dcall D_common_by hr gd (da_cons (dcall D_common_by hr gd (da_cons (dv 2) (da_cons (dv 6) da_nil))) (da_cons (dv 5) da_nil))) de_int (nomark _))))))))))) hread hX
theorem ok_check_cutting {c_is_cutting_by : DSp} {sp : DSp} (T : Txt K mg base) (D_is_cutting_by : Def P w K mg base CX0 2 "is_cutting_by" s_is_cutting_by ["value"] c_is_cutting_by) (hread : ∀ ds M Q, ds.length = 1 → sp ds M Q DX0 → t_check_cutting c_is_cutting_by (dEnds M Q) (startD 1 ds) M) (hX : ∀ ds M Q E, sp ds M Q E → sp ds M Q DX0 := by exact fun _ _ _ _ h => h) : Def P w K mg base CX0 3 "check_cutting" s_check_cutting ["cutting"] sp :=
 T.h_check_cutting.ok (t := t_check_cutting c_is_cutting_by) sc_check_cutting (fun f cdv A outer s H E hr gd => (dss_one (ds_if (dt_not (dt_tru (dcall D_is_cutting_by hr gd (da_cons (dv 0) da_nil)))) (dss_one ds_never) dss_nil))) hread hX
theorem ok_allowed_by {sp : DSp} (T : Txt K mg base) (hread : ∀ ds M Q, ds.length = 2 → sp ds M Q DX0 → t_allowed_by (dEnds M Q) (startD 6 ds) M) (hX : ∀ ds M Q E, sp ds M Q E → sp ds M Q DX0 := by exact fun _ _ _ _ h => h) : Def P w K mg base CX0 1 "allowed_by" s_allowed_by ["cutting", "far"] sp :=
 T.h_allowed_by.ok (t := t_allowed_by) sc_allowed_by (fun f cdv A outer s H E hr gd => (dss_cons (ds_asg (dv 0) (dg_tup rfl (dgs_cons (dg_name (i := 2) sc_allowed_by.nd) (dgs_cons (dg_name (i := 3) sc_allowed_by.nd) (dgs_cons (dg_name (i := 4) sc_allowed_by.nd) (dgs_cons (dg_name (i := 5) sc_allowed_by.nd) dgs_nil))))))
 (dss_one (ds_ret (de_cmp opd_gt (de_op opd_sub (de_op opd_sub (dv 3) (de_op opd_mulI (dv 1) (dv 5))) (de_op opd_mulI (de_op opd_mulI (dv 1) (dv 1)) (dv 4))) de_int (nomark _)))))) hread hX
theorem ok_free_count {sp : DSp} (T : Txt K mg base) (hread : ∀ ds M Q, ds.length = 1 → sp ds M Q DX0 → t_free_count (dEnds M Q) (startD 4 ds) M) (hX : ∀ ds M Q E, sp ds M Q E → sp ds M Q DX0 := by exact fun _ _ _ _ h => h) : Def P w K mg base CX0 1 "free_count" s_free_count ["number"] sp :=
 T.h_free_count.ok (t := t_free_count) sc_free_count (fun f cdv A outer s H E hr gd => (dss_cons (ds_par3 (i := 1) (j := 2) (l := 3) rfl sc_free_count.nd (da_cons (dv 0) (da_cons (dv 0) (da_cons de_int da_nil))))
 (dss_cons (ds_while (dt_cmp opd_le (de_op opd_mulI (dv 3) (dv 3)) (dv 2) (nomark _)) (dss_cons (ds_if (dt_cmp (opd_eq (u64 hr)) (de_op opd_mod (dv 2) (dv 3)) de_int (nomark _)) (dss_cons (ds_set (i := 1) sc_free_count.nd (de_op opd_mulI (de_op opd_fdiv (dv 1) (dv 3)) (de_op opd_sub (dv 3) de_int)))
 (dss_one (ds_while (dt_cmp (opd_eq (u64 hr)) (de_op opd_mod (dv 2) (dv 3)) de_int (nomark _)) (dss_one (ds_set (i := 2) sc_free_count.nd (de_op opd_fdiv (dv 2) (dv 3))))))) dss_nil)
 (dss_one (ds_set (i := 3) sc_free_count.nd (de_op opd_add (dv 3) de_int)))))
 (dss_one (ds_ret (de_if (dt_cmp opd_gt (dv 2) de_int (nomark _)) (de_op opd_mulI (de_op opd_fdiv (dv 1) (dv 2)) (de_op opd_sub (dv 2) de_int)) (dv 1))))))) hread hX
theorem ok_round_of {sp : DSp} (T : Txt K mg base) (hread : ∀ ds M Q, ds.length = 1 → sp ds M Q DX0 → t_round_of (dEnds M Q) (startD 1 ds) M) (hX : ∀ ds M Q E, sp ds M Q E → sp ds M Q DX0 := by exact fun _ _ _ _ h => h) : Def P w K mg base CX0 1 "round_of" s_round_of ["cutting"] sp :=
 T.h_round_of.ok (t := t_round_of) sc_round_of (fun f cdv A outer s H E hr gd => (dss_one (ds_ret (de_op opd_fdiv (de_ix (dv 0) de_int) (de_bfun cd_gcd T.g_gcd (da_cons (de_ix (dv 0) de_int) (da_cons (de_ix (dv 0) de_int) da_nil))))))) hread hX
theorem ok_count_deeds {c_allowed_by c_free_count c_round_of : DSp} {sp : DSp} (T : Txt K mg base) (D_allowed_by : Def P w K mg base CX0 1 "allowed_by" s_allowed_by ["cutting", "far"] c_allowed_by) (D_free_count : Def P w K mg base CX0 1 "free_count" s_free_count ["number"] c_free_count) (D_round_of : Def P w K mg base CX0 1 "round_of" s_round_of ["cutting"] c_round_of) (hread : ∀ ds M Q, ds.length = 1 → sp ds M Q DX0 → t_count_deeds c_allowed_by c_free_count c_round_of (dEnds M Q) (startD 3 ds) M) (hX : ∀ ds M Q E, sp ds M Q E → sp ds M Q DX0 := by exact fun _ _ _ _ h => h) : Def P w K mg base CX0 2 "count_deeds" s_count_deeds ["cutting"] sp :=
 T.h_count_deeds.ok (t := t_count_deeds c_allowed_by c_free_count c_round_of) sc_count_deeds (fun f cdv A outer s H E hr gd => (dss_cons (ds_asg (de_tup (da_cons de_int (da_cons de_int da_nil))) (dg_tup rfl (dgs_cons (dg_name (i := 1) sc_count_deeds.nd) (dgs_cons (dg_name (i := 2) sc_count_deeds.nd) dgs_nil))))
 (dss_cons (ds_while (dt_tru (dcall D_allowed_by hr gd (da_cons (dv 0) (da_cons (dv 2) da_nil)))) (dss_one (ds_par (i := 1) (j := 2) rfl sc_count_deeds.nd (da_cons (de_op opd_add (dv 1) (dcall D_free_count hr gd (da_cons (dv 2) da_nil))) (da_cons (de_op opd_add (dv 2) de_int) da_nil)))))
 (dss_one (ds_ret (de_op opd_mulI (dv 1) (dcall D_round_of hr gd (da_cons (dv 0) da_nil)))))))) hread hX
theorem ok_check_few {c_count_deeds : DSp} {sp : DSp} (T : Txt K mg base) (D_count_deeds : Def P w K mg base CX0 2 "count_deeds" s_count_deeds ["cutting"] c_count_deeds) (hread : ∀ ds M Q, ds.length = 1 → sp ds M Q DX0 → t_check_few c_count_deeds (dEnds M Q) (startD 2 ds) M) (hX : ∀ ds M Q E, sp ds M Q E → sp ds M Q DX0 := by exact fun _ _ _ _ h => h) : Def P w K mg base CX0 3 "check_few" s_check_few ["cutting"] sp :=
 T.h_check_few.ok (t := t_check_few c_count_deeds) sc_check_few (fun f cdv A outer s H E hr gd => (dss_cons (ds_set (i := 1) sc_check_few.nd (dcall D_count_deeds hr gd (da_cons (dv 0) da_nil)))
 (dss_one (ds_if (dt_cmp opd_gt (dv 1) (let ⟨_, h⟩ := T.c_MOST_LISTED; de_globI rfl h) (nomark _)) (dss_one ds_never) dss_nil)))) hread hX
theorem ok_deeds_by_o {c_allowed_by c_round_of : DSp} {sp : DSp} (T : Txt K mg base) (D_allowed_by : Def P w K mg base CX0 1 "allowed_by" s_allowed_by ["cutting", "far"] c_allowed_by) (D_round_of : Def P w K mg base CX0 1 "round_of" s_round_of ["cutting"] c_round_of) (hread : ∀ ds M Q, ds.length = 1 → sp ds M Q DX0 → t_deeds_by_o c_allowed_by c_round_of (dEnds M Q) (startD 4 ds) M) (hX : ∀ ds M Q E, sp ds M Q E → sp ds M Q DX0 := by exact fun _ _ _ _ h => h) : Def P w K mg base CX0 2 "deeds_by" s_deeds_by_o ["cutting"] sp :=
 T.h_deeds_by_o.ok (t := t_deeds_by_o c_allowed_by c_round_of) sc_deeds_by_o (fun f cdv A outer s H E hr gd => (dss_cons (ds_asg (de_tup (da_cons (de_lst da_nil) (da_cons de_int da_nil))) (dg_tup rfl (dgs_cons (dg_name (i := 1) sc_deeds_by_o.nd) (dgs_cons (dg_name (i := 2) sc_deeds_by_o.nd) dgs_nil))))
 (dss_cons (ds_while (dt_tru (dcall D_allowed_by hr gd (da_cons (dv 0) (da_cons (dv 2) da_nil)))) (dss_cons (ds_set (i := 1) sc_deeds_by_o.nd (de_op opd_add (dv 1) (de_lc false (own := [("near", 3)]) rfl sc_deeds_by_o.nd (blkOk_by (N := ["cutting", "found", "far", "near"]) (own := [("near", 3)]) (sc := (defScope s_deeds_by_o)) (by decide +kernel)) (di_range1 T.n_range (da_cons (de_op opd_mulI (dv 2) (dcall D_round_of hr gd (da_cons (dv 0) da_nil))) da_nil)) (fun _ _ _ _ _ => (dcg_name (i := 3) sc_deeds_by_o.nd)) (fun _ _ _ _ _ => (dts_one (dt_cmp (opd_eq (u64 hr)) (de_bfun cd_gcd T.g_gcd (da_cons (dv 3) (da_cons (dv 2) da_nil))) de_int (nomark _)))) (fun _ _ _ _ _ => (de_tup (da_cons (dv 3) (da_cons (dv 2) da_nil)))))))
 (dss_one (ds_set (i := 2) sc_deeds_by_o.nd (de_op opd_add (dv 2) de_int)))))
 (dss_one (ds_ret (de_blt (cd_sorted true) T.n_sorted (da_cons (dv 1) da_nil))))))) hread hX
theorem ok_deeds_o {c_check_cutting c_check_few c_deeds_by_o : DSp} {sp : DSp} (T : Txt K mg base) (D_check_cutting : Def P w K mg base CX0 3 "check_cutting" s_check_cutting ["cutting"] c_check_cutting) (D_check_few : Def P w K mg base CX0 3 "check_few" s_check_few ["cutting"] c_check_few) (D_deeds_by_o : Def P w K mg base CX0 2 "deeds_by" s_deeds_by_o ["cutting"] c_deeds_by_o) (hread : ∀ ds M Q, ds.length = 1 → sp ds M Q DX0 → t_deeds_o c_check_cutting c_check_few c_deeds_by_o (dEnds M Q) (startD 1 ds) M) (hX : ∀ ds M Q E, sp ds M Q E → sp ds M Q DX0 := by exact fun _ _ _ _ h => h) : Def P w K mg base CX0 4 "deeds" s_deeds_o ["cutting"] sp :=
 T.h_deeds_o.ok (t := t_deeds_o c_check_cutting c_check_few c_deeds_by_o) sc_deeds_o (fun f cdv A outer s H E hr gd => (dss_cons (ds_expr (dcall D_check_cutting hr gd (da_cons (dv 0) da_nil)))
 (dss_cons (ds_expr (dcall D_check_few hr gd (da_cons (dv 0) da_nil)))
 (dss_one (ds_ret (dcall D_deeds_by_o hr gd (da_cons (dv 0) da_nil))))))) hread hX
theorem ok_how_many_deeds {c_check_cutting c_count_deeds : DSp} {sp : DSp} (T : Txt K mg base) (D_check_cutting : Def P w K mg base CX0 3 "check_cutting" s_check_cutting ["cutting"] c_check_cutting) (D_count_deeds : Def P w K mg base CX0 2 "count_deeds" s_count_deeds ["cutting"] c_count_deeds) (hread : ∀ ds M Q, ds.length = 1 → sp ds M Q DX0 → t_how_many_deeds c_check_cutting c_count_deeds (dEnds M Q) (startD 1 ds) M) (hX : ∀ ds M Q E, sp ds M Q E → sp ds M Q DX0 := by exact fun _ _ _ _ h => h) : Def P w K mg base CX0 4 "how_many_deeds" s_how_many_deeds ["cutting"] sp :=
 T.h_how_many_deeds.ok (t := t_how_many_deeds c_check_cutting c_count_deeds) sc_how_many_deeds (fun f cdv A outer s H E hr gd => (dss_cons (ds_expr (dcall D_check_cutting hr gd (da_cons (dv 0) da_nil)))
 (dss_one (ds_ret (dcall D_count_deeds hr gd (da_cons (dv 0) da_nil)))))) hread hX
theorem ok_l_listed_right_e3bd {c_l_deeds_faf6 c_deeds_o c_how_many_deeds : DSp} {sp : DSp} (T : Txt K mg base) (D_l_deeds_faf6 : Def P w K mg base CX0 2 "_law_deeds" s_l_deeds_faf6 ["_law_cutting"] c_l_deeds_faf6) (D_deeds_o : Def P w K mg base CX0 4 "deeds" s_deeds_o ["cutting"] c_deeds_o) (D_how_many_deeds : Def P w K mg base CX0 4 "how_many_deeds" s_how_many_deeds ["cutting"] c_how_many_deeds) (hread : ∀ ds M Q, ds.length = 1 → sp ds M Q DX0 → t_l_listed_right_e3bd c_l_deeds_faf6 c_deeds_o c_how_many_deeds (dEnds M Q) (startD 3 ds) M) (hX : ∀ ds M Q E, sp ds M Q E → sp ds M Q DX0 := by exact fun _ _ _ _ h => h) : Def P w K mg base CX0 5 "_law_listed_right" s_l_listed_right_e3bd ["_law_cutting"] sp :=
 T.h_l_listed_right_e3bd.ok (t := t_l_listed_right_e3bd c_l_deeds_faf6 c_deeds_o c_how_many_deeds) sc_l_listed_right_e3bd (fun f cdv A outer s H E hr gd => (dss_cons (ds_set (i := 1) sc_l_listed_right_e3bd.nd (dcall D_l_deeds_faf6 hr gd (da_cons (dv 0) da_nil)))
 (dss_cons (ds_set (i := 2) sc_l_listed_right_e3bd.nd (dcall D_deeds_o hr gd (da_cons (dv 0) da_nil)))
 (dss_cons (ds_if (DW.dt (dw_or (dt_cmp (opd_ne (u64 hr)) (de_blt (cd_repr gd (ux hr)) T.n_repr (da_cons (dv 2) da_nil)) (de_blt (cd_repr gd (ux hr)) T.n_repr (da_cons (dv 1) da_nil)) (nomark _)) (dw_or (dt_cmp (opd_ne (u64 hr)) (de_blt (cd_repr gd (ux hr)) T.n_repr (da_cons (dcall D_how_many_deeds hr gd (da_cons (dv 0) da_nil)) da_nil)) (de_blt (cd_repr gd (ux hr)) T.n_repr (da_cons (de_blt cd_len T.n_len (da_cons (dv 1) da_nil)) da_nil)) (nomark _)) (dw_or (dt_cmp (opd_ne (u64 hr)) (dcallK [0] D_deeds_o hr gd (dk_cons (dv 0) dk_nil) (ks := ["cutting"]) rfl (fun _ _ _ _ _ _ us hl => match us, hl with | [_], _ => rfl)) (dv 1) (nomark _)) (dw_or1 (dt_cmp (opd_notin (u65 hr)) (de_tup (da_cons de_int (da_cons de_int da_nil))) (dv 2) (by rfl))))))) (dss_one (ds_ret de_bl)) dss_nil)
 (dss_cons (ds_if (dt_cmp (opd_ne (u64 hr)) (dcallK [0] D_how_many_deeds hr gd (dk_cons (dv 0) dk_nil) (ks := ["cutting"]) rfl (fun _ _ _ _ _ _ us hl => match us, hl with | [_], _ => rfl)) (de_blt cd_len T.n_len (da_cons (dv 1) da_nil)) (nomark _)) (dss_one (ds_ret de_bl)) dss_nil)
 (dss_cons (ds_expr (de_append (dv 2) (da_cons de_non da_nil)))
 (dss_one (ds_ret (de_cmp (opd_eq (u64 hr)) (dcall D_deeds_o hr gd (da_cons (dv 0) da_nil)) (dv 1) (nomark _)))))))))) hread hX
theorem ok_is_deed_by {c_allowed_by c_round_of : DSp} {sp : DSp} (T : Txt K mg base) (D_allowed_by : Def P w K mg base CX0 1 "allowed_by" s_allowed_by ["cutting", "far"] c_allowed_by) (D_round_of : Def P w K mg base CX0 1 "round_of" s_round_of ["cutting"] c_round_of) (hread : ∀ ds M Q, ds.length = 2 → sp ds M Q DX0 → t_is_deed_by c_allowed_by c_round_of (dEnds M Q) (startD 5 ds) M) (hX : ∀ ds M Q E, sp ds M Q E → sp ds M Q DX0 := by exact fun _ _ _ _ h => h) : Def P w K mg base CX0 2 "is_deed_by" s_is_deed_by ["cutting", "value"] sp :=
 T.h_is_deed_by.ok (t := t_is_deed_by c_allowed_by c_round_of) sc_is_deed_by (fun f cdv A outer s H E hr gd => (dss_cons (ds_if (DW.dt (dw_or (dt_not (dt_tru (de_blt cd_isi T.n_isinstance (da_cons (dv 1) (da_cons (de_bltn (v := .ty "tuple") T.n_tuple rfl) da_nil))))) (dw_or1 (dt_cmp (opd_ne (u64 hr)) (de_blt cd_len T.n_len (da_cons (dv 1) da_nil)) de_int (nomark _))))) (dss_one (ds_ret de_bl)) dss_nil)
 (dss_cons (ds_if (dt_cmp (opd_ne (u64 hr)) (de_lc false (own := [("part", 2)]) rfl sc_is_deed_by.nd (blkOk_by (N := ["cutting", "value", "part", "near", "far"]) (own := [("part", 2)]) (sc := (defScope s_is_deed_by)) (by decide +kernel)) (di_seq (dv 1)) (fun _ _ _ _ _ => (dcg_name (i := 2) sc_is_deed_by.nd)) (fun _ _ _ _ _ => (dts_one (DW.dt (dw_or (dt_not (dt_tru (de_blt cd_isi T.n_isinstance (da_cons (dv 2) (da_cons (de_bltn (v := .ty "int") T.n_int rfl) da_nil))))) (dw_or1 (dt_tru (de_blt cd_isi T.n_isinstance (da_cons (dv 2) (da_cons (de_bltn (v := .ty "bool") T.n_bool rfl) da_nil))))))))) (fun _ _ _ _ _ => (dv 2))) (de_lst da_nil) (nomark _)) (dss_one (ds_ret de_bl)) dss_nil)
 (dss_cons (ds_asg (dv 1) (dg_tup rfl (dgs_cons (dg_name (i := 3) sc_is_deed_by.nd) (dgs_cons (dg_name (i := 4) sc_is_deed_by.nd) dgs_nil))))
 (dss_cons (ds_if (DW.dt (dw_or (dt_cmp opd_lt (dv 4) de_int (nomark _)) (dw_or (dt_not (dt_tru (dcall D_allowed_by hr gd (da_cons (dv 0) (da_cons (dv 4) da_nil))))) (dw_or1 (dt_not (dt_chain opd_le opd_lt de_int (dv 3) (de_op opd_mulI (dv 4) (dcall D_round_of hr gd (da_cons (dv 0) da_nil))))))))) (dss_one (ds_ret de_bl)) dss_nil)
 (dss_one (ds_ret (de_cmp (opd_eq (u64 hr)) (de_bfun cd_gcd T.g_gcd (da_cons (dv 3) (da_cons (dv 4) da_nil))) de_int (nomark _))))))))) hread hX
theorem ok_is_deed {c_check_cutting c_is_deed_by : DSp} {sp : DSp} (T : Txt K mg base) (D_check_cutting : Def P w K mg base CX0 3 "check_cutting" s_check_cutting ["cutting"] c_check_cutting) (D_is_deed_by : Def P w K mg base CX0 2 "is_deed_by" s_is_deed_by ["cutting", "value"] c_is_deed_by) (hread : ∀ ds M Q, ds.length = 2 → sp ds M Q DX0 → t_is_deed c_check_cutting c_is_deed_by (dEnds M Q) (startD 2 ds) M) (hX : ∀ ds M Q E, sp ds M Q E → sp ds M Q DX0 := by exact fun _ _ _ _ h => h) : Def P w K mg base CX0 4 "is_deed" s_is_deed ["cutting", "value"] sp :=
 T.h_is_deed.ok (t := t_is_deed c_check_cutting c_is_deed_by) sc_is_deed (fun f cdv A outer s H E hr gd => (dss_cons (ds_expr (dcall D_check_cutting hr gd (da_cons (dv 0) da_nil)))
 (dss_one (ds_ret (dcall D_is_deed_by hr gd (da_cons (dv 0) (da_cons (dv 1) da_nil))))))) hread hX
theorem ok_l_judged_right_ab6f {c_l_deeds_faf6 c_l_divisor_b609 c_is_deed : DSp} {sp : DSp} (T : Txt K mg base) (D_l_deeds_faf6 : Def P w K mg base CX0 2 "_law_deeds" s_l_deeds_faf6 ["_law_cutting"] c_l_deeds_faf6) (D_l_divisor_b609 : Def P w K mg base CX0 1 "_law_divisor" s_l_divisor_b609 ["_law_one", "_law_other"] c_l_divisor_b609) (D_is_deed : Def P w K mg base CX0 4 "is_deed" s_is_deed ["cutting", "value"] c_is_deed) (hread : ∀ ds M Q, ds.length = 1 → sp ds M Q DX0 → t_l_judged_right_ab6f c_l_deeds_faf6 c_l_divisor_b609 c_is_deed (dEnds M Q) (startD 9 ds) M) (hX : ∀ ds M Q E, sp ds M Q E → sp ds M Q DX0 := by exact fun _ _ _ _ h => h) : Def P w K mg base CX0 5 "_law_judged_right" s_l_judged_right_ab6f ["_law_cutting"] sp :=
 T.h_l_judged_right_ab6f.ok (t := t_l_judged_right_ab6f c_l_deeds_faf6 c_l_divisor_b609 c_is_deed) sc_l_judged_right_ab6f (fun f cdv A outer s H E hr gd => (dss_cons (ds_par (i := 1) (j := 2) rfl sc_l_judged_right_ab6f.nd (da_cons (dcall D_l_deeds_faf6 hr gd (da_cons (dv 0) da_nil)) (da_cons (de_op opd_add (de_blt (cd_maxL rfl) T.n_max (da_cons (de_lc false (own := [("_law_deed", 3)]) rfl sc_l_judged_right_ab6f.nd (blkOk_by (N := ["_law_cutting", "_law_due", "_law_far", "_law_deed", "_law_lot", "_law_q", "_law_p", "_law_odd", "_law_value"]) (own := [("_law_deed", 3)]) (sc := (defScope s_l_judged_right_ab6f)) (by decide +kernel)) (di_seq (dcall D_l_deeds_faf6 hr gd (da_cons (dv 0) da_nil))) (fun _ _ _ _ _ => (dcg_name (i := 3) sc_l_judged_right_ab6f.nd)) (fun _ _ _ _ _ => dts_nil) (fun _ _ _ _ _ => (de_ix (dv 3) de_int))) da_nil)) de_int) da_nil)))
 (dss_cons (ds_set (i := 4) sc_l_judged_right_ab6f.nd (de_op opd_fdiv (de_ix (dv 0) de_int) (dcall D_l_divisor_b609 hr gd (da_cons (de_ix (dv 0) de_int) (da_cons (de_ix (dv 0) de_int) da_nil)))))
 (dss_cons (ds_for rfl (di_seq (de_lst (da_cons (de_op opd_sub de_int de_int) (da_cons de_int (da_cons de_int (da_cons de_int (da_cons de_int (da_cons (de_op opd_fdiv (dv 2) de_int) (da_cons (de_op opd_sub (dv 2) de_int) (da_cons (de_op opd_sub (dv 2) de_int) (da_cons (dv 2) da_nil))))))))))) (dg_name (i := 5) sc_l_judged_right_ab6f.nd) (dss_one (ds_for rfl (di_seq (de_lst (da_cons (de_op opd_sub de_int de_int) (da_cons de_int (da_cons de_int (da_cons de_int (da_cons de_int (da_cons (dv 5) (da_cons (de_op opd_sub (de_op opd_mulI (dv 5) (dv 4)) de_int) (da_cons (de_op opd_mulI (dv 5) (dv 4)) (da_cons (de_op opd_add (de_op opd_mulI (dv 5) (dv 4)) de_int) da_nil))))))))))) (dg_name (i := 6) sc_l_judged_right_ab6f.nd) (dss_one (ds_if (DW.dt (dw_or (dt_cmp (opd_ne (u64 hr)) (de_blt (cd_repr gd (ux hr)) T.n_repr (da_cons (dcall D_is_deed hr gd (da_cons (dv 0) (da_cons (de_tup (da_cons (dv 6) (da_cons (dv 5) da_nil))) da_nil))) da_nil)) (de_blt (cd_repr gd (ux hr)) T.n_repr (da_cons (de_cmp (opd_in (u65 hr)) (de_tup (da_cons (dv 6) (da_cons (dv 5) da_nil))) (dv 1) (by rfl)) da_nil)) (nomark _)) (dw_or1 (dt_cmp (opd_ne (u64 hr)) (dcallK [1, 0] D_is_deed hr gd (dk_cons (de_tup (da_cons (dv 6) (da_cons (dv 5) da_nil))) (dk_cons (dv 0) dk_nil)) (ks := ["value", "cutting"]) rfl (fun _ _ _ _ _ _ us hl => match us, hl with | [_, _], _ => rfl)) (de_cmp (opd_in (u65 hr)) (de_tup (da_cons (dv 6) (da_cons (dv 5) da_nil))) (dv 1) (by rfl)) (nomark _))))) (dss_one (ds_ret de_bl)) dss_nil)))))
 (dss_cons (ds_set (i := 7) sc_l_judged_right_ab6f.nd (de_lst (da_cons de_non (da_cons de_int (da_cons de_str (da_cons (de_tup da_nil) (da_cons (de_tup (da_cons de_int da_nil)) (da_cons (de_lst (da_cons de_int (da_cons de_int da_nil))) (da_cons (de_tup (da_cons de_int (da_cons de_int (da_cons de_int da_nil)))) (da_cons (de_tup (da_cons de_non (da_cons de_int da_nil))) (da_cons (de_tup (da_cons de_int (da_cons de_non da_nil))) (da_cons (de_tup (da_cons de_str (da_cons de_int da_nil))) (da_cons (de_tup (da_cons de_bl (da_cons de_int da_nil))) (da_cons (de_tup (da_cons de_int (da_cons de_bl da_nil))) (da_cons (de_tup (da_cons (de_tup (da_cons de_int da_nil)) (da_cons de_int da_nil))) (da_cons de_dct0 (da_cons (de_tup (da_cons (de_op opd_pow de_int de_int) (da_cons de_int da_nil))) (da_cons (de_tup (da_cons de_int (da_cons (de_op opd_pow de_int de_int) da_nil))) da_nil))))))))))))))))))
 (dss_one (ds_ret (de_cmp (opd_eq (u64 hr)) (de_lc false (own := [("_law_value", 8)]) rfl sc_l_judged_right_ab6f.nd (blkOk_by (N := ["_law_cutting", "_law_due", "_law_far", "_law_deed", "_law_lot", "_law_q", "_law_p", "_law_odd", "_law_value"]) (own := [("_law_value", 8)]) (sc := (defScope s_l_judged_right_ab6f)) (by decide +kernel)) (di_seq (dv 7)) (fun _ _ _ _ _ => (dcg_name (i := 8) sc_l_judged_right_ab6f.nd)) (fun _ _ _ _ _ => (dts_one (dt_cmp opd_isnot (dcall D_is_deed hr gd (da_cons (dv 0) (da_cons (dv 8) da_nil))) de_bl (nomark _)))) (fun _ _ _ _ _ => (dv 8))) (de_lst da_nil) (nomark _))))))))) hread hX
theorem ok_l_law_2aea {c_l_generator_b324 c_l_small_f084 c_l_random_7821 c_l_listed_right_e3bd c_l_judged_right_ab6f c_deeds_o c_how_many_deeds c_is_deed : DSp} {sp : DSp} (T : Txt K mg base) (D_l_generator_b324 : Def P w K mg base CX0 2 "_law_generator" s_l_generator_b324 ["_law_script", "_law_index"] c_l_generator_b324) (D_l_small_f084 : Def P w K mg base CX0 5 "_law_small" s_l_small_f084 ["_law_generator_here"] c_l_small_f084) (D_l_random_7821 : Def P w K mg base CX0 2 "_law_random" s_l_random_7821 ["_law_generator_here", "_law_bound"] c_l_random_7821) (D_l_listed_right_e3bd : Def P w K mg base CX0 5 "_law_listed_right" s_l_listed_right_e3bd ["_law_cutting"] c_l_listed_right_e3bd) (D_l_judged_right_ab6f : Def P w K mg base CX0 5 "_law_judged_right" s_l_judged_right_ab6f ["_law_cutting"] c_l_judged_right_ab6f) (D_deeds_o : Def P w K mg base CX0 4 "deeds" s_deeds_o ["cutting"] c_deeds_o) (D_how_many_deeds : Def P w K mg base CX0 4 "how_many_deeds" s_how_many_deeds ["cutting"] c_how_many_deeds) (D_is_deed : Def P w K mg base CX0 4 "is_deed" s_is_deed ["cutting", "value"] c_is_deed) (hread : ∀ ds M Q, ds.length = 1 → sp ds M Q DX0 → t_l_law_2aea c_l_generator_b324 c_l_small_f084 c_l_random_7821 c_l_listed_right_e3bd c_l_judged_right_ab6f c_deeds_o c_how_many_deeds c_is_deed (dEnds M Q) (startD 6 ds) M) (hX : ∀ ds M Q E, sp ds M Q E → sp ds M Q DX0 := by exact fun _ _ _ _ h => h) : Def P w K mg base CX0 6 "law" s_l_law_2aea ["_law_script"] sp :=
 T.h_l_law_2aea.ok (t := t_l_law_2aea c_l_generator_b324 c_l_small_f084 c_l_random_7821 c_l_listed_right_e3bd c_l_judged_right_ab6f c_deeds_o c_how_many_deeds c_is_deed) sc_l_law_2aea (fun f cdv A outer s H E hr gd => (dss_cons (ds_set (i := 1) sc_l_law_2aea.nd (dcall D_l_generator_b324 hr gd (da_cons (dv 0) (da_cons de_int da_nil))))
 (dss_cons (ds_asg (dcall D_l_small_f084 hr gd (da_cons (dv 1) da_nil)) (dg_tup rfl (dgs_cons (dg_name (i := 2) sc_l_law_2aea.nd) (dgs_cons (dg_name (i := 3) sc_l_law_2aea.nd) dgs_nil))))
 (dss_cons (ds_set (i := 4) sc_l_law_2aea.nd (de_ix (dv 3) (dcall D_l_random_7821 hr gd (da_cons (dv 1) (da_cons (de_blt cd_len T.n_len (da_cons (dv 3) da_nil)) da_nil)))))
 (dss_cons (ds_for rfl (di_seq (de_lst (da_cons (dv 2) (da_cons (dv 4) (da_cons (dv 2) da_nil))))) (dg_name (i := 5) sc_l_law_2aea.nd) (dss_one (ds_if (DW.dt (dw_or (dt_not (dt_tru (dcall D_l_listed_right_e3bd hr gd (da_cons (dv 5) da_nil)))) (dw_or1 (dt_not (dt_tru (dcall D_l_judged_right_ab6f hr gd (da_cons (dv 5) da_nil))))))) (dss_one (ds_ret de_bl)) dss_nil)))
 (dss_cons (ds_if (DW.dt (dw_or (dt_cmp (opd_ne (u64 hr)) (dcall D_deeds_o hr gd (da_cons (de_tup (da_cons de_int (da_cons de_int (da_cons de_int (da_cons (de_op opd_sub de_int de_int) da_nil))))) da_nil)) (de_lst (da_cons (de_tup (da_cons de_int (da_cons de_int da_nil))) (da_cons (de_tup (da_cons de_int (da_cons de_int da_nil))) (da_cons (de_tup (da_cons de_int (da_cons de_int da_nil))) (da_cons (de_tup (da_cons de_int (da_cons de_int da_nil))) da_nil))))) (nomark _)) (dw_or1 (dt_cmp (opd_ne (u64 hr)) (dcall D_deeds_o hr gd (da_cons (de_tup (da_cons de_int (da_cons de_int (da_cons de_int (da_cons (de_op opd_sub de_int de_int) da_nil))))) da_nil)) (de_lst (da_cons (de_tup (da_cons de_int (da_cons de_int da_nil))) (da_cons (de_tup (da_cons de_int (da_cons de_int da_nil))) (da_cons (de_tup (da_cons de_int (da_cons de_int da_nil))) (da_cons (de_tup (da_cons de_int (da_cons de_int da_nil))) da_nil))))) (nomark _))))) (dss_one (ds_ret de_bl)) dss_nil)
 (dss_cons (ds_if (dt_cmp (opd_ne (u64 hr)) (dcall D_deeds_o hr gd (da_cons (de_tup (da_cons de_int (da_cons de_int (da_cons de_int (da_cons (de_op opd_sub de_int de_int) da_nil))))) da_nil)) (de_lst (da_cons (de_tup (da_cons de_int (da_cons de_int da_nil))) (da_cons (de_tup (da_cons de_int (da_cons de_int da_nil))) (da_cons (de_tup (da_cons de_int (da_cons de_int da_nil))) (da_cons (de_tup (da_cons de_int (da_cons de_int da_nil))) (da_cons (de_tup (da_cons de_int (da_cons de_int da_nil))) (da_cons (de_tup (da_cons de_int (da_cons de_int da_nil))) da_nil))))))) (nomark _)) (dss_one (ds_ret de_bl)) dss_nil)
 (dss_one (ds_ret (de_and (de_cmp (opd_eq (u64 hr)) (dcall D_how_many_deeds hr gd (da_cons (de_tup (da_cons de_int (da_cons de_int (da_cons de_int (da_cons (de_op opd_sub de_int de_int) da_nil))))) da_nil)) de_int (nomark _)) (de_one (de_cmp opd_is (dcall D_is_deed hr gd (da_cons (de_tup (da_cons de_int (da_cons de_int (da_cons de_int (da_cons (de_op opd_sub de_int de_int) da_nil))))) (da_cons (de_tup (da_cons de_int (da_cons de_int da_nil))) da_nil))) de_bl (nomark _))))))))))))) hread hX
end
end C_k13
namespace C_k13
open PySem PySem.Spec PyProof.Rows L2 DL
theorem law_ok {P : Program} {w : World} {K : PySem.W.Frag} {mg : Str → Option Value} {base : Heap} (T : Txt K mg base) : Def P w K mg base CX0 6 "law" s_l_law_2aea ["_law_script"] spLaw := by
  have D_l_cell_cf3b := ok_l_cell_cf3b (P := P) (w := w) T  rd_l_cell_cf3b
  have D_l_generator_b324 := ok_l_generator_b324 (P := P) (w := w) T D_l_cell_cf3b rd_l_generator_b324
  have D_l_hash_d8d1 := ok_l_hash_d8d1 (P := P) (w := w) T  rd_l_hash_d8d1
  have D_l_random_7821 := ok_l_random_7821 (P := P) (w := w) T D_l_hash_d8d1 rd_l_random_7821
  have D_l_divisor_b609 := ok_l_divisor_b609 (P := P) (w := w) T  rd_l_divisor_b609
  have D_l_is_cutting_a37b := ok_l_is_cutting_a37b (P := P) (w := w) T D_l_divisor_b609 rd_l_is_cutting_a37b
  have D_l_with_a07e := ok_l_with_a07e (P := P) (w := w) T D_l_divisor_b609 D_l_is_cutting_a37b rd_l_with_a07e
  have D_l_cuttings_cac1 := ok_l_cuttings_cac1 (P := P) (w := w) T D_l_with_a07e rd_l_cuttings_cac1
  have D_l_small_f084 := ok_l_small_f084 (P := P) (w := w) T D_l_random_7821 D_l_cuttings_cac1 rd_l_small_f084
  have D_l_allowed_c76c := ok_l_allowed_c76c (P := P) (w := w) T  rd_l_allowed_c76c
  have D_l_deeds_faf6 := ok_l_deeds_faf6 (P := P) (w := w) T D_l_divisor_b609 D_l_allowed_c76c rd_l_deeds_faf6
  have D_is_whole := ok_is_whole (P := P) (w := w) T  rd_is_whole
  have D_common_by := ok_common_by (P := P) (w := w) T  rd_common_by
  have D_is_cutting_by := ok_is_cutting_by (P := P) (w := w) T D_is_whole D_common_by rd_is_cutting_by
  have D_check_cutting := ok_check_cutting (P := P) (w := w) T D_is_cutting_by rd_check_cutting
  have D_allowed_by := ok_allowed_by (P := P) (w := w) T  rd_allowed_by
  have D_free_count := ok_free_count (P := P) (w := w) T  rd_free_count
  have D_round_of := ok_round_of (P := P) (w := w) T  rd_round_of
  have D_count_deeds := ok_count_deeds (P := P) (w := w) T D_allowed_by D_free_count D_round_of rd_count_deeds
  have D_check_few := ok_check_few (P := P) (w := w) T D_count_deeds rd_check_few
  have D_deeds_by_o := ok_deeds_by_o (P := P) (w := w) T D_allowed_by D_round_of rd_deeds_by_o
  have D_deeds_o := ok_deeds_o (P := P) (w := w) T D_check_cutting D_check_few D_deeds_by_o rd_deeds_o
  have D_how_many_deeds := ok_how_many_deeds (P := P) (w := w) T D_check_cutting D_count_deeds rd_how_many_deeds
  have D_l_listed_right_e3bd := ok_l_listed_right_e3bd (P := P) (w := w) T D_l_deeds_faf6 D_deeds_o D_how_many_deeds rd_l_listed_right_e3bd
  have D_is_deed_by := ok_is_deed_by (P := P) (w := w) T D_allowed_by D_round_of rd_is_deed_by
  have D_is_deed := ok_is_deed (P := P) (w := w) T D_check_cutting D_is_deed_by rd_is_deed
  have D_l_judged_right_ab6f := ok_l_judged_right_ab6f (P := P) (w := w) T D_l_deeds_faf6 D_l_divisor_b609 D_is_deed rd_l_judged_right_ab6f
  exact ok_l_law_2aea T D_l_generator_b324 D_l_small_f084 D_l_random_7821 D_l_listed_right_e3bd D_l_judged_right_ab6f D_deeds_o D_how_many_deeds D_is_deed rd_l_law_2aea
end C_k13
namespace C_k13
open PySem PySem.Spec PyProof.Rows L2 DL
theorem all_mk {K : PySem.W.Frag} {h : Heap} {mg : Str → Option Value} (X : K.In h) (G : h.Ns mainGlobals mg)
    (n_abs : PySem.W.nsIn K mainGlobals "abs" = some none)
    (n_bool : PySem.W.nsIn K mainGlobals "bool" = some none)
    (n_int : PySem.W.nsIn K mainGlobals "int" = some none)
    (n_isinstance : PySem.W.nsIn K mainGlobals "isinstance" = some none)
    (n_len : PySem.W.nsIn K mainGlobals "len" = some none)
    (n_max : PySem.W.nsIn K mainGlobals "max" = some none)
    (n_range : PySem.W.nsIn K mainGlobals "range" = some none)
    (n_repr : PySem.W.nsIn K mainGlobals "repr" = some none)
    (n_sorted : PySem.W.nsIn K mainGlobals "sorted" = some none)
    (n_sum : PySem.W.nsIn K mainGlobals "sum" = some none)
    (n_tuple : PySem.W.nsIn K mainGlobals "tuple" = some none)
    (g_gcd : PySem.W.nsIn K mainGlobals "gcd" = some (some (.builtin "math.gcd")))
    {tk_MOST_LISTED : Tok} (c_MOST_LISTED : PySem.W.nsIn K mainGlobals "MOST_LISTED" = some (some (.int 2000 tk_MOST_LISTED)))
    {f_l_cell_cf3b : Addr} {oc_l_cell_cf3b kV_l_cell_cf3b dc_l_cell_cf3b pm_l_cell_cf3b cd_l_cell_cf3b ct_l_cell_cf3b : Value} {od_l_cell_cf3b an_l_cell_cf3b : Option Addr} {sl_l_cell_cf3b : Array (Option Value)}
    (a_l_cell_cf3b : PySem.W.nsIn K mainGlobals "_law_cell" = some (some (.ref f_l_cell_cf3b))) (l_l_cell_cf3b : K.lookup f_l_cell_cf3b = some ⟨oc_l_cell_cf3b, od_l_cell_cf3b, .func (PySem.W.fnOf "_law_cell" "_law_cell" (defArgs s_l_cell_cf3b) (defBody s_l_cell_cf3b) (defScope s_l_cell_cf3b) .none kV_l_cell_cf3b dc_l_cell_cf3b pm_l_cell_cf3b an_l_cell_cf3b cd_l_cell_cf3b ct_l_cell_cf3b), sl_l_cell_cf3b⟩) (e_l_cell_cf3b : PySem.W.codeIn K cd_l_cell_cf3b "_law_cell" = true) (k_l_cell_cf3b : PySem.W.keepIn K (.ref f_l_cell_cf3b) = true)
    {f_l_generator_b324 : Addr} {oc_l_generator_b324 kV_l_generator_b324 dc_l_generator_b324 pm_l_generator_b324 cd_l_generator_b324 ct_l_generator_b324 : Value} {od_l_generator_b324 an_l_generator_b324 : Option Addr} {sl_l_generator_b324 : Array (Option Value)}
    (a_l_generator_b324 : PySem.W.nsIn K mainGlobals "_law_generator" = some (some (.ref f_l_generator_b324))) (l_l_generator_b324 : K.lookup f_l_generator_b324 = some ⟨oc_l_generator_b324, od_l_generator_b324, .func (PySem.W.fnOf "_law_generator" "_law_generator" (defArgs s_l_generator_b324) (defBody s_l_generator_b324) (defScope s_l_generator_b324) .none kV_l_generator_b324 dc_l_generator_b324 pm_l_generator_b324 an_l_generator_b324 cd_l_generator_b324 ct_l_generator_b324), sl_l_generator_b324⟩) (e_l_generator_b324 : PySem.W.codeIn K cd_l_generator_b324 "_law_generator" = true) (k_l_generator_b324 : PySem.W.keepIn K (.ref f_l_generator_b324) = true)
    {f_l_hash_d8d1 : Addr} {oc_l_hash_d8d1 kV_l_hash_d8d1 dc_l_hash_d8d1 pm_l_hash_d8d1 cd_l_hash_d8d1 ct_l_hash_d8d1 : Value} {od_l_hash_d8d1 an_l_hash_d8d1 : Option Addr} {sl_l_hash_d8d1 : Array (Option Value)}
    (a_l_hash_d8d1 : PySem.W.nsIn K mainGlobals "_law_hash" = some (some (.ref f_l_hash_d8d1))) (l_l_hash_d8d1 : K.lookup f_l_hash_d8d1 = some ⟨oc_l_hash_d8d1, od_l_hash_d8d1, .func (PySem.W.fnOf "_law_hash" "_law_hash" (defArgs s_l_hash_d8d1) (defBody s_l_hash_d8d1) (defScope s_l_hash_d8d1) .none kV_l_hash_d8d1 dc_l_hash_d8d1 pm_l_hash_d8d1 an_l_hash_d8d1 cd_l_hash_d8d1 ct_l_hash_d8d1), sl_l_hash_d8d1⟩) (e_l_hash_d8d1 : PySem.W.codeIn K cd_l_hash_d8d1 "_law_hash" = true) (k_l_hash_d8d1 : PySem.W.keepIn K (.ref f_l_hash_d8d1) = true)
    {f_l_random_7821 : Addr} {oc_l_random_7821 kV_l_random_7821 dc_l_random_7821 pm_l_random_7821 cd_l_random_7821 ct_l_random_7821 : Value} {od_l_random_7821 an_l_random_7821 : Option Addr} {sl_l_random_7821 : Array (Option Value)}
    (a_l_random_7821 : PySem.W.nsIn K mainGlobals "_law_random" = some (some (.ref f_l_random_7821))) (l_l_random_7821 : K.lookup f_l_random_7821 = some ⟨oc_l_random_7821, od_l_random_7821, .func (PySem.W.fnOf "_law_random" "_law_random" (defArgs s_l_random_7821) (defBody s_l_random_7821) (defScope s_l_random_7821) .none kV_l_random_7821 dc_l_random_7821 pm_l_random_7821 an_l_random_7821 cd_l_random_7821 ct_l_random_7821), sl_l_random_7821⟩) (e_l_random_7821 : PySem.W.codeIn K cd_l_random_7821 "_law_random" = true) (k_l_random_7821 : PySem.W.keepIn K (.ref f_l_random_7821) = true)
    {f_l_divisor_b609 : Addr} {oc_l_divisor_b609 kV_l_divisor_b609 dc_l_divisor_b609 pm_l_divisor_b609 cd_l_divisor_b609 ct_l_divisor_b609 : Value} {od_l_divisor_b609 an_l_divisor_b609 : Option Addr} {sl_l_divisor_b609 : Array (Option Value)}
    (a_l_divisor_b609 : PySem.W.nsIn K mainGlobals "_law_divisor" = some (some (.ref f_l_divisor_b609))) (l_l_divisor_b609 : K.lookup f_l_divisor_b609 = some ⟨oc_l_divisor_b609, od_l_divisor_b609, .func (PySem.W.fnOf "_law_divisor" "_law_divisor" (defArgs s_l_divisor_b609) (defBody s_l_divisor_b609) (defScope s_l_divisor_b609) .none kV_l_divisor_b609 dc_l_divisor_b609 pm_l_divisor_b609 an_l_divisor_b609 cd_l_divisor_b609 ct_l_divisor_b609), sl_l_divisor_b609⟩) (e_l_divisor_b609 : PySem.W.codeIn K cd_l_divisor_b609 "_law_divisor" = true) (k_l_divisor_b609 : PySem.W.keepIn K (.ref f_l_divisor_b609) = true)
    {f_l_is_cutting_a37b : Addr} {oc_l_is_cutting_a37b kV_l_is_cutting_a37b dc_l_is_cutting_a37b pm_l_is_cutting_a37b cd_l_is_cutting_a37b ct_l_is_cutting_a37b : Value} {od_l_is_cutting_a37b an_l_is_cutting_a37b : Option Addr} {sl_l_is_cutting_a37b : Array (Option Value)}
    (a_l_is_cutting_a37b : PySem.W.nsIn K mainGlobals "_law_is_cutting" = some (some (.ref f_l_is_cutting_a37b))) (l_l_is_cutting_a37b : K.lookup f_l_is_cutting_a37b = some ⟨oc_l_is_cutting_a37b, od_l_is_cutting_a37b, .func (PySem.W.fnOf "_law_is_cutting" "_law_is_cutting" (defArgs s_l_is_cutting_a37b) (defBody s_l_is_cutting_a37b) (defScope s_l_is_cutting_a37b) .none kV_l_is_cutting_a37b dc_l_is_cutting_a37b pm_l_is_cutting_a37b an_l_is_cutting_a37b cd_l_is_cutting_a37b ct_l_is_cutting_a37b), sl_l_is_cutting_a37b⟩) (e_l_is_cutting_a37b : PySem.W.codeIn K cd_l_is_cutting_a37b "_law_is_cutting" = true) (k_l_is_cutting_a37b : PySem.W.keepIn K (.ref f_l_is_cutting_a37b) = true)
    {f_l_with_a07e : Addr} {oc_l_with_a07e kV_l_with_a07e dc_l_with_a07e pm_l_with_a07e cd_l_with_a07e ct_l_with_a07e : Value} {od_l_with_a07e an_l_with_a07e : Option Addr} {sl_l_with_a07e : Array (Option Value)}
    (a_l_with_a07e : PySem.W.nsIn K mainGlobals "_law_with" = some (some (.ref f_l_with_a07e))) (l_l_with_a07e : K.lookup f_l_with_a07e = some ⟨oc_l_with_a07e, od_l_with_a07e, .func (PySem.W.fnOf "_law_with" "_law_with" (defArgs s_l_with_a07e) (defBody s_l_with_a07e) (defScope s_l_with_a07e) .none kV_l_with_a07e dc_l_with_a07e pm_l_with_a07e an_l_with_a07e cd_l_with_a07e ct_l_with_a07e), sl_l_with_a07e⟩) (e_l_with_a07e : PySem.W.codeIn K cd_l_with_a07e "_law_with" = true) (k_l_with_a07e : PySem.W.keepIn K (.ref f_l_with_a07e) = true)
    {f_l_cuttings_cac1 : Addr} {oc_l_cuttings_cac1 kV_l_cuttings_cac1 dc_l_cuttings_cac1 pm_l_cuttings_cac1 cd_l_cuttings_cac1 ct_l_cuttings_cac1 : Value} {od_l_cuttings_cac1 an_l_cuttings_cac1 : Option Addr} {sl_l_cuttings_cac1 : Array (Option Value)}
    (a_l_cuttings_cac1 : PySem.W.nsIn K mainGlobals "_law_cuttings" = some (some (.ref f_l_cuttings_cac1))) (l_l_cuttings_cac1 : K.lookup f_l_cuttings_cac1 = some ⟨oc_l_cuttings_cac1, od_l_cuttings_cac1, .func (PySem.W.fnOf "_law_cuttings" "_law_cuttings" (defArgs s_l_cuttings_cac1) (defBody s_l_cuttings_cac1) (defScope s_l_cuttings_cac1) .none kV_l_cuttings_cac1 dc_l_cuttings_cac1 pm_l_cuttings_cac1 an_l_cuttings_cac1 cd_l_cuttings_cac1 ct_l_cuttings_cac1), sl_l_cuttings_cac1⟩) (e_l_cuttings_cac1 : PySem.W.codeIn K cd_l_cuttings_cac1 "_law_cuttings" = true) (k_l_cuttings_cac1 : PySem.W.keepIn K (.ref f_l_cuttings_cac1) = true)
    {f_l_small_f084 : Addr} {oc_l_small_f084 kV_l_small_f084 dc_l_small_f084 pm_l_small_f084 cd_l_small_f084 ct_l_small_f084 : Value} {od_l_small_f084 an_l_small_f084 : Option Addr} {sl_l_small_f084 : Array (Option Value)}
    (a_l_small_f084 : PySem.W.nsIn K mainGlobals "_law_small" = some (some (.ref f_l_small_f084))) (l_l_small_f084 : K.lookup f_l_small_f084 = some ⟨oc_l_small_f084, od_l_small_f084, .func (PySem.W.fnOf "_law_small" "_law_small" (defArgs s_l_small_f084) (defBody s_l_small_f084) (defScope s_l_small_f084) .none kV_l_small_f084 dc_l_small_f084 pm_l_small_f084 an_l_small_f084 cd_l_small_f084 ct_l_small_f084), sl_l_small_f084⟩) (e_l_small_f084 : PySem.W.codeIn K cd_l_small_f084 "_law_small" = true) (k_l_small_f084 : PySem.W.keepIn K (.ref f_l_small_f084) = true)
    {f_l_allowed_c76c : Addr} {oc_l_allowed_c76c kV_l_allowed_c76c dc_l_allowed_c76c pm_l_allowed_c76c cd_l_allowed_c76c ct_l_allowed_c76c : Value} {od_l_allowed_c76c an_l_allowed_c76c : Option Addr} {sl_l_allowed_c76c : Array (Option Value)}
    (a_l_allowed_c76c : PySem.W.nsIn K mainGlobals "_law_allowed" = some (some (.ref f_l_allowed_c76c))) (l_l_allowed_c76c : K.lookup f_l_allowed_c76c = some ⟨oc_l_allowed_c76c, od_l_allowed_c76c, .func (PySem.W.fnOf "_law_allowed" "_law_allowed" (defArgs s_l_allowed_c76c) (defBody s_l_allowed_c76c) (defScope s_l_allowed_c76c) .none kV_l_allowed_c76c dc_l_allowed_c76c pm_l_allowed_c76c an_l_allowed_c76c cd_l_allowed_c76c ct_l_allowed_c76c), sl_l_allowed_c76c⟩) (e_l_allowed_c76c : PySem.W.codeIn K cd_l_allowed_c76c "_law_allowed" = true) (k_l_allowed_c76c : PySem.W.keepIn K (.ref f_l_allowed_c76c) = true)
    {f_l_deeds_faf6 : Addr} {oc_l_deeds_faf6 kV_l_deeds_faf6 dc_l_deeds_faf6 pm_l_deeds_faf6 cd_l_deeds_faf6 ct_l_deeds_faf6 : Value} {od_l_deeds_faf6 an_l_deeds_faf6 : Option Addr} {sl_l_deeds_faf6 : Array (Option Value)}
    (a_l_deeds_faf6 : PySem.W.nsIn K mainGlobals "_law_deeds" = some (some (.ref f_l_deeds_faf6))) (l_l_deeds_faf6 : K.lookup f_l_deeds_faf6 = some ⟨oc_l_deeds_faf6, od_l_deeds_faf6, .func (PySem.W.fnOf "_law_deeds" "_law_deeds" (defArgs s_l_deeds_faf6) (defBody s_l_deeds_faf6) (defScope s_l_deeds_faf6) .none kV_l_deeds_faf6 dc_l_deeds_faf6 pm_l_deeds_faf6 an_l_deeds_faf6 cd_l_deeds_faf6 ct_l_deeds_faf6), sl_l_deeds_faf6⟩) (e_l_deeds_faf6 : PySem.W.codeIn K cd_l_deeds_faf6 "_law_deeds" = true) (k_l_deeds_faf6 : PySem.W.keepIn K (.ref f_l_deeds_faf6) = true)
    {f_is_whole : Addr} {oc_is_whole kV_is_whole dc_is_whole pm_is_whole cd_is_whole ct_is_whole : Value} {od_is_whole an_is_whole : Option Addr} {sl_is_whole : Array (Option Value)}
    (a_is_whole : PySem.W.nsIn K mainGlobals "is_whole" = some (some (.ref f_is_whole))) (l_is_whole : K.lookup f_is_whole = some ⟨oc_is_whole, od_is_whole, .func (PySem.W.fnOf "is_whole" "is_whole" (defArgs s_is_whole) (defBody s_is_whole) (defScope s_is_whole) .none kV_is_whole dc_is_whole pm_is_whole an_is_whole cd_is_whole ct_is_whole), sl_is_whole⟩) (e_is_whole : PySem.W.codeIn K cd_is_whole "is_whole" = true) (k_is_whole : PySem.W.keepIn K (.ref f_is_whole) = true)
    {f_common_by : Addr} {oc_common_by kV_common_by dc_common_by pm_common_by cd_common_by ct_common_by : Value} {od_common_by an_common_by : Option Addr} {sl_common_by : Array (Option Value)}
    (a_common_by : PySem.W.nsIn K mainGlobals "common_by" = some (some (.ref f_common_by))) (l_common_by : K.lookup f_common_by = some ⟨oc_common_by, od_common_by, .func (PySem.W.fnOf "common_by" "common_by" (defArgs s_common_by) (defBody s_common_by) (defScope s_common_by) .none kV_common_by dc_common_by pm_common_by an_common_by cd_common_by ct_common_by), sl_common_by⟩) (e_common_by : PySem.W.codeIn K cd_common_by "common_by" = true) (k_common_by : PySem.W.keepIn K (.ref f_common_by) = true)
    {f_is_cutting_by : Addr} {oc_is_cutting_by kV_is_cutting_by dc_is_cutting_by pm_is_cutting_by cd_is_cutting_by ct_is_cutting_by : Value} {od_is_cutting_by an_is_cutting_by : Option Addr} {sl_is_cutting_by : Array (Option Value)}
    (a_is_cutting_by : PySem.W.nsIn K mainGlobals "is_cutting_by" = some (some (.ref f_is_cutting_by))) (l_is_cutting_by : K.lookup f_is_cutting_by = some ⟨oc_is_cutting_by, od_is_cutting_by, .func (PySem.W.fnOf "is_cutting_by" "is_cutting_by" (defArgs s_is_cutting_by) (defBody s_is_cutting_by) (defScope s_is_cutting_by) .none kV_is_cutting_by dc_is_cutting_by pm_is_cutting_by an_is_cutting_by cd_is_cutting_by ct_is_cutting_by), sl_is_cutting_by⟩) (e_is_cutting_by : PySem.W.codeIn K cd_is_cutting_by "is_cutting_by" = true) (k_is_cutting_by : PySem.W.keepIn K (.ref f_is_cutting_by) = true)
    {f_check_cutting : Addr} {oc_check_cutting kV_check_cutting dc_check_cutting pm_check_cutting cd_check_cutting ct_check_cutting : Value} {od_check_cutting an_check_cutting : Option Addr} {sl_check_cutting : Array (Option Value)}
    (a_check_cutting : PySem.W.nsIn K mainGlobals "check_cutting" = some (some (.ref f_check_cutting))) (l_check_cutting : K.lookup f_check_cutting = some ⟨oc_check_cutting, od_check_cutting, .func (PySem.W.fnOf "check_cutting" "check_cutting" (defArgs s_check_cutting) (defBody s_check_cutting) (defScope s_check_cutting) .none kV_check_cutting dc_check_cutting pm_check_cutting an_check_cutting cd_check_cutting ct_check_cutting), sl_check_cutting⟩) (e_check_cutting : PySem.W.codeIn K cd_check_cutting "check_cutting" = true) (k_check_cutting : PySem.W.keepIn K (.ref f_check_cutting) = true)
    {f_allowed_by : Addr} {oc_allowed_by kV_allowed_by dc_allowed_by pm_allowed_by cd_allowed_by ct_allowed_by : Value} {od_allowed_by an_allowed_by : Option Addr} {sl_allowed_by : Array (Option Value)}
    (a_allowed_by : PySem.W.nsIn K mainGlobals "allowed_by" = some (some (.ref f_allowed_by))) (l_allowed_by : K.lookup f_allowed_by = some ⟨oc_allowed_by, od_allowed_by, .func (PySem.W.fnOf "allowed_by" "allowed_by" (defArgs s_allowed_by) (defBody s_allowed_by) (defScope s_allowed_by) .none kV_allowed_by dc_allowed_by pm_allowed_by an_allowed_by cd_allowed_by ct_allowed_by), sl_allowed_by⟩) (e_allowed_by : PySem.W.codeIn K cd_allowed_by "allowed_by" = true) (k_allowed_by : PySem.W.keepIn K (.ref f_allowed_by) = true)
    {f_free_count : Addr} {oc_free_count kV_free_count dc_free_count pm_free_count cd_free_count ct_free_count : Value} {od_free_count an_free_count : Option Addr} {sl_free_count : Array (Option Value)}
    (a_free_count : PySem.W.nsIn K mainGlobals "free_count" = some (some (.ref f_free_count))) (l_free_count : K.lookup f_free_count = some ⟨oc_free_count, od_free_count, .func (PySem.W.fnOf "free_count" "free_count" (defArgs s_free_count) (defBody s_free_count) (defScope s_free_count) .none kV_free_count dc_free_count pm_free_count an_free_count cd_free_count ct_free_count), sl_free_count⟩) (e_free_count : PySem.W.codeIn K cd_free_count "free_count" = true) (k_free_count : PySem.W.keepIn K (.ref f_free_count) = true)
    {f_round_of : Addr} {oc_round_of kV_round_of dc_round_of pm_round_of cd_round_of ct_round_of : Value} {od_round_of an_round_of : Option Addr} {sl_round_of : Array (Option Value)}
    (a_round_of : PySem.W.nsIn K mainGlobals "round_of" = some (some (.ref f_round_of))) (l_round_of : K.lookup f_round_of = some ⟨oc_round_of, od_round_of, .func (PySem.W.fnOf "round_of" "round_of" (defArgs s_round_of) (defBody s_round_of) (defScope s_round_of) .none kV_round_of dc_round_of pm_round_of an_round_of cd_round_of ct_round_of), sl_round_of⟩) (e_round_of : PySem.W.codeIn K cd_round_of "round_of" = true) (k_round_of : PySem.W.keepIn K (.ref f_round_of) = true)
    {f_count_deeds : Addr} {oc_count_deeds kV_count_deeds dc_count_deeds pm_count_deeds cd_count_deeds ct_count_deeds : Value} {od_count_deeds an_count_deeds : Option Addr} {sl_count_deeds : Array (Option Value)}
    (a_count_deeds : PySem.W.nsIn K mainGlobals "count_deeds" = some (some (.ref f_count_deeds))) (l_count_deeds : K.lookup f_count_deeds = some ⟨oc_count_deeds, od_count_deeds, .func (PySem.W.fnOf "count_deeds" "count_deeds" (defArgs s_count_deeds) (defBody s_count_deeds) (defScope s_count_deeds) .none kV_count_deeds dc_count_deeds pm_count_deeds an_count_deeds cd_count_deeds ct_count_deeds), sl_count_deeds⟩) (e_count_deeds : PySem.W.codeIn K cd_count_deeds "count_deeds" = true) (k_count_deeds : PySem.W.keepIn K (.ref f_count_deeds) = true)
    {f_check_few : Addr} {oc_check_few kV_check_few dc_check_few pm_check_few cd_check_few ct_check_few : Value} {od_check_few an_check_few : Option Addr} {sl_check_few : Array (Option Value)}
    (a_check_few : PySem.W.nsIn K mainGlobals "check_few" = some (some (.ref f_check_few))) (l_check_few : K.lookup f_check_few = some ⟨oc_check_few, od_check_few, .func (PySem.W.fnOf "check_few" "check_few" (defArgs s_check_few) (defBody s_check_few) (defScope s_check_few) .none kV_check_few dc_check_few pm_check_few an_check_few cd_check_few ct_check_few), sl_check_few⟩) (e_check_few : PySem.W.codeIn K cd_check_few "check_few" = true) (k_check_few : PySem.W.keepIn K (.ref f_check_few) = true)
    {f_deeds_by_o : Addr} {oc_deeds_by_o kV_deeds_by_o dc_deeds_by_o pm_deeds_by_o cd_deeds_by_o ct_deeds_by_o : Value} {od_deeds_by_o an_deeds_by_o : Option Addr} {sl_deeds_by_o : Array (Option Value)}
    (a_deeds_by_o : PySem.W.nsIn K mainGlobals "deeds_by" = some (some (.ref f_deeds_by_o))) (l_deeds_by_o : K.lookup f_deeds_by_o = some ⟨oc_deeds_by_o, od_deeds_by_o, .func (PySem.W.fnOf "deeds_by" "deeds_by" (defArgs s_deeds_by_o) (defBody s_deeds_by_o) (defScope s_deeds_by_o) .none kV_deeds_by_o dc_deeds_by_o pm_deeds_by_o an_deeds_by_o cd_deeds_by_o ct_deeds_by_o), sl_deeds_by_o⟩) (e_deeds_by_o : PySem.W.codeIn K cd_deeds_by_o "deeds_by" = true) (k_deeds_by_o : PySem.W.keepIn K (.ref f_deeds_by_o) = true)
    {f_deeds_o : Addr} {oc_deeds_o kV_deeds_o dc_deeds_o pm_deeds_o cd_deeds_o ct_deeds_o : Value} {od_deeds_o an_deeds_o : Option Addr} {sl_deeds_o : Array (Option Value)}
    (a_deeds_o : PySem.W.nsIn K mainGlobals "deeds" = some (some (.ref f_deeds_o))) (l_deeds_o : K.lookup f_deeds_o = some ⟨oc_deeds_o, od_deeds_o, .func (PySem.W.fnOf "deeds" "deeds" (defArgs s_deeds_o) (defBody s_deeds_o) (defScope s_deeds_o) .none kV_deeds_o dc_deeds_o pm_deeds_o an_deeds_o cd_deeds_o ct_deeds_o), sl_deeds_o⟩) (e_deeds_o : PySem.W.codeIn K cd_deeds_o "deeds" = true) (k_deeds_o : PySem.W.keepIn K (.ref f_deeds_o) = true)
    {f_how_many_deeds : Addr} {oc_how_many_deeds kV_how_many_deeds dc_how_many_deeds pm_how_many_deeds cd_how_many_deeds ct_how_many_deeds : Value} {od_how_many_deeds an_how_many_deeds : Option Addr} {sl_how_many_deeds : Array (Option Value)}
    (a_how_many_deeds : PySem.W.nsIn K mainGlobals "how_many_deeds" = some (some (.ref f_how_many_deeds))) (l_how_many_deeds : K.lookup f_how_many_deeds = some ⟨oc_how_many_deeds, od_how_many_deeds, .func (PySem.W.fnOf "how_many_deeds" "how_many_deeds" (defArgs s_how_many_deeds) (defBody s_how_many_deeds) (defScope s_how_many_deeds) .none kV_how_many_deeds dc_how_many_deeds pm_how_many_deeds an_how_many_deeds cd_how_many_deeds ct_how_many_deeds), sl_how_many_deeds⟩) (e_how_many_deeds : PySem.W.codeIn K cd_how_many_deeds "how_many_deeds" = true) (k_how_many_deeds : PySem.W.keepIn K (.ref f_how_many_deeds) = true)
    {f_l_listed_right_e3bd : Addr} {oc_l_listed_right_e3bd kV_l_listed_right_e3bd dc_l_listed_right_e3bd pm_l_listed_right_e3bd cd_l_listed_right_e3bd ct_l_listed_right_e3bd : Value} {od_l_listed_right_e3bd an_l_listed_right_e3bd : Option Addr} {sl_l_listed_right_e3bd : Array (Option Value)}
    (a_l_listed_right_e3bd : PySem.W.nsIn K mainGlobals "_law_listed_right" = some (some (.ref f_l_listed_right_e3bd))) (l_l_listed_right_e3bd : K.lookup f_l_listed_right_e3bd = some ⟨oc_l_listed_right_e3bd, od_l_listed_right_e3bd, .func (PySem.W.fnOf "_law_listed_right" "_law_listed_right" (defArgs s_l_listed_right_e3bd) (defBody s_l_listed_right_e3bd) (defScope s_l_listed_right_e3bd) .none kV_l_listed_right_e3bd dc_l_listed_right_e3bd pm_l_listed_right_e3bd an_l_listed_right_e3bd cd_l_listed_right_e3bd ct_l_listed_right_e3bd), sl_l_listed_right_e3bd⟩) (e_l_listed_right_e3bd : PySem.W.codeIn K cd_l_listed_right_e3bd "_law_listed_right" = true) (k_l_listed_right_e3bd : PySem.W.keepIn K (.ref f_l_listed_right_e3bd) = true)
    {f_is_deed_by : Addr} {oc_is_deed_by kV_is_deed_by dc_is_deed_by pm_is_deed_by cd_is_deed_by ct_is_deed_by : Value} {od_is_deed_by an_is_deed_by : Option Addr} {sl_is_deed_by : Array (Option Value)}
    (a_is_deed_by : PySem.W.nsIn K mainGlobals "is_deed_by" = some (some (.ref f_is_deed_by))) (l_is_deed_by : K.lookup f_is_deed_by = some ⟨oc_is_deed_by, od_is_deed_by, .func (PySem.W.fnOf "is_deed_by" "is_deed_by" (defArgs s_is_deed_by) (defBody s_is_deed_by) (defScope s_is_deed_by) .none kV_is_deed_by dc_is_deed_by pm_is_deed_by an_is_deed_by cd_is_deed_by ct_is_deed_by), sl_is_deed_by⟩) (e_is_deed_by : PySem.W.codeIn K cd_is_deed_by "is_deed_by" = true) (k_is_deed_by : PySem.W.keepIn K (.ref f_is_deed_by) = true)
    {f_is_deed : Addr} {oc_is_deed kV_is_deed dc_is_deed pm_is_deed cd_is_deed ct_is_deed : Value} {od_is_deed an_is_deed : Option Addr} {sl_is_deed : Array (Option Value)}
    (a_is_deed : PySem.W.nsIn K mainGlobals "is_deed" = some (some (.ref f_is_deed))) (l_is_deed : K.lookup f_is_deed = some ⟨oc_is_deed, od_is_deed, .func (PySem.W.fnOf "is_deed" "is_deed" (defArgs s_is_deed) (defBody s_is_deed) (defScope s_is_deed) .none kV_is_deed dc_is_deed pm_is_deed an_is_deed cd_is_deed ct_is_deed), sl_is_deed⟩) (e_is_deed : PySem.W.codeIn K cd_is_deed "is_deed" = true) (k_is_deed : PySem.W.keepIn K (.ref f_is_deed) = true)
    {f_l_judged_right_ab6f : Addr} {oc_l_judged_right_ab6f kV_l_judged_right_ab6f dc_l_judged_right_ab6f pm_l_judged_right_ab6f cd_l_judged_right_ab6f ct_l_judged_right_ab6f : Value} {od_l_judged_right_ab6f an_l_judged_right_ab6f : Option Addr} {sl_l_judged_right_ab6f : Array (Option Value)}
    (a_l_judged_right_ab6f : PySem.W.nsIn K mainGlobals "_law_judged_right" = some (some (.ref f_l_judged_right_ab6f))) (l_l_judged_right_ab6f : K.lookup f_l_judged_right_ab6f = some ⟨oc_l_judged_right_ab6f, od_l_judged_right_ab6f, .func (PySem.W.fnOf "_law_judged_right" "_law_judged_right" (defArgs s_l_judged_right_ab6f) (defBody s_l_judged_right_ab6f) (defScope s_l_judged_right_ab6f) .none kV_l_judged_right_ab6f dc_l_judged_right_ab6f pm_l_judged_right_ab6f an_l_judged_right_ab6f cd_l_judged_right_ab6f ct_l_judged_right_ab6f), sl_l_judged_right_ab6f⟩) (e_l_judged_right_ab6f : PySem.W.codeIn K cd_l_judged_right_ab6f "_law_judged_right" = true) (k_l_judged_right_ab6f : PySem.W.keepIn K (.ref f_l_judged_right_ab6f) = true)
    {f_l_law_2aea : Addr} {oc_l_law_2aea kV_l_law_2aea dc_l_law_2aea pm_l_law_2aea cd_l_law_2aea ct_l_law_2aea : Value} {od_l_law_2aea an_l_law_2aea : Option Addr} {sl_l_law_2aea : Array (Option Value)}
    (a_l_law_2aea : PySem.W.nsIn K mainGlobals "law" = some (some (.ref f_l_law_2aea))) (l_l_law_2aea : K.lookup f_l_law_2aea = some ⟨oc_l_law_2aea, od_l_law_2aea, .func (PySem.W.fnOf "law" "law" (defArgs s_l_law_2aea) (defBody s_l_law_2aea) (defScope s_l_law_2aea) .none kV_l_law_2aea dc_l_law_2aea pm_l_law_2aea an_l_law_2aea cd_l_law_2aea ct_l_law_2aea), sl_l_law_2aea⟩) (e_l_law_2aea : PySem.W.codeIn K cd_l_law_2aea "law" = true) (k_l_law_2aea : PySem.W.keepIn K (.ref f_l_law_2aea) = true)
    (base : Heap) (Xb : K.In base) : Txt K mg base where
  n_abs := PySem.W.mg_none_of X G n_abs
  n_bool := PySem.W.mg_none_of X G n_bool
  n_int := PySem.W.mg_none_of X G n_int
  n_isinstance := PySem.W.mg_none_of X G n_isinstance
  n_len := PySem.W.mg_none_of X G n_len
  n_max := PySem.W.mg_none_of X G n_max
  n_range := PySem.W.mg_none_of X G n_range
  n_repr := PySem.W.mg_none_of X G n_repr
  n_sorted := PySem.W.mg_none_of X G n_sorted
  n_sum := PySem.W.mg_none_of X G n_sum
  n_tuple := PySem.W.mg_none_of X G n_tuple
  g_gcd := PySem.W.mg_of X G g_gcd
  c_MOST_LISTED := ⟨_, PySem.W.mg_of X G c_MOST_LISTED⟩
  h_l_cell_cf3b := here_of (st := s_l_cell_cf3b) X G a_l_cell_cf3b l_l_cell_cf3b e_l_cell_cf3b k_l_cell_cf3b fun _ _ _ _ _ _ us hl => match us, hl with | [_, _], _ => rfl
  h_l_generator_b324 := here_of (st := s_l_generator_b324) X G a_l_generator_b324 l_l_generator_b324 e_l_generator_b324 k_l_generator_b324 fun _ _ _ _ _ _ us hl => match us, hl with | [_, _], _ => rfl
  h_l_hash_d8d1 := here_of (st := s_l_hash_d8d1) X G a_l_hash_d8d1 l_l_hash_d8d1 e_l_hash_d8d1 k_l_hash_d8d1 fun _ _ _ _ _ _ us hl => match us, hl with | [_, _], _ => rfl
  h_l_random_7821 := here_of (st := s_l_random_7821) X G a_l_random_7821 l_l_random_7821 e_l_random_7821 k_l_random_7821 fun _ _ _ _ _ _ us hl => match us, hl with | [_, _], _ => rfl
  h_l_divisor_b609 := here_of (st := s_l_divisor_b609) X G a_l_divisor_b609 l_l_divisor_b609 e_l_divisor_b609 k_l_divisor_b609 fun _ _ _ _ _ _ us hl => match us, hl with | [_, _], _ => rfl
  h_l_is_cutting_a37b := here_of (st := s_l_is_cutting_a37b) X G a_l_is_cutting_a37b l_l_is_cutting_a37b e_l_is_cutting_a37b k_l_is_cutting_a37b fun _ _ _ _ _ _ us hl => match us, hl with | [_], _ => rfl
  h_l_with_a07e := here_of (st := s_l_with_a07e) X G a_l_with_a07e l_l_with_a07e e_l_with_a07e k_l_with_a07e fun _ _ _ _ _ _ us hl => match us, hl with | [_, _], _ => rfl
  h_l_cuttings_cac1 := here_of (st := s_l_cuttings_cac1) X G a_l_cuttings_cac1 l_l_cuttings_cac1 e_l_cuttings_cac1 k_l_cuttings_cac1 fun _ _ _ _ _ _ us hl => match us, hl with | [_], _ => rfl
  h_l_small_f084 := here_of (st := s_l_small_f084) X G a_l_small_f084 l_l_small_f084 e_l_small_f084 k_l_small_f084 fun _ _ _ _ _ _ us hl => match us, hl with | [_], _ => rfl
  h_l_allowed_c76c := here_of (st := s_l_allowed_c76c) X G a_l_allowed_c76c l_l_allowed_c76c e_l_allowed_c76c k_l_allowed_c76c fun _ _ _ _ _ _ us hl => match us, hl with | [_, _], _ => rfl
  h_l_deeds_faf6 := here_of (st := s_l_deeds_faf6) X G a_l_deeds_faf6 l_l_deeds_faf6 e_l_deeds_faf6 k_l_deeds_faf6 fun _ _ _ _ _ _ us hl => match us, hl with | [_], _ => rfl
  h_is_whole := here_of (st := s_is_whole) X G a_is_whole l_is_whole e_is_whole k_is_whole fun _ _ _ _ _ _ us hl => match us, hl with | [_], _ => rfl
  h_common_by := here_of (st := s_common_by) X G a_common_by l_common_by e_common_by k_common_by fun _ _ _ _ _ _ us hl => match us, hl with | [_, _], _ => rfl
  h_is_cutting_by := here_of (st := s_is_cutting_by) X G a_is_cutting_by l_is_cutting_by e_is_cutting_by k_is_cutting_by fun _ _ _ _ _ _ us hl => match us, hl with | [_], _ => rfl
  h_check_cutting := here_of (st := s_check_cutting) X G a_check_cutting l_check_cutting e_check_cutting k_check_cutting fun _ _ _ _ _ _ us hl => match us, hl with | [_], _ => rfl
  h_allowed_by := here_of (st := s_allowed_by) X G a_allowed_by l_allowed_by e_allowed_by k_allowed_by fun _ _ _ _ _ _ us hl => match us, hl with | [_, _], _ => rfl
  h_free_count := here_of (st := s_free_count) X G a_free_count l_free_count e_free_count k_free_count fun _ _ _ _ _ _ us hl => match us, hl with | [_], _ => rfl
  h_round_of := here_of (st := s_round_of) X G a_round_of l_round_of e_round_of k_round_of fun _ _ _ _ _ _ us hl => match us, hl with | [_], _ => rfl
  h_count_deeds := here_of (st := s_count_deeds) X G a_count_deeds l_count_deeds e_count_deeds k_count_deeds fun _ _ _ _ _ _ us hl => match us, hl with | [_], _ => rfl
  h_check_few := here_of (st := s_check_few) X G a_check_few l_check_few e_check_few k_check_few fun _ _ _ _ _ _ us hl => match us, hl with | [_], _ => rfl
  h_deeds_by_o := here_of (st := s_deeds_by_o) X G a_deeds_by_o l_deeds_by_o e_deeds_by_o k_deeds_by_o fun _ _ _ _ _ _ us hl => match us, hl with | [_], _ => rfl
  h_deeds_o := here_of (st := s_deeds_o) X G a_deeds_o l_deeds_o e_deeds_o k_deeds_o fun _ _ _ _ _ _ us hl => match us, hl with | [_], _ => rfl
  h_how_many_deeds := here_of (st := s_how_many_deeds) X G a_how_many_deeds l_how_many_deeds e_how_many_deeds k_how_many_deeds fun _ _ _ _ _ _ us hl => match us, hl with | [_], _ => rfl
  h_l_listed_right_e3bd := here_of (st := s_l_listed_right_e3bd) X G a_l_listed_right_e3bd l_l_listed_right_e3bd e_l_listed_right_e3bd k_l_listed_right_e3bd fun _ _ _ _ _ _ us hl => match us, hl with | [_], _ => rfl
  h_is_deed_by := here_of (st := s_is_deed_by) X G a_is_deed_by l_is_deed_by e_is_deed_by k_is_deed_by fun _ _ _ _ _ _ us hl => match us, hl with | [_, _], _ => rfl
  h_is_deed := here_of (st := s_is_deed) X G a_is_deed l_is_deed e_is_deed k_is_deed fun _ _ _ _ _ _ us hl => match us, hl with | [_, _], _ => rfl
  h_l_judged_right_ab6f := here_of (st := s_l_judged_right_ab6f) X G a_l_judged_right_ab6f l_l_judged_right_ab6f e_l_judged_right_ab6f k_l_judged_right_ab6f fun _ _ _ _ _ _ us hl => match us, hl with | [_], _ => rfl
  h_l_law_2aea := here_of (st := s_l_law_2aea) X G a_l_law_2aea l_l_law_2aea e_l_law_2aea k_l_law_2aea fun _ _ _ _ _ _ us hl => match us, hl with | [_], _ => rfl
end C_k13
open PySem PySem.W PyProof.Rows
set_option maxHeartbeats 0 in
theorem PySem.Challenge.cw_slitsheets_k13_whole_deeds_judged_and_li_holds : PySem.Challenge.rw_slitsheets_k13_whole_deeds_judged_and_li.Holds := by
  w_on; o_law; k_head; (case hw => w_witness2)
  k_fill
  refine DL.walkD (l := PySem.Challenge.rw_slitsheets_k13_whole_deeds_judged_and_li) (n := 63) (k := 6) (x := "_law_script") (st := C_k13.s_l_law_2aea) rfl (by decide) rfl ⟨rfl, by decide, by decide⟩ (fun w h Y => PySem.W.kIn_of Y) ?F (fun _ _ _ _ _ _ _ => rfl)
  case F =>
    intro w mg h KX G base Xb Gb
    refine' C_k13.law_ok (C_k13.all_mk KX G ?n_abs ?n_bool ?n_int ?n_isinstance ?n_len ?n_max ?n_range ?n_repr ?n_sorted ?n_sum ?n_tuple ?g_gcd ?c_MOST_LISTED ?a_l_cell_cf3b ?l_l_cell_cf3b ?e_l_cell_cf3b ?k_l_cell_cf3b ?a_l_generator_b324 ?l_l_generator_b324 ?e_l_generator_b324 ?k_l_generator_b324 ?a_l_hash_d8d1 ?l_l_hash_d8d1 ?e_l_hash_d8d1 ?k_l_hash_d8d1 ?a_l_random_7821 ?l_l_random_7821 ?e_l_random_7821 ?k_l_random_7821 ?a_l_divisor_b609 ?l_l_divisor_b609 ?e_l_divisor_b609 ?k_l_divisor_b609 ?a_l_is_cutting_a37b ?l_l_is_cutting_a37b ?e_l_is_cutting_a37b ?k_l_is_cutting_a37b ?a_l_with_a07e ?l_l_with_a07e ?e_l_with_a07e ?k_l_with_a07e ?a_l_cuttings_cac1 ?l_l_cuttings_cac1 ?e_l_cuttings_cac1 ?k_l_cuttings_cac1 ?a_l_small_f084 ?l_l_small_f084 ?e_l_small_f084 ?k_l_small_f084 ?a_l_allowed_c76c ?l_l_allowed_c76c ?e_l_allowed_c76c ?k_l_allowed_c76c ?a_l_deeds_faf6 ?l_l_deeds_faf6 ?e_l_deeds_faf6 ?k_l_deeds_faf6 ?a_is_whole ?l_is_whole ?e_is_whole ?k_is_whole ?a_common_by ?l_common_by ?e_common_by ?k_common_by ?a_is_cutting_by ?l_is_cutting_by ?e_is_cutting_by ?k_is_cutting_by ?a_check_cutting ?l_check_cutting ?e_check_cutting ?k_check_cutting ?a_allowed_by ?l_allowed_by ?e_allowed_by ?k_allowed_by ?a_free_count ?l_free_count ?e_free_count ?k_free_count ?a_round_of ?l_round_of ?e_round_of ?k_round_of ?a_count_deeds ?l_count_deeds ?e_count_deeds ?k_count_deeds ?a_check_few ?l_check_few ?e_check_few ?k_check_few ?a_deeds_by_o ?l_deeds_by_o ?e_deeds_by_o ?k_deeds_by_o ?a_deeds_o ?l_deeds_o ?e_deeds_o ?k_deeds_o ?a_how_many_deeds ?l_how_many_deeds ?e_how_many_deeds ?k_how_many_deeds ?a_l_listed_right_e3bd ?l_l_listed_right_e3bd ?e_l_listed_right_e3bd ?k_l_listed_right_e3bd ?a_is_deed_by ?l_is_deed_by ?e_is_deed_by ?k_is_deed_by ?a_is_deed ?l_is_deed ?e_is_deed ?k_is_deed ?a_l_judged_right_ab6f ?l_l_judged_right_ab6f ?e_l_judged_right_ab6f ?k_l_judged_right_ab6f ?a_l_law_2aea ?l_l_law_2aea ?e_l_law_2aea ?k_l_law_2aea base Xb)
    (case n_abs => k_is)
    (case n_bool => k_is)
    (case n_int => k_is)
    (case n_isinstance => k_is)
    (case n_len => k_is)
    (case n_max => k_is)
    (case n_range => k_is)
    (case n_repr => k_is)
    (case n_sorted => k_is)
    (case n_sum => k_is)
    (case n_tuple => k_is)
    (case g_gcd => k_is)
    (case c_MOST_LISTED => k_is)
    (case a_l_cell_cf3b => k_is)
    (case l_l_cell_cf3b => k_is)
    (case e_l_cell_cf3b => k_is)
    (case k_l_cell_cf3b => k_is)
    (case a_l_generator_b324 => k_is)
    (case l_l_generator_b324 => k_is)
    (case e_l_generator_b324 => k_is)
    (case k_l_generator_b324 => k_is)
    (case a_l_hash_d8d1 => k_is)
    (case l_l_hash_d8d1 => k_is)
    (case e_l_hash_d8d1 => k_is)
    (case k_l_hash_d8d1 => k_is)
    (case a_l_random_7821 => k_is)
    (case l_l_random_7821 => k_is)
    (case e_l_random_7821 => k_is)
    (case k_l_random_7821 => k_is)
    (case a_l_divisor_b609 => k_is)
    (case l_l_divisor_b609 => k_is)
    (case e_l_divisor_b609 => k_is)
    (case k_l_divisor_b609 => k_is)
    (case a_l_is_cutting_a37b => k_is)
    (case l_l_is_cutting_a37b => k_is)
    (case e_l_is_cutting_a37b => k_is)
    (case k_l_is_cutting_a37b => k_is)
    (case a_l_with_a07e => k_is)
    (case l_l_with_a07e => k_is)
    (case e_l_with_a07e => k_is)
    (case k_l_with_a07e => k_is)
    (case a_l_cuttings_cac1 => k_is)
    (case l_l_cuttings_cac1 => k_is)
    (case e_l_cuttings_cac1 => k_is)
    (case k_l_cuttings_cac1 => k_is)
    (case a_l_small_f084 => k_is)
    (case l_l_small_f084 => k_is)
    (case e_l_small_f084 => k_is)
    (case k_l_small_f084 => k_is)
    (case a_l_allowed_c76c => k_is)
    (case l_l_allowed_c76c => k_is)
    (case e_l_allowed_c76c => k_is)
    (case k_l_allowed_c76c => k_is)
    (case a_l_deeds_faf6 => k_is)
    (case l_l_deeds_faf6 => k_is)
    (case e_l_deeds_faf6 => k_is)
    (case k_l_deeds_faf6 => k_is)
    (case a_is_whole => k_is)
    (case l_is_whole => k_is)
    (case e_is_whole => k_is)
    (case k_is_whole => k_is)
    (case a_common_by => k_is)
    (case l_common_by => k_is)
    (case e_common_by => k_is)
    (case k_common_by => k_is)
    (case a_is_cutting_by => k_is)
    (case l_is_cutting_by => k_is)
    (case e_is_cutting_by => k_is)
    (case k_is_cutting_by => k_is)
    (case a_check_cutting => k_is)
    (case l_check_cutting => k_is)
    (case e_check_cutting => k_is)
    (case k_check_cutting => k_is)
    (case a_allowed_by => k_is)
    (case l_allowed_by => k_is)
    (case e_allowed_by => k_is)
    (case k_allowed_by => k_is)
    (case a_free_count => k_is)
    (case l_free_count => k_is)
    (case e_free_count => k_is)
    (case k_free_count => k_is)
    (case a_round_of => k_is)
    (case l_round_of => k_is)
    (case e_round_of => k_is)
    (case k_round_of => k_is)
    (case a_count_deeds => k_is)
    (case l_count_deeds => k_is)
    (case e_count_deeds => k_is)
    (case k_count_deeds => k_is)
    (case a_check_few => k_is)
    (case l_check_few => k_is)
    (case e_check_few => k_is)
    (case k_check_few => k_is)
    (case a_deeds_by_o => k_is)
    (case l_deeds_by_o => k_is)
    (case e_deeds_by_o => k_is)
    (case k_deeds_by_o => k_is)
    (case a_deeds_o => k_is)
    (case l_deeds_o => k_is)
    (case e_deeds_o => k_is)
    (case k_deeds_o => k_is)
    (case a_how_many_deeds => k_is)
    (case l_how_many_deeds => k_is)
    (case e_how_many_deeds => k_is)
    (case k_how_many_deeds => k_is)
    (case a_l_listed_right_e3bd => k_is)
    (case l_l_listed_right_e3bd => k_is)
    (case e_l_listed_right_e3bd => k_is)
    (case k_l_listed_right_e3bd => k_is)
    (case a_is_deed_by => k_is)
    (case l_is_deed_by => k_is)
    (case e_is_deed_by => k_is)
    (case k_is_deed_by => k_is)
    (case a_is_deed => k_is)
    (case l_is_deed => k_is)
    (case e_is_deed => k_is)
    (case k_is_deed => k_is)
    (case a_l_judged_right_ab6f => k_is)
    (case l_l_judged_right_ab6f => k_is)
    (case e_l_judged_right_ab6f => k_is)
    (case k_l_judged_right_ab6f => k_is)
    (case a_l_law_2aea => k_is)
    (case l_l_law_2aea => k_is)
    (case e_l_law_2aea => k_is)
    (case k_l_law_2aea => k_is)
