import PyProof.Rows.All
import Wide.All
import OpenK.AllK
import Wide.FinOn
import HandS.ForMost
import HandS.Wide
import HandS.Flow
import HandS.Style
import HandS.Deep
import HandS.TupAny
import HandS.NoneIn
import HandS.IsInst
import HandS.WideBits
import HandS.Gcd
import HandS.Conv
import HandS.Zip
import PySem.Challenge.RW_slitsheets_k40_paths_and_their_crossings
set_option Elab.async false
set_option linter.all false
set_option maxRecDepth 100000
set_option maxHeartbeats 4000000
/-! DL1: data D, what represents it, the state of a def as plain data, the judgements -/
namespace DL
open PySem PySem.Spec PyProof.Rows L2

inductive D where
  | non
  | bl (b : Bool)
  | int (i : Int)
  | str (x : Str)
  | tup (l : List D)
  | lst (l : List D)
  | dct0
  | scr (ns : List Int)
  | own (k : Nat)
  | exc (C : Addr) (d : D)
  | val (v : V)

abbrev St := L2.St
abbrev Env := List (Option D)
inductive Own where
  | lst (ds : List D)
  | dead
abbrev Mem := List Own

/-- where the owned cells stand; the lists that are being made out of sight -/
structure Ph where
  cells : List Addr
  hid : List (Addr × HO)
abbrev Ph.add (ph : Ph) (p : Addr) : Ph := { ph with cells := ph.cells ++ [p] }
abbrev Ph.cut (ph : Ph) (n : Nat) : Ph := { ph with cells := ph.cells.take n }
/-- an exception object of the class at C with its own dict at dd -/
def ExcAt (a C dd : Addr) (h : Heap) : Prop := ∃ vs, h.get? a = some { cls := .ref C, dict := some dd, data := .fields vs }
abbrev fVal : Str := "value"
mutual
inductive Rep (K : PySem.W.Frag) (ph : Ph) (S : Hp) : V → D → Prop
  | non : Rep K ph S .non .non
  | bl (b : Bool) : Rep K ph S (.bl b) (.bl b)
  | int (i : Int) : Rep K ph S (.int i) (.int i)
  | str (x : Str) : Rep K ph S (.str x) (.str x)
  | tup {a : Addr} {xs : List V} {ds : List D} : S a = some (.tup xs) → RepAll K ph S xs ds → Rep K ph S (.ref a) (.tup ds)
  | lst {a : Addr} {xs : List V} {ds : List D} : S a = some (.lst xs) → RepAll K ph S xs ds → Rep K ph S (.ref a) (.lst ds)
  | scr {a : Addr} {ns : List Int} : SqL K S a (ns.map V.int) → Rep K ph S (.ref a) (.scr ns)
  | dct0 {a : Addr} : S a = some (.dK []) → Rep K ph S (.ref a) .dct0
  | own {a : Addr} {k : Nat} : ph.cells[k]? = some a → Rep K ph S (.ref a) (.own k)
  | exc {a C dd : Addr} {v : V} {d : D} : S a = some (.ext (ExcAt a C dd)) → S dd = some (.xd [(fVal, v)]) → Rep K ph S v d → Rep K ph S (.ref a) (.exc C d)
  | val (v : V) : Rep K ph S v (.val v)
inductive RepAll (K : PySem.W.Frag) (ph : Ph) (S : Hp) : List V → List D → Prop
  | nil : RepAll K ph S [] []
  | cons {v : V} {vs : List V} {d : D} {ds : List D} : Rep K ph S v d → RepAll K ph S vs ds → RepAll K ph S (v :: vs) (d :: ds)
end

structure Ext (ph : Ph) (S : Hp) (ph' : Ph) (S' : Hp) : Prop where
  pre : ∀ (k : Nat) (a : Addr), ph.cells[k]? = some a → ph'.cells[k]? = some a
  same : Same S S'
  hid : ph'.hid = ph.hid
theorem Ext.refl {ph : Ph} {S : Hp} : Ext ph S ph S := ⟨fun _ _ h => h, fun _ _ h => h, rfl⟩
theorem Ext.trans {ph ph1 ph2 : Ph} {S S1 S2 : Hp} (a : Ext ph S ph1 S1) (b : Ext ph1 S1 ph2 S2) : Ext ph S ph2 S2 :=
  ⟨fun k x h => b.pre k x (a.pre k x h), a.same.trans b.same, b.hid.trans a.hid⟩
section
variable {K : PySem.W.Frag} {ph ph' : Ph} {S S' : Hp}
mutual
theorem Rep.ext (x : Ext ph S ph' S') : ∀ (d : D) (v : V), Rep K ph S v d → Rep K ph' S' v d
  | .non, _, h => by cases h; exact .non
  | .bl _, _, h => by cases h; exact .bl _
  | .int _, _, h => by cases h; exact .int _
  | .str _, _, h => by cases h; exact .str _
  | .tup ds, _, h => by
    cases h with
    | tup h1 h2 => exact .tup (x.same _ _ h1) (RepAll.ext x ds _ h2)
  | .lst ds, _, h => by
    cases h with
    | lst h1 h2 => exact .lst (x.same _ _ h1) (RepAll.ext x ds _ h2)
  | .dct0, _, h => by
    cases h with
    | dct0 h1 => exact .dct0 (x.same _ _ h1)
  | .scr ns, _, h => by
    cases h with
    | scr h1 => exact .scr (x.same.seq h1)
  | .own k, _, h => by
    cases h with
    | own h1 => exact .own (x.pre _ _ h1)
  | .exc C d, _, h => by
    cases h with
    | exc h1 h2 h3 => exact .exc (x.same _ _ h1) (x.same _ _ h2) (Rep.ext x d _ h3)
  | .val v, _, h => by cases h; exact .val _
theorem RepAll.ext (x : Ext ph S ph' S') : ∀ (ds : List D) (vs : List V), RepAll K ph S vs ds → RepAll K ph' S' vs ds
  | [], _, h => by cases h; exact .nil
  | d :: ds, _, h => by
    cases h with
    | cons h1 h2 => exact .cons (Rep.ext x d _ h1) (RepAll.ext x ds _ h2)
end
theorem Rep.up {d : D} {v : V} (h : Rep K ph S v d) (x : Ext ph S ph' S') : Rep K ph' S' v d := Rep.ext x d v h
theorem RepAll.up {ds : List D} {vs : List V} (h : RepAll K ph S vs ds) (x : Ext ph S ph' S') : RepAll K ph' S' vs ds := RepAll.ext x ds vs h
theorem RepAll.len : ∀ {vs : List V} {ds : List D}, RepAll K ph S vs ds → vs.length = ds.length
  | _, _, .nil => rfl
  | _, _, .cons _ t => by rw [List.length_cons, List.length_cons, RepAll.len t]
theorem RepAll.get : ∀ {vs : List V} {ds : List D} {i : Nat} {d : D}, RepAll K ph S vs ds → ds[i]? = some d → ∃ v, vs[i]? = some v ∧ Rep K ph S v d
  | _, _, _, _, .nil, e => by simp at e
  | _, _, 0, _, .cons r _, e => by simp at e; subst e; exact ⟨_, rfl, r⟩
  | _, _, i + 1, _, .cons _ t, e => by
    obtain ⟨v, e1, r⟩ := RepAll.get (i := i) t (by simpa using e)
    exact ⟨v, by simpa using e1, r⟩
theorem RepAll.getV : ∀ {vs : List V} {ds : List D} {i : Nat} {v : V}, RepAll K ph S vs ds → vs[i]? = some v → ∃ d, ds[i]? = some d ∧ Rep K ph S v d
  | _, _, _, _, .nil, e => by simp at e
  | _, _, 0, _, .cons r _, e => by simp at e; subst e; exact ⟨_, rfl, r⟩
  | _, _, i + 1, _, .cons _ t, e => by
    obtain ⟨v, e1, r⟩ := RepAll.getV (i := i) t (by simpa using e)
    exact ⟨v, by simpa using e1, r⟩
theorem RepAll.app : ∀ {vs ws : List V} {ds es : List D}, RepAll K ph S vs ds → RepAll K ph S ws es → RepAll K ph S (vs ++ ws) (ds ++ es)
  | _, _, _, _, .nil, q => q
  | _, _, _, _, .cons r t, q => .cons r (RepAll.app t q)
theorem RepAll.take : ∀ {vs : List V} {ds : List D} (n : Nat), RepAll K ph S vs ds → RepAll K ph S (vs.take n) (ds.take n)
  | _, _, 0, _ => .nil
  | _, _, _ + 1, .nil => .nil
  | _, _, n + 1, .cons r t => .cons r (RepAll.take n t)
theorem RepAll.drop : ∀ {vs : List V} {ds : List D} (n : Nat), RepAll K ph S vs ds → RepAll K ph S (vs.drop n) (ds.drop n)
  | _, _, 0, r => r
  | _, _, _ + 1, .nil => .nil
  | _, _, n + 1, .cons r t => RepAll.drop n t
theorem RepAll.rev : ∀ {vs : List V} {ds : List D}, RepAll K ph S vs ds → RepAll K ph S vs.reverse ds.reverse
  | _, _, .nil => .nil
  | _, _, .cons r t => by
    rw [List.reverse_cons, List.reverse_cons]
    exact (RepAll.rev t).app (.cons r .nil)
theorem RepAll.set {v : V} {d : D} (r : Rep K ph S v d) : ∀ {vs : List V} {ds : List D} (i : Nat), RepAll K ph S vs ds → RepAll K ph S (vs.set i v) (ds.set i d)
  | _, _, _, .nil => .nil
  | _, _, 0, .cons _ t => .cons r t
  | _, _, i + 1, .cons q t => .cons q (RepAll.set r i t)
theorem RepAll.rep {v : V} {d : D} (r : Rep K ph S v d) : ∀ n : Nat, RepAll K ph S (List.replicate n v) (List.replicate n d)
  | 0 => .nil
  | n + 1 => .cons r (RepAll.rep r n)
theorem RepAll.ints : ∀ ns : List Int, RepAll K ph S (ns.map V.int) (ns.map D.int)
  | [] => .nil
  | n :: ns => .cons (.int n) (RepAll.ints ns)
end

/-- the state (σ, H) is told by the names' data ρ and the owned cells M -/
structure Sat (K : PySem.W.Frag) (ph : Ph) (S : Hp) (r : Env) (M : Mem) (σ : St) (H : Hp) : Prop where
  sub : Same S H
  len : ph.cells.length = M.length
  nd : ph.cells.Nodup
  trk : ∀ (k : Nat) (a : Addr), ph.cells[k]? = some a → ∃ o, H a = some o
  cell : ∀ (k : Nat) (ds : List D), M[k]? = some (.lst ds) → ∃ a xs, ph.cells[k]? = some a ∧ S a = none ∧ H a = some (.lst xs) ∧ RepAll K ph S xs ds
  hid : ∀ p ∈ ph.hid, H p.1 = some p.2 ∧ S p.1 = none ∧ p.1 ∉ ph.cells
  hnd : (ph.hid.map (·.1)).Nodup
  el : r.length = σ.length
  env : ∀ (i : Nat) (d : D), r[i]? = some (some d) → ∃ v, σ[i]? = some (some v) ∧ Rep K ph S v d

abbrev DQ := D → Mem → Prop
abbrev DTE := Env → Mem → DQ → Prop
abbrev DTT := Env → Mem → (Bool → Mem → Prop) → Prop
abbrev DTA := Env → Mem → (List D → Mem → Prop) → Prop
structure DEnds where
  nx : Env → Mem → Prop
  rt : DQ
  bk : Env → Mem → Prop := fun _ _ => False
  ct : Env → Mem → Prop := fun _ _ => False
abbrev DTS := DEnds → Env → Mem → Prop

/-- behind a piece, from (ph, S): the state as it is then, and what is wanted of it -/
def Aft (K : PySem.W.Frag) (ph : Ph) (S : Hp) (r : Env) (σ : St) (H : Hp) (Q : Ph → Hp → Mem → Prop) : Prop :=
  ∃ ph' S' M, Ext ph S ph' S' ∧ Sat K ph' S' r M σ H ∧ Q ph' S' M
def post (K : PySem.W.Frag) (ph : Ph) (S : Hp) (r : Env) (σ : St) (Q : DQ) : VK := fun v H => Aft K ph S r σ H fun ph' S' M => ∃ d, Rep K ph' S' v d ∧ Q d M
def postT (K : PySem.W.Frag) (ph : Ph) (S : Hp) (r : Env) (σ : St) (Q : Bool → Mem → Prop) : Bool → Hp → Prop := fun b H => Aft K ph S r σ H fun _ _ M => Q b M
def postA (K : PySem.W.Frag) (ph : Ph) (S : Hp) (r : Env) (σ : St) (Q : List D → Mem → Prop) : List V → Hp → Prop := fun vs H => Aft K ph S r σ H fun ph' S' M => ∃ ds, RepAll K ph' S' vs ds ∧ Q ds M
def postN (K : PySem.W.Frag) (ph : Ph) (S : Hp) (Q : Env → Mem → Prop) : St → Hp → Prop := fun σ H => ∃ r, Aft K ph S r σ H fun _ _ M => Q r M
/-- behind a return the names are gone -/
def postR (K : PySem.W.Frag) (ph : Ph) (S : Hp) (Q : DQ) : VK := fun v H => ∃ r σ, post K ph S r σ Q v H
def ends (K : PySem.W.Frag) (ph : Ph) (S : Hp) (E : DEnds) : Ends where
  nx := postN K ph S E.nx
  rt := postR K ph S E.rt
  bk := postN K ph S E.bk
  ct := postN K ph S E.ct

structure DE (X : Cx) (e : Expr) (t : DTE) : Prop where
  pe : PE X e (fun σ H Q => ∃ ph S r M Q0, Sat X.K ph S r M σ H ∧ t r M Q0 ∧ ∀ v H', post X.K ph S r σ Q0 v H' → Q v H')
structure DT (X : Cx) (e : Expr) (t : DTT) : Prop where
  pt : PT X e (fun σ H Q => ∃ ph S r M Q0, Sat X.K ph S r M σ H ∧ t r M Q0 ∧ ∀ b H', postT X.K ph S r σ Q0 b H' → Q b H')
structure DW (X : Cx) (e : Expr) (t : DTT) : Prop where
  pw : PW X e (fun σ H Q => ∃ ph S r M Q0, Sat X.K ph S r M σ H ∧ t r M Q0 ∧ ∀ b H', postT X.K ph S r σ Q0 b H' → Q b H')
structure DA (X : Cx) (es : List Expr) (t : DTA) : Prop where
  pa : PA X es (fun σ H Q => ∃ ph S r M Q0, Sat X.K ph S r M σ H ∧ t r M Q0 ∧ ∀ vs H', postA X.K ph S r σ Q0 vs H' → Q vs H')
def lfS (K : PySem.W.Frag) (t : DTS) : TS := fun E σ H => ∃ ph S r M E0, Sat K ph S r M σ H ∧ t E0 r M ∧ (∀ σ' H', postN K ph S E0.nx σ' H' → E.nx σ' H') ∧ (∀ v H', postR K ph S E0.rt v H' → E.rt v H') ∧ (∀ σ' H', postN K ph S E0.bk σ' H' → E.bk σ' H') ∧ (∀ σ' H', postN K ph S E0.ct σ' H' → E.ct σ' H')
structure DS (X : Cx) (st : Stmt) (t : DTS) : Prop where
  ps : PS X st (lfS X.K t)
structure DSs (X : Cx) (sts : List Stmt) (t : DTS) : Prop where
  pss : PSs X sts (lfS X.K t)

/-! ### weakening the hand layer's judgements -/
section
variable {X : Cx}
theorem PE.weak {e : Expr} {t t' : TE} (h : PE X e t) (w : ∀ σ H Q, t' σ H Q → t σ H Q) : PE X e t' := ⟨fun pins s σ H Q I q => h.run pins s σ H Q I (w _ _ _ q)⟩
theorem PT.weak {e : Expr} {t t' : TT} (h : PT X e t) (w : ∀ σ H Q, t' σ H Q → t σ H Q) : PT X e t' := ⟨fun pins s σ H Q I q => h.run pins s σ H Q I (w _ _ _ q)⟩
theorem PW.weak {e : Expr} {t t' : TT} (h : PW X e t) (w : ∀ σ H Q, t' σ H Q → t σ H Q) : PW X e t' := ⟨fun wh pins s σ H Q I q => h.run wh pins s σ H Q I (w _ _ _ q)⟩
theorem PA.weak {e : List Expr} {t t' : TA} (h : PA X e t) (w : ∀ σ H Q, t' σ H Q → t σ H Q) : PA X e t' := ⟨fun pos pins s σ H Q I q => h.run pos pins s σ H Q I (w _ _ _ q)⟩
theorem PS.weak {e : Stmt} {t t' : TS} (h : PS X e t) (w : ∀ E σ H, t' E σ H → t E σ H) : PS X e t' := ⟨fun pins s σ H Q I q => h.run pins s σ H Q I (w _ _ _ q)⟩
theorem PSs.weak {e : List Stmt} {t t' : TS} (h : PSs X e t) (w : ∀ E σ H, t' E σ H → t E σ H) : PSs X e t' := ⟨fun pins s σ H Q I q => h.run pins s σ H Q I (w _ _ _ q)⟩
/-- from a rule of the hand layer -/
theorem DE.of {e : Expr} {t' : TE} {t : DTE} (h : PE X e t') (w : ∀ ph S r M σ H Q, Sat X.K ph S r M σ H → t r M Q → ∀ Q', (∀ v H', post X.K ph S r σ Q v H' → Q' v H') → t' σ H Q') : DE X e t :=
  ⟨PE.weak h fun σ H Q ⟨ph, S, r, M, Q0, hs, ht, hq⟩ => w ph S r M σ H Q0 hs ht Q hq⟩
theorem DT.of {e : Expr} {t' : TT} {t : DTT} (h : PT X e t') (w : ∀ ph S r M σ H Q, Sat X.K ph S r M σ H → t r M Q → ∀ Q', (∀ v H', postT X.K ph S r σ Q v H' → Q' v H') → t' σ H Q') : DT X e t :=
  ⟨PT.weak h fun σ H Q ⟨ph, S, r, M, Q0, hs, ht, hq⟩ => w ph S r M σ H Q0 hs ht Q hq⟩
theorem DW.of {e : Expr} {t' : TT} {t : DTT} (h : PW X e t') (w : ∀ ph S r M σ H Q, Sat X.K ph S r M σ H → t r M Q → ∀ Q', (∀ v H', postT X.K ph S r σ Q v H' → Q' v H') → t' σ H Q') : DW X e t :=
  ⟨PW.weak h fun σ H Q ⟨ph, S, r, M, Q0, hs, ht, hq⟩ => w ph S r M σ H Q0 hs ht Q hq⟩
theorem DA.of {e : List Expr} {t' : TA} {t : DTA} (h : PA X e t') (w : ∀ ph S r M σ H Q, Sat X.K ph S r M σ H → t r M Q → ∀ Q', (∀ v H', postA X.K ph S r σ Q v H' → Q' v H') → t' σ H Q') : DA X e t :=
  ⟨PA.weak h fun σ H Q ⟨ph, S, r, M, Q0, hs, ht, hq⟩ => w ph S r M σ H Q0 hs ht Q hq⟩

/-- the end of a reading: this value, this state -/
theorem Aft.here {K : PySem.W.Frag} {ph : Ph} {S : Hp} {r : Env} {σ : St} {H : Hp} {M : Mem} {Q : Ph → Hp → Mem → Prop} (h : Sat K ph S r M σ H) (q : Q ph S M) : Aft K ph S r σ H Q := ⟨ph, S, M, .refl, h, q⟩
theorem Aft.up {K : PySem.W.Frag} {ph ph1 : Ph} {S S1 : Hp} {r : Env} {σ : St} {H : Hp} {Q : Ph → Hp → Mem → Prop} (x : Ext ph S ph1 S1) (h : Aft K ph1 S1 r σ H Q) : Aft K ph S r σ H Q :=
  let ⟨ph', S', M, x', hs, q⟩ := h
  ⟨ph', S', M, x.trans x', hs, q⟩

/-! ### the simplest expressions -/
def dC (d : D) : DTE := fun _ M Q => Q d M
theorem de_c {e : Expr} {v : V} {d : D} (h : PE X e (tC v)) (hr : ∀ ph S, Rep X.K ph S v d) : DE X e (dC d) :=
  DE.of h fun ph S r M σ H Q hs ht Q' hq => hq _ _ (Aft.here hs ⟨d, hr _ _, ht⟩)
theorem de_int {i j pos} : DE X (.Constant (.int i) j pos) (dC (.int i)) := de_c pe_int fun _ _ => .int _
theorem de_bl {b j pos} : DE X (.Constant (.bool b) j pos) (dC (.bl b)) := de_c pe_bl fun _ _ => .bl _
theorem de_non {j pos} : DE X (.Constant .none j pos) (dC .non) := de_c pe_non fun _ _ => .non
theorem de_str {x j pos} : DE X (.Constant (.str x) j pos) (dC (.str x)) := de_c pe_str fun _ _ => .str _
def rd (r : Env) (i : Nat) : Option D := (r[i]?).join
def dVar (i : Nat) : DTE := fun r M Q => match r[i]? with
  | some (some d) => Q d M
  | _ => False
theorem de_var {e : Expr} (i : Nat) (h : PE X e (tVar i)) : DE X e (dVar i) :=
  DE.of h fun ph S r M σ H Q hs ht Q' hq => by
    unfold dVar at ht
    split at ht
    · rename_i d e
      obtain ⟨v, e1, rv⟩ := hs.env i d e
      exact ⟨v, e1, hq _ _ (Aft.here hs ⟨d, rv, ht⟩)⟩
    · exact ht.elim
/-- the name in slot i -/
theorem dv (i : Nat) {x : Str} {pos : Pos} (hN : X.N[i]? = some x := by rfl) (hv : Vis X.env.scope x := by first | exact Or.inl rfl | exact Or.inr (Or.inl rfl) | exact Or.inr (Or.inr rfl)) (hd : (x == ("__debug__" : Str)) = false := by decide)
    (hcd : (x == ("__classdict__" : Str)) = false := by decide) : DE X (.Name x pos) (dVar i) := de_var i (pe_var hN hv hd hcd)
/-- a global's value as a value -/
theorem de_glob {x : Str} {v : V} {u : Value} {pos : Pos} (hg : Gl X x) (hm : X.mg x = some u) (r : RelV v u) (hd : (x == ("__debug__" : Str)) = false := by decide) : DE X (.Name x pos) (dC (.val v)) :=
  de_c (pe_glob hg hm r hd) fun _ _ => .val _
theorem de_globI {x : Str} {i : Int} {t : Tok} {pos : Pos} (hg : Gl X x) (hm : X.mg x = some (.int i t)) (hd : (x == ("__debug__" : Str)) = false := by decide) : DE X (.Name x pos) (dC (.int i)) :=
  de_c (pe_glob (v := .int i) hg hm ⟨t, rfl⟩ hd) fun _ _ => .int _
end
end DL
/-! DL2: heaps that change; data as PyData; operators -/
namespace DL
open PySem PySem.Spec PyProof.Rows L2

mutual
def toPy : D → Option PyData
  | .non => some .none
  | .bl b => some (.bool b)
  | .int i => some (.int i)
  | .str x => some (.str x)
  | .tup l => match toPyAll l with
    | some ps => some (.tuple ps)
    | none => none
  | .lst l => match toPyAll l with
    | some ps => some (.list ps)
    | none => none
  | .dct0 => some (.dict [])
  | .scr _ => none
  | .own _ => none
  | .exc _ _ => none
  | .val _ => none
def toPyAll : List D → Option (List PyData)
  | [] => some []
  | d :: ds => match toPy d, toPyAll ds with
    | some p, some ps => some (p :: ps)
    | _, _ => none
end

section
variable {K : PySem.W.Frag} {ph ph' : Ph} {S S' : Hp} {r : Env} {M : Mem} {σ : St} {H : Hp} {p : Addr}

mutual
theorem Rep.hidP {c : List Addr} {l l' : List (Addr × HO)} : ∀ (d : D) (v : V), Rep K ⟨c, l⟩ S v d → Rep K ⟨c, l'⟩ S v d
  | .non, _, h => by cases h; exact .non
  | .bl _, _, h => by cases h; exact .bl _
  | .int _, _, h => by cases h; exact .int _
  | .str _, _, h => by cases h; exact .str _
  | .tup ds, _, h => by
    cases h with
    | tup h1 h2 => exact .tup h1 (RepAll.hidP ds _ h2)
  | .lst ds, _, h => by
    cases h with
    | lst h1 h2 => exact .lst h1 (RepAll.hidP ds _ h2)
  | .dct0, _, h => by
    cases h with
    | dct0 h1 => exact .dct0 h1
  | .scr ns, _, h => by
    cases h with
    | scr h1 => exact .scr h1
  | .own k, _, h => by
    cases h with
    | own h1 => exact .own h1
  | .exc C d, _, h => by
    cases h with
    | exc h1 h2 h3 => exact .exc h1 h2 (Rep.hidP d _ h3)
  | .val v, _, h => by cases h; exact .val _
theorem RepAll.hidP {c : List Addr} {l l' : List (Addr × HO)} : ∀ (ds : List D) (vs : List V), RepAll K ⟨c, l⟩ S vs ds → RepAll K ⟨c, l'⟩ S vs ds
  | [], _, h => by cases h; exact .nil
  | d :: ds, _, h => by
    cases h with
    | cons h1 h2 => exact .cons (Rep.hidP d _ h1) (RepAll.hidP ds _ h2)
end
theorem Rep.hid {c : List Addr} {l l' : List (Addr × HO)} {d : D} {v : V} (h : Rep K ⟨c, l⟩ S v d) : Rep K ⟨c, l'⟩ S v d := Rep.hidP d v h
theorem RepAll.hid {c : List Addr} {l l' : List (Addr × HO)} {d : List D} {v : List V} (h : RepAll K ⟨c, l⟩ S v d) : RepAll K ⟨c, l'⟩ S v d := RepAll.hidP d v h
theorem Sat.read {d : D} {v : V} (h : Sat K ph S r M σ H) (q : Rep K ph S v d) : Rep K ph H v d := q.up ⟨fun _ _ e => e, h.sub, rfl⟩
theorem Sat.readAll {d : List D} {v : List V} (h : Sat K ph S r M σ H) (q : RepAll K ph S v d) : RepAll K ph H v d := q.up ⟨fun _ _ e => e, h.sub, rfl⟩
theorem Sat.noS (h : Sat K ph S r M σ H) (hp : H p = none) : S p = none := h.sub.free hp
theorem Sat.notin (h : Sat K ph S r M σ H) (hp : H p = none) : ∀ (k : Nat), ph.cells[k]? ≠ some p := fun k e => by
  obtain ⟨o, ho⟩ := h.trk k p e
  rw [hp] at ho; cases ho
theorem sameUpd {p : Addr} {o : HO} (h : H p = none) : Same H (upd H p o) := fun b x e => by
  rw [upd_ne (ne_of_none e h)]
  exact e
/-- a new object that is only read -/
theorem Sat.frz (h : Sat K ph S r M σ H) (hp : H p = none) (o : HO) : Ext ph S ph (upd S p o) ∧ Sat K ph (upd S p o) r M σ (upd H p o) := by
  have x : Ext ph S ph (upd S p o) := ⟨fun _ _ e => e, sameUpd (h.noS hp), rfl⟩
  refine ⟨x, fun b y e => ?_, h.len, h.nd, fun k a e => ?_, fun k ds e => ?_, fun q hq => ?_, h.hnd, h.el, fun i d e => ?_⟩
  · by_cases hb : b = p
    · rw [hb, upd_same] at e ⊢
      exact e
    · rw [upd_ne hb] at e ⊢
      exact h.sub b y e
  · obtain ⟨u, hu⟩ := h.trk k a e
    exact ⟨u, sameUpd hp _ _ hu⟩
  · obtain ⟨a, xs, h1, h2, h3, h4⟩ := h.cell k ds e
    have ne : a ≠ p := fun z => by rw [z, hp] at h3; cases h3
    refine ⟨a, xs, h1, ?_, ?_, h4.up x⟩
    · rw [upd_ne ne]; exact h2
    · rw [upd_ne ne]; exact h3
  · obtain ⟨h1, h2, h3⟩ := h.hid q hq
    have ne : q.1 ≠ p := fun z => by rw [z, hp] at h1; cases h1
    exact ⟨by rw [upd_ne ne]; exact h1, by rw [upd_ne ne]; exact h2, h3⟩
  · obtain ⟨v, e1, q⟩ := h.env i d e
    exact ⟨v, e1, q.up x⟩
/-- a new list that may be changed -/
theorem Sat.new (h : Sat K ph S r M σ H) (hp : H p = none) {xs : List V} {ds : List D} (hr : RepAll K ph S xs ds) :
    Ext ph S (ph.add p) S ∧ Sat K (ph.add p) S r (M ++ [.lst ds]) σ (upd H p (.lst xs)) ∧ (ph.add p).cells[M.length]? = some p := by
  have x : Ext ph S (ph.add p) S := ⟨fun k a e => by
    rw [List.getElem?_append_left (List.getElem?_eq_some_iff.mp e).1]; exact e, fun _ _ e => e, rfl⟩
  have here : (ph.add p).cells[M.length]? = some p := by
    rw [← h.len, List.getElem?_append_right (Nat.le_refl _), Nat.sub_self]; rfl
  have old : ∀ (k : Nat) (a : Addr), (ph.add p).cells[k]? = some a → ph.cells[k]? = some a ∨ (k = ph.cells.length ∧ a = p) := fun k a e => by
    by_cases hk : k < ph.cells.length
    · rw [List.getElem?_append_left hk] at e
      exact .inl e
    · rw [List.getElem?_append_right (by omega)] at e
      cases hk' : k - ph.cells.length with
      | zero =>
        rw [hk'] at e
        exact .inr ⟨by omega, (Option.some.inj e).symm⟩
      | succ n => rw [hk'] at e; simp at e
  refine ⟨x, ⟨fun b y e => sameUpd hp _ _ (h.sub b y e), by rw [List.length_append, List.length_append, h.len]; rfl, ?_, fun k a e => ?_, fun k es e => ?_, fun q hq => ?_, h.hnd, h.el, fun i d e => ?_⟩, here⟩
  · rw [List.nodup_append]
    refine ⟨h.nd, by simp, fun a ha b hb z => ?_⟩
    have hb' : b = p := by simpa using hb
    obtain ⟨k, hk⟩ := List.mem_iff_getElem?.mp ha
    exact h.notin hp k (by rw [hk, z, hb'])
  · rcases old k a e with q | ⟨_, q⟩
    · obtain ⟨u, hu⟩ := h.trk k a q
      exact ⟨u, sameUpd hp _ _ hu⟩
    · exact ⟨_, by rw [q, upd_same]⟩
  · by_cases hk : k < M.length
    · rw [List.getElem?_append_left hk] at e
      obtain ⟨a, ys, h1, h2, h3, h4⟩ := h.cell k es e
      exact ⟨a, ys, x.pre _ _ h1, h2, sameUpd hp _ _ h3, h4.up x⟩
    · rw [List.getElem?_append_right (by omega)] at e
      cases hk' : k - M.length with
      | succ n => rw [hk'] at e; simp at e
      | zero =>
        rw [hk'] at e
        have e' : ds = es := by simpa using e
        have k' : k = M.length := by omega
        subst e'
        subst k'
        exact ⟨p, xs, here, h.noS hp, upd_same, hr.up x⟩
  · obtain ⟨h1, h2, h3⟩ := h.hid q hq
    have ne : q.1 ≠ p := fun z => by rw [z, hp] at h1; cases h1
    exact ⟨by rw [upd_ne ne]; exact h1, h2, fun z => (List.mem_append.mp z).elim h3 fun z => ne (by simpa using z)⟩
  · obtain ⟨v, e1, q⟩ := h.env i d e
    exact ⟨v, e1, q.up x⟩
theorem nd_ix {l : List Addr} (hN : l.Nodup) {i j : Nat} {x : Addr} (a : l[i]? = some x) (b : l[j]? = some x) : i = j := by
  obtain ⟨h1, e1⟩ := List.getElem?_eq_some_iff.mp a
  obtain ⟨h2, e2⟩ := List.getElem?_eq_some_iff.mp b
  exact (List.getElem_inj hN).mp (e1.trans e2.symm)
/-- an owned list is changed -/
theorem Sat.put (h : Sat K ph S r M σ H) {k : Nat} {ds es : List D} {xs : List V} (hk : M[k]? = some (.lst ds)) {a : Addr} (ha : ph.cells[k]? = some a) (hr : RepAll K ph S xs es) :
    Sat K ph S r (M.set k (.lst es)) σ (upd H a (.lst xs)) := by
  obtain ⟨a', ys, h1, h2, h3, h4⟩ := h.cell k ds hk
  rw [ha] at h1
  cases h1
  have kl : k < M.length := (List.getElem?_eq_some_iff.mp hk).1
  refine ⟨fun b y e => ?_, by rw [List.length_set]; exact h.len, h.nd, fun j b e => ?_, fun j fs e => ?_, fun q hq => ?_, h.hnd, h.el, h.env⟩
  · rw [upd_ne (fun z => by rw [z, h2] at e; cases e)]
    exact h.sub b y e
  · by_cases hb : b = a
    · exact ⟨_, by rw [hb, upd_same]⟩
    · rw [upd_ne hb]; exact h.trk j b e
  · by_cases hj : j = k
    · subst hj
      rw [List.getElem?_set_self kl] at e
      cases e
      exact ⟨a, xs, ha, h2, upd_same, hr⟩
    · rw [List.getElem?_set_ne (Ne.symm hj)] at e
      obtain ⟨b, zs, q1, q2, q3, q4⟩ := h.cell j fs e
      have nb : b ≠ a := fun z => by rw [z] at q1; exact hj (nd_ix h.nd q1 ha)
      exact ⟨b, zs, q1, q2, by rw [upd_ne nb]; exact q3, q4⟩
  · obtain ⟨h1, h2, h3⟩ := h.hid q hq
    have ne : q.1 ≠ a := fun z => h3 (by rw [z]; exact List.mem_of_getElem? ha)
    exact ⟨by rw [upd_ne ne]; exact h1, h2, h3⟩
/-- an owned list is changed no more -/
theorem Sat.freeze (h : Sat K ph S r M σ H) {k : Nat} {ds : List D} (hk : M[k]? = some (.lst ds)) :
    ∃ a xs, ph.cells[k]? = some a ∧ Ext ph S ph (upd S a (.lst xs)) ∧ Sat K ph (upd S a (.lst xs)) r (M.set k .dead) σ H ∧ Rep K ph (upd S a (.lst xs)) (.ref a) (.lst ds) := by
  obtain ⟨a, xs, h1, h2, h3, h4⟩ := h.cell k ds hk
  have x : Ext ph S ph (upd S a (.lst xs)) := ⟨fun _ _ e => e, sameUpd h2, rfl⟩
  refine ⟨a, xs, h1, x, ⟨fun b y e => ?_, by rw [List.length_set]; exact h.len, h.nd, h.trk, fun j fs e => ?_, fun q hq => ?_, h.hnd, h.el, fun i d e => ?_⟩, .lst upd_same (h4.up x)⟩
  · by_cases hb : b = a
    · rw [hb, upd_same] at e
      rw [hb, ← e]; exact h3
    · rw [upd_ne hb] at e
      exact h.sub b y e
  · have kl : k < M.length := (List.getElem?_eq_some_iff.mp hk).1
    by_cases hj : j = k
    · subst hj
      rw [List.getElem?_set_self kl] at e
      cases e
    · rw [List.getElem?_set_ne (Ne.symm hj)] at e
      obtain ⟨b, zs, q1, q2, q3, q4⟩ := h.cell j fs e
      have nb : b ≠ a := fun z => by rw [z] at q1; exact hj (nd_ix h.nd q1 h1)
      exact ⟨b, zs, q1, by rw [upd_ne nb]; exact q2, q3, q4.up x⟩
  · obtain ⟨g1, g2, g3⟩ := h.hid q hq
    have ne : q.1 ≠ a := fun z => g3 (by rw [z]; exact List.mem_of_getElem? h1)
    exact ⟨g1, by rw [upd_ne ne]; exact g2, g3⟩
  · obtain ⟨v, e1, q⟩ := h.env i d e
    exact ⟨v, e1, q.up x⟩
/-- the names change -/
theorem Sat.setN (h : Sat K ph S r M σ H) {i : Nat} {d : D} {v : V} (q : Rep K ph S v d) : Sat K ph S (r.set i (some d)) M (σ.set i (some v)) H := by
  refine ⟨h.sub, h.len, h.nd, h.trk, h.cell, h.hid, h.hnd, by rw [List.length_set, List.length_set]; exact h.el, fun j e hj => ?_⟩
  by_cases hi : j = i
  · subst hi
    have jl : j < r.length := by
      have := (List.getElem?_eq_some_iff.mp hj).1
      rwa [List.length_set] at this
    rw [List.getElem?_set_self jl] at hj
    cases hj
    exact ⟨v, by rw [List.getElem?_set_self (by rw [← h.el]; exact jl)], q⟩
  · rw [List.getElem?_set_ne (Ne.symm hi)] at hj
    rw [List.getElem?_set_ne (Ne.symm hi)]
    exact h.env j e hj

/-- a new list, out of sight while it is made -/
theorem Sat.hide (h : Sat K ph S r M σ H) (hp : H p = none) (o : HO) : Sat K { ph with hid := (p, o) :: ph.hid } S r M σ (upd H p o) := by
  refine ⟨fun b y e => sameUpd hp _ _ (h.sub b y e), h.len, h.nd, fun k a e => ?_, fun k ds e => ?_, fun q hq => ?_, ?_, h.el, fun i d e => ?_⟩
  · obtain ⟨u, hu⟩ := h.trk k a e
    exact ⟨u, sameUpd hp _ _ hu⟩
  · obtain ⟨a, xs, h1, h2, h3, h4⟩ := h.cell k ds e
    exact ⟨a, xs, h1, h2, sameUpd hp _ _ h3, RepAll.hid h4⟩
  · rcases List.mem_cons.mp hq with e | hq
    · rw [e]
      exact ⟨upd_same, h.noS hp, fun z => by
        obtain ⟨k, hk⟩ := List.mem_iff_getElem?.mp z
        exact h.notin hp k hk⟩
    · obtain ⟨h1, h2, h3⟩ := h.hid q hq
      exact ⟨sameUpd hp _ _ h1, h2, h3⟩
  · refine List.nodup_cons.mpr ⟨fun z => ?_, h.hnd⟩
    obtain ⟨q, hq, e⟩ := List.mem_map.mp z
    obtain ⟨h1, _, _⟩ := h.hid q hq
    have e' : q.1 = p := e
    rw [e', hp] at h1; cases h1
  · obtain ⟨v, e1, q⟩ := h.env i d e
    exact ⟨v, e1, Rep.hid q⟩
theorem hid_ne {p : Addr} {o : HO} {l : List (Addr × HO)} (h : ((p, o) :: l).map (·.1) |>.Nodup) : ∀ q ∈ l, q.1 ≠ p := fun q hq e =>
  (List.nodup_cons.mp h).1 (List.mem_map.mpr ⟨q, hq, e⟩)
/-- the hidden list changes -/
theorem Sat.hset {o o' : HO} {l : List (Addr × HO)} {c : List Addr} (h : Sat K ⟨c, (p, o) :: l⟩ S r M σ H) : Sat K ⟨c, (p, o') :: l⟩ S r M σ (upd H p o') := by
  obtain ⟨g1, g2, g3⟩ := h.hid _ List.mem_cons_self
  have nS : ∀ b y, S b = some y → b ≠ p := fun b y e z => by rw [z, g2] at e; cases e
  have nc : ∀ (k : Nat) (a : Addr), c[k]? = some a → a ≠ p := fun k a e z => g3 (by rw [← z]; exact List.mem_of_getElem? e)
  refine ⟨fun b y e => by rw [upd_ne (nS b y e)]; exact h.sub b y e, h.len, h.nd, fun k a e => ?_, fun k ds e => ?_, fun q hq => ?_, h.hnd, h.el, fun i d e => ?_⟩
  · obtain ⟨u, hu⟩ := h.trk k a e
    exact ⟨u, by rw [upd_ne (nc k a e)]; exact hu⟩
  · obtain ⟨a, xs, h1, h2, h3, h4⟩ := h.cell k ds e
    exact ⟨a, xs, h1, h2, by rw [upd_ne (nc k a h1)]; exact h3, RepAll.hid h4⟩
  · rcases List.mem_cons.mp hq with e | hq
    · rw [e]
      exact ⟨upd_same, g2, g3⟩
    · obtain ⟨h1, h2, h3⟩ := h.hid q (List.mem_cons_of_mem _ hq)
      exact ⟨by rw [upd_ne (hid_ne h.hnd q hq)]; exact h1, h2, h3⟩
  · obtain ⟨v, e1, q⟩ := h.env i d e
    exact ⟨v, e1, Rep.hid q⟩
/-- the hidden list is done: it is only read from now on -/
theorem Sat.hfrz {o : HO} {l : List (Addr × HO)} {c : List Addr} (h : Sat K ⟨c, (p, o) :: l⟩ S r M σ H) : Ext ⟨c, l⟩ S ⟨c, l⟩ (upd S p o) ∧ Sat K ⟨c, l⟩ (upd S p o) r M σ H := by
  obtain ⟨g1, g2, g3⟩ := h.hid _ List.mem_cons_self
  have x : Ext ⟨c, l⟩ S ⟨c, l⟩ (upd S p o) := ⟨fun _ _ e => e, sameUpd g2, rfl⟩
  refine ⟨x, fun b y e => ?_, h.len, h.nd, h.trk, fun k ds e => ?_, fun q hq => ?_, (List.nodup_cons.mp h.hnd).2, h.el, fun i d e => ?_⟩
  · by_cases hb : b = p
    · rw [hb, upd_same] at e
      rw [hb, ← e]; exact g1
    · rw [upd_ne hb] at e
      exact h.sub b y e
  · obtain ⟨a, xs, h1, h2, h3, h4⟩ := h.cell k ds e
    have ne : a ≠ p := fun z => g3 (by rw [← z]; exact List.mem_of_getElem? h1)
    exact ⟨a, xs, h1, by rw [upd_ne ne]; exact h2, h3, (RepAll.hid h4).up x⟩
  · obtain ⟨h1, h2, h3⟩ := h.hid q (List.mem_cons_of_mem _ hq)
    exact ⟨h1, by rw [upd_ne (hid_ne h.hnd q hq)]; exact h2, h3⟩
  · obtain ⟨v, e1, q⟩ := h.env i d e
    exact ⟨v, e1, (Rep.hid q).up x⟩
/-- .. or it is owned from now on -/
theorem Sat.hown {xs : List V} {ds : List D} {l : List (Addr × HO)} {c : List Addr} (h : Sat K ⟨c, (p, .lst xs) :: l⟩ S r M σ H) (q : RepAll K ⟨c, l⟩ S xs ds) :
    Ext ⟨c, l⟩ S ⟨c ++ [p], l⟩ S ∧ Sat K ⟨c ++ [p], l⟩ S r (M ++ [.lst ds]) σ H ∧ (c ++ [p])[M.length]? = some p := by
  obtain ⟨g1, g2, g3⟩ := h.hid _ List.mem_cons_self
  have hl : c.length = M.length := h.len
  have x : Ext ⟨c, l⟩ S ⟨c ++ [p], l⟩ S := ⟨fun k a e => by
    show (c ++ [p])[k]? = _
    rw [List.getElem?_append_left (List.getElem?_eq_some_iff.mp e).1]; exact e, fun _ _ e => e, rfl⟩
  have here : (c ++ [p])[M.length]? = some p := by rw [← hl, List.getElem?_append_right (Nat.le_refl _), Nat.sub_self]; rfl
  have old : ∀ (k : Nat) (a : Addr), (c ++ [p])[k]? = some a → c[k]? = some a ∨ a = p := fun k a e => by
    by_cases hk : k < c.length
    · rw [List.getElem?_append_left hk] at e
      exact .inl e
    · rw [List.getElem?_append_right (by omega)] at e
      cases hk' : k - c.length with
      | zero => rw [hk'] at e; exact .inr (Option.some.inj e).symm
      | succ n => rw [hk'] at e; simp at e
  refine ⟨x, ⟨h.sub, ?_, ?_, fun k a e => ?_, fun k es e => ?_, fun q hq => ?_, (List.nodup_cons.mp h.hnd).2, h.el, fun i d e => ?_⟩, here⟩
  · show (c ++ [p]).length = _
    rw [List.length_append, List.length_append, hl]; rfl
  · show (c ++ [p]).Nodup
    rw [List.nodup_append]
    exact ⟨h.nd, by simp, fun a ha b hb z => g3 (by rw [show b = p by simpa using hb] at z; rw [← z]; exact ha)⟩
  · rcases old k a e with z | z
    · exact h.trk k a z
    · exact ⟨_, by rw [z]; exact g1⟩
  · by_cases hk : k < M.length
    · rw [List.getElem?_append_left hk] at e
      obtain ⟨a, ys, h1, h2, h3, h4⟩ := h.cell k es e
      exact ⟨a, ys, x.pre _ _ h1, h2, h3, (RepAll.hid h4).up x⟩
    · rw [List.getElem?_append_right (by omega)] at e
      cases hk' : k - M.length with
      | succ n => rw [hk'] at e; simp at e
      | zero =>
        rw [hk'] at e
        have e' : ds = es := by simpa using e
        have k' : k = M.length := by omega
        subst e'
        subst k'
        exact ⟨p, xs, here, g2, g1, q.up x⟩
  · obtain ⟨h1, h2, h3⟩ := h.hid q (List.mem_cons_of_mem _ hq)
    exact ⟨h1, h2, fun z => by
      rcases List.mem_append.mp z with z | z
      · exact h3 z
      · exact hid_ne h.hnd q hq (by simpa using z)⟩
  · obtain ⟨v, e1, q⟩ := h.env i d e
    exact ⟨v, e1, (Rep.hid q).up x⟩

/-! ### data as the library's data -/
variable {X : Cx} {pins : List (Addr × Obj)} {s : Shared}
mutual
theorem Rep.reads (I : Inv X pins σ H s) : ∀ (d : D) (v : V) (u : Value) (p : PyData), Rep X.K ph H v d → RelV v u → toPy d = some p → ∃ as, Reads s.heap u p as ∧ ∀ a ∈ as, H a ≠ none
  | .non, _, _, _, h, rv, e => by cases h; cases rv; cases e; exact ⟨_, .none, fun _ z => nomatch z⟩
  | .bl _, _, _, _, h, rv, e => by cases h; cases rv; cases e; exact ⟨_, .bool _, fun _ z => nomatch z⟩
  | .int _, _, _, _, h, rv, e => by cases h; obtain ⟨t, rfl⟩ := rv; cases e; exact ⟨_, .int _ _, fun _ z => nomatch z⟩
  | .str _, _, _, _, h, rv, e => by cases h; obtain ⟨t, rfl⟩ := rv; cases e; exact ⟨_, .str _ _, fun _ z => nomatch z⟩
  | .tup ds, _, _, _, h, rv, e => by
    cases h with
    | tup h1 h2 =>
      cases rv
      simp only [toPy] at e
      split at e
      · rename_i ps ep
        cases e
        obtain ⟨its, rx, ⟨o, ho, hc, n, hd⟩, _⟩ := I.tuple (SqT.of h1)
        obtain ⟨as, q, qa⟩ := RepAll.reads I ds _ its ps h2 rx ep
        exact ⟨_, .tuple ho hc hd q, qa⟩
      · cases e
  | .lst ds, _, _, _, h, rv, e => by
    cases h with
    | lst h1 h2 =>
      cases rv
      simp only [toPy] at e
      split at e
      · rename_i ps ep
        cases e
        obtain ⟨its, rx, ⟨o, n, ho, hc, _, hd⟩, _⟩ := I.list (SqL.of h1)
        obtain ⟨as, q, qa⟩ := RepAll.reads I ds _ its ps h2 rx ep
        refine ⟨_, .list ho hc hd q, fun a ha => ?_⟩
        rcases List.mem_cons.mp ha with e | ha
        · rw [e, h1]; exact fun z => nomatch z
        · exact qa a ha
      · cases e
  | .dct0, _, _, _, h, rv, e => by
    cases h with
    | dct0 h1 =>
      cases rv
      cases e
      obtain ⟨_, _, vs, hk, o, es, ep, ho, hx, hd, _, he, _⟩ := I.hok _ _ h1
      cases hk
      have e0 : es = #[] := by
        cases es with
        | mk l =>
          cases l with
          | nil => rfl
          | cons x l => exact nomatch he
      subst e0
      refine ⟨_, .dict ho hx.1 hd .nil .nil, fun a ha => ?_⟩
      simp at ha
      rw [ha, h1]; exact fun z => nomatch z
  | .scr ns, _, _, _, _, _, e => by cases e
  | .own _, _, _, _, _, _, e => by cases e
  | .exc _ _, _, _, _, _, _, e => by cases e
  | .val _, _, _, _, _, _, e => by cases e
theorem RepAll.reads (I : Inv X pins σ H s) : ∀ (ds : List D) (vs : List V) (us : List Value) (ps : List PyData), RepAll X.K ph H vs ds → Vals vs us → toPyAll ds = some ps → ∃ as, ReadsAll s.heap us ps as ∧ ∀ a ∈ as, H a ≠ none
  | [], _, _, _, h, rv, e => by cases h; cases rv; cases e; exact ⟨_, .nil, fun _ z => nomatch z⟩
  | d :: ds, _, _, _, h, rv, e => by
    cases h with
    | cons h1 h2 =>
      cases rv with
      | cons r1 r2 =>
        simp only [toPyAll] at e
        split at e
        · rename_i p ps ep eps
          cases e
          obtain ⟨as, q1, a1⟩ := Rep.reads I d _ _ p h1 r1 ep
          obtain ⟨bs, q2, a2⟩ := RepAll.reads I ds _ _ ps h2 r2 eps
          refine ⟨_, .cons q1 q2, fun a ha => ?_⟩
          rcases List.mem_append.mp ha with ha | ha
          · exact a1 a ha
          · exact a2 a ha
        · cases e
end
end
end DL
/-! DL3: operators, comparisons, truth, displays -/
namespace DL
open PySem PySem.Spec PyProof.Rows L2
variable {X : Cx}

/-! ### two values -/
abbrev G2 := D → D → Mem → DQ → Prop
def OpD (X : Cx) (f : Value → Value → Sem Value) (g : G2) : Prop :=
  ∀ (pins : List (Addr × Obj)) (s : Shared) (σ : St) (H : Hp) (ph : Ph) (S : Hp) (r : Env) (M : Mem) (x y : V) (dx dy : D) (v u : Value) (Q : DQ),
    Inv X pins σ H s → Sat X.K ph S r M σ H → RelV x v → RelV y u → Rep X.K ph S x dx → Rep X.K ph S y dy → g dx dy M Q →
    wpAny (model X.prog X.w) X.A (f v u) (EP X pins σ (post X.K ph S r σ Q)) X.xe s
theorem OpD.of {f : Value → Value → Sem Value} {r2 : R2} {g : G2} (h : OpR X f r2)
    (w : ∀ (σ : St) (H : Hp) (ph : Ph) (S : Hp) (r : Env) (M : Mem) (x y : V) (dx dy : D) (Q : DQ), Sat X.K ph S r M σ H → Rep X.K ph S x dx → Rep X.K ph S y dy → g dx dy M Q → r2 x y H (post X.K ph S r σ Q)) : OpD X f g :=
  fun pins s σ H ph S r M x y dx dy v u Q I hs rx ry qx qy hg => h pins s σ H x y v u _ I rx ry (w σ H ph S r M x y dx dy Q hs qx qy hg)
theorem binD {a b : Expr} {ta tb : DTE} (ha : DE X a ta) (hb : DE X b tb) {pins : List (Addr × Obj)} {s : Shared} {σ : St} {H : Hp} {ph : Ph} {S : Hp} {r : Env} {M : Mem} {g : D → D → Mem → Prop}
    (I : Inv X pins σ H s) (hs : Sat X.K ph S r M σ H) (h : ta r M fun x M1 => tb r M1 fun y M2 => g x y M2) {α : Type} {Q : α → Shared → Prop} {f : Value → Value → Sem α}
    (hf : ∀ v u s2 x y dx dy H2 ph2 S2 M2, Ext ph S ph2 S2 → Inv X pins σ H2 s2 → Sat X.K ph2 S2 r M2 σ H2 → RelV x v → RelV y u → Rep X.K ph2 S2 x dx → Rep X.K ph2 S2 y dy → g dx dy M2 → wpAny (model X.prog X.w) X.A (f v u) Q X.xe s2) :
    wpAny (model X.prog X.w) X.A (eval a X.env) (fun v s1 => wpAny (model X.prog X.w) X.A (eval b X.env) (fun u s2 => wpAny (model X.prog X.w) X.A (f v u) Q X.xe s2) X.xe s1) X.xe s := by
  refine thn (ha.pe.run pins s σ H _ I ⟨ph, S, r, M, _, hs, h, fun _ _ q => q⟩) fun v s1 ⟨x, H1, I1, r1, ph1, S1, M1, x1, hs1, dx, q1, h1⟩ => ?_
  refine thn (hb.pe.run pins s1 σ H1 _ I1 ⟨ph1, S1, r, M1, _, hs1, h1, fun _ _ q => q⟩) fun u s2 ⟨y, H2, I2, r2, ph2, S2, M2, x2, hs2, dy, q2, h2⟩ => ?_
  exact hf v u s2 x y dx dy H2 ph2 S2 M2 (x1.trans x2) I2 hs2 r1 r2 (q1.up x2) q2 h2
def dOp (g : G2) (ta tb : DTE) : DTE := fun r M Q => ta r M fun x M1 => tb r M1 fun y M2 => g x y M2 Q
theorem EP.up {pins : List (Addr × Obj)} {σ : St} {ph ph1 : Ph} {S S1 : Hp} {r : Env} {Q : DQ} {u : Value} {s : Shared} (x : Ext ph S ph1 S1) (h : EP X pins σ (post X.K ph1 S1 r σ Q) u s) {Q' : VK} (w : ∀ v H', post X.K ph S r σ Q v H' → Q' v H') : EP X pins σ Q' u s :=
  let ⟨v, H', I, rv, q⟩ := h
  ⟨v, H', I, rv, w _ _ (Aft.up x q)⟩
theorem de_op {a b : Expr} {ta tb : DTE} {op : Operator} {g : G2} {pos : Pos} (ho : OpD X (binaryOp op) g) (ha : DE X a ta) (hb : DE X b tb) : DE X (.BinOp a op b pos) (dOp g ta tb) :=
  ⟨⟨fun pins s σ H Q I ⟨ph, S, r, M, Q0, hs, ht, hq⟩ => wpAny_BinOp (binD ha hb I hs ht fun v u s2 x y dx dy H2 ph2 S2 M2 x2 I2 hs2 rx ry qx qy h =>
    thn (ho pins s2 σ H2 ph2 S2 r M2 x y dx dy v u Q0 I2 hs2 rx ry qx qy h) fun _ _ q => EP.up x2 q hq)⟩⟩
theorem de_cmp {a b : Expr} {ta tb : DTE} {op : CmpOp} {g : G2} {pos : Pos} (ho : OpD X (compareOp op) g) (ha : DE X a ta) (hb : DE X b tb) (hm : behindInMarks op b = false) : DE X (.Compare a [op] [b] pos) (dOp g ta tb) :=
  ⟨⟨fun pins s σ H Q I ⟨ph, S, r, M, Q0, hs, ht, hq⟩ => wpAny_Compare1 (binD ha hb I hs ht fun v u s2 x y dx dy H2 ph2 S2 M2 x2 I2 hs2 rx ry qx qy h =>
    thn (ho pins s2 σ H2 ph2 S2 r M2 x y dx dy v u Q0 I2 hs2 rx ry qx qy h) fun _ _ q => EP.up x2 q hq) hm⟩⟩

/-! ### arithmetic -/
/-- of moderate size -/
def Sm (i : Int) : Prop := i.natAbs.log2 < 400000
theorem Sm.of {i : Int} (n : Nat) (h : i.natAbs < 2 ^ n) (hn : n ≤ 400000 := by decide) : Sm i := by
  unfold Sm
  by_cases h0 : i.natAbs = 0
  · rw [h0]; decide
  · exact Nat.lt_of_lt_of_le ((Nat.log2_lt h0).mpr h) hn
def rBin (C : Int → Int → Prop) (f : Int → Int → Int) : G2 := fun x y M Q => match x, y with
  | .int i, .int j => C i j ∧ Q (.int (f i j)) M
  | _, _ => False
theorem opd_int {F : Value → Value → Sem Value} {C : Int → Int → Prop} {f : Int → Int → Int} (h : OpR X F (rI C fun i j => .int (f i j))) : OpD X F (rBin C f) :=
  OpD.of h fun σ H ph S r M x y dx dy Q hs rx ry hg => by
    cases dx <;> cases dy <;> first | exact hg.elim | skip
    cases rx; cases ry
    exact ⟨_, _, rfl, rfl, hg.1, Aft.here hs ⟨_, .int _, hg.2⟩⟩
theorem opd_sub : OpD X (binaryOp .Sub) (rBin (fun _ _ => True) fun i j => i - j) := opd_int (fun pins s σ H x y v u Q I r1 r2 ⟨i, j, e1, e2, _, q⟩ => op_sub pins s σ H x y v u Q I r1 r2 ⟨i, j, e1, e2, q⟩)
def CMul (i j : Int) : Prop := Sm i ∧ Sm j
def CDiv (_ j : Int) : Prop := j ≠ 0 ∧ j.natAbs.log2 < 9000
def CMod (_ j : Int) : Prop := j ≠ 0
def CPow (a n : Int) : Prop := 0 ≤ n ∧ (Builtin.Int.intBits a : Int) * n ≤ 2 ^ 27
theorem opd_mulI : OpD X (binaryOp .Mult) (rBin CMul fun i j => i * j) := opd_int (fun pins s σ H x y v u Q I r1 r2 ⟨i, j, e1, e2, c, q⟩ => op_mulW pins s σ H x y v u Q I r1 r2 ⟨i, j, e1, e2, by have h1 := c.1; have h2 := c.2; unfold Sm at h1 h2; unfold L2.CMulW; omega, q⟩)
theorem op_fdivG : OpR X (binaryOp .FloorDiv) (rI CDiv fun i j => .int (i.fdiv j)) := opI fun i j _ _ _ _ _ hc q => floordiv_int hc.1 q (.inl (PyProof.noPylong_of_log2 hc.2))
theorem opd_fdiv : OpD X (binaryOp .FloorDiv) (rBin CDiv fun i j => i.fdiv j) := opd_int op_fdivG
theorem opd_mod : OpD X (binaryOp .Mod) (rBin CMod fun i j => i.fmod j) := opd_int op_modN
theorem op_powG : OpR X (binaryOp .Pow) (rI CPow fun i j => .int (i ^ j.toNat)) := opI fun i j _ _ _ _ _ hc q => pow_int hc.1 hc.2 q
theorem opd_pow : OpD X (binaryOp .Pow) (rBin CPow fun i j => i ^ j.toNat) := opd_int op_powG
/-- x + y -/
def gAdd : G2 := fun x y M Q => match x, y with
  | .int i, .int j => Q (.int (i + j)) M
  | .str a, .str b => a.length + b.length ≤ sizeLine ∧ Q (.str (a ++ b)) M
  | .lst a, .lst b => a.length + b.length ≤ sizeLine ∧ Q (.lst (a ++ b)) M
  | .tup a, .tup b => a.length + b.length ≤ sizeLine ∧ Q (.tup (a ++ b)) M
  | .own k, .lst b => match M[k]? with
    | some (.lst a) => a.length + b.length ≤ sizeLine ∧ Q (.lst (a ++ b)) M
    | _ => False
  | .lst b, .own k => match M[k]? with
    | some (.lst a) => b.length + a.length ≤ sizeLine ∧ Q (.lst (b ++ a)) M
    | _ => False
  | _, _ => False
theorem Aft.frz {K : PySem.W.Frag} {ph : Ph} {S : Hp} {r : Env} {σ : St} {H : Hp} {M : Mem} {p : Addr} {o : HO} {Q : Ph → Hp → Mem → Prop} (h : Sat K ph S r M σ H) (hp : H p = none) (q : Ext ph S ph (upd S p o) → Q ph (upd S p o) M) : Aft K ph S r σ (upd H p o) Q :=
  let ⟨x, hs⟩ := h.frz hp o
  ⟨ph, _, M, x, hs, q x⟩
theorem opd_add : OpD X (binaryOp .Add) gAdd := by
  intro pins s σ H ph S r M x y dx dy v u Q I hs rx ry qx qy hg
  cases dx <;> cases dy <;> first | exact hg.elim | skip
  · cases qx; cases qy
    exact op_add pins s σ H _ _ v u _ I rx ry ⟨_, _, rfl, rfl, Aft.here hs ⟨_, .int _, hg⟩⟩
  · cases qx; cases qy
    exact op_add_str pins s σ H _ _ v u _ I rx ry ⟨_, _, rfl, rfl, hg.1, Aft.here hs ⟨_, .str _, hg.2⟩⟩
  · cases qx with
    | tup h1 h2 =>
      cases qy with
      | tup h3 h4 =>
        obtain ⟨hz, q⟩ := hg
        rename_i xs _ ys
        have e1 := h2.len
        have e2 := h4.len
        refine op_catA pins s σ H _ _ v u _ I rx ry ⟨_, _, xs, ys, rfl, rfl, SqT.of (hs.sub _ _ h1), SqT.of (hs.sub _ _ h3), by omega, fun z => ?_, fun _ z => ?_, fun _ _ p hp => Aft.frz hs hp fun x => ⟨_, .tup upd_same ((h2.app h4).up x), q⟩⟩
        · refine Aft.here hs ⟨_, .tup h3 ?_, q⟩
          rw [z] at h2
          cases h2
          exact h4
        · refine Aft.here hs ⟨_, .tup h1 ?_, q⟩
          rw [z] at h4
          cases h4
          rw [List.append_nil]; exact h2
  · cases qx with
    | lst h1 h2 =>
      cases qy with
      | lst h3 h4 =>
        have e1 := h2.len
        have e2 := h4.len
        exact op_cat pins s σ H _ _ v u _ I rx ry ⟨_, _, _, _, rfl, rfl, hs.sub _ _ h1, hs.sub _ _ h3, by have := hg.1; omega, fun p hp => Aft.frz hs hp fun x => ⟨_, .lst upd_same ((h2.app h4).up x), hg.2⟩⟩
  · cases qx with
    | lst h1 h2 =>
      cases qy with
      | own h3 =>
        rename_i b k _ _ _
        simp only [gAdd] at hg
        split at hg
        · rename_i a hk
          obtain ⟨a1, xs1, c1, c2, c3, c4⟩ := hs.cell k a hk
          rw [h3] at c1; cases c1
          have e1 := h2.len
          have e2 := c4.len
          exact op_cat pins s σ H _ _ v u _ I rx ry ⟨_, _, _, _, rfl, rfl, hs.sub _ _ h1, c3, by have := hg.1; omega, fun p hp => Aft.frz hs hp fun x => ⟨_, .lst upd_same ((h2.app c4).up x), hg.2⟩⟩
        · exact hg.elim
  · cases qx with
    | own h3 =>
      cases qy with
      | lst h1 h2 =>
        rename_i k b _ _ _
        simp only [gAdd] at hg
        split at hg
        · rename_i a hk
          obtain ⟨a1, xs1, c1, c2, c3, c4⟩ := hs.cell k a hk
          rw [h3] at c1; cases c1
          have e1 := h2.len
          have e2 := c4.len
          exact op_cat pins s σ H _ _ v u _ I rx ry ⟨_, _, _, _, rfl, rfl, c3, hs.sub _ _ h1, by have := hg.1; omega, fun p hp => Aft.frz hs hp fun x => ⟨_, .lst upd_same ((c4.app h2).up x), hg.2⟩⟩
        · exact hg.elim
/-- x * y -/
def gMul : G2 := fun x y M Q => match x, y with
  | .int i, .int j => (Sm i ∧ Sm j) ∧ Q (.int (i * j)) M
  | .lst a, .int j => (j < 2 ^ 63 ∧ -(2 ^ 63) ≤ j) ∧ a.length * j.toNat ≤ sizeLine ∧ Q (.lst (List.flatten (List.replicate j.toNat a))) M
  | _, _ => False

/-! ### comparisons -/
def gCmpI (p : Int → Int → Bool) : G2 := fun x y M Q => match x, y with
  | .int i, .int j => Q (.bl (p i j)) M
  | _, _ => False
theorem opd_cmpI {F : Value → Value → Sem Value} {p : Int → Int → Bool} (h : OpR X F (rI0 fun i j => .bl (p i j))) : OpD X F (gCmpI p) :=
  OpD.of h fun σ H ph S r M x y dx dy Q hs rx ry hg => by
    cases dx <;> cases dy <;> first | exact hg.elim | skip
    cases rx; cases ry
    exact ⟨_, _, rfl, rfl, Aft.here hs ⟨_, .bl _, hg⟩⟩
theorem opd_lt : OpD X (compareOp .Lt) (gCmpI fun i j => decide (i < j)) := opd_cmpI op_lt
theorem opd_le : OpD X (compareOp .LtE) (gCmpI fun i j => decide (i ≤ j)) := opd_cmpI op_le
theorem opd_gt : OpD X (compareOp .Gt) (gCmpI fun i j => decide (j < i)) := opd_cmpI op_gt
theorem opd_ge : OpD X (compareOp .GtE) (gCmpI fun i j => decide (j ≤ i)) := opd_cmpI op_ge
/-- an owned list as it stands -/
def res (M : Mem) : D → D
  | .own k => match M[k]? with
    | some (.lst ds) => .lst ds
    | _ => .own k
  | d => d
theorem Rep.res {K : PySem.W.Frag} {ph : Ph} {S : Hp} {r : Env} {M : Mem} {σ : St} {H : Hp} {v : V} {d : D} (hs : Sat K ph S r M σ H) (q : Rep K ph S v d) : Rep K ph H v (res M d) := by
  cases d <;> first | exact hs.read q | skip
  rename_i k
  unfold DL.res
  dsimp only
  split
  · rename_i ds hk
    cases q with
    | own h =>
      obtain ⟨a, xs, c1, c2, c3, c4⟩ := hs.cell k ds hk
      rw [h] at c1; cases c1
      exact .lst c3 (hs.readAll c4)
  · exact hs.read q
/-- data that may be compared -/
def cmpd (d : D) : Option PyData := match toPy d with
  | some p => if SeqAt.shaped p = true then some p else none
  | none => none
theorem cmpd_some {d : D} {p : PyData} (h : cmpd d = some p) : toPy d = some p ∧ SeqAt.shaped p = true := by
  unfold cmpd at h
  split at h
  · rename_i p' e
    by_cases hs : SeqAt.shaped p' = true
    · rw [if_pos hs] at h; cases h; exact ⟨e, hs⟩
    · rw [if_neg hs] at h; cases h
  · cases h
/-- x == y of two data read; none: not covered -/
def eqB (x y : D) : Option Bool := match x, y with
  | .str a, .str b => some (a == b)
  | x, y => match cmpd x, cmpd y with
    | some p, some q => some (PyData.eqv p q)
    | _, _ => none
theorem eqB_of {x y : D} {b : Bool} (h : eqB x y = some b) : (∃ p q, x = .str p ∧ y = .str q ∧ b = (p == q)) ∨ ∃ p q, cmpd x = some p ∧ cmpd y = some q ∧ b = PyData.eqv p q := by
  unfold eqB at h
  split at h
  · exact .inl ⟨_, _, rfl, rfl, (Option.some.inj h).symm⟩
  · split at h
    · rename_i e1 e2; exact .inr ⟨_, _, e1, e2, (Option.some.inj h).symm⟩
    · cases h
def gEq : G2 := fun x y M Q => match eqB (res M x) (res M y) with
  | some b => Q (.bl b) M
  | none => False
def gNe : G2 := fun x y M Q => match eqB (res M x) (res M y) with
  | some b => Q (.bl (!b)) M
  | none => False
theorem res_str {M : Mem} {d : D} {z : Str} (h : res M d = .str z) : d = .str z := by
  cases d <;> first | exact h | skip
  rename_i k
  unfold res at h
  dsimp only at h
  split at h <;> cases h
theorem opd_eq (hu : X.A.units + 64 < cLine) : OpD X (compareOp .Eq) gEq := by
  intro pins s σ H ph S r M x y dx dy v u Q I hs rx ry qx qy hg
  unfold gEq at hg
  split at hg
  · rename_i b e
    rcases eqB_of e with ⟨p, q, e1, e2, rfl⟩ | ⟨p, q, e1, e2, rfl⟩
    · cases res_str e1; cases res_str e2
      cases qx; cases qy
      obtain ⟨_, rfl⟩ := rx
      obtain ⟨_, rfl⟩ := ry
      exact PyProof.Rows.eq_str ⟨.bl _, H, I, rfl, Aft.here hs ⟨_, .bl _, hg⟩⟩
    · obtain ⟨as, h1, _⟩ := Rep.reads I _ _ _ _ (Rep.res hs qx) rx (cmpd_some e1).1
      obtain ⟨bs, h2, _⟩ := Rep.reads I _ _ _ _ (Rep.res hs qy) ry (cmpd_some e2).1
      exact SeqAt.compareEq_shaped h1 h2 (cmpd_some e1).2 (cmpd_some e2).2 hu ⟨.bl _, H, I, rfl, Aft.here hs ⟨_, .bl _, hg⟩⟩
  · exact hg.elim
theorem opd_ne (hu : X.A.units + 64 < cLine) : OpD X (compareOp .NotEq) gNe := by
  intro pins s σ H ph S r M x y dx dy v u Q I hs rx ry qx qy hg
  unfold gNe at hg
  split at hg
  · rename_i b e
    rcases eqB_of e with ⟨p, q, e1, e2, rfl⟩ | ⟨p, q, e1, e2, rfl⟩
    · cases res_str e1; cases res_str e2
      cases qx; cases qy
      obtain ⟨_, rfl⟩ := rx
      obtain ⟨_, rfl⟩ := ry
      exact PyProof.Rows.ne_str ⟨.bl _, H, I, rfl, Aft.here hs ⟨_, .bl _, hg⟩⟩
    · obtain ⟨as, h1, _⟩ := Rep.reads I _ _ _ _ (Rep.res hs qx) rx (cmpd_some e1).1
      obtain ⟨bs, h2, _⟩ := Rep.reads I _ _ _ _ (Rep.res hs qy) ry (cmpd_some e2).1
      exact SeqAt.compareNe_shaped h1 h2 (cmpd_some e1).2 (cmpd_some e2).2 hu ⟨.bl _, H, I, rfl, Aft.here hs ⟨_, .bl _, hg⟩⟩
  · exact hg.elim
/-- x in y, y a list -/
def gIn (neg : Bool) : G2 := fun x y M Q => match cmpd (res M x), cmpd (res M y) with
  | some p, some (.list ps) => Q (.bl ((ps.any fun z => PyData.eqv z p) != neg)) M
  | _, _ => False
theorem opd_in (hu : X.A.units + 65 < cLine) : OpD X (compareOp .In) (gIn false) := by
  intro pins s σ H ph S r M x y dx dy v u Q I hs rx ry qx qy hg
  unfold gIn at hg
  split at hg
  · rename_i p ps e1 e2
    obtain ⟨as, h1, _⟩ := Rep.reads I _ _ _ _ (Rep.res hs qx) rx (cmpd_some e1).1
    obtain ⟨bs, h2, _⟩ := Rep.reads I _ _ _ _ (Rep.res hs qy) ry (cmpd_some e2).1
    refine SeqAt.in_list_reads h2 h1 (SeqAt.canLay_of_shaped (cmpd_some e2).2) (SeqAt.canLay_of_shaped (cmpd_some e1).2) (room_in_shaped (cmpd_some e1).2 hu) ⟨.bl _, H, I, rfl, Aft.here hs ⟨_, .bl _, ?_⟩⟩
    rw [Bool.bne_false] at hg; exact hg
  · exact hg.elim
theorem opd_notin (hu : X.A.units + 65 < cLine) : OpD X (compareOp .NotIn) (gIn true) := by
  intro pins s σ H ph S r M x y dx dy v u Q I hs rx ry qx qy hg
  unfold gIn at hg
  split at hg
  · rename_i p ps e1 e2
    obtain ⟨as, h1, _⟩ := Rep.reads I _ _ _ _ (Rep.res hs qx) rx (cmpd_some e1).1
    obtain ⟨bs, h2, _⟩ := Rep.reads I _ _ _ _ (Rep.res hs qy) ry (cmpd_some e2).1
    refine SeqAt.notIn_list_reads h2 h1 (SeqAt.canLay_of_shaped (cmpd_some e2).2) (SeqAt.canLay_of_shaped (cmpd_some e1).2) (room_in_shaped (cmpd_some e1).2 hu) ⟨.bl _, H, I, rfl, Aft.here hs ⟨_, .bl _, ?_⟩⟩
    rw [Bool.bne_true] at hg; exact hg
  · exact hg.elim
end DL
/-! DL4: is, truth, chains, and/or/not, displays, subscripts, argument lists -/
namespace DL
open PySem PySem.Spec PyProof.Rows L2
variable {X : Cx}

/-! ### is -/
/-- x is y, y written None, True or False -/
def isB (x y : D) : Option Bool := match x, y with
  | .non, .non => some true
  | .bl b, .non => some false
  | .int _, .non => some false
  | .str _, .non => some false
  | .tup _, .non => some false
  | .lst _, .non => some false
  | .own _, .non => some false
  | .dct0, .non => some false
  | .exc _ _, .non => some false
  | .bl a, .bl b => some (decide (a = b))
  | .non, .bl _ => some false
  | .int _, .bl _ => some false
  | .str _, .bl _ => some false
  | .tup _, .bl _ => some false
  | .lst _, .bl _ => some false
  | .own _, .bl _ => some false
  | .dct0, .bl _ => some false
  | _, _ => none
def gIs (neg : Bool) : G2 := fun x y M Q => match isB x y with
  | some b => Q (.bl (b != neg)) M
  | none => False
theorem opd_is : OpD X (compareOp .Is) (gIs false) := by
  intro pins s σ H ph S r M x y dx dy v u Q I hs rx ry qx qy hg
  have fin : ∀ b : Bool, Q (.bl (b != false)) M → EP X pins σ (post X.K ph S r σ Q) (.bool b) s := fun b q => ⟨.bl b, H, I, rfl, Aft.here hs ⟨_, .bl _, by rwa [Bool.bne_false] at q⟩⟩
  cases dy <;> cases dx <;> first | exact hg.elim | skip
  all_goals cases qx <;> cases qy
  all_goals (first | (obtain ⟨t, rfl⟩ := rx) | cases rx)
  all_goals cases ry
  all_goals first
    | exact wpAny_is_other rfl (fun z => nomatch z) (fin false hg)
    | exact wpAny_is_self rfl (fin true hg)
    | skip
  rename_i b c
  by_cases e : c = b
  · subst e
    exact wpAny_is_self rfl (fin true (by simpa [gIs, isB] using hg))
  · exact wpAny_is_other rfl (fun z => e (Value.bool.inj z)) (fin false (by simpa [gIs, isB, e] using hg))
theorem opd_isnot : OpD X (compareOp .IsNot) (gIs true) := by
  intro pins s σ H ph S r M x y dx dy v u Q I hs rx ry qx qy hg
  have fin : ∀ b : Bool, Q (.bl (b != true)) M → EP X pins σ (post X.K ph S r σ Q) (.bool (!b)) s := fun b q => ⟨.bl (!b), H, I, rfl, Aft.here hs ⟨_, .bl _, by rwa [Bool.bne_true] at q⟩⟩
  cases dy <;> cases dx <;> first | exact hg.elim | skip
  all_goals cases qx <;> cases qy
  all_goals (first | (obtain ⟨t, rfl⟩ := rx) | cases rx)
  all_goals cases ry
  all_goals first
    | exact wpAny_isNot_other rfl (fun z => nomatch z) (fin false hg)
    | exact wpAny_isNot_self rfl (fin true hg)
    | skip
  rename_i b c
  by_cases e : c = b
  · subst e
    exact wpAny_isNot_self rfl (fin true (by simpa [gIs, isB] using hg))
  · exact wpAny_isNot_other rfl (fun z => e (Value.bool.inj z)) (fin false (by simpa [gIs, isB, e] using hg))

/-! ### truth -/
def tru (M : Mem) : D → Option Bool
  | .non => some false
  | .bl b => some b
  | .int i => some (i != 0)
  | .str x => if x.length ≤ sizeLine then some ((x.length : Int) != 0) else none
  | .tup l => some (!l.isEmpty)
  | .lst l => some (!l.isEmpty)
  | .own k => match M[k]? with
    | some (.lst l) => some (!l.isEmpty)
    | _ => none
  | .dct0 => some false
  | _ => none
theorem isEmp {K : PySem.W.Frag} {ph : Ph} {S : Hp} {xs : List V} {ds : List D} (h : RepAll K ph S xs ds) : (!ds.isEmpty) = !xs.isEmpty := by cases h <;> rfl
theorem tru_V {K : PySem.W.Frag} {ph : Ph} {S : Hp} {r : Env} {M : Mem} {σ : St} {H : Hp} {x : V} {d : D} {k : Bool} (hs : Sat K ph S r M σ H) (q : Rep K ph S x d) (h : tru M d = some k) : TruV K x H k := by
  cases d with
  | non => cases q; exact (Option.some.inj h).symm
  | bl b => cases q; exact (Option.some.inj h).symm
  | int i => cases q; exact (Option.some.inj h).symm
  | str z =>
    cases q
    have h' : (if z.length ≤ sizeLine then some ((z.length : Int) != 0) else none) = some k := h
    by_cases hz : z.length ≤ sizeLine
    · rw [if_pos hz] at h'
      exact ⟨hz, (Option.some.inj h').symm⟩
    · rw [if_neg hz] at h'; cases h'
  | tup l =>
    cases q with
    | tup h1 h2 => exact .inr (.inl ⟨_, SqT.of (hs.sub _ _ h1), by rw [← isEmp h2]; exact (Option.some.inj h).symm⟩)
  | lst l =>
    cases q with
    | lst h1 h2 => exact .inl ⟨_, SqL.of (hs.sub _ _ h1), by rw [← isEmp h2]; exact (Option.some.inj h).symm⟩
  | dct0 =>
    cases q with
    | dct0 h1 => exact .inr (.inr ⟨_, hs.sub _ _ h1, (Option.some.inj h).symm⟩)
  | own j =>
    cases q with
    | own h1 =>
      unfold tru at h
      dsimp only at h
      split at h
      · rename_i l hk
        obtain ⟨a, xs, c1, c2, c3, c4⟩ := hs.cell j l hk
        rw [h1] at c1; cases c1
        exact .inl ⟨_, SqL.of c3, by rw [← isEmp c4]; exact (Option.some.inj h).symm⟩
      · cases h
  | scr ns => cases h
  | exc C d => cases h
  | val v => cases h
/-- what d's truth is -/
def gTru (d : D) (M : Mem) (Q : Bool → Prop) : Prop := match tru M d with
  | some b => Q b
  | none => False
def dTru (t : DTE) : DTT := fun r M Q => t r M fun d M1 => gTru d M1 fun b => Q b M1
theorem gTru_some {d : D} {M : Mem} {Q : Bool → Prop} (h : gTru d M Q) : ∃ b, tru M d = some b ∧ Q b := by
  unfold gTru at h
  split at h
  · rename_i b e; exact ⟨b, e, h⟩
  · exact h.elim
/-- an expression as a test -/
theorem dt_tru {e : Expr} {t : DTE} (h : DE X e t) (he : ∀ whole, isTrue e X.env whole = (do let v ← whole; standAt e.pos; holding [v] (truthy v)) := by intro _; rfl) : DT X e (dTru t) :=
  DT.of (pt_truth h.pe he) fun ph S r M σ H Q hs ht Q' hq => ⟨ph, S, r, M, _, hs, ht, fun v H1 h1 => by
    obtain ⟨ph1, S1, M1, x1, hs1, d, q1, g1⟩ := h1
    obtain ⟨b, eb, qb⟩ := gTru_some g1
    exact ⟨b, tru_V hs1 q1 eb, hq _ _ ⟨ph1, S1, M1, x1, hs1, qb⟩⟩⟩
/-- a comparison as a test -/
theorem dt_cmp {a b : Expr} {ta tb : DTE} {op : CmpOp} {g : G2} {pos : Pos} (ho : OpD X (compareOp op) g) (ha : DE X a ta) (hb : DE X b tb) (hm : behindInMarks op b = false) : DT X (.Compare a [op] [b] pos) (dTru (dOp g ta tb)) :=
  ⟨⟨fun pins s σ H Q I ⟨ph, S, r, M, Q0, hs, ht, hq⟩ => wpAny_isTrue_Compare1 (binD ha hb I hs ht fun v u s2 x y dx dy H2 ph2 S2 M2 x2 I2 hs2 rx ry qx qy h =>
    thn (ho pins s2 σ H2 ph2 S2 r M2 x y dx dy v u _ I2 hs2 rx ry qx qy h) fun c s3 ⟨z, H3, I3, r3, ph3, S3, M3, x3, hs3, d, q3, g3⟩ => by
      obtain ⟨k, ek, qk⟩ := gTru_some g3
      exact tru_ok pins s3 σ H3 z c Q I3 r3 ⟨k, tru_V hs3 q3 ek, hq _ _ ⟨ph3, S3, M3, x2.trans x3, hs3, qk⟩⟩) hm⟩⟩

/-! ### a < b < c -/
def dChain (g g' : G2) (ta tb tc : DTE) : DTE := fun r M Q => ta r M fun x M1 => tb r M1 fun y M2 => g x y M2 fun z M3 => gTru z M3 fun k => if k = true then tc r M3 fun w M4 => g' y w M4 Q else Q z M3
theorem dt_chain {a b c : Expr} {ta tb tc : DTE} {op op' : CmpOp} {g g' : G2} {pos : Pos} (ho : OpD X (compareOp op) g) (ho' : OpD X (compareOp op') g') (ha : DE X a ta) (hb : DE X b tb) (hc : DE X c tc)
    (hm : lastMarks [op, op'] [b, c] = false := by with_unfolding_all rfl) : DT X (.Compare a [op, op'] [b, c] pos) (dTru (dChain g g' ta tb tc)) := by
  refine ⟨⟨fun pins s σ H Q I ⟨ph, S, r, M, Q0, hs, ht, hq⟩ => ?_⟩⟩
  refine isTrue_chain (thn (ha.pe.run pins s σ H _ I ⟨ph, S, r, M, _, hs, ht, fun _ _ q => q⟩) fun v s1 ⟨x, H1, I1, r1, ph1, S1, M1, x1, hs1, dx, q1, h1⟩ =>
    test_link (thn (hb.pe.run pins s1 σ H1 _ I1 ⟨ph1, S1, r, M1, _, hs1, h1, fun _ _ q => q⟩) fun u s2 ⟨y, H2, I2, r2, ph2, S2, M2, x2, hs2, dy, q2, h2⟩ =>
      thn (ho pins s2 σ H2 ph2 S2 r M2 x y dx dy v u _ I2 hs2 r1 r2 (q1.up x2) q2 h2) fun d s3 ⟨z, H3, I3, r3, ph3, S3, M3, x3, hs3, dz, q3, h3⟩ => ?_)) hm
  obtain ⟨k, ek, qk⟩ := gTru_some h3
  refine thn (tru_ok pins s3 σ H3 z d (fun b H' => b = k ∧ H' = H3) I3 r3 ⟨k, tru_V hs3 q3 ek, rfl, rfl⟩) fun b s4 ⟨H4, I4, eb, eH⟩ => ?_
  rw [eH] at I4
  rw [← eb] at qk ek
  cases b with
  | false =>
    have qk' : gTru dz M3 fun b => Q0 b M3 := qk
    obtain ⟨k2, e2, q2'⟩ := gTru_some qk'
    rw [ek] at e2
    cases e2
    exact ite_ff ⟨H3, I4, hq _ _ ⟨ph3, S3, M3, x1.trans (x2.trans x3), hs3, q2'⟩⟩
  | true =>
    refine ite_tt (test_last (thn (hc.pe.run pins s4 σ H3 _ I4 ⟨ph3, S3, r, M3, _, hs3, qk, fun _ _ q => q⟩) fun w' s5 ⟨z', H5, I5, r5, ph5, S5, M5, x5, hs5, dw, q5, h5⟩ =>
      thn (ho' pins s5 σ H5 ph5 S5 r M5 y z' dy dw u w' _ I5 hs5 r2 r5 (q2.up (x3.trans x5)) q5 h5) fun d' s6 ⟨z2, H6, I6, r6, ph6, S6, M6, x6, hs6, d6, q6, h6⟩ => ?_))
    obtain ⟨k2, e2, q2'⟩ := gTru_some h6
    exact tru_ok pins s6 σ H6 z2 d' Q I6 r6 ⟨k2, tru_V hs6 q6 e2, hq _ _ ⟨ph6, S6, M6, x1.trans (x2.trans (x3.trans (x5.trans x6))), hs6, q2'⟩⟩
theorem de_chain {a b c : Expr} {ta tb tc : DTE} {op op' : CmpOp} {g g' : G2} {pos : Pos} (ho : OpD X (compareOp op) g) (ho' : OpD X (compareOp op') g') (ha : DE X a ta) (hb : DE X b tb) (hc : DE X c tc)
    (hm : lastMarks [op, op'] [b, c] = false := by with_unfolding_all rfl) : DE X (.Compare a [op, op'] [b, c] pos) (dChain g g' ta tb tc) := by
  refine ⟨⟨fun pins s σ H Q I ⟨ph, S, r, M, Q0, hs, ht, hq⟩ => ?_⟩⟩
  refine Compare_chain (thn (ha.pe.run pins s σ H _ I ⟨ph, S, r, M, _, hs, ht, fun _ _ q => q⟩) fun v s1 ⟨x, H1, I1, r1, ph1, S1, M1, x1, hs1, dx, q1, h1⟩ =>
    chain_link (thn (hb.pe.run pins s1 σ H1 _ I1 ⟨ph1, S1, r, M1, _, hs1, h1, fun _ _ q => q⟩) fun u s2 ⟨y, H2, I2, r2, ph2, S2, M2, x2, hs2, dy, q2, h2⟩ =>
      thn (ho pins s2 σ H2 ph2 S2 r M2 x y dx dy v u _ I2 hs2 r1 r2 (q1.up x2) q2 h2) fun d s3 ⟨z, H3, I3, r3, ph3, S3, M3, x3, hs3, dz, q3, h3⟩ => ?_)) hm
  obtain ⟨k, ek, qk⟩ := gTru_some h3
  refine thn (tru_ok pins s3 σ H3 z d (fun b H' => b = k ∧ H' = H3) I3 r3 ⟨k, tru_V hs3 q3 ek, rfl, rfl⟩) fun b s4 ⟨H4, I4, eb, eH⟩ => ?_
  rw [eH] at I4
  rw [← eb] at qk
  cases b with
  | false => exact ite_ff ⟨z, H3, I4, r3, hq _ _ ⟨ph3, S3, M3, x1.trans (x2.trans x3), hs3, _, q3, qk⟩⟩
  | true =>
    exact ite_tt (chain_last (thn (hc.pe.run pins s4 σ H3 _ I4 ⟨ph3, S3, r, M3, _, hs3, qk, fun _ _ q => q⟩) fun w' s5 ⟨z', H5, I5, r5, ph5, S5, M5, x5, hs5, dw, q5, h5⟩ =>
      thn (ho' pins s5 σ H5 ph5 S5 r M5 y z' dy dw u w' _ I5 hs5 r2 r5 (q2.up (x3.trans x5)) q5 h5) fun d' s6 q6 => EP.up (x1.trans (x2.trans (x3.trans x5))) q6 hq))

/-! ### and, or, not -/
def dAnd (t u : DTT) : DTT := fun r M Q => t r M fun c M1 => if c = true then u r M1 Q else Q false M1
def dOr (t u : DTT) : DTT := fun r M Q => t r M fun c M1 => if c = true then Q true M1 else u r M1 Q
def dNot (t : DTT) : DTT := fun r M Q => t r M fun c M1 => Q (!c) M1
variable {a b : Expr} {rest : List Expr} {pos : Pos}
theorem DW.dt {e : Expr} {t : DTT} (h : DW X e t) : DT X e t := ⟨h.pw.pt⟩
theorem dw_and1 {t : DTT} (h : DT X a t) : DW X (.BoolOp .And [a] pos) t := ⟨pw_and1 h.pt⟩
theorem dw_or1 {t : DTT} (h : DT X a t) : DW X (.BoolOp .Or [a] pos) t := ⟨pw_or1 h.pt⟩
theorem dw_and {t u : DTT} (h : DT X a t) (h2 : DW X (.BoolOp .And (b :: rest) pos) u) : DW X (.BoolOp .And (a :: b :: rest) pos) (dAnd t u) :=
  DW.of (pw_and h.pt h2.pw) fun ph S r M σ H Q hs ht Q' hq => ⟨ph, S, r, M, _, hs, ht, fun c H1 ⟨ph1, S1, M1, x1, hs1, h1⟩ => by
    cases c with
    | true => exact ⟨ph1, S1, r, M1, _, hs1, h1, fun c' H2 h2 => hq _ _ (Aft.up x1 h2)⟩
    | false => exact hq _ _ ⟨ph1, S1, M1, x1, hs1, h1⟩⟩
theorem dw_or {t u : DTT} (h : DT X a t) (h2 : DW X (.BoolOp .Or (b :: rest) pos) u) : DW X (.BoolOp .Or (a :: b :: rest) pos) (dOr t u) :=
  DW.of (pw_or h.pt h2.pw) fun ph S r M σ H Q hs ht Q' hq => ⟨ph, S, r, M, _, hs, ht, fun c H1 ⟨ph1, S1, M1, x1, hs1, h1⟩ => by
    cases c with
    | false => exact ⟨ph1, S1, r, M1, _, hs1, h1, fun c' H2 h2 => hq _ _ (Aft.up x1 h2)⟩
    | true => exact hq _ _ ⟨ph1, S1, M1, x1, hs1, h1⟩⟩
theorem dt_not {t : DTT} (h : DT X a t) : DT X (.UnaryOp .Not a pos) (dNot t) :=
  DT.of (pt_not h.pt) fun ph S r M σ H Q hs ht Q' hq => ⟨ph, S, r, M, _, hs, ht, fun c H1 h1 => hq _ _ h1⟩
/-- as values -/
def dAndV (t u : DTE) : DTE := fun r M Q => t r M fun d M1 => gTru d M1 fun c => if c = true then u r M1 Q else Q d M1
def dOrV (t u : DTE) : DTE := fun r M Q => t r M fun d M1 => gTru d M1 fun c => if c = true then Q d M1 else u r M1 Q
def dNotV (t : DTE) : DTE := fun r M Q => t r M fun d M1 => gTru d M1 fun c => Q (.bl (!c)) M1
theorem de_one {op} {t : DTE} (h : DE X a t) : DE X (.BoolOp op [a] pos) t := ⟨pe_one h.pe⟩
theorem de_and {t u : DTE} (h : DE X a t) (h2 : DE X (.BoolOp .And (b :: rest) pos) u) : DE X (.BoolOp .And (a :: b :: rest) pos) (dAndV t u) :=
  DE.of (pe_andT h.pe h2.pe) fun ph S r M σ H Q hs ht Q' hq => ⟨ph, S, r, M, _, hs, ht, fun v H1 ⟨ph1, S1, M1, x1, hs1, d, q1, g1⟩ => by
    obtain ⟨c, ec, qc⟩ := gTru_some g1
    refine ⟨c, tru_V hs1 q1 ec, ?_⟩
    cases c with
    | true => exact ⟨ph1, S1, r, M1, _, hs1, qc, fun c' H2 h2 => hq _ _ (Aft.up x1 h2)⟩
    | false => exact hq _ _ ⟨ph1, S1, M1, x1, hs1, _, q1, qc⟩⟩
theorem de_or {t u : DTE} (h : DE X a t) (h2 : DE X (.BoolOp .Or (b :: rest) pos) u) : DE X (.BoolOp .Or (a :: b :: rest) pos) (dOrV t u) :=
  DE.of (pe_orT h.pe h2.pe) fun ph S r M σ H Q hs ht Q' hq => ⟨ph, S, r, M, _, hs, ht, fun v H1 ⟨ph1, S1, M1, x1, hs1, d, q1, g1⟩ => by
    obtain ⟨c, ec, qc⟩ := gTru_some g1
    refine ⟨c, tru_V hs1 q1 ec, ?_⟩
    cases c with
    | false => exact ⟨ph1, S1, r, M1, _, hs1, qc, fun c' H2 h2 => hq _ _ (Aft.up x1 h2)⟩
    | true => exact hq _ _ ⟨ph1, S1, M1, x1, hs1, _, q1, qc⟩⟩
theorem de_not {t : DTE} (h : DE X a t) : DE X (.UnaryOp .Not a pos) (dNotV t) :=
  DE.of (pe_notT h.pe) fun ph S r M σ H Q hs ht Q' hq => ⟨ph, S, r, M, _, hs, ht, fun v H1 ⟨ph1, S1, M1, x1, hs1, d, q1, g1⟩ => by
    obtain ⟨c, ec, qc⟩ := gTru_some g1
    exact ⟨c, tru_V hs1 q1 ec, hq _ _ ⟨ph1, S1, M1, x1, hs1, _, .bl _, qc⟩⟩⟩
/-- a if t else b -/
def dIf (t : DTT) (u w : DTE) : DTE := fun r M Q => t r M fun c M1 => if c = true then u r M1 Q else w r M1 Q
theorem de_if {c : Expr} {t : DTT} {u w : DTE} (h : DT X c t) (h1 : DE X a u) (h2 : DE X b w) : DE X (.IfExp c a b pos) (dIf t u w) :=
  DE.of (pe_ifExp h.pt h1.pe h2.pe) fun ph S r M σ H Q hs ht Q' hq => ⟨ph, S, r, M, _, hs, ht, fun c H1 ⟨ph1, S1, M1, x1, hs1, g1⟩ => by
    cases c with
    | true => exact ⟨ph1, S1, r, M1, _, hs1, g1, fun c' H2 h2 => hq _ _ (Aft.up x1 h2)⟩
    | false => exact ⟨ph1, S1, r, M1, _, hs1, g1, fun c' H2 h2 => hq _ _ (Aft.up x1 h2)⟩⟩
/-- -a -/
def gNeg (d : D) (M : Mem) (Q : DQ) : Prop := match d with
  | .int i => Q (.int (-i)) M
  | _ => False
def dNeg (t : DTE) : DTE := fun r M Q => t r M fun d M1 => gNeg d M1 Q
theorem de_neg {t : DTE} (h : DE X a t) : DE X (.UnaryOp .USub a pos) (dNeg t) :=
  DE.of (pe_un un_neg h.pe) fun ph S r M σ H Q hs ht Q' hq => ⟨ph, S, r, M, _, hs, ht, fun v H1 ⟨ph1, S1, M1, x1, hs1, d, q1, g1⟩ => by
    cases d <;> first | exact g1.elim | skip
    cases q1
    exact ⟨_, rfl, hq _ _ ⟨ph1, S1, M1, x1, hs1, _, .int _, g1⟩⟩⟩

/-! ### argument lists, displays -/
def dNil : DTA := fun _ M Q => Q [] M
def dCons (t : DTE) (u : DTA) : DTA := fun r M Q => t r M fun d M1 => u r M1 fun ds M2 => Q (d :: ds) M2
theorem da_nil : DA X [] dNil := DA.of pa_nil fun ph S r M σ H Q hs ht Q' hq => hq _ _ (Aft.here hs ⟨_, .nil, ht⟩)
theorem da_cons {e : Expr} {es : List Expr} {t : DTE} {u : DTA} (h : DE X e t) (h2 : DA X es u) (hs : starEach (e :: es) X.env = (false, eval e X.env) :: starEach es X.env := by rfl) : DA X (e :: es) (dCons t u) :=
  DA.of (pa_cons h.pe h2.pa hs) fun ph S r M σ H Q hs ht Q' hq => ⟨ph, S, r, M, _, hs, ht, fun v H1 ⟨ph1, S1, M1, x1, hs1, d, q1, g1⟩ =>
    ⟨ph1, S1, r, M1, _, hs1, g1, fun vs H2 ⟨ph2, S2, M2, x2, hs2, ds, q2, g2⟩ => hq _ _ ⟨ph2, S2, M2, x1.trans x2, hs2, _, .cons (q1.up x2) q2, g2⟩⟩⟩
def dTup (t : DTA) : DTE := fun r M Q => t r M fun ds M1 => ds.length ≤ sizeLine ∧ Q (.tup ds) M1
def dLst (t : DTA) : DTE := fun r M Q => t r M fun ds M1 => ds.length ≤ sizeLine ∧ Q (.lst ds) M1
/-- a list that will be changed -/
def dOwn (t : DTA) : DTE := fun r M Q => t r M fun ds M1 => ds.length ≤ sizeLine ∧ Q (.own M1.length) (M1 ++ [.lst ds])
theorem de_tup {es : List Expr} {x1} {t : DTA} (h : DA X es t) : DE X (.Tuple es x1 pos) (dTup t) :=
  DE.of (pe_tup h.pa) fun ph S r M σ H Q hs ht Q' hq => ⟨ph, S, r, M, _, hs, ht, fun vs H1 ⟨ph1, S1, M1, x1, hs1, ds, q1, hz, g1⟩ =>
    ⟨by rw [q1.len]; exact hz, fun p hp => hq _ _ (Aft.up x1 (Aft.frz hs1 hp fun x => ⟨_, .tup upd_same (q1.up x), g1⟩))⟩⟩
theorem de_lst {es : List Expr} {t : DTA} (h : DA X es t) : DE X (.List es pos) (dLst t) :=
  DE.of (pe_lst h.pa) fun ph S r M σ H Q hs ht Q' hq => ⟨ph, S, r, M, _, hs, ht, fun vs H1 ⟨ph1, S1, M1, x1, hs1, ds, q1, hz, g1⟩ =>
    ⟨by rw [q1.len]; exact hz, fun p hp => hq _ _ (Aft.up x1 (Aft.frz hs1 hp fun x => ⟨_, .lst upd_same (q1.up x), g1⟩))⟩⟩
theorem Aft.own {K : PySem.W.Frag} {ph : Ph} {S : Hp} {r : Env} {σ : St} {H : Hp} {M : Mem} {p : Addr} {xs : List V} {ds : List D} {Q : DQ} (h : Sat K ph S r M σ H) (hp : H p = none) (hr : RepAll K ph S xs ds) (q : Q (.own M.length) (M ++ [.lst ds])) :
    post K ph S r σ Q (.ref p) (upd H p (.lst xs)) :=
  let ⟨x, hs, e⟩ := h.new hp hr
  ⟨_, _, _, x, hs, _, .own e, q⟩
theorem de_own {es : List Expr} {t : DTA} (h : DA X es t) : DE X (.List es pos) (dOwn t) :=
  DE.of (pe_lst h.pa) fun ph S r M σ H Q hs ht Q' hq => ⟨ph, S, r, M, _, hs, ht, fun vs H1 ⟨ph1, S1, M1, x1, hs1, ds, q1, hz, g1⟩ =>
    ⟨by rw [q1.len]; exact hz, fun p hp => hq _ _ (Aft.up x1 (Aft.own hs1 hp q1 g1))⟩⟩
theorem de_dct0 : DE X (.Dict [] [] pos) (dC .dct0) :=
  DE.of pe_dnewK fun ph S r M σ H Q hs ht Q' hq p hp => hq _ _ (Aft.frz hs hp fun x => ⟨_, .dct0 upd_same, ht⟩)

/-! ### subscripts -/
/-- d's item at i, for every kind of sequence -/
def gIx : G2 := fun x y M Q => match res M x, y with
  | .lst l, .int i => match atI l i with
    | some d => Q d M
    | none => False
  | .tup l, .int i => match atI l i with
    | some d => Q d M
    | none => False
  | .scr ns, .int i => match atI ns i with
    | some n => Q (.int n) M
    | none => False
  | _, _ => False
theorem atI_rep {K : PySem.W.Frag} {ph : Ph} {S : Hp} {vs : List V} {ds : List D} {i : Int} {d : D} (h : RepAll K ph S vs ds) (e : atI ds i = some d) : ∃ v, atI vs i = some v ∧ Rep K ph S v d := by
  unfold atI at e ⊢
  rw [h.len]
  cases q : ixN ds.length i with
  | none => rw [q] at e; cases e
  | some j =>
    rw [q] at e
    exact h.get e
theorem atI_map {α β : Type} {f : α → β} {l : List α} {i : Int} {x : α} (e : atI l i = some x) : atI (l.map f) i = some (f x) := by
  unfold atI at e ⊢
  rw [List.length_map]
  cases q : ixN l.length i with
  | none => rw [q] at e; cases e
  | some j =>
    rw [q] at e
    show (l.map f)[j]? = _
    rw [List.getElem?_map]
    rw [show l[j]? = some x from e]
    rfl
theorem Rep.unS {K : PySem.W.Frag} {ph : Ph} {S : Hp} {r : Env} {M : Mem} {σ : St} {H : Hp} {v : V} {d : D} (hs : Sat K ph S r M σ H) {xs : List V} (_ : RepAll K ph S xs [d]) (q : Rep K ph S v d) : Rep K ph S v d := q
/-- an owned list's items represent over S -/
theorem res_lst {K : PySem.W.Frag} {ph : Ph} {S : Hp} {r : Env} {M : Mem} {σ : St} {H : Hp} {v : V} {d : D} {l : List D} (hs : Sat K ph S r M σ H) (q : Rep K ph S v d) (e : res M d = .lst l) : ∃ a xs, v = .ref a ∧ H a = some (.lst xs) ∧ RepAll K ph S xs l := by
  cases d <;> first | (unfold res at e; cases e; done) | skip
  · cases e
    cases q with
    | lst h1 h2 => exact ⟨_, _, rfl, hs.sub _ _ h1, h2⟩
  · rename_i k
    unfold res at e
    dsimp only at e
    split at e
    · rename_i ds hk
      cases e
      cases q with
      | own h =>
        obtain ⟨a, xs, c1, c2, c3, c4⟩ := hs.cell k _ hk
        rw [h] at c1; cases c1
        exact ⟨_, _, rfl, c3, c4⟩
    · cases e
theorem res_same {M : Mem} {d : D} (h : ∀ k, d ≠ .own k) : res M d = d := by
  cases d <;> first | rfl | exact absurd rfl (h _)
theorem res_tup {M : Mem} {d : D} {l : List D} (e : res M d = .tup l) : d = .tup l := by
  cases d <;> first | exact e | skip
  unfold res at e
  dsimp only at e
  split at e <;> cases e
theorem res_scr {M : Mem} {d : D} {l : List Int} (e : res M d = .scr l) : d = .scr l := by
  cases d <;> first | exact e | skip
  unfold res at e
  dsimp only at e
  split at e <;> cases e
theorem de_ix {ta tb : DTE} (ha : DE X a ta) (hb : DE X b tb) (hs : PlainIx b := by exact fun _ _ => rfl) : DE X (.Subscript a b pos) (dOp gIx ta tb) :=
  DE.of (pe_ix (ix_list.or ix_tup) ha.pe hb.pe hs) fun ph S r M σ H Q hs ht Q' hq => ⟨ph, S, r, M, _, hs, ht, fun v H1 ⟨ph1, S1, M1, x1, hs1, d, q1, g1⟩ =>
    ⟨ph1, S1, r, M1, _, hs1, g1, fun u H2 ⟨ph2, S2, M2, x2, hs2, e, q2, g2⟩ => by
      have q1' := q1.up x2
      have xx := x1.trans x2
      replace g2 : gIx d e M2 Q := g2
      unfold gIx at g2
      split at g2
      · rename_i l i er
        cases q2
        split at g2
        · rename_i d' ei
          obtain ⟨p, xs, rfl, hp, hx⟩ := res_lst hs2 q1' er
          obtain ⟨w, ew, qw⟩ := atI_rep hx ei
          exact .inl ⟨p, xs, i, w, rfl, rfl, SqL.of hp, ew, hq _ _ ⟨ph2, S2, M2, xx, hs2, _, qw, g2⟩⟩
        · exact g2.elim
      · rename_i l i er
        cases q2
        split at g2
        · rename_i d' ei
          cases res_tup er
          cases q1' with
          | tup h1 h2 =>
            obtain ⟨w, ew, qw⟩ := atI_rep h2 ei
            exact .inr ⟨_, _, i, w, rfl, rfl, SqT.of (hs2.sub _ _ h1), ew, hq _ _ ⟨ph2, S2, M2, xx, hs2, _, qw, g2⟩⟩
        · exact g2.elim
      · rename_i ns i er
        cases q2
        split at g2
        · rename_i n ei
          cases res_scr er
          cases q1' with
          | scr h1 => exact .inl ⟨_, _, i, _, rfl, rfl, hs2.sub.seq h1, atI_map ei, hq _ _ ⟨ph2, S2, M2, xx, hs2, _, .int _, g2⟩⟩
        · exact g2.elim
      · exact g2.elim⟩⟩
end DL
/-! DL5: defs and their calls -/
namespace DL
open PySem PySem.Spec PyProof.Rows L2

/-! ### a def's promise over the hand layer, where no guard runs -/
structure FnG (P : Program) (w : World) (K : PySem.W.Frag) (mg : Str → Option Value) (base : Heap) (CX : CXT) (k : Nat) (f : Addr) (fd : FuncData) (ps : List Str) (sp : Sp) : Prop where
  len : ∀ vs H Q E, sp vs H Q E → vs.length = ps.length
  run : ∀ (A : Around) (outer : List PySem.Env) (s : Shared) (H : Hp) (args : Args) (us : List Value) (vs : List V) (Q : VK) (E : XK), Room k A → A.guards = some [] → Env0 P w K mg base A outer s H → BindsTo s fd args (ps.zip us) → Vals vs us → sp vs H Q E →
    codeAny (model P w) A (.call (.ref f) args) (CR CX outer P w H s Q E) s
theorem FnG.mono {P : Program} {w : World} {K : PySem.W.Frag} {mg : Str → Option Value} {base : Heap} {CX : CXT} {j k : Nat} {f : Addr} {fd : FuncData} {ps : List Str} {sp : Sp} (F : FnG P w K mg base CX j f fd ps sp) (h : j ≤ k) :
    FnG P w K mg base CX k f fd ps sp := ⟨F.len, fun A outer s H args us vs Q E hr => F.run A outer s H args us vs Q E (hr.mono h)⟩
section
variable {X : Cx} {CX : CXT} {k : Nat} {f : Addr} {fd : FuncData} {ps : List Str} {sp : Sp} {dvs : List V} {ds : List Value} {E : XK} {x : Str} {p pos : Pos} {e : Expr} {es : List Expr} {t : TA}
theorem run_fnG {pins : List (Addr × Obj)} {σ : St} {H : Hp} {s : Shared} {Q : VK} {us : List Value} {vs : List V} (F : FnG X.prog X.w X.K X.mg X.base CX k f fd ps sp) (hr : Room k X.A) (gd : X.A.guards = some []) (hb : Binds X.K fd ps ds) (hd : Vals dvs ds) (hx : Passes CX X E)
    (I : Inv X pins σ H s) (r : Vals vs us) (h : sp (vs ++ dvs) H Q E) : wpAny (model X.prog X.w) X.A (call (.ref f) us) (EP X pins σ Q) X.xe s := by
  have r2 : Vals (vs ++ dvs) (us ++ ds) := r.append hd
  have hl : (us ++ ds).length = ps.length := by rw [← r2.length]; exact F.len _ _ _ _ h
  refine wpAny_call (codeAny_mono (F.run X.A X.stack s H ⟨us, []⟩ (us ++ ds) (vs ++ dvs) Q E hr gd I.env0 (hb s us I.kIn hl) r2 h) fun r s' hq => ?_)
  match r, hq with
  | .error e, hq => exact hx pins σ H s e s' I hq
  | .ok (.ret u), hq => exact I.after hq
  | .ok .next, hq => exact False.elim hq
  | .ok .brk, hq => exact False.elim hq
  | .ok .cont, hq => exact False.elim hq
theorem pe_callG (F : FnG X.prog X.w X.K X.mg X.base CX k f fd ps sp) (hr : Room k X.A) (gd : X.A.guards = some []) (hg : Gl X x) (hm : X.mg x = some (.ref f)) (hk : PySem.W.keepIn X.K (.ref f) = true) (hb : Binds X.K fd ps ds) (hd : Vals dvs ds) (hx : Passes CX X E)
    (ha : PA X (e :: es) t) (hdb : (x == ("__debug__" : Str)) = false := by decide) (he : starEach (e :: es) X.env = (false, eval e X.env) :: starEach es X.env := by rfl) (hpl : (backTo pos (starEach es X.env)).any (·.1) = false := by rfl) :
    PE X (.Call (.Name x p) (e :: es) [] pos) (tCall sp dvs E t) :=
  ⟨fun pins s σ H Q I h => wpAny_Call_Name_kw (ld_glob I hg hm (PySem.W.callWith_K (h₀ := X.base) I.ok.mod.kin hk (thn (ha.run pos pins s σ H _ I h) fun us s1 ⟨vs, H1, I1, r, q⟩ => ⟨I1.kIn, run_fnG F hr gd hb hd hx I1 r q⟩) he hpl) hdb)⟩
theorem pe_callG0 (F : FnG X.prog X.w X.K X.mg X.base CX k f fd ps sp) (hr : Room k X.A) (gd : X.A.guards = some []) (hg : Gl X x) (hm : X.mg x = some (.ref f)) (hk : PySem.W.keepIn X.K (.ref f) = true) (hb : Binds X.K fd ps ds) (hd : Vals dvs ds) (hx : Passes CX X E)
    (hdb : (x == ("__debug__" : Str)) = false := by decide) : PE X (.Call (.Name x p) [] [] pos) (tCall sp dvs E tNil) :=
  ⟨fun pins s σ H Q I h => wpAny_Call_Name_kw (ld_glob I hg hm (PySem.W.callWith_K0 I.kIn hk (run_fnG (us := []) F hr gd hb hd hx I .nil h)) hdb)⟩
end
theorem guards_deeper {A : Around} {env : PySem.Env} (h : A.guards = some []) : (A.deeper env).guards = some [] := h
/-- a def by its body -/
theorem fnG_of {CX : CXT} {P : Program} {w : World} {K : PySem.W.Frag} {mg : Str → Option Value} {base : Heap} {k : Nat} {f : Addr} {name qual : Str} {params : Arguments} {body : List Stmt} {scope : Scope} {dV kV doc pm cdv ct oc : Value} {an od : Option Addr}
    {osl : Array (Option Value)} {N ps : List Str} {sp : Sp} (lk : K.lookup f = some ⟨oc, od, .func (PySem.W.fnOf name qual params body scope dV kV doc pm an cdv ct), osl⟩) (hcd : PySem.W.codeIn K cdv qual = true) (S : FnScope N ps scope)
    (len : ∀ vs H Q E, sp vs H Q E → vs.length = ps.length)
    (hbody : ∀ (A : Around) (outer : List PySem.Env) (s : Shared) (H : Hp) (vs : List V) (Q : VK) (E : XK), Room k (A.deeper (envOfC qual scope s.heap.objs.size f cdv)) → A.guards = some [] → sp vs H Q E →
      ∃ t, PSs (cxOf CX P w K mg base N qual scope f cdv A outer s H E) body t ∧ t { nx := fun _ H' => Q .non H', rt := Q } (start N vs) H) :
    FnG P w K mg base CX (k + 1) f (PySem.W.fnOf name qual params body scope dV kV doc pm an cdv ct) ps sp := by
  refine ⟨len, fun A outer s H args us vs Q E hr gd e0 hb r hsp => ?_⟩
  have hl := len _ _ _ _ hsp
  have KX : K.In s.heap := e0.mod.kin.keeps fun b o e => (e0.bs b o e).1
  have lim : s.heap.NoLimit := e0.mod.nolimit.keeps fun b o e => (e0.bs b o e).1
  refine codeAny_call_function hr.depth (KX _ _ lk) rfl S.co S.gen rfl (PySem.W.codeRec_of KX hcd) (hb _ _ _ _ ?_)
  refine wpAny_newFunctionEnv_cells S.kind (fun y hy => ?_) fun env he s1 x => ?_
  · rcases S.par y.1 (List.of_mem_zip (a := y.1) (b := y.2) hy).1 with q | q
    · exact .inl q
    · exact .inr ⟨q, PySem.W.cellsFrom_some _ _ _ (.inl q)⟩
  subst he
  refine ⟨lim.keeps x.toInCall.keep, codeAny_func ?_⟩
  obtain ⟨t, ht, hq⟩ := hbody A outer s H vs Q E (hr.deeper _) gd hsp
  have I : Inv (cxOf CX P w K mg base N qual scope f cdv A outer s H E) [] (start N vs) H s1 := inv_start S hr.hd e0 hl r x
  refine wpAny_mono (ht.run [] s1 (start N vs) H _ I hq) (fun fl s' hs => ?_) fun e s' hs => hs
  match fl, hs with
  | .ret u, ⟨v, σ', H', J, rv, q⟩ => exact ⟨v, H', J.os, J.bare, J.base, J.hok, rv, q⟩
  | .next, ⟨σ', H', J, q⟩ => exact ⟨V.non, H', J.os, J.bare, J.base, J.hok, rfl, q⟩
  | .brk, ⟨_, _, _, q⟩ => exact False.elim q
  | .cont, ⟨_, _, _, q⟩ => exact False.elim q

/-! ### a def's promise over data -/
/-- what is wanted of an exception: its class, its value, the cells -/
abbrev DX := Addr → D → Mem → Prop
abbrev DSp := List D → Mem → DQ → DX → Prop
def DX0 : DX := fun _ _ _ => False
def postM (K : PySem.W.Frag) (ph : Ph) (S : Hp) (Q : DQ) : VK := post K ph S [] [] Q
def postX (K : PySem.W.Frag) (ph : Ph) (S : Hp) (E : DX) : XK := fun cls d H => ∃ (C dd : Addr) (v : V) (dv : D), cls = .ref C ∧ d = some dd ∧
  Aft K ph S [] [] H fun ph' S' M => S' dd = some (.xd [(fVal, v)]) ∧ Rep K ph' S' v dv ∧ E C dv M
def lfSp (K : PySem.W.Frag) (n : Nat) (sp : DSp) : Sp := fun vs H Q E => ∃ ph S M ds Q0 E0, ds.length = n ∧ Sat K ph S [] M [] H ∧ RepAll K ph S vs ds ∧ sp ds M Q0 E0 ∧ (∀ v H', postM K ph S Q0 v H' → Q v H') ∧ (∀ cls d H', postX K ph S E0 cls d H' → E cls d H')
abbrev FnD (P : Program) (w : World) (K : PySem.W.Frag) (mg : Str → Option Value) (base : Heap) (CX : CXT) (k : Nat) (f : Addr) (fd : FuncData) (ps : List Str) (sp : DSp) : Prop :=
  FnG P w K mg base CX k f fd ps (lfSp K ps.length sp)
theorem Sat.drop {K : PySem.W.Frag} {ph : Ph} {S : Hp} {r : Env} {M : Mem} {σ : St} {H : Hp} (h : Sat K ph S r M σ H) : Sat K ph S [] M [] H :=
  ⟨h.sub, h.len, h.nd, h.trk, h.cell, h.hid, h.hnd, rfl, fun i d e => by simp at e⟩
/-- behind a call the names are as they were -/
theorem Sat.back {K : PySem.W.Frag} {ph ph' : Ph} {S S' : Hp} {r : Env} {M M' : Mem} {σ : St} {H H' : Hp} (h : Sat K ph S r M σ H) (x : Ext ph S ph' S') (h' : Sat K ph' S' [] M' [] H') : Sat K ph' S' r M' σ H' :=
  ⟨h'.sub, h'.len, h'.nd, h'.trk, h'.cell, h'.hid, h'.hnd, h.el, fun i d e => let ⟨v, e1, q⟩ := h.env i d e; ⟨v, e1, q.up x⟩⟩
section
variable {X : Cx} {CX : CXT} {k : Nat} {f : Addr} {fd : FuncData} {ps : List Str} {sp : DSp} {x : Str} {p pos : Pos} {e : Expr} {es : List Expr} {t : DTA}
/-- f(..), then the defaults -/
def dCall (n : Nat) (sp : DSp) (dvs : List D) (E : DX) (t : DTA) : DTE := fun r M Q => t r M fun ds M1 => (ds ++ dvs).length = n ∧ sp (ds ++ dvs) M1 Q E
/-- a value that is the same everywhere -/
def Cst (K : PySem.W.Frag) (v : V) (d : D) : Prop := ∀ ph S, Rep K ph S v d
inductive Csts (K : PySem.W.Frag) : List V → List D → Prop
  | nil : Csts K [] []
  | cons {v : V} {d : D} {vs : List V} {ds : List D} : Cst K v d → Csts K vs ds → Csts K (v :: vs) (d :: ds)
theorem Csts.rep {K : PySem.W.Frag} {ph : Ph} {S : Hp} : ∀ {vs : List V} {ds : List D}, Csts K vs ds → RepAll K ph S vs ds
  | _, _, .nil => .nil
  | _, _, .cons h t => .cons (h _ _) t.rep
theorem lf_call {t' : TA} {dvs : List V} {dds : List D} {E' : XK} {E : DX} (hE : ∀ ph S cls d H', postX X.K ph S E cls d H' → E' cls d H') (hc : Csts X.K dvs dds) {ph : Ph} {S : Hp} {r : Env} {M : Mem} {σ : St} {H : Hp} {Q : DQ} {Q' : VK} (hs : Sat X.K ph S r M σ H) (ht : dCall ps.length sp dds E t r M Q) (hq : ∀ v H', post X.K ph S r σ Q v H' → Q' v H')
    (w : ∀ Q1 : List V → Hp → Prop, (∀ vs H', postA X.K ph S r σ (fun ds M1 => (ds ++ dds).length = ps.length ∧ sp (ds ++ dds) M1 Q E) vs H' → Q1 vs H') → t' σ H Q1) : tCall (lfSp X.K ps.length sp) dvs E' t' σ H Q' :=
  w _ fun vs H1 ⟨ph1, S1, M1, x1, hs1, ds, q1, hl, h1⟩ => ⟨ph1, S1, M1, ds ++ dds, Q, E, hl, hs1.drop, q1.app hc.rep, h1, fun v H2 ⟨ph2, S2, M2, x2, hs2, d, q2, h2⟩ => hq _ _ ⟨ph2, S2, M2, x1.trans x2, hs1.back x2 hs2, d, q2, h2⟩, fun cls d H2 h2 => hE _ _ _ _ _ h2⟩
theorem de_callX {dvs : List V} {dds : List D} {ds : List Value} {E' : XK} {E : DX} (F : FnD X.prog X.w X.K X.mg X.base CX k f fd ps sp) (hr : Room k X.A) (gd : X.A.guards = some []) (hm : X.mg x = some (.ref f)) (hk : PySem.W.keepIn X.K (.ref f) = true) (hb : Binds X.K fd ps ds) (hd : Vals dvs ds) (hc : Csts X.K dvs dds) (hx : Passes CX X E') (hE : ∀ ph S cls d H', postX X.K ph S E cls d H' → E' cls d H')
    (ha : DA X (e :: es) t) (hg : Gl X x := by rfl) (hdb : (x == ("__debug__" : Str)) = false := by decide) (he : starEach (e :: es) X.env = (false, eval e X.env) :: starEach es X.env := by rfl) (hpl : (backTo pos (starEach es X.env)).any (·.1) = false := by rfl) :
    DE X (.Call (.Name x p) (e :: es) [] pos) (dCall ps.length sp dds E t) :=
  DE.of (pe_callG F hr gd hg hm hk hb hd hx ha.pa hdb he hpl) fun ph S r M σ H Q hs ht Q' hq => lf_call hE hc hs ht hq fun Q1 hQ1 => ⟨ph, S, r, M, _, hs, ht, hQ1⟩
theorem de_call0X {dvs : List V} {dds : List D} {ds : List Value} {E' : XK} {E : DX} (F : FnD X.prog X.w X.K X.mg X.base CX k f fd ps sp) (hr : Room k X.A) (gd : X.A.guards = some []) (hm : X.mg x = some (.ref f)) (hk : PySem.W.keepIn X.K (.ref f) = true) (hb : Binds X.K fd ps ds) (hd : Vals dvs ds) (hc : Csts X.K dvs dds) (hx : Passes CX X E') (hE : ∀ ph S cls d H', postX X.K ph S E cls d H' → E' cls d H')
    (hg : Gl X x := by rfl) (hdb : (x == ("__debug__" : Str)) = false := by decide) : DE X (.Call (.Name x p) [] [] pos) (dCall ps.length sp dds E dNil) :=
  DE.of (pe_callG0 F hr gd hg hm hk hb hd hx hdb) fun ph S r M σ H Q hs ht Q' hq => lf_call hE hc hs ht hq fun Q1 hQ1 => hQ1 _ _ (Aft.here hs ⟨_, .nil, ht⟩)
theorem pX0 : ∀ ph S cls d H', postX X.K ph S DX0 cls d H' → E0 cls d H' := fun _ _ _ _ _ ⟨_, _, _, _, _, _, _, _, _, _, _, _, _, z⟩ => z
/-- what is told of a def of the module, for its callers -/
structure Def (P : Program) (w : World) (K : PySem.W.Frag) (mg : Str → Option Value) (base : Heap) (CX : CXT) (k : Nat) (x : Str) (st : Stmt) (ps : List Str) (sp : DSp) : Prop where
  ex : ∃ (f : Addr) (fd : FuncData), FnD P w K mg base CX k f fd ps sp ∧ mg x = some (.ref f) ∧ PySem.W.keepIn K (.ref f) = true ∧ Binds K fd ps [] ∧ Fun K x x st f fd
/-- a call of a def from which nothing is raised -/
theorem dcall {n : Nat} {st : Stmt} {P : Program} {w : World} {K : PySem.W.Frag} {mg : Str → Option Value} {base : Heap} (F : Def P w K mg base CX0 k x st ps sp) {j : Nat} (hr : Room j X.A) (gd : X.A.guards = some []) (ha : DA X (e :: es) t) (hj : k ≤ j := by decide) (hn : ps.length = n := by rfl)
    (h1 : P = X.prog := by rfl) (h2 : w = X.w := by rfl) (h3 : K = X.K := by rfl) (h4 : mg = X.mg := by rfl) (h5 : base = X.base := by rfl) (hg : Gl X x := by rfl) (hdb : (x == ("__debug__" : Str)) = false := by decide) (he : starEach (e :: es) X.env = (false, eval e X.env) :: starEach es X.env := by rfl)
    (hpl : (backTo pos (starEach es X.env)).any (·.1) = false := by rfl) : DE X (.Call (.Name x p) (e :: es) [] pos) (dCall n sp [] DX0 t) := by
  subst h1 h2 h3 h4 h5 hn
  obtain ⟨f, fd, h1, h2, h3, h4, _⟩ := F.ex
  exact de_callX h1 (hr.mono hj) gd h2 h3 h4 .nil .nil pass0 pX0 ha hg hdb he hpl
theorem dcall0 {n : Nat} {st : Stmt} {P : Program} {w : World} {K : PySem.W.Frag} {mg : Str → Option Value} {base : Heap} (F : Def P w K mg base CX0 k x st ps sp) {j : Nat} (hr : Room j X.A) (gd : X.A.guards = some []) (hj : k ≤ j := by decide) (hn : ps.length = n := by rfl)
    (h1 : P = X.prog := by rfl) (h2 : w = X.w := by rfl) (h3 : K = X.K := by rfl) (h4 : mg = X.mg := by rfl) (h5 : base = X.base := by rfl) (hg : Gl X x := by rfl) (hdb : (x == ("__debug__" : Str)) = false := by decide) :
    DE X (.Call (.Name x p) [] [] pos) (dCall n sp [] DX0 dNil) := by
  subst h1 h2 h3 h4 h5 hn
  obtain ⟨f, fd, h1, h2, h3, h4, _⟩ := F.ex
  exact de_call0X h1 (hr.mono hj) gd h2 h3 h4 .nil .nil pass0 pX0 hg hdb
end

/-! ### at the end of a def: the cells that it made are left behind -/
mutual
def below (n : Nat) : D → Bool
  | .tup l => belowAll n l
  | .lst l => belowAll n l
  | .own k => decide (k < n)
  | .exc _ d => below n d
  | _ => true
def belowAll (n : Nat) : List D → Bool
  | [] => true
  | d :: ds => below n d && belowAll n ds
end
def belowO (n : Nat) : Own → Bool
  | .lst l => belowAll n l
  | .dead => true
section
variable {K : PySem.W.Frag} {ph : Ph} {S : Hp} {n : Nat}
mutual
theorem Rep.take : ∀ (d : D) (v : V), below n d = true → Rep K ph S v d → Rep K (ph.cut n) S v d
  | .non, _, _, h => by cases h; exact .non
  | .bl _, _, _, h => by cases h; exact .bl _
  | .int _, _, _, h => by cases h; exact .int _
  | .str _, _, _, h => by cases h; exact .str _
  | .tup ds, _, e, h => by
    cases h with
    | tup h1 h2 => exact .tup h1 (RepAll.takeP ds _ (by simpa only [below] using e) h2)
  | .lst ds, _, e, h => by
    cases h with
    | lst h1 h2 => exact .lst h1 (RepAll.takeP ds _ (by simpa only [below] using e) h2)
  | .dct0, _, _, h => by
    cases h with
    | dct0 h1 => exact .dct0 h1
  | .scr ns, _, _, h => by
    cases h with
    | scr h1 => exact .scr h1
  | .own k, _, e, h => by
    cases h with
    | own h1 =>
      have e' : k < n := of_decide_eq_true (by simpa only [below] using e)
      exact .own (by show (ph.cells.take n)[k]? = _; rw [List.getElem?_take_of_lt e']; exact h1)
  | .exc C d, _, e, h => by
    cases h with
    | exc h1 h2 h3 => exact .exc h1 h2 (Rep.take d _ (by simpa only [below] using e) h3)
  | .val v, _, _, h => by cases h; exact .val _
theorem RepAll.takeP : ∀ (ds : List D) (vs : List V), belowAll n ds = true → RepAll K ph S vs ds → RepAll K (ph.cut n) S vs ds
  | [], _, _, h => by cases h; exact .nil
  | d :: ds, _, e, h => by
    have e' : below n d = true ∧ belowAll n ds = true := by simpa only [belowAll, Bool.and_eq_true] using e
    cases h with
    | cons h1 h2 => exact .cons (Rep.take d _ e'.1 h1) (RepAll.takeP ds _ e'.2 h2)
end
mutual
theorem Rep.belowP : ∀ (d : D) (v : V), Rep K ph S v d → below ph.cells.length d = true
  | .non, _, _ => by simp only [below]
  | .bl _, _, _ => by simp only [below]
  | .int _, _, _ => by simp only [below]
  | .str _, _, _ => by simp only [below]
  | .tup ds, _, h => by
    cases h with
    | tup h1 h2 => simp only [below]; exact RepAll.belowP ds _ h2
  | .lst ds, _, h => by
    cases h with
    | lst h1 h2 => simp only [below]; exact RepAll.belowP ds _ h2
  | .dct0, _, _ => by simp only [below]
  | .scr ns, _, _ => by simp only [below]
  | .own k, _, h => by
    cases h with
    | own h1 => simp only [below]; exact decide_eq_true (List.getElem?_eq_some_iff.mp h1).1
  | .exc C d, _, h => by
    cases h with
    | exc h1 h2 h3 => simp only [below]; exact Rep.belowP d _ h3
  | .val v, _, _ => by simp only [below]
theorem RepAll.belowP : ∀ (ds : List D) (vs : List V), RepAll K ph S vs ds → belowAll ph.cells.length ds = true
  | [], _, _ => by simp only [belowAll]
  | d :: ds, _, h => by
    cases h with
    | cons h1 h2 => simp only [belowAll, Bool.and_eq_true]; exact ⟨Rep.belowP d _ h1, RepAll.belowP ds _ h2⟩
end
end
mutual
theorem below.mono {m n : Nat} (hmn : m ≤ n) : ∀ d : D, below m d = true → below n d = true
  | .non, _ => by simp only [below]
  | .bl _, _ => by simp only [below]
  | .int _, _ => by simp only [below]
  | .str _, _ => by simp only [below]
  | .tup ds, h => by
    simp only [below] at h ⊢
    exact belowAll.mono hmn ds h
  | .lst ds, h => by
    simp only [below] at h ⊢
    exact belowAll.mono hmn ds h
  | .dct0, _ => by simp only [below]
  | .scr _, _ => by simp only [below]
  | .own k, h => by
    simp only [below] at h ⊢
    have := of_decide_eq_true h
    exact decide_eq_true (by omega)
  | .exc _ d, h => by
    simp only [below] at h ⊢
    exact below.mono hmn d h
  | .val _, _ => by simp only [below]
theorem belowAll.mono {m n : Nat} (hmn : m ≤ n) : ∀ ds : List D, belowAll m ds = true → belowAll n ds = true
  | [], _ => by simp only [belowAll]
  | d :: ds, h => by
    simp only [belowAll, Bool.and_eq_true] at h ⊢
    exact ⟨below.mono hmn d h.1, belowAll.mono hmn ds h.2⟩
end
/-- d and the cells M1 are what stays of M': all else was made by the def -/
def Rtq (M : Mem) (Q : DQ) : DQ := fun d M' => ∃ M1 G, M' = M1 ++ G ∧ M.length ≤ M1.length ∧ below M1.length d = true ∧ (∀ (i : Nat) (c : Own), M1[i]? = some c → M[i]? = some c ∨ belowO M1.length c = true) ∧ Q d M1
theorem Sat.leave {K : PySem.W.Frag} {ph ph1 : Ph} {S S1 : Hp} {r : Env} {M M1 G : Mem} {σ : St} {H H1 : Hp} (h0 : Sat K ph S [] M [] H) (x : Ext ph S ph1 S1) (h : Sat K ph1 S1 r (M1 ++ G) σ H1) (hl : M.length ≤ M1.length) (hc : ∀ (i : Nat) (c : Own), M1[i]? = some c → M[i]? = some c ∨ belowO M1.length c = true) :
    Ext ph S (ph1.cut M1.length) S1 ∧ Sat K (ph1.cut M1.length) S1 [] M1 [] H1 := by
  have hpl : M1.length ≤ ph1.cells.length := by have := h.len; rw [List.length_append] at this; omega
  have up : ∀ (k : Nat) (a : Addr), k < M1.length → ph1.cells[k]? = some a → (ph1.cut M1.length).cells[k]? = some a := fun k a hk e => by show (ph1.cells.take M1.length)[k]? = _; rw [List.getElem?_take_of_lt hk]; exact e
  have dn : ∀ (k : Nat) (a : Addr), (ph1.cut M1.length).cells[k]? = some a → ph1.cells[k]? = some a := fun k a e => by
    replace e : (ph1.cells.take M1.length)[k]? = some a := e
    have hk : k < M1.length := by
      have := (List.getElem?_eq_some_iff.mp e).1
      rw [List.length_take] at this; omega
    rw [List.getElem?_take_of_lt hk] at e; exact e
  refine ⟨⟨fun k a e => up k a ?_ (x.pre k a e), x.same, x.hid⟩, h.sub, ?_, h.nd.sublist (List.take_sublist _ _), fun k a e => h.trk k a (dn k a e), fun k ds e => ?_, fun q hq => ?_, h.hnd, rfl, fun i d e => by simp at e⟩
  · refine Nat.lt_of_lt_of_le ?_ hl
    rw [← h0.len]; exact (List.getElem?_eq_some_iff.mp e).1
  · show (ph1.cells.take M1.length).length = _
    rw [List.length_take]; omega
  · have kl : k < M1.length := (List.getElem?_eq_some_iff.mp e).1
    obtain ⟨a, xs, c1, c2, c3, c4⟩ := h.cell k ds (by rw [List.getElem?_append_left kl]; exact e)
    refine ⟨a, xs, up k a (by omega) c1, c2, c3, RepAll.takeP ds xs ?_ c4⟩
    rcases hc k _ e with q | q
    · obtain ⟨_, _, _, _, _, b4⟩ := h0.cell k ds q
      refine belowAll.mono hl _ ?_
      rw [← h0.len]; exact RepAll.belowP _ _ b4
    · simpa only [belowO] using q
  · obtain ⟨h1, h2, h3⟩ := h.hid q hq
    exact ⟨h1, h2, fun z => h3 (List.mem_of_mem_take z)⟩
theorem Rtq.out {K : PySem.W.Frag} {ph : Ph} {S : Hp} {M : Mem} {H : Hp} {Q : DQ} (h0 : Sat K ph S [] M [] H) {v : V} {H1 : Hp} (h : postR K ph S (Rtq M Q) v H1) : postM K ph S Q v H1 := by
  obtain ⟨r, σ, ph1, S1, M', x, hs, d, q, M1, G, rfl, hl, hb, hc, hq⟩ := h
  obtain ⟨x2, hs2⟩ := Sat.leave h0 x hs hl hc
  exact ⟨_, _, _, x2, hs2, d, Rep.take d v hb q, hq⟩
/-- the names at the entry -/
def startD (n : Nat) (ds : List D) : Env := ds.map some ++ List.replicate (n - ds.length) none
theorem Sat.start {K : PySem.W.Frag} {ph : Ph} {S : Hp} {M : Mem} {H : Hp} {vs : List V} {ds : List D} (h : Sat K ph S [] M [] H) (q : RepAll K ph S vs ds) (N : List Str) : Sat K ph S (startD N.length ds) M (L2.start N vs) H := by
  refine ⟨h.sub, h.len, h.nd, h.trk, h.cell, h.hid, h.hnd, ?_, fun i d e => ?_⟩
  · unfold startD L2.start
    rw [List.length_append, List.length_append, List.length_map, List.length_map, List.length_replicate, List.length_replicate, q.len]
  · unfold startD at e
    by_cases hi : i < ds.length
    · rw [List.getElem?_append_left (by rw [List.length_map]; exact hi), List.getElem?_map] at e
      cases e' : ds[i]? with
      | none => rw [e'] at e; cases e
      | some d' =>
        rw [e'] at e
        have e2 : d' = d := by simpa using e
        subst e2
        obtain ⟨v, ev, qv⟩ := q.get e'
        refine ⟨v, ?_, qv⟩
        unfold L2.start
        rw [List.getElem?_append_left (by rw [List.length_map, q.len]; exact hi), List.getElem?_map, ev]
        rfl
    · rw [List.getElem?_append_right (by rw [List.length_map]; omega), List.getElem?_replicate] at e
      split at e <;> cases e
/-- what the body's end is for the def -/
def dEnds (M : Mem) (Q : DQ) : DEnds := { nx := fun _ M' => Rtq M Q .non M', rt := Rtq M Q }
section
variable {P : Program} {w : World} {K : PySem.W.Frag} {mg : Str → Option Value} {base : Heap}
/-- THE RULE: a def from which nothing is raised, by its body; its end leaves its own cells behind -/
theorem Fun.okD {x qual : Str} {st : Stmt} {f : Addr} {fd : FuncData} {N ps : List Str} {k : Nat} {sp : DSp} {t : DTS} (F : Fun K x qual st f fd) (S : FnScope N ps (defScope st))
    (hder : ∀ (cdv : Value) (A : Around) (outer : List PySem.Env) (s : Shared) (H : Hp) (E : XK), Room k (A.deeper (envOfC qual (defScope st) s.heap.objs.size f cdv)) → (A.deeper (envOfC qual (defScope st) s.heap.objs.size f cdv)).guards = some [] →
      DSs (cxOf CX0 P w K mg base N qual (defScope st) f cdv A outer s H E).nox (defBody st) t)
    (hread : ∀ ds M Q, ds.length = ps.length → sp ds M Q DX0 → t (dEnds M Q) (startD N.length ds) M)
    (hX : ∀ ds M Q E, sp ds M Q E → sp ds M Q DX0 := by exact fun _ _ _ _ h => h) : FnD P w K mg base CX0 (k + 1) f fd ps sp := by
  obtain ⟨oc, od, kV, doc, pm, an, cdv, ct, osl, rfl, lk, hcd⟩ := F.ex
  refine fnG_of lk hcd S (fun vs H Q E h => ?_) fun A outer s H vs Q E hr gd hsp => ?_
  · obtain ⟨_, _, _, _, _, _, hl, _, q, _⟩ := h
    rw [q.len]; exact hl
  · obtain ⟨ph, S0, M, ds, Q0, E0, hl, hs, hq, h, h1, h2⟩ := hsp
    refine ⟨_, (hder cdv A outer s H E hr gd).pss.nox, ph, S0, startD N.length ds, M, dEnds M Q0, hs.start hq N, hread ds M Q0 hl (hX _ _ _ _ h), ?_, ?_, ?_, ?_⟩
    · rintro σ' H' ⟨r, ph1, S1, M1, x, hs1, z⟩
      exact h1 _ _ (Rtq.out hs ⟨r, σ', ph1, S1, M1, x, hs1, .non, .non, z⟩)
    · exact fun v H' z => h1 _ _ (Rtq.out hs z)
    · rintro σ' H' ⟨r, ph1, S1, M1, x, hs1, z⟩
      exact z.elim
    · rintro σ' H' ⟨r, ph1, S1, M1, x, hs1, z⟩
      exact z.elim
end
end DL
/-! DL6: statements, loops, comprehensions -/
namespace DL
open PySem PySem.Spec PyProof.Rows L2
variable {X : Cx}

theorem DS.of {st : Stmt} {t' : TS} {t : DTS} (h : PS X st t') (w : ∀ ph S r M σ H E, Sat X.K ph S r M σ H → t E r M → ∀ E', (∀ σ' H', postN X.K ph S E.nx σ' H' → E'.nx σ' H') → (∀ v H', postR X.K ph S E.rt v H' → E'.rt v H') → (∀ σ' H', postN X.K ph S E.bk σ' H' → E'.bk σ' H') → (∀ σ' H', postN X.K ph S E.ct σ' H' → E'.ct σ' H') → t' E' σ H) : DS X st t :=
  ⟨PS.weak h fun E σ H ⟨ph, S, r, M, E0, hs, ht, h1, h2, h3, h4⟩ => w ph S r M σ H E0 hs ht E h1 h2 h3 h4⟩
theorem postN.up {K : PySem.W.Frag} {ph ph1 : Ph} {S S1 : Hp} {Q : Env → Mem → Prop} {σ : St} {H : Hp} (x : Ext ph S ph1 S1) (h : postN K ph1 S1 Q σ H) : postN K ph S Q σ H := let ⟨r, q⟩ := h; ⟨r, Aft.up x q⟩
theorem postR.up {K : PySem.W.Frag} {ph ph1 : Ph} {S S1 : Hp} {Q : DQ} {v : V} {H : Hp} (x : Ext ph S ph1 S1) (h : postR K ph1 S1 Q v H) : postR K ph S Q v H := let ⟨r, σ, q⟩ := h; ⟨r, σ, Aft.up x q⟩
/-! ### blocks -/
def dNext : DTS := fun E r M => E.nx r M
def dSeq (t u : DTS) : DTS := fun E r M => t { E with nx := u E } r M
theorem dss_nil : DSs X [] dNext := ⟨PSs.weak pss_nil fun E σ H ⟨ph, S, r, M, E0, hs, ht, h1, _, _, _⟩ => h1 _ _ ⟨r, Aft.here hs ht⟩⟩
theorem lf_on {ph ph1 : Ph} {S S1 : Hp} {r : Env} {M : Mem} {σ : St} {H : Hp} {t : DTS} {E : DEnds} {E' : Ends} (x : Ext ph S ph1 S1) (hs : Sat X.K ph1 S1 r M σ H) (ht : t E r M)
    (h1 : ∀ σ' H', postN X.K ph S E.nx σ' H' → E'.nx σ' H') (h2 : ∀ v H', postR X.K ph S E.rt v H' → E'.rt v H') (h3 : ∀ σ' H', postN X.K ph S E.bk σ' H' → E'.bk σ' H') (h4 : ∀ σ' H', postN X.K ph S E.ct σ' H' → E'.ct σ' H') : lfS X.K t E' σ H :=
  ⟨ph1, S1, r, M, E, hs, ht, fun _ _ z => h1 _ _ (z.up x), fun _ _ z => h2 _ _ (z.up x), fun _ _ z => h3 _ _ (z.up x), fun _ _ z => h4 _ _ (z.up x)⟩
theorem dss_cons {st : Stmt} {rest : List Stmt} {t u : DTS} (h : DS X st t) (h' : DSs X rest u) : DSs X (st :: rest) (dSeq t u) :=
  ⟨PSs.weak (pss_cons h.ps h'.pss) fun E σ H ⟨ph, S, r, M, E0, hs, ht, h1, h2, h3, h4⟩ =>
    ⟨ph, S, r, M, { E0 with nx := u E0 }, hs, ht, fun σ' H' ⟨r1, ph1, S1, M1, x, hs1, z⟩ => lf_on x hs1 z h1 h2 h3 h4, h2, h3, h4⟩⟩
theorem dss_one {st : Stmt} {t : DTS} (h : DS X st t) : DSs X [st] t := ⟨pss_one h.ps⟩
def dNever : DTS := fun _ _ _ => False
theorem ds_never {st : Stmt} : DS X st dNever := ⟨PS.weak ps_never fun E σ H ⟨ph, S, r, M, E0, hs, ht, _⟩ => ht.elim⟩
section
variable {pos : Pos}
theorem ds_pass : DS X (.Pass pos) dNext := DS.of ps_pass fun ph S r M σ H E hs ht E' h1 _ _ _ => h1 _ _ ⟨r, Aft.here hs ht⟩
def dBreak : DTS := fun E r M => E.bk r M
def dCont : DTS := fun E r M => E.ct r M
theorem ds_break : DS X (.Break pos) dBreak := DS.of ps_break fun ph S r M σ H E hs ht E' _ _ h3 _ => h3 _ _ ⟨r, Aft.here hs ht⟩
theorem ds_continue : DS X (.Continue pos) dCont := DS.of ps_continue fun ph S r M σ H E hs ht E' _ _ _ h4 => h4 _ _ ⟨r, Aft.here hs ht⟩
/-- an expression whose value is dropped -/
def dDrop (t : DTE) : DTS := fun E r M => t r M fun _ M1 => E.nx r M1
theorem ds_expr {e : Expr} {t : DTE} (he : DE X e t) (hs : swapsWith e none pos.line X.env = pure false := by rfl) : DS X (.Expr e pos) (dDrop t) :=
  DS.of (ps_expr he.pe hs) fun ph S r M σ H E hs ht E' h1 _ _ _ => ⟨ph, S, r, M, _, hs, ht, fun v H' ⟨ph1, S1, M1, x, hs1, d, _, z⟩ => h1 _ _ ⟨r, ph1, S1, M1, x, hs1, z⟩⟩
def dRet (t : DTE) : DTS := fun E r M => t r M E.rt
theorem ds_ret {e : Expr} {t : DTE} (he : DE X e t) : DS X (.Return (some e) pos) (dRet t) :=
  DS.of (ps_ret he.pe) fun ph S r M σ H E hs ht E' _ h2 _ _ => ⟨ph, S, r, M, _, hs, ht, fun v H' z => h2 _ _ ⟨r, σ, z⟩⟩
def dRetN : DTS := fun E _ M => E.rt .non M
theorem ds_retN : DS X (.Return none pos) dRetN := DS.of ps_retN fun ph S r M σ H E hs ht E' _ h2 _ _ => h2 _ _ ⟨r, σ, Aft.here hs ⟨.non, .non, ht⟩⟩
def dIfS (c : DTT) (t u : DTS) : DTS := fun E r M => c r M fun b M1 => if b = true then t E r M1 else u E r M1
theorem ds_if {c : Expr} {a b : List Stmt} {tc : DTT} {t u : DTS} (hc : DT X c tc) (ha : DSs X a t) (hb : DSs X b u) : DS X (.If c a b pos) (dIfS tc t u) :=
  DS.of (ps_if hc.pt ha.pss hb.pss) fun ph S r M σ H E hs ht E' h1 h2 h3 h4 => ⟨ph, S, r, M, _, hs, ht, fun k H1 ⟨ph1, S1, M1, x, hs1, z⟩ => by
    cases k with
    | true => exact lf_on x hs1 z h1 h2 h3 h4
    | false => exact lf_on x hs1 z h1 h2 h3 h4⟩
end
/-! ### targets -/
abbrev DTG := D → Env → Mem → (Env → Mem → Prop) → Prop
structure DG (X : Cx) (target : Expr) (g : DTG) : Prop where
  pg : PG X target (fun v σ H Q => ∃ ph S r M d Q0, Sat X.K ph S r M σ H ∧ Rep X.K ph S v d ∧ g d r M Q0 ∧ ∀ σ' H', postN X.K ph S Q0 σ' H' → Q σ' H')
def dName (i : Nat) : DTG := fun d r M Q => Q (r.set i (some d)) M
theorem dg_name {i : Nat} {x : Str} {pos : Pos} (hN : X.N.Nodup) (hi : X.N[i]? = some x := by rfl) (hx : Loc X.env.scope x := by first | exact Or.inl rfl | exact Or.inr rfl) (hf : X.fn x = true ∨ X.env.scope.names.lookup x = some .local := by first | exact .inl rfl | exact .inr rfl | assumption) : DG X (.Name x pos) (dName i) :=
  ⟨⟨fun pins s σ H v u Q I rv ⟨ph, S, r, M, d, Q0, hs, q, hg, h1⟩ => (pg_name hN hi hx hf).run pins s σ H v u Q I rv (h1 _ _ ⟨_, Aft.here (hs.setN q) hg⟩)⟩⟩
abbrev DTGs := List D → Env → Mem → (Env → Mem → Prop) → Prop
structure DGs (X : Cx) (ts : List Expr) (g : DTGs) : Prop where
  pgs : PGs X ts (fun vs σ H Q => ∃ ph S r M ds Q0, Sat X.K ph S r M σ H ∧ RepAll X.K ph S vs ds ∧ g ds r M Q0 ∧ ∀ σ' H', postN X.K ph S Q0 σ' H' → Q σ' H')
def dGNil : DTGs := fun ds r M Q => match ds with
  | [] => Q r M
  | _ => False
def dGCons (g : DTG) (u : DTGs) : DTGs := fun ds r M Q => match ds with
  | d :: rest => g d r M fun r1 M1 => u rest r1 M1 Q
  | _ => False
theorem dgs_nil : DGs X [] dGNil := ⟨⟨fun pins s σ H vs us Q I rv ⟨ph, S, r, M, ds, Q0, hs, q, hg, h1⟩ => pgs_nil.run pins s σ H vs us Q I rv (by
  cases ds with
  | cons d ds => exact hg.elim
  | nil =>
    cases q
    exact ⟨rfl, h1 _ _ ⟨r, Aft.here hs hg⟩⟩)⟩⟩
theorem dgs_cons {e : Expr} {es : List Expr} {g : DTG} {u : DTGs} (h : DG X e g) (h' : DGs X es u) (hst : (assignEach (e :: es) X.env).map (·.2) = assign e X.env :: (assignEach es X.env).map (·.2) := by rfl) : DGs X (e :: es) (dGCons g u) :=
  ⟨⟨fun pins s σ H vs us Q I rv ⟨ph, S, r, M, ds, Q0, hs, q, hg, h1⟩ => (pgs_cons h.pg h'.pgs hst).run pins s σ H vs us Q I rv (by
    cases ds with
    | nil => exact hg.elim
    | cons d ds =>
      cases q with
      | cons q1 q2 => exact ⟨_, _, rfl, ph, S, r, M, d, _, hs, q1, hg, fun σ1 H1 ⟨r1, ph1, S1, M1, x1, hs1, z⟩ => ⟨ph1, S1, r1, M1, ds, Q0, hs1, q2.up x1, z, fun σ2 H2 z2 => h1 _ _ (z2.up x1)⟩⟩)⟩⟩
/-- (a, b, ..) = a tuple, or a list -/
def dGTup (n : Nat) (u : DTGs) : DTG := fun d r M Q => match res M d with
  | .tup ds => ds.length = n ∧ u ds r M Q
  | .lst ds => ds.length = n ∧ u ds r M Q
  | _ => False
theorem dg_tup {es : List Expr} {k : Nat} {u : DTGs} {n : Nat} {pos : Pos} (hc : X.calm = true) (h : DGs X es u) (hn : (assignEach es X.env).length = n := by rfl) (hst : (assignEach es X.env).findIdx? (·.1) = none := by rfl) : DG X (.Tuple es k pos) (dGTup n u) :=
  ⟨⟨fun pins s σ H v u' Q I rv ⟨ph, S, r, M, d, Q0, hs, q, hg, h1⟩ => by
    unfold dGTup at hg
    split at hg
    · rename_i ds e
      have e' := res_tup e
      subst e'
      refine (pg_tup hc h.pgs hn hst).run pins s σ H v u' Q I rv ?_
      cases q with
      | tup q1 q2 => exact ⟨_, _, rfl, SqT.of (hs.sub _ _ q1), by rw [q2.len]; exact hg.1, ph, S, r, M, _, Q0, hs, q2, hg.2, h1⟩
    · rename_i ds e
      obtain ⟨a, xs, e1, e2, q2⟩ := res_lst hs q e
      refine (pg_unl hc h.pgs hn hst).run pins s σ H v u' Q I rv ?_
      exact ⟨a, xs, e1, SqL.of e2, by rw [q2.len]; exact hg.1, ph, S, r, M, _, Q0, hs, q2, hg.2, h1⟩
    · exact hg.elim⟩⟩
/-- o[i] = .., o an owned list -/
def gSetL (o i d : D) (M : Mem) (Q : Mem → Prop) : Prop := match o, i with
  | .own k, .int j => match M[k]? with
    | some (.lst l) => match ixN l.length j with
      | some n => Q (M.set k (.lst (l.set n d)))
      | none => False
    | _ => False
  | _, _ => False
def dSub (to ti : DTE) : DTG := fun d r M Q => to r M fun o M1 => ti r M1 fun i M2 => gSetL o i d M2 fun M3 => Q r M3
theorem dg_sub {o i : Expr} {to ti : DTE} {pos : Pos} (ho : DE X o to) (hi : DE X i ti)
    (ha : ∀ v, assign (.Subscript o i pos) X.env v = (do
      let ov ← holding [v] (eval o X.env)
      let iv ← holding [v, ov] (eval i X.env)
      standAt pos
      holding [v, ov, iv] (setItem ov iv v)
      release [v, ov, iv] []) := by intro _; rfl) : DG X (.Subscript o i pos) (dSub to ti) :=
  ⟨⟨fun pins s σ H v u Q I rv ⟨ph, S, r, M, d, Q0, hs, q, hg, h1⟩ => (pg_sub ho.pe hi.pe set_list ha).run pins s σ H v u Q I rv
    ⟨ph, S, r, M, _, hs, hg, fun ov H1 ⟨ph1, S1, M1, x1, hs1, od, q1, g1⟩ => ⟨ph1, S1, r, M1, _, hs1, g1, fun iv H2 ⟨ph2, S2, M2, x2, hs2, id', q2, g2⟩ => by
      replace g2 : gSetL od id' d M2 fun M3 => Q0 r M3 := g2
      cases od with
      | own k =>
        cases id' with
        | int j =>
          unfold gSetL at g2
          dsimp only at g2
          split at g2
          · rename_i l hk
            split at g2
            · rename_i n hn
              cases q2
              cases q1 with
              | own hp =>
                have hp2 := x2.pre _ _ hp
                obtain ⟨a, xs, c1, c2, c3, c4⟩ := hs2.cell k l hk
                rw [hp2] at c1; cases c1
                exact ⟨_, xs, j, n, rfl, rfl, c3, by rw [c4.len]; exact hn, h1 _ _ ⟨r, ph2, S2, _, x1.trans x2, hs2.put hk hp2 (RepAll.set (q.up (x1.trans x2)) n c4), g2⟩⟩
            · exact g2.elim
          · exact g2.elim
        | _ => exact g2.elim
      | _ => exact g2.elim⟩⟩⟩⟩
/-- target = value -/
def dAsg (t : DTE) (g : DTG) : DTS := fun E r M => t r M fun d M1 => g d r M1 E.nx
section
variable {pos : Pos}
theorem ds_asg {tg e : Expr} {t : DTE} {g : DTG} (he : DE X e t) (hg : DG X tg g) (hs : swapsWithSole [tg] e pos.line X.env = pure false := by rfl) (hw : swappedStores [tg] e X.env = pure none := by rfl)
    (h1 : (assignEach [tg] X.env).map (·.2) = [assign tg X.env] := by rfl) : DS X (.Assign [tg] e pos) (dAsg t g) :=
  DS.of (ps_asg he.pe hg.pg hs hw h1) fun ph S r M σ H E hs ht E' h1 _ _ _ => ⟨ph, S, r, M, _, hs, ht, fun v H' ⟨ph1, S1, M1, x, hs1, d, q, z⟩ => ⟨ph1, S1, r, M1, d, E.nx, hs1, q, z, fun σ2 H2 z2 => h1 _ _ (z2.up x)⟩⟩
/-- name = value -/
theorem ds_set {i : Nat} {x : Str} {e : Expr} {t : DTE} {pos' : Pos} (hN : X.N.Nodup) (he : DE X e t) (hi : X.N[i]? = some x := by rfl) (hx : Loc X.env.scope x := by first | exact Or.inl rfl | exact Or.inr rfl) (hs : swapsWith e (some (.Name x pos')) pos.line X.env = pure false := by rfl) (hf : X.fn x = true ∨ X.env.scope.names.lookup x = some .local := by first | exact .inl rfl | exact .inr rfl | assumption) :
    DS X (.Assign [.Name x pos'] e pos) (dAsg t (dName i)) :=
  DS.of (ps_set hN hi hx he.pe hs hf) fun ph S r M σ H E hs ht E' h1 _ _ _ => ⟨ph, S, r, M, _, hs, ht, fun v H' ⟨ph1, S1, M1, x, hs1, d, q, z⟩ => h1 _ _ ⟨_, ph1, S1, M1, x, hs1.setN q, z⟩⟩
/-- a, b = x, y -/
def dPar (i j : Nat) (t : DTA) : DTS := fun E r M => t r M fun ds M1 => match ds with
  | [d, e] => E.nx ((r.set i (some d)).set j (some e)) M1
  | _ => False
theorem ds_par {i j : Nat} {x y : Str} {a b : Expr} {t : DTA} {px py pt : Pos} {kt k2 pt2} (hc : X.calm = true) (hN : X.N.Nodup) (ha : DA X [a, b] t) (hi : X.N[i]? = some x := by rfl) (hj : X.N[j]? = some y := by rfl) (hij : i ≠ j := by decide)
    (hx : X.env.scope.names.lookup x = some .local := by rfl) (hy : X.env.scope.names.lookup y = some .local := by rfl)
    (hw : swappedStores [.Tuple [.Name x px, .Name y py] kt pt] (.Tuple [a, b] k2 pt2) X.env = pure (some [x, y]) := by rfl)
    (hs : swapsWithSole [.Tuple [.Name x px, .Name y py] kt pt] (.Tuple [a, b] k2 pt2) pos.line X.env = pure false := by rfl) :
    DS X (.Assign [.Tuple [.Name x px, .Name y py] kt pt] (.Tuple [a, b] k2 pt2) pos) (dPar i j t) :=
  DS.of (ps_par hc hN hi hj hij hx hy ha.pa hw hs) fun ph S r M σ H E hs ht E' h1 _ _ _ => ⟨ph, S, r, M, _, hs, ht, fun vs H' ⟨ph1, S1, M1, x, hs1, ds, q, z⟩ => by
    match ds, q, z with
    | [d, e], .cons q1 (.cons q2 .nil), z => exact ⟨_, _, rfl, h1 _ _ ⟨_, ph1, S1, M1, x, (hs1.setN q1).setN q2, z⟩⟩⟩
def dPar3 (i j l : Nat) (t : DTA) : DTS := fun E r M => t r M fun ds M1 => match ds with
  | [d, e, f] => E.nx (((r.set i (some d)).set j (some e)).set l (some f)) M1
  | _ => False
theorem ds_par3 {i j l : Nat} {x y z : Str} {a b c : Expr} {t : DTA} {px py pz pt : Pos} {kt k2 pt2} (hc : X.calm = true) (hN : X.N.Nodup) (ha : DA X [a, b, c] t) (hi : X.N[i]? = some x := by rfl) (hj : X.N[j]? = some y := by rfl) (hl : X.N[l]? = some z := by rfl) (hij : i ≠ j := by decide) (hil : i ≠ l := by decide) (hjl : j ≠ l := by decide)
    (hx : X.env.scope.names.lookup x = some .local := by rfl) (hy : X.env.scope.names.lookup y = some .local := by rfl) (hz : X.env.scope.names.lookup z = some .local := by rfl)
    (hw : swappedStores [.Tuple [.Name x px, .Name y py, .Name z pz] kt pt] (.Tuple [a, b, c] k2 pt2) X.env = pure (some [x, y, z]) := by rfl)
    (hs : swapsWithSole [.Tuple [.Name x px, .Name y py, .Name z pz] kt pt] (.Tuple [a, b, c] k2 pt2) pos.line X.env = pure false := by rfl) :
    DS X (.Assign [.Tuple [.Name x px, .Name y py, .Name z pz] kt pt] (.Tuple [a, b, c] k2 pt2) pos) (dPar3 i j l t) :=
  DS.of (ps_par3 hc hN hi hj hl hij hil hjl hx hy hz ha.pa hw hs) fun ph S r M σ H E hs ht E' h1 _ _ _ => ⟨ph, S, r, M, _, hs, ht, fun vs H' ⟨ph1, S1, M1, x, hs1, ds, q, z⟩ => by
    match ds, q, z with
    | [d, e, f], .cons q1 (.cons q2 (.cons q3 .nil)), z => exact ⟨_, _, _, rfl, h1 _ _ ⟨_, ph1, S1, M1, x, ((hs1.setN q1).setN q2).setN q3, z⟩⟩⟩
/-- name op= e (ints) -/
def gIpI (f : Int → Int → Int) (x y : D) (M : Mem) (Q : DQ) : Prop := match x, y with
  | .int i, .int j => Q (.int (f i j)) M
  | _, _ => False
def dAug (i : Nat) (t : DTE) (f : Int → Int → Int) : DTS := fun E r M => match r[i]? with
  | some (some (.int a)) => t r M fun d M1 => gIpI f (.int a) d M1 fun z M2 => E.nx (r.set i (some z)) M2
  | _ => False
theorem ds_aug {i : Nat} {x : Str} {e : Expr} {t : DTE} {op : Operator} {f : Int → Int → Int} {pos' : Pos} (hN : X.N.Nodup) (he : DE X e t) (ho : PIp X op (ipI f)) (hi : X.N[i]? = some x := by rfl) (hx : Loc X.env.scope x := by first | exact Or.inl rfl | exact Or.inr rfl) (hf : X.fn x = true ∨ X.env.scope.names.lookup x = some .local := by first | exact .inl rfl | exact .inr rfl | assumption) :
    DS X (.AugAssign (.Name x pos') op e pos) (dAug i t f) :=
  DS.of (ps_aug hN hi hx he.pe ho hf) fun ph S r M σ H E hs ht E' h1 _ _ _ => by
    unfold dAug at ht
    split at ht
    · rename_i a hr
      obtain ⟨v, e1, q⟩ := hs.env i _ hr
      cases q
      refine ⟨_, e1, ph, S, r, M, _, hs, ht, fun v H' ⟨ph1, S1, M1, x, hs1, d, q, z⟩ => ?_⟩
      cases d <;> first | exact z.elim | skip
      cases q
      exact ⟨_, _, rfl, rfl, h1 _ _ ⟨_, ph1, S1, M1, x, hs1.setN (.int _), z⟩⟩
    · exact ht.elim

/-! ### while -/
def dWhile (c : DTT) (t : DTS) : DTS := fun E r M => ∃ W : Nat → Env → Mem → Prop, (∃ m, W m r M) ∧ ∀ m r M, W m r M →
  c r M fun b M1 => if b = true then t { E with nx := fun r' M' => ∃ m', m' < m ∧ W m' r' M', ct := fun r' M' => ∃ m', m' < m ∧ W m' r' M', bk := E.nx } r M1 else E.nx r M1
theorem ds_while {c : Expr} {body : List Stmt} {tc : DTT} {t : DTS} (hc : DT X c tc) (hb : DSs X body t) (hp : PassesOwn (model X.prog X.w) X.A X.env X.xe := by exact PassesOwn.never) : DS X (.While c body [] pos) (dWhile tc t) :=
  DS.of (ps_while hp hc.pt hb.pss) fun ph S r M σ H E hs ht E' h1 h2 h3 h4 => by
    obtain ⟨W, ⟨m0, w0⟩, turn⟩ := ht
    refine ⟨fun m σ H => postN X.K ph S (W m) σ H, ⟨m0, r, Aft.here hs w0⟩, fun m σ1 H1 ⟨r1, ph1, S1, M1, x1, hs1, w1⟩ => ?_⟩
    refine ⟨ph1, S1, r1, M1, _, hs1, turn m r1 M1 w1, fun b H2 ⟨ph2, S2, M2, x2, hs2, z⟩ => ?_⟩
    cases b with
    | false =>
      rw [if_neg Bool.false_ne_true] at z ⊢
      exact h1 _ _ ⟨r1, ph2, S2, M2, x1.trans x2, hs2, z⟩
    | true =>
      rw [if_pos rfl] at z ⊢
      refine ⟨fun σ' H' => ∃ m', m' < m ∧ postN X.K ph S (W m') σ' H', fun _ _ q => q, ?_⟩
      exact lf_on (x1.trans x2) hs2 z (fun σ' H' ⟨r', ph', S', M', x', hs', m', hm, w'⟩ => ⟨m', hm, r', ph', S', M', x', hs', w'⟩) h2 h1 (fun σ' H' ⟨r', ph', S', M', x', hs', m', hm, w'⟩ => ⟨m', hm, r', ph', S', M', x', hs', w'⟩)
end

/-! ### what is walked -/
/-- J walks the items ds, while C holds of the cells -/
def Wlk (K : PySem.W.Frag) (ph : Ph) (S : Hp) (J : It) (ds : List D) (C : Mem → Prop) : Prop :=
  ∀ (ph' : Ph) S' r M σ H, (∀ (k : Nat) (a : Addr), ph.cells[k]? = some a → ph'.cells[k]? = some a) → Same S S' → Sat K ph' S' r M σ H → C M →
    (∀ i, ds.length ≤ i → J.stop i H) ∧ ∀ i d, ds[i]? = some d → J.go i H ∧ ∀ x H', J.yld i H x H' → Aft K ph' S' r σ H' fun ph2 S2 M2 => M2 = M ∧ Rep K ph2 S2 x d
abbrev DTI := Env → Mem → (List D → (Mem → Prop) → Mem → Prop) → Prop
structure DI (X : Cx) (tg iter : Expr) (t : DTI) : Prop where
  pi : PI X tg iter (fun σ H R => ∃ ph S r M Q0, Sat X.K ph S r M σ H ∧ t r M Q0 ∧ ∀ J H', (Aft X.K ph S r σ H' fun ph' S' M' => ∃ ds C, Wlk X.K ph' S' J ds C ∧ Q0 ds C M') → R J H')
/-- for: W holds ahead of turn i -/
def forW (ds : List D) (C : Mem → Prop) (g : DTG) (t : DTS) (E : DEnds) (r : Env) (M0 : Mem) : Prop := ∃ W : Nat → Env → Mem → Prop, W 0 r M0 ∧ ∀ i r M, W i r M → C M ∧ (ds.length ≤ i → E.nx r M) ∧
  ∀ d, ds[i]? = some d → g d r M fun r2 M2 => t { E with nx := W (i + 1), ct := W (i + 1), bk := E.nx } r2 M2
def dFor (wi : DTI) (g : DTG) (t : DTS) : DTS := fun E r M => wi r M fun ds C M0 => forW ds C g t E r M0
theorem ds_for {tg iter : Expr} {body : List Stmt} {wi : DTI} {g : DTG} {t : DTS} {pos : Pos} (hc : X.calm = true) (hi : DI X tg iter wi) (hg : DG X tg g) (hb : DSs X body t)
    (hs : ∀ x, foldedSetIterable iter X.env x = pure x := by intro _; rfl) (hp : PassesOwn (model X.prog X.w) X.A X.env X.xe := by exact PassesOwn.never) : DS X (.For tg iter body [] pos) (dFor wi g t) :=
  DS.of (ps_for hp hc hi.pi hg.pg hb.pss hs) fun ph S r M σ H E hs ht E' h1 h2 h3 h4 => by
    refine ⟨ph, S, r, M, _, hs, ht, fun J H1 ⟨ph1, S1, M1, x1, hs1, ds, C, wk, W, w0, turn⟩ => ?_⟩
    refine ⟨fun i m σ H => m = ds.length - i ∧ ∃ r', Aft X.K ph1 S1 r' σ H fun _ _ M => W i r' M, ⟨ds.length, by omega, r, Aft.here hs1 w0⟩, ?_⟩
    rintro i m σ3 H3 ⟨rfl, r3, ph3, S3, M3, x3, hs3, w3⟩
    obtain ⟨c3, f3, g3⟩ := turn i r3 M3 w3
    obtain ⟨k1, k2⟩ := wk ph3 S3 r3 M3 σ3 H3 x3.pre x3.same hs3 c3
    by_cases hl : ds.length ≤ i
    · exact .inl ⟨k1 i hl, h1 _ _ ⟨r3, ph3, S3, M3, x1.trans x3, hs3, f3 hl⟩⟩
    · obtain ⟨d, ed⟩ : ∃ d, ds[i]? = some d := ⟨ds[i]'(by omega), List.getElem?_eq_getElem (by omega)⟩
      obtain ⟨k3, k4⟩ := k2 i d ed
      refine .inr ⟨k3, fun σ' H' => ∃ r', Aft X.K ph1 S1 r' σ' H' fun _ _ M => W (i + 1) r' M, fun σ' H' z => ⟨ds.length - (i + 1), by omega, rfl, z⟩, fun x H4 hy => ?_⟩
      obtain ⟨ph4, S4, M4, x4, hs4, rfl, q4⟩ := k4 x H4 hy
      refine ⟨ph4, S4, r3, M4, d, _, hs4, q4, g3 d ed, fun σ5 H5 ⟨r5, ph5, S5, M5, x5, hs5, z5⟩ => ?_⟩
      have xx : Ext ph1 S1 ph5 S5 := x3.trans (x4.trans x5)
      refine ⟨ph5, S5, r5, M5, _, hs5, z5, ?_, ?_, ?_, ?_⟩
      · exact fun σ6 H6 ⟨r6, z6⟩ => ⟨r6, Aft.up xx z6⟩
      · exact fun v H6 z6 => h2 _ _ (z6.up (x1.trans xx))
      · exact fun σ6 H6 z6 => h1 _ _ (z6.up (x1.trans xx))
      · exact fun σ6 H6 ⟨r6, z6⟩ => ⟨r6, Aft.up xx z6⟩

/-! ### comprehensions -/
/-- the tests behind if -/
def dYes : DTT := fun _ M Q => Q true M
structure DTs (X : Cx) (ifs : List Expr) (t : DTT) : Prop where
  pts : PTs X ifs (fun σ H Q => ∃ ph S r M Q0, Sat X.K ph S r M σ H ∧ t r M Q0 ∧ ∀ b H', postT X.K ph S r σ Q0 b H' → Q b H')
theorem dts_nil : DTs X [] dYes := ⟨⟨fun pins s σ H Q I ⟨ph, S, r, M, Q0, hs, ht, hq⟩ => pts_nil.run pins s σ H Q I (hq _ _ (Aft.here hs ht))⟩⟩
theorem dts_one {c : Expr} {t : DTT} (h : DT X c t) : DTs X [c] t := ⟨pts_one h.pt⟩
def wipeD (r : Env) : List Nat → Env
  | [] => r
  | v :: vs => (wipeD r vs).set v none
theorem Sat.clr {K : PySem.W.Frag} {ph : Ph} {S : Hp} {r : Env} {M : Mem} {σ : St} {H : Hp} (h : Sat K ph S r M σ H) (i : Nat) : Sat K ph S (r.set i none) M (σ.set i none) H := by
  refine ⟨h.sub, h.len, h.nd, h.trk, h.cell, h.hid, h.hnd, by rw [List.length_set, List.length_set]; exact h.el, fun j e hj => ?_⟩
  by_cases hi : j = i
  · subst hi
    have jl : j < r.length := by
      have := (List.getElem?_eq_some_iff.mp hj).1
      rwa [List.length_set] at this
    rw [List.getElem?_set_self jl] at hj
    cases hj
  · rw [List.getElem?_set_ne (Ne.symm hi)] at hj
    rw [List.getElem?_set_ne (Ne.symm hi)]
    exact h.env j e hj
theorem Sat.wipe {K : PySem.W.Frag} {ph : Ph} {S : Hp} {r : Env} {M : Mem} {σ : St} {H : Hp} (h : Sat K ph S r M σ H) : ∀ vs : List Nat, Sat K ph S (wipeD r vs) M (L2.wipe σ vs) H
  | [] => h
  | v :: vs => (Sat.wipe h vs).clr v
/-- a target whose names are the comprehension's own (places vs) -/
structure DCG (X : Cx) (target : Expr) (vs : List Nat) (g : DTG) : Prop where
  pg : PG X target (fun v σ H Q => ∃ ph S r M d Q0, Sat X.K ph S r M σ H ∧ Rep X.K ph S v d ∧ g d r M Q0 ∧ ∀ σ' H', postN X.K ph S Q0 σ' H' → L2.wipe σ' vs = L2.wipe σ vs → Q σ' H')
theorem wipe_set {σ : St} {i : Nat} {x : Option V} : ∀ {vs : List Nat}, i ∈ vs → L2.wipe (σ.set i x) vs = L2.wipe σ vs
  | [], h => by cases h
  | v :: vs, h => by
    unfold L2.wipe
    by_cases hv : i ∈ vs
    · rw [wipe_set hv]
    · have e : i = v := (List.mem_cons.mp h).resolve_right hv
      subst e
      have key : ∀ (us : List Nat), i ∉ us → L2.wipe (σ.set i x) us = (L2.wipe σ us).set i x := by
        intro us
        induction us with
        | nil => intro _; rfl
        | cons u us ih =>
          intro hu
          unfold L2.wipe
          rw [ih (fun z => hu (List.mem_cons_of_mem _ z)), List.set_comm _ _ (fun e => hu (by rw [e]; exact List.mem_cons_self))]
      rw [key vs hv, List.set_set]
theorem dcg_name {i : Nat} {x : Str} {pos : Pos} {vs : List Nat} (hN : X.N.Nodup) (hi : X.N[i]? = some x := by rfl) (hv : i ∈ vs := by decide) (hx : Loc X.env.scope x := by first | exact Or.inl rfl | exact Or.inr rfl) (hf : X.fn x = true ∨ X.env.scope.names.lookup x = some .local := by first | exact .inl rfl | exact .inr rfl | assumption) : DCG X (.Name x pos) vs (dName i) :=
  ⟨⟨fun pins s σ H v u Q I rv ⟨ph, S, r, M, d, Q0, hs, q, hg, h1⟩ => (pg_name hN hi hx hf).run pins s σ H v u Q I rv (h1 _ _ ⟨_, Aft.here (hs.setN q) hg⟩ (wipe_set hv))⟩⟩
structure DCGs (X : Cx) (ts : List Expr) (vs : List Nat) (g : DTGs) : Prop where
  pgs : PGs X ts (fun us σ H Q => ∃ ph S r M ds Q0, Sat X.K ph S r M σ H ∧ RepAll X.K ph S us ds ∧ g ds r M Q0 ∧ ∀ σ' H', postN X.K ph S Q0 σ' H' → L2.wipe σ' vs = L2.wipe σ vs → Q σ' H')
theorem dcgs_nil {vs : List Nat} : DCGs X [] vs dGNil := ⟨⟨fun pins s σ H us us' Q I rv ⟨ph, S, r, M, ds, Q0, hs, q, hg, h1⟩ => pgs_nil.run pins s σ H us us' Q I rv (by
  cases ds with
  | cons d ds => exact hg.elim
  | nil =>
    cases q
    exact ⟨rfl, h1 _ _ ⟨r, Aft.here hs hg⟩ rfl⟩)⟩⟩
theorem dcgs_cons {e : Expr} {es : List Expr} {vs : List Nat} {g : DTG} {u : DTGs} (h : DCG X e vs g) (h' : DCGs X es vs u) (hst : (assignEach (e :: es) X.env).map (·.2) = assign e X.env :: (assignEach es X.env).map (·.2) := by rfl) : DCGs X (e :: es) vs (dGCons g u) :=
  ⟨⟨fun pins s σ H us us' Q I rv ⟨ph, S, r, M, ds, Q0, hs, q, hg, h1⟩ => (pgs_cons h.pg h'.pgs hst).run pins s σ H us us' Q I rv (by
    cases ds with
    | nil => exact hg.elim
    | cons d ds =>
      cases q with
      | cons q1 q2 => exact ⟨_, _, rfl, ph, S, r, M, d, _, hs, q1, hg, fun σ1 H1 ⟨r1, ph1, S1, M1, x1, hs1, z⟩ e1 => ⟨ph1, S1, r1, M1, ds, Q0, hs1, q2.up x1, z, fun σ2 H2 z2 e2 => h1 _ _ (z2.up x1) (e2.trans e1)⟩⟩)⟩⟩
theorem dcg_tup {es : List Expr} {k : Nat} {u : DTGs} {n : Nat} {pos : Pos} {vs : List Nat} (hc : X.calm = true) (h : DCGs X es vs u) (hn : (assignEach es X.env).length = n := by rfl) (hst : (assignEach es X.env).findIdx? (·.1) = none := by rfl) : DCG X (.Tuple es k pos) vs (dGTup n u) :=
  ⟨⟨fun pins s σ H v u' Q I rv ⟨ph, S, r, M, d, Q0, hs, q, hg, h1⟩ => by
    unfold dGTup at hg
    split at hg
    · rename_i ds e
      have e' := res_tup e
      subst e'
      refine (pg_tup hc h.pgs hn hst).run pins s σ H v u' Q I rv ?_
      cases q with
      | tup q1 q2 => exact ⟨_, _, rfl, SqT.of (hs.sub _ _ q1), by rw [q2.len]; exact hg.1, ph, S, r, M, _, Q0, hs, q2, hg.2, h1⟩
    · rename_i ds e
      obtain ⟨a, xs, e1, e2, q2⟩ := res_lst hs q e
      refine (pg_unl hc h.pgs hn hst).run pins s σ H v u' Q I rv ?_
      exact ⟨a, xs, e1, SqL.of e2, by rw [q2.len]; exact hg.1, ph, S, r, M, _, Q0, hs, q2, hg.2, h1⟩
    · exact hg.elim⟩⟩
/-- [e for target in iter if ..]: W holds ahead of turn i with the items made so far; own: the list will be changed -/
def lcW (own : Bool) (ds : List D) (C : Mem → Prop) (g : DTG) (tt : DTT) (te : DTE) (r : Env) (M0 : Mem) (Q : DQ) : Prop := ∃ W : Nat → List D → Mem → Prop, W 0 [] M0 ∧ ∀ i acc M, W i acc M → C M ∧
  (ds.length ≤ i → if own = true then Q (.own M.length) (M ++ [.lst acc]) else Q (.lst acc) M) ∧
  ∀ d, ds[i]? = some d → g d r M fun r2 M2 => tt r2 M2 fun b M3 => if b = true then te r2 M3 fun e M4 => acc.length < sizeLine ∧ W (i + 1) (acc ++ [e]) M4 else W (i + 1) acc M3
def dLc (own : Bool) (wi : DTI) (g : DTG) (tt : DTT) (te : DTE) (vs : List Nat) : DTE := fun r M Q => wi r M fun ds C M0 => lcW own ds C g tt te (wipeD r vs) M0 Q
theorem wipe_at {σ : St} {i : Nat} : ∀ {vs : List Nat}, i ∈ vs → i < σ.length → (L2.wipe σ vs)[i]? = some none
  | [], h, _ => by cases h
  | v :: vs, h, hl => by
    unfold L2.wipe
    by_cases e : v = i
    · subst e
      rw [List.getElem?_set_self (by rw [wipe_length]; exact hl)]
    · rw [List.getElem?_set_ne e]
      exact wipe_at ((List.mem_cons.mp h).resolve_left (fun z => e z.symm)) hl
theorem wipe_wipe (σ : St) (vs : List Nat) : L2.wipe (L2.wipe σ vs) vs = L2.wipe σ vs := by
  refine List.ext_getElem? fun i => ?_
  by_cases hi : i ∈ vs
  · by_cases hl : i < σ.length
    · rw [wipe_at hi (by rw [wipe_length]; exact hl), wipe_at hi hl]
    · rw [List.getElem?_eq_none (by rw [wipe_length, wipe_length]; omega), List.getElem?_eq_none (by rw [wipe_length]; omega)]
  · rw [wipe_out hi]
theorem lc_read (o : Bool) {wi : DTI} {g : DTG} {tt : DTT} {te : DTE} {vs : List Nat} {ph : Ph} {S : Hp} {r : Env} {M : Mem} {σ : St} {H : Hp} {Q : DQ} (hs : Sat X.K ph S r M σ H) (ht : dLc o wi g tt te vs r M Q) (Q' : VK) (hq : ∀ v H', post X.K ph S r σ Q v H' → Q' v H') :
    tLc (fun σ H R => ∃ ph S r M Q0, Sat X.K ph S r M σ H ∧ wi r M Q0 ∧ ∀ J H', (Aft X.K ph S r σ H' fun ph' S' M' => ∃ ds C, Wlk X.K ph' S' J ds C ∧ Q0 ds C M') → R J H')
      (fun v σ H Q => ∃ ph S r M d Q0, Sat X.K ph S r M σ H ∧ Rep X.K ph S v d ∧ g d r M Q0 ∧ ∀ σ' H', postN X.K ph S Q0 σ' H' → L2.wipe σ' vs = L2.wipe σ vs → Q σ' H')
      (fun σ H Q => ∃ ph S r M Q0, Sat X.K ph S r M σ H ∧ tt r M Q0 ∧ ∀ b H', postT X.K ph S r σ Q0 b H' → Q b H')
      (fun σ H Q => ∃ ph S r M Q0, Sat X.K ph S r M σ H ∧ te r M Q0 ∧ ∀ v H', post X.K ph S r σ Q0 v H' → Q v H') vs σ H Q' := by
  refine ⟨ph, S, r, M, _, hs, ht, fun J H1 ⟨ph1, S1, M1, x1, hs1, ds, C, wk, W, w0, turn⟩ => ?_⟩
  intro p hp
  refine ⟨fun i m H => m = ds.length - i ∧ ∃ (ph2 : Ph) (S2 : Hp) (M2 : Mem) (xs : List V) (acc : List D), Ext ph1 S1 ⟨ph2.cells, ph1.hid⟩ S2 ∧ ph2.hid = (p, .lst xs) :: ph1.hid ∧ Sat X.K ph2 S2 r M2 σ H ∧ RepAll X.K ph2 S2 xs acc ∧ W i acc M2,
    ⟨ds.length, by omega, { ph1 with hid := (p, .lst []) :: ph1.hid }, S1, M1, [], [], .refl, rfl, hs1.hide hp _, .nil, w0⟩, ?_⟩
  rintro i m H3 ⟨rfl, ph3, S3, M3, xs, acc, x3, eh, hs3, qa, w3⟩
  obtain ⟨c3, f3, g3⟩ := turn i acc M3 w3
  obtain ⟨k1, k2⟩ := wk ph3 S3 r M3 σ H3 x3.pre x3.same hs3 c3
  by_cases hl : ds.length ≤ i
  · refine .inl ⟨k1 i hl, ?_⟩
    have f := f3 hl
    obtain ⟨c, hd⟩ := ph3
    cases eh
    cases o with
    | false =>
      rw [if_neg Bool.false_ne_true] at f
      obtain ⟨x4, hs4⟩ := hs3.hfrz
      exact hq _ _ ⟨⟨c, ph1.hid⟩, _, M3, x1.trans (x3.trans x4), hs4, _, .lst upd_same ((RepAll.hid qa).up x4), f⟩
    | true =>
      rw [if_pos rfl] at f
      obtain ⟨x4, hs4, e4⟩ := hs3.hown (RepAll.hid qa)
      exact hq _ _ ⟨⟨c ++ [p], ph1.hid⟩, _, _, x1.trans (x3.trans x4), hs4, _, .own e4, f⟩
  · obtain ⟨d, ed⟩ : ∃ d, ds[i]? = some d := ⟨ds[i]'(by omega), List.getElem?_eq_getElem (by omega)⟩
    obtain ⟨k3, k4⟩ := k2 i d ed
    refine .inr ⟨k3, fun H' => ∃ (ph2 : Ph) (S2 : Hp) (M2 : Mem) (xs : List V) (acc : List D), Ext ph1 S1 ⟨ph2.cells, ph1.hid⟩ S2 ∧ ph2.hid = (p, .lst xs) :: ph1.hid ∧ Sat X.K ph2 S2 r M2 σ H' ∧ RepAll X.K ph2 S2 xs acc ∧ W (i + 1) acc M2, fun H' z => ⟨ds.length - (i + 1), by omega, rfl, z⟩, fun x H4 hy => ?_⟩
    obtain ⟨ph4, S4, M4, x4, hs4, rfl, q4⟩ := k4 x H4 hy
    refine ⟨ph4, S4, wipeD r vs, M4, d, _, hs4.wipe vs, q4, g3 d ed, fun σ5 H5 ⟨r5, ph5, S5, M5, x5, hs5, z5⟩ e5 => ⟨e5.trans (wipe_wipe σ vs), ?_⟩⟩
    refine ⟨ph5, S5, r5, M5, _, hs5, z5, fun b H6 ⟨ph6, S6, M6, x6, hs6, z6⟩ => ?_⟩
    cases b with
    | false =>
      have xx := x4.trans (x5.trans x6)
      rw [if_neg Bool.false_ne_true] at z6 ⊢
      exact ⟨ph6, S6, M6, xs, acc, ⟨fun k a e => xx.pre k a (x3.pre k a e), x3.same.trans xx.same, rfl⟩, xx.hid.trans eh, hs3.back xx hs6.drop, qa.up xx, z6⟩
    | true =>
      rw [if_pos rfl] at z6 ⊢
      refine ⟨ph6, S6, r5, M6, _, hs6, z6, fun v H7 ⟨ph7, S7, M7, x7, hs7, e, q7, hlt, w7⟩ => ?_⟩
      have xx := x4.trans (x5.trans (x6.trans x7))
      have eh7 : ph7.hid = (p, .lst xs) :: ph1.hid := xx.hid.trans eh
      obtain ⟨c, hd⟩ := ph7
      cases eh7
      have hb : Sat X.K ⟨c, (p, .lst xs) :: ph1.hid⟩ S7 r M7 σ H7 := hs3.back xx hs7.drop
      obtain ⟨g1, _, _⟩ := hb.hid _ List.mem_cons_self
      refine ⟨xs, g1, by rw [qa.len]; exact hlt, ⟨c, (p, .lst (xs ++ [v])) :: ph1.hid⟩, S7, M7, xs ++ [v], acc ++ [e], ⟨fun k a e => xx.pre k a (x3.pre k a e), x3.same.trans xx.same, rfl⟩, rfl, hb.hset, ?_, w7⟩
      exact (RepAll.hid (qa.up xx)).app (.cons (Rep.hid q7) .nil)
theorem de_lc (o : Bool) {elt tg iter : Expr} {ifs : List Expr} {scope : Scope} {own : List (Str × Nat)} {pos : Pos} {wi : DTI} {g : DTG} {tt : DTT} {te : DTE} (hc : X.calm = true) (hN : X.N.Nodup) (ok : BlkOk X.N X.env.scope scope own) (hi : DI X tg iter wi)
    (hg : ∀ (s : Shared) (H : Hp) (C : Addr) (cl : List (Str × Addr)) (fp : List Addr), DCG (X.blk s H scope (compEnvC scope cl C X.env) fp) tg (own.map (·.2)) g)
    (ht : ∀ (s : Shared) (H : Hp) (C : Addr) (cl : List (Str × Addr)) (fp : List Addr), DTs (X.blk s H scope (compEnvC scope cl C X.env) fp) ifs tt)
    (he : ∀ (s : Shared) (H : Hp) (C : Addr) (cl : List (Str × Addr)) (fp : List Addr), DE (X.blk s H scope (compEnvC scope cl C X.env) fp) elt te)
    (hs : ∀ x, foldedSetIterable iter X.env x = pure x := by intro _; rfl) : DE X (.ListComp elt [⟨tg, iter, ifs, 0⟩] scope pos) (dLc o wi g tt te (own.map (·.2))) :=
  DE.of (pe_lc hc hN hi.pi ok (fun s H C cl fp => (hg s H C cl fp).pg) (fun s H C cl fp => (ht s H C cl fp).pts) (fun s H C cl fp => (he s H C cl fp).pe) hs) fun ph S r M σ H Q hs ht Q' hq => lc_read (X := X) o hs ht Q' hq
/-- y = [..] -/
theorem ds_setLc (o : Bool) {i : Nat} {y : Str} {py : Pos} {elt tg iter : Expr} {ifs : List Expr} {scope : Scope} {own : List (Str × Nat)} {pos spos : Pos} {wi : DTI} {g : DTG} {tt : DTT} {te : DTE} (hc : X.calm = true) (hN : X.N.Nodup) (hsw : swapsWith (.ListComp elt [⟨tg, iter, ifs, 0⟩] scope pos) (some (.Name y py)) spos.line X.env = pure true) (ok : BlkOk X.N X.env.scope scope own) (hi : DI X tg iter wi)
    (hg : ∀ (s : Shared) (H : Hp) (C : Addr) (cl : List (Str × Addr)) (fp : List Addr), DCG (X.blk s H scope (compEnvC scope cl C X.env) fp) tg (own.map (·.2)) g)
    (ht : ∀ (s : Shared) (H : Hp) (C : Addr) (cl : List (Str × Addr)) (fp : List Addr), DTs (X.blk s H scope (compEnvC scope cl C X.env) fp) ifs tt)
    (he : ∀ (s : Shared) (H : Hp) (C : Addr) (cl : List (Str × Addr)) (fp : List Addr), DE (X.blk s H scope (compEnvC scope cl C X.env) fp) elt te)
    (hy : X.N[i]? = some y := by rfl) (hyl : X.env.scope.names.lookup y = some .local := by rfl) (hs : ∀ x, foldedSetIterable iter X.env x = pure x := by intro _; rfl) : DS X (.Assign [.Name y py] (.ListComp elt [⟨tg, iter, ifs, 0⟩] scope pos) spos) (dAsg (dLc o wi g tt te (own.map (·.2))) (dName i)) :=
  DS.of (ps_setLc hc hN hy hyl hsw hi.pi ok (fun s H C cl fp => (hg s H C cl fp).pg) (fun s H C cl fp => (ht s H C cl fp).pts) (fun s H C cl fp => (he s H C cl fp).pe) hs) fun ph S r M σ H E hs ht E' h1 _ _ _ =>
    lc_read (X := X) o hs ht _ fun v H' ⟨ph1, S1, M1, x, hs1, d, q, z⟩ => h1 _ _ ⟨_, ph1, S1, M1, x, hs1.setN q, z⟩
end DL
/-! DL7: what is walked; built-ins; methods; slices; repr -/
namespace DL
open PySem PySem.Spec PyProof.Rows L2
variable {X : Cx}

/-! ### what is walked -/
theorem Wlk.list {K : PySem.W.Frag} {ph : Ph} {S : Hp} {a : Addr} {ds : List D} {C : Mem → Prop} (h : ∀ (ph' : Ph) (S' : Hp) (r : Env) (M : Mem) (σ : St) (H : Hp), (∀ (k : Nat) (a : Addr), ph.cells[k]? = some a → ph'.cells[k]? = some a) → Same S S' → Sat K ph' S' r M σ H → C M → ∃ xs, SqL K H a xs ∧ RepAll K ph' S' xs ds) : Wlk K ph S (Itl K a) ds C :=
  fun ph' S' r M σ H h1 h2 hs hc => by
    obtain ⟨xs, q, qa⟩ := h ph' S' r M σ H h1 h2 hs hc
    refine ⟨fun i hi => ⟨xs, q, by rw [qa.len]; exact hi⟩, fun i d e => ?_⟩
    obtain ⟨x, ex, qx⟩ := qa.get e
    refine ⟨⟨xs, x, q, ex⟩, fun y H' ⟨e1, e2⟩ => ?_⟩
    subst e1
    have ey := e2 xs q
    rw [ex] at ey
    cases ey
    exact Aft.here hs ⟨rfl, qx⟩
theorem Wlk.tup {K : PySem.W.Frag} {ph : Ph} {S : Hp} {a : Addr} {ds : List D} {C : Mem → Prop} (h : ∀ (ph' : Ph) (S' : Hp) (r : Env) (M : Mem) (σ : St) (H : Hp), (∀ (k : Nat) (a : Addr), ph.cells[k]? = some a → ph'.cells[k]? = some a) → Same S S' → Sat K ph' S' r M σ H → C M → ∃ xs, SqT K H a xs ∧ RepAll K ph' S' xs ds) : Wlk K ph S (Itt K a) ds C :=
  fun ph' S' r M σ H h1 h2 hs hc => by
    obtain ⟨xs, q, qa⟩ := h ph' S' r M σ H h1 h2 hs hc
    refine ⟨fun i hi => ⟨xs, q, by rw [qa.len]; exact hi⟩, fun i d e => ?_⟩
    obtain ⟨x, ex, qx⟩ := qa.get e
    refine ⟨⟨xs, x, q, ex⟩, fun y H' ⟨e1, e2⟩ => ?_⟩
    subst e1
    have ey := e2 xs q
    rw [ex] at ey
    cases ey
    exact Aft.here hs ⟨rfl, qx⟩
theorem RepAll.ext0 {K : PySem.W.Frag} {ph ph' : Ph} {S S' : Hp} {d : List D} {v : List V} (h1 : ∀ (k : Nat) (a : Addr), ph.cells[k]? = some a → ph'.cells[k]? = some a) (h2 : Same S S') (q : RepAll K ph S v d) : RepAll K ph' S' v d :=
  RepAll.hid (c := ph'.cells) (l := ph.hid) (l' := ph'.hid) (q.up (ph' := ⟨ph'.cells, ph.hid⟩) ⟨h1, h2, rfl⟩)
/-- a list, a tuple, the script -/
def gSeqI (d : D) (M : Mem) (R : List D → (Mem → Prop) → Mem → Prop) : Prop := match d with
  | .lst ds => R ds (fun _ => True) M
  | .tup ds => R ds (fun _ => True) M
  | .scr ns => R (ns.map D.int) (fun _ => True) M
  | .own k => match M[k]? with
    | some (.lst ds) => R ds (fun M' => M'[k]? = some (.lst ds)) M
    | _ => False
  | _ => False
def dSeqI (t : DTE) : DTI := fun r M R => t r M fun d M1 => gSeqI d M1 R
/-- it is a list at a, or a tuple -/
theorem pi_seq {tg l : Expr} {tl : TE} (hl : PE X l tl) : PI X tg l (fun σ H R => tl σ H fun x H1 => ∃ a, x = .ref a ∧ (((∃ xs, SqL X.K H1 a xs) ∧ R (Itl X.K a) H1) ∨ ((∃ xs, SqT X.K H1 a xs) ∧ R (Itt X.K a) H1))) := by
  refine ⟨fun pins s σ H R I h => thn (hl.run pins s σ H _ I h) fun v s1 ⟨x, H1, I1, r1, a, ex, q1⟩ => ?_⟩
  subst ex
  cases r1
  have fp : ∀ b ∈ [s1.heap.objs.size], FpOk X pins H1 b := fun b hb => by
    have e : b = s1.heap.objs.size := by simpa using hb
    rw [e]
    exact I1.fpOk (Nat.le_refl _) (I1.hok.fresh (Nat.le_refl _))
  rcases q1 with ⟨⟨xs, hq⟩, q⟩ | ⟨⟨xs, hq⟩, q⟩
  · obtain ⟨its, rv, p, hz⟩ := I1.list hq
    exact wpAny_pyIter_list p.isList ⟨s1.heap.objs.size, [s1.heap.objs.size], _, _, H1, rfl, I1.kept (t' := s1.toks) fun b o e => Heap.get?_push_of_some _ e, turn_list a _, ⟨_, Heap.get?_push_size _ rfl, rfl, rfl⟩, fp, q⟩
  · obtain ⟨its, rv, p, hz⟩ := I1.tuple hq
    exact wpAny_pyIter_tuple (show s1.heap.IsTuple a its.toArray from p) ⟨s1.heap.objs.size, [s1.heap.objs.size], _, _, H1, rfl, I1.kept (t' := s1.toks) fun b o e => Heap.get?_push_of_some _ e, turn_tuple a _, ⟨_, Heap.get?_push_size _ rfl, rfl, rfl⟩, fp, q⟩
theorem PI.weak {tg l : Expr} {t t' : TI} (h : PI X tg l t) (w : ∀ σ H R, t' σ H R → t σ H R) : PI X tg l t' := ⟨fun pins s σ H R I q => h.run pins s σ H R I (w _ _ _ q)⟩
theorem di_seq {tg l : Expr} {t : DTE} (h : DE X l t) : DI X tg l (dSeqI t) :=
  ⟨PI.weak (pi_seq h.pe) fun σ H R ⟨ph, S, r, M, Q0, hs, ht, hq⟩ => ⟨ph, S, r, M, _, hs, ht, fun v H1 ⟨ph1, S1, M1, x1, hs1, d, q1, g1⟩ => by
    cases d <;> first | exact g1.elim | skip
    · cases q1 with
      | tup h1 h2 => exact ⟨_, rfl, .inr ⟨⟨_, SqT.of (hs1.sub _ _ h1)⟩, hq _ _ ⟨ph1, S1, M1, x1, hs1, _, _, Wlk.tup (fun ph' S' r' M' σ' H' e1 e2 hs' _ => ⟨_, SqT.of (hs'.sub _ _ (e2 _ _ h1)), h2.ext0 e1 e2⟩), g1⟩⟩⟩
    · cases q1 with
      | lst h1 h2 => exact ⟨_, rfl, .inl ⟨⟨_, SqL.of (hs1.sub _ _ h1)⟩, hq _ _ ⟨ph1, S1, M1, x1, hs1, _, _, Wlk.list (fun ph' S' r' M' σ' H' e1 e2 hs' _ => ⟨_, SqL.of (hs'.sub _ _ (e2 _ _ h1)), h2.ext0 e1 e2⟩), g1⟩⟩⟩
    · cases q1 with
      | scr h1 => exact ⟨_, rfl, .inl ⟨⟨_, hs1.sub.seq h1⟩, hq _ _ ⟨ph1, S1, M1, x1, hs1, _, _, Wlk.list (fun ph' S' r' M' σ' H' e1 e2 hs' _ => ⟨_, hs'.sub.seq (e2.seq h1), RepAll.ints _⟩), g1⟩⟩⟩
    · rename_i k
      cases q1 with
      | own h1 =>
        replace g1 : gSeqI (.own k) M1 Q0 := g1
        unfold gSeqI at g1
        dsimp only at g1
        split at g1
        · rename_i ds hk
          obtain ⟨a, xs, c1, c2, c3, c4⟩ := hs1.cell k ds hk
          rw [h1] at c1; cases c1
          refine ⟨_, rfl, .inl ⟨⟨_, SqL.of c3⟩, hq _ _ ⟨ph1, S1, M1, x1, hs1, _, _, Wlk.list (fun ph' S' r' M' σ' H' e1 e2 hs' hc => ?_), g1⟩⟩⟩
          obtain ⟨a', xs', b1, b2, b3, b4⟩ := hs'.cell k ds hc
          rw [e1 _ _ h1] at b1; cases b1
          exact ⟨xs', SqL.of b3, b4⟩
        · exact g1.elim⟩⟩
/-- lo, lo + 1, .. -/
def rng (lo : Int) (n : Nat) : List D := (List.range n).map fun i => D.int (lo + (i : Nat))
theorem rng_len (lo : Int) (n : Nat) : (rng lo n).length = n := by unfold rng; rw [List.length_map, List.length_range]
theorem rng_get {lo : Int} {n i : Nat} {d : D} : (rng lo n)[i]? = some d ↔ i < n ∧ d = .int (lo + (i : Nat)) := by
  unfold rng
  rw [List.getElem?_map]
  constructor
  · intro e
    cases h : (List.range n)[i]? with
    | none => rw [h] at e; cases e
    | some j =>
      rw [h] at e
      obtain ⟨h1, h2⟩ := List.getElem?_eq_some_iff.mp h
      rw [List.length_range] at h1
      rw [List.getElem_range] at h2
      exact ⟨h1, by rw [h2]; exact (Option.some.inj e).symm⟩
  · rintro ⟨h1, rfl⟩
    rw [List.getElem?_eq_getElem (by rw [List.length_range]; exact h1), List.getElem_range]
    rfl
theorem Wlk.range {K : PySem.W.Frag} {ph : Ph} {S : Hp} {lo : Int} {n : Nat} {C : Mem → Prop} : Wlk K ph S (Itr lo n) (rng lo n) C := fun ph' S' r M σ H h1 h2 hs hc => by
  refine ⟨fun i hi => by rw [rng_len] at hi; exact hi, fun i d e => ?_⟩
  obtain ⟨hi, rfl⟩ := rng_get.mp e
  refine ⟨hi, fun x H' ⟨e1, e2⟩ => ?_⟩
  subst e1 e2
  exact Aft.here hs ⟨rfl, .int _⟩
def Rg (i : Int) : Prop := -(2 ^ 62) ≤ i ∧ i < 2 ^ 62
def gRng1 (ds : List D) (M : Mem) (R : List D → (Mem → Prop) → Mem → Prop) : Prop := match ds with
  | [.int n] => Rg n ∧ R (rng 0 n.toNat) (fun _ => True) M
  | _ => False
def gRng2 (ds : List D) (M : Mem) (R : List D → (Mem → Prop) → Mem → Prop) : Prop := match ds with
  | [.int a, .int b] => (Rg a ∧ Rg b) ∧ R (rng a (b - a).toNat) (fun _ => True) M
  | _ => False
def dRngI (g : List D → Mem → (List D → (Mem → Prop) → Mem → Prop) → Prop) (t : DTA) : DTI := fun r M R => t r M fun ds M1 => g ds M1 R
theorem di_range1 {tg a : Expr} {t : DTA} {p pos : Pos} (hm : X.mg "range" = none) (ha : DA X [a] t) (hg : Gl X "range" := by rfl) (hst : starEach [a] X.env = [(false, eval a X.env)] := by rfl) : DI X tg (.Call (.Name "range" p) [a] [] pos) (dRngI gRng1 t) :=
  ⟨PI.weak (pi_range1 hg hm ha.pa hst) fun σ H R ⟨ph, S, r, M, Q0, hs, ht, hq⟩ => ⟨ph, S, r, M, _, hs, ht, fun vs H1 ⟨ph1, S1, M1, x1, hs1, ds, q1, g1⟩ => by
    match ds, q1, g1 with
    | [.int n], .cons q .nil, ⟨⟨h1, h2⟩, g⟩ =>
      cases q
      exact ⟨n, rfl, h1, h2, hq _ _ ⟨ph1, S1, M1, x1, hs1, _, _, Wlk.range, g⟩⟩⟩⟩
theorem di_range2 {tg a b : Expr} {t : DTA} {p pos : Pos} (hm : X.mg "range" = none) (ha : DA X [a, b] t) (hg : Gl X "range" := by rfl) (hst : starEach [a, b] X.env = [(false, eval a X.env), (false, eval b X.env)] := by rfl) (hs2 : starEach [b] X.env = [(false, eval b X.env)] := by rfl) : DI X tg (.Call (.Name "range" p) [a, b] [] pos) (dRngI gRng2 t) :=
  ⟨PI.weak (pi_range2 hg hm ha.pa hst hs2) fun σ H R ⟨ph, S, r, M, Q0, hs, ht, hq⟩ => ⟨ph, S, r, M, _, hs, ht, fun vs H1 ⟨ph1, S1, M1, x1, hs1, ds, q1, g1⟩ => by
    match ds, q1, g1 with
    | [.int a, .int b], .cons q (.cons q' .nil), ⟨⟨⟨h1, h2⟩, h3, h4⟩, g⟩ =>
      cases q
      cases q'
      exact ⟨a, b, rfl, ⟨h1, h2, h3, h4⟩, hq _ _ ⟨ph1, S1, M1, x1, hs1, _, _, Wlk.range, g⟩⟩⟩⟩

/-! ### calls of what is built in -/
abbrev GA := List D → Mem → DQ → Prop
def CallD (X : Cx) (f : Value) (g : GA) : Prop :=
  ∀ (pins : List (Addr × Obj)) (s : Shared) (σ : St) (H : Hp) (ph : Ph) (S : Hp) (r : Env) (M : Mem) (vs : List V) (us : List Value) (ds : List D) (Q : DQ), Inv X pins σ H s → Sat X.K ph S r M σ H → Vals vs us → RepAll X.K ph S vs ds → g ds M Q →
    wpAny (model X.prog X.w) X.A (call f us) (EP X pins σ (post X.K ph S r σ Q)) X.xe s
theorem CallD.of {f : Value} {r' : List V → Hp → VK → Prop} {g : GA} (h : CallR X f r')
    (w : ∀ (σ : St) (H : Hp) (ph : Ph) (S : Hp) (r : Env) (M : Mem) (vs : List V) (ds : List D) (Q : DQ), Sat X.K ph S r M σ H → RepAll X.K ph S vs ds → g ds M Q → r' vs H (post X.K ph S r σ Q)) : CallD X f g :=
  fun pins s σ H ph S r M vs us ds Q I hs rv q hg => h pins s σ H vs us _ I rv (w σ H ph S r M vs ds Q hs q hg)
def dCB (g : GA) (t : DTA) : DTE := fun r M Q => t r M fun ds M1 => g ds M1 Q
section
variable {x : Str} {p pos : Pos} {e : Expr} {es : List Expr} {t : DTA} {id T : String} {g : GA}
theorem de_blt (hc : CallD X (.builtin id) g) (hm : X.mg x = none) (ha : DA X (e :: es) t) (hv : bootBuiltins x = some (.builtin id) := by decide +kernel) (hg : Gl X x := by rfl) (hn : x ≠ "__name__" := by decide) (hdb : (x == ("__debug__" : Str)) = false := by decide)
    (he : starEach (e :: es) X.env = (false, eval e X.env) :: starEach es X.env := by rfl) (hpl : (backTo pos (starEach es X.env)).any (·.1) = false := by rfl) : DE X (.Call (.Name x p) (e :: es) [] pos) (dCB g t) :=
  ⟨⟨fun pins s σ H Q I ⟨ph, S, r, M, Q0, hs, ht, hq⟩ => wpAny_Call_Name_kw (ld_blt I hg hm hv (PyProof.Rows.callWith_builtin1 (thn (ha.pa.run pos pins s σ H _ I ⟨ph, S, r, M, _, hs, ht, fun _ _ z => z⟩)
    fun us s1 ⟨vs, H1, I1, r1, ph1, S1, M1, x1, hs1, ds, q1, g1⟩ => thn (hc pins s1 σ H1 ph1 S1 r M1 vs us ds Q0 I1 hs1 r1 q1 g1) fun _ _ z => EP.up x1 z hq) he hpl) hn hdb)⟩⟩
theorem de_ty (hc : CallD X (.type T) g) (hm : X.mg x = none) (ha : DA X (e :: es) t) (hv : bootBuiltins x = some (.type T) := by decide +kernel) (hg : Gl X x := by rfl) (hn : x ≠ "__name__" := by decide) (hdb : (x == ("__debug__" : Str)) = false := by decide)
    (he : starEach (e :: es) X.env = (false, eval e X.env) :: starEach es X.env := by rfl) (hpl : (backTo pos (starEach es X.env)).any (·.1) = false := by rfl) : DE X (.Call (.Name x p) (e :: es) [] pos) (dCB g t) :=
  ⟨⟨fun pins s σ H Q I ⟨ph, S, r, M, Q0, hs, ht, hq⟩ => wpAny_Call_Name_kw (ld_blt I hg hm hv (PyProof.Rows.callWith_type1 (thn (ha.pa.run pos pins s σ H _ I ⟨ph, S, r, M, _, hs, ht, fun _ _ z => z⟩)
    fun us s1 ⟨vs, H1, I1, r1, ph1, S1, M1, x1, hs1, ds, q1, g1⟩ => thn (hc pins s1 σ H1 ph1 S1 r M1 vs us ds Q0 I1 hs1 r1 q1 g1) fun _ _ z => EP.up x1 z hq) he hpl) hn hdb)⟩⟩
/-- a module's name for a built-in function (gcd) -/
theorem de_bfun (hc : CallD X (.builtin id) g) (hm : X.mg x = some (.builtin id)) (ha : DA X (e :: es) t) (hg : Gl X x := by rfl) (hdb : (x == ("__debug__" : Str)) = false := by decide)
    (he : starEach (e :: es) X.env = (false, eval e X.env) :: starEach es X.env := by rfl) (hpl : (backTo pos (starEach es X.env)).any (·.1) = false := by rfl) : DE X (.Call (.Name x p) (e :: es) [] pos) (dCB g t) :=
  ⟨⟨fun pins s σ H Q I ⟨ph, S, r, M, Q0, hs, ht, hq⟩ => wpAny_Call_Name_kw (ld_glob I hg hm (PyProof.Rows.callWith_builtin1 (thn (ha.pa.run pos pins s σ H _ I ⟨ph, S, r, M, _, hs, ht, fun _ _ z => z⟩)
    fun us s1 ⟨vs, H1, I1, r1, ph1, S1, M1, x1, hs1, ds, q1, g1⟩ => thn (hc pins s1 σ H1 ph1 S1 r M1 vs us ds Q0 I1 hs1 r1 q1 g1) fun _ _ z => EP.up x1 z hq) he hpl) hdb)⟩⟩
/-- a built-in name as a value -/
theorem de_bltn {v : V} {u : Value} (hm : X.mg x = none) (r : RelV v u) (hv : bootBuiltins x = some u := by decide +kernel) (hg : Gl X x := by rfl) (hn : x ≠ "__name__" := by decide) (hd : (x == ("__debug__" : Str)) = false := by decide) : DE X (.Name x pos) (dC (.val v)) :=
  de_c (pe_bltn hg hm hv r hn hd) fun _ _ => .val _
end
def gAbs : GA := fun ds M Q => match ds with
  | [.int i] => Q (.int (if i < 0 then -i else i)) M
  | _ => False
theorem cd_abs : CallD X (.builtin "abs") gAbs := CallD.of call_abs fun σ H ph S r M vs ds Q hs q hg => by
  match ds, q, hg with
  | [.int i], .cons q .nil, hg => cases q; exact ⟨_, rfl, Aft.here hs ⟨_, .int _, hg⟩⟩
def gInt : GA := fun ds M Q => match ds with
  | [.int i] => Q (.int i) M
  | [.bl b] => Q (.int (if b then 1 else 0)) M
  | _ => False
theorem cd_int : CallD X (.type "int") gInt := CallD.of call_int1 fun σ H ph S r M vs ds Q hs q hg => by
  match ds, q, hg with
  | [.int i], .cons q .nil, hg => cases q; exact .inl ⟨_, rfl, Aft.here hs ⟨_, .int _, hg⟩⟩
  | [.bl i], .cons q .nil, hg => cases q; exact .inr ⟨_, rfl, Aft.here hs ⟨_, .int _, hg⟩⟩
def gMax : GA := fun ds M Q => match ds with
  | [.int i, .int j] => Q (.int (if j > i then j else i)) M
  | _ => False
theorem cd_max (hc : X.calm = true) : CallD X (.builtin "max") gMax := CallD.of (call_max2 hc) fun σ H ph S r M vs ds Q hs q hg => by
  match ds, q, hg with
  | [.int i, .int j], .cons q (.cons q' .nil), hg => cases q; cases q'; exact ⟨_, _, rfl, Aft.here hs ⟨_, .int _, hg⟩⟩
def gMin : GA := fun ds M Q => match ds with
  | [.int i, .int j] => Q (.int (if j < i then j else i)) M
  | _ => False
theorem cd_min (hc : X.calm = true) : CallD X (.builtin "min") gMin := CallD.of (call_min2 hc) fun σ H ph S r M vs ds Q hs q hg => by
  match ds, q, hg with
  | [.int i, .int j], .cons q (.cons q' .nil), hg => cases q; cases q'; exact ⟨_, _, rfl, Aft.here hs ⟨_, .int _, hg⟩⟩
def gGcd : GA := fun ds M Q => match ds with
  | [.int i, .int j] => Q (.int (Int.gcd i j)) M
  | _ => False
theorem cd_gcd : CallD X (.builtin "math.gcd") gGcd := CallD.of cr_gcd fun σ H ph S r M vs ds Q hs q hg => by
  match ds, q, hg with
  | [.int i, .int j], .cons q (.cons q' .nil), hg => cases q; cases q'; exact ⟨_, _, rfl, Aft.here hs ⟨_, .int _, hg⟩⟩
/-- the length of a list, a tuple, a text -/
def lenD (M : Mem) : D → Option Nat
  | .lst l => some l.length
  | .tup l => some l.length
  | .scr l => some l.length
  | .own k => match M[k]? with
    | some (.lst l) => some l.length
    | _ => none
  | .str x => if x.length ≤ sizeLine then some x.length else none
  | _ => none
def gLen : GA := fun ds M Q => match ds with
  | [d] => match lenD M d with
    | some n => Q (.int n) M
    | none => False
  | _ => False
theorem len_V {K : PySem.W.Frag} {ph : Ph} {S : Hp} {r : Env} {M : Mem} {σ : St} {H : Hp} {v : V} {d : D} {n : Nat} (hs : Sat K ph S r M σ H) (q : Rep K ph S v d) (e : lenD M d = some n) : LenV K v H n := by
  cases d <;> first | (cases e; done) | skip
  · rename_i x
    cases q
    have e' : (if x.length ≤ sizeLine then some x.length else none) = some n := e
    by_cases h : x.length ≤ sizeLine
    · rw [if_pos h] at e'
      exact ⟨h, (Option.some.inj e').symm⟩
    · rw [if_neg h] at e'; cases e'
  · cases q with
    | tup h1 h2 => exact .inr ⟨_, SqT.of (hs.sub _ _ h1), by rw [h2.len]; exact (Option.some.inj e).symm⟩
  · cases q with
    | lst h1 h2 => exact .inl ⟨_, SqL.of (hs.sub _ _ h1), by rw [h2.len]; exact (Option.some.inj e).symm⟩
  · cases q with
    | scr h1 => exact .inl ⟨_, hs.sub.seq h1, by rw [List.length_map]; exact (Option.some.inj e).symm⟩
  · rename_i k
    cases q with
    | own h1 =>
      unfold lenD at e
      dsimp only at e
      split at e
      · rename_i l hk
        obtain ⟨a, xs, c1, c2, c3, c4⟩ := hs.cell k l hk
        rw [h1] at c1; cases c1
        exact .inl ⟨_, SqL.of c3, by rw [c4.len]; exact (Option.some.inj e).symm⟩
      · cases e
theorem cd_len : CallD X (.builtin "len") gLen := CallD.of call_len fun σ H ph S r M vs ds Q hs q hg => by
  match ds, q, hg with
  | [d], .cons q .nil, hg =>
    unfold gLen at hg
    dsimp only at hg
    split at hg
    · rename_i n e
      exact ⟨_, n, rfl, len_V hs q e, Aft.here hs ⟨_, .int _, hg⟩⟩
    · exact hg.elim
/-- the ints of a list of ints -/
def intsD : List D → Option (List Int)
  | [] => some []
  | .int i :: ds => match intsD ds with
    | some is => some (i :: is)
    | none => none
  | _ :: _ => none
theorem intsD_rep {K : PySem.W.Frag} {ph : Ph} {S : Hp} : ∀ {vs : List V} {ds : List D} {is : List Int}, RepAll K ph S vs ds → intsD ds = some is → vs = is.map V.int
  | _, [], _, .nil, e => by cases e; rfl
  | _, d :: ds, is, .cons q t, e => by
    cases d <;> first | (cases e; done) | skip
    unfold intsD at e
    split at e
    · rename_i is' e'
      cases e
      cases q
      rw [intsD_rep t e']; rfl
    · cases e
def gSum : GA := fun ds M Q => match ds with
  | [d] => match res M d with
    | .lst l => match intsD l with
      | some is => Q (.int is.sum) M
      | none => False
    | .scr ns => Q (.int ns.sum) M
    | _ => False
  | _ => False
theorem cd_sum (hc : X.calm = true) : CallD X (.builtin "sum") gSum := CallD.of (cr_sum hc) fun σ H ph S r M vs ds Q hs q hg => by
  match ds, q, hg with
  | [d], .cons q .nil, hg =>
    unfold gSum at hg
    dsimp only at hg
    split at hg
    · rename_i l e
      split at hg
      · rename_i is e2
        obtain ⟨a, xs, rfl, h1, h2⟩ := res_lst hs q e
        exact ⟨a, is, rfl, by rw [← intsD_rep h2 e2]; exact SqL.of h1, Aft.here hs ⟨_, .int _, hg⟩⟩
      · exact hg.elim
    · rename_i ns e
      cases res_scr e
      cases q with
      | scr h1 => exact ⟨_, ns, rfl, hs.sub.seq h1, Aft.here hs ⟨_, .int _, hg⟩⟩
    · exact hg.elim
/-- list(x): a list that is only read, or one that will be changed -/
def seqD (M : Mem) (d : D) : Option (List D) := match res M d with
  | .lst l => some l
  | .tup l => some l
  | .scr ns => some (ns.map D.int)
  | _ => none
theorem seq_V {K : PySem.W.Frag} {ph : Ph} {S : Hp} {r : Env} {M : Mem} {σ : St} {H : Hp} {v : V} {d : D} {l : List D} (hs : Sat K ph S r M σ H) (q : Rep K ph S v d) (e : seqD M d = some l) : ∃ a xs, v = .ref a ∧ (SqL K H a xs ∨ SqT K H a xs) ∧ RepAll K ph S xs l := by
  unfold seqD at e
  split at e
  · rename_i l' e1
    cases e
    obtain ⟨a, xs, rfl, h1, h2⟩ := res_lst hs q e1
    exact ⟨a, xs, rfl, .inl (SqL.of h1), h2⟩
  · rename_i l' e1
    cases e
    cases res_tup e1
    cases q with
    | tup h1 h2 => exact ⟨_, _, rfl, .inr (SqT.of (hs.sub _ _ h1)), h2⟩
  · rename_i ns e1
    cases e
    cases res_scr e1
    cases q with
    | scr h1 => exact ⟨_, _, rfl, .inl (hs.sub.seq h1), RepAll.ints _⟩
  · cases e
def gList (own : Bool) : GA := fun ds M Q => match ds with
  | [d] => match seqD M d with
    | some l => if own = true then Q (.own M.length) (M ++ [.lst l]) else Q (.lst l) M
    | none => False
  | _ => False
theorem cd_list (own : Bool) : CallD X (.type "list") (gList own) := CallD.of call_list_of fun σ H ph S r M vs ds Q hs q hg => by
  match ds, q, hg with
  | [d], .cons q .nil, hg =>
    unfold gList at hg
    dsimp only at hg
    split at hg
    · rename_i l e
      obtain ⟨a, xs, rfl, h1, h2⟩ := seq_V hs q e
      refine ⟨a, xs, rfl, h1, fun p hp => ?_⟩
      cases own with
      | false => exact Aft.frz hs hp fun x => ⟨_, .lst upd_same (h2.up x), hg⟩
      | true => exact Aft.own hs hp h2 hg
    · exact hg.elim
def gTuple : GA := fun ds M Q => match ds with
  | [d] => match seqD M d with
    | some l => Q (.tup l) M
    | none => False
  | _ => False
theorem cd_tuple : CallD X (.type "tuple") gTuple := CallD.of call_tuple_of fun σ H ph S r M vs ds Q hs q hg => by
  match ds, q, hg with
  | [d], .cons q .nil, hg =>
    unfold gTuple seqD at hg
    dsimp only at hg
    split at hg
    · rename_i l e
      split at e
      · rename_i l' e1
        cases e
        obtain ⟨a, xs, rfl, h1, h2⟩ := res_lst hs q e1
        exact ⟨a, xs, rfl, .inl ⟨SqL.of h1, fun p hp => Aft.frz hs hp fun x => ⟨_, .tup upd_same (h2.up x), hg⟩⟩⟩
      · rename_i l' e1
        cases e
        cases res_tup e1
        cases q with
        | tup h1 h2 => exact ⟨_, _, rfl, .inr ⟨SqT.of (hs.sub _ _ h1), Aft.here hs ⟨_, .tup h1 h2, hg⟩⟩⟩
      · rename_i ns e1
        cases e
        cases res_scr e1
        cases q with
        | scr h1 => exact ⟨_, _, rfl, .inl ⟨hs.sub.seq h1, fun p hp => Aft.frz hs hp fun x => ⟨_, .tup upd_same (RepAll.ints _), hg⟩⟩⟩
      · cases e
    · exact hg.elim
/-- isinstance(x, T), T a built-in class -/
def tyD : D → Option String
  | .non => some "NoneType"
  | .bl _ => some "bool"
  | .int _ => some "int"
  | .str _ => some "str"
  | .tup _ => some "tuple"
  | .lst _ => some "list"
  | .dct0 => some "dict"
  | _ => none
def tyM (M : Mem) : D → Option String
  | .own k => match M[k]? with
    | some (.lst _) => some "list"
    | _ => none
  | d => tyD d
def gIsi : GA := fun ds M Q => match ds with
  | [d, .val (.ty n)] => match tyM M d with
    | some T => match kitB T n with
      | some b => Q (.bl b) M
      | none => False
    | none => False
  | _ => False
theorem ty_V {K : PySem.W.Frag} {ph : Ph} {S : Hp} {r : Env} {M : Mem} {σ : St} {H : Hp} {v : V} {d : D} {T : String} (hs : Sat K ph S r M σ H) (q : Rep K ph S v d) (e : tyM M d = some T) : TyX K H v (.type T) := by
  cases d <;> first | (cases e; done) | skip
  · cases q; cases e; exact .base .non
  · cases q; cases e; exact .base (.bl _)
  · cases q; cases e; exact .base (.int _)
  · cases q; cases e; exact .base (.str _)
  · cases q with
    | tup h1 h2 => cases e; exact .base (.tup (hs.sub _ _ h1))
  · cases q with
    | lst h1 h2 => cases e; exact .base (.lst (hs.sub _ _ h1))
  · cases q with
    | dct0 h1 => cases e; exact .base (.dK (hs.sub _ _ h1))
  · rename_i k
    cases q with
    | own h1 =>
      unfold tyM at e
      dsimp only at e
      split at e
      · rename_i l hk
        cases e
        obtain ⟨a, xs, c1, c2, c3, c4⟩ := hs.cell k l hk
        rw [h1] at c1; cases c1
        exact .base (.lst c3)
      · cases e
theorem cd_isi : CallD X (.builtin "isinstance") gIsi := CallD.of call_isi fun σ H ph S r M vs ds Q hs q hg => by
  match ds, q, hg with
  | [d, .val (.ty n)], .cons q (.cons q' .nil), hg =>
    unfold gIsi at hg
    dsimp only at hg
    split at hg
    · rename_i T e
      split at hg
      · rename_i b eb
        cases q'
        exact ⟨_, _, _, _, b, rfl, .ty n, ty_V hs q e, kit_ty eb, Aft.here hs ⟨_, .bl _, hg⟩⟩
      · exact hg.elim
    · exact hg.elim
/-- n.bit_length() -/
def gBits (d : D) (M : Mem) (Q : DQ) : Prop := match d with
  | .int i => Q (.int (Builtin.Int.intBits i : Nat)) M
  | _ => False
def dBits (t : DTE) : DTE := fun r M Q => t r M fun d M1 => gBits d M1 Q
theorem de_bits {o : Expr} {t : DTE} {apos pos : Pos} (ho : DE X o t) (hbase : attributeBase o "bit_length" X.env (eval o X.env) = eval o X.env := by rfl) (hline : (apos.endLine == pos.line) = true := by rfl) : DE X (.Call (.Attribute o "bit_length" apos) [] [] pos) (dBits t) :=
  DE.of (pe_bits ho.pe hbase hline) fun ph S r M σ H Q hs ht Q' hq => ⟨ph, S, r, M, _, hs, ht, fun v H1 ⟨ph1, S1, M1, x1, hs1, d, q1, g1⟩ => by
    cases d <;> first | exact g1.elim | skip
    cases q1
    exact ⟨_, rfl, hq _ _ ⟨ph1, S1, M1, x1, hs1, _, .int _, g1⟩⟩⟩

/-! ### methods of lists -/
def gAppend (o : D) (ds : List D) (M : Mem) (Q : DQ) : Prop := match o, ds with
  | .own k, [d] => match M[k]? with
    | some (.lst l) => l.length < sizeLine ∧ Q .non (M.set k (.lst (l ++ [d])))
    | _ => False
  | _, _ => False
def dMet (g : D → List D → Mem → DQ → Prop) (to : DTE) (t : DTA) : DTE := fun r M Q => to r M fun o M1 => (∃ k l, o = .own k ∧ M1[k]? = some (.lst l)) ∧ t r M1 fun ds M2 => g o ds M2 Q
theorem de_append {o e : Expr} {to : DTE} {t : DTA} {apos cpos : Pos} (ho : DE X o to) (ha : DA X [e] t) (h1 : attributeBase o "append" X.env (eval o X.env) = eval o X.env := by rfl)
    (h2 : (((backTo cpos (starEach [e] X.env)).all fun x => !x.1) && (backToKw cpos (keywordEach [] X.env)).all (fun x => x.1.isSome) && decide (([e] : List Expr).length + ([] : List Keyword).length + (if ([] : List Keyword).isEmpty then 0 else 1) < 30)) = true := by rfl) (h3 : (apos.endLine == cpos.line) = true := by rfl)
    (h4 : starEach [e] X.env = (false, eval e X.env) :: starEach [] X.env := by rfl) (h5 : (backTo cpos (starEach [] X.env)).any (·.1) = false := by rfl) : DE X (.Call (.Attribute o "append" apos) [e] [] cpos) (dMet gAppend to t) :=
  DE.of (pe_bm PySem.F.plainAttrs_list PySem.F.slot_list_append PySem.F.type_list_append mt_append ho.pe ha.pa h1 h2 h3 h4 h5) fun ph S r M σ H Q hs ht Q' hq => ⟨ph, S, r, M, _, hs, ht, fun v H1 ⟨ph1, S1, M1, x1, hs1, d, q1, ⟨k, l, e1, ek⟩, g1⟩ => by
    subst e1
    cases q1 with
    | own hp =>
      obtain ⟨a, xs, c1, c2, c3, c4⟩ := hs1.cell k l ek
      rw [hp] at c1; cases c1
      refine ⟨.inl ⟨rfl, _, SqL.of c3⟩, ph1, S1, r, M1, _, hs1, g1, fun vs H2 ⟨ph2, S2, M2, x2, hs2, ds, q2, g2⟩ => ?_⟩
      match ds, q2, g2 with
      | [d], .cons q3 .nil, g2 =>
        replace g2 : gAppend (.own k) [d] M2 Q := g2
        unfold gAppend at g2
        dsimp only at g2
        split at g2
        · rename_i l2 hk2
          have hp2 := x2.pre _ _ hp
          obtain ⟨a2, xs2, d1, d2, d3, d4⟩ := hs2.cell k l2 hk2
          rw [hp2] at d1; cases d1
          exact ⟨_, xs2, _, rfl, rfl, d3, by rw [d4.len]; exact g2.1, hq _ _ ⟨ph2, S2, _, x1.trans x2, hs2.put hk2 hp2 (d4.app (.cons q3 .nil)), _, .non, g2.2⟩⟩
        · exact g2.elim⟩

/-! ### slices -/
def cutD (l : List D) (lo hi : Option Int) : List D := List.take (HT.sIx l.length l.length hi - HT.sIx l.length 0 lo) (List.drop (HT.sIx l.length 0 lo) l)
abbrev DTO := Env → Mem → (Option Int → Mem → Prop) → Prop
structure DO (X : Cx) (e : Option Expr) (t : DTO) : Prop where
  po : PO X e (fun σ H Q => ∃ ph S r M Q0, Sat X.K ph S r M σ H ∧ t r M Q0 ∧ ∀ o H', (Aft X.K ph S r σ H' fun _ _ M' => Q0 o M') → Q o H')
def dPart (t : DTE) : DTO := fun r M Q => t r M fun d M1 => match d with
  | .int i => Q (some i) M1
  | _ => False
def dNoPart : DTO := fun _ M Q => Q none M
theorem do_some {e : Expr} {t : DTE} (h : DE X e t) : DO X (some e) (dPart t) :=
  ⟨⟨fun pins s σ H Q I ⟨ph, S, r, M, Q0, hs, ht, hq⟩ => (po_some h.pe).run pins s σ H Q I ⟨ph, S, r, M, _, hs, ht, fun v H1 ⟨ph1, S1, M1, x1, hs1, d, q1, g1⟩ => by
    cases d <;> first | exact g1.elim | skip
    cases q1
    exact ⟨_, rfl, hq _ _ ⟨ph1, S1, M1, x1, hs1, g1⟩⟩⟩⟩⟩
theorem do_none : DO X none dNoPart := ⟨⟨fun pins s σ H Q I ⟨ph, S, r, M, Q0, hs, ht, hq⟩ => po_none.run pins s σ H Q I (hq _ _ (Aft.here hs ht))⟩⟩
/-- l[a:b], a list -/
def gSlL (own : Bool) (d : D) (lo hi : Option Int) (M : Mem) (Q : DQ) : Prop := match res M d with
  | .lst l => if own = true then Q (.own M.length) (M ++ [.lst (cutD l lo hi)]) else Q (.lst (cutD l lo hi)) M
  | .scr ns => if own = true then Q (.own M.length) (M ++ [.lst (cutD (ns.map D.int) lo hi)]) else Q (.lst (cutD (ns.map D.int) lo hi)) M
  | _ => False
def gSlT (d : D) (lo hi : Option Int) (M : Mem) (Q : DQ) : Prop := match d with
  | .tup l => Q (.tup (cutD l lo hi)) M
  | _ => False
def dSl (g : D → Option Int → Option Int → Mem → DQ → Prop) (t : DTE) (tl th : DTO) : DTE := fun r M Q => t r M fun d M1 => tl r M1 fun lo M2 => th r M2 fun hi M3 => g d lo hi M3 Q
theorem cut_rep {K : PySem.W.Frag} {ph : Ph} {S : Hp} {xs : List V} {l : List D} {lo hi : Option Int} (q : RepAll K ph S xs l) : RepAll K ph S (cutV xs lo hi) (cutD l lo hi) := by
  unfold cutV cutD
  rw [q.len]
  exact (q.drop _).take _
theorem de_slL (own : Bool) {e : Expr} {lo hi : Option Expr} {t : DTE} {tl th : DTO} {pos p2 : Pos} (h : DE X e t) (h1 : DO X lo tl) (h2 : DO X hi th) : DE X (.Subscript e (.Slice lo hi none p2) pos) (dSl (gSlL own) t tl th) :=
  DE.of (pe_slice sl_list h.pe h1.po h2.po) fun ph S r M σ H Q hs ht Q' hq => ⟨ph, S, r, M, _, hs, ht, fun v H1 ⟨ph1, S1, M1, x1, hs1, d, q1, g1⟩ =>
    ⟨ph1, S1, r, M1, _, hs1, g1, fun lo H2 ⟨ph2, S2, M2, x2, hs2, g2⟩ => ⟨ph2, S2, r, M2, _, hs2, g2, fun hi H3 ⟨ph3, S3, M3, x3, hs3, g3⟩ => by
      replace g3 : gSlL own d lo hi M3 Q := g3
      have xx := x1.trans (x2.trans x3)
      have q3 := q1.up (x2.trans x3)
      unfold gSlL at g3
      split at g3
      · rename_i l er
        obtain ⟨p, xs, rfl, hp, hx⟩ := res_lst hs3 q3 er
        refine ⟨p, xs, rfl, SqL.of hp, fun b hb => ?_⟩
        cases own with
        | false => exact hq _ _ (Aft.up xx (Aft.frz hs3 hb fun x => ⟨_, .lst upd_same ((cut_rep hx).up x), g3⟩))
        | true => exact hq _ _ (Aft.up xx (Aft.own hs3 hb (cut_rep hx) g3))
      · rename_i ns er
        cases res_scr er
        cases q3 with
        | scr h1 =>
          refine ⟨_, _, rfl, hs3.sub.seq h1, fun b hb => ?_⟩
          cases own with
          | false => exact hq _ _ (Aft.up xx (Aft.frz hs3 hb fun x => ⟨_, .lst upd_same (cut_rep (RepAll.ints _)), g3⟩))
          | true => exact hq _ _ (Aft.up xx (Aft.own hs3 hb (cut_rep (RepAll.ints _)) g3))
      · exact g3.elim⟩⟩⟩
theorem cut_whole {α : Type} {l : List α} {lo hi : Option Int} (h : HT.sIx l.length 0 lo = 0 ∧ HT.sIx l.length l.length hi = l.length) : List.take (HT.sIx l.length l.length hi - HT.sIx l.length 0 lo) (List.drop (HT.sIx l.length 0 lo) l) = l := by
  rw [h.1, h.2]; simp
theorem de_slT {e : Expr} {lo hi : Option Expr} {t : DTE} {tl th : DTO} {pos p2 : Pos} (h : DE X e t) (h1 : DO X lo tl) (h2 : DO X hi th) : DE X (.Subscript e (.Slice lo hi none p2) pos) (dSl gSlT t tl th) :=
  DE.of (pe_slice sl_tupA h.pe h1.po h2.po) fun ph S r M σ H Q hs ht Q' hq => ⟨ph, S, r, M, _, hs, ht, fun v H1 ⟨ph1, S1, M1, x1, hs1, d, q1, g1⟩ =>
    ⟨ph1, S1, r, M1, _, hs1, g1, fun lo H2 ⟨ph2, S2, M2, x2, hs2, g2⟩ => ⟨ph2, S2, r, M2, _, hs2, g2, fun hi H3 ⟨ph3, S3, M3, x3, hs3, g3⟩ => by
      replace g3 : gSlT d lo hi M3 Q := g3
      have xx := x1.trans (x2.trans x3)
      have q3 := q1.up (x2.trans x3)
      cases d with
      | tup l =>
        cases q3 with
        | tup h1 h2 =>
          refine ⟨_, _, rfl, SqT.of (hs3.sub _ _ h1), fun hw => ?_, fun _ b hb => hq _ _ (Aft.up xx (Aft.frz hs3 hb fun x => ⟨_, .tup upd_same ((cut_rep h2).up x), g3⟩))⟩
          have hw' : HT.sIx l.length 0 lo = 0 ∧ HT.sIx l.length l.length hi = l.length := by rw [← h2.len]; exact hw
          refine hq _ _ (Aft.up xx (Aft.here hs3 ⟨_, .tup h1 ?_, g3⟩))
          unfold cutD
          rw [cut_whole hw']
          exact h2
      | _ => exact g3.elim⟩⟩⟩

/-! ### repr -/
/-- data whose repr may be told -/
def shwn (d : D) : Option Str := match toPy d with
  | some p => if p.showable = true ∧ p.depth ≤ 64 ∧ p.shown.length ≤ sizeLine ∧ p.hasDict = false then some p.shown else none
  | none => none
def gRepr : GA := fun ds M Q => match ds with
  | [d] => match shwn (res M d) with
    | some z => Q (.str z) M
    | none => False
  | _ => False
theorem shown_flat {p : PyData} {u : Value} {h : Heap} {as : List Addr} (r : Reads h u p as) (hn : ∀ a, u ≠ .ref a) {A : Around} {P : Program} {w : World} {E : Value → Shared → Prop} {s : Shared} {Q : Value → Shared → Prop} (hs : p.showable = true) (hz : p.shown.length ≤ sizeLine)
    (q : ∀ tk tk', Q (.str p.shown tk) { s with toks := tk' }) : wpAny (model P w) A (call (.builtin "repr") [u]) Q E s := by
  cases r with
  | none => exact PySem.P.repr_of_none (q _ _)
  | bool b => exact PySem.P.repr_of_bool (q _ _)
  | int i t => exact PySem.P.repr_of_int (of_decide_eq_true hs) (q _ _)
  | str x t => exact PySem.P.repr_of_str (q _ _) hz
  | list _ _ _ _ => exact absurd rfl (hn _)
  | tuple _ _ _ _ => exact absurd rfl (hn _)
  | dict _ _ _ _ _ => exact absurd rfl (hn _)
theorem cd_repr (gd : X.A.guards = some []) (hu : X.A.units + 200 < cLine) : CallD X (.builtin "repr") gRepr := by
  intro pins s σ H ph S r M vs us ds Q I hs rv q hg
  match ds, vs, us, rv, q, hg with
  | [d], [v], [u], .cons ru .nil, .cons q .nil, hg =>
    unfold gRepr at hg
    dsimp only at hg
    split at hg
    · rename_i z ez
      unfold shwn at ez
      split at ez
      · rename_i p ep
        by_cases hp : p.showable = true ∧ p.depth ≤ 64 ∧ p.shown.length ≤ sizeLine ∧ p.hasDict = false
        · rw [if_pos hp] at ez
          cases ez
          obtain ⟨as, h1, h2⟩ := Rep.reads I _ _ _ _ (Rep.res hs q) ru ep
          by_cases hr : ∃ a, u = .ref a
          · obtain ⟨a, rfl⟩ := hr
            refine PySem.repr_of_reads' h1 hp.1 (fun hd => ?_) gd ?_ (fun _ _ e => e) (fun h' u tk k => ⟨.str p.shown, H, I.kept k, ⟨_, rfl⟩, Aft.here hs ⟨_, .str _, hg⟩⟩) hp.2.2.1
            · rw [hp.2.2.2] at hd; exact absurd hd Bool.false_ne_true
            · have := hp.2.1; omega
          · exact shown_flat h1 (fun a e => hr ⟨a, e⟩) hp.1 hp.2.2.1 fun tk tk' => ⟨.str p.shown, H, I.tok _, ⟨_, rfl⟩, Aft.here hs ⟨_, .str _, hg⟩⟩
        · rw [if_neg hp] at ez; cases ez
      · cases ez
    · exact hg.elim
end DL
/-! DL8: calls with keywords alone; a def for its callers; the end of a law -/
namespace DL
open PySem PySem.Spec PyProof.Rows L2
section
variable {X : Cx}
structure DK (X : Cx) (kws : List Keyword) (t : DTA) : Prop where
  pk : PK X kws (fun σ H Q => ∃ ph S r M Q0, Sat X.K ph S r M σ H ∧ t r M Q0 ∧ ∀ vs H', postA X.K ph S r σ Q0 vs H' → Q vs H')
theorem PK.weak {kws : List Keyword} {t t' : TA} (h : PK X kws t) (w : ∀ σ H Q, t' σ H Q → t σ H Q) : PK X kws t' := ⟨fun pos pins s σ H Q I q => h.run pos pins s σ H Q I (w _ _ _ q)⟩
theorem dk_nil : DK X [] dNil := ⟨PK.weak pk_nil fun σ H Q ⟨ph, S, r, M, Q0, hs, ht, hq⟩ => hq _ _ (Aft.here hs ⟨_, .nil, ht⟩)⟩
theorem dk_cons {e : Expr} {kws : List Keyword} {nm : Option Str} {kpos : Pos} {t : DTE} {u : DTA} (h : DE X e t) (h2 : DK X kws u) : DK X (⟨nm, e, kpos⟩ :: kws) (dCons t u) :=
  ⟨PK.weak (pk_cons h.pe h2.pk) fun σ H Q ⟨ph, S, r, M, Q0, hs, ht, hq⟩ => ⟨ph, S, r, M, _, hs, ht, fun v H1 ⟨ph1, S1, M1, x1, hs1, d, q1, g1⟩ =>
    ⟨ph1, S1, r, M1, _, hs1, g1, fun vs H2 ⟨ph2, S2, M2, x2, hs2, ds, q2, g2⟩ => hq _ _ ⟨ph2, S2, M2, x1.trans x2, hs2, _, .cons (q1.up x2) q2, g2⟩⟩⟩⟩
/-- the values by place -/
def pick {α : Type} (l : List Nat) (xs : List α) : List α := l.filterMap fun i => xs[i]?
theorem pick_vals {vs : List V} {us : List Value} (r : Vals vs us) : ∀ l : List Nat, Vals (pick l vs) (pick l us)
  | [] => .nil
  | i :: l => by
    unfold pick
    rw [List.filterMap_cons, List.filterMap_cons]
    cases e : vs[i]? with
    | none => rw [r.none_of e]; exact pick_vals r l
    | some v =>
      obtain ⟨u, eu, ru⟩ := r.get e
      rw [eu]
      exact .cons ru (pick_vals r l)
theorem pick_rep {K : PySem.W.Frag} {ph : Ph} {S : Hp} {vs : List V} {ds : List D} (r : RepAll K ph S vs ds) : ∀ l : List Nat, RepAll K ph S (pick l vs) (pick l ds)
  | [] => .nil
  | i :: l => by
    unfold pick
    rw [List.filterMap_cons, List.filterMap_cons]
    cases e : ds[i]? with
    | none =>
      have e' : vs[i]? = none := by
        have := List.getElem?_eq_none_iff.mp e
        exact List.getElem?_eq_none_iff.mpr (by rw [r.len]; exact this)
      rw [e']; exact pick_rep r l
    | some d =>
      obtain ⟨u, eu, ru⟩ := r.get e
      rw [eu]
      exact .cons ru (pick_rep r l)
def dCallK (m n : Nat) (sp : DSp) (l : List Nat) (E : DX) (t : DTA) : DTE := fun r M Q => t r M fun ds M1 => ds.length = m ∧ (pick l ds).length = n ∧ sp (pick l ds) M1 Q E
variable {k : Nat} {ps ks : List Str} {sp : DSp} {x : Str} {p pos : Pos} {kws : List Keyword} {t : DTA}
/-- f(k = v, ..): all arguments by their names -/
theorem dcallK {m n : Nat} {st : Stmt} (l : List Nat) {P : Program} {w : World} {K : PySem.W.Frag} {mg : Str → Option Value} {base : Heap} (F : Def P w K mg base CX0 k x st ps sp) {j : Nat} (hr : Room j X.A) (gd : X.A.guards = some []) (hkw : DK X kws t)
    (hks : (backToKw pos (keywordEach kws X.env)).filterMap (·.1) = ks)
    (hb : ∀ (kV doc pm : Value) (an : Option Addr) (cdv ct : Value) (us : List Value), us.length = ks.length → bindArgs (PySem.W.fnOf x x (defArgs st) (defBody st) (defScope st) .none kV doc pm an cdv ct) ⟨[], ks.zip us⟩ = pure (ps.zip (pick l us)))
    (hj : k ≤ j := by decide) (hm : ks.length = m := by rfl) (hn : ps.length = n := by rfl)
    (h1 : P = X.prog := by rfl) (h2 : w = X.w := by rfl) (h3 : K = X.K := by rfl) (h4 : mg = X.mg := by rfl) (h5 : base = X.base := by rfl) (hg : Gl X x := by rfl) (hdb : (x == ("__debug__" : Str)) = false := by decide) (hall : (backToKw pos (keywordEach kws X.env)).all (·.1.isSome) = true := by rfl)
    (hpl : ((backTo pos (starEach [] X.env)).any (·.1) || (backToKw pos (keywordEach kws X.env)).any (·.1.isNone)) = false := by rfl) : DE X (.Call (.Name x p) [] kws pos) (dCallK m n sp l DX0 t) := by
  subst h1 h2 h3 h4 h5 hn hm
  obtain ⟨f, fd, h1, h2, h3, h4, h5⟩ := F.ex
  refine ⟨⟨fun pins s σ H Q I ⟨ph, S, r, M, Q0, hs, ht, hq⟩ => wpAny_Call_Name_kw (ld_glob I hg h2 ?_ hdb)⟩⟩
  refine PySem.W.callWith_KW0 (h₀ := X.base) I.ok.mod.kin h3 hall (thn (hkw.pk.run pos pins s σ H _ I ⟨ph, S, r, M, _, hs, ht, fun _ _ z => z⟩) fun us s1 ⟨vs, H1, I1, r1, ph1, S1, M1, x1, hs1, ds, q1, hl, hp, g1⟩ => ⟨I1.kIn, ?_⟩) hpl
  rw [hks]
  obtain ⟨oc, od, kV, doc, pm, an, cdv, ct, osl, efd, lk, hcd⟩ := h5.ex
  have hul : us.length = ks.length := by rw [← Paired.length r1, q1.len]; exact hl
  have hb' : BindsTo s1 fd ⟨[], ks.zip us⟩ (ps.zip (pick l us)) := by
    rw [efd]
    exact .of_eq (hb kV doc pm an cdv ct us hul)
  refine wpAny_call (codeAny_mono (h1.run X.A X.stack s1 H1 ⟨[], ks.zip us⟩ (pick l us) (pick l vs) (post X.K ph1 S1 r σ Q0) E0 (hr.mono hj) gd I1.env0 hb' (pick_vals r1 l) ?_) fun r s' hz => ?_)
  · exact ⟨ph1, S1, M1, pick l ds, Q0, DX0, hp, hs1.drop, pick_rep q1 l, g1, fun v H2 ⟨ph2, S2, M2, x2, hs2, d, q2, h2⟩ => ⟨ph2, S2, M2, x2, hs1.back x2 hs2, d, q2, h2⟩, pX0 _ _⟩
  · match r, hz with
    | .error e, hz => exact pass0 pins σ H1 s1 e s' I1 hz
    | .ok (.ret u), hz => exact EP.up x1 (I1.after hz) hq
    | .ok .next, hz => exact False.elim hz
    | .ok .brk, hz => exact False.elim hz
    | .ok .cont, hz => exact False.elim hz
end

/-! ### a def, made known to its callers -/
theorem Def.mk' {P : Program} {w : World} {K : PySem.W.Frag} {mg : Str → Option Value} {base : Heap} {k : Nat} {x : Str} {st : Stmt} {ps : List Str} {sp : DSp} {f : Addr} {fd : FuncData} (F : Fun K x x st f fd) (h : FnD P w K mg base CX0 k f fd ps sp) (hm : mg x = some (.ref f)) (hb : Binds K fd ps []) : Def P w K mg base CX0 k x st ps sp :=
  ⟨f, fd, h, hm, F.kp, hb, F⟩
/-- a def that stands in the module -/
structure Here (K : PySem.W.Frag) (mg : Str → Option Value) (x : Str) (st : Stmt) (ps : List Str) : Prop where
  ex : ∃ (f : Addr) (fd : FuncData), Fun K x x st f fd ∧ mg x = some (.ref f) ∧ Binds K fd ps []
theorem here_of {K : PySem.W.Frag} {h : Heap} {mg : Str → Option Value} {x : Str} {st : Stmt} {ps : List Str} {f : Addr} {oc : Value} {od an : Option Addr} {osl : Array (Option Value)} {kV doc pm cdv ct : Value} (X : K.In h) (G : h.Ns mainGlobals mg)
    (a : PySem.W.nsIn K mainGlobals x = some (some (.ref f))) (l : K.lookup f = some ⟨oc, od, .func (PySem.W.fnOf x x (defArgs st) (defBody st) (defScope st) .none kV doc pm an cdv ct), osl⟩) (c : PySem.W.codeIn K cdv x = true) (k : PySem.W.keepIn K (.ref f) = true)
    (hb : ∀ (kV doc pm : Value) (an : Option Addr) (cdv ct : Value) (us : List Value), us.length = ps.length → bindArgs (PySem.W.fnOf x x (defArgs st) (defBody st) (defScope st) .none kV doc pm an cdv ct) ⟨us, []⟩ = pure (ps.zip us)) : Here K mg x st ps :=
  ⟨f, _, fun_mk (st := st) l c k, PySem.W.mg_of X G a, (fun_mk (st := st) l c k).binds hb⟩
section
variable {P : Program} {w : World} {K : PySem.W.Frag} {mg : Str → Option Value} {base : Heap}
/-- THE RULE for a def of the module -/
theorem Here.ok {x : Str} {st : Stmt} {N ps : List Str} {k : Nat} {sp : DSp} {t : DTS} (F : Here K mg x st ps) (S : FnScope N ps (defScope st))
    (hder : ∀ (f : Addr) (cdv : Value) (A : Around) (outer : List PySem.Env) (s : Shared) (H : Hp) (E : XK), Room k (A.deeper (envOfC x (defScope st) s.heap.objs.size f cdv)) → (A.deeper (envOfC x (defScope st) s.heap.objs.size f cdv)).guards = some [] →
      DSs (cxOf CX0 P w K mg base N x (defScope st) f cdv A outer s H E).nox (defBody st) t)
    (hread : ∀ ds M Q, ds.length = ps.length → sp ds M Q DX0 → t (dEnds M Q) (startD N.length ds) M)
    (hX : ∀ ds M Q E, sp ds M Q E → sp ds M Q DX0 := by exact fun _ _ _ _ h => h) : Def P w K mg base CX0 (k + 1) x st ps sp :=
  let ⟨f, fd, h1, h2, h3⟩ := F.ex
  Def.mk' h1 (Fun.okD h1 S (hder f) hread hX) h2 h3
end

/-! ### the end of a law -/
def spLaw : DSp := fun ds M Q _ => M = [] ∧ (∃ ns, ds = [.scr ns]) ∧ Q (.bl true) []
theorem law_callG {P : Program} {w : World} {K : PySem.W.Frag} {mg mb : Str → Option Value} {k : Nat} {fa a : Addr} {fd : FuncData} {x : Str} {s1 : Shared} {vs : List Value} {ns : List Int}
    (KX : K.In s1.heap) (hns : s1.heap.Ns mainGlobals mg) (hb : s1.heap.Ns builtinsNs mb) (hbb : ∀ x : Str, x ≠ "__name__" → mb x = bootBuiltins x) (hlim : s1.heap.NoLimit) (hg : s1.gens = #[])
    (ha : s1.heap.get? a = some { cls := .type "list", data := .seq vs.toArray }) (hi : IntsAre vs ns) (hl : ns.length ≤ sizeLine) (hr : Room k callerA)
    (F : ∀ base : Heap, K.In base → base.Ns mainGlobals mg → FnD P w K mg base CX0 k fa fd [x] spLaw) (hbind : ∀ (s : Shared) (u : Value), BindsTo s fd ⟨[u], []⟩ [(x, u)]) :
    codeAny (model P w) callerA (.call (.ref fa) ⟨[.ref a], []⟩) (fun r s' => r = .ok (.ret (.bool true)) ∧ OldK s1.heap s'.heap ∧ s'.os = s1.os ∧ AllBare s'.gens) s1 := by
  have rv := vals_ints hi
  have lenV := hi.length
  have core : ∀ H : Hp, Only H → SqL K H a (ns.map V.int) → HOk P w H s1.heap → (∀ b, H b ≠ none → b = a) → (H a ≠ none → K.lookup a = none) →
      codeAny (model P w) callerA (.call (.ref fa) ⟨[.ref a], []⟩) (fun r s' => r = .ok (.ret (.bool true)) ∧ OldK s1.heap s'.heap ∧ s'.os = s1.os ∧ AllBare s'.gens) s1 := by
    intro H hO hS hok hA hK
    have at_ : ∀ {b : Addr}, H b ≠ none → b = a := fun {b} z => hA b z
    have noA : ∀ {b : Addr} {o : Obj} {es : Array DictEntry} {ep : Nat}, s1.heap.get? b = some o → o.data = .dict es ep → H b = none := fun {b o es ep} e d => by
      by_cases z : H b = none
      · exact z
      · have e' := at_ z
        rw [e', ha] at e
        rw [← Option.some.inj e] at d
        exact nomatch d
    have nsK : ∀ {b : Addr} {m : Str → Option Value}, s1.heap.Ns b m → (hidT s1.heap H).Ns b m := fun {b m} ⟨o, es, ep, e, d, r⟩ => ⟨o, es, ep, hidT_get e (noA e d), d, r⟩
    have hKb : K.In (hidT s1.heap H) := fun b o e => hidT_get (KX b o e) (by
      by_cases z : H b = none
      · exact z
      · have e' := at_ z
        rw [e'] at e z
        rw [hK z] at e
        cases e)
    have hM : Mod K mg (hidT s1.heap H) := ⟨hKb, nsK hns, ⟨mb, nsK hb, hbb⟩, let ⟨mc, g1, g2⟩ := hlim; ⟨mc, nsK g1, g2⟩⟩
    have e0 : Env0 P w K mg (hidT s1.heap H) callerA [] s1 H := ⟨rfl, hM, fun b o e => of_hidT e, Nat.le_of_eq (hidT_size _ _), trivial, fun b hb => absurd (show b ∈ ([] : List Addr) from hb) (by simp), hok, .of_eq hg⟩
    have st0 : Sat K ⟨[], []⟩ H [] [] [] H := ⟨fun _ _ e => e, rfl, List.nodup_nil, fun k a e => by simp at e, fun k ds e => by simp at e, fun _ hp => (nomatch hp), List.nodup_nil, rfl, fun i d e => by simp at e⟩
    have sp0 : lfSp K 1 spLaw [.ref a] H (fun v _ => v = .bl true) E0 := ⟨⟨[], []⟩, H, [], [.scr ns], fun d M => d = .bl true, DX0, rfl, st0, .cons (.scr hS) .nil, ⟨rfl, ⟨ns, rfl⟩, rfl⟩, fun v H' ⟨_, _, _, _, _, d, q, e⟩ => by
      rw [e] at q
      cases q
      rfl, fun cls d H' ⟨_, _, _, _, _, _, _, _, _, _, _, _, _, z⟩ => z⟩
    refine codeAny_mono ((F _ hKb (nsK hns)).run callerA [] s1 H ⟨[.ref a], []⟩ [.ref a] [.ref a] _ _ hr rfl e0 (hbind s1 (.ref a)) (.cons rfl .nil) sp0) fun r s' h => ?_
    match r, h with
    | .error e, h => exact False.elim h
    | .ok .next, h => exact False.elim h
    | .ok .brk, h => exact False.elim h
    | .ok .cont, h => exact False.elim h
    | .ok (.ret u), ⟨v, H', os, bare, un, hok', r', q⟩ =>
      have q' : v = .bl true := q
      subst q'
      obtain rfl : u = Value.bool true := r'
      refine ⟨rfl, OldK.of_keep fun b o e => ?_, os, bare⟩
      rcases hO b with q | ⟨ob, xs, q⟩
      · exact un.keep b o e q (fun z => nomatch z) (fun z => nomatch z)
      · obtain ⟨e1, _⟩ := hok b _ q
        obtain ⟨e2, _⟩ := hok' b _ (un.frzs b ob _ q)
        rw [e] at e1
        cases e1
        exact e2
  cases hk : K.lookup a with
  | some o =>
    have e := KX a o hk
    rw [ha] at e
    cases e
    exact core (fun _ => none) (fun _ => .inl rfl) (.inr ⟨_, vs.toArray, _, hk, rfl, rfl, rfl, by rw [List.size_toArray, lenV]; exact hl, by simpa using rv⟩) (fun b u z => (nomatch z)) (fun b z => absurd rfl z) fun z => absurd rfl z
  | none =>
    refine core (fun b => if b = a then some (.frz { cls := .type "list", data := .seq vs.toArray } (.lst (ns.map V.int))) else none) (fun b => ?_) (.inl (.inr ⟨{ cls := .type "list", data := .seq vs.toArray }, if_pos rfl⟩)) (fun b u z => ?_) (fun b z => ?_) fun _ => hk
    · by_cases hb : b = a
      · exact .inr ⟨_, _, if_pos hb⟩
      · exact .inl (if_neg hb)
    · by_cases hb : b = a
      · have z := (if_pos hb).symm.trans z
        cases z
        rw [hb]
        exact ⟨ha, by rw [List.length_map]; exact hl, vs, _, rv, ha⟩
      · have z := (if_neg hb).symm.trans z
        cases z
    · by_cases hb : b = a
      · exact hb
      · exact absurd (if_neg hb) z
/-- the goal that k_head leaves -/
theorem walkD {l : PySem.W.OpenLaw} {n k : Nat} {q : Program} {loose : List Str} {XP : (Str → Option Value) → Heap → Prop} {YP : World → Heap → Prop} {d : DefRec} {K : Params → PySem.W.Frag} {x : Str} {st : Stmt}
    (hn : l.most = some n) (hn2 : n ≤ sizeLine) (hdf : d.params.defaults = []) (hr : Room k callerA) (hY : ∀ (w : World) (h : Heap), YP w h → (K w.params).In h)
    (F : ∀ (w : World) (mg : Str → Option Value) (h : Heap), (K w.params).In h → h.Ns mainGlobals mg → ∀ base : Heap, (K w.params).In base → base.Ns mainGlobals mg → Def l.prog w (K w.params) mg base CX0 k d.name st [x] spLaw)
    (hb : ∀ (kV doc pm : Value) (an : Option Addr) (cdv ct : Value) (u : Value), bindArgs (PySem.W.fnOf d.name d.name (defArgs st) (defBody st) (defScope st) .none kV doc pm an cdv ct) ⟨[u], []⟩ = pure [(x, u)]) :
    PySem.W.WalkO q loose XP YP l.row.toRowW d [] (fun f vs => PySem.call f vs) := by
  refine Att.attach_call hn hdf fun w s0 s1 mg mb fa o pm cd doc a vs ns G Y ho hd hcd hmg hobj hints hlen hg => ?_
  have KX := hY w _ Y
  obtain ⟨f0, fd, g1, g2, g3, g4, g5⟩ := (F w mg _ KX G.T.g _ KX G.T.g).ex
  have ef : f0 = fa := by
    rw [g2] at hmg
    exact Value.ref.inj (Option.some.inj hmg)
  subst ef
  obtain ⟨oc, od, kV, doc', pm', an, cdv, ct, osl, efd, lk, hcd'⟩ := g5.ex
  refine law_callG (fd := fd) (k := k) (x := x) KX G.T.g G.T.b G.T.builtins G.T.nolimit hg hobj hints (Nat.le_trans hlen hn2) hr (fun base h1 h2 => ?_) fun s u => ?_
  · obtain ⟨f1, fd1, k1, k2, k3, k4, k5⟩ := (F w mg _ KX G.T.g base h1 h2).ex
    have e1 : f1 = f0 := by
      rw [g2] at k2
      exact (Value.ref.inj (Option.some.inj k2)).symm
    subst e1
    obtain ⟨_, _, _, _, _, _, _, _, _, _, lk1, _⟩ := k5.ex
    rw [lk] at lk1
    have e2 : fd = fd1 := by
      have := Option.some.inj lk1
      injection this with _ _ z _
      exact Data.func.inj z
    rw [e2]
    exact k1
  · rw [efd]
    exact .of_eq (hb kV doc' pm' an cdv ct u)
end DL
/-! DL9: further rules; lemmas for readings -/
namespace DL
open PySem PySem.Spec PyProof.Rows L2
theorem u64 {A : Around} {k : Nat} (hr : Room k A) : A.units + 64 < cLine := hr.units
theorem u65 {A : Around} {k : Nat} (hr : Room k A) : A.units + 65 < cLine := by have := hr.un; omega
theorem ux {A : Around} {k : Nat} (hr : Room k A) : A.units + 200 < cLine := by have := hr.un; omega
section
variable {X : Cx}
/-- an owned list is handed on: it is changed no more -/
def gFrz (d : D) (M : Mem) (Q : DQ) : Prop := match d with
  | .own k => match M[k]? with
    | some (.lst l) => Q (.lst l) (M.set k .dead)
    | _ => False
  | d => Q d M
def dFrz (t : DTE) : DTE := fun r M Q => t r M fun d M1 => gFrz d M1 Q
theorem de_frz {e : Expr} {t : DTE} (h : DE X e t) : DE X e (dFrz t) :=
  DE.of h.pe fun ph S r M σ H Q hs ht Q' hq => ⟨ph, S, r, M, _, hs, ht, fun v H1 ⟨ph1, S1, M1, x1, hs1, d, q1, g1⟩ => by
    cases d with
    | own k =>
      replace g1 : gFrz (.own k) M1 Q := g1
      unfold gFrz at g1
      dsimp only at g1
      split at g1
      · rename_i l hk
        cases q1 with
        | own hp =>
          obtain ⟨a, xs, e1, x2, hs2, q2⟩ := hs1.freeze hk
          rw [hp] at e1
          cases e1
          exact hq _ _ ⟨ph1, _, _, x1.trans x2, hs2, _, q2, g1⟩
      · exact g1.elim
    | _ => exact hq _ _ ⟨ph1, S1, M1, x1, hs1, _, q1, g1⟩⟩
/-- a list, n times -/
def gMulL : G2 := fun x y M Q => match x, y with
  | .lst a, .int j => (-(2 ^ 63) ≤ j ∧ j < 2 ^ 63 ∧ a.length * j.toNat ≤ sizeLine) ∧ Q (.lst (List.flatten (List.replicate j.toNat a))) M
  | _, _ => False
end
variable {X : Cx}
/-! ### zip, enumerate -/
/-- a list's items, and what must hold of the cells that they stay so -/
def lsqD (M : Mem) : D → Option (List D × (Mem → Prop))
  | .lst ds => some (ds, fun _ => True)
  | .scr ns => some (ns.map D.int, fun _ => True)
  | .own k => match M[k]? with
    | some (.lst ds) => some (ds, fun M' => M'[k]? = some (.lst ds))
    | _ => none
  | _ => none
theorem lsq_rep {K : PySem.W.Frag} {ph : Ph} {S : Hp} {r : Env} {M : Mem} {σ : St} {H : Hp} {v : V} {d : D} {ds : List D} {C : Mem → Prop} (hs : Sat K ph S r M σ H) (q : Rep K ph S v d) (e : lsqD M d = some (ds, C)) :
    ∃ a, v = .ref a ∧ (∃ xs, SqL K H a xs) ∧ ∀ (ph' : Ph) (S' : Hp) (r' : Env) (M' : Mem) (σ' : St) (H' : Hp), (∀ (k : Nat) (a : Addr), ph.cells[k]? = some a → ph'.cells[k]? = some a) → Same S S' → Sat K ph' S' r' M' σ' H' → C M' → ∃ xs, SqL K H' a xs ∧ RepAll K ph' S' xs ds := by
  cases d <;> first | (cases e; done) | skip
  · cases q with
    | lst h1 h2 =>
      cases e
      exact ⟨_, rfl, ⟨_, SqL.of (hs.sub _ _ h1)⟩, fun ph' S' r' M' σ' H' e1 e2 hs' _ => ⟨_, SqL.of (hs'.sub _ _ (e2 _ _ h1)), h2.ext0 e1 e2⟩⟩
  · cases q with
    | scr h1 =>
      cases e
      exact ⟨_, rfl, ⟨_, hs.sub.seq h1⟩, fun ph' S' r' M' σ' H' e1 e2 hs' _ => ⟨_, hs'.sub.seq (e2.seq h1), RepAll.ints _⟩⟩
  · rename_i k
    cases q with
    | own h1 =>
      unfold lsqD at e
      dsimp only at e
      split at e
      · rename_i ds' hk
        cases e
        obtain ⟨a, xs, c1, c2, c3, c4⟩ := hs.cell k _ hk
        rw [h1] at c1; cases c1
        refine ⟨_, rfl, ⟨_, SqL.of c3⟩, fun ph' S' r' M' σ' H' e1 e2 hs' hc => ?_⟩
        obtain ⟨a', xs', b1, b2, b3, b4⟩ := hs'.cell k _ hc
        rw [e1 _ _ h1] at b1; cases b1
        exact ⟨xs', SqL.of b3, b4⟩
      · cases e
def pairD (x y : D) : D := .tup [x, y]
theorem RepAll.two {K : PySem.W.Frag} {ph : Ph} {S : Hp} {x y : V} {d e : D} (h : Rep K ph S x d) (g : Rep K ph S y e) : RepAll K ph S [x, y] [d, e] := .cons h (.cons g .nil)
theorem zip_get {l1 l2 : List D} {i : Nat} {d : D} (h : (List.zipWith pairD l1 l2)[i]? = some d) : ∃ x y, l1[i]? = some x ∧ l2[i]? = some y ∧ d = pairD x y := by
  rw [List.getElem?_zipWith] at h
  cases e1 : l1[i]? with
  | none => rw [e1] at h; cases h
  | some x =>
    cases e2 : l2[i]? with
    | none => rw [e1, e2] at h; cases h
    | some y =>
      rw [e1, e2] at h
      exact ⟨x, y, rfl, rfl, (Option.some.inj h).symm⟩
theorem Wlk.zip {K : PySem.W.Frag} {ph : Ph} {S : Hp} {a b : Addr} {d1 d2 : List D} {C1 C2 : Mem → Prop}
    (h1 : ∀ (ph' : Ph) (S' : Hp) (r' : Env) (M' : Mem) (σ' : St) (H' : Hp), (∀ (k : Nat) (a : Addr), ph.cells[k]? = some a → ph'.cells[k]? = some a) → Same S S' → Sat K ph' S' r' M' σ' H' → C1 M' → ∃ xs, SqL K H' a xs ∧ RepAll K ph' S' xs d1)
    (h2 : ∀ (ph' : Ph) (S' : Hp) (r' : Env) (M' : Mem) (σ' : St) (H' : Hp), (∀ (k : Nat) (a : Addr), ph.cells[k]? = some a → ph'.cells[k]? = some a) → Same S S' → Sat K ph' S' r' M' σ' H' → C2 M' → ∃ xs, SqL K H' b xs ∧ RepAll K ph' S' xs d2) :
    Wlk K ph S (Itz K a b) (List.zipWith pairD d1 d2) (fun M => C1 M ∧ C2 M) := fun ph' S' r M σ H e1 e2 hs hc => by
  obtain ⟨xs, q1, qa1⟩ := h1 ph' S' r M σ H e1 e2 hs hc.1
  obtain ⟨ys, q2, qa2⟩ := h2 ph' S' r M σ H e1 e2 hs hc.2
  refine ⟨fun i hi => ⟨xs, ys, q1, q2, by rw [qa1.len, qa2.len]; rw [List.length_zipWith] at hi; omega⟩, fun i d e => ?_⟩
  obtain ⟨x, y, ex, ey, rfl⟩ := zip_get e
  obtain ⟨u, eu, qu⟩ := qa1.get ex
  obtain ⟨w, ew, qw⟩ := qa2.get ey
  refine ⟨⟨xs, ys, u, w, q1, q2, eu, ew⟩, fun z H' ⟨T, u', w', ez, hT, eH, f1, f2⟩ => ?_⟩
  have e3 := f1 xs q1
  have e4 := f2 ys q2
  rw [eu] at e3; cases e3
  rw [ew] at e4; cases e4
  subst ez eH
  obtain ⟨x1, hs1⟩ := hs.frz hT (.tup [u, w])
  exact ⟨_, _, _, x1, hs1, rfl, .tup upd_same ((RepAll.two qu qw).up x1)⟩
/-- zip of two lists -/
def gZip (ds : List D) (M : Mem) (R : List D → (Mem → Prop) → Mem → Prop) : Prop := match ds with
  | [x, y] => match lsqD M x, lsqD M y with
    | some (xs, C1), some (ys, C2) => R (List.zipWith pairD xs ys) (fun M' => C1 M' ∧ C2 M') M
    | _, _ => False
  | _ => False
theorem di_zip {a b : Expr} {t : DTA} {p pos tpos : Pos} {elts : List Expr} {kk : Nat} (hm : X.mg "zip" = none) (ha : DA X [a, b] t) (hg : Gl X "zip" := by rfl)
    (hs : starEach [a, b] X.env = (false, eval a X.env) :: starEach [b] X.env := by rfl) (hpl : (backTo pos (starEach [b] X.env)).any (·.1) = false := by rfl) : DI X (.Tuple elts kk tpos) (.Call (.Name "zip" p) [a, b] [] pos) (dRngI gZip t) :=
  ⟨PI.weak (RZ.pi_zipA hg hm ha.pa hs hpl) fun σ H R ⟨ph, S, r, M, Q0, hs, ht, hq⟩ => ⟨ph, S, r, M, _, hs, ht, fun vs H1 ⟨ph1, S1, M1, x1, hs1, ds, q1, g1⟩ => by
    match ds, q1, g1 with
    | [x, y], .cons qx (.cons qy .nil), g =>
      unfold gZip at g
      dsimp only at g
      split at g
      · rename_i xs C1 ys C2 e1 e2
        obtain ⟨u, rfl, ⟨us, hu⟩, w1⟩ := lsq_rep hs1 qx e1
        obtain ⟨w, rfl, ⟨ws, hw⟩, w2⟩ := lsq_rep hs1 qy e2
        exact ⟨u, w, us, ws, rfl, .inl ⟨hu, hw, hq _ _ ⟨ph1, S1, M1, x1, hs1, _, _, Wlk.zip w1 w2, g⟩⟩⟩
      · exact g.elim⟩⟩
end DL
/-! DLR: how readings are shown -/
namespace DL
open PySem PySem.Spec PyProof.Rows L2

/-! ### while -/
theorem dwhile_by {τ : Type} {c : DTT} {t : DTS} {E : DEnds} {r : Env} {M : Mem} (en : τ → Env) (P : τ → Prop) (m : τ → Nat) (x0 : τ) (h0 : P x0) (hr : r = en x0)
    (step : ∀ x, P x → c (en x) M fun b M1 => if b = true then t { E with nx := fun r' M' => ∃ y, r' = en y ∧ M' = M ∧ P y ∧ m y < m x, ct := fun r' M' => ∃ y, r' = en y ∧ M' = M ∧ P y ∧ m y < m x, bk := E.nx } (en x) M1 else E.nx (en x) M1)
    (mono : ∀ x Q Q', (∀ b M1, Q b M1 → Q' b M1) → c (en x) M Q → c (en x) M Q')
    (monoT : ∀ x M1 (N N' : Env → Mem → Prop), (∀ r' M', N r' M' → N' r' M') → t { E with nx := N, ct := N, bk := E.nx } (en x) M1 → t { E with nx := N', ct := N', bk := E.nx } (en x) M1) : dWhile c t E r M := by
  subst hr
  refine ⟨fun k r M' => ∃ x, r = en x ∧ M' = M ∧ P x ∧ k = m x, ⟨_, x0, rfl, rfl, h0, rfl⟩, ?_⟩
  rintro k r M' ⟨x, rfl, rfl, hp, rfl⟩
  refine mono x _ _ (fun b M1 h => ?_) (step x hp)
  cases b with
  | false => exact h
  | true =>
    rw [if_pos rfl] at h ⊢
    exact monoT x M1 _ _ (fun r' M2 ⟨y, e1, e2, e3, e4⟩ => ⟨m y, e4, y, e1, e2, e3, rfl⟩) h
/-- the same, the measure told apart -/
theorem dwhile_of {c : DTT} {t : DTS} {E : DEnds} {r : Env} {M : Mem} (W : Nat → Env → Mem → Prop) (n : Nat) (h0 : W n r M)
    (step : ∀ n r M, W n r M → c r M fun b M1 => if b = true then t { E with nx := fun r' M' => ∃ m', m' < n ∧ W m' r' M', ct := fun r' M' => ∃ m', m' < n ∧ W m' r' M', bk := E.nx } r M1 else E.nx r M1) : dWhile c t E r M := ⟨W, ⟨n, h0⟩, step⟩

/-! ### comparing plain data -/
theorem cmpd_int {i : Int} : cmpd (.int i) = some (.int i) := rfl
theorem cmpd_bl {b : Bool} : cmpd (.bl b) = some (.bool b) := rfl
theorem cmpd_non : cmpd .non = some .none := rfl
theorem gEq_int {i j : Int} {M : Mem} {Q : DQ} : gEq (.int i) (.int j) M Q = Q (.bl (i == j)) M := rfl
theorem gNe_int {i j : Int} {M : Mem} {Q : DQ} : gNe (.int i) (.int j) M Q = Q (.bl (!(i == j))) M := rfl
theorem gEq_bl {i j : Bool} {M : Mem} {Q : DQ} : gEq (.bl i) (.bl j) M Q = Q (.bl (i == j)) M := rfl
theorem gNe_bl {i j : Bool} {M : Mem} {Q : DQ} : gNe (.bl i) (.bl j) M Q = Q (.bl (!(i == j))) M := rfl
theorem gNe_nil {M : Mem} {Q : DQ} : gNe (.lst []) (.lst []) M Q = Q (.bl false) M := rfl

/-! ### the end of a def -/
theorem rtq {M : Mem} {Q : DQ} {d : D} (q : Q d M) (hb : below M.length d = true := by rfl) : Rtq M Q d M := ⟨M, [], (List.append_nil M).symm, Nat.le_refl _, hb, fun _ _ h => .inl h, q⟩
theorem rtqG {M G : Mem} {Q : DQ} {d : D} (q : Q d M) (hb : below M.length d = true := by rfl) : Rtq M Q d (M ++ G) := ⟨M, G, rfl, Nat.le_refl _, hb, fun _ _ h => .inl h, q⟩
/-- new cells stay, others were changed: all of them plain -/
theorem rtqC {M M1 : Mem} {Q : DQ} {d : D} (q : Q d M1) (hl : M.length ≤ M1.length) (hb : below M1.length d = true) (hc : ∀ (i : Nat) (c : Own), M1[i]? = some c → M[i]? = some c ∨ belowO M1.length c = true) : Rtq M Q d M1 := ⟨M1, [], (List.append_nil _).symm, hl, hb, hc, q⟩
end DL
namespace DL
open PySem PySem.Spec PyProof.Rows L2
/-! ### comprehensions -/
theorem lcW_pure {ds : List D} {C : Mem → Prop} {g : DTG} {tt : DTT} {te : DTE} {r : Env} {M : Mem} {Q : DQ} (f : D → Option D) (hC : C M) (hl : ds.length ≤ sizeLine)
    (step : ∀ d ∈ ds, ∀ (Y : D → Mem → Prop) (N : Mem → Prop), (match f d with | some e => Y e M | none => N M) → g d r M fun r2 M2 => tt r2 M2 fun b M3 => if b = true then te r2 M3 Y else N M3)
    (q : Q (.lst (ds.filterMap f)) M) : lcW false ds C g tt te r M Q := by
  refine ⟨fun i acc M' => M' = M ∧ acc = (ds.take i).filterMap f ∧ i ≤ ds.length, ⟨rfl, rfl, Nat.zero_le _⟩, ?_⟩
  rintro i acc M' ⟨rfl, rfl, hi⟩
  refine ⟨hC, fun hd => ?_, fun d ed => ?_⟩
  · rw [if_neg Bool.false_ne_true]
    rw [List.take_of_length_le hd]; exact q
  · have hlt : i < ds.length := (List.getElem?_eq_some_iff.mp ed).1
    have ht : ds.take (i + 1) = ds.take i ++ [d] := by rw [List.take_add_one, ed]; rfl
    refine step d (List.mem_of_getElem? ed) _ _ ?_
    split
    · rename_i e he
      refine ⟨?_, rfl, ?_, hlt⟩
      · have h1 : ((ds.take i).filterMap f).length ≤ (ds.take i).length := List.length_filterMap_le _ _
        have h2 : (ds.take i).length ≤ i := by rw [List.length_take]; omega
        omega
      · rw [ht, List.filterMap_append]
        simp [he]
    · rename_i he
      refine ⟨rfl, ?_, hlt⟩
      rw [ht, List.filterMap_append]
      simp [he]
/-! ### data that may be compared -/
mutual
def fine (n : Nat) : D → Bool
  | .non => true
  | .bl _ => true
  | .int _ => true
  | .str x => PyData.strOk x
  | .tup l => match n with
    | 0 => false
    | n + 1 => fineAll n l
  | .lst l => match n with
    | 0 => false
    | n + 1 => fineAll n l
  | _ => false
def fineAll (n : Nat) : List D → Bool
  | [] => true
  | d :: ds => fine n d && fineAll n ds
end
mutual
theorem fine_py : ∀ (n : Nat) (d : D), fine n d = true → ∃ p, toPy d = some p ∧ p.canLay0 = true ∧ p.depth ≤ n
  | n, .non, _ => ⟨.none, rfl, by simp only [PyData.canLay0], by simp only [PyData.depth]; omega⟩
  | n, .bl b, _ => ⟨.bool b, rfl, by simp only [PyData.canLay0], by simp only [PyData.depth]; omega⟩
  | n, .int i, _ => ⟨.int i, rfl, by simp only [PyData.canLay0], by simp only [PyData.depth]; omega⟩
  | n, .str x, h => ⟨.str x, rfl, by simpa only [PyData.canLay0, fine] using h, by simp only [PyData.depth]; omega⟩
  | 0, .tup l, h => by simp [fine] at h
  | n + 1, .tup l, h => by
    obtain ⟨ps, h1, h2, h3, _⟩ := fine_pyAll n l (by simpa only [fine] using h)
    exact ⟨.tuple ps, by simp only [toPy, h1], by simpa only [PyData.canLay0] using h2, by simp only [PyData.depth]; omega⟩
  | 0, .lst l, h => by simp [fine] at h
  | n + 1, .lst l, h => by
    obtain ⟨ps, h1, h2, h3, _⟩ := fine_pyAll n l (by simpa only [fine] using h)
    exact ⟨.list ps, by simp only [toPy, h1], by simpa only [PyData.canLay0] using h2, by simp only [PyData.depth]; omega⟩
  | n, .dct0, h => by simp [fine] at h
  | n, .scr _, h => by simp [fine] at h
  | n, .own _, h => by simp [fine] at h
  | n, .exc _ _, h => by simp [fine] at h
  | n, .val _, h => by simp [fine] at h
theorem fine_pyAll : ∀ (n : Nat) (ds : List D), fineAll n ds = true → ∃ ps, toPyAll ds = some ps ∧ PyData.canLayAll0 ps = true ∧ PyData.depthAll ps ≤ n ∧ ps.length = ds.length
  | n, [], _ => ⟨[], rfl, by simp only [PyData.canLayAll0], by simp only [PyData.depthAll]; omega, rfl⟩
  | n, d :: ds, h => by
    have h' : fine n d = true ∧ fineAll n ds = true := by simpa only [fineAll, Bool.and_eq_true] using h
    obtain ⟨p, a1, a2, a3⟩ := fine_py n d h'.1
    obtain ⟨ps, b1, b2, b3, b4⟩ := fine_pyAll n ds h'.2
    exact ⟨p :: ps, by simp only [toPyAll, a1, b1], by simp only [PyData.canLayAll0, a2, b2, Bool.and_self], by simp only [PyData.depthAll]; omega, by rw [List.length_cons, List.length_cons, b4]⟩
end
theorem cmpd_fine {n : Nat} {d : D} (h : fine n d = true) (hn : n ≤ 64 := by decide) : ∃ p, toPy d = some p ∧ cmpd d = some p := by
  obtain ⟨p, h1, h2, h3⟩ := fine_py n d h
  refine ⟨p, h1, ?_⟩
  unfold cmpd
  rw [h1]
  have : SeqAt.shaped p = true := by unfold SeqAt.shaped; rw [h2]; simp; omega
  simp only [this, if_true]
theorem fineAll_iff {n : Nat} : ∀ {l : List D}, fineAll n l = true ↔ ∀ d ∈ l, fine n d = true
  | [] => by simp [fineAll]
  | d :: l => by simp only [fineAll, Bool.and_eq_true, List.mem_cons, forall_eq_or_imp, fineAll_iff (l := l)]
theorem res_fine {n : Nat} {d : D} {M : Mem} (h : fine n d = true) : res M d = d := by
  cases d <;> first | rfl | (simp [fine] at h)
theorem eqv_self {n : Nat} {d : D} {p : PyData} (h : fine n d = true) (hp : toPy d = some p) : PyData.eqv p p = true := by
  obtain ⟨p', h1, h2, _⟩ := fine_py n d h
  rw [hp] at h1; cases h1
  exact SeqAt.eqv_refl p h2
theorem eqB_self {n : Nat} {d : D} (h : fine n d = true) (hn : n ≤ 64 := by decide) : eqB d d = some true := by
  obtain ⟨p, h1, h2⟩ := cmpd_fine h hn
  unfold eqB
  split
  · simp_all
  · rw [h2]
    show some (PyData.eqv p p) = _
    rw [eqv_self h h1]
/-- the same data compared -/
theorem gNe_same {n : Nat} {d : D} {M : Mem} {Q : DQ} (h : fine n d = true) (q : Q (.bl false) M) (hn : n ≤ 64 := by decide) : gNe d d M Q := by
  unfold gNe
  rw [res_fine h, eqB_self h hn]
  exact q
theorem gEq_same {n : Nat} {d : D} {M : Mem} {Q : DQ} (h : fine n d = true) (q : Q (.bl true) M) (hn : n ≤ 64 := by decide) : gEq d d M Q := by
  unfold gEq
  rw [res_fine h, eqB_self h hn]
  exact q
theorem eqB_nil {n : Nat} {l : List D} (h : fineAll n l = true) (hn : n ≤ 60 := by decide) : eqB (.lst l) (.lst []) = some l.isEmpty := by
  have hf : fine (n + 1) (.lst l) = true := by simpa only [fine] using h
  obtain ⟨p, h1, h2⟩ := cmpd_fine hf (by omega)
  obtain ⟨ps, b1, _, _, b4⟩ := fine_pyAll n l h
  have e : p = .list ps := by simp only [toPy, b1] at h1; exact (Option.some.inj h1).symm
  subst e
  show (match cmpd (.lst l), cmpd (.lst []) with
    | some p, some q => some (PyData.eqv p q)
    | _, _ => none) = _
  rw [h2]
  show some (PyData.eqv (.list ps) (.list [])) = _
  cases l with
  | nil => cases ps with
    | nil => rfl
    | cons _ _ => simp at b4
  | cons _ _ => cases ps with
    | nil => simp at b4
    | cons _ _ => rfl
/-- a list beside the empty one -/
theorem gNe_nil' {n : Nat} {l : List D} {M : Mem} {Q : DQ} (h : fineAll n l = true) (q : Q (.bl (!l.isEmpty)) M) (hn : n ≤ 60 := by decide) : gNe (.lst l) (.lst []) M Q := by
  unfold gNe
  show match eqB (.lst l) (.lst []) with | some b => Q (.bl (!b)) M | none => False
  rw [eqB_nil h hn]
  exact q
theorem gNe_strs {a b : Str} {M : Mem} {Q : DQ} : gNe (.str a) (.str b) M Q = Q (.bl (!(a == b))) M := rfl
theorem gEq_strs {a b : Str} {M : Mem} {Q : DQ} : gEq (.str a) (.str b) M Q = Q (.bl (a == b)) M := rfl

/-! ### data that may be shown -/
mutual
def lit (B : Nat) : D → Bool
  | .int i => decide (i.natAbs.log2 < B)
  | .tup l => litAll B l
  | .lst l => litAll B l
  | _ => true
def litAll (B : Nat) : List D → Bool
  | [] => true
  | d :: ds => lit B d && litAll B ds
end
mutual
def wt (B : Nat) : D → Nat
  | .int _ => B + 1
  | .str x => x.cps.size
  | .tup l => wtAll B l
  | .lst l => wtAll B l
  | _ => 0
def wtAll (B : Nat) : List D → Nat
  | [] => 0
  | d :: ds => wt B d + 1 + wtAll B ds
end
theorem strOk_short {x : Str} (h : PyData.strOk x = true) : ∀ c ∈ x.cps.toList, c < 16 ^ 8 := by
  have h0 : x.cps.all (· < 0x110000) = true := h
  intro c hc
  have h1 := (Array.all_eq_true_iff_forall_mem.mp h0) c (Array.mem_toList_iff.mp hc)
  have h2 : c < 0x110000 := by simpa using h1
  have e : (16 : Nat) ^ 8 = 4294967296 := by decide
  omega
mutual
theorem lit_py (B : Nat) (hB : B ≤ 1919) : ∀ (n : Nat) (d : D) (p : PyData), fine n d = true → lit B d = true → toPy d = some p → p.showable = true ∧ p.leavesShort (B + 8) = true ∧ p.weight ≤ wt B d
  | n, .non, p, _, _, e => by cases e; exact ⟨by simp only [PyData.showable], by simp only [PyData.leavesShort], by simp only [PyData.weight]; omega⟩
  | n, .bl b, p, _, _, e => by cases e; exact ⟨by simp only [PyData.showable], by simp only [PyData.leavesShort], by simp only [PyData.weight]; omega⟩
  | n, .int i, p, _, h, e => by
    cases e
    have h' : i.natAbs.log2 < B := by simpa only [lit, decide_eq_true_eq] using h
    refine ⟨?_, ?_, ?_⟩
    · simp only [PyData.showable, decide_eq_true_eq]; omega
    · simp only [PyData.leavesShort, decide_eq_true_eq]
      show (Str.ofString (toString i)).length ≤ _
      rw [PySem.ofString_length]
      have := int_text_length_le (a := i) (k := B) (by omega) h'
      omega
    · simp only [PyData.weight, wt]
      split <;> omega
  | n, .str x, p, hf, _, e => by
    cases e
    refine ⟨by simp only [PyData.showable], ?_, by simp only [PyData.weight, wt]; omega⟩
    simp only [PyData.leavesShort, List.all_eq_true, decide_eq_true_eq]
    exact strOk_short (by simpa only [fine] using hf)
  | 0, .tup l, p, h, _, _ => by simp [fine] at h
  | 0, .lst l, p, h, _, _ => by simp [fine] at h
  | n + 1, .tup l, p, h, h2, e => by
    obtain ⟨ps, e1, _⟩ := fine_pyAll n l (by simpa only [fine] using h)
    have e' : p = .tuple ps := by simp only [toPy, e1] at e; exact (Option.some.inj e).symm
    subst e'
    obtain ⟨a, b, c⟩ := lit_pyAll B hB n l ps (by simpa only [fine] using h) (by simpa only [lit] using h2) e1
    exact ⟨by simpa only [PyData.showable] using a, by simpa only [PyData.leavesShort] using b, by simpa only [PyData.weight, wt] using c⟩
  | n + 1, .lst l, p, h, h2, e => by
    obtain ⟨ps, e1, _⟩ := fine_pyAll n l (by simpa only [fine] using h)
    have e' : p = .list ps := by simp only [toPy, e1] at e; exact (Option.some.inj e).symm
    subst e'
    obtain ⟨a, b, c⟩ := lit_pyAll B hB n l ps (by simpa only [fine] using h) (by simpa only [lit] using h2) e1
    exact ⟨by simpa only [PyData.showable] using a, by simpa only [PyData.leavesShort] using b, by simpa only [PyData.weight, wt] using c⟩
  | n, .dct0, _, h, _, _ => by simp [fine] at h
  | n, .scr _, _, h, _, _ => by simp [fine] at h
  | n, .own _, _, h, _, _ => by simp [fine] at h
  | n, .exc _ _, _, h, _, _ => by simp [fine] at h
  | n, .val _, _, h, _, _ => by simp [fine] at h
theorem lit_pyAll (B : Nat) (hB : B ≤ 1919) : ∀ (n : Nat) (ds : List D) (ps : List PyData), fineAll n ds = true → litAll B ds = true → toPyAll ds = some ps → PyData.showableAll ps = true ∧ PyData.leavesShortAll (B + 8) ps = true ∧ PyData.weightAll ps ≤ wtAll B ds
  | n, [], ps, _, _, e => by cases e; exact ⟨by simp only [PyData.showableAll], by simp only [PyData.leavesShortAll], by simp only [PyData.weightAll]; omega⟩
  | n, d :: ds, ps, h, h2, e => by
    have h' : fine n d = true ∧ fineAll n ds = true := by simpa only [fineAll, Bool.and_eq_true] using h
    have h2' : lit B d = true ∧ litAll B ds = true := by simpa only [litAll, Bool.and_eq_true] using h2
    obtain ⟨p, a1, _, _⟩ := fine_py n d h'.1
    obtain ⟨qs, b1, _, _, _⟩ := fine_pyAll n ds h'.2
    have e' : ps = p :: qs := by simp only [toPyAll, a1, b1] at e; exact (Option.some.inj e).symm
    subst e'
    obtain ⟨c1, c2, c3⟩ := lit_py B hB n d p h'.1 h2'.1 a1
    obtain ⟨d1, d2, d3⟩ := lit_pyAll B hB n ds qs h'.2 h2'.2 b1
    refine ⟨by simp only [PyData.showableAll, c1, d1, Bool.and_self], by simp only [PyData.leavesShortAll, c2, d2, Bool.and_self], ?_⟩
    simp only [PyData.weightAll, wtAll]; omega
end
/-- d's repr is covered: ints of B bits, at most -/
theorem shw_of (B n : Nat) {d : D} (h : fine n d = true) (hl : lit B d = true) (hw : (B + 10) * wt B d + B + 8 ≤ 16777216) (hB : B ≤ 1919 := by decide) (hn : n ≤ 64 := by decide) : ∃ z, shwn d = some z := by
  obtain ⟨p, e1, e2, e3⟩ := fine_py n d h
  obtain ⟨a, b, c⟩ := lit_py B hB n d p h hl e1
  have h1 := PyData.shown_le (B + 8) (by omega) p b
  have h2 : (B + 8 + 2) * p.weight ≤ (B + 10) * wt B d := Nat.mul_le_mul (by omega) c
  refine ⟨p.shown, ?_⟩
  unfold shwn
  rw [e1]
  dsimp only
  rw [if_pos ⟨a, by omega, by rw [sizeLine_eq]; omega, PyData.hasDict_of_canLay p e2⟩]
theorem gRepr_of (B n : Nat) {d : D} {M : Mem} {Q : DQ} (h : fine n d = true) (hl : lit B d = true) (hw : (B + 10) * wt B d + B + 8 ≤ 16777216) (q : ∀ z, shwn d = some z → Q (.str z) M) (hB : B ≤ 1919 := by decide) (hn : n ≤ 64 := by decide) : gRepr [d] M Q := by
  obtain ⟨z, e⟩ := shw_of B n h hl hw hB hn
  unfold gRepr
  dsimp only
  rw [res_fine h, e]
  exact q z e
/-! ### items by a written index -/
section
variable {α : Type}
theorem atI_of (n : Nat) {l : List α} (h : n < l.length) : atI l (n : Int) = l[n]? := by
  unfold atI ixN
  rw [if_pos (by omega), if_pos (by omega)]
  rfl
theorem atI_0 {a : α} {l : List α} : atI (a :: l) 0 = some a := atI_of 0 (by simp)
theorem atI_1 {a b : α} {l : List α} : atI (a :: b :: l) 1 = some b := atI_of 1 (by simp)
theorem atI_2 {a b c : α} {l : List α} : atI (a :: b :: c :: l) 2 = some c := atI_of 2 (by simp)
theorem atI_3 {a b c d : α} {l : List α} : atI (a :: b :: c :: d :: l) 3 = some d := atI_of 3 (by simp)
theorem atI_4 {a b c d e : α} {l : List α} : atI (a :: b :: c :: d :: e :: l) 4 = some e := atI_of 4 (by simp)
theorem atI_5 {a b c d e f : α} {l : List α} : atI (a :: b :: c :: d :: e :: f :: l) 5 = some f := atI_of 5 (by simp)
theorem ixN_30 : ixN 3 0 = some 0 := by decide
theorem ixN_31 : ixN 3 1 = some 1 := by decide
theorem ixN_32 : ixN 3 2 = some 2 := by decide
end
theorem rs_lst {M : Mem} {l : List D} : res M (.lst l) = .lst l := rfl
theorem rs_tup {M : Mem} {l : List D} : res M (.tup l) = .tup l := rfl
theorem rs_scr {M : Mem} {l : List Int} : res M (.scr l) = .scr l := rfl
theorem rs_int {M : Mem} {i : Int} : res M (.int i) = .int i := rfl
theorem intsD_map : ∀ ns : List Int, intsD (ns.map D.int) = some ns
  | [] => rfl
  | n :: ns => by rw [List.map_cons]; unfold intsD; rw [intsD_map ns]
theorem cut_map (ns : List Int) (lo hi : Option Int) : ∃ xs : List Int, cutD (ns.map D.int) lo hi = xs.map D.int := by
  unfold cutD
  rw [← List.map_drop, ← List.map_take]
  exact ⟨_, rfl⟩
end DL
/-! MA: whole roots, common divisors, sizes; plain -/
namespace DL

/-! ### a great number, by its name -/
def BIGN : Nat := 2 ^ 4000
def BIG : Int := (BIGN : Nat)
theorem bign_pos : 0 < BIGN := Nat.pow_pos (by decide)
theorem big_pos : 0 < BIG := Int.natCast_pos.mpr bign_pos
theorem bign_ge {k : Nat} (h : k ≤ 4000) : 2 ^ k ≤ BIGN := Nat.pow_le_pow_right (by decide) h
/-- a written number is below BIG -/
theorem big_ge (k : Nat) (h : k < 2 ^ 240 := by decide) : (k : Int) ≤ BIG := by
  have := bign_ge (k := 240) (by decide)
  unfold BIG
  omega
theorem log2_of {i : Int} (n : Nat) (h : i.natAbs < 2 ^ n) (h0 : 0 < n) : i.natAbs.log2 < n := by
  by_cases z : i.natAbs = 0
  · rw [z]; simpa using h0
  · exact (Nat.log2_lt z).mpr h
theorem nat_of_big {i : Int} (h1 : -BIG ≤ i) (h2 : i ≤ BIG) : i.natAbs < 2 ^ 4001 := by
  have h3 : (2 : Nat) ^ 4001 = BIGN + BIGN := by unfold BIGN; rw [Nat.pow_succ, Nat.mul_two]
  have h4 := bign_pos
  rw [h3]
  unfold BIG at h1 h2
  omega
theorem log_of_big {i : Int} (h1 : -BIG ≤ i) (h2 : i ≤ BIG) : i.natAbs.log2 < 4001 := log2_of 4001 (nat_of_big h1 h2) (by decide)

/-! ### whole roots -/
def isqN (n : Nat) : Nat :=
  if h : n = 0 then 0
  else
    let r := 2 * isqN (n / 4)
    if (r + 1) * (r + 1) ≤ n then r + 1 else r
termination_by n
decreasing_by omega
theorem isqN_spec (n : Nat) : isqN n * isqN n ≤ n ∧ n < (isqN n + 1) * (isqN n + 1) := by
  induction n using Nat.strongRecOn with
  | ind n ih =>
    unfold isqN
    split
    · rename_i h; subst h; decide
    · rename_i h
      obtain ⟨h1, h2⟩ := ih (n / 4) (by omega)
      generalize isqN (n / 4) = s at *
      have e1 : 4 * (s * s) ≤ n := by omega
      have e2 : n < 4 * ((s + 1) * (s + 1)) := by omega
      have x1 : (2 * s) * (2 * s) = 4 * (s * s) := by rw [Nat.mul_mul_mul_comm]
      have x2 : (2 * s + 1) * (2 * s + 1) = 4 * (s * s) + 4 * s + 1 := by
        rw [Nat.add_mul, Nat.mul_add, x1]; omega
      have x3 : (s + 1) * (s + 1) = s * s + 2 * s + 1 := by
        rw [Nat.add_mul, Nat.mul_add]; omega
      have x4 : (2 * s + 1 + 1) * (2 * s + 1 + 1) = 4 * (s * s) + 8 * s + 4 := by
        rw [Nat.add_mul, Nat.mul_add, Nat.add_mul, Nat.mul_add, x1]; omega
      dsimp only
      split
      · rename_i hc
        exact ⟨hc, by rw [x4]; omega⟩
      · rename_i hc
        exact ⟨by rw [x1]; omega, by omega⟩
theorem isqN_uni {n r : Nat} (h1 : r * r ≤ n) (h2 : n < (r + 1) * (r + 1)) : isqN n = r := by
  obtain ⟨g1, g2⟩ := isqN_spec n
  rcases Nat.lt_trichotomy (isqN n) r with h | h | h
  · have : (isqN n + 1) * (isqN n + 1) ≤ r * r := Nat.mul_le_mul h h
    omega
  · exact h
  · have : (r + 1) * (r + 1) ≤ isqN n * isqN n := Nat.mul_le_mul h h
    omega
/-- the greatest count whose square is at most n -/
def isq (n : Int) : Int := (isqN n.toNat : Nat)
theorem isq_nn (n : Int) : 0 ≤ isq n := Int.natCast_nonneg _
theorem isq_le {n : Int} (h : 0 ≤ n) : isq n * isq n ≤ n := by
  have := (isqN_spec n.toNat).1
  unfold isq
  rw [← Int.natCast_mul]
  omega
theorem isq_lt {n : Int} (h : 0 ≤ n) : n < (isq n + 1) * (isq n + 1) := by
  have := (isqN_spec n.toNat).2
  unfold isq
  have e : ((isqN n.toNat : Int) + 1) * ((isqN n.toNat : Int) + 1) = (((isqN n.toNat + 1) * (isqN n.toNat + 1) : Nat) : Int) := by
    rw [Int.natCast_mul]; rfl
  rw [e]
  omega
theorem isq_uni {n r : Int} (h0 : 0 ≤ r) (h1 : r * r ≤ n) (h2 : n < (r + 1) * (r + 1)) : isq n = r := by
  obtain ⟨k, rfl⟩ := Int.eq_ofNat_of_zero_le h0
  have h1' : ((k * k : Nat) : Int) ≤ n := by rw [Int.natCast_mul]; exact h1
  have h2' : n < (((k + 1) * (k + 1) : Nat) : Int) := by rw [Int.natCast_mul]; exact h2
  unfold isq
  rw [isqN_uni (n := n.toNat) (r := k) (by omega) (by omega)]
theorem sq_lt {a b : Int} (ha : 0 ≤ a) (h : a < b) : a * a < b * b := by
  have := Int.mul_lt_mul' (Int.le_of_lt h) h ha (by omega : (0:Int) < b)
  exact this
theorem sq_le {a b : Int} (ha : 0 ≤ a) (h : a ≤ b) : a * a ≤ b * b := Int.mul_le_mul h h ha (by omega)
theorem lt_of_sq {a b : Int} (hb : 0 ≤ b) (h : a * a < b * b) : a < b := by
  by_cases z : a < b
  · exact z
  · have := sq_le hb (by omega : b ≤ a)
    omega
theorem le_of_sq {a b : Int} (hb : 0 ≤ b) (h : a * a ≤ b * b) : a ≤ b := by
  by_cases z : a ≤ b
  · exact z
  · have := sq_lt hb (by omega : b < a)
    omega
theorem isq_self {r : Int} (h : 0 ≤ r) : isq (r * r) = r := isq_uni h (Int.le_refl _) (sq_lt h (by omega))
/-- self is at most n -/
theorem isq_le_self {n : Int} (h : 0 ≤ n) : isq n ≤ n := by
  by_cases z : isq n ≤ n
  · exact z
  · have h1 := isq_le h
    have h2 := isq_nn n
    have h3 : 1 * isq n ≤ isq n * isq n := Int.mul_le_mul_of_nonneg_right (by omega) h2
    omega

theorem newton_ge {n x : Int} (hn : 0 ≤ n) (hx : 0 < x) : isq n ≤ (x + n / x) / 2 := by
  have h1 := isq_le hn
  generalize isq n = s at *
  have h2 : 0 ≤ (x - s) * (x - s) := by
    rcases Int.le_total 0 (x - s) with h | h
    · exact Int.mul_nonneg h h
    · have := Int.mul_nonneg (show (0:Int) ≤ -(x - s) by omega) (show (0:Int) ≤ -(x - s) by omega)
      rwa [Int.neg_mul_neg] at this
  have h3 : (x - s) * (x - s) = x * x - 2 * (s * x) + s * s := by
    rw [Int.sub_mul, Int.mul_sub, Int.mul_sub, Int.mul_comm x s]; omega
  have h4 : (2 * s - x) * x ≤ n := by
    have e : (2 * s - x) * x = 2 * (s * x) - x * x := by rw [Int.sub_mul, Int.mul_assoc]
    omega
  have h5 : 2 * s - x ≤ n / x := (Int.le_ediv_iff_mul_le hx).mpr h4
  omega
theorem newton_end {n x : Int} (hx : 0 < x) (h : x ≤ (x + n / x) / 2) : x * x ≤ n := by
  have h1 : x ≤ n / x := by omega
  exact (Int.le_ediv_iff_mul_le hx).mp h1
theorem sq_big {n x : Int} (hn : 0 ≤ n) (hx : 0 ≤ x) (h : n < x * x) : isq n ≤ x := by
  have h1 := isq_le hn
  have := lt_of_sq hx (by omega : isq n * isq n < x * x)
  omega

/-! ### common divisors -/
theorem gcd_step {l h : Int} (hl : 0 ≤ l) (hh : 0 < h) : Int.gcd h (l.fmod h) = Int.gcd l h := by
  obtain ⟨a, rfl⟩ := Int.eq_ofNat_of_zero_le hl
  obtain ⟨b, rfl⟩ := Int.eq_ofNat_of_zero_le (Int.le_of_lt hh)
  rw [Int.fmod_eq_emod_of_nonneg _ (by omega)]
  show Nat.gcd (b : Int).natAbs ((a : Int) % (b : Int)).natAbs = Nat.gcd (a : Int).natAbs (b : Int).natAbs
  rw [← Int.natCast_emod, Int.natAbs_natCast, Int.natAbs_natCast, Int.natAbs_natCast, Nat.gcd_comm b, Nat.gcd_comm a b]
  exact (Nat.gcd_rec b a).symm
theorem gcd_end {l : Int} (hl : 0 ≤ l) : ((Int.gcd l 0 : Nat) : Int) = l := by
  rw [Int.gcd_zero_right]; omega
end DL
namespace DL
open PySem PySem.Spec PyProof.Rows L2
def t_is_whole : DTS :=
 (dRet (dAndV (dCB gIsi (dCons (dVar 0) (dCons (dC (.val (.ty "int"))) dNil))) (dNotV (dCB gIsi (dCons (dVar 0) (dCons (dC (.val (.ty "bool"))) dNil))))))
def t_is_between (c_is_whole : DSp) : DTS :=
 (dRet (dAndV (dCall 1 c_is_whole [] DX0 (dCons (dVar 0) dNil)) (dAndV (dOp (gCmpI fun i j => decide (j ≤ i)) (dVar 0) (dVar 1)) (dOrV (dOp (gIs false) (dVar 2) (dC .non)) (dOp (gCmpI fun i j => decide (i ≤ j)) (dVar 0) (dVar 2))))))
def t_check_number (c_is_whole : DSp) : DTS :=
 (dIfS (dOr (dNot (dTru (dCall 1 c_is_whole [] DX0 (dCons (dVar 0) dNil)))) (dOr (dAnd (dTru (dOp (gIs true) (dVar 1) (dC .non))) (dTru (dOp (gCmpI fun i j => decide (i < j)) (dVar 0) (dVar 1)))) (dAnd (dTru (dOp (gIs true) (dVar 2) (dC .non))) (dTru (dOp (gCmpI fun i j => decide (j < i)) (dVar 0) (dVar 2)))))) dNever dNext)
def t_is_measure_by (c_is_between : DSp) : DTS :=
 (dRet (dAndV (dCall 3 c_is_between [] DX0 (dCons (dVar 0) (dCons (dC (.int 5)) (dCons (dC .non) dNil)))) (dOp (gIn false) (dOp (rBin CMod fun i j => i.fmod j) (dVar 0) (dC (.int 4))) (dLst (dCons (dC (.int 0)) (dCons (dC (.int 1)) dNil))))))
def t_check_measure (c_is_measure_by : DSp) : DTS :=
 (dIfS (dNot (dTru (dCall 1 c_is_measure_by [] DX0 (dCons (dVar 0) dNil)))) dNever dNext)
def t_root_floor_by : DTS :=
 (dSeq (dIfS (dTru (dOp (gCmpI fun i j => decide (i < j)) (dVar 0) (dC (.int 2)))) (dRet (dVar 0)) dNext)
 (dSeq (dAsg (dC (.int 1)) (dName 1))
 (dSeq (dWhile (dTru (dOp (gCmpI fun i j => decide (i ≤ j)) (dOp (rBin CMul fun i j => i * j) (dVar 1) (dVar 1)) (dVar 0))) (dAsg (dOp (rBin CMul fun i j => i * j) (dC (.int 2)) (dVar 1)) (dName 1)))
 (dSeq (dAsg (dOp (rBin CDiv fun i j => i.fdiv j) (dOp gAdd (dVar 1) (dOp (rBin CDiv fun i j => i.fdiv j) (dVar 0) (dVar 1))) (dC (.int 2))) (dName 2))
 (dSeq (dWhile (dTru (dOp (gCmpI fun i j => decide (i < j)) (dVar 2) (dVar 1))) (dPar 1 2 (dCons (dVar 2) (dCons (dOp (rBin CDiv fun i j => i.fdiv j) (dOp gAdd (dVar 2) (dOp (rBin CDiv fun i j => i.fdiv j) (dVar 0) (dVar 2))) (dC (.int 2))) dNil))))
 (dRet (dVar 1)))))))
def t_common_by : DTS :=
 (dSeq (dPar 2 3 (dCons (dCB gAbs (dCons (dVar 0) dNil)) (dCons (dCB gAbs (dCons (dVar 1) dNil)) dNil)))
 (dSeq (dWhile (dTru (dOp gNe (dVar 3) (dC (.int 0)))) (dPar 2 3 (dCons (dVar 3) (dCons (dOp (rBin CMod fun i j => i.fmod j) (dVar 2) (dVar 3)) dNil))))
 (dRet (dVar 2))))
def t_is_root_by (c_is_whole : DSp) (c_common_by : DSp) (c_root_floor_by : DSp) : DTS :=
 (dSeq (dIfS (dOr (dNot (dTru (dCB gIsi (dCons (dVar 1) (dCons (dC (.val (.ty "tuple"))) dNil))))) (dOr (dTru (dOp gNe (dCB gLen (dCons (dVar 1) dNil)) (dC (.int 3)))) (dTru (dOp gNe (dLc false (dSeqI (dVar 1)) (dName 2) (dNot (dTru (dCall 1 c_is_whole [] DX0 (dCons (dVar 2) dNil)))) (dVar 2) [2]) (dLst dNil))))) (dRet (dC (.bl false))) dNext)
 (dSeq (dAsg (dVar 1) (dGTup 3 (dGCons (dName 3) (dGCons (dName 4) (dGCons (dName 5) dGNil)))))
 (dSeq (dIfS (dOr (dTru (dOp (gCmpI fun i j => decide (i < j)) (dVar 5) (dC (.int 1)))) (dTru (dOp gNe (dCall 2 c_common_by [] DX0 (dCons (dCall 2 c_common_by [] DX0 (dCons (dVar 3) (dCons (dVar 4) dNil))) (dCons (dVar 5) dNil))) (dC (.int 1))))) (dRet (dC (.bl false))) dNext)
 (dSeq (dAsg (dCall 1 c_root_floor_by [] DX0 (dCons (dVar 0) dNil)) (dName 6))
 (dRet (dOrV (dOp gEq (dVar 4) (dC (.int 0))) (dOp gNe (dOp (rBin CMul fun i j => i * j) (dVar 6) (dVar 6)) (dVar 0))))))))
def t_root_by (c_root_floor_by : DSp) (c_common_by : DSp) : DTS :=
 (dSeq (dAsg (dCall 1 c_root_floor_by [] DX0 (dCons (dVar 0) dNil)) (dName 4))
 (dSeq (dIfS (dTru (dOp gEq (dOp (rBin CMul fun i j => i * j) (dVar 4) (dVar 4)) (dVar 0))) (dPar 1 2 (dCons (dOp gAdd (dVar 1) (dOp (rBin CMul fun i j => i * j) (dVar 2) (dVar 4))) (dCons (dC (.int 0)) dNil))) dNext)
 (dSeq (dAsg (dCall 2 c_common_by [] DX0 (dCons (dCall 2 c_common_by [] DX0 (dCons (dVar 1) (dCons (dVar 2) dNil))) (dCons (dVar 3) dNil))) (dName 5))
 (dSeq (dIfS (dTru (dOp (gCmpI fun i j => decide (i < j)) (dVar 3) (dC (.int 0)))) (dAsg (dOp (rBin (fun _ _ => True) fun i j => i - j) (dC (.int 0)) (dVar 5)) (dName 5)) dNext)
 (dRet (dTup (dCons (dOp (rBin CDiv fun i j => i.fdiv j) (dVar 1) (dVar 5)) (dCons (dOp (rBin CDiv fun i j => i.fdiv j) (dVar 2) (dVar 5)) (dCons (dOp (rBin CDiv fun i j => i.fdiv j) (dVar 3) (dVar 5)) dNil)))))))))
def t_is_root (c_check_measure : DSp) (c_is_root_by : DSp) : DTS :=
 (dSeq (dDrop (dCall 1 c_check_measure [] DX0 (dCons (dVar 0) dNil)))
 (dRet (dCall 2 c_is_root_by [] DX0 (dCons (dVar 0) (dCons (dVar 1) dNil)))))
def t_root_number (c_check_measure : DSp) (c_check_number : DSp) (c_root_by : DSp) : DTS :=
 (dSeq (dDrop (dCall 1 c_check_measure [] DX0 (dCons (dVar 0) dNil)))
 (dSeq (dFor (dSeqI (dLst (dCons (dVar 1) (dCons (dVar 2) dNil)))) (dName 4) (dDrop (dCall 3 c_check_number [] DX0 (dCons (dVar 4) (dCons (dC .non) (dCons (dC .non) dNil))))))
 (dSeq (dDrop (dCall 3 c_check_number [] DX0 (dCons (dVar 3) (dCons (dIf (dTru (dOp gNe (dVar 3) (dC (.int 0)))) (dC .non) (dC (.int 1))) (dCons (dC .non) dNil)))))
 (dRet (dCall 4 c_root_by [] DX0 (dCons (dVar 0) (dCons (dVar 1) (dCons (dVar 2) (dCons (dVar 3) dNil)))))))))
def t_l_hash_9cde : DTS :=
 (dSeq (dAsg (dOp (rBin CMod fun i j => i.fmod j) (dCB gInt (dCons (dOp gAdd (dOp gAdd (dOp gAdd (dOp (rBin CMul fun i j => i * j) (dVar 0) (dC (.int 1048583))) (dOp (rBin CMul fun i j => i * j) (dOp (rBin CMul fun i j => i * j) (dC (.int 16777259)) (dVar 1)) (dVar 1))) (dOp (rBin CMul fun i j => i * j) (dC (.int 71)) (dVar 1))) (dC (.int 13))) dNil)) (dC (.int 2147483629))) (dName 2))
 (dSeq (dAsg (dOp (rBin CMod fun i j => i.fmod j) (dCB gInt (dCons (dOp gAdd (dOp gAdd (dOp (rBin CMul fun i j => i * j) (dVar 2) (dVar 2)) (dOp (rBin CMul fun i j => i * j) (dC (.int 40503)) (dVar 1))) (dC (.int 27644437))) dNil)) (dC (.int 2147483587))) (dName 2))
 (dRet (dOp (rBin CMod fun i j => i.fmod j) (dCB gInt (dCons (dOp (rBin CMul fun i j => i * j) (dVar 2) (dC (.int 69069))) dNil)) (dC (.int 2147483647))))))
def t_l_random_7821 (c_l_hash_9cde : DSp) : DTS :=
 (dSeq (dIfS (dTru (dOp (gCmpI fun i j => decide (j < i)) (dOp gIx (dVar 0) (dC (.int 0))) (dC (.int 0)))) (dSeq (dAsg (dOp (rBin CMod fun i j => i.fmod j) (dCB gInt (dCons (dOp gIx (dVar 0) (dC (.int 0))) dNil)) (dVar 1)) (dName 2))
 (dSeq (dAsg (dOp (rBin CDiv fun i j => i.fdiv j) (dOp gIx (dVar 0) (dC (.int 0))) (dVar 1)) (dSub (dVar 0) (dC (.int 0))))
 (dRet (dVar 2)))) dNext)
 (dSeq (dAsg (dC (.int 0)) (dName 2))
 (dSeq (dFor (dRngI gRng1 (dCons (dOp gAdd (dC (.int 1)) (dOp (rBin CDiv fun i j => i.fdiv j) (dBits (dVar 1)) (dC (.int 30)))) dNil)) (dName 3) (dSeq (dAsg (dOp gAdd (dOp gIx (dVar 0) (dC (.int 2))) (dC (.int 1))) (dSub (dVar 0) (dC (.int 2))))
 (dAsg (dOp gAdd (dOp (rBin CMul fun i j => i * j) (dVar 2) (dC (.int 2147483587))) (dCall 2 c_l_hash_9cde [] DX0 (dCons (dOp gIx (dVar 0) (dC (.int 1))) (dCons (dOp gIx (dVar 0) (dC (.int 2))) dNil)))) (dName 2))))
 (dRet (dOp (rBin CMod fun i j => i.fmod j) (dCB gInt (dCons (dVar 2) dNil)) (dVar 1))))))
def t_l_cell_cf3b : DTS :=
 (dSeq (dIfS (dTru (dOp (gCmpI fun i j => decide (i < j)) (dVar 1) (dCB gLen (dCons (dVar 0) dNil)))) (dRet (dOp gIx (dVar 0) (dVar 1))) dNext)
 (dRet (dOp (rBin CMod fun i j => i.fmod j) (dCB gSum (dCons (dSl (gSlL false) (dVar 0) dNoPart (dPart (dC (.int 1)))) dNil)) (dC (.int 1000003)))))
def t_l_generator_b324 (c_l_cell_cf3b : DSp) : DTS :=
 (dSeq (dAsg (dCall 2 c_l_cell_cf3b [] DX0 (dCons (dVar 0) (dCons (dVar 1) dNil))) (dName 2))
 (dRet (dOwn (dCons (dOp (rBin CMod fun i j => i.fmod j) (dCB gInt (dCons (dCB gMax (dCons (dOp (rBin (fun _ _ => True) fun i j => i - j) (dVar 2) (dOp (rBin CPow fun i j => i ^ j.toNat) (dC (.int 10)) (dC (.int 18)))) (dCons (dC (.int 0)) dNil))) dNil)) (dOp (rBin CPow fun i j => i ^ j.toNat) (dOp (rBin CPow fun i j => i ^ j.toNat) (dC (.int 10)) (dC (.int 60))) (dC (.int 10)))) (dCons (dOp (rBin CMod fun i j => i.fmod j) (dCB gInt (dCons (dVar 2) dNil)) (dC (.int 2147483647))) (dCons (dOp (rBin CMul fun i j => i * j) (dC (.int 1000)) (dVar 1)) dNil))))))
def t_l_common_6be5 : DTS :=
 (dSeq (dPar 2 3 (dCons (dCB gAbs (dCons (dVar 0) dNil)) (dCons (dCB gAbs (dCons (dVar 1) dNil)) dNil)))
 (dSeq (dWhile (dTru (dOp gNe (dVar 3) (dC (.int 0)))) (dPar 2 3 (dCons (dVar 3) (dCons (dOp (rBin CMod fun i j => i.fmod j) (dCB gInt (dCons (dVar 2) dNil)) (dVar 3)) dNil))))
 (dRet (dVar 2))))
def t_l_root_d754 : DTS :=
 (dSeq (dAsg (dTup (dCons (dC (.int 0)) (dCons (dC (.int 1)) dNil))) (dGTup 2 (dGCons (dName 1) (dGCons (dName 2) dGNil))))
 (dSeq (dWhile (dTru (dOp (gCmpI fun i j => decide (i ≤ j)) (dOp (rBin CMul fun i j => i * j) (dVar 2) (dVar 2)) (dVar 0))) (dAsg (dOp (rBin CMul fun i j => i * j) (dC (.int 2)) (dVar 2)) (dName 2)))
 (dSeq (dWhile (dTru (dOp (gCmpI fun i j => decide (j < i)) (dOp (rBin (fun _ _ => True) fun i j => i - j) (dVar 2) (dVar 1)) (dC (.int 1)))) (dSeq (dAsg (dOp (rBin CDiv fun i j => i.fdiv j) (dOp gAdd (dVar 1) (dVar 2)) (dC (.int 2))) (dName 3))
 (dAsg (dIf (dTru (dOp (gCmpI fun i j => decide (i ≤ j)) (dOp (rBin CMul fun i j => i * j) (dVar 3) (dVar 3)) (dVar 0))) (dTup (dCons (dVar 3) (dCons (dVar 2) dNil))) (dTup (dCons (dVar 1) (dCons (dVar 3) dNil)))) (dGTup 2 (dGCons (dName 1) (dGCons (dName 2) dGNil))))))
 (dRet (dVar 1)))))
def t_l_measure_0db7 (c_l_random_7821 : DSp) (c_l_root_d754 : DSp) : DTS :=
 (dSeq (dAsg (dC (.int 5)) (dName 2))
 (dSeq (dFor (dRngI gRng1 (dCons (dOp gAdd (dC (.int 1)) (dCall 2 c_l_random_7821 [] DX0 (dCons (dVar 0) (dCons (dVar 1) dNil)))) dNil)) (dName 3) (dAsg (dOp (rBin CMul fun i j => i * j) (dC (.int 10)) (dVar 2)) (dName 2)))
 (dSeq (dAsg (dOp gAdd (dC (.int 5)) (dCall 2 c_l_random_7821 [] DX0 (dCons (dVar 0) (dCons (dVar 2) dNil)))) (dName 4))
 (dSeq (dIfS (dTru (dOp gEq (dCall 2 c_l_random_7821 [] DX0 (dCons (dVar 0) (dCons (dC (.int 6)) dNil))) (dC (.int 0)))) (dAsg (dOp (rBin CMul fun i j => i * j) (dCall 1 c_l_root_d754 [] DX0 (dCons (dVar 4) dNil)) (dCall 1 c_l_root_d754 [] DX0 (dCons (dVar 4) dNil))) (dName 4)) dNext)
 (dSeq (dAsg (dOp gAdd (dOp (rBin (fun _ _ => True) fun i j => i - j) (dVar 4) (dOp (rBin CMod fun i j => i.fmod j) (dCB gInt (dCons (dVar 4) dNil)) (dC (.int 4)))) (dCall 2 c_l_random_7821 [] DX0 (dCons (dVar 0) (dCons (dC (.int 2)) dNil)))) (dName 5))
 (dRet (dIf (dTru (dOp (gCmpI fun i j => decide (j < i)) (dVar 5) (dC (.int 4)))) (dVar 5) (dC (.int 5)))))))))
def t_l_least_9529 (c_l_root_d754 : DSp) (c_l_common_6be5 : DSp) : DTS :=
 (dSeq (dAsg (dCall 1 c_l_root_d754 [] DX0 (dCons (dVar 0) dNil)) (dName 4))
 (dSeq (dIfS (dTru (dOp gEq (dOp (rBin CMul fun i j => i * j) (dVar 4) (dVar 4)) (dVar 0))) (dPar 1 2 (dCons (dOp gAdd (dVar 1) (dOp (rBin CMul fun i j => i * j) (dVar 2) (dVar 4))) (dCons (dC (.int 0)) dNil))) dNext)
 (dSeq (dAsg (dCall 2 c_l_common_6be5 [] DX0 (dCons (dCall 2 c_l_common_6be5 [] DX0 (dCons (dVar 1) (dCons (dVar 2) dNil))) (dCons (dVar 3) dNil))) (dName 5))
 (dSeq (dIfS (dTru (dOp (gCmpI fun i j => decide (i < j)) (dVar 3) (dC (.int 0)))) (dAsg (dOp (rBin (fun _ _ => True) fun i j => i - j) (dC (.int 0)) (dVar 5)) (dName 5)) dNext)
 (dRet (dTup (dCons (dOp (rBin CDiv fun i j => i.fdiv j) (dVar 1) (dVar 5)) (dCons (dOp (rBin CDiv fun i j => i.fdiv j) (dVar 2) (dVar 5)) (dCons (dOp (rBin CDiv fun i j => i.fdiv j) (dVar 3) (dVar 5)) dNil)))))))))
def t_l_is_root_1604 (c_l_root_d754 : DSp) (c_l_common_6be5 : DSp) : DTS :=
 (dSeq (dIfS (dOr (dNot (dTru (dCB gIsi (dCons (dVar 1) (dCons (dC (.val (.ty "tuple"))) dNil))))) (dTru (dOp gNe (dCB gLen (dCons (dVar 1) dNil)) (dC (.int 3))))) (dRet (dC (.bl false))) dNext)
 (dSeq (dIfS (dOr (dTru (dOp gNe (dLc false (dSeqI (dVar 1)) (dName 2) (dOr (dTru (dCB gIsi (dCons (dVar 2) (dCons (dC (.val (.ty "bool"))) dNil)))) (dNot (dTru (dCB gIsi (dCons (dVar 2) (dCons (dC (.val (.ty "int"))) dNil)))))) (dVar 2) [2]) (dLst dNil))) (dTru (dOp (gCmpI fun i j => decide (i < j)) (dOp gIx (dVar 1) (dC (.int 2))) (dC (.int 1))))) (dRet (dC (.bl false))) dNext)
 (dSeq (dAsg (dCall 1 c_l_root_d754 [] DX0 (dCons (dVar 0) dNil)) (dName 3))
 (dRet (dAndV (dOp gEq (dCall 2 c_l_common_6be5 [] DX0 (dCons (dCall 2 c_l_common_6be5 [] DX0 (dCons (dOp gIx (dVar 1) (dC (.int 0))) (dCons (dOp gIx (dVar 1) (dC (.int 1))) dNil))) (dCons (dOp gIx (dVar 1) (dC (.int 2))) dNil))) (dC (.int 1))) (dOrV (dOp gEq (dOp gIx (dVar 1) (dC (.int 1))) (dC (.int 0))) (dOp gNe (dOp (rBin CMul fun i j => i * j) (dVar 3) (dVar 3)) (dVar 0))))))))
def t_l_right_b88c (c_l_measure_0db7 : DSp) (c_l_random_7821 : DSp) (c_l_least_9529 : DSp) (c_root_number : DSp) (c_is_root : DSp) (c_l_is_root_1604 : DSp) : DTS :=
 (dSeq (dAsg (dCall 2 c_l_measure_0db7 [] DX0 (dCons (dVar 0) (dCons (dC (.int 28)) dNil))) (dName 1))
 (dSeq (dFor (dRngI gRng1 (dCons (dC (.int 4)) dNil)) (dName 2) (dSeq (dAsg (dOp gIx (dLst (dCons (dC (.int 4)) (dCons (dC (.int 100)) (dCons (dOp (rBin CPow fun i j => i ^ j.toNat) (dC (.int 10)) (dC (.int 20))) dNil)))) (dCall 2 c_l_random_7821 [] DX0 (dCons (dVar 0) (dCons (dC (.int 3)) dNil)))) (dName 3))
 (dSeq (dAsg (dLc false (dRngI gRng1 (dCons (dC (.int 3)) dNil)) (dName 7) dYes (dOp (rBin (fun _ _ => True) fun i j => i - j) (dCall 2 c_l_random_7821 [] DX0 (dCons (dVar 0) (dCons (dOp gAdd (dOp (rBin CMul fun i j => i * j) (dC (.int 2)) (dVar 3)) (dC (.int 1))) dNil))) (dVar 3)) [7]) (dGTup 3 (dGCons (dName 4) (dGCons (dName 5) (dGCons (dName 6) dGNil)))))
 (dSeq (dAsg (dIf (dTru (dOp gNe (dVar 6) (dC (.int 0)))) (dVar 6) (dC (.int 1))) (dName 6))
 (dSeq (dPar 8 9 (dCons (dCall 4 c_l_least_9529 [] DX0 (dCons (dVar 1) (dCons (dVar 4) (dCons (dVar 5) (dCons (dVar 6) dNil))))) (dCons (dOp gIx (dLst (dCons (dC (.int 1)) (dCons (dNeg (dC (.int 1))) (dCons (dC (.int 2)) (dCons (dNeg (dC (.int 6))) (dCons (dC (.int 35)) dNil)))))) (dCall 2 c_l_random_7821 [] DX0 (dCons (dVar 0) (dCons (dC (.int 5)) dNil)))) dNil)))
 (dSeq (dAsg (dCall 4 c_root_number [] DX0 (dCons (dVar 1) (dCons (dVar 4) (dCons (dVar 5) (dCons (dVar 6) dNil))))) (dName 10))
 (dSeq (dIfS (dOr (dTru (dOp gNe (dCB gRepr (dCons (dVar 10) dNil)) (dCB gRepr (dCons (dVar 8) dNil)))) (dOr (dTru (dOp gNe (dCall 4 c_root_number [] DX0 (dCons (dVar 1) (dCons (dOp (rBin CMul fun i j => i * j) (dVar 9) (dVar 4)) (dCons (dOp (rBin CMul fun i j => i * j) (dVar 9) (dVar 5)) (dCons (dOp (rBin CMul fun i j => i * j) (dVar 9) (dVar 6)) dNil))))) (dVar 8))) (dTru (dOp gNe (dCallK 4 4 c_root_number [3, 1, 0, 2] DX0 (dCons (dVar 5) (dCons (dVar 4) (dCons (dVar 6) (dCons (dVar 1) dNil))))) (dVar 8))))) (dRet (dC (.bl false))) dNext)
 (dSeq (dAsg (dLst (dCons (dVar 8) (dCons (dTup (dCons (dVar 4) (dCons (dVar 5) (dCons (dVar 6) dNil)))) (dCons (dCB (gList false) (dCons (dVar 8) dNil)) (dCons (dSl gSlT (dVar 8) dNoPart (dPart (dC (.int 2)))) (dCons (dOp gAdd (dVar 8) (dTup (dCons (dC (.int 1)) dNil))) (dCons (dTup (dCons (dOp gIx (dVar 8) (dC (.int 0))) (dCons (dOp gIx (dVar 8) (dC (.int 1))) (dCons (dOp (rBin (fun _ _ => True) fun i j => i - j) (dC (.int 0)) (dOp gIx (dVar 8) (dC (.int 2)))) dNil)))) (dCons (dTup (dCons (dOp (rBin CMul fun i j => i * j) (dC (.int 2)) (dOp gIx (dVar 8) (dC (.int 0)))) (dCons (dOp (rBin CMul fun i j => i * j) (dC (.int 2)) (dOp gIx (dVar 8) (dC (.int 1)))) (dCons (dOp (rBin CMul fun i j => i * j) (dC (.int 2)) (dOp gIx (dVar 8) (dC (.int 2)))) dNil)))) (dCons (dTup (dCons (dOp gIx (dVar 8) (dC (.int 0))) (dCons (dOp gIx (dVar 8) (dC (.int 1))) (dCons (dC (.int 0)) dNil)))) (dCons (dTup (dCons (dOp gIx (dVar 8) (dC (.int 0))) (dCons (dC (.int 0)) (dCons (dC (.int 1)) dNil)))) (dCons (dTup (dCons (dC (.bl true)) (dCons (dOp gIx (dVar 8) (dC (.int 1))) (dCons (dC (.int 1)) dNil)))) dNil))))))))))) (dName 11))
 (dSeq (dAsg (dOp gAdd (dVar 11) (dLst (dCons (dTup (dCons (dOp gIx (dVar 8) (dC (.int 0))) (dCons (dOp gIx (dVar 8) (dC (.int 1))) (dCons (dC (.bl true)) dNil)))) (dCons (dTup (dCons (dOp gIx (dVar 8) (dC (.int 0))) (dCons (dC .non) (dCons (dC (.int 1)) dNil)))) (dCons (dTup (dCons (dC (.str (PySem.Str.ofString "1"))) (dCons (dC (.int 0)) (dCons (dC (.int 1)) dNil)))) (dCons (dTup (dCons (dLst (dCons (dC (.int 1)) dNil)) (dCons (dC (.int 0)) (dCons (dC (.int 1)) dNil)))) (dCons (dTup (dCons (dC (.int 0)) (dCons (dC (.int 1)) (dCons (dC (.int 1)) dNil)))) (dCons (dTup (dCons (dC (.int 0)) (dCons (dC (.int 0)) (dCons (dC (.int 1)) dNil)))) (dCons (dTup (dCons (dC (.int 0)) (dCons (dC (.int 0)) (dCons (dC (.int 2)) dNil)))) dNil))))))))) (dName 11))
 (dFor (dSeqI (dVar 11)) (dName 12) (dSeq (dAsg (dCB gRepr (dCons (dVar 12) dNil)) (dName 13))
 (dIfS (dOr (dTru (dOp gNe (dCB gRepr (dCons (dCall 2 c_is_root [] DX0 (dCons (dVar 1) (dCons (dVar 12) dNil))) dNil)) (dCB gRepr (dCons (dCall 2 c_l_is_root_1604 [] DX0 (dCons (dVar 1) (dCons (dVar 12) dNil))) dNil)))) (dOr (dTru (dOp gNe (dCallK 2 2 c_is_root [1, 0] DX0 (dCons (dVar 12) (dCons (dVar 1) dNil))) (dCall 2 c_is_root [] DX0 (dCons (dVar 1) (dCons (dVar 12) dNil))))) (dTru (dOp gNe (dCB gRepr (dCons (dVar 12) dNil)) (dVar 13))))) (dRet (dC (.bl false))) dNext))))))))))))
 (dRet (dC (.bl true)))))
def t_l_law_c576 (c_l_right_b88c : DSp) (c_l_generator_b324 : DSp) (c_is_root : DSp) (c_root_number : DSp) : DTS :=
 (dSeq (dIfS (dNot (dTru (dCall 1 c_l_right_b88c [] DX0 (dCons (dCall 2 c_l_generator_b324 [] DX0 (dCons (dVar 0) (dCons (dC (.int 0)) dNil))) dNil)))) (dRet (dC (.bl false))) dNext)
 (dSeq (dIfS (dTru (dOp gNe (dLc false (dSeqI (dLst (dCons (dC .non) (dCons (dC (.int 0)) (dCons (dC (.str (PySem.Str.ofString "x"))) (dCons (dLst dNil) (dCons (dTup dNil) (dCons (dC .dct0) (dCons (dC (.bl true)) dNil))))))))) (dName 1) (dTru (dOp (gIs true) (dCall 2 c_is_root [] DX0 (dCons (dC (.int 5)) (dCons (dVar 1) dNil))) (dC (.bl false)))) (dVar 1) [1]) (dLst dNil))) (dRet (dC (.bl false))) dNext)
 (dRet (dAndV (dOp gEq (dCall 4 c_root_number [] DX0 (dCons (dC (.int 5)) (dCons (dC (.int 2)) (dCons (dC (.int 2)) (dCons (dC (.int 4)) dNil))))) (dTup (dCons (dC (.int 1)) (dCons (dC (.int 1)) (dCons (dC (.int 2)) dNil))))) (dAndV (dOp gEq (dCall 4 c_root_number [] DX0 (dCons (dC (.int 9)) (dCons (dC (.int 1)) (dCons (dC (.int 1)) (dCons (dNeg (dC (.int 2))) dNil))))) (dTup (dCons (dNeg (dC (.int 2))) (dCons (dC (.int 0)) (dCons (dC (.int 1)) dNil))))) (dOp gEq (dCall 4 c_root_number [] DX0 (dCons (dC (.int 8)) (dCons (dC (.int 0)) (dCons (dC (.int 0)) (dCons (dC (.int 7)) dNil))))) (dTup (dCons (dC (.int 0)) (dCons (dC (.int 0)) (dCons (dC (.int 1)) dNil))))))))))
end DL
namespace DL
open PySem PySem.Spec PyProof.Rows L2
theorem gIn_two {i a b : Int} {M : Mem} {Q : DQ} : gIn false (.int i) (.lst [.int a, .int b]) M Q = Q (.bl (i == a || i == b)) M := by
  show Q (.bl ((a == i || (b == i || false)) != false)) M = _
  have e : ((a == i || (b == i || false)) != false) = (i == a || i == b) := by
    rw [Bool.bne_false, Bool.or_false, Bool.beq_comm (a := a), Bool.beq_comm (a := b)]
  rw [e]
theorem gRepr_bl {b : Bool} {M : Mem} {Q : DQ} : gRepr [.bl b] M Q = Q (.str (PyData.shown (.bool b))) M := by
  cases b <;> rfl
local macro_rules | `(tactic| walk_at "rd") => `(tactic| simp only [startD, List.map, List.replicate, List.length_cons, List.length_nil, List.append_eq, List.append_nil, List.nil_append, List.cons_append, Nat.reduceSub, Nat.reduceAdd, List.getElem?_cons_zero, List.getElem?_cons_succ, List.set_cons_zero, List.set_cons_succ,
  dC, dVar, dOp, dTru, gTru, tru, dChain, dAnd, dOr, dNot, dAndV, dOrV, dNotV, dIf, dNeg, gNeg, dNil, dCons, dTup, dLst, dOwn, gIx, rBin, gAdd, gCmpI, dCall, dCallK, dSeq, dNext, dDrop, dRet, dRetN, dIfS, dName, dGNil, dGCons, dGTup, dSub, gSetL, dAsg, dPar, dPar3, dAug, gIpI, dSeqI, gSeqI, dRngI, gRng1, gRng2, dCB, gAbs, gInt, gMax, gMin, gGcd, gLen, lenD, gIsi, tyM, tyD, dBits, gBits, dMet, gAppend, dPart, dNoPart, dSl, dEnds, gIs, isB, dNever, dFor, dLc, wipeD, dYes,
  sizeLine_eq, Nat.reduceLeDiff, gEq_int, gNe_int, gEq_strs, gNe_strs, gIn_two, gRepr_bl, rs_lst, rs_tup, rs_scr, rs_int, atI_0, atI_1, atI_2, atI_3, atI_4, atI_5, ixN_30, ixN_31, ixN_32, gEq_bl, gNe_bl, decide_eq_true_eq, beq_iff_eq, Bool.not_eq_true', beq_eq_false_iff_ne, decide_eq_false_iff_not, Bool.not_true, Bool.not_false, if_true, if_false, Bool.false_eq_true, ite_true, ite_false, true_and, and_true, ne_eq, Bool.bne_false, Bool.bne_true, reduceCtorEq])
/-! ### sizes -/
theorem sm_big {i : Int} (h1 : -BIG ≤ i) (h2 : i ≤ BIG) : Sm i := by
  have := log_of_big h1 h2
  unfold Sm; omega
theorem sm_big8 {i : Int} (h1 : -(8 * BIG) ≤ i) (h2 : i ≤ 8 * BIG) : Sm i := by
  refine Sm.of 4004 ?_ (by decide)
  have h3 : (2 : Nat) ^ 4004 = 16 * BIGN := by unfold BIGN; rw [Nat.pow_add 2 4000 4, Nat.mul_comm]
  have h4 := bign_pos
  rw [h3]
  unfold BIG at h1 h2
  omega
theorem cdiv_big {a i : Int} (h0 : i ≠ 0) (h1 : -(8 * BIG) ≤ i) (h2 : i ≤ 8 * BIG) : CDiv a i := by
  refine ⟨h0, Nat.lt_of_lt_of_le (log2_of 4004 ?_ (by decide)) (by decide)⟩
  have h3 : (2 : Nat) ^ 4004 = 16 * BIGN := by unfold BIGN; rw [Nat.pow_add 2 4000 4, Nat.mul_comm]
  have h4 := bign_pos
  rw [h3]
  unfold BIG at h1 h2
  omega
theorem fdiv_pos {a b : Int} (h : 0 < b) : a.fdiv b = a / b := Int.fdiv_eq_ediv_of_nonneg a (Int.le_of_lt h)
theorem fmod_pos {a b : Int} (h : 0 < b) : a.fmod b = a % b := Int.fmod_eq_emod_of_nonneg a (Int.le_of_lt h)

/-! ### kinds -/
theorem kb_NoneType_int : kitB "NoneType" "int" = some false := by decide +kernel
theorem kb_bool_int : kitB "bool" "int" = some true := by decide +kernel
theorem kb_int_int : kitB "int" "int" = some true := by decide +kernel
theorem kb_str_int : kitB "str" "int" = some false := by decide +kernel
theorem kb_tuple_int : kitB "tuple" "int" = some false := by decide +kernel
theorem kb_list_int : kitB "list" "int" = some false := by decide +kernel
theorem kb_dict_int : kitB "dict" "int" = some false := by decide +kernel
theorem kb_NoneType_bool : kitB "NoneType" "bool" = some false := by decide +kernel
theorem kb_bool_bool : kitB "bool" "bool" = some true := by decide +kernel
theorem kb_int_bool : kitB "int" "bool" = some false := by decide +kernel
theorem kb_str_bool : kitB "str" "bool" = some false := by decide +kernel
theorem kb_tuple_bool : kitB "tuple" "bool" = some false := by decide +kernel
theorem kb_list_bool : kitB "list" "bool" = some false := by decide +kernel
theorem kb_dict_bool : kitB "dict" "bool" = some false := by decide +kernel
theorem kb_NoneType_tuple : kitB "NoneType" "tuple" = some false := by decide +kernel
theorem kb_bool_tuple : kitB "bool" "tuple" = some false := by decide +kernel
theorem kb_int_tuple : kitB "int" "tuple" = some false := by decide +kernel
theorem kb_str_tuple : kitB "str" "tuple" = some false := by decide +kernel
theorem kb_tuple_tuple : kitB "tuple" "tuple" = some true := by decide +kernel
theorem kb_list_tuple : kitB "list" "tuple" = some false := by decide +kernel
theorem kb_dict_tuple : kitB "dict" "tuple" = some false := by decide +kernel
theorem kb_NoneType_list : kitB "NoneType" "list" = some false := by decide +kernel
theorem kb_bool_list : kitB "bool" "list" = some false := by decide +kernel
theorem kb_int_list : kitB "int" "list" = some false := by decide +kernel
theorem kb_str_list : kitB "str" "list" = some false := by decide +kernel
theorem kb_tuple_list : kitB "tuple" "list" = some false := by decide +kernel
theorem kb_list_list : kitB "list" "list" = some true := by decide +kernel
theorem kb_dict_list : kitB "dict" "list" = some false := by decide +kernel
local macro_rules | `(tactic| walk_at "kb") => `(tactic| simp only [kb_NoneType_list, kb_bool_list, kb_int_list, kb_str_list, kb_tuple_list, kb_list_list, kb_dict_list, kb_NoneType_int, kb_bool_int, kb_int_int, kb_str_int, kb_tuple_int, kb_list_int, kb_dict_int, kb_NoneType_bool, kb_bool_bool, kb_int_bool, kb_str_bool, kb_tuple_bool, kb_list_bool, kb_dict_bool, kb_NoneType_tuple, kb_bool_tuple, kb_int_tuple, kb_str_tuple, kb_tuple_tuple, kb_list_tuple, kb_dict_tuple, if_true, if_false, Bool.false_eq_true, ite_true, ite_false, Bool.not_true, Bool.not_false])
/-! ### measures -/
def isW : D → Bool
  | .int _ => true
  | _ => false
/-- is_whole(d), d any data -/
def sp_is_whole : DSp := fun ds M Q _ => ∃ d T, ds = [d] ∧ tyM M d = some T ∧ Q (.bl (isW d)) M
theorem rd_is_whole : ∀ ds M Q, ds.length = 1 → sp_is_whole ds M Q DX0 → t_is_whole (dEnds M Q) (startD 1 ds) M := by
  rintro _ M Q _ ⟨d, T, rfl, ht, q⟩
  unfold t_is_whole
  cases d <;> first | (cases ht; done) | skip
  all_goals walk_at "rd"
  case own k =>
    unfold tyM at ht
    dsimp only at ht
    split at ht
    · rename_i ds hk
      simp only [hk]
      walk_at "kb"
      exact rtq q
    · cases ht
  all_goals walk_at "kb"
  all_goals exact rtq q
/-- the common divisor of two ints -/
def sp_gcd : DSp := fun ds M Q _ => ∃ a b : Int, ds = [.int a, .int b] ∧ Q (.int (Int.gcd a b)) M
theorem gcd_abs (a b : Int) : Int.gcd (if a < 0 then -a else a) (if b < 0 then -b else b) = Int.gcd a b := by
  split <;> split <;> simp
theorem rd_common_by : ∀ ds M Q, ds.length = 2 → sp_gcd ds M Q DX0 → t_common_by (dEnds M Q) (startD 4 ds) M := by
  rintro _ M Q _ ⟨a, b, rfl, q⟩
  unfold t_common_by
  walk_at "rd"
  refine dwhile_of (fun n r M' => ∃ l h : Int, r = [some (.int a), some (.int b), some (.int l), some (.int h)] ∧ M' = M ∧ 0 ≤ l ∧ 0 ≤ h ∧ Int.gcd l h = Int.gcd a b ∧ n = h.toNat) _ ⟨_, _, rfl, rfl, ?_, ?_, gcd_abs a b, rfl⟩ ?_
  · split <;> omega
  · split <;> omega
  · rintro n r M' ⟨l, h, rfl, rfl, hl, hh, hg, rfl⟩
    walk_at "rd"
    split
    · rename_i h0
      have hp : 0 < h := by omega
      refine ⟨h0, _, ?_, h, l.fmod h, rfl, hh, ?_, (gcd_step hl hp).trans hg, rfl⟩
      · rw [fmod_pos hp]
        have := Int.emod_lt_of_pos l hp
        have := Int.emod_nonneg l h0
        omega
      · rw [fmod_pos hp]; exact Int.emod_nonneg l h0
    · rename_i h0
      have h0 : h = 0 := by omega
      subst h0
      rw [← hg, gcd_end hl] at q
      exact rtq q
/-- the whole root of a count -/
def sp_isq : DSp := fun ds M Q _ => ∃ n : Int, ds = [.int n] ∧ 0 ≤ n ∧ n ≤ BIG ∧ Q (.int (isq n)) M
theorem rd_root_floor_by : ∀ ds M Q, ds.length = 1 → sp_isq ds M Q DX0 → t_root_floor_by (dEnds M Q) (startD 3 ds) M := by
  rintro _ M Q _ ⟨n, rfl, h0, hB, q⟩
  unfold t_root_floor_by
  walk_at "rd"
  split
  · rename_i h2
    have : isq n = n := by
      rcases (by omega : n = 0 ∨ n = 1) with e | e <;> subst e
      · exact isq_self (r := 0) (by decide)
      · exact isq_self (r := 1) (by decide)
    rw [this] at q
    exact rtq q
  · rename_i h2
    refine dwhile_of (fun m r M' => ∃ f : Int, r = [some (.int n), some (.int f), none] ∧ M' = M ∧ 1 ≤ f ∧ f ≤ 2 * n ∧ m = (2 * n + 2 - f).toNat) _ ⟨1, rfl, rfl, by omega, by omega, rfl⟩ ?_
    rintro m r M' ⟨f, rfl, rfl, hf, hf2, rfl⟩
    walk_at "rd"
    have sf : Sm f := sm_big8 (by omega) (by omega)
    refine ⟨⟨sf, sf⟩, ?_⟩
    split
    · rename_i hc
      refine ⟨⟨Sm.of 4 (by decide), sf⟩, _, ?_, 2 * f, rfl, by omega, ?_, rfl⟩
      · have : f * 1 ≤ f * f := Int.mul_le_mul_of_nonneg_left hf (by omega)
        omega
      · have : f * 1 ≤ f * f := Int.mul_le_mul_of_nonneg_left hf (by omega)
        omega
    · rename_i hc
      have dv : ∀ x : Int, 1 ≤ x → x ≤ 2 * n → CDiv n x := fun x h1 h3 => cdiv_big (by omega) (by omega) (by omega)
      have d2 : ∀ x : Int, CDiv x 2 := fun x => ⟨by decide, by decide⟩
      refine ⟨dv f hf hf2, d2 _, ?_⟩
      refine dwhile_of (fun m r M'' => ∃ x : Int, r = [some (.int n), some (.int x), some (.int ((x + n.fdiv x).fdiv 2))] ∧ M'' = M' ∧ 1 ≤ x ∧ x ≤ 2 * n ∧ isq n ≤ x ∧ m = x.toNat) _ ⟨f, rfl, rfl, hf, hf2, sq_big h0 (by omega) (by omega), rfl⟩ ?_
      rintro m r M'' ⟨x, rfl, rfl, hx, hx2, hs, rfl⟩
      walk_at "rd"
      have e1 : n.fdiv x = n / x := fdiv_pos (by omega)
      have e2 : ∀ y : Int, y.fdiv 2 = y / 2 := fun y => fdiv_pos (by decide)
      rw [e2, e1]
      have ng := newton_ge h0 (x := x) (by omega)
      have h1q : 1 ≤ isq n := by
        by_cases z : 1 ≤ isq n
        · exact z
        · have e : isq n = 0 := by have := isq_nn n; omega
          have := isq_lt h0
          rw [e] at this
          omega
      split
      · rename_i hlt
        refine ⟨dv _ (by omega) (by omega), d2 _, _, ?_, (x + n / x) / 2, ?_, by omega, by omega, ng, rfl⟩
        · omega
        · rw [e2]
      · rename_i hge
        have e : isq n = x := isq_uni (by omega) (newton_end (by omega) (by omega)) (by
          have h3 := isq_lt h0
          have : (isq n + 1) * (isq n + 1) ≤ (x + 1) * (x + 1) := sq_le (by omega) (by omega)
          omega)
        rw [e] at q
        exact rtq q
end DL
namespace DL
open PySem PySem.Spec PyProof.Rows L2
local macro_rules | `(tactic| walk_at "rd") => `(tactic| simp only [startD, List.map, List.replicate, List.length_cons, List.length_nil, List.append_eq, List.append_nil, List.nil_append, List.cons_append, Nat.reduceSub, Nat.reduceAdd, List.getElem?_cons_zero, List.getElem?_cons_succ, List.set_cons_zero, List.set_cons_succ,
  dC, dVar, dOp, dTru, gTru, tru, dChain, dAnd, dOr, dNot, dAndV, dOrV, dNotV, dIf, dNeg, gNeg, dNil, dCons, dTup, dLst, dOwn, gIx, rBin, gAdd, gCmpI, dCall, dCallK, dSeq, dNext, dDrop, dRet, dRetN, dIfS, dName, dGNil, dGCons, dGTup, dSub, gSetL, dAsg, dPar, dPar3, dAug, gIpI, dSeqI, gSeqI, dRngI, gRng1, gRng2, dCB, gAbs, gInt, gMax, gMin, gGcd, gLen, lenD, gIsi, tyM, tyD, dBits, gBits, dMet, gAppend, dPart, dNoPart, dSl, dEnds, gIs, isB, dNever, dFor, dLc, wipeD, dYes,
  sizeLine_eq, Nat.reduceLeDiff, gEq_int, gNe_int, gEq_strs, gNe_strs, gIn_two, gRepr_bl, rs_lst, rs_tup, rs_scr, rs_int, atI_0, atI_1, atI_2, atI_3, atI_4, atI_5, ixN_30, ixN_31, ixN_32, gEq_bl, gNe_bl, decide_eq_true_eq, beq_iff_eq, Bool.not_eq_true', beq_eq_false_iff_ne, decide_eq_false_iff_not, Bool.not_true, Bool.not_false, if_true, if_false, Bool.false_eq_true, ite_true, ite_false, true_and, and_true, ne_eq, Bool.bne_false, Bool.bne_true, reduceCtorEq])
local macro_rules | `(tactic| walk_at "kb") => `(tactic| simp only [kb_NoneType_list, kb_bool_list, kb_int_list, kb_str_list, kb_tuple_list, kb_list_list, kb_dict_list, kb_NoneType_int, kb_bool_int, kb_int_int, kb_str_int, kb_tuple_int, kb_list_int, kb_dict_int, kb_NoneType_bool, kb_bool_bool, kb_int_bool, kb_str_bool, kb_tuple_bool, kb_list_bool, kb_dict_bool, kb_NoneType_tuple, kb_bool_tuple, kb_int_tuple, kb_str_tuple, kb_tuple_tuple, kb_list_tuple, kb_dict_tuple, if_true, if_false, Bool.false_eq_true, ite_true, ite_false, Bool.not_true, Bool.not_false])
/-! ### bounds and measures -/
def btw (d : D) (lo : Int) (hi : D) : Bool := match d with
  | .int i => decide (lo ≤ i) && (match hi with | .int h => decide (i ≤ h) | _ => true)
  | _ => false
def sp_is_between : DSp := fun ds M Q _ => ∃ d lo hi T, ds = [d, .int lo, hi] ∧ tyM M d = some T ∧ (hi = .non ∨ ∃ h, hi = .int h) ∧ Q (.bl (btw d lo hi)) M
theorem isW_iff {d : D} : isW d = true ↔ ∃ i, d = .int i := by cases d <;> simp [isW]
theorem rd_is_between : ∀ ds M Q, ds.length = 3 → sp_is_between ds M Q DX0 → t_is_between sp_is_whole (dEnds M Q) (startD 3 ds) M := by
  rintro _ M Q - ⟨d, lo, hi, T, rfl, ht, hh, q⟩
  unfold t_is_between
  walk_at "rd"
  refine ⟨d, T, rfl, ht, ?_⟩
  cases d <;> first | (simp only [isW, Bool.false_eq_true, if_false]; exact rtq q) | skip
  simp only [isW, if_true]
  by_cases h1 : lo ≤ (‹Int› : Int)
  · simp only [h1, if_true]
    rcases hh with rfl | ⟨h, rfl⟩
    · walk_at "rd"
      simp only [btw, h1, decide_true, Bool.and_true] at q
      exact rtq q
    · walk_at "rd"
      simp only [btw, h1, decide_true, Bool.true_and] at q
      exact rtq q
  · simp only [h1, if_false]
    simp only [btw, h1, decide_false, Bool.false_and] at q
    exact rtq q
def isMeas (d : D) : Bool := match d with
  | .int i => decide (5 ≤ i) && (i % 4 == 0 || i % 4 == 1)
  | _ => false
def sp_is_measure : DSp := fun ds M Q _ => ∃ d T, ds = [d] ∧ tyM M d = some T ∧ Q (.bl (isMeas d)) M
theorem rd_is_measure_by : ∀ ds M Q, ds.length = 1 → sp_is_measure ds M Q DX0 → t_is_measure_by sp_is_between (dEnds M Q) (startD 1 ds) M := by
  rintro _ M Q - ⟨d, T, rfl, ht, q⟩
  unfold t_is_measure_by
  walk_at "rd"
  refine ⟨d, 5, .non, T, rfl, ht, .inl rfl, ?_⟩
  cases d <;> first | (simp only [btw, Bool.false_eq_true, if_false]; exact rtq q) | skip
  rename_i i
  simp only [btw, Bool.and_true, decide_eq_true_eq]
  by_cases h1 : 5 ≤ i
  · simp only [h1, if_true]
    refine ⟨(by decide : (4 : Int) ≠ 0), ?_⟩
    simp only [isMeas, h1, decide_true, Bool.true_and] at q
    rw [fmod_pos (by decide)]
    exact rtq q
  · simp only [h1, if_false]
    simp only [isMeas, h1, decide_false, Bool.false_and] at q
    exact rtq q
/-- check_measure of a measure -/
def sp_check_measure : DSp := fun ds M Q _ => ∃ i, ds = [.int i] ∧ isMeas (.int i) = true ∧ Q .non M
theorem rd_check_measure : ∀ ds M Q, ds.length = 1 → sp_check_measure ds M Q DX0 → t_check_measure sp_is_measure (dEnds M Q) (startD 1 ds) M := by
  rintro _ M Q - ⟨i, rfl, h, q⟩
  unfold t_check_measure
  walk_at "rd"
  refine ⟨.int i, _, rfl, rfl, ?_⟩
  rw [h]
  walk_at "rd"
  exact rtq q
/-- check_number of a number that passes -/
def sp_check_number : DSp := fun ds M Q _ => ∃ i lo hi, ds = [.int i, lo, hi] ∧ (lo = .non ∨ ∃ l, lo = .int l ∧ l ≤ i) ∧ (hi = .non ∨ ∃ l, hi = .int l ∧ i ≤ l) ∧ Q .non M
theorem rd_check_number : ∀ ds M Q, ds.length = 3 → sp_check_number ds M Q DX0 → t_check_number sp_is_whole (dEnds M Q) (startD 3 ds) M := by
  rintro _ M Q - ⟨i, lo, hi, rfl, h1, h2, q⟩
  unfold t_check_number
  walk_at "rd"
  refine ⟨.int i, _, rfl, rfl, ?_⟩
  rcases h1 with rfl | ⟨l, rfl, h1⟩ <;> rcases h2 with rfl | ⟨l', rfl, h2⟩
  all_goals (simp only [isW]; walk_at "rd")
  all_goals try simp only [Int.not_lt.mpr h1, if_false]
  all_goals try simp only [Int.not_lt.mpr h2, if_false]
  all_goals exact rtq q

/-! ### root numbers -/
/-- what is_root says -/
def isRootD (m : Int) (d : D) : Bool := match d with
  | .tup [.int x, .int y, .int b] => decide (1 ≤ b) && ((Int.gcd (Int.gcd x y) b : Int) == 1 && (y == 0 || !(isq m * isq m == m)))
  | _ => false
/-- a value that is_root may be asked: no tuple, a tuple of another length, a tuple of three plain data -/
def Rootable (M : Mem) (d : D) : Prop := (∃ T, tyM M d = some T) ∧ (∀ l, d = .tup l → l.length = 3 → ∀ e ∈ l, (fine 40 e = true ∧ ∃ T, tyM M e = some T))
def sp_is_root_by : DSp := fun ds M Q _ => ∃ m d, ds = [.int m, d] ∧ 0 ≤ m ∧ m ≤ BIG ∧ Rootable M d ∧ Q (.bl (isRootD m d)) M
theorem isRootD_notup {m : Int} {d : D} (h : ∀ l, d ≠ .tup l) : isRootD m d = false := by
  cases d <;> first | rfl | exact absurd rfl (h _)
theorem isRootD_len {m : Int} {l : List D} (h : l.length ≠ 3) : isRootD m (.tup l) = false := by
  unfold isRootD
  split
  · rename_i e; cases e; exact absurd rfl h
  · rfl
theorem isRootD_bad {m : Int} {l : List D} (h : ∃ e ∈ l, isW e = false) : isRootD m (.tup l) = false := by
  unfold isRootD
  split
  · rename_i e
    cases e
    obtain ⟨e, he, hw⟩ := h
    simp only [List.mem_cons, List.not_mem_nil, or_false] at he
    rcases he with rfl | rfl | rfl <;> cases hw
  · rfl
theorem len3 {l : List D} (h : l.length = 3) : ∃ a b c, l = [a, b, c] := by
  match l, h with
  | [a, b, c], _ => exact ⟨a, b, c, rfl⟩
/-- the items that are no whole numbers -/
def bads (l : List D) : List D := l.filterMap fun e => if isW e = true then none else some e
theorem bads_fine {n : Nat} {l : List D} (h : ∀ e ∈ l, fine n e = true) : fineAll n (bads l) = true := by
  rw [fineAll_iff]
  intro d hd
  obtain ⟨e, he, hs⟩ := List.mem_filterMap.mp hd
  split at hs
  · cases hs
  · cases hs; exact h _ he
theorem bads_nil {l : List D} (h : (bads l).isEmpty = true) : ∀ e ∈ l, isW e = true := by
  intro e he
  have h0 : bads l = [] := List.isEmpty_iff.mp h
  by_cases hw : isW e = true
  · exact hw
  · have : e ∈ bads l := List.mem_filterMap.mpr ⟨e, he, by rw [if_neg hw]⟩
    rw [h0] at this; cases this
theorem bads_some {l : List D} (h : (bads l).isEmpty = false) : ∃ e ∈ l, isW e = false := by
  cases hb : bads l with
  | nil => rw [hb] at h; cases h
  | cons x xs =>
    have : x ∈ bads l := by rw [hb]; exact List.mem_cons_self
    obtain ⟨e, he, hs⟩ := List.mem_filterMap.mp this
    refine ⟨e, he, ?_⟩
    split at hs
    · cases hs
    · rename_i hw; exact Bool.eq_false_iff.mpr hw
theorem rd_is_root_by : ∀ ds M Q, ds.length = 2 → sp_is_root_by ds M Q DX0 → t_is_root_by sp_is_whole sp_gcd sp_isq (dEnds M Q) (startD 7 ds) M := by
  rintro _ M Q - ⟨m, d, rfl, h0, hB, ⟨⟨T, ht⟩, hr⟩, q⟩
  unfold t_is_root_by
  walk_at "rd"
  by_cases htup : ∃ l, d = .tup l
  · obtain ⟨l, rfl⟩ := htup
    walk_at "rd"
    walk_at "kb"
    by_cases h3 : l.length = 3
    · obtain ⟨a, b, c, rfl⟩ := len3 h3
      have hr' := hr _ rfl rfl
      walk_at "rd"
      rw [if_neg (by decide)]
      refine lcW_pure (fun e => if isW e = true then none else some e) trivial (by rw [sizeLine_eq]; exact (by decide : (3 : Nat) ≤ 16777216)) (fun d hd Y N hy => ?_) ?_
      · walk_at "rd"
        obtain ⟨_, T', hT⟩ := hr' d hd
        refine ⟨d, T', rfl, hT, ?_⟩
        by_cases hw : isW d = true
        · simp only [hw, if_true] at hy ⊢
          exact hy
        · rw [Bool.not_eq_true] at hw
          simp only [hw, Bool.false_eq_true, if_false, Bool.not_false, if_true] at hy ⊢
          exact hy
      · refine gNe_nil' (n := 40) (bads_fine fun e he => (hr' e he).1) ?_
        show if (!(bads [a, b, c]).isEmpty) = true then _ else _
        cases hb : (bads [a, b, c]).isEmpty with
        | false =>
          rw [if_pos (by decide)]
          rw [isRootD_bad (bads_some hb)] at q
          exact rtq q
        | true =>
          rw [if_neg (by decide)]
          have hw := bads_nil hb
          obtain ⟨x, rfl⟩ := isW_iff.mp (hw a (by simp))
          obtain ⟨y, rfl⟩ := isW_iff.mp (hw b (by simp))
          obtain ⟨z, rfl⟩ := isW_iff.mp (hw c (by simp))
          walk_at "rd"
          simp only [isRootD] at q
          by_cases hz : z < 1
          · rw [if_pos hz]
            have : ¬ 1 ≤ z := by omega
            simp only [this, decide_false, Bool.false_and] at q
            exact rtq q
          · rw [if_neg hz]
            have hz' : 1 ≤ z := by omega
            refine ⟨x, y, rfl, _, z, rfl, ?_⟩
            simp only [hz', decide_true, Bool.true_and] at q
            walk_at "rd"
            by_cases hg : (Int.gcd (Int.gcd x y : Int) z : Int) = 1
            · simp only [hg, not_true, if_false]
              have hs : Sm (isq m) := sm_big (by have := isq_nn m; omega) (Int.le_trans (isq_le_self h0) hB)
              refine ⟨m, rfl, h0, hB, ?_⟩
              simp only [hg, BEq.rfl, Bool.true_and] at q
              by_cases hy : y = 0
              · simp only [hy, if_true]
                simp only [hy, BEq.rfl, Bool.true_or] at q
                exact rtq q
              · have hy' : (y == 0) = false := by simpa using hy
                simp only [hy, if_false]
                simp only [hy', Bool.false_or] at q
                exact ⟨⟨hs, hs⟩, rtq q⟩
            · simp only [hg, not_false_eq_true, if_true]
              have hg' : ((Int.gcd (Int.gcd x y : Int) z : Int) == 1) = false := by simpa using hg
              simp only [hg', Bool.false_and] at q
              exact rtq q
    · have h3' : ¬ ((l.length : Nat) : Int) = 3 := by omega
      simp only [h3', not_false_eq_true, if_true]
      rw [isRootD_len h3] at q
      exact rtq q
  · have q' : Q (.bl false) M := by rwa [isRootD_notup fun l e => htup ⟨l, e⟩] at q
    cases d <;> first | exact absurd ⟨_, rfl⟩ htup | (cases ht; done) | skip
    all_goals walk_at "rd"
    case own k =>
      unfold tyM at ht
      dsimp only at ht
      split at ht
      · rename_i ds hk
        simp only [hk]
        walk_at "kb"
        exact rtq q'
      · cases ht
    all_goals walk_at "kb"
    all_goals exact rtq q'
/-! ### the least form of a root number -/
def isSq (m : Int) : Prop := isq m * isq m = m
instance (m : Int) : Decidable (isSq m) := inferInstanceAs (Decidable (_ = _))
def rnX (m x y : Int) : Int := if isSq m then x + y * isq m else x
def rnY (m y : Int) : Int := if isSq m then 0 else y
def rnC (m x y b : Int) : Int := if b < 0 then 0 - (Int.gcd (Int.gcd (rnX m x y) (rnY m y) : Int) b : Int) else (Int.gcd (Int.gcd (rnX m x y) (rnY m y) : Int) b : Int)
def rootN (m x y b : Int) : D := .tup [.int ((rnX m x y).fdiv (rnC m x y b)), .int ((rnY m y).fdiv (rnC m x y b)), .int (b.fdiv (rnC m x y b))]
def sp_root_by : DSp := fun ds M Q _ => ∃ m x y b : Int, ds = [.int m, .int x, .int y, .int b] ∧ 0 ≤ m ∧ m ≤ BIG ∧ -BIG ≤ y ∧ y ≤ BIG ∧ -BIG ≤ b ∧ b ≤ BIG ∧ b ≠ 0 ∧ Q (rootN m x y b) M
theorem gcd_bound {g b : Int} (hb : b ≠ 0) : (1 : Int) ≤ Int.gcd g b ∧ (Int.gcd g b : Int) ≤ b.natAbs := by
  have h1 : 0 < Int.gcd g b := Int.gcd_pos_of_ne_zero_right g hb
  have h2 : Int.gcd g b ≤ b.natAbs := Nat.le_of_dvd (by omega) (Int.gcd_dvd_natAbs_right g b)
  omega
theorem rnC_ok {m x y b : Int} (hb : b ≠ 0) (h1 : -BIG ≤ b) (h2 : b ≤ BIG) (a : Int) : CDiv a (rnC m x y b) := by
  have := gcd_bound (g := (Int.gcd (rnX m x y) (rnY m y) : Int)) hb
  unfold rnC
  split <;> exact cdiv_big (by omega) (by omega) (by omega)
theorem rd_root_by : ∀ ds M Q, ds.length = 4 → sp_root_by ds M Q DX0 → t_root_by sp_isq sp_gcd (dEnds M Q) (startD 6 ds) M := by
  rintro _ M Q - ⟨m, x, y, b, rfl, h0, hB, y1, y2, b1, b2, hb, q⟩
  unfold t_root_by
  walk_at "rd"
  have hs : Sm (isq m) := sm_big (by have := isq_nn m; omega) (Int.le_trans (isq_le_self h0) hB)
  have hy : Sm y := sm_big y1 y2
  have cd := fun a => rnC_ok (m := m) (x := x) (y := y) hb b1 b2 a
  unfold rootN at q
  refine ⟨m, rfl, h0, hB, ⟨hs, hs⟩, ?_⟩
  by_cases hm : isSq m
  · rw [if_pos (show isq m * isq m = m from hm)]
    refine ⟨⟨hy, hs⟩, ?_⟩
    have ex : rnX m x y = x + y * isq m := if_pos hm
    have ey : rnY m y = 0 := if_pos hm
    refine ⟨_, _, rfl, _, _, rfl, ?_⟩
    rw [ex, ey] at q
    dsimp only
    by_cases h : b < 0
    · have ec : rnC m x y b = 0 - (Int.gcd (Int.gcd (x + y * isq m) 0 : Int) b : Int) := by unfold rnC; rw [if_pos h, ex, ey]
      rw [if_pos h, ← ec]
      exact ⟨cd _, cd _, cd _, rtq q⟩
    · have ec : rnC m x y b = (Int.gcd (Int.gcd (x + y * isq m) 0 : Int) b : Int) := by unfold rnC; rw [if_neg h, ex, ey]
      rw [if_neg h, ← ec]
      exact ⟨cd _, cd _, cd _, rtq q⟩
  · rw [if_neg (show ¬ isq m * isq m = m from hm)]
    have ex : rnX m x y = x := if_neg hm
    have ey : rnY m y = y := if_neg hm
    refine ⟨_, _, rfl, _, _, rfl, ?_⟩
    dsimp only
    by_cases h : b < 0
    · have ec : rnC m x y b = 0 - (Int.gcd (Int.gcd x y : Int) b : Int) := by unfold rnC; rw [if_pos h, ex, ey]
      rw [if_pos h, ← ec]
      rw [ex, ey] at q
      exact ⟨cd _, cd _, cd _, rtq q⟩
    · have ec : rnC m x y b = (Int.gcd (Int.gcd x y : Int) b : Int) := by unfold rnC; rw [if_neg h, ex, ey]
      rw [if_neg h, ← ec]
      rw [ex, ey] at q
      exact ⟨cd _, cd _, cd _, rtq q⟩
def sp_is_root : DSp := fun ds M Q _ => ∃ m d, ds = [.int m, d] ∧ isMeas (.int m) = true ∧ m ≤ BIG ∧ Rootable M d ∧ Q (.bl (isRootD m d)) M
theorem meas_ge {m : Int} (h : isMeas (.int m) = true) : 5 ≤ m := by
  simp only [isMeas, Bool.and_eq_true, decide_eq_true_eq] at h
  exact h.1
theorem rd_is_root : ∀ ds M Q, ds.length = 2 → sp_is_root ds M Q DX0 → t_is_root sp_check_measure sp_is_root_by (dEnds M Q) (startD 2 ds) M := by
  rintro _ M Q - ⟨m, d, rfl, hm, hB, hr, q⟩
  unfold t_is_root
  walk_at "rd"
  exact ⟨m, rfl, hm, m, d, rfl, by have := meas_ge hm; omega, hB, hr, rtq q⟩
def sp_root_number : DSp := fun ds M Q _ => ∃ m x y b : Int, ds = [.int m, .int x, .int y, .int b] ∧ isMeas (.int m) = true ∧ m ≤ BIG ∧ -BIG ≤ y ∧ y ≤ BIG ∧ -BIG ≤ b ∧ b ≤ BIG ∧ b ≠ 0 ∧ Q (rootN m x y b) M
theorem rd_root_number : ∀ ds M Q, ds.length = 4 → sp_root_number ds M Q DX0 → t_root_number sp_check_measure sp_check_number sp_root_by (dEnds M Q) (startD 5 ds) M := by
  rintro _ M Q - ⟨m, x, y, b, rfl, hm, hB, y1, y2, b1, b2, hb, q⟩
  unfold t_root_number
  walk_at "rd"
  refine ⟨m, rfl, hm, ?_⟩
  refine ⟨fun i r M' => M' = M ∧ ∃ n, r = [some (.int m), some (.int x), some (.int y), some (.int b), n], ⟨rfl, none, rfl⟩, ?_⟩
  rintro i r M' ⟨rfl, n, rfl⟩
  refine ⟨trivial, fun _ => ?_, fun d hd => ?_⟩
  · walk_at "rd"
    rw [if_pos hb]
    refine ⟨b, _, _, rfl, .inl rfl, .inl rfl, ?_⟩
    exact ⟨m, x, y, b, rfl, by have := meas_ge hm; omega, hB, y1, y2, b1, b2, hb, rtq q⟩
  · walk_at "rd"
    have : ∃ j, d = .int j := by
      have := List.mem_of_getElem? hd
      simp only [List.mem_cons, List.not_mem_nil, or_false] at this
      rcases this with rfl | rfl <;> exact ⟨_, rfl⟩
    obtain ⟨j, rfl⟩ := this
    exact ⟨j, _, _, rfl, .inl rfl, .inl rfl, rfl, _, rfl⟩
end DL
namespace DL
open PySem PySem.Spec PyProof.Rows L2
local macro_rules | `(tactic| walk_at "rd") => `(tactic| simp only [startD, List.map, List.replicate, List.length_cons, List.length_nil, List.append_eq, List.append_nil, List.nil_append, List.cons_append, Nat.reduceSub, Nat.reduceAdd, List.getElem?_cons_zero, List.getElem?_cons_succ, List.set_cons_zero, List.set_cons_succ,
  dC, dVar, dOp, dTru, gTru, tru, dChain, dAnd, dOr, dNot, dAndV, dOrV, dNotV, dIf, dNeg, gNeg, dNil, dCons, dTup, dLst, dOwn, gIx, rBin, gAdd, gCmpI, dCall, dCallK, dSeq, dNext, dDrop, dRet, dRetN, dIfS, dName, dGNil, dGCons, dGTup, dSub, gSetL, dAsg, dPar, dPar3, dAug, gIpI, dSeqI, gSeqI, dRngI, gRng1, gRng2, dCB, gAbs, gInt, gMax, gMin, gGcd, gLen, lenD, gIsi, tyM, tyD, dBits, gBits, dMet, gAppend, dPart, dNoPart, dSl, dEnds, gIs, isB, dNever, dFor, dLc, wipeD, dYes,
  sizeLine_eq, Nat.reduceLeDiff, gEq_int, gNe_int, gEq_strs, gNe_strs, gIn_two, gRepr_bl, rs_lst, rs_tup, rs_scr, rs_int, atI_0, atI_1, atI_2, atI_3, atI_4, atI_5, ixN_30, ixN_31, ixN_32, gEq_bl, gNe_bl, decide_eq_true_eq, beq_iff_eq, Bool.not_eq_true', beq_eq_false_iff_ne, decide_eq_false_iff_not, Bool.not_true, Bool.not_false, if_true, if_false, Bool.false_eq_true, ite_true, ite_false, true_and, and_true, ne_eq, Bool.bne_false, Bool.bne_true, reduceCtorEq])
local macro_rules | `(tactic| walk_at "kb") => `(tactic| simp only [kb_NoneType_list, kb_bool_list, kb_int_list, kb_str_list, kb_tuple_list, kb_list_list, kb_dict_list, kb_NoneType_int, kb_bool_int, kb_int_int, kb_str_int, kb_tuple_int, kb_list_int, kb_dict_int, kb_NoneType_bool, kb_bool_bool, kb_int_bool, kb_str_bool, kb_tuple_bool, kb_list_bool, kb_dict_bool, kb_NoneType_tuple, kb_bool_tuple, kb_int_tuple, kb_str_tuple, kb_tuple_tuple, kb_list_tuple, kb_dict_tuple, if_true, if_false, Bool.false_eq_true, ite_true, ite_false, Bool.not_true, Bool.not_false])
/-! ### the law's own draws -/
theorem sm_of {i : Int} (n : Nat) (h1 : -(2 ^ n : Int) < i) (h2 : i < 2 ^ n) (hn : n ≤ 400000 := by decide) : Sm i := by
  refine Sm.of n ?_ hn
  have e : ((2 ^ n : Nat) : Int) = (2 : Int) ^ n := by rw [Int.natCast_pow]; rfl
  omega
theorem fm_range {a b : Int} (h : 0 < b) : 0 ≤ a.fmod b ∧ a.fmod b < b := by
  rw [fmod_pos h]
  exact ⟨Int.emod_nonneg _ (by omega), Int.emod_lt_of_pos _ h⟩
def P31 : Int := 2147483648
def P40 : Int := 1099511627776
def sp_hash : DSp := fun ds M Q _ => ∃ s c : Int, ds = [.int s, .int c] ∧ 0 ≤ s ∧ s < P31 ∧ 0 ≤ c ∧ c ≤ P40 ∧ ∀ v, 0 ≤ v → v < P31 → Q (.int v) M
theorem mul_lt_pow {a b : Int} {m n : Nat} (a0 : 0 ≤ a) (ha : a < 2 ^ m) (b0 : 0 ≤ b) (hb : b < 2 ^ n) : 0 ≤ a * b ∧ a * b < 2 ^ (m + n) := by
  refine ⟨Int.mul_nonneg a0 b0, ?_⟩
  rw [Int.pow_add]
  exact Int.mul_lt_mul' (Int.le_of_lt ha) hb b0 (Int.pow_pos (by decide))
theorem rd_l_hash_9cde : ∀ ds M Q, ds.length = 2 → sp_hash ds M Q DX0 → t_l_hash_9cde (dEnds M Q) (startD 3 ds) M := by
  rintro _ M Q - ⟨s, c, rfl, s0, s1, c0, c1, q⟩
  unfold P31 P40 at *
  unfold t_l_hash_9cde
  walk_at "rd"
  have ss : Sm s := sm_of 32 (by omega) (by omega)
  have sc : Sm c := sm_of 42 (by omega) (by omega)
  have hm : ∀ a : Int, 0 ≤ a.fmod 2147483629 ∧ a.fmod 2147483629 < 2147483629 := fun a => fm_range (by decide)
  have k1 : Sm (16777259 * c) := sm_of 72 (by omega) (by omega)
  refine ⟨⟨ss, sm_of 32 (by decide) (by decide)⟩, ⟨sm_of 32 (by decide) (by decide), sc⟩, ⟨k1, sc⟩, ⟨sm_of 32 (by decide) (by decide), sc⟩, (by decide : (2147483629 : Int) ≠ 0), ?_⟩
  generalize hv : Int.fmod _ 2147483629 = v
  have v1 : 0 ≤ v ∧ v < 2147483629 := by rw [← hv]; exact hm _
  have sv : Sm v := sm_of 32 (by omega) (by omega)
  refine ⟨⟨sv, sv⟩, ⟨sm_of 32 (by decide) (by decide), sc⟩, (by decide : (2147483587 : Int) ≠ 0), ?_⟩
  generalize hw : Int.fmod _ 2147483587 = w
  have w1 : 0 ≤ w ∧ w < 2147483587 := by rw [← hw]; exact fm_range (by decide)
  refine ⟨⟨sm_of 32 (by omega) (by omega), sm_of 32 (by decide) (by decide)⟩, (by decide : (2147483647 : Int) ≠ 0), ?_⟩
  have r1 : 0 ≤ (w * 69069).fmod 2147483647 ∧ (w * 69069).fmod 2147483647 < 2147483647 := fm_range (by decide)
  exact rtq (q _ r1.1 (by omega))
/-- cell k is a generator that has counted n, at most -/
def Gn (k : Nat) (n : Int) (M : Mem) : Prop := ∃ a s c : Int, M[k]? = some (.lst [.int a, .int s, .int c]) ∧ 0 ≤ s ∧ s < P31 ∧ 0 ≤ c ∧ c ≤ n
/-- cell k alone has changed -/
def Gst (k : Nat) (n : Int) (M M' : Mem) : Prop := M'.length = M.length ∧ Gn k n M' ∧ ∀ i, i ≠ k → M'[i]? = M[i]?
theorem Gn.le {k : Nat} {n m : Int} {M : Mem} (h : Gn k n M) (hn : n ≤ m) : Gn k m M := by
  obtain ⟨a, s, c, h1, h2, h3, h4, h5⟩ := h
  exact ⟨a, s, c, h1, h2, h3, h4, by omega⟩
theorem Gst.refl {k : Nat} {n : Int} {M : Mem} (h : Gn k n M) : Gst k n M M := ⟨rfl, h, fun _ _ => rfl⟩
theorem Gst.trans {k : Nat} {n m : Int} {M M' M'' : Mem} (h : Gst k n M M') (g : Gst k m M' M'') : Gst k m M M'' :=
  ⟨g.1.trans h.1, g.2.1, fun i hi => (g.2.2 i hi).trans (h.2.2 i hi)⟩
theorem Gst.le {k : Nat} {n m : Int} {M M' : Mem} (h : Gst k n M M') (hn : n ≤ m) : Gst k m M M' := ⟨h.1, h.2.1.le hn, h.2.2⟩
theorem Gst.set {k : Nat} {n : Int} {M : Mem} {a s c : Int} (hk : k < M.length) (h2 : 0 ≤ s) (h3 : s < P31) (h4 : 0 ≤ c) (h5 : c ≤ n) : Gst k n M (M.set k (.lst [.int a, .int s, .int c])) :=
  ⟨List.length_set, ⟨a, s, c, List.getElem?_set_self hk, h2, h3, h4, h5⟩, fun _ hi => List.getElem?_set_ne (Ne.symm hi)⟩
/-- a def that has changed the generator alone -/
theorem Gst.rtq {k : Nat} {n : Int} {M M' : Mem} {Q : DQ} {d : D} (h : Gst k n M M') (q : Q d M') (hb : below M'.length d = true := by rfl) : Rtq M Q d M' := by
  refine rtqC q (Nat.le_of_eq h.1.symm) hb fun i c hc => ?_
  by_cases hi : i = k
  · subst hi
    obtain ⟨a, s, c', e, _⟩ := h.2.1
    rw [e] at hc
    cases hc
    exact .inr rfl
  · rw [h.2.2 i hi] at hc
    exact .inl hc
def sp_random : DSp := fun ds M Q _ => ∃ (k : Nat) (b n : Int), ds = [.own k, .int b] ∧ 0 < b ∧ b < 2 ^ 900 ∧ Gn k n M ∧ n ≤ P40 - 40 ∧ ∀ v M', 0 ≤ v → v < b → Gst k (n + 40) M M' → Q (.int v) M'
theorem bits_le {b : Int} {n : Nat} (h0 : 0 < b) (h : b < 2 ^ n) : Builtin.Int.intBits b ≤ n := by
  unfold Builtin.Int.intBits
  rw [if_neg (by simp; omega)]
  have h1 : b.natAbs < 2 ^ n := by
    have e : ((2 ^ n : Nat) : Int) = (2 : Int) ^ n := by rw [Int.natCast_pow]; rfl
    omega
  have := (Nat.log2_lt (by omega)).mpr h1
  omega
theorem rd_l_random_7821 : ∀ ds M Q, ds.length = 2 → sp_random ds M Q DX0 → t_l_random_7821 sp_hash (dEnds M Q) (startD 4 ds) M := by
  rintro _ M Q - ⟨k, b, n, rfl, b0, b1, ⟨a, s, c, hk, s0, s1, c0, c1⟩, hn, q⟩
  have kl : k < M.length := (List.getElem?_eq_some_iff.mp hk).1
  unfold t_l_random_7821
  walk_at "rd"
  have e0 : res M (.own k) = .lst [.int a, .int s, .int c] := by unfold res; dsimp only; rw [hk]
  simp only [e0, hk]
  walk_at "rd"
  by_cases ha : 0 < a
  · rw [if_pos ha]
    have := fm_range (a := a) b0
    refine ⟨(by omega : b ≠ 0), ⟨by omega, Nat.lt_of_lt_of_le (log2_of 900 (by
      have e : ((2 ^ 900 : Nat) : Int) = (2 : Int) ^ 900 := by rw [Int.natCast_pow]; rfl
      omega) (by decide)) (by decide)⟩, ?_⟩
    exact (Gst.set kl s0 s1 c0 (by omega)).rtq (q _ _ this.1 this.2 (Gst.set kl s0 s1 c0 (by omega)))
  · rw [if_neg ha]
    have hb := bits_le b0 b1
    generalize hbits : Builtin.Int.intBits b = bits at hb
    have ef : ((bits : Nat) : Int).fdiv 30 = (bits / 30 : Nat) := by rw [fdiv_pos (by decide)]; omega
    rw [ef]
    refine ⟨⟨by decide, by decide⟩, ⟨by omega, by omega⟩, ?_⟩
    have eT : (1 + ((bits / 30 : Nat) : Int)).toNat = 1 + bits / 30 := by omega
    rw [eT]
    generalize hT : 1 + bits / 30 = T
    have hT1 : T ≤ 31 := by omega
    refine ⟨fun i r M' => i ≤ T ∧ Gst k (n + i) M M' ∧ ∃ dr tn, r = [some (.own k), some (.int b), some (.int dr), tn] ∧ 0 ≤ dr ∧ dr < 2 ^ (32 * i), ⟨by omega, ⟨rfl, ⟨a, s, c, hk, s0, s1, c0, by omega⟩, fun _ _ => rfl⟩, 0, _, rfl, by decide, by decide⟩, ?_⟩
    rintro i r M' ⟨hi, hg, dr, tn, rfl, d0, d1⟩
    refine ⟨trivial, fun hl => ?_, fun d hd => ?_⟩
    · walk_at "rd"
      have := fm_range (a := dr) b0
      exact ⟨(by omega : b ≠ 0), hg.rtq (q _ _ this.1 this.2 (hg.le (by omega)))⟩
    · obtain ⟨hi2, rfl⟩ := rng_get.mp hd
      obtain ⟨a', s', c', hk', s0', s1', c0', c1'⟩ := hg.2.1
      have kl' : k < M'.length := (List.getElem?_eq_some_iff.mp hk').1
      have e1 : res M' (.own k) = .lst [.int a', .int s', .int c'] := by unfold res; dsimp only; rw [hk']
      walk_at "rd"
      simp only [e1, hk']
      walk_at "rd"
      have e2 : res (M'.set k (.lst [.int a', .int s', .int (c' + 1)])) (.own k) = .lst [.int a', .int s', .int (c' + 1)] := by unfold res; dsimp only; rw [List.getElem?_set_self kl']
      simp only [e2]
      walk_at "rd"
      have sd : Sm dr := sm_of (32 * i) (by have := Int.pow_pos (n := 2) (m := 32 * i) (by decide); omega) d1 (by omega)
      unfold P40 at hn
      refine ⟨⟨sd, sm_of 32 (by decide) (by decide)⟩, s', c' + 1, rfl, s0', s1', by omega, by unfold P40; omega, fun v v0 v1 => ?_⟩
      refine ⟨by omega, hg.trans (Gst.set kl' s0' s1' (by omega) (by omega)), _, _, rfl, by omega, ?_⟩
      unfold P31 at v1
      have e3 : (2 : Int) ^ (32 * (i + 1)) = 2 ^ (32 * i) * 4294967296 := by rw [Nat.mul_add, Int.pow_add]; rfl
      rw [e3]
      omega
def sp_cell : DSp := fun ds M Q _ => ∃ (ns : List Int) (i : Int), ds = [.scr ns, .int i] ∧ 0 ≤ i ∧ ∀ v, Q (.int v) M
theorem rd_l_cell_cf3b : ∀ ds M Q, ds.length = 2 → sp_cell ds M Q DX0 → t_l_cell_cf3b (dEnds M Q) (startD 2 ds) M := by
  rintro _ M Q - ⟨ns, i, rfl, i0, q⟩
  unfold t_l_cell_cf3b
  walk_at "rd"
  by_cases hi : i < (ns.length : Nat)
  · rw [if_pos hi]
    have e : i = (i.toNat : Nat) := by omega
    have hl : i.toNat < ns.length := by omega
    rw [e, atI_of _ hl, List.getElem?_eq_getElem hl]
    exact rtq (q _)
  · rw [if_neg hi]
    obtain ⟨xs, ex⟩ := cut_map ns none (some 1)
    unfold gSlL
    walk_at "rd"
    rw [ex]
    unfold gSum
    walk_at "rd"
    rw [intsD_map]
    exact ⟨(by decide : (1000003 : Int) ≠ 0), rtq (q _)⟩
def sp_generator : DSp := fun ds M Q _ => ∃ (ns : List Int) (i : Int), ds = [.scr ns, .int i] ∧ 0 ≤ i ∧ i < P31 ∧ ∀ M', M'.length = M.length + 1 → Gn M.length (1000 * i) M' → (∀ j, j < M.length → M'[j]? = M[j]?) → Q (.own M.length) M'
theorem rd_l_generator_b324 : ∀ ds M Q, ds.length = 2 → sp_generator ds M Q DX0 → t_l_generator_b324 sp_cell (dEnds M Q) (startD 3 ds) M := by
  rintro _ M Q - ⟨ns, i, rfl, i0, i1, q⟩
  unfold t_l_generator_b324
  walk_at "rd"
  refine ⟨ns, i, rfl, i0, fun v => ?_⟩
  dsimp only
  have cp : CPow 10 18 ∧ CPow 10 60 ∧ CPow (10 ^ Int.toNat 60) 10 := by refine ⟨?_, ?_, ?_⟩ <;> (unfold CPow; decide)
  have hi : Sm i := by unfold P31 at i1; exact sm_of 32 (by omega) (by omega)
  refine ⟨cp.1, cp.2.1, cp.2.2, ?_, (by decide : (2147483647 : Int) ≠ 0), ⟨Sm.of 20 (by decide), hi⟩, ?_⟩
  · have h1 : (0 : Int) < (10 ^ Int.toNat 60) ^ Int.toNat 10 := Int.pow_pos (Int.pow_pos (by decide))
    exact fun e => by rw [e] at h1; exact absurd h1 (by decide)
  · have g := fm_range (a := v) (b := 2147483647) (by decide)
    have hl : ∀ c : Own, (M ++ [c])[M.length]? = some c := fun c => by rw [List.getElem?_append_right (Nat.le_refl _), Nat.sub_self]; rfl
    refine rtqC (q _ (by simp) ⟨_, _, _, hl _, g.1, by unfold P31; omega, by omega, Int.le_refl _⟩ fun j hj => List.getElem?_append_left hj) (by simp) (by simp only [below]; exact decide_eq_true (by simp)) fun j c hc => ?_
    by_cases hj : j < M.length
    · rw [List.getElem?_append_left hj] at hc; exact .inl hc
    · have hj2 : j < M.length + 1 := by
        have := (List.getElem?_eq_some_iff.mp hc).1
        simpa using this
      have e : j = M.length := by omega
      subst e
      rw [hl] at hc
      cases hc
      exact .inr rfl
theorem rd_l_common_6be5 : ∀ ds M Q, ds.length = 2 → sp_gcd ds M Q DX0 → t_l_common_6be5 (dEnds M Q) (startD 4 ds) M := by
  rintro _ M Q - ⟨a, b, rfl, q⟩
  unfold t_l_common_6be5
  walk_at "rd"
  refine dwhile_of (fun n r M' => ∃ l h : Int, r = [some (.int a), some (.int b), some (.int l), some (.int h)] ∧ M' = M ∧ 0 ≤ l ∧ 0 ≤ h ∧ Int.gcd l h = Int.gcd a b ∧ n = h.toNat) _ ⟨_, _, rfl, rfl, ?_, ?_, gcd_abs a b, rfl⟩ ?_
  · split <;> omega
  · split <;> omega
  · rintro n r M' ⟨l, h, rfl, rfl, hl, hh, hg, rfl⟩
    walk_at "rd"
    split
    · rename_i h0
      have hp : 0 < h := by omega
      refine ⟨h0, _, ?_, h, l.fmod h, rfl, hh, ?_, (gcd_step hl hp).trans hg, rfl⟩
      · have := fm_range (a := l) hp
        omega
      · exact (fm_range (a := l) hp).1
    · rename_i h0
      have h0 : h = 0 := by omega
      subst h0
      rw [← hg, gcd_end hl] at q
      exact rtq q
theorem rd_l_root_d754 : ∀ ds M Q, ds.length = 1 → sp_isq ds M Q DX0 → t_l_root_d754 (dEnds M Q) (startD 4 ds) M := by
  rintro _ M Q - ⟨n, rfl, h0, hB, q⟩
  unfold t_l_root_d754
  walk_at "rd"
  refine dwhile_of (fun m r M' => ∃ f : Int, r = [some (.int n), some (.int 0), some (.int f), none] ∧ M' = M ∧ 1 ≤ f ∧ f ≤ 2 * n + 1 ∧ m = (2 * n + 2 - f).toNat) _ ⟨1, rfl, rfl, by omega, by omega, rfl⟩ ?_
  rintro m r M' ⟨f, rfl, rfl, hf, hf2, rfl⟩
  walk_at "rd"
  have sf : Sm f := sm_big8 (by have := big_ge 1; omega) (by have := big_ge 1; omega)
  refine ⟨⟨sf, sf⟩, ?_⟩
  split
  · rename_i hc
    have : f * 1 ≤ f * f := Int.mul_le_mul_of_nonneg_left hf (by omega)
    exact ⟨⟨Sm.of 4 (by decide), sf⟩, _, by omega, 2 * f, rfl, by omega, by omega, rfl⟩
  · rename_i hc
    refine dwhile_of (fun m r M'' => ∃ lo hi : Int, ∃ mi, r = [some (.int n), some (.int lo), some (.int hi), mi] ∧ M'' = M' ∧ 0 ≤ lo ∧ lo < hi ∧ hi ≤ 2 * n + 1 ∧ lo * lo ≤ n ∧ n < hi * hi ∧ m = (hi - lo).toNat) _ ⟨0, f, none, rfl, rfl, by omega, by omega, hf2, by omega, by omega, rfl⟩ ?_
    rintro m r M'' ⟨lo, hi, mi, rfl, rfl, g1, g2, g3, g4, g5, rfl⟩
    walk_at "rd"
    split
    · rename_i hlt
      have e2 : (lo + hi).fdiv 2 = (lo + hi) / 2 := fdiv_pos (by decide)
      rw [e2]
      have sm : Sm ((lo + hi) / 2) := sm_big8 (by have := big_ge 1; omega) (by have := big_ge 1; omega)
      refine ⟨⟨by decide, by decide⟩, ⟨sm, sm⟩, ?_⟩
      split
      · rename_i hm
        exact ⟨_, by omega, (lo + hi) / 2, hi, _, rfl, by omega, by omega, by omega, hm, g5, rfl⟩
      · rename_i hm
        exact ⟨_, by omega, lo, (lo + hi) / 2, _, rfl, by omega, by omega, by omega, g4, by omega, rfl⟩
    · rename_i hge
      have e : hi = lo + 1 := by omega
      subst e
      have e : isq n = lo := isq_uni (by omega) g4 g5
      rw [e] at q
      exact rtq q
def P400 : Int := 2 ^ 400
theorem p400_big : P400 ≤ BIG := by
  unfold P400 BIG BIGN
  have h : (2 : Nat) ^ 400 ≤ 2 ^ 4000 := Nat.pow_le_pow_right (by decide) (by decide)
  have e : ((2 ^ 400 : Nat) : Int) = (2 : Int) ^ 400 := by rw [Int.natCast_pow]; rfl
  omega
theorem p400_900 : P400 < 2 ^ 900 := by
  unfold P400
  have h : (2 : Nat) ^ 400 < 2 ^ 900 := Nat.pow_lt_pow_right (by decide) (by decide)
  have e : ((2 ^ 400 : Nat) : Int) = (2 : Int) ^ 400 := by rw [Int.natCast_pow]; rfl
  have e2 : ((2 ^ 900 : Nat) : Int) = (2 : Int) ^ 900 := by rw [Int.natCast_pow]; rfl
  omega
theorem p400_ten {i : Nat} (h : i ≤ 110) : 5 * (10 : Int) ^ i + 10 ≤ P400 := by
  have h1 : (10 : Int) ^ i ≤ 10 ^ 110 := by
    have h0 : (10 : Nat) ^ i ≤ 10 ^ 110 := Nat.pow_le_pow_right (by decide) h
    have e : ((10 ^ i : Nat) : Int) = (10 : Int) ^ i := by rw [Int.natCast_pow]; rfl
    have e2 : ((10 ^ 110 : Nat) : Int) = (10 : Int) ^ 110 := by rw [Int.natCast_pow]; rfl
    omega
  have h2 : 5 * (10 : Int) ^ 110 + 10 ≤ P400 := by unfold P400; decide +kernel
  omega
def sp_lmeasure : DSp := fun ds M Q _ => ∃ (k : Nat) (f n : Int), ds = [.own k, .int f] ∧ 0 < f ∧ f ≤ 100 ∧ Gn k n M ∧ n ≤ P40 - 400 ∧ ∀ m M', isMeas (.int m) = true → m ≤ 10 ^ (f.toNat + 1) → Gst k (n + 160) M M' → Q (.int m) M'
theorem rd_l_measure_0db7 : ∀ ds M Q, ds.length = 2 → sp_lmeasure ds M Q DX0 → t_l_measure_0db7 sp_random sp_isq (dEnds M Q) (startD 6 ds) M := by
  rintro _ M Q - ⟨k, f, n, rfl, f0, f1, hg, hn, q⟩
  unfold t_l_measure_0db7
  walk_at "rd"
  refine ⟨k, f, n, rfl, f0, by have := p400_900; have := p400_ten (i := 3) (by decide); omega, hg, by omega, fun v M1 v0 v1 g1 => ?_⟩
  walk_at "rd"
  refine ⟨⟨by omega, by omega⟩, ?_⟩
  have eT : (1 + v).toNat ≤ 100 := by omega
  have eF : (1 + v).toNat ≤ f.toNat := by omega
  generalize hT : (1 + v).toNat = T at eT eF
  refine ⟨fun i r M' => i ≤ T ∧ M' = M1 ∧ ∃ b tn, r = [some (.own k), some (.int f), some (.int b), tn, none, none] ∧ 5 ≤ b ∧ b ≤ 5 * 10 ^ i, ⟨by omega, rfl, 5, _, rfl, by omega, by decide⟩, ?_⟩
  rintro i r M' ⟨hi, rfl, b, tn, rfl, b5, b1⟩
  have hp := p400_ten (i := i) (by omega)
  refine ⟨trivial, fun hl => ?_, fun d hd => ?_⟩
  · walk_at "rd"
    refine ⟨k, b, n + 40, rfl, by omega, by have := p400_900; omega, g1.2.1, by omega, fun v2 M2 v20 v21 g2 => ?_⟩
    walk_at "rd"
    refine ⟨k, 6, n + 40 + 40, rfl, by decide, by have := p400_900; have := p400_ten (i := 3) (by decide); omega, g2.2.1, by omega, fun v3 M3 v30 v31 g3 => ?_⟩
    walk_at "rd"
    have hq := isq_le_self (n := 5 + v2) (by omega)
    have hq2 := isq_le (n := 5 + v2) (by omega)
    have hq3 := isq_lt (n := 5 + v2) (by omega)
    have hq0 := isq_nn (5 + v2)
    have hq4 : 2 ≤ isq (5 + v2) := by
      by_cases z : 2 ≤ isq (5 + v2)
      · exact z
      · rcases (by omega : isq (5 + v2) = 0 ∨ isq (5 + v2) = 1) with e | e <;> rw [e] at hq3 <;> omega
    have hq5 : 4 ≤ isq (5 + v2) * isq (5 + v2) := by
      have : 2 * 2 ≤ isq (5 + v2) * isq (5 + v2) := Int.mul_le_mul hq4 hq4 (by decide) hq0
      omega
    have pb := p400_big
    have p9 := p400_900
    have p3 := p400_ten (i := 3) (by decide)
    have pF : 5 * (10 : Int) ^ i + 5 ≤ 10 ^ (f.toNat + 1) := by
      have h0 : (10 : Nat) ^ i ≤ 10 ^ f.toNat := Nat.pow_le_pow_right (by decide) (by omega)
      have h1 : (10 : Nat) ^ (f.toNat + 1) = 10 ^ f.toNat * 10 := by rw [Nat.pow_succ]
      have e : ((10 ^ i : Nat) : Int) = (10 : Int) ^ i := by rw [Int.natCast_pow]; rfl
      have e2 : ((10 ^ (f.toNat + 1) : Nat) : Int) = (10 : Int) ^ (f.toNat + 1) := by rw [Int.natCast_pow]; rfl
      have h3 : 0 < (10 : Nat) ^ i := Nat.pow_pos (by decide)
      omega
    have fin : ∀ N : Int, 4 ≤ N → N ≤ 5 + v2 → ∀ (v4 : Int) M4, 0 ≤ v4 → v4 < 2 → Gst k (n + 40 + 40 + 40 + 40) M3 M4 → Q (.int (if 4 < N - N.fmod 4 + v4 then N - N.fmod 4 + v4 else 5)) M4 := by
      intro N n1 n2 v4 M4 v40 v41 g4
      have ef : N.fmod 4 = N % 4 := fmod_pos (by decide)
      rw [ef]
      refine q _ M4 ?_ ?_ (((((g1.trans g2).trans g3).trans g4).le (by omega)))
      · split
        · rename_i h4
          have h5 : 5 ≤ N - N % 4 + v4 := by omega
          simp only [isMeas, h5, decide_true, Bool.true_and, Bool.or_eq_true, beq_iff_eq]
          omega
        · decide
      · split <;> omega
    by_cases h3 : v3 = 0
    · rw [if_pos h3]
      have sq : Sm (isq (5 + v2)) := sm_big (by omega) (by omega)
      refine ⟨_, rfl, by omega, by omega, _, rfl, by omega, by omega, ⟨sq, sq⟩, (by decide : (4 : Int) ≠ 0), k, 2, n + 40 + 40 + 40, rfl, by decide, by omega, g3.2.1, by omega, fun v4 M4 v40 v41 g4 => ?_⟩
      walk_at "rd"
      have g5 := fin _ hq5 hq2 v4 M4 v40 v41 g4
      have gg := ((g1.trans g2).trans g3).trans g4
      split
      · rename_i h4
        rw [if_pos h4] at g5
        exact gg.rtq g5
      · rename_i h4
        rw [if_neg h4] at g5
        exact gg.rtq g5
    · rw [if_neg h3]
      refine ⟨(by decide : (4 : Int) ≠ 0), k, 2, n + 40 + 40 + 40, rfl, by decide, by omega, g3.2.1, by omega, fun v4 M4 v40 v41 g4 => ?_⟩
      walk_at "rd"
      have g5 := fin _ (by omega) (Int.le_refl _) v4 M4 v40 v41 g4
      have gg := ((g1.trans g2).trans g3).trans g4
      split
      · rename_i h4
        rw [if_pos h4] at g5
        exact gg.rtq g5
      · rename_i h4
        rw [if_neg h4] at g5
        exact gg.rtq g5
  · obtain ⟨hi2, rfl⟩ := rng_get.mp hd
    walk_at "rd"
    have sb : Sm b := sm_big (by have := big_pos; omega) (by have := p400_big; omega)
    refine ⟨⟨Sm.of 5 (by decide), sb⟩, by omega, _, _, rfl, by omega, ?_⟩
    rw [Int.pow_succ]
    omega

theorem rd_l_least_9529 : ∀ ds M Q, ds.length = 4 → sp_root_by ds M Q DX0 → t_l_least_9529 sp_isq sp_gcd (dEnds M Q) (startD 6 ds) M := rd_root_by
def sp_lis_root : DSp := sp_is_root_by
theorem rd_l_is_root_1604 : ∀ ds M Q, ds.length = 2 → sp_lis_root ds M Q DX0 → t_l_is_root_1604 sp_isq sp_gcd (dEnds M Q) (startD 4 ds) M := by
  rintro _ M Q - ⟨m, d, rfl, h0, hB, ⟨⟨T, ht⟩, hr⟩, q⟩
  unfold t_l_is_root_1604
  walk_at "rd"
  by_cases htup : ∃ l, d = .tup l
  · obtain ⟨l, rfl⟩ := htup
    walk_at "rd"
    walk_at "kb"
    by_cases h3 : l.length = 3
    · obtain ⟨a, b, c, rfl⟩ := len3 h3
      have hr' := hr _ rfl rfl
      walk_at "rd"
      rw [if_neg (by decide)]
      refine lcW_pure (fun e => if isW e = true then none else some e) trivial (by rw [sizeLine_eq]; exact (by decide : (3 : Nat) ≤ 16777216)) (fun d hd Y N hy => ?_) ?_
      · walk_at "rd"
        obtain ⟨hf, T', hT⟩ := hr' d hd
        cases d <;> first | (simp [fine] at hf; done) | skip
        all_goals walk_at "kb"
        all_goals exact hy
      · refine gNe_nil' (n := 40) (bads_fine fun e he => (hr' e he).1) ?_
        show if (!(bads [a, b, c]).isEmpty) = true then _ else _
        cases hb : (bads [a, b, c]).isEmpty with
        | false =>
          rw [if_pos (by decide)]
          rw [isRootD_bad (bads_some hb)] at q
          exact rtq q
        | true =>
          rw [if_neg (by decide)]
          have hw := bads_nil hb
          obtain ⟨x, rfl⟩ := isW_iff.mp (hw a (by simp))
          obtain ⟨y, rfl⟩ := isW_iff.mp (hw b (by simp))
          obtain ⟨z, rfl⟩ := isW_iff.mp (hw c (by simp))
          walk_at "rd"
          simp only [isRootD] at q
          by_cases hz : z < 1
          · rw [if_pos hz]
            have : ¬ 1 ≤ z := by omega
            simp only [this, decide_false, Bool.false_and] at q
            exact rtq q
          · rw [if_neg hz]
            have hz' : 1 ≤ z := by omega
            simp only [hz', decide_true, Bool.true_and] at q
            refine ⟨m, rfl, h0, hB, x, y, rfl, _, z, rfl, ?_⟩
            have hs : Sm (isq m) := sm_big (by have := isq_nn m; omega) (Int.le_trans (isq_le_self h0) hB)
            walk_at "rd"
            by_cases hg : (Int.gcd (Int.gcd x y : Int) z : Int) = 1
            · rw [if_pos hg]
              simp only [hg, BEq.rfl, Bool.true_and] at q
              by_cases hy : y = 0
              · rw [if_pos hy]
                simp only [hy, BEq.rfl, Bool.true_or] at q ⊢
                exact rtq q
              · have hy' : (y == 0) = false := by simpa using hy
                rw [if_neg hy]
                simp only [hy', Bool.false_or] at q
                exact ⟨⟨hs, hs⟩, rtq q⟩
            · rw [if_neg hg]
              have hg' : ((Int.gcd (Int.gcd x y : Int) z : Int) == 1) = false := by simpa using hg
              simp only [hg', Bool.false_and] at q ⊢
              exact rtq q
    · have h3' : ¬ ((l.length : Nat) : Int) = 3 := by omega
      simp only [h3', not_false_eq_true, if_true]
      rw [isRootD_len h3] at q
      exact rtq q
  · have q' : Q (.bl false) M := by rwa [isRootD_notup fun l e => htup ⟨l, e⟩] at q
    cases d <;> first | exact absurd ⟨_, rfl⟩ htup | (cases ht; done) | skip
    all_goals walk_at "rd"
    case own k =>
      unfold tyM at ht
      dsimp only at ht
      split at ht
      · rename_i ds hk
        simp only [hk]
        walk_at "kb"
        exact rtq q'
      · cases ht
    all_goals walk_at "kb"
    all_goals exact rtq q'

def sp_right : DSp := fun ds M Q _ => ∃ (k : Nat) (n : Int), ds = [.own k] ∧ Gn k n M ∧ n ≤ P40 - 10000 ∧ ∀ M', Gst k (n + 5000) M M' → Q (.bl true) M'
end DL
namespace DL
open PySem PySem.Spec PyProof.Rows L2
local macro_rules | `(tactic| walk_at "rd") => `(tactic| simp only [startD, List.map, List.replicate, List.length_cons, List.length_nil, List.append_eq, List.append_nil, List.nil_append, List.cons_append, Nat.reduceSub, Nat.reduceAdd, List.getElem?_cons_zero, List.getElem?_cons_succ, List.set_cons_zero, List.set_cons_succ,
  dC, dVar, dOp, dTru, gTru, tru, dChain, dAnd, dOr, dNot, dAndV, dOrV, dNotV, dIf, dNeg, gNeg, dNil, dCons, dTup, dLst, dOwn, gIx, rBin, gAdd, gCmpI, dCall, dCallK, dSeq, dNext, dDrop, dRet, dRetN, dIfS, dName, dGNil, dGCons, dGTup, dSub, gSetL, dAsg, dPar, dPar3, dAug, gIpI, dSeqI, gSeqI, dRngI, gRng1, gRng2, dCB, gAbs, gInt, gMax, gMin, gGcd, gLen, lenD, gIsi, tyM, tyD, dBits, gBits, dMet, gAppend, dPart, dNoPart, dSl, dEnds, gIs, isB, dNever, dFor, dLc, wipeD, dYes,
  sizeLine_eq, Nat.reduceLeDiff, gEq_int, gNe_int, gEq_strs, gNe_strs, gIn_two, gRepr_bl, rs_lst, rs_tup, rs_scr, rs_int, atI_0, atI_1, atI_2, atI_3, atI_4, atI_5, ixN_30, ixN_31, ixN_32, gEq_bl, gNe_bl, decide_eq_true_eq, beq_iff_eq, Bool.not_eq_true', beq_eq_false_iff_ne, decide_eq_false_iff_not, Bool.not_true, Bool.not_false, if_true, if_false, Bool.false_eq_true, ite_true, ite_false, true_and, and_true, ne_eq, Bool.bne_false, Bool.bne_true, reduceCtorEq])
local macro_rules | `(tactic| walk_at "kb") => `(tactic| simp only [kb_NoneType_list, kb_bool_list, kb_int_list, kb_str_list, kb_tuple_list, kb_list_list, kb_dict_list, kb_NoneType_int, kb_bool_int, kb_int_int, kb_str_int, kb_tuple_int, kb_list_int, kb_dict_int, kb_NoneType_bool, kb_bool_bool, kb_int_bool, kb_str_bool, kb_tuple_bool, kb_list_bool, kb_dict_bool, kb_NoneType_tuple, kb_bool_tuple, kb_int_tuple, kb_str_tuple, kb_tuple_tuple, kb_list_tuple, kb_dict_tuple, if_true, if_false, Bool.false_eq_true, ite_true, ite_false, Bool.not_true, Bool.not_false])

theorem atI_any {l : List D} {v : Int} (h0 : 0 ≤ v) (h1 : v < (l.length : Nat)) : ∃ d, d ∈ l ∧ atI l v = some d := by
  have e : v = (v.toNat : Nat) := by omega
  have hl : v.toNat < l.length := by omega
  refine ⟨l[v.toNat], List.getElem_mem hl, ?_⟩
  have h2 := atI_of _ hl
  rw [← e] at h2
  rw [h2]
  exact List.getElem?_eq_getElem hl
theorem fine_ty {n : Nat} {d : D} (M : Mem) (h : fine n d = true) : ∃ T, tyM M d = some T := by
  cases d <;> first | exact ⟨_, rfl⟩ | (simp [fine] at h)
theorem rootable_fine {d : D} (M : Mem) (h : fine 41 d = true) : Rootable M d := by
  refine ⟨fine_ty M h, ?_⟩
  rintro l rfl h3 e he
  have h' : fineAll 40 l = true := by simpa only [fine] using h
  have := fineAll_iff.mp h' e he
  exact ⟨this, fine_ty M this⟩
theorem dSeq_open {a b : DTS} {E : DEnds} {r : Env} {M : Mem} (h : ∀ B : Env → Mem → Prop, b E = B → a { E with nx := B } r M) : dSeq a b E r M := h _ rfl
def okV (d : D) : Bool := fine 41 d && (lit 800 d && decide (wt 800 d ≤ 10000))
/-! ### the least form: scaled, its size -/
theorem gcd_dvd3 (X Y b : Int) : (Int.gcd (Int.gcd X Y : Int) b : Int) ∣ X ∧ (Int.gcd (Int.gcd X Y : Int) b : Int) ∣ Y ∧ (Int.gcd (Int.gcd X Y : Int) b : Int) ∣ b :=
  ⟨Int.dvd_trans (Int.gcd_dvd_left _ _) (Int.gcd_dvd_left _ _), Int.dvd_trans (Int.gcd_dvd_left _ _) (Int.gcd_dvd_right _ _), Int.gcd_dvd_right _ _⟩
theorem rnC_dvd (m x y b : Int) : rnC m x y b ∣ rnX m x y ∧ rnC m x y b ∣ rnY m y ∧ rnC m x y b ∣ b := by
  have h := gcd_dvd3 (rnX m x y) (rnY m y) b
  unfold rnC
  split
  · rw [Int.zero_sub]
    exact ⟨Int.neg_dvd.mpr h.1, Int.neg_dvd.mpr h.2.1, Int.neg_dvd.mpr h.2.2⟩
  · exact h
theorem rnC_ne {m x y b : Int} (hb : b ≠ 0) : rnC m x y b ≠ 0 := by
  have := gcd_bound (g := (Int.gcd (rnX m x y) (rnY m y) : Int)) hb
  unfold rnC
  split <;> omega
theorem fdiv_scale {k a c : Int} (hk : k ≠ 0) (hc : c ≠ 0) (h : c ∣ a) : (k * a).fdiv (k * c) = a.fdiv c := by
  obtain ⟨t, rfl⟩ := h
  rw [Int.mul_fdiv_cancel_left _ hc, ← Int.mul_assoc, Int.mul_fdiv_cancel_left]
  exact Int.mul_ne_zero hk hc
theorem rnX_scale (k m x y : Int) : rnX m (k * x) (k * y) = k * rnX m x y := by
  unfold rnX
  split
  · rw [Int.mul_add, Int.mul_assoc]
  · rfl
theorem rnY_scale (k m y : Int) : rnY m (k * y) = k * rnY m y := by
  unfold rnY
  split
  · rw [Int.mul_zero]
  · rfl
theorem mul_neg_iff {k b : Int} (hk : k < 0) : k * b < 0 ↔ 0 < b := by
  constructor
  · intro h
    by_cases z : 0 < b
    · exact z
    · have := Int.mul_nonneg_of_nonpos_of_nonpos (a := k) (b := b) (by omega) (by omega)
      omega
  · exact fun h => Int.mul_neg_of_neg_of_pos hk h
theorem mul_pos_iff' {k b : Int} (hk : 0 < k) : k * b < 0 ↔ b < 0 := by
  constructor
  · intro h
    by_cases z : b < 0
    · exact z
    · have := Int.mul_nonneg (a := k) (b := b) (by omega) (by omega)
      omega
  · exact fun h => Int.mul_neg_of_pos_of_neg hk h
theorem rnC_scale {k m x y b : Int} (hk : k ≠ 0) (hb : b ≠ 0) : rnC m (k * x) (k * y) (k * b) = k * rnC m x y b := by
  unfold rnC
  rw [rnX_scale, rnY_scale]
  have e : (Int.gcd (Int.gcd (k * rnX m x y) (k * rnY m y) : Int) (k * b) : Int) = k.natAbs * (Int.gcd (Int.gcd (rnX m x y) (rnY m y) : Int) b : Int) := by
    rw [Int.gcd_mul_left]
    have e2 : ((k.natAbs * Int.gcd (rnX m x y) (rnY m y) : Nat) : Int) = (k.natAbs : Int) * (Int.gcd (rnX m x y) (rnY m y) : Int) := Int.natCast_mul _ _
    have e3 : ∀ (u v : Int), Int.gcd ((k.natAbs : Int) * u) (k * v) = k.natAbs * Int.gcd u v := by
      intro u v
      unfold Int.gcd
      rw [Int.natAbs_mul, Int.natAbs_mul, Int.natAbs_natCast, Nat.gcd_mul_left]
    rw [e2, e3, Int.natCast_mul]
  rw [e]
  generalize (Int.gcd (Int.gcd (rnX m x y) (rnY m y) : Int) b : Int) = g
  rcases (by omega : 0 < k ∨ k < 0) with h | h
  · have ek : (k.natAbs : Int) = k := by omega
    rw [ek]
    simp only [mul_pos_iff' h]
    split
    · rw [Int.mul_sub, Int.mul_zero]
    · rfl
  · have ek : (k.natAbs : Int) = -k := by omega
    rw [ek]
    simp only [mul_neg_iff h]
    by_cases z : 0 < b
    · rw [if_pos z, if_neg (by omega), Int.neg_mul]; omega
    · rw [if_neg z, if_pos (by omega), Int.neg_mul, Int.mul_sub]; omega
theorem rootN_scale {k m x y b : Int} (hk : k ≠ 0) (hb : b ≠ 0) : rootN m (k * x) (k * y) (k * b) = rootN m x y b := by
  have h := rnC_dvd m x y b
  have h0 := rnC_ne (m := m) (x := x) (y := y) hb
  unfold rootN
  rw [rnC_scale hk hb, rnX_scale, rnY_scale, fdiv_scale hk h0 h.1, fdiv_scale hk h0 h.2.1, fdiv_scale hk h0 h.2.2]
def NB : Nat := 2 ^ 600
theorem nb_small {i : Int} (h : i.natAbs ≤ 4 * NB) : lit 800 (.int i) = true := by
  simp only [lit, decide_eq_true_eq]
  refine log2_of 800 (Nat.lt_of_le_of_lt h ?_) (by decide)
  have e : (2 : Nat) ^ 800 = 2 ^ 600 * 2 ^ 200 := by rw [← Nat.pow_add]
  rw [e]
  unfold NB
  rw [Nat.mul_comm 4]
  exact Nat.mul_lt_mul_of_pos_left (by decide) (Nat.pow_pos (by decide))
theorem fdiv_small {a c : Int} (hc : c ≠ 0) (h : c ∣ a) : (a.fdiv c).natAbs ≤ a.natAbs := by
  obtain ⟨t, rfl⟩ := h
  rw [Int.mul_fdiv_cancel_left _ hc, Int.natAbs_mul]
  exact Nat.le_mul_of_pos_left _ (by omega)
theorem rn_small {m x y b bd : Int} (hm0 : 0 ≤ m) (hm : m ≤ P400) (hbd : bd ≤ 10 ^ 20) (x1 : -bd ≤ x) (x2 : x ≤ bd) (y1 : -bd ≤ y) (y2 : y ≤ bd) : (rnX m x y).natAbs ≤ NB ∧ (rnY m y).natAbs ≤ NB := by
  have hr : (isq m).natAbs ≤ 2 ^ 400 := by
    have h1 := isq_le_self hm0
    have h2 := isq_nn m
    have e : ((2 ^ 400 : Nat) : Int) = P400 := by unfold P400; rw [Int.natCast_pow]; rfl
    omega
  have hy : y.natAbs ≤ 10 ^ 20 := by omega
  have hxn : x.natAbs ≤ 10 ^ 20 := by omega
  have hp : (y * isq m).natAbs ≤ 10 ^ 20 * 2 ^ 400 := by rw [Int.natAbs_mul]; exact Nat.mul_le_mul hy hr
  have hN : 10 ^ 20 + 10 ^ 20 * 2 ^ 400 ≤ NB := by unfold NB; decide +kernel
  have hN2 : 10 ^ 20 ≤ NB := Nat.le_trans (Nat.le_add_right _ _) hN
  generalize 10 ^ 20 * 2 ^ 400 = W at hp hN
  generalize hG : NB = G at hN hN2 ⊢
  unfold rnX rnY
  refine ⟨?_, ?_⟩
  · split <;> omega
  · split <;> omega
theorem okV_parts {d : D} (h : okV d = true) : fine 41 d = true ∧ lit 800 d = true ∧ wt 800 d ≤ 10000 := by
  simpa only [okV, Bool.and_eq_true, decide_eq_true_eq] using h
theorem gRepr_ok {d : D} {M : Mem} {Q : DQ} (h : okV d = true) (q : ∀ z, shwn d = some z → Q (.str z) M) : gRepr [d] M Q := by
  obtain ⟨h1, h2, h3⟩ := okV_parts h
  refine gRepr_of 800 41 h1 h2 ?_ q
  have := Nat.mul_le_mul_left (800 + 10) h3
  omega
theorem gRepr_again {d : D} {M : Mem} {Q : DQ} {z : Str} (h : shwn d = some z) (hr : res M d = d) (q : Q (.str z) M) : gRepr [d] M Q := by
  unfold gRepr
  dsimp only
  rw [hr, h]
  exact q
theorem str_self (z : Str) : (z == z) = true := by simp
theorem okV_3 {a b c : Int} (ha : a.natAbs ≤ 4 * NB) (hb : b.natAbs ≤ 4 * NB) (hc : c.natAbs ≤ 4 * NB) : okV (.tup [.int a, .int b, .int c]) = true := by
  unfold okV
  rw [show lit 800 (.tup [.int a, .int b, .int c]) = true from by simp only [lit, litAll] at *; rw [Bool.and_eq_true, Bool.and_eq_true, Bool.and_eq_true]; exact ⟨nb_small ha, nb_small hb, nb_small hc, rfl⟩]
  rfl
theorem gList_tup {l : List D} {M : Mem} {Q : DQ} : gList false [.tup l] M Q = Q (.lst l) M := rfl
theorem gSlT_two {a b c : D} {M : Mem} {Q : DQ} : gSlT (.tup [a, b, c]) none (some 2) M Q = Q (.tup [a, b]) M := rfl
theorem lit_cons {B : Nat} {d : D} {l : List D} (h : lit B d = true) (h2 : litAll B l = true) : litAll B (d :: l) = true := by
  simp only [litAll, h, h2, Bool.and_self]
theorem okV_tup {l : List D} (h : fineAll 40 l = true) (h2 : litAll 800 l = true) (h3 : wtAll 800 l ≤ 10000) : okV (.tup l) = true := by
  simp only [okV, fine, lit, wt, h, h2, h3, decide_true, Bool.and_self]
theorem okV_lst {l : List D} (h : fineAll 40 l = true) (h2 : litAll 800 l = true) (h3 : wtAll 800 l ≤ 10000) : okV (.lst l) = true := by
  simp only [okV, fine, lit, wt, h, h2, h3, decide_true, Bool.and_self]
end DL
namespace DL
open PySem PySem.Spec PyProof.Rows L2
def t_check_root (c_is_root_by : DSp) : DTS :=
 (dIfS (dNot (dTru (dCall 2 c_is_root_by [] DX0 (dCons (dVar 0) (dCons (dVar 1) dNil))))) dNever dNext)
def t_plus_by (c_root_by : DSp) : DTS :=
 (dSeq (dAsg (dOp gAdd (dOp (rBin CMul fun i j => i * j) (dOp gIx (dVar 1) (dC (.int 0))) (dOp gIx (dVar 2) (dC (.int 2)))) (dOp (rBin CMul fun i j => i * j) (dOp gIx (dVar 2) (dC (.int 0))) (dOp gIx (dVar 1) (dC (.int 2))))) (dName 3))
 (dRet (dCall 4 c_root_by [] DX0 (dCons (dVar 0) (dCons (dVar 3) (dCons (dOp gAdd (dOp (rBin CMul fun i j => i * j) (dOp gIx (dVar 1) (dC (.int 1))) (dOp gIx (dVar 2) (dC (.int 2)))) (dOp (rBin CMul fun i j => i * j) (dOp gIx (dVar 2) (dC (.int 1))) (dOp gIx (dVar 1) (dC (.int 2))))) (dCons (dOp (rBin CMul fun i j => i * j) (dOp gIx (dVar 1) (dC (.int 2))) (dOp gIx (dVar 2) (dC (.int 2)))) dNil)))))))
def t_minus_by (c_plus_by : DSp) : DTS :=
 (dRet (dCall 3 c_plus_by [] DX0 (dCons (dVar 0) (dCons (dVar 1) (dCons (dTup (dCons (dOp (rBin (fun _ _ => True) fun i j => i - j) (dC (.int 0)) (dOp gIx (dVar 2) (dC (.int 0)))) (dCons (dOp (rBin (fun _ _ => True) fun i j => i - j) (dC (.int 0)) (dOp gIx (dVar 2) (dC (.int 1)))) (dCons (dOp gIx (dVar 2) (dC (.int 2))) dNil)))) dNil)))))
def t_times_by (c_root_by : DSp) : DTS :=
 (dSeq (dAsg (dOp gAdd (dOp (rBin CMul fun i j => i * j) (dOp gIx (dVar 1) (dC (.int 0))) (dOp gIx (dVar 2) (dC (.int 0)))) (dOp (rBin CMul fun i j => i * j) (dOp (rBin CMul fun i j => i * j) (dVar 0) (dOp gIx (dVar 1) (dC (.int 1)))) (dOp gIx (dVar 2) (dC (.int 1))))) (dName 3))
 (dRet (dCall 4 c_root_by [] DX0 (dCons (dVar 0) (dCons (dVar 3) (dCons (dOp gAdd (dOp (rBin CMul fun i j => i * j) (dOp gIx (dVar 1) (dC (.int 0))) (dOp gIx (dVar 2) (dC (.int 1)))) (dOp (rBin CMul fun i j => i * j) (dOp gIx (dVar 1) (dC (.int 1))) (dOp gIx (dVar 2) (dC (.int 0))))) (dCons (dOp (rBin CMul fun i j => i * j) (dOp gIx (dVar 1) (dC (.int 2))) (dOp gIx (dVar 2) (dC (.int 2)))) dNil)))))))
def t_over_by (c_times_by : DSp) (c_root_by : DSp) : DTS :=
 (dSeq (dAsg (dOp (rBin (fun _ _ => True) fun i j => i - j) (dOp (rBin CMul fun i j => i * j) (dOp gIx (dVar 2) (dC (.int 0))) (dOp gIx (dVar 2) (dC (.int 0)))) (dOp (rBin CMul fun i j => i * j) (dOp (rBin CMul fun i j => i * j) (dVar 0) (dOp gIx (dVar 2) (dC (.int 1)))) (dOp gIx (dVar 2) (dC (.int 1))))) (dName 3))
 (dRet (dCall 3 c_times_by [] DX0 (dCons (dVar 0) (dCons (dVar 1) (dCons (dCall 4 c_root_by [] DX0 (dCons (dVar 0) (dCons (dOp (rBin CMul fun i j => i * j) (dOp gIx (dVar 2) (dC (.int 0))) (dOp gIx (dVar 2) (dC (.int 2)))) (dCons (dOp (rBin (fun _ _ => True) fun i j => i - j) (dC (.int 0)) (dOp (rBin CMul fun i j => i * j) (dOp gIx (dVar 2) (dC (.int 1))) (dOp gIx (dVar 2) (dC (.int 2))))) (dCons (dVar 3) dNil))))) dNil))))))
def t_root_plus (c_check_measure : DSp) (c_check_root : DSp) (c_plus_by : DSp) : DTS :=
 (dSeq (dDrop (dCall 1 c_check_measure [] DX0 (dCons (dVar 0) dNil)))
 (dSeq (dDrop (dCall 2 c_check_root [] DX0 (dCons (dVar 0) (dCons (dVar 1) dNil))))
 (dSeq (dDrop (dCall 2 c_check_root [] DX0 (dCons (dVar 0) (dCons (dVar 2) dNil))))
 (dRet (dCall 3 c_plus_by [] DX0 (dCons (dVar 0) (dCons (dVar 1) (dCons (dVar 2) dNil))))))))
def t_root_less (c_check_measure : DSp) (c_check_root : DSp) (c_minus_by : DSp) : DTS :=
 (dSeq (dDrop (dCall 1 c_check_measure [] DX0 (dCons (dVar 0) dNil)))
 (dSeq (dDrop (dCall 2 c_check_root [] DX0 (dCons (dVar 0) (dCons (dVar 1) dNil))))
 (dSeq (dDrop (dCall 2 c_check_root [] DX0 (dCons (dVar 0) (dCons (dVar 2) dNil))))
 (dRet (dCall 3 c_minus_by [] DX0 (dCons (dVar 0) (dCons (dVar 1) (dCons (dVar 2) dNil))))))))
def t_root_times (c_check_measure : DSp) (c_check_root : DSp) (c_times_by : DSp) : DTS :=
 (dSeq (dDrop (dCall 1 c_check_measure [] DX0 (dCons (dVar 0) dNil)))
 (dSeq (dDrop (dCall 2 c_check_root [] DX0 (dCons (dVar 0) (dCons (dVar 1) dNil))))
 (dSeq (dDrop (dCall 2 c_check_root [] DX0 (dCons (dVar 0) (dCons (dVar 2) dNil))))
 (dRet (dCall 3 c_times_by [] DX0 (dCons (dVar 0) (dCons (dVar 1) (dCons (dVar 2) dNil))))))))
def t_root_over (c_check_measure : DSp) (c_check_root : DSp) (c_over_by : DSp) : DTS :=
 (dSeq (dDrop (dCall 1 c_check_measure [] DX0 (dCons (dVar 0) dNil)))
 (dSeq (dDrop (dCall 2 c_check_root [] DX0 (dCons (dVar 0) (dCons (dVar 1) dNil))))
 (dSeq (dDrop (dCall 2 c_check_root [] DX0 (dCons (dVar 0) (dCons (dVar 2) dNil))))
 (dSeq (dIfS (dAnd (dTru (dOp gEq (dOp gIx (dVar 2) (dC (.int 0))) (dC (.int 0)))) (dTru (dOp gEq (dOp gIx (dVar 2) (dC (.int 1))) (dC (.int 0))))) dNever dNext)
 (dRet (dCall 3 c_over_by [] DX0 (dCons (dVar 0) (dCons (dVar 1) (dCons (dVar 2) dNil)))))))))
def t_l_random_4762 (c_l_hash_9cde : DSp) : DTS :=
 (dSeq (dIfS (dTru (dOp (gCmpI fun i j => decide (j < i)) (dOp gIx (dVar 0) (dC (.int 0))) (dC (.int 0)))) (dSeq (dAsg (dOp (rBin CMod fun i j => i.fmod j) (dCB gInt (dCons (dOp gIx (dVar 0) (dC (.int 0))) dNil)) (dVar 1)) (dName 2))
 (dSeq (dAsg (dOp (rBin CDiv fun i j => i.fdiv j) (dOp gIx (dVar 0) (dC (.int 0))) (dVar 1)) (dSub (dVar 0) (dC (.int 0))))
 (dRet (dVar 2)))) dNext)
 (dSeq (dAsg (dC (.int 0)) (dName 2))
 (dSeq (dFor (dRngI gRng1 (dCons (dOp gAdd (dC (.int 1)) (dOp (rBin CDiv fun i j => i.fdiv j) (dBits (dVar 1)) (dC (.int 30)))) dNil)) (dName 3) (dSeq (dAsg (dOp gAdd (dOp gIx (dVar 0) (dC (.int 2))) (dC (.int 1))) (dSub (dVar 0) (dC (.int 2))))
 (dAsg (dOp gAdd (dOp (rBin CMul fun i j => i * j) (dVar 2) (dC (.int 2147483587))) (dCall 2 c_l_hash_9cde [] DX0 (dCons (dOp gIx (dVar 0) (dC (.int 1))) (dCons (dOp gIx (dVar 0) (dC (.int 2))) dNil)))) (dName 2))))
 (dRet (dOp (rBin CMod fun i j => i.fmod j) (dCB gInt (dCons (dVar 2) dNil)) (dVar 1))))))
def t_l_drawn_33f3 (c_l_root_d754 : DSp) (c_l_random_4762 : DSp) (c_l_least_9529 : DSp) : DTS :=
 (dSeq (dPar 3 4 (dCons (dC (.int 2)) (dCons (dCall 1 c_l_root_d754 [] DX0 (dCons (dVar 1) dNil)) dNil)))
 (dSeq (dFor (dRngI gRng1 (dCons (dCall 2 c_l_random_4762 [] DX0 (dCons (dVar 0) (dCons (dIf (dTru (dOp gEq (dOp (rBin CMul fun i j => i * j) (dVar 4) (dVar 4)) (dVar 1))) (dC (.int 14)) (dVar 2)) dNil))) dNil)) (dName 5) (dAsg (dOp (rBin CMul fun i j => i * j) (dC (.int 10)) (dVar 3)) (dName 3)))
 (dSeq (dPar3 6 7 8 (dCons (dOp (rBin (fun _ _ => True) fun i j => i - j) (dCall 2 c_l_random_4762 [] DX0 (dCons (dVar 0) (dCons (dOp gAdd (dOp (rBin CMul fun i j => i * j) (dC (.int 2)) (dVar 3)) (dC (.int 1))) dNil))) (dVar 3)) (dCons (dOp (rBin (fun _ _ => True) fun i j => i - j) (dCall 2 c_l_random_4762 [] DX0 (dCons (dVar 0) (dCons (dOp gAdd (dOp (rBin CMul fun i j => i * j) (dC (.int 2)) (dVar 3)) (dC (.int 1))) dNil))) (dVar 3)) (dCons (dOp gAdd (dC (.int 1)) (dCall 2 c_l_random_4762 [] DX0 (dCons (dVar 0) (dCons (dVar 3) dNil)))) dNil))))
 (dRet (dCall 4 c_l_least_9529 [] DX0 (dCons (dVar 1) (dCons (dVar 6) (dCons (dVar 7) (dCons (dVar 8) dNil)))))))))
def t_l_plus_6ff7 (c_l_least_9529 : DSp) : DTS :=
 (dSeq (dAsg (dOp gAdd (dOp (rBin CMul fun i j => i * j) (dOp gIx (dVar 1) (dC (.int 0))) (dOp gIx (dVar 2) (dC (.int 2)))) (dOp (rBin CMul fun i j => i * j) (dOp (rBin CMul fun i j => i * j) (dVar 3) (dOp gIx (dVar 2) (dC (.int 0)))) (dOp gIx (dVar 1) (dC (.int 2))))) (dName 4))
 (dRet (dCall 4 c_l_least_9529 [] DX0 (dCons (dVar 0) (dCons (dVar 4) (dCons (dOp gAdd (dOp (rBin CMul fun i j => i * j) (dOp gIx (dVar 1) (dC (.int 1))) (dOp gIx (dVar 2) (dC (.int 2)))) (dOp (rBin CMul fun i j => i * j) (dOp (rBin CMul fun i j => i * j) (dVar 3) (dOp gIx (dVar 2) (dC (.int 1)))) (dOp gIx (dVar 1) (dC (.int 2))))) (dCons (dOp (rBin CMul fun i j => i * j) (dOp gIx (dVar 1) (dC (.int 2))) (dOp gIx (dVar 2) (dC (.int 2)))) dNil)))))))
def t_l_times_84e3 (c_l_least_9529 : DSp) : DTS :=
 (dSeq (dAsg (dOp gAdd (dOp (rBin CMul fun i j => i * j) (dOp gIx (dVar 1) (dC (.int 0))) (dOp gIx (dVar 2) (dC (.int 0)))) (dOp (rBin CMul fun i j => i * j) (dOp (rBin CMul fun i j => i * j) (dVar 0) (dOp gIx (dVar 1) (dC (.int 1)))) (dOp gIx (dVar 2) (dC (.int 1))))) (dName 3))
 (dRet (dCall 4 c_l_least_9529 [] DX0 (dCons (dVar 0) (dCons (dVar 3) (dCons (dOp gAdd (dOp (rBin CMul fun i j => i * j) (dOp gIx (dVar 1) (dC (.int 0))) (dOp gIx (dVar 2) (dC (.int 1)))) (dOp (rBin CMul fun i j => i * j) (dOp gIx (dVar 1) (dC (.int 1))) (dOp gIx (dVar 2) (dC (.int 0))))) (dCons (dOp (rBin CMul fun i j => i * j) (dOp gIx (dVar 1) (dC (.int 2))) (dOp gIx (dVar 2) (dC (.int 2)))) dNil)))))))
def t_l_right_7f64 (c_l_measure_0db7 : DSp) (c_l_drawn_33f3 : DSp) (c_root_times : DSp) (c_root_less : DSp) (c_root_plus : DSp) (c_l_times_84e3 : DSp) (c_l_plus_6ff7 : DSp) (c_root_over : DSp) (c_l_least_9529 : DSp) : DTS :=
 (dSeq (dAsg (dCall 2 c_l_measure_0db7 [] DX0 (dCons (dVar 0) (dCons (dC (.int 28)) dNil))) (dName 1))
 (dSeq (dFor (dRngI gRng1 (dCons (dC (.int 3)) dNil)) (dName 2) (dSeq (dAsg (dLc false (dRngI gRng1 (dCons (dC (.int 3)) dNil)) (dName 6) dYes (dCall 3 c_l_drawn_33f3 [] DX0 (dCons (dVar 0) (dCons (dVar 1) (dCons (dC (.int 20)) dNil)))) [6]) (dGTup 3 (dGCons (dName 3) (dGCons (dName 4) (dGCons (dName 5) dGNil)))))
 (dSeq (dAsg (dLst (dCons (dCall 3 c_root_plus [] DX0 (dCons (dVar 1) (dCons (dVar 3) (dCons (dVar 4) dNil)))) (dCons (dCall 3 c_root_less [] DX0 (dCons (dVar 1) (dCons (dVar 3) (dCons (dVar 4) dNil)))) (dCons (dCall 3 c_root_times [] DX0 (dCons (dVar 1) (dCons (dVar 3) (dCons (dVar 4) dNil)))) dNil)))) (dName 7))
 (dSeq (dIfS (dTru (dOp gNe (dCB gRepr (dCons (dVar 7) dNil)) (dCB gRepr (dCons (dLst (dCons (dCall 4 c_l_plus_6ff7 [] DX0 (dCons (dVar 1) (dCons (dVar 3) (dCons (dVar 4) (dCons (dC (.int 1)) dNil))))) (dCons (dCall 4 c_l_plus_6ff7 [] DX0 (dCons (dVar 1) (dCons (dVar 3) (dCons (dVar 4) (dCons (dNeg (dC (.int 1))) dNil))))) (dCons (dCall 3 c_l_times_84e3 [] DX0 (dCons (dVar 1) (dCons (dVar 3) (dCons (dVar 4) dNil)))) dNil)))) dNil)))) (dRet (dC (.bl false))) dNext)
 (dSeq (dIfS (dOr (dTru (dOp gNe (dCallK 3 3 c_root_plus [2, 1, 0] DX0 (dCons (dVar 4) (dCons (dVar 3) (dCons (dVar 1) dNil)))) (dOp gIx (dVar 7) (dC (.int 0))))) (dTru (dOp gNe (dCallK 3 3 c_root_less [2, 1, 0] DX0 (dCons (dVar 4) (dCons (dVar 3) (dCons (dVar 1) dNil)))) (dOp gIx (dVar 7) (dC (.int 1)))))) (dRet (dC (.bl false))) dNext)
 (dSeq (dIfS (dTru (dOp gNe (dCallK 3 3 c_root_times [2, 1, 0] DX0 (dCons (dVar 4) (dCons (dVar 3) (dCons (dVar 1) dNil)))) (dOp gIx (dVar 7) (dC (.int 2))))) (dRet (dC (.bl false))) dNext)
 (dSeq (dIfS (dTru (dOp gNe (dCall 3 c_root_times [] DX0 (dCons (dVar 1) (dCons (dVar 3) (dCons (dCall 3 c_root_plus [] DX0 (dCons (dVar 1) (dCons (dVar 4) (dCons (dVar 5) dNil)))) dNil)))) (dCall 4 c_l_plus_6ff7 [] DX0 (dCons (dVar 1) (dCons (dOp gIx (dVar 7) (dC (.int 2))) (dCons (dCall 3 c_l_times_84e3 [] DX0 (dCons (dVar 1) (dCons (dVar 3) (dCons (dVar 5) dNil)))) (dCons (dC (.int 1)) dNil))))))) (dRet (dC (.bl false))) dNext)
 (dIfS (dTru (dOp gNe (dTup (dCons (dOp gIx (dVar 4) (dC (.int 0))) (dCons (dOp gIx (dVar 4) (dC (.int 1))) dNil))) (dTup (dCons (dC (.int 0)) (dCons (dC (.int 0)) dNil))))) (dSeq (dAsg (dCall 3 c_root_over [] DX0 (dCons (dVar 1) (dCons (dVar 3) (dCons (dVar 4) dNil)))) (dName 8))
 (dSeq (dIfS (dOr (dTru (dOp gNe (dCall 3 c_l_times_84e3 [] DX0 (dCons (dVar 1) (dCons (dVar 8) (dCons (dVar 4) dNil)))) (dVar 3))) (dTru (dOp gNe (dVar 8) (dCall 4 c_l_least_9529 [] DX0 (dCons (dVar 1) (dCons (dOp gIx (dVar 8) (dC (.int 0))) (dCons (dOp gIx (dVar 8) (dC (.int 1))) (dCons (dOp gIx (dVar 8) (dC (.int 2))) dNil)))))))) (dRet (dC (.bl false))) dNext)
 (dIfS (dOr (dTru (dOp gNe (dCallK 3 3 c_root_over [2, 1, 0] DX0 (dCons (dVar 4) (dCons (dVar 3) (dCons (dVar 1) dNil)))) (dVar 8))) (dTru (dOp gNe (dCall 3 c_root_over [] DX0 (dCons (dVar 1) (dCons (dOp gIx (dVar 7) (dC (.int 2))) (dCons (dVar 4) dNil)))) (dVar 3)))) (dRet (dC (.bl false))) dNext))) dNext))))))))
 (dRet (dC (.bl true)))))
def t_l_law_1aad (c_l_right_7f64 : DSp) (c_l_generator_b324 : DSp) (c_root_times : DSp) (c_root_over : DSp) (c_root_plus : DSp) (c_root_less : DSp) : DTS :=
 (dSeq (dIfS (dNot (dTru (dCall 1 c_l_right_7f64 [] DX0 (dCons (dCall 2 c_l_generator_b324 [] DX0 (dCons (dVar 0) (dCons (dC (.int 0)) dNil))) dNil)))) (dRet (dC (.bl false))) dNext)
 (dSeq (dIfS (dOr (dTru (dOp gNe (dCall 3 c_root_times [] DX0 (dCons (dC (.int 5)) (dCons (dTup (dCons (dC (.int 1)) (dCons (dC (.int 1)) (dCons (dC (.int 2)) dNil)))) (dCons (dTup (dCons (dC (.int 1)) (dCons (dC (.int 1)) (dCons (dC (.int 2)) dNil)))) dNil)))) (dTup (dCons (dC (.int 3)) (dCons (dC (.int 1)) (dCons (dC (.int 2)) dNil)))))) (dTru (dOp gNe (dCall 3 c_root_over [] DX0 (dCons (dC (.int 5)) (dCons (dTup (dCons (dC (.int 1)) (dCons (dC (.int 0)) (dCons (dC (.int 1)) dNil)))) (dCons (dTup (dCons (dC (.int 1)) (dCons (dC (.int 1)) (dCons (dC (.int 2)) dNil)))) dNil)))) (dTup (dCons (dNeg (dC (.int 1))) (dCons (dC (.int 1)) (dCons (dC (.int 2)) dNil))))))) (dRet (dC (.bl false))) dNext)
 (dRet (dAndV (dOp gEq (dCall 3 c_root_plus [] DX0 (dCons (dC (.int 5)) (dCons (dTup (dCons (dC (.int 1)) (dCons (dC (.int 1)) (dCons (dC (.int 2)) dNil)))) (dCons (dTup (dCons (dC (.int 1)) (dCons (dNeg (dC (.int 1))) (dCons (dC (.int 2)) dNil)))) dNil)))) (dTup (dCons (dC (.int 1)) (dCons (dC (.int 0)) (dCons (dC (.int 1)) dNil))))) (dAndV (dOp gEq (dCall 3 c_root_less [] DX0 (dCons (dC (.int 8)) (dCons (dTup (dCons (dC (.int 0)) (dCons (dC (.int 1)) (dCons (dC (.int 2)) dNil)))) (dCons (dTup (dCons (dC (.int 1)) (dCons (dC (.int 0)) (dCons (dC (.int 1)) dNil)))) dNil)))) (dTup (dCons (dNeg (dC (.int 2))) (dCons (dC (.int 1)) (dCons (dC (.int 2)) dNil))))) (dOp gEq (dCall 3 c_root_over [] DX0 (dCons (dC (.int 9)) (dCons (dTup (dCons (dC (.int 6)) (dCons (dC (.int 0)) (dCons (dC (.int 1)) dNil)))) (dCons (dTup (dCons (dC (.int 4)) (dCons (dC (.int 0)) (dCons (dC (.int 1)) dNil)))) dNil)))) (dTup (dCons (dC (.int 3)) (dCons (dC (.int 0)) (dCons (dC (.int 2)) dNil))))))))))
end DL
namespace DL
open PySem PySem.Spec PyProof.Rows L2
local macro_rules | `(tactic| walk_at "rd") => `(tactic| simp only [startD, List.map, List.replicate, List.length_cons, List.length_nil, List.append_eq, List.append_nil, List.nil_append, List.cons_append, Nat.reduceSub, Nat.reduceAdd, List.getElem?_cons_zero, List.getElem?_cons_succ, List.set_cons_zero, List.set_cons_succ,
  dC, dVar, dOp, dTru, gTru, tru, dChain, dAnd, dOr, dNot, dAndV, dOrV, dNotV, dIf, dNeg, gNeg, dNil, dCons, dTup, dLst, dOwn, gIx, rBin, gAdd, gCmpI, dCall, dCallK, dSeq, dNext, dDrop, dRet, dRetN, dIfS, dName, dGNil, dGCons, dGTup, dSub, gSetL, dAsg, dPar, dPar3, dAug, gIpI, dSeqI, gSeqI, dRngI, gRng1, gRng2, dCB, gAbs, gInt, gMax, gMin, gGcd, gLen, lenD, gIsi, tyM, tyD, dBits, gBits, dMet, gAppend, dPart, dNoPart, dSl, dEnds, gIs, isB, dNever, dFor, dLc, wipeD, dYes,
  sizeLine_eq, Nat.reduceLeDiff, gEq_int, gNe_int, gEq_strs, gNe_strs, gIn_two, gRepr_bl, rs_lst, rs_tup, rs_scr, rs_int, atI_0, atI_1, atI_2, atI_3, atI_4, atI_5, ixN_30, ixN_31, ixN_32, gEq_bl, gNe_bl, decide_eq_true_eq, beq_iff_eq, Bool.not_eq_true', beq_eq_false_iff_ne, decide_eq_false_iff_not, Bool.not_true, Bool.not_false, if_true, if_false, Bool.false_eq_true, ite_true, ite_false, true_and, and_true, ne_eq, Bool.bne_false, Bool.bne_true, reduceCtorEq])
local macro_rules | `(tactic| walk_at "kb") => `(tactic| simp only [kb_NoneType_list, kb_bool_list, kb_int_list, kb_str_list, kb_tuple_list, kb_list_list, kb_dict_list, kb_NoneType_int, kb_bool_int, kb_int_int, kb_str_int, kb_tuple_int, kb_list_int, kb_dict_int, kb_NoneType_bool, kb_bool_bool, kb_int_bool, kb_str_bool, kb_tuple_bool, kb_list_bool, kb_dict_bool, kb_NoneType_tuple, kb_bool_tuple, kb_int_tuple, kb_str_tuple, kb_tuple_tuple, kb_list_tuple, kb_dict_tuple, if_true, if_false, Bool.false_eq_true, ite_true, ite_false, Bool.not_true, Bool.not_false])
/-! ### bits -/
def Bi (n : Nat) (i : Int) : Prop := i.natAbs < 2 ^ n
theorem Bi.mono {n k : Nat} {i : Int} (h : Bi n i) (hk : n ≤ k := by decide) : Bi k i := Nat.lt_of_lt_of_le h (Nat.pow_le_pow_right (by decide) hk)
theorem Bi.mul {n k : Nat} {i j : Int} (h : Bi n i) (g : Bi k j) : Bi (n + k) (i * j) := by
  unfold Bi at *
  rw [Int.natAbs_mul, Nat.pow_add]
  exact Nat.mul_lt_mul'' h g
theorem Bi.add {n : Nat} {i j : Int} (h : Bi n i) (g : Bi n j) : Bi (n + 1) (i + j) := by
  unfold Bi at *
  rw [Nat.pow_succ]
  omega
theorem Bi.sub {n : Nat} {i j : Int} (h : Bi n i) (g : Bi n j) : Bi (n + 1) (i - j) := by
  unfold Bi at *
  rw [Nat.pow_succ]
  omega
theorem Bi.neg {n : Nat} {i : Int} (h : Bi n i) : Bi n (0 - i) := by
  unfold Bi at *
  omega
theorem Bi.sm {n : Nat} {i : Int} (h : Bi n i) (hn : n ≤ 400000 := by decide) : Sm i := Sm.of n h hn
theorem Bi.big {n : Nat} {i : Int} (h : Bi n i) (hn : n ≤ 4000 := by decide) : -BIG ≤ i ∧ i ≤ BIG := by
  have h1 := bign_ge hn
  unfold Bi at h
  unfold BIG
  omega
theorem Bi.of_dvd {n : Nat} {c a x : Int} (h : Bi n x) (hc : c ≠ 0) (e : x = c * a) : Bi n a := by
  unfold Bi at *
  rw [e, Int.natAbs_mul] at h
  exact Nat.lt_of_le_of_lt (Nat.le_mul_of_pos_left _ (by omega)) h
theorem Bi.lit {n : Nat} {i : Int} (h : Bi n i) : lit n (.int i) = true ∨ n = 0 := by
  by_cases h0 : n = 0
  · exact .inr h0
  · left
    simp only [DL.lit, decide_eq_true_eq]
    exact log2_of n h (by omega)
theorem Bi.of_abs {n : Nat} {i : Int} (k : Nat) (h : i.natAbs ≤ k) (hk : k < 2 ^ n := by decide) : Bi n i := Nat.lt_of_le_of_lt h hk

/-! ### normal forms -/
abbrev T3 (a b c : Int) : D := .tup [.int a, .int b, .int c]
/-- (a, b, c) in least terms, over the measure m -/
structure NF (m a b c : Int) : Prop where
  pos : 1 ≤ c
  cop : Int.gcd (Int.gcd a b : Int) c = 1
  pr : isSq m → b = 0
theorem NF.is {m a b c : Int} (h : NF m a b c) : isRootD m (T3 a b c) = true := by
  have h1 := h.pos
  unfold isRootD
  simp only [T3, h1, decide_true, h.cop, Bool.true_and]
  by_cases hq : isSq m
  · rw [h.pr hq]; rfl
  · have : (isq m * isq m == m) = false := beq_eq_false_iff_ne.mpr hq
    simp [this]
def nC (X Y b : Int) : Int := if b < 0 then 0 - (Int.gcd (Int.gcd X Y : Int) b : Int) else (Int.gcd (Int.gcd X Y : Int) b : Int)
def nf (X Y b : Int) : D := T3 (X.fdiv (nC X Y b)) (Y.fdiv (nC X Y b)) (b.fdiv (nC X Y b))
theorem rootN_nf (m x y b : Int) : rootN m x y b = nf (rnX m x y) (rnY m y) b := rfl
theorem rootN_pr {m x y : Int} (b : Int) (h : isSq m → y = 0) : rootN m x y b = nf x y b := by
  rw [rootN_nf]
  by_cases hq : isSq m
  · have e := h hq
    subst e
    unfold rnX rnY
    rw [if_pos hq, if_pos hq, Int.zero_mul, Int.add_zero]
  · unfold rnX rnY
    rw [if_neg hq, if_neg hq]
theorem nf_parts (X Y : Int) {b : Int} (hb : b ≠ 0) : ∃ c a1 a2 a3, c ≠ 0 ∧ X = c * a1 ∧ Y = c * a2 ∧ b = c * a3 ∧ nf X Y b = T3 a1 a2 a3 ∧ 1 ≤ a3 ∧ Int.gcd (Int.gcd a1 a2 : Int) a3 = 1 := by
  have hg := gcd_dvd3 X Y b
  have hg0 := gcd_bound (g := (Int.gcd X Y : Int)) hb
  have hcd : nC X Y b ≠ 0 ∧ nC X Y b ∣ X ∧ nC X Y b ∣ Y ∧ nC X Y b ∣ b ∧ (nC X Y b).natAbs = Int.gcd (Int.gcd X Y : Int) b ∧ (nC X Y b < 0 ↔ b < 0) := by
    unfold nC
    split
    · refine ⟨by omega, ?_, ?_, ?_, by omega, by omega⟩
      · rw [Int.zero_sub]; exact Int.neg_dvd.mpr hg.1
      · rw [Int.zero_sub]; exact Int.neg_dvd.mpr hg.2.1
      · rw [Int.zero_sub]; exact Int.neg_dvd.mpr hg.2.2
    · exact ⟨by omega, hg.1, hg.2.1, hg.2.2, by omega, by omega⟩
  have hn : nf X Y b = T3 (X.fdiv (nC X Y b)) (Y.fdiv (nC X Y b)) (b.fdiv (nC X Y b)) := rfl
  generalize nC X Y b = c at hcd hn
  obtain ⟨h0, ⟨t1, e1⟩, ⟨t2, e2⟩, ⟨t3, e3⟩, hab, hsg⟩ := hcd
  rw [e1, e2, e3, Int.mul_fdiv_cancel_left _ h0, Int.mul_fdiv_cancel_left _ h0, Int.mul_fdiv_cancel_left _ h0] at hn
  refine ⟨c, t1, t2, t3, h0, e1, e2, e3, by rw [e1, e2, e3]; exact hn, ?_, ?_⟩
  · by_cases z : 1 ≤ t3
    · exact z
    · exfalso
      rcases (by omega : c < 0 ∨ 0 < c) with q | q
      · have h1 : 0 ≤ c * t3 := Int.mul_nonneg_of_nonpos_of_nonpos (by omega) (by omega)
        have := hsg.mp q
        omega
      · have h1 : c * t3 ≤ 0 := Int.mul_nonpos_of_nonneg_of_nonpos (by omega) (by omega)
        omega
  · have h2 : Int.gcd (Int.gcd X Y : Int) b = c.natAbs * Int.gcd (Int.gcd t1 t2 : Int) t3 := by
      rw [e1, e2, e3, Int.gcd_mul_left]
      have e4 : ((c.natAbs * Int.gcd t1 t2 : Nat) : Int) = (c.natAbs : Int) * (Int.gcd t1 t2 : Int) := Int.natCast_mul _ _
      rw [e4]
      unfold Int.gcd
      rw [Int.natAbs_mul, Int.natAbs_mul, Int.natAbs_natCast, Nat.gcd_mul_left]
    rw [← hab] at h2
    have h3 : c.natAbs * 1 = c.natAbs * Int.gcd (Int.gcd t1 t2 : Int) t3 := by omega
    exact (Nat.eq_of_mul_eq_mul_left (by omega) h3).symm
theorem nf_scale {k X Y b : Int} (hk : k ≠ 0) (hb : b ≠ 0) : nf (k * X) (k * Y) (k * b) = nf X Y b := by
  have h : ¬ isSq 2 := by
    have e : isq 2 = 1 := isq_uni (by decide) (by decide) (by decide)
    unfold isSq; rw [e]; decide
  rw [← rootN_pr (m := 2) (k * b) (fun z => absurd z h), ← rootN_pr (m := 2) b (fun z => absurd z h)]
  exact rootN_scale hk hb
theorem nf_eq {X Y b X' Y' b' : Int} (hb : b ≠ 0) (hb' : b' ≠ 0) (h1 : X * b' = X' * b) (h2 : Y * b' = Y' * b) : nf X Y b = nf X' Y' b' := by
  rw [← nf_scale hb' hb, ← nf_scale (X := X') (Y := Y') hb hb']
  have e1 : b' * X = b * X' := by rw [Int.mul_comm, h1, Int.mul_comm]
  have e2 : b' * Y = b * Y' := by rw [Int.mul_comm, h2, Int.mul_comm]
  rw [e1, e2, Int.mul_comm b' b]
theorem nf_self {a b c : Int} (h1 : 1 ≤ c) (h2 : Int.gcd (Int.gcd a b : Int) c = 1) : nf a b c = T3 a b c := by
  have e : nC a b c = 1 := by unfold nC; rw [if_neg (by omega), h2]; rfl
  unfold nf
  rw [e, Int.fdiv_one, Int.fdiv_one, Int.fdiv_one]
theorem NF.self {m a b c : Int} (h : NF m a b c) : rootN m a b c = T3 a b c := by
  rw [rootN_pr c h.pr, nf_self h.pos h.cop]
/-- a root number in least terms: its parts -/
theorem rootN_parts {m x y b : Int} (hb : b ≠ 0) (h : isSq m → y = 0) : ∃ c a1 a2 a3, c ≠ 0 ∧ x = c * a1 ∧ y = c * a2 ∧ b = c * a3 ∧ rootN m x y b = T3 a1 a2 a3 ∧ NF m a1 a2 a3 := by
  obtain ⟨c, a1, a2, a3, h0, e1, e2, e3, e4, h1, h2⟩ := nf_parts x y hb
  refine ⟨c, a1, a2, a3, h0, e1, e2, e3, by rw [rootN_pr b h, e4], h1, h2, fun q => ?_⟩
  have := h q
  rw [this] at e2
  rcases Int.mul_eq_zero.mp e2.symm with z | z
  · exact absurd z h0
  · exact z
theorem rootN_partsX {m x y b : Int} (hb : b ≠ 0) : ∃ c a1 a2 a3, c ≠ 0 ∧ rnX m x y = c * a1 ∧ rnY m y = c * a2 ∧ b = c * a3 ∧ rootN m x y b = T3 a1 a2 a3 ∧ NF m a1 a2 a3 := by
  obtain ⟨c, a1, a2, a3, h0, e1, e2, e3, e4, h1, h2⟩ := nf_parts (rnX m x y) (rnY m y) hb
  refine ⟨c, a1, a2, a3, h0, e1, e2, e3, e4, h1, h2, fun q => ?_⟩
  have e5 : rnY m y = 0 := if_pos q
  rw [e5] at e2
  rcases Int.mul_eq_zero.mp e2.symm with z | z
  · exact absurd z h0
  · exact z
/-- a square times a measure that is a square: the measure is one -/
theorem sq_of_prod {m a b : Int} (hb : b ≠ 0) (hm : 0 ≤ m) (h : a * a = m * b * b) : isSq m := by
  have h1 : b * b ∣ a * a := ⟨m, by rw [h, Int.mul_assoc, Int.mul_comm]⟩
  have h2 : b ∣ a := by
    have h3 : b.natAbs * b.natAbs ∣ a.natAbs * a.natAbs := by
      rw [← Int.natAbs_mul, ← Int.natAbs_mul]; exact Int.natAbs_dvd_natAbs.mpr h1
    have h4 : b.natAbs ^ 2 ∣ a.natAbs ^ 2 := by rw [Nat.pow_two, Nat.pow_two]; exact h3
    exact Int.natAbs_dvd_natAbs.mp ((Nat.pow_dvd_pow_iff (by decide)).mp h4)
  obtain ⟨t, rfl⟩ := h2
  have h5 : (b * b) * (t * t) = (b * b) * m := by grind
  have h6 : t * t = m := Int.eq_of_mul_eq_mul_left (Int.mul_ne_zero hb hb) h5
  have h7 : ((t.natAbs : Nat) : Int) * ((t.natAbs : Nat) : Int) = m := by
    rw [← h6, ← Int.natCast_mul, Int.natAbs_mul_self]
  unfold isSq
  rw [← h7, isq_self (by omega)]
theorem norm_ne {m a b : Int} (hm : 0 ≤ m) (hp : isSq m → b = 0) (h : ¬ (a = 0 ∧ b = 0)) : a * a - m * b * b ≠ 0 := by
  intro e
  by_cases hb : b = 0
  · subst hb
    have : a * a = 0 := by grind
    rcases Int.mul_eq_zero.mp this with z | z <;> exact h ⟨z, rfl⟩
  · exact hb (hp (sq_of_prod (a := a) hb hm (by omega)))

/-! ### sums, products, quotients -/
def Sz (n : Nat) (a b c : Int) : Prop := Bi n a ∧ Bi n b ∧ Bi n c
def rnPlus (m a1 a2 a3 b1 b2 b3 : Int) : D := rootN m (a1 * b3 + b1 * a3) (a2 * b3 + b2 * a3) (a3 * b3)
def rnTimes (m a1 a2 a3 b1 b2 b3 : Int) : D := rootN m (a1 * b1 + m * a2 * b2) (a1 * b2 + a2 * b1) (a3 * b3)
def rnInv (m b1 b2 b3 : Int) : D := rootN m (b1 * b3) (0 - b2 * b3) (b1 * b1 - m * b2 * b2)
theorem rnPlus_parts {m a1 a2 a3 b1 b2 b3 : Int} (ha : NF m a1 a2 a3) (hb : NF m b1 b2 b3) : ∃ c t1 t2 t3, c ≠ 0 ∧ a1 * b3 + b1 * a3 = c * t1 ∧ a2 * b3 + b2 * a3 = c * t2 ∧ a3 * b3 = c * t3 ∧ rnPlus m a1 a2 a3 b1 b2 b3 = T3 t1 t2 t3 ∧ NF m t1 t2 t3 := by
  refine rootN_parts (Int.mul_ne_zero (by have := ha.pos; omega) (by have := hb.pos; omega)) fun q => ?_
  rw [ha.pr q, hb.pr q]; simp
theorem rnTimes_parts {m a1 a2 a3 b1 b2 b3 : Int} (ha : NF m a1 a2 a3) (hb : NF m b1 b2 b3) : ∃ c t1 t2 t3, c ≠ 0 ∧ a1 * b1 + m * a2 * b2 = c * t1 ∧ a1 * b2 + a2 * b1 = c * t2 ∧ a3 * b3 = c * t3 ∧ rnTimes m a1 a2 a3 b1 b2 b3 = T3 t1 t2 t3 ∧ NF m t1 t2 t3 := by
  refine rootN_parts (Int.mul_ne_zero (by have := ha.pos; omega) (by have := hb.pos; omega)) fun q => ?_
  rw [ha.pr q, hb.pr q]; simp
theorem rnInv_parts {m b1 b2 b3 : Int} (hm : 0 ≤ m) (hb : NF m b1 b2 b3) (h : ¬ (b1 = 0 ∧ b2 = 0)) : ∃ c t1 t2 t3, c ≠ 0 ∧ b1 * b3 = c * t1 ∧ 0 - b2 * b3 = c * t2 ∧ b1 * b1 - m * b2 * b2 = c * t3 ∧ rnInv m b1 b2 b3 = T3 t1 t2 t3 ∧ NF m t1 t2 t3 := by
  refine rootN_parts (norm_ne hm hb.pr h) fun q => ?_
  rw [hb.pr q]; simp
def sp_check_root : DSp := fun ds M Q _ => ∃ m d, ds = [.int m, d] ∧ 0 ≤ m ∧ m ≤ BIG ∧ Rootable M d ∧ isRootD m d = true ∧ Q .non M
theorem rd_check_root : ∀ ds M Q, ds.length = 2 → sp_check_root ds M Q DX0 → t_check_root sp_is_root_by (dEnds M Q) (startD 2 ds) M := by
  rintro _ M Q - ⟨m, d, rfl, h0, hB, hr, h, q⟩
  unfold t_check_root
  walk_at "rd"
  refine ⟨m, d, rfl, h0, hB, hr, ?_⟩
  rw [h]
  walk_at "rd"
  exact rtq q
def sp_plus_by : DSp := fun ds M Q _ => ∃ m a1 a2 a3 b1 b2 b3 : Int, ds = [.int m, T3 a1 a2 a3, T3 b1 b2 b3] ∧ 0 ≤ m ∧ Bi 200 m ∧ a3 ≠ 0 ∧ b3 ≠ 0 ∧ Sz 1800 a1 a2 a3 ∧ Sz 1800 b1 b2 b3 ∧ Q (rnPlus m a1 a2 a3 b1 b2 b3) M
theorem rd_plus_by : ∀ ds M Q, ds.length = 3 → sp_plus_by ds M Q DX0 → t_plus_by sp_root_by (dEnds M Q) (startD 4 ds) M := by
  rintro _ M Q - ⟨m, a1, a2, a3, b1, b2, b3, rfl, h0, hm, a0, b0, ⟨sa1, sa2, sa3⟩, ⟨sb1, sb2, sb3⟩, q⟩
  unfold t_plus_by
  walk_at "rd"
  have y := ((sa2.mul sb3).add (sb2.mul sa3)).big
  have b := (sa3.mul sb3).big
  exact ⟨⟨sa1.sm, sb3.sm⟩, ⟨sb1.sm, sa3.sm⟩, ⟨sa2.sm, sb3.sm⟩, ⟨sb2.sm, sa3.sm⟩, ⟨sa3.sm, sb3.sm⟩, m, _, _, _, rfl, h0, hm.big.2, y.1, y.2, b.1, b.2, Int.mul_ne_zero a0 b0, rtq q⟩
def sp_minus_by : DSp := fun ds M Q _ => ∃ m a1 a2 a3 b1 b2 b3 : Int, ds = [.int m, T3 a1 a2 a3, T3 b1 b2 b3] ∧ 0 ≤ m ∧ Bi 200 m ∧ a3 ≠ 0 ∧ b3 ≠ 0 ∧ Sz 1800 a1 a2 a3 ∧ Sz 1800 b1 b2 b3 ∧ Q (rnPlus m a1 a2 a3 (0 - b1) (0 - b2) b3) M
theorem rd_minus_by : ∀ ds M Q, ds.length = 3 → sp_minus_by ds M Q DX0 → t_minus_by sp_plus_by (dEnds M Q) (startD 3 ds) M := by
  rintro _ M Q - ⟨m, a1, a2, a3, b1, b2, b3, rfl, h0, hm, a0, b0, sa, ⟨sb1, sb2, sb3⟩, q⟩
  unfold t_minus_by
  walk_at "rd"
  exact ⟨m, a1, a2, a3, _, _, _, rfl, h0, hm, a0, b0, sa, ⟨sb1.neg, sb2.neg, sb3⟩, rtq q⟩
def sp_times_by : DSp := fun ds M Q _ => ∃ m a1 a2 a3 b1 b2 b3 : Int, ds = [.int m, T3 a1 a2 a3, T3 b1 b2 b3] ∧ 0 ≤ m ∧ Bi 200 m ∧ a3 ≠ 0 ∧ b3 ≠ 0 ∧ Sz 1800 a1 a2 a3 ∧ Sz 2100 b1 b2 b3 ∧ Q (rnTimes m a1 a2 a3 b1 b2 b3) M
theorem rd_times_by : ∀ ds M Q, ds.length = 3 → sp_times_by ds M Q DX0 → t_times_by sp_root_by (dEnds M Q) (startD 4 ds) M := by
  rintro _ M Q - ⟨m, a1, a2, a3, b1, b2, b3, rfl, h0, hm, a0, b0, ⟨sa1, sa2, sa3⟩, ⟨sb1, sb2, sb3⟩, q⟩
  unfold t_times_by
  walk_at "rd"
  have y := ((sa1.mul sb2).add (sa2.mul sb1)).big
  have b := (sa3.mul sb3).big
  exact ⟨⟨sa1.sm, sb1.sm⟩, ⟨hm.sm, sa2.sm⟩, ⟨(hm.mul sa2).sm, sb2.sm⟩, ⟨sa1.sm, sb2.sm⟩, ⟨sa2.sm, sb1.sm⟩, ⟨sa3.sm, sb3.sm⟩, m, _, _, _, rfl, h0, hm.big.2, y.1, y.2, b.1, b.2, Int.mul_ne_zero a0 b0, rtq q⟩
def sp_over_by : DSp := fun ds M Q _ => ∃ m a1 a2 a3 b1 b2 b3 : Int, ds = [.int m, T3 a1 a2 a3, T3 b1 b2 b3] ∧ 0 ≤ m ∧ Bi 200 m ∧ a3 ≠ 0 ∧ Sz 1800 a1 a2 a3 ∧ Sz 900 b1 b2 b3 ∧ NF m b1 b2 b3 ∧ ¬ (b1 = 0 ∧ b2 = 0) ∧
  ∀ w1 w2 w3, rnInv m b1 b2 b3 = T3 w1 w2 w3 → NF m w1 w2 w3 → Q (rnTimes m a1 a2 a3 w1 w2 w3) M
theorem rd_over_by : ∀ ds M Q, ds.length = 3 → sp_over_by ds M Q DX0 → t_over_by sp_times_by sp_root_by (dEnds M Q) (startD 4 ds) M := by
  rintro _ M Q - ⟨m, a1, a2, a3, b1, b2, b3, rfl, h0, hm, a0, sa, ⟨sb1, sb2, sb3⟩, hb, hz, q⟩
  unfold t_over_by
  walk_at "rd"
  have y := (sb2.mul sb3).neg.big
  have bw : Bi 2001 (b1 * b1 - m * b2 * b2) := ((sb1.mul sb1).mono (k := 2000)).sub ((hm.mul sb2).mul sb2)
  have b := bw.big
  obtain ⟨c, w1, w2, w3, c0, e1, e2, e3, e4, hw⟩ := rnInv_parts h0 hb hz
  have e5 : rootN m (b1 * b3) (0 - b2 * b3) (b1 * b1 - m * b2 * b2) = T3 w1 w2 w3 := e4
  refine ⟨⟨sb1.sm, sb1.sm⟩, ⟨hm.sm, sb2.sm⟩, ⟨(hm.mul sb2).sm, sb2.sm⟩, ⟨sb1.sm, sb3.sm⟩, ⟨sb2.sm, sb3.sm⟩, m, _, _, _, rfl, h0, hm.big.2, y.1, y.2, b.1, b.2, norm_ne h0 hb.pr hz, ?_⟩
  rw [e5]
  refine ⟨m, a1, a2, a3, w1, w2, w3, rfl, h0, hm, a0, by have := hw.pos; omega, sa, ⟨?_, ?_, ?_⟩, rtq (q w1 w2 w3 e4 hw)⟩
  · exact ((sb1.mul sb3).of_dvd c0 e1).mono
  · exact ((sb2.mul sb3).neg.of_dvd c0 e2).mono
  · exact (bw.of_dvd c0 e3).mono
theorem rootable_T3 (M : Mem) (a b c : Int) : Rootable M (T3 a b c) := rootable_fine M rfl
theorem meas_le {m : Int} (h : isMeas (.int m) = true) : 0 ≤ m := by have := meas_ge h; omega
def sp_root_plus : DSp := fun ds M Q _ => ∃ m a1 a2 a3 b1 b2 b3 : Int, ds = [.int m, T3 a1 a2 a3, T3 b1 b2 b3] ∧ isMeas (.int m) = true ∧ Bi 200 m ∧ NF m a1 a2 a3 ∧ NF m b1 b2 b3 ∧ Sz 1800 a1 a2 a3 ∧ Sz 1800 b1 b2 b3 ∧ Q (rnPlus m a1 a2 a3 b1 b2 b3) M
def sp_root_less : DSp := fun ds M Q _ => ∃ m a1 a2 a3 b1 b2 b3 : Int, ds = [.int m, T3 a1 a2 a3, T3 b1 b2 b3] ∧ isMeas (.int m) = true ∧ Bi 200 m ∧ NF m a1 a2 a3 ∧ NF m b1 b2 b3 ∧ Sz 1800 a1 a2 a3 ∧ Sz 1800 b1 b2 b3 ∧ Q (rnPlus m a1 a2 a3 (0 - b1) (0 - b2) b3) M
def sp_root_times : DSp := fun ds M Q _ => ∃ m a1 a2 a3 b1 b2 b3 : Int, ds = [.int m, T3 a1 a2 a3, T3 b1 b2 b3] ∧ isMeas (.int m) = true ∧ Bi 200 m ∧ NF m a1 a2 a3 ∧ NF m b1 b2 b3 ∧ Sz 1800 a1 a2 a3 ∧ Sz 2100 b1 b2 b3 ∧ Q (rnTimes m a1 a2 a3 b1 b2 b3) M
def sp_root_over : DSp := fun ds M Q _ => ∃ m a1 a2 a3 b1 b2 b3 : Int, ds = [.int m, T3 a1 a2 a3, T3 b1 b2 b3] ∧ isMeas (.int m) = true ∧ Bi 200 m ∧ NF m a1 a2 a3 ∧ NF m b1 b2 b3 ∧ Sz 1800 a1 a2 a3 ∧ Sz 900 b1 b2 b3 ∧ ¬ (b1 = 0 ∧ b2 = 0) ∧
  ∀ w1 w2 w3, rnInv m b1 b2 b3 = T3 w1 w2 w3 → NF m w1 w2 w3 → Q (rnTimes m a1 a2 a3 w1 w2 w3) M
theorem rd_root_plus : ∀ ds M Q, ds.length = 3 → sp_root_plus ds M Q DX0 → t_root_plus sp_check_measure sp_check_root sp_plus_by (dEnds M Q) (startD 3 ds) M := by
  rintro _ M Q - ⟨m, a1, a2, a3, b1, b2, b3, rfl, hm, bm, ha, hb, sa, sb, q⟩
  unfold t_root_plus
  walk_at "rd"
  have m0 := meas_le hm
  exact ⟨m, rfl, hm, m, _, rfl, m0, bm.big.2, rootable_T3 M _ _ _, ha.is, m, _, rfl, m0, bm.big.2, rootable_T3 M _ _ _, hb.is, m, a1, a2, a3, b1, b2, b3, rfl, m0, bm, by have := ha.pos; omega, by have := hb.pos; omega, sa, sb, rtq q⟩
theorem rd_root_less : ∀ ds M Q, ds.length = 3 → sp_root_less ds M Q DX0 → t_root_less sp_check_measure sp_check_root sp_minus_by (dEnds M Q) (startD 3 ds) M := by
  rintro _ M Q - ⟨m, a1, a2, a3, b1, b2, b3, rfl, hm, bm, ha, hb, sa, sb, q⟩
  unfold t_root_less
  walk_at "rd"
  have m0 := meas_le hm
  exact ⟨m, rfl, hm, m, _, rfl, m0, bm.big.2, rootable_T3 M _ _ _, ha.is, m, _, rfl, m0, bm.big.2, rootable_T3 M _ _ _, hb.is, m, a1, a2, a3, b1, b2, b3, rfl, m0, bm, by have := ha.pos; omega, by have := hb.pos; omega, sa, sb, rtq q⟩
theorem rd_root_times : ∀ ds M Q, ds.length = 3 → sp_root_times ds M Q DX0 → t_root_times sp_check_measure sp_check_root sp_times_by (dEnds M Q) (startD 3 ds) M := by
  rintro _ M Q - ⟨m, a1, a2, a3, b1, b2, b3, rfl, hm, bm, ha, hb, sa, sb, q⟩
  unfold t_root_times
  walk_at "rd"
  have m0 := meas_le hm
  exact ⟨m, rfl, hm, m, _, rfl, m0, bm.big.2, rootable_T3 M _ _ _, ha.is, m, _, rfl, m0, bm.big.2, rootable_T3 M _ _ _, hb.is, m, a1, a2, a3, b1, b2, b3, rfl, m0, bm, by have := ha.pos; omega, by have := hb.pos; omega, sa, sb, rtq q⟩
theorem rd_root_over : ∀ ds M Q, ds.length = 3 → sp_root_over ds M Q DX0 → t_root_over sp_check_measure sp_check_root sp_over_by (dEnds M Q) (startD 3 ds) M := by
  rintro _ M Q - ⟨m, a1, a2, a3, b1, b2, b3, rfl, hm, bm, ha, hb, sa, sb, hz, q⟩
  unfold t_root_over
  walk_at "rd"
  have m0 := meas_le hm
  refine ⟨m, rfl, hm, m, _, rfl, m0, bm.big.2, rootable_T3 M _ _ _, ha.is, m, _, rfl, m0, bm.big.2, rootable_T3 M _ _ _, hb.is, ?_⟩
  have fin : sp_over_by [.int m, T3 a1 a2 a3, T3 b1 b2 b3] M (Rtq M Q) DX0 := ⟨m, a1, a2, a3, b1, b2, b3, rfl, m0, bm, by have := ha.pos; omega, sa, sb, hb, hz, fun w1 w2 w3 e h => rtq (q w1 w2 w3 e h)⟩
  dsimp only
  by_cases z1 : b1 = 0
  · rw [if_pos z1, if_neg (fun z2 => hz ⟨z1, z2⟩)]
    exact fin
  · rw [if_neg z1]
    exact fin
/-! ### the law's drawn root numbers -/
theorem rd_l_random_4762 : ∀ ds M Q, ds.length = 2 → sp_random ds M Q DX0 → t_l_random_4762 sp_hash (dEnds M Q) (startD 4 ds) M := rd_l_random_7821
/-- a drawn root number; its sizes -/
def sp_drawn : DSp := fun ds M Q _ => ∃ (k : Nat) (m n : Int), ds = [.own k, .int m, .int 20] ∧ isMeas (.int m) = true ∧ m ≤ 10 ^ 29 ∧ Gn k n M ∧ n ≤ P40 - 400 ∧ ∀ a1 a2 a3 M', NF m a1 a2 a3 → Sz 130 a1 a2 a3 → Gst k (n + 160) M M' → Q (T3 a1 a2 a3) M'
theorem isq_small {m : Int} (m0 : 0 ≤ m) (h : m ≤ 10 ^ 29) : Bi 50 (isq m) := by
  have i1 := isq_le m0
  have i0 := isq_nn m
  by_cases z : isq m < 10 ^ 15
  · exact Bi.of_abs (10 ^ 15) (by omega)
  · exfalso
    have : (10 ^ 15 : Int) * 10 ^ 15 ≤ isq m * isq m := Int.mul_le_mul (by omega) (by omega) (by decide) i0
    omega
theorem rd_l_drawn_33f3 : ∀ ds M Q, ds.length = 3 → sp_drawn ds M Q DX0 → t_l_drawn_33f3 sp_isq sp_random sp_root_by (dEnds M Q) (startD 9 ds) M := by
  rintro _ M Q - ⟨k, m, n, rfl, hm, hm29, hg, hn, q⟩
  have m0 := meas_le hm
  have p29 := p400_ten (i := 29) (by decide)
  have pb := p400_big
  have p9 := p400_900
  unfold t_l_drawn_33f3
  refine dSeq_open fun B hB => ?_
  walk_at "rd"
  refine ⟨m, rfl, m0, by omega, ?_⟩
  rw [← hB]
  clear hB B
  have i1 := isq_le_self m0
  have i0 := isq_nn m
  have sq : Sm (isq m) := sm_big (by omega) (by omega)
  refine dSeq_open fun B hB => ?_
  walk_at "rd"
  refine ⟨⟨sq, sq⟩, ?_⟩
  have bq := isq_small m0 hm29
  by_cases hq : isSq m
  · rw [if_pos (show isq m * isq m = m from hq)]
    refine ⟨k, 14, n, rfl, by decide, by omega, hg, by omega, fun v M1 v0 v1 g1 => ?_⟩
    dsimp only
    refine ⟨⟨by omega, by omega⟩, ?_⟩
    generalize hT : v.toNat = T
    have eT : T < 14 := by omega
    refine ⟨fun i r M' => i ≤ T ∧ M' = M1 ∧ ∃ b tn, r = [some (.own k), some (.int m), some (.int 20), some (.int b), some (.int (isq m)), tn, none, none, none] ∧ 2 ≤ b ∧ b ≤ 2 * 10 ^ i, ⟨by omega, rfl, 2, _, rfl, by omega, by decide⟩, ?_⟩
    rintro i r M' ⟨hi, rfl, b, tn, rfl, b5, b1⟩
    have hp := p400_ten (i := i) (by omega)
    refine ⟨trivial, fun hl => ?_, fun d hd => ?_⟩
    · have b2 : b ≤ 2 * 10 ^ (14 - 1) := by
        have h0 : (10 : Nat) ^ i ≤ 10 ^ (14 - 1) := Nat.pow_le_pow_right (by decide) (by omega)
        have e : ((10 ^ i : Nat) : Int) = (10 : Int) ^ i := by rw [Int.natCast_pow]; rfl
        omega
      have b2 : b ≤ 20000000000000 := b2
      rw [← hB]
      clear hB B
      dsimp only
      refine dSeq_open fun B hB => ?_
      walk_at "rd"
      have sb : Sm b := sm_big (by omega) (by omega)
      have s2 : Sm 2 := Sm.of 2 (by decide)
      refine ⟨⟨s2, sb⟩, k, _, _, rfl, by omega, by omega, g1.2.1, by omega, fun x M2 x0 x1 g2 => ?_⟩
      dsimp only
      refine ⟨⟨s2, sb⟩, k, _, _, rfl, by omega, by omega, g2.2.1, by omega, fun y M3 y0 y1 g3 => ?_⟩
      dsimp only
      refine ⟨k, _, _, rfl, by omega, by omega, g3.2.1, by omega, fun z M4 z0 z1 g4 => ?_⟩
      dsimp only
      rw [← hB]
      clear hB B
      walk_at "rd"
      refine ⟨m, _, _, _, rfl, m0, by omega, by omega, by omega, by omega, by omega, by omega, ?_⟩
      obtain ⟨c, t1, t2, t3, c0, e1, e2, e3, e4, ht⟩ := rootN_partsX (m := m) (x := x - b) (y := y - b) (b := 1 + z) (by omega)
      rw [e4]
      have bx : Bi 45 (x - b) := Bi.of_abs 20000000000000 (by omega)
      have by' : Bi 45 (y - b) := Bi.of_abs 20000000000000 (by omega)
      have bz : Bi 45 (1 + z) := Bi.of_abs (20000000000000 + 1) (by omega)
      have bX : Bi 130 (rnX m (x - b) (y - b)) := by
        unfold rnX
        rw [if_pos hq]
        exact ((bx.mono (k := 95)).add (by'.mul bq)).mono
      have bY : Bi 130 (rnY m (y - b)) := by
        unfold rnY
        rw [if_pos hq]
        exact Bi.of_abs 0 (by decide)
      exact (((g1.trans g2).trans g3).trans g4).rtq (q t1 t2 t3 M4 ht ⟨bX.of_dvd c0 e1, bY.of_dvd c0 e2, (bz.mono).of_dvd c0 e3⟩ ((((g1.trans g2).trans g3).trans g4).le (by omega)))
    · obtain ⟨hi2, rfl⟩ := rng_get.mp hd
      walk_at "rd"
      have sb : Sm b := sm_big (by omega) (by omega)
      refine ⟨⟨Sm.of 5 (by decide), sb⟩, by omega, _, _, rfl, by omega, ?_⟩
      rw [Int.pow_succ]
      omega
  · rw [if_neg (show ¬ isq m * isq m = m from hq)]
    refine ⟨k, 20, n, rfl, by decide, by omega, hg, by omega, fun v M1 v0 v1 g1 => ?_⟩
    dsimp only
    refine ⟨⟨by omega, by omega⟩, ?_⟩
    generalize hT : v.toNat = T
    have eT : T < 20 := by omega
    refine ⟨fun i r M' => i ≤ T ∧ M' = M1 ∧ ∃ b tn, r = [some (.own k), some (.int m), some (.int 20), some (.int b), some (.int (isq m)), tn, none, none, none] ∧ 2 ≤ b ∧ b ≤ 2 * 10 ^ i, ⟨by omega, rfl, 2, _, rfl, by omega, by decide⟩, ?_⟩
    rintro i r M' ⟨hi, rfl, b, tn, rfl, b5, b1⟩
    have hp := p400_ten (i := i) (by omega)
    refine ⟨trivial, fun hl => ?_, fun d hd => ?_⟩
    · have b2 : b ≤ 2 * 10 ^ (20 - 1) := by
        have h0 : (10 : Nat) ^ i ≤ 10 ^ (20 - 1) := Nat.pow_le_pow_right (by decide) (by omega)
        have e : ((10 ^ i : Nat) : Int) = (10 : Int) ^ i := by rw [Int.natCast_pow]; rfl
        omega
      have b2 : b ≤ 20000000000000000000 := b2
      rw [← hB]
      clear hB B
      dsimp only
      refine dSeq_open fun B hB => ?_
      walk_at "rd"
      have sb : Sm b := sm_big (by omega) (by omega)
      have s2 : Sm 2 := Sm.of 2 (by decide)
      refine ⟨⟨s2, sb⟩, k, _, _, rfl, by omega, by omega, g1.2.1, by omega, fun x M2 x0 x1 g2 => ?_⟩
      dsimp only
      refine ⟨⟨s2, sb⟩, k, _, _, rfl, by omega, by omega, g2.2.1, by omega, fun y M3 y0 y1 g3 => ?_⟩
      dsimp only
      refine ⟨k, _, _, rfl, by omega, by omega, g3.2.1, by omega, fun z M4 z0 z1 g4 => ?_⟩
      dsimp only
      rw [← hB]
      clear hB B
      walk_at "rd"
      refine ⟨m, _, _, _, rfl, m0, by omega, by omega, by omega, by omega, by omega, by omega, ?_⟩
      obtain ⟨c, t1, t2, t3, c0, e1, e2, e3, e4, ht⟩ := rootN_partsX (m := m) (x := x - b) (y := y - b) (b := 1 + z) (by omega)
      rw [e4]
      have bx : Bi 65 (x - b) := Bi.of_abs 20000000000000000000 (by omega)
      have by' : Bi 65 (y - b) := Bi.of_abs 20000000000000000000 (by omega)
      have bz : Bi 65 (1 + z) := Bi.of_abs (20000000000000000000 + 1) (by omega)
      have bX : Bi 130 (rnX m (x - b) (y - b)) := by
        unfold rnX
        rw [if_neg hq]
        exact bx.mono
      have bY : Bi 130 (rnY m (y - b)) := by
        unfold rnY
        rw [if_neg hq]
        exact by'.mono
      exact (((g1.trans g2).trans g3).trans g4).rtq (q t1 t2 t3 M4 ht ⟨bX.of_dvd c0 e1, bY.of_dvd c0 e2, (bz.mono).of_dvd c0 e3⟩ ((((g1.trans g2).trans g3).trans g4).le (by omega)))
    · obtain ⟨hi2, rfl⟩ := rng_get.mp hd
      walk_at "rd"
      have sb : Sm b := sm_big (by omega) (by omega)
      refine ⟨⟨Sm.of 5 (by decide), sb⟩, by omega, _, _, rfl, by omega, ?_⟩
      rw [Int.pow_succ]
      omega

/-! ### sizes and values, for the laws -/
theorem NF.neg {m a b c : Int} (h : NF m a b c) : NF m (0 - a) (0 - b) c := by
  refine ⟨h.pos, ?_, fun q => by rw [h.pr q]; rfl⟩
  rw [Int.zero_sub, Int.zero_sub, Int.gcd_neg, Int.neg_gcd]
  exact h.cop
theorem Sz.neg {n : Nat} {a b c : Int} (h : Sz n a b c) : Sz n (0 - a) (0 - b) c := ⟨h.1.neg, h.2.1.neg, h.2.2⟩
theorem Sz.mono {n k : Nat} {a b c : Int} (h : Sz n a b c) (hk : n ≤ k := by decide) : Sz k a b c := ⟨h.1.mono hk, h.2.1.mono hk, h.2.2.mono hk⟩
theorem plus_sz {c a1 a2 a3 b1 b2 b3 t1 t2 t3 : Int} {u v : Nat} (ha : Sz u a1 a2 a3) (hb : Sz v b1 b2 b3) (c0 : c ≠ 0) (e1 : a1 * b3 + b1 * a3 = c * t1) (e2 : a2 * b3 + b2 * a3 = c * t2) (e3 : a3 * b3 = c * t3) : Sz (u + v + 1) t1 t2 t3 := by
  have f : ∀ {i j : Int}, Bi v i → Bi u j → Bi (u + v) (i * j) := fun h g => by have := h.mul g; rwa [Nat.add_comm] at this
  refine ⟨((ha.1.mul hb.2.2).add (f hb.1 ha.2.2)).of_dvd c0 e1, ((ha.2.1.mul hb.2.2).add (f hb.2.1 ha.2.2)).of_dvd c0 e2, ((ha.2.2.mul hb.2.2).mono (by omega)).of_dvd c0 e3⟩
theorem times_sz {m c a1 a2 a3 b1 b2 b3 t1 t2 t3 : Int} {u v w : Nat} (hm : Bi w m) (ha : Sz u a1 a2 a3) (hb : Sz v b1 b2 b3) (c0 : c ≠ 0) (e1 : a1 * b1 + m * a2 * b2 = c * t1) (e2 : a1 * b2 + a2 * b1 = c * t2) (e3 : a3 * b3 = c * t3) : Sz (w + u + v + 1) t1 t2 t3 := by
  refine ⟨(((ha.1.mul hb.1).mono (by omega)).add ((hm.mul ha.2.1).mul hb.2.1)).of_dvd c0 e1, (((ha.1.mul hb.2.1).add (ha.2.1.mul hb.1)).mono (by omega)).of_dvd c0 e2, ((ha.2.2.mul hb.2.2).mono (by omega)).of_dvd c0 e3⟩
theorem Bi.lit8 {n : Nat} {i : Int} (h : Bi n i) (hn : n ≤ 799 := by decide) : DL.lit 800 (.int i) = true :=
  (Bi.lit (h.mono (k := 800) (by omega))).resolve_right (by decide)
theorem lit_T3 {n : Nat} {a b c : Int} (h : Sz n a b c) (hn : n ≤ 799 := by decide) : lit 800 (T3 a b c) = true := lit_cons (h.1.lit8 hn) (lit_cons (h.2.1.lit8 hn) (lit_cons (h.2.2.lit8 hn) rfl))
theorem okV_T3 {n : Nat} {a b c : Int} (h : Sz n a b c) (hn : n ≤ 799 := by decide) : okV (T3 a b c) = true := okV_tup rfl (lit_T3 h hn) (Nat.le_of_ble_eq_true rfl)
theorem gNe_T3 {a b c : Int} {M : Mem} {Q : DQ} (q : Q (.bl false) M) : gNe (T3 a b c) (T3 a b c) M Q := gNe_same (n := 2) rfl q
theorem nsq5 : ¬ isSq 5 := by
  have e : isq 5 = 2 := isq_uni (by decide) (by decide) (by decide)
  unfold isSq; rw [e]; decide
theorem nsq8 : ¬ isSq 8 := by
  have e : isq 8 = 2 := isq_uni (by decide) (by decide) (by decide)
  unfold isSq; rw [e]; decide
theorem nf_mk {m a b c : Int} (h1 : 1 ≤ c := by decide) (h2 : Int.gcd (Int.gcd a b : Int) c = 1 := by rfl) (h3 : isSq m → b = 0) : NF m a b c := ⟨h1, h2, h3⟩
theorem sz_mk {a b c : Int} {n : Nat} (h : a.natAbs ≤ 100 ∧ b.natAbs ≤ 100 ∧ c.natAbs ≤ 100 := by decide) (hn : 8 ≤ n := by decide) : Sz n a b c :=
  ⟨(Bi.of_abs (n := 8) 100 h.1).mono hn, (Bi.of_abs (n := 8) 100 h.2.1).mono hn, (Bi.of_abs (n := 8) 100 h.2.2).mono hn⟩
theorem bi_mk {a : Int} {n : Nat} (h : a.natAbs ≤ 100 := by decide) (hn : 8 ≤ n := by decide) : Bi n a := (Bi.of_abs (n := 8) 100 h).mono hn
end DL
namespace DL
open PySem PySem.Spec PyProof.Rows L2
def t_side_by : DTS :=
 (dSeq (dPar 2 3 (dCons (dOp gIx (dVar 1) (dC (.int 0))) (dCons (dOp gIx (dVar 1) (dC (.int 1))) dNil)))
 (dSeq (dIfS (dAnd (dTru (dOp (gCmpI fun i j => decide (j ≤ i)) (dVar 2) (dC (.int 0)))) (dTru (dOp (gCmpI fun i j => decide (j ≤ i)) (dVar 3) (dC (.int 0))))) (dRet (dIf (dOr (dTru (dOp (gCmpI fun i j => decide (j < i)) (dVar 2) (dC (.int 0)))) (dTru (dOp (gCmpI fun i j => decide (j < i)) (dVar 3) (dC (.int 0))))) (dC (.int 1)) (dC (.int 0)))) dNext)
 (dSeq (dIfS (dAnd (dTru (dOp (gCmpI fun i j => decide (i ≤ j)) (dVar 2) (dC (.int 0)))) (dTru (dOp (gCmpI fun i j => decide (i ≤ j)) (dVar 3) (dC (.int 0))))) (dRet (dNeg (dC (.int 1)))) dNext)
 (dSeq (dAsg (dOp (rBin (fun _ _ => True) fun i j => i - j) (dOp (rBin CMul fun i j => i * j) (dVar 2) (dVar 2)) (dOp (rBin CMul fun i j => i * j) (dOp (rBin CMul fun i j => i * j) (dVar 0) (dVar 3)) (dVar 3))) (dName 4))
 (dRet (dIf (dTru (dOp (gCmpI fun i j => decide (j < i)) (dVar 2) (dC (.int 0)))) (dIf (dTru (dOp (gCmpI fun i j => decide (j < i)) (dVar 4) (dC (.int 0)))) (dC (.int 1)) (dNeg (dC (.int 1)))) (dIf (dTru (dOp (gCmpI fun i j => decide (i < j)) (dVar 4) (dC (.int 0)))) (dC (.int 1)) (dNeg (dC (.int 1))))))))))
def t_floor_by (c_root_floor_by : DSp) : DTS :=
 (dSeq (dAsg (dVar 1) (dGTup 3 (dGCons (dName 2) (dGCons (dName 3) (dGCons (dName 4) dGNil)))))
 (dSeq (dAsg (dOp (rBin CMul fun i j => i * j) (dOp (rBin CMul fun i j => i * j) (dVar 0) (dVar 3)) (dVar 3)) (dName 5))
 (dSeq (dAsg (dCall 1 c_root_floor_by [] DX0 (dCons (dVar 5) dNil)) (dName 6))
 (dSeq (dIfS (dTru (dOp (gCmpI fun i j => decide (j ≤ i)) (dVar 3) (dC (.int 0)))) (dRet (dOp (rBin CDiv fun i j => i.fdiv j) (dOp gAdd (dVar 2) (dVar 6)) (dVar 4))) dNext)
 (dRet (dOp (rBin CDiv fun i j => i.fdiv j) (dOp (rBin (fun _ _ => True) fun i j => i - j) (dVar 2) (dIf (dTru (dOp gEq (dOp (rBin CMul fun i j => i * j) (dVar 6) (dVar 6)) (dVar 5))) (dVar 6) (dOp gAdd (dVar 6) (dC (.int 1))))) (dVar 4)))))))
def t_root_side (c_check_measure : DSp) (c_check_root : DSp) (c_side_by : DSp) : DTS :=
 (dSeq (dDrop (dCall 1 c_check_measure [] DX0 (dCons (dVar 0) dNil)))
 (dSeq (dDrop (dCall 2 c_check_root [] DX0 (dCons (dVar 0) (dCons (dVar 1) dNil))))
 (dRet (dCall 2 c_side_by [] DX0 (dCons (dVar 0) (dCons (dVar 1) dNil))))))
def t_root_floor (c_check_measure : DSp) (c_check_root : DSp) (c_floor_by : DSp) : DTS :=
 (dSeq (dDrop (dCall 1 c_check_measure [] DX0 (dCons (dVar 0) dNil)))
 (dSeq (dDrop (dCall 2 c_check_root [] DX0 (dCons (dVar 0) (dCons (dVar 1) dNil))))
 (dRet (dCall 2 c_floor_by [] DX0 (dCons (dVar 0) (dCons (dVar 1) dNil))))))
def t_l_side_4cef : DTS :=
 (dSeq (dIfS (dAnd (dTru (dOp gEq (dVar 1) (dC (.int 0)))) (dTru (dOp gEq (dVar 2) (dC (.int 0))))) (dRet (dC (.int 0))) dNext)
 (dSeq (dIfS (dAnd (dTru (dOp (gCmpI fun i j => decide (j ≤ i)) (dVar 1) (dC (.int 0)))) (dTru (dOp (gCmpI fun i j => decide (j ≤ i)) (dVar 2) (dC (.int 0))))) (dRet (dC (.int 1))) dNext)
 (dSeq (dIfS (dAnd (dTru (dOp (gCmpI fun i j => decide (i ≤ j)) (dVar 1) (dC (.int 0)))) (dTru (dOp (gCmpI fun i j => decide (i ≤ j)) (dVar 2) (dC (.int 0))))) (dRet (dNeg (dC (.int 1)))) dNext)
 (dSeq (dAsg (dOp (rBin (fun _ _ => True) fun i j => i - j) (dOp (rBin CMul fun i j => i * j) (dVar 1) (dVar 1)) (dOp (rBin CMul fun i j => i * j) (dOp (rBin CMul fun i j => i * j) (dVar 0) (dVar 2)) (dVar 2))) (dName 3))
 (dSeq (dIfS (dTru (dOp gEq (dVar 3) (dC (.int 0)))) (dRet (dC (.int 0))) dNext)
 (dRet (dIf (dTru (dOp gEq (dOp (gCmpI fun i j => decide (j < i)) (dVar 3) (dC (.int 0))) (dOp (gCmpI fun i j => decide (j < i)) (dVar 1) (dC (.int 0))))) (dC (.int 1)) (dNeg (dC (.int 1))))))))))
def t_l_floor_right_1bbd (c_root_floor : DSp) (c_l_side_4cef : DSp) : DTS :=
 (dSeq (dAsg (dVar 1) (dGTup 3 (dGCons (dName 2) (dGCons (dName 3) (dGCons (dName 4) dGNil)))))
 (dSeq (dAsg (dCall 2 c_root_floor [] DX0 (dCons (dVar 0) (dCons (dVar 1) dNil))) (dName 5))
 (dSeq (dIfS (dOr (dTru (dCB gIsi (dCons (dVar 5) (dCons (dC (.val (.ty "bool"))) dNil)))) (dOr (dNot (dTru (dCB gIsi (dCons (dVar 5) (dCons (dC (.val (.ty "int"))) dNil))))) (dTru (dOp gNe (dCallK 2 2 c_root_floor [1, 0] DX0 (dCons (dVar 1) (dCons (dVar 0) dNil))) (dVar 5))))) (dRet (dC (.bl false))) dNext)
 (dRet (dAndV (dOp (gCmpI fun i j => decide (j ≤ i)) (dCall 3 c_l_side_4cef [] DX0 (dCons (dVar 0) (dCons (dOp (rBin (fun _ _ => True) fun i j => i - j) (dVar 2) (dOp (rBin CMul fun i j => i * j) (dVar 5) (dVar 4))) (dCons (dVar 3) dNil)))) (dC (.int 0))) (dOp (gCmpI fun i j => decide (i < j)) (dCall 3 c_l_side_4cef [] DX0 (dCons (dVar 0) (dCons (dOp (rBin (fun _ _ => True) fun i j => i - j) (dVar 2) (dOp (rBin CMul fun i j => i * j) (dOp gAdd (dVar 5) (dC (.int 1))) (dVar 4))) (dCons (dVar 3) dNil)))) (dC (.int 0))))))))
def t_l_right_2022 (c_l_measure_0db7 : DSp) (c_l_drawn_33f3 : DSp) (c_l_random_4762 : DSp) (c_l_root_d754 : DSp) (c_l_least_9529 : DSp) (c_root_side : DSp) (c_l_side_4cef : DSp) (c_l_floor_right_1bbd : DSp) : DTS :=
 (dSeq (dAsg (dCall 2 c_l_measure_0db7 [] DX0 (dCons (dVar 0) (dCons (dC (.int 28)) dNil))) (dName 1))
 (dSeq (dFor (dRngI gRng1 (dCons (dC (.int 4)) dNil)) (dName 2) (dSeq (dAsg (dCall 3 c_l_drawn_33f3 [] DX0 (dCons (dVar 0) (dCons (dVar 1) (dCons (dC (.int 20)) dNil)))) (dName 3))
 (dSeq (dAsg (dOp gAdd (dC (.int 1)) (dCall 2 c_l_random_4762 [] DX0 (dCons (dVar 0) (dCons (dOp gIx (dLst (dCons (dC (.int 3)) (dCons (dOp (rBin CPow fun i j => i ^ j.toNat) (dC (.int 10)) (dC (.int 12))) dNil))) (dCall 2 c_l_random_4762 [] DX0 (dCons (dVar 0) (dCons (dC (.int 2)) dNil)))) dNil)))) (dName 4))
 (dSeq (dAsg (dOp (rBin (fun _ _ => True) fun i j => i - j) (dOp gAdd (dCall 1 c_l_root_d754 [] DX0 (dCons (dOp (rBin CMul fun i j => i * j) (dOp (rBin CMul fun i j => i * j) (dVar 1) (dVar 4)) (dVar 4)) dNil)) (dCall 2 c_l_random_4762 [] DX0 (dCons (dVar 0) (dCons (dC (.int 3)) dNil)))) (dC (.int 1))) (dName 5))
 (dSeq (dFor (dSeqI (dLst (dCons (dVar 3) (dCons (dCall 4 c_l_least_9529 [] DX0 (dCons (dVar 1) (dCons (dVar 5) (dCons (dOp (rBin (fun _ _ => True) fun i j => i - j) (dC (.int 0)) (dVar 4)) (dCons (dC (.int 1)) dNil))))) (dCons (dCall 4 c_l_least_9529 [] DX0 (dCons (dVar 1) (dCons (dOp (rBin (fun _ _ => True) fun i j => i - j) (dC (.int 0)) (dVar 5)) (dCons (dVar 4) (dCons (dC (.int 1)) dNil))))) (dCons (dCall 4 c_l_least_9529 [] DX0 (dCons (dVar 1) (dCons (dVar 5) (dCons (dVar 4) (dCons (dC (.int 2)) dNil))))) dNil)))))) (dName 6) (dIfS (dOr (dTru (dOp gNe (dCB gRepr (dCons (dCall 2 c_root_side [] DX0 (dCons (dVar 1) (dCons (dVar 6) dNil))) dNil)) (dCB gRepr (dCons (dCall 3 c_l_side_4cef [] DX0 (dCons (dVar 1) (dCons (dOp gIx (dVar 6) (dC (.int 0))) (dCons (dOp gIx (dVar 6) (dC (.int 1))) dNil)))) dNil)))) (dNot (dTru (dCall 2 c_l_floor_right_1bbd [] DX0 (dCons (dVar 1) (dCons (dVar 6) dNil)))))) (dRet (dC (.bl false))) dNext))
 (dIfS (dTru (dOp gNe (dCallK 2 2 c_root_side [1, 0] DX0 (dCons (dVar 3) (dCons (dVar 1) dNil))) (dCall 2 c_root_side [] DX0 (dCons (dVar 1) (dCons (dVar 3) dNil))))) (dRet (dC (.bl false))) dNext))))))
 (dRet (dC (.bl true)))))
def t_l_law_4a23 (c_l_right_2022 : DSp) (c_l_generator_b324 : DSp) (c_root_side : DSp) (c_root_floor : DSp) : DTS :=
 (dSeq (dIfS (dNot (dTru (dCall 1 c_l_right_2022 [] DX0 (dCons (dCall 2 c_l_generator_b324 [] DX0 (dCons (dVar 0) (dCons (dC (.int 0)) dNil))) dNil)))) (dRet (dC (.bl false))) dNext)
 (dSeq (dAsg (dLst (dCons (dCall 2 c_root_side [] DX0 (dCons (dC (.int 5)) (dCons (dTup (dCons (dNeg (dC (.int 2))) (dCons (dC (.int 1)) (dCons (dC (.int 1)) dNil)))) dNil))) (dCons (dCall 2 c_root_side [] DX0 (dCons (dC (.int 8)) (dCons (dTup (dCons (dNeg (dC (.int 3))) (dCons (dC (.int 1)) (dCons (dC (.int 1)) dNil)))) dNil))) (dCons (dCall 2 c_root_side [] DX0 (dCons (dC (.int 5)) (dCons (dTup (dCons (dC (.int 0)) (dCons (dC (.int 0)) (dCons (dC (.int 1)) dNil)))) dNil))) (dCons (dCall 2 c_root_side [] DX0 (dCons (dC (.int 9)) (dCons (dTup (dCons (dNeg (dC (.int 3))) (dCons (dC (.int 0)) (dCons (dC (.int 2)) dNil)))) dNil))) dNil))))) (dName 1))
 (dSeq (dIfS (dTru (dOp gNe (dVar 1) (dLst (dCons (dC (.int 1)) (dCons (dNeg (dC (.int 1))) (dCons (dC (.int 0)) (dCons (dNeg (dC (.int 1))) dNil))))))) (dRet (dC (.bl false))) dNext)
 (dRet (dOp gEq (dLst (dCons (dCall 2 c_root_floor [] DX0 (dCons (dC (.int 5)) (dCons (dTup (dCons (dC (.int 1)) (dCons (dC (.int 1)) (dCons (dC (.int 2)) dNil)))) dNil))) (dCons (dCall 2 c_root_floor [] DX0 (dCons (dC (.int 5)) (dCons (dTup (dCons (dC (.int 1)) (dCons (dNeg (dC (.int 1))) (dCons (dC (.int 2)) dNil)))) dNil))) (dCons (dCall 2 c_root_floor [] DX0 (dCons (dC (.int 8)) (dCons (dTup (dCons (dNeg (dC (.int 3))) (dCons (dC (.int 1)) (dCons (dC (.int 1)) dNil)))) dNil))) (dCons (dCall 2 c_root_floor [] DX0 (dCons (dC (.int 9)) (dCons (dTup (dCons (dNeg (dC (.int 3))) (dCons (dC (.int 0)) (dCons (dC (.int 2)) dNil)))) dNil))) (dCons (dCall 2 c_root_floor [] DX0 (dCons (dC (.int 9)) (dCons (dTup (dCons (dC (.int 4)) (dCons (dC (.int 0)) (dCons (dC (.int 1)) dNil)))) dNil))) dNil)))))) (dLst (dCons (dC (.int 1)) (dCons (dNeg (dC (.int 1))) (dCons (dNeg (dC (.int 1))) (dCons (dNeg (dC (.int 2))) (dCons (dC (.int 4)) dNil)))))))))))
end DL
namespace DL
open PySem PySem.Spec PyProof.Rows L2
local macro_rules | `(tactic| walk_at "rd") => `(tactic| simp only [startD, List.map, List.replicate, List.length_cons, List.length_nil, List.append_eq, List.append_nil, List.nil_append, List.cons_append, Nat.reduceSub, Nat.reduceAdd, List.getElem?_cons_zero, List.getElem?_cons_succ, List.set_cons_zero, List.set_cons_succ,
  dC, dVar, dOp, dTru, gTru, tru, dChain, dAnd, dOr, dNot, dAndV, dOrV, dNotV, dIf, dNeg, gNeg, dNil, dCons, dTup, dLst, dOwn, gIx, rBin, gAdd, gCmpI, dCall, dCallK, dSeq, dNext, dDrop, dRet, dRetN, dIfS, dName, dGNil, dGCons, dGTup, dSub, gSetL, dAsg, dPar, dPar3, dAug, gIpI, dSeqI, gSeqI, dRngI, gRng1, gRng2, dCB, gAbs, gInt, gMax, gMin, gGcd, gLen, lenD, gIsi, tyM, tyD, dBits, gBits, dMet, gAppend, dPart, dNoPart, dSl, dEnds, gIs, isB, dNever, dFor, dLc, wipeD, dYes,
  sizeLine_eq, Nat.reduceLeDiff, gEq_int, gNe_int, gEq_strs, gNe_strs, gIn_two, gRepr_bl, rs_lst, rs_tup, rs_scr, rs_int, atI_0, atI_1, atI_2, atI_3, atI_4, atI_5, ixN_30, ixN_31, ixN_32, gEq_bl, gNe_bl, decide_eq_true_eq, beq_iff_eq, Bool.not_eq_true', beq_eq_false_iff_ne, decide_eq_false_iff_not, Bool.not_true, Bool.not_false, if_true, if_false, Bool.false_eq_true, ite_true, ite_false, true_and, and_true, ne_eq, Bool.bne_false, Bool.bne_true, reduceCtorEq])
local macro_rules | `(tactic| walk_at "kb") => `(tactic| simp only [kb_NoneType_list, kb_bool_list, kb_int_list, kb_str_list, kb_tuple_list, kb_list_list, kb_dict_list, kb_NoneType_int, kb_bool_int, kb_int_int, kb_str_int, kb_tuple_int, kb_list_int, kb_dict_int, kb_NoneType_bool, kb_bool_bool, kb_int_bool, kb_str_bool, kb_tuple_bool, kb_list_bool, kb_dict_bool, kb_NoneType_tuple, kb_bool_tuple, kb_int_tuple, kb_str_tuple, kb_tuple_tuple, kb_list_tuple, kb_dict_tuple, if_true, if_false, Bool.false_eq_true, ite_true, ite_false, Bool.not_true, Bool.not_false])
/-! ### the side of x + y root m -/
def sideV (m x y : Int) : Int := if 0 ≤ x ∧ 0 ≤ y then (if 0 < x ∨ 0 < y then 1 else 0) else if x ≤ 0 ∧ y ≤ 0 then -1
  else if 0 < x then (if 0 < x * x - m * y * y then 1 else -1) else if x * x - m * y * y < 0 then 1 else -1
def lsideV (m x y : Int) : Int := if x = 0 ∧ y = 0 then 0 else if 0 ≤ x ∧ 0 ≤ y then 1 else if x ≤ 0 ∧ y ≤ 0 then -1
  else if x * x - m * y * y = 0 then 0 else if (0 < x * x - m * y * y ↔ 0 < x) then 1 else -1
theorem side_same {m x y b : Int} (hm : 0 ≤ m) (h : NF m x y b) : sideV m x y = lsideV m x y := by
  have hw : ¬ (x = 0 ∧ y = 0) → x * x - m * y * y ≠ 0 := fun z => norm_ne hm h.pr z
  unfold sideV lsideV
  generalize x * x - m * y * y = W at hw
  by_cases h0 : x = 0 ∧ y = 0
  · obtain ⟨rfl, rfl⟩ := h0; simp
  · have := hw h0
    rw [if_neg h0]
    by_cases h1 : 0 ≤ x ∧ 0 ≤ y
    · rw [if_pos h1, if_pos h1, if_pos (by omega)]
    · rw [if_neg h1, if_neg h1]
      by_cases h2 : x ≤ 0 ∧ y ≤ 0
      · rw [if_pos h2, if_pos h2]
      · rw [if_neg h2, if_neg h2, if_neg this]
        by_cases h3 : 0 < x
        · rw [if_pos h3]
          by_cases h4 : 0 < W
          · rw [if_pos h4, if_pos (by omega)]
          · rw [if_neg h4, if_neg (by omega)]
        · rw [if_neg h3]
          by_cases h4 : W < 0
          · rw [if_pos h4, if_pos (by omega)]
          · rw [if_neg h4, if_neg (by omega)]
theorem side_rng {m x y : Int} : (lsideV m x y).natAbs ≤ 1 := by
  unfold lsideV
  split
  · decide
  · split
    · decide
    · split
      · decide
      · split
        · decide
        · split <;> decide
/-! ### the floor -/
def upV (s : Int) : Int := if isq s * isq s = s then isq s else isq s + 1
def floorV (m x y b : Int) : Int := if 0 ≤ y then (x + isq (m * y * y)).fdiv b else (x - upV (m * y * y)).fdiv b
theorem fdiv_le {a b : Int} (hb : 0 < b) : a.fdiv b * b ≤ a ∧ a < (a.fdiv b + 1) * b := by
  rw [fdiv_pos hb]
  have h1 := Int.emod_nonneg a (show b ≠ 0 by omega)
  have h2 := Int.emod_lt_of_pos a hb
  have h3 := Int.mul_ediv_add_emod a b
  have h4 : a / b * b = b * (a / b) := Int.mul_comm _ _
  have h5 : (a / b + 1) * b = b * (a / b) + b := by rw [Int.add_mul, Int.one_mul, h4]
  omega
theorem sq_mono {a b : Int} (h0 : 0 ≤ a) (h : a ≤ b) : a * a ≤ b * b := Int.mul_le_mul h h h0 (by omega)
theorem sq_neg' (a : Int) : (-a) * (-a) = a * a := by rw [Int.neg_mul_neg]
theorem floor_right {m x y b : Int} (hm : 5 ≤ m) (hb : 0 < b) : 0 ≤ lsideV m (x - floorV m x y b * b) y ∧ lsideV m (x - (floorV m x y b + 1) * b) y < 0 := by
  have s0 : 0 ≤ m * y * y := by
    rw [Int.mul_assoc]
    exact Int.mul_nonneg (by omega) (by rcases (by omega : 0 ≤ y ∨ y ≤ 0) with h | h; exact Int.mul_nonneg h h; exact Int.mul_nonneg_of_nonpos_of_nonpos h h)
  have l1 := isq_le s0
  have l2 := isq_lt s0
  have l0 := isq_nn (m * y * y)
  have sy : y ≠ 0 → 1 ≤ m * y * y := by
    intro z
    have : m * y * y ≠ 0 := Int.mul_ne_zero (Int.mul_ne_zero (by omega) z) z
    omega
  have sz : y = 0 → isq (m * y * y) = 0 := by
    rintro rfl
    have e : m * 0 * 0 = 0 := by simp
    rw [e] at l1 ⊢
    rcases Int.mul_eq_zero.mp (show isq 0 * isq 0 = 0 from by have := isq_nn 0; have := Int.mul_nonneg (isq_nn 0) (isq_nn 0); omega) with z | z <;> exact z
  unfold floorV
  by_cases hy : 0 ≤ y
  · rw [if_pos hy]
    have hf := fdiv_le (a := x + isq (m * y * y)) hb
    generalize (x + isq (m * y * y)).fdiv b = f at hf
    generalize f * b = F at hf
    generalize (f + 1) * b = G at hf
    generalize isq (m * y * y) = r at *
    generalize hs : m * y * y = s at *
    refine ⟨?_, ?_⟩
    · unfold lsideV
      rw [hs]
      by_cases hu : 0 ≤ x - F
      · split
        · omega
        · rw [if_pos ⟨hu, hy⟩]; omega
      · have hy0 : y ≠ 0 := fun z => by have := sz z; omega
        have : (x - F) * (x - F) ≤ r * r := by
          rw [← sq_neg' (x - F)]
          exact sq_mono (by omega) (by omega)
        rw [if_neg (by omega), if_neg (by omega), if_neg (by omega)]
        split
        · omega
        · rw [if_pos (by omega)]; omega
    · unfold lsideV
      rw [hs]
      have hv : x - G ≤ -(r + 1) := by omega
      rw [if_neg (by omega), if_neg (by omega)]
      by_cases hy0 : y = 0
      · rw [if_pos (by omega)]; omega
      · rw [if_neg (by omega)]
        have : (r + 1) * (r + 1) ≤ (x - G) * (x - G) := by
          rw [← sq_neg' (x - G)]
          exact sq_mono (by omega) (by omega)
        rw [if_neg (by omega), if_neg (by omega)]; omega
  · rw [if_neg hy]
    have s1 := sy (by omega)
    have hup : (upV (m * y * y) = isq (m * y * y) ∧ isq (m * y * y) * isq (m * y * y) = m * y * y) ∨ (upV (m * y * y) = isq (m * y * y) + 1 ∧ isq (m * y * y) * isq (m * y * y) ≠ m * y * y) := by
      unfold upV
      split
      · rename_i h; exact .inl ⟨rfl, h⟩
      · rename_i h; exact .inr ⟨rfl, h⟩
    have hf := fdiv_le (a := x - upV (m * y * y)) hb
    generalize (x - upV (m * y * y)).fdiv b = f at hf
    generalize f * b = F at hf
    generalize (f + 1) * b = G at hf
    generalize upV (m * y * y) = u at *
    generalize isq (m * y * y) = r at *
    generalize hs : m * y * y = s at *
    have u1 : s ≤ u * u := by
      rcases hup with ⟨rfl, h⟩ | ⟨rfl, h⟩ <;> omega
    have u2 : 1 ≤ u := by
      rcases hup with ⟨rfl, h⟩ | ⟨rfl, h⟩
      · by_cases z : u = 0
        · subst z; omega
        · omega
      · omega
    have u3 : ∀ v : Int, 0 < v → v < u → v * v < s := by
      intro v v0 v1
      rcases hup with ⟨rfl, h⟩ | ⟨rfl, h⟩
      · have h1 : v * v ≤ (u - 1) * (u - 1) := sq_mono (by omega) (by omega)
        have h2 : (u - 1) * (u - 1) = u * u - 2 * u + 1 := by grind
        omega
      · have h1 : v * v ≤ r * r := sq_mono (by omega) (by omega)
        omega
    refine ⟨?_, ?_⟩
    · unfold lsideV
      rw [hs]
      have hu : u ≤ x - F := by omega
      have : u * u ≤ (x - F) * (x - F) := sq_mono (by omega) hu
      rw [if_neg (by omega), if_neg (by omega), if_neg (by omega)]
      split
      · omega
      · rw [if_pos (by omega)]; omega
    · unfold lsideV
      rw [hs]
      rw [if_neg (by omega), if_neg (by omega)]
      by_cases hv : x - G ≤ 0
      · rw [if_pos (by omega)]; omega
      · rw [if_neg (by omega)]
        have := u3 (x - G) (by omega) (by omega)
        rw [if_neg (by omega), if_neg (by omega)]; omega
def sp_side_by : DSp := fun ds M Q _ => ∃ m x y b : Int, ds = [.int m, T3 x y b] ∧ Bi 500 m ∧ Bi 500 x ∧ Bi 500 y ∧ Q (.int (sideV m x y)) M
theorem rd_side_by : ∀ ds M Q, ds.length = 2 → sp_side_by ds M Q DX0 → t_side_by (dEnds M Q) (startD 5 ds) M := by
  rintro _ M Q - ⟨m, x, y, b, rfl, bm, bx, by', q⟩
  unfold t_side_by
  walk_at "rd"
  have c1 : CMul x x := ⟨bx.sm, bx.sm⟩
  have c2 : CMul m y := ⟨bm.sm, by'.sm⟩
  have c3 : CMul (m * y) y := ⟨(bm.mul by').sm, by'.sm⟩
  unfold sideV at q
  by_cases x1 : 0 ≤ x
  · by_cases y1 : 0 ≤ y
    · simp only [x1, y1, if_true, and_self] at q ⊢
      by_cases x2 : 0 < x
      · simp only [x2, true_or, if_true] at q ⊢; exact rtq q
      · by_cases y2 : 0 < y
        · simp only [x2, y2, or_true, if_true, if_false] at q ⊢; exact rtq q
        · simp only [x2, y2, or_self, if_false] at q ⊢; exact rtq q
    · have y2 : y ≤ 0 := by omega
      by_cases x2 : 0 < x
      · have x3 : ¬ x ≤ 0 := by omega
        simp only [x1, y1, x2, x3, y2, if_true, if_false, and_false, false_and] at q ⊢
        refine ⟨c1, c2, c3, ?_⟩
        split
        · rename_i h; rw [if_pos h] at q; exact rtq q
        · rename_i h; rw [if_neg h] at q; exact rtq q
      · have x3 : x ≤ 0 := by omega
        simp only [x1, y1, x3, y2, if_true, if_false, and_false, and_self] at q ⊢
        exact rtq q
  · have x2 : x ≤ 0 := by omega
    have x3 : ¬ 0 < x := by omega
    by_cases y1 : y ≤ 0
    · simp only [x1, x2, y1, if_true, if_false, false_and, and_self] at q ⊢
      exact rtq q
    · simp only [x1, x2, x3, y1, if_true, if_false, false_and, and_false] at q ⊢
      refine ⟨c1, c2, c3, ?_⟩
      split
      · rename_i h; rw [if_pos h] at q; exact rtq q
      · rename_i h; rw [if_neg h] at q; exact rtq q
def sp_lside : DSp := fun ds M Q _ => ∃ m x y : Int, ds = [.int m, .int x, .int y] ∧ Bi 500 m ∧ Bi 4000 x ∧ Bi 500 y ∧ Q (.int (lsideV m x y)) M
theorem rd_l_side_4cef : ∀ ds M Q, ds.length = 3 → sp_lside ds M Q DX0 → t_l_side_4cef (dEnds M Q) (startD 4 ds) M := by
  rintro _ M Q - ⟨m, x, y, rfl, bm, bx, by', q⟩
  unfold t_l_side_4cef
  walk_at "rd"
  have c1 : CMul x x := ⟨bx.sm, bx.sm⟩
  have c2 : CMul m y := ⟨bm.sm, by'.sm⟩
  have c3 : CMul (m * y) y := ⟨(bm.mul by').sm, by'.sm⟩
  have fin : ∀ v, v = lsideV m x y → Rtq M Q (.int v) M := by rintro _ rfl; exact rtq q
  simp only [decide_eq_decide]
  repeat' first
    | exact fin _ (by
        unfold lsideV
        generalize x * x - m * y * y = W at *
        (repeat' split) <;> omega)
    | refine ⟨c1, c2, c3, ?_⟩
    | split
def sp_floor_by : DSp := fun ds M Q _ => ∃ m x y b : Int, ds = [.int m, T3 x y b] ∧ 0 ≤ m ∧ Bi 500 m ∧ Bi 500 x ∧ Bi 500 y ∧ Bi 500 b ∧ 0 < b ∧ Q (.int (floorV m x y b)) M
theorem rd_floor_by : ∀ ds M Q, ds.length = 2 → sp_floor_by ds M Q DX0 → t_floor_by sp_isq (dEnds M Q) (startD 7 ds) M := by
  rintro _ M Q - ⟨m, x, y, b, rfl, m0, bm, bx, by', bb, b0, q⟩
  unfold t_floor_by
  walk_at "rd"
  have s0 : 0 ≤ m * y * y := by
    rw [Int.mul_assoc]
    exact Int.mul_nonneg (by omega) (by rcases (by omega : 0 ≤ y ∨ y ≤ 0) with h | h; exact Int.mul_nonneg h h; exact Int.mul_nonneg_of_nonpos_of_nonpos h h)
  have bs := (((bm.mul by').mul by').big).2
  have sr : Sm (isq (m * y * y)) := sm_big (by have := isq_nn (m * y * y); have := big_pos; omega) (by have := isq_le_self s0; omega)
  have cd : ∀ a, CDiv a b := fun a => cdiv_big (by omega) (by have := bb.big; omega) (by have := bb.big; omega)
  refine ⟨⟨bm.sm, by'.sm⟩, ⟨(bm.mul by').sm, by'.sm⟩, _, rfl, s0, bs, ?_⟩
  have fin : ∀ v, v = floorV m x y b → Rtq M Q (.int v) M := by rintro _ rfl; exact rtq q
  dsimp only
  by_cases hy : 0 ≤ y
  · rw [if_pos hy]
    exact ⟨cd _, fin _ (by unfold floorV; rw [if_pos hy])⟩
  · rw [if_neg hy]
    refine ⟨⟨sr, sr⟩, ?_⟩
    by_cases hs : isq (m * y * y) * isq (m * y * y) = m * y * y
    · rw [if_pos hs]
      exact ⟨cd _, fin _ (by unfold floorV upV; rw [if_neg hy, if_pos hs])⟩
    · rw [if_neg hs]
      exact ⟨cd _, fin _ (by unfold floorV upV; rw [if_neg hy, if_neg hs])⟩
def sp_root_side : DSp := fun ds M Q _ => ∃ m x y b : Int, ds = [.int m, T3 x y b] ∧ isMeas (.int m) = true ∧ Bi 500 m ∧ NF m x y b ∧ Sz 500 x y b ∧ Q (.int (sideV m x y)) M
theorem rd_root_side : ∀ ds M Q, ds.length = 2 → sp_root_side ds M Q DX0 → t_root_side sp_check_measure sp_check_root sp_side_by (dEnds M Q) (startD 2 ds) M := by
  rintro _ M Q - ⟨m, x, y, b, rfl, hm, bm, hn, hs, q⟩
  unfold t_root_side
  walk_at "rd"
  exact ⟨m, rfl, hm, m, _, rfl, meas_le hm, bm.big.2, rootable_T3 M _ _ _, hn.is, m, x, y, b, rfl, bm, hs.1, hs.2.1, rtq q⟩
def sp_root_floor : DSp := fun ds M Q _ => ∃ m x y b : Int, ds = [.int m, T3 x y b] ∧ isMeas (.int m) = true ∧ Bi 500 m ∧ NF m x y b ∧ Sz 500 x y b ∧ Q (.int (floorV m x y b)) M
theorem rd_root_floor : ∀ ds M Q, ds.length = 2 → sp_root_floor ds M Q DX0 → t_root_floor sp_check_measure sp_check_root sp_floor_by (dEnds M Q) (startD 2 ds) M := by
  rintro _ M Q - ⟨m, x, y, b, rfl, hm, bm, hn, hs, q⟩
  unfold t_root_floor
  walk_at "rd"
  exact ⟨m, rfl, hm, m, _, rfl, meas_le hm, bm.big.2, rootable_T3 M _ _ _, hn.is, m, x, y, b, rfl, meas_le hm, bm, hs.1, hs.2.1, hs.2.2, by have := hn.pos; omega, rtq q⟩
theorem floor_sz {m x y b : Int} (m0 : 0 ≤ m) (hb : 0 < b) (bm : Bi 500 m) (bx : Bi 500 x) (by' : Bi 500 y) : Bi 1600 (floorV m x y b) := by
  have s0 : 0 ≤ m * y * y := by
    rw [Int.mul_assoc]
    exact Int.mul_nonneg (by omega) (by rcases (by omega : 0 ≤ y ∨ y ≤ 0) with h | h; exact Int.mul_nonneg h h; exact Int.mul_nonneg_of_nonpos_of_nonpos h h)
  have br : Bi 1500 (isq (m * y * y)) := by
    have h1 := isq_le_self s0
    have h2 := isq_nn (m * y * y)
    have h3 : Bi 1500 (m * y * y) := (bm.mul by').mul by'
    unfold Bi at h3 ⊢
    omega
  have bu : Bi 1501 (upV (m * y * y)) := by
    unfold upV
    split
    · exact br.mono
    · exact br.add (Bi.of_abs 1 (by decide) ((Nat.one_lt_two_pow (by decide))))
  have fd : ∀ {a : Int} {n : Nat}, Bi n a → n + 2 ≤ 1600 → Bi 1600 (a.fdiv b) := by
    intro a n h hn
    have h1 := fdiv_le (a := a) hb
    have h2 : (a.fdiv b).natAbs ≤ a.natAbs + 1 := by
      generalize hf : a.fdiv b = f at h1
      by_cases hf0 : 0 ≤ f
      · have : f * 1 ≤ f * b := Int.mul_le_mul_of_nonneg_left (by omega) hf0
        omega
      · have : (f + 1) * b ≤ (f + 1) * 1 := Int.mul_le_mul_of_nonpos_left (by omega) (by omega)
        omega
    have h3 : Bi (n + 2) (a.fdiv b) := by
      unfold Bi at h ⊢
      rw [Nat.pow_add]
      omega
    exact h3.mono hn
  unfold floorV
  split
  · exact fd ((bx.mono (k := 1500)).add br) (by decide)
  · exact fd ((bx.mono (k := 1501)).sub bu) (by decide)
end DL
namespace DL
open PySem PySem.Spec PyProof.Rows L2
def t_l_hash_d8d1 : DTS :=
 (dSeq (dAsg (dOp (rBin CMod fun i j => i.fmod j) (dCB gInt (dCons (dOp gAdd (dOp gAdd (dOp gAdd (dOp (rBin CMul fun i j => i * j) (dVar 0) (dC (.int 1140671))) (dOp (rBin CMul fun i j => i * j) (dOp (rBin CMul fun i j => i * j) (dC (.int 27644437)) (dVar 1)) (dVar 1))) (dOp (rBin CMul fun i j => i * j) (dC (.int 131)) (dVar 1))) (dC (.int 19))) dNil)) (dC (.int 2147483629))) (dName 2))
 (dSeq (dAsg (dOp (rBin CMod fun i j => i.fmod j) (dCB gInt (dCons (dOp gAdd (dOp gAdd (dOp (rBin CMul fun i j => i * j) (dVar 2) (dVar 2)) (dOp (rBin CMul fun i j => i * j) (dC (.int 62089)) (dVar 1))) (dC (.int 32416187))) dNil)) (dC (.int 2147483587))) (dName 2))
 (dRet (dOp (rBin CMod fun i j => i.fmod j) (dCB gInt (dCons (dOp (rBin CMul fun i j => i * j) (dVar 2) (dC (.int 48271))) dNil)) (dC (.int 2147483647))))))
def t_l_common_7348 : DTS :=
 (dSeq (dPar 0 1 (dCons (dCB gAbs (dCons (dVar 0) dNil)) (dCons (dCB gAbs (dCons (dVar 1) dNil)) dNil)))
 (dSeq (dWhile (dTru (dOp gNe (dVar 1) (dC (.int 0)))) (dPar 0 1 (dCons (dVar 1) (dCons (dOp (rBin CMod fun i j => i.fmod j) (dCB gInt (dCons (dVar 0) dNil)) (dVar 1)) dNil))))
 (dRet (dVar 0))))
def t_l_drawn_6386 (c_l_random_4762 : DSp) (c_l_common_7348 : DSp) : DTS :=
 (dSeq (dPar 2 3 (dCons (dOp gAdd (dC (.int 1)) (dCall 2 c_l_random_4762 [] DX0 (dCons (dVar 0) (dCons (dVar 1) dNil)))) (dCons (dOp (rBin (fun _ _ => True) fun i j => i - j) (dCall 2 c_l_random_4762 [] DX0 (dCons (dVar 0) (dCons (dOp (rBin CMul fun i j => i * j) (dC (.int 2)) (dVar 1)) dNil))) (dVar 1)) dNil)))
 (dSeq (dAsg (dOp gAdd (dC (.int 1)) (dCall 2 c_l_random_4762 [] DX0 (dCons (dVar 0) (dCons (dC (.int 6)) dNil)))) (dName 4))
 (dSeq (dPar 5 2 (dCons (dOp (rBin CMul fun i j => i * j) (dVar 4) (dOp gAdd (dC (.int 1)) (dCall 2 c_l_random_4762 [] DX0 (dCons (dVar 0) (dCons (dVar 1) dNil))))) (dCons (dOp (rBin CMul fun i j => i * j) (dVar 4) (dVar 2)) dNil)))
 (dRet (dTup (dCons (dCall 2 c_l_random_4762 [] DX0 (dCons (dVar 0) (dCons (dOp gAdd (dCall 2 c_l_common_7348 [] DX0 (dCons (dVar 5) (dCons (dVar 2) dNil))) (dC (.int 1))) dNil))) (dCons (dVar 5) (dCons (dVar 2) (dCons (dVar 3) dNil)))))))))
def t_l_is_cutting_19aa (c_l_common_7348 : DSp) : DTS :=
 (dSeq (dIfS (dOr (dTru (dOp (gCmpI fun i j => decide (i < j)) (dVar 1) (dC (.int 1)))) (dOr (dTru (dOp (gCmpI fun i j => decide (i < j)) (dVar 2) (dC (.int 1)))) (dOr (dTru (dOp (gCmpI fun i j => decide (j ≤ i)) (dOp gAdd (dVar 2) (dVar 3)) (dVar 1))) (dNot (dTru (dChain (gCmpI fun i j => decide (i ≤ j)) (gCmpI fun i j => decide (i < j)) (dC (.int 0)) (dVar 0) (dCall 2 c_l_common_7348 [] DX0 (dCons (dVar 1) (dCons (dVar 2) dNil))))))))) (dRet (dC (.bl false))) dNext)
 (dRet (dOp gEq (dCall 2 c_l_common_7348 [] DX0 (dCons (dCall 2 c_l_common_7348 [] DX0 (dCons (dVar 0) (dCons (dVar 1) dNil))) (dCons (dCall 2 c_l_common_7348 [] DX0 (dCons (dVar 2) (dCons (dVar 3) dNil))) dNil))) (dC (.int 1)))))
def t_is_cutting_by (c_is_whole : DSp) (c_common_by : DSp) : DTS :=
 (dSeq (dIfS (dOr (dNot (dTru (dCB gIsi (dCons (dVar 0) (dCons (dC (.val (.ty "tuple"))) dNil))))) (dOr (dTru (dOp gNe (dCB gLen (dCons (dVar 0) dNil)) (dC (.int 4)))) (dTru (dOp gNe (dLc false (dSeqI (dVar 0)) (dName 1) (dNot (dTru (dCall 1 c_is_whole [] DX0 (dCons (dVar 1) dNil)))) (dVar 1) [1]) (dLst dNil))))) (dRet (dC (.bl false))) dNext)
 (dSeq (dAsg (dVar 0) (dGTup 4 (dGCons (dName 2) (dGCons (dName 3) (dGCons (dName 4) (dGCons (dName 5) dGNil))))))
 (dSeq (dIfS (dOr (dTru (dOp (gCmpI fun i j => decide (i < j)) (dVar 3) (dC (.int 1)))) (dOr (dTru (dOp (gCmpI fun i j => decide (i < j)) (dVar 4) (dC (.int 1)))) (dNot (dTru (dOp (gCmpI fun i j => decide (i < j)) (dOp gAdd (dVar 4) (dVar 5)) (dVar 3)))))) (dRet (dC (.bl false))) dNext)
 (dSeq (dAsg (dCall 2 c_common_by [] DX0 (dCons (dVar 3) (dCons (dVar 4) dNil))) (dName 6))
 (dRet (dAndV (dChain (gCmpI fun i j => decide (i ≤ j)) (gCmpI fun i j => decide (i < j)) (dC (.int 0)) (dVar 2) (dVar 6)) (dOp gEq (dCall 2 c_common_by [] DX0 (dCons (dCall 2 c_common_by [] DX0 (dCons (dVar 2) (dCons (dVar 6) dNil))) (dCons (dVar 5) dNil))) (dC (.int 1)))))))))
def t_is_cutting (c_is_cutting_by : DSp) : DTS :=
 (dRet (dCall 1 c_is_cutting_by [] DX0 (dCons (dVar 0) dNil)))
def t_is_measure (c_is_measure_by : DSp) : DTS :=
 (dRet (dCall 1 c_is_measure_by [] DX0 (dCons (dVar 0) dNil)))
def t_l_measure_919a : DTS :=
 (dRet (dOp gAdd (dOp (rBin CMul fun i j => i * j) (dOp gIx (dVar 0) (dC (.int 3))) (dOp gIx (dVar 0) (dC (.int 3)))) (dOp (rBin CMul fun i j => i * j) (dOp (rBin CMul fun i j => i * j) (dC (.int 4)) (dOp gIx (dVar 0) (dC (.int 1)))) (dOp gIx (dVar 0) (dC (.int 2))))))
def t_whole_root (c_check_measure : DSp) (c_root_floor_by : DSp) : DTS :=
 (dSeq (dDrop (dCall 1 c_check_measure [] DX0 (dCons (dVar 0) dNil)))
 (dRet (dCall 1 c_root_floor_by [] DX0 (dCons (dVar 0) dNil))))
def t_l_root_right_a4da (c_whole_root : DSp) : DTS :=
 (dSeq (dAsg (dCall 1 c_whole_root [] DX0 (dCons (dVar 0) dNil)) (dName 1))
 (dRet (dChain (gCmpI fun i j => decide (i ≤ j)) (gCmpI fun i j => decide (i < j)) (dOp (rBin CMul fun i j => i * j) (dVar 1) (dVar 1)) (dVar 0) (dOp (rBin CMul fun i j => i * j) (dOp gAdd (dVar 1) (dC (.int 1))) (dOp gAdd (dVar 1) (dC (.int 1)))))))
def t_check_cutting (c_is_cutting_by : DSp) : DTS :=
 (dIfS (dNot (dTru (dCall 1 c_is_cutting_by [] DX0 (dCons (dVar 0) dNil)))) dNever dNext)
def t_measure_by : DTS :=
 (dRet (dOp gAdd (dOp (rBin CMul fun i j => i * j) (dOp gIx (dVar 0) (dC (.int 3))) (dOp gIx (dVar 0) (dC (.int 3)))) (dOp (rBin CMul fun i j => i * j) (dOp (rBin CMul fun i j => i * j) (dC (.int 4)) (dOp gIx (dVar 0) (dC (.int 1)))) (dOp gIx (dVar 0) (dC (.int 2))))))
def t_measure_of (c_check_cutting : DSp) (c_measure_by : DSp) : DTS :=
 (dSeq (dDrop (dCall 1 c_check_cutting [] DX0 (dCons (dVar 0) dNil)))
 (dRet (dCall 1 c_measure_by [] DX0 (dCons (dVar 0) dNil))))
def t_l_value_right_bbd5 (c_l_is_cutting_19aa : DSp) (c_is_cutting : DSp) (c_is_measure : DSp) (c_l_measure_919a : DSp) (c_l_root_right_a4da : DSp) (c_measure_of : DSp) : DTS :=
 (dSeq (dAsg (dCall 4 c_l_is_cutting_19aa [] DX0 (dCons (dOp gIx (dVar 0) (dC (.int 0))) (dCons (dOp gIx (dVar 0) (dC (.int 1))) (dCons (dOp gIx (dVar 0) (dC (.int 2))) (dCons (dOp gIx (dVar 0) (dC (.int 3))) dNil))))) (dName 1))
 (dSeq (dIfS (dOr (dTru (dOp gNe (dCB gRepr (dCons (dCall 1 c_is_cutting [] DX0 (dCons (dVar 0) dNil)) dNil)) (dCB gRepr (dCons (dVar 1) dNil)))) (dTru (dOp gNe (dCB gRepr (dCons (dCallK 1 1 c_is_cutting [0] DX0 (dCons (dVar 0) dNil)) dNil)) (dCB gRepr (dCons (dVar 1) dNil))))) (dRet (dC (.bl false))) dNext)
 (dSeq (dIfS (dAnd (dTru (dVar 1)) (dOr (dTru (dOp (gIs true) (dCall 1 c_is_measure [] DX0 (dCons (dCall 1 c_l_measure_919a [] DX0 (dCons (dVar 0) dNil)) dNil)) (dC (.bl true)))) (dNot (dTru (dCall 1 c_l_root_right_a4da [] DX0 (dCons (dCall 1 c_l_measure_919a [] DX0 (dCons (dVar 0) dNil)) dNil)))))) (dRet (dC (.bl false))) dNext)
 (dRet (dOrV (dNotV (dVar 1)) (dAndV (dOp gEq (dCB gRepr (dCons (dCall 1 c_measure_of [] DX0 (dCons (dVar 0) dNil)) dNil)) (dCB gRepr (dCons (dCall 1 c_l_measure_919a [] DX0 (dCons (dVar 0) dNil)) dNil))) (dOp gEq (dCallK 1 1 c_measure_of [0] DX0 (dCons (dVar 0) dNil)) (dCall 1 c_l_measure_919a [] DX0 (dCons (dVar 0) dNil)))))))))
def t_l_near_right_9e0a (c_l_value_right_bbd5 : DSp) (c_is_cutting : DSp) : DTS :=
 (dSeq (dFor (dRngI gRng1 (dCons (dC (.int 4)) dNil)) (dName 1) (dSeq (dFor (dSeqI (dLst (dCons (dOp (rBin (fun _ _ => True) fun i j => i - j) (dOp gIx (dVar 0) (dVar 1)) (dC (.int 1))) (dCons (dOp gAdd (dOp gIx (dVar 0) (dVar 1)) (dC (.int 1))) (dCons (dOp (rBin (fun _ _ => True) fun i j => i - j) (dC (.int 0)) (dOp gIx (dVar 0) (dVar 1))) (dCons (dC (.int 0)) (dCons (dC (.int 1)) dNil))))))) (dName 2) (dIfS (dNot (dTru (dCall 1 c_l_value_right_bbd5 [] DX0 (dCons (dOp gAdd (dOp gAdd (dSl gSlT (dVar 0) dNoPart (dPart (dVar 1))) (dTup (dCons (dVar 2) dNil))) (dSl gSlT (dVar 0) (dPart (dOp gAdd (dVar 1) (dC (.int 1)))) dNoPart)) dNil)))) (dRet (dC (.bl false))) dNext))
 (dFor (dSeqI (dLst (dCons (dC .non) (dCons (dC (.bl true)) (dCons (dC (.str (PySem.Str.ofString "1"))) (dCons (dLst (dCons (dC (.int 1)) dNil)) (dCons (dTup (dCons (dC (.int 1)) dNil)) dNil))))))) (dName 3) (dIfS (dTru (dOp (gIs true) (dCall 1 c_is_cutting [] DX0 (dCons (dOp gAdd (dOp gAdd (dSl gSlT (dVar 0) dNoPart (dPart (dVar 1))) (dTup (dCons (dVar 3) dNil))) (dSl gSlT (dVar 0) (dPart (dOp gAdd (dVar 1) (dC (.int 1)))) dNoPart)) dNil)) (dC (.bl false)))) (dRet (dC (.bl false))) dNext))))
 (dSeq (dIfS (dOr (dNot (dTru (dCall 1 c_l_value_right_bbd5 [] DX0 (dCons (dTup (dCons (dOp gIx (dVar 0) (dC (.int 0))) (dCons (dOp (rBin (fun _ _ => True) fun i j => i - j) (dC (.int 0)) (dOp gIx (dVar 0) (dC (.int 2)))) (dCons (dOp (rBin (fun _ _ => True) fun i j => i - j) (dC (.int 0)) (dOp gIx (dVar 0) (dC (.int 1)))) (dCons (dOp gIx (dVar 0) (dC (.int 3))) dNil))))) dNil)))) (dNot (dTru (dCall 1 c_l_value_right_bbd5 [] DX0 (dCons (dTup (dCons (dC (.int 0)) (dCons (dOp (rBin (fun _ _ => True) fun i j => i - j) (dC (.int 0)) (dOp gIx (dVar 0) (dC (.int 2)))) (dCons (dOp (rBin (fun _ _ => True) fun i j => i - j) (dC (.int 0)) (dOp gIx (dVar 0) (dC (.int 1)))) (dCons (dOp gIx (dVar 0) (dC (.int 3))) dNil))))) dNil))))) (dRet (dC (.bl false))) dNext)
 (dSeq (dAsg (dCB (gList false) (dCons (dVar 0) dNil)) (dName 4))
 (dSeq (dIfS (dOr (dTru (dOp (gIs true) (dCall 1 c_is_cutting [] DX0 (dCons (dVar 4) dNil)) (dC (.bl false)))) (dTru (dOp gNe (dVar 4) (dCB (gList false) (dCons (dVar 0) dNil))))) (dRet (dC (.bl false))) dNext)
 (dRet (dOp gEq (dLc false (dSeqI (dLst (dCons (dCB (gList false) (dCons (dVar 0) dNil)) (dCons (dSl gSlT (dVar 0) dNoPart (dPart (dC (.int 3)))) (dCons (dOp gAdd (dVar 0) (dTup (dCons (dC (.int 1)) dNil))) (dCons (dTup (dCons (dVar 0) dNil)) (dCons (dC .non) (dCons (dC (.int 0)) (dCons (dC (.str (PySem.Str.ofString "0111"))) (dCons (dTup dNil) dNil)))))))))) (dName 3) (dTru (dOp (gIs true) (dCall 1 c_is_cutting [] DX0 (dCons (dVar 3) dNil)) (dC (.bl false)))) (dVar 3) [3]) (dLst dNil)))))))
def t_l_great_right_8517 (c_measure_of : DSp) (c_is_cutting : DSp) (c_is_measure : DSp) (c_whole_root : DSp) (c_root_floor : DSp) (c_root_side : DSp) (c_root_times : DSp) : DTS :=
 (dSeq (dAsg (dTup (dCons (dC (.int 0)) (dCons (dOp gAdd (dOp (rBin CPow fun i j => i ^ j.toNat) (dC (.int 10)) (dC (.int 29))) (dC (.int 1))) (dCons (dOp (rBin CPow fun i j => i ^ j.toNat) (dC (.int 10)) (dC (.int 29))) (dCons (dC (.int 0)) dNil))))) (dName 0))
 (dSeq (dAsg (dCall 1 c_measure_of [] DX0 (dCons (dVar 0) dNil)) (dName 1))
 (dSeq (dIfS (dOr (dTru (dOp (gIs true) (dCall 1 c_is_cutting [] DX0 (dCons (dVar 0) dNil)) (dC (.bl true)))) (dOr (dTru (dOp gNe (dVar 1) (dOp gAdd (dOp (rBin CMul fun i j => i * j) (dC (.int 4)) (dOp (rBin CPow fun i j => i ^ j.toNat) (dC (.int 10)) (dC (.int 58)))) (dOp (rBin CMul fun i j => i * j) (dC (.int 4)) (dOp (rBin CPow fun i j => i ^ j.toNat) (dC (.int 10)) (dC (.int 29))))))) (dTru (dOp (gIs true) (dCall 1 c_is_measure [] DX0 (dCons (dVar 1) dNil)) (dC (.bl true)))))) (dRet (dC (.bl false))) dNext)
 (dSeq (dIfS (dOr (dTru (dOp gNe (dCall 1 c_whole_root [] DX0 (dCons (dVar 1) dNil)) (dOp (rBin CMul fun i j => i * j) (dC (.int 2)) (dOp (rBin CPow fun i j => i ^ j.toNat) (dC (.int 10)) (dC (.int 29)))))) (dOr (dTru (dOp gNe (dCall 2 c_root_floor [] DX0 (dCons (dVar 1) (dCons (dTup (dCons (dC (.int 0)) (dCons (dC (.int 1)) (dCons (dC (.int 1)) dNil)))) dNil))) (dOp (rBin CMul fun i j => i * j) (dC (.int 2)) (dOp (rBin CPow fun i j => i ^ j.toNat) (dC (.int 10)) (dC (.int 29)))))) (dTru (dOp gNe (dCall 2 c_root_side [] DX0 (dCons (dVar 1) (dCons (dTup (dCons (dOp (rBin (fun _ _ => True) fun i j => i - j) (dC (.int 0)) (dOp (rBin CMul fun i j => i * j) (dC (.int 2)) (dOp (rBin CPow fun i j => i ^ j.toNat) (dC (.int 10)) (dC (.int 29))))) (dCons (dC (.int 1)) (dCons (dC (.int 1)) dNil)))) dNil))) (dC (.int 1)))))) (dRet (dC (.bl false))) dNext)
 (dRet (dOp gEq (dCall 3 c_root_times [] DX0 (dCons (dVar 1) (dCons (dTup (dCons (dC (.int 0)) (dCons (dC (.int 1)) (dCons (dC (.int 1)) dNil)))) (dCons (dTup (dCons (dC (.int 0)) (dCons (dC (.int 1)) (dCons (dC (.int 1)) dNil)))) dNil)))) (dTup (dCons (dVar 1) (dCons (dC (.int 0)) (dCons (dC (.int 1)) dNil))))))))))
def t_l_law_4d19 (c_l_generator_b324 : DSp) (c_l_drawn_6386 : DSp) (c_l_value_right_bbd5 : DSp) (c_l_near_right_9e0a : DSp) (c_is_cutting : DSp) (c_l_great_right_8517 : DSp) (c_measure_of : DSp) : DTS :=
 (dSeq (dFor (dRngI gRng1 (dCons (dC (.int 2)) dNil)) (dName 1) (dSeq (dAsg (dCall 2 c_l_generator_b324 [] DX0 (dCons (dVar 0) (dCons (dVar 1) dNil))) (dName 2))
 (dFor (dSeqI (dLst (dCons (dC (.int 6)) (dCons (dC (.int 20)) (dCons (dOp (rBin CPow fun i j => i ^ j.toNat) (dC (.int 10)) (dC (.int 14))) dNil))))) (dName 3) (dSeq (dAsg (dCall 2 c_l_drawn_6386 [] DX0 (dCons (dVar 2) (dCons (dVar 3) dNil))) (dName 4))
 (dIfS (dOr (dNot (dTru (dCall 1 c_l_value_right_bbd5 [] DX0 (dCons (dVar 4) dNil)))) (dNot (dTru (dCall 1 c_l_near_right_9e0a [] DX0 (dCons (dVar 4) dNil))))) (dRet (dC (.bl false))) dNext)))))
 (dSeq (dIfS (dTru (dOp gNe (dLc false (dSeqI (dLst (dCons (dTup (dCons (dC (.int 0)) (dCons (dC (.int 1)) (dCons (dC (.int 1)) (dCons (dNeg (dC (.int 1))) dNil))))) (dCons (dTup (dCons (dC (.int 1)) (dCons (dC (.int 2)) (dCons (dC (.int 2)) (dCons (dNeg (dC (.int 1))) dNil))))) (dCons (dTup (dCons (dC (.int 0)) (dCons (dC (.int 2)) (dCons (dC (.int 2)) (dCons (dNeg (dC (.int 2))) dNil))))) (dCons (dTup (dCons (dC (.int 0)) (dCons (dC (.int 1)) (dCons (dC (.int 1)) (dCons (dC (.int 0)) dNil))))) (dCons (dTup (dCons (dC (.int 2)) (dCons (dC (.int 2)) (dCons (dC (.int 2)) (dCons (dNeg (dC (.int 1))) dNil))))) dNil))))))) (dName 4) dYes (dCall 1 c_is_cutting [] DX0 (dCons (dVar 4) dNil)) [4]) (dLst (dCons (dC (.bl true)) (dCons (dC (.bl true)) (dCons (dC (.bl false)) (dCons (dC (.bl false)) (dCons (dC (.bl false)) dNil)))))))) (dRet (dC (.bl false))) dNext)
 (dRet (dAndV (dCall 0 c_l_great_right_8517 [] DX0 dNil) (dAndV (dOp gEq (dCall 1 c_measure_of [] DX0 (dCons (dTup (dCons (dC (.int 1)) (dCons (dC (.int 2)) (dCons (dC (.int 2)) (dCons (dNeg (dC (.int 1))) dNil))))) dNil)) (dC (.int 17))) (dAndV (dOp gEq (dCall 1 c_measure_of [] DX0 (dCons (dTup (dCons (dC (.int 0)) (dCons (dOp (rBin CPow fun i j => i ^ j.toNat) (dC (.int 10)) (dC (.int 28))) (dCons (dC (.int 1)) (dCons (dC (.int 1)) dNil))))) dNil)) (dOp gAdd (dC (.int 1)) (dOp (rBin CMul fun i j => i * j) (dC (.int 4)) (dOp (rBin CPow fun i j => i ^ j.toNat) (dC (.int 10)) (dC (.int 28)))))) (dOp (gIs false) (dCall 1 c_is_cutting [] DX0 (dCons (dTup (dCons (dC (.bl false)) (dCons (dC (.int 1)) (dCons (dC (.int 1)) (dCons (dNeg (dC (.int 1))) dNil))))) dNil)) (dC (.bl false)))))))))
end DL
namespace DL
open PySem PySem.Spec PyProof.Rows L2
local macro_rules | `(tactic| walk_at "rd") => `(tactic| simp only [startD, List.map, List.replicate, List.length_cons, List.length_nil, List.append_eq, List.append_nil, List.nil_append, List.cons_append, Nat.reduceSub, Nat.reduceAdd, List.getElem?_cons_zero, List.getElem?_cons_succ, List.set_cons_zero, List.set_cons_succ,
  dC, dVar, dOp, dTru, gTru, tru, dChain, dAnd, dOr, dNot, dAndV, dOrV, dNotV, dIf, dNeg, gNeg, dNil, dCons, dTup, dLst, dOwn, gIx, rBin, gAdd, gCmpI, dCall, dCallK, dSeq, dNext, dDrop, dRet, dRetN, dIfS, dName, dGNil, dGCons, dGTup, dSub, gSetL, dAsg, dPar, dPar3, dAug, gIpI, dSeqI, gSeqI, dRngI, gRng1, gRng2, dCB, gAbs, gInt, gMax, gMin, gGcd, gLen, lenD, gIsi, tyM, tyD, dBits, gBits, dMet, gAppend, dPart, dNoPart, dSl, dEnds, gIs, isB, dNever, dFor, dLc, wipeD, dYes,
  sizeLine_eq, Nat.reduceLeDiff, gEq_int, gNe_int, gEq_strs, gNe_strs, gIn_two, gRepr_bl, rs_lst, rs_tup, rs_scr, rs_int, atI_0, atI_1, atI_2, atI_3, atI_4, atI_5, ixN_30, ixN_31, ixN_32, gEq_bl, gNe_bl, decide_eq_true_eq, beq_iff_eq, Bool.not_eq_true', beq_eq_false_iff_ne, decide_eq_false_iff_not, Bool.not_true, Bool.not_false, if_true, if_false, Bool.false_eq_true, ite_true, ite_false, true_and, and_true, ne_eq, Bool.bne_false, Bool.bne_true, reduceCtorEq])
local macro_rules | `(tactic| walk_at "kb") => `(tactic| simp only [kb_NoneType_list, kb_bool_list, kb_int_list, kb_str_list, kb_tuple_list, kb_list_list, kb_dict_list, kb_NoneType_int, kb_bool_int, kb_int_int, kb_str_int, kb_tuple_int, kb_list_int, kb_dict_int, kb_NoneType_bool, kb_bool_bool, kb_int_bool, kb_str_bool, kb_tuple_bool, kb_list_bool, kb_dict_bool, kb_NoneType_tuple, kb_bool_tuple, kb_int_tuple, kb_str_tuple, kb_tuple_tuple, kb_list_tuple, kb_dict_tuple, if_true, if_false, Bool.false_eq_true, ite_true, ite_false, Bool.not_true, Bool.not_false])
theorem rd_l_hash_d8d1 : ∀ ds M Q, ds.length = 2 → sp_hash ds M Q DX0 → t_l_hash_d8d1 (dEnds M Q) (startD 3 ds) M := by
  rintro _ M Q - ⟨s, c, rfl, s0, s1, c0, c1, q⟩
  unfold P31 P40 at *
  unfold t_l_hash_d8d1
  walk_at "rd"
  have ss : Sm s := sm_of 32 (by omega) (by omega)
  have sc : Sm c := sm_of 42 (by omega) (by omega)
  have hm : ∀ a : Int, 0 ≤ a.fmod 2147483629 ∧ a.fmod 2147483629 < 2147483629 := fun a => fm_range (by decide)
  have k1 : Sm (27644437 * c) := sm_of 72 (by omega) (by omega)
  refine ⟨⟨ss, sm_of 32 (by decide) (by decide)⟩, ⟨sm_of 32 (by decide) (by decide), sc⟩, ⟨k1, sc⟩, ⟨sm_of 32 (by decide) (by decide), sc⟩, (by decide : (2147483629 : Int) ≠ 0), ?_⟩
  generalize hv : Int.fmod _ 2147483629 = v
  have v1 : 0 ≤ v ∧ v < 2147483629 := by rw [← hv]; exact hm _
  have sv : Sm v := sm_of 32 (by omega) (by omega)
  refine ⟨⟨sv, sv⟩, ⟨sm_of 32 (by decide) (by decide), sc⟩, (by decide : (2147483587 : Int) ≠ 0), ?_⟩
  generalize hw : Int.fmod _ 2147483587 = w
  have w1 : 0 ≤ w ∧ w < 2147483587 := by rw [← hw]; exact fm_range (by decide)
  refine ⟨⟨sm_of 32 (by omega) (by omega), sm_of 32 (by decide) (by decide)⟩, (by decide : (2147483647 : Int) ≠ 0), ?_⟩
  have r1 : 0 ≤ (w * 48271).fmod 2147483647 ∧ (w * 48271).fmod 2147483647 < 2147483647 := fm_range (by decide)
  exact rtq (q _ r1.1 (by omega))
theorem rd_l_common_7348 : ∀ ds M Q, ds.length = 2 → sp_gcd ds M Q DX0 → t_l_common_7348 (dEnds M Q) (startD 2 ds) M := by
  rintro _ M Q - ⟨a, b, rfl, q⟩
  unfold t_l_common_7348
  walk_at "rd"
  refine dwhile_of (fun n r M' => ∃ l h : Int, r = [some (.int l), some (.int h)] ∧ M' = M ∧ 0 ≤ l ∧ 0 ≤ h ∧ Int.gcd l h = Int.gcd a b ∧ n = h.toNat) _ ⟨_, _, rfl, rfl, ?_, ?_, gcd_abs a b, rfl⟩ ?_
  · split <;> omega
  · split <;> omega
  · rintro n r M' ⟨l, h, rfl, rfl, hl, hh, hg, rfl⟩
    walk_at "rd"
    split
    · rename_i h0
      have hp : 0 < h := by omega
      refine ⟨h0, _, ?_, h, l.fmod h, rfl, hh, ?_, (gcd_step hl hp).trans hg, rfl⟩
      · have := fm_range (a := l) hp
        omega
      · exact (fm_range (a := l) hp).1
    · rename_i h0
      have h0 : h = 0 := by omega
      subst h0
      rw [← hg, gcd_end hl] at q
      exact rtq q
/-! ### cuttings -/
/-- a cutting: (a, b, c, e) -/
def isCut (a b c e : Int) : Bool := decide (1 ≤ b) && (decide (1 ≤ c) && (decide (c + e < b) && (decide (0 ≤ a) && (decide (a < (Int.gcd b c : Int)) && (Int.gcd (Int.gcd a (Int.gcd b c : Int) : Int) e : Int) == 1))))
def isCutD (d : D) : Bool := match d with
  | .tup [.int a, .int b, .int c, .int e] => isCut a b c e
  | _ => false
/-- d may be asked: no tuple, or of another length, or of plain data -/
def Askable (n : Nat) (M : Mem) (d : D) : Prop := (∃ T, tyM M d = some T) ∧ (∀ l, d = .tup l → l.length = n → ∀ e ∈ l, (fine 40 e = true ∧ ∃ T, tyM M e = some T))
theorem ask_fine {n : Nat} {d : D} (M : Mem) (h : fine 41 d = true) : Askable n M d := by
  refine ⟨fine_ty M h, ?_⟩
  rintro l rfl h3 e he
  have h' : fineAll 40 l = true := by simpa only [fine] using h
  have := fineAll_iff.mp h' e he
  exact ⟨this, fine_ty M this⟩
abbrev T4 (a b c e : Int) : D := .tup [.int a, .int b, .int c, .int e]
theorem len4 {l : List D} (h : l.length = 4) : ∃ a b c d, l = [a, b, c, d] := by
  match l, h with
  | [a, b, c, d], _ => exact ⟨a, b, c, d, rfl⟩
theorem isCutD_notup {d : D} (h : ∀ l, d ≠ .tup l) : isCutD d = false := by
  cases d <;> first | rfl | exact absurd rfl (h _)
theorem isCutD_len {l : List D} (h : l.length ≠ 4) : isCutD (.tup l) = false := by
  unfold isCutD
  split
  · rename_i e; cases e; exact absurd rfl h
  · rfl
theorem isCutD_bad {l : List D} (h : ∃ e ∈ l, isW e = false) : isCutD (.tup l) = false := by
  unfold isCutD
  split
  · rename_i e
    cases e
    obtain ⟨e, he, hw⟩ := h
    simp only [List.mem_cons, List.not_mem_nil, or_false] at he
    rcases he with rfl | rfl | rfl | rfl <;> cases hw
  · rfl
def sp_is_cutting : DSp := fun ds M Q _ => ∃ d, ds = [d] ∧ Askable 4 M d ∧ Q (.bl (isCutD d)) M
theorem rd_is_cutting_by : ∀ ds M Q, ds.length = 1 → sp_is_cutting ds M Q DX0 → t_is_cutting_by sp_is_whole sp_gcd (dEnds M Q) (startD 7 ds) M := by
  rintro _ M Q - ⟨d, rfl, ⟨⟨T, ht⟩, hr⟩, q⟩
  unfold t_is_cutting_by
  walk_at "rd"
  by_cases htup : ∃ l, d = .tup l
  · obtain ⟨l, rfl⟩ := htup
    walk_at "rd"
    walk_at "kb"
    by_cases h3 : l.length = 4
    · obtain ⟨da, db, dc, de, rfl⟩ := len4 h3
      have hr' := hr _ rfl rfl
      walk_at "rd"
      rw [if_neg (by decide)]
      refine lcW_pure (fun e => if isW e = true then none else some e) trivial (by rw [sizeLine_eq]; exact (by decide : (4 : Nat) ≤ 16777216)) (fun d hd Y N hy => ?_) ?_
      · walk_at "rd"
        obtain ⟨_, T', hT⟩ := hr' d hd
        refine ⟨d, T', rfl, hT, ?_⟩
        by_cases hw : isW d = true
        · simp only [hw, if_true] at hy ⊢
          exact hy
        · rw [Bool.not_eq_true] at hw
          simp only [hw, Bool.false_eq_true, if_false, Bool.not_false, if_true] at hy ⊢
          exact hy
      · refine gNe_nil' (n := 40) (bads_fine fun e he => (hr' e he).1) ?_
        show if (!(bads [da, db, dc, de]).isEmpty) = true then _ else _
        cases hb : (bads [da, db, dc, de]).isEmpty with
        | false =>
          rw [if_pos (by decide)]
          rw [isCutD_bad (bads_some hb)] at q
          exact rtq q
        | true =>
          rw [if_neg (by decide)]
          have hw := bads_nil hb
          obtain ⟨a, rfl⟩ := isW_iff.mp (hw da (by simp))
          obtain ⟨b, rfl⟩ := isW_iff.mp (hw db (by simp))
          obtain ⟨c, rfl⟩ := isW_iff.mp (hw dc (by simp))
          obtain ⟨e, rfl⟩ := isW_iff.mp (hw de (by simp))
          walk_at "rd"
          have fin : ∀ v, v = isCut a b c e → Rtq M Q (.bl v) M := by rintro _ rfl; exact rtq q
          by_cases h1 : b < 1
          · rw [if_pos h1]
            exact fin _ (by unfold isCut; rw [decide_eq_false (show ¬ 1 ≤ b by omega)]; rfl)
          · rw [if_neg h1]
            have e1 := decide_eq_true (show 1 ≤ b by omega)
            by_cases h2 : c < 1
            · rw [if_pos h2]
              exact fin _ (by unfold isCut; rw [e1, decide_eq_false (show ¬ 1 ≤ c by omega)]; rfl)
            · rw [if_neg h2]
              have e2 := decide_eq_true (show 1 ≤ c by omega)
              by_cases h3 : c + e < b
              · rw [if_neg (fun z => z h3)]
                have e3 := decide_eq_true h3
                refine ⟨b, c, rfl, ?_⟩
                dsimp only
                by_cases h4 : 0 ≤ a
                · rw [if_pos h4]
                  have e4 := decide_eq_true h4
                  by_cases h5 : a < (Int.gcd b c : Int)
                  · rw [if_pos h5]
                    have e5 := decide_eq_true h5
                    refine ⟨a, _, rfl, _, e, rfl, ?_⟩
                    dsimp only
                    rw [gEq_int]
                    exact fin _ (by unfold isCut; rw [e1, e2, e3, e4, e5]; rfl)
                  · rw [if_neg h5]
                    exact fin _ (by unfold isCut; rw [e1, e2, e3, e4, decide_eq_false h5]; rfl)
                · rw [if_neg h4, if_neg h4]
                  exact fin _ (by unfold isCut; rw [e1, e2, e3, decide_eq_false h4]; rfl)
              · rw [if_pos h3]
                exact fin _ (by unfold isCut; rw [e1, e2, decide_eq_false h3]; rfl)
    · have h3' : ¬ ((l.length : Nat) : Int) = 4 := by omega
      simp only [h3', not_false_eq_true, if_true]
      rw [isCutD_len h3] at q
      exact rtq q
  · have q' : Q (.bl false) M := by rwa [isCutD_notup fun l e => htup ⟨l, e⟩] at q
    cases d <;> first | exact absurd ⟨_, rfl⟩ htup | (cases ht; done) | skip
    all_goals walk_at "rd"
    case own k =>
      unfold tyM at ht
      dsimp only at ht
      split at ht
      · rename_i ds hk
        simp only [hk]
        walk_at "kb"
        exact rtq q'
      · cases ht
    all_goals walk_at "kb"
    all_goals exact rtq q'

theorem rd_is_cutting : ∀ ds M Q, ds.length = 1 → sp_is_cutting ds M Q DX0 → t_is_cutting sp_is_cutting (dEnds M Q) (startD 1 ds) M := by
  rintro _ M Q - ⟨d, rfl, ha, q⟩
  unfold t_is_cutting
  walk_at "rd"
  exact ⟨d, rfl, ha, rtq q⟩
theorem rd_is_measure : ∀ ds M Q, ds.length = 1 → sp_is_measure ds M Q DX0 → t_is_measure sp_is_measure (dEnds M Q) (startD 1 ds) M := by
  rintro _ M Q - ⟨d, T, rfl, ht, q⟩
  unfold t_is_measure
  walk_at "rd"
  exact ⟨d, T, rfl, ht, rtq q⟩
def sp_whole_root : DSp := fun ds M Q _ => ∃ m : Int, ds = [.int m] ∧ isMeas (.int m) = true ∧ m ≤ BIG ∧ Q (.int (isq m)) M
theorem rd_whole_root : ∀ ds M Q, ds.length = 1 → sp_whole_root ds M Q DX0 → t_whole_root sp_check_measure sp_isq (dEnds M Q) (startD 1 ds) M := by
  rintro _ M Q - ⟨m, rfl, hm, hB, q⟩
  unfold t_whole_root
  walk_at "rd"
  exact ⟨m, rfl, hm, m, rfl, meas_le hm, hB, rtq q⟩
/-- check_cutting of a cutting -/
def sp_check_cutting : DSp := fun ds M Q _ => ∃ a b c e : Int, ds = [T4 a b c e] ∧ isCut a b c e = true ∧ Q .non M
theorem rd_check_cutting : ∀ ds M Q, ds.length = 1 → sp_check_cutting ds M Q DX0 → t_check_cutting sp_is_cutting (dEnds M Q) (startD 1 ds) M := by
  rintro _ M Q - ⟨a, b, c, e, rfl, h, q⟩
  unfold t_check_cutting
  walk_at "rd"
  refine ⟨_, rfl, ask_fine M rfl, ?_⟩
  rw [show isCutD (T4 a b c e) = true from h]
  walk_at "rd"
  exact rtq q
def meas4 (b c e : Int) : Int := e * e + 4 * b * c
def sp_measure_by : DSp := fun ds M Q _ => ∃ a b c e : Int, ds = [T4 a b c e] ∧ Bi 1000 b ∧ Bi 1000 c ∧ Bi 1000 e ∧ Q (.int (meas4 b c e)) M
theorem rd_measure_by : ∀ ds M Q, ds.length = 1 → sp_measure_by ds M Q DX0 → t_measure_by (dEnds M Q) (startD 1 ds) M := by
  rintro _ M Q - ⟨a, b, c, e, rfl, hb, hc, he, q⟩
  unfold t_measure_by
  walk_at "rd"
  have h4 : Bi 3 4 := Bi.of_abs 4 (by decide)
  exact ⟨⟨he.sm, he.sm⟩, ⟨h4.sm, hb.sm⟩, ⟨(h4.mul hb).sm, hc.sm⟩, rtq q⟩
def sp_measure_of : DSp := fun ds M Q _ => ∃ a b c e : Int, ds = [T4 a b c e] ∧ isCut a b c e = true ∧ Bi 1000 b ∧ Bi 1000 c ∧ Bi 1000 e ∧ Q (.int (meas4 b c e)) M
theorem rd_measure_of : ∀ ds M Q, ds.length = 1 → sp_measure_of ds M Q DX0 → t_measure_of sp_check_cutting sp_measure_by (dEnds M Q) (startD 1 ds) M := by
  rintro _ M Q - ⟨a, b, c, e, rfl, h, hb, hc, he, q⟩
  unfold t_measure_of
  walk_at "rd"
  exact ⟨a, b, c, e, rfl, h, a, b, c, e, rfl, hb, hc, he, rtq q⟩
theorem cut_parts {a b c e : Int} (h : isCut a b c e = true) : 1 ≤ b ∧ 1 ≤ c ∧ c + e < b ∧ 0 ≤ a ∧ a < (Int.gcd b c : Int) ∧ (Int.gcd (Int.gcd a (Int.gcd b c : Int) : Int) e : Int) = 1 := by
  simpa only [isCut, Bool.and_eq_true, decide_eq_true_eq, beq_iff_eq] using h
/-- the measure of a cutting is one -/
theorem meas4_ok {a b c e : Int} (h : isCut a b c e = true) : isMeas (.int (meas4 b c e)) = true := by
  obtain ⟨h1, h2, h3, _⟩ := cut_parts h
  have hbc : b * 1 ≤ b * c := Int.mul_le_mul_of_nonneg_left h2 (by omega)
  have he : 0 ≤ e * e := by rcases (by omega : 0 ≤ e ∨ e ≤ 0) with h | h; exact Int.mul_nonneg h h; exact Int.mul_nonneg_of_nonpos_of_nonpos h h
  have hm : meas4 b c e = e * e + 4 * (b * c) := by unfold meas4; rw [Int.mul_assoc]
  have h5 : 5 ≤ e * e + 4 * (b * c) := by
    by_cases z : e = 0
    · omega
    · have : 0 < e * e := by
        rcases (by omega : 0 < e ∨ e < 0) with q | q
        · exact Int.mul_pos q q
        · exact Int.mul_pos_of_neg_of_neg q q
      omega
  have hs : e * e % 4 = 0 ∨ e * e % 4 = 1 := by
    rcases (by omega : e % 2 = 0 ∨ e % 2 = 1) with q | q
    · obtain ⟨t, rfl⟩ : ∃ t, e = 2 * t := ⟨e / 2, by omega⟩
      left
      have : 2 * t * (2 * t) = 4 * (t * t) := by grind
      omega
    · obtain ⟨t, rfl⟩ : ∃ t, e = 2 * t + 1 := ⟨e / 2, by omega⟩
      right
      have : (2 * t + 1) * (2 * t + 1) = 4 * (t * t + t) + 1 := by grind
      omega
  simp only [isMeas, hm, h5, decide_true, Bool.true_and, Bool.or_eq_true, beq_iff_eq]
  omega

theorem gcd4 (a b c e : Int) : (Int.gcd (Int.gcd a b : Int) (Int.gcd c e : Int) : Int) = (Int.gcd (Int.gcd a (Int.gcd b c : Int) : Int) e : Int) := by
  unfold Int.gcd
  simp only [Int.natAbs_natCast, Nat.gcd_assoc]
def sp_lis_cutting : DSp := fun ds M Q _ => ∃ a b c e : Int, ds = [.int a, .int b, .int c, .int e] ∧ Q (.bl (isCut a b c e)) M
theorem rd_l_is_cutting_19aa : ∀ ds M Q, ds.length = 4 → sp_lis_cutting ds M Q DX0 → t_l_is_cutting_19aa sp_gcd (dEnds M Q) (startD 4 ds) M := by
  rintro _ M Q - ⟨a, b, c, e, rfl, q⟩
  unfold t_l_is_cutting_19aa
  walk_at "rd"
  have fin : ∀ v, v = isCut a b c e → Rtq M Q (.bl v) M := by rintro _ rfl; exact rtq q
  by_cases h1 : b < 1
  · rw [if_pos h1]
    exact fin _ (by unfold isCut; rw [decide_eq_false (show ¬ 1 ≤ b by omega)]; rfl)
  · rw [if_neg h1]
    have e1 := decide_eq_true (show 1 ≤ b by omega)
    by_cases h2 : c < 1
    · rw [if_pos h2]
      exact fin _ (by unfold isCut; rw [e1, decide_eq_false (show ¬ 1 ≤ c by omega)]; rfl)
    · rw [if_neg h2]
      have e2 := decide_eq_true (show 1 ≤ c by omega)
      by_cases h3 : c + e < b
      · rw [if_neg (show ¬ b ≤ c + e by omega)]
        have e3 := decide_eq_true h3
        by_cases h4 : 0 ≤ a
        · have e4 := decide_eq_true h4
          rw [if_pos h4]
          refine ⟨b, c, rfl, ?_⟩
          dsimp only
          by_cases h5 : a < (Int.gcd b c : Int)
          · have e5 := decide_eq_true h5
            rw [if_neg (fun z => z h5)]
            refine ⟨a, b, rfl, c, e, rfl, _, _, rfl, ?_⟩
            dsimp only
            rw [gEq_int, gcd4]
            exact fin _ (by unfold isCut; rw [e1, e2, e3, e4, e5]; rfl)
          · rw [if_pos h5]
            exact fin _ (by unfold isCut; rw [e1, e2, e3, e4, decide_eq_false h5]; rfl)
        · rw [if_neg h4, if_pos h4]
          exact fin _ (by unfold isCut; rw [e1, e2, e3, decide_eq_false h4]; rfl)
      · rw [if_pos (by omega)]
        exact fin _ (by unfold isCut; rw [e1, e2, decide_eq_false h3]; rfl)

theorem sl_take {l : List D} {i : Nat} : cutD l none (some (i : Int)) = l.take i := by
  unfold cutD
  have e1 : HT.sIx l.length l.length (some (i : Int)) = min i l.length := HT.sIx_nat _ _ _
  have e2 : HT.sIx l.length 0 none = 0 := rfl
  rw [e1, e2, Nat.sub_zero, List.drop_zero, ← List.take_eq_take_min]
theorem sl_drop {l : List D} {i : Nat} : cutD l (some (i : Int)) none = l.drop i := by
  unfold cutD
  have e1 : HT.sIx l.length 0 (some (i : Int)) = min i l.length := HT.sIx_nat _ _ _
  have e2 : HT.sIx l.length l.length none = l.length := rfl
  rw [e1, e2]
  by_cases h : i ≤ l.length
  · rw [Nat.min_eq_left h, List.take_of_length_le (by rw [List.length_drop]; omega)]
  · rw [Nat.min_eq_right (by omega), List.drop_length, List.drop_of_length_le (by omega)]
    simp
end DL
namespace DL
open PySem PySem.Spec PyProof.Rows L2
def t_l_common_b8b4 : DTS :=
 (dSeq (dPar 2 3 (dCons (dCB gAbs (dCons (dVar 0) dNil)) (dCons (dCB gAbs (dCons (dVar 1) dNil)) dNil)))
 (dSeq (dWhile (dTru (dOp (gCmpI fun i j => decide (j < i)) (dVar 3) (dC (.int 0)))) (dPar 2 3 (dCons (dVar 3) (dCons (dOp (rBin CMod fun i j => i.fmod j) (dCB gInt (dCons (dVar 2) dNil)) (dVar 3)) dNil))))
 (dRet (dVar 2))))
def t_l_cutting_f2c0 (c_l_random_7821 : DSp) (c_l_common_b8b4 : DSp) (c_l_is_cutting_19aa : DSp) : DTS :=
 (dSeq (dFor (dRngI gRng1 (dCons (dC (.int 30)) dNil)) (dName 2) (dSeq (dPar 3 4 (dCons (dOp gAdd (dC (.int 1)) (dCall 2 c_l_random_7821 [] DX0 (dCons (dVar 0) (dCons (dVar 1) dNil)))) (dCons (dOp gAdd (dC (.int 1)) (dCall 2 c_l_random_7821 [] DX0 (dCons (dVar 0) (dCons (dVar 1) dNil)))) dNil)))
 (dSeq (dIfS (dTru (dOp gEq (dCall 2 c_l_random_7821 [] DX0 (dCons (dVar 0) (dCons (dC (.int 3)) dNil))) (dC (.int 0)))) (dSeq (dAsg (dOp gAdd (dC (.int 2)) (dCall 2 c_l_random_7821 [] DX0 (dCons (dVar 0) (dCons (dC (.int 3)) dNil)))) (dName 5))
 (dPar 3 4 (dCons (dOp (rBin CMul fun i j => i * j) (dVar 3) (dVar 5)) (dCons (dOp (rBin CMul fun i j => i * j) (dVar 4) (dVar 5)) dNil)))) dNext)
 (dSeq (dAsg (dOp (rBin (fun _ _ => True) fun i j => i - j) (dOp (rBin (fun _ _ => True) fun i j => i - j) (dOp (rBin (fun _ _ => True) fun i j => i - j) (dVar 3) (dVar 4)) (dC (.int 1))) (dCall 2 c_l_random_7821 [] DX0 (dCons (dVar 0) (dCons (dOp (rBin CMul fun i j => i * j) (dC (.int 2)) (dVar 1)) dNil)))) (dName 6))
 (dSeq (dAsg (dCall 2 c_l_random_7821 [] DX0 (dCons (dVar 0) (dCons (dCall 2 c_l_common_b8b4 [] DX0 (dCons (dVar 3) (dCons (dVar 4) dNil))) dNil))) (dName 7))
 (dIfS (dTru (dCall 4 c_l_is_cutting_19aa [] DX0 (dCons (dVar 7) (dCons (dVar 3) (dCons (dVar 4) (dCons (dVar 6) dNil)))))) (dRet (dTup (dCons (dVar 7) (dCons (dVar 3) (dCons (dVar 4) (dCons (dVar 6) dNil)))))) dNext))))))
 (dRet (dTup (dCons (dC (.int 0)) (dCons (dOp gAdd (dC (.int 1)) (dVar 1)) (dCons (dC (.int 1)) (dCons (dOp (rBin (fun _ _ => True) fun i j => i - j) (dC (.int 0)) (dC (.int 1))) dNil)))))))
def t_l_path_108b (c_l_random_7821 : DSp) : DTS :=
 (dSeq (dAsg (dOp gIx (dLst (dCons (dC (.int 3)) (dCons (dOp (rBin CPow fun i j => i ^ j.toNat) (dC (.int 10)) (dC (.int 6))) (dCons (dOp (rBin CPow fun i j => i ^ j.toNat) (dC (.int 10)) (dC (.int 20))) dNil)))) (dCall 2 c_l_random_7821 [] DX0 (dCons (dVar 0) (dCons (dC (.int 3)) dNil)))) (dName 1))
 (dRet (dLc false (dRngI gRng1 (dCons (dC (.int 4)) dNil)) (dName 2) dYes (dOp (rBin (fun _ _ => True) fun i j => i - j) (dCall 2 c_l_random_7821 [] DX0 (dCons (dVar 0) (dCons (dOp gAdd (dOp (rBin CMul fun i j => i * j) (dC (.int 2)) (dVar 1)) (dC (.int 1))) dNil))) (dVar 1)) [2])))
def t_is_path_list (c_is_whole : DSp) : DTS :=
 (dRet (dAndV (dCB gIsi (dCons (dVar 0) (dCons (dC (.val (.ty "list"))) dNil))) (dAndV (dOp gEq (dCB gLen (dCons (dVar 0) dNil)) (dC (.int 4))) (dOp gEq (dLc false (dSeqI (dVar 0)) (dName 1) (dNot (dTru (dCall 1 c_is_whole [] DX0 (dCons (dVar 1) dNil)))) (dVar 1) [1]) (dLst dNil)))))
def t_check_path (c_is_path_list : DSp) : DTS :=
 (dIfS (dNot (dTru (dCall 1 c_is_path_list [] DX0 (dCons (dVar 0) dNil)))) dNever dNext)
def t_crossing_by : DTS :=
 (dSeq (dAsg (dOp (rBin (fun _ _ => True) fun i j => i - j) (dOp (rBin CMul fun i j => i * j) (dOp gIx (dVar 0) (dC (.int 0))) (dOp gIx (dVar 1) (dC (.int 1)))) (dOp (rBin CMul fun i j => i * j) (dOp gIx (dVar 0) (dC (.int 1))) (dOp gIx (dVar 1) (dC (.int 0))))) (dName 2))
 (dRet (dOp (rBin (fun _ _ => True) fun i j => i - j) (dOp gAdd (dVar 2) (dOp (rBin CMul fun i j => i * j) (dOp gIx (dVar 0) (dC (.int 2))) (dOp gIx (dVar 1) (dC (.int 3))))) (dOp (rBin CMul fun i j => i * j) (dOp gIx (dVar 0) (dC (.int 3))) (dOp gIx (dVar 1) (dC (.int 2)))))))
def t_crossing (c_check_path : DSp) (c_crossing_by : DSp) : DTS :=
 (dSeq (dDrop (dCall 1 c_check_path [] DX0 (dCons (dVar 0) dNil)))
 (dSeq (dDrop (dCall 1 c_check_path [] DX0 (dCons (dVar 1) dNil)))
 (dRet (dCall 2 c_crossing_by [] DX0 (dCons (dVar 0) (dCons (dVar 1) dNil))))))
def t_l_crossing_3f18 : DTS :=
 (dRet (dOp (rBin (fun _ _ => True) fun i j => i - j) (dOp gAdd (dOp (rBin (fun _ _ => True) fun i j => i - j) (dOp (rBin CMul fun i j => i * j) (dOp gIx (dVar 0) (dC (.int 0))) (dOp gIx (dVar 1) (dC (.int 1)))) (dOp (rBin CMul fun i j => i * j) (dOp gIx (dVar 0) (dC (.int 1))) (dOp gIx (dVar 1) (dC (.int 0))))) (dOp (rBin CMul fun i j => i * j) (dOp gIx (dVar 0) (dC (.int 2))) (dOp gIx (dVar 1) (dC (.int 3))))) (dOp (rBin CMul fun i j => i * j) (dOp gIx (dVar 0) (dC (.int 3))) (dOp gIx (dVar 1) (dC (.int 2))))))
def t_l_sum_cfa2 : DTS :=
 (dRet (dLc false (dRngI gZip (dCons (dVar 0) (dCons (dVar 1) dNil))) (dGTup 2 (dGCons (dName 3) (dGCons (dName 4) dGNil))) dYes (dOp gAdd (dVar 3) (dOp (rBin CMul fun i j => i * j) (dVar 2) (dVar 4))) [3, 4]))
def t_rooted_o : DTS :=
 (dSeq (dAsg (dVar 0) (dGTup 4 (dGCons (dName 2) (dGCons (dName 3) (dGCons (dName 4) (dGCons (dName 5) dGNil))))))
 (dSeq (dAsg (dVar 1) (dGTup 4 (dGCons (dName 6) (dGCons (dName 7) (dGCons (dName 8) (dGCons (dName 9) dGNil))))))
 (dRet (dOwn (dCons (dOp gAdd (dOp gAdd (dOp (rBin CMul fun i j => i * j) (dVar 5) (dVar 6)) (dOp (rBin CMul fun i j => i * j) (dVar 3) (dVar 8))) (dOp (rBin CMul fun i j => i * j) (dVar 2) (dVar 9))) (dCons (dOp gAdd (dOp (rBin CMul fun i j => i * j) (dVar 5) (dVar 7)) (dOp (rBin CMul fun i j => i * j) (dVar 4) (dVar 9))) (dCons (dOp (rBin (fun _ _ => True) fun i j => i - j) (dOp (rBin CMul fun i j => i * j) (dVar 4) (dVar 6)) (dOp (rBin CMul fun i j => i * j) (dVar 2) (dVar 7))) (dCons (dOp (rBin CMul fun i j => i * j) (dVar 3) (dVar 7)) dNil))))))))
def t_root_path (c_check_cutting : DSp) (c_check_path : DSp) (c_rooted_o : DSp) : DTS :=
 (dSeq (dDrop (dCall 1 c_check_cutting [] DX0 (dCons (dVar 0) dNil)))
 (dSeq (dDrop (dCall 1 c_check_path [] DX0 (dCons (dVar 1) dNil)))
 (dRet (dCall 2 c_rooted_o [] DX0 (dCons (dVar 0) (dCons (dVar 1) dNil))))))
def t_l_rooted_6254 : DTS :=
 (dSeq (dAsg (dVar 0) (dGTup 4 (dGCons (dName 2) (dGCons (dName 3) (dGCons (dName 4) (dGCons (dName 5) dGNil))))))
 (dRet (dLst (dCons (dOp gAdd (dOp gAdd (dOp (rBin CMul fun i j => i * j) (dVar 5) (dOp gIx (dVar 1) (dC (.int 0)))) (dOp (rBin CMul fun i j => i * j) (dVar 3) (dOp gIx (dVar 1) (dC (.int 2))))) (dOp (rBin CMul fun i j => i * j) (dVar 2) (dOp gIx (dVar 1) (dC (.int 3))))) (dCons (dOp gAdd (dOp (rBin CMul fun i j => i * j) (dVar 5) (dOp gIx (dVar 1) (dC (.int 1)))) (dOp (rBin CMul fun i j => i * j) (dVar 4) (dOp gIx (dVar 1) (dC (.int 3))))) (dCons (dOp (rBin (fun _ _ => True) fun i j => i - j) (dOp (rBin CMul fun i j => i * j) (dVar 4) (dOp gIx (dVar 1) (dC (.int 0)))) (dOp (rBin CMul fun i j => i * j) (dVar 2) (dOp gIx (dVar 1) (dC (.int 1))))) (dCons (dOp (rBin CMul fun i j => i * j) (dVar 3) (dOp gIx (dVar 1) (dC (.int 1)))) dNil)))))))
def t_l_right_dc29 (c_l_cutting_f2c0 : DSp) (c_l_random_7821 : DSp) (c_l_path_108b : DSp) (c_crossing : DSp) (c_l_crossing_3f18 : DSp) (c_l_sum_cfa2 : DSp) (c_root_path : DSp) (c_l_rooted_6254 : DSp) : DTS :=
 (dSeq (dAsg (dCall 2 c_l_cutting_f2c0 [] DX0 (dCons (dVar 0) (dCons (dOp gIx (dLst (dCons (dC (.int 30)) (dCons (dOp (rBin CPow fun i j => i ^ j.toNat) (dC (.int 10)) (dC (.int 12))) dNil))) (dCall 2 c_l_random_7821 [] DX0 (dCons (dVar 0) (dCons (dC (.int 2)) dNil)))) dNil))) (dName 1))
 (dSeq (dAsg (dLc false (dRngI gRng1 (dCons (dC (.int 3)) dNil)) (dName 5) dYes (dCall 1 c_l_path_108b [] DX0 (dCons (dVar 0) dNil)) [5]) (dGTup 3 (dGCons (dName 2) (dGCons (dName 3) (dGCons (dName 4) dGNil)))))
 (dSeq (dPar 6 7 (dCons (dCB gRepr (dCons (dLst (dCons (dVar 2) (dCons (dVar 3) (dCons (dVar 1) dNil)))) dNil)) (dCons (dOp (rBin (fun _ _ => True) fun i j => i - j) (dCall 2 c_l_random_7821 [] DX0 (dCons (dVar 0) (dCons (dC (.int 9)) dNil))) (dC (.int 4))) dNil)))
 (dSeq (dAsg (dCall 2 c_crossing [] DX0 (dCons (dVar 2) (dCons (dVar 3) dNil))) (dName 8))
 (dSeq (dIfS (dOr (dTru (dOp gNe (dCB gRepr (dCons (dVar 8) dNil)) (dCB gRepr (dCons (dCall 2 c_l_crossing_3f18 [] DX0 (dCons (dVar 2) (dCons (dVar 3) dNil))) dNil)))) (dOr (dTru (dOp gNe (dCallK 2 2 c_crossing [1, 0] DX0 (dCons (dVar 3) (dCons (dVar 2) dNil))) (dVar 8))) (dOr (dTru (dOp gNe (dCall 2 c_crossing [] DX0 (dCons (dVar 3) (dCons (dVar 2) dNil))) (dOp (rBin (fun _ _ => True) fun i j => i - j) (dC (.int 0)) (dVar 8)))) (dTru (dOp gNe (dCall 2 c_crossing [] DX0 (dCons (dVar 2) (dCons (dVar 2) dNil))) (dC (.int 0))))))) (dRet (dC (.bl false))) dNext)
 (dSeq (dIfS (dTru (dOp gNe (dCall 2 c_crossing [] DX0 (dCons (dCall 3 c_l_sum_cfa2 [] DX0 (dCons (dVar 2) (dCons (dVar 4) (dCons (dVar 7) dNil)))) (dCons (dVar 3) dNil))) (dOp gAdd (dVar 8) (dOp (rBin CMul fun i j => i * j) (dVar 7) (dCall 2 c_l_crossing_3f18 [] DX0 (dCons (dVar 4) (dCons (dVar 3) dNil))))))) (dRet (dC (.bl false))) dNext)
 (dSeq (dAsg (dCall 2 c_root_path [] DX0 (dCons (dVar 1) (dCons (dVar 2) dNil))) (dName 9))
 (dSeq (dIfS (dOr (dTru (dOp gNe (dCB gRepr (dCons (dVar 9) dNil)) (dCB gRepr (dCons (dCall 2 c_l_rooted_6254 [] DX0 (dCons (dVar 1) (dCons (dVar 2) dNil))) dNil)))) (dTru (dOp gNe (dCallK 2 2 c_root_path [1, 0] DX0 (dCons (dVar 2) (dCons (dVar 1) dNil))) (dVar 9)))) (dRet (dC (.bl false))) dNext)
 (dSeq (dIfS (dTru (dOp gNe (dCall 2 c_root_path [] DX0 (dCons (dVar 1) (dCons (dCall 3 c_l_sum_cfa2 [] DX0 (dCons (dVar 2) (dCons (dVar 4) (dCons (dVar 7) dNil)))) dNil))) (dCall 3 c_l_sum_cfa2 [] DX0 (dCons (dVar 9) (dCons (dCall 2 c_l_rooted_6254 [] DX0 (dCons (dVar 1) (dCons (dVar 4) dNil))) (dCons (dVar 7) dNil)))))) (dRet (dC (.bl false))) dNext)
 (dSeq (dAsg (dVar 1) (dGTup 4 (dGCons (dName 10) (dGCons (dName 11) (dGCons (dName 12) (dGCons (dName 13) dGNil))))))
 (dSeq (dIfS (dTru (dOp gNe (dCall 2 c_root_path [] DX0 (dCons (dVar 1) (dCons (dCB (gList false) (dCons (dVar 9) dNil)) dNil))) (dLc false (dRngI gZip (dCons (dVar 9) (dCons (dVar 2) dNil))) (dGTup 2 (dGCons (dName 14) (dGCons (dName 15) dGNil))) dYes (dOp gAdd (dOp (rBin CMul fun i j => i * j) (dVar 13) (dVar 14)) (dOp (rBin CMul fun i j => i * j) (dOp (rBin CMul fun i j => i * j) (dVar 11) (dVar 12)) (dVar 15))) [14, 15]))) (dRet (dC (.bl false))) dNext)
 (dSeq (dIfS (dTru (dOp gNe (dCall 2 c_crossing [] DX0 (dCons (dVar 9) (dCons (dVar 3) dNil))) (dCall 2 c_crossing [] DX0 (dCons (dVar 2) (dCons (dCall 2 c_root_path [] DX0 (dCons (dVar 1) (dCons (dVar 3) dNil))) dNil))))) (dRet (dC (.bl false))) dNext)
 (dSeq (dDrop (dMet gAppend (dVar 9) (dCons (dC .non) dNil)))
 (dRet (dAndV (dOp gEq (dCall 2 c_root_path [] DX0 (dCons (dVar 1) (dCons (dVar 2) dNil))) (dCall 2 c_l_rooted_6254 [] DX0 (dCons (dVar 1) (dCons (dVar 2) dNil)))) (dOp gEq (dCB gRepr (dCons (dLst (dCons (dVar 2) (dCons (dVar 3) (dCons (dVar 1) dNil)))) dNil)) (dVar 6)))))))))))))))))
def t_l_law_540c (c_l_right_dc29 : DSp) (c_l_generator_b324 : DSp) (c_crossing : DSp) (c_root_path : DSp) : DTS :=
 (dSeq (dFor (dRngI gRng1 (dCons (dC (.int 2)) dNil)) (dName 1) (dIfS (dNot (dTru (dCall 1 c_l_right_dc29 [] DX0 (dCons (dCall 2 c_l_generator_b324 [] DX0 (dCons (dVar 0) (dCons (dVar 1) dNil))) dNil)))) (dRet (dC (.bl false))) dNext))
 (dSeq (dIfS (dTru (dOp gNe (dLst (dCons (dCall 2 c_crossing [] DX0 (dCons (dLst (dCons (dC (.int 1)) (dCons (dC (.int 0)) (dCons (dC (.int 0)) (dCons (dC (.int 0)) dNil))))) (dCons (dLst (dCons (dC (.int 0)) (dCons (dC (.int 1)) (dCons (dC (.int 0)) (dCons (dC (.int 0)) dNil))))) dNil))) (dCons (dCall 2 c_crossing [] DX0 (dCons (dLst (dCons (dC (.int 0)) (dCons (dC (.int 2)) (dCons (dC (.int 1)) (dCons (dC (.int 0)) dNil))))) (dCons (dLst (dCons (dC (.int 1)) (dCons (dC (.int 0)) (dCons (dC (.int 0)) (dCons (dC (.int 3)) dNil))))) dNil))) (dCons (dCall 2 c_crossing [] DX0 (dCons (dLst (dCons (dC (.int 0)) (dCons (dC (.int 0)) (dCons (dC (.int 0)) (dCons (dC (.int 1)) dNil))))) (dCons (dLst (dCons (dC (.int 0)) (dCons (dC (.int 0)) (dCons (dC (.int 1)) (dCons (dC (.int 0)) dNil))))) dNil))) dNil)))) (dLst (dCons (dC (.int 1)) (dCons (dC (.int 1)) (dCons (dNeg (dC (.int 1))) dNil)))))) (dRet (dC (.bl false))) dNext)
 (dRet (dAndV (dOp gEq (dCall 2 c_root_path [] DX0 (dCons (dTup (dCons (dC (.int 0)) (dCons (dC (.int 1)) (dCons (dC (.int 1)) (dCons (dNeg (dC (.int 1))) dNil))))) (dCons (dLst (dCons (dC (.int 1)) (dCons (dC (.int 0)) (dCons (dC (.int 0)) (dCons (dC (.int 0)) dNil))))) dNil))) (dLst (dCons (dNeg (dC (.int 1))) (dCons (dC (.int 0)) (dCons (dC (.int 1)) (dCons (dC (.int 0)) dNil)))))) (dOp gEq (dCall 2 c_root_path [] DX0 (dCons (dTup (dCons (dC (.int 0)) (dCons (dC (.int 2)) (dCons (dC (.int 1)) (dCons (dC (.int 0)) dNil))))) (dCons (dLst (dCons (dC (.int 1)) (dCons (dC (.int 2)) (dCons (dC (.int 0)) (dCons (dNeg (dC (.int 1))) dNil))))) dNil))) (dLst (dCons (dC (.int 0)) (dCons (dNeg (dC (.int 1))) (dCons (dC (.int 1)) (dCons (dC (.int 4)) dNil))))))))))
end DL
namespace DL
open PySem PySem.Spec PyProof.Rows L2
local macro_rules | `(tactic| walk_at "rd") => `(tactic| simp only [startD, List.map, List.replicate, List.length_cons, List.length_nil, List.append_eq, List.append_nil, List.nil_append, List.cons_append, Nat.reduceSub, Nat.reduceAdd, List.getElem?_cons_zero, List.getElem?_cons_succ, List.set_cons_zero, List.set_cons_succ,
  dC, dVar, dOp, dTru, gTru, tru, dChain, dAnd, dOr, dNot, dAndV, dOrV, dNotV, dIf, dNeg, gNeg, dNil, dCons, dTup, dLst, dOwn, gIx, rBin, gAdd, gCmpI, dCall, dCallK, dSeq, dNext, dDrop, dRet, dRetN, dIfS, dName, dGNil, dGCons, dGTup, dSub, gSetL, dAsg, dPar, dPar3, dAug, gIpI, dSeqI, gSeqI, dRngI, gRng1, gRng2, dCB, gAbs, gInt, gMax, gMin, gGcd, gLen, lenD, gIsi, tyM, tyD, dBits, gBits, dMet, gAppend, dPart, dNoPart, dSl, dEnds, gIs, isB, dNever, dFor, dLc, wipeD, dYes,
  sizeLine_eq, Nat.reduceLeDiff, gEq_int, gNe_int, gEq_strs, gNe_strs, gIn_two, gRepr_bl, rs_lst, rs_tup, rs_scr, rs_int, atI_0, atI_1, atI_2, atI_3, atI_4, atI_5, ixN_30, ixN_31, ixN_32, gEq_bl, gNe_bl, decide_eq_true_eq, beq_iff_eq, Bool.not_eq_true', beq_eq_false_iff_ne, decide_eq_false_iff_not, Bool.not_true, Bool.not_false, if_true, if_false, Bool.false_eq_true, ite_true, ite_false, true_and, and_true, ne_eq, Bool.bne_false, Bool.bne_true, reduceCtorEq])
local macro_rules | `(tactic| walk_at "rh") => `(tactic| simp only [*, startD, List.map, List.replicate, List.length_cons, List.length_nil, List.append_eq, List.append_nil, List.nil_append, List.cons_append, Nat.reduceSub, Nat.reduceAdd, List.getElem?_cons_zero, List.getElem?_cons_succ, List.set_cons_zero, List.set_cons_succ,
  dC, dVar, dOp, dTru, gTru, tru, dChain, dAnd, dOr, dNot, dAndV, dOrV, dNotV, dIf, dNeg, gNeg, dNil, dCons, dTup, dLst, dOwn, gIx, rBin, gAdd, gCmpI, dCall, dCallK, dSeq, dNext, dDrop, dRet, dRetN, dIfS, dName, dGNil, dGCons, dGTup, dSub, gSetL, dAsg, dPar, dPar3, dAug, gIpI, dSeqI, gSeqI, dRngI, gRng1, gRng2, dCB, gAbs, gInt, gMax, gMin, gGcd, gLen, lenD, gIsi, tyM, tyD, dBits, gBits, dMet, gAppend, dPart, dNoPart, dSl, dEnds, gIs, isB, dNever, dFor, dLc, wipeD, dYes,
  sizeLine_eq, Nat.reduceLeDiff, gEq_int, gNe_int, gEq_strs, gNe_strs, gIn_two, gRepr_bl, rs_lst, rs_tup, rs_scr, rs_int, atI_0, atI_1, atI_2, atI_3, atI_4, atI_5, ixN_30, ixN_31, ixN_32, gEq_bl, gNe_bl, decide_eq_true_eq, beq_iff_eq, Bool.not_eq_true', beq_eq_false_iff_ne, decide_eq_false_iff_not, Bool.not_true, Bool.not_false, if_true, if_false, Bool.false_eq_true, ite_true, ite_false, true_and, and_true, ne_eq, Bool.bne_false, Bool.bne_true, reduceCtorEq])
local macro_rules | `(tactic| walk_at "kb") => `(tactic| simp only [kb_NoneType_list, kb_bool_list, kb_int_list, kb_str_list, kb_tuple_list, kb_list_list, kb_dict_list, kb_NoneType_int, kb_bool_int, kb_int_int, kb_str_int, kb_tuple_int, kb_list_int, kb_dict_int, kb_NoneType_bool, kb_bool_bool, kb_int_bool, kb_str_bool, kb_tuple_bool, kb_list_bool, kb_dict_bool, kb_NoneType_tuple, kb_bool_tuple, kb_int_tuple, kb_str_tuple, kb_tuple_tuple, kb_list_tuple, kb_dict_tuple, if_true, if_false, Bool.false_eq_true, ite_true, ite_false, Bool.not_true, Bool.not_false])
theorem rd_l_common_b8b4 : ∀ ds M Q, ds.length = 2 → sp_gcd ds M Q DX0 → t_l_common_b8b4 (dEnds M Q) (startD 4 ds) M := by
  rintro _ M Q - ⟨a, b, rfl, q⟩
  unfold t_l_common_b8b4
  walk_at "rd"
  refine dwhile_of (fun n r M' => ∃ l h : Int, r = [some (.int a), some (.int b), some (.int l), some (.int h)] ∧ M' = M ∧ 0 ≤ l ∧ 0 ≤ h ∧ Int.gcd l h = Int.gcd a b ∧ n = h.toNat) _ ⟨_, _, rfl, rfl, ?_, ?_, gcd_abs a b, rfl⟩ ?_
  · split <;> omega
  · split <;> omega
  · rintro n r M' ⟨l, h, rfl, rfl, hl, hh, hg, rfl⟩
    walk_at "rd"
    split
    · rename_i h0
      have hp : 0 < h := by omega
      refine ⟨(show h ≠ 0 by omega), _, ?_, h, l.fmod h, rfl, hh, ?_, (gcd_step hl hp).trans hg, rfl⟩
      · have := fm_range (a := l) hp
        omega
      · exact (fm_range (a := l) hp).1
    · rename_i h0
      have h0 : h = 0 := by omega
      subst h0
      rw [← hg, gcd_end hl] at q
      exact rtq q
/-! ### lists, plain or owned -/
theorem gSeqI_res {M : Mem} {d : D} {l : List D} {R : List D → (Mem → Prop) → Mem → Prop} (h : res M d = .lst l) (q : ∀ C : Mem → Prop, C M → R l C M) : gSeqI d M R := by
  cases d <;> first | (cases h; done) | skip
  · cases h; exact q _ trivial
  · rename_i k
    unfold res at h
    dsimp only at h
    split at h
    · rename_i ds hk
      cases h
      unfold gSeqI
      simp only [hk]
      exact q _ hk
    · cases h
theorem tyM_res {M : Mem} {d : D} {l : List D} (h : res M d = .lst l) : tyM M d = some "list" := by
  cases d <;> first | (cases h; done) | skip
  · rfl
  · rename_i k
    unfold res at h
    dsimp only at h
    split at h
    · rename_i ds hk
      unfold tyM
      simp only [hk]
    · cases h
theorem lenD_res {M : Mem} {d : D} {l : List D} (h : res M d = .lst l) : lenD M d = some l.length := by
  cases d <;> first | (cases h; done) | skip
  · cases h; rfl
  · rename_i k
    unfold res at h
    dsimp only at h
    split at h
    · rename_i ds hk
      cases h
      unfold lenD
      simp only [hk]
    · cases h
theorem lsqD_res {M : Mem} {d : D} {l : List D} (h : res M d = .lst l) : ∃ C : Mem → Prop, lsqD M d = some (l, C) ∧ C M := by
  cases d <;> first | (cases h; done) | skip
  · cases h; exact ⟨_, rfl, trivial⟩
  · rename_i k
    unfold res at h
    dsimp only at h
    split at h
    · rename_i ds hk
      cases h
      unfold lsqD
      simp only [hk]
      exact ⟨_, rfl, hk⟩
    · cases h
/-- cells were added, or changed: all of them plain -/
def Grow (M M' : Mem) : Prop := M.length ≤ M'.length ∧ ∀ (i : Nat) (c : Own), M'[i]? = some c → M[i]? = some c ∨ belowO 0 c = true
theorem Grow.refl (M : Mem) : Grow M M := ⟨Nat.le_refl _, fun _ _ h => .inl h⟩
theorem Grow.trans {M M' M'' : Mem} (h : Grow M M') (g : Grow M' M'') : Grow M M'' :=
  ⟨Nat.le_trans h.1 g.1, fun i c hc => (g.2 i c hc).elim (fun z => h.2 i c z) .inr⟩
theorem Gst.grow {k : Nat} {n : Int} {M M' : Mem} (h : Gst k n M M') : Grow M M' := by
  refine ⟨Nat.le_of_eq h.1.symm, fun i c hc => ?_⟩
  by_cases hi : i = k
  · subst hi
    obtain ⟨a, s, c', e, _⟩ := h.2.1
    rw [e] at hc; cases hc
    exact .inr rfl
  · rw [h.2.2 i hi] at hc
    exact .inl hc
theorem Grow.add {M : Mem} {c : Own} (h : belowO 0 c = true) : Grow M (M ++ [c]) := by
  refine ⟨by simp, fun i d hd => ?_⟩
  by_cases hi : i < M.length
  · rw [List.getElem?_append_left hi] at hd; exact .inl hd
  · have hj2 : i < M.length + 1 := by
      have := (List.getElem?_eq_some_iff.mp hd).1
      simpa using this
    have e : i = M.length := by omega
    subst e
    rw [List.getElem?_append_right (Nat.le_refl _), Nat.sub_self] at hd
    cases hd
    exact .inr h
theorem Grow.set {M : Mem} {k : Nat} {c : Own} (h : belowO 0 c = true) : Grow M (M.set k c) := by
  refine ⟨by simp, fun i d hd => ?_⟩
  by_cases hi : i = k
  · subst hi
    have hl : i < M.length := by
      have := (List.getElem?_eq_some_iff.mp hd).1
      rwa [List.length_set] at this
    rw [List.getElem?_set_self hl] at hd
    cases hd
    exact .inr h
  · rw [List.getElem?_set_ne (Ne.symm hi)] at hd
    exact .inl hd
theorem belowO_mono {c : Own} {n : Nat} (h : belowO 0 c = true) : belowO n c = true := by
  cases c with
  | lst l => simp only [belowO] at h ⊢; exact belowAll.mono (Nat.zero_le _) _ h
  | dead => rfl
theorem Grow.rtq {M M' : Mem} {Q : DQ} {d : D} (h : Grow M M') (q : Q d M') (hb : below M'.length d = true := by rfl) : Rtq M Q d M' :=
  rtqC q h.1 hb fun i c hc => (h.2 i c hc).elim .inl fun z => .inr (belowO_mono z)
/-! ### paths -/
abbrev P4 (a b c d : Int) : D := .lst [.int a, .int b, .int c, .int d]
theorem isL {M : Mem} {d : D} {l : List D} (h : res M d = .lst l) : d = .lst l ∨ ∃ k, d = .own k ∧ M[k]? = some (.lst l) := by
  cases d <;> first | (cases h; done) | skip
  · exact .inl h
  · rename_i k
    unfold res at h
    dsimp only at h
    split at h
    · rename_i ds hk
      cases h
      exact .inr ⟨k, rfl, hk⟩
    · cases h
def sp_is_path_list : DSp := fun ds M Q _ => ∃ x a b c d, ds = [x] ∧ res M x = P4 a b c d ∧ Q (.bl true) M
theorem rd_is_path_list : ∀ ds M Q, ds.length = 1 → sp_is_path_list ds M Q DX0 → t_is_path_list sp_is_whole (dEnds M Q) (startD 2 ds) M := by
  rintro _ M Q - ⟨x, a, b, c, d, rfl, hx, q⟩
  unfold t_is_path_list
  have fil : ∀ {r : Env} {Q' : DQ} {C : Mem → Prop}, r.length = 2 → C M → Q' (.lst []) M → lcW false [D.int a, .int b, .int c, .int d] C (dName 1) (dNot (dTru (dCall 1 sp_is_whole [] DX0 (dCons (dVar 1) dNil)))) (dVar 1) r M Q' := by
    intro r Q' C hr hC hq
    refine lcW_pure (fun _ => none) hC (by rw [sizeLine_eq]; exact (by decide : (4 : Nat) ≤ 16777216)) (fun e he Y N hy => ?_) hq
    obtain ⟨j, rfl⟩ : ∃ j, e = .int j := by
      simp only [List.mem_cons, List.not_mem_nil, or_false] at he
      rcases he with rfl | rfl | rfl | rfl <;> exact ⟨_, rfl⟩
    have er : (r.set 1 (some (D.int j)))[1]? = some (some (D.int j)) := List.getElem?_set_self (by omega)
    walk_at "rd"
    simp only [er]
    exact ⟨.int j, _, rfl, rfl, hy⟩
  rcases isL hx with rfl | ⟨k, rfl, hk⟩
  · walk_at "rd"
    walk_at "kb"
    rw [if_pos (show ((4 : Nat) : Int) = 4 from rfl)]
    refine fil (C := fun _ => True) rfl trivial ?_
    exact gEq_same (n := 2) rfl (rtq q)
  · walk_at "rd"
    simp only [hk]
    walk_at "kb"
    rw [if_pos (show (([D.int a, .int b, .int c, .int d].length : Nat) : Int) = 4 from rfl)]
    refine fil (C := fun M' => M'[k]? = some (.lst [.int a, .int b, .int c, .int d])) rfl hk ?_
    exact gEq_same (n := 2) rfl (rtq q)
def sp_check_path : DSp := fun ds M Q _ => ∃ x a b c d, ds = [x] ∧ res M x = P4 a b c d ∧ Q .non M
theorem rd_check_path : ∀ ds M Q, ds.length = 1 → sp_check_path ds M Q DX0 → t_check_path sp_is_path_list (dEnds M Q) (startD 1 ds) M := by
  rintro _ M Q - ⟨x, a, b, c, d, rfl, hx, q⟩
  unfold t_check_path
  walk_at "rd"
  exact ⟨x, a, b, c, d, rfl, hx, rtq q⟩
def crV (a b c d u v w x : Int) : Int := a * v - b * u + c * x - d * w
def sp_crossing : DSp := fun ds M Q _ => ∃ p q a b c d u v w x, ds = [p, q] ∧ res M p = P4 a b c d ∧ res M q = P4 u v w x ∧ (Bi 900 a ∧ Bi 900 b ∧ Bi 900 c ∧ Bi 900 d) ∧ (Bi 900 u ∧ Bi 900 v ∧ Bi 900 w ∧ Bi 900 x) ∧ Q (.int (crV a b c d u v w x)) M
theorem rd_crossing_by : ∀ ds M Q, ds.length = 2 → sp_crossing ds M Q DX0 → t_crossing_by (dEnds M Q) (startD 3 ds) M := by
  rintro _ M Q - ⟨p, q, a, b, c, d, u, v, w, x, rfl, hp, hq, ⟨ba, bb, bc, bd⟩, ⟨bu, bv, bw, bx⟩, h⟩
  unfold t_crossing_by
  walk_at "rd"
  simp only [hp, hq]
  walk_at "rd"
  exact ⟨⟨ba.sm, bv.sm⟩, ⟨bb.sm, bu.sm⟩, ⟨bc.sm, bx.sm⟩, ⟨bd.sm, bw.sm⟩, rtq h⟩
theorem rd_l_crossing_3f18 : ∀ ds M Q, ds.length = 2 → sp_crossing ds M Q DX0 → t_l_crossing_3f18 (dEnds M Q) (startD 2 ds) M := by
  rintro _ M Q - ⟨p, q, a, b, c, d, u, v, w, x, rfl, hp, hq, ⟨ba, bb, bc, bd⟩, ⟨bu, bv, bw, bx⟩, h⟩
  unfold t_l_crossing_3f18
  walk_at "rd"
  simp only [hp, hq]
  walk_at "rd"
  exact ⟨⟨ba.sm, bv.sm⟩, ⟨bb.sm, bu.sm⟩, ⟨bc.sm, bx.sm⟩, ⟨bd.sm, bw.sm⟩, rtq h⟩
theorem rd_crossing : ∀ ds M Q, ds.length = 2 → sp_crossing ds M Q DX0 → t_crossing sp_check_path sp_crossing (dEnds M Q) (startD 2 ds) M := by
  rintro _ M Q - ⟨p, q, a, b, c, d, u, v, w, x, rfl, hp, hq, hA, hB, h⟩
  unfold t_crossing
  walk_at "rd"
  exact ⟨p, a, b, c, d, rfl, hp, q, u, v, w, x, rfl, hq, p, q, a, b, c, d, u, v, w, x, rfl, hp, hq, hA, hB, rtq h⟩
/-- the root's work on a path -/
def rtV (a b c e p q r s : Int) : D := P4 (e * p + b * r + a * s) (e * q + c * s) (c * p - a * q) (b * q)
def sp_rooted_o : DSp := fun ds M Q _ => ∃ y a b c e p q r s, ds = [T4 a b c e, y] ∧ res M y = P4 p q r s ∧ (Bi 900 a ∧ Bi 900 b ∧ Bi 900 c ∧ Bi 900 e) ∧ (Bi 900 p ∧ Bi 900 q ∧ Bi 900 r ∧ Bi 900 s) ∧ Q (.own M.length) (M ++ [.lst [.int (e * p + b * r + a * s), .int (e * q + c * s), .int (c * p - a * q), .int (b * q)]])
theorem rd_rooted_o : ∀ ds M Q, ds.length = 2 → sp_rooted_o ds M Q DX0 → t_rooted_o (dEnds M Q) (startD 10 ds) M := by
  rintro _ M Q - ⟨y, a, b, c, e, p, q, r, s, rfl, hy, ⟨ba, bb, bc, be⟩, ⟨bp, bq, br, bs⟩, h⟩
  unfold t_rooted_o
  walk_at "rd"
  simp only [hy]
  try walk_at "rd"
  refine ⟨⟨be.sm, bp.sm⟩, ⟨bb.sm, br.sm⟩, ⟨ba.sm, bs.sm⟩, ⟨be.sm, bq.sm⟩, ⟨bc.sm, bs.sm⟩, ⟨bc.sm, bp.sm⟩, ⟨ba.sm, bq.sm⟩, ⟨bb.sm, bq.sm⟩, ?_⟩
  exact (Grow.add rfl).rtq h (by simp only [below]; exact decide_eq_true (by simp))
def sp_lrooted : DSp := fun ds M Q _ => ∃ y a b c e p q r s, ds = [T4 a b c e, y] ∧ res M y = P4 p q r s ∧ (Bi 900 a ∧ Bi 900 b ∧ Bi 900 c ∧ Bi 900 e) ∧ (Bi 900 p ∧ Bi 900 q ∧ Bi 900 r ∧ Bi 900 s) ∧ Q (rtV a b c e p q r s) M
theorem rd_l_rooted_6254 : ∀ ds M Q, ds.length = 2 → sp_lrooted ds M Q DX0 → t_l_rooted_6254 (dEnds M Q) (startD 6 ds) M := by
  rintro _ M Q - ⟨y, a, b, c, e, p, q, r, s, rfl, hy, ⟨ba, bb, bc, be⟩, ⟨bp, bq, br, bs⟩, h⟩
  unfold t_l_rooted_6254
  have fin : ∀ d, d = rtV a b c e p q r s → Rtq M Q d M := by
    rintro _ rfl
    exact rtq h
  clear h
  refine dSeq_open fun B hB => ?_
  walk_at "rd"
  rw [← hB]
  clear hB B
  have hcm : CMul e p ∧ CMul b r ∧ CMul a s ∧ CMul e q ∧ CMul c s ∧ CMul c p ∧ CMul a q ∧ CMul b q := ⟨⟨be.sm, bp.sm⟩, ⟨bb.sm, br.sm⟩, ⟨ba.sm, bs.sm⟩, ⟨be.sm, bq.sm⟩, ⟨bc.sm, bs.sm⟩, ⟨bc.sm, bp.sm⟩, ⟨ba.sm, bq.sm⟩, ⟨bb.sm, bq.sm⟩⟩
  clear ba bb bc be bp bq br bs
  revert hcm
  walk_at "rh"
  rintro ⟨h1, h2, h3, h4, h5, h6, h7, h8⟩
  exact ⟨h1, h2, h3, h4, h5, h6, h7, h8, fin _ rfl⟩
def sp_root_path : DSp := fun ds M Q _ => ∃ y a b c e p q r s, ds = [T4 a b c e, y] ∧ isCut a b c e = true ∧ res M y = P4 p q r s ∧ (Bi 900 a ∧ Bi 900 b ∧ Bi 900 c ∧ Bi 900 e) ∧ (Bi 900 p ∧ Bi 900 q ∧ Bi 900 r ∧ Bi 900 s) ∧ Q (.own M.length) (M ++ [.lst [.int (e * p + b * r + a * s), .int (e * q + c * s), .int (c * p - a * q), .int (b * q)]])
theorem rd_root_path : ∀ ds M Q, ds.length = 2 → sp_root_path ds M Q DX0 → t_root_path sp_check_cutting sp_check_path sp_rooted_o (dEnds M Q) (startD 2 ds) M := by
  rintro _ M Q - ⟨y, a, b, c, e, p, q, r, s, rfl, hc, hy, hA, hB, h⟩
  unfold t_root_path
  walk_at "rd"
  exact ⟨a, b, c, e, rfl, hc, y, p, q, r, s, rfl, hy, y, a, b, c, e, p, q, r, s, rfl, hy, hA, hB, (Grow.add rfl).rtq h (by simp only [below]; exact decide_eq_true (by simp))⟩

/-- one + t other -/
def sp_lsum : DSp := fun ds M Q _ => ∃ x y a b c d u v w z t, ds = [x, y, .int t] ∧ res M x = P4 a b c d ∧ res M y = P4 u v w z ∧ (Bi 900 u ∧ Bi 900 v ∧ Bi 900 w ∧ Bi 900 z) ∧ Bi 900 t ∧ Q (P4 (a + t * u) (b + t * v) (c + t * w) (d + t * z)) M
theorem zip_lcW {x y : D} {l1 l2 : List D} {r : Env} {M : Mem} {Q : DQ} {u1 u2 : Nat} {te : DTE} (hx : res M x = .lst l1) (hy : res M y = .lst l2) (hz : (List.zipWith pairD l1 l2).length ≤ 100) (f : D → D → D) (h12 : u1 < r.length ∧ u2 < r.length)
    (step : ∀ p q, pairD p q ∈ List.zipWith pairD l1 l2 → ∀ (Y : D → Mem → Prop), Y (f p q) M → te ((r.set u1 (some p)).set u2 (some q)) M Y)
    (q : Q (.lst (List.zipWith f l1 l2)) M) : gZip [x, y] M fun ds C M0 => lcW false ds C (dGTup 2 (dGCons (dName u1) (dGCons (dName u2) dGNil))) dYes te r M0 Q := by
  obtain ⟨C1, e1, c1⟩ := lsqD_res hx
  obtain ⟨C2, e2, c2⟩ := lsqD_res hy
  unfold gZip
  simp only [e1, e2]
  have hf : List.filterMap (fun d => match d with | .tup [p, q] => some (f p q) | _ => none) (List.zipWith pairD l1 l2) = List.zipWith f l1 l2 := by
    clear hx hy hz step q e1 e2
    induction l1 generalizing l2 with
    | nil => rfl
    | cons a l ih =>
      cases l2 with
      | nil => rfl
      | cons b m =>
        rw [List.zipWith_cons_cons, List.zipWith_cons_cons, List.filterMap_cons]
        show f a b :: _ = _
        rw [ih]
  refine lcW_pure (fun d => match d with | .tup [p, q] => some (f p q) | _ => none) ⟨c1, c2⟩ (by rw [sizeLine_eq]; omega) (fun d hd Y N hy => ?_) (by rw [hf]; exact q)
  obtain ⟨i, hi⟩ := List.getElem?_of_mem hd
  obtain ⟨p, q', _, _, rfl⟩ := zip_get hi
  walk_at "rd"
  unfold pairD at hy ⊢
  walk_at "rd"
  exact step p q' hd _ hy
theorem rd_l_sum_cfa2 : ∀ ds M Q, ds.length = 3 → sp_lsum ds M Q DX0 → t_l_sum_cfa2 (dEnds M Q) (startD 5 ds) M := by
  rintro _ M Q - ⟨x, y, a, b, c, d, u, v, w, z, t, rfl, hx, hy, ⟨bu, bv, bw, bz⟩, bt, q⟩
  unfold t_l_sum_cfa2
  walk_at "rd"
  refine zip_lcW (f := fun p q => match p, q with | .int i, .int j => .int (i + t * j) | _, _ => .non) hx hy (by simp) (by simp) (fun p q' hm Y hY => ?_) (rtq q)
  simp only [List.zipWith_cons_cons, List.zipWith_nil_right, pairD, List.mem_cons, List.not_mem_nil, or_false, D.tup.injEq, List.cons.injEq, and_true] at hm
  walk_at "rd"
  rcases hm with ⟨rfl, rfl⟩ | ⟨rfl, rfl⟩ | ⟨rfl, rfl⟩ | ⟨rfl, rfl⟩
  · exact ⟨⟨bt.sm, bu.sm⟩, hY⟩
  · exact ⟨⟨bt.sm, bv.sm⟩, hY⟩
  · exact ⟨⟨bt.sm, bw.sm⟩, hY⟩
  · exact ⟨⟨bt.sm, bz.sm⟩, hY⟩
def sp_lpath : DSp := fun ds M Q _ => ∃ (k : Nat) (n : Int), ds = [.own k] ∧ Gn k n M ∧ n ≤ P40 - 400 ∧ ∀ a b c d M', Bi 70 a → Bi 70 b → Bi 70 c → Bi 70 d → Gst k (n + 200) M M' → Q (P4 a b c d) M'
theorem rd_l_path_108b : ∀ ds M Q, ds.length = 1 → sp_lpath ds M Q DX0 → t_l_path_108b sp_random (dEnds M Q) (startD 3 ds) M := by
  rintro _ M Q - ⟨k, n, rfl, hg, hn, q⟩
  have p20 := p400_ten (i := 20) (by decide)
  have p9 := p400_900
  have cp : CPow 10 6 ∧ CPow 10 20 := by refine ⟨?_, ?_⟩ <;> (unfold CPow; decide)
  unfold t_l_path_108b
  refine dSeq_open fun B hB => ?_
  walk_at "rd"
  refine ⟨cp.1, cp.2, k, 3, n, rfl, by decide, by omega, hg, by omega, fun v M1 v0 v1 g1 => ?_⟩
  obtain ⟨bd, hbd, ebd⟩ := atI_any (l := [.int 3, .int (10 ^ Int.toNat 6), .int (10 ^ Int.toNat 20)]) v0 v1
  obtain ⟨bd, rfl, bd0, bd1⟩ : ∃ b : Int, bd = .int b ∧ 0 < b ∧ b ≤ 10 ^ 20 := by
    simp only [List.mem_cons, List.not_mem_nil, or_false] at hbd
    rcases hbd with rfl | rfl | rfl <;> exact ⟨_, rfl, by decide, by decide⟩
  dsimp only
  rw [ebd]
  rw [← hB]
  clear hB B ebd hbd
  have sb : Sm bd := (Bi.of_abs (n := 68) (10 ^ 20) (by omega)).sm
  walk_at "rd"
  refine ⟨⟨by decide, by decide⟩, fun j acc M' => j ≤ 4 ∧ Gst k (n + 40 + 40 * j) M M' ∧ ∃ xs : List Int, acc = xs.map .int ∧ xs.length = j ∧ ∀ x ∈ xs, -bd ≤ x ∧ x ≤ bd, ⟨by omega, g1.le (by omega), [], rfl, rfl, fun _ h => by cases h⟩, ?_⟩
  rintro j acc M' ⟨hj, G4, xs, rfl, hl, hx⟩
  refine ⟨trivial, fun hl2 => ?_, fun d hd => ?_⟩
  · rw [if_neg Bool.false_ne_true]
    have hl2 : 4 ≤ j := hl2
    have h3 : xs.length = 4 := by omega
    obtain ⟨x, y, z, w, rfl⟩ : ∃ a b c d, xs = [a, b, c, d] := by
      match xs, h3 with
      | [a, b, c, d], _ => exact ⟨a, b, c, d, rfl⟩
    have bb : ∀ t ∈ [x, y, z, w], Bi 70 t := fun t ht => Bi.of_abs (10 ^ 20) (by have := hx t ht; omega)
    exact G4.rtq (q x y z w M' (bb x (by simp)) (bb y (by simp)) (bb z (by simp)) (bb w (by simp)) (G4.le (by omega)))
  · obtain ⟨hj2, rfl⟩ := rng_get.mp hd
    have hj2 : j < 4 := hj2
    walk_at "rd"
    refine ⟨⟨Sm.of 2 (by decide), sb⟩, k, 2 * bd + 1, _, rfl, by omega, by omega, G4.2.1, by omega, fun w M4 w0 w1 g4 => ?_⟩
    dsimp only
    refine ⟨by rw [List.length_map]; omega, by omega, (G4.trans g4).le (by omega), xs ++ [w - bd], ?_, ?_, ?_⟩
    · rw [List.map_append]; rfl
    · rw [List.length_append]; simp [hl]
    · intro x hx'
      rcases List.mem_append.mp hx' with h | h
      · exact hx x h
      · simp only [List.mem_cons, List.not_mem_nil, or_false] at h
        subst h
        omega

def sp_lcutting40 : DSp := fun ds M Q _ => ∃ (k : Nat) (t n : Int), ds = [.own k, .int t] ∧ 0 < t ∧ t ≤ 10 ^ 12 ∧ Gn k n M ∧ n ≤ P40 - 20000 ∧ ∀ a b c e M', isCut a b c e = true → Bi 60 a → Bi 60 b → Bi 60 c → Bi 60 e → Gst k (n + 10000) M M' → Q (T4 a b c e) M'
theorem rd_l_cutting_f2c0 : ∀ ds M Q, ds.length = 2 → sp_lcutting40 ds M Q DX0 → t_l_cutting_f2c0 sp_random sp_gcd sp_lis_cutting (dEnds M Q) (startD 8 ds) M := by
  rintro _ M Q - ⟨k, t, n, rfl, t0, t1, hg, hn, q⟩
  have p20 := p400_ten (i := 20) (by decide)
  have p9 := p400_900
  have bt : Bi 40 t := Bi.of_abs (10 ^ 12) (by omega)
  have s2 : Sm 2 := Sm.of 2 (by decide)
  unfold t_l_cutting_f2c0
  refine dSeq_open fun B0 hB0 => ?_
  walk_at "rd"
  refine ⟨⟨by decide, by decide⟩, ?_⟩
  refine ⟨fun i r M' => i ≤ 30 ∧ Gst k (n + 300 * i) M M' ∧ ∃ a2 a3 a4 a5 a6 a7, r = [some (.own k), some (.int t), a2, a3, a4, a5, a6, a7], ⟨by omega, Gst.refl (hg.le (by omega)), _, _, _, _, _, _, rfl⟩, ?_⟩
  rintro i r M1 ⟨hi, g1, a2, a3, a4, a5, a6, a7, rfl⟩
  refine ⟨trivial, fun hl => ?_, fun d hd => ?_⟩
  · dsimp only
    rw [← hB0]
    walk_at "rd"
    have hc : isCut 0 (1 + t) 1 (0 - 1) = true := by
      have h1 : Int.gcd (1 + t) 1 = 1 := Int.gcd_one_right _
      unfold isCut
      rw [h1]
      rw [decide_eq_true (show 1 ≤ 1 + t by omega), decide_eq_true (show (1 : Int) + (0 - 1) < 1 + t by omega)]
      rfl
    exact g1.rtq (q 0 (1 + t) 1 (0 - 1) M1 hc (Bi.of_abs 0 (by decide)) ((Bi.of_abs (n := 41) (10 ^ 12 + 1) (by omega)).mono) (Bi.of_abs 1 (by decide)) (Bi.of_abs 1 (by decide)) (g1.le (by omega)))
  · clear hB0
    obtain ⟨hi2, rfl⟩ := rng_get.mp hd
    have hi2 : i < 30 := hi2
    refine dSeq_open fun B hB => ?_
    walk_at "rd"
    refine ⟨k, t, _, rfl, t0, by omega, g1.2.1, by omega, fun x M2 x0 x1 g2 => ?_⟩
    dsimp only
    refine ⟨k, t, _, rfl, t0, by omega, g2.2.1, by omega, fun y M3 y0 y1 g3 => ?_⟩
    dsimp only
    rw [← hB]
    clear hB B
    have G3 := (g1.trans g2).trans g3
    refine dSeq_open fun B hB => ?_
    have key : ∀ (b c : Int) (a5 : Option D) (M4 : Mem) (m : Int), 1 ≤ b → 1 ≤ c → b ≤ 4 * 10 ^ 12 → c ≤ 4 * 10 ^ 12 → m ≤ n + 300 * i + 160 → Gst k m M M4 → B [some (.own k), some (.int t), some (.int (0 + i)), some (.int b), some (.int c), a5, a6, a7] M4 := by
      intro b c a5 M4 m b0 c0 b1 c1 hm G4
      rw [← hB]
      clear hB B
      refine dSeq_open fun B2 hB2 => ?_
      walk_at "rd"
      refine ⟨⟨s2, bt.sm⟩, k, _, _, rfl, by omega, by omega, G4.2.1, by omega, fun z M5 z0 z1 g5 => ?_⟩
      dsimp only
      rw [← hB2]
      clear hB2 B2
      refine dSeq_open fun B2 hB2 => ?_
      walk_at "rd"
      refine ⟨b, c, rfl, ?_⟩
      dsimp only
      have hgp := gcd_bound (g := b) (b := c) (by omega)
      refine ⟨k, _, _, rfl, by omega, by omega, g5.2.1, by omega, fun w M6 w0 w1 g6 => ?_⟩
      dsimp only
      have G6 := (G4.trans g5).trans g6
      rw [← hB2]
      clear hB2 B2
      walk_at "rd"
      refine ⟨w, b, c, _, rfl, ?_⟩
      dsimp only
      cases hc : isCut w b c (b - c - 1 - z) with
      | true =>
        rw [if_pos rfl]
        have big : ∀ v : Int, -(8 * 10 ^ 12) ≤ v → v ≤ 8 * 10 ^ 12 → Bi 60 v := fun v h1 h2 => Bi.of_abs (8 * 10 ^ 12) (by omega)
        exact G6.rtq (q w b c _ M6 hc (big _ (by omega) (by omega)) (big _ (by omega) (by omega)) (big _ (by omega) (by omega)) (big _ (by omega) (by omega)) (G6.le (by omega)))
      | false =>
        rw [if_neg (by decide)]
        exact ⟨by omega, G6.le (by omega), _, _, _, _, _, _, rfl⟩
    clear hB
    walk_at "rd"
    refine ⟨k, 3, _, rfl, by decide, by omega, G3.2.1, by omega, fun v M4 v0 v1 g4 => ?_⟩
    have G4 := G3.trans g4
    dsimp only
    rw [gEq_int]
    by_cases hv : v = 0
    · have e : (v == 0) = true := by simp [hv]
      rw [e]
      dsimp only
      rw [if_pos rfl]
      refine ⟨k, 3, _, rfl, by decide, by omega, G4.2.1, by omega, fun w M5 w0 w1 g5 => ?_⟩
      have G5 := G4.trans g5
      dsimp only
      have bx : Bi 41 (1 + x) := Bi.of_abs (10 ^ 12 + 1) (by omega)
      have by' : Bi 41 (1 + y) := Bi.of_abs (10 ^ 12 + 1) (by omega)
      have bw : Bi 3 (2 + w) := Bi.of_abs 4 (by omega)
      have hlo : ∀ u : Int, 0 ≤ u → u < t → 1 ≤ (1 + u) * (2 + w) ∧ (1 + u) * (2 + w) ≤ 4 * 10 ^ 12 := by
        intro u u0 u1
        rcases (by omega : w = 0 ∨ w = 1 ∨ w = 2) with rfl | rfl | rfl <;> omega
      exact ⟨⟨bx.sm, bw.sm⟩, ⟨by'.sm, bw.sm⟩, key _ _ _ M5 _ (hlo x x0 x1).1 (hlo y y0 y1).1 (hlo x x0 x1).2 (hlo y y0 y1).2 (by omega) G5⟩
    · have e : (v == 0) = false := by simpa using hv
      rw [e]
      dsimp only
      rw [if_neg (by decide)]
      exact key _ _ _ M4 _ (by omega) (by omega) (by omega) (by omega) (by omega) G4
theorem res_add {M : Mem} {k : Nat} {l : List D} {c : Own} (h : res M (.own k) = .lst l) : res (M ++ [c]) (.own k) = .lst l := by
  rcases isL h with h | ⟨k', e, hk⟩
  · cases h
  · cases e
    have hl := (List.getElem?_eq_some_iff.mp hk).1
    unfold res
    dsimp only
    rw [List.getElem?_append_left hl, hk]
theorem res_new {M : Mem} {l : List D} : res (M ++ [.lst l]) (.own M.length) = .lst l := by
  unfold res
  dsimp only
  rw [List.getElem?_append_right (Nat.le_refl _), Nat.sub_self]
  rfl
theorem gList_res {d : D} {l : List D} {M : Mem} {Q : DQ} (hd : res M d = .lst l) (q : Q (.lst l) M) : gList false [d] M Q := by
  unfold gList seqD
  simp only [hd]
  exact q
theorem gRepr_res {d : D} {l : List D} {M : Mem} {Q : DQ} (hd : res M d = .lst l) (h : okV (.lst l) = true) (q : ∀ z, shwn (.lst l) = some z → Q (.str z) M) : gRepr [d] M Q := by
  have h1 : gRepr [.lst l] M Q := gRepr_ok h q
  unfold gRepr at h1 ⊢
  dsimp only at h1 ⊢
  rw [hd]
  exact h1
theorem gNe_res {n : Nat} {x y d : D} {M : Mem} {Q : DQ} (hx : res M x = d) (hy : res M y = d) (h : fine n d = true) (q : Q (.bl false) M) (hn : n ≤ 64 := by decide) : gNe x y M Q := by
  unfold gNe
  rw [hx, hy, eqB_self h hn]
  exact q
theorem gEq_res {n : Nat} {x y d : D} {M : Mem} {Q : DQ} (hx : res M x = d) (hy : res M y = d) (h : fine n d = true) (q : Q (.bl true) M) (hn : n ≤ 64 := by decide) : gEq x y M Q := by
  unfold gEq
  rw [hx, hy, eqB_self h hn]
  exact q
theorem okV_P4 {n : Nat} {a b c d : Int} (h1 : Bi n a) (h2 : Bi n b) (h3 : Bi n c) (h4 : Bi n d) (hn : n ≤ 799 := by decide) : okV (P4 a b c d) = true :=
  okV_lst rfl (lit_cons (h1.lit8 hn) (lit_cons (h2.lit8 hn) (lit_cons (h3.lit8 hn) (lit_cons (h4.lit8 hn) rfl)))) (Nat.le_of_ble_eq_true rfl)
theorem sp_cross_of {p q : D} {a b c d u v w x : Int} {M : Mem} {Q : DQ} (hp : res M p = P4 a b c d) (hq : res M q = P4 u v w x) (hA : Bi 900 a ∧ Bi 900 b ∧ Bi 900 c ∧ Bi 900 d) (hB : Bi 900 u ∧ Bi 900 v ∧ Bi 900 w ∧ Bi 900 x) (h : Q (.int (crV a b c d u v w x)) M) : sp_crossing [p, q] M Q DX0 :=
  ⟨p, q, a, b, c, d, u, v, w, x, rfl, hp, hq, hA, hB, h⟩
def sp_right40 : DSp := fun ds M Q _ => ∃ (k : Nat) (n : Int), ds = [.own k] ∧ Gn k n M ∧ n ≤ P40 - 30000 ∧ ∀ M', Q (.bl true) M'
theorem rd_l_right_dc29 : ∀ ds M Q, ds.length = 1 → sp_right40 ds M Q DX0 → t_l_right_dc29 sp_lcutting40 sp_random sp_lpath sp_crossing sp_crossing sp_lsum sp_root_path sp_lrooted (dEnds M Q) (startD 16 ds) M := by
  rintro _ M Q - ⟨k, n, rfl, hg, hn, q⟩
  have p20 := p400_ten (i := 20) (by decide)
  have p9 := p400_900
  have cp : CPow 10 12 := by unfold CPow; decide
  unfold t_l_right_dc29
  refine dSeq_open fun B hB => ?_
  walk_at "rd"
  refine ⟨cp, k, 2, n, rfl, by decide, by omega, hg, by omega, fun v M1 v0 v1 g1 => ?_⟩
  obtain ⟨bd, hbd, ebd⟩ := atI_any (l := [.int 30, .int (10 ^ Int.toNat 12)]) v0 v1
  obtain ⟨bd, rfl, bd0, bd1⟩ : ∃ b : Int, bd = .int b ∧ 0 < b ∧ b ≤ 10 ^ 12 := by
    simp only [List.mem_cons, List.not_mem_nil, or_false] at hbd
    rcases hbd with rfl | rfl <;> exact ⟨_, rfl, by decide, by decide⟩
  dsimp only
  rw [ebd]
  refine ⟨k, bd, _, rfl, bd0, bd1, g1.2.1, by omega, fun a b c e M2 hc ba bb bc be g2 => ?_⟩
  dsimp only
  rw [← hB]
  clear hB B ebd hbd
  have G2 := g1.trans g2
  refine dSeq_open fun B hB => ?_
  walk_at "rd"
  refine ⟨⟨by decide, by decide⟩, fun j acc M' => j ≤ 3 ∧ Gst k (n + 10040 + 200 * j) M M' ∧ acc.length = j ∧ ∀ x ∈ acc, ∃ p q r s, x = P4 p q r s ∧ Bi 70 p ∧ Bi 70 q ∧ Bi 70 r ∧ Bi 70 s, ⟨by omega, G2.le (by omega), rfl, fun _ h => by cases h⟩, ?_⟩
  rintro j acc M3 ⟨hj, G3, hl, hx⟩
  refine ⟨trivial, fun hl2 => ?_, fun d hd => ?_⟩
  · rw [if_neg Bool.false_ne_true]
    have hl2 : 3 ≤ j := hl2
    obtain ⟨da, db, dc, rfl⟩ := len3 (by omega : acc.length = 3)
    obtain ⟨p1, p2, p3, p4, rfl, bp1, bp2, bp3, bp4⟩ := hx da (by simp)
    obtain ⟨o1, o2, o3, o4, rfl, bo1, bo2, bo3, bo4⟩ := hx db (by simp)
    obtain ⟨t1, t2, t3, t4, rfl, bt1, bt2, bt3, bt4⟩ := hx dc (by simp)
    clear hx hl hl2
    walk_at "rd"
    rw [← hB]
    clear hB B
    have hP : Bi 900 p1 ∧ Bi 900 p2 ∧ Bi 900 p3 ∧ Bi 900 p4 := ⟨bp1.mono, bp2.mono, bp3.mono, bp4.mono⟩
    have hO : Bi 900 o1 ∧ Bi 900 o2 ∧ Bi 900 o3 ∧ Bi 900 o4 := ⟨bo1.mono, bo2.mono, bo3.mono, bo4.mono⟩
    have hT : Bi 900 t1 ∧ Bi 900 t2 ∧ Bi 900 t3 ∧ Bi 900 t4 := ⟨bt1.mono, bt2.mono, bt3.mono, bt4.mono⟩
    have hC : Bi 900 a ∧ Bi 900 b ∧ Bi 900 c ∧ Bi 900 e := ⟨ba.mono, bb.mono, bc.mono, be.mono⟩
    have okK : okV (.lst [P4 p1 p2 p3 p4, P4 o1 o2 o3 o4, T4 a b c e]) = true := by
      have l4 : ∀ {x y z w : Int}, Bi 70 x → Bi 70 y → Bi 70 z → Bi 70 w → lit 800 (P4 x y z w) = true := fun h1 h2 h3 h4 => lit_cons h1.lit8 (lit_cons h2.lit8 (lit_cons h3.lit8 (lit_cons h4.lit8 rfl)))
      exact okV_lst rfl (lit_cons (l4 bp1 bp2 bp3 bp4) (lit_cons (l4 bo1 bo2 bo3 bo4) (lit_cons (l4 ba.mono bb.mono bc.mono be.mono) rfl))) (Nat.le_of_ble_eq_true rfl)
    refine dSeq_open fun B hB => ?_
    walk_at "rd"
    refine gRepr_ok okK fun z hz => ?_
    refine ⟨k, 9, _, rfl, by decide, by omega, G3.2.1, by omega, fun f0 M4 f1 f2 g4 => ?_⟩
    have G4 := (G3.trans g4).grow
    dsimp only
    generalize hf : f0 - 4 = f
    have bf : Bi 900 f := Bi.of_abs 100 (by omega) (by decide +kernel)
    rw [← hB]
    clear hB B g4 G3 g1 g2 G2
    have fin : ∀ M5, Grow M M5 → Rtq M Q (.bl true) M5 := fun M5 h => h.rtq (q M5)
    refine dSeq_open fun B hB => ?_
    walk_at "rd"
    refine sp_cross_of rfl rfl hP hO ?_
    rw [← hB]
    clear hB B
    have bV : Bi 150 (crV p1 p2 p3 p4 o1 o2 o3 o4) := by
      unfold crV
      exact ((((bp1.mul bo2).sub (bp2.mul bo1)).add ((bp3.mul bo4).mono)).sub ((bp4.mul bo3).mono)).mono
    have okI : okV (.int (crV p1 p2 p3 p4 o1 o2 o3 o4)) = true := by
      unfold okV
      rw [bV.lit8]
      rfl
    have e1 : crV o1 o2 o3 o4 p1 p2 p3 p4 = 0 - crV p1 p2 p3 p4 o1 o2 o3 o4 := by unfold crV; grind
    have e2 : crV p1 p2 p3 p4 p1 p2 p3 p4 = 0 := by unfold crV; grind
    refine dSeq_open fun B hB => ?_
    walk_at "rd"
    refine gRepr_ok okI fun y hy => ?_
    refine sp_cross_of rfl rfl hP hO ?_
    refine gRepr_again hy rfl ?_
    rw [gNe_strs, str_self]
    try dsimp only
    rw [if_neg (by decide)]
    refine ⟨rfl, sp_cross_of rfl rfl hP hO ?_⟩
    try dsimp only
    refine gNe_same (n := 1) rfl ?_
    dsimp only
    rw [if_neg (by decide)]
    refine sp_cross_of rfl rfl hO hP ?_
    rw [e1]
    try dsimp only
    refine gNe_same (n := 1) rfl ?_
    dsimp only
    rw [if_neg (by decide)]
    refine sp_cross_of rfl rfl hP hP ?_
    rw [e2]
    try dsimp only
    refine gNe_same (n := 1) rfl ?_
    dsimp only
    rw [if_neg (by decide)]
    rw [← hB]
    clear hB B hy y
    refine dSeq_open fun B hB => ?_
    walk_at "rd"
    have bf8 : Bi 8 f := Bi.of_abs 100 (by omega)
    have su : ∀ {x y : Int}, Bi 70 x → Bi 70 y → Bi 900 (x + f * y) := fun h1 h2 => ((h1.mono (k := 78)).add (bf8.mul h2)).mono
    have hS : Bi 900 (p1 + f * t1) ∧ Bi 900 (p2 + f * t2) ∧ Bi 900 (p3 + f * t3) ∧ Bi 900 (p4 + f * t4) := ⟨su bp1 bt1, su bp2 bt2, su bp3 bt3, su bp4 bt4⟩
    refine ⟨_, _, p1, p2, p3, p4, t1, t2, t3, t4, f, rfl, rfl, rfl, hT, bf, ?_⟩
    try dsimp only
    refine sp_cross_of rfl rfl hS hO ?_
    try dsimp only
    refine sp_cross_of rfl rfl hT hO ?_
    try dsimp only
    have bW : Bi 150 (crV t1 t2 t3 t4 o1 o2 o3 o4) := by
      unfold crV
      exact ((((bt1.mul bo2).sub (bt2.mul bo1)).add ((bt3.mul bo4).mono)).sub ((bt4.mul bo3).mono)).mono
    refine ⟨⟨bf.sm, bW.sm⟩, ?_⟩
    have e3 : crV (p1 + f * t1) (p2 + f * t2) (p3 + f * t3) (p4 + f * t4) o1 o2 o3 o4 = crV p1 p2 p3 p4 o1 o2 o3 o4 + f * crV t1 t2 t3 t4 o1 o2 o3 o4 := by unfold crV; grind
    rw [e3]
    refine gNe_same (n := 1) rfl ?_
    dsimp only
    rw [if_neg (by decide)]
    rw [← hB]
    clear hB B e3 e1 e2 okI bW
    -- the root's work
    have r60 : ∀ {x y : Int}, Bi 60 x → Bi 70 y → Bi 130 (x * y) := fun h1 h2 => h1.mul h2
    have bL : ∀ {q1 q2 q3 q4 : Int}, Bi 70 q1 → Bi 70 q2 → Bi 70 q3 → Bi 70 q4 → Bi 140 (e * q1 + b * q3 + a * q4) ∧ Bi 140 (e * q2 + c * q4) ∧ Bi 140 (c * q1 - a * q2) ∧ Bi 140 (b * q2) := fun h1 h2 h3 h4 =>
      ⟨(((r60 be h1).add (r60 bb h3)).add ((r60 ba h4).mono)).mono, ((r60 be h2).add (r60 bc h4)).mono, ((r60 bc h1).sub (r60 ba h2)).mono, (r60 bb h2).mono⟩
    obtain ⟨bl1, bl2, bl3, bl4⟩ := bL bp1 bp2 bp3 bp4
    refine dSeq_open fun B hB => ?_
    walk_at "rd"
    refine ⟨_, a, b, c, e, p1, p2, p3, p4, rfl, hc, rfl, hC, hP, ?_⟩
    have k1 : res (M4 ++ [Own.lst [.int (e * p1 + b * p3 + a * p4), .int (e * p2 + c * p4), .int (c * p1 - a * p2), .int (b * p2)]]) (.own M4.length) = P4 (e * p1 + b * p3 + a * p4) (e * p2 + c * p4) (c * p1 - a * p2) (b * p2) := res_new
    have G5 : Grow M (M4 ++ [Own.lst [.int (e * p1 + b * p3 + a * p4), .int (e * p2 + c * p4), .int (c * p1 - a * p2), .int (b * p2)]]) := G4.trans (Grow.add rfl)
    generalize M4 ++ [Own.lst [.int (e * p1 + b * p3 + a * p4), .int (e * p2 + c * p4), .int (c * p1 - a * p2), .int (b * p2)]] = M5 at k1 G5 ⊢
    generalize M4.length = kk at k1 ⊢
    rw [← hB]
    clear hB B G4
    have okL := okV_P4 bl1 bl2 bl3 bl4
    refine dSeq_open fun B hB => ?_
    walk_at "rd"
    refine gRepr_res k1 okL fun y hy => ?_
    refine ⟨_, a, b, c, e, p1, p2, p3, p4, rfl, rfl, hC, hP, ?_⟩
    try dsimp only
    refine gRepr_again hy rfl ?_
    rw [gNe_strs, str_self]
    try dsimp only
    rw [if_neg (by decide)]
    refine ⟨rfl, _, a, b, c, e, p1, p2, p3, p4, rfl, hc, rfl, hC, hP, ?_⟩
    try dsimp only
    refine gNe_res (n := 2) res_new (res_add k1) rfl ?_
    dsimp only
    rw [if_neg (by decide)]
    have k2 := res_add (c := Own.lst [.int (e * p1 + b * p3 + a * p4), .int (e * p2 + c * p4), .int (c * p1 - a * p2), .int (b * p2)]) k1
    have G6 := G5.trans (Grow.add (M := M5) (c := Own.lst [.int (e * p1 + b * p3 + a * p4), .int (e * p2 + c * p4), .int (c * p1 - a * p2), .int (b * p2)]) rfl)
    generalize M5 ++ [Own.lst [.int (e * p1 + b * p3 + a * p4), .int (e * p2 + c * p4), .int (c * p1 - a * p2), .int (b * p2)]] = M6 at k2 G6 ⊢
    rw [← hB]
    clear hB B G5 k1 hy y M5
    refine dSeq_open fun B hB => ?_
    walk_at "rd"
    obtain ⟨bm1, bm2, bm3, bm4⟩ := bL bt1 bt2 bt3 bt4
    refine ⟨_, _, p1, p2, p3, p4, t1, t2, t3, t4, f, rfl, rfl, rfl, hT, bf, ?_⟩
    try dsimp only
    refine ⟨_, a, b, c, e, _, _, _, _, rfl, hc, rfl, hC, hS, ?_⟩
    try dsimp only
    refine ⟨_, a, b, c, e, t1, t2, t3, t4, rfl, rfl, hC, hT, ?_⟩
    try dsimp only
    refine ⟨_, _, _, _, _, _, _, _, _, _, f, rfl, res_add k2, rfl, ⟨bm1.mono, bm2.mono, bm3.mono, bm4.mono⟩, bf, ?_⟩
    try dsimp only
    have q1 : e * p1 + b * p3 + a * p4 + f * (e * t1 + b * t3 + a * t4) = e * (p1 + f * t1) + b * (p3 + f * t3) + a * (p4 + f * t4) := by grind
    have q2 : e * p2 + c * p4 + f * (e * t2 + c * t4) = e * (p2 + f * t2) + c * (p4 + f * t4) := by grind
    have q3 : c * p1 - a * p2 + f * (c * t1 - a * t2) = c * (p1 + f * t1) - a * (p2 + f * t2) := by grind
    have q4 : b * p2 + f * (b * t2) = b * (p2 + f * t2) := by grind
    rw [q1, q2, q3, q4]
    refine gNe_res (n := 2) res_new rfl rfl ?_
    dsimp only
    rw [if_neg (by decide)]
    have k3 := res_add (c := Own.lst [.int (e * (p1 + f * t1) + b * (p3 + f * t3) + a * (p4 + f * t4)), .int (e * (p2 + f * t2) + c * (p4 + f * t4)), .int (c * (p1 + f * t1) - a * (p2 + f * t2)), .int (b * (p2 + f * t2))]) k2
    have G7 := G6.trans (Grow.add (M := M6) (c := Own.lst [.int (e * (p1 + f * t1) + b * (p3 + f * t3) + a * (p4 + f * t4)), .int (e * (p2 + f * t2) + c * (p4 + f * t4)), .int (c * (p1 + f * t1) - a * (p2 + f * t2)), .int (b * (p2 + f * t2))]) rfl)
    generalize M6 ++ [Own.lst [.int (e * (p1 + f * t1) + b * (p3 + f * t3) + a * (p4 + f * t4)), .int (e * (p2 + f * t2) + c * (p4 + f * t4)), .int (c * (p1 + f * t1) - a * (p2 + f * t2)), .int (b * (p2 + f * t2))]] = M7 at k3 G7 ⊢
    rw [← hB]
    clear hB B G6 k2 M6 q1 q2 q3 q4
    refine dSeq_open fun B hB => ?_
    walk_at "rd"
    rw [← hB]
    clear hB B
    refine dSeq_open fun B hB => ?_
    walk_at "rd"
    refine gList_res k3 ?_
    try dsimp only
    refine ⟨_, a, b, c, e, _, _, _, _, rfl, hc, rfl, hC, ⟨bl1.mono, bl2.mono, bl3.mono, bl4.mono⟩, ?_⟩
    have k4 := res_add (c := Own.lst [.int (e * (e * p1 + b * p3 + a * p4) + b * (c * p1 - a * p2) + a * (b * p2)), .int (e * (e * p2 + c * p4) + c * (b * p2)), .int (c * (e * p1 + b * p3 + a * p4) - a * (e * p2 + c * p4)), .int (b * (e * p2 + c * p4))]) k3
    have G8 := G7.trans (Grow.add (M := M7) (c := Own.lst [.int (e * (e * p1 + b * p3 + a * p4) + b * (c * p1 - a * p2) + a * (b * p2)), .int (e * (e * p2 + c * p4) + c * (b * p2)), .int (c * (e * p1 + b * p3 + a * p4) - a * (e * p2 + c * p4)), .int (b * (e * p2 + c * p4))]) rfl)
    have k5 : res (M7 ++ [Own.lst [.int (e * (e * p1 + b * p3 + a * p4) + b * (c * p1 - a * p2) + a * (b * p2)), .int (e * (e * p2 + c * p4) + c * (b * p2)), .int (c * (e * p1 + b * p3 + a * p4) - a * (e * p2 + c * p4)), .int (b * (e * p2 + c * p4))]]) (.own M7.length) = _ := res_new
    generalize M7 ++ [Own.lst [.int (e * (e * p1 + b * p3 + a * p4) + b * (c * p1 - a * p2) + a * (b * p2)), .int (e * (e * p2 + c * p4) + c * (b * p2)), .int (c * (e * p1 + b * p3 + a * p4) - a * (e * p2 + c * p4)), .int (b * (e * p2 + c * p4))]] = M8 at k4 G8 k5 ⊢
    generalize M7.length = k8 at k5 ⊢
    clear G7 k3 M7
    try dsimp only
    refine zip_lcW (f := fun u v => match u, v with | .int i, .int j => .int (e * i + b * c * j) | _, _ => .non) k4 rfl (by simp) (by simp) (fun u v hm Y hY => ?_) ?_
    · simp only [List.zipWith_cons_cons, List.zipWith_nil_right, pairD, List.mem_cons, List.not_mem_nil, or_false, D.tup.injEq, List.cons.injEq, and_true] at hm
      walk_at "rd"
      have sbc := (bb.mul bc).sm
      rcases hm with ⟨rfl, rfl⟩ | ⟨rfl, rfl⟩ | ⟨rfl, rfl⟩ | ⟨rfl, rfl⟩
      · exact ⟨⟨be.sm, bl1.sm⟩, ⟨bb.sm, bc.sm⟩, ⟨sbc, bp1.sm⟩, hY⟩
      · exact ⟨⟨be.sm, bl2.sm⟩, ⟨bb.sm, bc.sm⟩, ⟨sbc, bp2.sm⟩, hY⟩
      · exact ⟨⟨be.sm, bl3.sm⟩, ⟨bb.sm, bc.sm⟩, ⟨sbc, bp3.sm⟩, hY⟩
      · exact ⟨⟨be.sm, bl4.sm⟩, ⟨bb.sm, bc.sm⟩, ⟨sbc, bp4.sm⟩, hY⟩
    · have q1 : e * (e * p1 + b * p3 + a * p4) + b * (c * p1 - a * p2) + a * (b * p2) = e * (e * p1 + b * p3 + a * p4) + b * c * p1 := by grind
      have q2 : e * (e * p2 + c * p4) + c * (b * p2) = e * (e * p2 + c * p4) + b * c * p2 := by grind
      have q3 : c * (e * p1 + b * p3 + a * p4) - a * (e * p2 + c * p4) = e * (c * p1 - a * p2) + b * c * p3 := by grind
      have q4 : b * (e * p2 + c * p4) = e * (b * p2) + b * c * p4 := by grind
      rw [q1, q2, q3, q4] at k5
      refine gNe_res (n := 2) k5 rfl rfl ?_
      dsimp only
      rw [if_neg (by decide)]
      rw [← hB]
      clear hB B k5 q1 q2 q3 q4
      refine dSeq_open fun B hB => ?_
      walk_at "rd"
      have hL9 : Bi 900 (e * p1 + b * p3 + a * p4) ∧ Bi 900 (e * p2 + c * p4) ∧ Bi 900 (c * p1 - a * p2) ∧ Bi 900 (b * p2) := ⟨bl1.mono, bl2.mono, bl3.mono, bl4.mono⟩
      obtain ⟨bn1, bn2, bn3, bn4⟩ := bL bo1 bo2 bo3 bo4
      refine sp_cross_of k4 rfl hL9 hO ?_
      try dsimp only
      refine ⟨_, a, b, c, e, o1, o2, o3, o4, rfl, hc, rfl, hC, hO, ?_⟩
      try dsimp only
      refine sp_cross_of rfl res_new hP ⟨bn1.mono, bn2.mono, bn3.mono, bn4.mono⟩ ?_
      try dsimp only
      have q5 : crV (e * p1 + b * p3 + a * p4) (e * p2 + c * p4) (c * p1 - a * p2) (b * p2) o1 o2 o3 o4 = crV p1 p2 p3 p4 (e * o1 + b * o3 + a * o4) (e * o2 + c * o4) (c * o1 - a * o2) (b * o2) := by unfold crV; grind
      rw [q5]
      refine gNe_same (n := 1) rfl ?_
      dsimp only
      rw [if_neg (by decide)]
      have k6 := res_add (c := Own.lst [.int (e * o1 + b * o3 + a * o4), .int (e * o2 + c * o4), .int (c * o1 - a * o2), .int (b * o2)]) k4
      have G9 := G8.trans (Grow.add (M := M8) (c := Own.lst [.int (e * o1 + b * o3 + a * o4), .int (e * o2 + c * o4), .int (c * o1 - a * o2), .int (b * o2)]) rfl)
      generalize M8 ++ [Own.lst [.int (e * o1 + b * o3 + a * o4), .int (e * o2 + c * o4), .int (c * o1 - a * o2), .int (b * o2)]] = M9 at k6 G9 ⊢
      rw [← hB]
      clear hB B G8 k4 q5
      rcases isL k6 with h | ⟨kx, e9, hk9⟩
      · cases h
      · cases e9
        refine dSeq_open fun B hB => ?_
        walk_at "rd"
        refine ⟨⟨_, _, rfl, hk9⟩, ?_⟩
        simp only [hk9]
        refine ⟨(by decide : (4 : Nat) < 16777216), ?_⟩
        rw [← hB]
        clear hB B
        have G10 : Grow M _ := G9.trans (Grow.set (M := M9) (k := kk) (c := Own.lst ([.int (e * p1 + b * p3 + a * p4), .int (e * p2 + c * p4), .int (c * p1 - a * p2), .int (b * p2)] ++ [D.non])) rfl)
        generalize M9.set kk (Own.lst ([.int (e * p1 + b * p3 + a * p4), .int (e * p2 + c * p4), .int (c * p1 - a * p2), .int (b * p2)] ++ [D.non])) = M10 at G10 ⊢
        walk_at "rd"
        refine ⟨_, a, b, c, e, p1, p2, p3, p4, rfl, hc, rfl, hC, hP, ?_⟩
        try dsimp only
        refine ⟨_, a, b, c, e, p1, p2, p3, p4, rfl, rfl, hC, hP, ?_⟩
        try dsimp only
        refine gEq_res (n := 2) res_new rfl rfl ?_
        dsimp only
        rw [if_pos (by decide)]
        refine gRepr_again hz rfl ?_
        rw [gEq_strs, str_self]
        exact fin _ (G10.trans (Grow.add rfl))
  · obtain ⟨hj2, rfl⟩ := rng_get.mp hd
    have hj2 : j < 3 := hj2
    walk_at "rd"
    refine ⟨k, _, rfl, G3.2.1, by omega, fun x y z w M4 h1 h2 h3 h4 g4 => ?_⟩
    try dsimp only
    refine ⟨by omega, by omega, (G3.trans g4).le (by omega), by rw [List.length_append]; simp [hl], ?_⟩
    intro x' hx'
    rcases List.mem_append.mp hx' with h | h
    · exact hx x' h
    · simp only [List.mem_cons, List.not_mem_nil, or_false] at h
      exact ⟨x, y, z, w, h, h1, h2, h3, h4⟩

theorem rd_l_law_540c : ∀ ds M Q, ds.length = 1 → spLaw ds M Q DX0 → t_l_law_540c sp_right40 sp_generator sp_crossing sp_root_path (dEnds M Q) (startD 2 ds) M := by
  rintro _ _ Q - ⟨rfl, ⟨ns, rfl⟩, q⟩
  have fin : ∀ M2, Rtq [] Q (.bl true) M2 := fun M2 => ⟨[], M2, rfl, Nat.zero_le _, rfl, fun i c h => by simp at h, q⟩
  have b4 : ∀ {a b c d : Int}, a.natAbs ≤ 100 ∧ b.natAbs ≤ 100 ∧ c.natAbs ≤ 100 ∧ d.natAbs ≤ 100 → Bi 900 a ∧ Bi 900 b ∧ Bi 900 c ∧ Bi 900 d := fun h => ⟨bi_mk h.1, bi_mk h.2.1, bi_mk h.2.2.1, bi_mk h.2.2.2⟩
  unfold t_l_law_540c
  refine dSeq_open fun B hB => ?_
  walk_at "rd"
  refine ⟨⟨by decide, by decide⟩, ?_⟩
  refine ⟨fun i r M' => ∃ a1, r = [some (.scr ns), a1], ⟨_, rfl⟩, ?_⟩
  rintro i r M1 ⟨a1, rfl⟩
  refine ⟨trivial, fun hl => ?_, fun d hd => ?_⟩
  · dsimp only
    rw [← hB]
    clear hB B
    refine dSeq_open fun B hB => ?_
    walk_at "rd"
    refine sp_cross_of rfl rfl (b4 (by decide)) (b4 (by decide)) ?_
    refine sp_cross_of rfl rfl (b4 (by decide)) (b4 (by decide)) ?_
    refine sp_cross_of rfl rfl (b4 (by decide)) (b4 (by decide)) ?_
    rw [show crV 1 0 0 0 0 1 0 0 = 1 from rfl, show crV 0 2 1 0 1 0 0 3 = 1 from rfl, show crV 0 0 0 1 0 0 1 0 = -1 from rfl]
    refine gNe_same (n := 2) rfl ?_
    dsimp only
    rw [if_neg (by decide)]
    rw [← hB]
    clear hB B
    walk_at "rd"
    refine ⟨_, 0, 1, 1, -1, 1, 0, 0, 0, rfl, by decide, rfl, b4 (by decide), b4 (by decide), ?_⟩
    try dsimp only
    refine gEq_res (n := 2) (d := P4 (-1) 0 1 0) res_new rfl rfl ?_
    dsimp only
    rw [if_pos (by decide)]
    refine ⟨_, 0, 2, 1, 0, 1, 2, 0, -1, rfl, by decide, rfl, b4 (by decide), b4 (by decide), ?_⟩
    try dsimp only
    refine gEq_res (n := 2) (d := P4 0 (-1) 1 4) res_new rfl rfl ?_
    exact fin _
  · obtain ⟨hi2, rfl⟩ := rng_get.mp hd
    have hi2 : i < 2 := hi2
    walk_at "rd"
    refine ⟨ns, _, rfl, by omega, by unfold P31; omega, fun M2 hl hg hk => ?_⟩
    dsimp only
    refine ⟨_, _, rfl, hg, by unfold P40; omega, fun M3 => ?_⟩
    dsimp only
    rw [if_neg (by decide)]
    exact ⟨_, rfl⟩
end DL
namespace C_k40
open PySem PySem.Spec PyProof.Rows L2 DL
def topS (i : Nat) : Stmt := PySem.Challenge.pw_slitsheets_k40_paths_and_their_crossings.main.body.getD i (.Pass ⟨0, 0, 0, 0⟩)
abbrev s_l_hash_d8d1 : Stmt := topS 18
theorem sc_l_hash_d8d1 : FnScope ["_law_seed", "_law_index", "_law_mixed"] ["_law_seed", "_law_index"] (defScope s_l_hash_d8d1) := ⟨rfl, rfl, rfl, by decide +kernel, rfl, by decide +kernel, by decide +kernel⟩
abbrev s_l_random_7821 : Stmt := topS 19
theorem sc_l_random_7821 : FnScope ["_law_generator_here", "_law_bound", "_law_drawn", "_law_turn"] ["_law_generator_here", "_law_bound"] (defScope s_l_random_7821) := ⟨rfl, rfl, rfl, by decide +kernel, rfl, by decide +kernel, by decide +kernel⟩
abbrev s_l_common_b8b4 : Stmt := topS 22
theorem sc_l_common_b8b4 : FnScope ["_law_one", "_law_other", "_law_low", "_law_high"] ["_law_one", "_law_other"] (defScope s_l_common_b8b4) := ⟨rfl, rfl, rfl, by decide +kernel, rfl, by decide +kernel, by decide +kernel⟩
abbrev s_l_is_cutting_19aa : Stmt := topS 23
theorem sc_l_is_cutting_19aa : FnScope ["_law_a", "_law_b", "_law_c", "_law_e"] ["_law_a", "_law_b", "_law_c", "_law_e"] (defScope s_l_is_cutting_19aa) := ⟨rfl, rfl, rfl, by decide +kernel, rfl, by decide +kernel, by decide +kernel⟩
abbrev s_l_cutting_f2c0 : Stmt := topS 24
theorem sc_l_cutting_f2c0 : FnScope ["_law_generator_here", "_law_most", "_law_turn", "_law_b", "_law_c", "_law_part", "_law_e", "_law_a"] ["_law_generator_here", "_law_most"] (defScope s_l_cutting_f2c0) := ⟨rfl, rfl, rfl, by decide +kernel, rfl, by decide +kernel, by decide +kernel⟩
abbrev s_l_path_108b : Stmt := topS 27
theorem sc_l_path_108b : FnScope ["_law_generator_here", "_law_most", "_law_at"] ["_law_generator_here"] (defScope s_l_path_108b) := ⟨rfl, rfl, rfl, by decide +kernel, rfl, by decide +kernel, by decide +kernel⟩
abbrev s_is_whole : Stmt := topS 5
theorem sc_is_whole : FnScope ["value"] ["value"] (defScope s_is_whole) := ⟨rfl, rfl, rfl, by decide +kernel, rfl, by decide +kernel, by decide +kernel⟩
abbrev s_is_path_list : Stmt := topS 11
theorem sc_is_path_list : FnScope ["value", "item"] ["value"] (defScope s_is_path_list) := ⟨rfl, rfl, rfl, by decide +kernel, rfl, by decide +kernel, by decide +kernel⟩
abbrev s_check_path : Stmt := topS 12
theorem sc_check_path : FnScope ["path"] ["path"] (defScope s_check_path) := ⟨rfl, rfl, rfl, by decide +kernel, rfl, by decide +kernel, by decide +kernel⟩
abbrev s_crossing_by : Stmt := topS 13
theorem sc_crossing_by : FnScope ["one", "other", "square"] ["one", "other"] (defScope s_crossing_by) := ⟨rfl, rfl, rfl, by decide +kernel, rfl, by decide +kernel, by decide +kernel⟩
abbrev s_crossing : Stmt := topS 15
theorem sc_crossing : FnScope ["one", "other"] ["one", "other"] (defScope s_crossing) := ⟨rfl, rfl, rfl, by decide +kernel, rfl, by decide +kernel, by decide +kernel⟩
abbrev s_l_crossing_3f18 : Stmt := topS 25
theorem sc_l_crossing_3f18 : FnScope ["_law_one", "_law_other"] ["_law_one", "_law_other"] (defScope s_l_crossing_3f18) := ⟨rfl, rfl, rfl, by decide +kernel, rfl, by decide +kernel, by decide +kernel⟩
abbrev s_l_sum_cfa2 : Stmt := topS 28
theorem sc_l_sum_cfa2 : FnScope ["_law_one", "_law_other", "_law_often", "_law_low", "_law_high"] ["_law_one", "_law_other", "_law_often"] (defScope s_l_sum_cfa2) := ⟨rfl, rfl, rfl, by decide +kernel, rfl, by decide +kernel, by decide +kernel⟩
abbrev s_common_by : Stmt := topS 6
theorem sc_common_by : FnScope ["one", "other", "low", "high"] ["one", "other"] (defScope s_common_by) := ⟨rfl, rfl, rfl, by decide +kernel, rfl, by decide +kernel, by decide +kernel⟩
abbrev s_is_cutting_by : Stmt := topS 8
theorem sc_is_cutting_by : FnScope ["value", "item", "low", "high", "side", "turn", "both"] ["value"] (defScope s_is_cutting_by) := ⟨rfl, rfl, rfl, by decide +kernel, rfl, by decide +kernel, by decide +kernel⟩
abbrev s_check_cutting : Stmt := topS 9
theorem sc_check_cutting : FnScope ["cutting"] ["cutting"] (defScope s_check_cutting) := ⟨rfl, rfl, rfl, by decide +kernel, rfl, by decide +kernel, by decide +kernel⟩
abbrev s_rooted_o : Stmt := topS 14
theorem sc_rooted_o : FnScope ["cutting", "path", "a", "b", "c", "e", "low", "high", "along", "up"] ["cutting", "path"] (defScope s_rooted_o) := ⟨rfl, rfl, rfl, by decide +kernel, rfl, by decide +kernel, by decide +kernel⟩
abbrev s_root_path : Stmt := topS 16
theorem sc_root_path : FnScope ["cutting", "path"] ["cutting", "path"] (defScope s_root_path) := ⟨rfl, rfl, rfl, by decide +kernel, rfl, by decide +kernel, by decide +kernel⟩
abbrev s_l_rooted_6254 : Stmt := topS 26
theorem sc_l_rooted_6254 : FnScope ["_law_cutting_here", "_law_path_here", "_law_a", "_law_b", "_law_c", "_law_e"] ["_law_cutting_here", "_law_path_here"] (defScope s_l_rooted_6254) := ⟨rfl, rfl, rfl, by decide +kernel, rfl, by decide +kernel, by decide +kernel⟩
abbrev s_l_right_dc29 : Stmt := topS 29
theorem sc_l_right_dc29 : FnScope ["_law_generator_here", "_law_cutting_here", "_law_one", "_law_other", "_law_third", "_law_turn", "_law_kept", "_law_often", "_law_found", "_law_led", "_law_a", "_law_b", "_law_c", "_law_e", "_law_low", "_law_high"] ["_law_generator_here"] (defScope s_l_right_dc29) := ⟨rfl, rfl, rfl, by decide +kernel, rfl, by decide +kernel, by decide +kernel⟩
abbrev s_l_cell_cf3b : Stmt := topS 20
theorem sc_l_cell_cf3b : FnScope ["_law_script", "_law_index"] ["_law_script", "_law_index"] (defScope s_l_cell_cf3b) := ⟨rfl, rfl, rfl, by decide +kernel, rfl, by decide +kernel, by decide +kernel⟩
abbrev s_l_generator_b324 : Stmt := topS 21
theorem sc_l_generator_b324 : FnScope ["_law_script", "_law_index", "_law_seed"] ["_law_script", "_law_index"] (defScope s_l_generator_b324) := ⟨rfl, rfl, rfl, by decide +kernel, rfl, by decide +kernel, by decide +kernel⟩
abbrev s_l_law_540c : Stmt := topS 30
theorem sc_l_law_540c : FnScope ["_law_script", "_law_index"] ["_law_script"] (defScope s_l_law_540c) := ⟨rfl, rfl, rfl, by decide +kernel, rfl, by decide +kernel, by decide +kernel⟩
/-- what the top has left -/
structure Txt (K : PySem.W.Frag) (mg : Str → Option Value) (base : Heap) : Prop where
  n_abs : mg "abs" = none
  n_bool : mg "bool" = none
  n_int : mg "int" = none
  n_isinstance : mg "isinstance" = none
  n_len : mg "len" = none
  n_list : mg "list" = none
  n_max : mg "max" = none
  n_range : mg "range" = none
  n_repr : mg "repr" = none
  n_sum : mg "sum" = none
  n_tuple : mg "tuple" = none
  n_zip : mg "zip" = none
  h_l_hash_d8d1 : Here K mg "_law_hash" s_l_hash_d8d1 ["_law_seed", "_law_index"]
  h_l_random_7821 : Here K mg "_law_random" s_l_random_7821 ["_law_generator_here", "_law_bound"]
  h_l_common_b8b4 : Here K mg "_law_common" s_l_common_b8b4 ["_law_one", "_law_other"]
  h_l_is_cutting_19aa : Here K mg "_law_is_cutting" s_l_is_cutting_19aa ["_law_a", "_law_b", "_law_c", "_law_e"]
  h_l_cutting_f2c0 : Here K mg "_law_cutting" s_l_cutting_f2c0 ["_law_generator_here", "_law_most"]
  h_l_path_108b : Here K mg "_law_path" s_l_path_108b ["_law_generator_here"]
  h_is_whole : Here K mg "is_whole" s_is_whole ["value"]
  h_is_path_list : Here K mg "is_path_list" s_is_path_list ["value"]
  h_check_path : Here K mg "check_path" s_check_path ["path"]
  h_crossing_by : Here K mg "crossing_by" s_crossing_by ["one", "other"]
  h_crossing : Here K mg "crossing" s_crossing ["one", "other"]
  h_l_crossing_3f18 : Here K mg "_law_crossing" s_l_crossing_3f18 ["_law_one", "_law_other"]
  h_l_sum_cfa2 : Here K mg "_law_sum" s_l_sum_cfa2 ["_law_one", "_law_other", "_law_often"]
  h_common_by : Here K mg "common_by" s_common_by ["one", "other"]
  h_is_cutting_by : Here K mg "is_cutting_by" s_is_cutting_by ["value"]
  h_check_cutting : Here K mg "check_cutting" s_check_cutting ["cutting"]
  h_rooted_o : Here K mg "rooted" s_rooted_o ["cutting", "path"]
  h_root_path : Here K mg "root_path" s_root_path ["cutting", "path"]
  h_l_rooted_6254 : Here K mg "_law_rooted" s_l_rooted_6254 ["_law_cutting_here", "_law_path_here"]
  h_l_right_dc29 : Here K mg "_law_right" s_l_right_dc29 ["_law_generator_here"]
  h_l_cell_cf3b : Here K mg "_law_cell" s_l_cell_cf3b ["_law_script", "_law_index"]
  h_l_generator_b324 : Here K mg "_law_generator" s_l_generator_b324 ["_law_script", "_law_index"]
  h_l_law_540c : Here K mg "law" s_l_law_540c ["_law_script"]
section
variable {P : Program} {w : World} {K : PySem.W.Frag} {mg : Str → Option Value} {base : Heap}
theorem ok_l_hash_d8d1 {sp : DSp} (T : Txt K mg base) (hread : ∀ ds M Q, ds.length = 2 → sp ds M Q DX0 → t_l_hash_d8d1 (dEnds M Q) (startD 3 ds) M) (hX : ∀ ds M Q E, sp ds M Q E → sp ds M Q DX0 := by exact fun _ _ _ _ h => h) : Def P w K mg base CX0 1 "_law_hash" s_l_hash_d8d1 ["_law_seed", "_law_index"] sp :=
 T.h_l_hash_d8d1.ok (t := t_l_hash_d8d1) sc_l_hash_d8d1 (fun f cdv A outer s H E hr gd => (dss_cons (ds_set (i := 2) sc_l_hash_d8d1.nd (de_op opd_mod (de_ty cd_int T.n_int (da_cons (de_op opd_add (de_op opd_add (de_op opd_add (de_op opd_mulI (dv 0) de_int) (de_op opd_mulI (de_op opd_mulI de_int (dv 1)) (dv 1))) (de_op opd_mulI de_int (dv 1))) de_int) da_nil)) de_int))
 (dss_cons (ds_set (i := 2) sc_l_hash_d8d1.nd (de_op opd_mod (de_ty cd_int T.n_int (da_cons (de_op opd_add (de_op opd_add (de_op opd_mulI (dv 2) (dv 2)) (de_op opd_mulI de_int (dv 1))) de_int) da_nil)) de_int))
 (dss_one (ds_ret (de_op opd_mod (de_ty cd_int T.n_int (da_cons (de_op opd_mulI (dv 2) de_int) da_nil)) de_int)))))) hread hX
theorem ok_l_random_7821 {c_l_hash_d8d1 : DSp} {sp : DSp} (T : Txt K mg base) (D_l_hash_d8d1 : Def P w K mg base CX0 1 "_law_hash" s_l_hash_d8d1 ["_law_seed", "_law_index"] c_l_hash_d8d1) (hread : ∀ ds M Q, ds.length = 2 → sp ds M Q DX0 → t_l_random_7821 c_l_hash_d8d1 (dEnds M Q) (startD 4 ds) M) (hX : ∀ ds M Q E, sp ds M Q E → sp ds M Q DX0 := by exact fun _ _ _ _ h => h) : Def P w K mg base CX0 2 "_law_random" s_l_random_7821 ["_law_generator_here", "_law_bound"] sp :=
 T.h_l_random_7821.ok (t := t_l_random_7821 c_l_hash_d8d1) sc_l_random_7821 (fun f cdv A outer s H E hr gd => (dss_cons (ds_if (dt_cmp opd_gt (de_ix (dv 0) de_int) de_int (nomark _)) (dss_cons (ds_set (i := 2) sc_l_random_7821.nd (de_op opd_mod (de_ty cd_int T.n_int (da_cons (de_ix (dv 0) de_int) da_nil)) (dv 1)))
 (dss_cons (ds_asg (de_op opd_fdiv (de_ix (dv 0) de_int) (dv 1)) (dg_sub (dv 0) de_int))
 (dss_one (ds_ret (dv 2))))) dss_nil)
 (dss_cons (ds_set (i := 2) sc_l_random_7821.nd de_int)
 (dss_cons (ds_for rfl (di_range1 T.n_range (da_cons (de_op opd_add de_int (de_op opd_fdiv (de_bits (dv 1)) de_int)) da_nil)) (dg_name (i := 3) sc_l_random_7821.nd) (dss_cons (ds_asg (de_op opd_add (de_ix (dv 0) de_int) de_int) (dg_sub (dv 0) de_int))
 (dss_one (ds_set (i := 2) sc_l_random_7821.nd (de_op opd_add (de_op opd_mulI (dv 2) de_int) (dcall D_l_hash_d8d1 hr gd (da_cons (de_ix (dv 0) de_int) (da_cons (de_ix (dv 0) de_int) da_nil))))))))
 (dss_one (ds_ret (de_op opd_mod (de_ty cd_int T.n_int (da_cons (dv 2) da_nil)) (dv 1)))))))) hread hX
theorem ok_l_common_b8b4 {sp : DSp} (T : Txt K mg base) (hread : ∀ ds M Q, ds.length = 2 → sp ds M Q DX0 → t_l_common_b8b4 (dEnds M Q) (startD 4 ds) M) (hX : ∀ ds M Q E, sp ds M Q E → sp ds M Q DX0 := by exact fun _ _ _ _ h => h) : Def P w K mg base CX0 1 "_law_common" s_l_common_b8b4 ["_law_one", "_law_other"] sp :=
 T.h_l_common_b8b4.ok (t := t_l_common_b8b4) sc_l_common_b8b4 (fun f cdv A outer s H E hr gd => (dss_cons (ds_par (i := 2) (j := 3) rfl sc_l_common_b8b4.nd (da_cons (de_blt cd_abs T.n_abs (da_cons (dv 0) da_nil)) (da_cons (de_blt cd_abs T.n_abs (da_cons (dv 1) da_nil)) da_nil)))
 (dss_cons (ds_while (dt_cmp opd_gt (dv 3) de_int (nomark _)) (dss_one (ds_par (i := 2) (j := 3) rfl sc_l_common_b8b4.nd (da_cons (dv 3) (da_cons (de_op opd_mod (de_ty cd_int T.n_int (da_cons (dv 2) da_nil)) (dv 3)) da_nil)))))
 (dss_one (ds_ret (dv 2)))))) hread hX
theorem ok_l_is_cutting_19aa {c_l_common_b8b4 : DSp} {sp : DSp} (T : Txt K mg base) (D_l_common_b8b4 : Def P w K mg base CX0 1 "_law_common" s_l_common_b8b4 ["_law_one", "_law_other"] c_l_common_b8b4) (hread : ∀ ds M Q, ds.length = 4 → sp ds M Q DX0 → t_l_is_cutting_19aa c_l_common_b8b4 (dEnds M Q) (startD 4 ds) M) (hX : ∀ ds M Q E, sp ds M Q E → sp ds M Q DX0 := by exact fun _ _ _ _ h => h) : Def P w K mg base CX0 2 "_law_is_cutting" s_l_is_cutting_19aa ["_law_a", "_law_b", "_law_c", "_law_e"] sp :=
 T.h_l_is_cutting_19aa.ok (t := t_l_is_cutting_19aa c_l_common_b8b4) sc_l_is_cutting_19aa (fun f cdv A outer s H E hr gd => (dss_cons (ds_if (DW.dt (dw_or (dt_cmp opd_lt (dv 1) de_int (nomark _)) (dw_or (dt_cmp opd_lt (dv 2) de_int (nomark _)) (dw_or (dt_cmp opd_ge (de_op opd_add (dv 2) (dv 3)) (dv 1) (nomark _)) (dw_or1 (dt_not (dt_chain opd_le opd_lt de_int (dv 0) (dcall D_l_common_b8b4 hr gd (da_cons (dv 1) (da_cons (dv 2) da_nil)))))))))) (dss_one (ds_ret de_bl)) dss_nil)
 (dss_one (ds_ret (de_cmp (opd_eq (u64 hr)) (dcall D_l_common_b8b4 hr gd (da_cons (dcall D_l_common_b8b4 hr gd (da_cons (dv 0) (da_cons (dv 1) da_nil))) (da_cons (dcall D_l_common_b8b4 hr gd (da_cons (dv 2) (da_cons (dv 3) da_nil))) da_nil))) de_int (nomark _)))))) hread hX
theorem ok_l_cutting_f2c0 {c_l_random_7821 c_l_common_b8b4 c_l_is_cutting_19aa : DSp} {sp : DSp} (T : Txt K mg base) (D_l_random_7821 : Def P w K mg base CX0 2 "_law_random" s_l_random_7821 ["_law_generator_here", "_law_bound"] c_l_random_7821) (D_l_common_b8b4 : Def P w K mg base CX0 1 "_law_common" s_l_common_b8b4 ["_law_one", "_law_other"] c_l_common_b8b4) (D_l_is_cutting_19aa : Def P w K mg base CX0 2 "_law_is_cutting" s_l_is_cutting_19aa ["_law_a", "_law_b", "_law_c", "_law_e"] c_l_is_cutting_19aa) (hread : ∀ ds M Q, ds.length = 2 → sp ds M Q DX0 → t_l_cutting_f2c0 c_l_random_7821 c_l_common_b8b4 c_l_is_cutting_19aa (dEnds M Q) (startD 8 ds) M) (hX : ∀ ds M Q E, sp ds M Q E → sp ds M Q DX0 := by exact fun _ _ _ _ h => h) : Def P w K mg base CX0 3 "_law_cutting" s_l_cutting_f2c0 ["_law_generator_here", "_law_most"] sp :=
 T.h_l_cutting_f2c0.ok (t := t_l_cutting_f2c0 c_l_random_7821 c_l_common_b8b4 c_l_is_cutting_19aa) sc_l_cutting_f2c0 (fun f cdv A outer s H E hr gd => (dss_cons (ds_for rfl (di_range1 T.n_range (da_cons de_int da_nil)) (dg_name (i := 2) sc_l_cutting_f2c0.nd) (dss_cons (ds_par (i := 3) (j := 4) rfl sc_l_cutting_f2c0.nd (da_cons (de_op opd_add de_int (dcall D_l_random_7821 hr gd (da_cons (dv 0) (da_cons (dv 1) da_nil)))) (da_cons (de_op opd_add de_int (dcall D_l_random_7821 hr gd (da_cons (dv 0) (da_cons (dv 1) da_nil)))) da_nil)))
 (dss_cons (ds_if (dt_cmp (opd_eq (u64 hr)) (dcall D_l_random_7821 hr gd (da_cons (dv 0) (da_cons de_int da_nil))) de_int (nomark _)) (dss_cons (ds_set (i := 5) sc_l_cutting_f2c0.nd (de_op opd_add de_int (dcall D_l_random_7821 hr gd (da_cons (dv 0) (da_cons de_int da_nil)))))
 (dss_one (ds_par (i := 3) (j := 4) rfl sc_l_cutting_f2c0.nd (da_cons (de_op opd_mulI (dv 3) (dv 5)) (da_cons (de_op opd_mulI (dv 4) (dv 5)) da_nil))))) dss_nil)
 (dss_cons (ds_set (i := 6) sc_l_cutting_f2c0.nd (de_op opd_sub (de_op opd_sub (de_op opd_sub (dv 3) (dv 4)) de_int) (dcall D_l_random_7821 hr gd (da_cons (dv 0) (da_cons (de_op opd_mulI de_int (dv 1)) da_nil)))))
 (dss_cons (ds_set (i := 7) sc_l_cutting_f2c0.nd (dcall D_l_random_7821 hr gd (da_cons (dv 0) (da_cons (dcall D_l_common_b8b4 hr gd (da_cons (dv 3) (da_cons (dv 4) da_nil))) da_nil))))
 (dss_one (ds_if (dt_tru (dcall D_l_is_cutting_19aa hr gd (da_cons (dv 7) (da_cons (dv 3) (da_cons (dv 4) (da_cons (dv 6) da_nil)))))) (dss_one (ds_ret (de_tup (da_cons (dv 7) (da_cons (dv 3) (da_cons (dv 4) (da_cons (dv 6) da_nil))))))) dss_nil)))))))
 (dss_one (ds_ret (de_tup (da_cons de_int (da_cons (de_op opd_add de_int (dv 1)) (da_cons de_int (da_cons (de_op opd_sub de_int de_int) da_nil))))))))) hread hX
theorem ok_l_path_108b {c_l_random_7821 : DSp} {sp : DSp} (T : Txt K mg base) (D_l_random_7821 : Def P w K mg base CX0 2 "_law_random" s_l_random_7821 ["_law_generator_here", "_law_bound"] c_l_random_7821) (hread : ∀ ds M Q, ds.length = 1 → sp ds M Q DX0 → t_l_path_108b c_l_random_7821 (dEnds M Q) (startD 3 ds) M) (hX : ∀ ds M Q E, sp ds M Q E → sp ds M Q DX0 := by exact fun _ _ _ _ h => h) : Def P w K mg base CX0 3 "_law_path" s_l_path_108b ["_law_generator_here"] sp :=
 T.h_l_path_108b.ok (t := t_l_path_108b c_l_random_7821) sc_l_path_108b (fun f cdv A outer s H E hr gd => (dss_cons (ds_set (i := 1) sc_l_path_108b.nd (de_ix (de_lst (da_cons de_int (da_cons (de_op opd_pow de_int de_int) (da_cons (de_op opd_pow de_int de_int) da_nil)))) (dcall D_l_random_7821 hr gd (da_cons (dv 0) (da_cons de_int da_nil)))))
 (dss_one (ds_ret (de_lc false (own := [("_law_at", 2)]) rfl sc_l_path_108b.nd (blkOk_by (N := ["_law_generator_here", "_law_most", "_law_at"]) (own := [("_law_at", 2)]) (sc := (defScope s_l_path_108b)) (by decide +kernel)) (di_range1 T.n_range (da_cons de_int da_nil)) (fun _ _ _ _ _ => (dcg_name (i := 2) sc_l_path_108b.nd)) (fun _ _ _ _ _ => dts_nil) (fun _ _ _ _ _ => (de_op opd_sub (dcall D_l_random_7821 hr gd (da_cons (dv 0) (da_cons (de_op opd_add (de_op opd_mulI de_int (dv 1)) de_int) da_nil))) (dv 1)))))))) hread hX
theorem ok_is_whole {sp : DSp} (T : Txt K mg base) (hread : ∀ ds M Q, ds.length = 1 → sp ds M Q DX0 → t_is_whole (dEnds M Q) (startD 1 ds) M) (hX : ∀ ds M Q E, sp ds M Q E → sp ds M Q DX0 := by exact fun _ _ _ _ h => h) : Def P w K mg base CX0 1 "is_whole" s_is_whole ["value"] sp :=
 T.h_is_whole.ok (t := t_is_whole) sc_is_whole (fun f cdv A outer s H E hr gd => (dss_one (ds_ret (de_and (de_blt cd_isi T.n_isinstance (da_cons (dv 0) (da_cons (de_bltn (v := .ty "int") T.n_int rfl) da_nil))) (de_one (de_not (de_blt cd_isi T.n_isinstance (da_cons (dv 0) (da_cons (de_bltn (v := .ty "bool") T.n_bool rfl) da_nil))))))))) hread hX
theorem ok_is_path_list {c_is_whole : DSp} {sp : DSp} (T : Txt K mg base) (D_is_whole : Def P w K mg base CX0 1 "is_whole" s_is_whole ["value"] c_is_whole) (hread : ∀ ds M Q, ds.length = 1 → sp ds M Q DX0 → t_is_path_list c_is_whole (dEnds M Q) (startD 2 ds) M) (hX : ∀ ds M Q E, sp ds M Q E → sp ds M Q DX0 := by exact fun _ _ _ _ h => h) : Def P w K mg base CX0 2 "is_path_list" s_is_path_list ["value"] sp :=
 T.h_is_path_list.ok (t := t_is_path_list c_is_whole) sc_is_path_list (fun f cdv A outer s H E hr gd => (dss_one (ds_ret (de_and (de_blt cd_isi T.n_isinstance (da_cons (dv 0) (da_cons (de_bltn (v := .ty "list") T.n_list rfl) da_nil))) (de_and (de_cmp (opd_eq (u64 hr)) (de_blt cd_len T.n_len (da_cons (dv 0) da_nil)) de_int (nomark _)) (de_one (de_cmp (opd_eq (u64 hr)) (de_lc false (own := [("item", 1)]) rfl sc_is_path_list.nd (blkOk_by (N := ["value", "item"]) (own := [("item", 1)]) (sc := (defScope s_is_path_list)) (by decide +kernel)) (di_seq (dv 0)) (fun _ _ _ _ _ => (dcg_name (i := 1) sc_is_path_list.nd)) (fun _ _ _ _ _ => (dts_one (dt_not (dt_tru (dcall D_is_whole hr gd (da_cons (dv 1) da_nil)))))) (fun _ _ _ _ _ => (dv 1))) (de_lst da_nil) (nomark _)))))))) hread hX
theorem ok_check_path {c_is_path_list : DSp} {sp : DSp} (T : Txt K mg base) (D_is_path_list : Def P w K mg base CX0 2 "is_path_list" s_is_path_list ["value"] c_is_path_list) (hread : ∀ ds M Q, ds.length = 1 → sp ds M Q DX0 → t_check_path c_is_path_list (dEnds M Q) (startD 1 ds) M) (hX : ∀ ds M Q E, sp ds M Q E → sp ds M Q DX0 := by exact fun _ _ _ _ h => h) : Def P w K mg base CX0 3 "check_path" s_check_path ["path"] sp :=
 T.h_check_path.ok (t := t_check_path c_is_path_list) sc_check_path (fun f cdv A outer s H E hr gd => (dss_one (ds_if (dt_not (dt_tru (dcall D_is_path_list hr gd (da_cons (dv 0) da_nil)))) (dss_one ds_never) dss_nil))) hread hX
theorem ok_crossing_by {sp : DSp} (T : Txt K mg base) (hread : ∀ ds M Q, ds.length = 2 → sp ds M Q DX0 → t_crossing_by (dEnds M Q) (startD 3 ds) M) (hX : ∀ ds M Q E, sp ds M Q E → sp ds M Q DX0 := by exact fun _ _ _ _ h => h) : Def P w K mg base CX0 1 "crossing_by" s_crossing_by ["one", "other"] sp :=
 T.h_crossing_by.ok (t := t_crossing_by) sc_crossing_by (fun f cdv A outer s H E hr gd => (dss_cons (ds_set (i := 2) sc_crossing_by.nd (de_op opd_sub (de_op opd_mulI (de_ix (dv 0) de_int) (de_ix (dv 1) de_int)) (de_op opd_mulI (de_ix (dv 0) de_int) (de_ix (dv 1) de_int))))
 (dss_one (ds_ret (de_op opd_sub (de_op opd_add (dv 2) (de_op opd_mulI (de_ix (dv 0) de_int) (de_ix (dv 1) de_int))) (de_op opd_mulI (de_ix (dv 0) de_int) (de_ix (dv 1) de_int))))))) hread hX
theorem ok_crossing {c_check_path c_crossing_by : DSp} {sp : DSp} (T : Txt K mg base) (D_check_path : Def P w K mg base CX0 3 "check_path" s_check_path ["path"] c_check_path) (D_crossing_by : Def P w K mg base CX0 1 "crossing_by" s_crossing_by ["one", "other"] c_crossing_by) (hread : ∀ ds M Q, ds.length = 2 → sp ds M Q DX0 → t_crossing c_check_path c_crossing_by (dEnds M Q) (startD 2 ds) M) (hX : ∀ ds M Q E, sp ds M Q E → sp ds M Q DX0 := by exact fun _ _ _ _ h => h) : Def P w K mg base CX0 4 "crossing" s_crossing ["one", "other"] sp :=
 T.h_crossing.ok (t := t_crossing c_check_path c_crossing_by) sc_crossing (fun f cdv A outer s H E hr gd => (dss_cons (ds_expr (dcall D_check_path hr gd (da_cons (dv 0) da_nil)))
 (dss_cons (ds_expr (dcall D_check_path hr gd (da_cons (dv 1) da_nil)))
 (dss_one (ds_ret (dcall D_crossing_by hr gd (da_cons (dv 0) (da_cons (dv 1) da_nil)))))))) hread hX
theorem ok_l_crossing_3f18 {sp : DSp} (T : Txt K mg base) (hread : ∀ ds M Q, ds.length = 2 → sp ds M Q DX0 → t_l_crossing_3f18 (dEnds M Q) (startD 2 ds) M) (hX : ∀ ds M Q E, sp ds M Q E → sp ds M Q DX0 := by exact fun _ _ _ _ h => h) : Def P w K mg base CX0 1 "_law_crossing" s_l_crossing_3f18 ["_law_one", "_law_other"] sp :=
 T.h_l_crossing_3f18.ok (t := t_l_crossing_3f18) sc_l_crossing_3f18 (fun f cdv A outer s H E hr gd => (dss_one (ds_ret (de_op opd_sub (de_op opd_add (de_op opd_sub (de_op opd_mulI (de_ix (dv 0) de_int) (de_ix (dv 1) de_int)) (de_op opd_mulI (de_ix (dv 0) de_int) (de_ix (dv 1) de_int))) (de_op opd_mulI (de_ix (dv 0) de_int) (de_ix (dv 1) de_int))) (de_op opd_mulI (de_ix (dv 0) de_int) (de_ix (dv 1) de_int)))))) hread hX
theorem ok_l_sum_cfa2 {sp : DSp} (T : Txt K mg base) (hread : ∀ ds M Q, ds.length = 3 → sp ds M Q DX0 → t_l_sum_cfa2 (dEnds M Q) (startD 5 ds) M) (hX : ∀ ds M Q E, sp ds M Q E → sp ds M Q DX0 := by exact fun _ _ _ _ h => h) : Def P w K mg base CX0 1 "_law_sum" s_l_sum_cfa2 ["_law_one", "_law_other", "_law_often"] sp :=
 T.h_l_sum_cfa2.ok (t := t_l_sum_cfa2) sc_l_sum_cfa2 (fun f cdv A outer s H E hr gd => (dss_one (ds_ret (de_lc false (own := [("_law_low", 3), ("_law_high", 4)]) rfl sc_l_sum_cfa2.nd (blkOk_by (N := ["_law_one", "_law_other", "_law_often", "_law_low", "_law_high"]) (own := [("_law_low", 3), ("_law_high", 4)]) (sc := (defScope s_l_sum_cfa2)) (by decide +kernel)) (di_zip T.n_zip (da_cons (dv 0) (da_cons (dv 1) da_nil))) (fun _ _ _ _ _ => (dcg_tup rfl (dcgs_cons (dcg_name (i := 3) sc_l_sum_cfa2.nd) (dcgs_cons (dcg_name (i := 4) sc_l_sum_cfa2.nd) dcgs_nil)))) (fun _ _ _ _ _ => dts_nil) (fun _ _ _ _ _ => (de_op opd_add (dv 3) (de_op opd_mulI (dv 2) (dv 4)))))))) hread hX
theorem ok_common_by {sp : DSp} (T : Txt K mg base) (hread : ∀ ds M Q, ds.length = 2 → sp ds M Q DX0 → t_common_by (dEnds M Q) (startD 4 ds) M) (hX : ∀ ds M Q E, sp ds M Q E → sp ds M Q DX0 := by exact fun _ _ _ _ h => h) : Def P w K mg base CX0 1 "common_by" s_common_by ["one", "other"] sp :=
 T.h_common_by.ok (t := t_common_by) sc_common_by (fun f cdv A outer s H E hr gd => (dss_cons (ds_par (i := 2) (j := 3) rfl sc_common_by.nd (da_cons (de_blt cd_abs T.n_abs (da_cons (dv 0) da_nil)) (da_cons (de_blt cd_abs T.n_abs (da_cons (dv 1) da_nil)) da_nil)))
 (dss_cons (ds_while (dt_cmp (opd_ne (u64 hr)) (dv 3) de_int (nomark _)) (dss_one (ds_par (i := 2) (j := 3) rfl sc_common_by.nd (da_cons (dv 3) (da_cons (de_op opd_mod (dv 2) (dv 3)) da_nil)))))
 (dss_one (ds_ret (dv 2)))))) hread hX
theorem ok_is_cutting_by {c_is_whole c_common_by : DSp} {sp : DSp} (T : Txt K mg base) (D_is_whole : Def P w K mg base CX0 1 "is_whole" s_is_whole ["value"] c_is_whole) (D_common_by : Def P w K mg base CX0 1 "common_by" s_common_by ["one", "other"] c_common_by) (hread : ∀ ds M Q, ds.length = 1 → sp ds M Q DX0 → t_is_cutting_by c_is_whole c_common_by (dEnds M Q) (startD 7 ds) M) (hX : ∀ ds M Q E, sp ds M Q E → sp ds M Q DX0 := by exact fun _ _ _ _ h => h) : Def P w K mg base CX0 2 "is_cutting_by" s_is_cutting_by ["value"] sp :=
 T.h_is_cutting_by.ok (t := t_is_cutting_by c_is_whole c_common_by) sc_is_cutting_by (fun f cdv A outer s H E hr gd => (dss_cons (ds_if (DW.dt (dw_or (dt_not (dt_tru (de_blt cd_isi T.n_isinstance (da_cons (dv 0) (da_cons (de_bltn (v := .ty "tuple") T.n_tuple rfl) da_nil))))) (dw_or (dt_cmp (opd_ne (u64 hr)) (de_blt cd_len T.n_len (da_cons (dv 0) da_nil)) de_int (nomark _)) (dw_or1 (dt_cmp (opd_ne (u64 hr)) (de_lc false (own := [("item", 1)]) rfl sc_is_cutting_by.nd (blkOk_by (N := ["value", "item", "low", "high", "side", "turn", "both"]) (own := [("item", 1)]) (sc := (defScope s_is_cutting_by)) (by decide +kernel)) (di_seq (dv 0)) (fun _ _ _ _ _ => (dcg_name (i := 1) sc_is_cutting_by.nd)) (fun _ _ _ _ _ => (dts_one (dt_not (dt_tru (dcall D_is_whole hr gd (da_cons (dv 1) da_nil)))))) (fun _ _ _ _ _ => (dv 1))) (de_lst da_nil) (nomark _)))))) (dss_one (ds_ret de_bl)) dss_nil)
 (dss_cons (ds_asg (dv 0) (dg_tup rfl (dgs_cons (dg_name (i := 2) sc_is_cutting_by.nd) (dgs_cons (dg_name (i := 3) sc_is_cutting_by.nd) (dgs_cons (dg_name (i := 4) sc_is_cutting_by.nd) (dgs_cons (dg_name (i := 5) sc_is_cutting_by.nd) dgs_nil))))))
 (dss_cons (ds_if (DW.dt (dw_or (dt_cmp opd_lt (dv 3) de_int (nomark _)) (dw_or (dt_cmp opd_lt (dv 4) de_int (nomark _)) (dw_or1 (dt_not (dt_cmp opd_lt (de_op opd_add (dv 4) (dv 5)) (dv 3) (nomark _))))))) (dss_one (ds_ret de_bl)) dss_nil)
 (dss_cons (ds_set (i := 6) sc_is_cutting_by.nd (dcall D_common_by hr gd (da_cons (dv 3) (da_cons (dv 4) da_nil))))
 (dss_one (ds_ret (de_and (de_chain opd_le opd_lt de_int (dv 2) (dv 6)) (de_one (de_cmp (opd_eq (u64 hr)) (dcall D_common_by hr gd (da_cons (dcall D_common_by hr gd (da_cons (dv 2) (da_cons (dv 6) da_nil))) (da_cons (dv 5) da_nil))) de_int (nomark _))))))))))) hread hX
theorem ok_check_cutting {c_is_cutting_by : DSp} {sp : DSp} (T : Txt K mg base) (D_is_cutting_by : Def P w K mg base CX0 2 "is_cutting_by" s_is_cutting_by ["value"] c_is_cutting_by) (hread : ∀ ds M Q, ds.length = 1 → sp ds M Q DX0 → t_check_cutting c_is_cutting_by (dEnds M Q) (startD 1 ds) M) (hX : ∀ ds M Q E, sp ds M Q E → sp ds M Q DX0 := by exact fun _ _ _ _ h => h) : Def P w K mg base CX0 3 "check_cutting" s_check_cutting ["cutting"] sp :=
 T.h_check_cutting.ok (t := t_check_cutting c_is_cutting_by) sc_check_cutting (fun f cdv A outer s H E hr gd => (dss_one (ds_if (dt_not (dt_tru (dcall D_is_cutting_by hr gd (da_cons (dv 0) da_nil)))) (dss_one ds_never) dss_nil))) hread hX
theorem ok_rooted_o {sp : DSp} (T : Txt K mg base) (hread : ∀ ds M Q, ds.length = 2 → sp ds M Q DX0 → t_rooted_o (dEnds M Q) (startD 10 ds) M) (hX : ∀ ds M Q E, sp ds M Q E → sp ds M Q DX0 := by exact fun _ _ _ _ h => h) : Def P w K mg base CX0 1 "rooted" s_rooted_o ["cutting", "path"] sp :=
 T.h_rooted_o.ok (t := t_rooted_o) sc_rooted_o (fun f cdv A outer s H E hr gd => (dss_cons (ds_asg (dv 0) (dg_tup rfl (dgs_cons (dg_name (i := 2) sc_rooted_o.nd) (dgs_cons (dg_name (i := 3) sc_rooted_o.nd) (dgs_cons (dg_name (i := 4) sc_rooted_o.nd) (dgs_cons (dg_name (i := 5) sc_rooted_o.nd) dgs_nil))))))
 (dss_cons (ds_asg (dv 1) (dg_tup rfl (dgs_cons (dg_name (i := 6) sc_rooted_o.nd) (dgs_cons (dg_name (i := 7) sc_rooted_o.nd) (dgs_cons (dg_name (i := 8) sc_rooted_o.nd) (dgs_cons (dg_name (i := 9) sc_rooted_o.nd) dgs_nil))))))
 (dss_one (ds_ret (de_own (da_cons (de_op opd_add (de_op opd_add (de_op opd_mulI (dv 5) (dv 6)) (de_op opd_mulI (dv 3) (dv 8))) (de_op opd_mulI (dv 2) (dv 9))) (da_cons (de_op opd_add (de_op opd_mulI (dv 5) (dv 7)) (de_op opd_mulI (dv 4) (dv 9))) (da_cons (de_op opd_sub (de_op opd_mulI (dv 4) (dv 6)) (de_op opd_mulI (dv 2) (dv 7))) (da_cons (de_op opd_mulI (dv 3) (dv 7)) da_nil)))))))))) hread hX
theorem ok_root_path {c_check_cutting c_check_path c_rooted_o : DSp} {sp : DSp} (T : Txt K mg base) (D_check_cutting : Def P w K mg base CX0 3 "check_cutting" s_check_cutting ["cutting"] c_check_cutting) (D_check_path : Def P w K mg base CX0 3 "check_path" s_check_path ["path"] c_check_path) (D_rooted_o : Def P w K mg base CX0 1 "rooted" s_rooted_o ["cutting", "path"] c_rooted_o) (hread : ∀ ds M Q, ds.length = 2 → sp ds M Q DX0 → t_root_path c_check_cutting c_check_path c_rooted_o (dEnds M Q) (startD 2 ds) M) (hX : ∀ ds M Q E, sp ds M Q E → sp ds M Q DX0 := by exact fun _ _ _ _ h => h) : Def P w K mg base CX0 4 "root_path" s_root_path ["cutting", "path"] sp :=
 T.h_root_path.ok (t := t_root_path c_check_cutting c_check_path c_rooted_o) sc_root_path (fun f cdv A outer s H E hr gd => (dss_cons (ds_expr (dcall D_check_cutting hr gd (da_cons (dv 0) da_nil)))
 (dss_cons (ds_expr (dcall D_check_path hr gd (da_cons (dv 1) da_nil)))
 (dss_one (ds_ret (dcall D_rooted_o hr gd (da_cons (dv 0) (da_cons (dv 1) da_nil)))))))) hread hX
theorem ok_l_rooted_6254 {sp : DSp} (T : Txt K mg base) (hread : ∀ ds M Q, ds.length = 2 → sp ds M Q DX0 → t_l_rooted_6254 (dEnds M Q) (startD 6 ds) M) (hX : ∀ ds M Q E, sp ds M Q E → sp ds M Q DX0 := by exact fun _ _ _ _ h => h) : Def P w K mg base CX0 1 "_law_rooted" s_l_rooted_6254 ["_law_cutting_here", "_law_path_here"] sp :=
 T.h_l_rooted_6254.ok (t := t_l_rooted_6254) sc_l_rooted_6254 (fun f cdv A outer s H E hr gd => (dss_cons (ds_asg (dv 0) (dg_tup rfl (dgs_cons (dg_name (i := 2) sc_l_rooted_6254.nd) (dgs_cons (dg_name (i := 3) sc_l_rooted_6254.nd) (dgs_cons (dg_name (i := 4) sc_l_rooted_6254.nd) (dgs_cons (dg_name (i := 5) sc_l_rooted_6254.nd) dgs_nil))))))
 (dss_one (ds_ret (de_lst (da_cons (de_op opd_add (de_op opd_add (de_op opd_mulI (dv 5) (de_ix (dv 1) de_int)) (de_op opd_mulI (dv 3) (de_ix (dv 1) de_int))) (de_op opd_mulI (dv 2) (de_ix (dv 1) de_int))) (da_cons (de_op opd_add (de_op opd_mulI (dv 5) (de_ix (dv 1) de_int)) (de_op opd_mulI (dv 4) (de_ix (dv 1) de_int))) (da_cons (de_op opd_sub (de_op opd_mulI (dv 4) (de_ix (dv 1) de_int)) (de_op opd_mulI (dv 2) (de_ix (dv 1) de_int))) (da_cons (de_op opd_mulI (dv 3) (de_ix (dv 1) de_int)) da_nil))))))))) hread hX
theorem ok_l_right_dc29 {c_l_cutting_f2c0 c_l_random_7821 c_l_path_108b c_crossing c_l_crossing_3f18 c_l_sum_cfa2 c_root_path c_l_rooted_6254 : DSp} {sp : DSp} (T : Txt K mg base) (D_l_cutting_f2c0 : Def P w K mg base CX0 3 "_law_cutting" s_l_cutting_f2c0 ["_law_generator_here", "_law_most"] c_l_cutting_f2c0) (D_l_random_7821 : Def P w K mg base CX0 2 "_law_random" s_l_random_7821 ["_law_generator_here", "_law_bound"] c_l_random_7821) (D_l_path_108b : Def P w K mg base CX0 3 "_law_path" s_l_path_108b ["_law_generator_here"] c_l_path_108b) (D_crossing : Def P w K mg base CX0 4 "crossing" s_crossing ["one", "other"] c_crossing) (D_l_crossing_3f18 : Def P w K mg base CX0 1 "_law_crossing" s_l_crossing_3f18 ["_law_one", "_law_other"] c_l_crossing_3f18) (D_l_sum_cfa2 : Def P w K mg base CX0 1 "_law_sum" s_l_sum_cfa2 ["_law_one", "_law_other", "_law_often"] c_l_sum_cfa2) (D_root_path : Def P w K mg base CX0 4 "root_path" s_root_path ["cutting", "path"] c_root_path) (D_l_rooted_6254 : Def P w K mg base CX0 1 "_law_rooted" s_l_rooted_6254 ["_law_cutting_here", "_law_path_here"] c_l_rooted_6254) (hread : ∀ ds M Q, ds.length = 1 → sp ds M Q DX0 → t_l_right_dc29 c_l_cutting_f2c0 c_l_random_7821 c_l_path_108b c_crossing c_l_crossing_3f18 c_l_sum_cfa2 c_root_path c_l_rooted_6254 (dEnds M Q) (startD 16 ds) M) (hX : ∀ ds M Q E, sp ds M Q E → sp ds M Q DX0 := by exact fun _ _ _ _ h => h) : Def P w K mg base CX0 5 "_law_right" s_l_right_dc29 ["_law_generator_here"] sp :=
 T.h_l_right_dc29.ok (t := t_l_right_dc29 c_l_cutting_f2c0 c_l_random_7821 c_l_path_108b c_crossing c_l_crossing_3f18 c_l_sum_cfa2 c_root_path c_l_rooted_6254) sc_l_right_dc29 (fun f cdv A outer s H E hr gd => (dss_cons (ds_set (i := 1) sc_l_right_dc29.nd (dcall D_l_cutting_f2c0 hr gd (da_cons (dv 0) (da_cons (de_ix (de_lst (da_cons de_int (da_cons (de_op opd_pow de_int de_int) da_nil))) (dcall D_l_random_7821 hr gd (da_cons (dv 0) (da_cons de_int da_nil)))) da_nil))))
 (dss_cons (ds_asg (de_lc false (own := [("_law_turn", 5)]) rfl sc_l_right_dc29.nd (blkOk_by (N := ["_law_generator_here", "_law_cutting_here", "_law_one", "_law_other", "_law_third", "_law_turn", "_law_kept", "_law_often", "_law_found", "_law_led", "_law_a", "_law_b", "_law_c", "_law_e", "_law_low", "_law_high"]) (own := [("_law_turn", 5)]) (sc := (defScope s_l_right_dc29)) (by decide +kernel)) (di_range1 T.n_range (da_cons de_int da_nil)) (fun _ _ _ _ _ => (dcg_name (i := 5) sc_l_right_dc29.nd)) (fun _ _ _ _ _ => dts_nil) (fun _ _ _ _ _ => (dcall D_l_path_108b hr gd (da_cons (dv 0) da_nil)))) (dg_tup rfl (dgs_cons (dg_name (i := 2) sc_l_right_dc29.nd) (dgs_cons (dg_name (i := 3) sc_l_right_dc29.nd) (dgs_cons (dg_name (i := 4) sc_l_right_dc29.nd) dgs_nil)))))
 (dss_cons (ds_par (i := 6) (j := 7) rfl sc_l_right_dc29.nd (da_cons (de_blt (cd_repr gd (ux hr)) T.n_repr (da_cons (de_lst (da_cons (dv 2) (da_cons (dv 3) (da_cons (dv 1) da_nil)))) da_nil)) (da_cons (de_op opd_sub (dcall D_l_random_7821 hr gd (da_cons (dv 0) (da_cons de_int da_nil))) de_int) da_nil)))
 (dss_cons (ds_set (i := 8) sc_l_right_dc29.nd (dcall D_crossing hr gd (da_cons (dv 2) (da_cons (dv 3) da_nil))))
 (dss_cons (ds_if (DW.dt (dw_or (dt_cmp (opd_ne (u64 hr)) (de_blt (cd_repr gd (ux hr)) T.n_repr (da_cons (dv 8) da_nil)) (de_blt (cd_repr gd (ux hr)) T.n_repr (da_cons (dcall D_l_crossing_3f18 hr gd (da_cons (dv 2) (da_cons (dv 3) da_nil))) da_nil)) (nomark _)) (dw_or (dt_cmp (opd_ne (u64 hr)) (dcallK [1, 0] D_crossing hr gd (dk_cons (dv 3) (dk_cons (dv 2) dk_nil)) (ks := ["other", "one"]) rfl (fun _ _ _ _ _ _ us hl => match us, hl with | [_, _], _ => rfl)) (dv 8) (nomark _)) (dw_or (dt_cmp (opd_ne (u64 hr)) (dcall D_crossing hr gd (da_cons (dv 3) (da_cons (dv 2) da_nil))) (de_op opd_sub de_int (dv 8)) (nomark _)) (dw_or1 (dt_cmp (opd_ne (u64 hr)) (dcall D_crossing hr gd (da_cons (dv 2) (da_cons (dv 2) da_nil))) de_int (nomark _))))))) (dss_one (ds_ret de_bl)) dss_nil)
 (dss_cons (ds_if (dt_cmp (opd_ne (u64 hr)) (dcall D_crossing hr gd (da_cons (dcall D_l_sum_cfa2 hr gd (da_cons (dv 2) (da_cons (dv 4) (da_cons (dv 7) da_nil)))) (da_cons (dv 3) da_nil))) (de_op opd_add (dv 8) (de_op opd_mulI (dv 7) (dcall D_l_crossing_3f18 hr gd (da_cons (dv 4) (da_cons (dv 3) da_nil))))) (nomark _)) (dss_one (ds_ret de_bl)) dss_nil)
 (dss_cons (ds_set (i := 9) sc_l_right_dc29.nd (dcall D_root_path hr gd (da_cons (dv 1) (da_cons (dv 2) da_nil))))
 (dss_cons (ds_if (DW.dt (dw_or (dt_cmp (opd_ne (u64 hr)) (de_blt (cd_repr gd (ux hr)) T.n_repr (da_cons (dv 9) da_nil)) (de_blt (cd_repr gd (ux hr)) T.n_repr (da_cons (dcall D_l_rooted_6254 hr gd (da_cons (dv 1) (da_cons (dv 2) da_nil))) da_nil)) (nomark _)) (dw_or1 (dt_cmp (opd_ne (u64 hr)) (dcallK [1, 0] D_root_path hr gd (dk_cons (dv 2) (dk_cons (dv 1) dk_nil)) (ks := ["path", "cutting"]) rfl (fun _ _ _ _ _ _ us hl => match us, hl with | [_, _], _ => rfl)) (dv 9) (nomark _))))) (dss_one (ds_ret de_bl)) dss_nil)
 (dss_cons (ds_if (dt_cmp (opd_ne (u64 hr)) (dcall D_root_path hr gd (da_cons (dv 1) (da_cons (dcall D_l_sum_cfa2 hr gd (da_cons (dv 2) (da_cons (dv 4) (da_cons (dv 7) da_nil)))) da_nil))) (dcall D_l_sum_cfa2 hr gd (da_cons (dv 9) (da_cons (dcall D_l_rooted_6254 hr gd (da_cons (dv 1) (da_cons (dv 4) da_nil))) (da_cons (dv 7) da_nil)))) (nomark _)) (dss_one (ds_ret de_bl)) dss_nil)
 (dss_cons (ds_asg (dv 1) (dg_tup rfl (dgs_cons (dg_name (i := 10) sc_l_right_dc29.nd) (dgs_cons (dg_name (i := 11) sc_l_right_dc29.nd) (dgs_cons (dg_name (i := 12) sc_l_right_dc29.nd) (dgs_cons (dg_name (i := 13) sc_l_right_dc29.nd) dgs_nil))))))
 (dss_cons (ds_if (dt_cmp (opd_ne (u64 hr)) (dcall D_root_path hr gd (da_cons (dv 1) (da_cons (de_ty (cd_list false) T.n_list (da_cons (dv 9) da_nil)) da_nil))) (de_lc false (own := [("_law_low", 14), ("_law_high", 15)]) rfl sc_l_right_dc29.nd (blkOk_by (N := ["_law_generator_here", "_law_cutting_here", "_law_one", "_law_other", "_law_third", "_law_turn", "_law_kept", "_law_often", "_law_found", "_law_led", "_law_a", "_law_b", "_law_c", "_law_e", "_law_low", "_law_high"]) (own := [("_law_low", 14), ("_law_high", 15)]) (sc := (defScope s_l_right_dc29)) (by decide +kernel)) (di_zip T.n_zip (da_cons (dv 9) (da_cons (dv 2) da_nil))) (fun _ _ _ _ _ => (dcg_tup rfl (dcgs_cons (dcg_name (i := 14) sc_l_right_dc29.nd) (dcgs_cons (dcg_name (i := 15) sc_l_right_dc29.nd) dcgs_nil)))) (fun _ _ _ _ _ => dts_nil) (fun _ _ _ _ _ => (de_op opd_add (de_op opd_mulI (dv 13) (dv 14)) (de_op opd_mulI (de_op opd_mulI (dv 11) (dv 12)) (dv 15))))) (nomark _)) (dss_one (ds_ret de_bl)) dss_nil)
 (dss_cons (ds_if (dt_cmp (opd_ne (u64 hr)) (dcall D_crossing hr gd (da_cons (dv 9) (da_cons (dv 3) da_nil))) (dcall D_crossing hr gd (da_cons (dv 2) (da_cons (dcall D_root_path hr gd (da_cons (dv 1) (da_cons (dv 3) da_nil))) da_nil))) (nomark _)) (dss_one (ds_ret de_bl)) dss_nil)
 (dss_cons (ds_expr (de_append (dv 9) (da_cons de_non da_nil)))
 (dss_one (ds_ret (de_and (de_cmp (opd_eq (u64 hr)) (dcall D_root_path hr gd (da_cons (dv 1) (da_cons (dv 2) da_nil))) (dcall D_l_rooted_6254 hr gd (da_cons (dv 1) (da_cons (dv 2) da_nil))) (nomark _)) (de_one (de_cmp (opd_eq (u64 hr)) (de_blt (cd_repr gd (ux hr)) T.n_repr (da_cons (de_lst (da_cons (dv 2) (da_cons (dv 3) (da_cons (dv 1) da_nil)))) da_nil)) (dv 6) (nomark _)))))))))))))))))))) hread hX
theorem ok_l_cell_cf3b {sp : DSp} (T : Txt K mg base) (hread : ∀ ds M Q, ds.length = 2 → sp ds M Q DX0 → t_l_cell_cf3b (dEnds M Q) (startD 2 ds) M) (hX : ∀ ds M Q E, sp ds M Q E → sp ds M Q DX0 := by exact fun _ _ _ _ h => h) : Def P w K mg base CX0 1 "_law_cell" s_l_cell_cf3b ["_law_script", "_law_index"] sp :=
 T.h_l_cell_cf3b.ok (t := t_l_cell_cf3b) sc_l_cell_cf3b (fun f cdv A outer s H E hr gd => (dss_cons (ds_if (dt_cmp opd_lt (dv 1) (de_blt cd_len T.n_len (da_cons (dv 0) da_nil)) (nomark _)) (dss_one (ds_ret (de_ix (dv 0) (dv 1)))) dss_nil)
 (dss_one (ds_ret (de_op opd_mod (de_blt (cd_sum rfl) T.n_sum (da_cons (de_slL false (dv 0) do_none (do_some de_int)) da_nil)) de_int))))) hread hX
theorem ok_l_generator_b324 {c_l_cell_cf3b : DSp} {sp : DSp} (T : Txt K mg base) (D_l_cell_cf3b : Def P w K mg base CX0 1 "_law_cell" s_l_cell_cf3b ["_law_script", "_law_index"] c_l_cell_cf3b) (hread : ∀ ds M Q, ds.length = 2 → sp ds M Q DX0 → t_l_generator_b324 c_l_cell_cf3b (dEnds M Q) (startD 3 ds) M) (hX : ∀ ds M Q E, sp ds M Q E → sp ds M Q DX0 := by exact fun _ _ _ _ h => h) : Def P w K mg base CX0 2 "_law_generator" s_l_generator_b324 ["_law_script", "_law_index"] sp :=
 T.h_l_generator_b324.ok (t := t_l_generator_b324 c_l_cell_cf3b) sc_l_generator_b324 (fun f cdv A outer s H E hr gd => (dss_cons (ds_set (i := 2) sc_l_generator_b324.nd (dcall D_l_cell_cf3b hr gd (da_cons (dv 0) (da_cons (dv 1) da_nil))))
 (dss_one (ds_ret (de_own (da_cons (de_op opd_mod (de_ty cd_int T.n_int (da_cons (de_blt (cd_max rfl) T.n_max (da_cons (de_op opd_sub (dv 2) (de_op opd_pow de_int de_int)) (da_cons de_int da_nil))) da_nil)) (de_op opd_pow (de_op opd_pow de_int de_int) de_int)) (da_cons (de_op opd_mod (de_ty cd_int T.n_int (da_cons (dv 2) da_nil)) de_int) (da_cons (de_op opd_mulI de_int (dv 1)) da_nil)))))))) hread hX
theorem ok_l_law_540c {c_l_right_dc29 c_l_generator_b324 c_crossing c_root_path : DSp} {sp : DSp} (T : Txt K mg base) (D_l_right_dc29 : Def P w K mg base CX0 5 "_law_right" s_l_right_dc29 ["_law_generator_here"] c_l_right_dc29) (D_l_generator_b324 : Def P w K mg base CX0 2 "_law_generator" s_l_generator_b324 ["_law_script", "_law_index"] c_l_generator_b324) (D_crossing : Def P w K mg base CX0 4 "crossing" s_crossing ["one", "other"] c_crossing) (D_root_path : Def P w K mg base CX0 4 "root_path" s_root_path ["cutting", "path"] c_root_path) (hread : ∀ ds M Q, ds.length = 1 → sp ds M Q DX0 → t_l_law_540c c_l_right_dc29 c_l_generator_b324 c_crossing c_root_path (dEnds M Q) (startD 2 ds) M) (hX : ∀ ds M Q E, sp ds M Q E → sp ds M Q DX0 := by exact fun _ _ _ _ h => h) : Def P w K mg base CX0 6 "law" s_l_law_540c ["_law_script"] sp :=
 T.h_l_law_540c.ok (t := t_l_law_540c c_l_right_dc29 c_l_generator_b324 c_crossing c_root_path) sc_l_law_540c (fun f cdv A outer s H E hr gd => (dss_cons (ds_for rfl (di_range1 T.n_range (da_cons de_int da_nil)) (dg_name (i := 1) sc_l_law_540c.nd) (dss_one (ds_if (dt_not (dt_tru (dcall D_l_right_dc29 hr gd (da_cons (dcall D_l_generator_b324 hr gd (da_cons (dv 0) (da_cons (dv 1) da_nil))) da_nil)))) (dss_one (ds_ret de_bl)) dss_nil)))
 (dss_cons (ds_if (dt_cmp (opd_ne (u64 hr)) (de_lst (da_cons (dcall D_crossing hr gd (da_cons (de_lst (da_cons de_int (da_cons de_int (da_cons de_int (da_cons de_int da_nil))))) (da_cons (de_lst (da_cons de_int (da_cons de_int (da_cons de_int (da_cons de_int da_nil))))) da_nil))) (da_cons (dcall D_crossing hr gd (da_cons (de_lst (da_cons de_int (da_cons de_int (da_cons de_int (da_cons de_int da_nil))))) (da_cons (de_lst (da_cons de_int (da_cons de_int (da_cons de_int (da_cons de_int da_nil))))) da_nil))) (da_cons (dcall D_crossing hr gd (da_cons (de_lst (da_cons de_int (da_cons de_int (da_cons de_int (da_cons de_int da_nil))))) (da_cons (de_lst (da_cons de_int (da_cons de_int (da_cons de_int (da_cons de_int da_nil))))) da_nil))) da_nil)))) (de_lst (da_cons de_int (da_cons de_int (da_cons (de_neg de_int) da_nil)))) (nomark _)) (dss_one (ds_ret de_bl)) dss_nil)
 (dss_one (ds_ret (de_and (de_cmp (opd_eq (u64 hr)) (dcall D_root_path hr gd (da_cons (de_tup (da_cons de_int (da_cons de_int (da_cons de_int (da_cons (de_neg de_int) da_nil))))) (da_cons (de_lst (da_cons de_int (da_cons de_int (da_cons de_int (da_cons de_int da_nil))))) da_nil))) (de_lst (da_cons (de_neg de_int) (da_cons de_int (da_cons de_int (da_cons de_int da_nil))))) (nomark _)) (de_one (de_cmp (opd_eq (u64 hr)) (dcall D_root_path hr gd (da_cons (de_tup (da_cons de_int (da_cons de_int (da_cons de_int (da_cons de_int da_nil))))) (da_cons (de_lst (da_cons de_int (da_cons de_int (da_cons de_int (da_cons (de_neg de_int) da_nil))))) da_nil))) (de_lst (da_cons de_int (da_cons (de_neg de_int) (da_cons de_int (da_cons de_int da_nil))))) (nomark _))))))))) hread hX
end
end C_k40
namespace C_k40
open PySem PySem.Spec PyProof.Rows L2 DL
theorem law_ok {P : Program} {w : World} {K : PySem.W.Frag} {mg : Str → Option Value} {base : Heap} (T : Txt K mg base) : Def P w K mg base CX0 6 "law" s_l_law_540c ["_law_script"] spLaw := by
  have D_l_hash_d8d1 := ok_l_hash_d8d1 (P := P) (w := w) T  rd_l_hash_d8d1
  have D_l_random_7821 := ok_l_random_7821 (P := P) (w := w) T D_l_hash_d8d1 rd_l_random_7821
  have D_l_common_b8b4 := ok_l_common_b8b4 (P := P) (w := w) T  rd_l_common_b8b4
  have D_l_is_cutting_19aa := ok_l_is_cutting_19aa (P := P) (w := w) T D_l_common_b8b4 rd_l_is_cutting_19aa
  have D_l_cutting_f2c0 := ok_l_cutting_f2c0 (P := P) (w := w) T D_l_random_7821 D_l_common_b8b4 D_l_is_cutting_19aa rd_l_cutting_f2c0
  have D_l_path_108b := ok_l_path_108b (P := P) (w := w) T D_l_random_7821 rd_l_path_108b
  have D_is_whole := ok_is_whole (P := P) (w := w) T  rd_is_whole
  have D_is_path_list := ok_is_path_list (P := P) (w := w) T D_is_whole rd_is_path_list
  have D_check_path := ok_check_path (P := P) (w := w) T D_is_path_list rd_check_path
  have D_crossing_by := ok_crossing_by (P := P) (w := w) T  rd_crossing_by
  have D_crossing := ok_crossing (P := P) (w := w) T D_check_path D_crossing_by rd_crossing
  have D_l_crossing_3f18 := ok_l_crossing_3f18 (P := P) (w := w) T  rd_l_crossing_3f18
  have D_l_sum_cfa2 := ok_l_sum_cfa2 (P := P) (w := w) T  rd_l_sum_cfa2
  have D_common_by := ok_common_by (P := P) (w := w) T  rd_common_by
  have D_is_cutting_by := ok_is_cutting_by (P := P) (w := w) T D_is_whole D_common_by rd_is_cutting_by
  have D_check_cutting := ok_check_cutting (P := P) (w := w) T D_is_cutting_by rd_check_cutting
  have D_rooted_o := ok_rooted_o (P := P) (w := w) T  rd_rooted_o
  have D_root_path := ok_root_path (P := P) (w := w) T D_check_cutting D_check_path D_rooted_o rd_root_path
  have D_l_rooted_6254 := ok_l_rooted_6254 (P := P) (w := w) T  rd_l_rooted_6254
  have D_l_right_dc29 := ok_l_right_dc29 (P := P) (w := w) T D_l_cutting_f2c0 D_l_random_7821 D_l_path_108b D_crossing D_l_crossing_3f18 D_l_sum_cfa2 D_root_path D_l_rooted_6254 rd_l_right_dc29
  have D_l_cell_cf3b := ok_l_cell_cf3b (P := P) (w := w) T  rd_l_cell_cf3b
  have D_l_generator_b324 := ok_l_generator_b324 (P := P) (w := w) T D_l_cell_cf3b rd_l_generator_b324
  exact ok_l_law_540c T D_l_right_dc29 D_l_generator_b324 D_crossing D_root_path rd_l_law_540c
theorem all_mk {K : PySem.W.Frag} {h : Heap} {mg : Str → Option Value} (X : K.In h) (G : h.Ns mainGlobals mg)
    (n_abs : PySem.W.nsIn K mainGlobals "abs" = some none)
    (n_bool : PySem.W.nsIn K mainGlobals "bool" = some none)
    (n_int : PySem.W.nsIn K mainGlobals "int" = some none)
    (n_isinstance : PySem.W.nsIn K mainGlobals "isinstance" = some none)
    (n_len : PySem.W.nsIn K mainGlobals "len" = some none)
    (n_list : PySem.W.nsIn K mainGlobals "list" = some none)
    (n_max : PySem.W.nsIn K mainGlobals "max" = some none)
    (n_range : PySem.W.nsIn K mainGlobals "range" = some none)
    (n_repr : PySem.W.nsIn K mainGlobals "repr" = some none)
    (n_sum : PySem.W.nsIn K mainGlobals "sum" = some none)
    (n_tuple : PySem.W.nsIn K mainGlobals "tuple" = some none)
    (n_zip : PySem.W.nsIn K mainGlobals "zip" = some none)
    {f_l_hash_d8d1 : Addr} {oc_l_hash_d8d1 kV_l_hash_d8d1 dc_l_hash_d8d1 pm_l_hash_d8d1 cd_l_hash_d8d1 ct_l_hash_d8d1 : Value} {od_l_hash_d8d1 an_l_hash_d8d1 : Option Addr} {sl_l_hash_d8d1 : Array (Option Value)}
    (a_l_hash_d8d1 : PySem.W.nsIn K mainGlobals "_law_hash" = some (some (.ref f_l_hash_d8d1))) (l_l_hash_d8d1 : K.lookup f_l_hash_d8d1 = some ⟨oc_l_hash_d8d1, od_l_hash_d8d1, .func (PySem.W.fnOf "_law_hash" "_law_hash" (defArgs s_l_hash_d8d1) (defBody s_l_hash_d8d1) (defScope s_l_hash_d8d1) .none kV_l_hash_d8d1 dc_l_hash_d8d1 pm_l_hash_d8d1 an_l_hash_d8d1 cd_l_hash_d8d1 ct_l_hash_d8d1), sl_l_hash_d8d1⟩) (e_l_hash_d8d1 : PySem.W.codeIn K cd_l_hash_d8d1 "_law_hash" = true) (k_l_hash_d8d1 : PySem.W.keepIn K (.ref f_l_hash_d8d1) = true)
    {f_l_random_7821 : Addr} {oc_l_random_7821 kV_l_random_7821 dc_l_random_7821 pm_l_random_7821 cd_l_random_7821 ct_l_random_7821 : Value} {od_l_random_7821 an_l_random_7821 : Option Addr} {sl_l_random_7821 : Array (Option Value)}
    (a_l_random_7821 : PySem.W.nsIn K mainGlobals "_law_random" = some (some (.ref f_l_random_7821))) (l_l_random_7821 : K.lookup f_l_random_7821 = some ⟨oc_l_random_7821, od_l_random_7821, .func (PySem.W.fnOf "_law_random" "_law_random" (defArgs s_l_random_7821) (defBody s_l_random_7821) (defScope s_l_random_7821) .none kV_l_random_7821 dc_l_random_7821 pm_l_random_7821 an_l_random_7821 cd_l_random_7821 ct_l_random_7821), sl_l_random_7821⟩) (e_l_random_7821 : PySem.W.codeIn K cd_l_random_7821 "_law_random" = true) (k_l_random_7821 : PySem.W.keepIn K (.ref f_l_random_7821) = true)
    {f_l_common_b8b4 : Addr} {oc_l_common_b8b4 kV_l_common_b8b4 dc_l_common_b8b4 pm_l_common_b8b4 cd_l_common_b8b4 ct_l_common_b8b4 : Value} {od_l_common_b8b4 an_l_common_b8b4 : Option Addr} {sl_l_common_b8b4 : Array (Option Value)}
    (a_l_common_b8b4 : PySem.W.nsIn K mainGlobals "_law_common" = some (some (.ref f_l_common_b8b4))) (l_l_common_b8b4 : K.lookup f_l_common_b8b4 = some ⟨oc_l_common_b8b4, od_l_common_b8b4, .func (PySem.W.fnOf "_law_common" "_law_common" (defArgs s_l_common_b8b4) (defBody s_l_common_b8b4) (defScope s_l_common_b8b4) .none kV_l_common_b8b4 dc_l_common_b8b4 pm_l_common_b8b4 an_l_common_b8b4 cd_l_common_b8b4 ct_l_common_b8b4), sl_l_common_b8b4⟩) (e_l_common_b8b4 : PySem.W.codeIn K cd_l_common_b8b4 "_law_common" = true) (k_l_common_b8b4 : PySem.W.keepIn K (.ref f_l_common_b8b4) = true)
    {f_l_is_cutting_19aa : Addr} {oc_l_is_cutting_19aa kV_l_is_cutting_19aa dc_l_is_cutting_19aa pm_l_is_cutting_19aa cd_l_is_cutting_19aa ct_l_is_cutting_19aa : Value} {od_l_is_cutting_19aa an_l_is_cutting_19aa : Option Addr} {sl_l_is_cutting_19aa : Array (Option Value)}
    (a_l_is_cutting_19aa : PySem.W.nsIn K mainGlobals "_law_is_cutting" = some (some (.ref f_l_is_cutting_19aa))) (l_l_is_cutting_19aa : K.lookup f_l_is_cutting_19aa = some ⟨oc_l_is_cutting_19aa, od_l_is_cutting_19aa, .func (PySem.W.fnOf "_law_is_cutting" "_law_is_cutting" (defArgs s_l_is_cutting_19aa) (defBody s_l_is_cutting_19aa) (defScope s_l_is_cutting_19aa) .none kV_l_is_cutting_19aa dc_l_is_cutting_19aa pm_l_is_cutting_19aa an_l_is_cutting_19aa cd_l_is_cutting_19aa ct_l_is_cutting_19aa), sl_l_is_cutting_19aa⟩) (e_l_is_cutting_19aa : PySem.W.codeIn K cd_l_is_cutting_19aa "_law_is_cutting" = true) (k_l_is_cutting_19aa : PySem.W.keepIn K (.ref f_l_is_cutting_19aa) = true)
    {f_l_cutting_f2c0 : Addr} {oc_l_cutting_f2c0 kV_l_cutting_f2c0 dc_l_cutting_f2c0 pm_l_cutting_f2c0 cd_l_cutting_f2c0 ct_l_cutting_f2c0 : Value} {od_l_cutting_f2c0 an_l_cutting_f2c0 : Option Addr} {sl_l_cutting_f2c0 : Array (Option Value)}
    (a_l_cutting_f2c0 : PySem.W.nsIn K mainGlobals "_law_cutting" = some (some (.ref f_l_cutting_f2c0))) (l_l_cutting_f2c0 : K.lookup f_l_cutting_f2c0 = some ⟨oc_l_cutting_f2c0, od_l_cutting_f2c0, .func (PySem.W.fnOf "_law_cutting" "_law_cutting" (defArgs s_l_cutting_f2c0) (defBody s_l_cutting_f2c0) (defScope s_l_cutting_f2c0) .none kV_l_cutting_f2c0 dc_l_cutting_f2c0 pm_l_cutting_f2c0 an_l_cutting_f2c0 cd_l_cutting_f2c0 ct_l_cutting_f2c0), sl_l_cutting_f2c0⟩) (e_l_cutting_f2c0 : PySem.W.codeIn K cd_l_cutting_f2c0 "_law_cutting" = true) (k_l_cutting_f2c0 : PySem.W.keepIn K (.ref f_l_cutting_f2c0) = true)
    {f_l_path_108b : Addr} {oc_l_path_108b kV_l_path_108b dc_l_path_108b pm_l_path_108b cd_l_path_108b ct_l_path_108b : Value} {od_l_path_108b an_l_path_108b : Option Addr} {sl_l_path_108b : Array (Option Value)}
    (a_l_path_108b : PySem.W.nsIn K mainGlobals "_law_path" = some (some (.ref f_l_path_108b))) (l_l_path_108b : K.lookup f_l_path_108b = some ⟨oc_l_path_108b, od_l_path_108b, .func (PySem.W.fnOf "_law_path" "_law_path" (defArgs s_l_path_108b) (defBody s_l_path_108b) (defScope s_l_path_108b) .none kV_l_path_108b dc_l_path_108b pm_l_path_108b an_l_path_108b cd_l_path_108b ct_l_path_108b), sl_l_path_108b⟩) (e_l_path_108b : PySem.W.codeIn K cd_l_path_108b "_law_path" = true) (k_l_path_108b : PySem.W.keepIn K (.ref f_l_path_108b) = true)
    {f_is_whole : Addr} {oc_is_whole kV_is_whole dc_is_whole pm_is_whole cd_is_whole ct_is_whole : Value} {od_is_whole an_is_whole : Option Addr} {sl_is_whole : Array (Option Value)}
    (a_is_whole : PySem.W.nsIn K mainGlobals "is_whole" = some (some (.ref f_is_whole))) (l_is_whole : K.lookup f_is_whole = some ⟨oc_is_whole, od_is_whole, .func (PySem.W.fnOf "is_whole" "is_whole" (defArgs s_is_whole) (defBody s_is_whole) (defScope s_is_whole) .none kV_is_whole dc_is_whole pm_is_whole an_is_whole cd_is_whole ct_is_whole), sl_is_whole⟩) (e_is_whole : PySem.W.codeIn K cd_is_whole "is_whole" = true) (k_is_whole : PySem.W.keepIn K (.ref f_is_whole) = true)
    {f_is_path_list : Addr} {oc_is_path_list kV_is_path_list dc_is_path_list pm_is_path_list cd_is_path_list ct_is_path_list : Value} {od_is_path_list an_is_path_list : Option Addr} {sl_is_path_list : Array (Option Value)}
    (a_is_path_list : PySem.W.nsIn K mainGlobals "is_path_list" = some (some (.ref f_is_path_list))) (l_is_path_list : K.lookup f_is_path_list = some ⟨oc_is_path_list, od_is_path_list, .func (PySem.W.fnOf "is_path_list" "is_path_list" (defArgs s_is_path_list) (defBody s_is_path_list) (defScope s_is_path_list) .none kV_is_path_list dc_is_path_list pm_is_path_list an_is_path_list cd_is_path_list ct_is_path_list), sl_is_path_list⟩) (e_is_path_list : PySem.W.codeIn K cd_is_path_list "is_path_list" = true) (k_is_path_list : PySem.W.keepIn K (.ref f_is_path_list) = true)
    {f_check_path : Addr} {oc_check_path kV_check_path dc_check_path pm_check_path cd_check_path ct_check_path : Value} {od_check_path an_check_path : Option Addr} {sl_check_path : Array (Option Value)}
    (a_check_path : PySem.W.nsIn K mainGlobals "check_path" = some (some (.ref f_check_path))) (l_check_path : K.lookup f_check_path = some ⟨oc_check_path, od_check_path, .func (PySem.W.fnOf "check_path" "check_path" (defArgs s_check_path) (defBody s_check_path) (defScope s_check_path) .none kV_check_path dc_check_path pm_check_path an_check_path cd_check_path ct_check_path), sl_check_path⟩) (e_check_path : PySem.W.codeIn K cd_check_path "check_path" = true) (k_check_path : PySem.W.keepIn K (.ref f_check_path) = true)
    {f_crossing_by : Addr} {oc_crossing_by kV_crossing_by dc_crossing_by pm_crossing_by cd_crossing_by ct_crossing_by : Value} {od_crossing_by an_crossing_by : Option Addr} {sl_crossing_by : Array (Option Value)}
    (a_crossing_by : PySem.W.nsIn K mainGlobals "crossing_by" = some (some (.ref f_crossing_by))) (l_crossing_by : K.lookup f_crossing_by = some ⟨oc_crossing_by, od_crossing_by, .func (PySem.W.fnOf "crossing_by" "crossing_by" (defArgs s_crossing_by) (defBody s_crossing_by) (defScope s_crossing_by) .none kV_crossing_by dc_crossing_by pm_crossing_by an_crossing_by cd_crossing_by ct_crossing_by), sl_crossing_by⟩) (e_crossing_by : PySem.W.codeIn K cd_crossing_by "crossing_by" = true) (k_crossing_by : PySem.W.keepIn K (.ref f_crossing_by) = true)
    {f_crossing : Addr} {oc_crossing kV_crossing dc_crossing pm_crossing cd_crossing ct_crossing : Value} {od_crossing an_crossing : Option Addr} {sl_crossing : Array (Option Value)}
    (a_crossing : PySem.W.nsIn K mainGlobals "crossing" = some (some (.ref f_crossing))) (l_crossing : K.lookup f_crossing = some ⟨oc_crossing, od_crossing, .func (PySem.W.fnOf "crossing" "crossing" (defArgs s_crossing) (defBody s_crossing) (defScope s_crossing) .none kV_crossing dc_crossing pm_crossing an_crossing cd_crossing ct_crossing), sl_crossing⟩) (e_crossing : PySem.W.codeIn K cd_crossing "crossing" = true) (k_crossing : PySem.W.keepIn K (.ref f_crossing) = true)
    {f_l_crossing_3f18 : Addr} {oc_l_crossing_3f18 kV_l_crossing_3f18 dc_l_crossing_3f18 pm_l_crossing_3f18 cd_l_crossing_3f18 ct_l_crossing_3f18 : Value} {od_l_crossing_3f18 an_l_crossing_3f18 : Option Addr} {sl_l_crossing_3f18 : Array (Option Value)}
    (a_l_crossing_3f18 : PySem.W.nsIn K mainGlobals "_law_crossing" = some (some (.ref f_l_crossing_3f18))) (l_l_crossing_3f18 : K.lookup f_l_crossing_3f18 = some ⟨oc_l_crossing_3f18, od_l_crossing_3f18, .func (PySem.W.fnOf "_law_crossing" "_law_crossing" (defArgs s_l_crossing_3f18) (defBody s_l_crossing_3f18) (defScope s_l_crossing_3f18) .none kV_l_crossing_3f18 dc_l_crossing_3f18 pm_l_crossing_3f18 an_l_crossing_3f18 cd_l_crossing_3f18 ct_l_crossing_3f18), sl_l_crossing_3f18⟩) (e_l_crossing_3f18 : PySem.W.codeIn K cd_l_crossing_3f18 "_law_crossing" = true) (k_l_crossing_3f18 : PySem.W.keepIn K (.ref f_l_crossing_3f18) = true)
    {f_l_sum_cfa2 : Addr} {oc_l_sum_cfa2 kV_l_sum_cfa2 dc_l_sum_cfa2 pm_l_sum_cfa2 cd_l_sum_cfa2 ct_l_sum_cfa2 : Value} {od_l_sum_cfa2 an_l_sum_cfa2 : Option Addr} {sl_l_sum_cfa2 : Array (Option Value)}
    (a_l_sum_cfa2 : PySem.W.nsIn K mainGlobals "_law_sum" = some (some (.ref f_l_sum_cfa2))) (l_l_sum_cfa2 : K.lookup f_l_sum_cfa2 = some ⟨oc_l_sum_cfa2, od_l_sum_cfa2, .func (PySem.W.fnOf "_law_sum" "_law_sum" (defArgs s_l_sum_cfa2) (defBody s_l_sum_cfa2) (defScope s_l_sum_cfa2) .none kV_l_sum_cfa2 dc_l_sum_cfa2 pm_l_sum_cfa2 an_l_sum_cfa2 cd_l_sum_cfa2 ct_l_sum_cfa2), sl_l_sum_cfa2⟩) (e_l_sum_cfa2 : PySem.W.codeIn K cd_l_sum_cfa2 "_law_sum" = true) (k_l_sum_cfa2 : PySem.W.keepIn K (.ref f_l_sum_cfa2) = true)
    {f_common_by : Addr} {oc_common_by kV_common_by dc_common_by pm_common_by cd_common_by ct_common_by : Value} {od_common_by an_common_by : Option Addr} {sl_common_by : Array (Option Value)}
    (a_common_by : PySem.W.nsIn K mainGlobals "common_by" = some (some (.ref f_common_by))) (l_common_by : K.lookup f_common_by = some ⟨oc_common_by, od_common_by, .func (PySem.W.fnOf "common_by" "common_by" (defArgs s_common_by) (defBody s_common_by) (defScope s_common_by) .none kV_common_by dc_common_by pm_common_by an_common_by cd_common_by ct_common_by), sl_common_by⟩) (e_common_by : PySem.W.codeIn K cd_common_by "common_by" = true) (k_common_by : PySem.W.keepIn K (.ref f_common_by) = true)
    {f_is_cutting_by : Addr} {oc_is_cutting_by kV_is_cutting_by dc_is_cutting_by pm_is_cutting_by cd_is_cutting_by ct_is_cutting_by : Value} {od_is_cutting_by an_is_cutting_by : Option Addr} {sl_is_cutting_by : Array (Option Value)}
    (a_is_cutting_by : PySem.W.nsIn K mainGlobals "is_cutting_by" = some (some (.ref f_is_cutting_by))) (l_is_cutting_by : K.lookup f_is_cutting_by = some ⟨oc_is_cutting_by, od_is_cutting_by, .func (PySem.W.fnOf "is_cutting_by" "is_cutting_by" (defArgs s_is_cutting_by) (defBody s_is_cutting_by) (defScope s_is_cutting_by) .none kV_is_cutting_by dc_is_cutting_by pm_is_cutting_by an_is_cutting_by cd_is_cutting_by ct_is_cutting_by), sl_is_cutting_by⟩) (e_is_cutting_by : PySem.W.codeIn K cd_is_cutting_by "is_cutting_by" = true) (k_is_cutting_by : PySem.W.keepIn K (.ref f_is_cutting_by) = true)
    {f_check_cutting : Addr} {oc_check_cutting kV_check_cutting dc_check_cutting pm_check_cutting cd_check_cutting ct_check_cutting : Value} {od_check_cutting an_check_cutting : Option Addr} {sl_check_cutting : Array (Option Value)}
    (a_check_cutting : PySem.W.nsIn K mainGlobals "check_cutting" = some (some (.ref f_check_cutting))) (l_check_cutting : K.lookup f_check_cutting = some ⟨oc_check_cutting, od_check_cutting, .func (PySem.W.fnOf "check_cutting" "check_cutting" (defArgs s_check_cutting) (defBody s_check_cutting) (defScope s_check_cutting) .none kV_check_cutting dc_check_cutting pm_check_cutting an_check_cutting cd_check_cutting ct_check_cutting), sl_check_cutting⟩) (e_check_cutting : PySem.W.codeIn K cd_check_cutting "check_cutting" = true) (k_check_cutting : PySem.W.keepIn K (.ref f_check_cutting) = true)
    {f_rooted_o : Addr} {oc_rooted_o kV_rooted_o dc_rooted_o pm_rooted_o cd_rooted_o ct_rooted_o : Value} {od_rooted_o an_rooted_o : Option Addr} {sl_rooted_o : Array (Option Value)}
    (a_rooted_o : PySem.W.nsIn K mainGlobals "rooted" = some (some (.ref f_rooted_o))) (l_rooted_o : K.lookup f_rooted_o = some ⟨oc_rooted_o, od_rooted_o, .func (PySem.W.fnOf "rooted" "rooted" (defArgs s_rooted_o) (defBody s_rooted_o) (defScope s_rooted_o) .none kV_rooted_o dc_rooted_o pm_rooted_o an_rooted_o cd_rooted_o ct_rooted_o), sl_rooted_o⟩) (e_rooted_o : PySem.W.codeIn K cd_rooted_o "rooted" = true) (k_rooted_o : PySem.W.keepIn K (.ref f_rooted_o) = true)
    {f_root_path : Addr} {oc_root_path kV_root_path dc_root_path pm_root_path cd_root_path ct_root_path : Value} {od_root_path an_root_path : Option Addr} {sl_root_path : Array (Option Value)}
    (a_root_path : PySem.W.nsIn K mainGlobals "root_path" = some (some (.ref f_root_path))) (l_root_path : K.lookup f_root_path = some ⟨oc_root_path, od_root_path, .func (PySem.W.fnOf "root_path" "root_path" (defArgs s_root_path) (defBody s_root_path) (defScope s_root_path) .none kV_root_path dc_root_path pm_root_path an_root_path cd_root_path ct_root_path), sl_root_path⟩) (e_root_path : PySem.W.codeIn K cd_root_path "root_path" = true) (k_root_path : PySem.W.keepIn K (.ref f_root_path) = true)
    {f_l_rooted_6254 : Addr} {oc_l_rooted_6254 kV_l_rooted_6254 dc_l_rooted_6254 pm_l_rooted_6254 cd_l_rooted_6254 ct_l_rooted_6254 : Value} {od_l_rooted_6254 an_l_rooted_6254 : Option Addr} {sl_l_rooted_6254 : Array (Option Value)}
    (a_l_rooted_6254 : PySem.W.nsIn K mainGlobals "_law_rooted" = some (some (.ref f_l_rooted_6254))) (l_l_rooted_6254 : K.lookup f_l_rooted_6254 = some ⟨oc_l_rooted_6254, od_l_rooted_6254, .func (PySem.W.fnOf "_law_rooted" "_law_rooted" (defArgs s_l_rooted_6254) (defBody s_l_rooted_6254) (defScope s_l_rooted_6254) .none kV_l_rooted_6254 dc_l_rooted_6254 pm_l_rooted_6254 an_l_rooted_6254 cd_l_rooted_6254 ct_l_rooted_6254), sl_l_rooted_6254⟩) (e_l_rooted_6254 : PySem.W.codeIn K cd_l_rooted_6254 "_law_rooted" = true) (k_l_rooted_6254 : PySem.W.keepIn K (.ref f_l_rooted_6254) = true)
    {f_l_right_dc29 : Addr} {oc_l_right_dc29 kV_l_right_dc29 dc_l_right_dc29 pm_l_right_dc29 cd_l_right_dc29 ct_l_right_dc29 : Value} {od_l_right_dc29 an_l_right_dc29 : Option Addr} {sl_l_right_dc29 : Array (Option Value)}
    (a_l_right_dc29 : PySem.W.nsIn K mainGlobals "_law_right" = some (some (.ref f_l_right_dc29))) (l_l_right_dc29 : K.lookup f_l_right_dc29 = some ⟨oc_l_right_dc29, od_l_right_dc29, .func (PySem.W.fnOf "_law_right" "_law_right" (defArgs s_l_right_dc29) (defBody s_l_right_dc29) (defScope s_l_right_dc29) .none kV_l_right_dc29 dc_l_right_dc29 pm_l_right_dc29 an_l_right_dc29 cd_l_right_dc29 ct_l_right_dc29), sl_l_right_dc29⟩) (e_l_right_dc29 : PySem.W.codeIn K cd_l_right_dc29 "_law_right" = true) (k_l_right_dc29 : PySem.W.keepIn K (.ref f_l_right_dc29) = true)
    {f_l_cell_cf3b : Addr} {oc_l_cell_cf3b kV_l_cell_cf3b dc_l_cell_cf3b pm_l_cell_cf3b cd_l_cell_cf3b ct_l_cell_cf3b : Value} {od_l_cell_cf3b an_l_cell_cf3b : Option Addr} {sl_l_cell_cf3b : Array (Option Value)}
    (a_l_cell_cf3b : PySem.W.nsIn K mainGlobals "_law_cell" = some (some (.ref f_l_cell_cf3b))) (l_l_cell_cf3b : K.lookup f_l_cell_cf3b = some ⟨oc_l_cell_cf3b, od_l_cell_cf3b, .func (PySem.W.fnOf "_law_cell" "_law_cell" (defArgs s_l_cell_cf3b) (defBody s_l_cell_cf3b) (defScope s_l_cell_cf3b) .none kV_l_cell_cf3b dc_l_cell_cf3b pm_l_cell_cf3b an_l_cell_cf3b cd_l_cell_cf3b ct_l_cell_cf3b), sl_l_cell_cf3b⟩) (e_l_cell_cf3b : PySem.W.codeIn K cd_l_cell_cf3b "_law_cell" = true) (k_l_cell_cf3b : PySem.W.keepIn K (.ref f_l_cell_cf3b) = true)
    {f_l_generator_b324 : Addr} {oc_l_generator_b324 kV_l_generator_b324 dc_l_generator_b324 pm_l_generator_b324 cd_l_generator_b324 ct_l_generator_b324 : Value} {od_l_generator_b324 an_l_generator_b324 : Option Addr} {sl_l_generator_b324 : Array (Option Value)}
    (a_l_generator_b324 : PySem.W.nsIn K mainGlobals "_law_generator" = some (some (.ref f_l_generator_b324))) (l_l_generator_b324 : K.lookup f_l_generator_b324 = some ⟨oc_l_generator_b324, od_l_generator_b324, .func (PySem.W.fnOf "_law_generator" "_law_generator" (defArgs s_l_generator_b324) (defBody s_l_generator_b324) (defScope s_l_generator_b324) .none kV_l_generator_b324 dc_l_generator_b324 pm_l_generator_b324 an_l_generator_b324 cd_l_generator_b324 ct_l_generator_b324), sl_l_generator_b324⟩) (e_l_generator_b324 : PySem.W.codeIn K cd_l_generator_b324 "_law_generator" = true) (k_l_generator_b324 : PySem.W.keepIn K (.ref f_l_generator_b324) = true)
    {f_l_law_540c : Addr} {oc_l_law_540c kV_l_law_540c dc_l_law_540c pm_l_law_540c cd_l_law_540c ct_l_law_540c : Value} {od_l_law_540c an_l_law_540c : Option Addr} {sl_l_law_540c : Array (Option Value)}
    (a_l_law_540c : PySem.W.nsIn K mainGlobals "law" = some (some (.ref f_l_law_540c))) (l_l_law_540c : K.lookup f_l_law_540c = some ⟨oc_l_law_540c, od_l_law_540c, .func (PySem.W.fnOf "law" "law" (defArgs s_l_law_540c) (defBody s_l_law_540c) (defScope s_l_law_540c) .none kV_l_law_540c dc_l_law_540c pm_l_law_540c an_l_law_540c cd_l_law_540c ct_l_law_540c), sl_l_law_540c⟩) (e_l_law_540c : PySem.W.codeIn K cd_l_law_540c "law" = true) (k_l_law_540c : PySem.W.keepIn K (.ref f_l_law_540c) = true)
    (base : Heap) (Xb : K.In base) : Txt K mg base where
  n_abs := PySem.W.mg_none_of X G n_abs
  n_bool := PySem.W.mg_none_of X G n_bool
  n_int := PySem.W.mg_none_of X G n_int
  n_isinstance := PySem.W.mg_none_of X G n_isinstance
  n_len := PySem.W.mg_none_of X G n_len
  n_list := PySem.W.mg_none_of X G n_list
  n_max := PySem.W.mg_none_of X G n_max
  n_range := PySem.W.mg_none_of X G n_range
  n_repr := PySem.W.mg_none_of X G n_repr
  n_sum := PySem.W.mg_none_of X G n_sum
  n_tuple := PySem.W.mg_none_of X G n_tuple
  n_zip := PySem.W.mg_none_of X G n_zip
  h_l_hash_d8d1 := here_of (st := s_l_hash_d8d1) X G a_l_hash_d8d1 l_l_hash_d8d1 e_l_hash_d8d1 k_l_hash_d8d1 fun _ _ _ _ _ _ us hl => match us, hl with | [_, _], _ => rfl
  h_l_random_7821 := here_of (st := s_l_random_7821) X G a_l_random_7821 l_l_random_7821 e_l_random_7821 k_l_random_7821 fun _ _ _ _ _ _ us hl => match us, hl with | [_, _], _ => rfl
  h_l_common_b8b4 := here_of (st := s_l_common_b8b4) X G a_l_common_b8b4 l_l_common_b8b4 e_l_common_b8b4 k_l_common_b8b4 fun _ _ _ _ _ _ us hl => match us, hl with | [_, _], _ => rfl
  h_l_is_cutting_19aa := here_of (st := s_l_is_cutting_19aa) X G a_l_is_cutting_19aa l_l_is_cutting_19aa e_l_is_cutting_19aa k_l_is_cutting_19aa fun _ _ _ _ _ _ us hl => match us, hl with | [_, _, _, _], _ => rfl
  h_l_cutting_f2c0 := here_of (st := s_l_cutting_f2c0) X G a_l_cutting_f2c0 l_l_cutting_f2c0 e_l_cutting_f2c0 k_l_cutting_f2c0 fun _ _ _ _ _ _ us hl => match us, hl with | [_, _], _ => rfl
  h_l_path_108b := here_of (st := s_l_path_108b) X G a_l_path_108b l_l_path_108b e_l_path_108b k_l_path_108b fun _ _ _ _ _ _ us hl => match us, hl with | [_], _ => rfl
  h_is_whole := here_of (st := s_is_whole) X G a_is_whole l_is_whole e_is_whole k_is_whole fun _ _ _ _ _ _ us hl => match us, hl with | [_], _ => rfl
  h_is_path_list := here_of (st := s_is_path_list) X G a_is_path_list l_is_path_list e_is_path_list k_is_path_list fun _ _ _ _ _ _ us hl => match us, hl with | [_], _ => rfl
  h_check_path := here_of (st := s_check_path) X G a_check_path l_check_path e_check_path k_check_path fun _ _ _ _ _ _ us hl => match us, hl with | [_], _ => rfl
  h_crossing_by := here_of (st := s_crossing_by) X G a_crossing_by l_crossing_by e_crossing_by k_crossing_by fun _ _ _ _ _ _ us hl => match us, hl with | [_, _], _ => rfl
  h_crossing := here_of (st := s_crossing) X G a_crossing l_crossing e_crossing k_crossing fun _ _ _ _ _ _ us hl => match us, hl with | [_, _], _ => rfl
  h_l_crossing_3f18 := here_of (st := s_l_crossing_3f18) X G a_l_crossing_3f18 l_l_crossing_3f18 e_l_crossing_3f18 k_l_crossing_3f18 fun _ _ _ _ _ _ us hl => match us, hl with | [_, _], _ => rfl
  h_l_sum_cfa2 := here_of (st := s_l_sum_cfa2) X G a_l_sum_cfa2 l_l_sum_cfa2 e_l_sum_cfa2 k_l_sum_cfa2 fun _ _ _ _ _ _ us hl => match us, hl with | [_, _, _], _ => rfl
  h_common_by := here_of (st := s_common_by) X G a_common_by l_common_by e_common_by k_common_by fun _ _ _ _ _ _ us hl => match us, hl with | [_, _], _ => rfl
  h_is_cutting_by := here_of (st := s_is_cutting_by) X G a_is_cutting_by l_is_cutting_by e_is_cutting_by k_is_cutting_by fun _ _ _ _ _ _ us hl => match us, hl with | [_], _ => rfl
  h_check_cutting := here_of (st := s_check_cutting) X G a_check_cutting l_check_cutting e_check_cutting k_check_cutting fun _ _ _ _ _ _ us hl => match us, hl with | [_], _ => rfl
  h_rooted_o := here_of (st := s_rooted_o) X G a_rooted_o l_rooted_o e_rooted_o k_rooted_o fun _ _ _ _ _ _ us hl => match us, hl with | [_, _], _ => rfl
  h_root_path := here_of (st := s_root_path) X G a_root_path l_root_path e_root_path k_root_path fun _ _ _ _ _ _ us hl => match us, hl with | [_, _], _ => rfl
  h_l_rooted_6254 := here_of (st := s_l_rooted_6254) X G a_l_rooted_6254 l_l_rooted_6254 e_l_rooted_6254 k_l_rooted_6254 fun _ _ _ _ _ _ us hl => match us, hl with | [_, _], _ => rfl
  h_l_right_dc29 := here_of (st := s_l_right_dc29) X G a_l_right_dc29 l_l_right_dc29 e_l_right_dc29 k_l_right_dc29 fun _ _ _ _ _ _ us hl => match us, hl with | [_], _ => rfl
  h_l_cell_cf3b := here_of (st := s_l_cell_cf3b) X G a_l_cell_cf3b l_l_cell_cf3b e_l_cell_cf3b k_l_cell_cf3b fun _ _ _ _ _ _ us hl => match us, hl with | [_, _], _ => rfl
  h_l_generator_b324 := here_of (st := s_l_generator_b324) X G a_l_generator_b324 l_l_generator_b324 e_l_generator_b324 k_l_generator_b324 fun _ _ _ _ _ _ us hl => match us, hl with | [_, _], _ => rfl
  h_l_law_540c := here_of (st := s_l_law_540c) X G a_l_law_540c l_l_law_540c e_l_law_540c k_l_law_540c fun _ _ _ _ _ _ us hl => match us, hl with | [_], _ => rfl
end C_k40
open PySem PySem.W PyProof.Rows
set_option maxHeartbeats 0 in
theorem PySem.Challenge.cw_slitsheets_k40_paths_and_their_crossings_holds : PySem.Challenge.rw_slitsheets_k40_paths_and_their_crossings.Holds := by
  w_on; o_law; k_head; (case hw => w_witness2)
  k_fill
  refine DL.walkD (l := PySem.Challenge.rw_slitsheets_k40_paths_and_their_crossings) (n := 63) (k := 6) (x := "_law_script") (st := C_k40.s_l_law_540c) rfl (by decide) rfl ⟨rfl, by decide, by decide⟩ (fun w h Y => PySem.W.kIn_of Y) ?F (fun _ _ _ _ _ _ _ => rfl)
  case F =>
    intro w mg h KX G base Xb Gb
    refine' C_k40.law_ok (C_k40.all_mk KX G ?n_abs ?n_bool ?n_int ?n_isinstance ?n_len ?n_list ?n_max ?n_range ?n_repr ?n_sum ?n_tuple ?n_zip ?a_l_hash_d8d1 ?l_l_hash_d8d1 ?e_l_hash_d8d1 ?k_l_hash_d8d1 ?a_l_random_7821 ?l_l_random_7821 ?e_l_random_7821 ?k_l_random_7821 ?a_l_common_b8b4 ?l_l_common_b8b4 ?e_l_common_b8b4 ?k_l_common_b8b4 ?a_l_is_cutting_19aa ?l_l_is_cutting_19aa ?e_l_is_cutting_19aa ?k_l_is_cutting_19aa ?a_l_cutting_f2c0 ?l_l_cutting_f2c0 ?e_l_cutting_f2c0 ?k_l_cutting_f2c0 ?a_l_path_108b ?l_l_path_108b ?e_l_path_108b ?k_l_path_108b ?a_is_whole ?l_is_whole ?e_is_whole ?k_is_whole ?a_is_path_list ?l_is_path_list ?e_is_path_list ?k_is_path_list ?a_check_path ?l_check_path ?e_check_path ?k_check_path ?a_crossing_by ?l_crossing_by ?e_crossing_by ?k_crossing_by ?a_crossing ?l_crossing ?e_crossing ?k_crossing ?a_l_crossing_3f18 ?l_l_crossing_3f18 ?e_l_crossing_3f18 ?k_l_crossing_3f18 ?a_l_sum_cfa2 ?l_l_sum_cfa2 ?e_l_sum_cfa2 ?k_l_sum_cfa2 ?a_common_by ?l_common_by ?e_common_by ?k_common_by ?a_is_cutting_by ?l_is_cutting_by ?e_is_cutting_by ?k_is_cutting_by ?a_check_cutting ?l_check_cutting ?e_check_cutting ?k_check_cutting ?a_rooted_o ?l_rooted_o ?e_rooted_o ?k_rooted_o ?a_root_path ?l_root_path ?e_root_path ?k_root_path ?a_l_rooted_6254 ?l_l_rooted_6254 ?e_l_rooted_6254 ?k_l_rooted_6254 ?a_l_right_dc29 ?l_l_right_dc29 ?e_l_right_dc29 ?k_l_right_dc29 ?a_l_cell_cf3b ?l_l_cell_cf3b ?e_l_cell_cf3b ?k_l_cell_cf3b ?a_l_generator_b324 ?l_l_generator_b324 ?e_l_generator_b324 ?k_l_generator_b324 ?a_l_law_540c ?l_l_law_540c ?e_l_law_540c ?k_l_law_540c base Xb)
    (case n_abs => k_is)
    (case n_bool => k_is)
    (case n_int => k_is)
    (case n_isinstance => k_is)
    (case n_len => k_is)
    (case n_list => k_is)
    (case n_max => k_is)
    (case n_range => k_is)
    (case n_repr => k_is)
    (case n_sum => k_is)
    (case n_tuple => k_is)
    (case n_zip => k_is)
    (case a_l_hash_d8d1 => k_is)
    (case l_l_hash_d8d1 => k_is)
    (case e_l_hash_d8d1 => k_is)
    (case k_l_hash_d8d1 => k_is)
    (case a_l_random_7821 => k_is)
    (case l_l_random_7821 => k_is)
    (case e_l_random_7821 => k_is)
    (case k_l_random_7821 => k_is)
    (case a_l_common_b8b4 => k_is)
    (case l_l_common_b8b4 => k_is)
    (case e_l_common_b8b4 => k_is)
    (case k_l_common_b8b4 => k_is)
    (case a_l_is_cutting_19aa => k_is)
    (case l_l_is_cutting_19aa => k_is)
    (case e_l_is_cutting_19aa => k_is)
    (case k_l_is_cutting_19aa => k_is)
    (case a_l_cutting_f2c0 => k_is)
    (case l_l_cutting_f2c0 => k_is)
    (case e_l_cutting_f2c0 => k_is)
    (case k_l_cutting_f2c0 => k_is)
    (case a_l_path_108b => k_is)
    (case l_l_path_108b => k_is)
    (case e_l_path_108b => k_is)
    (case k_l_path_108b => k_is)
    (case a_is_whole => k_is)
    (case l_is_whole => k_is)
    (case e_is_whole => k_is)
    (case k_is_whole => k_is)
    (case a_is_path_list => k_is)
    (case l_is_path_list => k_is)
    (case e_is_path_list => k_is)
    (case k_is_path_list => k_is)
    (case a_check_path => k_is)
    (case l_check_path => k_is)
    (case e_check_path => k_is)
    (case k_check_path => k_is)
    (case a_crossing_by => k_is)
    (case l_crossing_by => k_is)
    (case e_crossing_by => k_is)
    (case k_crossing_by => k_is)
    (case a_crossing => k_is)
    (case l_crossing => k_is)
    (case e_crossing => k_is)
    (case k_crossing => k_is)
    (case a_l_crossing_3f18 => k_is)
    (case l_l_crossing_3f18 => k_is)
    (case e_l_crossing_3f18 => k_is)
    (case k_l_crossing_3f18 => k_is)
    (case a_l_sum_cfa2 => k_is)
    (case l_l_sum_cfa2 => k_is)
    (case e_l_sum_cfa2 => k_is)
    (case k_l_sum_cfa2 => k_is)
    (case a_common_by => k_is)
    (case l_common_by => k_is)
    (case e_common_by => k_is)
    (case k_common_by => k_is)
    (case a_is_cutting_by => k_is)
    (case l_is_cutting_by => k_is)
    (case e_is_cutting_by => k_is)
    (case k_is_cutting_by => k_is)
    (case a_check_cutting => k_is)
    (case l_check_cutting => k_is)
    (case e_check_cutting => k_is)
    (case k_check_cutting => k_is)
    (case a_rooted_o => k_is)
    (case l_rooted_o => k_is)
    (case e_rooted_o => k_is)
    (case k_rooted_o => k_is)
    (case a_root_path => k_is)
    (case l_root_path => k_is)
    (case e_root_path => k_is)
    (case k_root_path => k_is)
    (case a_l_rooted_6254 => k_is)
    (case l_l_rooted_6254 => k_is)
    (case e_l_rooted_6254 => k_is)
    (case k_l_rooted_6254 => k_is)
    (case a_l_right_dc29 => k_is)
    (case l_l_right_dc29 => k_is)
    (case e_l_right_dc29 => k_is)
    (case k_l_right_dc29 => k_is)
    (case a_l_cell_cf3b => k_is)
    (case l_l_cell_cf3b => k_is)
    (case e_l_cell_cf3b => k_is)
    (case k_l_cell_cf3b => k_is)
    (case a_l_generator_b324 => k_is)
    (case l_l_generator_b324 => k_is)
    (case e_l_generator_b324 => k_is)
    (case k_l_generator_b324 => k_is)
    (case a_l_law_540c => k_is)
    (case l_l_law_540c => k_is)
    (case e_l_law_540c => k_is)
    (case k_l_law_540c => k_is)
