import PyProof.Rows.All
import Wide.All
import OpenK.AllK
import Wide.FinOn
import HandS.ForMost
import HandS.ForExc
import HandS.CallSlots
import HandS.Wide
import HandS.EndBits
import HandS.IsInst
import HandS.Flow
import PySem.Challenge.RW_leastlooks_k60_fractions
section
set_option Elab.async false
set_option linter.all false
set_option maxRecDepth 100000
/-! DLa: plain data D, how the abstract heap bears it, slots, states. -/
namespace DL
open PySem PySem.Spec PyProof.Rows L2

inductive D where
  | non | bl (b : Bool) | int (i : Int) | str (x : Str)
  | lst (xs : List D) | tup (xs : List D) | dct (kvs : List (D × D)) | ins (c : Str) (fs : List (Str × D))
  | ty (n : String) | cls (c : Str) | scr (ns : List Int)
  deriving Inhabited

structure Gx where
  K : PySem.W.Frag
  mg : Str → Option Value

def keyD : Key → D
  | .inl i => .int i
  | .inr x => .str x

mutual
inductive Rep (G : Gx) (S : Hp) : V → D → Prop
  | non : Rep G S .non .non
  | bl (b : Bool) : Rep G S (.bl b) (.bl b)
  | int (i : Int) : Rep G S (.int i) (.int i)
  | str (x : Str) : Rep G S (.str x) (.str x)
  | ty (n : String) : Rep G S (.ty n) (.ty n)
  | cls {c : Str} {C : Addr} : G.mg c = some (.ref C) → Rep G S (.ref C) (.cls c)
  | lst {a : Addr} {xs : List V} {ds : List D} : S a = some (.lst xs) → RepAll G S xs ds → Rep G S (.ref a) (.lst ds)
  | scr {a : Addr} {ns : List Int} : SqL G.K S a (ns.map V.int) → Rep G S (.ref a) (.scr ns)
  | tup {a : Addr} {xs : List V} {ds : List D} : S a = some (.tup xs) → RepAll G S xs ds → Rep G S (.ref a) (.tup ds)
  | tupK {a : Addr} {xs : List V} {ds : List D} {o : Obj} {its : Array Value} {n : Nat} : G.K.lookup a = some o → o.cls = .type "tuple" → o.data = .seq its n → its.size ≤ sizeLine → Vals xs its.toList → RepAll G S xs ds → Rep G S (.ref a) (.tup ds)
  | dK {a : Addr} {kvs : List (Key × V)} {ds : List (D × D)} : S a = some (.dK kvs) → RepKV G S kvs ds → Rep G S (.ref a) (.dct ds)
  | dT {a : Addr} {kvs : List (List Key × V)} {ds : List (D × D)} : S a = some (.dT kvs) → RepKT G S kvs ds → Rep G S (.ref a) (.dct ds)
  | ins {a C dx : Addr} {c : Str} {fs : List (Str × V)} {gs : List (Str × D)} : G.mg c = some (.ref C) → S a = some (.ins C dx fs) → RepF G S fs gs → Rep G S (.ref a) (.ins c gs)
inductive RepAll (G : Gx) (S : Hp) : List V → List D → Prop
  | nil : RepAll G S [] []
  | cons {v : V} {vs : List V} {d : D} {ds : List D} : Rep G S v d → RepAll G S vs ds → RepAll G S (v :: vs) (d :: ds)
inductive RepKV (G : Gx) (S : Hp) : List (Key × V) → List (D × D) → Prop
  | nil : RepKV G S [] []
  | cons {k : Key} {v : V} {vs : List (Key × V)} {d : D} {ds : List (D × D)} : Rep G S v d → RepKV G S vs ds → RepKV G S ((k, v) :: vs) ((keyD k, d) :: ds)
inductive RepKT (G : Gx) (S : Hp) : List (List Key × V) → List (D × D) → Prop
  | nil : RepKT G S [] []
  | cons {k : List Key} {v : V} {vs : List (List Key × V)} {d : D} {ds : List (D × D)} : Rep G S v d → RepKT G S vs ds → RepKT G S ((k, v) :: vs) ((.tup (k.map keyD), d) :: ds)
inductive RepF (G : Gx) (S : Hp) : List (Str × V) → List (Str × D) → Prop
  | nil : RepF G S [] []
  | cons {f : Str} {v : V} {vs : List (Str × V)} {d : D} {ds : List (Str × D)} : Rep G S v d → RepF G S vs ds → RepF G S ((f, v) :: vs) ((f, d) :: ds)
end

theorem Rd.mono {S S' : Hp} {a : Addr} {u : HO} (e : Same S S') (h : Rd S a u) : Rd S' a u := by
  rcases h with h | ⟨o, h⟩
  · exact .inl (e _ _ h)
  · exact .inr ⟨o, e _ _ h⟩
theorem seqT_mono {K : PySem.W.Frag} {H H' : Hp} {a : Addr} {xs : List V} (e : Same H H') (h : SqT K H a xs) : SqT K H' a xs := by
  rcases h with (h | ⟨o, h⟩) | h
  · exact .inl (.inl (e _ _ h))
  · exact .inl (.inr ⟨o, e _ _ h⟩)
  · exact .inr h
section
variable {G : Gx} {S S' : Hp}
mutual
theorem Rep.mono (e : Same S S') : ∀ {v : V} {d : D}, Rep G S v d → Rep G S' v d
  | _, _, .non => .non
  | _, _, .bl b => .bl b
  | _, _, .int i => .int i
  | _, _, .str x => .str x
  | _, _, .ty n => .ty n
  | _, _, .cls m => .cls m
  | _, _, .lst h r => .lst (e _ _ h) (RepAll.mono e r)
  | _, _, .scr h => .scr (e.seq h)
  | _, _, .tup h r => .tup (e _ _ h) (RepAll.mono e r)
  | _, _, .tupK h1 h2 h3 h4 h5 r => .tupK h1 h2 h3 h4 h5 (RepAll.mono e r)
  | _, _, .dK h r => .dK (e _ _ h) (RepKV.mono e r)
  | _, _, .dT h r => .dT (e _ _ h) (RepKT.mono e r)
  | _, _, .ins m h r => .ins m (e _ _ h) (RepF.mono e r)
theorem RepAll.mono (e : Same S S') : ∀ {vs : List V} {ds : List D}, RepAll G S vs ds → RepAll G S' vs ds
  | _, _, .nil => .nil
  | _, _, .cons h t => .cons (Rep.mono e h) (RepAll.mono e t)
theorem RepKV.mono (e : Same S S') : ∀ {vs : List (Key × V)} {ds : List (D × D)}, RepKV G S vs ds → RepKV G S' vs ds
  | _, _, .nil => .nil
  | _, _, .cons h t => .cons (Rep.mono e h) (RepKV.mono e t)
theorem RepKT.mono (e : Same S S') : ∀ {vs : List (List Key × V)} {ds : List (D × D)}, RepKT G S vs ds → RepKT G S' vs ds
  | _, _, .nil => .nil
  | _, _, .cons h t => .cons (Rep.mono e h) (RepKT.mono e t)
theorem RepF.mono (e : Same S S') : ∀ {vs : List (Str × V)} {ds : List (Str × D)}, RepF G S vs ds → RepF G S' vs ds
  | _, _, .nil => .nil
  | _, _, .cons h t => .cons (Rep.mono e h) (RepF.mono e t)
end
end

/-- the top of an object that may be changed, its content shared -/
inductive Top (G : Gx) (S : Hp) : HO → D → Prop
  | lst {xs : List V} {ds : List D} : RepAll G S xs ds → Top G S (.lst xs) (.lst ds)
  | dK {kvs : List (Key × V)} {ds : List (D × D)} : RepKV G S kvs ds → Top G S (.dK kvs) (.dct ds)
  | dT {kvs : List (List Key × V)} {ds : List (D × D)} : RepKT G S kvs ds → Top G S (.dT kvs) (.dct ds)
  | ins {C dx : Addr} {fs : List (Str × V)} {c : Str} {gs : List (Str × D)} : G.mg c = some (.ref C) → RepF G S fs gs → Top G S (.ins C dx fs) (.ins c gs)
theorem Top.mono {G : Gx} {S S' : Hp} (e : Same S S') {o : HO} {d : D} (h : Top G S o d) : Top G S' o d := by
  cases h with
  | lst h => exact .lst (RepAll.mono e h)
  | dK h => exact .dK (RepKV.mono e h)
  | dT h => exact .dT (RepKT.mono e h)
  | ins m h => exact .ins m (RepF.mono e h)
theorem Top.rep {G : Gx} {S : Hp} {a : Addr} {o : HO} {d : D} (h : Top G S o d) (e : S a = some o) : Rep G S (.ref a) d := by
  cases h with
  | lst h => exact .lst e h
  | dK h => exact .dK e h
  | dT h => exact .dT e h
  | ins m h => exact .ins m e h

/-- a dict may be locked while it is walked -/
def isDct : HO → Bool
  | .dK _ => true
  | _ => false
def Le (S H : Hp) : Prop := ∀ a u, S a = some u → H a = some u ∨ (isDct u = true ∧ ∃ o, H a = some (.frz o u))
theorem Le.of {S H : Hp} (h : Same S H) : Le S H := fun a u e => .inl (h a u e)
theorem Le.rd {S H : Hp} (h : Le S H) {a : Addr} {u : HO} (r : Rd S a u) : Rd H a u := by
  rcases r with r | ⟨o, r⟩
  · rcases h _ _ r with q | ⟨_, o, q⟩
    · exact .inl q
    · exact .inr ⟨o, q⟩
  · rcases h _ _ r with q | ⟨z, _⟩
    · exact .inr ⟨o, q⟩
    · cases z
theorem Le.lst {S H : Hp} (h : Le S H) {a : Addr} {xs : List V} (r : S a = some (.lst xs)) : H a = some (.lst xs) := by
  rcases h _ _ r with q | ⟨z, _⟩
  · exact q
  · cases z
theorem Le.seq {S H : Hp} (h : Le S H) {K : PySem.W.Frag} {a : Addr} {xs : List V} (r : SqL K S a xs) : SqL K H a xs := by
  rcases r with r | r
  · exact .inl (h.rd r)
  · exact .inr r
theorem Le.seqT {S H : Hp} (h : Le S H) {K : PySem.W.Frag} {a : Addr} {xs : List V} (r : SqT K S a xs) : SqT K H a xs := by
  rcases r with r | r
  · exact .inl (h.rd r)
  · exact .inr r

inductive Slot where
  | no | sh (d : D) | ow (d : D) | io (d : D)
abbrev DS := List Slot
inductive Val where
  | d (x : D) | fr (x : D) | sl (i : Nat)
/-- slot i holds a thing of one's own (io: one that was handed in to be changed) -/
def Owns (st : DS) (i : Nat) (d : D) : Prop := st[i]? = some (.ow d) ∨ st[i]? = some (.io d)
abbrev Pin := Nat → Option Addr

structure StR (G : Gx) (P : Pin) (R S H : Hp) (σ : L2.St) (st : DS) : Prop where
  len : st.length = σ.length
  sub : Le S H
  val : ∀ (i : Nat) (d : D), st[i]? = some (.sh d) → ∃ v, σ[i]? = some (some v) ∧ Rep G S v d
  own : ∀ (i : Nat) (d : D), Owns st i d → ∃ a o, σ[i]? = some (some (.ref a)) ∧ H a = some o ∧ Top G S o d ∧ S a = none ∧ R a = none
  inj : ∀ (i j : Nat) (d e : D) (a : Addr), Owns st i d → Owns st j e → σ[i]? = some (some (.ref a)) → σ[j]? = some (some (.ref a)) → i = j
  pin : ∀ (i : Nat) (d : D), st[i]? = some (.io d) → ∃ a, P i = some a ∧ σ[i]? = some (some (.ref a))
  frm : ∀ a o, R a = some o → H a = some o ∧ S a = none

/-- no slot owns what stands at a -/
def Loose (σ : L2.St) (st : DS) (a : Addr) : Prop := ∀ (i : Nat) (d : D), Owns st i d → σ[i]? ≠ some (some (.ref a))
def Fresh (G : Gx) (R S H : Hp) (σ : L2.St) (st : DS) (v : V) (x : D) : Prop := ∃ a o, v = .ref a ∧ H a = some o ∧ Top G S o x ∧ S a = none ∧ R a = none ∧ Loose σ st a
def RepV (G : Gx) (R S H : Hp) (σ : L2.St) (st : DS) (v : V) : Val → Prop
  | .d x => Rep G S v x
  | .fr x => Fresh G R S H σ st v x
  | .sl i => σ[i]? = some (some v)
/-- an operand that waits: shared, or a slot -/
def Pv (G : Gx) (S : Hp) (σ : L2.St) (v : V) : Val → Prop
  | .d x => Rep G S v x
  | .fr x => Rep G S v x
  | .sl i => σ[i]? = some (some v)
theorem Pv.mono {G : Gx} {S S' : Hp} {σ : L2.St} {v : V} (e : Same S S') : ∀ {a : Val}, Pv G S σ v a → Pv G S' σ v a
  | .d _, h => Rep.mono e h
  | .fr _, h => Rep.mono e h
  | .sl _, h => h

theorem same_upd {S : Hp} {a : Addr} {o : HO} (h : S a = none) : Same S (upd S a o) := fun b u e => by
  rw [upd_ne (ne_of_none e h)]; exact e
theorem upd_none {S : Hp} {a b : Addr} {o : HO} (h : b ≠ a) (n : S b = none) : upd S a o b = none := by rw [upd_ne h]; exact n

theorem owns_set_sh {st : DS} {i j : Nat} {x d : D} : Owns (st.set i (.sh x)) j d → Owns st j d ∧ j ≠ i := fun h => by
  by_cases hj : i = j
  · subst hj
    by_cases hi : i < st.length
    · rcases h with h | h <;> (rw [List.getElem?_set_self hi] at h; cases h)
    · have e : (st.set i (.sh x))[i]? = none := List.getElem?_eq_none (by rw [List.length_set]; omega)
      rcases h with h | h <;> (rw [e] at h; cases h)
  · unfold Owns at h
    rw [List.getElem?_set_ne hj] at h
    exact ⟨h, fun z => hj z.symm⟩

section
variable {G : Gx} {P : Pin} {R S H : Hp} {σ : L2.St} {st : DS}
/-- what is shared may grow by a thing that nobody owns -/
theorem StR.more (h : StR G P R S H σ st) {a : Addr} {o : HO} (ha : H a = some o) (sa : S a = none) (ra : R a = none) (lo : Loose σ st a) : StR G P R (upd S a o) H σ st := by
  have e : Same S (upd S a o) := same_upd sa
  refine ⟨h.len, fun b u q => ?_, fun i d q => ?_, fun i d q => ?_, h.inj, h.pin, fun b u q => ?_⟩
  · by_cases hb : b = a
    · subst hb; rw [upd_same] at q; cases q; exact .inl ha
    · rw [upd_ne hb] at q; exact h.sub b u q
  · obtain ⟨v, q1, q2⟩ := h.val i d q
    exact ⟨v, q1, q2.mono e⟩
  · obtain ⟨b, u, q1, q2, q3, q4, q5⟩ := h.own i d q
    refine ⟨b, u, q1, q2, q3.mono e, upd_none (fun z => ?_) q4, q5⟩
    subst z
    exact lo i d q q1
  · obtain ⟨q1, q2⟩ := h.frm b u q
    refine ⟨q1, upd_none (fun z => ?_) q2⟩
    subst z
    rw [q] at ra; cases ra
/-- a fresh thing is shared -/
theorem StR.share (h : StR G P R S H σ st) {v : V} {x : D} (f : Fresh G R S H σ st v x) : ∃ S', Same S S' ∧ StR G P R S' H σ st ∧ Rep G S' v x := by
  obtain ⟨a, o, rfl, ha, t, sa, ra, lo⟩ := f
  exact ⟨upd S a o, same_upd sa, h.more ha sa ra lo, (t.mono (same_upd sa)).rep upd_same⟩
/-- an operand is made to wait -/
theorem StR.settle (h : StR G P R S H σ st) {v : V} {a : Val} (r : RepV G R S H σ st v a) : ∃ S', Same S S' ∧ StR G P R S' H σ st ∧ Pv G S' σ v a := by
  cases a with
  | d x => exact ⟨S, Same.refl S, h, r⟩
  | fr x => exact h.share r
  | sl i => exact ⟨S, Same.refl S, h, r⟩
/-- a slot's own thing is shared -/
theorem StR.freeze (h : StR G P R S H σ st) {i : Nat} {x : D} (e : st[i]? = some (.ow x)) : ∃ S' v, Same S S' ∧ StR G P R S' H σ (st.set i (.sh x)) ∧ σ[i]? = some (some v) ∧ Rep G S' v x := by
  obtain ⟨a, o, hv, ha, t, sa, ra⟩ := h.own i x (.inl e)
  have es : Same S (upd S a o) := same_upd sa
  have rp : Rep G (upd S a o) (.ref a) x := (t.mono es).rep upd_same
  have hi : i < st.length := (List.getElem?_eq_some_iff.mp e).1
  refine ⟨upd S a o, .ref a, es, ⟨by rw [List.length_set]; exact h.len, fun b u q => ?_, fun j d q => ?_, fun j d q => ?_, fun j k d e' b q1 q2 q3 q4 => ?_, fun j d q => ?_, fun b u q => ?_⟩, hv, rp⟩
  · by_cases hb : b = a
    · subst hb; rw [upd_same] at q; cases q; exact .inl ha
    · rw [upd_ne hb] at q; exact h.sub b u q
  · by_cases hj : i = j
    · subst hj
      rw [List.getElem?_set_self hi] at q
      cases q
      exact ⟨_, hv, rp⟩
    · rw [List.getElem?_set_ne hj] at q
      obtain ⟨v, q1, q2⟩ := h.val j d q
      exact ⟨v, q1, q2.mono es⟩
  · obtain ⟨q', hj⟩ := owns_set_sh q
    obtain ⟨b, u, q1, q2, q3, q4, q5⟩ := h.own j d q'
    refine ⟨b, u, q1, q2, q3.mono es, upd_none (fun z => ?_) q4, q5⟩
    subst z
    exact hj (h.inj j i _ _ _ q' (.inl e) q1 hv)
  · exact h.inj j k d e' b (owns_set_sh q1).1 (owns_set_sh q2).1 q3 q4
  · have hj : i ≠ j := fun z => by
      subst z
      rw [List.getElem?_set_self hi] at q
      cases q
    rw [List.getElem?_set_ne hj] at q
    exact h.pin j d q
  · obtain ⟨q1, q2⟩ := h.frm b u q
    refine ⟨q1, upd_none (fun z => ?_) q2⟩
    subst z
    rw [q] at ra; cases ra
/-- what is new is nowhere -/
theorem StR.new (h : StR G P R S H σ st) {p : Addr} (hp : H p = none) : S p = none ∧ R p = none ∧ Loose σ st p := by
  refine ⟨?_, ?_, fun i d q z => ?_⟩
  · cases e : S p with
    | none => rfl
    | some o =>
      rcases h.sub p o e with q | ⟨_, _, q⟩ <;> (rw [hp] at q; cases q)
  · cases e : R p with
    | none => rfl
    | some o =>
      have q := (h.frm p o e).1
      rw [hp] at q; cases q
  · obtain ⟨b, u, q1, q2, _⟩ := h.own i d q
    rw [z] at q1; cases q1
    rw [hp] at q2; cases q2
theorem Le.grow {S H : Hp} {p : Addr} {o : HO} (h : Le S H) (hp : H p = none) : Le S (upd H p o) := fun a u e => by
  have na : a ≠ p := fun z => by
    subst z
    rcases h a u e with q | ⟨_, _, q⟩ <;> (rw [hp] at q; cases q)
  rw [upd_ne na]
  exact h a u e
theorem StR.grow (h : StR G P R S H σ st) {p : Addr} {o : HO} (hp : H p = none) : StR G P R S (upd H p o) σ st := by
  refine ⟨h.len, h.sub.grow hp, h.val, fun i d q => ?_, h.inj, h.pin, fun b u q => ?_⟩
  · obtain ⟨b, u, q1, q2, q3⟩ := h.own i d q
    exact ⟨b, u, q1, by rw [upd_ne (ne_of_none q2 hp)]; exact q2, q3⟩
  · obtain ⟨q1, q2⟩ := h.frm b u q
    exact ⟨by rw [upd_ne (ne_of_none q1 hp)]; exact q1, q2⟩
/-- a new thing, nobody's yet -/
theorem StR.alloc (h : StR G P R S H σ st) {p : Addr} {o : HO} {x : D} (hp : H p = none) (t : Top G S o x) : StR G P R S (upd H p o) σ st ∧ Fresh G R S (upd H p o) σ st (.ref p) x :=
  ⟨h.grow hp, p, o, rfl, upd_same, t, (h.new hp).1, (h.new hp).2.1, (h.new hp).2.2⟩
/-- a new tuple -/
theorem StR.allocT (h : StR G P R S H σ st) {p : Addr} {xs : List V} {ds : List D} (hp : H p = none) (t : RepAll G S xs ds) :
    Same S (upd S p (.tup xs)) ∧ StR G P R (upd S p (.tup xs)) (upd H p (.tup xs)) σ st ∧ Rep G (upd S p (.tup xs)) (.ref p) (.tup ds) := by
  obtain ⟨sp, rp, lp⟩ := h.new hp
  exact ⟨same_upd sp, (h.grow hp).more upd_same sp rp lp, .tup upd_same (t.mono (same_upd sp))⟩
end

/-- what an operand is worth where it is used -/
def look (st : DS) : Val → Option D
  | .d x => some x
  | .fr x => some x
  | .sl i => match st[i]? with
    | some (.sh x) => some x
    | some (.ow x) => some x
    | some (.io x) => some x
    | _ => none
/-- readable at the top: shared, or of one's own -/
def RepT (G : Gx) (S H : Hp) (v : V) (x : D) : Prop := Rep G S v x ∨ ∃ a o, v = .ref a ∧ H a = some o ∧ Top G S o x
theorem Pv.look {G : Gx} {P : Pin} {R S H : Hp} {σ : L2.St} {st : DS} {v : V} {a : Val} {x : D} (h : StR G P R S H σ st) (r : Pv G S σ v a) (e : look st a = some x) : RepT G S H v x := by
  cases a with
  | d y => cases e; exact .inl r
  | fr y => cases e; exact .inl r
  | sl i =>
    have q1 : σ[i]? = some (some v) := r
    have o1 : ∀ {y : D}, Owns st i y → RepT G S H v y := fun {y} q2 => by
      obtain ⟨a, o, z1, z2, z3, _⟩ := h.own i _ q2
      rw [q1] at z1; cases z1
      exact .inr ⟨a, o, rfl, z2, z3⟩
    cases q2 : st[i]? with
    | none => simp [DL.look, q2] at e
    | some s =>
      simp only [DL.look, q2] at e
      cases s with
      | no => cases e
      | sh y =>
        cases e
        obtain ⟨v', z1, z2⟩ := h.val i _ q2
        rw [q1] at z1; cases z1
        exact .inl z2
      | ow y => cases e; exact o1 (.inl q2)
      | io y => cases e; exact o1 (.inr q2)
section
variable {G : Gx} {S H : Hp} {v : V}
theorem RepT.non (h : RepT G S H v .non) : v = .non := by
  rcases h with h | ⟨a, o, _, _, t⟩
  · cases h; rfl
  · cases t
theorem RepT.bl {b : Bool} (h : RepT G S H v (.bl b)) : v = .bl b := by
  rcases h with h | ⟨a, o, _, _, t⟩
  · cases h; rfl
  · cases t
theorem RepT.int {i : Int} (h : RepT G S H v (.int i)) : v = .int i := by
  rcases h with h | ⟨a, o, _, _, t⟩
  · cases h; rfl
  · cases t
theorem RepT.str {x : Str} (h : RepT G S H v (.str x)) : v = .str x := by
  rcases h with h | ⟨a, o, _, _, t⟩
  · cases h; rfl
  · cases t
theorem RepT.ty {n : String} (h : RepT G S H v (.ty n)) : v = .ty n := by
  rcases h with h | ⟨a, o, _, _, t⟩
  · cases h; rfl
  · cases t
theorem RepT.cls {c : Str} (h : RepT G S H v (.cls c)) : ∃ C, v = .ref C ∧ G.mg c = some (.ref C) := by
  rcases h with h | ⟨a, o, _, _, t⟩
  · cases h with
    | cls m => exact ⟨_, rfl, m⟩
  · cases t
theorem RepT.lst {ds : List D} (l : Le S H) (h : RepT G S H v (.lst ds)) : ∃ a xs, v = .ref a ∧ H a = some (.lst xs) ∧ RepAll G S xs ds := by
  rcases h with h | ⟨a, o, q1, q2, t⟩
  · cases h with
    | lst h r => exact ⟨_, _, rfl, l.lst h, r⟩
  · cases t with
    | lst t => exact ⟨a, _, q1, q2, t⟩
theorem RepT.scr {ns : List Int} (l : Le S H) (h : RepT G S H v (.scr ns)) : ∃ a, v = .ref a ∧ SqL G.K H a (ns.map V.int) := by
  rcases h with h | ⟨a, o, q1, q2, t⟩
  · cases h with
    | scr h => exact ⟨_, rfl, l.seq h⟩
  · cases t
/-- a tuple that was made, or one of the module's own -/
def TupAt (K : PySem.W.Frag) (H : Hp) (a : Addr) (xs : List V) : Prop := H a = some (.tup xs) ∨ ∃ (o : Obj) (its : Array Value) (n : Nat), K.lookup a = some o ∧ o.cls = .type "tuple" ∧ o.data = .seq its n ∧ its.size ≤ sizeLine ∧ Vals xs its.toList
theorem TupAt.sq {K : PySem.W.Frag} {H : Hp} {a : Addr} {xs : List V} (h : TupAt K H a xs) : SqT K H a xs := by
  rcases h with h | h
  · exact .inl (.inl h)
  · exact .inr h
theorem Rep.tupAt {ds : List D} (h : Rep G S v (.tup ds)) : ∃ a xs, v = .ref a ∧ TupAt G.K S a xs ∧ RepAll G S xs ds := by
  cases h with
  | tup h r => exact ⟨_, _, rfl, .inl h, r⟩
  | tupK h1 h2 h3 h4 h5 r => exact ⟨_, _, rfl, .inr ⟨_, _, _, h1, h2, h3, h4, h5⟩, r⟩
theorem Le.tupAt {K : PySem.W.Frag} {a : Addr} {xs : List V} (l : Le S H) (h : TupAt K S a xs) : TupAt K H a xs := by
  rcases h with h | h
  · rcases l _ _ h with q | ⟨z, _⟩
    · exact .inl q
    · cases z
  · exact .inr h
theorem RepT.tup {ds : List D} (l : Le S H) (h : RepT G S H v (.tup ds)) : ∃ a xs, v = .ref a ∧ TupAt G.K H a xs ∧ RepAll G S xs ds := by
  rcases h with h | ⟨a, o, q1, q2, t⟩
  · obtain ⟨a, xs, q1, q2, q3⟩ := h.tupAt
    exact ⟨a, xs, q1, l.tupAt q2, q3⟩
  · cases t
end
theorem RepAll.length {G : Gx} {S : Hp} : ∀ {vs : List V} {ds : List D}, RepAll G S vs ds → vs.length = ds.length
  | _, _, .nil => rfl
  | _, _, .cons _ t => by rw [List.length_cons, List.length_cons, RepAll.length t]
theorem RepAll.get {G : Gx} {S : Hp} : ∀ {vs : List V} {ds : List D} {i : Nat} {d : D}, RepAll G S vs ds → ds[i]? = some d → ∃ v, vs[i]? = some v ∧ Rep G S v d
  | _, _, _, _, .nil, e => by simp at e
  | _, _, 0, _, .cons r _, e => by simp at e; subst e; exact ⟨_, rfl, r⟩
  | _, _, i + 1, d, .cons _ t, e => by
    obtain ⟨v, h1, h2⟩ := RepAll.get (i := i) (d := d) t (by simpa using e)
    exact ⟨v, by simpa using h1, h2⟩
theorem RepAll.append {G : Gx} {S : Hp} : ∀ {xs ys : List V} {ds es : List D}, RepAll G S xs ds → RepAll G S ys es → RepAll G S (xs ++ ys) (ds ++ es)
  | _, _, _, _, .nil, s => s
  | _, _, _, _, .cons r t, s => .cons r (RepAll.append t s)
theorem RepAll.take {G : Gx} {S : Hp} : ∀ {xs : List V} {ds : List D} (n : Nat), RepAll G S xs ds → RepAll G S (xs.take n) (ds.take n)
  | _, _, 0, _ => .nil
  | _, _, _ + 1, .nil => .nil
  | _, _, n + 1, .cons r t => .cons r (RepAll.take n t)
theorem RepAll.drop {G : Gx} {S : Hp} : ∀ {xs : List V} {ds : List D} (n : Nat), RepAll G S xs ds → RepAll G S (xs.drop n) (ds.drop n)
  | _, _, 0, r => r
  | _, _, _ + 1, .nil => .nil
  | _, _, n + 1, .cons _ t => RepAll.drop n t
theorem RepAll.set {G : Gx} {S : Hp} {x : V} {d : D} (r : Rep G S x d) : ∀ {xs : List V} {ds : List D} (i : Nat), RepAll G S xs ds → RepAll G S (xs.set i x) (ds.set i d)
  | _, _, _, .nil => .nil
  | _, _, 0, .cons _ t => .cons r t
  | _, _, i + 1, .cons q t => .cons q (RepAll.set r i t)
end DL
end
section
/-! DLb: results, readings by data, the rules for names, constants, operators, tests, blocks. -/
namespace DL
open PySem PySem.Spec PyProof.Rows L2

structure Ex where
  cls : Str
  fs : List (Str × D)
inductive Rs (α : Type) where
  | ok (a : α) (st : DS) | ex (e : Ex) (st : DS) | no
def Rs.bind {α β : Type} (r : Rs α) (f : α → DS → Rs β) : Rs β := match r with
  | .ok a st => f a st
  | .ex e st => .ex e st
  | .no => .no
inductive RS where
  | nx (st : DS) | rt (a : Val) (st : DS) | bk (st : DS) | ct (st : DS) | ex (e : Ex) (st : DS) | no
def Rs.bindS {α : Type} (r : Rs α) (f : α → DS → RS) : RS := match r with
  | .ok a st => f a st
  | .ex e st => .ex e st
  | .no => .no
def RS.bind (r : RS) (f : DS → RS) : RS := match r with
  | .nx st => f st
  | r => r
abbrev GE := DS → Rs Val
abbrev GT := DS → Rs Bool
abbrev GA := DS → Rs (List Val)
abbrev GS := DS → RS

def ExR (G : Gx) (S : Hp) (cls : Value) (d : Option Addr) (e : Ex) : Prop := G.mg e.cls = some cls ∧
  ((∃ a fs, d = some a ∧ S a = some (.xd fs) ∧ RepF G S fs e.fs) ∨ (d = none ∧ e.fs = []))
theorem ExR.mono {G : Gx} {S S' : Hp} {cls : Value} {d : Option Addr} {e : Ex} (q : Same S S') (h : ExR G S cls d e) : ExR G S' cls d e := by
  obtain ⟨h1, ⟨a, fs, h2, h3, h4⟩ | h⟩ := h
  · exact ⟨h1, .inl ⟨a, fs, h2, q _ _ h3, h4.mono q⟩⟩
  · exact ⟨h1, .inr h⟩

/-- what is wanted behind a result -/
def Fin {α : Type} (G : Gx) (P : Pin) (R : Hp) (W : WX) (σ : L2.St) (S : Hp) (r : Rs α) (K : α → DS → Hp → Hp → Prop) : Prop := match r with
  | .ok a st' => ∀ S' H', Same S S' → StR G P R S' H' σ st' → K a st' S' H'
  | .ex e st' => ∀ cls d S' H', Same S S' → StR G P R S' H' σ st' → ExR G S' cls d e → W cls d σ H'
  | .no => False
section
variable {α β : Type} {G : Gx} {P : Pin} {R S : Hp} {W : WX} {σ : L2.St}
theorem Fin.up {r : Rs α} {K : α → DS → Hp → Hp → Prop} {S1 : Hp} (h : Fin G P R W σ S r K) (e : Same S S1) : Fin G P R W σ S1 r K := by
  cases r with
  | ok a st => exact fun S' H' e1 => h S' H' (e.trans e1)
  | ex x st => exact fun cls d S' H' e1 => h cls d S' H' (e.trans e1)
  | no => exact h
theorem Fin.imp {r : Rs α} {K K' : α → DS → Hp → Hp → Prop} (h : Fin G P R W σ S r K) (q : ∀ a st S' H', Same S S' → StR G P R S' H' σ st → K a st S' H' → K' a st S' H') : Fin G P R W σ S r K' := by
  cases r with
  | ok a st => exact fun S' H' e h1 => q a st S' H' e h1 (h S' H' e h1)
  | ex x st => exact h
  | no => exact h
theorem Fin.bind {r : Rs α} {f : α → DS → Rs β} {K : β → DS → Hp → Hp → Prop} (h : Fin G P R W σ S (r.bind f) K) : Fin G P R W σ S r (fun a st1 S1 _ => Fin G P R W σ S1 (f a st1) K) := by
  cases r with
  | ok a st => exact fun S' H' e h1 => Fin.up h e
  | ex x st => exact h
  | no => exact h
end
/-- what is wanted behind a statement -/
def FinS (G : Gx) (P : Pin) (R : Hp) (W : WX) (S : Hp) (r : RS) (E : Ends) : Prop := match r with
  | .nx st' => ∀ σ' S' H', Same S S' → StR G P R S' H' σ' st' → E.nx σ' H'
  | .rt a st' => ∀ v σ' S' H', Same S S' → StR G P R S' H' σ' st' → RepV G R S' H' σ' st' v a → E.rt v H'
  | .bk st' => ∀ σ' S' H', Same S S' → StR G P R S' H' σ' st' → E.bk σ' H'
  | .ct st' => ∀ σ' S' H', Same S S' → StR G P R S' H' σ' st' → E.ct σ' H'
  | .ex e st' => ∀ cls d σ' S' H', Same S S' → StR G P R S' H' σ' st' → ExR G S' cls d e → W cls d σ' H'
  | .no => False
section
variable {α : Type} {G : Gx} {P : Pin} {R S : Hp} {W : WX}
theorem FinS.up {r : RS} {E : Ends} {S1 : Hp} (h : FinS G P R W S r E) (e : Same S S1) : FinS G P R W S1 r E := by
  cases r with
  | nx st => exact fun σ' S' H' e1 => h σ' S' H' (e.trans e1)
  | rt a st => exact fun v σ' S' H' e1 => h v σ' S' H' (e.trans e1)
  | bk st => exact fun σ' S' H' e1 => h σ' S' H' (e.trans e1)
  | ct st => exact fun σ' S' H' e1 => h σ' S' H' (e.trans e1)
  | ex x st => exact fun cls d σ' S' H' e1 => h cls d σ' S' H' (e.trans e1)
  | no => exact h
theorem Fin.bindS {r : Rs α} {f : α → DS → RS} {E : Ends} {σ : L2.St} (h : FinS G P R W S (r.bindS f) E) : Fin G P R W σ S r (fun a st1 S1 _ => FinS G P R W S1 (f a st1) E) := by
  cases r with
  | ok a st => exact fun S' H' e h1 => FinS.up h e
  | ex x st => exact fun cls d S' H' e h1 x => h cls d σ S' H' e h1 x
  | no => exact h
end

def tD (G : Gx) (W : WX) (g : GE) : TE := fun σ H Q => ∃ P R S st, StR G P R S H σ st ∧ Fin G P R W σ S (g st) fun a st' S' H' => ∀ v, RepV G R S' H' σ st' v a → Q v H'
def tDT (G : Gx) (W : WX) (g : GT) : TT := fun σ H Q => ∃ P R S st, StR G P R S H σ st ∧ Fin G P R W σ S (g st) fun b _ _ H' => Q b H'
inductive Pvs (G : Gx) (S : Hp) (σ : L2.St) : List V → List Val → Prop
  | nil : Pvs G S σ [] []
  | cons {v : V} {vs : List V} {a : Val} {as : List Val} : Pv G S σ v a → Pvs G S σ vs as → Pvs G S σ (v :: vs) (a :: as)
theorem Pvs.mono {G : Gx} {S S' : Hp} {σ : L2.St} (e : Same S S') : ∀ {vs : List V} {as : List Val}, Pvs G S σ vs as → Pvs G S' σ vs as
  | _, _, .nil => .nil
  | _, _, .cons h t => .cons (h.mono e) (t.mono e)
def tDA (G : Gx) (W : WX) (g : GA) : TA := fun σ H Q => ∃ P R S st, StR G P R S H σ st ∧ Fin G P R W σ S (g st) fun as _ S' H' => ∀ vs, Pvs G S' σ vs as → Q vs H'
def tDS (G : Gx) (W : WX) (s : GS) : TS := fun E σ H => ∃ P R S st, StR G P R S H σ st ∧ FinS G P R W S (s st) E

abbrev gx (X : Cx) : Gx := ⟨X.K, X.mg⟩
abbrev DE (X : Cx) (W : WX) (e : Expr) (g : GE) : Prop := PE X e (tD (gx X) W g)
abbrev DT (X : Cx) (W : WX) (e : Expr) (g : GT) : Prop := PT X e (tDT (gx X) W g)
abbrev DA (X : Cx) (W : WX) (es : List Expr) (g : GA) : Prop := PA X es (tDA (gx X) W g)
abbrev DSt (X : Cx) (W : WX) (s : Stmt) (g : GS) : Prop := PS X s (tDS (gx X) W g)
abbrev DSs (X : Cx) (W : WX) (s : List Stmt) (g : GS) : Prop := PSs X s (tDS (gx X) W g)

theorem pe_imp {X : Cx} {e : Expr} {t t' : TE} (h : PE X e t) (q : ∀ σ H Q, t' σ H Q → t σ H Q) : PE X e t' := ⟨fun pins s σ H Q I z => h.run pins s σ H Q I (q σ H Q z)⟩
theorem pt_imp {X : Cx} {e : Expr} {t t' : TT} (h : PT X e t) (q : ∀ σ H Q, t' σ H Q → t σ H Q) : PT X e t' := ⟨fun pins s σ H Q I z => h.run pins s σ H Q I (q σ H Q z)⟩
theorem pa_imp {X : Cx} {e : List Expr} {t t' : TA} (h : PA X e t) (q : ∀ σ H Q, t' σ H Q → t σ H Q) : PA X e t' := ⟨fun pos pins s σ H Q I z => h.run pos pins s σ H Q I (q σ H Q z)⟩
theorem ps_imp {X : Cx} {e : Stmt} {t t' : TS} (h : PS X e t) (q : ∀ E σ H, t' E σ H → t E σ H) : PS X e t' := ⟨fun pins s σ H E I z => h.run pins s σ H E I (q E σ H z)⟩
theorem pss_imp {X : Cx} {e : List Stmt} {t t' : TS} (h : PSs X e t) (q : ∀ E σ H, t' E σ H → t E σ H) : PSs X e t' := ⟨fun pins s σ H E I z => h.run pins s σ H E I (q E σ H z)⟩

/-! ### names and constants -/
def gVar (i : Nat) : GE := fun st => match st[i]? with
  | some (.sh x) => .ok (.d x) st
  | some (.ow _) => .ok (.sl i) st
  | some (.io _) => .ok (.sl i) st
  | _ => .no
def gC (x : D) : GE := fun st => .ok (.d x) st
section
variable {X : Cx} {W : WX}
theorem de_var {i : Nat} {x : Str} {pos : Pos} (hN : X.N[i]? = some x) (hv : Vis X.env.scope x) (hd : (x == ("__debug__" : Str)) = false) (hcd : (x == ("__classdict__" : Str)) = false) : DE X W (.Name x pos) (gVar i) :=
  pe_imp (pe_var hN hv hd hcd) fun σ H Q ⟨P, R, S, st, h, f⟩ => by
    unfold gVar at f
    cases e : st[i]? with
    | none => rw [e] at f; exact f.elim
    | some s =>
      rw [e] at f
      have ow : ∀ d, Owns st i d → (∀ v, σ[i]? = some (some v) → Q v H) → tVar i σ H Q := fun d q k => by
        obtain ⟨a, o, q1, _⟩ := h.own i d q
        exact ⟨_, q1, k _ q1⟩
      cases s with
      | no => exact f.elim
      | sh x =>
        obtain ⟨v, q1, q2⟩ := h.val i x e
        exact ⟨v, q1, f S H (Same.refl S) h v q2⟩
      | ow x => exact ow x (.inl e) fun v q => f S H (Same.refl S) h v q
      | io x => exact ow x (.inr e) fun v q => f S H (Same.refl S) h v q
theorem de_c {e : Expr} {v : V} {x : D} (h : PE X e (tC v)) (r : ∀ S, Rep (gx X) S v x) : DE X W e (gC x) :=
  pe_imp h fun σ H Q ⟨P, R, S, st, h, f⟩ => f S H (Same.refl S) h v (r S)
theorem de_int {i j pos} : DE X W (.Constant (.int i) j pos) (gC (.int i)) := de_c pe_int fun _ => .int i
theorem de_bl {b j pos} : DE X W (.Constant (.bool b) j pos) (gC (.bl b)) := de_c pe_bl fun _ => .bl b
theorem de_non {j pos} : DE X W (.Constant .none j pos) (gC .non) := de_c pe_non fun _ => .non
theorem de_str {x j pos} : DE X W (.Constant (.str x) j pos) (gC (.str x)) := de_c pe_str fun _ => .str x

/-! ### two operands -/
def lift (c : Option Val) (st : DS) : Rs Val := match c with
  | some a => .ok a st
  | none => .no
def gOp2 (f : D → D → Option Val) (ga gb : GE) : GE := fun st => (ga st).bind fun a st1 => (gb st1).bind fun b st2 => match look st2 a, look st2 b with
  | some x, some y => lift (f x y) st2
  | _, _ => .no
/-- an operation of the heap's values does what f does on data -/
def OpS (G : Gx) (r : R2) (f : D → D → Option Val) : Prop := ∀ (P : Pin) (R S H : Hp) (σ : L2.St) (st : DS) (v u : V) (x y : D) (c : Val) (Q : VK), StR G P R S H σ st → RepT G S H v x → RepT G S H u y → f x y = some c →
  (∀ w S' H', Same S S' → StR G P R S' H' σ st → RepV G R S' H' σ st w c → Q w H') → r v u H Q
theorem top_of {G : Gx} {W : WX} {r : R2} {f : D → D → Option Val} {ga gb : GE} (ho : OpS G r f) : ∀ σ H Q, tD G W (gOp2 f ga gb) σ H Q → tOp r (tD G W ga) (tD G W gb) σ H Q := by
  rintro σ H Q ⟨P, R, S, st, h, fi⟩
  refine ⟨P, R, S, st, h, Fin.imp (Fin.bind fi) fun a st1 S1 H1 e1 h1 k v rv => ?_⟩
  obtain ⟨S2, e2, h2, pv⟩ := h1.settle rv
  refine ⟨P, R, S2, st1, h2, Fin.imp (Fin.bind (Fin.up k e2)) fun b st3 S3 H3 e3 h3 k3 u ru => ?_⟩
  obtain ⟨S4, e4, h4, pu⟩ := h3.settle ru
  have pv' := pv.mono (e3.trans e4)
  cases ea : look st3 a with
  | none => rw [ea] at k3; exact k3.elim
  | some x =>
    cases eb : look st3 b with
    | none => rw [ea, eb] at k3; exact k3.elim
    | some y =>
      rw [ea, eb] at k3
      dsimp only at k3
      cases ec : f x y with
      | none => rw [ec] at k3; exact k3.elim
      | some c =>
        rw [ec] at k3
        exact ho P R S4 H3 σ st3 v u x y c Q h4 (pv'.look h4 ea) (pu.look h4 eb) ec fun w S' H' e5 h5 rw5 => k3 S' H' (e4.trans e5) h5 w rw5
theorem de_op {op : Operator} {r : R2} {f : D → D → Option Val} {a b : Expr} {ga gb : GE} {pos : Pos} (hr : OpR X (binaryOp op) r) (ho : OpS (gx X) r f) (ha : DE X W a ga) (hb : DE X W b gb) : DE X W (.BinOp a op b pos) (gOp2 f ga gb) :=
  pe_imp (pe_op hr ha hb) (top_of ho)
theorem de_cmp {op : CmpOp} {r : R2} {f : D → D → Option Val} {a b : Expr} {ga gb : GE} {pos : Pos} (hr : OpR X (compareOp op) r) (ho : OpS (gx X) r f) (ha : DE X W a ga) (hb : DE X W b gb) (hm : behindInMarks op b = false) : DE X W (.Compare a [op] [b] pos) (gOp2 f ga gb) :=
  pe_imp (pe_cmpR hr ha hb hm) (top_of ho)
theorem de_ix {r : R2} {f : D → D → Option Val} {a b : Expr} {ga gb : GE} {pos : Pos} (hr : IxR X r) (ho : OpS (gx X) r f) (ha : DE X W a ga) (hb : DE X W b gb) (hs : PlainIx b) : DE X W (.Subscript a b pos) (gOp2 f ga gb) :=
  pe_imp (pe_ix hr ha hb hs) (top_of ho)
/-- a value that is True or False, as a test -/
def gTst (g : GE) : GT := fun st => (g st).bind fun a st1 => match look st1 a with
  | some (.bl b) => .ok b st1
  | _ => .no
theorem tst_of {G : Gx} {W : WX} {g : GE} {t : TE} (h : ∀ σ H Q, tD G W g σ H Q → t σ H Q) : ∀ σ H Q, tDT G W (gTst g) σ H Q → tTest t σ H Q := by
  rintro σ H Q ⟨P, R, S, st, h0, fi⟩
  refine h σ H _ ⟨P, R, S, st, h0, Fin.imp (Fin.bind fi) fun a st1 S1 H1 e1 h1 k v rv => ?_⟩
  obtain ⟨S2, e2, h2, pv⟩ := h1.settle rv
  cases ea : look st1 a with
  | none => rw [ea] at k; exact k.elim
  | some x =>
    rw [ea] at k
    cases x with
    | bl b =>
      have := (pv.look h2 ea).bl
      exact ⟨b, this, k S1 H1 (Same.refl _) h1⟩
    | _ => exact k.elim
theorem dt_cmp {op : CmpOp} {r : R2} {f : D → D → Option Val} {a b : Expr} {ga gb : GE} {pos : Pos} (hr : OpR X (compareOp op) r) (ho : OpS (gx X) r f) (ha : DE X W a ga) (hb : DE X W b gb) (hm : behindInMarks op b = false) : DT X W (.Compare a [op] [b] pos) (gTst (gOp2 f ga gb)) :=
  pt_imp (pt_cmpR hr ha hb hm) (tst_of (top_of ho))
/-- any other value, by its truth -/
def tru : D → Option Bool
  | .non => some false
  | .bl b => some b
  | .int i => some (i != 0)
  | .str x => if x.length ≤ sizeLine then some ((x.length : Int) != 0) else none
  | .lst xs => some (!xs.isEmpty)
  | .tup xs => some (!xs.isEmpty)
  | _ => none
def gTru (g : GE) : GT := fun st => (g st).bind fun a st1 => match (look st1 a).bind tru with
  | some b => .ok b st1
  | none => .no
theorem isEmpty_len {α β : Type} {xs : List α} {ys : List β} (h : xs.length = ys.length) : xs.isEmpty = ys.isEmpty := by
  cases xs <;> cases ys <;> first | rfl | (simp at h)
theorem tru_v {G : Gx} {S H : Hp} {v : V} {x : D} {k : Bool} (l : Le S H) (r : RepT G S H v x) (e : tru x = some k) : TruV G.K v H k := by
  cases x with
  | non => cases e; rw [r.non]; rfl
  | bl b => cases e; rw [r.bl]; rfl
  | int i => cases e; rw [r.int]; rfl
  | str x =>
    by_cases hx : x.length ≤ sizeLine
    · have e' : some ((x.length : Int) != 0) = some k := (if_pos hx).symm.trans e
      cases e'; rw [r.str]; exact ⟨hx, rfl⟩
    · have e' : (none : Option Bool) = some k := (if_neg hx).symm.trans e
      cases e'
  | lst ds =>
    cases e
    obtain ⟨a, xs, rfl, h1, h2⟩ := r.lst l
    exact .inl ⟨xs, SqL.of h1, by rw [isEmpty_len h2.length]⟩
  | tup ds =>
    cases e
    obtain ⟨a, xs, rfl, h1, h2⟩ := r.tup l
    exact .inr (.inl ⟨xs, h1.sq, by rw [isEmpty_len h2.length]⟩)
  | _ => cases e
theorem dt_tru {a : Expr} {g : GE} (ha : DE X W a g) (he : ∀ whole, isTrue a X.env whole = (do let v ← whole; standAt a.pos; holding [v] (truthy v))) : DT X W a (gTru g) :=
  pt_imp (pt_truth ha he) fun σ H Q ⟨P, R, S, st, h, fi⟩ => ⟨P, R, S, st, h, Fin.imp (Fin.bind fi) fun a st1 S1 H1 e1 h1 k v rv => by
    obtain ⟨S2, e2, h2, pv⟩ := h1.settle rv
    cases ea : look st1 a with
    | none => rw [ea] at k; exact k.elim
    | some x =>
      rw [ea] at k
      cases et : tru x with
      | none => simp only [Option.bind_some, et] at k; exact k.elim
      | some b =>
        simp only [Option.bind_some, et] at k
        exact ⟨b, tru_v h2.sub (pv.look h2 ea) et, k S1 H1 (Same.refl _) h1⟩⟩
def gNot (g : GT) : GT := fun st => (g st).bind fun b st1 => .ok (!b) st1
def gAnd (g k : GT) : GT := fun st => (g st).bind fun b st1 => if b = true then k st1 else .ok false st1
def gOr (g k : GT) : GT := fun st => (g st).bind fun b st1 => if b = true then .ok true st1 else k st1
theorem dt_not {a : Expr} {g : GT} {pos : Pos} (h : DT X W a g) : DT X W (.UnaryOp .Not a pos) (gNot g) :=
  pt_imp (pt_not h) fun σ H Q ⟨P, R, S, st, h, fi⟩ => ⟨P, R, S, st, h, Fin.imp (Fin.bind fi) fun b st1 S1 H1 e1 h1 k => k S1 H1 (Same.refl _) h1⟩
abbrev DW (X : Cx) (W : WX) (e : Expr) (g : GT) : Prop := PW X e (tDT (gx X) W g)
theorem pw_imp {X : Cx} {e : Expr} {t t' : TT} (h : PW X e t) (q : ∀ σ H Q, t' σ H Q → t σ H Q) : PW X e t' := ⟨fun wh pins s σ H Q I z => h.run wh pins s σ H Q I (q σ H Q z)⟩
theorem dw_and1 {a : Expr} {g : GT} {pos : Pos} (h : DT X W a g) : DW X W (.BoolOp .And [a] pos) g := pw_and1 h
theorem dw_or1 {a : Expr} {g : GT} {pos : Pos} (h : DT X W a g) : DW X W (.BoolOp .Or [a] pos) g := pw_or1 h
theorem dw_and {a b : Expr} {rest : List Expr} {g k : GT} {pos : Pos} (h : DT X W a g) (hb : DW X W (.BoolOp .And (b :: rest) pos) k) : DW X W (.BoolOp .And (a :: b :: rest) pos) (gAnd g k) :=
  pw_imp (pw_and h hb) fun σ H Q ⟨P, R, S, st, h, fi⟩ => ⟨P, R, S, st, h, Fin.imp (Fin.bind fi) fun b st1 S1 H1 e1 h1 k => by
    cases b with
    | true => rw [if_pos rfl] at k ⊢; exact ⟨P, R, S1, st1, h1, k⟩
    | false => rw [if_neg Bool.false_ne_true] at k ⊢; exact k S1 H1 (Same.refl _) h1⟩
theorem dw_or {a b : Expr} {rest : List Expr} {g k : GT} {pos : Pos} (h : DT X W a g) (hb : DW X W (.BoolOp .Or (b :: rest) pos) k) : DW X W (.BoolOp .Or (a :: b :: rest) pos) (gOr g k) :=
  pw_imp (pw_or h hb) fun σ H Q ⟨P, R, S, st, h, fi⟩ => ⟨P, R, S, st, h, Fin.imp (Fin.bind fi) fun b st1 S1 H1 e1 h1 k => by
    cases b with
    | true => rw [if_pos rfl] at k ⊢; exact k S1 H1 (Same.refl _) h1
    | false => rw [if_neg Bool.false_ne_true] at k ⊢; exact ⟨P, R, S1, st1, h1, k⟩⟩
/-- .. as values -/
def gB (g : GT) : GE := fun st => (g st).bind fun b st1 => .ok (.d (.bl b)) st1
def gAndV (g k : GE) : GE := fun st => (gTst g st).bind fun b st1 => if b = true then k st1 else .ok (.d (.bl false)) st1
def gOrV (g k : GE) : GE := fun st => (gTst g st).bind fun b st1 => if b = true then .ok (.d (.bl true)) st1 else k st1
theorem de_and {a b : Expr} {rest : List Expr} {g k : GE} {pos : Pos} (h : DE X W a g) (hb : DE X W (.BoolOp .And (b :: rest) pos) k) : DE X W (.BoolOp .And (a :: b :: rest) pos) (gAndV g k) :=
  pe_imp (pe_and h hb) fun σ H Q ⟨P, R, S, st, h, fi⟩ => tst_of (t := tD (gx X) W g) (fun _ _ _ z => z) σ H (fun c H1 => if c = true then tD (gx X) W k σ H1 Q else Q (.bl false) H1) ⟨P, R, S, st, h, Fin.imp (Fin.bind fi) fun b st1 S1 H1 e1 h1 k => by
    cases b with
    | true => rw [if_pos rfl] at k ⊢; exact ⟨P, R, S1, st1, h1, k⟩
    | false => rw [if_neg Bool.false_ne_true] at k ⊢; exact k S1 H1 (Same.refl _) h1 _ (.bl false)⟩
theorem de_or {a b : Expr} {rest : List Expr} {g k : GE} {pos : Pos} (h : DE X W a g) (hb : DE X W (.BoolOp .Or (b :: rest) pos) k) : DE X W (.BoolOp .Or (a :: b :: rest) pos) (gOrV g k) :=
  pe_imp (pe_or h hb) fun σ H Q ⟨P, R, S, st, h, fi⟩ => tst_of (t := tD (gx X) W g) (fun _ _ _ z => z) σ H (fun c H1 => if c = true then Q (.bl true) H1 else tD (gx X) W k σ H1 Q) ⟨P, R, S, st, h, Fin.imp (Fin.bind fi) fun b st1 S1 H1 e1 h1 k => by
    cases b with
    | true => rw [if_pos rfl] at k ⊢; exact k S1 H1 (Same.refl _) h1 _ (.bl true)
    | false => rw [if_neg Bool.false_ne_true] at k ⊢; exact ⟨P, R, S1, st1, h1, k⟩⟩
theorem de_one {op} {a : Expr} {g : GE} {pos : Pos} (h : DE X W a g) : DE X W (.BoolOp op [a] pos) g := pe_one h
theorem de_not {a : Expr} {g : GE} {pos : Pos} (h : DE X W a g) : DE X W (.UnaryOp .Not a pos) (gB (gNot (gTst g))) :=
  pe_imp (pe_not h) fun σ H Q ⟨P, R, S, st, h, fi⟩ => tst_of (t := tD (gx X) W g) (fun _ _ _ z => z) σ H (fun c H1 => Q (.bl (!c)) H1) ⟨P, R, S, st, h, Fin.imp (Fin.bind (Fin.bind fi)) fun b st1 S1 H1 e1 h1 k => k S1 H1 (Same.refl _) h1 S1 H1 (Same.refl _) h1 _ (.bl _)⟩
def gIf (c : GT) (g k : GE) : GE := fun st => (c st).bind fun b st1 => if b = true then g st1 else k st1
theorem de_if {c a b : Expr} {gc : GT} {g k : GE} {pos : Pos} (hc : DT X W c gc) (ha : DE X W a g) (hb : DE X W b k) : DE X W (.IfExp c a b pos) (gIf gc g k) :=
  pe_imp (pe_ifExp hc ha hb) fun σ H Q ⟨P, R, S, st, h, fi⟩ => ⟨P, R, S, st, h, Fin.imp (Fin.bind fi) fun b st1 S1 H1 e1 h1 k => by
    cases b with
    | true => rw [if_pos rfl] at k ⊢; exact ⟨P, R, S1, st1, h1, k⟩
    | false => rw [if_neg Bool.false_ne_true] at k ⊢; exact ⟨P, R, S1, st1, h1, k⟩⟩
end
end DL
end
section
/-! DLc: argument lists, displays, stores to names, blocks, loops. -/
namespace DL
open PySem PySem.Spec PyProof.Rows L2

def W0 : WX := fun _ _ _ _ => False
/-! ### argument lists -/
def gNil : GA := fun st => .ok [] st
def gCons (g : GE) (gs : GA) : GA := fun st => (g st).bind fun a st1 => (gs st1).bind fun as st2 => .ok (a :: as) st2
section
variable {X : Cx} {W : WX}
theorem da_nil : DA X W [] gNil := pa_imp pa_nil fun σ H Q ⟨P, R, S, st, h, f⟩ => f S H (Same.refl S) h [] .nil
theorem da_cons {e : Expr} {es : List Expr} {g : GE} {gs : GA} (h : DE X W e g) (hr : DA X W es gs) (hs : starEach (e :: es) X.env = (false, eval e X.env) :: starEach es X.env) : DA X W (e :: es) (gCons g gs) :=
  pa_imp (pa_cons h hr hs) fun σ H Q ⟨P, R, S, st, h, fi⟩ => ⟨P, R, S, st, h, Fin.imp (Fin.bind fi) fun a st1 S1 H1 e1 h1 k v rv => by
    obtain ⟨S2, e2, h2, pv⟩ := h1.settle rv
    refine ⟨P, R, S2, st1, h2, Fin.imp (Fin.bind (Fin.up k e2)) fun as st3 S3 H3 e3 h3 k3 vs pvs => ?_⟩
    exact k3 S3 H3 (Same.refl _) h3 (v :: vs) (.cons (pv.mono e3) pvs)⟩
end
/-- an operand is kept: what was a slot's own is shared from here on -/
def take1 (st : DS) : Val → Option (D × DS)
  | .d x => some (x, st)
  | .fr x => some (x, st)
  | .sl i => match st[i]? with
    | some (.sh x) => some (x, st)
    | some (.ow x) => some (x, st.set i (.sh x))
    | _ => none
def takes (st : DS) : List Val → Option (List D × DS)
  | [] => some ([], st)
  | a :: as => match take1 st a with
    | none => none
    | some (x, st1) => match takes st1 as with
      | none => none
      | some (xs, st2) => some (x :: xs, st2)
def looks (st : DS) : List Val → Option (List D)
  | [] => some []
  | a :: as => match look st a, looks st as with
    | some x, some xs => some (x :: xs)
    | _, _ => none
inductive RepTs (G : Gx) (S H : Hp) : List V → List D → Prop
  | nil : RepTs G S H [] []
  | cons {v : V} {vs : List V} {d : D} {ds : List D} : RepT G S H v d → RepTs G S H vs ds → RepTs G S H (v :: vs) (d :: ds)
section
variable {G : Gx} {P : Pin} {R S H : Hp} {σ : L2.St} {st : DS}
theorem take1_ok {v : V} {a : Val} {x : D} {st' : DS} (h : StR G P R S H σ st) (p : Pv G S σ v a) (e : take1 st a = some (x, st')) : ∃ S', Same S S' ∧ StR G P R S' H σ st' ∧ Rep G S' v x := by
  cases a with
  | d y => cases e; exact ⟨S, Same.refl S, h, p⟩
  | fr y => cases e; exact ⟨S, Same.refl S, h, p⟩
  | sl i =>
    have q1 : σ[i]? = some (some v) := p
    cases q2 : st[i]? with
    | none => simp [take1, q2] at e
    | some s =>
      simp only [take1, q2] at e
      cases s with
      | no => cases e
      | io y => cases e
      | sh y =>
        cases e
        obtain ⟨v', z1, z2⟩ := h.val i _ q2
        rw [q1] at z1; cases z1
        exact ⟨S, Same.refl S, h, z2⟩
      | ow y =>
        cases e
        obtain ⟨S', v', e1, h1, z1, z2⟩ := h.freeze q2
        rw [q1] at z1; cases z1
        exact ⟨S', e1, h1, z2⟩
theorem takes_ok : ∀ {vs : List V} {as : List Val} {S : Hp} {st : DS} {xs : List D} {st' : DS}, StR G P R S H σ st → Pvs G S σ vs as → takes st as = some (xs, st') → ∃ S', Same S S' ∧ StR G P R S' H σ st' ∧ RepAll G S' vs xs
  | _, _, S, st, xs, st', h, .nil, e => by cases e; exact ⟨S, Same.refl S, h, .nil⟩
  | _, _, S, st, xs, st', h, .cons (a := a) (as := as) p ps, e => by
    unfold takes at e
    cases e1 : take1 st a with
    | none => rw [e1] at e; cases e
    | some r =>
      obtain ⟨x, st1⟩ := r
      rw [e1] at e
      dsimp only at e
      cases e2 : takes st1 as with
      | none => rw [e2] at e; cases e
      | some r2 =>
        obtain ⟨ys, st2⟩ := r2
        rw [e2] at e
        cases e
        obtain ⟨S1, q1, h1, r1⟩ := take1_ok h p e1
        obtain ⟨S2, q2, h2, r2⟩ := takes_ok h1 (ps.mono q1) e2
        exact ⟨S2, q1.trans q2, h2, .cons (r1.mono q2) r2⟩
theorem looks_ok : ∀ {vs : List V} {as : List Val} {xs : List D}, StR G P R S H σ st → Pvs G S σ vs as → looks st as = some xs → RepTs G S H vs xs
  | _, _, xs, h, .nil, e => by cases e; exact .nil
  | _, _, xs, h, .cons (a := a) (as := as) p ps, e => by
    unfold looks at e
    cases e1 : look st a with
    | none => rw [e1] at e; cases e
    | some x =>
      rw [e1] at e
      cases e2 : looks st as with
      | none => rw [e2] at e; cases e
      | some ys =>
        rw [e2] at e
        cases e
        exact .cons (p.look h e1) (looks_ok h ps e2)
end
/-! ### displays -/
def gLst (ga : GA) : GE := fun st => (ga st).bind fun as st1 => match takes st1 as with
  | some (xs, st2) => if xs.length ≤ sizeLine then .ok (.fr (.lst xs)) st2 else .no
  | none => .no
def gTup (ga : GA) : GE := fun st => (ga st).bind fun as st1 => match takes st1 as with
  | some (xs, st2) => if xs.length ≤ sizeLine then .ok (.d (.tup xs)) st2 else .no
  | none => .no
section
variable {X : Cx} {W : WX}
theorem de_lst {es : List Expr} {g : GA} {pos : Pos} (h : DA X W es g) : DE X W (.List es pos) (gLst g) :=
  pe_imp (pe_lst h) fun σ H Q ⟨P, R, S, st, h, fi⟩ => ⟨P, R, S, st, h, Fin.imp (Fin.bind fi) fun as st1 S1 H1 e1 h1 k vs ps => by
    cases et : takes st1 as with
    | none => rw [et] at k; exact k.elim
    | some r =>
      obtain ⟨xs, st2⟩ := r
      rw [et] at k
      dsimp only at k
      obtain ⟨S2, e2, h2, ra⟩ := takes_ok h1 ps et
      split at k
      · rename_i hz
        refine ⟨by rw [ra.length]; exact hz, fun p np => ?_⟩
        obtain ⟨h3, f3⟩ := h2.alloc np (.lst ra)
        exact k S2 _ e2 h3 _ f3
      · exact k.elim⟩
theorem de_tup {es : List Expr} {g : GA} {x1} {pos : Pos} (h : DA X W es g) : DE X W (.Tuple es x1 pos) (gTup g) :=
  pe_imp (pe_tup h) fun σ H Q ⟨P, R, S, st, h, fi⟩ => ⟨P, R, S, st, h, Fin.imp (Fin.bind fi) fun as st1 S1 H1 e1 h1 k vs ps => by
    cases et : takes st1 as with
    | none => rw [et] at k; exact k.elim
    | some r =>
      obtain ⟨xs, st2⟩ := r
      rw [et] at k
      dsimp only at k
      obtain ⟨S2, e2, h2, ra⟩ := takes_ok h1 ps et
      split at k
      · rename_i hz
        refine ⟨by rw [ra.length]; exact hz, fun p np => ?_⟩
        obtain ⟨e3, h3, f3⟩ := h2.allocT np ra
        exact k _ _ (e2.trans e3) h3 _ f3
      · exact k.elim⟩
end
/-! ### calls of built-ins -/
def gCB (f : List D → Option Val) (ga : GA) : GE := fun st => (ga st).bind fun as st1 => match looks st1 as with
  | some xs => lift (f xs) st1
  | none => .no
def CallS (G : Gx) (r : List V → Hp → VK → Prop) (f : List D → Option Val) : Prop := ∀ (P : Pin) (R S H : Hp) (σ : L2.St) (st : DS) (vs : List V) (xs : List D) (c : Val) (Q : VK), StR G P R S H σ st → RepTs G S H vs xs → f xs = some c →
  (∀ w S' H', Same S S' → StR G P R S' H' σ st → RepV G R S' H' σ st w c → Q w H') → r vs H Q
section
variable {X : Cx} {W : WX}
theorem tcb_of {G : Gx} {W : WX} {r : List V → Hp → VK → Prop} {f : List D → Option Val} {g : GA} (ho : CallS G r f) : ∀ σ H Q, tD G W (gCB f g) σ H Q → tCB r (tDA G W g) σ H Q := by
  rintro σ H Q ⟨P, R, S, st, h, fi⟩
  refine ⟨P, R, S, st, h, Fin.imp (Fin.bind fi) fun as st1 S1 H1 e1 h1 k vs ps => ?_⟩
  cases ea : looks st1 as with
  | none => rw [ea] at k; exact k.elim
  | some xs =>
    rw [ea] at k
    dsimp only at k
    cases ec : f xs with
    | none => rw [ec] at k; exact k.elim
    | some c =>
      rw [ec] at k
      exact ho P R S1 H1 σ st1 vs xs c Q h1 (looks_ok h1 ps ea) ec fun w S' H' e5 h5 rw5 => k S' H' e5 h5 w rw5
theorem de_callB {x : Str} {p pos : Pos} {e : Expr} {es : List Expr} {id : String} {r : List V → Hp → VK → Prop} {f : List D → Option Val} {g : GA} (hc : CallR X (.builtin id) r) (ho : CallS (gx X) r f) (hg : Gl X x) (hm : X.mg x = none) (hv : bootBuiltins x = some (.builtin id))
    (ha : DA X W (e :: es) g) (hn : x ≠ "__name__") (hdb : (x == ("__debug__" : Str)) = false) (he : starEach (e :: es) X.env = (false, eval e X.env) :: starEach es X.env) (hpl : (backTo pos (starEach es X.env)).any (·.1) = false) :
    DE X W (.Call (.Name x p) (e :: es) [] pos) (gCB f g) := pe_imp (pe_callB hc hg hm hv ha hn hdb he hpl) (tcb_of ho)
theorem de_callTy {x : Str} {p pos : Pos} {e : Expr} {es : List Expr} {T : String} {r : List V → Hp → VK → Prop} {f : List D → Option Val} {g : GA} (hc : CallR X (.type T) r) (ho : CallS (gx X) r f) (hg : Gl X x) (hm : X.mg x = none) (hv : bootBuiltins x = some (.type T))
    (ha : DA X W (e :: es) g) (hn : x ≠ "__name__") (hdb : (x == ("__debug__" : Str)) = false) (he : starEach (e :: es) X.env = (false, eval e X.env) :: starEach es X.env) (hpl : (backTo pos (starEach es X.env)).any (·.1) = false) :
    DE X W (.Call (.Name x p) (e :: es) [] pos) (gCB f g) := pe_imp (pe_callTy hc hg hm hv ha hn hdb he hpl) (tcb_of ho)
end
/-! ### stores to names -/
def isIo : Option Slot → Bool
  | some (.io _) => true
  | _ => false
theorem noIo {st : DS} {i : Nat} (h : isIo st[i]? = false) {d : D} : st[i]? ≠ some (.io d) := fun z => by rw [z] at h; cases h
/-- what a name gets -/
def putV (i : Nat) (st : DS) (a : Val) : Option DS := match a with
  | .d x => some (st.set i (.sh x))
  | .fr x => some (st.set i (.ow x))
  | .sl j => match take1 st (.sl j) with
    | some (x, st1) => some (st1.set i (.sh x))
    | none => none
section
variable {G : Gx} {P : Pin} {R S H : Hp} {σ : L2.St} {st : DS}
theorem owns_set_ne {st : DS} {i j : Nat} {s : Slot} {d : D} (h : i ≠ j) : Owns (st.set i s) j d ↔ Owns st j d := by
  unfold Owns
  rw [List.getElem?_set_ne h]
theorem StR.setSh (h : StR G P R S H σ st) {i : Nat} {v : V} {x : D} (r : Rep G S v x) (hi : i < st.length) : StR G P R S H (σ.set i (some v)) (st.set i (.sh x)) := by
  have hi' : i < σ.length := by rw [← h.len]; exact hi
  refine ⟨by rw [List.length_set, List.length_set]; exact h.len, h.sub, fun j d q => ?_, fun j d q => ?_, fun j k d e a q1 q2 q3 q4 => ?_, fun j d q => ?_, h.frm⟩
  · by_cases hj : i = j
    · subst hj
      rw [List.getElem?_set_self hi] at q
      cases q
      exact ⟨v, List.getElem?_set_self hi', r⟩
    · rw [List.getElem?_set_ne hj] at q
      rw [List.getElem?_set_ne hj]
      exact h.val j d q
  · obtain ⟨q', hj⟩ := owns_set_sh q
    rw [List.getElem?_set_ne (Ne.symm hj)]
    exact h.own j d q'
  · obtain ⟨q1', n1⟩ := owns_set_sh q1
    obtain ⟨q2', n2⟩ := owns_set_sh q2
    rw [List.getElem?_set_ne (Ne.symm n1)] at q3
    rw [List.getElem?_set_ne (Ne.symm n2)] at q4
    exact h.inj j k d e a q1' q2' q3 q4
  · have hj : i ≠ j := fun z => by
      subst z
      rw [List.getElem?_set_self hi] at q
      cases q
    rw [List.getElem?_set_ne hj] at q
    rw [List.getElem?_set_ne hj]
    exact h.pin j d q
theorem StR.setOw (h : StR G P R S H σ st) {i : Nat} {v : V} {x : D} (r : Fresh G R S H σ st v x) (hi : i < st.length) : StR G P R S H (σ.set i (some v)) (st.set i (.ow x)) := by
  have hi' : i < σ.length := by rw [← h.len]; exact hi
  obtain ⟨a, o, rfl, ha, t, sa, ra, lo⟩ := r
  refine ⟨by rw [List.length_set, List.length_set]; exact h.len, h.sub, fun j d q => ?_, fun j d q => ?_, fun j k d e b q1 q2 q3 q4 => ?_, fun j d q => ?_, h.frm⟩
  · by_cases hj : i = j
    · subst hj
      rw [List.getElem?_set_self hi] at q
      cases q
    · rw [List.getElem?_set_ne hj] at q
      rw [List.getElem?_set_ne hj]
      exact h.val j d q
  · by_cases hj : i = j
    · subst hj
      unfold Owns at q
      rw [List.getElem?_set_self hi] at q
      rcases q with q | q
      · cases q
        exact ⟨a, o, List.getElem?_set_self hi', ha, t, sa, ra⟩
      · cases q
    · rw [owns_set_ne hj] at q
      rw [List.getElem?_set_ne hj]
      exact h.own j d q
  · by_cases hj : i = j
    · subst hj
      by_cases hk : i = k
      · exact hk
      · rw [List.getElem?_set_self hi'] at q3
        cases q3
        rw [owns_set_ne hk] at q2
        rw [List.getElem?_set_ne hk] at q4
        exact absurd q4 (lo k e q2)
    · rw [owns_set_ne hj] at q1
      rw [List.getElem?_set_ne hj] at q3
      by_cases hk : i = k
      · subst hk
        rw [List.getElem?_set_self hi'] at q4
        cases q4
        exact absurd q3 (lo j d q1)
      · rw [owns_set_ne hk] at q2
        rw [List.getElem?_set_ne hk] at q4
        exact h.inj j k d e b q1 q2 q3 q4
  · have hj : i ≠ j := fun z => by
      subst z
      rw [List.getElem?_set_self hi] at q
      cases q
    rw [List.getElem?_set_ne hj] at q
    rw [List.getElem?_set_ne hj]
    exact h.pin j d q
theorem take1_len {a : Val} {x : D} {st1 : DS} (e : take1 st a = some (x, st1)) : st1.length = st.length := by
  cases a with
  | d y => cases e; rfl
  | fr y => cases e; rfl
  | sl i =>
    cases q2 : st[i]? with
    | none => simp [take1, q2] at e
    | some s =>
      simp only [take1, q2] at e
      cases s with
      | no => cases e
      | io y => cases e
      | sh y => cases e; rfl
      | ow y => cases e; exact List.length_set
theorem putV_ok {i : Nat} {v : V} {a : Val} {st' : DS} (h : StR G P R S H σ st) (r : RepV G R S H σ st v a) (e : putV i st a = some st') (hi : i < st.length) : ∃ S', Same S S' ∧ StR G P R S' H (σ.set i (some v)) st' := by
  cases a with
  | d x => cases e; exact ⟨S, Same.refl S, h.setSh r hi⟩
  | fr x => cases e; exact ⟨S, Same.refl S, h.setOw r hi⟩
  | sl j =>
    unfold putV at e
    dsimp only at e
    cases e1 : take1 st (.sl j) with
    | none => rw [e1] at e; cases e
    | some p =>
      obtain ⟨x, st1⟩ := p
      rw [e1] at e
      cases e
      obtain ⟨S', q, h', r'⟩ := take1_ok (v := v) h (show Pv G S σ v (.sl j) from r) e1
      exact ⟨S', q, h'.setSh r' (by rw [take1_len e1]; exact hi)⟩
end
def sAsg (i : Nat) (g : GE) : GS := fun st => (g st).bindS fun a st1 => if i < st1.length then (match putV i st1 a with
  | some st2 => .nx st2
  | none => .no) else .no
section
variable {X : Cx} {W : WX}
theorem ds_set {i : Nat} {x : Str} {e : Expr} {g : GE} {pos pos' : Pos} (hN : X.N.Nodup) (hi : X.N[i]? = some x) (hx : Loc X.env.scope x) (he : DE X W e g) (hs : swapsWith e (some (.Name x pos')) pos.line X.env = pure false)
    (hf : X.fn x = true ∨ X.env.scope.names.lookup x = some .local) : DSt X W (.Assign [.Name x pos'] e pos) (sAsg i g) :=
  ps_imp (ps_set hN hi hx he hs hf) fun E σ H ⟨P, R, S, st, h, fi⟩ => ⟨P, R, S, st, h, Fin.imp (Fin.bindS (σ := σ) fi) fun a st1 S1 H1 e1 h1 k v rv => by
    split at k
    · rename_i hlt
      cases ep : putV i st1 a with
      | none => rw [ep] at k; exact k.elim
      | some st2 =>
        rw [ep] at k
        obtain ⟨S2, q, h2⟩ := putV_ok h1 rv ep hlt
        exact k _ S2 H1 q h2
    · exact k.elim⟩
/-! ### small statements, blocks -/
def sExpr (g : GE) : GS := fun st => (g st).bindS fun _ st1 => .nx st1
/-- what is handed back: a name's own thing goes out -/
def outV (st : DS) : Val → Option (Val × DS)
  | .d x => some (.d x, st)
  | .fr x => some (.fr x, st)
  | .sl i => match st[i]? with
    | some (.sh x) => some (.d x, st)
    | some (.ow x) => some (.fr x, st.set i .no)
    | _ => none
def sRet (g : GE) : GS := fun st => (g st).bindS fun a st1 => match outV st1 a with
  | some (b, st2) => .rt b st2
  | none => .no
def sRetN : GS := fun st => .rt (.d .non) st
def sNext : GS := fun st => .nx st
def sSeq (s t : GS) : GS := fun st => (s st).bind t
def sIf (c : GT) (s t : GS) : GS := fun st => (c st).bindS fun b st1 => if b = true then s st1 else t st1
theorem owns_set_no {st : DS} {i j : Nat} {d : D} : Owns (st.set i .no) j d → Owns st j d ∧ j ≠ i := fun h => by
  by_cases hj : i = j
  · subst hj
    by_cases hi : i < st.length
    · rcases h with h | h <;> (rw [List.getElem?_set_self hi] at h; cases h)
    · have e : (st.set i .no)[i]? = none := List.getElem?_eq_none (by rw [List.length_set]; omega)
      rcases h with h | h <;> (rw [e] at h; cases h)
  · unfold Owns at h
    rw [List.getElem?_set_ne hj] at h
    exact ⟨h, fun z => hj z.symm⟩
theorem StR.setNo {G : Gx} {P : Pin} {R S H : Hp} {σ : L2.St} {st : DS} (h : StR G P R S H σ st) (i : Nat) : StR G P R S H σ (st.set i .no) := by
  have gt : ∀ {j : Nat} {s : Slot}, (st.set i .no)[j]? = some s → s ≠ .no → st[j]? = some s := fun {j s} q n => by
    by_cases hj : i = j
    · subst hj
      by_cases hi : i < st.length
      · rw [List.getElem?_set_self hi] at q; cases q; exact absurd rfl n
      · rw [List.getElem?_eq_none (by rw [List.length_set]; omega)] at q; cases q
    · rwa [List.getElem?_set_ne hj] at q
  exact ⟨by rw [List.length_set]; exact h.len, h.sub, fun j d q => h.val j d (gt q (fun z => by cases z)), fun j d q => h.own j d (owns_set_no q).1,
    fun j k d e a q1 q2 => h.inj j k d e a (owns_set_no q1).1 (owns_set_no q2).1, fun j d q => h.pin j d (gt q (fun z => by cases z)), h.frm⟩
theorem outV_ok {G : Gx} {P : Pin} {R S H : Hp} {σ : L2.St} {st : DS} {v : V} {a b : Val} {st' : DS} (h : StR G P R S H σ st) (r : RepV G R S H σ st v a) (e : outV st a = some (b, st')) : StR G P R S H σ st' ∧ RepV G R S H σ st' v b := by
  cases a with
  | d x => cases e; exact ⟨h, r⟩
  | fr x => cases e; exact ⟨h, r⟩
  | sl i =>
    have q1 : σ[i]? = some (some v) := r
    cases q2 : st[i]? with
    | none => simp [outV, q2] at e
    | some s =>
      simp only [outV, q2] at e
      cases s with
      | no => cases e
      | io y => cases e
      | sh y =>
        cases e
        obtain ⟨v', z1, z2⟩ := h.val i _ q2
        rw [q1] at z1; cases z1
        exact ⟨h, z2⟩
      | ow y =>
        cases e
        obtain ⟨a, o, z1, z2, z3, z4, z5⟩ := h.own i _ (.inl q2)
        rw [q1] at z1; cases z1
        refine ⟨h.setNo i, a, o, rfl, z2, z3, z4, z5, fun j d q z => ?_⟩
        obtain ⟨q', n⟩ := owns_set_no q
        exact n (h.inj j i _ _ _ q' (.inl q2) z q1)
theorem ds_expr {e : Expr} {g : GE} {pos : Pos} (he : DE X W e g) (hs : swapsWith e none pos.line X.env = pure false) : DSt X W (.Expr e pos) (sExpr g) :=
  ps_imp (ps_expr he hs) fun E σ H ⟨P, R, S, st, h, fi⟩ => ⟨P, R, S, st, h, Fin.imp (Fin.bindS (σ := σ) fi) fun a st1 S1 H1 e1 h1 k v rv => k σ S1 H1 (Same.refl _) h1⟩
theorem ds_ret {e : Expr} {g : GE} {pos : Pos} (he : DE X W e g) : DSt X W (.Return (some e) pos) (sRet g) :=
  ps_imp (ps_ret he) fun E σ H ⟨P, R, S, st, h, fi⟩ => ⟨P, R, S, st, h, Fin.imp (Fin.bindS (σ := σ) fi) fun a st1 S1 H1 e1 h1 k v rv => by
    cases eo : outV st1 a with
    | none => rw [eo] at k; exact k.elim
    | some p =>
      obtain ⟨b, st2⟩ := p
      rw [eo] at k
      obtain ⟨h2, r2⟩ := outV_ok h1 rv eo
      exact k v σ S1 H1 (Same.refl _) h2 r2⟩
theorem ds_retN {pos : Pos} : DSt X W (.Return none pos) sRetN :=
  ps_imp ps_retN fun E σ H ⟨P, R, S, st, h, fi⟩ => fi .non σ S H (Same.refl _) h .non
theorem ds_pass {pos : Pos} : DSt X W (.Pass pos) sNext :=
  ps_imp ps_pass fun E σ H ⟨P, R, S, st, h, fi⟩ => fi σ S H (Same.refl _) h
def sBreak : GS := fun st => .bk st
def sCont : GS := fun st => .ct st
theorem ds_break {pos : Pos} : DSt X W (.Break pos) sBreak :=
  ps_imp ps_break fun E σ H ⟨P, R, S, st, h, fi⟩ => fi σ S H (Same.refl _) h
theorem ds_cont {pos : Pos} : DSt X W (.Continue pos) sCont :=
  ps_imp ps_continue fun E σ H ⟨P, R, S, st, h, fi⟩ => fi σ S H (Same.refl _) h
theorem dss_nil : DSs X W [] sNext :=
  pss_imp pss_nil fun E σ H ⟨P, R, S, st, h, fi⟩ => fi σ S H (Same.refl _) h
theorem finS_bind {G : Gx} {P : Pin} {R S : Hp} {W : WX} {r : RS} {t : GS} {E : Ends} (h : FinS G P R W S (r.bind t) E) : FinS G P R W S r { E with nx := fun σ H => tDS G W t E σ H } := by
  cases r with
  | nx st => exact fun σ' S' H' e h1 => ⟨P, R, S', st, h1, FinS.up h e⟩
  | rt a st => exact h
  | bk st => exact h
  | ct st => exact h
  | ex x st => exact h
  | no => exact h
theorem dss_cons {st : Stmt} {rest : List Stmt} {s t : GS} (h1 : DSt X W st s) (h2 : DSs X W rest t) : DSs X W (st :: rest) (sSeq s t) :=
  pss_imp (pss_cons h1 h2) fun E σ H ⟨P, R, S, st, h, fi⟩ => ⟨P, R, S, st, h, finS_bind fi⟩
theorem dss_one {st : Stmt} {s : GS} (h1 : DSt X W st s) : DSs X W [st] s := pss_one h1
theorem ds_if {c : Expr} {a b : List Stmt} {gc : GT} {s t : GS} {pos : Pos} (hc : DT X W c gc) (ha : DSs X W a s) (hb : DSs X W b t) : DSt X W (.If c a b pos) (sIf gc s t) :=
  ps_imp (ps_if hc ha hb) fun E σ H ⟨P, R, S, st, h, fi⟩ => ⟨P, R, S, st, h, Fin.imp (Fin.bindS (σ := σ) fi) fun b st1 S1 H1 e1 h1 k => by
    cases b with
    | true => rw [if_pos rfl] at k ⊢; exact ⟨P, R, S1, st1, h1, k⟩
    | false => rw [if_neg Bool.false_ne_true] at k ⊢; exact ⟨P, R, S1, st1, h1, k⟩⟩
/-! ### while -/
def runWhile (c : GT) (b : GS) : Nat → DS → RS
  | 0, _ => .no
  | n + 1, st => match c st with
    | .no => .no
    | .ex e st1 => .ex e st1
    | .ok false st1 => .nx st1
    | .ok true st1 => match b st1 with
      | .nx st2 => runWhile c b n st2
      | .ct st2 => runWhile c b n st2
      | .bk st2 => .nx st2
      | r => r
def sWhile (n : Nat) (c : GT) (b : GS) : GS := runWhile c b n
theorem ds_while {c : Expr} {body : List Stmt} {gc : GT} {s : GS} {pos : Pos} (n : Nat) (hp : PassesOwn (model X.prog X.w) X.A X.env X.xe) (hc : DT X W c gc) (hb : DSs X W body s) : DSt X W (.While c body [] pos) (sWhile n gc s) :=
  ps_imp (ps_while hp hc hb) fun E σ H ⟨P, R, S, st, h, fi⟩ => by
    refine ⟨fun m σ H => ∃ S1 st1, Same S S1 ∧ StR (gx X) P R S1 H σ st1 ∧ FinS (gx X) P R W S1 (runWhile gc s m st1) E, ⟨n, S, st, Same.refl S, h, fi⟩, ?_⟩
    rintro m σ1 H1 ⟨S1, st1, e1, h1, f1⟩
    cases m with
    | zero => exact f1.elim
    | succ m =>
      unfold runWhile at f1
      refine ⟨P, R, S1, st1, h1, ?_⟩
      cases ec : gc st1 with
      | no => rw [ec] at f1; exact f1.elim
      | ex x st2 => rw [ec] at f1; exact fun cls d S' H' e2 h2 q => f1 cls d σ1 S' H' e2 h2 q
      | ok b st2 =>
        rw [ec] at f1
        intro S2 H2 e2 h2
        cases b with
        | false => rw [if_neg Bool.false_ne_true]; exact f1 σ1 S2 H2 e2 h2
        | true =>
          rw [if_pos rfl]
          dsimp only at f1
          refine ⟨fun σ' H' => ∃ S1 st1, Same S S1 ∧ StR (gx X) P R S1 H' σ' st1 ∧ FinS (gx X) P R W S1 (runWhile gc s m st1) E, fun σ' H' q => ⟨m, Nat.lt_succ_self m, q⟩, P, R, S2, st2, h2, ?_⟩
          have f2 := f1
          cases eb : s st2 with
          | nx st3 => rw [eb] at f2; exact fun σ' S' H' e3 h3 => ⟨S', st3, (e1.trans e2).trans e3, h3, FinS.up f2 (e2.trans e3)⟩
          | ct st3 => rw [eb] at f2; exact fun σ' S' H' e3 h3 => ⟨S', st3, (e1.trans e2).trans e3, h3, FinS.up f2 (e2.trans e3)⟩
          | bk st3 => rw [eb] at f2; exact FinS.up f2 e2
          | rt a st3 => rw [eb] at f2; exact FinS.up f2 e2
          | ex x st3 => rw [eb] at f2; exact FinS.up f2 e2
          | no => rw [eb] at f2; exact f2.elim
end
end DL
end
section
/-! DLd: what is walked, targets, for. -/
namespace DL
open PySem PySem.Spec PyProof.Rows L2

abbrev GI := DS → Rs (List D)
/-- the walk J yields ds, wherever S0 still stands -/
def ItOk (G : Gx) (S0 : Hp) (J : It) (ds : List D) : Prop := ∀ (P : Pin) (R S H : Hp) (σ : L2.St) (st : DS) (i : Nat), Same S0 S → StR G P R S H σ st →
  (i = ds.length → J.stop i H) ∧ ∀ d, ds[i]? = some d → J.go i H ∧ ∀ x H', J.yld i H x H' → ∃ S', Same S S' ∧ StR G P R S' H' σ st ∧ Rep G S' x d
theorem ItOk.up {G : Gx} {S0 S1 : Hp} {J : It} {ds : List D} (h : ItOk G S0 J ds) (e : Same S0 S1) : ItOk G S1 J ds := fun P R S H σ st i q => h P R S H σ st i (e.trans q)
def tDI (G : Gx) (W : WX) (gi : GI) : TI := fun σ H Rr => ∃ P R S st, StR G P R S H σ st ∧ Fin G P R W σ S (gi st) fun ds _ S' H' => ∀ J, ItOk G S' J ds → Rr J H'
abbrev DI (X : Cx) (W : WX) (tg iter : Expr) (gi : GI) : Prop := PI X tg iter (tDI (gx X) W gi)
theorem pi_imp {X : Cx} {tg e : Expr} {t t' : TI} (h : PI X tg e t) (q : ∀ σ H Q, t' σ H Q → t σ H Q) : PI X tg e t' := ⟨fun pins s σ H Q I z => h.run pins s σ H Q I (q σ H Q z)⟩
theorem pi_or {X : Cx} {tg e : Expr} {t t' : TI} (h : PI X tg e t) (h' : PI X tg e t') : PI X tg e (fun σ H R => t σ H R ∨ t' σ H R) := ⟨fun pins s σ H Q I z => by
  rcases z with z | z
  · exact h.run pins s σ H Q I z
  · exact h'.run pins s σ H Q I z⟩
def chars (x : Str) : List D := x.cps.toList.map fun c => .str ⟨#[c]⟩
def items : D → Option (List D)
  | .lst xs => some xs
  | .tup xs => some xs
  | .str x => some (chars x)
  | .scr ns => some (ns.map .int)
  | _ => none
def gIter (g : GE) : GI := fun st => (g st).bind fun a st1 => match take1 st1 a with
  | some (x, st2) => (match items x with
    | some xs => .ok xs st2
    | none => .no)
  | none => .no
theorem repAll_ints {G : Gx} {S : Hp} : ∀ ns : List Int, RepAll G S (ns.map V.int) (ns.map D.int)
  | [] => .nil
  | n :: ns => .cons (.int n) (repAll_ints ns)
theorem itOk_list {G : Gx} {S0 : Hp} {a : Addr} {vs : List V} {ds : List D} (h : SqL G.K S0 a vs) (r : RepAll G S0 vs ds) : ItOk G S0 (Itl G.K a) ds := fun P R S H σ st i e hs => by
  have q : SqL G.K H a vs := hs.sub.seq (e.seq h)
  refine ⟨fun hi => ⟨vs, q, by rw [r.length]; omega⟩, fun d hd => ?_⟩
  obtain ⟨v, hv, rv⟩ := r.get hd
  refine ⟨⟨vs, v, q, hv⟩, fun x H' y => ?_⟩
  obtain ⟨rfl, y⟩ := y
  have z := y vs q
  rw [hv] at z; cases z
  exact ⟨S, Same.refl S, hs, rv.mono e⟩
theorem itOk_tup {G : Gx} {S0 : Hp} {a : Addr} {vs : List V} {ds : List D} (h : SqT G.K S0 a vs) (r : RepAll G S0 vs ds) : ItOk G S0 (Itt G.K a) ds := fun P R S H σ st i e hs => by
  have q : SqT G.K H a vs := hs.sub.seqT (seqT_mono e h)
  refine ⟨fun hi => ⟨vs, q, by rw [r.length]; omega⟩, fun d hd => ?_⟩
  obtain ⟨v, hv, rv⟩ := r.get hd
  refine ⟨⟨vs, v, q, hv⟩, fun x H' y => ?_⟩
  obtain ⟨rfl, y⟩ := y
  have z := y vs q
  rw [hv] at z; cases z
  exact ⟨S, Same.refl S, hs, rv.mono e⟩
theorem chars_len (x : Str) : (chars x).length = x.cps.size := by unfold chars; rw [List.length_map, Array.length_toList]
theorem chars_get {x : Str} {i : Nat} {d : D} (h : (chars x)[i]? = some d) : ∃ c, x.cps[i]? = some c ∧ d = .str ⟨#[c]⟩ := by
  unfold chars at h
  rw [List.getElem?_map, Array.getElem?_toList] at h
  cases e : x.cps[i]? with
  | none => rw [e] at h; cases h
  | some c => rw [e] at h; cases h; exact ⟨c, rfl, rfl⟩
theorem itOk_str {G : Gx} {S0 : Hp} (x : Str) : ItOk G S0 (Its x) (chars x) := fun P R S H σ st i e hs => by
  refine ⟨fun hi => by rw [chars_len] at hi; exact Nat.le_of_eq hi.symm, fun d hd => ?_⟩
  obtain ⟨c, hc, rfl⟩ := chars_get hd
  refine ⟨(Array.getElem?_eq_some_iff.mp hc).1, fun v H' y => ?_⟩
  obtain ⟨rfl, c', hc', rfl⟩ := y
  rw [hc] at hc'; cases hc'
  exact ⟨S, Same.refl S, hs, .str _⟩
section
variable {X : Cx} {W : WX} {tg : Expr}
theorem di_val {e : Expr} {g : GE} (h : DE X W e g) : DI X W tg e (gIter g) :=
  pi_imp (pi_or (pi_list h) (pi_or (pi_tup h) (pi_str h))) fun σ H Rr ⟨P, R, S, st, h0, fi⟩ => by
    unfold gIter at fi
    cases eg : g st with
    | no => rw [eg] at fi; exact fi.elim
    | ex x st1 => rw [eg] at fi; exact .inl ⟨P, R, S, st, h0, by rw [eg]; exact fi⟩
    | ok a st1 =>
      rw [eg] at fi
      have fi' := Fin.bind (r := .ok a st1) fi
      cases et : take1 st1 a with
      | none => simp only [Rs.bind, et] at fi; exact fi.elim
      | some p =>
        obtain ⟨x, st2⟩ := p
        simp only [Rs.bind, et] at fi
        cases ei : items x with
        | none => rw [ei] at fi; exact fi.elim
        | some xs =>
          rw [ei] at fi
          have core : ∀ (S1 H1 : Hp) (v : V), Same S S1 → StR (gx X) P R S1 H1 σ st1 → RepV (gx X) R S1 H1 σ st1 v a → ∃ S2, Same S S2 ∧ StR (gx X) P R S2 H1 σ st2 ∧ Rep (gx X) S2 v x := fun S1 H1 v e1 h1 rv => by
            obtain ⟨S2, e2, h2, pv⟩ := h1.settle rv
            obtain ⟨S3, e3, h3, r3⟩ := take1_ok h2 pv et
            exact ⟨S3, (e1.trans e2).trans e3, h3, r3⟩
          cases x with
          | lst ys =>
            cases ei
            refine .inl ⟨P, R, S, st, h0, ?_⟩
            rw [eg]
            intro S1 H1 e1 h1 v rv
            obtain ⟨S2, e2, h2, r2⟩ := core S1 H1 v e1 h1 rv
            cases r2 with
            | lst hs ra => exact ⟨_, rfl, ⟨_, h2.sub.seq (SqL.of hs)⟩, fi S2 H1 e2 h2 _ (itOk_list (SqL.of hs) ra)⟩
          | scr ys =>
            cases ei
            refine .inl ⟨P, R, S, st, h0, ?_⟩
            rw [eg]
            intro S1 H1 e1 h1 v rv
            obtain ⟨S2, e2, h2, r2⟩ := core S1 H1 v e1 h1 rv
            cases r2 with
            | scr hs => exact ⟨_, rfl, ⟨_, h2.sub.seq hs⟩, fi S2 H1 e2 h2 _ (itOk_list hs (repAll_ints _))⟩
          | tup ys =>
            cases ei
            refine .inr (.inl ⟨P, R, S, st, h0, ?_⟩)
            rw [eg]
            intro S1 H1 e1 h1 v rv
            obtain ⟨S2, e2, h2, r2⟩ := core S1 H1 v e1 h1 rv
            obtain ⟨b, ys, rfl, hs, ra⟩ := r2.tupAt
            exact ⟨_, rfl, ⟨_, h2.sub.seqT hs.sq⟩, fi S2 H1 e2 h2 _ (itOk_tup hs.sq ra)⟩
          | str y =>
            cases ei
            refine .inr (.inr ⟨P, R, S, st, h0, ?_⟩)
            rw [eg]
            intro S1 H1 e1 h1 v rv
            obtain ⟨S2, e2, h2, r2⟩ := core S1 H1 v e1 h1 rv
            cases r2
            exact ⟨_, rfl, fi S2 H1 e2 h2 _ (itOk_str _)⟩
          | _ => cases ei
/-! ### ranges -/
def rng (lo : Int) (n : Nat) : List D := (List.range n).map fun k => .int (lo + (k : Nat))
def small62 (i : Int) : Bool := decide (-(2 ^ 62) ≤ i) && decide (i < 2 ^ 62)
theorem small62_of {i : Int} (h : small62 i = true) : -(2 ^ 62) ≤ i ∧ i < 2 ^ 62 := by
  unfold small62 at h
  rw [Bool.and_eq_true, decide_eq_true_eq, decide_eq_true_eq] at h
  exact h
def rng1 : List D → Option (List D)
  | [.int j] => if small62 j = true then some (rng 0 j.toNat) else none
  | _ => none
def rng2 : List D → Option (List D)
  | [.int i, .int j] => if (small62 i && small62 j) = true then some (rng i (j - i).toNat) else none
  | _ => none
def gRng (f : List D → Option (List D)) (ga : GA) : GI := fun st => (ga st).bind fun as st1 => match (looks st1 as).bind f with
  | some xs => .ok xs st1
  | none => .no
theorem itOk_rng {G : Gx} {S0 : Hp} (lo : Int) (n : Nat) : ItOk G S0 (Itr lo n) (rng lo n) := fun P R S H σ st i e hs => by
  refine ⟨fun hi => by rw [rng, List.length_map, List.length_range] at hi; exact Nat.le_of_eq hi.symm, fun d hd => ?_⟩
  unfold rng at hd
  rw [List.getElem?_map] at hd
  by_cases hi : i < n
  · rw [List.getElem?_range hi] at hd
    cases hd
    refine ⟨hi, fun v H' y => ?_⟩
    obtain ⟨rfl, rfl⟩ := y
    exact ⟨S, Same.refl S, hs, .int _⟩
  · rw [List.getElem?_eq_none (by rw [List.length_range]; omega)] at hd
    cases hd
theorem repTs_nil {G : Gx} {S H : Hp} {vs : List V} (h : RepTs G S H vs []) : vs = [] := by cases h; rfl
theorem repTs_one {G : Gx} {S H : Hp} {vs : List V} {x : D} (h : RepTs G S H vs [x]) : ∃ v, vs = [v] ∧ RepT G S H v x := by
  cases h with
  | cons h t => cases t; exact ⟨_, rfl, h⟩
theorem repTs_two {G : Gx} {S H : Hp} {vs : List V} {x y : D} (h : RepTs G S H vs [x, y]) : ∃ v u, vs = [v, u] ∧ RepT G S H v x ∧ RepT G S H u y := by
  cases h with
  | cons h t =>
    obtain ⟨u, rfl, hu⟩ := repTs_one t
    exact ⟨_, _, rfl, h, hu⟩
theorem looks_bind {st1 : DS} {as : List Val} {f : List D → Option (List D)} {xs : List D} (h : (looks st1 as).bind f = some xs) : ∃ ys, looks st1 as = some ys ∧ f ys = some xs := by
  cases e : looks st1 as with
  | none => rw [e] at h; cases h
  | some ys => rw [e] at h; exact ⟨ys, rfl, h⟩
theorem di_rng1 {a : Expr} {ga : GA} {p pos : Pos} (hg : Gl X "range") (hm : X.mg "range" = none) (ha : DA X W [a] ga) (hs : starEach [a] X.env = [(false, eval a X.env)]) : DI X W tg (.Call (.Name "range" p) [a] [] pos) (gRng rng1 ga) :=
  pi_imp (pi_range1 hg hm ha hs) fun σ H Rr ⟨P, R, S, st, h0, fi⟩ => ⟨P, R, S, st, h0, Fin.imp (Fin.bind fi) fun as st1 S1 H1 e1 h1 k vs ps => by
    cases ea : (looks st1 as).bind rng1 with
    | none => rw [ea] at k; exact k.elim
    | some xs =>
      rw [ea] at k
      obtain ⟨ys, q1, q2⟩ := looks_bind ea
      have rt := looks_ok h1 ps q1
      unfold rng1 at q2
      split at q2
      · rename_i j
        split at q2
        · rename_i hj
          cases q2
          obtain ⟨v, rfl, rv⟩ := repTs_one rt
          rw [rv.int]
          exact ⟨j, rfl, (small62_of hj).1, (small62_of hj).2, k S1 H1 (Same.refl _) h1 _ (itOk_rng 0 _)⟩
        · cases q2
      · cases q2⟩
theorem di_rng2 {a b : Expr} {ga : GA} {p pos : Pos} (hg : Gl X "range") (hm : X.mg "range" = none) (ha : DA X W [a, b] ga) (hs : starEach [a, b] X.env = [(false, eval a X.env), (false, eval b X.env)]) (hs2 : starEach [b] X.env = [(false, eval b X.env)]) :
    DI X W tg (.Call (.Name "range" p) [a, b] [] pos) (gRng rng2 ga) :=
  pi_imp (pi_range2 hg hm ha hs hs2) fun σ H Rr ⟨P, R, S, st, h0, fi⟩ => ⟨P, R, S, st, h0, Fin.imp (Fin.bind fi) fun as st1 S1 H1 e1 h1 k vs ps => by
    cases ea : (looks st1 as).bind rng2 with
    | none => rw [ea] at k; exact k.elim
    | some xs =>
      rw [ea] at k
      obtain ⟨ys, q1, q2⟩ := looks_bind ea
      have rt := looks_ok h1 ps q1
      unfold rng2 at q2
      split at q2
      · rename_i i j
        split at q2
        · rename_i hj
          cases q2
          rw [Bool.and_eq_true] at hj
          obtain ⟨v, u, rfl, rv, ru⟩ := repTs_two rt
          rw [rv.int, ru.int]
          exact ⟨i, j, rfl, ⟨(small62_of hj.1).1, (small62_of hj.1).2, (small62_of hj.2).1, (small62_of hj.2).2⟩, k S1 H1 (Same.refl _) h1 _ (itOk_rng i _)⟩
        · cases q2
      · cases q2⟩
end
/-! ### targets -/
abbrev AG := D → DS → Option DS
abbrev AGs := List D → DS → Option DS
/-- alike but at ts -/
def Upto (ts : List Nat) (σ σ' : L2.St) : Prop := σ'.length = σ.length ∧ ∀ j, j ∉ ts → σ'[j]? = σ[j]?
theorem Upto.trans {ts us : List Nat} {σ σ1 σ2 : L2.St} (a : Upto ts σ σ1) (b : Upto us σ1 σ2) : Upto (ts ++ us) σ σ2 :=
  ⟨b.1.trans a.1, fun j hj => (b.2 j fun z => hj (List.mem_append_right _ z)).trans (a.2 j fun z => hj (List.mem_append_left _ z))⟩
def tDG (G : Gx) (ts : List Nat) (ag : AG) : TG := fun v σ H Q => ∃ P R S st d st', StR G P R S H σ st ∧ Rep G S v d ∧ ag d st = some st' ∧ ∀ σ' S', Upto ts σ σ' → Same S S' → StR G P R S' H σ' st' → Q σ' H
def tDGs (G : Gx) (ts : List Nat) (ag : AGs) : TGs := fun vs σ H Q => ∃ P R S st ds st', StR G P R S H σ st ∧ RepAll G S vs ds ∧ ag ds st = some st' ∧ ∀ σ' S', Upto ts σ σ' → Same S S' → StR G P R S' H σ' st' → Q σ' H
abbrev DG (X : Cx) (tg : Expr) (ts : List Nat) (ag : AG) : Prop := PG X tg (tDG (gx X) ts ag)
abbrev DGs (X : Cx) (tg : List Expr) (ts : List Nat) (ag : AGs) : Prop := PGs X tg (tDGs (gx X) ts ag)
theorem pg_imp {X : Cx} {e : Expr} {t t' : TG} (h : PG X e t) (q : ∀ v σ H Q, t' v σ H Q → t v σ H Q) : PG X e t' := ⟨fun pins s σ H v u Q I r z => h.run pins s σ H v u Q I r (q v σ H Q z)⟩
theorem pgs_imp {X : Cx} {e : List Expr} {t t' : TGs} (h : PGs X e t) (q : ∀ v σ H Q, t' v σ H Q → t v σ H Q) : PGs X e t' := ⟨fun pins s σ H v u Q I r z => h.run pins s σ H v u Q I r (q v σ H Q z)⟩
def aName (i : Nat) : AG := fun d st => if i < st.length then some (st.set i (.sh d)) else none
def aNil : AGs := fun ds st => match ds with
  | [] => some st
  | _ => none
def aCons (a : AG) (as : AGs) : AGs := fun ds st => match ds with
  | d :: ds => (a d st).bind fun st1 => as ds st1
  | [] => none
def aTup (n : Nat) (as : AGs) : AG := fun d st => match d with
  | .tup ds => if ds.length = n then as ds st else none
  | _ => none
section
variable {X : Cx} {W : WX}
theorem dg_name {i : Nat} {x : Str} {pos : Pos} (hN : X.N.Nodup) (hi : X.N[i]? = some x) (hx : Loc X.env.scope x) (hf : X.fn x = true ∨ X.env.scope.names.lookup x = some .local) : DG X (.Name x pos) [i] (aName i) :=
  pg_imp (pg_name hN hi hx hf) fun v σ H Q ⟨P, R, S, st, d, st', h, r, e, q⟩ => by
    unfold aName at e
    split at e
    · rename_i hc
      cases e
      refine q _ S ⟨List.length_set, fun j hj => List.getElem?_set_ne fun z => hj (by rw [z]; exact List.mem_singleton.mpr rfl)⟩ (Same.refl S) (h.setSh r hc)
    · cases e
theorem dgs_nil : DGs X [] [] aNil :=
  pgs_imp pgs_nil fun v σ H Q ⟨P, R, S, st, ds, st', h, r, e, q⟩ => by
    cases r with
    | nil => cases e; exact ⟨rfl, q σ S ⟨rfl, fun _ _ => rfl⟩ (Same.refl S) h⟩
    | cons => cases e
theorem dgs_cons {e : Expr} {es : List Expr} {ts us : List Nat} {a : AG} {as : AGs} (h : DG X e ts a) (hr : DGs X es us as) (h1 : ((assignEach (e :: es) X.env).map (·.2)) = assign e X.env :: (assignEach es X.env).map (·.2)) : DGs X (e :: es) (ts ++ us) (aCons a as) :=
  pgs_imp (pgs_cons h hr h1) fun v σ H Q ⟨P, R, S, st, ds, st', h, r, e, q⟩ => by
    cases r with
    | nil => cases e
    | @cons v vs d ds r rs =>
      unfold aCons at e
      dsimp only at e
      cases e1 : a d st with
      | none => rw [e1] at e; cases e
      | some st1 =>
        rw [e1] at e
        refine ⟨_, _, rfl, P, R, S, st, d, st1, h, r, e1, fun σ' S' u1 q1 h1 => ?_⟩
        exact ⟨P, R, S', st1, ds, st', h1, rs.mono q1, e, fun σ2 S2 u2 q2 h2 => q σ2 S2 (u1.trans u2) (q1.trans q2) h2⟩
theorem dg_tup {es : List Expr} {k n : Nat} {ts : List Nat} {as : AGs} {pos : Pos} (hc : X.calm = true) (h : DGs X es ts as) (hn : (assignEach es X.env).length = n) (hst : (assignEach es X.env).findIdx? (·.1) = none) : DG X (.Tuple es k pos) ts (aTup n as) :=
  pg_imp (pg_tup hc h hn hst) fun v σ H Q ⟨P, R, S, st, d, st', h, r, e, q⟩ => by
    unfold aTup at e
    split at e
    · rename_i ds
      split at e
      · rename_i hl
        obtain ⟨a, xs, rfl, sq, ra⟩ := RepT.tup h.sub (.inl r)
        exact ⟨a, xs, rfl, sq.sq, by rw [ra.length]; exact hl, P, R, S, st, ds, st', h, ra, e, q⟩
      · cases e
    · cases e
/-! ### for -/
def runFor (ag : AG) (b : GS) : List D → DS → RS
  | [], st => .nx st
  | d :: ds, st => match ag d st with
    | none => .no
    | some st1 => match b st1 with
      | .nx st2 => runFor ag b ds st2
      | .ct st2 => runFor ag b ds st2
      | .bk st2 => .nx st2
      | r => r
def sFor (gi : GI) (ag : AG) (b : GS) : GS := fun st => (gi st).bindS fun ds st1 => runFor ag b ds st1
theorem ds_for {tg iter : Expr} {body : List Stmt} {gi : GI} {ts : List Nat} {ag : AG} {s : GS} {pos : Pos} (hp : PassesOwn (model X.prog X.w) X.A X.env X.xe) (hc : X.calm = true) (hi : DI X W tg iter gi) (hg : DG X tg ts ag) (hb : DSs X W body s)
    (hs : ∀ x, foldedSetIterable iter X.env x = pure x) : DSt X W (.For tg iter body [] pos) (sFor gi ag s) :=
  ps_imp (ps_for hp hc hi hg hb hs) fun E σ H ⟨P, R, S, st, h, fi⟩ => ⟨P, R, S, st, h, Fin.imp (Fin.bindS (σ := σ) fi) fun ds st1 S1 H1 e1 h1 k J hJ => by
    refine ⟨fun i m σ H => m = ds.length - i ∧ i ≤ ds.length ∧ ∃ S2 st2, Same S1 S2 ∧ StR (gx X) P R S2 H σ st2 ∧ FinS (gx X) P R W S2 (runFor ag s (ds.drop i) st2) E,
      ⟨ds.length, by simp, Nat.zero_le _, S1, st1, Same.refl _, h1, k⟩, ?_⟩
    rintro i m σ2 H2 ⟨rfl, hi, S2, st2, e2, h2, f2⟩
    obtain ⟨j1, j2⟩ := hJ P R S2 H2 σ2 st2 i e2 h2
    by_cases hlt : i < ds.length
    · obtain ⟨jg, jy⟩ := j2 ds[i] (List.getElem?_eq_getElem hlt)
      rw [List.drop_eq_getElem_cons hlt] at f2
      unfold runFor at f2
      refine .inr ⟨jg, fun σ H => i + 1 ≤ ds.length ∧ ∃ S2 st2, Same S1 S2 ∧ StR (gx X) P R S2 H σ st2 ∧ FinS (gx X) P R W S2 (runFor ag s (ds.drop (i + 1)) st2) E, fun σ' H' q => ⟨ds.length - (i + 1), by omega, rfl, q⟩, fun x H3 y => ?_⟩
      obtain ⟨S3, e3, h3, r3⟩ := jy x H3 y
      cases ea : ag ds[i] st2 with
      | none => rw [ea] at f2; exact f2.elim
      | some st3 =>
        rw [ea] at f2
        refine ⟨P, R, S3, st2, ds[i], st3, h3, r3, ea, fun σ4 S4 u4 e4 h4 => ⟨P, R, S4, st3, h4, ?_⟩⟩
        have e24 := e3.trans e4
        dsimp only at f2
        cases eb : s st3 with
        | nx st5 => rw [eb] at f2; exact fun σ' S' H' e5 h5 => ⟨hlt, S', st5, (e2.trans e24).trans e5, h5, FinS.up f2 (e24.trans e5)⟩
        | ct st5 => rw [eb] at f2; exact fun σ' S' H' e5 h5 => ⟨hlt, S', st5, (e2.trans e24).trans e5, h5, FinS.up f2 (e24.trans e5)⟩
        | bk st5 => rw [eb] at f2; exact FinS.up f2 e24
        | rt a st5 => rw [eb] at f2; exact FinS.up f2 e24
        | ex x st5 => rw [eb] at f2; exact FinS.up f2 e24
        | no => rw [eb] at f2; exact f2.elim
    · have e : i = ds.length := by omega
      rw [List.drop_of_length_le (by omega)] at f2
      exact .inl ⟨j1 e, f2 σ2 S2 H2 (Same.refl _) h2⟩⟩
end
end DL
end
section
/-! DLf: defs as functions on data, their calls. -/
namespace DL
open PySem PySem.Spec PyProof.Rows L2

inductive FR where
  | ok (a : Val) (ios : List D) | ex (e : Ex) (ios : List D) | no
abbrev FnD := List D → FR
/-- the addresses of what is handed in to be changed -/
def ioA : List Bool → List V → List Addr
  | true :: ms, .ref a :: vs => a :: ioA ms vs
  | _ :: ms, _ :: vs => ioA ms vs
  | _, _ => []
inductive ArgR (G : Gx) (R S H : Hp) : List Bool → List V → List D → Prop
  | nil : ArgR G R S H [] [] []
  | sh {ms : List Bool} {v : V} {vs : List V} {d : D} {ds : List D} : Rep G S v d → ArgR G R S H ms vs ds → ArgR G R S H (false :: ms) (v :: vs) (d :: ds)
  | io {ms : List Bool} {a : Addr} {o : HO} {vs : List V} {d : D} {ds : List D} : H a = some o → Top G S o d → S a = none → R a = none → ArgR G R S H ms vs ds → ArgR G R S H (true :: ms) (.ref a :: vs) (d :: ds)
inductive OutR (G : Gx) (S H : Hp) : List Bool → List V → List D → Prop
  | nil : OutR G S H [] [] []
  | sh {ms : List Bool} {v : V} {vs : List V} {ds : List D} : OutR G S H ms vs ds → OutR G S H (false :: ms) (v :: vs) ds
  | io {ms : List Bool} {a : Addr} {o : HO} {vs : List V} {d : D} {ds : List D} : H a = some o → Top G S o d → S a = none → OutR G S H ms vs ds → OutR G S H (true :: ms) (.ref a :: vs) (d :: ds)
def ResR (G : Gx) (R S H : Hp) (as : List Addr) (v : V) : Val → Prop
  | .d x => Rep G S v x
  | .fr x => ∃ p o, v = .ref p ∧ H p = some o ∧ Top G S o x ∧ S p = none ∧ R p = none ∧ p ∉ as
  | .sl _ => False
def Frm (R S H : Hp) : Prop := ∀ a o, R a = some o → H a = some o ∧ S a = none
/-- the promise of a def that does F on data -/
def spOf (G : Gx) (ms : List Bool) (F : FnD) : Sp := fun vs H Q E => ∃ R S ds, Le S H ∧ Frm R S H ∧ ArgR G R S H ms vs ds ∧ (ioA ms vs).Nodup ∧
  match F ds with
  | .ok a ios => ∀ v S' H', Same S S' → Le S' H' → Frm R S' H' → OutR G S' H' ms vs ios → ResR G R S' H' (ioA ms vs) v a → Q v H'
  | .ex e ios => ∀ cls d S' H', Same S S' → Le S' H' → Frm R S' H' → OutR G S' H' ms vs ios → ExR G S' cls d e → E cls d H'
  | .no => False
theorem ArgR.len {G : Gx} {R S H : Hp} : ∀ {ms : List Bool} {vs : List V} {ds : List D}, ArgR G R S H ms vs ds → vs.length = ms.length
  | _, _, _, .nil => rfl
  | _, _, _, .sh _ t => by rw [List.length_cons, List.length_cons, t.len]
  | _, _, _, .io _ _ _ _ t => by rw [List.length_cons, List.length_cons, t.len]
theorem ArgR.lenD {G : Gx} {R S H : Hp} : ∀ {ms : List Bool} {vs : List V} {ds : List D}, ArgR G R S H ms vs ds → ds.length = ms.length
  | _, _, _, .nil => rfl
  | _, _, _, .sh _ t => by rw [List.length_cons, List.length_cons, t.lenD]
  | _, _, _, .io _ _ _ _ t => by rw [List.length_cons, List.length_cons, t.lenD]
/-! ### the body's start and end -/
def slots0 : List Bool → List D → DS
  | true :: ms, d :: ds => .io d :: slots0 ms ds
  | false :: ms, d :: ds => .sh d :: slots0 ms ds
  | _, _ => []
def init (ms : List Bool) (n : Nat) (ds : List D) : DS := slots0 ms ds ++ List.replicate (n - ms.length) .no
def fins : List Bool → DS → Option (List D)
  | [], _ => some []
  | true :: ms, .io d :: st => (fins ms st).map (d :: ·)
  | true :: _, _ => none
  | false :: ms, _ :: st => fins ms st
  | false :: _, [] => none
def isVal : Val → Bool
  | .sl _ => false
  | _ => true
def callD (ms : List Bool) (n : Nat) (s : GS) : FnD := fun ds => if ds.length = ms.length ∧ ms.length ≤ n then (match s (init ms n ds) with
  | .nx st => (match fins ms st with
    | some ios => .ok (.d .non) ios
    | none => .no)
  | .rt a st => (match fins ms st with
    | some ios => if isVal a = true then .ok a ios else .no
    | none => .no)
  | .ex e st => (match fins ms st with
    | some ios => .ex e ios
    | none => .no)
  | _ => .no) else .no
def pins0 (ms : List Bool) (vs : List V) : Pin := fun i => match ms[i]?, vs[i]? with
  | some true, some (.ref a) => some a
  | _, _ => none
section
variable {G : Gx} {R S H : Hp}
theorem slots0_len : ∀ {ms : List Bool} {ds : List D}, ds.length = ms.length → (slots0 ms ds).length = ms.length
  | [], [], _ => rfl
  | true :: ms, d :: ds, h => by simp only [slots0, List.length_cons] at h ⊢; rw [slots0_len (by omega)]
  | false :: ms, d :: ds, h => by simp only [slots0, List.length_cons] at h ⊢; rw [slots0_len (by omega)]
  | [], _ :: _, h => by simp at h
  | _ :: _, [], h => by simp at h
theorem arg_sh : ∀ {ms : List Bool} {vs : List V} {ds : List D} {i : Nat} {d : D}, ArgR G R S H ms vs ds → (slots0 ms ds)[i]? = some (.sh d) → ∃ v, vs[i]? = some v ∧ Rep G S v d
  | _, _, _, _, _, .nil, e => by simp [slots0] at e
  | _, _, _, 0, _, .sh r _, e => by simp [slots0] at e; subst e; exact ⟨_, rfl, r⟩
  | _, _, _, 0, _, .io _ _ _ _ _, e => by simp [slots0] at e
  | _, _, _, i + 1, d, .sh _ t, e => arg_sh (i := i) t (by simpa [slots0] using e)
  | _, _, _, i + 1, d, .io _ _ _ _ t, e => arg_sh (i := i) t (by simpa [slots0] using e)
theorem arg_io : ∀ {ms : List Bool} {vs : List V} {ds : List D} {i : Nat} {s : Slot}, ArgR G R S H ms vs ds → (slots0 ms ds)[i]? = some s → (∀ d, s ≠ .sh d) →
    ∃ d a o, s = .io d ∧ ms[i]? = some true ∧ vs[i]? = some (.ref a) ∧ H a = some o ∧ Top G S o d ∧ S a = none ∧ R a = none ∧ a ∈ ioA ms vs
  | _, _, _, _, _, .nil, e, _ => by simp [slots0] at e
  | _, _, _, 0, _, .sh r _, e, n => by simp [slots0] at e; exact absurd e.symm (n _)
  | _, _, _, 0, _, .io h1 h2 h3 h4 _, e, _ => by
    simp [slots0] at e
    exact ⟨_, _, _, e.symm, rfl, rfl, h1, h2, h3, h4, List.mem_cons_self⟩
  | false :: ms, v :: vs, _, i + 1, d, .sh _ t, e, n => by
    obtain ⟨d', a, o, q1, q2, q3, q4, q5, q6, q7, q8⟩ := arg_io (i := i) t (by simpa [slots0] using e) n
    exact ⟨d', a, o, q1, by simpa using q2, by simpa using q3, q4, q5, q6, q7, by cases v <;> exact q8⟩
  | _, _, _, i + 1, d, .io _ _ _ _ t, e, n => by
    obtain ⟨d', a, o, q1, q2, q3, q4, q5, q6, q7, q8⟩ := arg_io (i := i) t (by simpa [slots0] using e) n
    exact ⟨d', a, o, q1, by simpa using q2, by simpa using q3, q4, q5, q6, q7, List.mem_cons_of_mem _ q8⟩
theorem ioA_at : ∀ {ms : List Bool} {vs : List V} {i : Nat} {a : Addr}, ms[i]? = some true → vs[i]? = some (.ref a) → a ∈ ioA ms vs
  | [], _, _, _, h, _ => by simp at h
  | _ :: _, [], _, _, _, h => by simp at h
  | m :: ms, v :: vs, 0, a, h1, h2 => by
    simp at h1 h2
    subst h1 h2
    exact List.mem_cons_self
  | m :: ms, v :: vs, i + 1, a, h1, h2 => by
    have q := ioA_at (ms := ms) (vs := vs) (i := i) (a := a) (by simpa using h1) (by simpa using h2)
    cases m <;> cases v <;> first | exact q | exact List.mem_cons_of_mem _ q
theorem ioA_inj : ∀ {ms : List Bool} {vs : List V} {i j : Nat} {a : Addr}, (ioA ms vs).Nodup → ms[i]? = some true → vs[i]? = some (.ref a) → ms[j]? = some true → vs[j]? = some (.ref a) → i = j
  | [], _, _, _, _, _, h, _, _, _ => by simp at h
  | _ :: _, [], _, _, _, _, _, h, _, _ => by simp at h
  | m :: ms, v :: vs, 0, 0, a, _, _, _, _, _ => rfl
  | m :: ms, v :: vs, 0, j + 1, a, nd, h1, h2, h3, h4 => by
    simp at h1 h2
    subst h1 h2
    exact absurd (ioA_at (by simpa using h3) (by simpa using h4)) (List.nodup_cons.mp nd).1
  | m :: ms, v :: vs, i + 1, 0, a, nd, h1, h2, h3, h4 => by
    simp at h3 h4
    subst h3 h4
    exact absurd (ioA_at (by simpa using h1) (by simpa using h2)) (List.nodup_cons.mp nd).1
  | m :: ms, v :: vs, i + 1, j + 1, a, nd, h1, h2, h3, h4 => by
    have nd' : (ioA ms vs).Nodup := by
      cases m <;> cases v <;> first | exact nd | exact (List.nodup_cons.mp nd).2
    rw [ioA_inj (ms := ms) (vs := vs) (i := i) (j := j) (a := a) nd' (by simpa using h1) (by simpa using h2) (by simpa using h3) (by simpa using h4)]
theorem init_get {ms : List Bool} {ds : List D} {n i : Nat} {s : Slot} (hl : ds.length = ms.length) (h : (init ms n ds)[i]? = some s) (hn : s ≠ .no) : (slots0 ms ds)[i]? = some s := by
  unfold init at h
  by_cases hi : i < (slots0 ms ds).length
  · rwa [List.getElem?_append_left hi] at h
  · rw [List.getElem?_append_right (by omega), List.getElem?_replicate] at h
    split at h
    · cases h; exact absurd rfl hn
    · cases h
theorem start_get {N : List Str} {vs : List V} {i : Nat} {v : V} (h : vs[i]? = some v) : (L2.start N vs)[i]? = some (some v) := by
  unfold L2.start
  have hi : i < vs.length := (List.getElem?_eq_some_iff.mp h).1
  rw [List.getElem?_append_left (by rw [List.length_map]; exact hi), List.getElem?_map, h]
  rfl
theorem stR_start {ms : List Bool} {vs : List V} {ds : List D} {N : List Str} (l : Le S H) (f : Frm R S H) (a : ArgR G R S H ms vs ds) (nd : (ioA ms vs).Nodup) (hn : ms.length ≤ N.length) : StR G (pins0 ms vs) R S H (L2.start N vs) (init ms N.length ds) := by
  have hl := a.len
  have hd := a.lenD
  have io : ∀ {i : Nat} {d : D}, Owns (init ms N.length ds) i d → ∃ b o, (init ms N.length ds)[i]? = some (.io d) ∧ ms[i]? = some true ∧ vs[i]? = some (.ref b) ∧ H b = some o ∧ Top G S o d ∧ S b = none ∧ R b = none := fun {i d} q => by
    rcases q with q | q
    · obtain ⟨d', b, o, q1, _⟩ := arg_io a (init_get hd q (fun z => by cases z)) (fun d z => by cases z)
      cases q1
    · obtain ⟨d', b, o, q1, q2, q3, q4, q5, q6, q7, _⟩ := arg_io a (init_get hd q (fun z => by cases z)) (fun d z => by cases z)
      cases q1
      exact ⟨b, o, q, q2, q3, q4, q5, q6, q7⟩
  refine ⟨?_, l, fun i d q => ?_, fun i d q => ?_, fun i j d e b q1 q2 q3 q4 => ?_, fun i d q => ?_, f⟩
  · unfold init L2.start
    rw [List.length_append, List.length_append, List.length_map, List.length_replicate, List.length_replicate, slots0_len hd]
    omega
  · obtain ⟨v, q1, q2⟩ := arg_sh a (init_get hd q (fun z => by cases z))
    exact ⟨v, start_get q1, q2⟩
  · obtain ⟨b, o, _, _, q3, q4, q5, q6, q7⟩ := io q
    exact ⟨b, o, start_get q3, q4, q5, q6, q7⟩
  · obtain ⟨b1, o1, _, m1, v1, _⟩ := io q1
    obtain ⟨b2, o2, _, m2, v2, _⟩ := io q2
    rw [start_get v1] at q3
    rw [start_get v2] at q4
    cases q3
    cases q4
    exact ioA_inj nd m1 v1 m2 v2
  · obtain ⟨b, o, _, m1, v1, _⟩ := io (i := i) (d := d) (.inr q)
    exact ⟨b, by simp only [pins0, m1, v1], start_get v1⟩
/-- what stands at the io slots at the end -/
theorem fins_get : ∀ {ms : List Bool} {st : DS} {ios : List D} {i : Nat}, fins ms st = some ios → ms[i]? = some true → ∃ d, st[i]? = some (.io d)
  | [], _, _, _, _, h => by simp at h
  | true :: ms, .io d :: st, ios, 0, _, _ => ⟨d, rfl⟩
  | true :: ms, .io d :: st, ios, i + 1, e, h => by
    simp only [fins] at e
    cases e1 : fins ms st with
    | none => rw [e1] at e; cases e
    | some js =>
      obtain ⟨d', q⟩ := fins_get (i := i) e1 (by simpa using h)
      exact ⟨d', by simpa using q⟩
  | true :: ms, [], _, _, e, _ => by simp [fins] at e
  | true :: ms, .no :: _, _, _, e, _ => by simp [fins] at e
  | true :: ms, .sh _ :: _, _, _, e, _ => by simp [fins] at e
  | true :: ms, .ow _ :: _, _, _, e, _ => by simp [fins] at e
  | false :: ms, _ :: st, ios, 0, e, h => by simp at h
  | false :: ms, _ :: st, ios, i + 1, e, h => by
    obtain ⟨d', q⟩ := fins_get (ms := ms) (st := st) (ios := ios) (i := i) (by simpa only [fins] using e) (by simpa using h)
    exact ⟨d', by simpa using q⟩
  | false :: ms, [], _, _, e, _ => by simp [fins] at e
theorem fins_out {S' H' : Hp} : ∀ {ms : List Bool} {vs : List V} {ds : List D} {st : DS} {ios : List D}, ArgR G R S H ms vs ds → fins ms st = some ios →
    (∀ (i : Nat) (a : Addr) (d : D), ms[i]? = some true → vs[i]? = some (.ref a) → st[i]? = some (.io d) → ∃ o, H' a = some o ∧ Top G S' o d ∧ S' a = none) → OutR G S' H' ms vs ios
  | _, _, _, _, _, .nil, e, _ => by simp only [fins] at e; cases e; exact .nil
  | _, _, _, [], _, .sh _ t, e, _ => by simp [fins] at e
  | _, _, _, s :: st, _, .sh _ t, e, k => .sh (fins_out (st := st) t (by simpa only [fins] using e) fun i a d h1 h2 h3 => k (i + 1) a d (by simpa using h1) (by simpa using h2) (by simpa using h3))
  | _, _, _, [], _, .io _ _ _ _ t, e, _ => by simp [fins] at e
  | _, _, _, .no :: _, _, .io _ _ _ _ t, e, _ => by simp [fins] at e
  | _, _, _, .sh _ :: _, _, .io _ _ _ _ t, e, _ => by simp [fins] at e
  | _, _, _, .ow _ :: _, _, .io _ _ _ _ t, e, _ => by simp [fins] at e
  | true :: ms, .ref a :: vs, _, .io d :: st, ios, .io _ _ _ _ t, e, k => by
    simp only [fins] at e
    cases e1 : fins ms st with
    | none => rw [e1] at e; cases e
    | some js =>
      rw [e1] at e
      cases e
      obtain ⟨o, q1, q2, q3⟩ := k 0 a d rfl rfl rfl
      exact .io q1 q2 q3 (fins_out (st := st) t e1 fun i a d h1 h2 h3 => k (i + 1) a d (by simpa using h1) (by simpa using h2) (by simpa using h3))
end
section
variable {P : Program} {w : World} {K : PySem.W.Frag} {mg : Str → Option Value} {base : Heap}
/-- THE RULE for a def: its body on data -/
theorem fn_d {x qual : Str} {st : Stmt} {f : Addr} {fd : FuncData} {N ps : List Str} {k : Nat} {ms : List Bool} {s : GS} (F : Fun K x qual st f fd) (Sc : FnScope N ps (defScope st)) (hm : ms.length = ps.length)
    (hbody : ∀ (X : Cx) (W : WX), X.prog = P → X.w = w → X.K = K → X.mg = mg → X.base = base → X.N = N → X.env.scope = defScope st → X.calm = true → X.fn = (fun _ => true) → Room k X.A → X.stack = X.env :: X.outer → X.env.frame = some X.env.locals → X.ex = [] → Takes X W →
      PassesOwn (model X.prog X.w) X.A X.env X.xe → DSs X W (defBody st) s) :
    FnOk P w K mg base (L2.CX P w) (k + 1) f fd ps (spOf ⟨K, mg⟩ ms (callD ms N.length s)) := by
  refine F.okX Sc (fun vs H Q E h => ?_) (fun cdv A outer s0 H vs Q E hr h => ?_)
  · obtain ⟨R, S, ds, _, _, a, _⟩ := h
    rw [a.len, hm]
  · obtain ⟨R, S, ds, l, fr, a, nd, fin⟩ := h
    refine ⟨_, hbody (cxOf (L2.CX P w) P w K mg base N qual (defScope st) f cdv A outer s0 H E) (fun cls d _ H => E cls d H) rfl rfl rfl rfl rfl rfl rfl rfl rfl hr rfl rfl rfl (takes_of rfl rfl rfl rfl) (passes_of rfl), ?_⟩
    unfold callD at fin
    by_cases hc : ds.length = ms.length ∧ ms.length ≤ N.length
    · rw [if_pos hc] at fin
      have h0 := stR_start l fr a nd hc.2
      refine ⟨pins0 ms vs, R, S, init ms N.length ds, h0, ?_⟩
      have out : ∀ {σ' : L2.St} {st' : DS} {S' H' : Hp} {ios : List D}, StR ⟨K, mg⟩ (pins0 ms vs) R S' H' σ' st' → fins ms st' = some ios → OutR ⟨K, mg⟩ S' H' ms vs ios := fun {σ' st' S' H' ios} h1 e => by
        refine fins_out a e fun i b d m1 v1 s1 => ?_
        obtain ⟨b', p1, p2⟩ := h1.pin i d s1
        simp only [pins0, m1, v1] at p1
        cases p1
        obtain ⟨c, o, q1, q2, q3, q4, _⟩ := h1.own i d (.inr s1)
        rw [p2] at q1; cases q1
        exact ⟨o, q2, q3, q4⟩
      have res : ∀ {σ' : L2.St} {st' : DS} {S' H' : Hp} {ios : List D} {v : V} {b : Val}, StR ⟨K, mg⟩ (pins0 ms vs) R S' H' σ' st' → fins ms st' = some ios → RepV ⟨K, mg⟩ R S' H' σ' st' v b → isVal b = true → ResR ⟨K, mg⟩ R S' H' (ioA ms vs) v b := fun {σ' st' S' H' ios v b} h1 e r iv => by
        cases b with
        | d x => exact r
        | sl i => cases iv
        | fr x =>
          obtain ⟨p, o, q1, q2, q3, q4, q5, q6⟩ := r
          refine ⟨p, o, q1, q2, q3, q4, q5, fun hp => ?_⟩
          have : ∀ {ms : List Bool} {vs : List V}, p ∈ ioA ms vs → ∃ i : Nat, ms[i]? = some true ∧ vs[i]? = some (.ref p) := fun {ms} => by
            induction ms with
            | nil => intro vs h; simp [ioA] at h
            | cons m ms ih =>
              intro vs h
              cases vs with
              | nil => cases m <;> simp [ioA] at h
              | cons v vs =>
                have tl : p ∈ ioA ms vs → ∃ i : Nat, (m :: ms)[i]? = some true ∧ (v :: vs)[i]? = some (.ref p) := fun h => by
                  obtain ⟨i, h1, h2⟩ := ih h
                  exact ⟨i + 1, by simpa using h1, by simpa using h2⟩
                cases m with
                | false => cases v <;> exact tl h
                | true =>
                  cases v with
                  | ref a =>
                    rcases List.mem_cons.mp h with z | z
                    · subst z; exact ⟨0, rfl, rfl⟩
                    · exact tl z
                  | _ => exact tl h
          obtain ⟨i, m1, v1⟩ := this hp
          obtain ⟨d, s1⟩ := fins_get e m1
          obtain ⟨b', p1, p2⟩ := h1.pin i d s1
          simp only [pins0, m1, v1] at p1
          cases p1
          exact q6 i d (.inr s1) p2
      have r1 := fin
      cases es : s (init ms N.length ds) with
      | nx st' =>
        rw [es] at r1
        intro σ' S' H' e1 h1
        dsimp only at r1
        cases ef : fins ms st' with
        | none => rw [ef] at r1; exact r1.elim
        | some ios => rw [ef] at r1; exact r1 .non S' H' e1 h1.sub h1.frm (out h1 ef) .non
      | rt b st' =>
        rw [es] at r1
        intro v σ' S' H' e1 h1 rv
        dsimp only at r1
        cases ef : fins ms st' with
        | none => rw [ef] at r1; exact r1.elim
        | some ios =>
          rw [ef] at r1
          dsimp only at r1
          by_cases iv : isVal b = true
          · rw [if_pos iv] at r1
            exact r1 v S' H' e1 h1.sub h1.frm (out h1 ef) (res h1 ef rv iv)
          · rw [if_neg iv] at r1
            exact r1.elim
      | ex x st' =>
        rw [es] at r1
        intro cls d σ' S' H' e1 h1 xr
        dsimp only at r1
        cases ef : fins ms st' with
        | none => rw [ef] at r1; exact r1.elim
        | some ios => rw [ef] at r1; exact r1 cls d S' H' e1 h1.sub h1.frm (out h1 ef) xr
      | bk st' => rw [es] at r1; exact r1.elim
      | ct st' => rw [es] at r1; exact r1.elim
      | no => rw [es] at r1; exact r1.elim
    · rw [if_neg hc] at fin
      exact fin.elim
end
end DL
end
section
/-! DLg: the call of a def by its function on data. -/
namespace DL
open PySem PySem.Spec PyProof.Rows L2
open Classical in
/-- what the callee may not touch: the caller's callers' things, and the caller's own ones that are not handed in -/
noncomputable def frame (R H : Hp) (σ : L2.St) (st : DS) (js : List Nat) : Hp := fun b => if ∃ (i : Nat) (d : D), Owns st i d ∧ σ[i]? = some (some (.ref b)) ∧ i ∉ js then H b else R b

def prep : List Bool → DS → List Val → Option (List (Sum D Nat) × DS)
  | [], st, [] => some ([], st)
  | false :: ms, st, a :: as => match take1 st a with
    | none => none
    | some (x, st1) => match prep ms st1 as with
      | none => none
      | some (ys, st2) => some (.inl x :: ys, st2)
  | true :: ms, st, .sl j :: as => match prep ms st as with
    | none => none
    | some (ys, st2) => some (.inr j :: ys, st2)
  | _, _, _ => none
def cont (st : DS) (j : Nat) : Option D := match st[j]? with
  | some (.ow x) => some x
  | some (.io x) => some x
  | _ => none
def datas (st : DS) : List (Sum D Nat) → Option (List D)
  | [] => some []
  | .inl x :: r => match datas st r with
    | some xs => some (x :: xs)
    | none => none
  | .inr j :: r => match cont st j, datas st r with
    | some x, some xs => some (x :: xs)
    | _, _ => none
def ixs : List (Sum D Nat) → List Nat
  | [] => []
  | .inl _ :: r => ixs r
  | .inr j :: r => j :: ixs r
def setC (st : DS) (j : Nat) (d : D) : DS := match st[j]? with
  | some (.ow _) => st.set j (.ow d)
  | some (.io _) => st.set j (.io d)
  | _ => st
def back : List Nat → List D → DS → Option DS
  | [], [], st => some st
  | j :: js, d :: ds, st => back js ds (setC st j d)
  | _, _, _ => none
def gCall (F : FnD) (ms : List Bool) (dd : List D) (ga : GA) : GE := fun st => (ga st).bind fun as st1 => match prep ms st1 (as ++ dd.map .d) with
  | none => .no
  | some (ys, st2) => if (ixs ys).Nodup then (match datas st2 ys with
    | none => .no
    | some ds => (match F ds with
      | .no => .no
      | .ok a ios => (match back (ixs ys) ios st2 with
        | some st3 => .ok a st3
        | none => .no)
      | .ex e ios => (match back (ixs ys) ios st2 with
        | some st3 => .ex e st3
        | none => .no))) else .no
inductive PrepR (G : Gx) (S : Hp) (σ : L2.St) : List Bool → List V → List (Sum D Nat) → Prop
  | nil : PrepR G S σ [] [] []
  | sh {ms : List Bool} {v : V} {vs : List V} {x : D} {ys : List (Sum D Nat)} : Rep G S v x → PrepR G S σ ms vs ys → PrepR G S σ (false :: ms) (v :: vs) (.inl x :: ys)
  | io {ms : List Bool} {v : V} {vs : List V} {j : Nat} {ys : List (Sum D Nat)} : σ[j]? = some (some v) → PrepR G S σ ms vs ys → PrepR G S σ (true :: ms) (v :: vs) (.inr j :: ys)
theorem PrepR.mono {G : Gx} {S S' : Hp} {σ : L2.St} (e : Same S S') : ∀ {ms : List Bool} {vs : List V} {ys : List (Sum D Nat)}, PrepR G S σ ms vs ys → PrepR G S' σ ms vs ys
  | _, _, _, .nil => .nil
  | _, _, _, .sh r t => .sh (r.mono e) (t.mono e)
  | _, _, _, .io r t => .io r (t.mono e)
section
variable {G : Gx} {P : Pin} {R H : Hp} {σ : L2.St}
theorem prep_ok : ∀ {ms : List Bool} {vs : List V} {as : List Val} {S : Hp} {st st2 : DS} {ys : List (Sum D Nat)}, StR G P R S H σ st → Pvs G S σ vs as → prep ms st as = some (ys, st2) → ∃ S2, Same S S2 ∧ StR G P R S2 H σ st2 ∧ PrepR G S2 σ ms vs ys
  | [], _, _, S, st, st2, ys, h, .nil, e => by simp only [prep] at e; cases e; exact ⟨S, Same.refl S, h, .nil⟩
  | [], _, _, S, st, st2, ys, h, .cons _ _, e => by simp [prep] at e
  | true :: _, _, _, S, st, st2, ys, h, .nil, e => by simp [prep] at e
  | false :: _, _, _, S, st, st2, ys, h, .nil, e => by simp [prep] at e
  | false :: ms, _, _, S, st, st2, ys, h, .cons (a := a) (as := as) p ps, e => by
    unfold prep at e
    cases e1 : take1 st a with
    | none => rw [e1] at e; cases e
    | some r =>
      obtain ⟨x, st1⟩ := r
      rw [e1] at e
      dsimp only at e
      cases e2 : prep ms st1 as with
      | none => rw [e2] at e; cases e
      | some r2 =>
        obtain ⟨ys', st2'⟩ := r2
        rw [e2] at e
        cases e
        obtain ⟨S1, q1, h1, r1⟩ := take1_ok h p e1
        obtain ⟨S2, q2, h2, r2⟩ := prep_ok h1 (ps.mono q1) e2
        exact ⟨S2, q1.trans q2, h2, .sh (r1.mono q2) r2⟩
  | true :: ms, _, _, S, st, st2, ys, h, .cons (a := a) (as := as) p ps, e => by
    cases a with
    | d x => simp [prep] at e
    | fr x => simp [prep] at e
    | sl j =>
      unfold prep at e
      cases e2 : prep ms st as with
      | none => rw [e2] at e; cases e
      | some r2 =>
        obtain ⟨ys', st2'⟩ := r2
        rw [e2] at e
        cases e
        obtain ⟨S2, q2, h2, r2⟩ := prep_ok h ps e2
        exact ⟨S2, q2, h2, .io p r2⟩
theorem cont_owns {st : DS} {j : Nat} {x : D} (e : cont st j = some x) : Owns st j x := by
  unfold cont at e
  cases q : st[j]? with
  | none => rw [q] at e; cases e
  | some s =>
    rw [q] at e
    cases s with
    | no => cases e
    | sh y => cases e
    | ow y => cases e; exact .inl q
    | io y => cases e; exact .inr q
theorem mem_ixs {G : Gx} {S : Hp} : ∀ {ms : List Bool} {vs : List V} {ys : List (Sum D Nat)} {a : Addr}, PrepR G S σ ms vs ys → a ∈ ioA ms vs → ∃ j ∈ ixs ys, σ[j]? = some (some (.ref a))
  | _, _, _, _, .nil, h => by simp [ioA] at h
  | false :: ms, v :: vs, _, a, .sh _ t, h => by
    obtain ⟨j, h1, h2⟩ := mem_ixs t (by cases v <;> exact h)
    exact ⟨j, h1, h2⟩
  | true :: ms, v :: vs, .inr j :: ys, a, .io r t, h => by
    have tl : a ∈ ioA ms vs → ∃ i ∈ ixs (Sum.inr j :: ys), σ[i]? = some (some (.ref a)) := fun h => by
      obtain ⟨i, h1, h2⟩ := mem_ixs t h
      exact ⟨i, List.mem_cons_of_mem _ h1, h2⟩
    cases v with
    | ref b =>
      rcases List.mem_cons.mp h with z | z
      · subst z; exact ⟨j, List.mem_cons_self, r⟩
      · exact tl z
    | _ => exact tl h
theorem frame_of {S : Hp} {st : DS} {js : List Nat} (h : StR G P R S H σ st) : Frm (frame R H σ st js) S H := fun b o e => by
  unfold frame at e
  split at e
  · rename_i q
    obtain ⟨i, d, q1, q2, _⟩ := q
    obtain ⟨a, o', z1, z2, _, z4, _⟩ := h.own i d q1
    rw [q2] at z1; cases z1
    exact ⟨e, z4⟩
  · exact h.frm b o e
theorem frame_io {S : Hp} {st : DS} {js : List Nat} {j : Nat} {d : D} {a : Addr} (h : StR G P R S H σ st) (hj : j ∈ js) (ho : Owns st j d) (ha : σ[j]? = some (some (.ref a))) : frame R H σ st js a = none := by
  unfold frame
  rw [if_neg]
  · obtain ⟨b, o, z1, _, _, _, z5⟩ := h.own j d ho
    rw [ha] at z1; cases z1
    exact z5
  · rintro ⟨i, d', q1, q2, q3⟩
    exact q3 (h.inj i j d' d a q1 ho q2 ha ▸ hj)
theorem arg_ok {S : Hp} {st : DS} {js : List Nat} (h : StR G P R S H σ st) : ∀ {ms : List Bool} {vs : List V} {ys : List (Sum D Nat)} {ds : List D}, PrepR G S σ ms vs ys → datas st ys = some ds → (∀ j ∈ ixs ys, j ∈ js) → ArgR G (frame R H σ st js) S H ms vs ds
  | _, _, _, _, .nil, e, _ => by simp only [datas] at e; cases e; exact .nil
  | _, _, _, ds, .sh (x := x) (ys := ys) r t, e, k => by
    unfold datas at e
    cases e1 : datas st ys with
    | none => rw [e1] at e; cases e
    | some xs =>
      rw [e1] at e
      cases e
      exact .sh r (arg_ok h t e1 k)
  | _, _, _, ds, .io (j := j) (ys := ys) r t, e, k => by
    unfold datas at e
    cases e0 : cont st j with
    | none => rw [e0] at e; cases e
    | some x =>
      rw [e0] at e
      cases e1 : datas st ys with
      | none => rw [e1] at e; cases e
      | some xs =>
        rw [e1] at e
        cases e
        have ho := cont_owns e0
        obtain ⟨a, o, z1, z2, z3, z4, z5⟩ := h.own j x ho
        rw [r] at z1; cases z1
        exact .io z2 z3 z4 (frame_io h (k j List.mem_cons_self) ho r) (arg_ok h t e1 fun i hi => k i (List.mem_cons_of_mem _ hi))
theorem nodup_io {S : Hp} {st : DS} (h : StR G P R S H σ st) : ∀ {ms : List Bool} {vs : List V} {ys : List (Sum D Nat)} {ds : List D}, PrepR G S σ ms vs ys → datas st ys = some ds → (ixs ys).Nodup → (ioA ms vs).Nodup
  | _, _, _, _, .nil, _, _ => List.nodup_nil
  | false :: ms, v :: vs, _, ds, .sh (x := x) (ys := ys) r t, e, k => by
    unfold datas at e
    cases e1 : datas st ys with
    | none => rw [e1] at e; cases e
    | some xs =>
      have := nodup_io h t e1 k
      cases v <;> exact this
  | true :: ms, v :: vs, _, ds, .io (j := j) (ys := ys) r t, e, k => by
    unfold datas at e
    cases e0 : cont st j with
    | none => rw [e0] at e; cases e
    | some x =>
      rw [e0] at e
      cases e1 : datas st ys with
      | none => rw [e1] at e; cases e
      | some xs =>
        obtain ⟨k1, k2⟩ := List.nodup_cons.mp k
        have n := nodup_io h t e1 k2
        obtain ⟨a, o, z1, _⟩ := h.own j x (cont_owns e0)
        rw [r] at z1; cases z1
        refine List.nodup_cons.mpr ⟨fun hm => ?_, n⟩
        obtain ⟨i, q1, q2⟩ := mem_ixs t hm
        have own_i : ∀ {ys : List (Sum D Nat)} {ds : List D}, datas st ys = some ds → i ∈ ixs ys → ∃ d, Owns st i d := fun {ys} => by
          induction ys with
          | nil => intro ds _ hh; simp [ixs] at hh
          | cons y ys ih =>
            intro ds ee hh
            cases y with
            | inl z =>
              unfold datas at ee
              cases e3 : datas st ys with
              | none => rw [e3] at ee; cases ee
              | some zs => exact ih e3 hh
            | inr z =>
              unfold datas at ee
              cases e4 : cont st z with
              | none => rw [e4] at ee; cases ee
              | some w =>
                rw [e4] at ee
                cases e3 : datas st ys with
                | none => rw [e3] at ee; cases ee
                | some zs =>
                  rcases List.mem_cons.mp hh with y1 | y1
                  · subst y1; exact ⟨w, cont_owns e4⟩
                  · exact ih e3 y1
        obtain ⟨d, oi⟩ := own_i e1 q1
        exact k1 (h.inj i j d x a oi (cont_owns e0) q2 r ▸ q1)
/-! ### behind the call -/
theorem setC_get_ne {st : DS} {j i : Nat} {d : D} (h : i ≠ j) : (setC st j d)[i]? = st[i]? := by
  unfold setC
  split <;> first | exact List.getElem?_set_ne (Ne.symm h) | rfl
theorem setC_len {st : DS} {j : Nat} {d : D} : (setC st j d).length = st.length := by
  unfold setC
  split <;> first | exact List.length_set | rfl
theorem setC_at {st : DS} {j : Nat} {d x : D} (h : Owns st j x) : ((setC st j d)[j]? = some (.ow d) ∧ st[j]? = some (.ow x)) ∨ ((setC st j d)[j]? = some (.io d) ∧ st[j]? = some (.io x)) := by
  unfold setC
  rcases h with h | h
  · have hi : j < st.length := (List.getElem?_eq_some_iff.mp h).1
    rw [h]
    exact .inl ⟨List.getElem?_set_self hi, rfl⟩
  · have hi : j < st.length := (List.getElem?_eq_some_iff.mp h).1
    rw [h]
    exact .inr ⟨List.getElem?_set_self hi, rfl⟩
theorem back_len : ∀ {js : List Nat} {ios : List D} {st st3 : DS}, back js ios st = some st3 → st3.length = st.length
  | [], [], st, st3, e => by simp only [back] at e; cases e; rfl
  | [], _ :: _, _, _, e => by simp [back] at e
  | _ :: _, [], _, _, e => by simp [back] at e
  | j :: js, d :: ios, st, st3, e => by
    rw [back_len (js := js) (ios := ios) (by simpa only [back] using e), setC_len]
theorem back_ne : ∀ {js : List Nat} {ios : List D} {st st3 : DS} {i : Nat}, back js ios st = some st3 → i ∉ js → st3[i]? = st[i]?
  | [], [], st, st3, _, e, _ => by simp only [back] at e; cases e; rfl
  | [], _ :: _, _, _, _, e, _ => by simp [back] at e
  | _ :: _, [], _, _, _, e, _ => by simp [back] at e
  | j :: js, d :: ios, st, st3, i, e, hi => by
    rw [back_ne (js := js) (ios := ios) (i := i) (by simpa only [back] using e) (fun z => hi (List.mem_cons_of_mem _ z)), setC_get_ne (fun z => hi (by rw [z]; exact List.mem_cons_self))]
theorem back_at : ∀ {js : List Nat} {ios : List D} {st st3 : DS} {i : Nat} {x : D}, back js ios st = some st3 → js.Nodup → i ∈ js → Owns st i x →
    ∃ d, (i, d) ∈ js.zip ios ∧ ((st3[i]? = some (.ow d) ∧ st[i]? = some (.ow x)) ∨ (st3[i]? = some (.io d) ∧ st[i]? = some (.io x)))
  | [], _, _, _, _, _, _, _, h, _ => by simp at h
  | _ :: _, [], _, _, _, _, e, _, _, _ => by simp [back] at e
  | j :: js, d :: ios, st, st3, i, x, e, nd, hi, ho => by
    obtain ⟨n1, n2⟩ := List.nodup_cons.mp nd
    have e' : back js ios (setC st j d) = some st3 := by simpa only [back] using e
    by_cases hj : i = j
    · subst hj
      have q := setC_at (d := d) ho
      rw [back_ne e' n1]
      exact ⟨d, List.mem_cons_self, q⟩
    · have hi' : i ∈ js := by
        rcases List.mem_cons.mp hi with z | z
        · exact absurd z hj
        · exact z
      have ho' : Owns (setC st j d) i x := by
        unfold Owns
        rw [setC_get_ne hj]
        exact ho
      obtain ⟨d', q1, q2⟩ := back_at e' n2 hi' ho'
      rw [setC_get_ne hj] at q2
      exact ⟨d', List.mem_cons_of_mem _ q1, q2⟩
theorem out_get {S S' H' : Hp} : ∀ {ms : List Bool} {vs : List V} {ys : List (Sum D Nat)} {ios : List D} {j : Nat} {d : D}, PrepR G S σ ms vs ys → OutR G S' H' ms vs ios → (j, d) ∈ (ixs ys).zip ios →
    ∃ a o, σ[j]? = some (some (.ref a)) ∧ H' a = some o ∧ Top G S' o d ∧ S' a = none ∧ a ∈ ioA ms vs
  | _, _, _, _, _, _, .nil, .nil, h => by simp [ixs] at h
  | false :: ms, v :: vs, _, _, _, _, .sh _ t, .sh q, h => by
    obtain ⟨a, o, h1, h2, h3, h4, h5⟩ := out_get t q h
    exact ⟨a, o, h1, h2, h3, h4, by cases v <;> exact h5⟩
  | _, _, _, _, _, _, .io r t, .io q1 q2 q3 q, h => by
    rcases List.mem_cons.mp h with z | z
    · cases z
      exact ⟨_, _, r, q1, q2, q3, List.mem_cons_self⟩
    · obtain ⟨a, o, h1, h2, h3, h4, h5⟩ := out_get t q z
      exact ⟨a, o, h1, h2, h3, h4, List.mem_cons_of_mem _ h5⟩
theorem datas_own {st : DS} {i : Nat} : ∀ {ys : List (Sum D Nat)} {ds : List D}, datas st ys = some ds → i ∈ ixs ys → ∃ d, Owns st i d := fun {ys} => by
  induction ys with
  | nil => intro ds _ hh; simp [ixs] at hh
  | cons y ys ih =>
    intro ds ee hh
    cases y with
    | inl z =>
      unfold datas at ee
      cases e3 : datas st ys with
      | none => rw [e3] at ee; cases ee
      | some zs => exact ih e3 hh
    | inr z =>
      unfold datas at ee
      cases e4 : cont st z with
      | none => rw [e4] at ee; cases ee
      | some w =>
        rw [e4] at ee
        cases e3 : datas st ys with
        | none => rw [e3] at ee; cases ee
        | some zs =>
          rcases List.mem_cons.mp hh with y1 | y1
          · subst y1; exact ⟨w, cont_owns e4⟩
          · exact ih e3 y1
/-- the caller's state behind the call -/
theorem back_ok {S S' H' : Hp} {st st3 : DS} {ms : List Bool} {vs : List V} {ys : List (Sum D Nat)} {ds ios : List D} (h : StR G P R S H σ st) (pr : PrepR G S σ ms vs ys) (ed : datas st ys = some ds) (nd : (ixs ys).Nodup)
    (e : Same S S') (l : Le S' H') (f : Frm (frame R H σ st (ixs ys)) S' H') (o : OutR G S' H' ms vs ios) (eb : back (ixs ys) ios st = some st3) :
    StR G P R S' H' σ st3 ∧ ∀ v a, ResR G (frame R H σ st (ixs ys)) S' H' (ioA ms vs) v a → RepV G R S' H' σ st3 v a := by
  -- an owner behind the call was one ahead of it
  have old : ∀ {i : Nat} {d : D}, Owns st3 i d → ∃ x, Owns st i x := fun {i d} q => by
    by_cases hi : i ∈ ixs ys
    · exact datas_own ed hi
    · unfold Owns at q
      rw [back_ne eb hi] at q
      exact ⟨d, q⟩
  have rfr : ∀ {b : Addr} {u : HO}, R b = some u → frame R H σ st (ixs ys) b = some u := fun {b u} q => by
    unfold frame
    rw [if_neg]
    · exact q
    · rintro ⟨i, d', q1, q2, _⟩
      obtain ⟨a, o', z1, _, _, _, z5⟩ := h.own i d' q1
      rw [q2] at z1; cases z1
      rw [q] at z5; cases z5
  have own3 : ∀ {i : Nat} {d : D}, Owns st3 i d → ∃ a u, σ[i]? = some (some (.ref a)) ∧ H' a = some u ∧ Top G S' u d ∧ S' a = none ∧ R a = none ∧ (i ∈ ixs ys → a ∈ ioA ms vs) ∧ (i ∉ ixs ys → frame R H σ st (ixs ys) a = some u) := fun {i d} q => by
    by_cases hi : i ∈ ixs ys
    · obtain ⟨x, ox⟩ := datas_own ed hi
      obtain ⟨d', q1, q2⟩ := back_at eb nd hi ox
      have ed' : d = d' := by
        unfold Owns at q
        rcases q2 with ⟨q2, _⟩ | ⟨q2, _⟩ <;> (rw [q2] at q; rcases q with q | q <;> first | (cases q; rfl) | cases q)
      subst ed'
      obtain ⟨a, u, h1, h2, h3, h4, h5⟩ := out_get pr o q1
      obtain ⟨b, _, z1, _, _, _, z5⟩ := h.own i x ox
      rw [h1] at z1; cases z1
      exact ⟨a, u, h1, h2, h3, h4, z5, fun _ => h5, fun z => absurd hi z⟩
    · have q' := q
      unfold Owns at q'
      rw [back_ne eb hi] at q'
      obtain ⟨a, u, z1, z2, z3, z4, z5⟩ := h.own i d q'
      have fa : frame R H σ st (ixs ys) a = some u := by
        unfold frame
        rw [if_pos ⟨i, d, q', z1, hi⟩]
        exact z2
      obtain ⟨f1, f2⟩ := f a u fa
      exact ⟨a, u, z1, f1, z3.mono e, f2, z5, fun z => absurd z hi, fun _ => fa⟩
  refine ⟨⟨by rw [back_len eb]; exact h.len, l, fun i d q => ?_, fun i d q => ?_, fun i j d d' a q1 q2 q3 q4 => ?_, fun i d q => ?_, fun a u q => f a u (rfr q)⟩, fun v a r => ?_⟩
  · have hi : i ∉ ixs ys := fun hi => by
      obtain ⟨x, ox⟩ := datas_own ed hi
      obtain ⟨d', _, q2⟩ := back_at eb nd hi ox
      rcases q2 with ⟨q2, _⟩ | ⟨q2, _⟩ <;> (rw [q2] at q; cases q)
    rw [back_ne eb hi] at q
    obtain ⟨v, z1, z2⟩ := h.val i d q
    exact ⟨v, z1, z2.mono e⟩
  · obtain ⟨a, u, h1, h2, h3, h4, h5, _⟩ := own3 q
    exact ⟨a, u, h1, h2, h3, h4, h5⟩
  · obtain ⟨x, ox⟩ := old q1
    obtain ⟨y, oy⟩ := old q2
    exact h.inj i j x y a ox oy q3 q4
  · by_cases hi : i ∈ ixs ys
    · obtain ⟨x, ox⟩ := datas_own ed hi
      obtain ⟨d', _, q2⟩ := back_at eb nd hi ox
      rcases q2 with ⟨q2, _⟩ | ⟨q2, q3⟩
      · rw [q2] at q; cases q
      · exact h.pin i x q3
    · rw [back_ne eb hi] at q
      exact h.pin i d q
  · cases a with
    | d x => exact r
    | sl i => exact r.elim
    | fr x =>
      obtain ⟨p, u, r1, r2, r3, r4, r5, r6⟩ := r
      refine ⟨p, u, r1, r2, r3, r4, ?_, fun i d q z => ?_⟩
      · cases er : R p with
        | none => rfl
        | some u' => rw [rfr er] at r5; cases r5
      · obtain ⟨a, u', h1, _, _, _, _, h6, h7⟩ := own3 q
        rw [h1] at z; cases z
        by_cases hi : i ∈ ixs ys
        · exact r6 (h6 hi)
        · rw [h7 hi] at r5; cases r5
end
theorem Pvs.append {G : Gx} {S : Hp} {σ : L2.St} : ∀ {vs us : List V} {as bs : List Val}, Pvs G S σ vs as → Pvs G S σ us bs → Pvs G S σ (vs ++ us) (as ++ bs)
  | _, _, _, _, .nil, t => t
  | _, _, _, _, .cons h r, t => .cons h (r.append t)
theorem pvs_d {G : Gx} {S : Hp} {σ : L2.St} : ∀ {vs : List V} {ds : List D}, RepAll G S vs ds → Pvs G S σ vs (ds.map .d)
  | _, _, .nil => .nil
  | _, _, .cons h t => .cons h (pvs_d t)
section
variable {X : Cx} {W : WX}
theorem tcall_of {G : Gx} {W : WX} {F : FnD} {ms : List Bool} {dvs : List V} {dd : List D} {ga : GA} (hd : ∀ S, RepAll G S dvs dd) : ∀ σ H Q, tD G W (gCall F ms dd ga) σ H Q → tCallSD (spOf G ms F) dvs (WE W) (tDA G W ga) σ H Q := by
  rintro σ H Q ⟨P, R, S, st, h, fi⟩
  refine ⟨P, R, S, st, h, Fin.imp (Fin.bind fi) fun as st1 S1 H1 e1 h1 k vs ps => ?_⟩
  cases ep : prep ms st1 (as ++ dd.map .d) with
  | none => rw [ep] at k; exact k.elim
  | some p =>
    obtain ⟨ys, st2⟩ := p
    rw [ep] at k
    dsimp only at k
    by_cases nd : (ixs ys).Nodup
    · rw [if_pos nd] at k
      cases ed : datas st2 ys with
      | none => rw [ed] at k; exact k.elim
      | some ds =>
        rw [ed] at k
        dsimp only at k
        obtain ⟨S2, e2, h2, pr⟩ := prep_ok h1 (ps.append (pvs_d (hd S1))) ep
        refine ⟨frame R H1 σ st2 (ixs ys), S2, ds, h2.sub, frame_of h2, arg_ok h2 pr ed (fun j hj => hj), nodup_io h2 pr ed nd, ?_⟩
        cases ef : F ds with
        | no => rw [ef] at k; exact k.elim
        | ok a ios =>
          rw [ef] at k
          dsimp only at k
          intro v S' H' e3 l f o r
          cases eb : back (ixs ys) ios st2 with
          | none => rw [eb] at k; exact k.elim
          | some st3 =>
            rw [eb] at k
            obtain ⟨h3, r3⟩ := back_ok h2 pr ed nd e3 l f o eb
            exact k S' H' (e2.trans e3) h3 v (r3 v a r)
        | ex x ios =>
          rw [ef] at k
          dsimp only at k
          intro cls d S' H' e3 l f o r
          cases eb : back (ixs ys) ios st2 with
          | none => rw [eb] at k; exact k.elim
          | some st3 =>
            rw [eb] at k
            obtain ⟨h3, _⟩ := back_ok h2 pr ed nd e3 l f o eb
            exact k cls d S' H' (e2.trans e3) h3 r
    · rw [if_neg nd] at k
      exact k.elim
theorem de_call {x : Str} {p pos : Pos} {e : Expr} {es : List Expr} {k : Nat} {f : Addr} {fd : FuncData} {ps : List Str} {ms : List Bool} {F : FnD} {dvs : List V} {ds : List Value} {dd : List D} {ga : GA} (Fn : FnOk X.prog X.w X.K X.mg X.base (L2.CX X.prog X.w) k f fd ps (spOf (gx X) ms F))
    (hr : Room k X.A) (hg : Gl X x) (hm : X.mg x = some (.ref f)) (hk : PySem.W.keepIn X.K (.ref f) = true) (hb : Binds X.K fd ps ds) (hd : Vals dvs ds) (hdd : ∀ S, RepAll (gx X) S dvs dd) (tk : Takes X W) (ha : DA X W (e :: es) ga) (hdb : (x == ("__debug__" : Str)) = false)
    (he : starEach (e :: es) X.env = (false, eval e X.env) :: starEach es X.env) (hpl : (backTo pos (starEach es X.env)).any (·.1) = false) : DE X W (.Call (.Name x p) (e :: es) [] pos) (gCall F ms dd ga) :=
  pe_imp (pe_callSD Fn hr hg hm hk hb hd (fun σ => passAt tk σ) ha hdb he hpl) (tcall_of hdd)
end
end DL
end
section
/-! DLh: the operators and built-ins on data. -/
namespace DL
open PySem PySem.Spec PyProof.Rows L2

def vi (i : Int) : Option Val := some (.d (.int i))
def vb (b : Bool) : Option Val := some (.d (.bl b))
def vs (x : Str) : Option Val := some (.d (.str x))
abbrev F2 := D → D → Option Val
def orF (f g : F2) : F2 := fun x y => match f x y with
  | some c => some c
  | none => g x y
def ints2 (f : Int → Int → Option Val) : F2
  | .int i, .int j => f i j
  | _, _ => none
def strs2 (f : Str → Str → Option Val) : F2
  | .str i, .str j => f i j
  | _, _ => none
section
variable {G : Gx}
theorem OpS.or {r r' : R2} {f g : F2} (h : OpS G r f) (h' : OpS G r' g) : OpS G (fun x y H Q => r x y H Q ∨ r' x y H Q) (orF f g) := fun P R S H σ st v u x y c Q hs hv hu e k => by
  unfold orF at e
  cases ef : f x y with
  | some c' =>
    rw [ef] at e
    cases e
    exact .inl (h P R S H σ st v u x y c Q hs hv hu ef k)
  | none =>
    rw [ef] at e
    exact .inr (h' P R S H σ st v u x y c Q hs hv hu e k)
theorem opS_rI {C : Int → Int → Prop} {g : Int → Int → Int} (c : Int → Int → Bool) (hc : ∀ i j, c i j = true → C i j) : OpS G (rI C (fun i j => .int (g i j))) (ints2 fun i j => if c i j = true then vi (g i j) else none) := fun P R S H σ st v u x y cc Q hs hv hu e k => by
  unfold ints2 at e
  split at e
  · rename_i i j
    dsimp only at e
    split at e
    · rename_i hcc
      cases e
      exact ⟨i, j, hv.int, hu.int, hc i j hcc, k _ S H (Same.refl S) hs (.int _)⟩
    · cases e
  · cases e
theorem opS_rI0 {g : Int → Int → Int} : OpS G (rI0 (fun i j => .int (g i j))) (ints2 fun i j => vi (g i j)) := fun P R S H σ st v u x y cc Q hs hv hu e k => by
  unfold ints2 at e
  split at e
  · rename_i i j
    cases e
    exact ⟨i, j, hv.int, hu.int, k _ S H (Same.refl S) hs (.int _)⟩
  · cases e
theorem opS_rB {g : Int → Int → Bool} : OpS G (rI0 (fun i j => .bl (g i j))) (ints2 fun i j => vb (g i j)) := fun P R S H σ st v u x y cc Q hs hv hu e k => by
  unfold ints2 at e
  split at e
  · rename_i i j
    cases e
    exact ⟨i, j, hv.int, hu.int, k _ S H (Same.refl S) hs (.bl _)⟩
  · cases e
/-! ### + -/
def fits (n : Nat) : Bool := decide (n ≤ sizeLine)
theorem fits_of {n : Nat} (h : fits n = true) : n ≤ sizeLine := of_decide_eq_true h
def catF : F2
  | .lst xs, .lst ys => if fits (xs.length + ys.length) = true then some (.fr (.lst (xs ++ ys))) else none
  | _, _ => none
theorem opS_cat : OpS G rCat catF := fun P R S H σ st v u x y cc Q hs hv hu e k => by
  unfold catF at e
  split at e
  · rename_i xs ys
    split at e
    · rename_i hz
      cases e
      obtain ⟨a, as, rfl, ha, ra⟩ := hv.lst hs.sub
      obtain ⟨b, bs, rfl, hb, rb⟩ := hu.lst hs.sub
      refine ⟨a, b, as, bs, rfl, rfl, ha, hb, by rw [ra.length, rb.length]; exact fits_of hz, fun p np => ?_⟩
      obtain ⟨h3, f3⟩ := hs.alloc np (.lst (ra.append rb))
      exact k _ S _ (Same.refl S) h3 f3
    · cases e
  · cases e
def addSF : F2 := strs2 fun x y => if fits (x.length + y.length) = true then vs (x ++ y) else none
theorem opS_addS : OpS G (fun x y H Q => ∃ i j, x = .str i ∧ y = .str j ∧ i.length + j.length ≤ sizeLine ∧ Q (.str (i ++ j)) H) addSF := fun P R S H σ st v u x y cc Q hs hv hu e k => by
  unfold addSF strs2 at e
  split at e
  · rename_i i j
    dsimp only at e
    split at e
    · rename_i hz
      cases e
      exact ⟨i, j, hv.str, hu.str, fits_of hz, k _ S H (Same.refl S) hs (.str _)⟩
    · cases e
  · cases e
def addF : F2 := orF (ints2 fun i j => vi (i + j)) (orF addSF catF)
def subF : F2 := ints2 fun i j => vi (i - j)
def mulC (i j : Int) : Bool := (decide (-(2 ^ 64) < i) && decide (i < 2 ^ 64)) || (decide (-(2 ^ 64) < j) && decide (j < 2 ^ 64))
def mulW (i j : Int) : Bool := decide (i.natAbs.log2 + j.natAbs.log2 < 1000000)
@[irreducible] def mulF : F2 := orF (ints2 fun i j => if mulC i j = true then vi (i * j) else none) (ints2 fun i j => if mulW i j = true then vi (i * j) else none)
def fdivC (_ j : Int) : Bool := decide (0 < j) && decide (j.natAbs.log2 < 9000)
@[irreducible] def fdivF : F2 := ints2 fun i j => if fdivC i j = true then vi (i / j) else none
@[irreducible] def modF : F2 := ints2 fun i j => if decide (0 < j) = true then vi (i % j) else none
def powC (i j : Int) : Bool := decide (0 ≤ j) && decide (j ≤ 1000000) && decide (i.natAbs < 2 ^ 64)
@[irreducible] def powF : F2 := ints2 fun i j => if powC i j = true then vi (i ^ j.toNat) else none
theorem mulC_ok {i j : Int} (h : mulC i j = true) : CMul i j := by
  unfold mulC at h
  rw [Bool.or_eq_true, Bool.and_eq_true, Bool.and_eq_true, decide_eq_true_eq, decide_eq_true_eq, decide_eq_true_eq, decide_eq_true_eq] at h
  exact h
theorem fdivC_ok {i j : Int} (h : fdivC i j = true) : CDivW i j := by
  unfold fdivC at h
  rw [Bool.and_eq_true, decide_eq_true_eq, decide_eq_true_eq] at h
  exact h
theorem powC_ok {i j : Int} (h : powC i j = true) : CPow i j := by
  unfold powC at h
  rw [Bool.and_eq_true, Bool.and_eq_true, decide_eq_true_eq, decide_eq_true_eq, decide_eq_true_eq] at h
  exact ⟨h.1.1, h.1.2, h.2⟩
end
section
variable {X : Cx} {W : WX} {a b : Expr} {ga gb : GE} {pos : Pos}
theorem de_add (ha : DE X W a ga) (hb : DE X W b gb) : DE X W (.BinOp a .Add b pos) (gOp2 addF ga gb) := de_op (op_add.or (op_add_str.or op_cat)) (opS_rI0.or (opS_addS.or opS_cat)) ha hb
theorem de_sub (ha : DE X W a ga) (hb : DE X W b gb) : DE X W (.BinOp a .Sub b pos) (gOp2 subF ga gb) := de_op op_sub opS_rI0 ha hb
theorem de_mul (ha : DE X W a ga) (hb : DE X W b gb) : DE X W (.BinOp a .Mult b pos) (gOp2 mulF ga gb) := by
  unfold mulF
  exact de_op (op_mul.or op_mulW) ((opS_rI mulC fun _ _ h => mulC_ok h).or (opS_rI mulW fun i j h => (of_decide_eq_true h : i.natAbs.log2 + j.natAbs.log2 < 1000000))) ha hb
theorem de_fdiv (ha : DE X W a ga) (hb : DE X W b gb) : DE X W (.BinOp a .FloorDiv b pos) (gOp2 fdivF ga gb) := by
  unfold fdivF
  exact de_op op_fdivW (opS_rI fdivC fun _ _ h => fdivC_ok h) ha hb
theorem de_mod (ha : DE X W a ga) (hb : DE X W b gb) : DE X W (.BinOp a .Mod b pos) (gOp2 modF ga gb) := by
  unfold modF
  exact de_op op_mod (opS_rI (fun _ j => decide (0 < j)) fun _ _ h => of_decide_eq_true h) ha hb
theorem de_pow (ha : DE X W a ga) (hb : DE X W b gb) : DE X W (.BinOp a .Pow b pos) (gOp2 powF ga gb) := by
  unfold powF
  exact de_op op_pow (opS_rI powC fun _ _ h => powC_ok h) ha hb
/-! ### one operand -/
def gOp1 (f : D → Option Val) (g : GE) : GE := fun st => (g st).bind fun a st1 => match look st1 a with
  | some x => lift (f x) st1
  | none => .no
def negF : D → Option Val
  | .int i => vi (-i)
  | _ => none
theorem de_neg (ha : DE X W a ga) : DE X W (.UnaryOp .USub a pos) (gOp1 negF ga) :=
  pe_imp (pe_un un_neg ha) fun σ H Q ⟨P, R, S, st, h, fi⟩ => ⟨P, R, S, st, h, Fin.imp (Fin.bind fi) fun a st1 S1 H1 e1 h1 k v rv => by
    obtain ⟨S2, e2, h2, pv⟩ := h1.settle rv
    cases ea : look st1 a with
    | none => rw [ea] at k; exact k.elim
    | some x =>
      rw [ea] at k
      cases x with
      | int i =>
        have := (pv.look h2 ea).int
        exact ⟨i, this, k S1 H1 (Same.refl _) h1 _ (.int _)⟩
      | _ => exact k.elim⟩
end
/-! ### order -/
def ltF : F2 := ints2 fun i j => vb (decide (i < j))
def leF : F2 := ints2 fun i j => vb (decide (i ≤ j))
def gtF : F2 := ints2 fun i j => vb (decide (j < i))
def geF : F2 := ints2 fun i j => vb (decide (j ≤ i))
section
variable {X : Cx} {W : WX} {a b c : Expr} {ga gb gc : GE} {pos : Pos}
theorem de_lt (ha : DE X W a ga) (hb : DE X W b gb) : DE X W (.Compare a [.Lt] [b] pos) (gOp2 ltF ga gb) := de_cmp op_lt opS_rB ha hb (nomark _)
theorem de_le (ha : DE X W a ga) (hb : DE X W b gb) : DE X W (.Compare a [.LtE] [b] pos) (gOp2 leF ga gb) := de_cmp op_le opS_rB ha hb (nomark _)
theorem de_gt (ha : DE X W a ga) (hb : DE X W b gb) : DE X W (.Compare a [.Gt] [b] pos) (gOp2 gtF ga gb) := de_cmp op_gt opS_rB ha hb (nomark _)
theorem de_ge (ha : DE X W a ga) (hb : DE X W b gb) : DE X W (.Compare a [.GtE] [b] pos) (gOp2 geF ga gb) := de_cmp op_ge opS_rB ha hb (nomark _)
theorem dt_lt (ha : DE X W a ga) (hb : DE X W b gb) : DT X W (.Compare a [.Lt] [b] pos) (gTst (gOp2 ltF ga gb)) := dt_cmp op_lt opS_rB ha hb (nomark _)
theorem dt_le (ha : DE X W a ga) (hb : DE X W b gb) : DT X W (.Compare a [.LtE] [b] pos) (gTst (gOp2 leF ga gb)) := dt_cmp op_le opS_rB ha hb (nomark _)
theorem dt_gt (ha : DE X W a ga) (hb : DE X W b gb) : DT X W (.Compare a [.Gt] [b] pos) (gTst (gOp2 gtF ga gb)) := dt_cmp op_gt opS_rB ha hb (nomark _)
theorem dt_ge (ha : DE X W a ga) (hb : DE X W b gb) : DT X W (.Compare a [.GtE] [b] pos) (gTst (gOp2 geF ga gb)) := dt_cmp op_ge opS_rB ha hb (nomark _)
end
/-! ### == and != -/
mutual
def py : D → Option PyData
  | .non => some .none
  | .bl b => some (.bool b)
  | .int i => some (.int i)
  | .str x => some (.str x)
  | .lst xs => (pys xs).map .list
  | .tup xs => (pys xs).map .tuple
  | .dct _ => none
  | .ins _ _ => none
  | .ty _ => none
  | .cls _ => none
  | .scr _ => none
def pys : List D → Option (List PyData)
  | [] => some []
  | x :: xs => match py x, pys xs with
    | some d, some ds => some (d :: ds)
    | _, _ => none
end
section
variable {G : Gx} {S H : Hp}
mutual
theorem dp_of (l : Le S H) : ∀ {x : D} {d : PyData} {v : V}, py x = some d → Rep G S v x → Dp G.K H v d
  | .non, _, _, e, r => by cases e; cases r; exact .non
  | .bl b, _, _, e, r => by cases e; cases r; exact .bl b
  | .int i, _, _, e, r => by cases e; cases r; exact .int i
  | .str x, _, _, e, r => by cases e; cases r; exact .str x
  | .lst xs, d, v, e, r => by
    unfold py at e
    cases e1 : pys xs with
    | none => rw [e1] at e; cases e
    | some ds =>
      rw [e1] at e
      cases e
      cases r with
      | lst h ra => exact .lst (SqL.of (l.lst h)) (dps_of l e1 ra)
  | .tup xs, d, v, e, r => by
    unfold py at e
    cases e1 : pys xs with
    | none => rw [e1] at e; cases e
    | some ds =>
      rw [e1] at e
      cases e
      obtain ⟨a, ys, rfl, ha, ra⟩ := r.tupAt
      exact .tup (l.tupAt ha).sq (dps_of l e1 ra)
  | .dct _, _, _, e, _ => by simp [py] at e
  | .ins _ _, _, _, e, _ => by simp [py] at e
  | .ty _, _, _, e, _ => by simp [py] at e
  | .cls _, _, _, e, _ => by simp [py] at e
  | .scr _, _, _, e, _ => by simp [py] at e
theorem dps_of (l : Le S H) : ∀ {xs : List D} {ds : List PyData} {vs : List V}, pys xs = some ds → RepAll G S vs xs → DpAll G.K H vs ds
  | [], _, _, e, r => by simp only [pys] at e; cases e; cases r; exact .nil
  | x :: xs, ds, vs, e, r => by
    unfold pys at e
    cases e1 : py x with
    | none => rw [e1] at e; cases e
    | some d =>
      rw [e1] at e
      cases e2 : pys xs with
      | none => rw [e2] at e; cases e
      | some ds' =>
        rw [e2] at e
        cases e
        cases r with
        | cons r1 r2 => exact .cons (dp_of l e1 r1) (dps_of l e2 r2)
end
theorem dpT_of (l : Le S H) {x : D} {d : PyData} {v : V} (e : py x = some d) (r : RepT G S H v x) : Dp G.K H v d := by
  rcases r with r | ⟨a, o, rfl, ha, t⟩
  · exact dp_of l e r
  · cases t with
    | lst ra =>
      unfold py at e
      cases e1 : pys _ with
      | none => rw [e1] at e; cases e
      | some ds => rw [e1] at e; cases e; exact .lst (SqL.of ha) (dps_of l e1 ra)
    | dK _ => simp [py] at e
    | dT _ => simp [py] at e
    | ins _ _ => simp [py] at e
end
/-- the answer of == -/
def eqD (x y : D) : Option Bool := match x, y with
  | .int i, .int j => some (i == j)
  | .str i, .str j => some (i == j)
  | .bl i, .bl j => some (i == j)
  | x, y => match py x, py y with
    | some d, some e => if (SeqAt.shaped d && SeqAt.shaped e) = true then some (PyData.eqv d e) else none
    | _, _ => none
def eqF : F2 := fun x y => match eqD x y with
  | some b => vb b
  | none => none
def neF : F2 := fun x y => match eqD x y with
  | some b => vb (!b)
  | none => none
theorem eqD_ok {G : Gx} {S H : Hp} {v u : V} {x y : D} {b : Bool} (l : Le S H) (hv : RepT G S H v x) (hu : RepT G S H u y) (e : eqD x y = some b) :
    (scal v u = true ∧ decide (v = u) = b) ∨ ∃ d d', Dp G.K H v d ∧ Dp G.K H u d' ∧ SeqAt.shaped d = true ∧ SeqAt.shaped d' = true ∧ PyData.eqv d d' = b := by
  unfold eqD at e
  split at e
  · cases e; rw [hv.int, hu.int]; exact .inl ⟨rfl, dec_int⟩
  · cases e; rw [hv.str, hu.str]; exact .inl ⟨rfl, dec_str⟩
  · cases e; rw [hv.bl, hu.bl]; exact .inl ⟨rfl, dec_bl⟩
  · cases e1 : py x with
    | none => rw [e1] at e; cases e
    | some d =>
      rw [e1] at e
      cases e2 : py y with
      | none => rw [e2] at e; cases e
      | some d' =>
        rw [e2] at e
        dsimp only at e
        split at e
        · rename_i hs
          cases e
          rw [Bool.and_eq_true] at hs
          exact .inr ⟨d, d', dpT_of l e1 hv, dpT_of l e2 hu, hs.1, hs.2, rfl⟩
        · cases e
theorem opS_eq {G : Gx} : OpS G (fun x y H Q => rEq x y H Q ∨ rEqD G.K x y H Q) eqF := fun P R S H σ st v u x y cc Q hs hv hu e k => by
  unfold eqF at e
  cases eb : eqD x y with
  | none => rw [eb] at e; cases e
  | some b =>
    rw [eb] at e
    cases e
    have q := k (.bl b) S H (Same.refl S) hs (.bl b)
    rcases eqD_ok hs.sub hv hu eb with ⟨h1, h2⟩ | ⟨d, d', h1, h2, h3, h4, h5⟩
    · exact .inl ⟨h1, by rw [h2]; exact q⟩
    · exact .inr ⟨d, d', h1, h2, h3, h4, by rw [h5]; exact q⟩
theorem opS_ne {G : Gx} : OpS G (fun x y H Q => rNe x y H Q ∨ rNeD G.K x y H Q) neF := fun P R S H σ st v u x y cc Q hs hv hu e k => by
  unfold neF at e
  cases eb : eqD x y with
  | none => rw [eb] at e; cases e
  | some b =>
    rw [eb] at e
    cases e
    have q := k (.bl (!b)) S H (Same.refl S) hs (.bl (!b))
    rcases eqD_ok hs.sub hv hu eb with ⟨h1, h2⟩ | ⟨d, d', h1, h2, h3, h4, h5⟩
    · exact .inl ⟨h1, by rw [h2]; exact q⟩
    · exact .inr ⟨d, d', h1, h2, h3, h4, by rw [h5]; exact q⟩
section
variable {X : Cx} {W : WX} {a b c : Expr} {ga gb gc : GE} {pos : Pos}
theorem de_eq (hu : X.A.units + 64 < cLine) (ha : DE X W a ga) (hb : DE X W b gb) : DE X W (.Compare a [.Eq] [b] pos) (gOp2 eqF ga gb) := de_cmp (op_eq.or (op_eqD hu)) opS_eq ha hb (nomark _)
theorem de_ne (hu : X.A.units + 64 < cLine) (ha : DE X W a ga) (hb : DE X W b gb) : DE X W (.Compare a [.NotEq] [b] pos) (gOp2 neF ga gb) := de_cmp (op_ne.or (op_neD hu)) opS_ne ha hb (nomark _)
theorem dt_eq (hu : X.A.units + 64 < cLine) (ha : DE X W a ga) (hb : DE X W b gb) : DT X W (.Compare a [.Eq] [b] pos) (gTst (gOp2 eqF ga gb)) := dt_cmp (op_eq.or (op_eqD hu)) opS_eq ha hb (nomark _)
theorem dt_ne (hu : X.A.units + 64 < cLine) (ha : DE X W a ga) (hb : DE X W b gb) : DT X W (.Compare a [.NotEq] [b] pos) (gTst (gOp2 neF ga gb)) := dt_cmp (op_ne.or (op_neD hu)) opS_ne ha hb (nomark _)
end
/-! ### items -/
def itemF : F2
  | .lst xs, .int i => (atI xs i).map .d
  | .tup xs, .int i => (atI xs i).map .d
  | .scr ns, .int i => (atI ns i).map fun n => .d (.int n)
  | .str x, .int i => if fits x.length = true then (atI x.cps.toList i).map fun c => .d (.str ⟨#[c]⟩) else none
  | _, _ => none
theorem atI_rep {G : Gx} {S : Hp} {vs : List V} {ds : List D} {i : Int} {d : D} (r : RepAll G S vs ds) (e : atI ds i = some d) : ∃ v, atI vs i = some v ∧ Rep G S v d := by
  unfold atI at e ⊢
  rw [r.length]
  cases q : ixN ds.length i with
  | none => rw [q] at e; cases e
  | some j =>
    rw [q] at e
    exact r.get e
theorem opS_item {G : Gx} : OpS G (rIx G.K) itemF := fun P R S H σ st v u x y cc Q hs hv hu e k => by
  unfold itemF at e
  split at e
  · rename_i xs i
    cases q : atI xs i with
    | none => rw [q] at e; cases e
    | some d =>
      rw [q] at e
      cases e
      obtain ⟨a, as, rfl, ha, ra⟩ := hv.lst hs.sub
      obtain ⟨w, h1, h2⟩ := atI_rep ra q
      exact .inl ⟨a, as, i, w, rfl, hu.int, SqL.of ha, h1, k w S H (Same.refl S) hs h2⟩
  · rename_i xs i
    cases q : atI xs i with
    | none => rw [q] at e; cases e
    | some d =>
      rw [q] at e
      cases e
      obtain ⟨a, as, rfl, ha, ra⟩ := hv.tup hs.sub
      obtain ⟨w, h1, h2⟩ := atI_rep ra q
      exact .inr (.inl ⟨a, as, i, w, rfl, hu.int, ha.sq, h1, k w S H (Same.refl S) hs h2⟩)
  · rename_i ns i
    cases q : atI ns i with
    | none => rw [q] at e; cases e
    | some n =>
      rw [q] at e
      cases e
      obtain ⟨a, rfl, ha⟩ := hv.scr hs.sub
      have h1 : atI (ns.map V.int) i = some (V.int n) := by
        unfold atI at q ⊢
        rw [List.length_map]
        cases z : ixN ns.length i with
        | none => rw [z] at q; cases q
        | some j =>
          rw [z] at q
          have q' : ns[j]? = some n := q
          show (ns.map V.int)[j]? = some (V.int n)
          rw [List.getElem?_map, q']
          rfl
      exact .inl ⟨a, _, i, _, rfl, hu.int, ha, h1, k _ S H (Same.refl S) hs (.int n)⟩
  · rename_i x i
    split at e
    · rename_i hz
      cases q : atI x.cps.toList i with
      | none => rw [q] at e; cases e
      | some c =>
        rw [q] at e
        cases e
        exact .inr (.inr ⟨x, i, c, hv.str, hu.int, fits_of hz, q, k _ S H (Same.refl S) hs (.str _)⟩)
    · cases e
  · cases e
section
variable {X : Cx} {W : WX} {a b c : Expr} {ga gb gc : GE} {pos : Pos}
theorem de_item (ha : DE X W a ga) (hb : DE X W b gb) (hs : PlainIx b) : DE X W (.Subscript a b pos) (gOp2 itemF ga gb) := de_ix ix_seq opS_item ha hb hs
end
/-! ### slices -/
def cut {α : Type} (xs : List α) (lo hi : Option Int) : List α := (xs.drop (HT.sIx xs.length 0 lo)).take (HT.sIx xs.length xs.length hi - HT.sIx xs.length 0 lo)
def slF : D → Option Int → Option Int → Option Val
  | .lst xs, lo, hi => some (.fr (.lst (cut xs lo hi)))
  | .scr ns, lo, hi => some (.fr (.lst ((cut ns lo hi).map .int)))
  | .str x, lo, hi => if fits x.length = true then vs (cutS x lo hi) else none
  | _, _, _ => none
abbrev GO := DS → Rs (Option Int)
def gNoPart : GO := fun st => .ok none st
def gPart (g : GE) : GO := fun st => (g st).bind fun a st1 => match look st1 a with
  | some (.int i) => .ok (some i) st1
  | _ => .no
def gSl (g : GE) (gl gh : GO) : GE := fun st => (g st).bind fun a st1 => (gl st1).bind fun lo st2 => (gh st2).bind fun hi st3 => match look st3 a with
  | some x => lift (slF x lo hi) st3
  | none => .no
def tDO (G : Gx) (W : WX) (g : GO) : TO := fun σ H Q => ∃ P R S st, StR G P R S H σ st ∧ Fin G P R W σ S (g st) fun o _ _ H' => Q o H'
abbrev DO (X : Cx) (W : WX) (e : Option Expr) (g : GO) : Prop := PO X e (tDO (gx X) W g)
theorem po_imp {X : Cx} {e : Option Expr} {t t' : TO} (h : PO X e t) (q : ∀ σ H Q, t' σ H Q → t σ H Q) : PO X e t' := ⟨fun pins s σ H Q I z => h.run pins s σ H Q I (q σ H Q z)⟩
theorem slR_or {X : Cx} {r r' : V → Option Int → Option Int → Hp → VK → Prop} (h : SlR X r) (h' : SlR X r') : SlR X (fun x lo hi H Q => r x lo hi H Q ∨ r' x lo hi H Q) := by
  intro pins s σ H x v vl vu lo hi sl Q I rx hs pl pu z
  rcases z with z | z
  · exact h pins s σ H x v vl vu lo hi sl Q I rx hs pl pu z
  · exact h' pins s σ H x v vl vu lo hi sl Q I rx hs pl pu z
theorem repAll_cut {G : Gx} {S : Hp} {vs : List V} {ds : List D} (r : RepAll G S vs ds) (lo hi : Option Int) : RepAll G S (cutV vs lo hi) (cut ds lo hi) := by
  unfold cutV cut
  rw [r.length]
  exact (r.drop _).take _
theorem cut_map {α β : Type} (f : α → β) (xs : List α) (lo hi : Option Int) : cut (xs.map f) lo hi = (cut xs lo hi).map f := by
  unfold cut
  rw [List.length_map, List.map_take, List.map_drop]
section
variable {X : Cx} {W : WX} {e : Expr} {g : GE} {lo hi : Option Expr} {gl gh : GO} {pos p2 : Pos}
theorem do_none : DO X W none gNoPart := po_imp po_none fun σ H Q ⟨P, R, S, st, h, f⟩ => f S H (Same.refl S) h
theorem do_some (h : DE X W e g) : DO X W (some e) (gPart g) :=
  po_imp (po_some h) fun σ H Q ⟨P, R, S, st, h, fi⟩ => ⟨P, R, S, st, h, Fin.imp (Fin.bind fi) fun a st1 S1 H1 e1 h1 k v rv => by
    obtain ⟨S2, e2, h2, pv⟩ := h1.settle rv
    cases ea : look st1 a with
    | none => rw [ea] at k; exact k.elim
    | some x =>
      rw [ea] at k
      cases x with
      | int i =>
        have := (pv.look h2 ea).int
        exact ⟨i, this, k S1 H1 (Same.refl _) h1⟩
      | _ => exact k.elim⟩
theorem de_slice (he : DE X W e g) (hl : DO X W lo gl) (hh : DO X W hi gh) : DE X W (.Subscript e (.Slice lo hi none p2) pos) (gSl g gl gh) :=
  pe_imp (pe_slice (slR_or sl_list sl_str) he hl hh) fun σ H Q ⟨P, R, S, st, h, fi⟩ => ⟨P, R, S, st, h, Fin.imp (Fin.bind fi) fun a st1 S1 H1 e1 h1 k v rv => by
    obtain ⟨S2, e2, h2, pv⟩ := h1.settle rv
    refine ⟨P, R, S2, st1, h2, Fin.imp (Fin.bind (Fin.up k e2)) fun l st3 S3 H3 e3 h3 k3 => ⟨P, R, S3, st3, h3, Fin.imp (Fin.bind k3) fun u st4 S4 H4 e4 h4 k4 => ?_⟩⟩
    have pv' := pv.mono (e3.trans e4)
    cases ea : look st4 a with
    | none => rw [ea] at k4; exact k4.elim
    | some x =>
      rw [ea] at k4
      dsimp only at k4
      cases ec : slF x l u with
      | none => rw [ec] at k4; exact k4.elim
      | some c =>
        rw [ec] at k4
        have rt := pv'.look h4 ea
        cases x with
        | lst xs =>
          cases ec
          obtain ⟨b, bs, rfl, hb, rb⟩ := rt.lst h4.sub
          refine .inl ⟨b, bs, rfl, SqL.of hb, fun p np => ?_⟩
          obtain ⟨h5, f5⟩ := h4.alloc np (.lst (repAll_cut rb l u))
          exact k4 S4 _ (Same.refl _) h5 _ f5
        | scr ns =>
          cases ec
          obtain ⟨b, rfl, hb⟩ := rt.scr h4.sub
          refine .inl ⟨b, _, rfl, hb, fun p np => ?_⟩
          have r0 := repAll_cut (repAll_ints (G := gx X) (S := S4) ns) l u
          rw [cut_map] at r0
          obtain ⟨h5, f5⟩ := h4.alloc np (.lst r0)
          exact k4 S4 _ (Same.refl _) h5 _ f5
        | str z =>
          unfold slF at ec
          dsimp only at ec
          split at ec
          · rename_i hz
            cases ec
            exact .inr ⟨z, rt.str, fits_of hz, k4 S4 H4 (Same.refl _) h4 _ (.str _)⟩
          · cases ec
        | _ => cases ec⟩
end
/-! ### changing what a slot owns -/
theorem StR.mut {G : Gx} {P : Pin} {R S H : Hp} {σ : L2.St} {st : DS} {i : Nat} {d d' : D} {a : Addr} {o' : HO} (h : StR G P R S H σ st) (ho : Owns st i d) (hv : σ[i]? = some (some (.ref a))) (t : Top G S o' d') : StR G P R S (upd H a o') σ (setC st i d') := by
  obtain ⟨b, u, z1, z2, z3, z4, z5⟩ := h.own i d ho
  rw [hv] at z1; cases z1
  have atI' := setC_at (d := d') ho
  have old : ∀ {j : Nat} {e : D}, Owns (setC st i d') j e → (j = i ∧ e = d') ∨ (j ≠ i ∧ Owns st j e) := fun {j e} q => by
    by_cases hj : j = i
    · subst hj
      refine .inl ⟨rfl, ?_⟩
      unfold Owns at q
      rcases atI' with ⟨y, _⟩ | ⟨y, _⟩ <;> (rw [y] at q; rcases q with q | q <;> first | (cases q; rfl) | cases q)
    · refine .inr ⟨hj, ?_⟩
      unfold Owns at q
      rw [setC_get_ne hj] at q
      exact q
  refine ⟨by rw [setC_len]; exact h.len, fun c w q => ?_, fun j e q => ?_, fun j e q => ?_, fun j k e e' c q1 q2 q3 q4 => ?_, fun j e q => ?_, fun c w q => ?_⟩
  · have : c ≠ a := fun z => by subst z; rw [z4] at q; cases q
    rw [upd_ne this]
    exact h.sub c w q
  · have hj : j ≠ i := fun z => by
      subst z
      rcases atI' with ⟨y, _⟩ | ⟨y, _⟩ <;> (rw [y] at q; cases q)
    rw [setC_get_ne hj] at q
    exact h.val j e q
  · rcases old q with ⟨rfl, rfl⟩ | ⟨hj, q'⟩
    · exact ⟨a, o', hv, upd_same, t, z4, z5⟩
    · obtain ⟨b, w, y1, y2, y3, y4, y5⟩ := h.own j e q'
      have : b ≠ a := fun z => by
        subst z
        exact hj (h.inj j i e d b q' ho y1 hv)
      exact ⟨b, w, y1, by rw [upd_ne this]; exact y2, y3, y4, y5⟩
  · have f : ∀ {m : Nat} {g : D}, Owns (setC st i d') m g → ∃ g', Owns st m g' := fun {m g} q => by
      rcases old q with ⟨rfl, rfl⟩ | ⟨_, q'⟩
      · exact ⟨d, ho⟩
      · exact ⟨g, q'⟩
    obtain ⟨g1, o1⟩ := f q1
    obtain ⟨g2, o2⟩ := f q2
    exact h.inj j k g1 g2 c o1 o2 q3 q4
  · by_cases hj : j = i
    · subst hj
      rcases atI' with ⟨y, _⟩ | ⟨_, y⟩
      · rw [y] at q; cases q
      · exact h.pin j d y
    · rw [setC_get_ne hj] at q
      exact h.pin j e q
  · obtain ⟨y1, y2⟩ := h.frm c w q
    have : c ≠ a := fun z => by subst z; rw [z5] at q; cases q
    exact ⟨by rw [upd_ne this]; exact y1, y2⟩
/-- xs[i] = v -/
def setF : D → D → D → Option D
  | .lst xs, .int k, v => (ixN xs.length k).map fun j => .lst (xs.set j v)
  | _, _, _ => none
def sSetIx (ge go gi : GE) : GS := fun st => (ge st).bindS fun a st1 => (go st1).bindS fun ov st2 => (gi st2).bindS fun ix st3 => match take1 st3 a, ov with
  | some (v, st4), .sl i => (match cont st4 i, look st4 ix with
    | some c, some y => (match setF c y v with
      | some c' => .nx (setC st4 i c')
      | none => .no)
    | _, _ => .no)
  | _, _ => .no
section
variable {X : Cx} {W : WX}
theorem ds_setIx {e eo ei : Expr} {ge go gi : GE} {pos pos' : Pos} (he : DE X W e ge) (hg : PG X (.Subscript eo ei pos') (gSub (tD (gx X) W go) (tD (gx X) W gi) rSetL))
    (hs : swapsWithSole [.Subscript eo ei pos'] e pos.line X.env = pure false) (hw : swappedStores [.Subscript eo ei pos'] e X.env = pure none)
    (h1 : (assignEach [.Subscript eo ei pos'] X.env).map (·.2) = [assign (.Subscript eo ei pos') X.env]) :
    DSt X W (.Assign [.Subscript eo ei pos'] e pos) (sSetIx ge go gi) :=
  ps_imp (ps_asg he hg hs hw h1) fun E σ H ⟨P, R, S, st, h, fi⟩ => ⟨P, R, S, st, h, Fin.imp (Fin.bindS (σ := σ) fi) fun a st1 S1 H1 e1 h1 k v rv => by
    obtain ⟨S2, e2, h2, pv⟩ := h1.settle rv
    refine ⟨P, R, S2, st1, h2, Fin.imp (Fin.bindS (σ := σ) (FinS.up k e2)) fun ov st3 S3 H3 e3 h3 k3 w rw3 => ?_⟩
    obtain ⟨S4, e4, h4, pw⟩ := h3.settle rw3
    refine ⟨P, R, S4, st3, h4, Fin.imp (Fin.bindS (σ := σ) (FinS.up k3 e4)) fun ix st5 S5 H5 e5 h5 k5 u ru => ?_⟩
    obtain ⟨S6, e6, h6, pu⟩ := h5.settle ru
    cases et : take1 st5 a with
    | none => rw [et] at k5; exact k5.elim
    | some p =>
      obtain ⟨x, st7⟩ := p
      rw [et] at k5
      cases ov with
      | d y => exact k5.elim
      | fr y => exact k5.elim
      | sl i =>
        dsimp only at k5
        have hw : σ[i]? = some (some w) := pw
        obtain ⟨S7, e7, h7, r7⟩ := take1_ok h6 (pv.mono (((e3.trans e4).trans e5).trans e6)) et
        cases ec : cont st7 i with
        | none => rw [ec] at k5; exact k5.elim
        | some c =>
          rw [ec] at k5
          cases el : look st7 ix with
          | none => rw [el] at k5; exact k5.elim
          | some y =>
            rw [el] at k5
            dsimp only at k5
            cases es : setF c y x with
            | none => rw [es] at k5; exact k5.elim
            | some c' =>
              rw [es] at k5
              have ho := cont_owns ec
              obtain ⟨b, o, z1, z2, z3, z4, z5⟩ := h7.own i c ho
              rw [hw] at z1; cases z1
              cases c with
              | lst xs =>
                cases y with
                | int kk =>
                  have es' : (ixN xs.length kk).map (fun j => D.lst (xs.set j x)) = some c' := es
                  cases ej : ixN xs.length kk with
                  | none => rw [ej] at es'; cases es'
                  | some j =>
                    rw [ej] at es'
                    cases es'
                    cases z3 with
                    | lst ra =>
                      have ri := ((pu.mono e7).look h7 el).int
                      subst ri
                      refine ⟨b, _, kk, j, rfl, rfl, z2, by rw [ra.length]; exact ej, ?_⟩
                      exact k5 σ S7 _ (e6.trans e7) (h7.mut (o' := .lst _) ho hw (.lst (ra.set r7 j)))
                | _ => cases es
              | _ => cases es⟩
end
end DL
end
section
/-! DLi: built-in functions on data. -/
namespace DL
open PySem PySem.Spec PyProof.Rows L2

abbrev FL := List D → Option Val
def orL (f g : FL) : FL := fun xs => match f xs with
  | some c => some c
  | none => g xs
theorem callR_or {X : Cx} {f : Value} {r r' : List V → Hp → VK → Prop} (h : CallR X f r) (h' : CallR X f r') : CallR X f (fun vs H Q => r vs H Q ∨ r' vs H Q) := by
  intro pins s σ H xs us Q I rv z
  rcases z with z | z
  · exact h pins s σ H xs us Q I rv z
  · exact h' pins s σ H xs us Q I rv z
section
variable {G : Gx}
theorem CallS.or {r r' : List V → Hp → VK → Prop} {f g : FL} (h : CallS G r f) (h' : CallS G r' g) : CallS G (fun vs H Q => r vs H Q ∨ r' vs H Q) (orL f g) := fun P R S H σ st vs xs c Q hs hv e k => by
  unfold orL at e
  cases ef : f xs with
  | some c' =>
    rw [ef] at e
    cases e
    exact .inl (h P R S H σ st vs xs c Q hs hv ef k)
  | none =>
    rw [ef] at e
    exact .inr (h' P R S H σ st vs xs c Q hs hv e k)
/-! ### len, abs, int -/
def lenF : FL
  | [.str x] => if fits x.length = true then vi x.length else none
  | [.lst xs] => vi xs.length
  | [.tup xs] => vi xs.length
  | [.scr ns] => vi ns.length
  | _ => none
theorem callS_len : CallS G (fun xs H Q => ∃ x n, xs = [x] ∧ LenV G.K x H n ∧ Q (.int n) H) lenF := fun P R S H σ st vs xs c Q hs hv e k => by
  unfold lenF at e
  split at e
  · rename_i x
    split at e
    · rename_i hz
      cases e
      obtain ⟨v, rfl, rv⟩ := repTs_one hv
      rw [rv.str]
      exact ⟨_, x.length, rfl, ⟨fits_of hz, rfl⟩, k _ S H (Same.refl S) hs (.int _)⟩
    · cases e
  · cases e
    obtain ⟨v, rfl, rv⟩ := repTs_one hv
    obtain ⟨a, as, rfl, ha, ra⟩ := rv.lst hs.sub
    refine ⟨_, as.length, rfl, .inl ⟨as, SqL.of ha, rfl⟩, ?_⟩
    rw [ra.length]
    exact k _ S H (Same.refl S) hs (.int _)
  · cases e
    obtain ⟨v, rfl, rv⟩ := repTs_one hv
    obtain ⟨a, as, rfl, ha, ra⟩ := rv.tup hs.sub
    refine ⟨_, as.length, rfl, .inr ⟨as, ha.sq, rfl⟩, ?_⟩
    rw [ra.length]
    exact k _ S H (Same.refl S) hs (.int _)
  · rename_i ns
    cases e
    obtain ⟨v, rfl, rv⟩ := repTs_one hv
    obtain ⟨a, rfl, ha⟩ := rv.scr hs.sub
    refine ⟨_, (ns.map V.int).length, rfl, .inl ⟨_, ha, rfl⟩, ?_⟩
    rw [List.length_map]
    exact k _ S H (Same.refl S) hs (.int _)
  · cases e
def absF : FL
  | [.int i] => vi (if i < 0 then -i else i)
  | _ => none
theorem callS_abs : CallS G (fun xs H Q => ∃ i, xs = [V.int i] ∧ Q (V.int (if i < 0 then -i else i)) H) absF := fun P R S H σ st vs xs c Q hs hv e k => by
  unfold absF at e
  split at e
  · rename_i i
    cases e
    obtain ⟨v, rfl, rv⟩ := repTs_one hv
    rw [rv.int]
    exact ⟨i, rfl, k _ S H (Same.refl S) hs (.int _)⟩
  · cases e
def intF : FL
  | [.int i] => vi i
  | [.bl b] => vi (if b then 1 else 0)
  | _ => none
theorem callS_int : CallS G (fun xs H Q => (∃ i, xs = [V.int i] ∧ Q (V.int i) H) ∨ ∃ k, xs = [V.bl k] ∧ Q (V.int (if k then 1 else 0)) H) intF := fun P R S H σ st vs xs c Q hs hv e k => by
  unfold intF at e
  split at e
  · rename_i i
    cases e
    obtain ⟨v, rfl, rv⟩ := repTs_one hv
    rw [rv.int]
    exact .inl ⟨i, rfl, k _ S H (Same.refl S) hs (.int _)⟩
  · rename_i b
    cases e
    obtain ⟨v, rfl, rv⟩ := repTs_one hv
    rw [rv.bl]
    exact .inr ⟨b, rfl, k _ S H (Same.refl S) hs (.int _)⟩
  · cases e
/-! ### list -/
def listF : FL
  | [.lst xs] => some (.fr (.lst xs))
  | [.tup xs] => some (.fr (.lst xs))
  | [.scr ns] => some (.fr (.lst (ns.map .int)))
  | _ => none
theorem callS_list : CallS G (fun xs H Q => ∃ p ys, xs = [V.ref p] ∧ (SqL G.K H p ys ∨ SqT G.K H p ys) ∧ ∀ l, H l = none → Q (V.ref l) (upd H l (.lst ys))) listF := fun P R S H σ st vs xs c Q hs hv e k => by
  unfold listF at e
  split at e
  · cases e
    obtain ⟨v, rfl, rv⟩ := repTs_one hv
    obtain ⟨a, as, rfl, ha, ra⟩ := rv.lst hs.sub
    refine ⟨a, as, rfl, .inl (SqL.of ha), fun p np => ?_⟩
    obtain ⟨h3, f3⟩ := hs.alloc np (.lst ra)
    exact k _ S _ (Same.refl S) h3 f3
  · cases e
    obtain ⟨v, rfl, rv⟩ := repTs_one hv
    obtain ⟨a, as, rfl, ha, ra⟩ := rv.tup hs.sub
    refine ⟨a, as, rfl, .inr ha.sq, fun p np => ?_⟩
    obtain ⟨h3, f3⟩ := hs.alloc np (.lst ra)
    exact k _ S _ (Same.refl S) h3 f3
  · rename_i ns
    cases e
    obtain ⟨v, rfl, rv⟩ := repTs_one hv
    obtain ⟨a, rfl, ha⟩ := rv.scr hs.sub
    refine ⟨a, _, rfl, .inl ha, fun p np => ?_⟩
    obtain ⟨h3, f3⟩ := hs.alloc np (.lst (repAll_ints ns))
    exact k _ S _ (Same.refl S) h3 f3
  · cases e
/-! ### isinstance -/
def tyN : D → Option String
  | .non => some "NoneType"
  | .bl _ => some "bool"
  | .int _ => some "int"
  | .str _ => some "str"
  | .lst _ => some "list"
  | .tup _ => some "tuple"
  | .dct _ => some "dict"
  | .scr _ => some "list"
  | _ => none
def tyNames : List String := ["NoneType", "bool", "int", "str", "list", "tuple", "dict"]
def tyAsked : List String := ["bool", "int", "str", "list", "tuple", "dict"]
def isa (a b : String) : Bool := a == b || (a == "bool" && b == "int")
theorem kit_all : (tyNames.all fun a => tyAsked.all fun b => decide (kitB a b = some (isa a b))) = true := by decide +kernel
theorem kit_isa {K : PySem.W.Frag} {a b : String} (ha : a ∈ tyNames) (hb : b ∈ tyAsked) : PySem.W.kitOne K (.type a) (.type b) = some (isa a b) := by
  have h := List.all_eq_true.mp (List.all_eq_true.mp kit_all a ha) b hb
  exact kit_ty (of_decide_eq_true h)
theorem tyN_mem {x : D} {a : String} (h : tyN x = some a) : a ∈ tyNames := by
  cases x <;> first | (cases h; decide) | cases h
theorem tyX_of {S H : Hp} {v : V} {x : D} {a : String} (l : Le S H) (r : RepT G S H v x) (h : tyN x = some a) : TyX G.K H v (.type a) := by
  cases x with
  | non => cases h; rw [r.non]; exact .base .non
  | bl b => cases h; rw [r.bl]; exact .base (.bl b)
  | int i => cases h; rw [r.int]; exact .base (.int i)
  | str y => cases h; rw [r.str]; exact .base (.str y)
  | lst ds =>
    cases h
    obtain ⟨b, as, rfl, ha, _⟩ := r.lst l
    exact .base (.lst ha)
  | tup ds =>
    cases h
    obtain ⟨b, as, rfl, ha, _⟩ := r.tup l
    rcases ha with ha | ⟨o, its, n, h1, h2, _⟩
    · exact .base (.tup ha)
    · exact .kTuple h1 h2
  | scr ns =>
    cases h
    obtain ⟨b, rfl, ha⟩ := r.scr l
    rcases ha with (ha | ⟨o, ha⟩) | ⟨o, its, n, h1, h2, _⟩
    · exact .base (.lst ha)
    · exact .base (.frz ha)
    · exact .kList h1 h2
  | dct kvs =>
    cases h
    rcases r with r | ⟨b, o, rfl, ha, t⟩
    · cases r with
      | dK h r =>
        rcases l _ _ h with q | ⟨_, o, q⟩
        · exact .base (.dK q)
        · exact .fDict q
      | dT h r =>
        rcases l _ _ h with q | ⟨z, _⟩
        · exact .base (.dT q)
        · cases z
    · cases t with
      | dK _ => exact .base (.dK ha)
      | dT _ => exact .base (.dT ha)
  | _ => cases h
def tyC : D → Option String
  | .ty b => if tyAsked.contains b = true then some b else none
  | _ => none
def tyCs : List D → Option (List String)
  | [] => some []
  | x :: xs => match tyC x, tyCs xs with
    | some b, some bs => some (b :: bs)
    | _, _ => none
def isiF : FL
  | [x, .ty b] => match tyN x, tyC (.ty b) with
    | some a, some b => vb (isa a b)
    | _, _ => none
  | [x, .tup cs] => match tyN x, tyCs cs with
    | some a, some bs => vb (bs.any (isa a))
    | _, _ => none
  | _ => none
theorem tyC_of {x : D} {b : String} (h : tyC x = some b) : x = .ty b ∧ b ∈ tyAsked := by
  unfold tyC at h
  split at h
  · split at h
    · rename_i hb
      cases h
      exact ⟨rfl, List.contains_iff_mem.mp hb⟩
    · cases h
  · cases h
theorem kitAny_isa {K : PySem.W.Frag} {a : String} (ha : a ∈ tyNames) : ∀ {bs : List String}, (∀ b ∈ bs, b ∈ tyAsked) → PySem.W.kitAny K (.type a) (bs.map Value.type) = some (bs.any (isa a))
  | [], _ => rfl
  | b :: bs, h => by
    unfold PySem.W.kitAny
    rw [List.map_cons]
    dsimp only
    rw [kit_isa ha (h b List.mem_cons_self), List.any_cons]
    cases isa a b with
    | true => rfl
    | false => exact kitAny_isa ha fun c hc => h c (List.mem_cons_of_mem _ hc)
theorem tyCs_of {S : Hp} : ∀ {cs : List D} {bs : List String} {vs : List V}, tyCs cs = some bs → RepAll G S vs cs → Paired ClsV vs (bs.map Value.type) ∧ ∀ b ∈ bs, b ∈ tyAsked
  | [], _, _, e, r => by simp only [tyCs] at e; cases e; cases r; exact ⟨.nil, fun b hb => absurd hb (by simp)⟩
  | c :: cs, bs, vs, e, r => by
    unfold tyCs at e
    cases e1 : tyC c with
    | none => rw [e1] at e; cases e
    | some b =>
      rw [e1] at e
      cases e2 : tyCs cs with
      | none => rw [e2] at e; cases e
      | some bs' =>
        rw [e2] at e
        cases e
        obtain ⟨rfl, hb⟩ := tyC_of e1
        cases r with
        | cons r1 r2 =>
          cases r1
          obtain ⟨p, q⟩ := tyCs_of e2 r2
          exact ⟨.cons (.ty b) p, fun c hc => by
            rcases List.mem_cons.mp hc with z | z
            · rw [z]; exact hb
            · exact q c z⟩
theorem callS_isi : CallS G (fun vs H Q => rIsi G.K vs H Q ∨ (rIsiT G.K vs H Q ∨ rIsiK G.K vs H Q)) isiF := fun P R S H σ st vs xs c Q hs hv e k => by
  unfold isiF at e
  split at e
  · rename_i x b
    cases e1 : tyN x with
    | none => rw [e1] at e; cases e
    | some a =>
      rw [e1] at e
      cases e2 : tyC (.ty b) with
      | none => rw [e2] at e; cases e
      | some b' =>
        rw [e2] at e
        cases e
        obtain ⟨z, hb⟩ := tyC_of e2
        cases z
        obtain ⟨v, u, rfl, rv, ru⟩ := repTs_two hv
        rw [ru.ty]
        exact .inl ⟨v, .ty b, .type a, .type b, _, rfl, .ty b, tyX_of hs.sub rv e1, kit_isa (tyN_mem e1) hb, k _ S H (Same.refl S) hs (.bl _)⟩
  · rename_i x cs
    cases e1 : tyN x with
    | none => rw [e1] at e; cases e
    | some a =>
      rw [e1] at e
      cases e2 : tyCs cs with
      | none => rw [e2] at e; cases e
      | some bs =>
        rw [e2] at e
        cases e
        obtain ⟨v, u, rfl, rv, ru⟩ := repTs_two hv
        rcases ru with ru | ⟨_, _, _, _, t⟩
        · cases ru with
          | @tup p ys _ hp ra =>
            obtain ⟨p1, p2⟩ := tyCs_of e2 ra
            have hH : H p = some (.tup ys) := by
              rcases hs.sub _ _ hp with q | ⟨z, _⟩
              · exact q
              · cases z
            exact .inr (.inl ⟨v, p, ys, .type a, _, _, rfl, hH, p1, tyX_of hs.sub rv e1, kitAny_isa (tyN_mem e1) p2, k _ S H (Same.refl S) hs (.bl _)⟩)
          | @tupK p ys _ o its n h1 h2 h3 h4 h5 ra =>
            obtain ⟨p1, p2⟩ := tyCs_of e2 ra
            have e3 := ClsV.all p1 h5
            obtain ⟨oc, od, dt, sl⟩ := o
            simp only at h2 h3
            subst h2 h3
            refine .inr (.inr ⟨v, p, od, its.toList, n, sl, .type a, _, rfl, by rw [h1, Array.toArray_toList], tyX_of hs.sub rv e1, ?_, k _ S H (Same.refl S) hs (.bl _)⟩)
            rw [e3]
            exact kitAny_isa (tyN_mem e1) p2
        · cases t
  · cases e
end
end DL
end
section
/-! DLj: the short forms that a def's body is written in. -/
namespace DL
open PySem PySem.Spec PyProof.Rows L2

/-- what is fixed of a context: its names by slot, its scope -/
structure Cs (X : Cx) (N : List Str) (sc : Scope) : Prop where
  n : X.N = N
  s : X.env.scope = sc
  nd : N.Nodup
  f : ∀ x, Loc sc x → X.fn x = true ∨ X.env.scope.names.lookup x = some .local
abbrev GlS (sc : Scope) (x : Str) : Prop := sc.names.lookup x = some .globalImplicit
/-- what is fixed of its surroundings -/
structure Ev (X : Cx) (W : WX) (k : Nat) : Prop where
  room : Room k X.A
  calm : X.calm = true
  tk : Takes X W
  ps : PassesOwn (model X.prog X.w) X.A X.env X.xe
theorem Ev.mono {X : Cx} {W : WX} {j k : Nat} (h : Ev X W k) (q : j ≤ k) : Ev X W j := ⟨h.room.mono q, h.calm, h.tk, h.ps⟩
/-- a def of the module -/
def FunAt (K : PySem.W.Frag) (mg : Str → Option Value) (x : Str) (st : Stmt) (ps : List Str) : Prop := ∃ f fd, mg x = some (.ref f) ∧ Fun K x x st f fd ∧ ∀ us : List Value, us.length = ps.length → bindArgs fd ⟨us, []⟩ = pure (ps.zip us)
/-- a def that does F -/
def DOk (P : Program) (w : World) (K : PySem.W.Frag) (mg : Str → Option Value) (base : Heap) (k : Nat) (x : Str) (ps : List Str) (ms : List Bool) (F : FnD) : Prop :=
  ∃ f fd, mg x = some (.ref f) ∧ PySem.W.keepIn K (.ref f) = true ∧ Binds K fd ps [] ∧ FnOk P w K mg base (L2.CX P w) k f fd ps (spOf ⟨K, mg⟩ ms F)
theorem fun_d {P : Program} {w : World} {K : PySem.W.Frag} {mg : Str → Option Value} {base : Heap} {x : Str} {st : Stmt} {N ps : List Str} {k : Nat} {ms : List Bool} {s : GS} (A : FunAt K mg x st ps) (Sc : FnScope N ps (defScope st)) (hm : ms.length = ps.length)
    (hbody : ∀ (X : Cx) (W : WX), X.prog = P → X.w = w → X.K = K → X.mg = mg → X.base = base → Cs X N (defScope st) → Ev X W k → DSs X W (defBody st) s) : DOk P w K mg base (k + 1) x ps ms (callD ms N.length s) := by
  obtain ⟨f, fd, h1, h2, h3⟩ := A
  refine ⟨f, fd, h1, h2.kp, .all h3, fn_d h2 Sc hm fun X W e1 e2 e3 e4 e5 e6 e7 e8 e9 hr e10 e11 e12 tk pp => ?_⟩
  exact hbody X W e1 e2 e3 e4 e5 ⟨e6, e7, Sc.nd, fun x _ => .inl (by rw [e9])⟩ ⟨hr, e8, tk, pp⟩
section
variable {X : Cx} {W : WX} {N : List Str} {sc : Scope} {k : Nat} {a b e : Expr} {es : List Expr} {pos p : Pos} {ga gb g : GE} {gs : GA}
theorem dv (c : Cs X N sc) (i : Nat) {x : Str} (h : N[i]? = some x := by rfl) (hv : Vis sc x := by first | exact Or.inl rfl | exact Or.inr (Or.inl rfl) | exact Or.inr (Or.inr rfl)) (hd : (x == ("__debug__" : Str)) = false := by decide) (hcd : (x == ("__classdict__" : Str)) = false := by decide) : DE X W (.Name x pos) (gVar i) :=
  de_var (by rw [c.n]; exact h) (by rw [c.s]; exact hv) hd hcd
theorem gl_of (c : Cs X N sc) {x : Str} (h : GlS sc x) : Gl X x := by
  show X.env.scope.names.lookup x = _
  rw [c.s]; exact h
theorem dset (c : Cs X N sc) (i : Nat) {x : Str} {pos' : Pos} (he : DE X W e g) (h : N[i]? = some x := by rfl) (hl : Loc sc x := by first | exact Or.inl rfl | exact Or.inr rfl) (hs : swapsWith e (some (.Name x pos')) pos.line X.env = pure false := by rfl) : DSt X W (.Assign [.Name x pos'] e pos) (sAsg i g) :=
  ds_set (by rw [c.n]; exact c.nd) (by rw [c.n]; exact h) (by rw [c.s]; exact hl) he hs (c.f x hl)
theorem dgn (c : Cs X N sc) (i : Nat) {x : Str} (h : N[i]? = some x := by rfl) (hl : Loc sc x := by first | exact Or.inl rfl | exact Or.inr rfl) : DG X (.Name x pos) [i] (aName i) :=
  dg_name (by rw [c.n]; exact c.nd) (by rw [c.n]; exact h) (by rw [c.s]; exact hl) (c.f x hl)
theorem dac (h : DE X W e g) (hr : DA X W es gs) (hs : starEach (e :: es) X.env = (false, eval e X.env) :: starEach es X.env := by rfl) : DA X W (e :: es) (gCons g gs) := da_cons h hr hs
/-- f(e, ..) -/
theorem dcall (c : Cs X N sc) (v : Ev X W k) {x : Str} {j : Nat} {ps : List Str} {ms : List Bool} {F : FnD} (h : DOk X.prog X.w X.K X.mg X.base j x ps ms F) (ha : DA X W (e :: es) gs) (hj : j ≤ k := by decide) (hg : GlS sc x := by rfl)
    (hdb : (x == ("__debug__" : Str)) = false := by decide) (he : starEach (e :: es) X.env = (false, eval e X.env) :: starEach es X.env := by rfl) (hpl : (backTo pos (starEach es X.env)).any (·.1) = false := by rfl) : DE X W (.Call (.Name x p) (e :: es) [] pos) (gCall F ms [] gs) := by
  obtain ⟨f, fd, h1, h2, h3, h4⟩ := h
  exact de_call (dvs := []) h4 (v.room.mono hj) (gl_of c hg) h1 h2 h3 .nil (fun _ => .nil) v.tk ha hdb he hpl
/-- a built-in's call -/
theorem dcb (c : Cs X N sc) {x : Str} {id : String} {r : List V → Hp → VK → Prop} {f : FL} (hc : CallR X (.builtin id) r) (ho : CallS (gx X) r f) (hm : X.mg x = none) (ha : DA X W (e :: es) gs) (hv : bootBuiltins x = some (.builtin id)) (hg : GlS sc x := by rfl)
    (hn : x ≠ "__name__" := by decide) (hdb : (x == ("__debug__" : Str)) = false := by decide) (he : starEach (e :: es) X.env = (false, eval e X.env) :: starEach es X.env := by rfl) (hpl : (backTo pos (starEach es X.env)).any (·.1) = false := by rfl) : DE X W (.Call (.Name x p) (e :: es) [] pos) (gCB f gs) :=
  de_callB hc ho (gl_of c hg) hm hv ha hn hdb he hpl
theorem dct (c : Cs X N sc) {x : Str} {T : String} {r : List V → Hp → VK → Prop} {f : FL} (hc : CallR X (.type T) r) (ho : CallS (gx X) r f) (hm : X.mg x = none) (ha : DA X W (e :: es) gs) (hv : bootBuiltins x = some (.type T)) (hg : GlS sc x := by rfl)
    (hn : x ≠ "__name__" := by decide) (hdb : (x == ("__debug__" : Str)) = false := by decide) (he : starEach (e :: es) X.env = (false, eval e X.env) :: starEach es X.env := by rfl) (hpl : (backTo pos (starEach es X.env)).any (·.1) = false := by rfl) : DE X W (.Call (.Name x p) (e :: es) [] pos) (gCB f gs) :=
  de_callTy hc ho (gl_of c hg) hm hv ha hn hdb he hpl
theorem boot_ty {x : Str} : True := trivial
theorem dty (c : Cs X N sc) {x : Str} {T : String} (hm : X.mg x = none) (hv : bootBuiltins x = some (.type T)) (hg : GlS sc x := by rfl) (hn : x ≠ "__name__" := by decide) (hdb : (x == ("__debug__" : Str)) = false := by decide) : DE X W (.Name x pos) (gC (.ty T)) :=
  de_c (pe_bltn (v := .ty T) (gl_of c hg) hm hv rfl hn hdb) fun _ => .ty T
theorem bt_len : bootBuiltins "len" = some (.builtin "len") := by decide +kernel
theorem bt_abs : bootBuiltins "abs" = some (.builtin "abs") := by decide +kernel
theorem bt_isi : bootBuiltins "isinstance" = some (.builtin "isinstance") := by decide +kernel
theorem bt_int : bootBuiltins "int" = some (.type "int") := by decide +kernel
theorem bt_bool : bootBuiltins "bool" = some (.type "bool") := by decide +kernel
theorem bt_str : bootBuiltins "str" = some (.type "str") := by decide +kernel
theorem bt_list : bootBuiltins "list" = some (.type "list") := by decide +kernel
theorem bt_tuple : bootBuiltins "tuple" = some (.type "tuple") := by decide +kernel
theorem bt_dict : bootBuiltins "dict" = some (.type "dict") := by decide +kernel
theorem dlen (c : Cs X N sc) (hm : X.mg "len" = none) (ha : DA X W (e :: es) gs) (hg : GlS sc "len" := by rfl) (he : starEach (e :: es) X.env = (false, eval e X.env) :: starEach es X.env := by rfl) (hpl : (backTo pos (starEach es X.env)).any (·.1) = false := by rfl) :
    DE X W (.Call (.Name "len" p) (e :: es) [] pos) (gCB lenF gs) := dcb c call_len callS_len hm ha bt_len hg (by decide) (by decide) he hpl
theorem dabs (c : Cs X N sc) (hm : X.mg "abs" = none) (ha : DA X W (e :: es) gs) (hg : GlS sc "abs" := by rfl) (he : starEach (e :: es) X.env = (false, eval e X.env) :: starEach es X.env := by rfl) (hpl : (backTo pos (starEach es X.env)).any (·.1) = false := by rfl) :
    DE X W (.Call (.Name "abs" p) (e :: es) [] pos) (gCB absF gs) := dcb c call_abs callS_abs hm ha bt_abs hg (by decide) (by decide) he hpl
theorem dint (c : Cs X N sc) (hm : X.mg "int" = none) (ha : DA X W (e :: es) gs) (hg : GlS sc "int" := by rfl) (he : starEach (e :: es) X.env = (false, eval e X.env) :: starEach es X.env := by rfl) (hpl : (backTo pos (starEach es X.env)).any (·.1) = false := by rfl) :
    DE X W (.Call (.Name "int" p) (e :: es) [] pos) (gCB intF gs) := dct c call_int1 callS_int hm ha bt_int hg (by decide) (by decide) he hpl
theorem dlist (c : Cs X N sc) (hm : X.mg "list" = none) (ha : DA X W (e :: es) gs) (hg : GlS sc "list" := by rfl) (he : starEach (e :: es) X.env = (false, eval e X.env) :: starEach es X.env := by rfl) (hpl : (backTo pos (starEach es X.env)).any (·.1) = false := by rfl) :
    DE X W (.Call (.Name "list" p) (e :: es) [] pos) (gCB listF gs) := dct c call_list_of callS_list hm ha bt_list hg (by decide) (by decide) he hpl
theorem disi (c : Cs X N sc) (hm : X.mg "isinstance" = none) (ha : DA X W (e :: es) gs) (hg : GlS sc "isinstance" := by rfl) (he : starEach (e :: es) X.env = (false, eval e X.env) :: starEach es X.env := by rfl) (hpl : (backTo pos (starEach es X.env)).any (·.1) = false := by rfl) :
    DE X W (.Call (.Name "isinstance" p) (e :: es) [] pos) (gCB isiF gs) := dcb c (callR_or call_isi (callR_or call_isiT call_isiK)) callS_isi hm ha bt_isi hg (by decide) (by decide) he hpl
/-! ### tests -/
theorem dtv (h : DE X W a g) (he : ∀ whole, isTrue a X.env whole = (do let v ← whole; standAt a.pos; holding [v] (truthy v)) := by intro _; rfl) : DT X W a (gTru g) := dt_tru h he
theorem deq (v : Ev X W k) (ha : DE X W a ga) (hb : DE X W b gb) : DE X W (.Compare a [.Eq] [b] pos) (gOp2 eqF ga gb) := de_eq v.room.units ha hb
theorem dne (v : Ev X W k) (ha : DE X W a ga) (hb : DE X W b gb) : DE X W (.Compare a [.NotEq] [b] pos) (gOp2 neF ga gb) := de_ne v.room.units ha hb
theorem teq (v : Ev X W k) (ha : DE X W a ga) (hb : DE X W b gb) : DT X W (.Compare a [.Eq] [b] pos) (gTst (gOp2 eqF ga gb)) := dt_eq v.room.units ha hb
theorem tne (v : Ev X W k) (ha : DE X W a ga) (hb : DE X W b gb) : DT X W (.Compare a [.NotEq] [b] pos) (gTst (gOp2 neF ga gb)) := dt_ne v.room.units ha hb
theorem ditem (ha : DE X W a ga) (hb : DE X W b gb) (hs : PlainIx b := by exact fun _ _ => rfl) : DE X W (.Subscript a b pos) (gOp2 itemF ga gb) := de_item ha hb hs
theorem dexpr (he : DE X W e g) (hs : swapsWith e none pos.line X.env = pure false := by rfl) : DSt X W (.Expr e pos) (sExpr g) := ds_expr he hs
theorem dwhile {c : Expr} {body : List Stmt} {gc : GT} {s : GS} (n : Nat) (v : Ev X W k) (hc : DT X W c gc) (hb : DSs X W body s) : DSt X W (.While c body [] pos) (sWhile n gc s) := ds_while n v.ps hc hb
theorem dfor {tg iter : Expr} {body : List Stmt} {gi : GI} {ts : List Nat} {ag : AG} {s : GS} (v : Ev X W k) (hi : DI X W tg iter gi) (hg : DG X tg ts ag) (hb : DSs X W body s) (hs : ∀ x, foldedSetIterable iter X.env x = pure x := by intro _; rfl) : DSt X W (.For tg iter body [] pos) (sFor gi ag s) :=
  ds_for v.ps v.calm hi hg hb hs
theorem drng1 (c : Cs X N sc) {tg : Expr} (hm : X.mg "range" = none) (ha : DA X W [a] gs) (hg : GlS sc "range" := by rfl) (hs : starEach [a] X.env = [(false, eval a X.env)] := by rfl) : DI X W tg (.Call (.Name "range" p) [a] [] pos) (gRng rng1 gs) := di_rng1 (gl_of c hg) hm ha hs
theorem drng2 (c : Cs X N sc) {tg : Expr} (hm : X.mg "range" = none) (ha : DA X W [a, b] gs) (hg : GlS sc "range" := by rfl) (hs : starEach [a, b] X.env = [(false, eval a X.env), (false, eval b X.env)] := by rfl) (hs2 : starEach [b] X.env = [(false, eval b X.env)] := by rfl) : DI X W tg (.Call (.Name "range" p) [a, b] [] pos) (gRng rng2 gs) := di_rng2 (gl_of c hg) hm ha hs hs2
theorem dsub {eo ei : Expr} {go gi : GE} {pos' : Pos} (he : DE X W e g) (ho : DE X W eo go) (hi : DE X W ei gi)
    (ha : ∀ v, assign (.Subscript eo ei pos') X.env v = (do
      let ov ← holding [v] (eval eo X.env)
      let iv ← holding [v, ov] (eval ei X.env)
      standAt pos'
      holding [v, ov, iv] (setItem ov iv v)
      release [v, ov, iv] []) := by intro _; rfl)
    (hs : swapsWithSole [.Subscript eo ei pos'] e pos.line X.env = pure false := by rfl) (hw : swappedStores [.Subscript eo ei pos'] e X.env = pure none := by rfl)
    (h1 : (assignEach [.Subscript eo ei pos'] X.env).map (·.2) = [assign (.Subscript eo ei pos') X.env] := by rfl) : DSt X W (.Assign [.Subscript eo ei pos'] e pos) (sSetIx g go gi) :=
  ds_setIx he (pg_sub ho hi set_list ha) hs hw h1
end
end DL
end
section
/-! DLv: running the functions on data, step by step. -/
namespace DL
open PySem PySem.Spec PyProof.Rows L2

def Rs.sat {α : Type} (r : Rs α) (Q : α → DS → Prop) (E : Ex → DS → Prop) : Prop := match r with
  | .ok a st => Q a st
  | .ex e st => E e st
  | .no => False
structure SE where
  nx : DS → Prop
  rt : Val → DS → Prop := fun _ _ => False
  bk : DS → Prop := fun _ => False
  ct : DS → Prop := fun _ => False
  ex : Ex → DS → Prop := fun _ _ => False
def RS.sat (r : RS) (Z : SE) : Prop := match r with
  | .nx st => Z.nx st
  | .rt a st => Z.rt a st
  | .bk st => Z.bk st
  | .ct st => Z.ct st
  | .ex e st => Z.ex e st
  | .no => False
def FR.sat (r : FR) (Q : Val → List D → Prop) (E : Ex → List D → Prop) : Prop := match r with
  | .ok a ios => Q a ios
  | .ex e ios => E e ios
  | .no => False
theorem sat_bind {α β : Type} {r : Rs α} {f : α → DS → Rs β} {Q : β → DS → Prop} {E : Ex → DS → Prop} (h : r.sat (fun a st => (f a st).sat Q E) E) : (r.bind f).sat Q E := by
  cases r with
  | ok a st => exact h
  | ex e st => exact h
  | no => exact h
theorem sat_bindS {α : Type} {r : Rs α} {f : α → DS → RS} {Z : SE} (h : r.sat (fun a st => (f a st).sat Z) Z.ex) : (r.bindS f).sat Z := by
  cases r with
  | ok a st => exact h
  | ex e st => exact h
  | no => exact h
theorem sat_imp {α : Type} {r : Rs α} {Q Q' : α → DS → Prop} {E E' : Ex → DS → Prop} (h : r.sat Q E) (q : ∀ a st, Q a st → Q' a st) (qe : ∀ e st, E e st → E' e st) : r.sat Q' E' := by
  cases r with
  | ok a st => exact q a st h
  | ex e st => exact qe e st h
  | no => exact h
theorem satS_imp {r : RS} {Z Z' : SE} (h : r.sat Z) (h1 : ∀ st, Z.nx st → Z'.nx st) (h2 : ∀ a st, Z.rt a st → Z'.rt a st) (h3 : ∀ st, Z.bk st → Z'.bk st) (h4 : ∀ st, Z.ct st → Z'.ct st) (h5 : ∀ e st, Z.ex e st → Z'.ex e st) : r.sat Z' := by
  cases r with
  | nx st => exact h1 st h
  | rt a st => exact h2 a st h
  | bk st => exact h3 st h
  | ct st => exact h4 st h
  | ex e st => exact h5 e st h
  | no => exact h
section
variable {st : DS} {Q : Val → DS → Prop} {QB : Bool → DS → Prop} {QA : List Val → DS → Prop} {QI : List D → DS → Prop} {QO : Option Int → DS → Prop} {E : Ex → DS → Prop} {i : Nat} {x : D} {ga gb g : GE} {gs : GA} {Z : SE} {f : F2} {fl : FL}
theorem v_sh (h : st[i]? = some (.sh x)) (q : Q (.d x) st) : (gVar i st).sat Q E := by unfold gVar; rw [h]; exact q
theorem v_ow (h : st[i]? = some (.ow x)) (q : Q (.sl i) st) : (gVar i st).sat Q E := by unfold gVar; rw [h]; exact q
theorem v_io (h : st[i]? = some (.io x)) (q : Q (.sl i) st) : (gVar i st).sat Q E := by unfold gVar; rw [h]; exact q
theorem v_c (q : Q (.d x) st) : (gC x st).sat Q E := q
def O2 (f : F2) (st : DS) (a b : Val) (Q : Val → DS → Prop) : Prop := ∃ x y c, look st a = some x ∧ look st b = some y ∧ f x y = some c ∧ Q c st
theorem v_op2 (h : (ga st).sat (fun a st1 => (gb st1).sat (fun b st2 => O2 f st2 a b Q) E) E) : (gOp2 f ga gb st).sat Q E := by
  refine sat_bind (sat_imp h (fun a st1 h1 => sat_bind (sat_imp h1 (fun b st2 h2 => ?_) fun _ _ z => z)) fun _ _ z => z)
  obtain ⟨x, y, c, h3, h4, h5, h6⟩ := h2
  rw [h3, h4]
  dsimp only
  rw [h5]
  exact h6
def O1 (f : D → Option Val) (st : DS) (a : Val) (Q : Val → DS → Prop) : Prop := ∃ x c, look st a = some x ∧ f x = some c ∧ Q c st
theorem v_op1 {f : D → Option Val} (h : (ga st).sat (fun a st1 => O1 f st1 a Q) E) : (gOp1 f ga st).sat Q E := by
  refine sat_bind (sat_imp h (fun a st1 h1 => ?_) fun _ _ z => z)
  obtain ⟨x, c, h3, h5, h6⟩ := h1
  rw [h3]
  dsimp only
  rw [h5]
  exact h6
def OT (st : DS) (a : Val) (Q : Bool → DS → Prop) : Prop := ∃ b, look st a = some (.bl b) ∧ Q b st
theorem v_tst (h : (g st).sat (fun a st1 => OT st1 a QB) E) : (gTst g st).sat QB E := by
  refine sat_bind (sat_imp h (fun a st1 h1 => ?_) fun _ _ z => z)
  obtain ⟨b, h3, h6⟩ := h1
  rw [h3]
  exact h6
def OU (st : DS) (a : Val) (Q : Bool → DS → Prop) : Prop := ∃ x b, look st a = some x ∧ tru x = some b ∧ Q b st
theorem v_tru (h : (g st).sat (fun a st1 => OU st1 a QB) E) : (gTru g st).sat QB E := by
  refine sat_bind (sat_imp h (fun a st1 h1 => ?_) fun _ _ z => z)
  obtain ⟨x, b, h3, h4, h6⟩ := h1
  rw [h3, Option.bind_some, h4]
  exact h6
theorem v_not {g : GT} (h : (g st).sat (fun b st1 => QB (!b) st1) E) : (gNot g st).sat QB E := sat_bind h
theorem v_and {g k : GT} (h : (g st).sat (fun b st1 => (b = true → (k st1).sat QB E) ∧ (b = false → QB false st1)) E) : (gAnd g k st).sat QB E := by
  refine sat_bind (sat_imp h (fun b st1 h1 => ?_) fun _ _ z => z)
  cases b with
  | true => exact h1.1 rfl
  | false => exact h1.2 rfl
theorem v_or {g k : GT} (h : (g st).sat (fun b st1 => (b = true → QB true st1) ∧ (b = false → (k st1).sat QB E)) E) : (gOr g k st).sat QB E := by
  refine sat_bind (sat_imp h (fun b st1 h1 => ?_) fun _ _ z => z)
  cases b with
  | true => exact h1.1 rfl
  | false => exact h1.2 rfl
theorem v_andV {k : GE} (h : (gTst g st).sat (fun b st1 => (b = true → (k st1).sat Q E) ∧ (b = false → Q (.d (.bl false)) st1)) E) : (gAndV g k st).sat Q E := by
  refine sat_bind (sat_imp h (fun b st1 h1 => ?_) fun _ _ z => z)
  cases b with
  | true => exact h1.1 rfl
  | false => exact h1.2 rfl
theorem v_orV {k : GE} (h : (gTst g st).sat (fun b st1 => (b = true → Q (.d (.bl true)) st1) ∧ (b = false → (k st1).sat Q E)) E) : (gOrV g k st).sat Q E := by
  refine sat_bind (sat_imp h (fun b st1 h1 => ?_) fun _ _ z => z)
  cases b with
  | true => exact h1.1 rfl
  | false => exact h1.2 rfl
theorem v_b {g : GT} (h : (g st).sat (fun b st1 => Q (.d (.bl b)) st1) E) : (gB g st).sat Q E := sat_bind h
theorem v_if {c : GT} {k : GE} (h : (c st).sat (fun b st1 => (b = true → (g st1).sat Q E) ∧ (b = false → (k st1).sat Q E)) E) : (gIf c g k st).sat Q E := by
  refine sat_bind (sat_imp h (fun b st1 h1 => ?_) fun _ _ z => z)
  cases b with
  | true => exact h1.1 rfl
  | false => exact h1.2 rfl
theorem v_nil (h : QA [] st) : (DL.gNil st).sat QA E := h
theorem v_cons (h : (g st).sat (fun a st1 => (gs st1).sat (fun as st2 => QA (a :: as) st2) E) E) : (DL.gCons g gs st).sat QA E :=
  sat_bind (sat_imp h (fun a st1 h1 => sat_bind h1) fun _ _ z => z)
def OK (st : DS) (as : List Val) (Q : List D → DS → Prop) : Prop := ∃ xs st2, takes st as = some (xs, st2) ∧ fits xs.length = true ∧ Q xs st2
theorem v_lst (h : (gs st).sat (fun as st1 => OK st1 as fun xs st2 => Q (.fr (.lst xs)) st2) E) : (gLst gs st).sat Q E := by
  refine sat_bind (sat_imp h (fun as st1 h1 => ?_) fun _ _ z => z)
  obtain ⟨xs, st2, h3, h4, h6⟩ := h1
  rw [h3]
  dsimp only
  rw [if_pos (fits_of h4)]
  exact h6
theorem v_tup (h : (gs st).sat (fun as st1 => OK st1 as fun xs st2 => Q (.d (.tup xs)) st2) E) : (DL.gTup gs st).sat Q E := by
  refine sat_bind (sat_imp h (fun as st1 h1 => ?_) fun _ _ z => z)
  obtain ⟨xs, st2, h3, h4, h6⟩ := h1
  rw [h3]
  dsimp only
  rw [if_pos (fits_of h4)]
  exact h6
def OL (f : FL) (st : DS) (as : List Val) (Q : Val → DS → Prop) : Prop := ∃ xs c, looks st as = some xs ∧ f xs = some c ∧ Q c st
theorem v_cb (h : (gs st).sat (fun as st1 => OL fl st1 as Q) E) : (gCB fl gs st).sat Q E := by
  refine sat_bind (sat_imp h (fun as st1 h1 => ?_) fun _ _ z => z)
  obtain ⟨xs, c, h3, h5, h6⟩ := h1
  rw [h3]
  dsimp only
  rw [h5]
  exact h6
theorem v_nop (h : QO none st) : (gNoPart st).sat QO E := h
def OP (st : DS) (a : Val) (Q : Option Int → DS → Prop) : Prop := ∃ i, look st a = some (.int i) ∧ Q (some i) st
theorem v_part (h : (g st).sat (fun a st1 => OP st1 a QO) E) : (gPart g st).sat QO E := by
  refine sat_bind (sat_imp h (fun a st1 h1 => ?_) fun _ _ z => z)
  obtain ⟨i, h3, h6⟩ := h1
  rw [h3]
  exact h6
def OS (st : DS) (a : Val) (lo hi : Option Int) (Q : Val → DS → Prop) : Prop := ∃ x c, look st a = some x ∧ slF x lo hi = some c ∧ Q c st
theorem v_sl {gl gh : GO} (h : (g st).sat (fun a st1 => (gl st1).sat (fun lo st2 => (gh st2).sat (fun hi st3 => OS st3 a lo hi Q) E) E) E) : (gSl g gl gh st).sat Q E := by
  refine sat_bind (sat_imp h (fun a st1 h1 => sat_bind (sat_imp h1 (fun lo st2 h2 => sat_bind (sat_imp h2 (fun hi st3 h4 => ?_) fun _ _ z => z)) fun _ _ z => z)) fun _ _ z => z)
  obtain ⟨x, c, h3, h5, h6⟩ := h4
  rw [h3]
  dsimp only
  rw [h5]
  exact h6
/-! ### calls -/
def OC (F : FnD) (ms : List Bool) (st : DS) (as : List Val) (Q : Val → DS → Prop) (E : Ex → DS → Prop) : Prop := ∃ ys st2 ds, prep ms st as = some (ys, st2) ∧ (ixs ys).Nodup ∧ datas st2 ys = some ds ∧
  (F ds).sat (fun a ios => ∃ st3, back (ixs ys) ios st2 = some st3 ∧ Q a st3) (fun e ios => ∃ st3, back (ixs ys) ios st2 = some st3 ∧ E e st3)
theorem v_call {F : FnD} {ms : List Bool} {dd : List D} (h : (gs st).sat (fun as st1 => OC F ms st1 (as ++ dd.map .d) Q E) E) : (gCall F ms dd gs st).sat Q E := by
  refine sat_bind (sat_imp h (fun as st1 h1 => ?_) fun _ _ z => z)
  obtain ⟨ys, st2, ds, h3, h4, h5, h6⟩ := h1
  rw [h3]
  dsimp only
  rw [if_pos h4, h5]
  dsimp only
  cases e : F ds with
  | ok a ios =>
    rw [e] at h6
    obtain ⟨st3, h7, h8⟩ := h6
    dsimp only
    rw [h7]
    exact h8
  | ex x ios =>
    rw [e] at h6
    obtain ⟨st3, h7, h8⟩ := h6
    dsimp only
    rw [h7]
    exact h8
  | no => rw [e] at h6; exact h6
/-! ### statements -/
def OA (i : Nat) (st : DS) (a : Val) (N : DS → Prop) : Prop := ∃ st2, i < st.length ∧ putV i st a = some st2 ∧ N st2
theorem v_asg (h : (g st).sat (fun a st1 => OA i st1 a Z.nx) Z.ex) : (sAsg i g st).sat Z := by
  refine sat_bindS (sat_imp h (fun a st1 h1 => ?_) fun _ _ z => z)
  obtain ⟨st2, h2, h3, h4⟩ := h1
  rw [if_pos h2, h3]
  exact h4
theorem v_expr (h : (g st).sat (fun _ st1 => Z.nx st1) Z.ex) : (sExpr g st).sat Z := sat_bindS h
def OR (st : DS) (a : Val) (N : Val → DS → Prop) : Prop := ∃ b st2, outV st a = some (b, st2) ∧ N b st2
theorem v_ret (h : (g st).sat (fun a st1 => OR st1 a Z.rt) Z.ex) : (sRet g st).sat Z := by
  refine sat_bindS (sat_imp h (fun a st1 h1 => ?_) fun _ _ z => z)
  obtain ⟨b, st2, h3, h4⟩ := h1
  rw [h3]
  exact h4
theorem v_retN (h : Z.rt (.d .non) st) : (sRetN st).sat Z := h
theorem v_next (h : Z.nx st) : (sNext st).sat Z := h
theorem v_break (h : Z.bk st) : (sBreak st).sat Z := h
theorem v_cont (h : Z.ct st) : (sCont st).sat Z := h
theorem v_seq {s t : GS} (h : (s st).sat { Z with nx := fun st1 => (t st1).sat Z }) : (sSeq s t st).sat Z := by
  unfold sSeq
  cases e : s st with
  | nx st1 => rw [e] at h; exact h
  | rt a st1 => rw [e] at h; exact h
  | bk st1 => rw [e] at h; exact h
  | ct st1 => rw [e] at h; exact h
  | ex x st1 => rw [e] at h; exact h
  | no => rw [e] at h; exact h
theorem v_sif {c : GT} {s t : GS} (h : (c st).sat (fun b st1 => (b = true → (s st1).sat Z) ∧ (b = false → (t st1).sat Z)) Z.ex) : (sIf c s t st).sat Z := by
  refine sat_bindS (sat_imp h (fun b st1 h1 => ?_) fun _ _ z => z)
  cases b with
  | true => exact h1.1 rfl
  | false => exact h1.2 rfl
def OI (st : DS) (a ix : Val) (i : Nat) (N : DS → Prop) : Prop := ∃ v st4 c y c', take1 st a = some (v, st4) ∧ cont st4 i = some c ∧ look st4 ix = some y ∧ setF c y v = some c' ∧ N (setC st4 i c')
theorem v_setIx {ge go gi : GE} (h : (ge st).sat (fun a st1 => (go st1).sat (fun ov st2 => (gi st2).sat (fun ix st3 => ∃ i, ov = .sl i ∧ OI st3 a ix i Z.nx) Z.ex) Z.ex) Z.ex) : (sSetIx ge go gi st).sat Z := by
  refine sat_bindS (sat_imp h (fun a st1 h1 => sat_bindS (sat_imp h1 (fun ov st2 h2 => sat_bindS (sat_imp h2 (fun ix st3 h3 => ?_) fun _ _ z => z)) fun _ _ z => z)) fun _ _ z => z)
  obtain ⟨i, rfl, v, st4, c, y, c', q1, q2, q3, q4, q5⟩ := h3
  rw [q1]
  dsimp only
  rw [q2, q3]
  dsimp only
  rw [q4]
  exact q5
/-! ### loops -/
theorem v_while {n : Nat} {c : GT} {b : GS} (I : Nat → DS → Prop) (m0 : Nat) (h0 : I m0 st) (hn : m0 < n)
    (hs : ∀ m st, I m st → (c st).sat (fun t st1 => (t = false → Z.nx st1) ∧ (t = true → (b st1).sat { Z with nx := fun st2 => ∃ m', m' < m ∧ I m' st2, ct := fun st2 => ∃ m', m' < m ∧ I m' st2, bk := Z.nx })) Z.ex) : (sWhile n c b st).sat Z := by
  have key : ∀ (n m : Nat) (st : DS), I m st → m < n → (runWhile c b n st).sat Z := by
    intro n
    induction n with
    | zero => intro m st _ h; omega
    | succ n ih =>
      intro m st hI hm
      have h := hs m st hI
      unfold runWhile
      cases ec : c st with
      | no => rw [ec] at h; exact h
      | ex e st1 => rw [ec] at h; exact h
      | ok t st1 =>
        rw [ec] at h
        cases t with
        | false => exact h.1 rfl
        | true =>
          have h2 := h.2 rfl
          dsimp only
          cases eb : b st1 with
          | nx st2 =>
            rw [eb] at h2
            obtain ⟨m', h3, h4⟩ := h2
            exact ih m' st2 h4 (by omega)
          | ct st2 =>
            rw [eb] at h2
            obtain ⟨m', h3, h4⟩ := h2
            exact ih m' st2 h4 (by omega)
          | bk st2 => rw [eb] at h2; exact h2
          | rt a st2 => rw [eb] at h2; exact h2
          | ex e st2 => rw [eb] at h2; exact h2
          | no => rw [eb] at h2; exact h2
  exact key n m0 st h0 hn
theorem v_sfor {gi : GI} {ag : AG} {b : GS} (h : (gi st).sat (fun ds st1 => (runFor ag b ds st1).sat Z) Z.ex) : (sFor gi ag b st).sat Z := sat_bindS h
/-- over a list, by what holds ahead of each turn -/
theorem v_run {ag : AG} {b : GS} (ds : List D) (I : Nat → DS → Prop) (h0 : I 0 st) (hd : ∀ st, I ds.length st → Z.nx st)
    (hs : ∀ i d st, ds[i]? = some d → I i st → ∃ st1, ag d st = some st1 ∧ (b st1).sat { Z with nx := I (i + 1), ct := I (i + 1), bk := Z.nx }) : (runFor ag b ds st).sat Z := by
  have key : ∀ (l : List D) (k : Nat) (st : DS), ds.drop k = l → k ≤ ds.length → I k st → (runFor ag b l st).sat Z := by
    intro l
    induction l with
    | nil =>
      intro k st e hk h
      have : k = ds.length := by
        have := congrArg List.length e
        rw [List.length_drop, List.length_nil] at this
        omega
      subst this
      exact hd st h
    | cons d l ih =>
      intro k st e hk h
      have hk' : k < ds.length := by
        have := congrArg List.length e
        rw [List.length_drop, List.length_cons] at this
        omega
      rw [List.drop_eq_getElem_cons hk'] at e
      obtain ⟨e1, e2⟩ := List.cons.inj e
      obtain ⟨st1, h1, h2⟩ := hs k d st (by rw [List.getElem?_eq_getElem hk', e1]) h
      unfold runFor
      rw [h1]
      dsimp only
      cases eb : b st1 with
      | nx st2 => rw [eb] at h2; exact ih (k + 1) st2 e2 hk' h2
      | ct st2 => rw [eb] at h2; exact ih (k + 1) st2 e2 hk' h2
      | bk st2 => rw [eb] at h2; exact h2
      | rt a st2 => rw [eb] at h2; exact h2
      | ex e st2 => rw [eb] at h2; exact h2
      | no => rw [eb] at h2; exact h2
  exact key ds 0 st rfl (Nat.zero_le _) h0
def OG (f : List D → Option (List D)) (st : DS) (as : List Val) (Q : List D → DS → Prop) : Prop := ∃ xs ys, looks st as = some xs ∧ f xs = some ys ∧ Q ys st
theorem v_rng {f : List D → Option (List D)} (h : (gs st).sat (fun as st1 => OG f st1 as QI) E) : (gRng f gs st).sat QI E := by
  refine sat_bind (sat_imp h (fun as st1 h1 => ?_) fun _ _ z => z)
  obtain ⟨xs, ys, h3, h5, h6⟩ := h1
  rw [h3, Option.bind_some, h5]
  exact h6
def OIt (st : DS) (a : Val) (Q : List D → DS → Prop) : Prop := ∃ x xs st2, take1 st a = some (x, st2) ∧ items x = some xs ∧ Q xs st2
theorem v_iter (h : (g st).sat (fun a st1 => OIt st1 a QI) E) : (gIter g st).sat QI E := by
  refine sat_bind (sat_imp h (fun a st1 h1 => ?_) fun _ _ z => z)
  obtain ⟨x, xs, st2, h3, h5, h6⟩ := h1
  rw [h3]
  dsimp only
  rw [h5]
  exact h6
end
section
variable {st st1 st2 st3 : DS} {a b ix c : Val} {x y z : D} {xs ys : List D} {as : List Val} {f : F2} {f1 : D → Option Val} {fl : FL} {fg : List D → Option (List D)} {Q : Val → DS → Prop} {QB : Bool → DS → Prop} {QI : List D → DS → Prop} {N : DS → Prop} {t : Bool} {i : Nat} {lo hi : Option Int} {n : Int}
theorem o_2 (h1 : look st a = some x) (h2 : look st b = some y) (h3 : f x y = some c) (h4 : Q c st) : O2 f st a b Q := ⟨x, y, c, h1, h2, h3, h4⟩
theorem o_1 (h1 : look st a = some x) (h3 : f1 x = some c) (h4 : Q c st) : O1 f1 st a Q := ⟨x, c, h1, h3, h4⟩
theorem o_t (h1 : look st a = some (.bl t)) (h4 : QB t st) : OT st a QB := ⟨t, h1, h4⟩
theorem o_u (h1 : look st a = some x) (h3 : tru x = some t) (h4 : QB t st) : OU st a QB := ⟨x, t, h1, h3, h4⟩
theorem o_k (h1 : takes st as = some (xs, st2)) (h3 : fits xs.length = true) (h4 : QI xs st2) : OK st as QI := ⟨xs, st2, h1, h3, h4⟩
theorem o_l (h1 : looks st as = some xs) (h3 : fl xs = some c) (h4 : Q c st) : OL fl st as Q := ⟨xs, c, h1, h3, h4⟩
theorem o_p {QO : Option Int → DS → Prop} (h1 : look st a = some (.int n)) (h4 : QO (some n) st) : OP st a QO := ⟨n, h1, h4⟩
theorem o_s (h1 : look st a = some x) (h3 : slF x lo hi = some c) (h4 : Q c st) : OS st a lo hi Q := ⟨x, c, h1, h3, h4⟩
theorem o_a (h1 : i < st.length) (h3 : putV i st a = some st2) (h4 : N st2) : OA i st a N := ⟨st2, h1, h3, h4⟩
theorem o_r (h3 : outV st a = some (b, st2)) (h4 : Q b st2) : OR st a Q := ⟨b, st2, h3, h4⟩
theorem o_g (h1 : looks st as = some xs) (h3 : fg xs = some ys) (h4 : QI ys st) : OG fg st as QI := ⟨xs, ys, h1, h3, h4⟩
theorem o_it (h1 : take1 st a = some (x, st2)) (h3 : items x = some xs) (h4 : QI xs st2) : OIt st a QI := ⟨x, xs, st2, h1, h3, h4⟩
theorem o_i {c c' : D} (h1 : take1 st a = some (z, st1)) (h2 : cont st1 i = some c) (h3 : look st1 ix = some y) (h4 : setF c y z = some c') (h5 : setC st1 i c' = st2) (h6 : N st2) : ∃ j, Val.sl i = .sl j ∧ OI st a ix j N := ⟨i, rfl, z, st1, c, y, c', h1, h2, h3, h4, by rw [h5]; exact h6⟩
theorem o_c {F : FnD} {ms : List Bool} {E : Ex → DS → Prop} {yy : List (Sum D Nat)} (h1 : prep ms st as = some (yy, st2)) (h2 : (ixs yy).Nodup) (h3 : datas st2 yy = some xs)
    (h4 : (F xs).sat (fun a ios => ∃ st3, back (ixs yy) ios st2 = some st3 ∧ Q a st3) (fun e ios => ∃ st3, back (ixs yy) ios st2 = some st3 ∧ E e st3)) : OC F ms st as Q E := ⟨yy, st2, xs, h1, h2, h3, h4⟩
end
/-! ### a def's end -/
theorem call_sat {ms : List Bool} {n : Nat} {s : GS} {ds : List D} {Q : Val → List D → Prop} {E : Ex → List D → Prop} (hl : ds.length = ms.length) (hn : ms.length ≤ n)
    (h : (s (init ms n ds)).sat ⟨fun st => ∃ ios, fins ms st = some ios ∧ Q (.d .non) ios, fun a st => ∃ ios, fins ms st = some ios ∧ isVal a = true ∧ Q a ios, fun _ => False, fun _ => False, fun e st => ∃ ios, fins ms st = some ios ∧ E e ios⟩) :
    (callD ms n s ds).sat Q E := by
  unfold callD
  rw [if_pos ⟨hl, hn⟩]
  cases e : s (init ms n ds) with
  | nx st =>
    rw [e] at h
    obtain ⟨ios, h1, h2⟩ := h
    dsimp only
    rw [h1]
    exact h2
  | rt a st =>
    rw [e] at h
    obtain ⟨ios, h1, h2, h3⟩ := h
    dsimp only
    rw [h1]
    dsimp only
    rw [if_pos h2]
    exact h3
  | ex x st =>
    rw [e] at h
    obtain ⟨ios, h1, h2⟩ := h
    dsimp only
    rw [h1]
    exact h2
  | bk st => rw [e] at h; exact h.elim
  | ct st => rw [e] at h; exact h.elim
  | no => rw [e] at h; exact h.elim
theorem call_go {ms : List Bool} {n : Nat} {s : GS} {ds : List D} {st0 : DS} {Q : Val → List D → Prop} {E : Ex → List D → Prop} (hl : ds.length = ms.length) (hn : ms.length ≤ n) (hi : init ms n ds = st0)
    (h : (s st0).sat ⟨fun st => ∃ ios, fins ms st = some ios ∧ Q (.d .non) ios, fun a st => ∃ ios, fins ms st = some ios ∧ isVal a = true ∧ Q a ios, fun _ => False, fun _ => False, fun e st => ∃ ios, fins ms st = some ios ∧ E e ios⟩) :
    (callD ms n s ds).sat Q E := call_sat hl hn (by rw [hi]; exact h)
theorem fr_imp {r : FR} {Q Q' : Val → List D → Prop} {E E' : Ex → List D → Prop} (h : r.sat Q E) (q : ∀ a ios, Q a ios → Q' a ios) (qe : ∀ e ios, E e ios → E' e ios) : r.sat Q' E' := by
  cases r with
  | ok a ios => exact q a ios h
  | ex e ios => exact qe e ios h
  | no => exact h
theorem sat_eq {r : FR} {Q : Val → List D → Prop} (h : r.sat Q (fun _ _ => False)) : ∃ a ios, r = .ok a ios ∧ Q a ios := by
  cases r with
  | ok a ios => exact ⟨a, ios, rfl, h⟩
  | ex e ios => exact h.elim
  | no => exact h.elim
theorem sat_of {r : FR} {a : Val} {ios : List D} {Q : Val → List D → Prop} {E : Ex → List D → Prop} (e : r = .ok a ios) (h : Q a ios) : r.sat Q E := by rw [e]; exact h
theorem lt_ble {a b : Nat} (h : Nat.ble (a + 1) b = true) : a < b := Nat.le_of_ble_eq_true h
/-! ### two ways -/
theorem br_t {c : Bool} {A B : Prop} (h : c = true) (a : A) : (c = true → A) ∧ (c = false → B) := ⟨fun _ => a, fun z => by rw [h] at z; cases z⟩
theorem br_f {c : Bool} {A B : Prop} (h : c = false) (b : B) : (c = true → A) ∧ (c = false → B) := ⟨fun z => (by rw [h] at z; cases z), fun _ => b⟩
theorem br_f' {c : Bool} {A B : Prop} (h : c = false) (b : B) : (c = false → B) ∧ (c = true → A) := ⟨fun _ => b, fun z => by rw [h] at z; cases z⟩
theorem br_t' {c : Bool} {A B : Prop} (h : c = true) (a : A) : (c = false → B) ∧ (c = true → A) := ⟨fun z => (by rw [h] at z; cases z), fun _ => a⟩
/-! ### lists of ints -/
theorem pys_ints : ∀ ns : List Int, pys (ns.map .int) = some (ns.map .int)
  | [] => rfl
  | n :: ns => by simp only [List.map_cons, pys, py, pys_ints ns]
theorem lay_ints : ∀ ns : List Int, PyData.canLayAll0 (ns.map .int) = true
  | [] => rfl
  | n :: ns => by
    rw [List.map_cons, PyData.canLayAll0, lay_ints ns]
    rfl
theorem depth_ints : ∀ ns : List Int, PyData.depthAll (ns.map .int) ≤ 1
  | [] => by decide
  | n :: ns => by
    have := depth_ints ns
    rw [List.map_cons, PyData.depthAll]
    simp only [PyData.depth]
    omega
theorem shaped_ints (ns : List Int) : SeqAt.shaped (.list (ns.map .int)) = true := by
  unfold SeqAt.shaped
  have h1 : PyData.canLay0 (.list (ns.map .int)) = true := by rw [PyData.canLay0]; exact lay_ints ns
  have h2 : PyData.depth (.list (ns.map .int)) ≤ 64 := by
    have := depth_ints ns
    rw [PyData.depth]
    omega
  rw [h1, decide_eq_true h2]
  rfl
theorem eq_nil (ns : List Int) : eqD (.lst (ns.map .int)) (.lst []) = some ns.isEmpty := by
  have h : pys ([] : List D) = some [] := rfl
  simp only [eqD, py, pys_ints, h, Option.map_some, shaped_ints]
  rw [show SeqAt.shaped (.list []) = true from by decide]
  cases ns with
  | nil => rfl
  | cons n ns => rfl
theorem ne_nil (ns : List Int) : neF (.lst (ns.map .int)) (.lst []) = vb (!ns.isEmpty) := by
  unfold neF
  rw [eq_nil]
theorem cut_tail {α : Type} (x : α) (xs : List α) : cut (x :: xs) (some 1) none = xs := by
  unfold cut
  rw [show HT.sIx (x :: xs).length 0 (some 1) = min 1 (x :: xs).length from HT.sIx_nat _ 0 1, HT.sIx_none]
  rw [show min 1 (x :: xs).length = 1 by rw [List.length_cons]; omega]
  show List.take ((x :: xs).length - 1) xs = xs
  rw [List.length_cons, Nat.add_sub_cancel, List.take_length]
theorem sl_tail (x : D) (xs : List D) : slF (.lst (x :: xs)) (some 1) none = some (.fr (.lst xs)) := by
  show some (Val.fr (.lst (cut (x :: xs) (some 1) none))) = _
  rw [cut_tail]
theorem back1 {j : Nat} {d : D} {st st3 : DS} (h : setC st j d = st3) : back [j] [d] st = some st3 := by rw [← h]; rfl
theorem aName_ok {i : Nat} {d : D} {st st1 : DS} (h : Nat.ble (i + 1) st.length = true) (e : st.set i (.sh d) = st1) : aName i d st = some st1 := by
  unfold aName
  rw [if_pos (lt_ble h), e]
theorem item_0 (x : D) (xs : List D) : itemF (.lst (x :: xs)) (.int 0) = some (.d x) := by
  have h : atI (x :: xs) (0 : Int) = some x := atI_nat (j := 0) rfl
  show (atI (x :: xs) 0).map Val.d = _
  rw [h]
  rfl
theorem s4_0 {a b c d v : D} : setF (.lst [a, b, c, d]) (.int 0) v = some (.lst [v, b, c, d]) := rfl
theorem s4_1 {a b c d v : D} : setF (.lst [a, b, c, d]) (.int 1) v = some (.lst [a, v, c, d]) := rfl
theorem s4_2 {a b c d v : D} : setF (.lst [a, b, c, d]) (.int 2) v = some (.lst [a, b, v, d]) := rfl
theorem s4_3 {a b c d v : D} : setF (.lst [a, b, c, d]) (.int 3) v = some (.lst [a, b, c, v]) := rfl
theorem nd_b {l : List Nat} (h : decide l.Nodup = true) : l.Nodup := of_decide_eq_true h
/-! ### the operators, where their bounds hold -/
theorem mul_l {i j : Int} (h1 : -(2 ^ 64) < i) (h2 : i < 2 ^ 64) : mulF (.int i) (.int j) = vi (i * j) := by
  have : mulC i j = true := by unfold mulC; rw [decide_eq_true h1, decide_eq_true h2]; rfl
  simp only [mulF, orF, ints2, this, if_true, vi]
theorem mul_r {i j : Int} (h1 : -(2 ^ 64) < j) (h2 : j < 2 ^ 64) : mulF (.int i) (.int j) = vi (i * j) := by
  have : mulC i j = true := by unfold mulC; rw [decide_eq_true h1, decide_eq_true h2, Bool.and_self, Bool.or_true]
  simp only [mulF, orF, ints2, this, if_true, vi]
theorem mul_w {i j : Int} {a b : Nat} (ha : i.natAbs < 2 ^ a) (hb : j.natAbs < 2 ^ b) (h0 : 0 < a) (h1 : 0 < b) (h : a + b ≤ 1000000) : mulF (.int i) (.int j) = vi (i * j) := by
  have hw : mulW i j = true := decide_eq_true (wide_mul ha hb h0 h1 h : i.natAbs.log2 + j.natAbs.log2 < 1000000)
  by_cases hc : mulC i j = true
  · simp only [mulF, orF, ints2, hc, if_true, vi]
  · simp only [mulF, orF, ints2, hc, hw, if_true, vi]
    rfl
theorem mod_p {i j : Int} (h : 0 < j) : modF (.int i) (.int j) = vi (i % j) := by
  simp only [modF, ints2, h, decide_true, if_true]
theorem fdiv_p {i j : Int} {b : Nat} (h : 0 < j) (hb : j.natAbs < 2 ^ b) (h0 : 0 < b) (h9 : b ≤ 9000) : fdivF (.int i) (.int j) = vi (i / j) := by
  have h1 : fdivC i j = true := by unfold fdivC; rw [decide_eq_true h, decide_eq_true (wide_div (i := i) h hb h0 h9).2]; rfl
  simp only [fdivF, ints2, h1, if_true]
theorem pow_p {i j : Int} (h1 : 0 ≤ j) (h2 : j ≤ 1000000) (h3 : i.natAbs < 2 ^ 64) : powF (.int i) (.int j) = vi (i ^ j.toNat) := by
  have h : powC i j = true := by unfold powC; rw [decide_eq_true h1, decide_eq_true h2, decide_eq_true h3]; rfl
  simp only [powF, ints2, h, if_true]
end DL
end
section
/-! DLz: the end of a law. -/
namespace DL
open PySem PySem.Spec PyProof.Rows L2
theorem funAt_mk {K : PySem.W.Frag} {h : Heap} {mg : Str → Option Value} {x : Str} {st : Stmt} {ps : List Str} {f : Addr} {oc kV dc pm cd ct : Value} {od an : Option Addr} {sl : Array (Option Value)} (X : K.In h) (G : h.Ns mainGlobals mg)
    (a : PySem.W.nsIn K mainGlobals x = some (some (.ref f))) (l : K.lookup f = some ⟨oc, od, .func (PySem.W.fnOf x x (defArgs st) (defBody st) (defScope st) .none kV dc pm an cd ct), sl⟩) (c : PySem.W.codeIn K cd x = true) (k : PySem.W.keepIn K (.ref f) = true)
    (hb : ∀ (kV doc pm : Value) (an : Option Addr) (cdv ct : Value) (us : List Value), us.length = ps.length → bindArgs (PySem.W.fnOf x x (defArgs st) (defBody st) (defScope st) .none kV doc pm an cdv ct) ⟨us, []⟩ = pure (ps.zip us)) : FunAt K mg x st ps :=
  ⟨f, _, PySem.W.mg_of X G a, fun_mk l c k, fun us hl => hb _ _ _ _ _ _ us hl⟩
/-- the law's promise -/
def spLaw (K : PySem.W.Frag) : Sp := fun vs H Q _ => ∃ (a : Addr) (ns : List Int), vs = [.ref a] ∧ SqL K H a (ns.map V.int) ∧ ns.length ≤ 63 ∧ (∀ z ∈ ns, Builtin.Int.intBits z ≤ 1048576) ∧ ∀ H', Q (.bl true) H'
theorem law_fn {P : Program} {w : World} {K : PySem.W.Frag} {mg : Str → Option Value} {x nm : Str} {st : Stmt} {N : List Str} {k : Nat} {s : GS} {fa : Addr} (A : FunAt K mg nm st [x]) (Sc : FnScope N [x] (defScope st)) (hfa : mg nm = some (.ref fa))
    (hbody : ∀ (base : Heap) (X : Cx) (W : WX), X.prog = P → X.w = w → X.K = K → X.mg = mg → X.base = base → Cs X N (defScope st) → Ev X W k → DSs X W (defBody st) s)
    (law : ∀ ns : List Int, ns.length ≤ 63 → (∀ z ∈ ns, Builtin.Int.intBits z ≤ 1048576) → (callD [false] N.length s [.scr ns]).sat (fun a ios => a = .d (.bl true) ∧ ios = []) (fun _ _ => False)) :
    ∃ fd : FuncData, (∀ (s : Shared) (u : Value), BindsTo s fd ⟨[u], []⟩ [(x, u)]) ∧ ∀ base : Heap, K.In base → base.Ns mainGlobals mg → FnOk P w K mg base (L2.CX P w) (k + 1) fa fd [x] (spLaw K) := by
  obtain ⟨f, fd, h1, h2, h3⟩ := A
  rw [h1] at hfa
  cases hfa
  refine ⟨fd, fun s u => .of_eq (h3 [u] rfl), fun base _ _ => ?_⟩
  refine FnOk.imp (fn_d (ms := [false]) h2 Sc rfl fun X W e1 e2 e3 e4 e5 e6 e7 e8 e9 hr e10 e11 e12 tk pp => hbody base X W e1 e2 e3 e4 e5 ⟨e6, e7, Sc.nd, fun x _ => .inl (by rw [e9])⟩ ⟨hr, e8, tk, pp⟩) fun vs H Q E h => ?_
  obtain ⟨a, ns, rfl, hs, hl, hb, q⟩ := h
  obtain ⟨r, ios, e, rfl, rfl⟩ := sat_eq (law ns hl hb)
  refine ⟨fun _ => none, H, [.scr ns], Le.of (Same.refl H), (fun b o z => by cases z), .sh (.scr hs) .nil, List.nodup_nil, ?_⟩
  rw [e]
  intro v S' H' _ _ _ _ r
  cases r
  exact q H'
theorem cx_no {P : Program} {w : World} {H : Hp} {s : Shared} {e : Value} {s' : Shared} (h : L2.CX P w [] H s (fun _ _ _ => False) e s') : False := by
  obtain ⟨_, _, _, _, _, _, _, _, _, _, _, _, z⟩ := h
  exact z
end DL
end
namespace K60
open PySem PySem.Spec PyProof.Rows L2 DL
def topS (i : Nat) : Stmt := PySem.Challenge.pw_leastlooks_k60_fractions.main.body.getD i (.Pass ⟨0, 0, 0, 0⟩)
abbrev s_fraction : Stmt := topS 1
def N_fraction : List Str := ["top", "bottom", "one", "other", "sign", "rest"]
theorem sc_fraction : FnScope N_fraction ["top", "bottom"] (defScope s_fraction) := ⟨rfl, rfl, rfl, by decide +kernel, rfl, by decide +kernel, by decide +kernel⟩
abbrev s_is_plain : Stmt := topS 2
def N_is_plain : List Str := ["value"]
theorem sc_is_plain : FnScope N_is_plain ["value"] (defScope s_is_plain) := ⟨rfl, rfl, rfl, by decide +kernel, rfl, by decide +kernel, by decide +kernel⟩
abbrev s_is_fraction : Stmt := topS 3
def N_is_fraction : List Str := ["value"]
theorem sc_is_fraction : FnScope N_is_fraction ["value"] (defScope s_is_fraction) := ⟨rfl, rfl, rfl, by decide +kernel, rfl, by decide +kernel, by decide +kernel⟩
abbrev s_law_bag : Stmt := topS 5
def N_law_bag : List Str := ["_law_script"]
theorem sc_law_bag : FnScope N_law_bag ["_law_script"] (defScope s_law_bag) := ⟨rfl, rfl, rfl, by decide +kernel, rfl, by decide +kernel, by decide +kernel⟩
abbrev s_law_draw : Stmt := topS 6
def N_law_draw : List Str := ["_law_bag_here", "_law_many", "_law_mixed", "_law_cell", "_law_digit"]
theorem sc_law_draw : FnScope N_law_draw ["_law_bag_here", "_law_many"] (defScope s_law_draw) := ⟨rfl, rfl, rfl, by decide +kernel, rfl, by decide +kernel, by decide +kernel⟩
abbrev s_law_is_whole : Stmt := topS 7
def N_law_is_whole : List Str := ["_law_value"]
theorem sc_law_is_whole : FnScope N_law_is_whole ["_law_value"] (defScope s_law_is_whole) := ⟨rfl, rfl, rfl, by decide +kernel, rfl, by decide +kernel, by decide +kernel⟩
abbrev s_law_gcd : Stmt := topS 8
def N_law_gcd : List Str := ["_law_one", "_law_other", "_law_k", "_law_rest"]
theorem sc_law_gcd : FnScope N_law_gcd ["_law_one", "_law_other"] (defScope s_law_gcd) := ⟨rfl, rfl, rfl, by decide +kernel, rfl, by decide +kernel, by decide +kernel⟩
abbrev s_law_is_fraction : Stmt := topS 9
def N_law_is_fraction : List Str := ["_law_value"]
theorem sc_law_is_fraction : FnScope N_law_is_fraction ["_law_value"] (defScope s_law_is_fraction) := ⟨rfl, rfl, rfl, by decide +kernel, rfl, by decide +kernel, by decide +kernel⟩
abbrev s_law : Stmt := topS 10
def N_law : List Str := ["_law_script", "_law_bag_here", "_law_k", "_law_great", "_law_factor", "_law_top", "_law_bottom", "_law_told", "_law_bad", "_law_value", "_law_answer"]
theorem sc_law : FnScope N_law ["_law_script"] (defScope s_law) := ⟨rfl, rfl, rfl, by decide +kernel, rfl, by decide +kernel, by decide +kernel⟩
structure Top (K : PySem.W.Frag) (mg : Str → Option Value) : Prop where
  f_fraction : FunAt K mg "fraction" s_fraction ["top", "bottom"]
  f_is_plain : FunAt K mg "is_plain" s_is_plain ["value"]
  f_is_fraction : FunAt K mg "is_fraction" s_is_fraction ["value"]
  f_law_bag : FunAt K mg "_law_bag" s_law_bag ["_law_script"]
  f_law_draw : FunAt K mg "_law_draw" s_law_draw ["_law_bag_here", "_law_many"]
  f_law_is_whole : FunAt K mg "_law_is_whole" s_law_is_whole ["_law_value"]
  f_law_gcd : FunAt K mg "_law_gcd" s_law_gcd ["_law_one", "_law_other"]
  f_law_is_fraction : FunAt K mg "_law_is_fraction" s_law_is_fraction ["_law_value"]
  f_law : FunAt K mg "law" s_law ["_law_script"]
  z_abs : mg "abs" = none
  z_bool : mg "bool" = none
  z_int : mg "int" = none
  z_isinstance : mg "isinstance" = none
  z_len : mg "len" = none
  z_list : mg "list" = none
  z_range : mg "range" = none
  z_tuple : mg "tuple" = none
variable {P : Program} {w : World} {K : PySem.W.Frag} {mg : Str → Option Value} {base : Heap} {X : Cx} {W : WX}
def g_fraction : GS := (sSeq (sAsg 2 (gCB absF (gCons (gVar 0) gNil)))
  (sSeq (sAsg 3 (gCB absF (gCons (gVar 1) gNil)))
  (sSeq (sWhile 400 (gTst (gOp2 gtF (gVar 3) (gC (.int 0)))) (sSeq (sAsg 5 (gOp2 modF (gVar 2) (gVar 3)))
  (sSeq (sAsg 2 (gVar 3))
  (sAsg 3 (gVar 5)))))
  (sSeq (sAsg 4 (gIf (gTst (gOp2 ltF (gVar 1) (gC (.int 0)))) (gOp1 negF (gC (.int 1))) (gC (.int 1))))
  (sRet (gTup (gCons (gOp2 fdivF (gOp2 mulF (gVar 4) (gVar 0)) (gVar 2)) (gCons (gOp2 fdivF (gCB absF (gCons (gVar 1) gNil)) (gVar 2)) gNil))))))))
def F_fraction : FnD := callD [false, false] 6 g_fraction
theorem b_fraction (c : Cs X N_fraction (defScope s_fraction)) (v : Ev X W 0) (T : Top X.K X.mg) : DSs X W (defBody s_fraction) g_fraction :=
  (dss_cons (dset c 2 (dabs c T.z_abs (dac (dv c 0) da_nil)))
    (dss_cons (dset c 3 (dabs c T.z_abs (dac (dv c 1) da_nil)))
    (dss_cons (dwhile 400 v (dt_gt (dv c 3) de_int) (dss_cons (dset c 5 (de_mod (dv c 2) (dv c 3)))
    (dss_cons (dset c 2 (dv c 3))
    (dss_one (dset c 3 (dv c 5))))))
    (dss_cons (dset c 4 (de_if (dt_lt (dv c 1) de_int) (de_neg de_int) de_int))
    (dss_one (ds_ret (de_tup (dac (de_fdiv (de_mul (dv c 4) (dv c 0)) (dv c 2)) (dac (de_fdiv (dabs c T.z_abs (dac (dv c 1) da_nil)) (dv c 2)) da_nil)))))))))
theorem ok_fraction (T : Top K mg) : DOk P w K mg base 1 "fraction" ["top", "bottom"] [false, false] F_fraction := fun_d T.f_fraction sc_fraction rfl fun X W e1 e2 e3 e4 e5 c v => by
  subst e1 e2 e3 e4 e5
  exact b_fraction c v T
def g_is_plain : GS := (sRet (gAndV (gCB isiF (gCons (gVar 0) (gCons (gC (.ty "int")) gNil))) (gB (gNot (gTst (gCB isiF (gCons (gVar 0) (gCons (gC (.ty "bool")) gNil))))))))
def F_is_plain : FnD := callD [false] 1 g_is_plain
theorem b_is_plain (c : Cs X N_is_plain (defScope s_is_plain)) (v : Ev X W 0) (T : Top X.K X.mg) : DSs X W (defBody s_is_plain) g_is_plain :=
  (dss_one (ds_ret (de_and (disi c T.z_isinstance (dac (dv c 0) (dac (dty c T.z_int bt_int) da_nil))) (de_one (de_not (disi c T.z_isinstance (dac (dv c 0) (dac (dty c T.z_bool bt_bool) da_nil))))))))
theorem ok_is_plain (T : Top K mg) : DOk P w K mg base 1 "is_plain" ["value"] [false] F_is_plain := fun_d T.f_is_plain sc_is_plain rfl fun X W e1 e2 e3 e4 e5 c v => by
  subst e1 e2 e3 e4 e5
  exact b_is_plain c v T
def g_is_fraction : GS := (sSeq (sIf (gOr (gNot (gTru (gCB isiF (gCons (gVar 0) (gCons (gC (.ty "tuple")) gNil))))) (gOr (gTst (gOp2 neF (gCB lenF (gCons (gVar 0) gNil)) (gC (.int 2)))) (gOr (gNot (gTru (gCall F_is_plain [false] [] (gCons (gOp2 itemF (gVar 0) (gC (.int 0))) gNil)))) (gNot (gTru (gCall F_is_plain [false] [] (gCons (gOp2 itemF (gVar 0) (gC (.int 1))) gNil))))))) (sRet (gC (.bl false))) sNext)
  (sRet (gAndV (gOp2 gtF (gOp2 itemF (gVar 0) (gC (.int 1))) (gC (.int 0))) (gOp2 eqF (gCall F_fraction [false, false] [] (gCons (gOp2 itemF (gVar 0) (gC (.int 0))) (gCons (gOp2 itemF (gVar 0) (gC (.int 1))) gNil))) (gVar 0)))))
def F_is_fraction : FnD := callD [false] 1 g_is_fraction
theorem b_is_fraction (c : Cs X N_is_fraction (defScope s_is_fraction)) (v : Ev X W 1) (T : Top X.K X.mg) : DSs X W (defBody s_is_fraction) g_is_fraction :=
  (dss_cons (ds_if (PW.pt (dw_or (dt_not (dtv (disi c T.z_isinstance (dac (dv c 0) (dac (dty c T.z_tuple bt_tuple) da_nil))))) (dw_or (tne v (dlen c T.z_len (dac (dv c 0) da_nil)) de_int) (dw_or (dt_not (dtv (dcall c v (ok_is_plain T) (dac (ditem (dv c 0) de_int) da_nil)))) (dw_or1 (dt_not (dtv (dcall c v (ok_is_plain T) (dac (ditem (dv c 0) de_int) da_nil))))))))) (dss_one (ds_ret de_bl)) dss_nil)
    (dss_one (ds_ret (de_and (de_gt (ditem (dv c 0) de_int) de_int) (de_one (deq v (dcall c v (ok_fraction T) (dac (ditem (dv c 0) de_int) (dac (ditem (dv c 0) de_int) da_nil))) (dv c 0)))))))
theorem ok_is_fraction (T : Top K mg) : DOk P w K mg base 2 "is_fraction" ["value"] [false] F_is_fraction := fun_d T.f_is_fraction sc_is_fraction rfl fun X W e1 e2 e3 e4 e5 c v => by
  subst e1 e2 e3 e4 e5
  exact b_is_fraction c v T
def g_law_bag : GS := (sRet (gLst (gCons (gCB listF (gCons (gVar 0) gNil)) (gCons (gC (.int 0)) (gCons (gC (.int 29)) (gCons (gC (.int 0)) gNil))))))
def F_law_bag : FnD := callD [false] 1 g_law_bag
theorem b_law_bag (c : Cs X N_law_bag (defScope s_law_bag)) (v : Ev X W 0) (T : Top X.K X.mg) : DSs X W (defBody s_law_bag) g_law_bag :=
  (dss_one (ds_ret (de_lst (dac (dlist c T.z_list (dac (dv c 0) da_nil)) (dac de_int (dac de_int (dac de_int da_nil)))))))
theorem ok_law_bag (T : Top K mg) : DOk P w K mg base 1 "_law_bag" ["_law_script"] [false] F_law_bag := fun_d T.f_law_bag sc_law_bag rfl fun X W e1 e2 e3 e4 e5 c v => by
  subst e1 e2 e3 e4 e5
  exact b_law_bag c v T
def g_law_draw : GS := (sSeq (sIf (gAnd (gTst (gOp2 eqF (gOp2 itemF (gVar 0) (gC (.int 1))) (gC (.int 0)))) (gTst (gOp2 neF (gOp2 itemF (gVar 0) (gC (.int 0))) (gLst gNil)))) (sSeq (sAsg 3 (gOp2 itemF (gOp2 itemF (gVar 0) (gC (.int 0))) (gC (.int 0))))
  (sSeq (sSetIx (gSl (gOp2 itemF (gVar 0) (gC (.int 0))) (gPart (gC (.int 1))) gNoPart) (gVar 0) (gC (.int 0)))
  (sSeq (sSetIx (gOp2 modF (gCB intF (gCons (gOp2 addF (gOp2 addF (gOp2 mulF (gOp2 itemF (gVar 0) (gC (.int 2))) (gC (.int 69069))) (gOp2 mulF (gVar 3) (gC (.int 48271)))) (gC (.int 5))) gNil)) (gC (.int 2147483647))) (gVar 0) (gC (.int 2)))
  (sIf (gTst (gOp2 geF (gCB absF (gCons (gVar 3) gNil)) (gOp2 powF (gC (.int 10)) (gC (.int 18))))) (sSetIx (gCB absF (gCons (gVar 3) gNil)) (gVar 0) (gC (.int 1))) sNext)))) sNext)
  (sSeq (sIf (gTst (gOp2 gtF (gOp2 itemF (gVar 0) (gC (.int 1))) (gC (.int 0)))) (sSeq (sAsg 4 (gOp2 modF (gCB intF (gCons (gOp2 itemF (gVar 0) (gC (.int 1))) gNil)) (gVar 1)))
  (sSeq (sSetIx (gOp2 fdivF (gOp2 itemF (gVar 0) (gC (.int 1))) (gVar 1)) (gVar 0) (gC (.int 1)))
  (sRet (gVar 4)))) sNext)
  (sSeq (sSetIx (gOp2 addF (gOp2 itemF (gVar 0) (gC (.int 3))) (gC (.int 1))) (gVar 0) (gC (.int 3)))
  (sSeq (sAsg 2 (gOp2 modF (gCB intF (gCons (gOp2 addF (gOp2 itemF (gVar 0) (gC (.int 2))) (gOp2 mulF (gOp2 itemF (gVar 0) (gC (.int 3))) (gC (.int 40692)))) gNil)) (gC (.int 2147483647))))
  (sSeq (sAsg 2 (gOp2 modF (gCB intF (gCons (gOp2 addF (gOp2 addF (gOp2 powF (gVar 2) (gC (.int 3))) (gOp2 mulF (gOp2 itemF (gVar 0) (gC (.int 3))) (gC (.int 16807)))) (gC (.int 7))) gNil)) (gC (.int 2147483629))))
  (sRet (gOp2 modF (gOp2 fdivF (gOp2 modF (gCB intF (gCons (gOp2 addF (gOp2 powF (gVar 2) (gC (.int 2))) (gOp2 mulF (gC (.int 3)) (gVar 2))) gNil)) (gC (.int 2147483587))) (gC (.int 8))) (gVar 1))))))))
def F_law_draw : FnD := callD [true, false] 5 g_law_draw
theorem b_law_draw (c : Cs X N_law_draw (defScope s_law_draw)) (v : Ev X W 0) (T : Top X.K X.mg) : DSs X W (defBody s_law_draw) g_law_draw :=
  (dss_cons (ds_if (PW.pt (dw_and (teq v (ditem (dv c 0) de_int) de_int) (dw_and1 (tne v (ditem (dv c 0) de_int) (de_lst da_nil))))) (dss_cons (dset c 3 (ditem (ditem (dv c 0) de_int) de_int))
    (dss_cons (dsub (de_slice (ditem (dv c 0) de_int) (do_some de_int) do_none) (dv c 0) de_int)
    (dss_cons (dsub (de_mod (dint c T.z_int (dac (de_add (de_add (de_mul (ditem (dv c 0) de_int) de_int) (de_mul (dv c 3) de_int)) de_int) da_nil)) de_int) (dv c 0) de_int)
    (dss_one (ds_if (dt_ge (dabs c T.z_abs (dac (dv c 3) da_nil)) (de_pow de_int de_int)) (dss_one (dsub (dabs c T.z_abs (dac (dv c 3) da_nil)) (dv c 0) de_int)) dss_nil))))) dss_nil)
    (dss_cons (ds_if (dt_gt (ditem (dv c 0) de_int) de_int) (dss_cons (dset c 4 (de_mod (dint c T.z_int (dac (ditem (dv c 0) de_int) da_nil)) (dv c 1)))
    (dss_cons (dsub (de_fdiv (ditem (dv c 0) de_int) (dv c 1)) (dv c 0) de_int)
    (dss_one (ds_ret (dv c 4))))) dss_nil)
    (dss_cons (dsub (de_add (ditem (dv c 0) de_int) de_int) (dv c 0) de_int)
    (dss_cons (dset c 2 (de_mod (dint c T.z_int (dac (de_add (ditem (dv c 0) de_int) (de_mul (ditem (dv c 0) de_int) de_int)) da_nil)) de_int))
    (dss_cons (dset c 2 (de_mod (dint c T.z_int (dac (de_add (de_add (de_pow (dv c 2) de_int) (de_mul (ditem (dv c 0) de_int) de_int)) de_int) da_nil)) de_int))
    (dss_one (ds_ret (de_mod (de_fdiv (de_mod (dint c T.z_int (dac (de_add (de_pow (dv c 2) de_int) (de_mul de_int (dv c 2))) da_nil)) de_int) de_int) (dv c 1)))))))))
theorem ok_law_draw (T : Top K mg) : DOk P w K mg base 1 "_law_draw" ["_law_bag_here", "_law_many"] [true, false] F_law_draw := fun_d T.f_law_draw sc_law_draw rfl fun X W e1 e2 e3 e4 e5 c v => by
  subst e1 e2 e3 e4 e5
  exact b_law_draw c v T
def g_law_is_whole : GS := (sRet (gAndV (gCB isiF (gCons (gVar 0) (gCons (gC (.ty "int")) gNil))) (gB (gNot (gTst (gCB isiF (gCons (gVar 0) (gCons (gC (.ty "bool")) gNil))))))))
def F_law_is_whole : FnD := callD [false] 1 g_law_is_whole
theorem b_law_is_whole (c : Cs X N_law_is_whole (defScope s_law_is_whole)) (v : Ev X W 0) (T : Top X.K X.mg) : DSs X W (defBody s_law_is_whole) g_law_is_whole :=
  (dss_one (ds_ret (de_and (disi c T.z_isinstance (dac (dv c 0) (dac (dty c T.z_int bt_int) da_nil))) (de_one (de_not (disi c T.z_isinstance (dac (dv c 0) (dac (dty c T.z_bool bt_bool) da_nil))))))))
theorem ok_law_is_whole (T : Top K mg) : DOk P w K mg base 1 "_law_is_whole" ["_law_value"] [false] F_law_is_whole := fun_d T.f_law_is_whole sc_law_is_whole rfl fun X W e1 e2 e3 e4 e5 c v => by
  subst e1 e2 e3 e4 e5
  exact b_law_is_whole c v T
def g_law_gcd : GS := (sSeq (sAsg 0 (gCB absF (gCons (gVar 0) gNil)))
  (sSeq (sAsg 1 (gCB absF (gCons (gVar 1) gNil)))
  (sSeq (sFor (gRng rng1 (gCons (gC (.int 400)) gNil)) (aName 2) (sSeq (sIf (gTst (gOp2 eqF (gVar 1) (gC (.int 0)))) (sRet (gVar 0)) sNext)
  (sSeq (sAsg 3 (gOp2 subF (gVar 0) (gOp2 mulF (gVar 1) (gOp2 fdivF (gVar 0) (gVar 1)))))
  (sSeq (sAsg 0 (gVar 1))
  (sAsg 1 (gVar 3))))))
  (sRet (gVar 0)))))
def F_law_gcd : FnD := callD [false, false] 4 g_law_gcd
theorem b_law_gcd (c : Cs X N_law_gcd (defScope s_law_gcd)) (v : Ev X W 0) (T : Top X.K X.mg) : DSs X W (defBody s_law_gcd) g_law_gcd :=
  (dss_cons (dset c 0 (dabs c T.z_abs (dac (dv c 0) da_nil)))
    (dss_cons (dset c 1 (dabs c T.z_abs (dac (dv c 1) da_nil)))
    (dss_cons (dfor v (drng1 c T.z_range (dac de_int da_nil)) (dgn c 2) (dss_cons (ds_if (teq v (dv c 1) de_int) (dss_one (ds_ret (dv c 0))) dss_nil)
    (dss_cons (dset c 3 (de_sub (dv c 0) (de_mul (dv c 1) (de_fdiv (dv c 0) (dv c 1)))))
    (dss_cons (dset c 0 (dv c 1))
    (dss_one (dset c 1 (dv c 3)))))))
    (dss_one (ds_ret (dv c 0))))))
theorem ok_law_gcd (T : Top K mg) : DOk P w K mg base 1 "_law_gcd" ["_law_one", "_law_other"] [false, false] F_law_gcd := fun_d T.f_law_gcd sc_law_gcd rfl fun X W e1 e2 e3 e4 e5 c v => by
  subst e1 e2 e3 e4 e5
  exact b_law_gcd c v T
def g_law_is_fraction : GS := (sSeq (sIf (gOr (gNot (gTru (gCB isiF (gCons (gVar 0) (gCons (gC (.ty "tuple")) gNil))))) (gOr (gTst (gOp2 neF (gCB lenF (gCons (gVar 0) gNil)) (gC (.int 2)))) (gOr (gNot (gTru (gCall F_law_is_whole [false] [] (gCons (gOp2 itemF (gVar 0) (gC (.int 0))) gNil)))) (gNot (gTru (gCall F_law_is_whole [false] [] (gCons (gOp2 itemF (gVar 0) (gC (.int 1))) gNil))))))) (sRet (gC (.bl false))) sNext)
  (sRet (gAndV (gOp2 gtF (gOp2 itemF (gVar 0) (gC (.int 1))) (gC (.int 0))) (gOp2 eqF (gCall F_law_gcd [false, false] [] (gCons (gOp2 itemF (gVar 0) (gC (.int 0))) (gCons (gOp2 itemF (gVar 0) (gC (.int 1))) gNil))) (gC (.int 1))))))
def F_law_is_fraction : FnD := callD [false] 1 g_law_is_fraction
theorem b_law_is_fraction (c : Cs X N_law_is_fraction (defScope s_law_is_fraction)) (v : Ev X W 1) (T : Top X.K X.mg) : DSs X W (defBody s_law_is_fraction) g_law_is_fraction :=
  (dss_cons (ds_if (PW.pt (dw_or (dt_not (dtv (disi c T.z_isinstance (dac (dv c 0) (dac (dty c T.z_tuple bt_tuple) da_nil))))) (dw_or (tne v (dlen c T.z_len (dac (dv c 0) da_nil)) de_int) (dw_or (dt_not (dtv (dcall c v (ok_law_is_whole T) (dac (ditem (dv c 0) de_int) da_nil)))) (dw_or1 (dt_not (dtv (dcall c v (ok_law_is_whole T) (dac (ditem (dv c 0) de_int) da_nil))))))))) (dss_one (ds_ret de_bl)) dss_nil)
    (dss_one (ds_ret (de_and (de_gt (ditem (dv c 0) de_int) de_int) (de_one (deq v (dcall c v (ok_law_gcd T) (dac (ditem (dv c 0) de_int) (dac (ditem (dv c 0) de_int) da_nil))) de_int))))))
theorem ok_law_is_fraction (T : Top K mg) : DOk P w K mg base 2 "_law_is_fraction" ["_law_value"] [false] F_law_is_fraction := fun_d T.f_law_is_fraction sc_law_is_fraction rfl fun X W e1 e2 e3 e4 e5 c v => by
  subst e1 e2 e3 e4 e5
  exact b_law_is_fraction c v T
def g_law : GS := (sSeq (sAsg 1 (gCall F_law_bag [false] [] (gCons (gVar 0) gNil)))
  (sSeq (sFor (gRng rng1 (gCons (gC (.int 4)) gNil)) (aName 2) (sSeq (sAsg 3 (gOp2 itemF (gLst (gCons (gC (.int 3)) (gCons (gC (.int 30)) (gCons (gOp2 powF (gC (.int 10)) (gC (.int 9))) (gCons (gOp2 powF (gC (.int 10)) (gC (.int 19))) gNil))))) (gCall F_law_draw [true, false] [] (gCons (gVar 1) (gCons (gC (.int 4)) gNil)))))
  (sSeq (sAsg 4 (gOp2 addF (gC (.int 1)) (gCall F_law_draw [true, false] [] (gCons (gVar 1) (gCons (gVar 3) gNil)))))
  (sSeq (sAsg 5 (gOp2 mulF (gOp2 subF (gCall F_law_draw [true, false] [] (gCons (gVar 1) (gCons (gOp2 mulF (gC (.int 2)) (gVar 3)) gNil))) (gVar 3)) (gVar 4)))
  (sSeq (sAsg 6 (gOp2 mulF (gOp2 mulF (gOp2 addF (gC (.int 1)) (gCall F_law_draw [true, false] [] (gCons (gVar 1) (gCons (gVar 3) gNil)))) (gVar 4)) (gOp2 itemF (gLst (gCons (gC (.int 1)) (gCons (gOp1 negF (gC (.int 1))) gNil))) (gCall F_law_draw [true, false] [] (gCons (gVar 1) (gCons (gC (.int 2)) gNil))))))
  (sSeq (sAsg 7 (gCall F_fraction [false, false] [] (gCons (gVar 5) (gCons (gVar 6) gNil))))
  (sSeq (sIf (gOr (gNot (gTru (gCall F_law_is_fraction [false] [] (gCons (gVar 7) gNil)))) (gTst (gOp2 neF (gOp2 mulF (gOp2 itemF (gVar 7) (gC (.int 0))) (gVar 6)) (gOp2 mulF (gVar 5) (gOp2 itemF (gVar 7) (gC (.int 1))))))) (sRet (gC (.bl false))) sNext)
  (sSeq (sIf (gNot (gTru (gCall F_is_fraction [false] [] (gCons (gVar 7) gNil)))) (sRet (gC (.bl false))) sNext)
  (sSeq (sAsg 8 (gLst (gCons (gC .non) (gCons (gC (.int 3)) (gCons (gC (.str "1/2")) (gCons (gLst (gCons (gC (.int 1)) (gCons (gC (.int 2)) gNil))) (gCons (gTup (gCons (gC (.int 1)) gNil)) (gCons (gTup (gCons (gC (.int 1)) (gCons (gC (.int 2)) (gCons (gC (.int 3)) gNil)))) (gCons (gTup (gCons (gC (.int 2)) (gCons (gC (.int 4)) gNil))) gNil)))))))))
  (sSeq (sAsg 8 (gOp2 addF (gVar 8) (gLst (gCons (gTup (gCons (gC (.int 1)) (gCons (gC (.int 0)) gNil))) (gCons (gTup (gCons (gC (.int 1)) (gCons (gOp1 negF (gC (.int 2))) gNil))) (gCons (gTup (gCons (gC (.bl true)) (gCons (gC (.int 2)) gNil))) (gCons (gTup (gCons (gC (.int 1)) (gCons (gC (.bl true)) gNil))) (gCons (gTup (gCons (gC (.int 0)) (gCons (gC (.int 2)) gNil))) (gCons (gTup (gCons (gC (.str "1")) (gCons (gC (.int 2)) gNil))) gNil)))))))))
  (sSeq (sAsg 8 (gOp2 addF (gVar 8) (gLst (gCons (gTup (gCons (gOp2 mulF (gOp2 itemF (gVar 7) (gC (.int 0))) (gC (.int 2))) (gCons (gOp2 mulF (gOp2 itemF (gVar 7) (gC (.int 1))) (gC (.int 2))) gNil))) (gCons (gTup (gCons (gOp2 itemF (gVar 7) (gC (.int 0))) (gCons (gOp1 negF (gOp2 itemF (gVar 7) (gC (.int 1)))) gNil))) (gCons (gCB listF (gCons (gVar 7) gNil)) gNil))))))
  (sSeq (sAsg 8 (gOp2 addF (gVar 8) (gLst (gCons (gTup (gCons (gVar 7) gNil)) (gCons (gTup (gCons (gOp2 itemF (gVar 7) (gC (.int 0))) (gCons (gC .non) gNil))) gNil)))))
  (sFor (gIter (gOp2 addF (gVar 8) (gLst (gCons (gTup (gCons (gC (.int 0)) (gCons (gC (.int 1)) gNil))) (gCons (gTup (gCons (gOp1 negF (gC (.int 1))) (gCons (gC (.int 1)) gNil))) (gCons (gTup (gCons (gC (.int 5)) (gCons (gC (.int 3)) gNil))) (gCons (gVar 7) gNil))))))) (aName 9) (sSeq (sAsg 10 (gCall F_is_fraction [false] [] (gCons (gVar 9) gNil)))
  (sIf (gOr (gNot (gTru (gCB isiF (gCons (gVar 10) (gCons (gC (.ty "bool")) gNil))))) (gTst (gOp2 neF (gVar 10) (gCall F_law_is_fraction [false] [] (gCons (gVar 9) gNil))))) (sRet (gC (.bl false))) sNext)))))))))))))))
  (sRet (gC (.bl true)))))
def F_law : FnD := callD [false] 11 g_law
theorem b_law (c : Cs X N_law (defScope s_law)) (v : Ev X W 2) (T : Top X.K X.mg) : DSs X W (defBody s_law) g_law :=
  (dss_cons (dset c 1 (dcall c v (ok_law_bag T) (dac (dv c 0) da_nil)))
    (dss_cons (dfor v (drng1 c T.z_range (dac de_int da_nil)) (dgn c 2) (dss_cons (dset c 3 (ditem (de_lst (dac de_int (dac de_int (dac (de_pow de_int de_int) (dac (de_pow de_int de_int) da_nil))))) (dcall c v (ok_law_draw T) (dac (dv c 1) (dac de_int da_nil)))))
    (dss_cons (dset c 4 (de_add de_int (dcall c v (ok_law_draw T) (dac (dv c 1) (dac (dv c 3) da_nil)))))
    (dss_cons (dset c 5 (de_mul (de_sub (dcall c v (ok_law_draw T) (dac (dv c 1) (dac (de_mul de_int (dv c 3)) da_nil))) (dv c 3)) (dv c 4)))
    (dss_cons (dset c 6 (de_mul (de_mul (de_add de_int (dcall c v (ok_law_draw T) (dac (dv c 1) (dac (dv c 3) da_nil)))) (dv c 4)) (ditem (de_lst (dac de_int (dac (de_neg de_int) da_nil))) (dcall c v (ok_law_draw T) (dac (dv c 1) (dac de_int da_nil))))))
    (dss_cons (dset c 7 (dcall c v (ok_fraction T) (dac (dv c 5) (dac (dv c 6) da_nil))))
    (dss_cons (ds_if (PW.pt (dw_or (dt_not (dtv (dcall c v (ok_law_is_fraction T) (dac (dv c 7) da_nil)))) (dw_or1 (tne v (de_mul (ditem (dv c 7) de_int) (dv c 6)) (de_mul (dv c 5) (ditem (dv c 7) de_int)))))) (dss_one (ds_ret de_bl)) dss_nil)
    (dss_cons (ds_if (dt_not (dtv (dcall c v (ok_is_fraction T) (dac (dv c 7) da_nil)))) (dss_one (ds_ret de_bl)) dss_nil)
    (dss_cons (dset c 8 (de_lst (dac de_non (dac de_int (dac de_str (dac (de_lst (dac de_int (dac de_int da_nil))) (dac (de_tup (dac de_int da_nil)) (dac (de_tup (dac de_int (dac de_int (dac de_int da_nil)))) (dac (de_tup (dac de_int (dac de_int da_nil))) da_nil)))))))))
    (dss_cons (dset c 8 (de_add (dv c 8) (de_lst (dac (de_tup (dac de_int (dac de_int da_nil))) (dac (de_tup (dac de_int (dac (de_neg de_int) da_nil))) (dac (de_tup (dac de_bl (dac de_int da_nil))) (dac (de_tup (dac de_int (dac de_bl da_nil))) (dac (de_tup (dac de_int (dac de_int da_nil))) (dac (de_tup (dac de_str (dac de_int da_nil))) da_nil)))))))))
    (dss_cons (dset c 8 (de_add (dv c 8) (de_lst (dac (de_tup (dac (de_mul (ditem (dv c 7) de_int) de_int) (dac (de_mul (ditem (dv c 7) de_int) de_int) da_nil))) (dac (de_tup (dac (ditem (dv c 7) de_int) (dac (de_neg (ditem (dv c 7) de_int)) da_nil))) (dac (dlist c T.z_list (dac (dv c 7) da_nil)) da_nil))))))
    (dss_cons (dset c 8 (de_add (dv c 8) (de_lst (dac (de_tup (dac (dv c 7) da_nil)) (dac (de_tup (dac (ditem (dv c 7) de_int) (dac de_non da_nil))) da_nil)))))
    (dss_one (dfor v (di_val (de_add (dv c 8) (de_lst (dac (de_tup (dac de_int (dac de_int da_nil))) (dac (de_tup (dac (de_neg de_int) (dac de_int da_nil))) (dac (de_tup (dac de_int (dac de_int da_nil))) (dac (dv c 7) da_nil))))))) (dgn c 9) (dss_cons (dset c 10 (dcall c v (ok_is_fraction T) (dac (dv c 9) da_nil)))
    (dss_one (ds_if (PW.pt (dw_or (dt_not (dtv (disi c T.z_isinstance (dac (dv c 10) (dac (dty c T.z_bool bt_bool) da_nil))))) (dw_or1 (tne v (dv c 10) (dcall c v (ok_law_is_fraction T) (dac (dv c 9) da_nil)))))) (dss_one (ds_ret de_bl)) dss_nil)))))))))))))))))
    (dss_one (ds_ret de_bl))))
theorem ok_law (T : Top K mg) : DOk P w K mg base 3 "law" ["_law_script"] [false] F_law := fun_d T.f_law sc_law rfl fun X W e1 e2 e3 e4 e5 c v => by
  subst e1 e2 e3 e4 e5
  exact b_law c v T
theorem law_b (T : Top K mg) (e3 : X.K = K) (e4 : X.mg = mg) (c : Cs X N_law (defScope s_law)) (v : Ev X W 2) : DSs X W (defBody s_law) g_law := by
  subst e3 e4
  exact b_law c v T
end K60
open PySem PySem.Spec PyProof.Rows L2 DL
local macro_rules | `(tactic| walk_at "set") => `(tactic| first
  | (simp only [putV, isIo, take1, List.getElem?_cons_zero, List.getElem?_cons_succ, List.set_cons_zero, List.set_cons_succ, Bool.false_eq_true, if_false, reduceIte]; done)
  | (simp only [putV, isIo, take1, List.getElem?_cons_zero, List.getElem?_cons_succ, List.set_cons_zero, List.set_cons_succ, Bool.false_eq_true, if_false, reduceIte]; rfl))
local macro_rules | `(tactic| walk_at "f") => `(tactic| first
  | exact ne_nil _
  | exact item_0 _ _
  | rfl
  | exact mul_r (by decide) (by decide)
  | exact mul_l (by decide) (by decide)
  | exact mod_p (by decide)
  | exact mod_p (by assumption)
  | exact fdiv_p (b := 64) (by decide) (by decide) (by decide) (by decide)
  | exact pow_p (by decide) (by decide) (by decide)
  | exact pow_p (by decide) (by decide) (by omega)
  | (refine' fdiv_p ?h1 ?h2 ?h3 ?h4; (case h1 => assumption); (case h2 => assumption); (case h3 => decide); (case h4 => decide))
  | assumption)
local macro_rules | `(tactic| walk_at "setf") => `(tactic| first | exact s4_0 | exact s4_1 | exact s4_2 | exact s4_3 | rfl)
local macro_rules | `(tactic| walk_at "sl") => `(tactic| first | exact sl_tail _ _ | rfl)
local macro_rules | `(tactic| walk_at "ev") => `(tactic| first
  | with_reducible refine v_sh rfl ?_ | with_reducible refine v_io rfl ?_ | with_reducible refine v_ow rfl ?_ | with_reducible refine v_c ?_
  | with_reducible refine v_op2 ?_ | with_reducible refine v_op1 ?_ | with_reducible refine v_tst ?_ | with_reducible refine v_tru ?_
  | with_reducible refine v_not ?_ | with_reducible refine v_and ?_ | with_reducible refine v_or ?_ | with_reducible refine v_andV ?_ | with_reducible refine v_orV ?_ | with_reducible refine v_b ?_ | with_reducible refine v_if ?_
  | with_reducible refine v_nil ?_ | with_reducible refine v_cons ?_ | with_reducible refine v_lst ?_ | with_reducible refine v_tup ?_ | with_reducible refine v_cb ?_
  | with_reducible refine v_nop ?_ | with_reducible refine v_part ?_ | with_reducible refine v_sl ?_ | with_reducible refine v_call ?_
  | with_reducible refine v_asg ?_ | with_reducible refine v_expr ?_ | with_reducible refine v_ret ?_ | with_reducible refine v_retN ?_ | with_reducible refine v_next ?_ | with_reducible refine v_break ?_ | with_reducible refine v_cont ?_
  | with_reducible refine v_seq ?_ | with_reducible refine v_sif ?_ | with_reducible refine v_setIx ?_ | with_reducible refine v_sfor ?_ | with_reducible refine v_rng ?_ | with_reducible refine v_iter ?_
  | ((with_reducible refine' o_2 ?h1 ?h2 ?h3 ?h4); (case h1 => rfl); (case h2 => rfl); (case h3 => walk_at "f"))
  | ((with_reducible refine' o_1 ?h1 ?h3 ?h4); (case h1 => rfl); (case h3 => walk_at "f"))
  | ((with_reducible refine' o_t ?h1 ?h4); (case h1 => rfl))
  | ((with_reducible refine' o_u ?h1 ?h3 ?h4); (case h1 => rfl); (case h3 => walk_at "f"))
  | ((with_reducible refine' o_k ?h1 ?h3 ?h4); (case h1 => rfl); (case h3 => first | rfl | decide))
  | ((with_reducible refine' o_l ?h1 ?h3 ?h4); (case h1 => rfl); (case h3 => walk_at "f"))
  | ((with_reducible refine' o_p ?h1 ?h4); (case h1 => rfl))
  | ((with_reducible refine' o_s ?h1 ?h3 ?h4); (case h1 => rfl); (case h3 => walk_at "sl"))
  | ((with_reducible refine' o_a ?h1 ?h3 ?h4); (case h1 => exact lt_ble rfl); (case h3 => walk_at "set"))
  | ((with_reducible refine' o_r ?h3 ?h4); (case h3 => rfl))
  | ((with_reducible refine' o_g ?h1 ?h3 ?h4); (case h1 => rfl); (case h3 => rfl))
  | ((with_reducible refine' o_it ?h1 ?h3 ?h4); (case h1 => rfl); (case h3 => rfl))
  | ((with_reducible refine' o_i ?h1 ?h2 ?h3 ?h4 ?h5 ?h6); (case h1 => rfl); (case h2 => rfl); (case h3 => rfl); (case h4 => walk_at "setf"); (case h5 => walk_at "setc"))
  | ((with_reducible refine' o_c ?h1 ?h2 ?h3 ?h4); (case h1 => rfl); (case h2 => exact nd_b rfl); (case h3 => rfl)))
local macro_rules | `(tactic| walk_at "setc") => `(tactic| (simp only [setC, List.getElem?_cons_zero, List.getElem?_cons_succ, List.set_cons_zero, List.set_cons_succ]; try rfl))
local macro_rules | `(tactic| walk_at "yes") => `(tactic| first | rfl | decide | assumption | (simp only [decide_eq_true_eq, decide_eq_false_iff_not, beq_iff_eq, bne_iff_ne, ne_eq, beq_eq_false_iff_ne, Bool.not_eq_true', Bool.not_eq_false', List.isEmpty_cons, List.isEmpty_nil, Bool.not_false, Bool.not_true, beq_self_eq_true] at *; first | done | omega))
local macro_rules | `(tactic| walk_at "br") => `(tactic| first
  | ((with_reducible refine' br_t ?h1 ?h2); (case h1 => walk_at "yes"))
  | ((with_reducible refine' br_f ?h1 ?h2); (case h1 => walk_at "yes"))
  | ((with_reducible refine' br_t' ?h1 ?h2); (case h1 => walk_at "yes"))
  | ((with_reducible refine' br_f' ?h1 ?h2); (case h1 => walk_at "yes")))
local macro_rules | `(tactic| walk_at "go") => `(tactic| ((refine' call_go ?h1 ?h2 ?h3 ?h4); (case h1 => rfl); (case h2 => decide); (case h3 => (simp only [init, slots0, List.length_cons, List.length_nil, Nat.reduceAdd, Nat.reduceSub, Nat.zero_add, List.replicate_succ, List.replicate_zero, List.cons_append, List.nil_append]; try rfl))))
namespace K60
theorem bag_eq (ns : List Int) : F_law_bag [.scr ns] = .ok (.fr (.lst [.lst (ns.map .int), .int 0, .int 29, .int 0])) [] := by rfl
def Bag (b : D) : Prop := ∃ (cs : List Int) (p s n : Int), b = .lst [.lst (cs.map .int), .int p, .int s, .int n]
def Drawn (m : Int) (a : Val) (ios : List D) : Prop := ∃ r b, a = .d (.int r) ∧ ios = [b] ∧ 0 ≤ r ∧ r < m ∧ Bag b
theorem drawn_mk {m r : Int} {cs : List Int} {p s n : Int} (h0 : 0 ≤ r) (h1 : r < m) : Drawn m (.d (.int r)) [.lst [.lst (cs.map .int), .int p, .int s, .int n]] := ⟨r, _, rfl, rfl, h0, h1, cs, p, s, n, rfl⟩
set_option maxHeartbeats 2000000 in
theorem draw_ok {b : D} {m : Int} (hb : Bag b) (hm : 0 < m) (h9 : m.natAbs < 2 ^ 100) : (F_law_draw [b, .int m]).sat (Drawn m) (fun _ _ => False) := by
  obtain ⟨cs, p, s, n, rfl⟩ := hb
  have fd : ∀ i : Int, fdivF (.int i) (.int m) = vi (i / m) := fun i => fdiv_p (b := 100) hm h9 (by decide) (by decide)
  have e0 : ∀ i : Int, 0 ≤ i % m := fun i => Int.emod_nonneg i (by omega)
  have e1 : ∀ i : Int, i % m < m := fun i => Int.emod_lt_of_pos i hm
  walk_at "go"
  unfold g_law_draw
  by_cases hp : p = 0
  · subst hp
    cases cs with
    | nil =>
      repeat (first | walk_at "ev" | walk_at "br")
      exact ⟨_, rfl, rfl, drawn_mk (cs := []) (e0 _) (e1 _)⟩
    | cons c cs =>
      repeat (first | walk_at "ev" | walk_at "br")
      refine ⟨fun hc => ?_, fun hc => ?_⟩
      · repeat (first | walk_at "ev" | walk_at "br")
        refine ⟨fun hd => ?_, fun hd => ?_⟩
        · repeat (first | walk_at "ev" | walk_at "br")
          exact ⟨_, rfl, rfl, drawn_mk (e0 _) (e1 _)⟩
        · repeat (first | walk_at "ev" | walk_at "br")
          exact ⟨_, rfl, rfl, drawn_mk (e0 _) (e1 _)⟩
      · repeat (first | walk_at "ev" | walk_at "br")
        exact ⟨_, rfl, rfl, drawn_mk (e0 _) (e1 _)⟩
  · by_cases hq : 0 < p
    · repeat (first | walk_at "ev" | walk_at "br")
      exact ⟨_, rfl, rfl, drawn_mk (e0 _) (e1 _)⟩
    · repeat (first | walk_at "ev" | walk_at "br")
      exact ⟨_, rfl, rfl, drawn_mk (e0 _) (e1 _)⟩
end K60
open PySem PySem.Spec PyProof.Rows L2 DL
namespace K60
/-! ### Euclid's steps -/
def eu (a b : Nat) : Nat := if h : b = 0 then 0 else 1 + eu b (a % b)
  termination_by b
  decreasing_by exact Nat.mod_lt _ (Nat.pos_of_ne_zero h)
theorem eu_zero (a : Nat) : eu a 0 = 0 := by unfold eu; rfl
theorem eu_pos (a b : Nat) (h : 0 < b) : eu a b = 1 + eu b (a % b) := by
  rw [eu, dif_neg (by omega)]
theorem eu_le : ∀ (n a b : Nat), b < 2 ^ n → eu a b ≤ 2 * n
  | 0, a, b, h => by
    have : b = 0 := by omega
    subst this
    rw [eu_zero]
    omega
  | n + 1, a, b, h => by
    by_cases hb : b = 0
    · subst hb; rw [eu_zero]; omega
    · rw [eu_pos a b (by omega)]
      have hr : a % b < b := Nat.mod_lt _ (by omega)
      by_cases hr0 : a % b = 0
      · rw [hr0, eu_zero]; omega
      · rw [eu_pos b (a % b) (by omega)]
        have h2 : b % (a % b) < 2 ^ n := by
          have h3 : b % (a % b) < a % b := Nat.mod_lt _ (by omega)
          have h4 : 2 * (b % (a % b)) < b := by
            by_cases h5 : 2 * (a % b) ≤ b
            · omega
            · have h6 : b % (a % b) = b - a % b := by
                rw [Nat.mod_eq_sub_mod (by omega), Nat.mod_eq_of_lt (by omega)]
              omega
          rw [Nat.pow_succ] at h
          omega
        have := eu_le n (a % b) (b % (a % b)) h2
        omega
theorem eu_le2 (n a b : Nat) (h : b < 2 ^ n) : eu a b ≤ 2 * n := eu_le n a b h
/-! ### the greatest common divisor, and the fraction -/
theorem gcd_step (a b : Nat) : Nat.gcd b (a % b) = Nat.gcd a b := by
  rw [Nat.gcd_comm b (a % b), ← Nat.gcd_rec, Nat.gcd_comm]
/-- fraction(top, bottom) -/
def frT (t b : Int) : Int := (if b < 0 then -1 else 1) * t / (Nat.gcd t.natAbs b.natAbs : Int)
def frB (t b : Int) : Int := (b.natAbs : Int) / (Nat.gcd t.natAbs b.natAbs : Int)
theorem abs_nat (i : Int) : (if i < 0 then -i else i) = (i.natAbs : Int) := by split <;> omega
set_option maxHeartbeats 2000000 in
theorem fraction_ok {t b : Int} (hb : b ≠ 0) (h1 : t.natAbs < 2 ^ 150) (h2 : b.natAbs < 2 ^ 150) : (F_fraction [.int t, .int b]).sat (fun a ios => a = .d (.tup [.int (frT t b), .int (frB t b)]) ∧ ios = []) (fun _ _ => False) := by
  walk_at "go"
  unfold g_fraction
  repeat (first | walk_at "ev" | walk_at "br")
  rw [abs_nat, abs_nat]
  refine v_while (fun m st => ∃ (x y : Nat) (s : Slot), m = eu x y ∧ Nat.gcd x y = Nat.gcd t.natAbs b.natAbs ∧ st = [.sh (.int t), .sh (.int b), .sh (.int x), .sh (.int y), .no, s]) (eu t.natAbs b.natAbs) ⟨_, _, _, rfl, rfl, rfl⟩ ?_ ?_
  · have := eu_le 150 t.natAbs b.natAbs h2
    omega
  · rintro m st ⟨x, y, s, rfl, hg, rfl⟩
    repeat walk_at "ev"
    refine ⟨fun hc => ?_, fun hc => ?_⟩
    · have hy : y = 0 := by
        rw [decide_eq_false_iff_not] at hc
        omega
      subst hy
      rw [Nat.gcd_zero_right] at hg
      have hx : 0 < x := by
        rw [hg]
        exact Nat.gcd_pos_of_pos_right _ (by omega)
      have hx0 : (0 : Int) < (x : Int) := by omega
      have hx1 : (x : Int).natAbs < 2 ^ 150 := by
        rw [hg]
        exact Nat.lt_of_le_of_lt (Nat.gcd_le_right _ (by omega)) h2
      have e0 : ∀ i : Int, (Val.d (.tup [.int (i * t / x), .int ((if b < 0 then -b else b) / x)])) = .d (.tup [.int (i * t / (Nat.gcd t.natAbs b.natAbs : Int)), .int (frB t b)]) := fun i => by
        unfold frB
        rw [abs_nat, hg]
      repeat (first | walk_at "ev" | walk_at "br")
      refine ⟨fun hd => ?_, fun hd => ?_⟩
      · repeat (first | walk_at "ev" | walk_at "br")
        refine ⟨_, rfl, rfl, ?_, rfl⟩
        rw [e0]
        unfold frT
        rw [if_pos (of_decide_eq_true hd)]
      · repeat (first | walk_at "ev" | walk_at "br")
        refine ⟨_, rfl, rfl, ?_, rfl⟩
        rw [e0]
        unfold frT
        rw [if_neg (of_decide_eq_false hd)]
    · have hy : 0 < y := by
        rw [decide_eq_true_eq] at hc
        omega
      have hy' : (0 : Int) < (y : Int) := by omega
      repeat (first | walk_at "ev" | walk_at "br")
      refine ⟨eu y (x % y), ?_, y, x % y, _, rfl, ?_, rfl⟩
      · rw [eu_pos x y hy]
        omega
      · rw [gcd_step]
        exact hg
/-! ### _law_gcd -/
set_option maxHeartbeats 2000000 in
theorem gcd_ok {t b : Int} (h1 : t.natAbs < 2 ^ 150) (h2 : b.natAbs < 2 ^ 150) : (F_law_gcd [.int t, .int b]).sat (fun a ios => a = .d (.int (Nat.gcd t.natAbs b.natAbs : Int)) ∧ ios = []) (fun _ _ => False) := by
  walk_at "go"
  unfold g_law_gcd
  repeat (first | walk_at "ev" | walk_at "br")
  rw [abs_nat, abs_nat]
  refine v_run _ (fun i st => ∃ (x y : Nat) (s u : Slot), eu x y + i ≤ 300 ∧ x < 2 ^ 150 ∧ y < 2 ^ 150 ∧ Nat.gcd x y = Nat.gcd t.natAbs b.natAbs ∧ st = [.sh (.int x), .sh (.int y), s, u]) ⟨_, _, _, _, eu_le 150 _ _ h2, h1, h2, rfl, rfl⟩ ?_ ?_
  · rintro st ⟨x, y, s, u, hl, _, _, hg, rfl⟩
    exfalso
    have : (rng 0 (400 : Int).toNat).length = 400 := by decide +kernel
    omega
  · rintro i d st hd ⟨x, y, s, u, hl, ha, hb, hg, rfl⟩
    refine ⟨[.sh (.int x), .sh (.int y), .sh d, u], rfl, ?_⟩
    repeat walk_at "ev"
    refine ⟨fun hc => ?_, fun hc => ?_⟩
    · have hy : y = 0 := by
        rw [beq_iff_eq] at hc
        omega
      subst hy
      rw [Nat.gcd_zero_right] at hg
      repeat walk_at "ev"
      exact ⟨_, rfl, rfl, by rw [hg], rfl⟩
    · have hy : 0 < y := by
        rw [beq_eq_false_iff_ne] at hc
        omega
      have hy' : (0 : Int) < (y : Int) := by omega
      have hy2 : (y : Int).natAbs < 2 ^ 150 := hb
      have hm : mulF (.int (y : Int)) (.int ((x : Int) / (y : Int))) = vi ((y : Int) * ((x : Int) / (y : Int))) := by
        refine mul_w (a := 150) (b := 150) hy2 ?_ (by decide) (by decide) (by decide)
        have : ((x : Int) / (y : Int)).natAbs = x / y := by
          rw [← Int.natCast_ediv]
          rfl
        rw [this]
        exact Nat.lt_of_le_of_lt (Nat.div_le_self _ _) ha
      have hr : (x : Int) - (y : Int) * ((x : Int) / (y : Int)) = ((x % y : Nat) : Int) := by
        have := Int.emod_add_mul_ediv (x : Int) (y : Int)
        rw [Int.natCast_emod]
        omega
      repeat walk_at "ev"
      rw [hr]
      refine ⟨y, x % y, .sh d, .sh (.int (x % y : Nat)), ?_, hb, ?_, ?_, ?_⟩
      · rw [eu_pos x y hy] at hl
        omega
      · exact Nat.lt_trans (Nat.mod_lt _ hy) hb
      · rw [gcd_step]
        exact hg
      · rfl
end K60
open PySem PySem.Spec PyProof.Rows L2 DL
namespace K60
/-! ### is_fraction, told twice -/
def isFr : D → Bool
  | .tup [.int t, .int b] => decide (0 < b) && (Nat.gcd t.natAbs b.natAbs == 1)
  | _ => false
theorem plain_int (i : Int) : F_is_plain [.int i] = .ok (.d (.bl true)) [] := rfl
theorem whole_int (i : Int) : F_law_is_whole [.int i] = .ok (.d (.bl true)) [] := rfl
theorem eq_pair (a b c d : Int) : eqD (.tup [.int a, .int b]) (.tup [.int c, .int d]) = some (a == c && b == d) := by
  have h : ∀ x y : Int, SeqAt.shaped (.tuple [.int x, .int y]) = true := fun x y => rfl
  simp only [eqD, py, pys, Option.map_some, h, Bool.and_self, if_true]
  simp only [PyData.eqv, PyData.eqvAll, Bool.and_true]
theorem eqF_pair (a b c d : Int) : eqF (.tup [.int a, .int b]) (.tup [.int c, .int d]) = vb (a == c && b == d) := by
  unfold eqF
  rw [eq_pair]
theorem frac_one {t b : Int} (hb : 0 < b) : ((frT t b == t) && (frB t b == b)) = (Nat.gcd t.natAbs b.natAbs == 1) := by
  have hg : 0 < Nat.gcd t.natAbs b.natAbs := Nat.gcd_pos_of_pos_right _ (by omega)
  have hB : (b.natAbs : Int) = b := by omega
  unfold frT frB
  rw [if_neg (by omega : ¬ b < 0), Int.one_mul, hB]
  by_cases h1 : Nat.gcd t.natAbs b.natAbs = 1
  · rw [h1]
    simp
  · rw [beq_eq_false_iff_ne.mpr h1]
    have hne : b / (Nat.gcd t.natAbs b.natAbs : Int) ≠ b := fun z => by
      have hlt : b / (Nat.gcd t.natAbs b.natAbs : Int) < b := Int.ediv_lt_self_of_pos_of_ne_one hb (by omega)
      omega
    rw [beq_eq_false_iff_ne.mpr hne, Bool.and_false]
set_option maxHeartbeats 2000000 in
theorem isf_pair {t b : Int} (h1 : t.natAbs < 2 ^ 150) (h2 : b.natAbs < 2 ^ 150) : F_is_fraction [.tup [.int t, .int b]] = .ok (.d (.bl (isFr (.tup [.int t, .int b])))) [] := by
  have q : (F_is_fraction [.tup [.int t, .int b]]).sat (fun a ios => a = .d (.bl (isFr (.tup [.int t, .int b]))) ∧ ios = []) (fun _ _ => False) := by
    walk_at "go"
    unfold g_is_fraction
    repeat (first | walk_at "ev" | walk_at "br")
    refine sat_of (plain_int t) ?_
    refine ⟨_, rfl, ?_⟩
    repeat (first | walk_at "ev" | walk_at "br")
    refine sat_of (plain_int b) ?_
    refine ⟨_, rfl, ?_⟩
    repeat (first | walk_at "ev" | walk_at "br")
    refine ⟨fun hc => ?_, fun hc => ?_⟩
    · have hb : 0 < b := of_decide_eq_true hc
      repeat (first | walk_at "ev" | walk_at "br")
      refine fr_imp (fraction_ok (by omega) h1 h2) (fun a ios z => ?_) (fun _ _ z => z.elim)
      obtain ⟨rfl, rfl⟩ := z
      refine ⟨_, rfl, ?_⟩
      have he := eqF_pair (frT t b) (frB t b) t b
      rw [frac_one hb] at he
      walk_at "ev"
      refine o_2 rfl rfl he ?_
      repeat (first | walk_at "ev" | walk_at "br")
      refine ⟨_, rfl, rfl, ?_, rfl⟩
      show _ = Val.d (.bl (decide (0 < b) && (Nat.gcd t.natAbs b.natAbs == 1)))
      rw [hc, Bool.true_and]
    · repeat (first | walk_at "ev" | walk_at "br")
      refine ⟨_, rfl, rfl, ?_, rfl⟩
      show _ = Val.d (.bl (decide (0 < b) && (Nat.gcd t.natAbs b.natAbs == 1)))
      rw [hc, Bool.false_and]
  obtain ⟨a, ios, e, rfl, rfl⟩ := sat_eq q
  exact e
set_option maxHeartbeats 2000000 in
theorem lisf_pair {t b : Int} (h1 : t.natAbs < 2 ^ 150) (h2 : b.natAbs < 2 ^ 150) : F_law_is_fraction [.tup [.int t, .int b]] = .ok (.d (.bl (isFr (.tup [.int t, .int b])))) [] := by
  have q : (F_law_is_fraction [.tup [.int t, .int b]]).sat (fun a ios => a = .d (.bl (isFr (.tup [.int t, .int b]))) ∧ ios = []) (fun _ _ => False) := by
    walk_at "go"
    unfold g_law_is_fraction
    repeat (first | walk_at "ev" | walk_at "br")
    refine sat_of (whole_int t) ?_
    refine ⟨_, rfl, ?_⟩
    repeat (first | walk_at "ev" | walk_at "br")
    refine sat_of (whole_int b) ?_
    refine ⟨_, rfl, ?_⟩
    repeat (first | walk_at "ev" | walk_at "br")
    refine ⟨fun hc => ?_, fun hc => ?_⟩
    · have hb : 0 < b := of_decide_eq_true hc
      repeat (first | walk_at "ev" | walk_at "br")
      refine fr_imp (gcd_ok h1 h2) (fun a ios z => ?_) (fun _ _ z => z.elim)
      obtain ⟨rfl, rfl⟩ := z
      refine ⟨_, rfl, ?_⟩
      repeat (first | walk_at "ev" | walk_at "br")
      refine ⟨_, rfl, rfl, ?_, rfl⟩
      show _ = Val.d (.bl (decide (0 < b) && (Nat.gcd t.natAbs b.natAbs == 1)))
      rw [hc, Bool.true_and]
      by_cases h1 : Nat.gcd t.natAbs b.natAbs = 1
      · rw [h1]; rfl
      · rw [beq_eq_false_iff_ne.mpr h1, beq_eq_false_iff_ne.mpr (by omega)]
    · repeat (first | walk_at "ev" | walk_at "br")
      refine ⟨_, rfl, rfl, ?_, rfl⟩
      show _ = Val.d (.bl (decide (0 < b) && (Nat.gcd t.natAbs b.natAbs == 1)))
      rw [hc, Bool.false_and]
  obtain ⟨a, ios, e, rfl, rfl⟩ := sat_eq q
  exact e
/-- both say the same -/
def Alike (x : D) : Prop := ∃ b, F_is_fraction [x] = .ok (.d (.bl b)) [] ∧ F_law_is_fraction [x] = .ok (.d (.bl b)) []
theorem alike_pair {t b : Int} (h1 : t.natAbs < 2 ^ 150) (h2 : b.natAbs < 2 ^ 150) : Alike (.tup [.int t, .int b]) := ⟨_, isf_pair h1 h2, lisf_pair h1 h2⟩
theorem alike_c1 : Alike .non ∧ Alike (.int 3) ∧ Alike (.str "1/2") ∧ Alike (.lst [.int 1, .int 2]) ∧ Alike (.tup [.int 1]) ∧ Alike (.tup [.int 1, .int 2, .int 3]) := ⟨⟨_, rfl, rfl⟩, ⟨_, rfl, rfl⟩, ⟨_, rfl, rfl⟩, ⟨_, rfl, rfl⟩, ⟨_, rfl, rfl⟩, ⟨_, rfl, rfl⟩⟩
theorem alike_c2 : Alike (.tup [.bl true, .int 2]) ∧ Alike (.tup [.int 1, .bl true]) ∧ Alike (.tup [.str "1", .int 2]) := ⟨⟨_, rfl, rfl⟩, ⟨_, rfl, rfl⟩, ⟨_, rfl, rfl⟩⟩
theorem alike_l (a b : D) : Alike (.lst [a, b]) := ⟨_, rfl, rfl⟩
theorem alike_1 (a : D) : Alike (.tup [a]) := ⟨_, rfl, rfl⟩
theorem alike_n (t : Int) : Alike (.tup [.int t, .non]) := ⟨_, rfl, rfl⟩
end K60
open PySem PySem.Spec PyProof.Rows L2 DL
namespace K60
theorem Bag0 (ns : List Int) : Bag (.lst [.lst (ns.map .int), .int 0, .int 29, .int 0]) := ⟨ns, 0, 29, 0, rfl⟩
theorem great_at {r : Int} (h0 : 0 ≤ r) (h1 : r < 4) : ∃ g : Int, itemF (.lst [.int 3, .int 30, .int ((10 : Int) ^ (9 : Int).toNat), .int ((10 : Int) ^ (19 : Int).toNat)]) (.int r) = some (.d (.int g)) ∧ 3 ≤ g ∧ g ≤ 10 ^ 19 := by
  have : r = 0 ∨ r = 1 ∨ r = 2 ∨ r = 3 := by omega
  rcases this with rfl | rfl | rfl | rfl
  · exact ⟨3, rfl, by decide, by decide⟩
  · exact ⟨30, rfl, by decide, by decide⟩
  · exact ⟨_, rfl, by decide, by decide⟩
  · exact ⟨_, rfl, by decide, by decide⟩
theorem sign_at {r : Int} (h0 : 0 ≤ r) (h1 : r < 2) : ∃ g : Int, itemF (.lst [.int 1, .int (-1)]) (.int r) = some (.d (.int g)) ∧ (g = 1 ∨ g = -1) := by
  have : r = 0 ∨ r = 1 := by omega
  rcases this with rfl | rfl
  · exact ⟨1, rfl, .inl rfl⟩
  · exact ⟨-1, rfl, .inr rfl⟩
/-- what the told fraction is worth -/
structure Told (t b T B : Int) : Prop where
  pos : 0 < B
  one : Nat.gcd T.natAbs B.natAbs = 1
  eq : T * b = t * B
  lT : T.natAbs ≤ t.natAbs
  lB : B.natAbs ≤ b.natAbs
theorem told_ok {t b : Int} (hb : b ≠ 0) : Told t b (frT t b) (frB t b) := by
  have hg : 0 < Nat.gcd t.natAbs b.natAbs := Nat.gcd_pos_of_pos_right _ (by omega)
  obtain ⟨g, eg⟩ : ∃ g, g = Nat.gcd t.natAbs b.natAbs := ⟨_, rfl⟩
  have d1 : g ∣ t.natAbs := by rw [eg]; exact Nat.gcd_dvd_left _ _
  have d2 : g ∣ b.natAbs := by rw [eg]; exact Nat.gcd_dvd_right _ _
  obtain ⟨p, hp⟩ := d1
  obtain ⟨q, hq⟩ := d2
  rw [← eg] at hg
  have eB : frB t b = (q : Int) := by
    unfold frB
    rw [← eg, hq, Int.natCast_mul, Int.mul_ediv_cancel_left _ (by omega)]
  have hgi : (g : Int) ≠ 0 := by omega
  -- the sign of the top
  obtain ⟨s, hs, hs1⟩ : ∃ s : Int, t = s * (g * p : Nat) ∧ (s = 1 ∨ s = -1) := by
    rw [← hp]
    by_cases h : 0 ≤ t
    · exact ⟨1, by omega, .inl rfl⟩
    · exact ⟨-1, by omega, .inr rfl⟩
  have eT : frT t b = (if b < 0 then -1 else 1) * s * (p : Int) := by
    unfold frT
    rw [← eg, hs, Int.natCast_mul]
    have e : (if b < 0 then (-1 : Int) else 1) * (s * ((g : Int) * (p : Int))) = (g : Int) * ((if b < 0 then (-1 : Int) else 1) * s * (p : Int)) := by
      ac_rfl
    rw [e, Int.mul_ediv_cancel_left _ hgi]
  have hq0 : 0 < q := by
    rcases Nat.eq_zero_or_pos q with h | h
    · rw [h, Nat.mul_zero] at hq; omega
    · exact h
  have hpq : Nat.gcd p q = 1 := by
    have := eg
    rw [hp, hq, Nat.gcd_mul_left] at this
    have h2 : g * Nat.gcd p q = g * 1 := by omega
    exact Nat.eq_of_mul_eq_mul_left hg h2
  have nT : (frT t b).natAbs = p := by
    rw [eT, Int.natAbs_mul, Int.natAbs_mul]
    have a1 : (if b < 0 then (-1 : Int) else 1).natAbs = 1 := by split <;> rfl
    have a2 : s.natAbs = 1 := by rcases hs1 with rfl | rfl <;> rfl
    rw [a1, a2]
    omega
  have nB : (frB t b).natAbs = q := by rw [eB]; rfl
  have hb2 : (if b < 0 then (-1 : Int) else 1) * b = (g : Int) * (q : Int) := by
    have : ((g * q : Nat) : Int) = (b.natAbs : Int) := by rw [← hq]
    rw [← Int.natCast_mul, this]
    split <;> omega
  refine ⟨by rw [eB]; omega, by rw [nT, nB]; exact hpq, ?_, ?_, ?_⟩
  · rw [eT, eB, hs, Int.natCast_mul]
    calc (if b < 0 then (-1 : Int) else 1) * s * (p : Int) * b = s * (p : Int) * ((if b < 0 then (-1 : Int) else 1) * b) := by
          ac_rfl
      _ = s * (p : Int) * ((g : Int) * (q : Int)) := by rw [hb2]
      _ = s * ((g : Int) * (p : Int)) * (q : Int) := by
          ac_rfl
  · rw [nT, hp]
    exact Nat.le_mul_of_pos_left _ hg
  · rw [nB, hq]
    exact Nat.le_mul_of_pos_left _ hg
theorem big_mul {a b : Int} {m n : Nat} (ha : a.natAbs ≤ m) (hb : b.natAbs ≤ n) : (a * b).natAbs ≤ m * n := by
  rw [Int.natAbs_mul]
  exact Nat.mul_le_mul ha hb
end K60
open PySem PySem.Spec PyProof.Rows L2 DL
namespace K60
theorem lt150 {n : Nat} (h : n ≤ 10 ^ 19 * 10 ^ 19) : n < 2 ^ 150 := Nat.lt_of_le_of_lt h (by decide)
/-- the values of the last loop -/
def vals (T B : Int) : List D := [.non, .int 3, .str "1/2", .lst [.int 1, .int 2], .tup [.int 1], .tup [.int 1, .int 2, .int 3], .tup [.int 2, .int 4], .tup [.int 1, .int 0], .tup [.int 1, .int (-2)], .tup [.bl true, .int 2], .tup [.int 1, .bl true], .tup [.int 0, .int 2], .tup [.str "1", .int 2],
  .tup [.int (T * 2), .int (B * 2)], .tup [.int T, .int (-B)], .lst [.int T, .int B], .tup [.tup [.int T, .int B]], .tup [.int T, .non], .tup [.int 0, .int 1], .tup [.int (-1), .int 1], .tup [.int 5, .int 3], .tup [.int T, .int B]]
theorem vals_ok {T B : Int} (h1 : T.natAbs ≤ 10 ^ 19 * 10 ^ 19) (h2 : B.natAbs ≤ 10 ^ 19 * 10 ^ 19) : ∀ d ∈ vals T B, Alike d := by
  have a1 : T.natAbs < 2 ^ 150 := lt150 h1
  have a2 : B.natAbs < 2 ^ 150 := lt150 h2
  have dbl : ∀ {x : Int}, x.natAbs ≤ 10 ^ 19 * 10 ^ 19 → (x * 2).natAbs < 2 ^ 150 := fun {x} h => by
    rw [Int.natAbs_mul]
    exact Nat.lt_of_le_of_lt (Nat.mul_le_mul_right _ h) (by decide)
  have a3 : (T * 2).natAbs < 2 ^ 150 := dbl h1
  have a4 : (B * 2).natAbs < 2 ^ 150 := dbl h2
  have a5 : (-B).natAbs < 2 ^ 150 := by rw [Int.natAbs_neg]; exact a2
  intro d hd
  simp only [vals, List.mem_cons, List.not_mem_nil, or_false] at hd
  obtain ⟨c1, c2, c3, c4, c5, c6⟩ := alike_c1
  obtain ⟨e1, e2, e3⟩ := alike_c2
  rcases hd with rfl | rfl | rfl | rfl | rfl | rfl | rfl | rfl | rfl | rfl | rfl | rfl | rfl | rfl | rfl | rfl | rfl | rfl | rfl | rfl | rfl | rfl
  · exact c1
  · exact c2
  · exact c3
  · exact c4
  · exact c5
  · exact c6
  · exact alike_pair (by decide) (by decide)
  · exact alike_pair (by decide) (by decide)
  · exact alike_pair (by decide) (by decide)
  · exact e1
  · exact e2
  · exact alike_pair (by decide) (by decide)
  · exact e3
  · exact alike_pair a3 a4
  · exact alike_pair a1 a5
  · exact alike_l _ _
  · exact alike_1 _
  · exact alike_n _
  · exact alike_pair (by decide) (by decide)
  · exact alike_pair (by decide) (by decide)
  · exact alike_pair (by decide) (by decide)
  · exact alike_pair a1 a2
set_option maxHeartbeats 8000000 in
theorem law_ok (ns : List Int) (_ : ns.length ≤ 63) (_ : ∀ z ∈ ns, Builtin.Int.intBits z ≤ 1048576) : (F_law [.scr ns]).sat (fun a ios => a = .d (.bl true) ∧ ios = []) (fun _ _ => False) := by
  walk_at "go"
  unfold g_law
  repeat (first | walk_at "ev" | walk_at "br")
  refine sat_of (bag_eq ns) ?_
  refine ⟨_, rfl, ?_⟩
  repeat (first | walk_at "ev" | walk_at "br")
  refine v_run _ (fun i st => ∃ (b : D) (s2 s3 s4 s5 s6 s7 s8 s9 s10 : Slot), Bag b ∧ st = [.sh (.scr ns), .ow b, s2, s3, s4, s5, s6, s7, s8, s9, s10]) ⟨_, _, _, _, _, _, _, _, _, _, Bag0 ns, rfl⟩ ?_ ?_
  · rintro st ⟨b, s2, s3, s4, s5, s6, s7, s8, s9, s10, hb, rfl⟩
    repeat (first | walk_at "ev" | walk_at "br")
    exact ⟨_, rfl, rfl, rfl, rfl⟩
  · rintro i d st hd ⟨b, s2, s3, s4, s5, s6, s7, s8, s9, s10, hb, rfl⟩
    refine ⟨[.sh (.scr ns), .ow b, .sh d, s3, s4, s5, s6, s7, s8, s9, s10], rfl, ?_⟩
    repeat (first | walk_at "ev" | walk_at "br")
    -- great
    refine fr_imp (draw_ok hb (by decide) (by decide)) (fun a ios z => ?_) (fun _ _ z => z.elim)
    obtain ⟨r1, b1, rfl, rfl, r10, r11, hb1⟩ := z
    refine ⟨[.sh (.scr ns), .ow b1, .sh d, s3, s4, s5, s6, s7, s8, s9, s10], rfl, ?_⟩
    obtain ⟨g, eg, g1, g2⟩ := great_at r10 r11
    refine o_2 rfl rfl eg ?_
    have hg0 : (0 : Int) < g := by omega
    have hg9 : g.natAbs < 2 ^ 100 := Nat.lt_of_le_of_lt (show g.natAbs ≤ 10 ^ 19 by omega) (by decide)
    repeat (first | walk_at "ev" | walk_at "br")
    -- factor
    refine fr_imp (draw_ok hb1 hg0 hg9) (fun a ios z => ?_) (fun _ _ z => z.elim)
    obtain ⟨r2, b2, rfl, rfl, r20, r21, hb2⟩ := z
    refine ⟨[.sh (.scr ns), .ow b2, .sh d, .sh (.int g), s4, s5, s6, s7, s8, s9, s10], rfl, ?_⟩
    repeat (first | walk_at "ev" | walk_at "br")
    -- top
    refine fr_imp (draw_ok hb2 (by omega) (Nat.lt_of_le_of_lt (show (2 * g).natAbs ≤ 2 * 10 ^ 19 by omega) (by decide))) (fun a ios z => ?_) (fun _ _ z => z.elim)
    obtain ⟨r3, b3, rfl, rfl, r30, r31, hb3⟩ := z
    refine ⟨[.sh (.scr ns), .ow b3, .sh d, .sh (.int g), .sh (.int (1 + r2)), s5, s6, s7, s8, s9, s10], rfl, ?_⟩
    have hm1 : mulF (.int (r3 - g)) (.int (1 + r2)) = vi ((r3 - g) * (1 + r2)) := mul_l (by omega) (by omega)
    repeat (first | walk_at "ev" | walk_at "br")
    -- bottom
    refine fr_imp (draw_ok hb3 hg0 hg9) (fun a ios z => ?_) (fun _ _ z => z.elim)
    obtain ⟨r4, b4, rfl, rfl, r40, r41, hb4⟩ := z
    refine ⟨[.sh (.scr ns), .ow b4, .sh d, .sh (.int g), .sh (.int (1 + r2)), .sh (.int ((r3 - g) * (1 + r2))), s6, s7, s8, s9, s10], rfl, ?_⟩
    have hm2 : mulF (.int (1 + r4)) (.int (1 + r2)) = vi ((1 + r4) * (1 + r2)) := mul_l (by omega) (by omega)
    repeat (first | walk_at "ev" | walk_at "br")
    refine fr_imp (draw_ok hb4 (by decide) (by decide)) (fun a ios z => ?_) (fun _ _ z => z.elim)
    obtain ⟨r5, b5, rfl, rfl, r50, r51, hb5⟩ := z
    refine ⟨[.sh (.scr ns), .ow b5, .sh d, .sh (.int g), .sh (.int (1 + r2)), .sh (.int ((r3 - g) * (1 + r2))), s6, s7, s8, s9, s10], rfl, ?_⟩
    obtain ⟨sg, es, hs⟩ := sign_at r50 r51
    refine o_2 rfl rfl es ?_
    have hm3 : mulF (.int ((1 + r4) * (1 + r2))) (.int sg) = vi ((1 + r4) * (1 + r2) * sg) := mul_r (by omega) (by omega)
    -- the bounds
    obtain ⟨t, et⟩ : ∃ t, t = (r3 - g) * (1 + r2) := ⟨_, rfl⟩
    obtain ⟨q, eq⟩ : ∃ q, q = (1 + r4) * (1 + r2) * sg := ⟨_, rfl⟩
    have ht : t.natAbs ≤ 10 ^ 19 * 10 ^ 19 := by rw [et]; exact big_mul (by omega) (by omega)
    have hq : q.natAbs ≤ 10 ^ 19 * 10 ^ 19 := by
      rw [eq, Int.natAbs_mul]
      have : sg.natAbs = 1 := by rcases hs with rfl | rfl <;> rfl
      rw [this, Nat.mul_one]
      exact big_mul (by omega) (by omega)
    have hq0 : q ≠ 0 := by
      have h1 : (1 + r4) * (1 + r2) ≠ 0 := Int.mul_ne_zero (by omega) (by omega)
      rw [eq]
      exact Int.mul_ne_zero h1 (by omega)
    repeat (first | walk_at "ev" | walk_at "br")
    rw [← et, ← eq]
    refine fr_imp (fraction_ok hq0 (lt150 ht) (lt150 hq)) (fun a ios z => ?_) (fun _ _ z => z.elim)
    obtain ⟨rfl, rfl⟩ := z
    have T := told_ok (t := t) hq0
    obtain ⟨tT, eT⟩ : ∃ x, x = frT t q := ⟨_, rfl⟩
    obtain ⟨tB, eB⟩ : ∃ x, x = frB t q := ⟨_, rfl⟩
    rw [← eT, ← eB] at T ⊢
    refine ⟨_, rfl, ?_⟩
    repeat (first | walk_at "ev" | walk_at "br")
    have l1 : tT.natAbs ≤ 10 ^ 19 * 10 ^ 19 := Nat.le_trans T.lT ht
    have l2 : tB.natAbs ≤ 10 ^ 19 * 10 ^ 19 := Nat.le_trans T.lB hq
    have f1 : isFr (.tup [.int tT, .int tB]) = true := by
      show (decide (0 < tB) && (Nat.gcd tT.natAbs tB.natAbs == 1)) = true
      rw [decide_eq_true T.pos, T.one]
      rfl
    have p1 := lisf_pair (lt150 l1) (lt150 l2)
    have p2 := isf_pair (lt150 l1) (lt150 l2)
    rw [f1] at p1 p2
    have hm4 : mulF (.int tT) (.int q) = vi (t * tB) := by
      rw [← T.eq]
      exact mul_w (a := 150) (b := 150) (lt150 l1) (lt150 hq) (by decide) (by decide) (by decide)
    have hm5 : mulF (.int t) (.int tB) = vi (t * tB) := mul_w (a := 150) (b := 150) (lt150 ht) (lt150 l2) (by decide) (by decide) (by decide)
    refine sat_of p1 ?_
    refine ⟨_, rfl, ?_⟩
    repeat (first | walk_at "ev" | walk_at "br")
    refine sat_of p2 ?_
    refine ⟨_, rfl, ?_⟩
    repeat (first | walk_at "ev" | walk_at "br")
    show (runFor _ _ (vals tT tB) _).sat _
    refine v_run _ (fun i st => ∃ u v, st = [.sh (.scr ns), .ow b5, .sh d, .sh (.int g), .sh (.int (1 + r2)), .sh (.int t), .sh (.int q), .sh (.tup [.int tT, .int tB]), _, u, v]) ⟨_, _, rfl⟩ ?_ ?_
    · rintro st ⟨u, v, rfl⟩
      exact ⟨b5, _, _, _, _, _, _, _, _, _, hb5, rfl⟩
    · rintro j x st hx ⟨u, v, rfl⟩
      refine ⟨_, aName_ok rfl rfl, ?_⟩
      obtain ⟨c, c1, c2⟩ := vals_ok l1 l2 x (List.mem_of_getElem? hx)
      repeat (first | walk_at "ev" | walk_at "br")
      refine sat_of c1 ?_
      refine ⟨_, rfl, ?_⟩
      repeat (first | walk_at "ev" | walk_at "br")
      refine sat_of c2 ?_
      refine ⟨_, rfl, ?_⟩
      repeat (first | walk_at "ev" | walk_at "br")
      exact ⟨_, _, rfl⟩
end K60
open PySem PySem.W PyProof.Rows
set_option maxHeartbeats 0 in
theorem PySem.Challenge.cw_leastlooks_k60_fractions_holds : PySem.Challenge.rw_leastlooks_k60_fractions.Holds := by
  w_on; o_law; k_head; (case hw => w_witness2)
  k_fill
  refine L2.walk_ofB (l := PySem.Challenge.rw_leastlooks_k60_fractions) (n := 63) (k := 3) (x := "_law_script") (CX := fun w => L2.CX (PySem.Challenge.rw_leastlooks_k60_fractions).prog w) (sp := fun w => DL.spLaw _) rfl (by decide) rfl ⟨rfl, by decide, by decide⟩ (fun w h Y => PySem.W.kIn_of Y) ?F (fun _ _ a ns hl hb _ hS => ⟨a, ns, rfl, hS, hl, hb, fun _ => rfl⟩) (fun _ _ _ _ _ h => DL.cx_no h)
  case F =>
    intro w mg fa h KX G hmg
    refine' (fun (T : K60.Top _ mg) => ?main) (K60.Top.mk (DL.funAt_mk KX G ?a0 ?l0 ?c0 ?k0 fun _ _ _ _ _ _ us hl => match us, hl with | [_, _], _ => rfl)
        (DL.funAt_mk KX G ?a1 ?l1 ?c1 ?k1 fun _ _ _ _ _ _ us hl => match us, hl with | [_], _ => rfl)
        (DL.funAt_mk KX G ?a2 ?l2 ?c2 ?k2 fun _ _ _ _ _ _ us hl => match us, hl with | [_], _ => rfl)
        (DL.funAt_mk KX G ?a3 ?l3 ?c3 ?k3 fun _ _ _ _ _ _ us hl => match us, hl with | [_], _ => rfl)
        (DL.funAt_mk KX G ?a4 ?l4 ?c4 ?k4 fun _ _ _ _ _ _ us hl => match us, hl with | [_, _], _ => rfl)
        (DL.funAt_mk KX G ?a5 ?l5 ?c5 ?k5 fun _ _ _ _ _ _ us hl => match us, hl with | [_], _ => rfl)
        (DL.funAt_mk KX G ?a6 ?l6 ?c6 ?k6 fun _ _ _ _ _ _ us hl => match us, hl with | [_, _], _ => rfl)
        (DL.funAt_mk KX G ?a7 ?l7 ?c7 ?k7 fun _ _ _ _ _ _ us hl => match us, hl with | [_], _ => rfl)
        (DL.funAt_mk KX G ?a8 ?l8 ?c8 ?k8 fun _ _ _ _ _ _ us hl => match us, hl with | [_], _ => rfl)
        (PySem.W.mg_none_of KX G ?z0)
        (PySem.W.mg_none_of KX G ?z1)
        (PySem.W.mg_none_of KX G ?z2)
        (PySem.W.mg_none_of KX G ?z3)
        (PySem.W.mg_none_of KX G ?z4)
        (PySem.W.mg_none_of KX G ?z5)
        (PySem.W.mg_none_of KX G ?z6)
        (PySem.W.mg_none_of KX G ?z7))
    (case a0 => k_is); (case l0 => k_is); (case c0 => k_is); (case k0 => k_is)
    (case a1 => k_is); (case l1 => k_is); (case c1 => k_is); (case k1 => k_is)
    (case a2 => k_is); (case l2 => k_is); (case c2 => k_is); (case k2 => k_is)
    (case a3 => k_is); (case l3 => k_is); (case c3 => k_is); (case k3 => k_is)
    (case a4 => k_is); (case l4 => k_is); (case c4 => k_is); (case k4 => k_is)
    (case a5 => k_is); (case l5 => k_is); (case c5 => k_is); (case k5 => k_is)
    (case a6 => k_is); (case l6 => k_is); (case c6 => k_is); (case k6 => k_is)
    (case a7 => k_is); (case l7 => k_is); (case c7 => k_is); (case k7 => k_is)
    (case a8 => k_is); (case l8 => k_is); (case c8 => k_is); (case k8 => k_is)
    (case z0 => k_is)
    (case z1 => k_is)
    (case z2 => k_is)
    (case z3 => k_is)
    (case z4 => k_is)
    (case z5 => k_is)
    (case z6 => k_is)
    (case z7 => k_is)
    case main => exact DL.law_fn T.f_law K60.sc_law hmg (fun base X W e1 e2 e3 e4 e5 c v => K60.law_b T e3 e4 c v) fun ns hl hb => K60.law_ok ns hl hb
