import PyProof.Rows.All
import Wide.All
import OpenK.AllK
import Wide.FinOn
import HandS.ForMost
import HandS.ForExc
import HandS.CallSlots
import HandS.Wide
import HandS.EndBits
import HandS.IsInst
import HandS.Flow
import HandS.Nested
import HandS.NestedK
import HandS.Text
import HandS.Comp
import PyProof.Draws
import PyProof.EnumMake
import PyProof.ZipIter
import HandS.Zip
import PyProof.ReprRoads
import PyProof.ReprDict
import KE.KSuper
import KE.KExcSuper
import HandS.ExcInit
import HandS.TryMany
import HandS.ExcField
import HandS.FStr
import KE.KIsAll
import HandS.Conv
import HandS.RaiseMore
import HandS.Property
import HandS.ClsMeth
import KE.KCallOwn
import HandS.Star
import HandS.OwnIter
import HandS.IterVal
import KE.KIndexOf
import HandS.Strs
import HandS.DictComp
import PyProof.InstNe
import KE.KDictZip
import HandS.Deep
import HandS.TupAny
import PyProof.StrLawsRepr
import HandS.Defaults
import HandS.MakeKwOnly
import KE.SortData
import KE.SortKeyHeap
import HandS.Style
import HandS.More
import HandS.Replace
import HandS.CallLocal
import KE.KDictList
import HandS.DictTup
import KE.KDictItemsList
import HandS.ListItems
import PyProof.Rows.SumAny
import PyProof.WalksMore
import PyProof.ListStr
import HandS.SetFor
import HandS.Head0
import HandS.Head1
import HandS.Head2
import HandS.HeadHook1
import HandS.EndTab
import KE.KDictCopyH
import KE.DataMinMax
import PyProof.P3Eq
import PySem.Challenge.RW_leastlooks_k22_formulas_refused
set_option maxHeartbeats 8000000
set_option Elab.async false
set_option linter.all false
set_option maxRecDepth 100000
section
/-! DLa: plain data D, how the abstract heap bears it, slots, states. -/
namespace DL
open PySem PySem.Spec PyProof.Rows L2
inductive D where
  | non | bl (b : Bool) | int (i : Int) | str (x : Str)
  | lst (xs : List D) | tup (xs : List D) | dct (kvs : List (D × D)) | ins (c : Str) (fs : List (Str × D))
  | ty (n : String) | cls (c : Str) | scr (ns : List Int)
  | clo (q : Str) (st : Stmt) (caps : List D)
  deriving Inhabited
/-- a cell that holds still -/
def CellO (c : Addr) (o : Obj) : HO := .ext fun h => h.get? c = some o
def frOf (st : Stmt) : List Str := ((defScope st).names.filter fun y => decide (y.2 = .free)).map (·.1)
/-- a function that was made by the def statement st, q its full name; ws what its captured cells hold -/
structure CloS (S : Hp) (st : Stmt) (q : Str) (F : NdefX.NF) (ws : List V) : Prop where
  prm : F.params = defArgs st
  bod : F.body = defBody st
  sco : F.scope = defScope st
  qul : F.qual = q
  cod : S F.c = some (LamX.CodeO F.c q)
  len : ws.length = (frOf st).length
  cel : ∀ (i : Nat) (y : Str), (frOf st)[i]? = some y → ∃ c o u v, F.cl.lookup y = some c ∧ ws[i]? = some v ∧ S c = some (CellO c o) ∧ o.data = .cell (some u) ∧ RelV v u
  all : ∀ y c, F.cl.lookup y = some c → y ∈ frOf st
  inj : ∀ x y c, F.cl.lookup x = some c → F.cl.lookup y = some c → x = y
theorem CloS.mono {S S' : Hp} {st : Stmt} {q : Str} {F : NdefX.NF} {ws : List V} (e : Same S S') (h : CloS S st q F ws) : CloS S' st q F ws :=
  ⟨h.prm, h.bod, h.sco, h.qul, e _ _ h.cod, h.len, fun i y z => by
    obtain ⟨c, o, u, v, h1, h2, h3, h4, h5⟩ := h.cel i y z
    exact ⟨c, o, u, v, h1, h2, e _ _ h3, h4, h5⟩, h.all, h.inj⟩
structure Gx where
  K : PySem.W.Frag
  mg : Str → Option Value
def keyD : Key → D
  | .inl i => .int i
  | .inr x => .str x
mutual
inductive Rep (G : Gx) (S : Hp) : V → D → Prop
  | non : Rep G S .non .non
  | bl (b : Bool) : Rep G S (.bl b) (.bl b)
  | int (i : Int) : Rep G S (.int i) (.int i)
  | str (x : Str) : Rep G S (.str x) (.str x)
  | ty (n : String) : Rep G S (.ty n) (.ty n)
  | cls {c : Str} {C : Addr} : G.mg c = some (.ref C) → Rep G S (.ref C) (.cls c)
  | lst {a : Addr} {xs : List V} {ds : List D} : S a = some (.lst xs) → RepAll G S xs ds → Rep G S (.ref a) (.lst ds)
  | scr {a : Addr} {ns : List Int} : SqL G.K S a (ns.map V.int) → Rep G S (.ref a) (.scr ns)
  | tup {a : Addr} {xs : List V} {ds : List D} : S a = some (.tup xs) → RepAll G S xs ds → Rep G S (.ref a) (.tup ds)
  | tupK {a : Addr} {xs : List V} {ds : List D} {o : Obj} {its : Array Value} {n : Nat} : G.K.lookup a = some o → o.cls = .type "tuple" → o.data = .seq its n → its.size ≤ sizeLine → Vals xs its.toList → 7 ≤ ds.length → RepAll G S xs ds → Rep G S (.ref a) (.tup ds)
  | dK {a : Addr} {kvs : List (Key × V)} {ds : List (D × D)} : S a = some (.dK kvs) → RepKV G S kvs ds → Rep G S (.ref a) (.dct ds)
  | dT {a : Addr} {kvs : List (List Key × V)} {ds : List (D × D)} : S a = some (.dT kvs) → kvs ≠ [] → RepKT G S kvs ds → Rep G S (.ref a) (.dct ds)
  | ins {a C dx : Addr} {c : Str} {fs : List (Str × V)} {gs : List (Str × D)} : G.mg c = some (.ref C) → S a = some (.ins C dx fs) → RepF G S fs gs → Rep G S (.ref a) (.ins c gs)
  | clo {f : Addr} {F : NdefX.NF} {ws : List V} {q : Str} {st : Stmt} {caps : List D} : S f = some (NdefX.FnO f F) → CloS S st q F ws → RepAll G S ws caps → Rep G S (.ref f) (.clo q st caps)
inductive RepAll (G : Gx) (S : Hp) : List V → List D → Prop
  | nil : RepAll G S [] []
  | cons {v : V} {vs : List V} {d : D} {ds : List D} : Rep G S v d → RepAll G S vs ds → RepAll G S (v :: vs) (d :: ds)
inductive RepKV (G : Gx) (S : Hp) : List (Key × V) → List (D × D) → Prop
  | nil : RepKV G S [] []
  | cons {k : Key} {v : V} {vs : List (Key × V)} {d : D} {ds : List (D × D)} : Rep G S v d → RepKV G S vs ds → RepKV G S ((k, v) :: vs) ((keyD k, d) :: ds)
inductive RepKT (G : Gx) (S : Hp) : List (List Key × V) → List (D × D) → Prop
  | nil : RepKT G S [] []
  | cons {k : List Key} {v : V} {vs : List (List Key × V)} {d : D} {ds : List (D × D)} : Rep G S v d → RepKT G S vs ds → RepKT G S ((k, v) :: vs) ((.tup (k.map keyD), d) :: ds)
inductive RepF (G : Gx) (S : Hp) : List (Str × V) → List (Str × D) → Prop
  | nil : RepF G S [] []
  | cons {f : Str} {v : V} {vs : List (Str × V)} {d : D} {ds : List (Str × D)} : Rep G S v d → RepF G S vs ds → RepF G S ((f, v) :: vs) ((f, d) :: ds)
end
theorem Rd.mono {S S' : Hp} {a : Addr} {u : HO} (e : Same S S') (h : Rd S a u) : Rd S' a u := by
  rcases h with h | ⟨o, h⟩
  · exact .inl (e _ _ h)
  · exact .inr ⟨o, e _ _ h⟩
theorem seqT_mono {K : PySem.W.Frag} {H H' : Hp} {a : Addr} {xs : List V} (e : Same H H') (h : SqT K H a xs) : SqT K H' a xs := by
  rcases h with (h | ⟨o, h⟩) | h
  · exact .inl (.inl (e _ _ h))
  · exact .inl (.inr ⟨o, e _ _ h⟩)
  · exact .inr h
section
variable {G : Gx} {S S' : Hp}
mutual
theorem Rep.mono (e : Same S S') : ∀ {v : V} {d : D}, Rep G S v d → Rep G S' v d
  | _, _, .non => .non
  | _, _, .bl b => .bl b
  | _, _, .int i => .int i
  | _, _, .str x => .str x
  | _, _, .ty n => .ty n
  | _, _, .cls m => .cls m
  | _, _, .lst h r => .lst (e _ _ h) (RepAll.mono e r)
  | _, _, .scr h => .scr (e.seq h)
  | _, _, .tup h r => .tup (e _ _ h) (RepAll.mono e r)
  | _, _, .tupK h1 h2 h3 h4 h5 h6 r => .tupK h1 h2 h3 h4 h5 h6 (RepAll.mono e r)
  | _, _, .dK h r => .dK (e _ _ h) (RepKV.mono e r)
  | _, _, .dT h n r => .dT (e _ _ h) n (RepKT.mono e r)
  | _, _, .ins m h r => .ins m (e _ _ h) (RepF.mono e r)
  | _, _, .clo h c r => .clo (e _ _ h) (c.mono e) (RepAll.mono e r)
theorem RepAll.mono (e : Same S S') : ∀ {vs : List V} {ds : List D}, RepAll G S vs ds → RepAll G S' vs ds
  | _, _, .nil => .nil
  | _, _, .cons h t => .cons (Rep.mono e h) (RepAll.mono e t)
theorem RepKV.mono (e : Same S S') : ∀ {vs : List (Key × V)} {ds : List (D × D)}, RepKV G S vs ds → RepKV G S' vs ds
  | _, _, .nil => .nil
  | _, _, .cons h t => .cons (Rep.mono e h) (RepKV.mono e t)
theorem RepKT.mono (e : Same S S') : ∀ {vs : List (List Key × V)} {ds : List (D × D)}, RepKT G S vs ds → RepKT G S' vs ds
  | _, _, .nil => .nil
  | _, _, .cons h t => .cons (Rep.mono e h) (RepKT.mono e t)
theorem RepF.mono (e : Same S S') : ∀ {vs : List (Str × V)} {ds : List (Str × D)}, RepF G S vs ds → RepF G S' vs ds
  | _, _, .nil => .nil
  | _, _, .cons h t => .cons (Rep.mono e h) (RepF.mono e t)
end
end
/-- the top of an object that may be changed, its content shared -/
inductive Top (G : Gx) (S : Hp) : HO → D → Prop
  | lst {xs : List V} {ds : List D} : RepAll G S xs ds → Top G S (.lst xs) (.lst ds)
  | dK {kvs : List (Key × V)} {ds : List (D × D)} : RepKV G S kvs ds → Top G S (.dK kvs) (.dct ds)
  | dT {kvs : List (List Key × V)} {ds : List (D × D)} : kvs ≠ [] → RepKT G S kvs ds → Top G S (.dT kvs) (.dct ds)
  | ins {C dx : Addr} {fs : List (Str × V)} {c : Str} {gs : List (Str × D)} : G.mg c = some (.ref C) → RepF G S fs gs → Top G S (.ins C dx fs) (.ins c gs)
theorem Top.mono {G : Gx} {S S' : Hp} (e : Same S S') {o : HO} {d : D} (h : Top G S o d) : Top G S' o d := by
  cases h with
  | lst h => exact .lst (RepAll.mono e h)
  | dK h => exact .dK (RepKV.mono e h)
  | dT n h => exact .dT n (RepKT.mono e h)
  | ins m h => exact .ins m (RepF.mono e h)
theorem Top.rep {G : Gx} {S : Hp} {a : Addr} {o : HO} {d : D} (h : Top G S o d) (e : S a = some o) : Rep G S (.ref a) d := by
  cases h with
  | lst h => exact .lst e h
  | dK h => exact .dK e h
  | dT n h => exact .dT e n h
  | ins m h => exact .ins m e h
/-- a dict may be locked while it is walked -/
def isDct : HO → Bool
  | .dK _ => true
  | .dT _ => true
  | _ => false
/-- a code object's table, as what is shared tells it: the name of the code objects in it -/
def tabOf : HO → Option Str
  | .tbl ps => match ps.toList with
    | [.str q _] => some q
    | _ => none
  | _ => none
def tabU (q : Str) : HO := .tbl #[.str q 0]
def TabA (S : Hp) (q : Str) (o : Option HO) : Prop := ∃ ps : Array Value, o = some (.tbl ps) ∧ TriplesOk ps.toList ∧ ∀ (pos : Pos) (cv : Value), codeAmong pos ps.toList = some cv → ∃ c, cv = .ref c ∧ S c = some (LamX.CodeO c q)
theorem TabA.mono {S S' : Hp} {q : Str} {o : Option HO} (e : Same S S') (h : TabA S q o) : TabA S' q o := by
  obtain ⟨ps, h1, h2, h3⟩ := h
  refine ⟨ps, h1, h2, fun pos cv z => ?_⟩
  obtain ⟨c, h4, h5⟩ := h3 pos cv z
  exact ⟨c, h4, e _ _ h5⟩
def Le (S H : Hp) : Prop := ∀ a u, S a = some u → (tabOf u = none ∧ H a = some u) ∨ (isDct u = true ∧ ∃ o, H a = some (.frz o u)) ∨ (∃ q, tabOf u = some q ∧ TabA S q (H a))
/-- what is no table -/
theorem Le.two {S H : Hp} (h : Le S H) {a : Addr} {u : HO} (e : S a = some u) (n : tabOf u = none) : H a = some u ∨ (isDct u = true ∧ ∃ o, H a = some (.frz o u)) := by
  rcases h a u e with ⟨_, q⟩ | q | ⟨q, z, _⟩
  · exact .inl q
  · exact .inr q
  · rw [n] at z; cases z
/-- what stands in S stands in H somehow -/
theorem Le.there {S H : Hp} (h : Le S H) {a : Addr} {u : HO} (e : S a = some u) : H a ≠ none := by
  rcases h a u e with ⟨_, q⟩ | ⟨_, _, q⟩ | ⟨q, _, ps, z, _⟩
  · rw [q]; exact fun z => by cases z
  · rw [q]; exact fun z => by cases z
  · rw [z]; exact fun z => by cases z
/-- S grows by a thing that is no table -/
theorem Le.more {S H : Hp} (h : Le S H) {a : Addr} {u : HO} (sa : S a = none) (ha : H a = some u) (n : tabOf u = none) : Le (upd S a u) H := fun b w q => by
  by_cases hb : b = a
  · subst hb; rw [upd_same] at q; cases q; exact .inl ⟨n, ha⟩
  · rw [upd_ne hb] at q
    rcases h b w q with z | z | ⟨p, z, t⟩
    · exact .inl z
    · exact .inr (.inl z)
    · exact .inr (.inr ⟨p, z, t.mono (fun c v e => by
        by_cases hc : c = a
        · subst hc; rw [sa] at e; cases e
        · rw [upd_ne hc]; exact e)⟩)
/-- H changes where S tells nothing -/
theorem Le.at_ {S H : Hp} (h : Le S H) {a : Addr} {o : HO} (sa : S a = none) : Le S (upd H a o) := fun b w q => by
  have hb : b ≠ a := fun z => by subst z; rw [sa] at q; cases q
  rw [upd_ne hb]
  exact h b w q
theorem Le.of {S H : Hp} (h : Same S H) (n : ∀ a u, S a = some u → tabOf u = none) : Le S H := fun a u e => .inl ⟨n a u e, h a u e⟩
theorem Le.rd {S H : Hp} (h : Le S H) {a : Addr} {u : HO} (r : Rd S a u) (n : tabOf u = none := by rfl) : Rd H a u := by
  rcases r with r | ⟨o, r⟩
  · rcases h.two r n with q | ⟨_, o, q⟩
    · exact .inl q
    · exact .inr ⟨o, q⟩
  · rcases h.two r rfl with q | ⟨z, _⟩
    · exact .inr ⟨o, q⟩
    · cases z
theorem Le.lst {S H : Hp} (h : Le S H) {a : Addr} {xs : List V} (r : S a = some (.lst xs)) : H a = some (.lst xs) := by
  rcases h.two r rfl with q | ⟨z, _⟩
  · exact q
  · cases z
theorem Le.seq {S H : Hp} (h : Le S H) {K : PySem.W.Frag} {a : Addr} {xs : List V} (r : SqL K S a xs) : SqL K H a xs := by
  rcases r with r | r
  · exact .inl (h.rd r)
  · exact .inr r
theorem Le.seqT {S H : Hp} (h : Le S H) {K : PySem.W.Frag} {a : Addr} {xs : List V} (r : SqT K S a xs) : SqT K H a xs := by
  rcases r with r | r
  · exact .inl (h.rd r)
  · exact .inr r
inductive Slot where
  | no | sh (d : D) | ow (d : D) | io (d : D)
abbrev DS := List Slot
inductive Val where
  | d (x : D) | fr (x : D) | sl (i : Nat) | nk (x : D) (k : Nat)
/-- slot i holds a thing of one's own (io: one that was handed in to be changed) -/
def Owns (st : DS) (i : Nat) (d : D) : Prop := st[i]? = some (.ow d) ∨ st[i]? = some (.io d)
abbrev Pin := Nat → Option Addr
/-- what is held is not shared, or it is a lock on a shared dict -/
def Lks (s : Option HO) (o : HO) : Prop := s = none ∨ (∃ ob u, o = .frz ob u ∧ isDct u = true ∧ s = some u) ∨ ∃ xs, o = .tup xs ∧ s = some o
/-- neither a lock nor a tuple -/
def Hard (o : HO) : Prop := (∀ ob u, o ≠ .frz ob u) ∧ ∀ xs, o ≠ .tup xs
theorem Lks.none {s : Option HO} {o : HO} (h : Lks s o) (n : Hard o) : s = none := by
  rcases h with h | ⟨ob, u, h, _⟩ | ⟨xs, h, _⟩
  · exact h
  · exact (n.1 ob u h).elim
  · exact (n.2 xs h).elim
theorem Lks.up {S S' : Hp} {a : Addr} {o : HO} (h : Lks (S a) o) (e : Same S S') (n : S a = .none → S' a = .none) : Lks (S' a) o := by
  rcases h with h | ⟨ob, u, h1, h2, h3⟩ | ⟨xs, h1, h2⟩
  · exact .inl (n h)
  · exact .inr (.inl ⟨ob, u, h1, h2, e _ _ h3⟩)
  · exact .inr (.inr ⟨xs, h1, e _ _ h2⟩)
theorem Top.nofrz {G : Gx} {S : Hp} {o : HO} {d : D} (h : Top G S o d) : Hard o := by
  constructor
  · intro ob u z
    subst z
    cases h
  · intro xs z
    subst z
    cases h
theorem Top.notab {G : Gx} {S : Hp} {o : HO} {d : D} (h : Top G S o d) : tabOf o = none := by
  cases h <;> rfl
/-- the defs within defs of the program: the outer one's name, the inner one's full name -/
def nestOf (x : Str) : Option Str := ([("worst_tree", "worst_tree.<locals>.position_of"), ("total_tree", "total_tree.<locals>.position_of"), ("is_worst_paper", "is_worst_paper.<locals>.limit_of"), ("is_total_paper", "is_total_paper.<locals>.limit_of")] : List (Str × Str)).lookup x
/-- P is the table of a def's code in which the code of an inner def, q, is kept -/
def TbOf (G : Gx) (P : Addr) (q : Str) : Prop := ∃ x f fo fd c, G.mg x = some (.ref f) ∧ G.K.lookup f = some fo ∧ fo.data = .func fd ∧ fd.code = .ref c ∧ PySem.W.codeHdIn G.K c P = true ∧ nestOf x = some q
/-- all such tables are told by what is shared -/
def TabIn (G : Gx) (S : Hp) : Prop := ∀ P q, TbOf G P q → S P = some (tabU q)
theorem TabIn.mono {G : Gx} {S S' : Hp} (h : TabIn G S) (e : Same S S') : TabIn G S' := fun P q z => e _ _ (h P q z)
structure StR (G : Gx) (P : Pin) (R S H : Hp) (σ : L2.St) (st : DS) : Prop where
  len : st.length = σ.length
  tab : TabIn G S
  sub : Le S H
  val : ∀ (i : Nat) (d : D), st[i]? = some (.sh d) → ∃ v, σ[i]? = some (some v) ∧ Rep G S v d
  own : ∀ (i : Nat) (d : D), Owns st i d → ∃ a o, σ[i]? = some (some (.ref a)) ∧ H a = some o ∧ Top G S o d ∧ S a = none ∧ R a = none
  inj : ∀ (i j : Nat) (d e : D) (a : Addr), Owns st i d → Owns st j e → σ[i]? = some (some (.ref a)) → σ[j]? = some (some (.ref a)) → i = j
  pin : ∀ (i : Nat) (d : D), st[i]? = some (.io d) → ∃ a, P i = some a ∧ σ[i]? = some (some (.ref a))
  frm : ∀ a o, R a = some o → H a = some o ∧ Lks (S a) o
/-- no slot owns what stands at a -/
def Loose (σ : L2.St) (st : DS) (a : Addr) : Prop := ∀ (i : Nat) (d : D), Owns st i d → σ[i]? ≠ some (some (.ref a))
def Fresh (G : Gx) (R S H : Hp) (σ : L2.St) (st : DS) (v : V) (x : D) : Prop := ∃ a o, v = .ref a ∧ H a = some o ∧ Top G S o x ∧ S a = none ∧ R a = none ∧ Loose σ st a
/-- a tuple whose k-th item is a new list, nobody's yet -/
def NkR (G : Gx) (S H : Hp) (bad : Addr → Prop) (v : V) (x : D) (k : Nat) : Prop := ∃ (t a : Addr) (vs ws : List V) (ds es : List D), v = .ref t ∧ x = .tup ds ∧ H t = some (.tup vs) ∧ vs.length = ds.length ∧ vs[k]? = some (.ref a) ∧ ds[k]? = some (.lst es) ∧ H a = some (.lst ws) ∧ RepAll G S ws es ∧ S a = none ∧ ¬ bad a ∧ ∀ (j : Nat) (w : V) (d : D), j ≠ k → vs[j]? = some w → ds[j]? = some d → Rep G S w d
def BadA (R : Hp) (σ : L2.St) (st : DS) (a : Addr) : Prop := R a ≠ none ∨ ¬ Loose σ st a
def RepV (G : Gx) (R S H : Hp) (σ : L2.St) (st : DS) (v : V) : Val → Prop
  | .d x => Rep G S v x
  | .fr x => Fresh G R S H σ st v x
  | .sl i => σ[i]? = some (some v)
  | .nk x k => NkR G S H (BadA R σ st) v x k
/-- an operand that waits: shared, or a slot -/
def Pv (G : Gx) (S : Hp) (σ : L2.St) (v : V) : Val → Prop
  | .d x => Rep G S v x
  | .fr x => Rep G S v x
  | .sl i => σ[i]? = some (some v)
  | .nk x _ => Rep G S v x
theorem Pv.mono {G : Gx} {S S' : Hp} {σ : L2.St} {v : V} (e : Same S S') : ∀ {a : Val}, Pv G S σ v a → Pv G S' σ v a
  | .d _, h => Rep.mono e h
  | .fr _, h => Rep.mono e h
  | .sl _, h => h
  | .nk _ _, h => Rep.mono e h
theorem same_upd {S : Hp} {a : Addr} {o : HO} (h : S a = none) : Same S (upd S a o) := fun b u e => by
  rw [upd_ne (ne_of_none e h)]; exact e
theorem upd_none {S : Hp} {a b : Addr} {o : HO} (h : b ≠ a) (n : S b = none) : upd S a o b = none := by rw [upd_ne h]; exact n
theorem owns_set_sh {st : DS} {i j : Nat} {x d : D} : Owns (st.set i (.sh x)) j d → Owns st j d ∧ j ≠ i := fun h => by
  by_cases hj : i = j
  · subst hj
    by_cases hi : i < st.length
    · rcases h with h | h <;> (rw [List.getElem?_set_self hi] at h; cases h)
    · have e : (st.set i (.sh x))[i]? = none := List.getElem?_eq_none (by rw [List.length_set]; omega)
      rcases h with h | h <;> (rw [e] at h; cases h)
  · unfold Owns at h
    rw [List.getElem?_set_ne hj] at h
    exact ⟨h, fun z => hj z.symm⟩
section
variable {G : Gx} {P : Pin} {R S H : Hp} {σ : L2.St} {st : DS}
/-- what is shared may grow by a thing that nobody owns -/
theorem StR.more (h : StR G P R S H σ st) {a : Addr} {o : HO} (ha : H a = some o) (sa : S a = none) (ra : R a = none) (lo : Loose σ st a) (nt : tabOf o = none := by rfl) : StR G P R (upd S a o) H σ st := by
  have e : Same S (upd S a o) := same_upd sa
  refine ⟨h.len, h.tab.mono e, h.sub.more sa ha nt, fun i d q => ?_, fun i d q => ?_, h.inj, h.pin, fun b u q => ?_⟩
  · obtain ⟨v, q1, q2⟩ := h.val i d q
    exact ⟨v, q1, q2.mono e⟩
  · obtain ⟨b, u, q1, q2, q3, q4, q5⟩ := h.own i d q
    refine ⟨b, u, q1, q2, q3.mono e, upd_none (fun z => ?_) q4, q5⟩
    subst z
    exact lo i d q q1
  · obtain ⟨q1, q2⟩ := h.frm b u q
    refine ⟨q1, q2.up (same_upd sa) fun n => upd_none (fun z => ?_) n⟩
    subst z
    rw [q] at ra; cases ra
/-- a fresh thing is shared -/
theorem StR.share (h : StR G P R S H σ st) {v : V} {x : D} (f : Fresh G R S H σ st v x) : ∃ S', Same S S' ∧ StR G P R S' H σ st ∧ Rep G S' v x := by
  obtain ⟨a, o, rfl, ha, t, sa, ra, lo⟩ := f
  exact ⟨upd S a o, same_upd sa, h.more ha sa ra lo t.notab, (t.mono (same_upd sa)).rep upd_same⟩
/-- a tuple that is there is shared -/
theorem StR.moreT (h : StR G P R S H σ st) {a : Addr} {xs : List V} (ha : H a = some (.tup xs)) : ∃ S', Same S S' ∧ StR G P R S' H σ st ∧ S' a = some (.tup xs) := by
  cases sa : S a with
  | some u =>
    rcases h.sub a u sa with ⟨_, q⟩ | ⟨_, o, q⟩ | ⟨_, _, _, q, _⟩
    · rw [ha] at q
      cases q
      exact ⟨S, Same.refl S, h, sa⟩
    · rw [ha] at q
      cases q
    · rw [ha] at q
      cases q
  | none =>
    have e : Same S (upd S a (.tup xs)) := same_upd sa
    refine ⟨upd S a (.tup xs), e, ⟨h.len, h.tab.mono e, h.sub.more sa ha rfl, fun i d q => ?_, fun i d q => ?_, h.inj, h.pin, fun b u q => ?_⟩, upd_same⟩
    · obtain ⟨v, q1, q2⟩ := h.val i d q
      exact ⟨v, q1, q2.mono e⟩
    · obtain ⟨b, u, q1, q2, q3, q4, q5⟩ := h.own i d q
      refine ⟨b, u, q1, q2, q3.mono e, upd_none (fun z => ?_) q4, q5⟩
      subst z
      rw [ha] at q2
      cases q2
      exact q3.nofrz.2 _ rfl
    · obtain ⟨q1, q2⟩ := h.frm b u q
      refine ⟨q1, ?_⟩
      by_cases hb : b = a
      · subst hb
        rw [ha] at q1
        cases q1
        exact .inr (.inr ⟨xs, rfl, upd_same⟩)
      · exact q2.up e fun n => upd_none hb n
theorem rep_ix {G : Gx} {S : Hp} : ∀ {vs : List V} {ds : List D}, vs.length = ds.length → (∀ (j : Nat) (w : V) (d : D), vs[j]? = some w → ds[j]? = some d → Rep G S w d) → RepAll G S vs ds
  | [], [], _, _ => .nil
  | _ :: _, [], h, _ => by cases h
  | [], _ :: _, h, _ => by cases h
  | v :: vs, d :: ds, h, f => .cons (f 0 v d rfl rfl) (rep_ix (by simpa using h) fun j w e h1 h2 => f (j + 1) w e (by simpa using h1) (by simpa using h2))
/-- a tuple with a new list is shared -/
theorem StR.shareN (h : StR G P R S H σ st) {v : V} {x : D} {k : Nat} (f : NkR G S H (BadA R σ st) v x k) : ∃ S', Same S S' ∧ StR G P R S' H σ st ∧ Rep G S' v x := by
  obtain ⟨t, a, vs, ws, ds, es, rfl, rfl, ht, hl, hk, dk, ha, hw, sa, na, ho⟩ := f
  have ra : R a = none := by
    cases q : R a with
    | none => rfl
    | some o => exact (na (.inl (by rw [q]; exact fun z => by cases z))).elim
  have lo : Loose σ st a := Classical.byContradiction fun z => na (.inr z)
  have h1 := h.more ha sa ra lo
  have e1 : Same S (upd S a (.lst ws)) := same_upd sa
  obtain ⟨S2, e2, h2, st2⟩ := h1.moreT ht
  refine ⟨S2, e1.trans e2, h2, .tup st2 (rep_ix hl fun j w d q1 q2 => ?_)⟩
  by_cases hj : j = k
  · subst hj
    rw [hk] at q1
    rw [dk] at q2
    cases q1
    cases q2
    exact .lst (e2 _ _ upd_same) (hw.mono (e1.trans e2))
  · exact (ho j w d hj q1 q2).mono (e1.trans e2)
/-- an operand is made to wait -/
theorem StR.settle (h : StR G P R S H σ st) {v : V} {a : Val} (r : RepV G R S H σ st v a) : ∃ S', Same S S' ∧ StR G P R S' H σ st ∧ Pv G S' σ v a := by
  cases a with
  | d x => exact ⟨S, Same.refl S, h, r⟩
  | fr x => exact h.share r
  | nk x k => exact h.shareN r
  | sl i => exact ⟨S, Same.refl S, h, r⟩
/-- a slot's own thing is shared -/
theorem StR.freeze (h : StR G P R S H σ st) {i : Nat} {x : D} (e : st[i]? = some (.ow x)) : ∃ S' v, Same S S' ∧ StR G P R S' H σ (st.set i (.sh x)) ∧ σ[i]? = some (some v) ∧ Rep G S' v x := by
  obtain ⟨a, o, hv, ha, t, sa, ra⟩ := h.own i x (.inl e)
  have es : Same S (upd S a o) := same_upd sa
  have rp : Rep G (upd S a o) (.ref a) x := (t.mono es).rep upd_same
  have hi : i < st.length := (List.getElem?_eq_some_iff.mp e).1
  refine ⟨upd S a o, .ref a, es, ⟨by rw [List.length_set]; exact h.len, h.tab.mono es, h.sub.more sa ha t.notab, fun j d q => ?_, fun j d q => ?_, fun j k d e' b q1 q2 q3 q4 => ?_, fun j d q => ?_, fun b u q => ?_⟩, hv, rp⟩
  · by_cases hj : i = j
    · subst hj
      rw [List.getElem?_set_self hi] at q
      cases q
      exact ⟨_, hv, rp⟩
    · rw [List.getElem?_set_ne hj] at q
      obtain ⟨v, q1, q2⟩ := h.val j d q
      exact ⟨v, q1, q2.mono es⟩
  · obtain ⟨q', hj⟩ := owns_set_sh q
    obtain ⟨b, u, q1, q2, q3, q4, q5⟩ := h.own j d q'
    refine ⟨b, u, q1, q2, q3.mono es, upd_none (fun z => ?_) q4, q5⟩
    subst z
    exact hj (h.inj j i _ _ _ q' (.inl e) q1 hv)
  · exact h.inj j k d e' b (owns_set_sh q1).1 (owns_set_sh q2).1 q3 q4
  · have hj : i ≠ j := fun z => by
      subst z
      rw [List.getElem?_set_self hi] at q
      cases q
    rw [List.getElem?_set_ne hj] at q
    exact h.pin j d q
  · obtain ⟨q1, q2⟩ := h.frm b u q
    refine ⟨q1, q2.up (same_upd sa) fun n => upd_none (fun z => ?_) n⟩
    subst z
    rw [q] at ra; cases ra
/-- what is new is nowhere -/
theorem StR.new (h : StR G P R S H σ st) {p : Addr} (hp : H p = none) : S p = none ∧ R p = none ∧ Loose σ st p := by
  refine ⟨?_, ?_, fun i d q z => ?_⟩
  · cases e : S p with
    | none => rfl
    | some o => exact (h.sub.there e hp).elim
  · cases e : R p with
    | none => rfl
    | some o =>
      have q := (h.frm p o e).1
      rw [hp] at q; cases q
  · obtain ⟨b, u, q1, q2, _⟩ := h.own i d q
    rw [z] at q1; cases q1
    rw [hp] at q2; cases q2
theorem Le.grow {S H : Hp} {p : Addr} {o : HO} (h : Le S H) (hp : H p = none) : Le S (upd H p o) := h.at_ (by
  cases e : S p with
  | none => rfl
  | some u => exact (h.there e hp).elim)
theorem StR.grow (h : StR G P R S H σ st) {p : Addr} {o : HO} (hp : H p = none) : StR G P R S (upd H p o) σ st := by
  refine ⟨h.len, h.tab, h.sub.grow hp, h.val, fun i d q => ?_, h.inj, h.pin, fun b u q => ?_⟩
  · obtain ⟨b, u, q1, q2, q3⟩ := h.own i d q
    exact ⟨b, u, q1, by rw [upd_ne (ne_of_none q2 hp)]; exact q2, q3⟩
  · obtain ⟨q1, q2⟩ := h.frm b u q
    exact ⟨by rw [upd_ne (ne_of_none q1 hp)]; exact q1, q2⟩
/-- less is held -/
theorem StR.drop {R' : Hp} (h : StR G P R' S H σ st) (e : Same R R') : StR G P R S H σ st := by
  have n : ∀ {a}, R' a = none → R a = none := fun {a} z => by
    cases q : R a with
    | none => rfl
    | some o => rw [e a o q] at z; cases z
  refine ⟨h.len, h.tab, h.sub, h.val, fun i d q => ?_, h.inj, h.pin, fun b u q => h.frm b u (e b u q)⟩
  obtain ⟨a, o, q1, q2, q3, q4, q5⟩ := h.own i d q
  exact ⟨a, o, q1, q2, q3, q4, n q5⟩
theorem RepV.drop {R' : Hp} {v : V} {a : Val} (r : RepV G R' S H σ st v a) (e : Same R R') : RepV G R S H σ st v a := by
  cases a with
  | d x => exact r
  | sl i => exact r
  | fr x =>
    obtain ⟨a, o, q1, q2, q3, q4, q5, q6⟩ := r
    refine ⟨a, o, q1, q2, q3, q4, ?_, q6⟩
    cases q : R a with
    | none => rfl
    | some o => rw [e a o q] at q5; cases q5
  | nk x k =>
    obtain ⟨t, a, vs, ws, ds, es, q1, q2, q3, q4, q5, q6, q7, q8, q9, q10, q11⟩ := r
    refine ⟨t, a, vs, ws, ds, es, q1, q2, q3, q4, q5, q6, q7, q8, q9, fun z => q10 ?_, q11⟩
    rcases z with z | z
    · refine .inl fun n => z ?_
      cases q : R a with
      | none => rfl
      | some o => rw [e a o q] at n; cases n
    · exact .inr z
/-- a shared dict is locked -/
theorem StR.lockD (h : StR G P R S H σ st) {a : Addr} {ob : Obj} {u : HO} (sa : S a = some u) (hd : isDct u = true) (ha : H a = some u) : Same R (upd R a (.frz ob u)) ∧ StR G P (upd R a (.frz ob u)) S (upd H a (.frz ob u)) σ st := by
  have nf : Hard u := ⟨fun _ _ z => (by subst z; cases hd), fun _ z => (by subst z; cases hd)⟩
  have ra : R a = none := by
    cases q : R a with
    | none => rfl
    | some o =>
      obtain ⟨q1, q2⟩ := h.frm a o q
      rw [ha] at q1
      cases q1
      have := q2.none nf
      rw [sa] at this
      cases this
  refine ⟨same_upd ra, h.len, h.tab, fun b w q => ?_, h.val, fun i d q => ?_, h.inj, h.pin, fun b w q => ?_⟩
  · by_cases hb : b = a
    · subst hb
      rw [sa] at q
      cases q
      exact .inr (.inl ⟨hd, ob, upd_same⟩)
    · rw [upd_ne hb]; exact h.sub b w q
  · obtain ⟨b, o, q1, q2, q3, q4, q5⟩ := h.own i d q
    have hb : b ≠ a := fun z => by rw [z, sa] at q4; cases q4
    exact ⟨b, o, q1, by rw [upd_ne hb]; exact q2, q3, q4, by rw [upd_ne hb]; exact q5⟩
  · by_cases hb : b = a
    · subst hb
      rw [upd_same] at q ⊢
      cases q
      exact ⟨rfl, .inr (.inl ⟨ob, u, rfl, hd, sa⟩)⟩
    · rw [upd_ne hb] at q ⊢
      exact h.frm b w q
/-- a shared dict that is locked already is held -/
theorem StR.holdD (h : StR G P R S H σ st) {a : Addr} {ob : Obj} {u : HO} (sa : S a = some u) (hd : isDct u = true) (ha : H a = some (.frz ob u)) : ∃ R', Same R R' ∧ R' a = some (.frz ob u) ∧ StR G P R' S H σ st := by
  refine ⟨upd R a (.frz ob u), fun b w q => ?_, upd_same, h.len, h.tab, h.sub, h.val, fun i d q => ?_, h.inj, h.pin, fun b w q => ?_⟩
  · by_cases hb : b = a
    · subst hb
      have := (h.frm b w q).1
      rw [ha] at this
      cases this
      exact upd_same
    · rw [upd_ne hb]; exact q
  · obtain ⟨b, o, q1, q2, q3, q4, q5⟩ := h.own i d q
    have hb : b ≠ a := fun z => by rw [z, sa] at q4; cases q4
    exact ⟨b, o, q1, q2, q3, q4, by rw [upd_ne hb]; exact q5⟩
  · by_cases hb : b = a
    · subst hb
      rw [upd_same] at q
      cases q
      exact ⟨ha, .inr (.inl ⟨ob, u, rfl, hd, sa⟩)⟩
    · rw [upd_ne hb] at q
      exact h.frm b w q
/-- R' holds what R holds and the locks L -/
structure LkR (R R' L : Hp) : Prop where
  sub : Same R R'
  lk : Same L R'
  fz : ∀ a o, L a = some o → ∃ ob u, o = .frz ob u
def NoL : Hp := fun _ => none
theorem LkR.no (R : Hp) : LkR R R NoL := ⟨Same.refl _, (fun _ _ z => by cases z), (fun _ _ z => by cases z)⟩
theorem LkR.one {R R' : Hp} {a : Addr} {ob : Obj} {u : HO} (e : Same R R') (h : R' a = some (.frz ob u)) : LkR R R' (upd NoL a (.frz ob u)) := by
  refine ⟨e, fun b o q => ?_, fun b o q => ?_⟩
  · by_cases hb : b = a
    · subst hb; rw [upd_same] at q; cases q; exact h
    · rw [upd_ne hb] at q; cases q
  · by_cases hb : b = a
    · subst hb; rw [upd_same] at q; cases q; exact ⟨_, _, rfl⟩
    · rw [upd_ne hb] at q; cases q
/-- a new thing, nobody's yet -/
theorem StR.alloc (h : StR G P R S H σ st) {p : Addr} {o : HO} {x : D} (hp : H p = none) (t : Top G S o x) : StR G P R S (upd H p o) σ st ∧ Fresh G R S (upd H p o) σ st (.ref p) x :=
  ⟨h.grow hp, p, o, rfl, upd_same, t, (h.new hp).1, (h.new hp).2.1, (h.new hp).2.2⟩
/-- a new tuple -/
theorem StR.allocT (h : StR G P R S H σ st) {p : Addr} {xs : List V} {ds : List D} (hp : H p = none) (t : RepAll G S xs ds) :
    Same S (upd S p (.tup xs)) ∧ StR G P R (upd S p (.tup xs)) (upd H p (.tup xs)) σ st ∧ Rep G (upd S p (.tup xs)) (.ref p) (.tup ds) := by
  obtain ⟨sp, rp, lp⟩ := h.new hp
  exact ⟨same_upd sp, (h.grow hp).more upd_same sp rp lp, .tup upd_same (t.mono (same_upd sp))⟩
end
/-- what an operand is worth where it is used -/
def look (st : DS) : Val → Option D
  | .d x => some x
  | .fr x => some x
  | .nk x _ => some x
  | .sl i => match st[i]? with
    | some (.sh x) => some x
    | some (.ow x) => some x
    | some (.io x) => some x
    | _ => none
/-- readable at the top: shared, or of one's own -/
def RepT (G : Gx) (S H : Hp) (v : V) (x : D) : Prop := Rep G S v x ∨ ∃ a o, v = .ref a ∧ H a = some o ∧ Top G S o x
theorem Pv.look {G : Gx} {P : Pin} {R S H : Hp} {σ : L2.St} {st : DS} {v : V} {a : Val} {x : D} (h : StR G P R S H σ st) (r : Pv G S σ v a) (e : look st a = some x) : RepT G S H v x := by
  cases a with
  | d y => cases e; exact .inl r
  | fr y => cases e; exact .inl r
  | nk y k => cases e; exact .inl r
  | sl i =>
    have q1 : σ[i]? = some (some v) := r
    have o1 : ∀ {y : D}, Owns st i y → RepT G S H v y := fun {y} q2 => by
      obtain ⟨a, o, z1, z2, z3, _⟩ := h.own i _ q2
      rw [q1] at z1; cases z1
      exact .inr ⟨a, o, rfl, z2, z3⟩
    cases q2 : st[i]? with
    | none => simp [DL.look, q2] at e
    | some s =>
      simp only [DL.look, q2] at e
      cases s with
      | no => cases e
      | sh y =>
        cases e
        obtain ⟨v', z1, z2⟩ := h.val i _ q2
        rw [q1] at z1; cases z1
        exact .inl z2
      | ow y => cases e; exact o1 (.inl q2)
      | io y => cases e; exact o1 (.inr q2)
section
variable {G : Gx} {S H : Hp} {v : V}
theorem RepT.non (h : RepT G S H v .non) : v = .non := by
  rcases h with h | ⟨a, o, _, _, t⟩
  · cases h; rfl
  · cases t
theorem RepT.bl {b : Bool} (h : RepT G S H v (.bl b)) : v = .bl b := by
  rcases h with h | ⟨a, o, _, _, t⟩
  · cases h; rfl
  · cases t
theorem RepT.int {i : Int} (h : RepT G S H v (.int i)) : v = .int i := by
  rcases h with h | ⟨a, o, _, _, t⟩
  · cases h; rfl
  · cases t
theorem RepT.str {x : Str} (h : RepT G S H v (.str x)) : v = .str x := by
  rcases h with h | ⟨a, o, _, _, t⟩
  · cases h; rfl
  · cases t
theorem RepT.ty {n : String} (h : RepT G S H v (.ty n)) : v = .ty n := by
  rcases h with h | ⟨a, o, _, _, t⟩
  · cases h; rfl
  · cases t
theorem RepT.cls {c : Str} (h : RepT G S H v (.cls c)) : ∃ C, v = .ref C ∧ G.mg c = some (.ref C) := by
  rcases h with h | ⟨a, o, _, _, t⟩
  · cases h with
    | cls m => exact ⟨_, rfl, m⟩
  · cases t
theorem RepT.lst {ds : List D} (l : Le S H) (h : RepT G S H v (.lst ds)) : ∃ a xs, v = .ref a ∧ H a = some (.lst xs) ∧ RepAll G S xs ds := by
  rcases h with h | ⟨a, o, q1, q2, t⟩
  · cases h with
    | lst h r => exact ⟨_, _, rfl, l.lst h, r⟩
  · cases t with
    | lst t => exact ⟨a, _, q1, q2, t⟩
theorem RepT.scr {ns : List Int} (l : Le S H) (h : RepT G S H v (.scr ns)) : ∃ a, v = .ref a ∧ SqL G.K H a (ns.map V.int) := by
  rcases h with h | ⟨a, o, q1, q2, t⟩
  · cases h with
    | scr h => exact ⟨_, rfl, l.seq h⟩
  · cases t
/-- a tuple that was made, or one of the module's own -/
def TupAt (K : PySem.W.Frag) (H : Hp) (a : Addr) (xs : List V) : Prop := H a = some (.tup xs) ∨ ∃ (o : Obj) (its : Array Value) (n : Nat), K.lookup a = some o ∧ o.cls = .type "tuple" ∧ o.data = .seq its n ∧ its.size ≤ sizeLine ∧ Vals xs its.toList
theorem TupAt.sq {K : PySem.W.Frag} {H : Hp} {a : Addr} {xs : List V} (h : TupAt K H a xs) : SqT K H a xs := by
  rcases h with h | h
  · exact .inl (.inl h)
  · exact .inr h
theorem Rep.tupAt {ds : List D} (h : Rep G S v (.tup ds)) : ∃ a xs, v = .ref a ∧ TupAt G.K S a xs ∧ RepAll G S xs ds := by
  cases h with
  | tup h r => exact ⟨_, _, rfl, .inl h, r⟩
  | tupK h1 h2 h3 h4 h5 h6 r => exact ⟨_, _, rfl, .inr ⟨_, _, _, h1, h2, h3, h4, h5⟩, r⟩
theorem Le.tupAt {K : PySem.W.Frag} {a : Addr} {xs : List V} (l : Le S H) (h : TupAt K S a xs) : TupAt K H a xs := by
  rcases h with h | h
  · rcases l.two h rfl with q | ⟨z, _⟩
    · exact .inl q
    · cases z
  · exact .inr h
theorem RepT.tup {ds : List D} (l : Le S H) (h : RepT G S H v (.tup ds)) : ∃ a xs, v = .ref a ∧ TupAt G.K H a xs ∧ RepAll G S xs ds := by
  rcases h with h | ⟨a, o, q1, q2, t⟩
  · obtain ⟨a, xs, q1, q2, q3⟩ := h.tupAt
    exact ⟨a, xs, q1, l.tupAt q2, q3⟩
  · cases t
end
theorem RepAll.length {G : Gx} {S : Hp} : ∀ {vs : List V} {ds : List D}, RepAll G S vs ds → vs.length = ds.length
  | _, _, .nil => rfl
  | _, _, .cons _ t => by rw [List.length_cons, List.length_cons, RepAll.length t]
theorem RepAll.get {G : Gx} {S : Hp} : ∀ {vs : List V} {ds : List D} {i : Nat} {d : D}, RepAll G S vs ds → ds[i]? = some d → ∃ v, vs[i]? = some v ∧ Rep G S v d
  | _, _, _, _, .nil, e => by simp at e
  | _, _, 0, _, .cons r _, e => by simp at e; subst e; exact ⟨_, rfl, r⟩
  | _, _, i + 1, d, .cons _ t, e => by
    obtain ⟨v, h1, h2⟩ := RepAll.get (i := i) (d := d) t (by simpa using e)
    exact ⟨v, by simpa using h1, h2⟩
theorem RepAll.append {G : Gx} {S : Hp} : ∀ {xs ys : List V} {ds es : List D}, RepAll G S xs ds → RepAll G S ys es → RepAll G S (xs ++ ys) (ds ++ es)
  | _, _, _, _, .nil, s => s
  | _, _, _, _, .cons r t, s => .cons r (RepAll.append t s)
theorem RepAll.take {G : Gx} {S : Hp} : ∀ {xs : List V} {ds : List D} (n : Nat), RepAll G S xs ds → RepAll G S (xs.take n) (ds.take n)
  | _, _, 0, _ => .nil
  | _, _, _ + 1, .nil => .nil
  | _, _, n + 1, .cons r t => .cons r (RepAll.take n t)
theorem RepAll.drop {G : Gx} {S : Hp} : ∀ {xs : List V} {ds : List D} (n : Nat), RepAll G S xs ds → RepAll G S (xs.drop n) (ds.drop n)
  | _, _, 0, r => r
  | _, _, _ + 1, .nil => .nil
  | _, _, n + 1, .cons _ t => RepAll.drop n t
theorem RepAll.set {G : Gx} {S : Hp} {x : V} {d : D} (r : Rep G S x d) : ∀ {xs : List V} {ds : List D} (i : Nat), RepAll G S xs ds → RepAll G S (xs.set i x) (ds.set i d)
  | _, _, _, .nil => .nil
  | _, _, 0, .cons _ t => .cons r t
  | _, _, i + 1, .cons q t => .cons q (RepAll.set r i t)
end DL
end
section
/-! DLb: results, readings by data, the rules for names, constants, operators, tests, blocks. -/
namespace DL
open PySem PySem.Spec PyProof.Rows L2
structure Ex where
  cls : Str
  fs : List (Str × D)
inductive Rs (α : Type) where
  | ok (a : α) (st : DS) | ex (e : Ex) (st : DS) | no
def Rs.bind {α β : Type} (r : Rs α) (f : α → DS → Rs β) : Rs β := match r with
  | .ok a st => f a st
  | .ex e st => .ex e st
  | .no => .no
inductive RS where
  | nx (st : DS) | rt (a : Val) (st : DS) | bk (st : DS) | ct (st : DS) | ex (e : Ex) (st : DS) | no
def Rs.bindS {α : Type} (r : Rs α) (f : α → DS → RS) : RS := match r with
  | .ok a st => f a st
  | .ex e st => .ex e st
  | .no => .no
def RS.bind (r : RS) (f : DS → RS) : RS := match r with
  | .nx st => f st
  | r => r
abbrev GE := DS → Rs Val
abbrev GT := DS → Rs Bool
abbrev GA := DS → Rs (List Val)
abbrev GS := DS → RS
def ExR (G : Gx) (S : Hp) (cls : Value) (d : Option Addr) (e : Ex) : Prop := G.mg e.cls = some cls ∧
  ((∃ a fs, d = some a ∧ S a = some (.xd fs) ∧ RepF G S fs e.fs) ∨ (d = none ∧ e.fs = []))
theorem ExR.mono {G : Gx} {S S' : Hp} {cls : Value} {d : Option Addr} {e : Ex} (q : Same S S') (h : ExR G S cls d e) : ExR G S' cls d e := by
  obtain ⟨h1, ⟨a, fs, h2, h3, h4⟩ | h⟩ := h
  · exact ⟨h1, .inl ⟨a, fs, h2, q _ _ h3, h4.mono q⟩⟩
  · exact ⟨h1, .inr h⟩
/-- what is wanted behind a result -/
def Fin {α : Type} (G : Gx) (P : Pin) (R : Hp) (W : WX) (σ : L2.St) (S : Hp) (r : Rs α) (K : α → DS → Hp → Hp → Prop) : Prop := match r with
  | .ok a st' => ∀ S' H', Same S S' → StR G P R S' H' σ st' → K a st' S' H'
  | .ex e st' => ∀ cls d S' H', Same S S' → StR G P R S' H' σ st' → ExR G S' cls d e → W cls d σ H'
  | .no => False
section
variable {α β : Type} {G : Gx} {P : Pin} {R S : Hp} {W : WX} {σ : L2.St}
theorem Fin.up {r : Rs α} {K : α → DS → Hp → Hp → Prop} {S1 : Hp} (h : Fin G P R W σ S r K) (e : Same S S1) : Fin G P R W σ S1 r K := by
  cases r with
  | ok a st => exact fun S' H' e1 => h S' H' (e.trans e1)
  | ex x st => exact fun cls d S' H' e1 => h cls d S' H' (e.trans e1)
  | no => exact h
theorem Fin.imp {r : Rs α} {K K' : α → DS → Hp → Hp → Prop} (h : Fin G P R W σ S r K) (q : ∀ a st S' H', Same S S' → StR G P R S' H' σ st → K a st S' H' → K' a st S' H') : Fin G P R W σ S r K' := by
  cases r with
  | ok a st => exact fun S' H' e h1 => q a st S' H' e h1 (h S' H' e h1)
  | ex x st => exact h
  | no => exact h
theorem Fin.bind {r : Rs α} {f : α → DS → Rs β} {K : β → DS → Hp → Hp → Prop} (h : Fin G P R W σ S (r.bind f) K) : Fin G P R W σ S r (fun a st1 S1 _ => Fin G P R W σ S1 (f a st1) K) := by
  cases r with
  | ok a st => exact fun S' H' e h1 => Fin.up h e
  | ex x st => exact h
  | no => exact h
end
/-- what is wanted behind a statement -/
def FinS (G : Gx) (P : Pin) (R : Hp) (W : WX) (S : Hp) (r : RS) (E : Ends) : Prop := match r with
  | .nx st' => ∀ σ' S' H', Same S S' → StR G P R S' H' σ' st' → E.nx σ' H'
  | .rt a st' => ∀ v σ' S' H', Same S S' → StR G P R S' H' σ' st' → RepV G R S' H' σ' st' v a → E.rt v H'
  | .bk st' => ∀ σ' S' H', Same S S' → StR G P R S' H' σ' st' → E.bk σ' H'
  | .ct st' => ∀ σ' S' H', Same S S' → StR G P R S' H' σ' st' → E.ct σ' H'
  | .ex e st' => ∀ cls d σ' S' H', Same S S' → StR G P R S' H' σ' st' → ExR G S' cls d e → W cls d σ' H'
  | .no => False
section
variable {α : Type} {G : Gx} {P : Pin} {R S : Hp} {W : WX}
theorem FinS.up {r : RS} {E : Ends} {S1 : Hp} (h : FinS G P R W S r E) (e : Same S S1) : FinS G P R W S1 r E := by
  cases r with
  | nx st => exact fun σ' S' H' e1 => h σ' S' H' (e.trans e1)
  | rt a st => exact fun v σ' S' H' e1 => h v σ' S' H' (e.trans e1)
  | bk st => exact fun σ' S' H' e1 => h σ' S' H' (e.trans e1)
  | ct st => exact fun σ' S' H' e1 => h σ' S' H' (e.trans e1)
  | ex x st => exact fun cls d σ' S' H' e1 => h cls d σ' S' H' (e.trans e1)
  | no => exact h
theorem Fin.bindS {r : Rs α} {f : α → DS → RS} {E : Ends} {σ : L2.St} (h : FinS G P R W S (r.bindS f) E) : Fin G P R W σ S r (fun a st1 S1 _ => FinS G P R W S1 (f a st1) E) := by
  cases r with
  | ok a st => exact fun S' H' e h1 => FinS.up h e
  | ex x st => exact fun cls d S' H' e h1 x => h cls d σ S' H' e h1 x
  | no => exact h
end
theorem Fin.lift {α : Type} {G : Gx} {P : Pin} {R R' S : Hp} {W : WX} {σ : L2.St} {r : Rs α} {K : α → DS → Hp → Hp → Prop} (e : Same R R') (h : Fin G P R W σ S r K) : Fin G P R' W σ S r K := by
  cases r with
  | ok a st => exact fun S' H' e1 h1 => h S' H' e1 (h1.drop e)
  | ex x st => exact fun cls d S' H' e1 h1 => h cls d S' H' e1 (h1.drop e)
  | no => exact h
theorem Fin.liftV {G : Gx} {P : Pin} {R R' S : Hp} {W : WX} {σ : L2.St} {r : Rs Val} {Q : V → Hp → Prop} (e : Same R R') (h : Fin G P R W σ S r fun a st' S' H' => ∀ v, RepV G R S' H' σ st' v a → Q v H') : Fin G P R' W σ S r fun a st' S' H' => ∀ v, RepV G R' S' H' σ st' v a → Q v H' :=
  Fin.imp (Fin.lift e h) fun _ _ _ _ _ _ k v r => k v (r.drop e)
theorem FinS.lift {G : Gx} {P : Pin} {R R' S : Hp} {W : WX} {r : RS} {E : Ends} (e : Same R R') (h : FinS G P R W S r E) : FinS G P R' W S r E := by
  cases r with
  | nx st => exact fun σ' S' H' e1 h1 => h σ' S' H' e1 (h1.drop e)
  | rt a st => exact fun v σ' S' H' e1 h1 r => h v σ' S' H' e1 (h1.drop e) (r.drop e)
  | bk st => exact fun σ' S' H' e1 h1 => h σ' S' H' e1 (h1.drop e)
  | ct st => exact fun σ' S' H' e1 h1 => h σ' S' H' e1 (h1.drop e)
  | ex x st => exact fun cls d σ' S' H' e1 h1 => h cls d σ' S' H' e1 (h1.drop e)
  | no => exact h
def tD (G : Gx) (W : WX) (g : GE) : TE := fun σ H Q => ∃ P R S st, StR G P R S H σ st ∧ Fin G P R W σ S (g st) fun a st' S' H' => ∀ v, RepV G R S' H' σ st' v a → Q v H'
def tDT (G : Gx) (W : WX) (g : GT) : TT := fun σ H Q => ∃ P R S st, StR G P R S H σ st ∧ Fin G P R W σ S (g st) fun b _ _ H' => Q b H'
inductive Pvs (G : Gx) (S : Hp) (σ : L2.St) : List V → List Val → Prop
  | nil : Pvs G S σ [] []
  | cons {v : V} {vs : List V} {a : Val} {as : List Val} : Pv G S σ v a → Pvs G S σ vs as → Pvs G S σ (v :: vs) (a :: as)
theorem Pvs.mono {G : Gx} {S S' : Hp} {σ : L2.St} (e : Same S S') : ∀ {vs : List V} {as : List Val}, Pvs G S σ vs as → Pvs G S' σ vs as
  | _, _, .nil => .nil
  | _, _, .cons h t => .cons (h.mono e) (t.mono e)
def tDA (G : Gx) (W : WX) (g : GA) : TA := fun σ H Q => ∃ P R S st, StR G P R S H σ st ∧ Fin G P R W σ S (g st) fun as _ S' H' => ∀ vs, Pvs G S' σ vs as → Q vs H'
def tDS (G : Gx) (W : WX) (s : GS) : TS := fun E σ H => ∃ P R S st, StR G P R S H σ st ∧ FinS G P R W S (s st) E
abbrev gx (X : Cx) : Gx := ⟨X.K, X.mg⟩
abbrev DE (X : Cx) (W : WX) (e : Expr) (g : GE) : Prop := PE X e (tD (gx X) W g)
abbrev DT (X : Cx) (W : WX) (e : Expr) (g : GT) : Prop := PT X e (tDT (gx X) W g)
abbrev DA (X : Cx) (W : WX) (es : List Expr) (g : GA) : Prop := PA X es (tDA (gx X) W g)
abbrev DSt (X : Cx) (W : WX) (s : Stmt) (g : GS) : Prop := PS X s (tDS (gx X) W g)
abbrev DSs (X : Cx) (W : WX) (s : List Stmt) (g : GS) : Prop := PSs X s (tDS (gx X) W g)
theorem pe_imp {X : Cx} {e : Expr} {t t' : TE} (h : PE X e t) (q : ∀ σ H Q, t' σ H Q → t σ H Q) : PE X e t' := ⟨fun pins s σ H Q I z => h.run pins s σ H Q I (q σ H Q z)⟩
theorem pt_imp {X : Cx} {e : Expr} {t t' : TT} (h : PT X e t) (q : ∀ σ H Q, t' σ H Q → t σ H Q) : PT X e t' := ⟨fun pins s σ H Q I z => h.run pins s σ H Q I (q σ H Q z)⟩
theorem pa_imp {X : Cx} {e : List Expr} {t t' : TA} (h : PA X e t) (q : ∀ σ H Q, t' σ H Q → t σ H Q) : PA X e t' := ⟨fun pos pins s σ H Q I z => h.run pos pins s σ H Q I (q σ H Q z)⟩
theorem ps_imp {X : Cx} {e : Stmt} {t t' : TS} (h : PS X e t) (q : ∀ E σ H, t' E σ H → t E σ H) : PS X e t' := ⟨fun pins s σ H E I z => h.run pins s σ H E I (q E σ H z)⟩
theorem pss_imp {X : Cx} {e : List Stmt} {t t' : TS} (h : PSs X e t) (q : ∀ E σ H, t' E σ H → t E σ H) : PSs X e t' := ⟨fun pins s σ H E I z => h.run pins s σ H E I (q E σ H z)⟩
/-! ### names and constants -/
def gVar (i : Nat) : GE := fun st => match st[i]? with
  | some (.sh x) => .ok (.d x) st
  | some (.ow _) => .ok (.sl i) st
  | some (.io _) => .ok (.sl i) st
  | _ => .no
def gC (x : D) : GE := fun st => .ok (.d x) st
section
variable {X : Cx} {W : WX}
theorem de_var {i : Nat} {x : Str} {pos : Pos} (hN : X.N[i]? = some x) (hv : Vis X.env.scope x) (hd : (x == ("__debug__" : Str)) = false) (hcd : (x == ("__classdict__" : Str)) = false) : DE X W (.Name x pos) (gVar i) :=
  pe_imp (pe_var hN hv hd hcd) fun σ H Q ⟨P, R, S, st, h, f⟩ => by
    unfold gVar at f
    cases e : st[i]? with
    | none => rw [e] at f; exact f.elim
    | some s =>
      rw [e] at f
      have ow : ∀ d, Owns st i d → (∀ v, σ[i]? = some (some v) → Q v H) → tVar i σ H Q := fun d q k => by
        obtain ⟨a, o, q1, _⟩ := h.own i d q
        exact ⟨_, q1, k _ q1⟩
      cases s with
      | no => exact f.elim
      | sh x =>
        obtain ⟨v, q1, q2⟩ := h.val i x e
        exact ⟨v, q1, f S H (Same.refl S) h v q2⟩
      | ow x => exact ow x (.inl e) fun v q => f S H (Same.refl S) h v q
      | io x => exact ow x (.inr e) fun v q => f S H (Same.refl S) h v q
theorem de_c {e : Expr} {v : V} {x : D} (h : PE X e (tC v)) (r : ∀ S, Rep (gx X) S v x) : DE X W e (gC x) :=
  pe_imp h fun σ H Q ⟨P, R, S, st, h, f⟩ => f S H (Same.refl S) h v (r S)
theorem de_int {i j pos} : DE X W (.Constant (.int i) j pos) (gC (.int i)) := de_c pe_int fun _ => .int i
theorem de_bl {b j pos} : DE X W (.Constant (.bool b) j pos) (gC (.bl b)) := de_c pe_bl fun _ => .bl b
theorem de_non {j pos} : DE X W (.Constant .none j pos) (gC .non) := de_c pe_non fun _ => .non
theorem de_str {x j pos} : DE X W (.Constant (.str x) j pos) (gC (.str x)) := de_c pe_str fun _ => .str x
/-! ### two operands -/
def lift (c : Option Val) (st : DS) : Rs Val := match c with
  | some a => .ok a st
  | none => .no
def gOp2 (f : D → D → Option Val) (ga gb : GE) : GE := fun st => (ga st).bind fun a st1 => (gb st1).bind fun b st2 => match look st2 a, look st2 b with
  | some x, some y => lift (f x y) st2
  | _, _ => .no
/-- an operation of the heap's values does what f does on data -/
def OpS (G : Gx) (r : R2) (f : D → D → Option Val) : Prop := ∀ (P : Pin) (R S H : Hp) (σ : L2.St) (st : DS) (v u : V) (x y : D) (c : Val) (Q : VK), StR G P R S H σ st → RepT G S H v x → RepT G S H u y → f x y = some c →
  (∀ w S' H', Same S S' → StR G P R S' H' σ st → RepV G R S' H' σ st w c → Q w H') → r v u H Q
theorem top_of {G : Gx} {W : WX} {r : R2} {f : D → D → Option Val} {ga gb : GE} (ho : OpS G r f) : ∀ σ H Q, tD G W (gOp2 f ga gb) σ H Q → tOp r (tD G W ga) (tD G W gb) σ H Q := by
  rintro σ H Q ⟨P, R, S, st, h, fi⟩
  refine ⟨P, R, S, st, h, Fin.imp (Fin.bind fi) fun a st1 S1 H1 e1 h1 k v rv => ?_⟩
  obtain ⟨S2, e2, h2, pv⟩ := h1.settle rv
  refine ⟨P, R, S2, st1, h2, Fin.imp (Fin.bind (Fin.up k e2)) fun b st3 S3 H3 e3 h3 k3 u ru => ?_⟩
  obtain ⟨S4, e4, h4, pu⟩ := h3.settle ru
  have pv' := pv.mono (e3.trans e4)
  cases ea : look st3 a with
  | none => rw [ea] at k3; exact k3.elim
  | some x =>
    cases eb : look st3 b with
    | none => rw [ea, eb] at k3; exact k3.elim
    | some y =>
      rw [ea, eb] at k3
      dsimp only at k3
      cases ec : f x y with
      | none => rw [ec] at k3; exact k3.elim
      | some c =>
        rw [ec] at k3
        exact ho P R S4 H3 σ st3 v u x y c Q h4 (pv'.look h4 ea) (pu.look h4 eb) ec fun w S' H' e5 h5 rw5 => k3 S' H' (e4.trans e5) h5 w rw5
theorem de_op {op : Operator} {r : R2} {f : D → D → Option Val} {a b : Expr} {ga gb : GE} {pos : Pos} (hr : OpR X (binaryOp op) r) (ho : OpS (gx X) r f) (ha : DE X W a ga) (hb : DE X W b gb) : DE X W (.BinOp a op b pos) (gOp2 f ga gb) :=
  pe_imp (pe_op hr ha hb) (top_of ho)
theorem de_cmp {op : CmpOp} {r : R2} {f : D → D → Option Val} {a b : Expr} {ga gb : GE} {pos : Pos} (hr : OpR X (compareOp op) r) (ho : OpS (gx X) r f) (ha : DE X W a ga) (hb : DE X W b gb) (hm : behindInMarks op b = false) : DE X W (.Compare a [op] [b] pos) (gOp2 f ga gb) :=
  pe_imp (pe_cmpR hr ha hb hm) (top_of ho)
theorem de_ix {r : R2} {f : D → D → Option Val} {a b : Expr} {ga gb : GE} {pos : Pos} (hr : IxR X r) (ho : OpS (gx X) r f) (ha : DE X W a ga) (hb : DE X W b gb) (hs : PlainIx b) : DE X W (.Subscript a b pos) (gOp2 f ga gb) :=
  pe_imp (pe_ix hr ha hb hs) (top_of ho)
/-- a value that is True or False, as a test -/
def gTst (g : GE) : GT := fun st => (g st).bind fun a st1 => match look st1 a with
  | some (.bl b) => .ok b st1
  | _ => .no
theorem tst_of {G : Gx} {W : WX} {g : GE} {t : TE} (h : ∀ σ H Q, tD G W g σ H Q → t σ H Q) : ∀ σ H Q, tDT G W (gTst g) σ H Q → tTest t σ H Q := by
  rintro σ H Q ⟨P, R, S, st, h0, fi⟩
  refine h σ H _ ⟨P, R, S, st, h0, Fin.imp (Fin.bind fi) fun a st1 S1 H1 e1 h1 k v rv => ?_⟩
  obtain ⟨S2, e2, h2, pv⟩ := h1.settle rv
  cases ea : look st1 a with
  | none => rw [ea] at k; exact k.elim
  | some x =>
    rw [ea] at k
    cases x with
    | bl b =>
      have := (pv.look h2 ea).bl
      exact ⟨b, this, k S1 H1 (Same.refl _) h1⟩
    | _ => exact k.elim
theorem dt_cmp {op : CmpOp} {r : R2} {f : D → D → Option Val} {a b : Expr} {ga gb : GE} {pos : Pos} (hr : OpR X (compareOp op) r) (ho : OpS (gx X) r f) (ha : DE X W a ga) (hb : DE X W b gb) (hm : behindInMarks op b = false) : DT X W (.Compare a [op] [b] pos) (gTst (gOp2 f ga gb)) :=
  pt_imp (pt_cmpR hr ha hb hm) (tst_of (top_of ho))
/-- any other value, by its truth -/
def tru : D → Option Bool
  | .non => some false
  | .bl b => some b
  | .int i => some (i != 0)
  | .str x => if x.length ≤ sizeLine then some ((x.length : Int) != 0) else none
  | .lst xs => some (!xs.isEmpty)
  | .tup xs => some (!xs.isEmpty)
  | _ => none
def gTru (g : GE) : GT := fun st => (g st).bind fun a st1 => match (look st1 a).bind tru with
  | some b => .ok b st1
  | none => .no
theorem isEmpty_len {α β : Type} {xs : List α} {ys : List β} (h : xs.length = ys.length) : xs.isEmpty = ys.isEmpty := by
  cases xs <;> cases ys <;> first | rfl | (simp at h)
theorem tru_v {G : Gx} {S H : Hp} {v : V} {x : D} {k : Bool} (l : Le S H) (r : RepT G S H v x) (e : tru x = some k) : TruV G.K v H k := by
  cases x with
  | non => cases e; rw [r.non]; rfl
  | bl b => cases e; rw [r.bl]; rfl
  | int i => cases e; rw [r.int]; rfl
  | str x =>
    by_cases hx : x.length ≤ sizeLine
    · have e' : some ((x.length : Int) != 0) = some k := (if_pos hx).symm.trans e
      cases e'; rw [r.str]; exact ⟨hx, rfl⟩
    · have e' : (none : Option Bool) = some k := (if_neg hx).symm.trans e
      cases e'
  | lst ds =>
    cases e
    obtain ⟨a, xs, rfl, h1, h2⟩ := r.lst l
    exact .inl ⟨xs, SqL.of h1, by rw [isEmpty_len h2.length]⟩
  | tup ds =>
    cases e
    obtain ⟨a, xs, rfl, h1, h2⟩ := r.tup l
    exact .inr (.inl ⟨xs, h1.sq, by rw [isEmpty_len h2.length]⟩)
  | _ => cases e
theorem dt_tru {a : Expr} {g : GE} (ha : DE X W a g) (he : ∀ whole, isTrue a X.env whole = (do let v ← whole; standAt a.pos; holding [v] (truthy v))) : DT X W a (gTru g) :=
  pt_imp (pt_truth ha he) fun σ H Q ⟨P, R, S, st, h, fi⟩ => ⟨P, R, S, st, h, Fin.imp (Fin.bind fi) fun a st1 S1 H1 e1 h1 k v rv => by
    obtain ⟨S2, e2, h2, pv⟩ := h1.settle rv
    cases ea : look st1 a with
    | none => rw [ea] at k; exact k.elim
    | some x =>
      rw [ea] at k
      cases et : tru x with
      | none => simp only [Option.bind_some, et] at k; exact k.elim
      | some b =>
        simp only [Option.bind_some, et] at k
        exact ⟨b, tru_v h2.sub (pv.look h2 ea) et, k S1 H1 (Same.refl _) h1⟩⟩
def gNot (g : GT) : GT := fun st => (g st).bind fun b st1 => .ok (!b) st1
def gAnd (g k : GT) : GT := fun st => (g st).bind fun b st1 => if b = true then k st1 else .ok false st1
def gOr (g k : GT) : GT := fun st => (g st).bind fun b st1 => if b = true then .ok true st1 else k st1
abbrev DW (X : Cx) (W : WX) (e : Expr) (g : GT) : Prop := PW X e (tDT (gx X) W g)
theorem pw_imp {X : Cx} {e : Expr} {t t' : TT} (h : PW X e t) (q : ∀ σ H Q, t' σ H Q → t σ H Q) : PW X e t' := ⟨fun wh pins s σ H Q I z => h.run wh pins s σ H Q I (q σ H Q z)⟩
theorem dw_and1 {a : Expr} {g : GT} {pos : Pos} (h : DT X W a g) : DW X W (.BoolOp .And [a] pos) g := pw_and1 h
theorem dw_or1 {a : Expr} {g : GT} {pos : Pos} (h : DT X W a g) : DW X W (.BoolOp .Or [a] pos) g := pw_or1 h
theorem dw_and {a b : Expr} {rest : List Expr} {g k : GT} {pos : Pos} (h : DT X W a g) (hb : DW X W (.BoolOp .And (b :: rest) pos) k) : DW X W (.BoolOp .And (a :: b :: rest) pos) (gAnd g k) :=
  pw_imp (pw_and h hb) fun σ H Q ⟨P, R, S, st, h, fi⟩ => ⟨P, R, S, st, h, Fin.imp (Fin.bind fi) fun b st1 S1 H1 e1 h1 k => by
    cases b with
    | true => rw [if_pos rfl] at k ⊢; exact ⟨P, R, S1, st1, h1, k⟩
    | false => rw [if_neg Bool.false_ne_true] at k ⊢; exact k S1 H1 (Same.refl _) h1⟩
theorem dw_or {a b : Expr} {rest : List Expr} {g k : GT} {pos : Pos} (h : DT X W a g) (hb : DW X W (.BoolOp .Or (b :: rest) pos) k) : DW X W (.BoolOp .Or (a :: b :: rest) pos) (gOr g k) :=
  pw_imp (pw_or h hb) fun σ H Q ⟨P, R, S, st, h, fi⟩ => ⟨P, R, S, st, h, Fin.imp (Fin.bind fi) fun b st1 S1 H1 e1 h1 k => by
    cases b with
    | true => rw [if_pos rfl] at k ⊢; exact k S1 H1 (Same.refl _) h1
    | false => rw [if_neg Bool.false_ne_true] at k ⊢; exact ⟨P, R, S1, st1, h1, k⟩⟩
/-- .. as values -/
def gB (g : GT) : GE := fun st => (g st).bind fun b st1 => .ok (.d (.bl b)) st1
def gAndV (g k : GE) : GE := fun st => (gTst g st).bind fun b st1 => if b = true then k st1 else .ok (.d (.bl false)) st1
def gOrV (g k : GE) : GE := fun st => (gTst g st).bind fun b st1 => if b = true then .ok (.d (.bl true)) st1 else k st1
theorem de_and {a b : Expr} {rest : List Expr} {g k : GE} {pos : Pos} (h : DE X W a g) (hb : DE X W (.BoolOp .And (b :: rest) pos) k) : DE X W (.BoolOp .And (a :: b :: rest) pos) (gAndV g k) :=
  pe_imp (pe_and h hb) fun σ H Q ⟨P, R, S, st, h, fi⟩ => tst_of (t := tD (gx X) W g) (fun _ _ _ z => z) σ H (fun c H1 => if c = true then tD (gx X) W k σ H1 Q else Q (.bl false) H1) ⟨P, R, S, st, h, Fin.imp (Fin.bind fi) fun b st1 S1 H1 e1 h1 k => by
    cases b with
    | true => rw [if_pos rfl] at k ⊢; exact ⟨P, R, S1, st1, h1, k⟩
    | false => rw [if_neg Bool.false_ne_true] at k ⊢; exact k S1 H1 (Same.refl _) h1 _ (.bl false)⟩
theorem de_one {op} {a : Expr} {g : GE} {pos : Pos} (h : DE X W a g) : DE X W (.BoolOp op [a] pos) g := pe_one h
def gIf (c : GT) (g k : GE) : GE := fun st => (c st).bind fun b st1 => if b = true then g st1 else k st1
theorem de_if {c a b : Expr} {gc : GT} {g k : GE} {pos : Pos} (hc : DT X W c gc) (ha : DE X W a g) (hb : DE X W b k) : DE X W (.IfExp c a b pos) (gIf gc g k) :=
  pe_imp (pe_ifExp hc ha hb) fun σ H Q ⟨P, R, S, st, h, fi⟩ => ⟨P, R, S, st, h, Fin.imp (Fin.bind fi) fun b st1 S1 H1 e1 h1 k => by
    cases b with
    | true => rw [if_pos rfl] at k ⊢; exact ⟨P, R, S1, st1, h1, k⟩
    | false => rw [if_neg Bool.false_ne_true] at k ⊢; exact ⟨P, R, S1, st1, h1, k⟩⟩
end
end DL
end
section
/-! DLc: argument lists, displays, stores to names, blocks, loops. -/
namespace DL
open PySem PySem.Spec PyProof.Rows L2
/-! ### argument lists -/
def gNil : GA := fun st => .ok [] st
def gCons (g : GE) (gs : GA) : GA := fun st => (g st).bind fun a st1 => (gs st1).bind fun as st2 => .ok (a :: as) st2
section
variable {X : Cx} {W : WX}
theorem da_nil : DA X W [] gNil := pa_imp pa_nil fun σ H Q ⟨P, R, S, st, h, f⟩ => f S H (Same.refl S) h [] .nil
theorem da_cons {e : Expr} {es : List Expr} {g : GE} {gs : GA} (h : DE X W e g) (hr : DA X W es gs) (hs : starEach (e :: es) X.env = (false, eval e X.env) :: starEach es X.env) : DA X W (e :: es) (gCons g gs) :=
  pa_imp (pa_cons h hr hs) fun σ H Q ⟨P, R, S, st, h, fi⟩ => ⟨P, R, S, st, h, Fin.imp (Fin.bind fi) fun a st1 S1 H1 e1 h1 k v rv => by
    obtain ⟨S2, e2, h2, pv⟩ := h1.settle rv
    refine ⟨P, R, S2, st1, h2, Fin.imp (Fin.bind (Fin.up k e2)) fun as st3 S3 H3 e3 h3 k3 vs pvs => ?_⟩
    exact k3 S3 H3 (Same.refl _) h3 (v :: vs) (.cons (pv.mono e3) pvs)⟩
end
/-- an operand is kept: what was a slot's own is shared from here on -/
def take1 (st : DS) : Val → Option (D × DS)
  | .d x => some (x, st)
  | .fr x => some (x, st)
  | .nk x _ => some (x, st)
  | .sl i => match st[i]? with
    | some (.sh x) => some (x, st)
    | some (.ow x) => some (x, st.set i (.sh x))
    | _ => none
def takes (st : DS) : List Val → Option (List D × DS)
  | [] => some ([], st)
  | a :: as => match take1 st a with
    | none => none
    | some (x, st1) => match takes st1 as with
      | none => none
      | some (xs, st2) => some (x :: xs, st2)
def looks (st : DS) : List Val → Option (List D)
  | [] => some []
  | a :: as => match look st a, looks st as with
    | some x, some xs => some (x :: xs)
    | _, _ => none
inductive RepTs (G : Gx) (S H : Hp) : List V → List D → Prop
  | nil : RepTs G S H [] []
  | cons {v : V} {vs : List V} {d : D} {ds : List D} : RepT G S H v d → RepTs G S H vs ds → RepTs G S H (v :: vs) (d :: ds)
section
variable {G : Gx} {P : Pin} {R S H : Hp} {σ : L2.St} {st : DS}
theorem take1_ok {v : V} {a : Val} {x : D} {st' : DS} (h : StR G P R S H σ st) (p : Pv G S σ v a) (e : take1 st a = some (x, st')) : ∃ S', Same S S' ∧ StR G P R S' H σ st' ∧ Rep G S' v x := by
  cases a with
  | d y => cases e; exact ⟨S, Same.refl S, h, p⟩
  | fr y => cases e; exact ⟨S, Same.refl S, h, p⟩
  | nk y k => cases e; exact ⟨S, Same.refl S, h, p⟩
  | sl i =>
    have q1 : σ[i]? = some (some v) := p
    cases q2 : st[i]? with
    | none => simp [take1, q2] at e
    | some s =>
      simp only [take1, q2] at e
      cases s with
      | no => cases e
      | io y => cases e
      | sh y =>
        cases e
        obtain ⟨v', z1, z2⟩ := h.val i _ q2
        rw [q1] at z1; cases z1
        exact ⟨S, Same.refl S, h, z2⟩
      | ow y =>
        cases e
        obtain ⟨S', v', e1, h1, z1, z2⟩ := h.freeze q2
        rw [q1] at z1; cases z1
        exact ⟨S', e1, h1, z2⟩
theorem takes_ok : ∀ {vs : List V} {as : List Val} {S : Hp} {st : DS} {xs : List D} {st' : DS}, StR G P R S H σ st → Pvs G S σ vs as → takes st as = some (xs, st') → ∃ S', Same S S' ∧ StR G P R S' H σ st' ∧ RepAll G S' vs xs
  | _, _, S, st, xs, st', h, .nil, e => by cases e; exact ⟨S, Same.refl S, h, .nil⟩
  | _, _, S, st, xs, st', h, .cons (a := a) (as := as) p ps, e => by
    unfold takes at e
    cases e1 : take1 st a with
    | none => rw [e1] at e; cases e
    | some r =>
      obtain ⟨x, st1⟩ := r
      rw [e1] at e
      dsimp only at e
      cases e2 : takes st1 as with
      | none => rw [e2] at e; cases e
      | some r2 =>
        obtain ⟨ys, st2⟩ := r2
        rw [e2] at e
        cases e
        obtain ⟨S1, q1, h1, r1⟩ := take1_ok h p e1
        obtain ⟨S2, q2, h2, r2⟩ := takes_ok h1 (ps.mono q1) e2
        exact ⟨S2, q1.trans q2, h2, .cons (r1.mono q2) r2⟩
theorem looks_ok : ∀ {vs : List V} {as : List Val} {xs : List D}, StR G P R S H σ st → Pvs G S σ vs as → looks st as = some xs → RepTs G S H vs xs
  | _, _, xs, h, .nil, e => by cases e; exact .nil
  | _, _, xs, h, .cons (a := a) (as := as) p ps, e => by
    unfold looks at e
    cases e1 : look st a with
    | none => rw [e1] at e; cases e
    | some x =>
      rw [e1] at e
      cases e2 : looks st as with
      | none => rw [e2] at e; cases e
      | some ys =>
        rw [e2] at e
        cases e
        exact .cons (p.look h e1) (looks_ok h ps e2)
end
/-! ### displays -/
def gLst (ga : GA) : GE := fun st => (ga st).bind fun as st1 => match takes st1 as with
  | some (xs, st2) => if xs.length ≤ sizeLine then .ok (.fr (.lst xs)) st2 else .no
  | none => .no
def gTup (ga : GA) : GE := fun st => (ga st).bind fun as st1 => match takes st1 as with
  | some (xs, st2) => if xs.length ≤ sizeLine then .ok (.d (.tup xs)) st2 else .no
  | none => .no
section
variable {X : Cx} {W : WX}
theorem de_lst {es : List Expr} {g : GA} {pos : Pos} (h : DA X W es g) : DE X W (.List es pos) (gLst g) :=
  pe_imp (pe_lst h) fun σ H Q ⟨P, R, S, st, h, fi⟩ => ⟨P, R, S, st, h, Fin.imp (Fin.bind fi) fun as st1 S1 H1 e1 h1 k vs ps => by
    cases et : takes st1 as with
    | none => rw [et] at k; exact k.elim
    | some r =>
      obtain ⟨xs, st2⟩ := r
      rw [et] at k
      dsimp only at k
      obtain ⟨S2, e2, h2, ra⟩ := takes_ok h1 ps et
      split at k
      · rename_i hz
        refine ⟨by rw [ra.length]; exact hz, fun p np => ?_⟩
        obtain ⟨h3, f3⟩ := h2.alloc np (.lst ra)
        exact k S2 _ e2 h3 _ f3
      · exact k.elim⟩
theorem de_tup {es : List Expr} {g : GA} {x1} {pos : Pos} (h : DA X W es g) : DE X W (.Tuple es x1 pos) (gTup g) :=
  pe_imp (pe_tup h) fun σ H Q ⟨P, R, S, st, h, fi⟩ => ⟨P, R, S, st, h, Fin.imp (Fin.bind fi) fun as st1 S1 H1 e1 h1 k vs ps => by
    cases et : takes st1 as with
    | none => rw [et] at k; exact k.elim
    | some r =>
      obtain ⟨xs, st2⟩ := r
      rw [et] at k
      dsimp only at k
      obtain ⟨S2, e2, h2, ra⟩ := takes_ok h1 ps et
      split at k
      · rename_i hz
        refine ⟨by rw [ra.length]; exact hz, fun p np => ?_⟩
        obtain ⟨e3, h3, f3⟩ := h2.allocT np ra
        exact k _ _ (e2.trans e3) h3 _ f3
      · exact k.elim⟩
end
/-! ### calls of built-ins -/
def gCB (f : List D → Option Val) (ga : GA) : GE := fun st => (ga st).bind fun as st1 => match looks st1 as with
  | some xs => lift (f xs) st1
  | none => .no
def CallS (G : Gx) (r : List V → Hp → VK → Prop) (f : List D → Option Val) : Prop := ∀ (P : Pin) (R S H : Hp) (σ : L2.St) (st : DS) (vs : List V) (xs : List D) (c : Val) (Q : VK), StR G P R S H σ st → RepTs G S H vs xs → f xs = some c →
  (∀ w S' H', Same S S' → StR G P R S' H' σ st → RepV G R S' H' σ st w c → Q w H') → r vs H Q
section
variable {X : Cx} {W : WX}
theorem tcb_of {G : Gx} {W : WX} {r : List V → Hp → VK → Prop} {f : List D → Option Val} {g : GA} (ho : CallS G r f) : ∀ σ H Q, tD G W (gCB f g) σ H Q → tCB r (tDA G W g) σ H Q := by
  rintro σ H Q ⟨P, R, S, st, h, fi⟩
  refine ⟨P, R, S, st, h, Fin.imp (Fin.bind fi) fun as st1 S1 H1 e1 h1 k vs ps => ?_⟩
  cases ea : looks st1 as with
  | none => rw [ea] at k; exact k.elim
  | some xs =>
    rw [ea] at k
    dsimp only at k
    cases ec : f xs with
    | none => rw [ec] at k; exact k.elim
    | some c =>
      rw [ec] at k
      exact ho P R S1 H1 σ st1 vs xs c Q h1 (looks_ok h1 ps ea) ec fun w S' H' e5 h5 rw5 => k S' H' e5 h5 w rw5
theorem de_callB {x : Str} {p pos : Pos} {e : Expr} {es : List Expr} {id : String} {r : List V → Hp → VK → Prop} {f : List D → Option Val} {g : GA} (hc : CallR X (.builtin id) r) (ho : CallS (gx X) r f) (hg : Gl X x) (hm : X.mg x = none) (hv : bootBuiltins x = some (.builtin id))
    (ha : DA X W (e :: es) g) (hn : x ≠ "__name__") (hdb : (x == ("__debug__" : Str)) = false) (he : starEach (e :: es) X.env = (false, eval e X.env) :: starEach es X.env) (hpl : (backTo pos (starEach es X.env)).any (·.1) = false) :
    DE X W (.Call (.Name x p) (e :: es) [] pos) (gCB f g) := pe_imp (pe_callB hc hg hm hv ha hn hdb he hpl) (tcb_of ho)
theorem de_callTy {x : Str} {p pos : Pos} {e : Expr} {es : List Expr} {T : String} {r : List V → Hp → VK → Prop} {f : List D → Option Val} {g : GA} (hc : CallR X (.type T) r) (ho : CallS (gx X) r f) (hg : Gl X x) (hm : X.mg x = none) (hv : bootBuiltins x = some (.type T))
    (ha : DA X W (e :: es) g) (hn : x ≠ "__name__") (hdb : (x == ("__debug__" : Str)) = false) (he : starEach (e :: es) X.env = (false, eval e X.env) :: starEach es X.env) (hpl : (backTo pos (starEach es X.env)).any (·.1) = false) :
    DE X W (.Call (.Name x p) (e :: es) [] pos) (gCB f g) := pe_imp (pe_callTy hc hg hm hv ha hn hdb he hpl) (tcb_of ho)
end
/-! ### stores to names -/
def isIo : Option Slot → Bool
  | some (.io _) => true
  | _ => false
/-- what a name gets -/
def putV (i : Nat) (st : DS) (a : Val) : Option DS := match a with
  | .d x => some (st.set i (.sh x))
  | .fr x => some (st.set i (.ow x))
  | .nk x _ => some (st.set i (.sh x))
  | .sl j => match take1 st (.sl j) with
    | some (x, st1) => some (st1.set i (.sh x))
    | none => none
section
variable {G : Gx} {P : Pin} {R S H : Hp} {σ : L2.St} {st : DS}
theorem owns_set_ne {st : DS} {i j : Nat} {s : Slot} {d : D} (h : i ≠ j) : Owns (st.set i s) j d ↔ Owns st j d := by
  unfold Owns
  rw [List.getElem?_set_ne h]
theorem StR.setSh (h : StR G P R S H σ st) {i : Nat} {v : V} {x : D} (r : Rep G S v x) (hi : i < st.length) : StR G P R S H (σ.set i (some v)) (st.set i (.sh x)) := by
  have hi' : i < σ.length := by rw [← h.len]; exact hi
  refine ⟨by rw [List.length_set, List.length_set]; exact h.len, h.tab, h.sub, fun j d q => ?_, fun j d q => ?_, fun j k d e a q1 q2 q3 q4 => ?_, fun j d q => ?_, h.frm⟩
  · by_cases hj : i = j
    · subst hj
      rw [List.getElem?_set_self hi] at q
      cases q
      exact ⟨v, List.getElem?_set_self hi', r⟩
    · rw [List.getElem?_set_ne hj] at q
      rw [List.getElem?_set_ne hj]
      exact h.val j d q
  · obtain ⟨q', hj⟩ := owns_set_sh q
    rw [List.getElem?_set_ne (Ne.symm hj)]
    exact h.own j d q'
  · obtain ⟨q1', n1⟩ := owns_set_sh q1
    obtain ⟨q2', n2⟩ := owns_set_sh q2
    rw [List.getElem?_set_ne (Ne.symm n1)] at q3
    rw [List.getElem?_set_ne (Ne.symm n2)] at q4
    exact h.inj j k d e a q1' q2' q3 q4
  · have hj : i ≠ j := fun z => by
      subst z
      rw [List.getElem?_set_self hi] at q
      cases q
    rw [List.getElem?_set_ne hj] at q
    rw [List.getElem?_set_ne hj]
    exact h.pin j d q
theorem StR.setOw (h : StR G P R S H σ st) {i : Nat} {v : V} {x : D} (r : Fresh G R S H σ st v x) (hi : i < st.length) : StR G P R S H (σ.set i (some v)) (st.set i (.ow x)) := by
  have hi' : i < σ.length := by rw [← h.len]; exact hi
  obtain ⟨a, o, rfl, ha, t, sa, ra, lo⟩ := r
  refine ⟨by rw [List.length_set, List.length_set]; exact h.len, h.tab, h.sub, fun j d q => ?_, fun j d q => ?_, fun j k d e b q1 q2 q3 q4 => ?_, fun j d q => ?_, h.frm⟩
  · by_cases hj : i = j
    · subst hj
      rw [List.getElem?_set_self hi] at q
      cases q
    · rw [List.getElem?_set_ne hj] at q
      rw [List.getElem?_set_ne hj]
      exact h.val j d q
  · by_cases hj : i = j
    · subst hj
      unfold Owns at q
      rw [List.getElem?_set_self hi] at q
      rcases q with q | q
      · cases q
        exact ⟨a, o, List.getElem?_set_self hi', ha, t, sa, ra⟩
      · cases q
    · rw [owns_set_ne hj] at q
      rw [List.getElem?_set_ne hj]
      exact h.own j d q
  · by_cases hj : i = j
    · subst hj
      by_cases hk : i = k
      · exact hk
      · rw [List.getElem?_set_self hi'] at q3
        cases q3
        rw [owns_set_ne hk] at q2
        rw [List.getElem?_set_ne hk] at q4
        exact absurd q4 (lo k e q2)
    · rw [owns_set_ne hj] at q1
      rw [List.getElem?_set_ne hj] at q3
      by_cases hk : i = k
      · subst hk
        rw [List.getElem?_set_self hi'] at q4
        cases q4
        exact absurd q3 (lo j d q1)
      · rw [owns_set_ne hk] at q2
        rw [List.getElem?_set_ne hk] at q4
        exact h.inj j k d e b q1 q2 q3 q4
  · have hj : i ≠ j := fun z => by
      subst z
      rw [List.getElem?_set_self hi] at q
      cases q
    rw [List.getElem?_set_ne hj] at q
    rw [List.getElem?_set_ne hj]
    exact h.pin j d q
theorem take1_len {a : Val} {x : D} {st1 : DS} (e : take1 st a = some (x, st1)) : st1.length = st.length := by
  cases a with
  | d y => cases e; rfl
  | fr y => cases e; rfl
  | nk y k => cases e; rfl
  | sl i =>
    cases q2 : st[i]? with
    | none => simp [take1, q2] at e
    | some s =>
      simp only [take1, q2] at e
      cases s with
      | no => cases e
      | io y => cases e
      | sh y => cases e; rfl
      | ow y => cases e; exact List.length_set
theorem putV_ok {i : Nat} {v : V} {a : Val} {st' : DS} (h : StR G P R S H σ st) (r : RepV G R S H σ st v a) (e : putV i st a = some st') (hi : i < st.length) : ∃ S', Same S S' ∧ StR G P R S' H (σ.set i (some v)) st' := by
  cases a with
  | d x => cases e; exact ⟨S, Same.refl S, h.setSh r hi⟩
  | fr x => cases e; exact ⟨S, Same.refl S, h.setOw r hi⟩
  | nk x k =>
    cases e
    obtain ⟨S', q, h', r'⟩ := h.shareN r
    exact ⟨S', q, h'.setSh r' hi⟩
  | sl j =>
    unfold putV at e
    dsimp only at e
    cases e1 : take1 st (.sl j) with
    | none => rw [e1] at e; cases e
    | some p =>
      obtain ⟨x, st1⟩ := p
      rw [e1] at e
      cases e
      obtain ⟨S', q, h', r'⟩ := take1_ok (v := v) h (show Pv G S σ v (.sl j) from r) e1
      exact ⟨S', q, h'.setSh r' (by rw [take1_len e1]; exact hi)⟩
end
def sAsg (i : Nat) (g : GE) : GS := fun st => (g st).bindS fun a st1 => if i < st1.length then (match putV i st1 a with
  | some st2 => .nx st2
  | none => .no) else .no
section
variable {X : Cx} {W : WX}
theorem ds_set {i : Nat} {x : Str} {e : Expr} {g : GE} {pos pos' : Pos} (hN : X.N.Nodup) (hi : X.N[i]? = some x) (hx : Loc X.env.scope x) (he : DE X W e g) (hs : swapsWith e (some (.Name x pos')) pos.line X.env = pure false)
    (hf : X.fn x = true ∨ X.env.scope.names.lookup x = some .local) : DSt X W (.Assign [.Name x pos'] e pos) (sAsg i g) :=
  ps_imp (ps_set hN hi hx he hs hf) fun E σ H ⟨P, R, S, st, h, fi⟩ => ⟨P, R, S, st, h, Fin.imp (Fin.bindS (σ := σ) fi) fun a st1 S1 H1 e1 h1 k v rv => by
    split at k
    · rename_i hlt
      cases ep : putV i st1 a with
      | none => rw [ep] at k; exact k.elim
      | some st2 =>
        rw [ep] at k
        obtain ⟨S2, q, h2⟩ := putV_ok h1 rv ep hlt
        exact k _ S2 H1 q h2
    · exact k.elim⟩
/-! ### small statements, blocks -/
def sExpr (g : GE) : GS := fun st => (g st).bindS fun _ st1 => .nx st1
/-- what is handed back: a name's own thing goes out -/
def outV (st : DS) : Val → Option (Val × DS)
  | .d x => some (.d x, st)
  | .fr x => some (.fr x, st)
  | .nk x k => some (.nk x k, st)
  | .sl i => match st[i]? with
    | some (.sh x) => some (.d x, st)
    | some (.ow x) => some (.fr x, st.set i .no)
    | _ => none
def sRet (g : GE) : GS := fun st => (g st).bindS fun a st1 => match outV st1 a with
  | some (b, st2) => .rt b st2
  | none => .no
def sRetN : GS := fun st => .rt (.d .non) st
def sNext : GS := fun st => .nx st
def sSeq (s t : GS) : GS := fun st => (s st).bind t
def sIf (c : GT) (s t : GS) : GS := fun st => (c st).bindS fun b st1 => if b = true then s st1 else t st1
theorem owns_set_no {st : DS} {i j : Nat} {d : D} : Owns (st.set i .no) j d → Owns st j d ∧ j ≠ i := fun h => by
  by_cases hj : i = j
  · subst hj
    by_cases hi : i < st.length
    · rcases h with h | h <;> (rw [List.getElem?_set_self hi] at h; cases h)
    · have e : (st.set i .no)[i]? = none := List.getElem?_eq_none (by rw [List.length_set]; omega)
      rcases h with h | h <;> (rw [e] at h; cases h)
  · unfold Owns at h
    rw [List.getElem?_set_ne hj] at h
    exact ⟨h, fun z => hj z.symm⟩
theorem StR.setNo {G : Gx} {P : Pin} {R S H : Hp} {σ : L2.St} {st : DS} (h : StR G P R S H σ st) (i : Nat) : StR G P R S H σ (st.set i .no) := by
  have gt : ∀ {j : Nat} {s : Slot}, (st.set i .no)[j]? = some s → s ≠ .no → st[j]? = some s := fun {j s} q n => by
    by_cases hj : i = j
    · subst hj
      by_cases hi : i < st.length
      · rw [List.getElem?_set_self hi] at q; cases q; exact absurd rfl n
      · rw [List.getElem?_eq_none (by rw [List.length_set]; omega)] at q; cases q
    · rwa [List.getElem?_set_ne hj] at q
  exact ⟨by rw [List.length_set]; exact h.len, h.tab, h.sub, fun j d q => h.val j d (gt q (fun z => by cases z)), fun j d q => h.own j d (owns_set_no q).1,
    fun j k d e a q1 q2 => h.inj j k d e a (owns_set_no q1).1 (owns_set_no q2).1, fun j d q => h.pin j d (gt q (fun z => by cases z)), h.frm⟩
theorem outV_ok {G : Gx} {P : Pin} {R S H : Hp} {σ : L2.St} {st : DS} {v : V} {a b : Val} {st' : DS} (h : StR G P R S H σ st) (r : RepV G R S H σ st v a) (e : outV st a = some (b, st')) : StR G P R S H σ st' ∧ RepV G R S H σ st' v b := by
  cases a with
  | d x => cases e; exact ⟨h, r⟩
  | fr x => cases e; exact ⟨h, r⟩
  | nk x k => cases e; exact ⟨h, r⟩
  | sl i =>
    have q1 : σ[i]? = some (some v) := r
    cases q2 : st[i]? with
    | none => simp [outV, q2] at e
    | some s =>
      simp only [outV, q2] at e
      cases s with
      | no => cases e
      | io y => cases e
      | sh y =>
        cases e
        obtain ⟨v', z1, z2⟩ := h.val i _ q2
        rw [q1] at z1; cases z1
        exact ⟨h, z2⟩
      | ow y =>
        cases e
        obtain ⟨a, o, z1, z2, z3, z4, z5⟩ := h.own i _ (.inl q2)
        rw [q1] at z1; cases z1
        refine ⟨h.setNo i, a, o, rfl, z2, z3, z4, z5, fun j d q z => ?_⟩
        obtain ⟨q', n⟩ := owns_set_no q
        exact n (h.inj j i _ _ _ q' (.inl q2) z q1)
theorem ds_expr {e : Expr} {g : GE} {pos : Pos} (he : DE X W e g) (hs : swapsWith e none pos.line X.env = pure false) : DSt X W (.Expr e pos) (sExpr g) :=
  ps_imp (ps_expr he hs) fun E σ H ⟨P, R, S, st, h, fi⟩ => ⟨P, R, S, st, h, Fin.imp (Fin.bindS (σ := σ) fi) fun a st1 S1 H1 e1 h1 k v rv => k σ S1 H1 (Same.refl _) h1⟩
theorem ds_ret {e : Expr} {g : GE} {pos : Pos} (he : DE X W e g) : DSt X W (.Return (some e) pos) (sRet g) :=
  ps_imp (ps_ret he) fun E σ H ⟨P, R, S, st, h, fi⟩ => ⟨P, R, S, st, h, Fin.imp (Fin.bindS (σ := σ) fi) fun a st1 S1 H1 e1 h1 k v rv => by
    cases eo : outV st1 a with
    | none => rw [eo] at k; exact k.elim
    | some p =>
      obtain ⟨b, st2⟩ := p
      rw [eo] at k
      obtain ⟨h2, r2⟩ := outV_ok h1 rv eo
      exact k v σ S1 H1 (Same.refl _) h2 r2⟩
def sBreak : GS := fun st => .bk st
def sCont : GS := fun st => .ct st
theorem dss_nil : DSs X W [] sNext :=
  pss_imp pss_nil fun E σ H ⟨P, R, S, st, h, fi⟩ => fi σ S H (Same.refl _) h
theorem finS_bind {G : Gx} {P : Pin} {R S : Hp} {W : WX} {r : RS} {t : GS} {E : Ends} (h : FinS G P R W S (r.bind t) E) : FinS G P R W S r { E with nx := fun σ H => tDS G W t E σ H } := by
  cases r with
  | nx st => exact fun σ' S' H' e h1 => ⟨P, R, S', st, h1, FinS.up h e⟩
  | rt a st => exact h
  | bk st => exact h
  | ct st => exact h
  | ex x st => exact h
  | no => exact h
theorem dss_cons {st : Stmt} {rest : List Stmt} {s t : GS} (h1 : DSt X W st s) (h2 : DSs X W rest t) : DSs X W (st :: rest) (sSeq s t) :=
  pss_imp (pss_cons h1 h2) fun E σ H ⟨P, R, S, st, h, fi⟩ => ⟨P, R, S, st, h, finS_bind fi⟩
theorem dss_one {st : Stmt} {s : GS} (h1 : DSt X W st s) : DSs X W [st] s := pss_one h1
theorem ds_if {c : Expr} {a b : List Stmt} {gc : GT} {s t : GS} {pos : Pos} (hc : DT X W c gc) (ha : DSs X W a s) (hb : DSs X W b t) : DSt X W (.If c a b pos) (sIf gc s t) :=
  ps_imp (ps_if hc ha hb) fun E σ H ⟨P, R, S, st, h, fi⟩ => ⟨P, R, S, st, h, Fin.imp (Fin.bindS (σ := σ) fi) fun b st1 S1 H1 e1 h1 k => by
    cases b with
    | true => rw [if_pos rfl] at k ⊢; exact ⟨P, R, S1, st1, h1, k⟩
    | false => rw [if_neg Bool.false_ne_true] at k ⊢; exact ⟨P, R, S1, st1, h1, k⟩⟩
/-! ### while -/
def runWhile (c : GT) (b : GS) : Nat → DS → RS
  | 0, _ => .no
  | n + 1, st => match c st with
    | .no => .no
    | .ex e st1 => .ex e st1
    | .ok false st1 => .nx st1
    | .ok true st1 => match b st1 with
      | .nx st2 => runWhile c b n st2
      | .ct st2 => runWhile c b n st2
      | .bk st2 => .nx st2
      | r => r
def sWhile (n : Nat) (c : GT) (b : GS) : GS := runWhile c b n
theorem ds_while {c : Expr} {body : List Stmt} {gc : GT} {s : GS} {pos : Pos} (n : Nat) (hp : PassesOwn (model X.prog X.w) X.A X.env X.xe) (hc : DT X W c gc) (hb : DSs X W body s) : DSt X W (.While c body [] pos) (sWhile n gc s) :=
  ps_imp (ps_while hp hc hb) fun E σ H ⟨P, R, S, st, h, fi⟩ => by
    refine ⟨fun m σ H => ∃ S1 st1, Same S S1 ∧ StR (gx X) P R S1 H σ st1 ∧ FinS (gx X) P R W S1 (runWhile gc s m st1) E, ⟨n, S, st, Same.refl S, h, fi⟩, ?_⟩
    rintro m σ1 H1 ⟨S1, st1, e1, h1, f1⟩
    cases m with
    | zero => exact f1.elim
    | succ m =>
      unfold runWhile at f1
      refine ⟨P, R, S1, st1, h1, ?_⟩
      cases ec : gc st1 with
      | no => rw [ec] at f1; exact f1.elim
      | ex x st2 => rw [ec] at f1; exact fun cls d S' H' e2 h2 q => f1 cls d σ1 S' H' e2 h2 q
      | ok b st2 =>
        rw [ec] at f1
        intro S2 H2 e2 h2
        cases b with
        | false => rw [if_neg Bool.false_ne_true]; exact f1 σ1 S2 H2 e2 h2
        | true =>
          rw [if_pos rfl]
          dsimp only at f1
          refine ⟨fun σ' H' => ∃ S1 st1, Same S S1 ∧ StR (gx X) P R S1 H' σ' st1 ∧ FinS (gx X) P R W S1 (runWhile gc s m st1) E, fun σ' H' q => ⟨m, Nat.lt_succ_self m, q⟩, P, R, S2, st2, h2, ?_⟩
          have f2 := f1
          cases eb : s st2 with
          | nx st3 => rw [eb] at f2; exact fun σ' S' H' e3 h3 => ⟨S', st3, (e1.trans e2).trans e3, h3, FinS.up f2 (e2.trans e3)⟩
          | ct st3 => rw [eb] at f2; exact fun σ' S' H' e3 h3 => ⟨S', st3, (e1.trans e2).trans e3, h3, FinS.up f2 (e2.trans e3)⟩
          | bk st3 => rw [eb] at f2; exact FinS.up f2 e2
          | rt a st3 => rw [eb] at f2; exact FinS.up f2 e2
          | ex x st3 => rw [eb] at f2; exact FinS.up f2 e2
          | no => rw [eb] at f2; exact f2.elim
end
end DL
end
section
/-! DLd: what is walked, targets, for. -/
namespace DL
open PySem PySem.Spec PyProof.Rows L2
abbrev GI := DS → Rs (List D)
/-- the walk J yields ds, wherever S0 still stands and R0 is held -/
def ItOk (G : Gx) (R0 S0 : Hp) (J : It) (ds : List D) : Prop := ∀ (P : Pin) (R S H : Hp) (σ : L2.St) (st : DS) (i : Nat), Same R0 R → Same S0 S → StR G P R S H σ st →
  (i = ds.length → J.stop i H) ∧ ∀ d, ds[i]? = some d → J.go i H ∧ ∀ x H', J.yld i H x H' → ∃ S', Same S S' ∧ StR G P R S' H' σ st ∧ Rep G S' x d
def tDI (G : Gx) (W : WX) (gi : GI) : TI := fun σ H Rr => ∃ P R S st, StR G P R S H σ st ∧ Fin G P R W σ S (gi st) fun ds st' S' H' => ∀ J L R' H2, LkR R R' L → StR G P R' S' H2 σ st' → ItOk G L S' J ds → Rr J H2
abbrev DI (X : Cx) (W : WX) (tg iter : Expr) (gi : GI) : Prop := PI X tg iter (tDI (gx X) W gi)
theorem pi_imp {X : Cx} {tg e : Expr} {t t' : TI} (h : PI X tg e t) (q : ∀ σ H Q, t' σ H Q → t σ H Q) : PI X tg e t' := ⟨fun pins s σ H Q I z => h.run pins s σ H Q I (q σ H Q z)⟩
theorem pi_or {X : Cx} {tg e : Expr} {t t' : TI} (h : PI X tg e t) (h' : PI X tg e t') : PI X tg e (fun σ H R => t σ H R ∨ t' σ H R) := ⟨fun pins s σ H Q I z => by
  rcases z with z | z
  · exact h.run pins s σ H Q I z
  · exact h'.run pins s σ H Q I z⟩
def chars (x : Str) : List D := x.cps.toList.map fun c => .str ⟨#[c]⟩
def isKD : D → Bool
  | .int _ => true
  | .str _ => true
  | _ => false
def items : D → Option (List D)
  | .lst xs => some xs
  | .tup xs => some xs
  | .str x => some (chars x)
  | .scr ns => some (ns.map .int)
  | _ => none
def itemsG : D → Option (List D)
  | .dct ds => if (ds.all fun p => isKD p.1) = true then some (ds.map (·.1)) else none
  | x => items x
def gIter (g : GE) : GI := fun st => (g st).bind fun a st1 => match take1 st1 a with
  | some (x, st2) => (match itemsG x with
    | some xs => .ok xs st2
    | none => .no)
  | none => .no
theorem repAll_ints {G : Gx} {S : Hp} : ∀ ns : List Int, RepAll G S (ns.map V.int) (ns.map D.int)
  | [] => .nil
  | n :: ns => .cons (.int n) (repAll_ints ns)
theorem itOk_list {G : Gx} {R0 S0 : Hp} {a : Addr} {vs : List V} {ds : List D} (h : SqL G.K S0 a vs) (r : RepAll G S0 vs ds) : ItOk G R0 S0 (Itl G.K a) ds := fun P R S H σ st i _ e hs => by
  have q : SqL G.K H a vs := hs.sub.seq (e.seq h)
  refine ⟨fun hi => ⟨vs, q, by rw [r.length]; omega⟩, fun d hd => ?_⟩
  obtain ⟨v, hv, rv⟩ := r.get hd
  refine ⟨⟨vs, v, q, hv⟩, fun x H' y => ?_⟩
  obtain ⟨rfl, y⟩ := y
  have z := y vs q
  rw [hv] at z; cases z
  exact ⟨S, Same.refl S, hs, rv.mono e⟩
theorem itOk_tup {G : Gx} {R0 S0 : Hp} {a : Addr} {vs : List V} {ds : List D} (h : SqT G.K S0 a vs) (r : RepAll G S0 vs ds) : ItOk G R0 S0 (Itt G.K a) ds := fun P R S H σ st i _ e hs => by
  have q : SqT G.K H a vs := hs.sub.seqT (seqT_mono e h)
  refine ⟨fun hi => ⟨vs, q, by rw [r.length]; omega⟩, fun d hd => ?_⟩
  obtain ⟨v, hv, rv⟩ := r.get hd
  refine ⟨⟨vs, v, q, hv⟩, fun x H' y => ?_⟩
  obtain ⟨rfl, y⟩ := y
  have z := y vs q
  rw [hv] at z; cases z
  exact ⟨S, Same.refl S, hs, rv.mono e⟩
theorem chars_len (x : Str) : (chars x).length = x.cps.size := by unfold chars; rw [List.length_map, Array.length_toList]
theorem chars_get {x : Str} {i : Nat} {d : D} (h : (chars x)[i]? = some d) : ∃ c, x.cps[i]? = some c ∧ d = .str ⟨#[c]⟩ := by
  unfold chars at h
  rw [List.getElem?_map, Array.getElem?_toList] at h
  cases e : x.cps[i]? with
  | none => rw [e] at h; cases h
  | some c => rw [e] at h; cases h; exact ⟨c, rfl, rfl⟩
theorem itOk_str {G : Gx} {R0 S0 : Hp} (x : Str) : ItOk G R0 S0 (Its x) (chars x) := fun P R S H σ st i _ e hs => by
  refine ⟨fun hi => by rw [chars_len] at hi; exact Nat.le_of_eq hi.symm, fun d hd => ?_⟩
  obtain ⟨c, hc, rfl⟩ := chars_get hd
  refine ⟨(Array.getElem?_eq_some_iff.mp hc).1, fun v H' y => ?_⟩
  obtain ⟨rfl, c', hc', rfl⟩ := y
  rw [hc] at hc'; cases hc'
  exact ⟨S, Same.refl S, hs, .str _⟩
/-- the keys of a dict that is locked by the walk -/
theorem repKV_keys {G : Gx} {S : Hp} : ∀ {kvs : List (Key × V)} {ds : List (D × D)}, RepKV G S kvs ds → kvs.length = ds.length ∧ ∀ (i : Nat) (d : D), (ds.map (·.1))[i]? = some d → ∃ (k : Key) (v : V), kvs[i]? = some (k, v) ∧ d = keyD k
  | _, _, .nil => ⟨rfl, fun i d h => by simp at h⟩
  | _, _, .cons (k := k) (v := v) _ t => by
    obtain ⟨h1, h2⟩ := repKV_keys t
    refine ⟨by rw [List.length_cons, List.length_cons, h1], fun i d h => ?_⟩
    cases i with
    | zero => rw [List.map_cons, List.getElem?_cons_zero] at h; cases h; exact ⟨k, v, rfl, rfl⟩
    | succ i =>
      rw [List.map_cons, List.getElem?_cons_succ] at h
      obtain ⟨k', v', e1, e2⟩ := h2 i d h
      exact ⟨k', v', by rw [List.getElem?_cons_succ]; exact e1, e2⟩
theorem rep_key {G : Gx} {S : Hp} : ∀ k : Key, Rep G S (kV k) (keyD k)
  | .inl i => .int i
  | .inr x => .str x
theorem itOk_keys {G : Gx} {R0 S0 : Hp} {d : Addr} {ob : Obj} {kvs : List (Key × V)} {ds : List (D × D)} (h : R0 d = some (.frz ob (.dK kvs))) (r : RepKV G S0 kvs ds) : ItOk G R0 S0 (Itk d ob kvs) (ds.map (·.1)) := fun P R S H σ st i eR e hs => by
  have q := (hs.frm d _ (eR _ _ h)).1
  obtain ⟨l, g⟩ := repKV_keys r
  refine ⟨fun hi => ⟨q, by rw [hi, List.length_map, l]; exact Nat.le_refl _⟩, fun x hx => ?_⟩
  obtain ⟨k, v, e1, rfl⟩ := g i x hx
  refine ⟨⟨q, (List.getElem?_eq_some_iff.mp e1).1⟩, fun y H' z => ?_⟩
  obtain ⟨rfl, k', v', e2, rfl⟩ := z
  rw [e1] at e2
  cases e2
  exact ⟨S, Same.refl S, hs, rep_key k⟩
def iKeysL (td : TE) : TI := fun σ H R => td σ H fun x H1 => ∃ d kvs, x = .ref d ∧ ((∃ o, H1 d = some (.frz o (.dK kvs)) ∧ R (Itk d o kvs) H1) ∨ (H1 d = some (.dK kvs) ∧ ∀ o, R (Itk d o kvs) (upd H1 d (.frz o (.dK kvs)))))
theorem pi_keysL {X : Cx} {tg e : Expr} {td : TE} (he : PE X e td) : PI X tg e (iKeysL td) := by
  refine ⟨fun pins s σ H R I h => ?_⟩
  refine thn (he.run pins s σ H _ I h) fun u s1 ⟨x, H1, I1, rx, d, kvs, ex, q⟩ => ?_
  subst ex
  obtain rfl : u = Value.ref d := rx
  rcases q with ⟨o, hd, q⟩ | ⟨hd, q⟩
  · obtain ⟨hs, hgd, hx, es, ep, vs, hdt, hsz, kv, hm⟩ := I1.frzK hd
    refine iter_keys hs hgd hx hdt (pi_one (tk := s1.toks) I1 _ (turn_keys _ hdt) ⟨_, Heap.get?_push_size _ rfl, rfl, ?_⟩ q)
    rw [hsz] <;> rfl
  · obtain ⟨o, I2⟩ := I1.lock hd trivial
    obtain ⟨hs, hgd, hx, es, ep, vs, hdt, hsz, kv, hm⟩ := I2.frzK upd_same
    refine iter_keys hs hgd hx hdt (pi_one (tk := s1.toks) I2 _ (turn_keys _ hdt) ⟨_, Heap.get?_push_size _ rfl, rfl, ?_⟩ (q o))
    rw [hsz] <;> rfl
section
variable {X : Cx} {W : WX} {tg : Expr}
theorem di_val {e : Expr} {g : GE} (h : DE X W e g) : DI X W tg e (gIter g) :=
  pi_imp (pi_or (pi_list h) (pi_or (pi_tup h) (pi_or (pi_str h) (pi_keysL h)))) fun σ H Rr ⟨P, R, S, st, h0, fi⟩ => by
    unfold gIter at fi
    cases eg : g st with
    | no => rw [eg] at fi; exact fi.elim
    | ex x st1 => rw [eg] at fi; exact .inl ⟨P, R, S, st, h0, by rw [eg]; exact fi⟩
    | ok a st1 =>
      rw [eg] at fi
      have fi' := Fin.bind (r := .ok a st1) fi
      cases et : take1 st1 a with
      | none => simp only [Rs.bind, et] at fi; exact fi.elim
      | some p =>
        obtain ⟨x, st2⟩ := p
        simp only [Rs.bind, et] at fi
        cases ei : itemsG x with
        | none => rw [ei] at fi; exact fi.elim
        | some xs =>
          rw [ei] at fi
          have core : ∀ (S1 H1 : Hp) (v : V), Same S S1 → StR (gx X) P R S1 H1 σ st1 → RepV (gx X) R S1 H1 σ st1 v a → ∃ S2, Same S S2 ∧ StR (gx X) P R S2 H1 σ st2 ∧ Rep (gx X) S2 v x := fun S1 H1 v e1 h1 rv => by
            obtain ⟨S2, e2, h2, pv⟩ := h1.settle rv
            obtain ⟨S3, e3, h3, r3⟩ := take1_ok h2 pv et
            exact ⟨S3, (e1.trans e2).trans e3, h3, r3⟩
          cases x with
          | lst ys =>
            cases ei
            refine .inl ⟨P, R, S, st, h0, ?_⟩
            rw [eg]
            intro S1 H1 e1 h1 v rv
            obtain ⟨S2, e2, h2, r2⟩ := core S1 H1 v e1 h1 rv
            cases r2 with
            | lst hs ra => exact ⟨_, rfl, ⟨_, h2.sub.seq (SqL.of hs)⟩, fi S2 H1 e2 h2 _ _ _ _ (LkR.no _) h2 (itOk_list (SqL.of hs) ra)⟩
          | scr ys =>
            cases ei
            refine .inl ⟨P, R, S, st, h0, ?_⟩
            rw [eg]
            intro S1 H1 e1 h1 v rv
            obtain ⟨S2, e2, h2, r2⟩ := core S1 H1 v e1 h1 rv
            cases r2 with
            | scr hs => exact ⟨_, rfl, ⟨_, h2.sub.seq hs⟩, fi S2 H1 e2 h2 _ _ _ _ (LkR.no _) h2 (itOk_list hs (repAll_ints _))⟩
          | tup ys =>
            cases ei
            refine .inr (.inl ⟨P, R, S, st, h0, ?_⟩)
            rw [eg]
            intro S1 H1 e1 h1 v rv
            obtain ⟨S2, e2, h2, r2⟩ := core S1 H1 v e1 h1 rv
            obtain ⟨b, ys, rfl, hs, ra⟩ := r2.tupAt
            exact ⟨_, rfl, ⟨_, h2.sub.seqT hs.sq⟩, fi S2 H1 e2 h2 _ _ _ _ (LkR.no _) h2 (itOk_tup hs.sq ra)⟩
          | str y =>
            cases ei
            refine .inr (.inr (.inl ⟨P, R, S, st, h0, ?_⟩))
            rw [eg]
            intro S1 H1 e1 h1 v rv
            obtain ⟨S2, e2, h2, r2⟩ := core S1 H1 v e1 h1 rv
            cases r2
            exact ⟨_, rfl, fi S2 H1 e2 h2 _ _ _ _ (LkR.no _) h2 (itOk_str _)⟩
          | dct ys =>
            simp only [itemsG] at ei
            split at ei
            · rename_i hk
              cases ei
              refine .inr (.inr (.inr ⟨P, R, S, st, h0, ?_⟩))
              rw [eg]
              intro S1 H1 e1 h1 v rv
              obtain ⟨S2, e2, h2, r2⟩ := core S1 H1 v e1 h1 rv
              cases r2 with
              | dK hs ra =>
                rename_i d kvs
                rcases h2.sub.two hs rfl with q | ⟨_, ob, q⟩
                · refine ⟨d, kvs, rfl, .inr ⟨q, fun ob => ?_⟩⟩
                  obtain ⟨z1, z2⟩ := h2.lockD (ob := ob) hs rfl q
                  exact fi S2 H1 e2 h2 _ _ _ _ (LkR.one z1 upd_same) z2 (itOk_keys upd_same ra)
                · obtain ⟨R', z1, z2, z3⟩ := h2.holdD hs rfl q
                  exact ⟨d, kvs, rfl, .inl ⟨ob, q, fi S2 H1 e2 h2 _ _ _ _ (LkR.one z1 z2) z3 (itOk_keys upd_same ra)⟩⟩
              | dT hs n ra =>
                cases ra with
                | nil => exact (n rfl).elim
                | cons h t => cases hk
            · cases ei
          | _ => cases ei
/-! ### ranges -/
def rng (lo : Int) (n : Nat) : List D := (List.range n).map fun k => .int (lo + (k : Nat))
def small62 (i : Int) : Bool := decide (-(2 ^ 62) ≤ i) && decide (i < 2 ^ 62)
theorem small62_of {i : Int} (h : small62 i = true) : -(2 ^ 62) ≤ i ∧ i < 2 ^ 62 := by
  unfold small62 at h
  rw [Bool.and_eq_true, decide_eq_true_eq, decide_eq_true_eq] at h
  exact h
def rng1 : List D → Option (List D)
  | [.int j] => if small62 j = true then some (rng 0 j.toNat) else none
  | _ => none
def gRng (f : List D → Option (List D)) (ga : GA) : GI := fun st => (ga st).bind fun as st1 => match (looks st1 as).bind f with
  | some xs => .ok xs st1
  | none => .no
theorem itOk_rng {G : Gx} {R0 S0 : Hp} (lo : Int) (n : Nat) : ItOk G R0 S0 (Itr lo n) (rng lo n) := fun P R S H σ st i _ e hs => by
  refine ⟨fun hi => by rw [rng, List.length_map, List.length_range] at hi; exact Nat.le_of_eq hi.symm, fun d hd => ?_⟩
  unfold rng at hd
  rw [List.getElem?_map] at hd
  by_cases hi : i < n
  · rw [List.getElem?_range hi] at hd
    cases hd
    refine ⟨hi, fun v H' y => ?_⟩
    obtain ⟨rfl, rfl⟩ := y
    exact ⟨S, Same.refl S, hs, .int _⟩
  · rw [List.getElem?_eq_none (by rw [List.length_range]; omega)] at hd
    cases hd
theorem repTs_one {G : Gx} {S H : Hp} {vs : List V} {x : D} (h : RepTs G S H vs [x]) : ∃ v, vs = [v] ∧ RepT G S H v x := by
  cases h with
  | cons h t => cases t; exact ⟨_, rfl, h⟩
theorem repTs_two {G : Gx} {S H : Hp} {vs : List V} {x y : D} (h : RepTs G S H vs [x, y]) : ∃ v u, vs = [v, u] ∧ RepT G S H v x ∧ RepT G S H u y := by
  cases h with
  | cons h t =>
    obtain ⟨u, rfl, hu⟩ := repTs_one t
    exact ⟨_, _, rfl, h, hu⟩
theorem looks_bind {st1 : DS} {as : List Val} {f : List D → Option (List D)} {xs : List D} (h : (looks st1 as).bind f = some xs) : ∃ ys, looks st1 as = some ys ∧ f ys = some xs := by
  cases e : looks st1 as with
  | none => rw [e] at h; cases h
  | some ys => rw [e] at h; exact ⟨ys, rfl, h⟩
theorem di_rng1 {a : Expr} {ga : GA} {p pos : Pos} (hg : Gl X "range") (hm : X.mg "range" = none) (ha : DA X W [a] ga) (hs : starEach [a] X.env = [(false, eval a X.env)]) : DI X W tg (.Call (.Name "range" p) [a] [] pos) (gRng rng1 ga) :=
  pi_imp (pi_range1 hg hm ha hs) fun σ H Rr ⟨P, R, S, st, h0, fi⟩ => ⟨P, R, S, st, h0, Fin.imp (Fin.bind fi) fun as st1 S1 H1 e1 h1 k vs ps => by
    cases ea : (looks st1 as).bind rng1 with
    | none => rw [ea] at k; exact k.elim
    | some xs =>
      rw [ea] at k
      obtain ⟨ys, q1, q2⟩ := looks_bind ea
      have rt := looks_ok h1 ps q1
      unfold rng1 at q2
      split at q2
      · rename_i j
        split at q2
        · rename_i hj
          cases q2
          obtain ⟨v, rfl, rv⟩ := repTs_one rt
          rw [rv.int]
          exact ⟨j, rfl, (small62_of hj).1, (small62_of hj).2, k S1 H1 (Same.refl _) h1 _ _ _ _ (LkR.no _) h1 (itOk_rng 0 _)⟩
        · cases q2
      · cases q2⟩
end
/-! ### targets -/
abbrev AG := D → DS → Option DS
abbrev AGs := List D → DS → Option DS
/-- alike but at ts -/
def Upto (ts : List Nat) (σ σ' : L2.St) : Prop := σ'.length = σ.length ∧ ∀ j, j ∉ ts → σ'[j]? = σ[j]?
theorem Upto.trans {ts us : List Nat} {σ σ1 σ2 : L2.St} (a : Upto ts σ σ1) (b : Upto us σ1 σ2) : Upto (ts ++ us) σ σ2 :=
  ⟨b.1.trans a.1, fun j hj => (b.2 j fun z => hj (List.mem_append_right _ z)).trans (a.2 j fun z => hj (List.mem_append_left _ z))⟩
def tDG (G : Gx) (ts : List Nat) (ag : AG) : TG := fun v σ H Q => ∃ P R S st d st', StR G P R S H σ st ∧ Rep G S v d ∧ ag d st = some st' ∧ ∀ σ' S', Upto ts σ σ' → Same S S' → StR G P R S' H σ' st' → Q σ' H
def tDGs (G : Gx) (ts : List Nat) (ag : AGs) : TGs := fun vs σ H Q => ∃ P R S st ds st', StR G P R S H σ st ∧ RepAll G S vs ds ∧ ag ds st = some st' ∧ ∀ σ' S', Upto ts σ σ' → Same S S' → StR G P R S' H σ' st' → Q σ' H
abbrev DG (X : Cx) (tg : Expr) (ts : List Nat) (ag : AG) : Prop := PG X tg (tDG (gx X) ts ag)
abbrev DGs (X : Cx) (tg : List Expr) (ts : List Nat) (ag : AGs) : Prop := PGs X tg (tDGs (gx X) ts ag)
theorem pg_imp {X : Cx} {e : Expr} {t t' : TG} (h : PG X e t) (q : ∀ v σ H Q, t' v σ H Q → t v σ H Q) : PG X e t' := ⟨fun pins s σ H v u Q I r z => h.run pins s σ H v u Q I r (q v σ H Q z)⟩
theorem pgs_imp {X : Cx} {e : List Expr} {t t' : TGs} (h : PGs X e t) (q : ∀ v σ H Q, t' v σ H Q → t v σ H Q) : PGs X e t' := ⟨fun pins s σ H v u Q I r z => h.run pins s σ H v u Q I r (q v σ H Q z)⟩
def aName (i : Nat) : AG := fun d st => if i < st.length then some (st.set i (.sh d)) else none
def aNil : AGs := fun ds st => match ds with
  | [] => some st
  | _ => none
def aCons (a : AG) (as : AGs) : AGs := fun ds st => match ds with
  | d :: ds => (a d st).bind fun st1 => as ds st1
  | [] => none
def aTup (n : Nat) (as : AGs) : AG := fun d st => match d with
  | .tup ds => if ds.length = n then as ds st else none
  | _ => none
section
variable {X : Cx} {W : WX}
theorem dg_name {i : Nat} {x : Str} {pos : Pos} (hN : X.N.Nodup) (hi : X.N[i]? = some x) (hx : Loc X.env.scope x) (hf : X.fn x = true ∨ X.env.scope.names.lookup x = some .local) : DG X (.Name x pos) [i] (aName i) :=
  pg_imp (pg_name hN hi hx hf) fun v σ H Q ⟨P, R, S, st, d, st', h, r, e, q⟩ => by
    unfold aName at e
    split at e
    · rename_i hc
      cases e
      refine q _ S ⟨List.length_set, fun j hj => List.getElem?_set_ne fun z => hj (by rw [z]; exact List.mem_singleton.mpr rfl)⟩ (Same.refl S) (h.setSh r hc)
    · cases e
theorem dgs_nil : DGs X [] [] aNil :=
  pgs_imp pgs_nil fun v σ H Q ⟨P, R, S, st, ds, st', h, r, e, q⟩ => by
    cases r with
    | nil => cases e; exact ⟨rfl, q σ S ⟨rfl, fun _ _ => rfl⟩ (Same.refl S) h⟩
    | cons => cases e
theorem dgs_cons {e : Expr} {es : List Expr} {ts us : List Nat} {a : AG} {as : AGs} (h : DG X e ts a) (hr : DGs X es us as) (h1 : ((assignEach (e :: es) X.env).map (·.2)) = assign e X.env :: (assignEach es X.env).map (·.2)) : DGs X (e :: es) (ts ++ us) (aCons a as) :=
  pgs_imp (pgs_cons h hr h1) fun v σ H Q ⟨P, R, S, st, ds, st', h, r, e, q⟩ => by
    cases r with
    | nil => cases e
    | @cons v vs d ds r rs =>
      unfold aCons at e
      dsimp only at e
      cases e1 : a d st with
      | none => rw [e1] at e; cases e
      | some st1 =>
        rw [e1] at e
        refine ⟨_, _, rfl, P, R, S, st, d, st1, h, r, e1, fun σ' S' u1 q1 h1 => ?_⟩
        exact ⟨P, R, S', st1, ds, st', h1, rs.mono q1, e, fun σ2 S2 u2 q2 h2 => q σ2 S2 (u1.trans u2) (q1.trans q2) h2⟩
theorem dg_tup {es : List Expr} {k n : Nat} {ts : List Nat} {as : AGs} {pos : Pos} (hc : X.calm = true) (h : DGs X es ts as) (hn : (assignEach es X.env).length = n) (hst : (assignEach es X.env).findIdx? (·.1) = none) : DG X (.Tuple es k pos) ts (aTup n as) :=
  pg_imp (pg_tup hc h hn hst) fun v σ H Q ⟨P, R, S, st, d, st', h, r, e, q⟩ => by
    unfold aTup at e
    split at e
    · rename_i ds
      split at e
      · rename_i hl
        obtain ⟨a, xs, rfl, sq, ra⟩ := RepT.tup h.sub (.inl r)
        exact ⟨a, xs, rfl, sq.sq, by rw [ra.length]; exact hl, P, R, S, st, ds, st', h, ra, e, q⟩
      · cases e
    · cases e
/-! ### for -/
def runFor (ag : AG) (b : GS) : List D → DS → RS
  | [], st => .nx st
  | d :: ds, st => match ag d st with
    | none => .no
    | some st1 => match b st1 with
      | .nx st2 => runFor ag b ds st2
      | .ct st2 => runFor ag b ds st2
      | .bk st2 => .nx st2
      | r => r
def sFor (gi : GI) (ag : AG) (b : GS) : GS := fun st => (gi st).bindS fun ds st1 => runFor ag b ds st1
theorem ds_for {tg iter : Expr} {body : List Stmt} {gi : GI} {ts : List Nat} {ag : AG} {s : GS} {pos : Pos} (hp : PassesOwn (model X.prog X.w) X.A X.env X.xe) (hc : X.calm = true) (hi : DI X W tg iter gi) (hg : DG X tg ts ag) (hb : DSs X W body s)
    (hs : ∀ x, foldedSetIterable iter X.env x = pure x) : DSt X W (.For tg iter body [] pos) (sFor gi ag s) :=
  ps_imp (ps_for hp hc hi hg hb hs) fun E σ H ⟨P, R, S, st, h, fi⟩ => ⟨P, R, S, st, h, Fin.imp (Fin.bindS (σ := σ) fi) fun ds st1 S1 H0 e1 h0 k0 J L R H1 sR h1 hJ => by
    have k := FinS.lift sR.sub k0
    refine ⟨fun i m σ H => m = ds.length - i ∧ i ≤ ds.length ∧ ∃ S2 st2, Same S1 S2 ∧ StR (gx X) P R S2 H σ st2 ∧ FinS (gx X) P R W S2 (runFor ag s (ds.drop i) st2) E,
      ⟨ds.length, by simp, Nat.zero_le _, S1, st1, Same.refl _, h1, k⟩, ?_⟩
    rintro i m σ2 H2 ⟨rfl, hi, S2, st2, e2, h2, f2⟩
    obtain ⟨j1, j2⟩ := hJ P R S2 H2 σ2 st2 i sR.lk e2 h2
    by_cases hlt : i < ds.length
    · obtain ⟨jg, jy⟩ := j2 ds[i] (List.getElem?_eq_getElem hlt)
      rw [List.drop_eq_getElem_cons hlt] at f2
      unfold runFor at f2
      refine .inr ⟨jg, fun σ H => i + 1 ≤ ds.length ∧ ∃ S2 st2, Same S1 S2 ∧ StR (gx X) P R S2 H σ st2 ∧ FinS (gx X) P R W S2 (runFor ag s (ds.drop (i + 1)) st2) E, fun σ' H' q => ⟨ds.length - (i + 1), by omega, rfl, q⟩, fun x H3 y => ?_⟩
      obtain ⟨S3, e3, h3, r3⟩ := jy x H3 y
      cases ea : ag ds[i] st2 with
      | none => rw [ea] at f2; exact f2.elim
      | some st3 =>
        rw [ea] at f2
        refine ⟨P, R, S3, st2, ds[i], st3, h3, r3, ea, fun σ4 S4 u4 e4 h4 => ⟨P, R, S4, st3, h4, ?_⟩⟩
        have e24 := e3.trans e4
        dsimp only at f2
        cases eb : s st3 with
        | nx st5 => rw [eb] at f2; exact fun σ' S' H' e5 h5 => ⟨hlt, S', st5, (e2.trans e24).trans e5, h5, FinS.up f2 (e24.trans e5)⟩
        | ct st5 => rw [eb] at f2; exact fun σ' S' H' e5 h5 => ⟨hlt, S', st5, (e2.trans e24).trans e5, h5, FinS.up f2 (e24.trans e5)⟩
        | bk st5 => rw [eb] at f2; exact FinS.up f2 e24
        | rt a st5 => rw [eb] at f2; exact FinS.up f2 e24
        | ex x st5 => rw [eb] at f2; exact FinS.up f2 e24
        | no => rw [eb] at f2; exact f2.elim
    · have e : i = ds.length := by omega
      rw [List.drop_of_length_le (by omega)] at f2
      exact .inl ⟨j1 e, f2 σ2 S2 H2 (Same.refl _) h2⟩⟩
end
end DL
end
section
/-! DLe: a def's promise where no repr is under way; the head. -/
namespace DL
open PySem PySem.Spec PyProof.Rows L2
structure FnG (P : Program) (w : World) (K : PySem.W.Frag) (mg : Str → Option Value) (base : Heap) (k : Nat) (f : Addr) (fd : FuncData) (ps : List Str) (sp : Sp) : Prop where
  len : ∀ {vs : List V} {H : Hp} {Q : VK} {E : XK}, sp vs H Q E → vs.length = ps.length
  go : ∀ {A : Around} {outer : List Env} {s : Shared} {H : Hp} {args : Args} {us : List Value} {vs : List V} {Q : VK} {E : XK},
    Room k A → A.guards = some [] → Env0 P w K mg base A outer s H → BindsTo s fd args (ps.zip us) → Vals vs us → sp vs H Q E → codeAny (model P w) A (.call (.ref f) args) (CR (L2.CX P w) outer P w H s Q E) s
section
variable {P : Program} {w : World} {K : PySem.W.Frag} {mg : Str → Option Value} {base : Heap} {k : Nat} {f : Addr} {fd : FuncData} {ps : List Str} {sp sp' : Sp}
theorem FnG.weak (F : FnG P w K mg base k f fd ps sp) (q : ∀ {vs H Q E}, sp' vs H Q E → sp vs H Q E) : FnG P w K mg base k f fd ps sp' :=
  ⟨fun z => F.len (q z), fun r g e b v z => F.go r g e b v (q z)⟩
/-- a def by its body -/
theorem fn_g {N : List Str} {name qual : Str} {params : Arguments} {body : List Stmt} {sc : Scope} {dV kV doc pm cdv ct oc : Value} {an od : Option Addr} {osl : Array (Option Value)}
    (lk : K.lookup f = some ⟨oc, od, .func (PySem.W.fnOf name qual params body sc dV kV doc pm an cdv ct), osl⟩) (hc : PySem.W.codeIn K cdv qual = true) (Sc : FnScope N ps sc) (hl : ∀ {vs H Q E}, sp vs H Q E → vs.length = ps.length)
    (hb : ∀ (A : Around) (outer : List Env) (s : Shared) (H : Hp) (vs : List V) (Q : VK) (E : XK), Room k (A.deeper (envOfC qual sc s.heap.objs.size f cdv)) → A.guards = some [] → sp vs H Q E →
      ∃ t, PSs (cxOf (L2.CX P w) P w K mg base N qual sc f cdv A outer s H E) body t ∧ t { nx := fun _ H' => Q .non H', rt := Q } (L2.start N vs) H) :
    FnG P w K mg base (k + 1) f (PySem.W.fnOf name qual params body sc dV kV doc pm an cdv ct) ps sp := by
  refine ⟨hl, fun {A outer s H args us vs Q E} hr hg e0 bi rv q => ?_⟩
  have kin : K.In s.heap := e0.mod.kin.keeps fun b o z => (e0.bs b o z).1
  have nol : s.heap.NoLimit := e0.mod.nolimit.keeps fun b o z => (e0.bs b o z).1
  obtain ⟨t, ht, hq⟩ := hb A outer s H vs Q E (hr.deeper _) hg q
  refine codeAny_call_function hr.depth (kin _ _ lk) rfl Sc.co Sc.gen rfl (PySem.W.codeRec_of kin hc) (bi _ _ _ _ ?_)
  refine wpAny_newFunctionEnv_cells Sc.kind (fun y hy => ?_) fun env he s1 ic => ?_
  · rcases Sc.par y.1 (List.of_mem_zip (a := y.1) (b := y.2) hy).1 with z | z
    · exact Or.inl z
    · exact Or.inr ⟨z, PySem.W.cellsFrom_some _ _ _ (Or.inl z)⟩
  · subst he
    have I := inv_start (CX := L2.CX P w) (E := E) (N := N) (ps := ps) Sc hr.hd e0 (hl q) rv ic
    refine ⟨nol.keeps ic.toInCall.keep, codeAny_func (wpAny_mono (ht.run [] s1 _ H _ I hq) (fun fl s2 z => ?_) fun _ _ z => z)⟩
    cases fl with
    | ret u =>
      obtain ⟨v, _, H', J, r, z⟩ := z
      exact ⟨v, H', J.os, J.bare, J.base, J.hok, r, z⟩
    | next =>
      obtain ⟨_, H', J, z⟩ := z
      exact ⟨.non, H', J.os, J.bare, J.base, J.hok, rfl, z⟩
    | brk =>
      obtain ⟨_, _, _, z⟩ := z
      exact False.elim z
    | cont =>
      obtain ⟨_, _, _, z⟩ := z
      exact False.elim z
end
section
variable {X : Cx} {k : Nat} {f : Addr} {fd : FuncData} {ps : List Str} {sp : Sp} {ds : List Value} {dvs : List V} {E : L2.St → XK} {x : Str} {p pos : Pos} {e : Expr} {es : List Expr} {t : TA}
theorem run_g {pins : List (Addr × Obj)} {σ : L2.St} {H : Hp} {s : Shared} {Q : VK} {us : List Value} (F : FnG X.prog X.w X.K X.mg X.base k f fd ps sp) (hr : Room k X.A) (hg : X.A.guards = some []) {args : Args} {us' : List Value} {vs' : List V}
    (hx : PassesAt (L2.CX X.prog X.w) X σ (E σ)) (I : Inv X pins σ H s) (hb : BindsTo s fd args (ps.zip us')) (r : Vals vs' us') (h : sp vs' H Q (E σ)) (ea : args = ⟨us, []⟩) : wpAny (model X.prog X.w) X.A (call (.ref f) us) (EP X pins σ Q) X.xe s := by
  subst ea
  refine wpAny_call (codeAny_mono (F.go hr hg I.env0 hb r h) fun q s' z => ?_)
  cases q with
  | error u => exact hx pins H s u s' I z
  | ok fl =>
    cases fl with
    | ret u => exact I.after z
    | _ => exact False.elim z
/-- f(e, ..) -/
theorem pe_g (F : FnG X.prog X.w X.K X.mg X.base k f fd ps sp) (hr : Room k X.A) (hgu : X.A.guards = some []) (hg : Gl X x) (hm : X.mg x = some (.ref f)) (hk : PySem.W.keepIn X.K (.ref f) = true) (hb : Binds X.K fd ps ds) (hd : Vals dvs ds)
    (hx : ∀ σ, PassesAt (L2.CX X.prog X.w) X σ (E σ)) (ha : PA X (e :: es) t) (hdb : (x == ("__debug__" : Str)) = false) (he : starEach (e :: es) X.env = (false, eval e X.env) :: starEach es X.env) (hpl : (backTo pos (starEach es X.env)).any (·.1) = false) :
    PE X (.Call (.Name x p) (e :: es) [] pos) (tCallSD sp dvs E t) := ⟨fun pins s σ H Q I h => by
  refine wpAny_Call_Name_kw (ld_glob I hg hm ?_ hdb)
  refine PySem.W.callWith_K (h₀ := X.base) I.ok.mod.kin hk (thn (ha.run pos pins s σ H _ I h) fun us s1 q => ?_) he hpl
  obtain ⟨vs, H1, I1, r, q⟩ := q
  have r2 : Vals (vs ++ dvs) (us ++ ds) := r.append hd
  exact ⟨I1.kIn, run_g F hr hgu (hx σ) I1 (hb s1 us I1.kIn (by rw [← r2.length]; exact F.len q)) r2 q rfl⟩⟩
end
/-! ### the head -/
section
variable {P : Program} {w : World} {K : PySem.W.Frag} {mg mb : Str → Option Value} {k : Nat} {fa a : Addr} {fd : FuncData} {x : Str} {sp : Sp} {s₁ : Shared} {vs : List Value} {ns : List Int}
abbrev Due (h : Shared) (r : Result) (s' : Shared) : Prop := r = .ok (.ret (.bool true)) ∧ OldK h.heap s'.heap ∧ s'.os = h.os ∧ AllBare s'.gens
end
end DL
end
section
/-! DLf: defs as functions on data, their calls. -/
namespace DL
open PySem PySem.Spec PyProof.Rows L2
inductive FR where
  | ok (a : Val) (ios : List D) | ex (e : Ex) (ios : List D) | no
abbrev FnD := List D → FR
/-- the addresses of what is handed in to be changed -/
def ioA : List Bool → List V → List Addr
  | true :: ms, .ref a :: vs => a :: ioA ms vs
  | _ :: ms, _ :: vs => ioA ms vs
  | _, _ => []
inductive ArgR (G : Gx) (R S H : Hp) : List Bool → List V → List D → Prop
  | nil : ArgR G R S H [] [] []
  | sh {ms : List Bool} {v : V} {vs : List V} {d : D} {ds : List D} : Rep G S v d → ArgR G R S H ms vs ds → ArgR G R S H (false :: ms) (v :: vs) (d :: ds)
  | io {ms : List Bool} {a : Addr} {o : HO} {vs : List V} {d : D} {ds : List D} : H a = some o → Top G S o d → S a = none → R a = none → ArgR G R S H ms vs ds → ArgR G R S H (true :: ms) (.ref a :: vs) (d :: ds)
inductive OutR (G : Gx) (S H : Hp) : List Bool → List V → List D → Prop
  | nil : OutR G S H [] [] []
  | sh {ms : List Bool} {v : V} {vs : List V} {ds : List D} : OutR G S H ms vs ds → OutR G S H (false :: ms) (v :: vs) ds
  | io {ms : List Bool} {a : Addr} {o : HO} {vs : List V} {d : D} {ds : List D} : H a = some o → Top G S o d → S a = none → OutR G S H ms vs ds → OutR G S H (true :: ms) (.ref a :: vs) (d :: ds)
def ResR (G : Gx) (R S H : Hp) (as : List Addr) (v : V) : Val → Prop
  | .d x => Rep G S v x
  | .fr x => ∃ p o, v = .ref p ∧ H p = some o ∧ Top G S o x ∧ S p = none ∧ R p = none ∧ p ∉ as
  | .nk x k => NkR G S H (fun a => R a ≠ none ∨ a ∈ as) v x k
  | .sl _ => False
def Frm (R S H : Hp) : Prop := ∀ a o, R a = some o → H a = some o ∧ Lks (S a) o
/-- the promise of a def that does F on data -/
def spOf (G : Gx) (ms : List Bool) (F : FnD) : Sp := fun vs H Q E => ∃ R S ds, Le S H ∧ TabIn G S ∧ Frm R S H ∧ ArgR G R S H ms vs ds ∧ (ioA ms vs).Nodup ∧
  match F ds with
  | .ok a ios => ∀ v S' H', Same S S' → Le S' H' → Frm R S' H' → OutR G S' H' ms vs ios → ResR G R S' H' (ioA ms vs) v a → Q v H'
  | .ex e ios => ∀ cls d S' H', Same S S' → Le S' H' → Frm R S' H' → OutR G S' H' ms vs ios → ExR G S' cls d e → E cls d H'
  | .no => False
theorem ArgR.len {G : Gx} {R S H : Hp} : ∀ {ms : List Bool} {vs : List V} {ds : List D}, ArgR G R S H ms vs ds → vs.length = ms.length
  | _, _, _, .nil => rfl
  | _, _, _, .sh _ t => by rw [List.length_cons, List.length_cons, t.len]
  | _, _, _, .io _ _ _ _ t => by rw [List.length_cons, List.length_cons, t.len]
theorem ArgR.lenD {G : Gx} {R S H : Hp} : ∀ {ms : List Bool} {vs : List V} {ds : List D}, ArgR G R S H ms vs ds → ds.length = ms.length
  | _, _, _, .nil => rfl
  | _, _, _, .sh _ t => by rw [List.length_cons, List.length_cons, t.lenD]
  | _, _, _, .io _ _ _ _ t => by rw [List.length_cons, List.length_cons, t.lenD]
/-! ### the body's start and end -/
def slots0 : List Bool → List D → DS
  | true :: ms, d :: ds => .io d :: slots0 ms ds
  | false :: ms, d :: ds => .sh d :: slots0 ms ds
  | _, _ => []
def init (ms : List Bool) (n : Nat) (ds : List D) : DS := slots0 ms ds ++ List.replicate (n - ms.length) .no
def fins : List Bool → DS → Option (List D)
  | [], _ => some []
  | true :: ms, .io d :: st => (fins ms st).map (d :: ·)
  | true :: _, _ => none
  | false :: ms, _ :: st => fins ms st
  | false :: _, [] => none
def isVal : Val → Bool
  | .sl _ => false
  | _ => true
def callD (ms : List Bool) (n : Nat) (s : GS) : FnD := fun ds => if ds.length = ms.length ∧ ms.length ≤ n then (match s (init ms n ds) with
  | .nx st => (match fins ms st with
    | some ios => .ok (.d .non) ios
    | none => .no)
  | .rt a st => (match fins ms st with
    | some ios => if isVal a = true then .ok a ios else .no
    | none => .no)
  | .ex e st => (match fins ms st with
    | some ios => .ex e ios
    | none => .no)
  | _ => .no) else .no
def pins0 (ms : List Bool) (vs : List V) : Pin := fun i => match ms[i]?, vs[i]? with
  | some true, some (.ref a) => some a
  | _, _ => none
section
variable {G : Gx} {R S H : Hp}
theorem slots0_len : ∀ {ms : List Bool} {ds : List D}, ds.length = ms.length → (slots0 ms ds).length = ms.length
  | [], [], _ => rfl
  | true :: ms, d :: ds, h => by simp only [slots0, List.length_cons] at h ⊢; rw [slots0_len (by omega)]
  | false :: ms, d :: ds, h => by simp only [slots0, List.length_cons] at h ⊢; rw [slots0_len (by omega)]
  | [], _ :: _, h => by simp at h
  | _ :: _, [], h => by simp at h
theorem arg_sh : ∀ {ms : List Bool} {vs : List V} {ds : List D} {i : Nat} {d : D}, ArgR G R S H ms vs ds → (slots0 ms ds)[i]? = some (.sh d) → ∃ v, vs[i]? = some v ∧ Rep G S v d
  | _, _, _, _, _, .nil, e => by simp [slots0] at e
  | _, _, _, 0, _, .sh r _, e => by simp [slots0] at e; subst e; exact ⟨_, rfl, r⟩
  | _, _, _, 0, _, .io _ _ _ _ _, e => by simp [slots0] at e
  | _, _, _, i + 1, d, .sh _ t, e => arg_sh (i := i) t (by simpa [slots0] using e)
  | _, _, _, i + 1, d, .io _ _ _ _ t, e => arg_sh (i := i) t (by simpa [slots0] using e)
theorem arg_io : ∀ {ms : List Bool} {vs : List V} {ds : List D} {i : Nat} {s : Slot}, ArgR G R S H ms vs ds → (slots0 ms ds)[i]? = some s → (∀ d, s ≠ .sh d) →
    ∃ d a o, s = .io d ∧ ms[i]? = some true ∧ vs[i]? = some (.ref a) ∧ H a = some o ∧ Top G S o d ∧ S a = none ∧ R a = none ∧ a ∈ ioA ms vs
  | _, _, _, _, _, .nil, e, _ => by simp [slots0] at e
  | _, _, _, 0, _, .sh r _, e, n => by simp [slots0] at e; exact absurd e.symm (n _)
  | _, _, _, 0, _, .io h1 h2 h3 h4 _, e, _ => by
    simp [slots0] at e
    exact ⟨_, _, _, e.symm, rfl, rfl, h1, h2, h3, h4, List.mem_cons_self⟩
  | false :: ms, v :: vs, _, i + 1, d, .sh _ t, e, n => by
    obtain ⟨d', a, o, q1, q2, q3, q4, q5, q6, q7, q8⟩ := arg_io (i := i) t (by simpa [slots0] using e) n
    exact ⟨d', a, o, q1, by simpa using q2, by simpa using q3, q4, q5, q6, q7, by cases v <;> exact q8⟩
  | _, _, _, i + 1, d, .io _ _ _ _ t, e, n => by
    obtain ⟨d', a, o, q1, q2, q3, q4, q5, q6, q7, q8⟩ := arg_io (i := i) t (by simpa [slots0] using e) n
    exact ⟨d', a, o, q1, by simpa using q2, by simpa using q3, q4, q5, q6, q7, List.mem_cons_of_mem _ q8⟩
theorem ioA_at : ∀ {ms : List Bool} {vs : List V} {i : Nat} {a : Addr}, ms[i]? = some true → vs[i]? = some (.ref a) → a ∈ ioA ms vs
  | [], _, _, _, h, _ => by simp at h
  | _ :: _, [], _, _, _, h => by simp at h
  | m :: ms, v :: vs, 0, a, h1, h2 => by
    simp at h1 h2
    subst h1 h2
    exact List.mem_cons_self
  | m :: ms, v :: vs, i + 1, a, h1, h2 => by
    have q := ioA_at (ms := ms) (vs := vs) (i := i) (a := a) (by simpa using h1) (by simpa using h2)
    cases m <;> cases v <;> first | exact q | exact List.mem_cons_of_mem _ q
theorem ioA_inj : ∀ {ms : List Bool} {vs : List V} {i j : Nat} {a : Addr}, (ioA ms vs).Nodup → ms[i]? = some true → vs[i]? = some (.ref a) → ms[j]? = some true → vs[j]? = some (.ref a) → i = j
  | [], _, _, _, _, _, h, _, _, _ => by simp at h
  | _ :: _, [], _, _, _, _, _, h, _, _ => by simp at h
  | m :: ms, v :: vs, 0, 0, a, _, _, _, _, _ => rfl
  | m :: ms, v :: vs, 0, j + 1, a, nd, h1, h2, h3, h4 => by
    simp at h1 h2
    subst h1 h2
    exact absurd (ioA_at (by simpa using h3) (by simpa using h4)) (List.nodup_cons.mp nd).1
  | m :: ms, v :: vs, i + 1, 0, a, nd, h1, h2, h3, h4 => by
    simp at h3 h4
    subst h3 h4
    exact absurd (ioA_at (by simpa using h1) (by simpa using h2)) (List.nodup_cons.mp nd).1
  | m :: ms, v :: vs, i + 1, j + 1, a, nd, h1, h2, h3, h4 => by
    have nd' : (ioA ms vs).Nodup := by
      cases m <;> cases v <;> first | exact nd | exact (List.nodup_cons.mp nd).2
    rw [ioA_inj (ms := ms) (vs := vs) (i := i) (j := j) (a := a) nd' (by simpa using h1) (by simpa using h2) (by simpa using h3) (by simpa using h4)]
theorem init_get {ms : List Bool} {ds : List D} {n i : Nat} {s : Slot} (hl : ds.length = ms.length) (h : (init ms n ds)[i]? = some s) (hn : s ≠ .no) : (slots0 ms ds)[i]? = some s := by
  unfold init at h
  by_cases hi : i < (slots0 ms ds).length
  · rwa [List.getElem?_append_left hi] at h
  · rw [List.getElem?_append_right (by omega), List.getElem?_replicate] at h
    split at h
    · cases h; exact absurd rfl hn
    · cases h
theorem start_get {N : List Str} {vs : List V} {i : Nat} {v : V} (h : vs[i]? = some v) : (L2.start N vs)[i]? = some (some v) := by
  unfold L2.start
  have hi : i < vs.length := (List.getElem?_eq_some_iff.mp h).1
  rw [List.getElem?_append_left (by rw [List.length_map]; exact hi), List.getElem?_map, h]
  rfl
theorem stR_start {ms : List Bool} {vs : List V} {ds : List D} {N : List Str} (l : Le S H) (tb : TabIn G S) (f : Frm R S H) (a : ArgR G R S H ms vs ds) (nd : (ioA ms vs).Nodup) (hn : ms.length ≤ N.length) : StR G (pins0 ms vs) R S H (L2.start N vs) (init ms N.length ds) := by
  have hl := a.len
  have hd := a.lenD
  have io : ∀ {i : Nat} {d : D}, Owns (init ms N.length ds) i d → ∃ b o, (init ms N.length ds)[i]? = some (.io d) ∧ ms[i]? = some true ∧ vs[i]? = some (.ref b) ∧ H b = some o ∧ Top G S o d ∧ S b = none ∧ R b = none := fun {i d} q => by
    rcases q with q | q
    · obtain ⟨d', b, o, q1, _⟩ := arg_io a (init_get hd q (fun z => by cases z)) (fun d z => by cases z)
      cases q1
    · obtain ⟨d', b, o, q1, q2, q3, q4, q5, q6, q7, _⟩ := arg_io a (init_get hd q (fun z => by cases z)) (fun d z => by cases z)
      cases q1
      exact ⟨b, o, q, q2, q3, q4, q5, q6, q7⟩
  refine ⟨?_, tb, l, fun i d q => ?_, fun i d q => ?_, fun i j d e b q1 q2 q3 q4 => ?_, fun i d q => ?_, f⟩
  · unfold init L2.start
    rw [List.length_append, List.length_append, List.length_map, List.length_replicate, List.length_replicate, slots0_len hd]
    omega
  · obtain ⟨v, q1, q2⟩ := arg_sh a (init_get hd q (fun z => by cases z))
    exact ⟨v, start_get q1, q2⟩
  · obtain ⟨b, o, _, _, q3, q4, q5, q6, q7⟩ := io q
    exact ⟨b, o, start_get q3, q4, q5, q6, q7⟩
  · obtain ⟨b1, o1, _, m1, v1, _⟩ := io q1
    obtain ⟨b2, o2, _, m2, v2, _⟩ := io q2
    rw [start_get v1] at q3
    rw [start_get v2] at q4
    cases q3
    cases q4
    exact ioA_inj nd m1 v1 m2 v2
  · obtain ⟨b, o, _, m1, v1, _⟩ := io (i := i) (d := d) (.inr q)
    exact ⟨b, by simp only [pins0, m1, v1], start_get v1⟩
/-- what stands at the io slots at the end -/
theorem fins_get : ∀ {ms : List Bool} {st : DS} {ios : List D} {i : Nat}, fins ms st = some ios → ms[i]? = some true → ∃ d, st[i]? = some (.io d)
  | [], _, _, _, _, h => by simp at h
  | true :: ms, .io d :: st, ios, 0, _, _ => ⟨d, rfl⟩
  | true :: ms, .io d :: st, ios, i + 1, e, h => by
    simp only [fins] at e
    cases e1 : fins ms st with
    | none => rw [e1] at e; cases e
    | some js =>
      obtain ⟨d', q⟩ := fins_get (i := i) e1 (by simpa using h)
      exact ⟨d', by simpa using q⟩
  | true :: ms, [], _, _, e, _ => by simp [fins] at e
  | true :: ms, .no :: _, _, _, e, _ => by simp [fins] at e
  | true :: ms, .sh _ :: _, _, _, e, _ => by simp [fins] at e
  | true :: ms, .ow _ :: _, _, _, e, _ => by simp [fins] at e
  | false :: ms, _ :: st, ios, 0, e, h => by simp at h
  | false :: ms, _ :: st, ios, i + 1, e, h => by
    obtain ⟨d', q⟩ := fins_get (ms := ms) (st := st) (ios := ios) (i := i) (by simpa only [fins] using e) (by simpa using h)
    exact ⟨d', by simpa using q⟩
  | false :: ms, [], _, _, e, _ => by simp [fins] at e
theorem fins_out {S' H' : Hp} : ∀ {ms : List Bool} {vs : List V} {ds : List D} {st : DS} {ios : List D}, ArgR G R S H ms vs ds → fins ms st = some ios →
    (∀ (i : Nat) (a : Addr) (d : D), ms[i]? = some true → vs[i]? = some (.ref a) → st[i]? = some (.io d) → ∃ o, H' a = some o ∧ Top G S' o d ∧ S' a = none) → OutR G S' H' ms vs ios
  | _, _, _, _, _, .nil, e, _ => by simp only [fins] at e; cases e; exact .nil
  | _, _, _, [], _, .sh _ t, e, _ => by simp [fins] at e
  | _, _, _, s :: st, _, .sh _ t, e, k => .sh (fins_out (st := st) t (by simpa only [fins] using e) fun i a d h1 h2 h3 => k (i + 1) a d (by simpa using h1) (by simpa using h2) (by simpa using h3))
  | _, _, _, [], _, .io _ _ _ _ t, e, _ => by simp [fins] at e
  | _, _, _, .no :: _, _, .io _ _ _ _ t, e, _ => by simp [fins] at e
  | _, _, _, .sh _ :: _, _, .io _ _ _ _ t, e, _ => by simp [fins] at e
  | _, _, _, .ow _ :: _, _, .io _ _ _ _ t, e, _ => by simp [fins] at e
  | true :: ms, .ref a :: vs, _, .io d :: st, ios, .io _ _ _ _ t, e, k => by
    simp only [fins] at e
    cases e1 : fins ms st with
    | none => rw [e1] at e; cases e
    | some js =>
      rw [e1] at e
      cases e
      obtain ⟨o, q1, q2, q3⟩ := k 0 a d rfl rfl rfl
      exact .io q1 q2 q3 (fins_out (st := st) t e1 fun i a d h1 h2 h3 => k (i + 1) a d (by simpa using h1) (by simpa using h2) (by simpa using h3))
end
section
variable {P : Program} {w : World} {K : PySem.W.Frag} {mg : Str → Option Value} {base : Heap}
/-- a def of the text, whatever its defaults -/
def FunV (K : PySem.W.Frag) (x qual : Str) (st : Stmt) (f : Addr) (fd : FuncData) : Prop := ∃ (oc : Value) (od : Option Addr) (dV kV doc pm : Value) (an : Option Addr) (cdv ct : Value) (osl : Array (Option Value)),
  fd = PySem.W.fnOf x qual (defArgs st) (defBody st) (defScope st) dV kV doc pm an cdv ct ∧ K.lookup f = some ⟨oc, od, .func fd, osl⟩ ∧ PySem.W.codeIn K cdv qual = true
/-- what a promise on data leaves for the body -/
theorem tds_sp {K : PySem.W.Frag} {mg : Str → Option Value} {N : List Str} {ms : List Bool} {s : GS} {vs : List V} {H : Hp} {Q : VK} {E : XK} (h : spOf ⟨K, mg⟩ ms (callD ms N.length s) vs H Q E) :
    tDS ⟨K, mg⟩ (fun cls d _ H => E cls d H) s { nx := fun _ H' => Q .non H', rt := Q } (L2.start N vs) H := by
  obtain ⟨R, S, ds, l, tb, fr, a, nd, fin⟩ := h
  unfold callD at fin
  by_cases hc : ds.length = ms.length ∧ ms.length ≤ N.length
  · rw [if_pos hc] at fin
    have h0 := stR_start l tb fr a nd hc.2
    refine ⟨pins0 ms vs, R, S, init ms N.length ds, h0, ?_⟩
    have out : ∀ {σ' : L2.St} {st' : DS} {S' H' : Hp} {ios : List D}, StR ⟨K, mg⟩ (pins0 ms vs) R S' H' σ' st' → fins ms st' = some ios → OutR ⟨K, mg⟩ S' H' ms vs ios := fun {σ' st' S' H' ios} h1 e => by
      refine fins_out a e fun i b d m1 v1 s1 => ?_
      obtain ⟨b', p1, p2⟩ := h1.pin i d s1
      simp only [pins0, m1, v1] at p1
      cases p1
      obtain ⟨c, o, q1, q2, q3, q4, _⟩ := h1.own i d (.inr s1)
      rw [p2] at q1; cases q1
      exact ⟨o, q2, q3, q4⟩
    have res : ∀ {σ' : L2.St} {st' : DS} {S' H' : Hp} {ios : List D} {v : V} {b : Val}, StR ⟨K, mg⟩ (pins0 ms vs) R S' H' σ' st' → fins ms st' = some ios → RepV ⟨K, mg⟩ R S' H' σ' st' v b → isVal b = true → ResR ⟨K, mg⟩ R S' H' (ioA ms vs) v b := fun {σ' st' S' H' ios v b} h1 e r iv => by
      cases b with
      | d x => exact r
      | sl i => cases iv
      | fr x =>
        obtain ⟨p, o, q1, q2, q3, q4, q5, q6⟩ := r
        refine ⟨p, o, q1, q2, q3, q4, q5, fun hp => ?_⟩
        have : ∀ {ms : List Bool} {vs : List V}, p ∈ ioA ms vs → ∃ i : Nat, ms[i]? = some true ∧ vs[i]? = some (.ref p) := fun {ms} => by
          induction ms with
          | nil => intro vs h; simp [ioA] at h
          | cons m ms ih =>
            intro vs h
            cases vs with
            | nil => cases m <;> simp [ioA] at h
            | cons v vs =>
              have tl : p ∈ ioA ms vs → ∃ i : Nat, (m :: ms)[i]? = some true ∧ (v :: vs)[i]? = some (.ref p) := fun h => by
                obtain ⟨i, h1, h2⟩ := ih h
                exact ⟨i + 1, by simpa using h1, by simpa using h2⟩
              cases m with
              | false => cases v <;> exact tl h
              | true =>
                cases v with
                | ref a =>
                  rcases List.mem_cons.mp h with z | z
                  · subst z; exact ⟨0, rfl, rfl⟩
                  · exact tl z
                | _ => exact tl h
        obtain ⟨i, m1, v1⟩ := this hp
        obtain ⟨d, s1⟩ := fins_get e m1
        obtain ⟨b', p1, p2⟩ := h1.pin i d s1
        simp only [pins0, m1, v1] at p1
        cases p1
        exact q6 i d (.inr s1) p2
      | nk x k =>
        obtain ⟨t, a, xs, ws, es, us, q1, q2, q3, q4, q5, q6, q7, q8, q9, q10, q11⟩ := r
        refine ⟨t, a, xs, ws, es, us, q1, q2, q3, q4, q5, q6, q7, q8, q9, fun z => ?_, q11⟩
        rcases z with z | hp
        · exact q10 (.inl z)
        · refine q10 (.inr fun lo => ?_)
          have : ∀ {ms : List Bool} {vs : List V}, a ∈ ioA ms vs → ∃ i : Nat, ms[i]? = some true ∧ vs[i]? = some (.ref a) := fun {ms} => by
            induction ms with
            | nil => intro vs h; simp [ioA] at h
            | cons m ms ih =>
              intro vs h
              cases vs with
              | nil => cases m <;> simp [ioA] at h
              | cons v vs =>
                have tl : a ∈ ioA ms vs → ∃ i : Nat, (m :: ms)[i]? = some true ∧ (v :: vs)[i]? = some (.ref a) := fun h => by
                  obtain ⟨i, h1, h2⟩ := ih h
                  exact ⟨i + 1, by simpa using h1, by simpa using h2⟩
                cases m with
                | false => cases v <;> exact tl h
                | true =>
                  cases v with
                  | ref b =>
                    rcases List.mem_cons.mp h with z | z
                    · subst z; exact ⟨0, rfl, rfl⟩
                    · exact tl z
                  | _ => exact tl h
          obtain ⟨i, m1, v1⟩ := this hp
          obtain ⟨d, s1⟩ := fins_get e m1
          obtain ⟨b', p1, p2⟩ := h1.pin i d s1
          simp only [pins0, m1, v1] at p1
          cases p1
          exact lo i d (.inr s1) p2
    have r1 := fin
    cases es : s (init ms N.length ds) with
    | nx st' =>
      rw [es] at r1
      intro σ' S' H' e1 h1
      dsimp only at r1
      cases ef : fins ms st' with
      | none => rw [ef] at r1; exact r1.elim
      | some ios => rw [ef] at r1; exact r1 .non S' H' e1 h1.sub h1.frm (out h1 ef) .non
    | rt b st' =>
      rw [es] at r1
      intro v σ' S' H' e1 h1 rv
      dsimp only at r1
      cases ef : fins ms st' with
      | none => rw [ef] at r1; exact r1.elim
      | some ios =>
        rw [ef] at r1
        dsimp only at r1
        by_cases iv : isVal b = true
        · rw [if_pos iv] at r1
          exact r1 v S' H' e1 h1.sub h1.frm (out h1 ef) (res h1 ef rv iv)
        · rw [if_neg iv] at r1
          exact r1.elim
    | ex x st' =>
      rw [es] at r1
      intro cls d σ' S' H' e1 h1 xr
      dsimp only at r1
      cases ef : fins ms st' with
      | none => rw [ef] at r1; exact r1.elim
      | some ios => rw [ef] at r1; exact r1 cls d S' H' e1 h1.sub h1.frm (out h1 ef) xr
    | bk st' => rw [es] at r1; exact r1.elim
    | ct st' => rw [es] at r1; exact r1.elim
    | no => rw [es] at r1; exact r1.elim
  · rw [if_neg hc] at fin
    exact fin.elim
/-- THE RULE for a def: its body on data -/
theorem fn_dV {x qual : Str} {st : Stmt} {f : Addr} {fd : FuncData} {N ps : List Str} {k : Nat} {ms : List Bool} {s : GS} (F : FunV K x qual st f fd) (Sc : FnScope N ps (defScope st)) (hm : ms.length = ps.length)
    (hbody : ∀ (X : Cx) (W : WX), X.prog = P → X.w = w → X.K = K → X.mg = mg → X.base = base → X.N = N → X.env.scope = defScope st → X.calm = true → X.fn = (fun _ => true) → Room k X.A → X.stack = X.env :: X.outer → X.env.frame = some X.env.locals → X.ex = [] → Takes X W →
      PassesOwn (model X.prog X.w) X.A X.env X.xe → X.A.guards = some [] → DSs X W (defBody st) s) :
    FnG P w K mg base (k + 1) f fd ps (spOf ⟨K, mg⟩ ms (callD ms N.length s)) := by
  obtain ⟨oc, od, dV, kV, doc, pm, an, cdv, ct, osl, rfl, lk, hcd⟩ := F
  refine fn_g lk hcd Sc (fun {vs H Q E} h => ?_) (fun A outer s0 H vs Q E hr hgu h => ?_)
  · obtain ⟨R, S, ds, _, _, _, a, _⟩ := h
    rw [a.len, hm]
  · exact ⟨_, hbody (cxOf (L2.CX P w) P w K mg base N qual (defScope st) f cdv A outer s0 H E) (fun cls d _ H => E cls d H) rfl rfl rfl rfl rfl rfl rfl rfl rfl hr rfl rfl rfl (takes_of rfl rfl rfl rfl) (passes_of rfl) hgu, tds_sp h⟩
/-- THE RULE for a def: its body on data -/
theorem fn_d {x qual : Str} {st : Stmt} {f : Addr} {fd : FuncData} {N ps : List Str} {k : Nat} {ms : List Bool} {s : GS} (F : Fun K x qual st f fd) (Sc : FnScope N ps (defScope st)) (hm : ms.length = ps.length)
    (hbody : ∀ (X : Cx) (W : WX), X.prog = P → X.w = w → X.K = K → X.mg = mg → X.base = base → X.N = N → X.env.scope = defScope st → X.calm = true → X.fn = (fun _ => true) → Room k X.A → X.stack = X.env :: X.outer → X.env.frame = some X.env.locals → X.ex = [] → Takes X W →
      PassesOwn (model X.prog X.w) X.A X.env X.xe → X.A.guards = some [] → DSs X W (defBody st) s) :
    FnG P w K mg base (k + 1) f fd ps (spOf ⟨K, mg⟩ ms (callD ms N.length s)) := by
  obtain ⟨oc, od, kV, doc, pm, an, cdv, ct, osl, e1, lk, hcd⟩ := F.ex
  exact fn_dV ⟨oc, od, .none, kV, doc, pm, an, cdv, ct, osl, e1, lk, hcd⟩ Sc hm hbody
end
end DL
end
section
/-! DLg: the call of a def by its function on data. -/
namespace DL
open PySem PySem.Spec PyProof.Rows L2
open Classical in
/-- what the callee may not touch: the caller's callers' things, and the caller's own ones that are not handed in -/
noncomputable def frame (R H : Hp) (σ : L2.St) (st : DS) (js : List Nat) : Hp := fun b => if ∃ (i : Nat) (d : D), Owns st i d ∧ σ[i]? = some (some (.ref b)) ∧ i ∉ js then H b else R b
def prep : List Bool → DS → List Val → Option (List (Sum D Nat) × DS)
  | [], st, [] => some ([], st)
  | false :: ms, st, a :: as => match take1 st a with
    | none => none
    | some (x, st1) => match prep ms st1 as with
      | none => none
      | some (ys, st2) => some (.inl x :: ys, st2)
  | true :: ms, st, .sl j :: as => match prep ms st as with
    | none => none
    | some (ys, st2) => some (.inr j :: ys, st2)
  | _, _, _ => none
def cont (st : DS) (j : Nat) : Option D := match st[j]? with
  | some (.ow x) => some x
  | some (.io x) => some x
  | _ => none
def datas (st : DS) : List (Sum D Nat) → Option (List D)
  | [] => some []
  | .inl x :: r => match datas st r with
    | some xs => some (x :: xs)
    | none => none
  | .inr j :: r => match cont st j, datas st r with
    | some x, some xs => some (x :: xs)
    | _, _ => none
def ixs : List (Sum D Nat) → List Nat
  | [] => []
  | .inl _ :: r => ixs r
  | .inr j :: r => j :: ixs r
def setC (st : DS) (j : Nat) (d : D) : DS := match st[j]? with
  | some (.ow _) => st.set j (.ow d)
  | some (.io _) => st.set j (.io d)
  | _ => st
def back : List Nat → List D → DS → Option DS
  | [], [], st => some st
  | j :: js, d :: ds, st => back js ds (setC st j d)
  | _, _, _ => none
def gCall (F : FnD) (ms : List Bool) (dd : List D) (ga : GA) : GE := fun st => (ga st).bind fun as st1 => match prep ms st1 (as ++ dd.map .d) with
  | none => .no
  | some (ys, st2) => if (ixs ys).Nodup then (match datas st2 ys with
    | none => .no
    | some ds => (match F ds with
      | .no => .no
      | .ok a ios => (match back (ixs ys) ios st2 with
        | some st3 => .ok a st3
        | none => .no)
      | .ex e ios => (match back (ixs ys) ios st2 with
        | some st3 => .ex e st3
        | none => .no))) else .no
inductive PrepR (G : Gx) (S : Hp) (σ : L2.St) : List Bool → List V → List (Sum D Nat) → Prop
  | nil : PrepR G S σ [] [] []
  | sh {ms : List Bool} {v : V} {vs : List V} {x : D} {ys : List (Sum D Nat)} : Rep G S v x → PrepR G S σ ms vs ys → PrepR G S σ (false :: ms) (v :: vs) (.inl x :: ys)
  | io {ms : List Bool} {v : V} {vs : List V} {j : Nat} {ys : List (Sum D Nat)} : σ[j]? = some (some v) → PrepR G S σ ms vs ys → PrepR G S σ (true :: ms) (v :: vs) (.inr j :: ys)
theorem PrepR.mono {G : Gx} {S S' : Hp} {σ : L2.St} (e : Same S S') : ∀ {ms : List Bool} {vs : List V} {ys : List (Sum D Nat)}, PrepR G S σ ms vs ys → PrepR G S' σ ms vs ys
  | _, _, _, .nil => .nil
  | _, _, _, .sh r t => .sh (r.mono e) (t.mono e)
  | _, _, _, .io r t => .io r (t.mono e)
section
variable {G : Gx} {P : Pin} {R H : Hp} {σ : L2.St}
theorem prep_ok : ∀ {ms : List Bool} {vs : List V} {as : List Val} {S : Hp} {st st2 : DS} {ys : List (Sum D Nat)}, StR G P R S H σ st → Pvs G S σ vs as → prep ms st as = some (ys, st2) → ∃ S2, Same S S2 ∧ StR G P R S2 H σ st2 ∧ PrepR G S2 σ ms vs ys
  | [], _, _, S, st, st2, ys, h, .nil, e => by simp only [prep] at e; cases e; exact ⟨S, Same.refl S, h, .nil⟩
  | [], _, _, S, st, st2, ys, h, .cons _ _, e => by simp [prep] at e
  | true :: _, _, _, S, st, st2, ys, h, .nil, e => by simp [prep] at e
  | false :: _, _, _, S, st, st2, ys, h, .nil, e => by simp [prep] at e
  | false :: ms, _, _, S, st, st2, ys, h, .cons (a := a) (as := as) p ps, e => by
    unfold prep at e
    cases e1 : take1 st a with
    | none => rw [e1] at e; cases e
    | some r =>
      obtain ⟨x, st1⟩ := r
      rw [e1] at e
      dsimp only at e
      cases e2 : prep ms st1 as with
      | none => rw [e2] at e; cases e
      | some r2 =>
        obtain ⟨ys', st2'⟩ := r2
        rw [e2] at e
        cases e
        obtain ⟨S1, q1, h1, r1⟩ := take1_ok h p e1
        obtain ⟨S2, q2, h2, r2⟩ := prep_ok h1 (ps.mono q1) e2
        exact ⟨S2, q1.trans q2, h2, .sh (r1.mono q2) r2⟩
  | true :: ms, _, _, S, st, st2, ys, h, .cons (a := a) (as := as) p ps, e => by
    cases a with
    | d x => simp [prep] at e
    | fr x => simp [prep] at e
    | nk x k => simp [prep] at e
    | sl j =>
      unfold prep at e
      cases e2 : prep ms st as with
      | none => rw [e2] at e; cases e
      | some r2 =>
        obtain ⟨ys', st2'⟩ := r2
        rw [e2] at e
        cases e
        obtain ⟨S2, q2, h2, r2⟩ := prep_ok h ps e2
        exact ⟨S2, q2, h2, .io p r2⟩
theorem cont_owns {st : DS} {j : Nat} {x : D} (e : cont st j = some x) : Owns st j x := by
  unfold cont at e
  cases q : st[j]? with
  | none => rw [q] at e; cases e
  | some s =>
    rw [q] at e
    cases s with
    | no => cases e
    | sh y => cases e
    | ow y => cases e; exact .inl q
    | io y => cases e; exact .inr q
theorem mem_ixs {G : Gx} {S : Hp} : ∀ {ms : List Bool} {vs : List V} {ys : List (Sum D Nat)} {a : Addr}, PrepR G S σ ms vs ys → a ∈ ioA ms vs → ∃ j ∈ ixs ys, σ[j]? = some (some (.ref a))
  | _, _, _, _, .nil, h => by simp [ioA] at h
  | false :: ms, v :: vs, _, a, .sh _ t, h => by
    obtain ⟨j, h1, h2⟩ := mem_ixs t (by cases v <;> exact h)
    exact ⟨j, h1, h2⟩
  | true :: ms, v :: vs, .inr j :: ys, a, .io r t, h => by
    have tl : a ∈ ioA ms vs → ∃ i ∈ ixs (Sum.inr j :: ys), σ[i]? = some (some (.ref a)) := fun h => by
      obtain ⟨i, h1, h2⟩ := mem_ixs t h
      exact ⟨i, List.mem_cons_of_mem _ h1, h2⟩
    cases v with
    | ref b =>
      rcases List.mem_cons.mp h with z | z
      · subst z; exact ⟨j, List.mem_cons_self, r⟩
      · exact tl z
    | _ => exact tl h
theorem frame_of {S : Hp} {st : DS} {js : List Nat} (h : StR G P R S H σ st) : Frm (frame R H σ st js) S H := fun b o e => by
  unfold frame at e
  split at e
  · rename_i q
    obtain ⟨i, d, q1, q2, _⟩ := q
    obtain ⟨a, o', z1, z2, _, z4, _⟩ := h.own i d q1
    rw [q2] at z1; cases z1
    exact ⟨e, .inl z4⟩
  · exact h.frm b o e
theorem frame_io {S : Hp} {st : DS} {js : List Nat} {j : Nat} {d : D} {a : Addr} (h : StR G P R S H σ st) (hj : j ∈ js) (ho : Owns st j d) (ha : σ[j]? = some (some (.ref a))) : frame R H σ st js a = none := by
  unfold frame
  rw [if_neg]
  · obtain ⟨b, o, z1, _, _, _, z5⟩ := h.own j d ho
    rw [ha] at z1; cases z1
    exact z5
  · rintro ⟨i, d', q1, q2, q3⟩
    exact q3 (h.inj i j d' d a q1 ho q2 ha ▸ hj)
theorem arg_ok {S : Hp} {st : DS} {js : List Nat} (h : StR G P R S H σ st) : ∀ {ms : List Bool} {vs : List V} {ys : List (Sum D Nat)} {ds : List D}, PrepR G S σ ms vs ys → datas st ys = some ds → (∀ j ∈ ixs ys, j ∈ js) → ArgR G (frame R H σ st js) S H ms vs ds
  | _, _, _, _, .nil, e, _ => by simp only [datas] at e; cases e; exact .nil
  | _, _, _, ds, .sh (x := x) (ys := ys) r t, e, k => by
    unfold datas at e
    cases e1 : datas st ys with
    | none => rw [e1] at e; cases e
    | some xs =>
      rw [e1] at e
      cases e
      exact .sh r (arg_ok h t e1 k)
  | _, _, _, ds, .io (j := j) (ys := ys) r t, e, k => by
    unfold datas at e
    cases e0 : cont st j with
    | none => rw [e0] at e; cases e
    | some x =>
      rw [e0] at e
      cases e1 : datas st ys with
      | none => rw [e1] at e; cases e
      | some xs =>
        rw [e1] at e
        cases e
        have ho := cont_owns e0
        obtain ⟨a, o, z1, z2, z3, z4, z5⟩ := h.own j x ho
        rw [r] at z1; cases z1
        exact .io z2 z3 z4 (frame_io h (k j List.mem_cons_self) ho r) (arg_ok h t e1 fun i hi => k i (List.mem_cons_of_mem _ hi))
theorem nodup_io {S : Hp} {st : DS} (h : StR G P R S H σ st) : ∀ {ms : List Bool} {vs : List V} {ys : List (Sum D Nat)} {ds : List D}, PrepR G S σ ms vs ys → datas st ys = some ds → (ixs ys).Nodup → (ioA ms vs).Nodup
  | _, _, _, _, .nil, _, _ => List.nodup_nil
  | false :: ms, v :: vs, _, ds, .sh (x := x) (ys := ys) r t, e, k => by
    unfold datas at e
    cases e1 : datas st ys with
    | none => rw [e1] at e; cases e
    | some xs =>
      have := nodup_io h t e1 k
      cases v <;> exact this
  | true :: ms, v :: vs, _, ds, .io (j := j) (ys := ys) r t, e, k => by
    unfold datas at e
    cases e0 : cont st j with
    | none => rw [e0] at e; cases e
    | some x =>
      rw [e0] at e
      cases e1 : datas st ys with
      | none => rw [e1] at e; cases e
      | some xs =>
        obtain ⟨k1, k2⟩ := List.nodup_cons.mp k
        have n := nodup_io h t e1 k2
        obtain ⟨a, o, z1, _⟩ := h.own j x (cont_owns e0)
        rw [r] at z1; cases z1
        refine List.nodup_cons.mpr ⟨fun hm => ?_, n⟩
        obtain ⟨i, q1, q2⟩ := mem_ixs t hm
        have own_i : ∀ {ys : List (Sum D Nat)} {ds : List D}, datas st ys = some ds → i ∈ ixs ys → ∃ d, Owns st i d := fun {ys} => by
          induction ys with
          | nil => intro ds _ hh; simp [ixs] at hh
          | cons y ys ih =>
            intro ds ee hh
            cases y with
            | inl z =>
              unfold datas at ee
              cases e3 : datas st ys with
              | none => rw [e3] at ee; cases ee
              | some zs => exact ih e3 hh
            | inr z =>
              unfold datas at ee
              cases e4 : cont st z with
              | none => rw [e4] at ee; cases ee
              | some w =>
                rw [e4] at ee
                cases e3 : datas st ys with
                | none => rw [e3] at ee; cases ee
                | some zs =>
                  rcases List.mem_cons.mp hh with y1 | y1
                  · subst y1; exact ⟨w, cont_owns e4⟩
                  · exact ih e3 y1
        obtain ⟨d, oi⟩ := own_i e1 q1
        exact k1 (h.inj i j d x a oi (cont_owns e0) q2 r ▸ q1)
/-! ### behind the call -/
theorem setC_get_ne {st : DS} {j i : Nat} {d : D} (h : i ≠ j) : (setC st j d)[i]? = st[i]? := by
  unfold setC
  split <;> first | exact List.getElem?_set_ne (Ne.symm h) | rfl
theorem setC_len {st : DS} {j : Nat} {d : D} : (setC st j d).length = st.length := by
  unfold setC
  split <;> first | exact List.length_set | rfl
theorem setC_at {st : DS} {j : Nat} {d x : D} (h : Owns st j x) : ((setC st j d)[j]? = some (.ow d) ∧ st[j]? = some (.ow x)) ∨ ((setC st j d)[j]? = some (.io d) ∧ st[j]? = some (.io x)) := by
  unfold setC
  rcases h with h | h
  · have hi : j < st.length := (List.getElem?_eq_some_iff.mp h).1
    rw [h]
    exact .inl ⟨List.getElem?_set_self hi, rfl⟩
  · have hi : j < st.length := (List.getElem?_eq_some_iff.mp h).1
    rw [h]
    exact .inr ⟨List.getElem?_set_self hi, rfl⟩
theorem back_len : ∀ {js : List Nat} {ios : List D} {st st3 : DS}, back js ios st = some st3 → st3.length = st.length
  | [], [], st, st3, e => by simp only [back] at e; cases e; rfl
  | [], _ :: _, _, _, e => by simp [back] at e
  | _ :: _, [], _, _, e => by simp [back] at e
  | j :: js, d :: ios, st, st3, e => by
    rw [back_len (js := js) (ios := ios) (by simpa only [back] using e), setC_len]
theorem back_ne : ∀ {js : List Nat} {ios : List D} {st st3 : DS} {i : Nat}, back js ios st = some st3 → i ∉ js → st3[i]? = st[i]?
  | [], [], st, st3, _, e, _ => by simp only [back] at e; cases e; rfl
  | [], _ :: _, _, _, _, e, _ => by simp [back] at e
  | _ :: _, [], _, _, _, e, _ => by simp [back] at e
  | j :: js, d :: ios, st, st3, i, e, hi => by
    rw [back_ne (js := js) (ios := ios) (i := i) (by simpa only [back] using e) (fun z => hi (List.mem_cons_of_mem _ z)), setC_get_ne (fun z => hi (by rw [z]; exact List.mem_cons_self))]
theorem back_at : ∀ {js : List Nat} {ios : List D} {st st3 : DS} {i : Nat} {x : D}, back js ios st = some st3 → js.Nodup → i ∈ js → Owns st i x →
    ∃ d, (i, d) ∈ js.zip ios ∧ ((st3[i]? = some (.ow d) ∧ st[i]? = some (.ow x)) ∨ (st3[i]? = some (.io d) ∧ st[i]? = some (.io x)))
  | [], _, _, _, _, _, _, _, h, _ => by simp at h
  | _ :: _, [], _, _, _, _, e, _, _, _ => by simp [back] at e
  | j :: js, d :: ios, st, st3, i, x, e, nd, hi, ho => by
    obtain ⟨n1, n2⟩ := List.nodup_cons.mp nd
    have e' : back js ios (setC st j d) = some st3 := by simpa only [back] using e
    by_cases hj : i = j
    · subst hj
      have q := setC_at (d := d) ho
      rw [back_ne e' n1]
      exact ⟨d, List.mem_cons_self, q⟩
    · have hi' : i ∈ js := by
        rcases List.mem_cons.mp hi with z | z
        · exact absurd z hj
        · exact z
      have ho' : Owns (setC st j d) i x := by
        unfold Owns
        rw [setC_get_ne hj]
        exact ho
      obtain ⟨d', q1, q2⟩ := back_at e' n2 hi' ho'
      rw [setC_get_ne hj] at q2
      exact ⟨d', List.mem_cons_of_mem _ q1, q2⟩
theorem out_get {S S' H' : Hp} : ∀ {ms : List Bool} {vs : List V} {ys : List (Sum D Nat)} {ios : List D} {j : Nat} {d : D}, PrepR G S σ ms vs ys → OutR G S' H' ms vs ios → (j, d) ∈ (ixs ys).zip ios →
    ∃ a o, σ[j]? = some (some (.ref a)) ∧ H' a = some o ∧ Top G S' o d ∧ S' a = none ∧ a ∈ ioA ms vs
  | _, _, _, _, _, _, .nil, .nil, h => by simp [ixs] at h
  | false :: ms, v :: vs, _, _, _, _, .sh _ t, .sh q, h => by
    obtain ⟨a, o, h1, h2, h3, h4, h5⟩ := out_get t q h
    exact ⟨a, o, h1, h2, h3, h4, by cases v <;> exact h5⟩
  | _, _, _, _, _, _, .io r t, .io q1 q2 q3 q, h => by
    rcases List.mem_cons.mp h with z | z
    · cases z
      exact ⟨_, _, r, q1, q2, q3, List.mem_cons_self⟩
    · obtain ⟨a, o, h1, h2, h3, h4, h5⟩ := out_get t q z
      exact ⟨a, o, h1, h2, h3, h4, List.mem_cons_of_mem _ h5⟩
theorem datas_own {st : DS} {i : Nat} : ∀ {ys : List (Sum D Nat)} {ds : List D}, datas st ys = some ds → i ∈ ixs ys → ∃ d, Owns st i d := fun {ys} => by
  induction ys with
  | nil => intro ds _ hh; simp [ixs] at hh
  | cons y ys ih =>
    intro ds ee hh
    cases y with
    | inl z =>
      unfold datas at ee
      cases e3 : datas st ys with
      | none => rw [e3] at ee; cases ee
      | some zs => exact ih e3 hh
    | inr z =>
      unfold datas at ee
      cases e4 : cont st z with
      | none => rw [e4] at ee; cases ee
      | some w =>
        rw [e4] at ee
        cases e3 : datas st ys with
        | none => rw [e3] at ee; cases ee
        | some zs =>
          rcases List.mem_cons.mp hh with y1 | y1
          · subst y1; exact ⟨w, cont_owns e4⟩
          · exact ih e3 y1
/-- the caller's state behind the call -/
theorem back_ok {S S' H' : Hp} {st st3 : DS} {ms : List Bool} {vs : List V} {ys : List (Sum D Nat)} {ds ios : List D} (h : StR G P R S H σ st) (pr : PrepR G S σ ms vs ys) (ed : datas st ys = some ds) (nd : (ixs ys).Nodup)
    (e : Same S S') (l : Le S' H') (f : Frm (frame R H σ st (ixs ys)) S' H') (o : OutR G S' H' ms vs ios) (eb : back (ixs ys) ios st = some st3) :
    StR G P R S' H' σ st3 ∧ ∀ v a, ResR G (frame R H σ st (ixs ys)) S' H' (ioA ms vs) v a → RepV G R S' H' σ st3 v a := by
  -- an owner behind the call was one ahead of it
  have old : ∀ {i : Nat} {d : D}, Owns st3 i d → ∃ x, Owns st i x := fun {i d} q => by
    by_cases hi : i ∈ ixs ys
    · exact datas_own ed hi
    · unfold Owns at q
      rw [back_ne eb hi] at q
      exact ⟨d, q⟩
  have rfr : ∀ {b : Addr} {u : HO}, R b = some u → frame R H σ st (ixs ys) b = some u := fun {b u} q => by
    unfold frame
    rw [if_neg]
    · exact q
    · rintro ⟨i, d', q1, q2, _⟩
      obtain ⟨a, o', z1, _, _, _, z5⟩ := h.own i d' q1
      rw [q2] at z1; cases z1
      rw [q] at z5; cases z5
  have own3 : ∀ {i : Nat} {d : D}, Owns st3 i d → ∃ a u, σ[i]? = some (some (.ref a)) ∧ H' a = some u ∧ Top G S' u d ∧ S' a = none ∧ R a = none ∧ (i ∈ ixs ys → a ∈ ioA ms vs) ∧ (i ∉ ixs ys → frame R H σ st (ixs ys) a = some u) := fun {i d} q => by
    by_cases hi : i ∈ ixs ys
    · obtain ⟨x, ox⟩ := datas_own ed hi
      obtain ⟨d', q1, q2⟩ := back_at eb nd hi ox
      have ed' : d = d' := by
        unfold Owns at q
        rcases q2 with ⟨q2, _⟩ | ⟨q2, _⟩ <;> (rw [q2] at q; rcases q with q | q <;> first | (cases q; rfl) | cases q)
      subst ed'
      obtain ⟨a, u, h1, h2, h3, h4, h5⟩ := out_get pr o q1
      obtain ⟨b, _, z1, _, _, _, z5⟩ := h.own i x ox
      rw [h1] at z1; cases z1
      exact ⟨a, u, h1, h2, h3, h4, z5, fun _ => h5, fun z => absurd hi z⟩
    · have q' := q
      unfold Owns at q'
      rw [back_ne eb hi] at q'
      obtain ⟨a, u, z1, z2, z3, z4, z5⟩ := h.own i d q'
      have fa : frame R H σ st (ixs ys) a = some u := by
        unfold frame
        rw [if_pos ⟨i, d, q', z1, hi⟩]
        exact z2
      obtain ⟨f1, f2⟩ := f a u fa
      exact ⟨a, u, z1, f1, z3.mono e, f2.none z3.nofrz, z5, fun z => absurd z hi, fun _ => fa⟩
  refine ⟨⟨by rw [back_len eb]; exact h.len, h.tab.mono e, l, fun i d q => ?_, fun i d q => ?_, fun i j d d' a q1 q2 q3 q4 => ?_, fun i d q => ?_, fun a u q => f a u (rfr q)⟩, fun v a r => ?_⟩
  · have hi : i ∉ ixs ys := fun hi => by
      obtain ⟨x, ox⟩ := datas_own ed hi
      obtain ⟨d', _, q2⟩ := back_at eb nd hi ox
      rcases q2 with ⟨q2, _⟩ | ⟨q2, _⟩ <;> (rw [q2] at q; cases q)
    rw [back_ne eb hi] at q
    obtain ⟨v, z1, z2⟩ := h.val i d q
    exact ⟨v, z1, z2.mono e⟩
  · obtain ⟨a, u, h1, h2, h3, h4, h5, _⟩ := own3 q
    exact ⟨a, u, h1, h2, h3, h4, h5⟩
  · obtain ⟨x, ox⟩ := old q1
    obtain ⟨y, oy⟩ := old q2
    exact h.inj i j x y a ox oy q3 q4
  · by_cases hi : i ∈ ixs ys
    · obtain ⟨x, ox⟩ := datas_own ed hi
      obtain ⟨d', _, q2⟩ := back_at eb nd hi ox
      rcases q2 with ⟨q2, _⟩ | ⟨q2, q3⟩
      · rw [q2] at q; cases q
      · exact h.pin i x q3
    · rw [back_ne eb hi] at q
      exact h.pin i d q
  · cases a with
    | d x => exact r
    | sl i => exact r.elim
    | fr x =>
      obtain ⟨p, u, r1, r2, r3, r4, r5, r6⟩ := r
      refine ⟨p, u, r1, r2, r3, r4, ?_, fun i d q z => ?_⟩
      · cases er : R p with
        | none => rfl
        | some u' => rw [rfr er] at r5; cases r5
      · obtain ⟨a, u', h1, _, _, _, _, h6, h7⟩ := own3 q
        rw [h1] at z; cases z
        by_cases hi : i ∈ ixs ys
        · exact r6 (h6 hi)
        · rw [h7 hi] at r5; cases r5
    | nk x k =>
      obtain ⟨t, b, xs, ws, es, us, q1, q2, q3, q4, q5, q6, q7, q8, q9, q10, q11⟩ := r
      refine ⟨t, b, xs, ws, es, us, q1, q2, q3, q4, q5, q6, q7, q8, q9, fun z => ?_, q11⟩
      rcases z with z | z
      · cases er : R b with
        | none => exact z er
        | some u' => exact q10 (.inl (by rw [rfr er]; exact fun y => by cases y))
      · refine z fun i d q y => ?_
        obtain ⟨a, u', h1, _, _, _, _, h6, h7⟩ := own3 q
        rw [h1] at y; cases y
        by_cases hi : i ∈ ixs ys
        · exact q10 (.inr (h6 hi))
        · exact q10 (.inl (by rw [h7 hi]; exact fun y => by cases y))
end
theorem Pvs.append {G : Gx} {S : Hp} {σ : L2.St} : ∀ {vs us : List V} {as bs : List Val}, Pvs G S σ vs as → Pvs G S σ us bs → Pvs G S σ (vs ++ us) (as ++ bs)
  | _, _, _, _, .nil, t => t
  | _, _, _, _, .cons h r, t => .cons h (r.append t)
theorem pvs_d {G : Gx} {S : Hp} {σ : L2.St} : ∀ {vs : List V} {ds : List D}, RepAll G S vs ds → Pvs G S σ vs (ds.map .d)
  | _, _, .nil => .nil
  | _, _, .cons h t => .cons h (pvs_d t)
section
variable {X : Cx} {W : WX}
theorem tcall_of {G : Gx} {W : WX} {F : FnD} {ms : List Bool} {dvs : List V} {dd : List D} {ga : GA} (hd : ∀ S, RepAll G S dvs dd) : ∀ σ H Q, tD G W (gCall F ms dd ga) σ H Q → tCallSD (spOf G ms F) dvs (WE W) (tDA G W ga) σ H Q := by
  rintro σ H Q ⟨P, R, S, st, h, fi⟩
  refine ⟨P, R, S, st, h, Fin.imp (Fin.bind fi) fun as st1 S1 H1 e1 h1 k vs ps => ?_⟩
  cases ep : prep ms st1 (as ++ dd.map .d) with
  | none => rw [ep] at k; exact k.elim
  | some p =>
    obtain ⟨ys, st2⟩ := p
    rw [ep] at k
    dsimp only at k
    by_cases nd : (ixs ys).Nodup
    · rw [if_pos nd] at k
      cases ed : datas st2 ys with
      | none => rw [ed] at k; exact k.elim
      | some ds =>
        rw [ed] at k
        dsimp only at k
        obtain ⟨S2, e2, h2, pr⟩ := prep_ok h1 (ps.append (pvs_d (hd S1))) ep
        refine ⟨frame R H1 σ st2 (ixs ys), S2, ds, h2.sub, h2.tab, frame_of h2, arg_ok h2 pr ed (fun j hj => hj), nodup_io h2 pr ed nd, ?_⟩
        cases ef : F ds with
        | no => rw [ef] at k; exact k.elim
        | ok a ios =>
          rw [ef] at k
          dsimp only at k
          intro v S' H' e3 l f o r
          cases eb : back (ixs ys) ios st2 with
          | none => rw [eb] at k; exact k.elim
          | some st3 =>
            rw [eb] at k
            obtain ⟨h3, r3⟩ := back_ok h2 pr ed nd e3 l f o eb
            exact k S' H' (e2.trans e3) h3 v (r3 v a r)
        | ex x ios =>
          rw [ef] at k
          dsimp only at k
          intro cls d S' H' e3 l f o r
          cases eb : back (ixs ys) ios st2 with
          | none => rw [eb] at k; exact k.elim
          | some st3 =>
            rw [eb] at k
            obtain ⟨h3, _⟩ := back_ok h2 pr ed nd e3 l f o eb
            exact k cls d S' H' (e2.trans e3) h3 r
    · rw [if_neg nd] at k
      exact k.elim
theorem de_call {x : Str} {p pos : Pos} {e : Expr} {es : List Expr} {k : Nat} {f : Addr} {fd : FuncData} {ps : List Str} {ms : List Bool} {F : FnD} {dvs : List V} {ds : List Value} {dd : List D} {ga : GA} (Fn : FnG X.prog X.w X.K X.mg X.base k f fd ps (spOf (gx X) ms F))
    (hr : Room k X.A) (hgu : X.A.guards = some []) (hg : Gl X x) (hm : X.mg x = some (.ref f)) (hk : PySem.W.keepIn X.K (.ref f) = true) (hb : Binds X.K fd ps ds) (hd : Vals dvs ds) (hdd : ∀ S, RepAll (gx X) S dvs dd) (tk : Takes X W) (ha : DA X W (e :: es) ga) (hdb : (x == ("__debug__" : Str)) = false)
    (he : starEach (e :: es) X.env = (false, eval e X.env) :: starEach es X.env) (hpl : (backTo pos (starEach es X.env)).any (·.1) = false) : DE X W (.Call (.Name x p) (e :: es) [] pos) (gCall F ms dd ga) :=
  pe_imp (pe_g Fn hr hgu hg hm hk hb hd (fun σ => passAt tk σ) ha hdb he hpl) (tcall_of hdd)
end
end DL
end
section
/-! DLh: the operators and built-ins on data. -/
namespace DL
open PySem PySem.Spec PyProof.Rows L2
def vi (i : Int) : Option Val := some (.d (.int i))
def vb (b : Bool) : Option Val := some (.d (.bl b))
def vs (x : Str) : Option Val := some (.d (.str x))
abbrev F2 := D → D → Option Val
def orF (f g : F2) : F2 := fun x y => match f x y with
  | some c => some c
  | none => g x y
def ints2 (f : Int → Int → Option Val) : F2
  | .int i, .int j => f i j
  | _, _ => none
def strs2 (f : Str → Str → Option Val) : F2
  | .str i, .str j => f i j
  | _, _ => none
section
variable {G : Gx}
theorem OpS.or {r r' : R2} {f g : F2} (h : OpS G r f) (h' : OpS G r' g) : OpS G (fun x y H Q => r x y H Q ∨ r' x y H Q) (orF f g) := fun P R S H σ st v u x y c Q hs hv hu e k => by
  unfold orF at e
  cases ef : f x y with
  | some c' =>
    rw [ef] at e
    cases e
    exact .inl (h P R S H σ st v u x y c Q hs hv hu ef k)
  | none =>
    rw [ef] at e
    exact .inr (h' P R S H σ st v u x y c Q hs hv hu e k)
theorem opS_rI {C : Int → Int → Prop} {g : Int → Int → Int} (c : Int → Int → Bool) (hc : ∀ i j, c i j = true → C i j) : OpS G (rI C (fun i j => .int (g i j))) (ints2 fun i j => if c i j = true then vi (g i j) else none) := fun P R S H σ st v u x y cc Q hs hv hu e k => by
  unfold ints2 at e
  split at e
  · rename_i i j
    dsimp only at e
    split at e
    · rename_i hcc
      cases e
      exact ⟨i, j, hv.int, hu.int, hc i j hcc, k _ S H (Same.refl S) hs (.int _)⟩
    · cases e
  · cases e
theorem opS_rI0 {g : Int → Int → Int} : OpS G (rI0 (fun i j => .int (g i j))) (ints2 fun i j => vi (g i j)) := fun P R S H σ st v u x y cc Q hs hv hu e k => by
  unfold ints2 at e
  split at e
  · rename_i i j
    cases e
    exact ⟨i, j, hv.int, hu.int, k _ S H (Same.refl S) hs (.int _)⟩
  · cases e
theorem opS_rB {g : Int → Int → Bool} : OpS G (rI0 (fun i j => .bl (g i j))) (ints2 fun i j => vb (g i j)) := fun P R S H σ st v u x y cc Q hs hv hu e k => by
  unfold ints2 at e
  split at e
  · rename_i i j
    cases e
    exact ⟨i, j, hv.int, hu.int, k _ S H (Same.refl S) hs (.bl _)⟩
  · cases e
/-! ### + -/
def fits (n : Nat) : Bool := decide (n ≤ sizeLine)
theorem fits_of {n : Nat} (h : fits n = true) : n ≤ sizeLine := of_decide_eq_true h
def catF : F2
  | .lst xs, .lst ys => if fits (xs.length + ys.length) = true then some (.fr (.lst (xs ++ ys))) else none
  | _, _ => none
theorem opS_cat : OpS G rCat catF := fun P R S H σ st v u x y cc Q hs hv hu e k => by
  unfold catF at e
  split at e
  · rename_i xs ys
    split at e
    · rename_i hz
      cases e
      obtain ⟨a, as, rfl, ha, ra⟩ := hv.lst hs.sub
      obtain ⟨b, bs, rfl, hb, rb⟩ := hu.lst hs.sub
      refine ⟨a, b, as, bs, rfl, rfl, ha, hb, by rw [ra.length, rb.length]; exact fits_of hz, fun p np => ?_⟩
      obtain ⟨h3, f3⟩ := hs.alloc np (.lst (ra.append rb))
      exact k _ S _ (Same.refl S) h3 f3
    · cases e
  · cases e
def addSF : F2 := strs2 fun x y => if fits (x.length + y.length) = true then vs (x ++ y) else none
theorem opS_addS : OpS G (fun x y H Q => ∃ i j, x = .str i ∧ y = .str j ∧ i.length + j.length ≤ sizeLine ∧ Q (.str (i ++ j)) H) addSF := fun P R S H σ st v u x y cc Q hs hv hu e k => by
  unfold addSF strs2 at e
  split at e
  · rename_i i j
    dsimp only at e
    split at e
    · rename_i hz
      cases e
      exact ⟨i, j, hv.str, hu.str, fits_of hz, k _ S H (Same.refl S) hs (.str _)⟩
    · cases e
  · cases e
def addF : F2 := orF (ints2 fun i j => vi (i + j)) (orF addSF catF)
def subF : F2 := ints2 fun i j => vi (i - j)
def mulC (i j : Int) : Bool := (decide (-(2 ^ 64) < i) && decide (i < 2 ^ 64)) || (decide (-(2 ^ 64) < j) && decide (j < 2 ^ 64))
def mulW (i j : Int) : Bool := decide (i.natAbs.log2 + j.natAbs.log2 < 1000000)
@[irreducible] def mulF : F2 := orF (ints2 fun i j => if mulC i j = true then vi (i * j) else none) (ints2 fun i j => if mulW i j = true then vi (i * j) else none)
def fdivC (_ j : Int) : Bool := decide (0 < j) && decide (j.natAbs.log2 < 9000)
@[irreducible] def fdivF : F2 := ints2 fun i j => if fdivC i j = true then vi (i / j) else none
@[irreducible] def modF : F2 := ints2 fun i j => if decide (0 < j) = true then vi (i % j) else none
def powC (i j : Int) : Bool := decide (0 ≤ j) && decide (j ≤ 1000000) && decide (i.natAbs < 2 ^ 64)
@[irreducible] def powF : F2 := ints2 fun i j => if powC i j = true then vi (i ^ j.toNat) else none
theorem mulC_ok {i j : Int} (h : mulC i j = true) : CMul i j := by
  unfold mulC at h
  rw [Bool.or_eq_true, Bool.and_eq_true, Bool.and_eq_true, decide_eq_true_eq, decide_eq_true_eq, decide_eq_true_eq, decide_eq_true_eq] at h
  exact h
theorem fdivC_ok {i j : Int} (h : fdivC i j = true) : CDivW i j := by
  unfold fdivC at h
  rw [Bool.and_eq_true, decide_eq_true_eq, decide_eq_true_eq] at h
  exact h
theorem powC_ok {i j : Int} (h : powC i j = true) : CPow i j := by
  unfold powC at h
  rw [Bool.and_eq_true, Bool.and_eq_true, decide_eq_true_eq, decide_eq_true_eq, decide_eq_true_eq] at h
  exact ⟨h.1.1, h.1.2, h.2⟩
end
section
variable {X : Cx} {W : WX} {a b : Expr} {ga gb : GE} {pos : Pos}
theorem de_add (ha : DE X W a ga) (hb : DE X W b gb) : DE X W (.BinOp a .Add b pos) (gOp2 addF ga gb) := de_op (op_add.or (op_add_str.or op_cat)) (opS_rI0.or (opS_addS.or opS_cat)) ha hb
theorem de_sub (ha : DE X W a ga) (hb : DE X W b gb) : DE X W (.BinOp a .Sub b pos) (gOp2 subF ga gb) := de_op op_sub opS_rI0 ha hb
theorem de_mul (ha : DE X W a ga) (hb : DE X W b gb) : DE X W (.BinOp a .Mult b pos) (gOp2 mulF ga gb) := by
  unfold mulF
  exact de_op (op_mul.or op_mulW) ((opS_rI mulC fun _ _ h => mulC_ok h).or (opS_rI mulW fun i j h => (of_decide_eq_true h : i.natAbs.log2 + j.natAbs.log2 < 1000000))) ha hb
theorem de_fdiv (ha : DE X W a ga) (hb : DE X W b gb) : DE X W (.BinOp a .FloorDiv b pos) (gOp2 fdivF ga gb) := by
  unfold fdivF
  exact de_op op_fdivW (opS_rI fdivC fun _ _ h => fdivC_ok h) ha hb
theorem de_mod (ha : DE X W a ga) (hb : DE X W b gb) : DE X W (.BinOp a .Mod b pos) (gOp2 modF ga gb) := by
  unfold modF
  exact de_op op_mod (opS_rI (fun _ j => decide (0 < j)) fun _ _ h => of_decide_eq_true h) ha hb
theorem de_pow (ha : DE X W a ga) (hb : DE X W b gb) : DE X W (.BinOp a .Pow b pos) (gOp2 powF ga gb) := by
  unfold powF
  exact de_op op_pow (opS_rI powC fun _ _ h => powC_ok h) ha hb
/-! ### one operand -/
def gOp1 (f : D → Option Val) (g : GE) : GE := fun st => (g st).bind fun a st1 => match look st1 a with
  | some x => lift (f x) st1
  | none => .no
def negF : D → Option Val
  | .int i => vi (-i)
  | _ => none
theorem de_neg (ha : DE X W a ga) : DE X W (.UnaryOp .USub a pos) (gOp1 negF ga) :=
  pe_imp (pe_un un_neg ha) fun σ H Q ⟨P, R, S, st, h, fi⟩ => ⟨P, R, S, st, h, Fin.imp (Fin.bind fi) fun a st1 S1 H1 e1 h1 k v rv => by
    obtain ⟨S2, e2, h2, pv⟩ := h1.settle rv
    cases ea : look st1 a with
    | none => rw [ea] at k; exact k.elim
    | some x =>
      rw [ea] at k
      cases x with
      | int i =>
        have := (pv.look h2 ea).int
        exact ⟨i, this, k S1 H1 (Same.refl _) h1 _ (.int _)⟩
      | _ => exact k.elim⟩
end
/-! ### order -/
def ltF : F2 := ints2 fun i j => vb (decide (i < j))
def gtF : F2 := ints2 fun i j => vb (decide (j < i))
def geF : F2 := ints2 fun i j => vb (decide (j ≤ i))
section
variable {X : Cx} {W : WX} {a b c : Expr} {ga gb gc : GE} {pos : Pos}
theorem de_lt (ha : DE X W a ga) (hb : DE X W b gb) : DE X W (.Compare a [.Lt] [b] pos) (gOp2 ltF ga gb) := de_cmp op_lt opS_rB ha hb (nomark _)
theorem de_gt (ha : DE X W a ga) (hb : DE X W b gb) : DE X W (.Compare a [.Gt] [b] pos) (gOp2 gtF ga gb) := de_cmp op_gt opS_rB ha hb (nomark _)
theorem de_ge (ha : DE X W a ga) (hb : DE X W b gb) : DE X W (.Compare a [.GtE] [b] pos) (gOp2 geF ga gb) := de_cmp op_ge opS_rB ha hb (nomark _)
theorem dt_lt (ha : DE X W a ga) (hb : DE X W b gb) : DT X W (.Compare a [.Lt] [b] pos) (gTst (gOp2 ltF ga gb)) := dt_cmp op_lt opS_rB ha hb (nomark _)
theorem dt_gt (ha : DE X W a ga) (hb : DE X W b gb) : DT X W (.Compare a [.Gt] [b] pos) (gTst (gOp2 gtF ga gb)) := dt_cmp op_gt opS_rB ha hb (nomark _)
end
/-! ### == and != -/
mutual
def py : D → Option PyData
  | .non => some .none
  | .bl b => some (.bool b)
  | .int i => some (.int i)
  | .str x => some (.str x)
  | .lst xs => (pys xs).map .list
  | .tup xs => (pys xs).map .tuple
  | .dct _ => none
  | .ins _ _ => none
  | .ty _ => none
  | .cls _ => none
  | .scr _ => none
  | .clo _ _ _ => none
def pys : List D → Option (List PyData)
  | [] => some []
  | x :: xs => match py x, pys xs with
    | some d, some ds => some (d :: ds)
    | _, _ => none
end
section
variable {G : Gx} {S H : Hp}
mutual
theorem dp_of (l : Le S H) : ∀ {x : D} {d : PyData} {v : V}, py x = some d → Rep G S v x → Dp G.K H v d
  | .non, _, _, e, r => by cases e; cases r; exact .non
  | .bl b, _, _, e, r => by cases e; cases r; exact .bl b
  | .int i, _, _, e, r => by cases e; cases r; exact .int i
  | .str x, _, _, e, r => by cases e; cases r; exact .str x
  | .lst xs, d, v, e, r => by
    unfold py at e
    cases e1 : pys xs with
    | none => rw [e1] at e; cases e
    | some ds =>
      rw [e1] at e
      cases e
      cases r with
      | lst h ra => exact .lst (SqL.of (l.lst h)) (dps_of l e1 ra)
  | .tup xs, d, v, e, r => by
    unfold py at e
    cases e1 : pys xs with
    | none => rw [e1] at e; cases e
    | some ds =>
      rw [e1] at e
      cases e
      obtain ⟨a, ys, rfl, ha, ra⟩ := r.tupAt
      exact .tup (l.tupAt ha).sq (dps_of l e1 ra)
  | .dct _, _, _, e, _ => by simp [py] at e
  | .ins _ _, _, _, e, _ => by simp [py] at e
  | .ty _, _, _, e, _ => by simp [py] at e
  | .cls _, _, _, e, _ => by simp [py] at e
  | .scr _, _, _, e, _ => by simp [py] at e
  | .clo _ _ _, _, _, e, _ => by simp [py] at e
theorem dps_of (l : Le S H) : ∀ {xs : List D} {ds : List PyData} {vs : List V}, pys xs = some ds → RepAll G S vs xs → DpAll G.K H vs ds
  | [], _, _, e, r => by simp only [pys] at e; cases e; cases r; exact .nil
  | x :: xs, ds, vs, e, r => by
    unfold pys at e
    cases e1 : py x with
    | none => rw [e1] at e; cases e
    | some d =>
      rw [e1] at e
      cases e2 : pys xs with
      | none => rw [e2] at e; cases e
      | some ds' =>
        rw [e2] at e
        cases e
        cases r with
        | cons r1 r2 => exact .cons (dp_of l e1 r1) (dps_of l e2 r2)
end
theorem dpT_of (l : Le S H) {x : D} {d : PyData} {v : V} (e : py x = some d) (r : RepT G S H v x) : Dp G.K H v d := by
  rcases r with r | ⟨a, o, rfl, ha, t⟩
  · exact dp_of l e r
  · cases t with
    | lst ra =>
      unfold py at e
      cases e1 : pys _ with
      | none => rw [e1] at e; cases e
      | some ds => rw [e1] at e; cases e; exact .lst (SqL.of ha) (dps_of l e1 ra)
    | dK _ => simp [py] at e
    | dT _ _ => simp [py] at e
    | ins _ _ => simp [py] at e
end
/-- the answer of == -/
def eqD (x y : D) : Option Bool := match x, y with
  | .int i, .int j => some (i == j)
  | .str i, .str j => some (i == j)
  | .bl i, .bl j => some (i == j)
  | x, y => match py x, py y with
    | some d, some e => if (SeqAt.shaped d && SeqAt.shaped e) = true then some (PyData.eqv d e) else none
    | _, _ => none
def eqF : F2 := fun x y => match eqD x y with
  | some b => vb b
  | none => none
def neF : F2 := fun x y => match eqD x y with
  | some b => vb (!b)
  | none => none
theorem eqD_ok {G : Gx} {S H : Hp} {v u : V} {x y : D} {b : Bool} (l : Le S H) (hv : RepT G S H v x) (hu : RepT G S H u y) (e : eqD x y = some b) :
    (scal v u = true ∧ decide (v = u) = b) ∨ ∃ d d', Dp G.K H v d ∧ Dp G.K H u d' ∧ SeqAt.shaped d = true ∧ SeqAt.shaped d' = true ∧ PyData.eqv d d' = b := by
  unfold eqD at e
  split at e
  · cases e; rw [hv.int, hu.int]; exact .inl ⟨rfl, dec_int⟩
  · cases e; rw [hv.str, hu.str]; exact .inl ⟨rfl, dec_str⟩
  · cases e; rw [hv.bl, hu.bl]; exact .inl ⟨rfl, dec_bl⟩
  · cases e1 : py x with
    | none => rw [e1] at e; cases e
    | some d =>
      rw [e1] at e
      cases e2 : py y with
      | none => rw [e2] at e; cases e
      | some d' =>
        rw [e2] at e
        dsimp only at e
        split at e
        · rename_i hs
          cases e
          rw [Bool.and_eq_true] at hs
          exact .inr ⟨d, d', dpT_of l e1 hv, dpT_of l e2 hu, hs.1, hs.2, rfl⟩
        · cases e
theorem opS_eq {G : Gx} : OpS G (fun x y H Q => rEq x y H Q ∨ rEqD G.K x y H Q) eqF := fun P R S H σ st v u x y cc Q hs hv hu e k => by
  unfold eqF at e
  cases eb : eqD x y with
  | none => rw [eb] at e; cases e
  | some b =>
    rw [eb] at e
    cases e
    have q := k (.bl b) S H (Same.refl S) hs (.bl b)
    rcases eqD_ok hs.sub hv hu eb with ⟨h1, h2⟩ | ⟨d, d', h1, h2, h3, h4, h5⟩
    · exact .inl ⟨h1, by rw [h2]; exact q⟩
    · exact .inr ⟨d, d', h1, h2, h3, h4, by rw [h5]; exact q⟩
theorem opS_ne {G : Gx} : OpS G (fun x y H Q => rNe x y H Q ∨ rNeD G.K x y H Q) neF := fun P R S H σ st v u x y cc Q hs hv hu e k => by
  unfold neF at e
  cases eb : eqD x y with
  | none => rw [eb] at e; cases e
  | some b =>
    rw [eb] at e
    cases e
    have q := k (.bl (!b)) S H (Same.refl S) hs (.bl (!b))
    rcases eqD_ok hs.sub hv hu eb with ⟨h1, h2⟩ | ⟨d, d', h1, h2, h3, h4, h5⟩
    · exact .inl ⟨h1, by rw [h2]; exact q⟩
    · exact .inr ⟨d, d', h1, h2, h3, h4, by rw [h5]; exact q⟩
section
variable {X : Cx} {W : WX} {a b c : Expr} {ga gb gc : GE} {pos : Pos}
theorem de_eq (hu : X.A.units + 64 < cLine) (ha : DE X W a ga) (hb : DE X W b gb) : DE X W (.Compare a [.Eq] [b] pos) (gOp2 eqF ga gb) := de_cmp (op_eq.or (op_eqD hu)) opS_eq ha hb (nomark _)
theorem de_ne (hu : X.A.units + 64 < cLine) (ha : DE X W a ga) (hb : DE X W b gb) : DE X W (.Compare a [.NotEq] [b] pos) (gOp2 neF ga gb) := de_cmp (op_ne.or (op_neD hu)) opS_ne ha hb (nomark _)
theorem dt_eq (hu : X.A.units + 64 < cLine) (ha : DE X W a ga) (hb : DE X W b gb) : DT X W (.Compare a [.Eq] [b] pos) (gTst (gOp2 eqF ga gb)) := dt_cmp (op_eq.or (op_eqD hu)) opS_eq ha hb (nomark _)
theorem dt_ne (hu : X.A.units + 64 < cLine) (ha : DE X W a ga) (hb : DE X W b gb) : DT X W (.Compare a [.NotEq] [b] pos) (gTst (gOp2 neF ga gb)) := dt_cmp (op_ne.or (op_neD hu)) opS_ne ha hb (nomark _)
end
/-! ### items -/
def itemF : F2
  | .lst xs, .int i => (atI xs i).map .d
  | .tup xs, .int i => (atI xs i).map .d
  | .scr ns, .int i => (atI ns i).map fun n => .d (.int n)
  | .str x, .int i => if fits x.length = true then (atI x.cps.toList i).map fun c => .d (.str ⟨#[c]⟩) else none
  | _, _ => none
theorem atI_rep {G : Gx} {S : Hp} {vs : List V} {ds : List D} {i : Int} {d : D} (r : RepAll G S vs ds) (e : atI ds i = some d) : ∃ v, atI vs i = some v ∧ Rep G S v d := by
  unfold atI at e ⊢
  rw [r.length]
  cases q : ixN ds.length i with
  | none => rw [q] at e; cases e
  | some j =>
    rw [q] at e
    exact r.get e
theorem opS_item {G : Gx} : OpS G (rIx G.K) itemF := fun P R S H σ st v u x y cc Q hs hv hu e k => by
  unfold itemF at e
  split at e
  · rename_i xs i
    cases q : atI xs i with
    | none => rw [q] at e; cases e
    | some d =>
      rw [q] at e
      cases e
      obtain ⟨a, as, rfl, ha, ra⟩ := hv.lst hs.sub
      obtain ⟨w, h1, h2⟩ := atI_rep ra q
      exact .inl ⟨a, as, i, w, rfl, hu.int, SqL.of ha, h1, k w S H (Same.refl S) hs h2⟩
  · rename_i xs i
    cases q : atI xs i with
    | none => rw [q] at e; cases e
    | some d =>
      rw [q] at e
      cases e
      obtain ⟨a, as, rfl, ha, ra⟩ := hv.tup hs.sub
      obtain ⟨w, h1, h2⟩ := atI_rep ra q
      exact .inr (.inl ⟨a, as, i, w, rfl, hu.int, ha.sq, h1, k w S H (Same.refl S) hs h2⟩)
  · rename_i ns i
    cases q : atI ns i with
    | none => rw [q] at e; cases e
    | some n =>
      rw [q] at e
      cases e
      obtain ⟨a, rfl, ha⟩ := hv.scr hs.sub
      have h1 : atI (ns.map V.int) i = some (V.int n) := by
        unfold atI at q ⊢
        rw [List.length_map]
        cases z : ixN ns.length i with
        | none => rw [z] at q; cases q
        | some j =>
          rw [z] at q
          have q' : ns[j]? = some n := q
          show (ns.map V.int)[j]? = some (V.int n)
          rw [List.getElem?_map, q']
          rfl
      exact .inl ⟨a, _, i, _, rfl, hu.int, ha, h1, k _ S H (Same.refl S) hs (.int n)⟩
  · rename_i x i
    split at e
    · rename_i hz
      cases q : atI x.cps.toList i with
      | none => rw [q] at e; cases e
      | some c =>
        rw [q] at e
        cases e
        exact .inr (.inr ⟨x, i, c, hv.str, hu.int, fits_of hz, q, k _ S H (Same.refl S) hs (.str _)⟩)
    · cases e
  · cases e
section
variable {X : Cx} {W : WX} {a b c : Expr} {ga gb gc : GE} {pos : Pos}
theorem de_item (ha : DE X W a ga) (hb : DE X W b gb) (hs : PlainIx b) : DE X W (.Subscript a b pos) (gOp2 itemF ga gb) := de_ix ix_seq opS_item ha hb hs
end
/-! ### slices -/
def cut {α : Type} (xs : List α) (lo hi : Option Int) : List α := (xs.drop (HT.sIx xs.length 0 lo)).take (HT.sIx xs.length xs.length hi - HT.sIx xs.length 0 lo)
def slF : D → Option Int → Option Int → Option Val
  | .lst xs, lo, hi => some (.fr (.lst (cut xs lo hi)))
  | .scr ns, lo, hi => some (.fr (.lst ((cut ns lo hi).map .int)))
  | .str x, lo, hi => if fits x.length = true then vs (cutS x lo hi) else none
  | _, _, _ => none
abbrev GO := DS → Rs (Option Int)
def gNoPart : GO := fun st => .ok none st
def gPart (g : GE) : GO := fun st => (g st).bind fun a st1 => match look st1 a with
  | some (.int i) => .ok (some i) st1
  | _ => .no
def gSl (g : GE) (gl gh : GO) : GE := fun st => (g st).bind fun a st1 => (gl st1).bind fun lo st2 => (gh st2).bind fun hi st3 => match look st3 a with
  | some x => lift (slF x lo hi) st3
  | none => .no
def tDO (G : Gx) (W : WX) (g : GO) : TO := fun σ H Q => ∃ P R S st, StR G P R S H σ st ∧ Fin G P R W σ S (g st) fun o _ _ H' => Q o H'
abbrev DO (X : Cx) (W : WX) (e : Option Expr) (g : GO) : Prop := PO X e (tDO (gx X) W g)
theorem po_imp {X : Cx} {e : Option Expr} {t t' : TO} (h : PO X e t) (q : ∀ σ H Q, t' σ H Q → t σ H Q) : PO X e t' := ⟨fun pins s σ H Q I z => h.run pins s σ H Q I (q σ H Q z)⟩
theorem slR_or {X : Cx} {r r' : V → Option Int → Option Int → Hp → VK → Prop} (h : SlR X r) (h' : SlR X r') : SlR X (fun x lo hi H Q => r x lo hi H Q ∨ r' x lo hi H Q) := by
  intro pins s σ H x v vl vu lo hi sl Q I rx hs pl pu z
  rcases z with z | z
  · exact h pins s σ H x v vl vu lo hi sl Q I rx hs pl pu z
  · exact h' pins s σ H x v vl vu lo hi sl Q I rx hs pl pu z
theorem repAll_cut {G : Gx} {S : Hp} {vs : List V} {ds : List D} (r : RepAll G S vs ds) (lo hi : Option Int) : RepAll G S (cutV vs lo hi) (cut ds lo hi) := by
  unfold cutV cut
  rw [r.length]
  exact (r.drop _).take _
theorem cut_map {α β : Type} (f : α → β) (xs : List α) (lo hi : Option Int) : cut (xs.map f) lo hi = (cut xs lo hi).map f := by
  unfold cut
  rw [List.length_map, List.map_take, List.map_drop]
section
variable {X : Cx} {W : WX} {e : Expr} {g : GE} {lo hi : Option Expr} {gl gh : GO} {pos p2 : Pos}
theorem do_none : DO X W none gNoPart := po_imp po_none fun σ H Q ⟨P, R, S, st, h, f⟩ => f S H (Same.refl S) h
theorem do_some (h : DE X W e g) : DO X W (some e) (gPart g) :=
  po_imp (po_some h) fun σ H Q ⟨P, R, S, st, h, fi⟩ => ⟨P, R, S, st, h, Fin.imp (Fin.bind fi) fun a st1 S1 H1 e1 h1 k v rv => by
    obtain ⟨S2, e2, h2, pv⟩ := h1.settle rv
    cases ea : look st1 a with
    | none => rw [ea] at k; exact k.elim
    | some x =>
      rw [ea] at k
      cases x with
      | int i =>
        have := (pv.look h2 ea).int
        exact ⟨i, this, k S1 H1 (Same.refl _) h1⟩
      | _ => exact k.elim⟩
theorem de_slice (he : DE X W e g) (hl : DO X W lo gl) (hh : DO X W hi gh) : DE X W (.Subscript e (.Slice lo hi none p2) pos) (gSl g gl gh) :=
  pe_imp (pe_slice (slR_or sl_list sl_str) he hl hh) fun σ H Q ⟨P, R, S, st, h, fi⟩ => ⟨P, R, S, st, h, Fin.imp (Fin.bind fi) fun a st1 S1 H1 e1 h1 k v rv => by
    obtain ⟨S2, e2, h2, pv⟩ := h1.settle rv
    refine ⟨P, R, S2, st1, h2, Fin.imp (Fin.bind (Fin.up k e2)) fun l st3 S3 H3 e3 h3 k3 => ⟨P, R, S3, st3, h3, Fin.imp (Fin.bind k3) fun u st4 S4 H4 e4 h4 k4 => ?_⟩⟩
    have pv' := pv.mono (e3.trans e4)
    cases ea : look st4 a with
    | none => rw [ea] at k4; exact k4.elim
    | some x =>
      rw [ea] at k4
      dsimp only at k4
      cases ec : slF x l u with
      | none => rw [ec] at k4; exact k4.elim
      | some c =>
        rw [ec] at k4
        have rt := pv'.look h4 ea
        cases x with
        | lst xs =>
          cases ec
          obtain ⟨b, bs, rfl, hb, rb⟩ := rt.lst h4.sub
          refine .inl ⟨b, bs, rfl, SqL.of hb, fun p np => ?_⟩
          obtain ⟨h5, f5⟩ := h4.alloc np (.lst (repAll_cut rb l u))
          exact k4 S4 _ (Same.refl _) h5 _ f5
        | scr ns =>
          cases ec
          obtain ⟨b, rfl, hb⟩ := rt.scr h4.sub
          refine .inl ⟨b, _, rfl, hb, fun p np => ?_⟩
          have r0 := repAll_cut (repAll_ints (G := gx X) (S := S4) ns) l u
          rw [cut_map] at r0
          obtain ⟨h5, f5⟩ := h4.alloc np (.lst r0)
          exact k4 S4 _ (Same.refl _) h5 _ f5
        | str z =>
          unfold slF at ec
          dsimp only at ec
          split at ec
          · rename_i hz
            cases ec
            exact .inr ⟨z, rt.str, fits_of hz, k4 S4 H4 (Same.refl _) h4 _ (.str _)⟩
          · cases ec
        | _ => cases ec⟩
end
/-! ### changing what a slot owns -/
theorem StR.mut {G : Gx} {P : Pin} {R S H : Hp} {σ : L2.St} {st : DS} {i : Nat} {d d' : D} {a : Addr} {o' : HO} (h : StR G P R S H σ st) (ho : Owns st i d) (hv : σ[i]? = some (some (.ref a))) (t : Top G S o' d') : StR G P R S (upd H a o') σ (setC st i d') := by
  obtain ⟨b, u, z1, z2, z3, z4, z5⟩ := h.own i d ho
  rw [hv] at z1; cases z1
  have atI' := setC_at (d := d') ho
  have old : ∀ {j : Nat} {e : D}, Owns (setC st i d') j e → (j = i ∧ e = d') ∨ (j ≠ i ∧ Owns st j e) := fun {j e} q => by
    by_cases hj : j = i
    · subst hj
      refine .inl ⟨rfl, ?_⟩
      unfold Owns at q
      rcases atI' with ⟨y, _⟩ | ⟨y, _⟩ <;> (rw [y] at q; rcases q with q | q <;> first | (cases q; rfl) | cases q)
    · refine .inr ⟨hj, ?_⟩
      unfold Owns at q
      rw [setC_get_ne hj] at q
      exact q
  refine ⟨by rw [setC_len]; exact h.len, h.tab, fun c w q => ?_, fun j e q => ?_, fun j e q => ?_, fun j k e e' c q1 q2 q3 q4 => ?_, fun j e q => ?_, fun c w q => ?_⟩
  · have : c ≠ a := fun z => by subst z; rw [z4] at q; cases q
    rw [upd_ne this]
    exact h.sub c w q
  · have hj : j ≠ i := fun z => by
      subst z
      rcases atI' with ⟨y, _⟩ | ⟨y, _⟩ <;> (rw [y] at q; cases q)
    rw [setC_get_ne hj] at q
    exact h.val j e q
  · rcases old q with ⟨rfl, rfl⟩ | ⟨hj, q'⟩
    · exact ⟨a, o', hv, upd_same, t, z4, z5⟩
    · obtain ⟨b, w, y1, y2, y3, y4, y5⟩ := h.own j e q'
      have : b ≠ a := fun z => by
        subst z
        exact hj (h.inj j i e d b q' ho y1 hv)
      exact ⟨b, w, y1, by rw [upd_ne this]; exact y2, y3, y4, y5⟩
  · have f : ∀ {m : Nat} {g : D}, Owns (setC st i d') m g → ∃ g', Owns st m g' := fun {m g} q => by
      rcases old q with ⟨rfl, rfl⟩ | ⟨_, q'⟩
      · exact ⟨d, ho⟩
      · exact ⟨g, q'⟩
    obtain ⟨g1, o1⟩ := f q1
    obtain ⟨g2, o2⟩ := f q2
    exact h.inj j k g1 g2 c o1 o2 q3 q4
  · by_cases hj : j = i
    · subst hj
      rcases atI' with ⟨y, _⟩ | ⟨_, y⟩
      · rw [y] at q; cases q
      · exact h.pin j d y
    · rw [setC_get_ne hj] at q
      exact h.pin j e q
  · obtain ⟨y1, y2⟩ := h.frm c w q
    have : c ≠ a := fun z => by subst z; rw [z5] at q; cases q
    exact ⟨by rw [upd_ne this]; exact y1, y2⟩
/-- xs[i] = v -/
def setF : D → D → D → Option D
  | .lst xs, .int k, v => (ixN xs.length k).map fun j => .lst (xs.set j v)
  | _, _, _ => none
def sSetIx (ge go gi : GE) : GS := fun st => (ge st).bindS fun a st1 => (go st1).bindS fun ov st2 => (gi st2).bindS fun ix st3 => match take1 st3 a, ov with
  | some (v, st4), .sl i => (match cont st4 i, look st4 ix with
    | some c, some y => (match setF c y v with
      | some c' => .nx (setC st4 i c')
      | none => .no)
    | _, _ => .no)
  | _, _ => .no
section
variable {X : Cx} {W : WX}
theorem ds_setIx {e eo ei : Expr} {ge go gi : GE} {pos pos' : Pos} (he : DE X W e ge) (hg : PG X (.Subscript eo ei pos') (gSub (tD (gx X) W go) (tD (gx X) W gi) rSetL))
    (hs : swapsWithSole [.Subscript eo ei pos'] e pos.line X.env = pure false) (hw : swappedStores [.Subscript eo ei pos'] e X.env = pure none)
    (h1 : (assignEach [.Subscript eo ei pos'] X.env).map (·.2) = [assign (.Subscript eo ei pos') X.env]) :
    DSt X W (.Assign [.Subscript eo ei pos'] e pos) (sSetIx ge go gi) :=
  ps_imp (ps_asg he hg hs hw h1) fun E σ H ⟨P, R, S, st, h, fi⟩ => ⟨P, R, S, st, h, Fin.imp (Fin.bindS (σ := σ) fi) fun a st1 S1 H1 e1 h1 k v rv => by
    obtain ⟨S2, e2, h2, pv⟩ := h1.settle rv
    refine ⟨P, R, S2, st1, h2, Fin.imp (Fin.bindS (σ := σ) (FinS.up k e2)) fun ov st3 S3 H3 e3 h3 k3 w rw3 => ?_⟩
    obtain ⟨S4, e4, h4, pw⟩ := h3.settle rw3
    refine ⟨P, R, S4, st3, h4, Fin.imp (Fin.bindS (σ := σ) (FinS.up k3 e4)) fun ix st5 S5 H5 e5 h5 k5 u ru => ?_⟩
    obtain ⟨S6, e6, h6, pu⟩ := h5.settle ru
    cases et : take1 st5 a with
    | none => rw [et] at k5; exact k5.elim
    | some p =>
      obtain ⟨x, st7⟩ := p
      rw [et] at k5
      cases ov with
      | d y => exact k5.elim
      | fr y => exact k5.elim
      | nk y k => exact k5.elim
      | sl i =>
        dsimp only at k5
        have hw : σ[i]? = some (some w) := pw
        obtain ⟨S7, e7, h7, r7⟩ := take1_ok h6 (pv.mono (((e3.trans e4).trans e5).trans e6)) et
        cases ec : cont st7 i with
        | none => rw [ec] at k5; exact k5.elim
        | some c =>
          rw [ec] at k5
          cases el : look st7 ix with
          | none => rw [el] at k5; exact k5.elim
          | some y =>
            rw [el] at k5
            dsimp only at k5
            cases es : setF c y x with
            | none => rw [es] at k5; exact k5.elim
            | some c' =>
              rw [es] at k5
              have ho := cont_owns ec
              obtain ⟨b, o, z1, z2, z3, z4, z5⟩ := h7.own i c ho
              rw [hw] at z1; cases z1
              cases c with
              | lst xs =>
                cases y with
                | int kk =>
                  have es' : (ixN xs.length kk).map (fun j => D.lst (xs.set j x)) = some c' := es
                  cases ej : ixN xs.length kk with
                  | none => rw [ej] at es'; cases es'
                  | some j =>
                    rw [ej] at es'
                    cases es'
                    cases z3 with
                    | lst ra =>
                      have ri := ((pu.mono e7).look h7 el).int
                      subst ri
                      refine ⟨b, _, kk, j, rfl, rfl, z2, by rw [ra.length]; exact ej, ?_⟩
                      exact k5 σ S7 _ (e6.trans e7) (h7.mut (o' := .lst _) ho hw (.lst (ra.set r7 j)))
                | _ => cases es
              | _ => cases es⟩
end
end DL
end
section
/-! DLi: built-in functions on data. -/
namespace DL
open PySem PySem.Spec PyProof.Rows L2
abbrev FL := List D → Option Val
def orL (f g : FL) : FL := fun xs => match f xs with
  | some c => some c
  | none => g xs
theorem callR_or {X : Cx} {f : Value} {r r' : List V → Hp → VK → Prop} (h : CallR X f r) (h' : CallR X f r') : CallR X f (fun vs H Q => r vs H Q ∨ r' vs H Q) := by
  intro pins s σ H xs us Q I rv z
  rcases z with z | z
  · exact h pins s σ H xs us Q I rv z
  · exact h' pins s σ H xs us Q I rv z
section
variable {G : Gx}
theorem CallS.or {r r' : List V → Hp → VK → Prop} {f g : FL} (h : CallS G r f) (h' : CallS G r' g) : CallS G (fun vs H Q => r vs H Q ∨ r' vs H Q) (orL f g) := fun P R S H σ st vs xs c Q hs hv e k => by
  unfold orL at e
  cases ef : f xs with
  | some c' =>
    rw [ef] at e
    cases e
    exact .inl (h P R S H σ st vs xs c Q hs hv ef k)
  | none =>
    rw [ef] at e
    exact .inr (h' P R S H σ st vs xs c Q hs hv e k)
/-! ### len, abs, int -/
def lenF : FL
  | [.str x] => if fits x.length = true then vi x.length else none
  | [.lst xs] => vi xs.length
  | [.tup xs] => vi xs.length
  | [.scr ns] => vi ns.length
  | _ => none
theorem callS_len : CallS G (fun xs H Q => ∃ x n, xs = [x] ∧ LenV G.K x H n ∧ Q (.int n) H) lenF := fun P R S H σ st vs xs c Q hs hv e k => by
  unfold lenF at e
  split at e
  · rename_i x
    split at e
    · rename_i hz
      cases e
      obtain ⟨v, rfl, rv⟩ := repTs_one hv
      rw [rv.str]
      exact ⟨_, x.length, rfl, ⟨fits_of hz, rfl⟩, k _ S H (Same.refl S) hs (.int _)⟩
    · cases e
  · cases e
    obtain ⟨v, rfl, rv⟩ := repTs_one hv
    obtain ⟨a, as, rfl, ha, ra⟩ := rv.lst hs.sub
    refine ⟨_, as.length, rfl, .inl ⟨as, SqL.of ha, rfl⟩, ?_⟩
    rw [ra.length]
    exact k _ S H (Same.refl S) hs (.int _)
  · cases e
    obtain ⟨v, rfl, rv⟩ := repTs_one hv
    obtain ⟨a, as, rfl, ha, ra⟩ := rv.tup hs.sub
    refine ⟨_, as.length, rfl, .inr ⟨as, ha.sq, rfl⟩, ?_⟩
    rw [ra.length]
    exact k _ S H (Same.refl S) hs (.int _)
  · rename_i ns
    cases e
    obtain ⟨v, rfl, rv⟩ := repTs_one hv
    obtain ⟨a, rfl, ha⟩ := rv.scr hs.sub
    refine ⟨_, (ns.map V.int).length, rfl, .inl ⟨_, ha, rfl⟩, ?_⟩
    rw [List.length_map]
    exact k _ S H (Same.refl S) hs (.int _)
  · cases e
def intF : FL
  | [.int i] => vi i
  | [.bl b] => vi (if b then 1 else 0)
  | _ => none
theorem callS_int : CallS G (fun xs H Q => (∃ i, xs = [V.int i] ∧ Q (V.int i) H) ∨ ∃ k, xs = [V.bl k] ∧ Q (V.int (if k then 1 else 0)) H) intF := fun P R S H σ st vs xs c Q hs hv e k => by
  unfold intF at e
  split at e
  · rename_i i
    cases e
    obtain ⟨v, rfl, rv⟩ := repTs_one hv
    rw [rv.int]
    exact .inl ⟨i, rfl, k _ S H (Same.refl S) hs (.int _)⟩
  · rename_i b
    cases e
    obtain ⟨v, rfl, rv⟩ := repTs_one hv
    rw [rv.bl]
    exact .inr ⟨b, rfl, k _ S H (Same.refl S) hs (.int _)⟩
  · cases e
/-! ### list -/
def listF : FL
  | [.lst xs] => some (.fr (.lst xs))
  | [.tup xs] => some (.fr (.lst xs))
  | [.scr ns] => some (.fr (.lst (ns.map .int)))
  | _ => none
theorem callS_list : CallS G (fun xs H Q => ∃ p ys, xs = [V.ref p] ∧ (SqL G.K H p ys ∨ SqT G.K H p ys) ∧ ∀ l, H l = none → Q (V.ref l) (upd H l (.lst ys))) listF := fun P R S H σ st vs xs c Q hs hv e k => by
  unfold listF at e
  split at e
  · cases e
    obtain ⟨v, rfl, rv⟩ := repTs_one hv
    obtain ⟨a, as, rfl, ha, ra⟩ := rv.lst hs.sub
    refine ⟨a, as, rfl, .inl (SqL.of ha), fun p np => ?_⟩
    obtain ⟨h3, f3⟩ := hs.alloc np (.lst ra)
    exact k _ S _ (Same.refl S) h3 f3
  · cases e
    obtain ⟨v, rfl, rv⟩ := repTs_one hv
    obtain ⟨a, as, rfl, ha, ra⟩ := rv.tup hs.sub
    refine ⟨a, as, rfl, .inr ha.sq, fun p np => ?_⟩
    obtain ⟨h3, f3⟩ := hs.alloc np (.lst ra)
    exact k _ S _ (Same.refl S) h3 f3
  · rename_i ns
    cases e
    obtain ⟨v, rfl, rv⟩ := repTs_one hv
    obtain ⟨a, rfl, ha⟩ := rv.scr hs.sub
    refine ⟨a, _, rfl, .inl ha, fun p np => ?_⟩
    obtain ⟨h3, f3⟩ := hs.alloc np (.lst (repAll_ints ns))
    exact k _ S _ (Same.refl S) h3 f3
  · cases e
/-! ### isinstance -/
def tyN : D → Option String
  | .non => some "NoneType"
  | .bl _ => some "bool"
  | .int _ => some "int"
  | .str _ => some "str"
  | .lst _ => some "list"
  | .tup _ => some "tuple"
  | .dct _ => some "dict"
  | .scr _ => some "list"
  | _ => none
def tyNames : List String := ["NoneType", "bool", "int", "str", "list", "tuple", "dict"]
def tyAsked : List String := ["bool", "int", "str", "list", "tuple", "dict"]
theorem tyN_mem {x : D} {a : String} (h : tyN x = some a) : a ∈ tyNames := by
  cases x <;> first | (cases h; decide) | cases h
/-- a value's type: as the hand layer has it, or that of a locked dict with tuples as keys -/
inductive TyY (K : PySem.W.Frag) (H : Hp) : V → Value → Prop where
  | kit {x : V} {t : Value} : TyX K H x t → TyY K H x t
  | lockT {d : Addr} {ob : Obj} {kvs : List (List Key × V)} : H d = some (.frz ob (.dT kvs)) → TyY K H (.ref d) (.type "dict")
section
variable {X : Cx} {pins : List (Addr × Obj)} {σ : L2.St} {H : Hp} {s : Shared}
theorem tyY_kit {y : V} {uv tv : Value} (J : Inv X pins σ H s) (ry : RelV y uv) (ty : TyY X.K H y tv) : ∃ F : Heap → Prop, PySem.W.KitX X.K uv tv F ∧ F s.heap ∧ uv ≠ .builtin "__main__.__loader__#opaque" := by
  rcases ty with ty | hd
  · exact kit_of J ry ty
  · cases ry
    obtain ⟨_, e1, e2, _⟩ := J.frzT hd
    exact ⟨_, PySem.W.kitx_dict, ⟨_, e1, e2.1⟩, fun z => nomatch z⟩
end
def yIsi (K : PySem.W.Frag) : List V → Hp → VK → Prop := fun ys H Q => ∃ (y z : V) (ty tz : Value) (b : Bool), ys = [y, z] ∧ ClsV z tz ∧ TyY K H y ty ∧ PySem.W.kitOne K ty tz = some b ∧ Q (.bl b) H
section
variable {X : Cx}
theorem y_isi : CallR X (.builtin "isinstance") (yIsi X.K) := by
  intro pins s σ H ys uvs Q J rs hq
  obtain ⟨y, z, ty, tz, b, rfl, cz, hty, hk, q⟩ := hq
  obtain ⟨v1, v2, rfl, ra, rb⟩ := vals2 rs
  have ez := cz.eq rb
  subst ez
  obtain ⟨F, ZF, hF, hne⟩ := tyY_kit J ra hty
  exact PySem.W.kia_one ZF J.kIn hF hk hne fun tk => ⟨.bl b, H, J.tok tk, rfl, q⟩
end
theorem tyX_of {S H : Hp} {v : V} {x : D} {a : String} (l : Le S H) (r : RepT G S H v x) (h : tyN x = some a) : TyY G.K H v (.type a) := by
  cases x with
  | non => cases h; rw [r.non]; exact .kit <| .base .non
  | bl b => cases h; rw [r.bl]; exact .kit <| .base (.bl b)
  | int i => cases h; rw [r.int]; exact .kit <| .base (.int i)
  | str y => cases h; rw [r.str]; exact .kit <| .base (.str y)
  | lst ds =>
    cases h
    obtain ⟨b, as, rfl, ha, _⟩ := r.lst l
    exact .kit <| .base (.lst ha)
  | tup ds =>
    cases h
    obtain ⟨b, as, rfl, ha, _⟩ := r.tup l
    rcases ha with ha | ⟨o, its, n, h1, h2, _⟩
    · exact .kit <| .base (.tup ha)
    · exact .kit (.kTuple h1 h2)
  | scr ns =>
    cases h
    obtain ⟨b, rfl, ha⟩ := r.scr l
    rcases ha with (ha | ⟨o, ha⟩) | ⟨o, its, n, h1, h2, _⟩
    · exact .kit <| .base (.lst ha)
    · exact .kit <| .base (.frz ha)
    · exact .kit (.kList h1 h2)
  | dct kvs =>
    cases h
    rcases r with r | ⟨b, o, rfl, ha, t⟩
    · cases r with
      | dK h r =>
        rcases l.two h rfl with q | ⟨_, o, q⟩
        · exact .kit <| .base (.dK q)
        · exact .kit (.fDict q)
      | dT h _ r =>
        rcases l.two h rfl with q | ⟨_, o, q⟩
        · exact .kit <| .base (.dT q)
        · exact .lockT q
    · cases t with
      | dK _ => exact .kit <| .base (.dK ha)
      | dT _ _ => exact .kit <| .base (.dT ha)
  | _ => cases h
def tyC : D → Option String
  | .ty b => if tyAsked.contains b = true then some b else none
  | _ => none
end
end DL
end
section
/-! DLj: the short forms that a def's body is written in. -/
namespace DL
open PySem PySem.Spec PyProof.Rows L2
/-- what is fixed of a context: its names by slot, its scope -/
structure Cs (X : Cx) (N : List Str) (sc : Scope) (full : Bool := true) : Prop where
  n : X.N = N
  s : X.env.scope = sc
  nd : N.Nodup
  f : full = true → ∀ x, X.fn x = true
/-- names that may be stored to -/
abbrev LocB (sc : Scope) (full : Bool) (x : Str) : Prop := sc.names.lookup x = some .local ∨ (full = true ∧ sc.names.lookup x = some .cell)
theorem LocB.loc {sc : Scope} {full : Bool} {x : Str} (h : LocB sc full x) : Loc sc x := h.elim Or.inl fun z => Or.inr z.2
theorem Cs.fn {X : Cx} {N : List Str} {sc : Scope} {full : Bool} (c : Cs X N sc full) {x : Str} (h : LocB sc full x) : X.fn x = true ∨ X.env.scope.names.lookup x = some .local := h.elim (fun z => Or.inr (by rw [c.s]; exact z)) fun z => Or.inl (c.f z.1 x)
abbrev GlS (sc : Scope) (x : Str) : Prop := sc.names.lookup x = some .globalImplicit
/-- what is fixed of its surroundings -/
structure Ev (X : Cx) (W : WX) (k : Nat) : Prop where
  room : Room k X.A
  calm : X.calm = true
  tk : Takes X W
  ps : PassesOwn (model X.prog X.w) X.A X.env X.xe
  gd : X.A.guards = some []
theorem Ev.mono {X : Cx} {W : WX} {j k : Nat} (h : Ev X W k) (q : j ≤ k) : Ev X W j := ⟨h.room.mono q, h.calm, h.tk, h.ps, h.gd⟩
/-- a def of the module -/
def FunAt (K : PySem.W.Frag) (mg : Str → Option Value) (x : Str) (st : Stmt) (ps : List Str) : Prop := ∃ f fd, mg x = some (.ref f) ∧ Fun K x x st f fd ∧ ∀ us : List Value, us.length = ps.length → bindArgs fd ⟨us, []⟩ = pure (ps.zip us)
/-- a def that does F -/
def DOk (P : Program) (w : World) (K : PySem.W.Frag) (mg : Str → Option Value) (base : Heap) (k : Nat) (x : Str) (ps : List Str) (ms : List Bool) (F : FnD) : Prop :=
  ∃ f fd, mg x = some (.ref f) ∧ PySem.W.keepIn K (.ref f) = true ∧ Binds K fd ps [] ∧ FnG P w K mg base k f fd ps (spOf ⟨K, mg⟩ ms F)
section
variable {X : Cx} {W : WX} {N : List Str} {sc : Scope} {full : Bool} {k : Nat} {a b e : Expr} {es : List Expr} {pos p : Pos} {ga gb g : GE} {gs : GA}
theorem dv (c : Cs X N sc full) (i : Nat) {x : Str} (h : N[i]? = some x := by rfl) (hv : Vis sc x := by first | exact Or.inl rfl | exact Or.inr (Or.inl rfl) | exact Or.inr (Or.inr rfl)) (hd : (x == ("__debug__" : Str)) = false := by decide) (hcd : (x == ("__classdict__" : Str)) = false := by decide) : DE X W (.Name x pos) (gVar i) :=
  de_var (by rw [c.n]; exact h) (by rw [c.s]; exact hv) hd hcd
theorem gl_of (c : Cs X N sc full) {x : Str} (h : GlS sc x) : Gl X x := by
  show X.env.scope.names.lookup x = _
  rw [c.s]; exact h
theorem dset (c : Cs X N sc full) (i : Nat) {x : Str} {pos' : Pos} (he : DE X W e g) (h : N[i]? = some x := by rfl) (hl : LocB sc full x := by first | exact Or.inl rfl | exact Or.inr ⟨rfl, rfl⟩) (hs : swapsWith e (some (.Name x pos')) pos.line X.env = pure false := by rfl) : DSt X W (.Assign [.Name x pos'] e pos) (sAsg i g) :=
  ds_set (by rw [c.n]; exact c.nd) (by rw [c.n]; exact h) (by rw [c.s]; exact hl.loc) he hs (c.fn hl)
theorem dgn (c : Cs X N sc full) (i : Nat) {x : Str} (h : N[i]? = some x := by rfl) (hl : LocB sc full x := by first | exact Or.inl rfl | exact Or.inr ⟨rfl, rfl⟩) : DG X (.Name x pos) [i] (aName i) :=
  dg_name (by rw [c.n]; exact c.nd) (by rw [c.n]; exact h) (by rw [c.s]; exact hl.loc) (c.fn hl)
theorem dac (h : DE X W e g) (hr : DA X W es gs) (hs : starEach (e :: es) X.env = (false, eval e X.env) :: starEach es X.env := by rfl) : DA X W (e :: es) (gCons g gs) := da_cons h hr hs
/-- f(e, ..) -/
theorem dcall (c : Cs X N sc full) (v : Ev X W k) {x : Str} {j : Nat} {ps : List Str} {ms : List Bool} {F : FnD} (h : DOk X.prog X.w X.K X.mg X.base j x ps ms F) (ha : DA X W (e :: es) gs) (hj : j ≤ k := by decide) (hg : GlS sc x := by rfl)
    (hdb : (x == ("__debug__" : Str)) = false := by decide) (he : starEach (e :: es) X.env = (false, eval e X.env) :: starEach es X.env := by rfl) (hpl : (backTo pos (starEach es X.env)).any (·.1) = false := by rfl) : DE X W (.Call (.Name x p) (e :: es) [] pos) (gCall F ms [] gs) := by
  obtain ⟨f, fd, h1, h2, h3, h4⟩ := h
  exact de_call (dvs := []) h4 (v.room.mono hj) v.gd (gl_of c hg) h1 h2 h3 .nil (fun _ => .nil) v.tk ha hdb he hpl
/-- a built-in's call -/
theorem dcb (c : Cs X N sc full) {x : Str} {id : String} {r : List V → Hp → VK → Prop} {f : FL} (hc : CallR X (.builtin id) r) (ho : CallS (gx X) r f) (hm : X.mg x = none) (ha : DA X W (e :: es) gs) (hv : bootBuiltins x = some (.builtin id)) (hg : GlS sc x := by rfl)
    (hn : x ≠ "__name__" := by decide) (hdb : (x == ("__debug__" : Str)) = false := by decide) (he : starEach (e :: es) X.env = (false, eval e X.env) :: starEach es X.env := by rfl) (hpl : (backTo pos (starEach es X.env)).any (·.1) = false := by rfl) : DE X W (.Call (.Name x p) (e :: es) [] pos) (gCB f gs) :=
  de_callB hc ho (gl_of c hg) hm hv ha hn hdb he hpl
theorem dct (c : Cs X N sc full) {x : Str} {T : String} {r : List V → Hp → VK → Prop} {f : FL} (hc : CallR X (.type T) r) (ho : CallS (gx X) r f) (hm : X.mg x = none) (ha : DA X W (e :: es) gs) (hv : bootBuiltins x = some (.type T)) (hg : GlS sc x := by rfl)
    (hn : x ≠ "__name__" := by decide) (hdb : (x == ("__debug__" : Str)) = false := by decide) (he : starEach (e :: es) X.env = (false, eval e X.env) :: starEach es X.env := by rfl) (hpl : (backTo pos (starEach es X.env)).any (·.1) = false := by rfl) : DE X W (.Call (.Name x p) (e :: es) [] pos) (gCB f gs) :=
  de_callTy hc ho (gl_of c hg) hm hv ha hn hdb he hpl
theorem bt_len : bootBuiltins "len" = some (.builtin "len") := by decide +kernel
theorem bt_isi : bootBuiltins "isinstance" = some (.builtin "isinstance") := by decide +kernel
theorem bt_int : bootBuiltins "int" = some (.type "int") := by decide +kernel
theorem bt_str : bootBuiltins "str" = some (.type "str") := by decide +kernel
theorem bt_list : bootBuiltins "list" = some (.type "list") := by decide +kernel
theorem dlen (c : Cs X N sc full) (hm : X.mg "len" = none) (ha : DA X W (e :: es) gs) (hg : GlS sc "len" := by rfl) (he : starEach (e :: es) X.env = (false, eval e X.env) :: starEach es X.env := by rfl) (hpl : (backTo pos (starEach es X.env)).any (·.1) = false := by rfl) :
    DE X W (.Call (.Name "len" p) (e :: es) [] pos) (gCB lenF gs) := dcb c call_len callS_len hm ha bt_len hg (by decide) (by decide) he hpl
theorem dint (c : Cs X N sc full) (hm : X.mg "int" = none) (ha : DA X W (e :: es) gs) (hg : GlS sc "int" := by rfl) (he : starEach (e :: es) X.env = (false, eval e X.env) :: starEach es X.env := by rfl) (hpl : (backTo pos (starEach es X.env)).any (·.1) = false := by rfl) :
    DE X W (.Call (.Name "int" p) (e :: es) [] pos) (gCB intF gs) := dct c call_int1 callS_int hm ha bt_int hg (by decide) (by decide) he hpl
theorem dlist (c : Cs X N sc full) (hm : X.mg "list" = none) (ha : DA X W (e :: es) gs) (hg : GlS sc "list" := by rfl) (he : starEach (e :: es) X.env = (false, eval e X.env) :: starEach es X.env := by rfl) (hpl : (backTo pos (starEach es X.env)).any (·.1) = false := by rfl) :
    DE X W (.Call (.Name "list" p) (e :: es) [] pos) (gCB listF gs) := dct c call_list_of callS_list hm ha bt_list hg (by decide) (by decide) he hpl
/-! ### tests -/
theorem dtv (h : DE X W a g) (he : ∀ whole, isTrue a X.env whole = (do let v ← whole; standAt a.pos; holding [v] (truthy v)) := by intro _; rfl) : DT X W a (gTru g) := dt_tru h he
theorem deq (v : Ev X W k) (ha : DE X W a ga) (hb : DE X W b gb) : DE X W (.Compare a [.Eq] [b] pos) (gOp2 eqF ga gb) := de_eq v.room.units ha hb
theorem dne (v : Ev X W k) (ha : DE X W a ga) (hb : DE X W b gb) : DE X W (.Compare a [.NotEq] [b] pos) (gOp2 neF ga gb) := de_ne v.room.units ha hb
theorem teq (v : Ev X W k) (ha : DE X W a ga) (hb : DE X W b gb) : DT X W (.Compare a [.Eq] [b] pos) (gTst (gOp2 eqF ga gb)) := dt_eq v.room.units ha hb
theorem tne (v : Ev X W k) (ha : DE X W a ga) (hb : DE X W b gb) : DT X W (.Compare a [.NotEq] [b] pos) (gTst (gOp2 neF ga gb)) := dt_ne v.room.units ha hb
theorem ditem (ha : DE X W a ga) (hb : DE X W b gb) (hs : PlainIx b := by exact fun _ _ => rfl) : DE X W (.Subscript a b pos) (gOp2 itemF ga gb) := de_item ha hb hs
theorem dexpr (he : DE X W e g) (hs : swapsWith e none pos.line X.env = pure false := by rfl) : DSt X W (.Expr e pos) (sExpr g) := ds_expr he hs
theorem dwhile {c : Expr} {body : List Stmt} {gc : GT} {s : GS} (n : Nat) (v : Ev X W k) (hc : DT X W c gc) (hb : DSs X W body s) : DSt X W (.While c body [] pos) (sWhile n gc s) := ds_while n v.ps hc hb
theorem dfor {tg iter : Expr} {body : List Stmt} {gi : GI} {ts : List Nat} {ag : AG} {s : GS} (v : Ev X W k) (hi : DI X W tg iter gi) (hg : DG X tg ts ag) (hb : DSs X W body s) (hs : ∀ x, foldedSetIterable iter X.env x = pure x := by intro _; rfl) : DSt X W (.For tg iter body [] pos) (sFor gi ag s) :=
  ds_for v.ps v.calm hi hg hb hs
theorem drng1 (c : Cs X N sc full) {tg : Expr} (hm : X.mg "range" = none) (ha : DA X W [a] gs) (hg : GlS sc "range" := by rfl) (hs : starEach [a] X.env = [(false, eval a X.env)] := by rfl) : DI X W tg (.Call (.Name "range" p) [a] [] pos) (gRng rng1 gs) := di_rng1 (gl_of c hg) hm ha hs
theorem dsub {eo ei : Expr} {go gi : GE} {pos' : Pos} (he : DE X W e g) (ho : DE X W eo go) (hi : DE X W ei gi)
    (ha : ∀ v, assign (.Subscript eo ei pos') X.env v = (do
      let ov ← holding [v] (eval eo X.env)
      let iv ← holding [v, ov] (eval ei X.env)
      standAt pos'
      holding [v, ov, iv] (setItem ov iv v)
      release [v, ov, iv] []) := by intro _; rfl)
    (hs : swapsWithSole [.Subscript eo ei pos'] e pos.line X.env = pure false := by rfl) (hw : swappedStores [.Subscript eo ei pos'] e X.env = pure none := by rfl)
    (h1 : (assignEach [.Subscript eo ei pos'] X.env).map (·.2) = [assign (.Subscript eo ei pos') X.env] := by rfl) : DSt X W (.Assign [.Subscript eo ei pos'] e pos) (sSetIx g go gi) :=
  ds_setIx he (pg_sub ho hi set_list ha) hs hw h1
end
end DL
end
section
/-! DLo: constants of the module, chained comparisons, in. -/
namespace DL
open PySem PySem.Spec PyProof.Rows L2
section
variable {X : Cx} {W : WX} {N : List Str} {sc : Scope} {full : Bool} {a b c : Expr} {ga gb gc : GE} {pos : Pos}
/-- a constant of the module -/
def ConAt (mg : Str → Option Value) (x : Str) (v : V) : Prop := ∃ u, mg x = some u ∧ RelV v u
theorem dcon (c : Cs X N sc full) {x : Str} {v : V} {d : D} (h : ConAt X.mg x v) (r : ∀ S, Rep (gx X) S v d) (hg : GlS sc x := by rfl) (hdb : (x == ("__debug__" : Str)) = false := by decide) : DE X W (.Name x pos) (gC d) := by
  obtain ⟨u, h1, h2⟩ := h
  exact de_c (pe_glob (gl_of c hg) h1 h2 hdb) r
theorem dconS (c : Cs X N sc full) {x : Str} {t : Str} (h : ConAt X.mg x (.str t)) (hg : GlS sc x := by rfl) (hdb : (x == ("__debug__" : Str)) = false := by decide) : DE X W (.Name x pos) (gC (.str t)) := dcon c h (fun _ => .str t) hg hdb
/-! ### in -/
def inSF : F2
  | .str x, .str z => match x.cps.toList with
    | [k] => vb (decide (k ∈ z.cps.toList))
    | _ => none
  | _, _ => none
theorem opS_inS {G : Gx} : OpS G (fun x y H Q => ∃ (c : Nat) (z : Str), x = .str ⟨#[c]⟩ ∧ y = .str z ∧ Q (.bl (decide (c ∈ z.cps.toList))) H) inSF := fun P R S H σ st v u x y cc Q hs hv hu e k => by
  unfold inSF at e
  split at e
  · rename_i x z
    split at e
    · rename_i kk hk
      cases e
      have ex : x = ⟨#[kk]⟩ := by
        obtain ⟨⟨l⟩⟩ := x
        have : l = [kk] := hk
        rw [this]
      refine ⟨kk, z, by rw [hv.str, ex], hu.str, k _ S H (Same.refl S) hs (.bl _)⟩
    · cases e
  · cases e
def notSF : F2
  | .str x, .str z => match x.cps.toList with
    | [k] => vb (!decide (k ∈ z.cps.toList))
    | _ => none
  | _, _ => none
theorem opS_notS {G : Gx} : OpS G (fun x y H Q => ∃ (c : Nat) (z : Str), x = .str ⟨#[c]⟩ ∧ y = .str z ∧ Q (.bl (!decide (c ∈ z.cps.toList))) H) notSF := fun P R S H σ st v u x y cc Q hs hv hu e k => by
  unfold notSF at e
  split at e
  · rename_i x z
    split at e
    · rename_i kk hk
      cases e
      have ex : x = ⟨#[kk]⟩ := by
        obtain ⟨⟨l⟩⟩ := x
        have : l = [kk] := hk
        rw [this]
      refine ⟨kk, z, by rw [hv.str, ex], hu.str, k _ S H (Same.refl S) hs (.bl _)⟩
    · cases e
  · cases e
/-- plain values -/
def flatD : D → Option V
  | .non => some .non
  | .bl b => some (.bl b)
  | .int i => some (.int i)
  | .str x => some (.str x)
  | _ => none
def flatDs : List D → Option (List V)
  | [] => some []
  | x :: xs => match flatD x, flatDs xs with
    | some v, some vs => some (v :: vs)
    | _, _ => none
theorem flatD_of {G : Gx} {S H : Hp} {x : D} {v u : V} (r : RepT G S H u x) (e : flatD x = some v) : u = v ∧ flatV v = true := by
  cases x with
  | non => cases e; exact ⟨r.non, rfl⟩
  | bl b => cases e; exact ⟨r.bl, rfl⟩
  | int i => cases e; exact ⟨r.int, rfl⟩
  | str y => cases e; exact ⟨r.str, rfl⟩
  | _ => cases e
theorem flatDs_of {G : Gx} {S : Hp} : ∀ {xs : List D} {vs us : List V}, RepAll G S us xs → flatDs xs = some vs → us = vs ∧ vs.all flatV = true
  | [], _, _, .nil, e => by cases e; exact ⟨rfl, rfl⟩
  | x :: xs, vs, _, .cons r t, e => by
    unfold flatDs at e
    cases e1 : flatD x with
    | none => rw [e1] at e; cases e
    | some v =>
      rw [e1] at e
      cases e2 : flatDs xs with
      | none => rw [e2] at e; cases e
      | some ws =>
        rw [e2] at e
        cases e
        obtain ⟨rfl, f1⟩ := flatD_of (H := S) (.inl r) e1
        obtain ⟨rfl, f2⟩ := flatDs_of t e2
        exact ⟨rfl, by rw [List.all_cons, f1, f2]; rfl⟩
def inQ (neg : Bool) : F2 := fun x y => match flatD x, (match y with | .lst xs => flatDs xs | .tup xs => flatDs xs | _ => none) with
  | some v, some vs => vb (if neg = true then !inV v vs else inV v vs)
  | _, _ => none
theorem opS_inQ {G : Gx} {neg : Bool} : OpS G (rIn G.K neg) (inQ neg) := fun P R S H σ st v u x y cc Q hs hv hu e k => by
  unfold inQ at e
  cases e1 : flatD x with
  | none => rw [e1] at e; cases e
  | some fx =>
    rw [e1] at e
    obtain ⟨rfl, f1⟩ := flatD_of hv e1
    cases y with
    | lst ys =>
      dsimp only at e
      cases e2 : flatDs ys with
      | none => rw [e2] at e; cases e
      | some fs =>
        rw [e2] at e
        cases e
        obtain ⟨p, xs, rfl, hp, ra⟩ := hu.lst hs.sub
        obtain ⟨rfl, f2⟩ := flatDs_of ra e2
        exact ⟨p, xs, rfl, .inl (SqL.of hp), f1, f2, k _ S H (Same.refl S) hs (.bl _)⟩
    | tup ys =>
      dsimp only at e
      cases e2 : flatDs ys with
      | none => rw [e2] at e; cases e
      | some fs =>
        rw [e2] at e
        cases e
        obtain ⟨p, xs, rfl, hp, ra⟩ := hu.tup hs.sub
        obtain ⟨rfl, f2⟩ := flatDs_of ra e2
        exact ⟨p, xs, rfl, .inr hp.sq, f1, f2, k _ S H (Same.refl S) hs (.bl _)⟩
    | _ => cases e
def inF : F2 := orF inSF (inQ false)
def notInF : F2 := orF notSF (inQ true)
theorem dt_in (hm : behindInMarks .In b = false := by rfl) (ha : DE X W a ga) (hb : DE X W b gb) : DT X W (.Compare a [.In] [b] pos) (gTst (gOp2 inF ga gb)) := dt_cmp (op_in_sign.or op_in_seq) (opS_inS.or opS_inQ) ha hb hm
theorem dt_nin (hm : behindInMarks .NotIn b = false := by rfl) (ha : DE X W a ga) (hb : DE X W b gb) : DT X W (.Compare a [.NotIn] [b] pos) (gTst (gOp2 notInF ga gb)) := dt_cmp (op_notIn_sign.or op_notIn_seq) (opS_notS.or opS_inQ) ha hb hm
/-! ### a op b op c -/
def gChain (f g : F2) (ga gb gc : GE) : GE := fun st => (ga st).bind fun x st1 => (gb st1).bind fun y st2 => match look st2 x, look st2 y with
  | some dx, some dy => (match f dx dy with
    | some (.d (.bl true)) => (gc st2).bind fun z st3 => (match look st3 y, look st3 z with
      | some dy', some dz => lift (g dy' dz) st3
      | _, _ => .no)
    | some (.d (.bl false)) => .ok (.d (.bl false)) st2
    | _ => .no)
  | _, _ => .no
end
end DL
end
section
/-! DLk: list comprehensions on data. -/
namespace DL
open PySem PySem.Spec PyProof.Rows L2
abbrev WN : WX := fun _ _ _ _ => False
theorem takes0 {X : Cx} : Takes X WN := fun _ _ ⟨_, _, _, _, _, _, _, _, _, _, _, _, _, _, _, _, w⟩ => w.elim
/-- a comprehension's scope as it runs -/
def relS (scope sc : Scope) : Scope := { scope with names := scope.names.map fun (n, k) => if (k == .free && sc.kind == .function && sc.names.lookup n == some .cell) then (n, .cell) else (n, k) }
section
variable {X : Cx} {W : WX} {N : List Str} {sc scope : Scope} {full : Bool} {k : Nat} {s : Shared} {H : Hp} {Ca : Addr} {cl : List (Str × Addr)} {fp : List Addr}
theorem Cs.blk (c : Cs X N sc full) : Cs (X.blk s H scope (compEnvC scope cl Ca X.env) fp) N (relS scope sc) false := ⟨c.n, by
  show relabel scope X.env = _
  unfold relabel Env.kindOf relS
  rw [c.s], c.nd, fun z => by cases z⟩
theorem Ev.blk (v : Ev X W k) : Ev (X.blk s H scope (compEnvC scope cl Ca X.env) fp) WN k := ⟨v.room, v.calm, takes0, PassesOwn.never, v.gd⟩
end
/-! ### the block's own slots -/
def wipeD (st : DS) : List Nat → DS
  | [] => st
  | v :: vs => (wipeD st vs).set v .no
def plainS : Option Slot → Bool
  | some .no => true
  | some (.sh _) => true
  | _ => false
def restD (st0 st : DS) : List Nat → DS
  | [] => st
  | v :: vs => (restD st0 st vs).set v (st0.getD v .no)
section
variable {G : Gx} {P : Pin} {R S H : Hp} {σ : L2.St} {st : DS}
theorem StR.forget (h : StR G P R S H σ (st.set i .no)) (x : Option V) : StR G P R S H (σ.set i x) (st.set i .no) := by
  have ne : ∀ {j : Nat} {q : Slot}, (st.set i .no)[j]? = some q → q ≠ .no → i ≠ j := fun {j q} e n z => by
    subst z
    by_cases hi : i < st.length
    · rw [List.getElem?_set_self hi] at e; cases e; exact n rfl
    · rw [List.getElem?_eq_none (by rw [List.length_set]; omega)] at e; cases e
  have neO : ∀ {j : Nat} {d : D}, Owns (st.set i .no) j d → i ≠ j := fun {j d} o => by
    rcases o with o | o
    · exact ne o (fun z => by cases z)
    · exact ne o (fun z => by cases z)
  refine ⟨by have := h.len; rw [List.length_set] at this ⊢; rw [List.length_set]; exact this, h.tab, h.sub, fun j d q => ?_, fun j d q => ?_, fun j l d e a q1 q2 q3 q4 => ?_, fun j d q => ?_, h.frm⟩
  · rw [List.getElem?_set_ne (ne q (fun z => by cases z))]; exact h.val j d q
  · rw [List.getElem?_set_ne (neO q)]; exact h.own j d q
  · rw [List.getElem?_set_ne (neO q1)] at q3
    rw [List.getElem?_set_ne (neO q2)] at q4
    exact h.inj j l d e a q1 q2 q3 q4
  · rw [List.getElem?_set_ne (ne q (fun z => by cases z))]; exact h.pin j d q
theorem StR.wipe (h : StR G P R S H σ st) : ∀ vs : List Nat, StR G P R S H (wipe σ vs) (wipeD st vs)
  | [] => h
  | v :: vs => ((h.wipe vs).setNo v).forget none
/-- a slot gets its old value back -/
theorem StR.back1 {R0 S0 H0 : Hp} {σ0 : L2.St} {st0 : DS} {v : Nat} (h0 : StR G P R0 S0 H0 σ0 st0) (e : Same S0 S) (h : StR G P R S H σ st) (hp : plainS st0[v]? = true) (hl : st0.length = st.length) : StR G P R S H (σ.set v (σ0.getD v none)) (st.set v (st0.getD v .no)) := by
  cases q : st0[v]? with
  | none => rw [q] at hp; cases hp
  | some sl =>
    have hv : v < st0.length := (List.getElem?_eq_some_iff.mp q).1
    have g0 : st0.getD v .no = sl := by rw [List.getD_eq_getElem?_getD, q]; rfl
    rw [g0]
    cases sl with
    | no => exact (h.setNo v).forget _
    | sh d =>
      obtain ⟨x, z1, z2⟩ := h0.val v d q
      have g1 : σ0.getD v none = some x := by rw [List.getD_eq_getElem?_getD, z1]; rfl
      rw [g1]
      exact h.setSh (z2.mono e) (by omega)
    | ow d => rw [q] at hp; cases hp
    | io d => rw [q] at hp; cases hp
end
/-! ### a thing that is held -/
section
variable {G : Gx} {P : Pin} {R S H : Hp} {σ : L2.St} {st : DS} {p : Addr} {o o' : HO}
theorem StR.hold (h : StR G P R S H σ st) (hp : H p = none) : StR G P (upd R p o) S (upd H p o) σ st := by
  have h1 := h.grow (o := o) hp
  obtain ⟨sp, rp, lp⟩ := h.new hp
  refine ⟨h1.len, h1.tab, h1.sub, h1.val, fun i d q => ?_, h1.inj, h1.pin, fun b u q => ?_⟩
  · obtain ⟨a, u, z1, z2, z3, z4, z5⟩ := h1.own i d q
    have na : a ≠ p := fun z => by subst z; exact lp i d q z1
    exact ⟨a, u, z1, z2, z3, z4, by rw [upd_ne na]; exact z5⟩
  · by_cases hb : b = p
    · subst hb; rw [upd_same] at q ⊢; cases q; exact ⟨rfl, .inl sp⟩
    · rw [upd_ne hb] at q; exact h1.frm b u q
theorem StR.rehold (h : StR G P (upd R p o) S H σ st) (nf : Hard o := by exact ⟨fun _ _ z => (by cases z), fun _ z => (by cases z)⟩) : StR G P (upd R p o') S (upd H p o') σ st := by
  obtain ⟨hp, sp⟩ := h.frm p o upd_same
  have sp := sp.none nf
  have ne : ∀ {a : Addr}, upd R p o a = none → a ≠ p := fun {a} z y => by rw [y, upd_same] at z; cases z
  refine ⟨h.len, h.tab, fun b u q => ?_, h.val, fun i d q => ?_, h.inj, h.pin, fun b u q => ?_⟩
  · have hb : b ≠ p := fun z => by rw [z, sp] at q; cases q
    rw [upd_ne hb]; exact h.sub b u q
  · obtain ⟨a, u, z1, z2, z3, z4, z5⟩ := h.own i d q
    have na := ne z5
    refine ⟨a, u, z1, by rw [upd_ne na]; exact z2, z3, z4, ?_⟩
    rw [upd_ne na] at z5 ⊢
    exact z5
  · by_cases hb : b = p
    · subst hb; rw [upd_same] at q ⊢; cases q; exact ⟨rfl, .inl sp⟩
    · rw [upd_ne hb] at q ⊢
      exact h.frm b u (by rw [upd_ne hb]; exact q)
theorem StR.unhold (h : StR G P (upd R p o) S H σ st) (hr : R p = none) : StR G P R S H σ st := by
  refine ⟨h.len, h.tab, h.sub, h.val, fun i d q => ?_, h.inj, h.pin, fun b u q => ?_⟩
  · obtain ⟨a, u, z1, z2, z3, z4, z5⟩ := h.own i d q
    have na : a ≠ p := fun y => by rw [y, upd_same] at z5; cases z5
    exact ⟨a, u, z1, z2, z3, z4, by rw [upd_ne na] at z5; exact z5⟩
  · have hb : b ≠ p := fun z => by rw [z, hr] at q; cases q
    exact h.frm b u (by rw [upd_ne hb]; exact q)
theorem StR.loose (h : StR G P (upd R p o) S H σ st) : Loose σ st p := fun i d q z => by
  obtain ⟨a, u, z1, z2, z3, z4, z5⟩ := h.own i d q
  rw [z] at z1; cases z1
  rw [upd_same] at z5; cases z5
end
def restV (σ0 σ : L2.St) : List Nat → L2.St
  | [] => σ
  | v :: vs => (restV σ0 σ vs).set v (σ0.getD v none)
theorem restV_len (σ0 σ : L2.St) : ∀ vs, (restV σ0 σ vs).length = σ.length
  | [] => rfl
  | v :: vs => by unfold restV; rw [List.length_set, restV_len σ0 σ vs]
theorem restV_get {σ0 σ : L2.St} (hl : σ0.length = σ.length) {j : Nat} : ∀ {vs : List Nat}, (j ∉ vs → σ[j]? = σ0[j]?) → (restV σ0 σ vs)[j]? = σ0[j]?
  | [], h => h (by simp)
  | v :: vs, h => by
    unfold restV
    by_cases hj : v = j
    · subst hj
      by_cases hv : v < σ0.length
      · rw [List.getElem?_set_self (by rw [restV_len]; omega), List.getD_eq_getElem?_getD, List.getElem?_eq_getElem hv]; rfl
      · rw [List.getElem?_eq_none (by rw [List.length_set, restV_len]; omega), List.getElem?_eq_none (by omega)]
    · rw [List.getElem?_set_ne hj]
      exact restV_get hl fun z => h fun y => by
        rcases List.mem_cons.mp y with y | y
        · exact hj y.symm
        · exact z y
theorem wipe_get {σ : L2.St} {j : Nat} : ∀ {vs : List Nat}, j ∉ vs → (wipe σ vs)[j]? = σ[j]?
  | [], _ => rfl
  | v :: vs, h => by
    unfold wipe
    rw [List.getElem?_set_ne fun z => h (by rw [z]; exact List.mem_cons_self)]
    exact wipe_get fun z => h (List.mem_cons_of_mem _ z)
theorem wipe_in {σ : L2.St} {j : Nat} (hj : j < σ.length) : ∀ {vs : List Nat}, j ∈ vs → (wipe σ vs)[j]? = some none
  | [], h => by simp at h
  | v :: vs, h => by
    unfold wipe
    by_cases e : v = j
    · subst e; exact List.getElem?_set_self (by rw [wipe_length]; exact hj)
    · rw [List.getElem?_set_ne e]
      exact wipe_in hj ((List.mem_cons.mp h).resolve_left fun z => e z.symm)
theorem restV_wipe (σ : L2.St) (vs : List Nat) : restV σ (wipe σ vs) vs = σ :=
  List.ext_getElem? fun j => restV_get (by rw [wipe_length]) wipe_get
theorem wipe_upto {σ σ' : L2.St} {ts vs : List Nat} (h : ∀ t ∈ ts, t ∈ vs) (u : Upto ts (wipe σ vs) σ') : wipe σ' vs = wipe σ vs := List.ext_getElem? fun j => by
  have hl : σ'.length = σ.length := by rw [u.1, wipe_length]
  by_cases hj : j ∈ vs
  · by_cases hb : j < σ.length
    · rw [wipe_in (by omega) hj, wipe_in hb hj]
    · rw [List.getElem?_eq_none (by rw [wipe_length]; omega), List.getElem?_eq_none (by rw [wipe_length]; omega)]
  · rw [wipe_get hj]
    exact u.2 j fun z => hj (h j z)
theorem restD_len (st0 st : DS) : ∀ vs, (restD st0 st vs).length = st.length
  | [] => rfl
  | v :: vs => by unfold restD; rw [List.length_set, restD_len st0 st vs]
theorem StR.rest {G : Gx} {P : Pin} {R R0 S S0 H H0 : Hp} {σ σ0 : L2.St} {st st0 : DS} (h0 : StR G P R0 S0 H0 σ0 st0) (e : Same S0 S) (h : StR G P R S H σ st) (hl : st0.length = st.length) : ∀ {vs : List Nat}, (vs.all fun i => plainS st0[i]?) = true → StR G P R S H (restV σ0 σ vs) (restD st0 st vs)
  | [], _ => h
  | v :: vs, q => by
    rw [List.all_cons, Bool.and_eq_true] at q
    exact StR.back1 h0 e (StR.rest h0 e h hl q.2) q.1 (by rw [restD_len]; exact hl)
/-! ### [elt for target in iter if test] -/
def runLc (vs : List Nat) (ag : AG) (tt : GT) (ge : GE) : List D → DS → List D → Option (List D × DS)
  | [], st, acc => some (acc, st)
  | d :: ds, st, acc => match ag d st with
    | none => none
    | some st1 => match tt st1 with
      | .ok true st2 => (match ge st2 with
        | .ok a st3 => (match take1 st3 a with
          | some (x, st4) => if acc.length < sizeLine then runLc vs ag tt ge ds (wipeD st4 vs) (acc ++ [x]) else none
          | none => none)
        | _ => none)
      | .ok false st2 => runLc vs ag tt ge ds (wipeD st2 vs) acc
      | _ => none
def gLc (vs : List Nat) (gi : GI) (ag : AG) (tt : GT) (ge : GE) : GE := fun st => (gi st).bind fun ds st1 => if (vs.all fun i => plainS st1[i]?) = true then (match runLc vs ag tt ge ds (wipeD st1 vs) [] with
  | some (xs, st2) => if st1.length = st2.length then .ok (.fr (.lst xs)) (restD st1 st2 vs) else .no
  | none => .no) else .no
theorem lc_of {G : Gx} {W : WX} {gi : GI} {ts vs : List Nat} {ag : AG} {tt : GT} {ge : GE} (hv : ∀ t ∈ ts, t ∈ vs) : ∀ σ H Q, tD G W (gLc vs gi ag tt ge) σ H Q → tLc (tDI G W gi) (tDG G ts ag) (tDT G WN tt) (tD G WN ge) vs σ H Q := by
  rintro σ H Q ⟨P, R, S, st, h, fi⟩
  refine ⟨P, R, S, st, h, Fin.imp (Fin.bind fi) fun ds st1 S1 H0 e1 h0 k0 J L R H1 sR h1 hJ Da hD => ?_⟩
  have k := Fin.liftV sR.sub k0
  have rD0 : R Da = none := (h1.new hD).2.1
  clear k0
  split at k
  · rename_i hp
    cases er : runLc vs ag tt ge ds (wipeD st1 vs) [] with
    | none => rw [er] at k; exact k.elim
    | some r =>
      obtain ⟨xs, st2⟩ := r
      rw [er] at k
      dsimp only at k
      split at k
      · rename_i hl
        refine ⟨fun i m H' => m = ds.length - i ∧ i ≤ ds.length ∧ ∃ S2 st' accV acc, Same S1 S2 ∧ StR G P (upd R Da (.lst accV)) S2 H' (wipe σ vs) st' ∧ RepAll G S2 accV acc ∧ runLc vs ag tt ge (ds.drop i) st' acc = some (xs, st2),
          ⟨ds.length, rfl, Nat.zero_le _, S1, wipeD st1 vs, [], [], Same.refl _, (h1.hold hD).wipe vs, .nil, er⟩, ?_⟩
        rintro i m H2 ⟨rfl, hi, S2, st', accV, acc, e2, h2, ra, q⟩
        obtain ⟨stop, go⟩ := hJ P _ S2 H2 _ st' i (sR.lk.trans (same_upd rD0)) e2 h2
        rcases Nat.lt_or_ge i ds.length with hlt | hge
        · right
          obtain ⟨g1, g2⟩ := go ds[i] (List.getElem?_eq_getElem hlt)
          rw [List.drop_eq_getElem_cons hlt] at q
          unfold runLc at q
          refine ⟨g1, fun H' => ∃ S2 st' accV acc, Same S1 S2 ∧ StR G P (upd R Da (.lst accV)) S2 H' (wipe σ vs) st' ∧ RepAll G S2 accV acc ∧ runLc vs ag tt ge (ds.drop (i + 1)) st' acc = some (xs, st2), fun H' z => ⟨ds.length - (i + 1), by omega, rfl, by omega, z⟩, fun x H' y => ?_⟩
          obtain ⟨S3, e3, h3, rx⟩ := g2 x H' y
          cases ea : ag ds[i] st' with
          | none => rw [ea] at q; cases q
          | some st3 =>
            rw [ea] at q
            dsimp only at q
            refine ⟨P, _, S3, st', ds[i], st3, h3, rx, ea, fun σ4 S4 up e4 h4 => ⟨wipe_upto hv up, P, _, S4, st3, h4, ?_⟩⟩
            cases et : tt st3 with
            | no => rw [et] at q; cases q
            | ex z y => rw [et] at q; cases q
            | ok b st5 =>
              rw [et] at q
              intro S5 H5 e5 h5
              cases b with
              | false =>
                dsimp only at q
                rw [if_neg Bool.false_ne_true]
                have h6 := h5.wipe vs
                rw [wipe_upto hv up] at h6
                exact ⟨S5, _, accV, acc, ((e2.trans e3).trans e4).trans e5, h6, ra.mono ((e3.trans e4).trans e5), q⟩
              | true =>
                dsimp only at q
                rw [if_pos rfl]
                refine ⟨P, _, S5, st5, h5, ?_⟩
                cases eg : ge st5 with
                | no => rw [eg] at q; cases q
                | ex z y => rw [eg] at q; cases q
                | ok a st6 =>
                  rw [eg] at q
                  dsimp only at q
                  intro S6 H6 e6 h6 v rv
                  cases ek : take1 st6 a with
                  | none => rw [ek] at q; cases q
                  | some r =>
                    obtain ⟨x', st7⟩ := r
                    rw [ek] at q
                    dsimp only at q
                    split at q
                    · rename_i hz
                      obtain ⟨S7, e7, h7, pv⟩ := h6.settle rv
                      obtain ⟨S8, e8, h8, r8⟩ := take1_ok h7 pv ek
                      have em := (((e3.trans e4).trans e5).trans (e6.trans e7)).trans e8
                      have h9 := (h8.rehold (o' := .lst (accV ++ [v]))).wipe vs
                      rw [wipe_upto hv up] at h9
                      exact ⟨accV, (h8.frm Da _ upd_same).1, by rw [ra.length]; exact hz, S8, _, accV ++ [v], acc ++ [x'], e2.trans em, h9, (ra.mono em).append (.cons r8 .nil), q⟩
                    · cases q
        · left
          have hi' : i = ds.length := by omega
          refine ⟨stop hi', ?_⟩
          rw [hi', List.drop_length] at q
          unfold runLc at q
          cases q
          have rD : R Da = none := (h1.new hD).2.1
          have h6 := StR.rest h1 e2 h2 hl hp
          rw [restV_wipe] at h6
          exact k S2 H2 e2 (h6.unhold rD) (.ref Da) ⟨Da, _, rfl, (h2.frm Da _ upd_same).1, .lst ra, (h2.frm Da _ upd_same).2.none ⟨(fun _ _ z => by cases z), (fun _ z => by cases z)⟩, rD, h6.loose⟩
      · exact k.elim
  · exact k.elim
section
variable {X : Cx} {W : WX} {N : List Str} {sc scope : Scope} {full : Bool} {k : Nat} {elt tg iter : Expr} {ifs : List Expr} {pos : Pos} {gi : GI} {ts : List Nat} {ag : AG} {tt : GT} {ge : GE}
abbrev DTs (X : Cx) (W : WX) (es : List Expr) (g : GT) : Prop := PTs X es (tDT (gx X) W g)
def gYes : GT := fun st => .ok true st
theorem dts_nil : DTs X W [] gYes := ⟨fun pins s σ H Q I h => (pts_nil (X := X)).run pins s σ H Q I (by
  obtain ⟨P, R, S, st, h1, f⟩ := h
  exact f S H (Same.refl S) h1)⟩
/-- y = [elt for tg in iter if ..] on one line, y a local -/
theorem dsetLc {y : Str} {py spos : Pos} (c : Cs X N sc full) (v : Ev X W k) (i : Nat) (own : List (Str × Nat)) (hi : DI X W tg iter gi)
    (hg : ∀ {s H C cl fp}, Cs (X.blk s H scope (compEnvC scope cl C X.env) fp) N (relS scope sc) false → DG (X.blk s H scope (compEnvC scope cl C X.env) fp) tg ts ag)
    (ht : ∀ {s H C cl fp}, Cs (X.blk s H scope (compEnvC scope cl C X.env) fp) N (relS scope sc) false → Ev (X.blk s H scope (compEnvC scope cl C X.env) fp) WN k → DTs (X.blk s H scope (compEnvC scope cl C X.env) fp) WN ifs tt)
    (he : ∀ {s H C cl fp}, Cs (X.blk s H scope (compEnvC scope cl C X.env) fp) N (relS scope sc) false → Ev (X.blk s H scope (compEnvC scope cl C X.env) fp) WN k → DE (X.blk s H scope (compEnvC scope cl C X.env) fp) WN elt ge)
    (hy : N[i]? = some y := by rfl) (hyl : sc.names.lookup y = some .local := by rfl) (hk : sc.kind = .function := by rfl) (hl : (py.line == pos.line) = true := by rfl) (ok : blkC N sc scope own = true := by decide +kernel) (hv : ∀ t ∈ ts, t ∈ own.map (·.2) := by decide)
    (ha : (scope.names.any fun (n, k) => n == y && (k == .local || k == .cell)) = false := by decide +kernel) (hs : ∀ x, foldedSetIterable iter X.env x = pure x := by intro _; rfl) :
    DSt X W (.Assign [.Name y py] (.ListComp elt [⟨tg, iter, ifs, 0⟩] scope pos) spos) (sAsg i (gLc (own.map (·.2)) gi ag tt ge)) :=
  ps_imp (ps_setLc v.calm (by rw [c.n]; exact c.nd) (by rw [c.n]; exact hy) (by rw [c.s]; exact hyl) (sw_true (by rw [c.s]; exact hk) (by rw [c.s]; exact hyl) hl ha) hi (by rw [c.n, c.s]; exact blkOk_by ok) (fun _ _ _ _ _ => hg c.blk) (fun _ _ _ _ _ => ht c.blk v.blk) (fun _ _ _ _ _ => he c.blk v.blk) hs)
    fun E σ H ⟨P, R, S, st, h, fi⟩ => lc_of hv σ H _ ⟨P, R, S, st, h, Fin.imp (Fin.bindS (σ := σ) fi) fun a st1 S1 H1 e1 h1 k v rv => by
      split at k
      · rename_i hlt
        cases ep : putV i st1 a with
        | none => rw [ep] at k; exact k.elim
        | some st2 =>
          rw [ep] at k
          obtain ⟨S2, q, h2⟩ := putV_ok h1 rv ep hlt
          exact k _ S2 H1 q h2
      · exact k.elim⟩
end
end DL
end
section
/-! DLp: max, min of two ints. -/
namespace DL
open PySem PySem.Spec PyProof.Rows L2
def max2F : List D → Option Val
  | [.int i, .int j] => vi (if j > i then j else i)
  | _ => none
def min2F : List D → Option Val
  | [.int i, .int j] => vi (if j < i then j else i)
  | _ => none
section
variable {G : Gx}
theorem callS_max2 : CallS G (fun xs H Q => ∃ i j, xs = [.int i, .int j] ∧ Q (.int (if j > i then j else i)) H) max2F := fun P R S H σ st vs xs c Q hs hv e k => by
  unfold max2F at e
  split at e
  · rename_i i j
    cases e
    obtain ⟨v, u, rfl, rv, ru⟩ := repTs_two hv
    exact ⟨i, j, by rw [rv.int, ru.int], k _ S H (Same.refl S) hs (.int _)⟩
  · cases e
theorem callS_min2 : CallS G (fun xs H Q => ∃ i j, xs = [.int i, .int j] ∧ Q (.int (if j < i then j else i)) H) min2F := fun P R S H σ st vs xs c Q hs hv e k => by
  unfold min2F at e
  split at e
  · rename_i i j
    cases e
    obtain ⟨v, u, rfl, rv, ru⟩ := repTs_two hv
    exact ⟨i, j, by rw [rv.int, ru.int], k _ S H (Same.refl S) hs (.int _)⟩
  · cases e
end
/-! ### xs.append(e) of a thing of one's own -/
def gApp (i : Nat) (ga : GA) : GE := fun st => match cont st i with
  | some (.lst _) => (ga st).bind fun as st1 => (match takes st1 as with
    | some ([x], st2) => (match cont st2 i with
      | some (.lst xs) => if xs.length < sizeLine then .ok (.d .non) (setC st2 i (.lst (xs ++ [x]))) else .no
      | _ => .no)
    | _ => .no)
  | _ => .no
section
variable {X : Cx} {W : WX}
theorem de_app {i : Nat} {x : Str} {e : Expr} {ga : GA} {p apos cpos : Pos} (hN : X.N[i]? = some x) (hv : Vis X.env.scope x) (hd : (x == ("__debug__" : Str)) = false) (hcd : (x == ("__classdict__" : Str)) = false) (ha : DA X W [e] ga)
    (hbase : attributeBase (.Name x p) "append" X.env (eval (.Name x p) X.env) = eval (.Name x p) X.env) (hfew : ((backTo cpos (starEach [e] X.env)).all (fun x => !x.1) && (backToKw cpos (keywordEach [] X.env)).all (fun x => x.1.isSome) && decide (([e] : List Expr).length + ([] : List Keyword).length + (if ([] : List Keyword).isEmpty then 0 else 1) < 30)) = true)
    (hline : (apos.endLine == cpos.line) = true) (hs : starEach [e] X.env = (false, eval e X.env) :: starEach [] X.env) (hplain : (backTo cpos (starEach [] X.env)).any (·.1) = false) : DE X W (.Call (.Attribute (.Name x p) "append" apos) [e] [] cpos) (gApp i ga) :=
  pe_imp (pe_bm PySem.F.plainAttrs_list PySem.F.slot_list_append PySem.F.type_list_append mt_append (pe_var hN hv hd hcd) ha hbase hfew hline hs hplain) fun σ H Q ⟨P, R, S, st, h, fi⟩ => by
    unfold gApp at fi
    cases ec : cont st i with
    | none => rw [ec] at fi; exact fi.elim
    | some d =>
      rw [ec] at fi
      cases d with
      | lst ys =>
        dsimp only at fi
        obtain ⟨a, o, z1, z2, z3, z4, z5⟩ := h.own i _ (cont_owns ec)
        cases z3 with
        | lst ra =>
          refine ⟨.ref a, z1, ?_, P, R, S, st, h, Fin.imp (Fin.bind fi) fun as st1 S1 H1 e1 h1 k vs pv => ?_⟩
          · exact Or.inl ⟨rfl, _, SqL.of z2⟩
          · cases et : takes st1 as with
            | none => rw [et] at k; exact k.elim
            | some r =>
              obtain ⟨xs, st2⟩ := r
              rw [et] at k
              split at k
              · rename_i x' st2' hx
                cases hx
                obtain ⟨S2, e2, h2, rb⟩ := takes_ok h1 pv et
                cases rb with
                | @cons v vs' _ _ r1 r2 =>
                  cases r2
                  cases ed : cont st2 i with
                  | none => rw [ed] at k; exact k.elim
                  | some d2 =>
                    rw [ed] at k
                    cases d2 with
                    | lst zs =>
                      dsimp only at k
                      split at k
                      · rename_i hz
                        have ow := cont_owns ed
                        obtain ⟨a2, o2, y1, y2, y3, y4, y5⟩ := h2.own i _ ow
                        rw [z1] at y1
                        cases y1
                        cases y3 with
                        | lst rz =>
                          exact ⟨a, _, v, rfl, rfl, y2, by rw [rz.length]; exact hz, k S2 _ e2 (h2.mut ow z1 (.lst (rz.append (.cons r1 .nil)))) _ .non⟩
                      · exact k.elim
                    | _ => exact k.elim
              · exact k.elim
      | _ => exact fi.elim
end
end DL
end
section
/-! DLq: all, any, sum of a list. -/
namespace DL
open PySem PySem.Spec PyProof.Rows L2
def blsOf : List D → Option (List Bool)
  | [] => some []
  | .bl b :: r => (blsOf r).map (b :: ·)
  | _ => none
section
variable {G : Gx} {S : Hp}
def allF : List D → Option Val
  | [.lst xs] => match blsOf xs with
    | some bs => vb (bs.all id)
    | none => none
  | _ => none
def anyF : List D → Option Val
  | [.lst xs] => match blsOf xs with
    | some bs => vb (bs.any id)
    | none => none
  | _ => none
end
end DL
end
section
/-! DLs: a text's join. -/
namespace DL
open PySem PySem.Spec PyProof.Rows L2
def gM1 (f : F2) (go ge : GE) : GE := fun st => (go st).bind fun a st1 => match look st1 a with
  | some (.str _) => (ge st1).bind fun b st2 => (match look st2 a, look st2 b with
    | some x, some y => lift (f x y) st2
    | _, _ => .no)
  | _ => .no
end DL
end
section
/-! DLn: enumerate of a text. -/
namespace DL
open PySem PySem.Spec PyProof.Rows L2
section
variable {X : Cx} {W : WX} {e : Expr} {p pos tpos : Pos} {elts : List Expr} {kk : Nat}
/-- the pairs of enumerate -/
def enumD : Nat → List D → List D
  | _, [] => []
  | i, d :: ds => .tup [.int (i : Nat), d] :: enumD (i + 1) ds
def gEnum (ga : GA) : GI := fun st => (ga st).bind fun as st1 => match looks st1 as with
  | some [.str x] => .ok (enumD 0 (chars x)) st1
  | _ => .no
end
end DL
end
section
set_option maxHeartbeats 1000000
/-! DLy: zip of two things, each a text, a list or a tuple. -/
namespace DL
open PySem PySem.Spec PyProof.Rows L2
end DL
end
section
/-! DLy2: the making of zip, its turns. -/
namespace DL
open PySem PySem.Spec PyProof.Rows L2
/-- what may be walked: a text, a list, a tuple -/
inductive Sk where
  | st (x : Str) (u : Tok) | ls (a : Addr) | tp (a : Addr)
def Sk.val : Sk → Value
  | .st x t => .str x t
  | .ls a => .ref a
  | .tp a => .ref a
def Sk.cls : Sk → String
  | .st x _ => strIterType x
  | .ls _ => "list_iterator"
  | .tp _ => "tuple_iterator"
def Sk.at (k : Sk) (h : Heap) : Prop := match k with
  | .st _ _ => True
  | .ls a => ∃ items, h.IsList a items
  | .tp a => ∃ items, h.IsTuple a items
def Sk.itr (k : Sk) (it : Addr) (i : Nat) (h : Heap) : Prop := ∃ o, h.get? it = some o ∧ o.cls = .type k.cls ∧ o.data = .fields #[k.val, .int i 0]
/-- what stands to be walked -/
def Sk.has (K : PySem.W.Frag) (k : Sk) (H : Hp) (xs : List V) : Prop := match k with
  | .st x _ => xs = x.cps.toList.map fun c => .str ⟨#[c]⟩
  | .ls a => SqL K H a xs
  | .tp a => SqT K H a xs
section
variable {X : Cx} {pins : List (Addr × Obj)} {σ : L2.St} {H : Hp} {s : Shared}
theorem Sk.inj {k : Sk} {xs ys : List V} (I : Inv X pins σ H s) (h : k.has X.K H xs) (h' : k.has X.K H ys) : xs = ys := by
  cases k with
  | st x t => exact (show xs = _ from h).trans (show ys = _ from h').symm
  | ls a => exact I.list_inj h h'
  | tp a => exact I.tuple_inj h h'
end
theorem Sk.itr_at {k : Sk} {it : Addr} {i : Nat} {h h' : Heap} (q : k.itr it i h) (e : ∀ o, h.get? it = some o → h'.get? it = some o) : k.itr it i h' := by
  obtain ⟨o, q1, q2⟩ := q
  exact ⟨o, e o q1, q2⟩
section
variable {X : Cx} {W : WX} {e e2 : Expr} {p pos tpos : Pos} {elts : List Expr} {kk : Nat}
/-- the pairs of zip -/
def zipD : List D → List D → List D
  | x :: xs, y :: ys => .tup [x, y] :: zipD xs ys
  | _, _ => []
def gZip (ga : GA) : GI := fun st => (ga st).bind fun as st1 => match takes st1 as with
  | some ([x, y], st2) => (match items x, items y with
    | some xs, some ys => .ok (zipD xs ys) st2
    | _, _ => .no)
  | _ => .no
end
end DL
end
section
/-! DLr: repr of data, dicts among them. -/
namespace DL
open PySem PySem.Spec PyProof.Rows L2
mutual
/-- what a value shows: as Reads, where of dicts alone the address is asked -/
inductive Sw (h : Heap) : Value → PyData → Prop
  | pl {v : Value} {d : PyData} {as : List Addr} : Reads h v d as → d.hasDict = false → Sw h v d
  | list {a : Addr} {o : Obj} {us : Array Value} {n : Nat} {xs : List PyData} : h.get? a = some o → o.cls = .type "list" → o.data = .seq us n → SwAll h us.toList xs → Sw h (.ref a) (.list xs)
  | tuple {a : Addr} {o : Obj} {us : Array Value} {n : Nat} {xs : List PyData} : h.get? a = some o → o.cls = .type "tuple" → o.data = .seq us n → SwAll h us.toList xs → Sw h (.ref a) (.tuple xs)
  | dict {a : Addr} {o : Obj} {es : Array DictEntry} {n : Nat} {kvs : List (PyData × PyData)} : h.get? a = some o → o.cls = .type "dict" → o.data = .dict es n → (a == sysModules) = false →
      SwAll h (es.toList.map (·.key)) (kvs.map (·.1)) → SwAll h (es.toList.map (·.val)) (kvs.map (·.2)) → Sw h (.ref a) (.dict kvs)
inductive SwAll (h : Heap) : List Value → List PyData → Prop
  | nil : SwAll h [] []
  | cons {v : Value} {vs : List Value} {d : PyData} {ds : List PyData} : Sw h v d → SwAll h vs ds → SwAll h (v :: vs) (d :: ds)
end
section
variable {h : Heap}
mutual
theorem Sw.reads : ∀ {v : Value} {d : PyData}, Sw h v d → ∃ as, Reads h v d as
  | _, _, .pl r _ => ⟨_, r⟩
  | _, _, .list h1 h2 h3 h4 => let ⟨as, r⟩ := h4.reads; ⟨_, .list h1 h2 h3 r⟩
  | _, _, .tuple h1 h2 h3 h4 => let ⟨as, r⟩ := h4.reads; ⟨_, .tuple h1 h2 h3 r⟩
  | _, _, .dict h1 h2 h3 _ h4 h5 => let ⟨as, r⟩ := h4.reads; let ⟨bs, q⟩ := h5.reads; ⟨_, .dict h1 h2 h3 r q⟩
theorem SwAll.reads : ∀ {vs : List Value} {ds : List PyData}, SwAll h vs ds → ∃ as, ReadsAll h vs ds as
  | _, _, .nil => ⟨_, .nil⟩
  | _, _, .cons r t => let ⟨as, q⟩ := r.reads; let ⟨bs, z⟩ := t.reads; ⟨_, .cons q z⟩
end
end
section
variable {prog : Program} {w : World} {h : Heap}
theorem depth_list (xs : List PyData) : PyData.depth (.list xs) = PyData.depthAll xs + 1 := by simp only [PyData.depth]
theorem depth_tuple (xs : List PyData) : PyData.depth (.tuple xs) = PyData.depthAll xs + 1 := by simp only [PyData.depth]
theorem depth_dict (kvs : List (PyData × PyData)) : PyData.depth (.dict kvs) = PyData.depthKv kvs + 1 := by simp only [PyData.depth]
mutual
theorem Sw.repr : ∀ {v : Value} {d : PyData}, Sw h v d → d.showable = true → d.shown.length ≤ sizeLine → ∃ bs, ReadAtMost h d.depth bs ∧ ReprK prog w bs h d.depth v d.shown
  | _, _, .pl r n, hs, hz => ReprK.of_reads r hs (fun z => by rw [n] at z; cases z) hz
  | _, _, .list (a := a) (us := us) (xs := xs) h1 h2 h3 h4, hs, hz => by
    have z1 : (listText (PyData.shownAll xs)).length ≤ sizeLine := by simpa only [PyData.shown] using hz
    obtain ⟨bs, hb, hk⟩ := h4.repr (by simpa [PyData.showable] using hs) fun t ht => Nat.le_trans (listText_mem_le ht) z1
    obtain ⟨as, ra⟩ := (Sw.list h1 h2 h3 h4).reads
    have na : a ∉ bs := not_mem_of_deeper ra (by rw [depth_list]; exact Nat.lt_succ_self _) hb
    refine ⟨a :: bs, ReadAtMost.cons ra (by rw [depth_list]; exact Nat.le_succ _) hb, ?_⟩
    rw [depth_list]
    simp only [PyData.shown]
    obtain ⟨l⟩ := us
    cases l with
    | nil =>
      cases h4
      simp only [PyData.shownAll, listText_nil]
      exact ReprK.listEmpty h1 h2 h3
    | cons x l => exact ReprK.list h1 h2 h3 na (by simpa using hk.length_eq) fun i y e => hk.item i y (by simpa using e)
  | _, _, .tuple (a := a) (xs := xs) h1 h2 h3 h4, hs, hz => by
    have z1 : (tupleText (PyData.shownAll xs)).length ≤ sizeLine := by simpa only [PyData.shown] using hz
    obtain ⟨bs, hb, hk⟩ := h4.repr (by simpa [PyData.showable] using hs) fun t ht => Nat.le_trans (tupleText_mem_le ht) z1
    obtain ⟨as, ra⟩ := (Sw.tuple h1 h2 h3 h4).reads
    have na : a ∉ bs := not_mem_of_deeper ra (by rw [depth_tuple]; exact Nat.lt_succ_self _) hb
    refine ⟨a :: bs, ReadAtMost.cons ra (by rw [depth_tuple]; exact Nat.le_succ _) hb, ?_⟩
    rw [depth_tuple]
    simp only [PyData.shown]
    exact ReprK.tuple h1 h2 h3 na hk
  | _, _, .dict (a := a) (es := es) (kvs := kvs) h1 h2 h3 h6 h4 h5, hs, hz => by
    have z1 : (dictText (PyData.shownKv kvs)).length ≤ sizeLine := by simpa only [PyData.shown] using hz
    obtain ⟨s1, s2⟩ := PyData.showableKv_split kvs (by simpa [PyData.showable] using hs)
    obtain ⟨b1, q1, k1⟩ := h4.repr s1 fun t ht => by
      obtain ⟨p, hp, hl⟩ := PyData.shownKv_key_le kvs t ht
      exact Nat.le_trans hl (Nat.le_trans (dictText_mem_le hp) z1)
    obtain ⟨b2, q2, k2⟩ := h5.repr s2 fun t ht => by
      obtain ⟨p, hp, hl⟩ := PyData.shownKv_val_le kvs t ht
      exact Nat.le_trans hl (Nat.le_trans (dictText_mem_le hp) z1)
    obtain ⟨as, ra⟩ := (Sw.dict h1 h2 h3 h6 h4 h5).reads
    have hb : ReadAtMost h (PyData.depthKv kvs) (b1 ++ b2) := (q1.mono (PyData.depthAll_keys_le kvs)).append (q2.mono (PyData.depthAll_vals_le kvs))
    have na : a ∉ b1 ++ b2 := not_mem_of_deeper ra (by rw [depth_dict]; exact Nat.lt_succ_self _) hb
    refine ⟨a :: (b1 ++ b2), ReadAtMost.cons ra (by rw [depth_dict]; exact Nat.le_succ _) hb, ?_⟩
    rw [depth_dict]
    simp only [PyData.shown, PyData.shownKv_eq]
    refine ReprK.dict h1 h2 h3 h6 na (ReprEntriesK.of_two es.toList _ _ (k1.more_le ?_ (PyData.depthAll_keys_le kvs)) (k2.more_le ?_ (PyData.depthAll_vals_le kvs)))
    · exact fun b hb => List.mem_append_left _ hb
    · exact fun b hb => List.mem_append_right _ hb
theorem SwAll.repr : ∀ {vs : List Value} {ds : List PyData}, SwAll h vs ds → PyData.showableAll ds = true → (∀ t ∈ PyData.shownAll ds, t.length ≤ sizeLine) → ∃ bs, ReadAtMost h (PyData.depthAll ds) bs ∧ ReprAllK prog w bs h (PyData.depthAll ds) vs (PyData.shownAll ds)
  | _, _, .nil, _, _ => ⟨[], fun _ z => absurd z List.not_mem_nil, by simp only [PyData.shownAll]; exact .nil⟩
  | _, _, .cons (d := d) (ds := ds) r t, hs, hz => by
    have s1 : d.showable = true ∧ PyData.showableAll ds = true := by simpa [PyData.showableAll] using hs
    obtain ⟨b1, q1, k1⟩ := r.repr s1.1 (hz _ (by simp only [PyData.shownAll]; exact List.mem_cons_self))
    obtain ⟨b2, q2, k2⟩ := t.repr s1.2 fun t ht => hz t (by simp only [PyData.shownAll]; exact List.mem_cons_of_mem _ ht)
    have e : PyData.depthAll (d :: ds) = max d.depth (PyData.depthAll ds) := by simp only [PyData.depthAll]
    refine ⟨b1 ++ b2, ?_, ?_⟩
    · rw [e]
      exact (q1.mono (Nat.le_max_left _ _)).append (q2.mono (Nat.le_max_right _ _))
    · rw [e]
      simp only [PyData.shownAll]
      exact .cons ((k1.more fun b hb => List.mem_append_left _ hb).level_le (Nat.le_max_left _ _)) (k2.more_le (fun b hb => List.mem_append_right _ hb) (Nat.le_max_right _ _))
end
end
section
variable {prog : Program} {w : World} {h : Heap}
theorem Sw.shows {a : Addr} {d : PyData} (r : Sw h (.ref a) d) (hs : d.showable = true) (hz : d.shown.length ≤ sizeLine) : ∃ T idr, ShowsBy prog w h a d T idr := by
  obtain ⟨as, ra⟩ := r.reads
  cases r with
  | pl r n => exact showsBy_of_reads r hs (fun z => by rw [n] at z; cases z) hz
  | @list _ o us n xs h1 h2 h3 h4 =>
    have z1 : (listText (PyData.shownAll xs)).length ≤ sizeLine := by simpa only [PyData.shown] using hz
    obtain ⟨bs, hb, hk⟩ := h4.repr (prog := prog) (w := w) (by simpa [PyData.showable] using hs) fun t ht => Nat.le_trans (listText_mem_le ht) z1
    have na : a ∉ bs := not_mem_of_deeper ra (by rw [depth_list]; exact Nat.lt_succ_self _) hb
    refine ⟨"list", "list.__repr__", F.slot_list_repr.toG, F.slot_list_str, F.slot_list_format, fun s k => ⟨o, k _ _ h1, h2⟩, fun A E s Q hg hu k hQ => ?_⟩
    rw [depth_list] at hu
    simp only [PyData.shown] at hQ
    obtain ⟨l⟩ := us
    cases l with
    | nil =>
      cases h4
      simp only [PyData.shownAll, listText_nil] at hQ
      exact call_list_repr_empty ⟨o, k _ _ h1, h2⟩ (k _ _ h1) h3 (hQ s.heap _ _ fun _ _ e => e)
    | cons x l => exact call_list_reprK h1 h2 h3 na (by simpa using hk.length_eq) (fun i y e => hk.item i y (by simpa using e)) hg (fun b _ => Clear.nil b) hu k hQ z1
  | @tuple _ o us n xs h1 h2 h3 h4 =>
    have z1 : (tupleText (PyData.shownAll xs)).length ≤ sizeLine := by simpa only [PyData.shown] using hz
    obtain ⟨bs, hb, hk⟩ := h4.repr (prog := prog) (w := w) (by simpa [PyData.showable] using hs) fun t ht => Nat.le_trans (tupleText_mem_le ht) z1
    have na : a ∉ bs := not_mem_of_deeper ra (by rw [depth_tuple]; exact Nat.lt_succ_self _) hb
    refine ⟨"tuple", "tuple.__repr__", F.slot_tuple_repr, F.slot_tuple_str, F.slot_tuple_format, fun s k => ⟨o, k _ _ h1, h2⟩, fun A E s Q hg hu k hQ => ?_⟩
    rw [depth_tuple] at hu
    simp only [PyData.shown] at hQ
    exact call_tuple_reprK h1 h2 h3 na hk hg (fun b _ => Clear.nil b) hu k hQ z1
  | @dict _ o es n kvs h1 h2 h3 h6 h4 h5 =>
    have z1 : (dictText (PyData.shownKv kvs)).length ≤ sizeLine := by simpa only [PyData.shown] using hz
    obtain ⟨s1, s2⟩ := PyData.showableKv_split kvs (by simpa [PyData.showable] using hs)
    obtain ⟨b1, q1, k1⟩ := h4.repr (prog := prog) (w := w) s1 fun t ht => by
      obtain ⟨p, hp, hl⟩ := PyData.shownKv_key_le kvs t ht
      exact Nat.le_trans hl (Nat.le_trans (dictText_mem_le hp) z1)
    obtain ⟨b2, q2, k2⟩ := h5.repr (prog := prog) (w := w) s2 fun t ht => by
      obtain ⟨p, hp, hl⟩ := PyData.shownKv_val_le kvs t ht
      exact Nat.le_trans hl (Nat.le_trans (dictText_mem_le hp) z1)
    have hb : ReadAtMost h (PyData.depthKv kvs) (b1 ++ b2) := (q1.mono (PyData.depthAll_keys_le kvs)).append (q2.mono (PyData.depthAll_vals_le kvs))
    have na : a ∉ b1 ++ b2 := not_mem_of_deeper ra (by rw [depth_dict]; exact Nat.lt_succ_self _) hb
    refine ⟨"dict", "dict.__repr__", F.slot_dict_repr, F.slot_dict_str, F.slot_dict_format, fun s k => ⟨o, k _ _ h1, h2⟩, fun A E s Q hg hu k hQ => ?_⟩
    rw [depth_dict] at hu
    simp only [PyData.shown, PyData.shownKv_eq] at hQ
    refine call_dict_reprK h1 h2 h3 h6 na (ReprEntriesK.of_two es.toList _ _ (k1.more_le ?_ (PyData.depthAll_keys_le kvs)) (k2.more_le ?_ (PyData.depthAll_vals_le kvs))) hg (fun b _ => Clear.nil b) hu k hQ (by rw [← PyData.shownKv_eq]; exact z1)
    · exact fun b hb => List.mem_append_left _ hb
    · exact fun b hb => List.mem_append_right _ hb
variable {A : Around} {E : Value → Shared → Prop} {s : Shared} {Q : Value → Shared → Prop}
theorem Sw.pyRepr {u : Value} {d : PyData} (r : Sw s.heap u d) (hs : d.showable = true) (hz : d.shown.length ≤ sizeLine) (hg : A.guards = some []) (hu : A.units + d.depth + 1 < cLine)
    (hQ : ∀ h' t tk, (∀ b o, s.heap.get? b = some o → h'.get? b = some o) → Q (.str d.shown t) { s with heap := h', toks := tk }) : wpAny (model prog w) A (pyReprObj u) Q E s := by
  have sc : ∀ tk, Q (.str d.shown s.toks) { s with toks := tk } := fun tk => hQ s.heap _ _ fun _ _ e => e
  obtain ⟨as, ra⟩ := r.reads
  cases ra with
  | none => simp only [PyData.shown] at sc; exact pyReprObj_none (sc _)
  | bool b => simp only [PyData.shown] at sc; exact pyReprObj_bool (sc _)
  | int i t => simp only [PyData.shown] at sc; exact pyReprObj_int (by simpa [PyData.showable] using hs) (sc _)
  | str x t => simp only [PyData.shown] at sc hz; exact pyReprObj_str (sc _) hz
  | list h1 h2 h3 h4 =>
    obtain ⟨T, idr, S⟩ := r.shows (prog := prog) (w := w) hs hz
    exact wpAny_pyReprObj_slot (by omega) (S.typeIs s fun _ _ e => e) S.slotRepr (S.call A E s _ hg (by omega) (fun _ _ e => e) fun h' u tk k => ⟨_, _, rfl, hQ h' u tk k⟩)
  | tuple h1 h2 h3 h4 =>
    obtain ⟨T, idr, S⟩ := r.shows (prog := prog) (w := w) hs hz
    exact wpAny_pyReprObj_slot (by omega) (S.typeIs s fun _ _ e => e) S.slotRepr (S.call A E s _ hg (by omega) (fun _ _ e => e) fun h' u tk k => ⟨_, _, rfl, hQ h' u tk k⟩)
  | dict h1 h2 h3 h4 h5 =>
    obtain ⟨T, idr, S⟩ := r.shows (prog := prog) (w := w) hs hz
    exact wpAny_pyReprObj_slot (by omega) (S.typeIs s fun _ _ e => e) S.slotRepr (S.call A E s _ hg (by omega) (fun _ _ e => e) fun h' u tk k => ⟨_, _, rfl, hQ h' u tk k⟩)
end
/-! ### from data -/
mutual
def shw : D → Option PyData
  | .non => some .none
  | .bl b => some (.bool b)
  | .int i => some (.int i)
  | .str x => some (.str x)
  | .lst xs => (shws xs).map .list
  | .tup xs => (shws xs).map .tuple
  | .dct kvs => (shwk kvs).map .dict
  | .ins _ _ => none
  | .ty _ => none
  | .cls _ => none
  | .scr _ => none
  | .clo _ _ _ => none
def shws : List D → Option (List PyData)
  | [] => some []
  | x :: xs => match shw x, shws xs with
    | some d, some ds => some (d :: ds)
    | _, _ => none
def shwk : List (D × D) → Option (List (PyData × PyData))
  | [] => some []
  | (k, x) :: r => match shw k, shw x, shwk r with
    | some c, some d, some ds => some ((c, d) :: ds)
    | _, _, _ => none
end
section
variable {P : Program} {w : World} {G : Gx} {S H : Hp} {h : Heap}
theorem objOk_rd {a : Addr} {o : HO} (k : HOk P w H h) (r : Rd H a o) : ObjOk P w H h a o := by
  rcases r with r | ⟨ob, r⟩
  · exact k a o r
  · exact (k a _ r).2
theorem sqL_reads {a : Addr} {xs : List V} (k : HOk P w H h) (ki : G.K.In h) (q : SqL G.K H a xs) : ∃ (o : Obj) (us : Array Value) (n : Nat), h.get? a = some o ∧ o.cls = .type "list" ∧ o.data = .seq us n ∧ Vals xs us.toList := by
  rcases q with q | ⟨o, us, n, q1, q2, q3, q4, q5, q6⟩
  · obtain ⟨_, its, n, r, e⟩ := objOk_rd k q
    exact ⟨_, its.toArray, n, e, rfl, rfl, by simpa using r⟩
  · exact ⟨o, us, n, ki _ _ q1, q2, q4, q6⟩
theorem tupAt_reads {a : Addr} {xs : List V} (k : HOk P w H h) (ki : G.K.In h) (q : TupAt G.K H a xs) : ∃ (o : Obj) (us : Array Value) (n : Nat), h.get? a = some o ∧ o.cls = .type "tuple" ∧ o.data = .seq us n ∧ Vals xs us.toList := by
  rcases q with q | ⟨o, us, n, q1, q2, q3, q4, q5⟩
  · obtain ⟨_, its, r, o, e, hc, n, hd⟩ := k a _ q
    exact ⟨o, its.toArray, n, e, hc, hd, by simpa using r⟩
  · exact ⟨o, us, n, ki _ _ q1, q2, q3, q5⟩
theorem dict_reads {a : Addr} {kvs : List (Key × V)} (k : HOk P w H h) (q : Rd H a (.dK kvs)) : ∃ (o : Obj) (es : Array DictEntry) (n : Nat) (us : List (Key × Value)), h.get? a = some o ∧ o.cls = .type "dict" ∧ o.data = .dict es n ∧ (a == sysModules) = false ∧ KV kvs us ∧ Pairs (mixKind P w) es.toList us := by
  obtain ⟨_, ns, us, kv, o, es, n, e, ex, ed, _, pr, _⟩ := objOk_rd k q
  exact ⟨o, es, n, us, e, ex.1, ed, ns, kv, pr⟩
theorem relV_key {h' : Heap} {k : Key} {u : Value} (h : (mixKind P w).is k u = true) : ∃ d, shw (keyD k) = some d ∧ Sw h' u d := by
  rcases keyIs_shape h with ⟨i, t, rfl, rfl⟩ | ⟨x, t, rfl, rfl⟩
  · exact ⟨.int i, by simp only [keyD, shw], .pl (.int i t) rfl⟩
  · exact ⟨.str x, by simp only [keyD, shw], .pl (.str x t) rfl⟩
theorem key_sw {h : Heap} {k : Key} {u : Value} (r : RelV (kV k) u) : ∃ d, shw (keyD k) = some d ∧ Sw h u d := by
  cases k with
  | inl i => obtain ⟨t, rfl⟩ := r; exact ⟨.int i, by simp only [keyD, shw], .pl (.int i t) rfl⟩
  | inr x => obtain ⟨t, rfl⟩ := r; exact ⟨.str x, by simp only [keyD, shw], .pl (.str x t) rfl⟩
theorem keys_sw {h : Heap} : ∀ {ks : List Key} {us : List Value}, Vals (ks.map kV) us → ∃ ds, shws (ks.map keyD) = some ds ∧ SwAll h us ds
  | [], _, .nil => ⟨[], by simp only [List.map_nil, shws], .nil⟩
  | k :: ks, _, .cons r t => by
    obtain ⟨d, e1, s1⟩ := key_sw (h := h) r
    obtain ⟨ds, e2, s2⟩ := keys_sw (h := h) t
    exact ⟨d :: ds, by simp only [List.map_cons, shws, e1, e2], .cons s1 s2⟩
mutual
theorem sw_of (l : Le S H) (k : HOk P w H h) (ki : G.K.In h) : ∀ {x : D} {d : PyData} {v : V} {u : Value}, shw x = some d → Rep G S v x → RelV v u → Sw h u d
  | .non, _, _, _, e, r, q => by simp only [shw] at e; cases e; cases r; cases q; exact .pl .none rfl
  | .bl b, _, _, _, e, r, q => by simp only [shw] at e; cases e; cases r; cases q; exact .pl (.bool b) rfl
  | .int i, _, _, _, e, r, q => by simp only [shw] at e; cases e; cases r; obtain ⟨t, rfl⟩ := q; exact .pl (.int i t) rfl
  | .str x, _, _, _, e, r, q => by simp only [shw] at e; cases e; cases r; obtain ⟨t, rfl⟩ := q; exact .pl (.str x t) rfl
  | .lst xs, d, v, u, e, r, q => by
    unfold shw at e
    cases e1 : shws xs with
    | none => rw [e1] at e; cases e
    | some ds =>
      rw [e1] at e
      cases e
      cases r with
      | lst hl ra =>
        cases q
        obtain ⟨o, us, n, z1, z2, z3, z4⟩ := sqL_reads (G := G) k ki (SqL.of (l.lst hl))
        exact .list z1 z2 z3 (sws_of l k ki e1 ra z4)
  | .tup xs, d, v, u, e, r, q => by
    unfold shw at e
    cases e1 : shws xs with
    | none => rw [e1] at e; cases e
    | some ds =>
      rw [e1] at e
      cases e
      obtain ⟨a, ys, rfl, ha, ra⟩ := r.tupAt
      cases q
      obtain ⟨o, us, n, z1, z2, z3, z4⟩ := tupAt_reads (G := G) k ki (l.tupAt ha)
      exact .tuple z1 z2 z3 (sws_of l k ki e1 ra z4)
  | .dct kvs, d, v, u, e, r, q => by
    unfold shw at e
    cases e1 : shwk kvs with
    | none => rw [e1] at e; cases e
    | some ds =>
      rw [e1] at e
      cases e
      cases r with
      | dK hl ra =>
        cases q
        obtain ⟨o, es, n, us, z1, z2, z3, z4, z5, z6⟩ := dict_reads k (l.rd (Or.inl hl))
        obtain ⟨y1, y2⟩ := swk_of l k ki e1 ra z5 z6
        exact .dict z1 z2 z3 z4 y1 y2
      | dT hl nn ra =>
        cases q
        obtain ⟨_, ns, ts, pr, o, es, n, z1, ex, z3, z6, _⟩ := (show ObjOk P w H h _ (.dT _) from rd_of k (l.rd (.inl hl)))
        obtain ⟨y1, y2⟩ := swt_of l k ki e1 ra pr
        refine .dict z1 ex.1 z3 ns ?_ ?_
        · rw [z6, List.map_map]; exact y1
        · rw [z6, List.map_map]; exact y2
  | .ins _ _, _, _, _, e, _, _ => by simp [shw] at e
  | .ty _, _, _, _, e, _, _ => by simp [shw] at e
  | .cls _, _, _, _, e, _, _ => by simp [shw] at e
  | .scr _, _, _, _, e, _, _ => by simp [shw] at e
  | .clo _ _ _, _, _, _, e, _, _ => by simp [shw] at e
theorem sws_of (l : Le S H) (k : HOk P w H h) (ki : G.K.In h) : ∀ {xs : List D} {ds : List PyData} {vs : List V} {us : List Value}, shws xs = some ds → RepAll G S vs xs → Vals vs us → SwAll h us ds
  | [], _, _, _, e, r, q => by simp only [shws] at e; cases e; cases r; cases q; exact .nil
  | x :: xs, ds, vs, us, e, r, q => by
    unfold shws at e
    cases e1 : shw x with
    | none => rw [e1] at e; cases e
    | some d =>
      rw [e1] at e
      cases e2 : shws xs with
      | none => rw [e2] at e; cases e
      | some ds' =>
        rw [e2] at e
        cases e
        cases r with
        | cons r1 r2 =>
          cases q with
          | cons q1 q2 => exact .cons (sw_of l k ki e1 r1 q1) (sws_of l k ki e2 r2 q2)
theorem swk_of (l : Le S H) (k : HOk P w H h) (ki : G.K.In h) : ∀ {xs : List (D × D)} {ds : List (PyData × PyData)} {vs : List (Key × V)} {us : List (Key × Value)} {es : List DictEntry}, shwk xs = some ds → RepKV G S vs xs → KV vs us → Pairs (mixKind P w) es us →
    SwAll h (es.map (·.key)) (ds.map (·.1)) ∧ SwAll h (es.map (·.val)) (ds.map (·.2))
  | [], _, _, _, _, e, r, q, z => by simp only [shwk] at e; cases e; cases r; cases q; cases z; exact ⟨.nil, .nil⟩
  | (c, x) :: xs, ds, vs, us, es, e, r, q, z => by
    unfold shwk at e
    cases r with
    | @cons ky v vs _ _ r1 r2 =>
      cases q with
      | cons q1 q2 =>
        cases z with
        | @cons en kv es' us' y1 y2 y3 =>
          obtain ⟨p1, p2⟩ := q1
          dsimp only at p1 p2
          rw [← p1] at y1
          obtain ⟨dk, w1, w2⟩ := relV_key (h' := h) y1
          rw [w1] at e
          cases e1 : shw x with
          | none => rw [e1] at e; cases e
          | some d =>
            rw [e1] at e
            cases e2 : shwk xs with
            | none => rw [e2] at e; cases e
            | some ds' =>
              rw [e2] at e
              cases e
              obtain ⟨b1, b2⟩ := swk_of l k ki e2 r2 q2 y3
              refine ⟨.cons w2 b1, .cons ?_ b2⟩
              show Sw h en.val d
              rw [y2]
              exact sw_of l k ki e1 r1 p2
theorem swt_of (l : Le S H) (k : HOk P w H h) (ki : G.K.In h) : ∀ {xs : List (D × D)} {ds : List (PyData × PyData)} {vs : List (List Key × V)} {ts : List (List Key × Addr × Value)}, shwk xs = some ds → RepKT G S vs xs →
    Paired (fun (p : List Key × V) (q : List Key × Addr × Value) => p.1 = q.1 ∧ H q.2.1 = some (.tup (p.1.map kV)) ∧ RelV p.2 q.2.2) vs ts →
    SwAll h (ts.map ((·.key) ∘ entryOfKey (tupleKind (mixKind P w)))) (ds.map (·.1)) ∧ SwAll h (ts.map ((·.val) ∘ entryOfKey (tupleKind (mixKind P w)))) (ds.map (·.2))
  | [], _, _, _, e, r, q => by simp only [shwk] at e; cases e; cases r; cases q; exact ⟨.nil, .nil⟩
  | (c, x) :: xs, ds, vs, ts, e, r, q => by
    unfold shwk at e
    cases r with
    | @cons ky v vs _ _ r1 r2 =>
      cases q with
      | @cons _ tt _ ts' q1 q2 =>
        obtain ⟨p1, p2, p3⟩ := q1
        obtain ⟨_, its, rv, o, z1, z2, n, z3⟩ := k _ _ p2
        obtain ⟨ks, w1, w2⟩ := keys_sw (h := h) rv
        have w3 : shw (.tup (ky.map keyD)) = some (.tuple ks) := by unfold shw; rw [w1]; rfl
        have w4 : Sw h (.ref tt.2.1) (.tuple ks) := .tuple z1 z2 z3 (by simpa using w2)
        rw [w3] at e
        cases e1 : shw x with
        | none => rw [e1] at e; cases e
        | some d =>
          rw [e1] at e
          cases e2 : shwk xs with
          | none => rw [e2] at e; cases e
          | some ds' =>
            rw [e2] at e
            cases e
            obtain ⟨b1, b2⟩ := swt_of l k ki e2 r2 q2
            exact ⟨.cons w4 b1, .cons (sw_of l k ki e1 r1 p3) b2⟩
end
end
/-! ### repr(x), {x!r} -/
def okSh (d : PyData) : Bool := d.showable && decide (d.depth ≤ 100) && fits d.shown.length
theorem okSh_of {d : PyData} (h : okSh d = true) : d.showable = true ∧ d.depth ≤ 100 ∧ d.shown.length ≤ sizeLine := by
  unfold okSh at h
  rw [Bool.and_eq_true, Bool.and_eq_true, decide_eq_true_eq] at h
  exact ⟨h.1.1, h.1.2, fits_of h.2⟩
def rprD (x : D) : Option Str := match shw x with
  | some d => if okSh d = true then some d.shown else none
  | none => none
@[irreducible] def rprF : List D → Option Val
  | [x] => match rprD x with
    | some t => vs t
    | none => none
  | _ => none
/-- shows d, in whichever heap bears it -/
def ShwV (X : Cx) (H : Hp) (v : V) (d : PyData) : Prop := ∀ (h : Heap) (u : Value), HOk X.prog X.w H h → X.K.In h → RelV v u → Sw h u d
end DL
end
section
/-! DLx: an own exception's __init__ that begins with super().__init__(e). -/
namespace DL
open PySem PySem.Spec PyProof.Rows L2
structure XSc (N ps : List Str) (sc : Scope) : Prop where
  kind : sc.kind = .function
  co : sc.isCoroutine = false
  gen : sc.isGenerator = false
  nd : N.Nodup
  pre : N.take ps.length = ps
  par : ∀ x ∈ ps, sc.names.lookup x = some .local
  cell : ∀ x ∈ sc.names, x.2 ≠ .cell
  free : ∀ y ∈ sc.names, y.2 = .free → y.1 = "__class__"
  ks : sc.names.lookup ("super" : Str) = some .globalImplicit
  kc : sc.names.lookup ("__class__" : Str) = some .free
abbrev envS (qual : Str) (sc : Scope) (L f cda cc : Addr) : Env := PySem.W.ksEnv qual sc L f (.ref cda) cc
/-- the context of such a body -/
def cxS (P : Program) (w : World) (K : PySem.W.Frag) (mg : Str → Option Value) (base : Heap) (N : List Str) (qual : Str) (sc : Scope) (f cda cc : Addr) (A : Around) (outer : List Env) (s : Shared) (H : Hp) (E : XK) : Cx where
  prog := P
  w := w
  K := K
  mg := mg
  base := base
  A := A.deeper (envS qual sc s.heap.objs.size f cda cc)
  N := N
  s_0 := s
  H_0 := H
  env := envS qual sc s.heap.objs.size f cda cc
  outer := outer
  stack := envS qual sc s.heap.objs.size f cda cc :: outer
  ex := []
  calm := true
  fn := fun x => !(x == ("__class__" : Str))
  pn := []
  xe := fun e s' => wpAny (model P w) (A.deeper (envS qual sc s.heap.objs.size f cda cc)) (leaving (envS qual sc s.heap.objs.size f cda cc) e) (fun _ s'' => L2.CX P w outer H s E e s'') (fun e' s'' => L2.CX P w outer H s E e' s'') s'
theorem zip_none {y : Str} : ∀ {ps : List Str} {us : List Value}, y ∉ ps → (ps.zip us).reverse.lookup y = none
  | [], us, _ => by simp
  | p :: ps, [], _ => by simp
  | p :: ps, u :: us, h => by
    have h1 : y ≠ p := fun z => h (by rw [z]; exact List.mem_cons_self)
    have h2 : y ∉ ps := fun z => h (List.mem_cons_of_mem _ z)
    rw [List.zip_cons_cons, List.reverse_cons, List.lookup_append, zip_none h2]
    have h3 : (y == p) = false := beq_eq_false_iff_ne.mpr h1
    simp [List.lookup, h3]
theorem zip_get {y : Str} {u : Value} : ∀ {ps : List Str} {us : List Value} {i : Nat}, ps.Nodup → ps[i]? = some y → us[i]? = some u → (ps.zip us).reverse.lookup y = some u
  | [], _, _, _, h, _ => by simp at h
  | _ :: _, [], _, _, _, h => by simp at h
  | p :: ps, v :: us, 0, nd, h1, h2 => by
    simp at h1 h2
    subst h1 h2
    rw [List.zip_cons_cons, List.reverse_cons, List.lookup_append, zip_none (List.nodup_cons.mp nd).1]
    simp [List.lookup]
  | p :: ps, v :: us, i + 1, nd, h1, h2 => by
    rw [List.zip_cons_cons, List.reverse_cons, List.lookup_append, zip_get (i := i) (List.nodup_cons.mp nd).2 (by simpa using h1) (by simpa using h2)]
    rfl
section
variable {P : Program} {w : World} {K : PySem.W.Frag} {mg : Str → Option Value} {base : Heap} {N ps : List Str} {qual : Str} {sc : Scope} {f cda cc : Addr} {A : Around} {outer : List Env} {s : Shared} {H : Hp} {E : XK} {us : List Value} {vs : List V}
theorem cls_lookup {x : Str} {c cc : Addr} (h : ([(("__class__" : Str), cc)] : List (Str × Addr)).lookup x = some c) : x = "__class__" ∧ c = cc := by
  simp only [List.lookup] at h
  split at h
  · rename_i e
    cases h
    exact ⟨beq_iff_eq.mp e, rfl⟩
  · cases h
theorem inv_sup {h₁ : Heap} {n : Nat} {oc : Value} {od : Option Addr} {v : Option Value} {sl : Array (Option Value)} (Sc : XSc N ps sc) (hd : A.handled = none) (e0 : Env0 P w K mg base A outer s H) (hl : vs.length = ps.length) (r : Vals vs us)
    (hc : K.lookup cc = some ⟨oc, od, .cell v, sl⟩) (hns : h₁.Ns s.heap.objs.size fun x => (ps.zip us).reverse.lookup x) (hk : ∀ b o, s.heap.get? b = some o → h₁.get? b = some o) :
    Inv (cxS P w K mg base N qual sc f cda cc A outer s H E) [] (L2.start N vs) H { s with heap := h₁, toks := n } := by
  have hpl : ps.length ≤ N.length := by have := congrArg List.length Sc.pre; rw [List.length_take] at this; omega
  have hcb := e0.mod.kin _ _ hc
  have hcs := e0.bs _ _ hcb
  have noA : ∀ b : Addr, b ∉ (cxS P w K mg base N qual sc f cda cc A outer s H E).ex := fun b z => absurd (show b ∈ ([] : List Addr) from z) (by simp)
  have hpn : ∀ p : Addr × Obj, p ∉ (cxS P w K mg base N qual sc f cda cc A outer s H E).pn ++ [] := fun p z => absurd (show p ∈ ([] : List (Addr × Obj)) from z) (by simp)
  refine ⟨⟨e0.mod, Sc.kind, rfl, rfl, Nat.le_refl _, fun y z c h1 h2 => ?_, fun y hy => ?_, fun y c q h => ?_, fun _ => hd, Around.frames_deeper e0.frames, .inr ⟨rfl, rfl⟩, fun b z => absurd z (noA b), e0.bs, e0.bsz, fun b _ _ => noA b, fun b z => absurd z (noA b), e0.funs, e0.frf⟩,
    rfl, e0.bare, Un.kept hk, ⟨_, hns, fun i y v h1 h2 h3 => ?_⟩, fun y c h => ?_, e0.hok.fresh (Nat.le_refl _), fun y c h => ?_, fun p hp => absurd hp (hpn p), e0.hok.kept hk, ?_⟩
  · rw [(cls_lookup h1).1, (cls_lookup h2).1]
  · have hy : sc.names.lookup y = some .cell ∨ sc.names.lookup y = some .free := hy
    rcases hy with hy | hy
    · exact absurd rfl (Sc.cell _ (PySem.mem_of_lookup hy))
    · have := Sc.free _ (PySem.mem_of_lookup hy) rfl
      dsimp only at this
      subst this
      exact ⟨cc, rfl⟩
  · have := (cls_lookup h).1
    subst this
    exact absurd q (by show ¬ ((!(("__class__" : Str) == ("__class__" : Str))) = true); simp)
  · have hi : i < vs.length := by
      unfold L2.start at h2
      by_cases hi : i < vs.length
      · exact hi
      · rw [List.getElem?_append_right (by simpa using hi), List.getElem?_replicate] at h2
        split at h2 <;> cases h2
    have ha : vs[i]? = some v := by
      unfold L2.start at h2
      rw [List.getElem?_append_left (by simpa using hi), List.getElem?_map] at h2
      cases q : vs[i]? with
      | none => rw [q] at h2; cases h2
      | some a => rw [q] at h2; cases h2; rfl
    obtain ⟨u, hu, rv⟩ := r.get ha
    have hp : ps[i]? = some y := by rw [← Sc.pre, List.getElem?_take_of_lt (by omega)]; exact h1
    have ndP : ps.Nodup := by rw [← Sc.pre]; exact Sc.nd.sublist (List.take_sublist _ _)
    exact ⟨u, rv, .inl ⟨Sc.par y (List.mem_of_getElem? hp), zip_get ndP hp hu⟩⟩
  · obtain ⟨_, rfl⟩ := cls_lookup h
    exact ⟨v, _, hk _ _ hcs.1, rfl⟩
  · obtain ⟨_, rfl⟩ := cls_lookup h
    exact hcs.2
  · unfold L2.start
    show _ = N.length
    rw [List.length_append, List.length_map, List.length_replicate]
    omega
theorem bt_super : bootBuiltins "super" = some (.type "super") := by decide +kernel
/-- what the written part says of such a class C and its __init__ at f -/
structure SupC (P : Program) (K : PySem.W.Frag) (C cda cc : Addr) : Prop where
  ox : OexC K C
  code : ∃ ccl cdd vs ccs file tf, K.lookup cda = some ⟨ccl, cdd, .fields vs, ccs⟩ ∧ vs[2]? = some (.str file tf) ∧ ((P.main.file : Str) == file) = true
  cell : ∃ cl cld csl, K.lookup cc = some ⟨cl, cld, .cell (some (.ref C)), csl⟩
  sub : PySem.W.mroIn K C (.ref C) = some true
  opq : PySem.W.nsIn K cStatics "thirdparty.any" = some none
  top : (P.main.scope.names.lookup ("super" : Str)).isSome = false
  ini : PySem.W.ks_superIn K C C "__init__" = some (some (.builtin "ValueError.__init__"))
  ve : PySem.W.subIn K (.ref C) (.type "ValueError") = some true
theorem fn_sup {k : Nat} {C : Addr} {name : Str} {params : Arguments} {e : Expr} {rest : List Stmt} {dV kV doc pm ct oc : Value} {an od : Option Addr} {osl : Array (Option Value)} {p0 p1 p2 p3 p4 : Pos} {ar : Arg} {sp : Sp}
    (lk : K.lookup f = some ⟨oc, od, .func (PySem.W.ksFn name qual params (.Expr (.Call (.Attribute (.Call (.Name "super" p0) [] [] p1) "__init__" p2) [e] [] p3) p4 :: rest) sc dV kV doc pm an (.ref cda) ct cc), osl⟩)
    (hc : PySem.W.codeIn K (.ref cda) qual = true) (Sc : XSc N ps sc) (hp : (params.posonlyargs ++ params.args).head? = some ar) (hps : ps[0]? = some ar.arg) (T : SupC P K C cda cc) (hsu : mg "super" = none)
    (hev : ∀ env : Env, ∃ pl : Sem Bool, eval (.Call (.Attribute (.Call (.Name "super" p0) [] [] p1) "__init__" p2) [e] [] p3) env = (do
      let ov ← attributeBase (.Call (.Name "super" p0) [] [] p1) "__init__" env (eval (.Call (.Name "super" p0) [] [] p1) env)
      standAt p2.atName
      let (f, first) ← holding [ov] (getMethod ov "__init__" pl)
      callWith p3 f first (backTo p3 (starEach [e] env)) []))
    (hst : ∀ env : Env, starEach [e] env = [(false, eval e env)]) (hsw : ∀ env : Env, swapsWith (.Call (.Attribute (.Call (.Name "super" p0) [] [] p1) "__init__" p2) [e] [] p3) none p4.line env = pure false)
    (hl : ∀ {vs H Q E}, sp vs H Q E → vs.length = ps.length)
    (hb : ∀ (A : Around) (outer : List Env) (s : Shared) (H : Hp) (vs : List V) (Q : VK) (E : XK), Room k (A.deeper (envS qual sc s.heap.objs.size f cda cc)) → A.guards = some [] → sp vs H Q E →
      ∃ a ta t, vs[0]? = some (.ref a) ∧ H a = some (exo a C none) ∧ PA (cxS P w K mg base N qual sc f cda cc A outer s H E) [e] ta ∧ PSs (cxS P w K mg base N qual sc f cda cc A outer s H E) rest t ∧
        ta (L2.start N vs) H fun ws H1 => ws.length ≤ 1000 ∧ H1 a = some (exo a C none) ∧ t { nx := fun _ H' => Q .non H', rt := Q } (L2.start N vs) H1) :
    FnG P w K mg base (k + 1) f (PySem.W.ksFn name qual params (.Expr (.Call (.Attribute (.Call (.Name "super" p0) [] [] p1) "__init__" p2) [e] [] p3) p4 :: rest) sc dV kV doc pm an (.ref cda) ct cc) ps sp := by
  refine ⟨hl, fun {A outer s H args us vs Q E} hr hg e0 bi rv q => ?_⟩
  have kin : K.In s.heap := e0.mod.kin.keeps fun b o z => (e0.bs b o z).1
  have nol : s.heap.NoLimit := e0.mod.nolimit.keeps fun b o z => (e0.bs b o z).1
  obtain ⟨a, ta, t, hv0, hHa, ha, ht, hq⟩ := hb A outer s H vs Q E (hr.deeper _) hg q
  obtain ⟨nm, cq, Nn, bs, bm, sn, sub, ab, col, dd, k0, k1, k2, k3, k5, hC, hbm⟩ := T.ox.cls
  obtain ⟨ccl, cdd, cvs, ccs, file, tf, hcode, hvs, hfile⟩ := T.code
  obtain ⟨cl, cld, csl, hcell⟩ := T.cell
  refine ks_codeAny_call_defAt (fd := PySem.W.ksFn name qual params (.Expr (.Call (.Attribute (.Call (.Name "super" p0) [] [] p1) "__init__" p2) [e] [] p3) p4 :: rest) sc dV kV doc pm an (.ref cda) ct cc) (binds := ps.zip us) hr.depth (kin _ _ lk) rfl nol (PySem.W.codeRec_of kin hc) rfl bi
    Sc.cell (fun y hy => Sc.par y.1 (List.of_mem_zip (a := y.1) (b := y.2) hy).1) (fun h₁ hns hk => ?_) Sc.co Sc.gen Sc.kind
  have I := inv_sup (qual := qual) (f := f) (cda := cda) (E := E) (n := s.toks + (ps.zip us).length) Sc hr.hd e0 (hl q) rv hcell hns hk
  show PySem.wpAt _ _ _ (execs _ (envS qual sc s.heap.objs.size f cda cc)) _ _ _
  have mth : ∀ (pl : Sem Bool), PySem.wpAt (model P w) (A.deeper (envS qual sc s.heap.objs.size f cda cc)) (.func (.Expr (.Call (.Attribute (.Call (.Name "super" p0) [] [] p1) "__init__" p2) [e] [] p3) p4 :: rest) (envS qual sc s.heap.objs.size f cda cc))
      (attributeBase (.Call (.Name "super" p0) [] [] p1) "__init__" (envS qual sc s.heap.objs.size f cda cc) (eval (.Call (.Name "super" p0) [] [] p1) (envS qual sc s.heap.objs.size f cda cc)))
      (fun ov s₁ => wpAny (model P w) (A.deeper (envS qual sc s.heap.objs.size f cda cc)) (getMethod ov "__init__" pl) (fun fx s₂ => wpAny (model P w) (A.deeper (envS qual sc s.heap.objs.size f cda cc)) (callWith p3 fx.1 fx.2 (backTo p3 (starEach [e] (envS qual sc s.heap.objs.size f cda cc))) [])
        (fun _ s₃ => PySem.wpAt (model P w) (A.deeper (envS qual sc s.heap.objs.size f cda cc)) (.func (.Expr (.Call (.Attribute (.Call (.Name "super" p0) [] [] p1) "__init__" p2) [e] [] p3) p4 :: rest) (envS qual sc s.heap.objs.size f cda cc)) (execs rest (envS qual sc s.heap.objs.size f cda cc))
          (fun fl s' => CR (L2.CX P w) outer P w H s Q E (.ok (.ret (match fl with | .ret v => v | _ => .none))) s') (cxS P w K mg base N qual sc f cda cc A outer s H E).xe s₃)
        (cxS P w K mg base N qual sc f cda cc A outer s H E).xe s₂) (cxS P w K mg base N qual sc f cda cc A outer s H E).xe s₁) (cxS P w K mg base N qual sc f cda cc A outer s H E).xe { s with heap := h₁, toks := s.toks + (ps.zip us).length } := by
    intro pl
    have kin1 : K.In h₁ := kin.keeps hk
    obtain ⟨mb, hbn, hbb⟩ := e0.mod.blt
    have up1 : ∀ b o, base.get? b = some o → h₁.get? b = some o := fun b o z => hk b o (e0.bs b o z).1
    obtain ⟨t1, hoa⟩ := exo_at I.hok hHa
    have hoa : h₁.get? a = some (PySem.HandSPX.excO C t1) := hoa
    have hu0 : us[0]? = some (.ref a) := by
      obtain ⟨u, z1, z2⟩ := rv.get hv0
      have z2 : u = .ref a := z2
      rw [z1, z2]
    have ndP : ps.Nodup := by rw [← Sc.pre]; exact Sc.nd.sublist (List.take_sublist _ _)
    refine ks_wpAt_super_base (env := envS qual sc s.heap.objs.size f cda cc) Sc.ks Sc.kc (by decide) rfl (kin1 _ _ lk) rfl hp rfl (kin1 _ _ hcode) rfl hvs hfile T.top ?_
    refine PySem.W.ks_loadName_global Sc.kind Sc.ks (PySem.Calls.loadGlobal_builtin (env := envS qual sc s.heap.objs.size f cda cc) (e0.mod.glob.keeps up1) hsu (hbn.keeps up1) ((hbb _ (by decide +kernel)).trans bt_super) ⟨rfl, ?_⟩)
    refine wpAny_loadName_free Sc.kind Sc.kc rfl ⟨_, kin1 _ _ hcell, rfl⟩ ?_
    refine wpAny_loadName_local Sc.kind (Sc.par _ (List.mem_of_getElem? hps)) hns (zip_get ndP hps hu0) ?_
    refine ks_wpAny_isType_cls (kin1 _ _ hC) rfl ⟨rfl, ?_⟩
    refine ks_wpAny_call_super (kin1 _ _ hC) rfl hoa rfl (fun c z => by cases z) (PySem.W.looks_mroIn kin1 T.sub) (fun h2 e2 k2 => ?_)
    have kin2 : K.In h2 := kin1.keeps k2
    have ca : PySem.W.clsIn K C = some { name := nm, bases := bs, mro := .ref C :: bm, ns := Nn, qualname := cq, hasDict := true, slotNames := sn, subclasses := sub, abstract := ab, collection := col, hasDel := false } := by
      unfold PySem.W.clsIn
      rw [hC] <;> rfl
    have In2 : PySem.W.InstAt h2 a (PySem.HandSPX.excO C t1) C none := ⟨k2 _ _ hoa, rfl, rfl, trivial⟩
    have hI : PySem.W.Looks (model P w) h2 (isInstance (.ref a) (.type "ValueError")) true := In2.type.andThen (PySem.W.looks_subIn kin2 T.ve)
    have hm := T.ini
    unfold PySem.W.ks_superIn at hm
    rw [ca] at hm
    refine PySem.W.kxs_getMethod PySem.W.kxs_ValueError e2 (PySem.W.looks_opaque kin2 T.opq) (l₀ := .ref C :: bm) ?_ rfl kin2 hm hI (PySem.W.ks_ne kin2 In2 ca) (by decide) ?_
    · exact fun A Q E s k q => wpAny_bind ((PySem.W.looks_clsIn kin2 ca) A _ E s k (wpAny_pure q))
    -- the bound __init__ stands at u
    have lt1 : h₁.objs.size ≤ h2.objs.size := Nat.le_of_lt (Heap.lt_size e2)
    have k3 : ∀ b o, h₁.get? b = some o → (h2.push (PySem.W.kxs_mw "ValueError.__init__" a)).get? b = some o := fun b o z => Heap.get?_push_of_some _ (k2 b o z)
    have hu : (h2.push (PySem.W.kxs_mw "ValueError.__init__" a)).get? h2.objs.size = some (PySem.W.kxs_mw "ValueError.__init__" a) := Heap.get?_push_at rfl rfl
    have I2 := I.kept (t' := s.toks + (ps.zip us).length + 1) k3
    have I3 : Inv (cxS P w K mg base N qual sc f cda cc A outer s H E) [(h2.objs.size, PySem.W.kxs_mw "ValueError.__init__" a)] (L2.start N vs) H { s with heap := h2.push (PySem.W.kxs_mw "ValueError.__init__" a), toks := s.toks + (ps.zip us).length + 1 } :=
      I2.pins_of fun p hp => by
        rcases List.mem_singleton.mp hp with rfl
        exact ⟨hu, I.hok.fresh lt1, fun z => absurd (Nat.lt_of_lt_of_le I.lt lt1) (by rw [← z]; exact Nat.lt_irrefl _), I.nofs lt1, fun v z => by cases z⟩
    refine PySem.W.kxs_callWith (i := "ValueError.__init__") (x := a) (by rw [hst]; rfl) ?_
    have hrun := ha.run p3 [(h2.objs.size, PySem.W.kxs_mw "ValueError.__init__" a)] _ _ H _ I3 hq
    have hst' : starEach [e] (cxS P w K mg base N qual sc f cda cc A outer s H E).env = [(false, eval e (envS qual sc s.heap.objs.size f cda cc))] := hst _
    rw [hst'] at hrun
    rw [hst]
    refine PySem.Calls.evalArgs_plain (thn hrun fun us1 s4 ⟨ws, H1, I4, r4, hz, hHa1, tq⟩ => ?_)
    have hu4 := (I4.pin (h2.objs.size, PySem.W.kxs_mw "ValueError.__init__" a) (List.mem_append_right _ (List.mem_singleton.mpr rfl))).1
    refine ⟨hu4, ?_⟩
    obtain ⟨t4, hoa4⟩ := exo_at I4.hok hHa1
    have hoa4 : s4.heap.get? a = some (PySem.W.excObj C t4 none .none) := hoa4
    have hlen : us1.length ≤ sizeLine := by
      rw [← Paired.length r4, sizeLine_eq]
      omega
    obtain ⟨hp4, g4, d4, tk4, os4⟩ := s4
    refine wpAny_call (codeAny_of_tree ?_)
    show wpAny _ (A.deeper (envS qual sc s.heap.objs.size f cda cc)).in1 (callAny (.ref h2.objs.size) ⟨us1, []⟩) _ _ _
    simp only [callAny]
    refine wpAny_bind (wpAny_load hu4 ?_)
    simp only [PySem.W.kxs_mw, show (Value.type "method-wrapper" == Value.type "method" || Value.type "method-wrapper" == Value.type "builtin_function_or_method" || Value.type "method-wrapper" == Value.type "method-wrapper") = true by decide, if_true]
    refine PySem.W.KFB.if_so (by decide) ?_
    refine wpAny_bind (PySem.W.check_bound_init F.excBase_ValueError.toExcCallFacts (I4.kIn _ _ hC) hoa4 rfl ?_)
    refine wpAny_bind (wpAny_pure (wpAny_pure ?_))
    refine ⟨plainId_quiet F.excBase_ValueError.init.plain _, codeAny_builtin F.excBase_ValueError.initEntry ?_⟩
    refine PySem.W.exc_init_tree (cls := .ref C) (t0 := t4) (dv := none) (c2 := .none) (c3 := .none) (b4 := .bool false) hoa4 hlen fun h5 k5 e5 _ => ?_
    have J := I4.write (t' := tk4) (x := a) (e := a) (o := exo a C none) (by rw [hHa1]; exact True.intro) (.inl rfl) k5 ⟨_, e5⟩ (exo_ok e5)
    have eu : upd H1 a (exo a C none) = H1 := by
      funext b
      by_cases hb : b = a
      · rw [hb, upd_same, hHa1]
      · rw [upd_ne hb]
    rw [eu] at J
    refine wpAt_of_wpAny (wpAny_mono (ht.run [] _ _ H1 _ (J.pins_of fun p hp => absurd hp List.not_mem_nil) tq) (fun fl s6 z => ?_) fun _ _ z => z)
    cases fl with
    | ret u =>
      obtain ⟨v, _, H', J', r, z⟩ := z
      exact ⟨v, H', J'.os, J'.bare, J'.base, J'.hok, r, z⟩
    | next =>
      obtain ⟨_, H', J', z⟩ := z
      exact ⟨.non, H', J'.os, J'.bare, J'.base, J'.hok, rfl, z⟩
    | brk =>
      obtain ⟨_, _, _, z⟩ := z
      exact False.elim z
    | cont =>
      obtain ⟨_, _, _, z⟩ := z
      exact False.elim z
  obtain ⟨pl, hpl⟩ := hev (envS qual sc s.heap.objs.size f cda cc)
  exact ks_wpAt_execs_cons (ks_wpAt_Expr_any (ks_wpAt_MethodCall (mth pl) hpl) (by simp [interactive, Sc.kind]) (hsw _))
end
end DL
end
section
/-! DLt: try with several clauses, some with a name. -/
namespace DL
open PySem PySem.Spec PyProof.Rows L2
/-- an except clause: its class, its name's slot, what its suite does -/
structure Cl where
  cls : Value
  nm : Option Nat
  ts : Addr → Value → Option Addr → TS
def offs (i : Nat) (D : Ends) : Ends := { nx := fun σ H => D.nx (σ.set i none) H, rt := D.rt, bk := fun σ H => D.bk (σ.set i none) H, ct := fun σ H => D.ct (σ.set i none) H }
def Cl.on (c : Cl) (a : Addr) (cls : Value) (d : Option Addr) (D : Ends) (σ : L2.St) (H : Hp) : Prop := match c.nm with
  | none => c.ts a cls d D σ H
  | some i => c.ts a cls d (offs i D) (σ.set i (some (.ref a))) H
def wCl (K : PySem.W.Frag) (Wo : WX) (D : Ends) : List Cl → WX
  | [] => Wo
  | c :: r => fun cls d σ H => ∃ b, PySem.W.exmOne K cls c.cls = some b ∧ (b = true → ∀ a, H a = none → c.on a cls d D σ H) ∧ (b = false → wCl K Wo D r cls d σ H)
abbrev SuiteOk (X : Cx) (b₀ : Stmt) (suite : List Stmt) (ts : Addr → Value → Option Addr → TS) : Prop :=
  ∀ (a : Addr) (oe : Obj) (cls : Value) (d : Option Addr) (pn : List (Addr × Obj)), Zc cls d oe → (∃ vs, oe.data = .fields vs) → PSs (X.suite a ((a, oe) :: pn)) (b₀ :: suite) (ts a cls d)
inductive ClOk (X : Cx) : List ExceptHandler → List Cl → Prop
  | nil : ClOk X [] []
  | pl {x : Str} {c : Value} {ts : Addr → Value → Option Addr → TS} {b₀ : Stmt} {suite : List Stmt} {np pos' : Pos} {hds : List ExceptHandler} {l : List Cl} : Names X x c → SuiteOk X b₀ suite ts → ClOk X hds l →
      ClOk X (.ExceptHandler (some (.Name x np)) none (b₀ :: suite) pos' :: hds) (⟨c, none, ts⟩ :: l)
  | nm {x n : Str} {i : Nat} {c : Value} {ts : Addr → Value → Option Addr → TS} {b₀ : Stmt} {suite : List Stmt} {np pos' : Pos} {hds : List ExceptHandler} {l : List Cl} : X.N[i]? = some n → X.env.kindOf n = some .local → Names X x c → SuiteOk X b₀ suite ts → ClOk X hds l →
      ClOk X (.ExceptHandler (some (.Name x np)) (some n) (b₀ :: suite) pos' :: hds) (⟨c, some i, ts⟩ :: l)
section
variable {X : Cx} {body : List Stmt} {h₀ : ExceptHandler} {hds : List ExceptHandler} {l : List Cl} {pos : Pos} {tb : WX → TS} {Wo : WX}
/-- the state in which the clauses are asked -/
structure Caught (X : Cx) (pins : List (Addr × Obj)) (a : Addr) (cls : Value) (d : Option Addr) (σ : L2.St) (H : Hp) (s : Shared) : Prop where
  ok : X.Ok
  at_ : ∃ oe vs, s.heap.get? a = some oe ∧ Zc cls d oe ∧ oe.data = .fields vs
  inv : Inv X pins σ H s
  na : H a = none
  nL : a ≠ X.env.locals
  nF : a ∉ X.fs
theorem Caught.suite {pins : List (Addr × Obj)} {a : Addr} {cls : Value} {d : Option Addr} {σ : L2.St} {H : Hp} {s : Shared} (C : Caught X pins a cls d σ H s) : ∃ oe vs, s.heap.get? a = some oe ∧ Zc cls d oe ∧ oe.data = .fields vs ∧ Inv (X.suite a ((a, oe) :: (X.pn ++ pins))) [] σ H s := by
  obtain ⟨oe, vs, e, z, q⟩ := C.at_
  exact ⟨oe, vs, e, z, q, C.inv.suite e q C.na C.nL C.nF⟩
/-- try: .. except C as n: .. except D: .. -/
theorem ps_tryM (hs : X.stack = X.env :: X.outer) (hf : X.env.frame = some X.env.locals) (hN : X.N.Nodup) (tk : Takes X Wo)
    (hb : ∀ (W : WX) (pn : List (Addr × Obj)) (xe : Value → Shared → Prop), Takes (X.tr pn xe) W → PassesOwn (model X.prog X.w) X.A X.env xe → PSs (X.tr pn xe) body (tb W))
    (hh : ClOk X (h₀ :: hds) l) : PS X (.Try body (h₀ :: hds) [] [] pos) (fun D σ H => tb (wCl X.K Wo D l) D σ H) := ⟨fun pins s σ H D I h => by
  have fr : X.A.frames = some (X.env :: X.outer) := I.ok.frames.trans (congrArg some hs)
  refine wpAny_Try_except (wpAny_mono ((hb (wCl X.K Wo D l) (X.pn ++ pins) (fun u s₁ => wpAny (model X.prog X.w) X.A (noteFrame u X.env) (fun _ s₂ => wpAny (model X.prog X.w) X.A (setFlight u none)
    (fun _ s₃ => wpAny (model X.prog X.w) X.A (handleBy u X.env (h₀ :: hds)) (SP X pins D) X.xe s₃) X.xe s₂) X.xe s₁) (fun u s' x => ?_) PassesOwn.looking).run [] s σ H D (I.toTry _) h) (fun f s1 z => ?_) fun _ _ z => z)
  · obtain ⟨a, B, sI, pl, σ', H', cls, d, rfl, J', nb, up, sky, na, os, ag, wx⟩ := x
    have J : Inv X pins σ' H' sI := J'.ofTry I.ok
    rw [show (X.tr (X.pn ++ pins) _).stack = X.env :: X.outer from hs] at sky
    show wpAny (model X.prog X.w) X.A (noteFrame (.ref a) X.env) _ _ _
    refine Sky.land Zc.steady fr hf sky fun h3 fl3 up3 => ?_
    have caught : ∀ {h4 : Heap}, HandSPX.FlyingZ B (X.env :: X.outer) a (Zc cls d) h4 → s'.heap.UpToSlots h4 → Caught X pins a cls d σ' H' { s' with heap := h4 } := fun {h4} fl u4 => by
      obtain ⟨oe, vs, e1, e2, e3⟩ := fl.there
      have out : a ∉ frs (X.env :: X.outer) := fun m => by
        obtain ⟨_, o', e', n⟩ := fl.2.2.1.mem m
        rw [e1] at e'
        cases e'
        exact n _ e3
      refine ⟨I.ok, ⟨oe, vs, e1, e2, e3⟩, J.landed nb fl.1 (up.trans u4) os ag, na, fun z => out (List.mem_filterMap.mpr ⟨X.env, List.mem_cons_self, by rw [hf, z]⟩), fun m => ?_⟩
      obtain ⟨e, he, q⟩ := List.mem_filterMap.mp m
      exact out (List.mem_filterMap.mpr ⟨e, List.mem_cons_of_mem _ he, q⟩)
    have C3 := caught fl3 up3
    obtain ⟨oe3, vs3, he3, hz3, hd3, S3⟩ := C3.suite
    have kind : PySem.W.Looks (model X.prog X.w) h3 (typeOf (.ref a)) cls := fun A Q E s k q => wpAny_typeOf_ref (k _ _ he3) (by rw [hz3.1]; exact q)
    have ask : ∀ {x : Str} {c : Value} {np : Pos} {Q : Value → Shared → Prop} {E : Value → Shared → Prop}, Names X x c → Q c { s' with heap := h3 } → wpAny (model X.prog X.w) (X.A.mark (some (.ref a))) (eval (.Name x np) X.env) Q E { s' with heap := h3 } := fun {x c np Q E} hc q => by
      obtain ⟨g1, g2, g3 | ⟨g3, g4, g5⟩⟩ := hc
      · exact ld_glob (X := X.suite a ((a, oe3) :: (X.pn ++ pins))) S3 g1 g3 q g2
      · exact ld_blt (X := X.suite a ((a, oe3) :: (X.pn ++ pins))) S3 g1 g3 g4 q g5 g2
    suffices go : ∀ {hs' : List ExceptHandler} {l' : List Cl}, ClOk X hs' l' → wCl X.K Wo D l' cls d σ' H' → wpAny (model X.prog X.w) X.A (handleBy (.ref a) X.env hs') (SP X pins D) X.xe { s' with heap := h3 } from go hh wx
    intro hs' l' ck
    induction ck with
    | nil =>
      intro z
      refine wpAny_handleBy_nil ?_
      obtain ⟨_, _, _, oe, vs, T, oT, ts', e1, _, e2, e3, _⟩ := id fl3
      unfold PySem.passOn
      refine wpAny_bind (wpAny_field e1 e2 e3 ?_)
      rw [if_neg (show ¬ ((Value.ref T == Value.none) = true) from by simp)]
      have off : wpAny (model X.prog X.w) X.A (setFlight (.ref a) X.env.frame) (fun _ s4 => wpAny (model X.prog X.w) X.A (throw (.ref a) : Sem Flow) (SP X pins D) X.xe s4) X.xe { s' with heap := h3 } := by
        rw [hf]
        exact HandSPX.setFlight_upZ fl3 fun h4 hh4 up4 => wpAny_throw (tk _ _ ⟨a, B, sI, pins, σ', H', cls, d, rfl, J, nb, (up.trans up3).trans up4, .inr (.inr (by rw [hs]; exact hh4)), na, os, ag, z⟩)
      first | exact wpAny_bind (wpAny_pure (wpAny_bind off)) | exact wpAny_bind off
    | @pl x c ts b₀ suite np pos' hds2 l2 hc hsu _ ih =>
      rintro ⟨b, q1, q2, q3⟩
      refine wpAny_handleBy_cons (codeAny_handlers_test (ask hc ((PySem.W.exm_one (M := model X.prog X.w) C3.inv.kIn kind q1).here ?_))) (by intro q; cases q)
      cases b with
      | false => exact ih (q3 rfl)
      | true =>
        refine codeAny_handlers_suite (HandSPX.lands_againZ fl3 fun h4 fl4 up4 => ?_)
        obtain ⟨oe4, vs4, _, hz4, hd4, S4⟩ := (caught fl4 (up3.trans up4)).suite
        refine wpAny_mono ((hsu a oe4 cls d (X.pn ++ pins) hz4 ⟨_, hd4⟩).run [] _ _ H' _ S4 (q2 rfl a na)) (fun f s6 z => ?_) (fun _ _ z => False.elim z)
        cases f with
        | ret u =>
          obtain ⟨v, σ6, H6, S6, r6, z⟩ := z
          exact ⟨v, σ6, H6, S6.unsuite I.ok, r6, z⟩
        | _ =>
          obtain ⟨σ6, H6, S6, z⟩ := z
          exact ⟨σ6, H6, S6.unsuite I.ok, z⟩
    | @nm x n i c ts b₀ suite np pos' hds2 l2 hi hln hc hsu _ ih =>
      rintro ⟨b, q1, q2, q3⟩
      refine wpAny_handleBy_cons (codeAny_handlers_test (ask hc ((PySem.W.exm_one (M := model X.prog X.w) C3.inv.kIn kind q1).here ?_))) (by intro q; cases q)
      cases b with
      | false => exact ih (q3 rfl)
      | true =>
        refine codeAny_handlers_suite_as (HandSPX.lands_againZ fl3 fun h4 fl4 up4 => ?_)
        obtain ⟨oe4, vs4, _, hz4, hd4, S4⟩ := (caught fl4 (up3.trans up4)).suite
        refine store_ok (X := X.suite a ((a, oe4) :: (X.pn ++ pins))) (v := .ref a) S4 hN hi (Or.inl hln) rfl (fun s5 S5 => ?_) (Or.inr hln)
        refine wpAny_mono ((hsu a oe4 cls d (X.pn ++ pins) hz4 ⟨_, hd4⟩).run [] s5 _ H' _ S5 (q2 rfl a na)) (fun f s6 z => ?_) (fun _ _ z => False.elim z)
        have gone : ∀ {σ6 : L2.St} {H6 : Hp} {Q : Shared → Prop}, Inv (X.suite a ((a, oe4) :: (X.pn ++ pins))) [] σ6 H6 s6 → (∀ s7, Inv X pins (σ6.set i none) H6 s7 → Q s7) →
            wpAny (model X.prog X.w) X.A (do bindName X.env n .none; unbindBehindTheSuite X.env n pos') (fun _ s7 => Q s7) X.xe s6 := fun {σ6 H6 Q} S6 q => gone_ok (S6.unsuite I.ok) hN hi hln q
        cases f with
        | ret u =>
          obtain ⟨v, σ6, H6, S6, r6, z⟩ := z
          exact gone S6 fun s7 J7 => ⟨v, _, _, J7, r6, z⟩
        | next =>
          obtain ⟨σ6, H6, S6, z⟩ := z
          exact gone S6 fun s7 J7 => ⟨_, _, J7, z⟩
        | brk =>
          obtain ⟨σ6, H6, S6, z⟩ := z
          exact gone S6 fun s7 J7 => ⟨_, _, J7, z⟩
        | cont =>
          obtain ⟨σ6, H6, S6, z⟩ := z
          exact gone S6 fun s7 J7 => ⟨_, _, J7, z⟩
  · cases f with
    | next =>
      obtain ⟨σ', H', J', q⟩ := z
      exact wpAny_execs_nil ⟨σ', H', J'.ofTry I.ok, q⟩
    | ret u =>
      obtain ⟨v, σ', H', J', r, q⟩ := z
      exact ⟨v, σ', H', J'.ofTry I.ok, r, q⟩
    | _ =>
      obtain ⟨σ', H', J', q⟩ := z
      exact ⟨σ', H', J'.ofTry I.ok, q⟩⟩
end
end DL
end
section
/-! DLu: try and raise on data. -/
namespace DL
open PySem PySem.Spec PyProof.Rows L2
/-- what a suite tells: written texts and fields of the caught exception -/
inductive Hi where
  | c (x : Str) | f (n : Str) | v
def Hi.isC : Hi → Bool
  | .c _ => true
  | _ => false
structure Hd where
  cls : Str
  nm : Option Nat
  items : List Hi
def hiAll (c : Str) (e : Ex) : List Hi → Option (List D)
  | [] => some []
  | .c x :: r => (hiAll c e r).map (.str x :: ·)
  | .f n :: r => if e.cls = c then (match e.fs.lookup n with
    | some d => (hiAll c e r).map (d :: ·)
    | none => none) else none
  | .v :: r => if e.cls = c then (hiAll c e r).map (.bl true :: ·) else none
def Hd.st (h : Hd) (st : DS) : DS := match h.nm with
  | some i => st.set i .no
  | none => st
def Hd.fit (h : Hd) (st : DS) : Bool := match h.nm with
  | some i => decide (i < st.length)
  | none => true
def Hd.go (h : Hd) (e : Ex) (st : DS) : RS := match hiAll h.cls e h.items with
  | some ds => if (h.fit st && fits ds.length) = true then .rt (.fr (.lst ds)) (h.st st) else .no
  | none => .no
def hdl (sub : Str → Str → Bool) : List Hd → Ex → DS → RS
  | [], e, st => .ex e st
  | h :: hs, e, st => if sub e.cls h.cls = true then h.go e st else hdl sub hs e st
def sTry (xs : List Str) (sub : Str → Str → Bool) (b : GS) (hs : List Hd) : GS := fun st => match b st with
  | .ex e st1 => if e.cls ∈ xs then hdl sub hs e st1 else .no
  | r => r
/-! ### the suites -/
/-- an instance's class is surely below the asked one -/
theorem isV_meets {K : PySem.W.Frag} {x t c : Value} {F : Heap → Prop} (ty : ∀ (M : Model) (h : Heap), F h → PySem.W.Looks M h (typeOf x) t) (ne : (t == c) = false) (e : PySem.W.kitCls K t c = some true) (dep : Int) (tk : Tok) :
    Meets (Builtin.«isinstance.nested» ⟨[x, c, .int dep tk], []⟩) (fun _ R s => (K.In s.heap ∧ F s.heap) ∧ ∀ tk', R (.ok (.ret (.bool true))) { s with toks := tk' }) := by
  intro prog w A R s hs
  obtain ⟨hp, gl, dr, tt, os⟩ := s
  obtain ⟨⟨inK, fs⟩, fin⟩ := hs
  have below := ty (model prog w) hp fs
  obtain ⟨hmeta, isT, sub⟩ := PySem.W.kit_cls (M := model prog w) inK e
  unfold Builtin.«isinstance.nested»; refine wpAny_bind (below.at ?_)
  rw [ne]; refine wpAny_bind (hmeta.at ?_)
  rw [if_pos (by decide)]; k_delta "plainIsInstance"
  refine wpAny_bind (wpAny_bind (isT.at ?_)); simp only [Bool.not_true, Bool.false_eq_true, if_false]
  refine wpAny_bind ((below.andThen sub : PySem.W.Looks (model prog w) hp (isInstance x c) true).at ?_)
  first
    | exact wpAny_pure (wpAny_pure (fin tt))
    | (simp only [if_true]; first | exact wpAny_pure (wpAny_pure (fin tt)) | exact wpAny_pure (fin tt) | exact wpAny_bind (wpAny_pure (wpAny_pure (fin tt))))
/-- isinstance(e, ValueError), e the caught exception of an own class -/
def rIsV (C a : Addr) : List V → Hp → VK → Prop := fun xs H Q => xs = [.ref a, .ty "ValueError"] ∧ Q (.bl true) H
theorem call_isV {X : Cx} {a C : Addr} {oe : Obj} {pn : List (Addr × Obj)} {d : Option Addr} (hz : Zc (.ref C) d oe) (hs : PySem.W.subIn X.K (.ref C) (.type "ValueError") = some true) : CallR (X.suite a ((a, oe) :: pn)) (.builtin "isinstance") (rIsV C a) := by
  intro pins s σ H xs us Q I r h
  obtain ⟨rfl, q⟩ := h
  obtain ⟨u1, u2, rfl, r1, r2⟩ := vals2 r
  cases r1
  cases (show u2 = .type "ValueError" from r2)
  obtain ⟨here, _⟩ := I.pin (a, oe) (List.mem_append.mpr (.inl List.mem_cons_self))
  have e : PySem.W.kitCls X.K (.ref C) (.type "ValueError") = some true := by
    show (if PySem.W.kitMeta "ValueError" = true then PySem.W.subIn X.K (.ref C) (.type "ValueError") else none) = some true
    rw [if_pos (by decide +kernel)]
    exact hs
  have m := isV_meets (K := X.K) (x := .ref a) (t := .ref C) (c := .type "ValueError") (F := fun h => h.get? a = some oe) (fun M h p => hz.1 ▸ (PySem.W.Looks.ld p).andThen .now) rfl e 0
  exact call_isinstance (S := fun _ R s => (X.K.In s.heap ∧ s.heap.get? a = some oe) ∧ ∀ tk, R (.ok (.ret (.bool true))) { s with toks := tk }) (fun prog w A R s hs => isinstance_outer (m _ prog w A R s hs) (fun z => nomatch z)) ⟨⟨I.kIn, here⟩, fun tk => ⟨.bl true, H, I.kept (t' := tk) fun _ _ z => z, rfl, q⟩⟩
def tIsV (a : Addr) (cls : Value) (C : Addr) (i : Nat) : TE := fun σ H Q => cls = .ref C ∧ tCB (rIsV C a) (tCons (tVar i) (tCons (tC (.ty "ValueError")) tNil)) σ H Q
def tHi (a : Addr) (cls : Value) (d : Option Addr) (C : Addr) (i : Nat) : List Hi → TA
  | [] => tNil
  | .c x :: r => tCons (tC (.str x)) (tHi a cls d C i r)
  | .f n :: r => tCons (tXf a cls d C n (tVar i)) (tHi a cls d C i r)
  | .v :: r => tCons (tIsV a cls C i) (tHi a cls d C i r)
theorem repF_get {G : Gx} {S : Hp} {n : Str} {d : D} : ∀ {fs : List (Str × V)} {gs : List (Str × D)}, RepF G S fs gs → gs.lookup n = some d → ∃ v, fs.lookup n = some v ∧ Rep G S v d
  | _, _, .nil, e => by cases e
  | _, _, .cons (f := f) r t, e => by
    simp only [List.lookup] at e ⊢
    cases q : (n == f) with
    | true => rw [q] at e; cases e; exact ⟨_, rfl, r⟩
    | false => rw [q] at e; exact repF_get t e
/-- what an exception bears, where it is asked -/
theorem ExR.field {G : Gx} {S : Hp} {cls : Value} {d : Option Addr} {e : Ex} {n : Str} {x : D} (h : ExR G S cls d e) (q : e.fs.lookup n = some x) : ∃ dd fs v, d = some dd ∧ S dd = some (.xd fs) ∧ fs.lookup n = some v ∧ Rep G S v x := by
  obtain ⟨_, ⟨dd, fs, h1, h2, h3⟩ | ⟨_, h2⟩⟩ := h
  · obtain ⟨v, z1, z2⟩ := repF_get h3 q
    exact ⟨dd, fs, v, h1, h2, z1, z2⟩
  · rw [h2] at q; cases q
theorem hi_ok {G : Gx} {S H : Hp} {a C : Addr} {cls : Value} {d : Option Addr} {i : Nat} {σ : L2.St} {e : Ex} {c : Str} (le : Le S H) (x : ExR G S cls d e) (hC : G.mg c = some (.ref C)) : ∀ {items : List Hi} {ds : List D} {Q : List V → Hp → Prop},
    ((∃ n, Hi.isC n = false ∧ n ∈ items) → σ[i]? = some (some (.ref a))) → hiAll c e items = some ds → (∀ vs, RepAll G S vs ds → Q vs H) → tHi a cls d C i items σ H Q
  | [], ds, Q, _, q, k => by simp only [hiAll] at q; cases q; exact k [] .nil
  | .c y :: r, ds, Q, hs, q, k => by
    simp only [hiAll] at q
    cases q1 : hiAll c e r with
    | none => rw [q1] at q; cases q
    | some es =>
      rw [q1] at q
      cases q
      have z := hi_ok (items := r) (Q := fun us H2 => Q (V.str y :: us) H2) le x hC (fun ⟨n, hc, hn⟩ => hs ⟨n, hc, List.mem_cons_of_mem _ hn⟩) q1 fun vs ra => k _ (.cons (.str y) ra)
      exact z
  | .f n :: r, ds, Q, hs, q, k => by
    simp only [hiAll] at q
    split at q
    · rename_i ec
      cases q0 : e.fs.lookup n with
      | none => rw [q0] at q; cases q
      | some y =>
        rw [q0] at q
        cases q1 : hiAll c e r with
        | none => rw [q1] at q; cases q
        | some es =>
          rw [q1] at q
          cases q
          obtain ⟨dd, fs, v, z1, z2, z3, z4⟩ := x.field q0
          have ecls : cls = .ref C := by
            have := x.1
            rw [ec, hC] at this
            cases this
            rfl
          have hH : H dd = some (.xd fs) := (le.two z2 rfl).resolve_right fun z => by cases z.1
          refine ⟨_, hs ⟨_, rfl, List.mem_cons_self⟩, rfl, ecls, dd, fs, v, z1, hH, z3, ?_⟩
          exact hi_ok le x hC (fun ⟨n, hc, hn⟩ => hs ⟨n, hc, List.mem_cons_of_mem _ hn⟩) q1 fun vs ra => k _ (.cons z4 ra)
    · cases q
  | .v :: r, ds, Q, hs, q, k => by
    simp only [hiAll] at q
    split at q
    · rename_i ec
      cases q1 : hiAll c e r with
      | none => rw [q1] at q; cases q
      | some es =>
        rw [q1] at q
        cases q
        have ecls : cls = .ref C := by
          have := x.1
          rw [ec, hC] at this
          cases this
          rfl
        refine ⟨ecls, _, hs ⟨_, rfl, List.mem_cons_self⟩, rfl, ?_⟩
        exact hi_ok le x hC (fun ⟨n, hc, hn⟩ => hs ⟨n, hc, List.mem_cons_of_mem _ hn⟩) q1 fun vs ra => k _ (.cons (.bl true) ra)
    · cases q
/-- a suite's display -/
inductive HiOk (X : Cx) (C : Addr) (i : Nat) : List Expr → List Hi → Prop
  | nil : HiOk X C i [] []
  | c {x : Str} {jj : Nat} {p : Pos} {es : List Expr} {r : List Hi} : HiOk X C i es r → HiOk X C i (.Constant (.str x) jj p :: es) (.c x :: r)
  | f {n v : Str} {p p' : Pos} {es : List Expr} {r : List Hi} : XfC X.K C → PySem.W.findIn X.K (.ref C) n = some none → X.N[i]? = some v → Vis X.env.scope v → (v == ("__debug__" : Str)) = false → (v == ("__classdict__" : Str)) = false → HiOk X C i es r → HiOk X C i (.Attribute (.Name v p) n p' :: es) (.f n :: r)
  | v {v : Str} {p1 p2 p3 p4 : Pos} {es : List Expr} {r : List Hi} : PySem.W.subIn X.K (.ref C) (.type "ValueError") = some true → Gl X "isinstance" → X.mg "isinstance" = none → Gl X "ValueError" → X.mg "ValueError" = none → X.N[i]? = some v → Vis X.env.scope v → (v == ("__debug__" : Str)) = false → (v == ("__classdict__" : Str)) = false → HiOk X C i es r → HiOk X C i (.Call (.Name "isinstance" p1) [.Name v p2, .Name "ValueError" p3] [] p4 :: es) (.v :: r)
theorem pe_isV {X : Cx} {C : Addr} {i : Nat} {a : Addr} {oe : Obj} {cls : Value} {d : Option Addr} {pn : List (Addr × Obj)} (hz : Zc cls d oe) {v : Str} {p1 p2 p3 p4 : Pos} (hs : PySem.W.subIn X.K (.ref C) (.type "ValueError") = some true) (g1 : Gl X "isinstance") (m1 : X.mg "isinstance" = none) (g2 : Gl X "ValueError") (m2 : X.mg "ValueError" = none) (h3 : X.N[i]? = some v) (h4 : Vis X.env.scope v) (h5 : (v == ("__debug__" : Str)) = false) (h6 : (v == ("__classdict__" : Str)) = false) :
    PE (X.suite a ((a, oe) :: pn)) (.Call (.Name "isinstance" p1) [.Name v p2, .Name "ValueError" p3] [] p4) (tIsV a cls C i) := by
  refine ⟨fun pins s σ H Q I h => ?_⟩
  obtain ⟨rfl, h⟩ := h
  exact (pe_callB (X := X.suite a ((a, oe) :: pn)) (call_isV hz hs) g1 m1 (by decide +kernel) (pa_cons (pe_var h3 h4 h5 h6) (pa_cons (pe_bltn (v := .ty "ValueError") g2 m2 (by decide +kernel) rfl (by decide) (by decide)) pa_nil rfl) rfl)).run pins s σ H Q I h
theorem hi_pa {X : Cx} {C : Addr} {i : Nat} {a : Addr} {oe : Obj} {cls : Value} {d : Option Addr} {pn : List (Addr × Obj)} (hz : Zc cls d oe) (hf : ∃ vs, oe.data = .fields vs) : ∀ {es : List Expr} {items : List Hi}, HiOk X C i es items →
    PA (X.suite a ((a, oe) :: pn)) es (tHi a cls d C i items)
  | _, _, .nil => pa_nil
  | _, _, .c t => pa_cons pe_str (hi_pa hz hf t) rfl
  | _, _, .f h1 h2 h3 h4 h5 h6 t => pa_cons (pe_xf h1 h2 hz hf (pe_var h3 h4 h5 h6) rfl) (hi_pa hz hf t) rfl
  | _, _, .v h1 g1 m1 g2 m2 h3 h4 h5 h6 t => pa_cons (pe_isV hz h1 g1 m1 g2 m2 h3 h4 h5 h6) (hi_pa hz hf t) rfl
/-! ### the clauses -/
def clOf (C : Addr) (h : Hd) : Cl := ⟨.ref C, h.nm, fun a cls d => tRet (tLst (tHi a cls d C (h.nm.getD 0) h.items))⟩
inductive HdOk (X : Cx) : List ExceptHandler → List Hd → List Cl → Prop
  | nil : HdOk X [] [] []
  | pl {x : Str} {C : Addr} {es : List Expr} {items : List Hi} {np p1 p2 pos' : Pos} {hds : List ExceptHandler} {hs : List Hd} {l : List Cl} : Gl X x → (x == ("__debug__" : Str)) = false → X.mg x = some (.ref C) → items.all Hi.isC = true → HiOk X C 0 es items → HdOk X hds hs l →
      HdOk X (.ExceptHandler (some (.Name x np)) none [.Return (some (.List es p1)) p2] pos' :: hds) (⟨x, none, items⟩ :: hs) (clOf C ⟨x, none, items⟩ :: l)
  | nm {x n : Str} {i : Nat} {C : Addr} {es : List Expr} {items : List Hi} {np p1 p2 pos' : Pos} {hds : List ExceptHandler} {hs : List Hd} {l : List Cl} : X.N[i]? = some n → X.env.kindOf n = some .local → Gl X x → (x == ("__debug__" : Str)) = false → X.mg x = some (.ref C) → HiOk X C i es items → HdOk X hds hs l →
      HdOk X (.ExceptHandler (some (.Name x np)) (some n) [.Return (some (.List es p1)) p2] pos' :: hds) (⟨x, some i, items⟩ :: hs) (clOf C ⟨x, some i, items⟩ :: l)
theorem HdOk.cl {X : Cx} : ∀ {hds : List ExceptHandler} {hs : List Hd} {l : List Cl}, HdOk X hds hs l → ClOk X hds l
  | _, _, _, .nil => .nil
  | _, _, _, .pl h1 h2 h3 _ h5 t => .pl ⟨h1, h2, .inl h3⟩ (fun a oe cls d pn hz hf => pss_one (ps_ret (pe_lst (hi_pa hz hf h5)))) t.cl
  | _, _, _, .nm g1 g2 h1 h2 h3 h5 t => .nm g1 g2 ⟨h1, h2, .inl h3⟩ (fun a oe cls d pn hz hf => pss_one (ps_ret (pe_lst (hi_pa hz hf h5)))) t.cl
theorem go_ok {G : Gx} {P : Pin} {R S H : Hp} {σ : L2.St} {st : DS} {W : WX} {E : Ends} {cls : Value} {d : Option Addr} {e : Ex} {C a : Addr} {h : Hd} (hC : G.mg h.cls = some (.ref C)) (hn : h.nm = none → ∀ n ∈ h.items, n.isC = true)
    (hs : StR G P R S H σ st) (x : ExR G S cls d e) (f : FinS G P R W S (h.go e st) E) : (clOf C h).on a cls d E σ H := by
  unfold Hd.go at f
  cases q : hiAll h.cls e h.items with
  | none => rw [q] at f; exact f.elim
  | some ds =>
    rw [q] at f
    dsimp only at f
    by_cases hc : (h.fit st && fits ds.length) = true
    · rw [if_pos hc] at f
      rw [Bool.and_eq_true] at hc
      have hst : StR G P R S H σ (h.st st) := by
        unfold Hd.st
        split
        · exact hs.setNo _
        · exact hs
      have core : ∀ σ' : L2.St, ((∃ n, Hi.isC n = false ∧ n ∈ h.items) → σ'[h.nm.getD 0]? = some (some (.ref a))) → tLst (tHi a cls d C (h.nm.getD 0) h.items) σ' H E.rt := fun σ' hv =>
        hi_ok hs.sub x hC hv q fun vs ra => ⟨by rw [ra.length]; exact fits_of hc.2, fun p np => by
          obtain ⟨h3, f3⟩ := hst.alloc np (.lst ra)
          exact f _ σ S _ (Same.refl S) h3 f3⟩
      unfold Cl.on clOf
      cases hm : h.nm with
      | none =>
        have := core σ (fun ⟨n, hc, hh⟩ => absurd (hn hm n hh) (by rw [hc]; exact Bool.false_ne_true))
        rw [hm] at this
        exact this
      | some i =>
        have hf := hc.1
        unfold Hd.fit at hf
        rw [hm] at hf
        have hi : i < σ.length := by rw [← hs.len]; exact of_decide_eq_true hf
        have := core (σ.set i (some (.ref a))) (fun _ => by rw [hm]; exact List.getElem?_set_self hi)
        rw [hm] at this
        exact this
    · rw [if_neg hc] at f
      exact f.elim
theorem hdl_ok {X : Cx} {P : Pin} {R S H : Hp} {σ : L2.St} {st : DS} {W : WX} {E : Ends} {cls : Value} {d : Option Addr} {e : Ex} {sub : Str → Str → Bool} (hs : StR (gx X) P R S H σ st) (x : ExR (gx X) S cls d e) :
    ∀ {hds : List ExceptHandler} {hs : List Hd} {l : List Cl}, HdOk X hds hs l → (∀ h ∈ hs, ∀ u, X.mg h.cls = some u → PySem.W.exmOne X.K cls u = some (sub e.cls h.cls)) → FinS (gx X) P R W S (hdl sub hs e st) E → wCl X.K W E l cls d σ H
  | _, _, _, .nil, _, f => f cls d σ S H (Same.refl S) hs x
  | _, _, _, .pl (items := items) h1 h2 h3 h4 h5 t, ex, f => by
    refine ⟨_, ex _ List.mem_cons_self _ h3, fun b a na => ?_, fun b => ?_⟩
    · unfold hdl at f
      rw [if_pos b] at f
      refine go_ok (h := ⟨_, none, items⟩) h3 (fun _ n hn => ?_) hs x f
      exact List.all_eq_true.mp h4 _ hn
    · unfold hdl at f
      rw [if_neg (by rw [b]; exact Bool.false_ne_true)] at f
      exact hdl_ok hs x t (fun h hh => ex h (List.mem_cons_of_mem _ hh)) f
  | _, _, _, .nm (i := i) (items := items) g1 g2 h1 h2 h3 h5 t, ex, f => by
    refine ⟨_, ex _ List.mem_cons_self _ h3, fun b a na => ?_, fun b => ?_⟩
    · unfold hdl at f
      rw [if_pos b] at f
      exact go_ok (h := ⟨_, some i, items⟩) h3 (fun z => by cases z) hs x f
    · unfold hdl at f
      rw [if_neg (by rw [b]; exact Bool.false_ne_true)] at f
      exact hdl_ok hs x t (fun h hh => ex h (List.mem_cons_of_mem _ hh)) f
/-- the frame runs at the top -/
structure Tp (X : Cx) : Prop where
  st : X.stack = X.env :: X.outer
  fr : X.env.frame = some X.env.locals
theorem ds_try {X : Cx} {W : WX} {body : List Stmt} {h₀ : ExceptHandler} {hds : List ExceptHandler} {hs : List Hd} {l : List Cl} {pos : Pos} {xs : List Str} {sub : Str → Str → Bool} {s : GS} (q : Tp X) (hN : X.N.Nodup) (tk : Takes X W)
    (hb : ∀ (W' : WX) (pn : List (Addr × Obj)) (xe : Value → Shared → Prop), Takes (X.tr pn xe) W' → PassesOwn (model X.prog X.w) X.A X.env xe → DSs (X.tr pn xe) W' body s) (hh : HdOk X (h₀ :: hds) hs l)
    (hx : ∀ c ∈ xs, ∀ h ∈ hs, ∀ v u, X.mg c = some v → X.mg h.cls = some u → PySem.W.exmOne X.K v u = some (sub c h.cls)) : DSt X W (.Try body (h₀ :: hds) [] [] pos) (sTry xs sub s hs) :=
  ps_imp (ps_tryM (tb := fun W' => tDS (gx X) W' s) q.st q.fr hN tk hb hh.cl) fun E σ H ⟨P, R, S, st, h, fi⟩ => by
    refine ⟨P, R, S, st, h, ?_⟩
    unfold sTry at fi
    cases es : s st with
    | nx st1 => rw [es] at fi; exact fi
    | rt a st1 => rw [es] at fi; exact fi
    | bk st1 => rw [es] at fi; exact fi
    | ct st1 => rw [es] at fi; exact fi
    | no => rw [es] at fi; exact fi
    | ex e st1 =>
      rw [es] at fi
      dsimp only at fi
      intro cls d σ' S' H' e1 h1 xr
      by_cases hm : e.cls ∈ xs
      · rw [if_pos hm] at fi
        exact hdl_ok h1 xr hh (fun h hh u hu => hx _ hm h hh _ _ xr.1 hu) (FinS.up fi e1)
      · rw [if_neg hm] at fi
        exact fi.elim
end DL
end
section
/-! DLw: raise C(x, ..) on data. -/
namespace DL
open PySem PySem.Spec PyProof.Rows L2
section
variable {X : Cx} {x : Str} {e : Expr} {es : List Expr} {ta : TA} {p pos : Pos} {C fI : Addr} {k : Nat} {fd : FuncData} {ps : List Str} {sp : Sp}
/-- C(e, ..), its __init__ keeping sp -/
theorem pmk_g (T : OexC X.K C) (iC : PySem.W.findIn X.K (.ref C) "__init__" = some (some (.ref fI))) (tI : PySem.W.typeIn X.K (.ref fI) = some (.type "function")) (F1 : FnG X.prog X.w X.K X.mg X.base k fI fd ps sp) (hr : Room (k + 1) X.A) (hgu : X.A.guards = some [])
    (hb : Binds X.K fd ps []) (hx : Passes (L2.CX X.prog X.w) X (fun _ _ _ => False)) (hg : Gl X x) (hm : X.mg x = some (.ref C)) (ha : PA X (e :: es) ta) (hdb : (x == ("__debug__" : Str)) = false)
    (he : starEach (e :: es) X.env = (false, eval e X.env) :: starEach es X.env) (hpl : (backTo pos (starEach es X.env)).any (·.1) = false) : PMk X (.Call (.Name x p) (e :: es) [] pos) (tMkO C sp [] ta) := fun pins s σ H Q I h => by
  obtain ⟨nm, q, N, bs, bm, sn, sub, ab, col, dd, k0, k1, k2, k3, k5, hC, hbm⟩ := T.cls
  refine wpAny_Call_Name_kw (ld_glob I hg hm ?_ hdb)
  refine PySem.W.callWith_K (h₀ := X.base) I.ok.mod.kin T.kC (thn (ha.run pos pins s σ H _ I h) fun us s1 z => ?_) he hpl
  obtain ⟨vs, H1, I1, r1, hz, q1⟩ := z
  refine ⟨I1.kIn, ?_⟩
  show wpAny _ _ (call (.ref C) us) _ _ _
  obtain ⟨hp, g, dr, tk, os⟩ := s1
  have up : ∀ b o, hp.get? b = some o → ((hp.push (PySem.W.kdv_tup us)).push (PySem.HandSPX.excO C hp.objs.size)).get? b = some o := fun b o z => Heap.get?_push_of_some _ (Heap.get?_push_of_some _ z)
  have at_ : ((hp.push (PySem.W.kdv_tup us)).push (PySem.HandSPX.excO C hp.objs.size)).get? (hp.objs.size + 1) = some (PySem.HandSPX.excO C hp.objs.size) := by heap_get
  have sz : hp.objs.size ≤ hp.objs.size + 1 := Nat.le_succ _
  have I2 := I1.laid (t' := tk) (a := hp.objs.size + 1) (o := exo (hp.objs.size + 1) C none) (h' := (hp.push (PySem.W.kdv_tup us)).push (PySem.HandSPX.excO C hp.objs.size)) up sz (exo_ok at_)
  have hq := q1 (hp.objs.size + 1) (I1.hok.fresh sz)
  rw [List.append_nil] at hq
  have r2 : Vals (V.ref (hp.objs.size + 1) :: vs) (Value.ref (hp.objs.size + 1) :: us) := .cons rfl r1
  have b2 := hb _ (Value.ref (hp.objs.size + 1) :: us) I2.kIn (by rw [List.append_nil, ← r2.length]; exact F1.len hq)
  rw [List.append_nil] at b2
  have hus : us.length ≤ sizeLine := by rw [← Paired.length r1, sizeLine_eq]; omega
  have gu : (X.A.under (.builtin "type.__call__" ⟨.ref C :: us, []⟩)).guards = some [] := by
    unfold Around.under
    rw [hgu]
    rfl
  refine wpAny_call (PySem.HandSPX.call_own F.excBase_ValueError (fun Y => PySem.HandSPX.refsVE_contains Y bm hbm) (I1.kIn _ _ hC) (PySem.W.looks_findIn I1.kIn iC) (fun self => PySem.W.bind_fn I1.kIn self tI) hus
    (codeAny_mono (F1.go (hr.make C us []) gu (I2.env0.make C us []) b2 r2 hq) fun r s' z => ?_))
  cases r with
  | error er => exact hx pins σ _ _ er s' I2 z
  | ok fl =>
    cases fl with
    | ret u =>
      obtain ⟨v, H2, os2, bare2, un2, hok2, rv, ev, d, fs, ea, ed, hd1, q2⟩ := z
      subst ev
      obtain ⟨h2, g2, d2, t2, os'⟩ := s'
      exact ⟨rv, mk_end (raises_own T.exC T.tyC) I1 sz up un2 hok2 os2 bare2 ea ed hd1 q2⟩
    | _ => exact False.elim z
/-- {x!r} of data -/
theorem pe_fmtD {te : TE} {j : Nat} (hr : Room j X.A) (hg : X.A.guards = some []) (he : PE X e te) : PE X (.FormattedValue e 114 none pos) (fun σ H Q => te σ H fun v H1 => ∃ d, ShwV X H1 v d ∧ okSh d = true ∧ Q (.str d.shown) H1) := ⟨fun pins s σ H Q I h => by
  refine wpAny_FormattedValue_repr (thn (he.run pins s σ H _ I h) fun u s1 z => ?_)
  obtain ⟨v, H1, I1, r1, d, hs, ok, q⟩ := z
  obtain ⟨z1, z2, z3⟩ := okSh_of ok
  have hu := hr.un
  refine (hs _ _ I1.hok I1.kIn r1).pyRepr z1 z3 hg (by omega) fun h' t tk k => ?_
  have J := I1.kept (t' := tk) k
  exact wpAny_formatField_str ⟨.str d.shown, H1, J, ⟨_, rfl⟩, q⟩ ⟨.str d.shown, H1, J.tok _, ⟨_, rfl⟩, q⟩ z3⟩
end
/-! ### __init__(self, y): super().__init__(f'..{y!r}'); self.f = y -/
def spI1 (P : Program) (w : World) (K : PySem.W.Frag) (C : Addr) (f pre : Str) : Sp := fun vs H Q _ => ∃ a v d, vs = [.ref a, v] ∧ H a = some (exo a C none) ∧ (∀ (h : Heap) (u : Value), HOk P w H h → K.In h → RelV v u → Sw h u d) ∧ okSh d = true ∧
  (Str.empty ++ pre).length ≤ sizeLine ∧ (Str.empty ++ pre ++ d.shown).length ≤ sizeLine ∧ ∀ dx, H dx = none → dx ≠ a → Q .non (upd (upd H dx (exd dx [(f, v)])) a (exo a C (some dx)))
section
variable {P : Program} {w : World} {K : PySem.W.Frag} {mg : Str → Option Value} {base : Heap}
theorem ini1 {st : Stmt} {qual y f pre : Str} {fI C cda cc : Addr} {kV doc pm ct oc : Value} {an od : Option Addr} {osl : Array (Option Value)} {p0 p1 p2 p3 p4 q1 q2 q3 q4 q5 q6 q7 q8 : Pos} {j : Nat} {ar : Arg}
    (lk : K.lookup fI = some ⟨oc, od, .func (PySem.W.ksFn "__init__" qual (defArgs st) (defBody st) (defScope st) .none kV doc pm an (.ref cda) ct cc), osl⟩) (hc : PySem.W.codeIn K (.ref cda) qual = true)
    (hbd : defBody st = [.Expr (.Call (.Attribute (.Call (.Name "super" p0) [] [] p1) "__init__" p2) [.JoinedStr [.Constant (.str pre) j q1, .FormattedValue (.Name y q2) 114 none q3] q4] [] p3) p4, .Assign [.Attribute (.Name "self" q5) f q6] (.Name y q7) q8])
    (Sc : XSc ["self", y] ["self", y] (defScope st)) (hp : ((defArgs st).posonlyargs ++ (defArgs st).args).head? = some ar) (har : ar.arg = "self") (hy1 : (y == ("__debug__" : Str)) = false) (hy2 : (y == ("__classdict__" : Str)) = false) (T : SupC P K C cda cc) (hsu : mg "super" = none) (hno : PySem.W.findIn K (.ref C) f = some none)
    (hev : ∀ env : Env, ∃ pl : Sem Bool, eval (.Call (.Attribute (.Call (.Name "super" p0) [] [] p1) "__init__" p2) [.JoinedStr [.Constant (.str pre) j q1, .FormattedValue (.Name y q2) 114 none q3] q4] [] p3) env = (do
      let ov ← attributeBase (.Call (.Name "super" p0) [] [] p1) "__init__" env (eval (.Call (.Name "super" p0) [] [] p1) env)
      standAt p2.atName
      let (f, first) ← holding [ov] (getMethod ov "__init__" pl)
      callWith p3 f first (backTo p3 (starEach [.JoinedStr [.Constant (.str pre) j q1, .FormattedValue (.Name y q2) 114 none q3] q4] env)) []))
    (hsw : ∀ env : Env, swapsWith (.Call (.Attribute (.Call (.Name "super" p0) [] [] p1) "__init__" p2) [.JoinedStr [.Constant (.str pre) j q1, .FormattedValue (.Name y q2) 114 none q3] q4] [] p3) none p4.line env = pure false) :
    FnG P w K mg base 1 fI (PySem.W.ksFn "__init__" qual (defArgs st) (defBody st) (defScope st) .none kV doc pm an (.ref cda) ct cc) ["self", y] (spI1 P w K C f pre) := by
  rw [hbd] at lk ⊢
  refine fn_sup (k := 0) (N := ["self", y]) lk hc Sc hp (by rw [har]; rfl) T hsu hev (fun env => rfl) hsw (fun h => ?_) (fun A outer s H vs Q E hr hg h => ?_)
  · obtain ⟨a, v, d, rfl, _⟩ := h
    rfl
  · obtain ⟨a, v, d, rfl, ha, sw, ok, z1, z2, q⟩ := h
    have v0 : Vis (defScope st) ("self" : Str) := Or.inl (Sc.par _ (List.mem_cons_self))
    have v1 : Vis (defScope st) y := Or.inl (Sc.par _ (List.mem_cons_of_mem _ List.mem_cons_self))
    refine ⟨a, _, _, rfl, ha, pa_cons (pe_joined (.cons pe_str (.cons (pe_fmtD hr hg (pe_var (i := 1) (x := y) rfl v1 hy1 hy2)) .nil))) pa_nil rfl, pss_one (ps_ost (pe_var (i := 0) (x := "self") rfl v0 (by decide) (by decide)) (pe_var (i := 1) (x := y) rfl v1 hy1 hy2) rfl), ?_⟩
    refine ⟨pre, rfl, z1, v, rfl, d, sw, ok, _, rfl, z2, ?_⟩
    refine ⟨show (1 : Nat) ≤ 1000 by omega, ha, ?_⟩
    exact ⟨v, rfl, _, rfl, a, C, rfl, T.ox, hno, Or.inl ⟨ha, fun dx n1 n2 => q dx n1 n2⟩⟩
end
/-! ### raise on data -/
def sRaise (x : Str) (mk : List D → Option (List (Str × D))) (ga : GA) : GS := fun st => (ga st).bindS fun as st1 => match takes st1 as with
  | some (ds, st2) => (match mk ds with
    | some fs => if ds.length ≤ 900 then .ex ⟨x, fs⟩ st2 else .no
    | none => .no)
  | none => .no
/-- what __init__'s promise comes to on data -/
def MkS (P : Program) (w : World) (K : PySem.W.Frag) (mg : Str → Option Value) (C : Addr) (mk : List D → Option (List (Str × D))) (sp : Sp) : Prop := ∀ (S H : Hp) (vs : List V) (ds : List D) (fs : List (Str × D)) (a : Addr) (Q : VK) (E : XK), Le S H → RepAll ⟨K, mg⟩ S vs ds → mk ds = some fs → H a = none →
  (∀ dx gs H2, H dx = none → dx ≠ a → RepF ⟨K, mg⟩ S gs fs → H2 a = some (exo a C (some dx)) → H2 dx = some (exd dx gs) → (∀ b, b ≠ a → b ≠ dx → H2 b = H b) → Q .non H2) → sp (.ref a :: vs) (upd H a (exo a C none)) Q E
/-- a class of exceptions whose __init__ does mk -/
def XOk (P : Program) (w : World) (K : PySem.W.Frag) (mg : Str → Option Value) (base : Heap) (k : Nat) (x : Str) (mk : List D → Option (List (Str × D))) : Prop :=
  ∃ C fI fd ps sp, mg x = some (.ref C) ∧ OexC K C ∧ PySem.W.findIn K (.ref C) "__init__" = some (some (.ref fI)) ∧ PySem.W.typeIn K (.ref fI) = some (.type "function") ∧ Binds K fd ps [] ∧ FnG P w K mg base k fI fd ps sp ∧ MkS P w K mg C mk sp
theorem passes_none {X : Cx} {W : WX} (tk : Takes X W) : Passes (L2.CX X.prog X.w) X (fun _ _ _ => False) := fun pins σ H s e s' I h => by
  obtain ⟨_, _, _, _, _, _, _, _, _, _, _, _, z⟩ := h
  exact z.elim
theorem ds_raise {X : Cx} {W : WX} {x : Str} {e : Expr} {es : List Expr} {ga : GA} {mk : List D → Option (List (Str × D))} {p pos pos' : Pos} {k : Nat} (T : XOk X.prog X.w X.K X.mg X.base k x mk) (hr : Room (k + 1) X.A) (hgu : X.A.guards = some []) (hc : X.calm = true) (tk : Takes X W)
    (hg : Gl X x) (ha : DA X W (e :: es) ga) (hdb : (x == ("__debug__" : Str)) = false) (he : starEach (e :: es) X.env = (false, eval e X.env) :: starEach es X.env) (hpl : (backTo pos (starEach es X.env)).any (·.1) = false) :
    DSt X W (.Raise (some (.Call (.Name x p) (e :: es) [] pos)) none pos') (sRaise x mk ga) := by
  obtain ⟨C, fI, fd, ps, sp, hm, ox, iC, tI, hb, F1, ms⟩ := T
  refine ps_imp (ps_raise hc tk (pmk_g ox iC tI F1 hr hgu hb (passes_none tk) hg hm ha hdb he hpl)) fun E σ H ⟨P, R, S, st, h, fi⟩ => ⟨P, R, S, st, h, Fin.imp (Fin.bindS (σ := σ) fi) fun as st1 S1 H1 e1 h1 k vs pv => ?_⟩
  cases et : takes st1 as with
  | none => rw [et] at k; exact k.elim
  | some r =>
    obtain ⟨ds, st2⟩ := r
    rw [et] at k
    dsimp only at k
    cases em : mk ds with
    | none => rw [em] at k; exact k.elim
    | some fs =>
      rw [em] at k
      dsimp only at k
      split at k
      · rename_i hz
        obtain ⟨S2, e2, h2, ra⟩ := takes_ok h1 pv et
        refine ⟨by rw [ra.length]; omega, fun a na => ?_⟩
        rw [List.append_nil]
        refine ms S2 H1 vs ds fs a _ _ h2.sub ra em na fun dx gs H2 nd ne rf q1 q2 q3 => ⟨rfl, dx, gs, q1, q2, nd, ?_⟩
        have eH : upd (del H2 a) dx (.xd gs) = upd H1 dx (.xd gs) := by
          funext b
          by_cases hb : b = dx
          · rw [hb, upd_same, upd_same]
          · rw [upd_ne hb, upd_ne hb]
            by_cases hba : b = a
            · rw [hba, del_same, na]
            · rw [del_ne hba, q3 b hba hb]
        rw [eH]
        obtain ⟨sp', rp, lp⟩ := h2.new nd
        have h3 : StR (gx X) P R (upd S2 dx (.xd gs)) (upd H1 dx (.xd gs)) σ st2 := (h2.grow nd).more upd_same sp' rp lp
        have sm : Same S2 (upd S2 dx (.xd gs)) := same_upd sp'
        exact k (.ref C) (some dx) σ _ _ (e2.trans sm) h3 ⟨hm, .inl ⟨dx, gs, rfl, upd_same, rf.mono sm⟩⟩
      · exact k.elim
/-- one field, told by its repr -/
def mk1 (f pre : Str) : List D → Option (List (Str × D))
  | [d] => match rprD d with
    | some t => if (fits (Str.empty ++ pre).length && fits (Str.empty ++ pre ++ t).length) = true then some [(f, d)] else none
    | none => none
  | _ => none
theorem mkS1 {P : Program} {w : World} {K : PySem.W.Frag} {mg : Str → Option Value} {C : Addr} {f pre : Str} : MkS P w K mg C (mk1 f pre) (spI1 P w K C f pre) := fun S H vs ds fs a Q E le ra em na k => by
  unfold mk1 at em
  split at em
  · rename_i d
    cases er : rprD d with
    | none => rw [er] at em; cases em
    | some t =>
      rw [er] at em
      dsimp only at em
      split at em
      · rename_i hz
        cases em
        rw [Bool.and_eq_true] at hz
        unfold rprD at er
        cases es : shw d with
        | none => rw [es] at er; cases er
        | some pd =>
          rw [es] at er
          dsimp only at er
          split at er
          · rename_i ok
            cases er
            cases ra with
            | @cons v vs' _ _ r1 r2 =>
              cases r2
              have le2 : Le S (upd H a (exo a C none)) := le.grow na
              refine ⟨a, v, pd, rfl, upd_same, fun h u ho ki rv => sw_of (G := ⟨K, mg⟩) le2 ho ki es r1 rv, ok, fits_of hz.1, fits_of hz.2, fun dx nd ne => ?_⟩
              rw [upd_ne ne] at nd
              refine k dx [(f, v)] _ nd ne (.cons r1 .nil) upd_same ?_ fun b b1 b2 => ?_
              · rw [upd_ne ne, upd_same]
              · rw [upd_ne b1, upd_ne b2, upd_ne b1]
          · cases er
      · cases em
  · cases em
end DL
end
section
/-! DM1: a, b = e; texts and lists times an int; list(range(..)); short forms. -/
namespace DL
open PySem PySem.Spec PyProof.Rows L2
def sUnp (g : GE) (ag : AG) : GS := fun st => (g st).bindS fun a st1 => match take1 st1 a with
  | some (x, st2) => (match ag x st2 with
    | some st3 => .nx st3
    | none => .no)
  | none => .no
section
variable {X : Cx} {W : WX} {N : List Str} {sc : Scope} {full : Bool} {k : Nat} {a b e : Expr} {es : List Expr} {pos p : Pos} {ga gb g : GE} {gs : GA}
/-! ### times -/
def repS (x : Str) (n : Int) : Str := ⟨(List.replicate n.toNat x.cps).foldl (· ++ ·) #[]⟩
theorem repS_1 (x : Str) : repS x 1 = x := by
  show (⟨#[] ++ x.cps⟩ : Str) = x
  rw [Array.empty_append]
theorem fold_e (n : Nat) : (List.replicate n (#[] : Array Nat)).foldl (· ++ ·) #[] = #[] := by
  induction n with
  | zero => rfl
  | succ n ih => rw [List.replicate_succ, List.foldl_cons]; exact ih
theorem repS_e (x : Str) (n : Int) (h : x.length = 0) : repS x n = x := by
  obtain ⟨c⟩ := x
  have hc : c = #[] := Array.eq_empty_of_size_eq_zero h
  subst hc
  show (⟨_⟩ : Str) = _
  rw [fold_e]
theorem fold_size (c : Array Nat) : ∀ (n : Nat) (acc : Array Nat), ((List.replicate n c).foldl (· ++ ·) acc).size = acc.size + c.size * n
  | 0, acc => by simp
  | n + 1, acc => by
    rw [List.replicate_succ, List.foldl_cons, fold_size c n, Array.size_append, Nat.mul_succ]
    omega
theorem repS_len (x : Str) (n : Int) : (repS x n).length = x.length * n.toNat := by
  show ((List.replicate n.toNat x.cps).foldl (· ++ ·) #[]).size = x.cps.size * n.toNat
  rw [fold_size]
  simp
theorem op_repS : OpR X (binaryOp .Mult) (fun x y H Q => ∃ a n, x = .str a ∧ y = .int n ∧ 0 ≤ n ∧ n ≤ 10000 ∧ a.length * n.toNat ≤ 10000 ∧ a.length ≤ 10000 ∧ Q (.str (repS a n)) H) := by
  intro pins s σ H x y v u Q I rx ry h
  obtain ⟨a, n, rfl, rfl, h0, h1, h2, h3, q⟩ := h
  obtain ⟨t, rfl⟩ := rx
  obtain ⟨t', rfl⟩ := ry
  refine PySem.P.mul_str ?_ (fun z _ => ?_) (fun _ _ => PyProof.Rows.short24 (by omega)) ?_
  · simp only [Bool.or_eq_false_iff, decide_eq_false_iff_not]; omega
  · have hn : (0 : Int) < n := by omega
    have : (922337203685477 : Int) ≤ (2 ^ 63 - 1) / n := by
      refine (Int.le_ediv_iff_mul_le hn).mpr ?_
      have : (922337203685477 : Int) * n ≤ 922337203685477 * 10000 := Int.mul_le_mul_of_nonneg_left h1 (by decide)
      omega
    omega
  · by_cases c1 : n < 1
    · rw [if_pos c1]
      have : n = 0 := by omega
      subst this
      exact ⟨by decide, .str _, H, I.tok _, ⟨_, rfl⟩, q⟩
    · rw [if_neg c1]
      by_cases c2 : (n == 1 || a.length == 0) = true
      · rw [if_pos c2]
        have e : repS a n = a := by
          rw [Bool.or_eq_true, beq_iff_eq, beq_iff_eq] at c2
          rcases c2 with rfl | c2
          · exact repS_1 a
          · exact repS_e a n c2
        rw [e] at q
        exact ⟨.str _, H, I, ⟨_, rfl⟩, q⟩
      · rw [if_neg c2]
        exact ⟨by have := repS_len a n; rw [sizeLine_eq]; unfold repS at this; omega, .str _, H, I.tok _, ⟨_, rfl⟩, q⟩
def repF : F2
  | .str x, .int n => if (decide (0 ≤ n) && decide (n ≤ 10000) && decide (x.length * n.toNat ≤ 10000) && decide (x.length ≤ 10000)) = true then vs (repS x n) else none
  | .lst xs, .int n => if (decide (0 ≤ n) && decide (n ≤ 10000) && fits (xs.length * n.toNat)) = true then some (.fr (.lst (List.replicate n.toNat xs).flatten)) else none
  | _, _ => none
theorem repAll_rep {G : Gx} {S : Hp} {xs : List V} {ds : List D} (r : RepAll G S xs ds) : ∀ n, RepAll G S (List.replicate n xs).flatten (List.replicate n ds).flatten
  | 0 => .nil
  | n + 1 => by rw [List.replicate_succ, List.replicate_succ, List.flatten_cons, List.flatten_cons]; exact r.append (repAll_rep r n)
theorem opS_rep {G : Gx} : OpS G (fun x y H Q => (∃ a n, x = .str a ∧ y = .int n ∧ 0 ≤ n ∧ n ≤ 10000 ∧ a.length * n.toNat ≤ 10000 ∧ a.length ≤ 10000 ∧ Q (.str (repS a n)) H) ∨ rRep x y H Q) repF := fun P R S H σ st v u x y c Q hs hv hu e k => by
  unfold repF at e
  split at e
  · rename_i x n
    split at e
    · rename_i hc
      cases e
      simp only [Bool.and_eq_true, decide_eq_true_eq] at hc
      exact .inl ⟨x, n, hv.str, hu.int, hc.1.1.1, hc.1.1.2, hc.1.2, hc.2, k _ S H (Same.refl S) hs (.str _)⟩
    · cases e
  · rename_i xs n
    split at e
    · rename_i hc
      cases e
      simp only [Bool.and_eq_true, decide_eq_true_eq] at hc
      obtain ⟨a, vs, rfl, h1, h2⟩ := hv.lst hs.sub
      refine .inr ⟨a, n, vs, rfl, hu.int, h1, by omega, by omega, by rw [h2.length]; exact fits_of hc.2, fun p hp => ?_⟩
      obtain ⟨h3, f⟩ := hs.alloc hp (Top.lst (repAll_rep h2 n.toNat))
      exact k _ S _ (Same.refl S) h3 f
    · cases e
  · cases e
theorem opR_or {op} {r r' : R2} (h : OpR X op r) (h' : OpR X op r') : OpR X op (fun x y H Q => r x y H Q ∨ r' x y H Q) := fun pins s σ H x y v u Q I rx ry q => by
  rcases q with q | q
  · exact h pins s σ H x y v u Q I rx ry q
  · exact h' pins s σ H x y v u Q I rx ry q
theorem de_rep (ha : DE X W a ga) (hb : DE X W b gb) : DE X W (.BinOp a .Mult b pos) (gOp2 repF ga gb) := de_op (opR_or op_repS op_rep) opS_rep ha hb
/-! ### list(range(..)) -/
theorem rng_len (a : Int) (n : Nat) : (rng a n).length = n := by unfold rng; rw [List.length_map, List.length_range]
def gLstRg (g : GE) : GE := fun st => (g st).bind fun a st1 => match look st1 a with
  | some (.int n) => if (decide (-(2 ^ 62) ≤ n) && decide (n ≤ 16777216)) = true then .ok (.fr (.lst (rng 0 n.toNat))) st1 else .no
  | _ => .no
/-! ### short forms -/
theorem bt_max : bootBuiltins "max" = some (.builtin "max") := by decide +kernel
theorem bt_min : bootBuiltins "min" = some (.builtin "min") := by decide +kernel
theorem dmax2 (c : Cs X N sc full) (v : Ev X W k) (hm : X.mg "max" = none) (ha : DA X W (e :: es) gs) (hg : GlS sc "max" := by rfl) (he : starEach (e :: es) X.env = (false, eval e X.env) :: starEach es X.env := by rfl) (hpl : (backTo pos (starEach es X.env)).any (·.1) = false := by rfl) :
    DE X W (.Call (.Name "max" p) (e :: es) [] pos) (gCB max2F gs) := dcb c (call_max2 v.calm) callS_max2 hm ha bt_max hg (by decide) (by decide) he hpl
theorem dmin2 (c : Cs X N sc full) (v : Ev X W k) (hm : X.mg "min" = none) (ha : DA X W (e :: es) gs) (hg : GlS sc "min" := by rfl) (he : starEach (e :: es) X.env = (false, eval e X.env) :: starEach es X.env := by rfl) (hpl : (backTo pos (starEach es X.env)).any (·.1) = false := by rfl) :
    DE X W (.Call (.Name "min" p) (e :: es) [] pos) (gCB min2F gs) := dcb c (call_min2 v.calm) callS_min2 hm ha bt_min hg (by decide) (by decide) he hpl
theorem dapp (c : Cs X N sc full) (i : Nat) {x : Str} {apos cpos : Pos} (ha : DA X W [e] gs) (h : N[i]? = some x := by rfl) (hv : Vis sc x := by first | exact Or.inl rfl | exact Or.inr (Or.inl rfl) | exact Or.inr (Or.inr rfl)) (hd : (x == ("__debug__" : Str)) = false := by decide) (hcd : (x == ("__classdict__" : Str)) = false := by decide)
    (hbase : attributeBase (.Name x p) "append" X.env (eval (.Name x p) X.env) = eval (.Name x p) X.env := by rfl)
    (hfew : ((backTo cpos (starEach [e] X.env)).all (fun x => !x.1) && (backToKw cpos (keywordEach [] X.env)).all (fun x => x.1.isSome) && decide (([e] : List Expr).length + ([] : List Keyword).length + (if ([] : List Keyword).isEmpty then 0 else 1) < 30)) = true := by rfl)
    (hline : (apos.endLine == cpos.line) = true := by rfl) (hs : starEach [e] X.env = (false, eval e X.env) :: starEach [] X.env := by rfl) (hplain : (backTo cpos (starEach [] X.env)).any (·.1) = false := by rfl) :
    DE X W (.Call (.Attribute (.Name x p) "append" apos) [e] [] cpos) (gApp i gs) := de_app (by rw [c.n]; exact h) (by rw [c.s]; exact hv) hd hcd ha hbase hfew hline hs hplain
theorem dgt {elts : List Expr} {kk n : Nat} {ts : List Nat} {as : AGs} (hc : X.calm = true) (h : DGs X elts ts as) (hn : (assignEach elts X.env).length = n := by rfl) (hst : (assignEach elts X.env).findIdx? (·.1) = none := by rfl) : DG X (.Tuple elts kk pos) ts (aTup n as) := dg_tup hc h hn hst
theorem dgc {ts us : List Nat} {a' : AG} {as : AGs} (h : DG X e ts a') (hr : DGs X es us as) (h1 : ((assignEach (e :: es) X.env).map (·.2)) = assign e X.env :: (assignEach es X.env).map (·.2) := by rfl) : DGs X (e :: es) (ts ++ us) (aCons a' as) := dgs_cons h hr h1
end
end DL
end
section
/-! DM2: own exceptions: two fields told as ints, the classes as the module has them; try; calls with names. -/
namespace DL
open PySem PySem.Spec PyProof.Rows L2
def t2a (c0 : Str) : Str := Str.empty ++ c0
def t2b (c0 : Str) (i : Int) : Str := t2a c0 ++ toString i
def t2c (c0 c1 : Str) (i : Int) : Str := t2b c0 i ++ c1
def t2d (c0 c1 : Str) (i j : Int) : Str := t2c c0 c1 i ++ toString j
def t2e (c0 c1 c2 : Str) (i j : Int) : Str := t2d c0 c1 i j ++ c2
def ok2 (c0 c1 c2 : Str) (i j : Int) : Bool := decide (i.natAbs.log2 < 1920) && decide (j.natAbs.log2 < 1920) && fits (t2a c0).length && fits (t2b c0 i).length && fits (t2c c0 c1 i).length && fits (t2d c0 c1 i j).length && fits (t2e c0 c1 c2 i j).length
/-! ### the classes as the module has them -/
def clsInit : Stmt → Stmt
  | .ClassDef (body := b) .. => b.getD 0 (.Pass ⟨0, 0, 0, 0⟩)
  | s => s
/-- what holds of an own class of exceptions x, whatever its __init__ -/
structure ExC (P : Program) (K : PySem.W.Frag) (mg : Str → Option Value) (x qual : Str) (st : Stmt) (C fI cda cc : Addr) (fd : FuncData) : Prop where
  m : mg x = some (.ref C)
  sup : SupC P K C cda cc
  i : PySem.W.findIn K (.ref C) "__init__" = some (some (.ref fI))
  t : PySem.W.typeIn K (.ref fI) = some (.type "function")
  l : ∃ oc od kV doc pm an ct osl, fd = PySem.W.ksFn "__init__" qual (defArgs st) (defBody st) (defScope st) .none kV doc pm an (.ref cda) ct cc ∧ K.lookup fI = some ⟨oc, od, .func fd, osl⟩
  c : PySem.W.codeIn K (.ref cda) qual = true
  s : mg "super" = none
def ExAt (P : Program) (K : PySem.W.Frag) (mg : Str → Option Value) (x qual : Str) (st : Stmt) (fs : List Str) : Prop :=
  ∃ C fI cda cc fd, ExC P K mg x qual st C fI cda cc fd ∧ XfC K C ∧ ∀ f ∈ fs, PySem.W.findIn K (.ref C) f = some none
def findAll (K : PySem.W.Frag) (C : Addr) (fs : List Str) : Bool := fs.all fun f => decide (PySem.W.findIn K (.ref C) f = some none)
theorem exAt_mk {P : Program} {K : PySem.W.Frag} {h : Heap} {mg : Str → Option Value} {x qual : Str} {st : Stmt} {fs : List Str} {C fI cda cc : Addr} {nm q : Str} {N : Addr} {bs bm : List Value} {sn sub ab col dd k0 k1 k2 k3 k5} {oc kV doc pm ct : Value} {od an : Option Addr} {osl : Array (Option Value)}
    {ccl : Value} {cdd : Option Addr} {vs : Array Value} {ccs : Array (Option Value)} {file : Str} {tf : Tok} {cl : Value} {cld : Option Addr} {csl : Array (Option Value)} (X : K.In h) (G : h.Ns mainGlobals mg)
    (aC : PySem.W.nsIn K mainGlobals x = some (some (.ref C))) (lC : K.lookup C = some (excClassObj nm q C N bs bm true sn sub ab col dd k0 k1 k2 k3 k5 "ValueError.__new__")) (rb : PySem.HandSPX.refsVE bm = true)
    (sa : PySem.W.findIn K (.ref C) "__setattr__" = some (some (.builtin "object.__setattr__"))) (exC : PySem.W.subIn K (.ref C) (.type "BaseException") = some true) (tyC : PySem.W.typeIn K (.ref C) = some (.type "type")) (kC : PySem.W.keepIn K (.ref C) = true)
    (iC : PySem.W.findIn K (.ref C) "__init__" = some (some (.ref fI))) (lI : K.lookup fI = some ⟨oc, od, .func (PySem.W.ksFn "__init__" qual (defArgs st) (defBody st) (defScope st) .none kV doc pm an (.ref cda) ct cc), osl⟩) (tI : PySem.W.typeIn K (.ref fI) = some (.type "function"))
    (cI : PySem.W.codeIn K (.ref cda) qual = true) (lcd : K.lookup cda = some ⟨ccl, cdd, .fields vs, ccs⟩) (hv : vs[2]? = some (.str file tf)) (hf : ((P.main.file : Str) == file) = true) (lcc : K.lookup cc = some ⟨cl, cld, .cell (some (.ref C)), csl⟩)
    (mr : PySem.W.mroIn K C (.ref C) = some true) (opq : PySem.W.nsIn K cStatics "thirdparty.any" = some none) (top : (P.main.scope.names.lookup ("super" : Str)).isSome = false) (ini : PySem.W.ks_superIn K C C "__init__" = some (some (.builtin "ValueError.__init__")))
    (ve : PySem.W.subIn K (.ref C) (.type "ValueError") = some true) (su : PySem.W.nsIn K mainGlobals "super" = some none)
    (ga : PySem.W.findIn K (.ref C) "__getattribute__" = some (some (.builtin "BaseException.__getattribute__"))) (gg : PySem.W.findIn K (.ref C) "__getattr__" = some none) (hd : PySem.W.hasDictIn K C = true) (hfs : findAll K C fs = true) : ExAt P K mg x qual st fs :=
  ⟨C, fI, cda, cc, _, ⟨PySem.W.mg_of X G aC, ⟨⟨⟨nm, q, N, bs, bm, sn, sub, ab, col, dd, k0, k1, k2, k3, k5, lC, rb⟩, sa, exC, tyC, kC⟩, ⟨ccl, cdd, vs, ccs, file, tf, lcd, hv, hf⟩, ⟨cl, cld, csl, lcc⟩, mr, opq, top, ini, ve⟩, iC, tI, ⟨oc, od, kV, doc, pm, an, ct, osl, rfl, lI⟩, cI, PySem.W.mg_none_of X G su⟩,
    ⟨ga, gg, exC, hd⟩, fun f hf => of_decide_eq_true (List.all_eq_true.mp hfs f hf)⟩
section
variable {P : Program} {w : World} {K : PySem.W.Frag} {mg : Str → Option Value} {base : Heap}
theorem x_ok1 {x qual : Str} {st : Stmt} {fs : List Str} (E : ExAt P K mg x qual st fs) {y f pre : Str} {p0 p1 p2 p3 p4 q1 q2 q3 q4 q5 q6 q7 q8 : Pos} {j : Nat} {ar : Arg}
    (hbd : defBody st = [.Expr (.Call (.Attribute (.Call (.Name "super" p0) [] [] p1) "__init__" p2) [.JoinedStr [.Constant (.str pre) j q1, .FormattedValue (.Name y q2) 114 none q3] q4] [] p3) p4, .Assign [.Attribute (.Name "self" q5) f q6] (.Name y q7) q8])
    (Sc : XSc ["self", y] ["self", y] (defScope st)) (hp : ((defArgs st).posonlyargs ++ (defArgs st).args).head? = some ar) (har : ar.arg = "self") (hy1 : (y == ("__debug__" : Str)) = false) (hy2 : (y == ("__classdict__" : Str)) = false) (hno : f ∈ fs)
    (hev : ∀ env : Env, ∃ pl : Sem Bool, eval (.Call (.Attribute (.Call (.Name "super" p0) [] [] p1) "__init__" p2) [.JoinedStr [.Constant (.str pre) j q1, .FormattedValue (.Name y q2) 114 none q3] q4] [] p3) env = (do
      let ov ← attributeBase (.Call (.Name "super" p0) [] [] p1) "__init__" env (eval (.Call (.Name "super" p0) [] [] p1) env)
      standAt p2.atName
      let (f, first) ← holding [ov] (getMethod ov "__init__" pl)
      callWith p3 f first (backTo p3 (starEach [.JoinedStr [.Constant (.str pre) j q1, .FormattedValue (.Name y q2) 114 none q3] q4] env)) []))
    (hsw : ∀ env : Env, swapsWith (.Call (.Attribute (.Call (.Name "super" p0) [] [] p1) "__init__" p2) [.JoinedStr [.Constant (.str pre) j q1, .FormattedValue (.Name y q2) 114 none q3] q4] [] p3) none p4.line env = pure false)
    (hb : ∀ (kV doc pm : Value) (an : Option Addr) (cdv ct : Value) (cc : Addr) (us : List Value), us.length = 2 → bindArgs (PySem.W.ksFn "__init__" qual (defArgs st) (defBody st) (defScope st) .none kV doc pm an cdv ct cc) ⟨us, []⟩ = pure ((["self", y] : List Str).zip us)) :
    XOk P w K mg base 1 x (mk1 f pre) := by
  obtain ⟨C, fI, cda, cc, fd, e, _, hn⟩ := E
  obtain ⟨oc, od, kV, doc, pm, an, ct, osl, rfl, lk⟩ := e.l
  exact ⟨C, fI, _, ["self", y], _, e.m, e.sup.ox, e.i, e.t, Binds.all fun us hl => hb _ _ _ _ _ _ _ us hl, ini1 lk e.c hbd Sc hp har hy1 hy2 e.sup e.s (hn f hno) hev hsw, mkS1⟩
end
/-! ### raise, try: short forms -/
def HdO (X : Cx) (hds : List ExceptHandler) (hs : List Hd) : Prop := ∃ l, HdOk X hds hs l
def ClsAt (mg : Str → Option Value) (x : Str) : Prop := ∃ C, mg x = some (.ref C)
theorem clsAt_mk {K : PySem.W.Frag} {h : Heap} {mg : Str → Option Value} {x : Str} {C : Addr} (X : K.In h) (G : h.Ns mainGlobals mg) (aC : PySem.W.nsIn K mainGlobals x = some (some (.ref C))) : ClsAt mg x := ⟨C, PySem.W.mg_of X G aC⟩
/-- whether an exception of the class x is one of the class y -/
def SubAt (K : PySem.W.Frag) (mg : Str → Option Value) (x y : Str) (b : Bool) : Prop := ∀ v u, mg x = some v → mg y = some u → PySem.W.exmOne K v u = some b
theorem subAt_mk {K : PySem.W.Frag} {h : Heap} {mg : Str → Option Value} {x y : Str} {C C' : Addr} {b : Bool} (X : K.In h) (G : h.Ns mainGlobals mg) (aC : PySem.W.nsIn K mainGlobals x = some (some (.ref C))) (aC' : PySem.W.nsIn K mainGlobals y = some (some (.ref C'))) (hb : PySem.W.exmOne K (.ref C) (.ref C') = some b) : SubAt K mg x y b := fun v u h1 h2 => by
  rw [PySem.W.mg_of X G aC] at h1
  rw [PySem.W.mg_of X G aC'] at h2
  cases h1
  cases h2
  exact hb
section
variable {X : Cx} {W : WX} {N : List Str} {sc : Scope} {full : Bool} {k : Nat} {e : Expr} {es : List Expr} {gs : GA} {pos p : Pos}
theorem draise (c : Cs X N sc full) (v : Ev X W k) {x : Str} {mk : List D → Option (List (Str × D))} {pos' : Pos} (T : XOk X.prog X.w X.K X.mg X.base 1 x mk) (ha : DA X W (e :: es) gs) (hk : 2 ≤ k := by decide) (hg : GlS sc x := by rfl) (hdb : (x == ("__debug__" : Str)) = false := by decide)
    (he : starEach (e :: es) X.env = (false, eval e X.env) :: starEach es X.env := by rfl) (hpl : (backTo pos (starEach es X.env)).any (·.1) = false := by rfl) :
    DSt X W (.Raise (some (.Call (.Name x p) (e :: es) [] pos)) none pos') (sRaise x mk gs) := ds_raise T (v.mono hk).room v.gd v.calm v.tk (gl_of c hg) ha hdb he hpl
theorem hdo_nil : HdO X [] [] := ⟨_, .nil⟩
theorem hdo_pl (c : Cs X N sc full) {x : Str} {items : List Hi} {np p1 p2 pos' : Pos} {hds : List ExceptHandler} {hs : List Hd} (T : ClsAt X.mg x) (hi : ∀ C, X.mg x = some (.ref C) → HiOk X C 0 es items) (r : HdO X hds hs) (hg : GlS sc x := by rfl) (hdb : (x == ("__debug__" : Str)) = false := by decide) (ha : items.all Hi.isC = true := by rfl) :
    HdO X (.ExceptHandler (some (.Name x np)) none [.Return (some (.List es p1)) p2] pos' :: hds) (⟨x, none, items⟩ :: hs) := by
  obtain ⟨C, hC⟩ := T
  obtain ⟨l, r⟩ := r
  exact ⟨_, .pl (gl_of c hg) hdb hC ha (hi C hC) r⟩
theorem hdo_nm (c : Cs X N sc full) (i : Nat) {x n : Str} {items : List Hi} {np p1 p2 pos' : Pos} {hds : List ExceptHandler} {hs : List Hd} (T : ClsAt X.mg x) (hi : ∀ C, X.mg x = some (.ref C) → HiOk X C i es items) (r : HdO X hds hs) (hN : N[i]? = some n := by rfl) (hl : sc.names.lookup n = some .local := by rfl) (hg : GlS sc x := by rfl) (hdb : (x == ("__debug__" : Str)) = false := by decide) :
    HdO X (.ExceptHandler (some (.Name x np)) (some n) [.Return (some (.List es p1)) p2] pos' :: hds) (⟨x, some i, items⟩ :: hs) := by
  obtain ⟨C, hC⟩ := T
  obtain ⟨l, r⟩ := r
  refine ⟨_, .nm (by rw [c.n]; exact hN) ?_ (gl_of c hg) hdb hC (hi C hC) r⟩
  show X.env.scope.names.lookup n = _
  rw [c.s]
  exact hl
theorem hio_f (c : Cs X N sc full) {i : Nat} {x qual n w : Str} {st : Stmt} {fs : List Str} {C : Addr} {p' : Pos} {r : List Hi} (E : ExAt X.prog X.K X.mg x qual st fs) (hC : X.mg x = some (.ref C)) (hr : HiOk X C i es r) (hf : n ∈ fs := by decide) (h : N[i]? = some w := by rfl) (hv : Vis sc w := by first | exact Or.inl rfl | exact Or.inr (Or.inl rfl) | exact Or.inr (Or.inr rfl)) (hd : (w == ("__debug__" : Str)) = false := by decide) (hcd : (w == ("__classdict__" : Str)) = false := by decide) :
    HiOk X C i (.Attribute (.Name w p) n p' :: es) (.f n :: r) := by
  obtain ⟨C', fI, cda, cc, fd, e, xf, hn⟩ := E
  rw [e.m] at hC
  cases hC
  exact .f xf (hn n hf) (by rw [c.n]; exact h) (by rw [c.s]; exact hv) hd hcd hr
theorem ExAt.cls {P : Program} {K : PySem.W.Frag} {mg : Str → Option Value} {x qual : Str} {st : Stmt} {fs : List Str} (E : ExAt P K mg x qual st fs) : ClsAt mg x := by
  obtain ⟨C', fI, cda, cc, fd, e, xf, hn⟩ := E
  exact ⟨_, e.m⟩
/-- the classes that a table names, by pairs -/
def subT (l : List (Str × Str × Bool)) (x y : Str) : Bool := match l.find? fun t => t.1 == x && t.2.1 == y with
  | some t => t.2.2
  | none => false
inductive SubsAt (K : PySem.W.Frag) (mg : Str → Option Value) : List (Str × Str × Bool) → Prop
  | nil : SubsAt K mg []
  | cons {x y : Str} {b : Bool} {l : List (Str × Str × Bool)} : SubAt K mg x y b → SubsAt K mg l → SubsAt K mg ((x, y, b) :: l)
theorem SubsAt.get {K : PySem.W.Frag} {mg : Str → Option Value} : ∀ {l : List (Str × Str × Bool)} {t : Str × Str × Bool}, SubsAt K mg l → t ∈ l → SubAt K mg t.1 t.2.1 t.2.2
  | _, _, .cons h r, hm => by
    rcases List.mem_cons.mp hm with rfl | hm
    · exact h
    · exact r.get hm
def subOk (l : List (Str × Str × Bool)) (xs : List Str) (hs : List Hd) : Bool := xs.all fun x => hs.all fun h => (l.find? fun t => t.1 == x && t.2.1 == h.cls).isSome
theorem dtry (c : Cs X N sc full) (v : Ev X W k) (q : Tp X) (xs : List Str) {l : List (Str × Str × Bool)} {body : List Stmt} {h₀ : ExceptHandler} {hds : List ExceptHandler} {hs : List Hd} {s : GS} (T : SubsAt X.K X.mg l)
    (hb : ∀ {W' : WX} {pn : List (Addr × Obj)} {xe : Value → Shared → Prop}, Cs (X.tr pn xe) N sc full → Ev (X.tr pn xe) W' k → DSs (X.tr pn xe) W' body s) (hh : HdO X (h₀ :: hds) hs) (ok : subOk l xs hs = true := by decide) :
    DSt X W (.Try body (h₀ :: hds) [] [] pos) (sTry xs (subT l) s hs) := by
  obtain ⟨_, hh⟩ := hh
  refine ds_try q (by rw [c.n]; exact c.nd) v.tk (fun W' pn xe tk ps => hb ⟨c.n, c.s, c.nd, c.f⟩ ⟨v.room, v.calm, tk, ps, v.gd⟩) hh fun x hx h hh v u h1 h2 => ?_
  have o1 := List.all_eq_true.mp (List.all_eq_true.mp ok x hx) h hh
  obtain ⟨t, ht⟩ := Option.isSome_iff_exists.mp o1
  have t1 := List.find?_some ht
  have t2 := List.mem_of_find?_eq_some ht
  rw [Bool.and_eq_true, beq_iff_eq, beq_iff_eq] at t1
  have := T.get t2
  rw [t1.1, t1.2] at this
  have e : subT l x h.cls = t.2.2 := by unfold subT; rw [ht]
  rw [e]
  exact this v u h1 h2
end
end DL
end
section
/-! DLv: running the functions on data, step by step. -/
namespace DL
open PySem PySem.Spec PyProof.Rows L2
def Rs.sat {α : Type} (r : Rs α) (Q : α → DS → Prop) (E : Ex → DS → Prop) : Prop := match r with
  | .ok a st => Q a st
  | .ex e st => E e st
  | .no => False
structure SE where
  nx : DS → Prop
  rt : Val → DS → Prop := fun _ _ => False
  bk : DS → Prop := fun _ => False
  ct : DS → Prop := fun _ => False
  ex : Ex → DS → Prop := fun _ _ => False
def RS.sat (r : RS) (Z : SE) : Prop := match r with
  | .nx st => Z.nx st
  | .rt a st => Z.rt a st
  | .bk st => Z.bk st
  | .ct st => Z.ct st
  | .ex e st => Z.ex e st
  | .no => False
def FR.sat (r : FR) (Q : Val → List D → Prop) (E : Ex → List D → Prop) : Prop := match r with
  | .ok a ios => Q a ios
  | .ex e ios => E e ios
  | .no => False
theorem sat_bind {α β : Type} {r : Rs α} {f : α → DS → Rs β} {Q : β → DS → Prop} {E : Ex → DS → Prop} (h : r.sat (fun a st => (f a st).sat Q E) E) : (r.bind f).sat Q E := by
  cases r with
  | ok a st => exact h
  | ex e st => exact h
  | no => exact h
theorem sat_bindS {α : Type} {r : Rs α} {f : α → DS → RS} {Z : SE} (h : r.sat (fun a st => (f a st).sat Z) Z.ex) : (r.bindS f).sat Z := by
  cases r with
  | ok a st => exact h
  | ex e st => exact h
  | no => exact h
theorem sat_imp {α : Type} {r : Rs α} {Q Q' : α → DS → Prop} {E E' : Ex → DS → Prop} (h : r.sat Q E) (q : ∀ a st, Q a st → Q' a st) (qe : ∀ e st, E e st → E' e st) : r.sat Q' E' := by
  cases r with
  | ok a st => exact q a st h
  | ex e st => exact qe e st h
  | no => exact h
section
variable {st : DS} {Q : Val → DS → Prop} {QB : Bool → DS → Prop} {QA : List Val → DS → Prop} {QI : List D → DS → Prop} {QO : Option Int → DS → Prop} {E : Ex → DS → Prop} {i : Nat} {x : D} {ga gb g : GE} {gs : GA} {Z : SE} {f : F2} {fl : FL}
theorem v_sh (h : st[i]? = some (.sh x)) (q : Q (.d x) st) : (gVar i st).sat Q E := by unfold gVar; rw [h]; exact q
theorem v_ow (h : st[i]? = some (.ow x)) (q : Q (.sl i) st) : (gVar i st).sat Q E := by unfold gVar; rw [h]; exact q
theorem v_io (h : st[i]? = some (.io x)) (q : Q (.sl i) st) : (gVar i st).sat Q E := by unfold gVar; rw [h]; exact q
theorem v_c (q : Q (.d x) st) : (gC x st).sat Q E := q
def O2 (f : F2) (st : DS) (a b : Val) (Q : Val → DS → Prop) : Prop := ∃ x y c, look st a = some x ∧ look st b = some y ∧ f x y = some c ∧ Q c st
theorem v_op2 (h : (ga st).sat (fun a st1 => (gb st1).sat (fun b st2 => O2 f st2 a b Q) E) E) : (gOp2 f ga gb st).sat Q E := by
  refine sat_bind (sat_imp h (fun a st1 h1 => sat_bind (sat_imp h1 (fun b st2 h2 => ?_) fun _ _ z => z)) fun _ _ z => z)
  obtain ⟨x, y, c, h3, h4, h5, h6⟩ := h2
  rw [h3, h4]
  dsimp only
  rw [h5]
  exact h6
def O1 (f : D → Option Val) (st : DS) (a : Val) (Q : Val → DS → Prop) : Prop := ∃ x c, look st a = some x ∧ f x = some c ∧ Q c st
theorem v_op1 {f : D → Option Val} (h : (ga st).sat (fun a st1 => O1 f st1 a Q) E) : (gOp1 f ga st).sat Q E := by
  refine sat_bind (sat_imp h (fun a st1 h1 => ?_) fun _ _ z => z)
  obtain ⟨x, c, h3, h5, h6⟩ := h1
  rw [h3]
  dsimp only
  rw [h5]
  exact h6
def OT (st : DS) (a : Val) (Q : Bool → DS → Prop) : Prop := ∃ b, look st a = some (.bl b) ∧ Q b st
theorem v_tst (h : (g st).sat (fun a st1 => OT st1 a QB) E) : (gTst g st).sat QB E := by
  refine sat_bind (sat_imp h (fun a st1 h1 => ?_) fun _ _ z => z)
  obtain ⟨b, h3, h6⟩ := h1
  rw [h3]
  exact h6
def OU (st : DS) (a : Val) (Q : Bool → DS → Prop) : Prop := ∃ x b, look st a = some x ∧ tru x = some b ∧ Q b st
theorem v_tru (h : (g st).sat (fun a st1 => OU st1 a QB) E) : (gTru g st).sat QB E := by
  refine sat_bind (sat_imp h (fun a st1 h1 => ?_) fun _ _ z => z)
  obtain ⟨x, b, h3, h4, h6⟩ := h1
  rw [h3, Option.bind_some, h4]
  exact h6
theorem v_not {g : GT} (h : (g st).sat (fun b st1 => QB (!b) st1) E) : (gNot g st).sat QB E := sat_bind h
theorem v_and {g k : GT} (h : (g st).sat (fun b st1 => (b = true → (k st1).sat QB E) ∧ (b = false → QB false st1)) E) : (gAnd g k st).sat QB E := by
  refine sat_bind (sat_imp h (fun b st1 h1 => ?_) fun _ _ z => z)
  cases b with
  | true => exact h1.1 rfl
  | false => exact h1.2 rfl
theorem v_or {g k : GT} (h : (g st).sat (fun b st1 => (b = true → QB true st1) ∧ (b = false → (k st1).sat QB E)) E) : (gOr g k st).sat QB E := by
  refine sat_bind (sat_imp h (fun b st1 h1 => ?_) fun _ _ z => z)
  cases b with
  | true => exact h1.1 rfl
  | false => exact h1.2 rfl
theorem v_andV {k : GE} (h : (gTst g st).sat (fun b st1 => (b = true → (k st1).sat Q E) ∧ (b = false → Q (.d (.bl false)) st1)) E) : (gAndV g k st).sat Q E := by
  refine sat_bind (sat_imp h (fun b st1 h1 => ?_) fun _ _ z => z)
  cases b with
  | true => exact h1.1 rfl
  | false => exact h1.2 rfl
theorem v_orV {k : GE} (h : (gTst g st).sat (fun b st1 => (b = true → Q (.d (.bl true)) st1) ∧ (b = false → (k st1).sat Q E)) E) : (gOrV g k st).sat Q E := by
  refine sat_bind (sat_imp h (fun b st1 h1 => ?_) fun _ _ z => z)
  cases b with
  | true => exact h1.1 rfl
  | false => exact h1.2 rfl
theorem v_b {g : GT} (h : (g st).sat (fun b st1 => Q (.d (.bl b)) st1) E) : (gB g st).sat Q E := sat_bind h
theorem v_if {c : GT} {k : GE} (h : (c st).sat (fun b st1 => (b = true → (g st1).sat Q E) ∧ (b = false → (k st1).sat Q E)) E) : (gIf c g k st).sat Q E := by
  refine sat_bind (sat_imp h (fun b st1 h1 => ?_) fun _ _ z => z)
  cases b with
  | true => exact h1.1 rfl
  | false => exact h1.2 rfl
theorem v_nil (h : QA [] st) : (DL.gNil st).sat QA E := h
theorem v_cons (h : (g st).sat (fun a st1 => (gs st1).sat (fun as st2 => QA (a :: as) st2) E) E) : (DL.gCons g gs st).sat QA E :=
  sat_bind (sat_imp h (fun a st1 h1 => sat_bind h1) fun _ _ z => z)
def OK (st : DS) (as : List Val) (Q : List D → DS → Prop) : Prop := ∃ xs st2, takes st as = some (xs, st2) ∧ fits xs.length = true ∧ Q xs st2
theorem v_lst (h : (gs st).sat (fun as st1 => OK st1 as fun xs st2 => Q (.fr (.lst xs)) st2) E) : (gLst gs st).sat Q E := by
  refine sat_bind (sat_imp h (fun as st1 h1 => ?_) fun _ _ z => z)
  obtain ⟨xs, st2, h3, h4, h6⟩ := h1
  rw [h3]
  dsimp only
  rw [if_pos (fits_of h4)]
  exact h6
theorem v_tup (h : (gs st).sat (fun as st1 => OK st1 as fun xs st2 => Q (.d (.tup xs)) st2) E) : (DL.gTup gs st).sat Q E := by
  refine sat_bind (sat_imp h (fun as st1 h1 => ?_) fun _ _ z => z)
  obtain ⟨xs, st2, h3, h4, h6⟩ := h1
  rw [h3]
  dsimp only
  rw [if_pos (fits_of h4)]
  exact h6
def OL (f : FL) (st : DS) (as : List Val) (Q : Val → DS → Prop) : Prop := ∃ xs c, looks st as = some xs ∧ f xs = some c ∧ Q c st
theorem v_cb (h : (gs st).sat (fun as st1 => OL fl st1 as Q) E) : (gCB fl gs st).sat Q E := by
  refine sat_bind (sat_imp h (fun as st1 h1 => ?_) fun _ _ z => z)
  obtain ⟨xs, c, h3, h5, h6⟩ := h1
  rw [h3]
  dsimp only
  rw [h5]
  exact h6
theorem v_nop (h : QO none st) : (gNoPart st).sat QO E := h
def OP (st : DS) (a : Val) (Q : Option Int → DS → Prop) : Prop := ∃ i, look st a = some (.int i) ∧ Q (some i) st
theorem v_part (h : (g st).sat (fun a st1 => OP st1 a QO) E) : (gPart g st).sat QO E := by
  refine sat_bind (sat_imp h (fun a st1 h1 => ?_) fun _ _ z => z)
  obtain ⟨i, h3, h6⟩ := h1
  rw [h3]
  exact h6
def OS (st : DS) (a : Val) (lo hi : Option Int) (Q : Val → DS → Prop) : Prop := ∃ x c, look st a = some x ∧ slF x lo hi = some c ∧ Q c st
theorem v_sl {gl gh : GO} (h : (g st).sat (fun a st1 => (gl st1).sat (fun lo st2 => (gh st2).sat (fun hi st3 => OS st3 a lo hi Q) E) E) E) : (gSl g gl gh st).sat Q E := by
  refine sat_bind (sat_imp h (fun a st1 h1 => sat_bind (sat_imp h1 (fun lo st2 h2 => sat_bind (sat_imp h2 (fun hi st3 h4 => ?_) fun _ _ z => z)) fun _ _ z => z)) fun _ _ z => z)
  obtain ⟨x, c, h3, h5, h6⟩ := h4
  rw [h3]
  dsimp only
  rw [h5]
  exact h6
/-! ### calls -/
def OC (F : FnD) (ms : List Bool) (st : DS) (as : List Val) (Q : Val → DS → Prop) (E : Ex → DS → Prop) : Prop := ∃ ys st2 ds, prep ms st as = some (ys, st2) ∧ (ixs ys).Nodup ∧ datas st2 ys = some ds ∧
  (F ds).sat (fun a ios => ∃ st3, back (ixs ys) ios st2 = some st3 ∧ Q a st3) (fun e ios => ∃ st3, back (ixs ys) ios st2 = some st3 ∧ E e st3)
theorem v_call {F : FnD} {ms : List Bool} {dd : List D} (h : (gs st).sat (fun as st1 => OC F ms st1 (as ++ dd.map .d) Q E) E) : (gCall F ms dd gs st).sat Q E := by
  refine sat_bind (sat_imp h (fun as st1 h1 => ?_) fun _ _ z => z)
  obtain ⟨ys, st2, ds, h3, h4, h5, h6⟩ := h1
  rw [h3]
  dsimp only
  rw [if_pos h4, h5]
  dsimp only
  cases e : F ds with
  | ok a ios =>
    rw [e] at h6
    obtain ⟨st3, h7, h8⟩ := h6
    dsimp only
    rw [h7]
    exact h8
  | ex x ios =>
    rw [e] at h6
    obtain ⟨st3, h7, h8⟩ := h6
    dsimp only
    rw [h7]
    exact h8
  | no => rw [e] at h6; exact h6
/-! ### statements -/
def OA (i : Nat) (st : DS) (a : Val) (N : DS → Prop) : Prop := ∃ st2, i < st.length ∧ putV i st a = some st2 ∧ N st2
theorem v_asg (h : (g st).sat (fun a st1 => OA i st1 a Z.nx) Z.ex) : (sAsg i g st).sat Z := by
  refine sat_bindS (sat_imp h (fun a st1 h1 => ?_) fun _ _ z => z)
  obtain ⟨st2, h2, h3, h4⟩ := h1
  rw [if_pos h2, h3]
  exact h4
theorem v_expr (h : (g st).sat (fun _ st1 => Z.nx st1) Z.ex) : (sExpr g st).sat Z := sat_bindS h
def OR (st : DS) (a : Val) (N : Val → DS → Prop) : Prop := ∃ b st2, outV st a = some (b, st2) ∧ N b st2
theorem v_ret (h : (g st).sat (fun a st1 => OR st1 a Z.rt) Z.ex) : (sRet g st).sat Z := by
  refine sat_bindS (sat_imp h (fun a st1 h1 => ?_) fun _ _ z => z)
  obtain ⟨b, st2, h3, h4⟩ := h1
  rw [h3]
  exact h4
theorem v_retN (h : Z.rt (.d .non) st) : (sRetN st).sat Z := h
theorem v_next (h : Z.nx st) : (sNext st).sat Z := h
theorem v_break (h : Z.bk st) : (sBreak st).sat Z := h
theorem v_cont (h : Z.ct st) : (sCont st).sat Z := h
theorem v_seq {s t : GS} (h : (s st).sat { Z with nx := fun st1 => (t st1).sat Z }) : (sSeq s t st).sat Z := by
  unfold sSeq
  cases e : s st with
  | nx st1 => rw [e] at h; exact h
  | rt a st1 => rw [e] at h; exact h
  | bk st1 => rw [e] at h; exact h
  | ct st1 => rw [e] at h; exact h
  | ex x st1 => rw [e] at h; exact h
  | no => rw [e] at h; exact h
theorem v_sif {c : GT} {s t : GS} (h : (c st).sat (fun b st1 => (b = true → (s st1).sat Z) ∧ (b = false → (t st1).sat Z)) Z.ex) : (sIf c s t st).sat Z := by
  refine sat_bindS (sat_imp h (fun b st1 h1 => ?_) fun _ _ z => z)
  cases b with
  | true => exact h1.1 rfl
  | false => exact h1.2 rfl
def OI (st : DS) (a ix : Val) (i : Nat) (N : DS → Prop) : Prop := ∃ v st4 c y c', take1 st a = some (v, st4) ∧ cont st4 i = some c ∧ look st4 ix = some y ∧ setF c y v = some c' ∧ N (setC st4 i c')
theorem v_setIx {ge go gi : GE} (h : (ge st).sat (fun a st1 => (go st1).sat (fun ov st2 => (gi st2).sat (fun ix st3 => ∃ i, ov = .sl i ∧ OI st3 a ix i Z.nx) Z.ex) Z.ex) Z.ex) : (sSetIx ge go gi st).sat Z := by
  refine sat_bindS (sat_imp h (fun a st1 h1 => sat_bindS (sat_imp h1 (fun ov st2 h2 => sat_bindS (sat_imp h2 (fun ix st3 h3 => ?_) fun _ _ z => z)) fun _ _ z => z)) fun _ _ z => z)
  obtain ⟨i, rfl, v, st4, c, y, c', q1, q2, q3, q4, q5⟩ := h3
  rw [q1]
  dsimp only
  rw [q2, q3]
  dsimp only
  rw [q4]
  exact q5
/-! ### loops -/
theorem v_while {n : Nat} {c : GT} {b : GS} (I : Nat → DS → Prop) (m0 : Nat) (h0 : I m0 st) (hn : m0 < n)
    (hs : ∀ m st, I m st → (c st).sat (fun t st1 => (t = false → Z.nx st1) ∧ (t = true → (b st1).sat { Z with nx := fun st2 => ∃ m', m' < m ∧ I m' st2, ct := fun st2 => ∃ m', m' < m ∧ I m' st2, bk := Z.nx })) Z.ex) : (sWhile n c b st).sat Z := by
  have key : ∀ (n m : Nat) (st : DS), I m st → m < n → (runWhile c b n st).sat Z := by
    intro n
    induction n with
    | zero => intro m st _ h; omega
    | succ n ih =>
      intro m st hI hm
      have h := hs m st hI
      unfold runWhile
      cases ec : c st with
      | no => rw [ec] at h; exact h
      | ex e st1 => rw [ec] at h; exact h
      | ok t st1 =>
        rw [ec] at h
        cases t with
        | false => exact h.1 rfl
        | true =>
          have h2 := h.2 rfl
          dsimp only
          cases eb : b st1 with
          | nx st2 =>
            rw [eb] at h2
            obtain ⟨m', h3, h4⟩ := h2
            exact ih m' st2 h4 (by omega)
          | ct st2 =>
            rw [eb] at h2
            obtain ⟨m', h3, h4⟩ := h2
            exact ih m' st2 h4 (by omega)
          | bk st2 => rw [eb] at h2; exact h2
          | rt a st2 => rw [eb] at h2; exact h2
          | ex e st2 => rw [eb] at h2; exact h2
          | no => rw [eb] at h2; exact h2
  exact key n m0 st h0 hn
theorem v_sfor {gi : GI} {ag : AG} {b : GS} (h : (gi st).sat (fun ds st1 => (runFor ag b ds st1).sat Z) Z.ex) : (sFor gi ag b st).sat Z := sat_bindS h
/-- over a list, by what holds ahead of each turn -/
theorem v_run {ag : AG} {b : GS} (ds : List D) (I : Nat → DS → Prop) (h0 : I 0 st) (hd : ∀ st, I ds.length st → Z.nx st)
    (hs : ∀ i d st, ds[i]? = some d → I i st → ∃ st1, ag d st = some st1 ∧ (b st1).sat { Z with nx := I (i + 1), ct := I (i + 1), bk := Z.nx }) : (runFor ag b ds st).sat Z := by
  have key : ∀ (l : List D) (k : Nat) (st : DS), ds.drop k = l → k ≤ ds.length → I k st → (runFor ag b l st).sat Z := by
    intro l
    induction l with
    | nil =>
      intro k st e hk h
      have : k = ds.length := by
        have := congrArg List.length e
        rw [List.length_drop, List.length_nil] at this
        omega
      subst this
      exact hd st h
    | cons d l ih =>
      intro k st e hk h
      have hk' : k < ds.length := by
        have := congrArg List.length e
        rw [List.length_drop, List.length_cons] at this
        omega
      rw [List.drop_eq_getElem_cons hk'] at e
      obtain ⟨e1, e2⟩ := List.cons.inj e
      obtain ⟨st1, h1, h2⟩ := hs k d st (by rw [List.getElem?_eq_getElem hk', e1]) h
      unfold runFor
      rw [h1]
      dsimp only
      cases eb : b st1 with
      | nx st2 => rw [eb] at h2; exact ih (k + 1) st2 e2 hk' h2
      | ct st2 => rw [eb] at h2; exact ih (k + 1) st2 e2 hk' h2
      | bk st2 => rw [eb] at h2; exact h2
      | rt a st2 => rw [eb] at h2; exact h2
      | ex e st2 => rw [eb] at h2; exact h2
      | no => rw [eb] at h2; exact h2
  exact key ds 0 st rfl (Nat.zero_le _) h0
def OG (f : List D → Option (List D)) (st : DS) (as : List Val) (Q : List D → DS → Prop) : Prop := ∃ xs ys, looks st as = some xs ∧ f xs = some ys ∧ Q ys st
theorem v_rng {f : List D → Option (List D)} (h : (gs st).sat (fun as st1 => OG f st1 as QI) E) : (gRng f gs st).sat QI E := by
  refine sat_bind (sat_imp h (fun as st1 h1 => ?_) fun _ _ z => z)
  obtain ⟨xs, ys, h3, h5, h6⟩ := h1
  rw [h3, Option.bind_some, h5]
  exact h6
def OIt (st : DS) (a : Val) (Q : List D → DS → Prop) : Prop := ∃ x xs st2, take1 st a = some (x, st2) ∧ itemsG x = some xs ∧ Q xs st2
theorem v_iter (h : (g st).sat (fun a st1 => OIt st1 a QI) E) : (gIter g st).sat QI E := by
  refine sat_bind (sat_imp h (fun a st1 h1 => ?_) fun _ _ z => z)
  obtain ⟨x, xs, st2, h3, h5, h6⟩ := h1
  rw [h3]
  dsimp only
  rw [h5]
  exact h6
end
section
variable {st st1 st2 st3 : DS} {a b ix c : Val} {x y z : D} {xs ys : List D} {as : List Val} {f : F2} {f1 : D → Option Val} {fl : FL} {fg : List D → Option (List D)} {Q : Val → DS → Prop} {QB : Bool → DS → Prop} {QI : List D → DS → Prop} {N : DS → Prop} {t : Bool} {i : Nat} {lo hi : Option Int} {n : Int}
theorem o_2 (h1 : look st a = some x) (h2 : look st b = some y) (h3 : f x y = some c) (h4 : Q c st) : O2 f st a b Q := ⟨x, y, c, h1, h2, h3, h4⟩
theorem o_1 (h1 : look st a = some x) (h3 : f1 x = some c) (h4 : Q c st) : O1 f1 st a Q := ⟨x, c, h1, h3, h4⟩
theorem o_t (h1 : look st a = some (.bl t)) (h4 : QB t st) : OT st a QB := ⟨t, h1, h4⟩
theorem o_u (h1 : look st a = some x) (h3 : tru x = some t) (h4 : QB t st) : OU st a QB := ⟨x, t, h1, h3, h4⟩
theorem o_k (h1 : takes st as = some (xs, st2)) (h3 : fits xs.length = true) (h4 : QI xs st2) : OK st as QI := ⟨xs, st2, h1, h3, h4⟩
theorem o_l (h1 : looks st as = some xs) (h3 : fl xs = some c) (h4 : Q c st) : OL fl st as Q := ⟨xs, c, h1, h3, h4⟩
theorem o_p {QO : Option Int → DS → Prop} (h1 : look st a = some (.int n)) (h4 : QO (some n) st) : OP st a QO := ⟨n, h1, h4⟩
theorem o_s (h1 : look st a = some x) (h3 : slF x lo hi = some c) (h4 : Q c st) : OS st a lo hi Q := ⟨x, c, h1, h3, h4⟩
theorem o_a (h1 : i < st.length) (h3 : putV i st a = some st2) (h4 : N st2) : OA i st a N := ⟨st2, h1, h3, h4⟩
theorem o_r (h3 : outV st a = some (b, st2)) (h4 : Q b st2) : OR st a Q := ⟨b, st2, h3, h4⟩
theorem o_g (h1 : looks st as = some xs) (h3 : fg xs = some ys) (h4 : QI ys st) : OG fg st as QI := ⟨xs, ys, h1, h3, h4⟩
theorem o_it (h1 : take1 st a = some (x, st2)) (h3 : itemsG x = some xs) (h4 : QI xs st2) : OIt st a QI := ⟨x, xs, st2, h1, h3, h4⟩
theorem o_i {c c' : D} (h1 : take1 st a = some (z, st1)) (h2 : cont st1 i = some c) (h3 : look st1 ix = some y) (h4 : setF c y z = some c') (h5 : setC st1 i c' = st2) (h6 : N st2) : ∃ j, Val.sl i = .sl j ∧ OI st a ix j N := ⟨i, rfl, z, st1, c, y, c', h1, h2, h3, h4, by rw [h5]; exact h6⟩
theorem o_c {F : FnD} {ms : List Bool} {E : Ex → DS → Prop} {yy : List (Sum D Nat)} (h1 : prep ms st as = some (yy, st2)) (h2 : (ixs yy).Nodup) (h3 : datas st2 yy = some xs)
    (h4 : (F xs).sat (fun a ios => ∃ st3, back (ixs yy) ios st2 = some st3 ∧ Q a st3) (fun e ios => ∃ st3, back (ixs yy) ios st2 = some st3 ∧ E e st3)) : OC F ms st as Q E := ⟨yy, st2, xs, h1, h2, h3, h4⟩
end
/-! ### a def's end -/
theorem call_sat {ms : List Bool} {n : Nat} {s : GS} {ds : List D} {Q : Val → List D → Prop} {E : Ex → List D → Prop} (hl : ds.length = ms.length) (hn : ms.length ≤ n)
    (h : (s (init ms n ds)).sat ⟨fun st => ∃ ios, fins ms st = some ios ∧ Q (.d .non) ios, fun a st => ∃ ios, fins ms st = some ios ∧ isVal a = true ∧ Q a ios, fun _ => False, fun _ => False, fun e st => ∃ ios, fins ms st = some ios ∧ E e ios⟩) :
    (callD ms n s ds).sat Q E := by
  unfold callD
  rw [if_pos ⟨hl, hn⟩]
  cases e : s (init ms n ds) with
  | nx st =>
    rw [e] at h
    obtain ⟨ios, h1, h2⟩ := h
    dsimp only
    rw [h1]
    exact h2
  | rt a st =>
    rw [e] at h
    obtain ⟨ios, h1, h2, h3⟩ := h
    dsimp only
    rw [h1]
    dsimp only
    rw [if_pos h2]
    exact h3
  | ex x st =>
    rw [e] at h
    obtain ⟨ios, h1, h2⟩ := h
    dsimp only
    rw [h1]
    exact h2
  | bk st => rw [e] at h; exact h.elim
  | ct st => rw [e] at h; exact h.elim
  | no => rw [e] at h; exact h.elim
theorem call_go {ms : List Bool} {n : Nat} {s : GS} {ds : List D} {st0 : DS} {Q : Val → List D → Prop} {E : Ex → List D → Prop} (hl : ds.length = ms.length) (hn : ms.length ≤ n) (hi : init ms n ds = st0)
    (h : (s st0).sat ⟨fun st => ∃ ios, fins ms st = some ios ∧ Q (.d .non) ios, fun a st => ∃ ios, fins ms st = some ios ∧ isVal a = true ∧ Q a ios, fun _ => False, fun _ => False, fun e st => ∃ ios, fins ms st = some ios ∧ E e ios⟩) :
    (callD ms n s ds).sat Q E := call_sat hl hn (by rw [hi]; exact h)
theorem fr_imp {r : FR} {Q Q' : Val → List D → Prop} {E E' : Ex → List D → Prop} (h : r.sat Q E) (q : ∀ a ios, Q a ios → Q' a ios) (qe : ∀ e ios, E e ios → E' e ios) : r.sat Q' E' := by
  cases r with
  | ok a ios => exact q a ios h
  | ex e ios => exact qe e ios h
  | no => exact h
theorem sat_eq {r : FR} {Q : Val → List D → Prop} (h : r.sat Q (fun _ _ => False)) : ∃ a ios, r = .ok a ios ∧ Q a ios := by
  cases r with
  | ok a ios => exact ⟨a, ios, rfl, h⟩
  | ex e ios => exact h.elim
  | no => exact h.elim
theorem lt_ble {a b : Nat} (h : Nat.ble (a + 1) b = true) : a < b := Nat.le_of_ble_eq_true h
/-! ### two ways -/
theorem br_t {c : Bool} {A B : Prop} (h : c = true) (a : A) : (c = true → A) ∧ (c = false → B) := ⟨fun _ => a, fun z => by rw [h] at z; cases z⟩
theorem br_f {c : Bool} {A B : Prop} (h : c = false) (b : B) : (c = true → A) ∧ (c = false → B) := ⟨fun z => (by rw [h] at z; cases z), fun _ => b⟩
theorem br_f' {c : Bool} {A B : Prop} (h : c = false) (b : B) : (c = false → B) ∧ (c = true → A) := ⟨fun _ => b, fun z => by rw [h] at z; cases z⟩
theorem br_t' {c : Bool} {A B : Prop} (h : c = true) (a : A) : (c = false → B) ∧ (c = true → A) := ⟨fun z => (by rw [h] at z; cases z), fun _ => a⟩
/-! ### lists of ints -/
theorem pys_ints : ∀ ns : List Int, pys (ns.map .int) = some (ns.map .int)
  | [] => rfl
  | n :: ns => by simp only [List.map_cons, pys, py, pys_ints ns]
theorem lay_ints : ∀ ns : List Int, PyData.canLayAll0 (ns.map .int) = true
  | [] => rfl
  | n :: ns => by
    rw [List.map_cons, PyData.canLayAll0, lay_ints ns]
    rfl
theorem depth_ints : ∀ ns : List Int, PyData.depthAll (ns.map .int) ≤ 1
  | [] => by decide
  | n :: ns => by
    have := depth_ints ns
    rw [List.map_cons, PyData.depthAll]
    simp only [PyData.depth]
    omega
theorem shaped_ints (ns : List Int) : SeqAt.shaped (.list (ns.map .int)) = true := by
  unfold SeqAt.shaped
  have h1 : PyData.canLay0 (.list (ns.map .int)) = true := by rw [PyData.canLay0]; exact lay_ints ns
  have h2 : PyData.depth (.list (ns.map .int)) ≤ 64 := by
    have := depth_ints ns
    rw [PyData.depth]
    omega
  rw [h1, decide_eq_true h2]
  rfl
theorem eq_nil (ns : List Int) : eqD (.lst (ns.map .int)) (.lst []) = some ns.isEmpty := by
  have h : pys ([] : List D) = some [] := rfl
  simp only [eqD, py, pys_ints, h, Option.map_some, shaped_ints]
  rw [show SeqAt.shaped (.list []) = true from by decide]
  cases ns with
  | nil => rfl
  | cons n ns => rfl
theorem ne_nil (ns : List Int) : neF (.lst (ns.map .int)) (.lst []) = vb (!ns.isEmpty) := by
  unfold neF
  rw [eq_nil]
theorem cut_tail {α : Type} (x : α) (xs : List α) : cut (x :: xs) (some 1) none = xs := by
  unfold cut
  rw [show HT.sIx (x :: xs).length 0 (some 1) = min 1 (x :: xs).length from HT.sIx_nat _ 0 1, HT.sIx_none]
  rw [show min 1 (x :: xs).length = 1 by rw [List.length_cons]; omega]
  show List.take ((x :: xs).length - 1) xs = xs
  rw [List.length_cons, Nat.add_sub_cancel, List.take_length]
theorem sl_tail (x : D) (xs : List D) : slF (.lst (x :: xs)) (some 1) none = some (.fr (.lst xs)) := by
  show some (Val.fr (.lst (cut (x :: xs) (some 1) none))) = _
  rw [cut_tail]
theorem back1 {j : Nat} {d : D} {st st3 : DS} (h : setC st j d = st3) : back [j] [d] st = some st3 := by rw [← h]; rfl
theorem item_0 (x : D) (xs : List D) : itemF (.lst (x :: xs)) (.int 0) = some (.d x) := by
  have h : atI (x :: xs) (0 : Int) = some x := atI_nat (j := 0) rfl
  show (atI (x :: xs) 0).map Val.d = _
  rw [h]
  rfl
theorem s4_0 {a b c d v : D} : setF (.lst [a, b, c, d]) (.int 0) v = some (.lst [v, b, c, d]) := rfl
theorem s4_1 {a b c d v : D} : setF (.lst [a, b, c, d]) (.int 1) v = some (.lst [a, v, c, d]) := rfl
theorem s4_2 {a b c d v : D} : setF (.lst [a, b, c, d]) (.int 2) v = some (.lst [a, b, v, d]) := rfl
theorem s4_3 {a b c d v : D} : setF (.lst [a, b, c, d]) (.int 3) v = some (.lst [a, b, c, v]) := rfl
theorem nd_b {l : List Nat} (h : decide l.Nodup = true) : l.Nodup := of_decide_eq_true h
/-! ### the operators, where their bounds hold -/
theorem mul_l {i j : Int} (h1 : -(2 ^ 64) < i) (h2 : i < 2 ^ 64) : mulF (.int i) (.int j) = vi (i * j) := by
  have : mulC i j = true := by unfold mulC; rw [decide_eq_true h1, decide_eq_true h2]; rfl
  simp only [mulF, orF, ints2, this, if_true, vi]
theorem mul_r {i j : Int} (h1 : -(2 ^ 64) < j) (h2 : j < 2 ^ 64) : mulF (.int i) (.int j) = vi (i * j) := by
  have : mulC i j = true := by unfold mulC; rw [decide_eq_true h1, decide_eq_true h2, Bool.and_self, Bool.or_true]
  simp only [mulF, orF, ints2, this, if_true, vi]
theorem mod_p {i j : Int} (h : 0 < j) : modF (.int i) (.int j) = vi (i % j) := by
  simp only [modF, ints2, h, decide_true, if_true]
theorem fdiv_p {i j : Int} {b : Nat} (h : 0 < j) (hb : j.natAbs < 2 ^ b) (h0 : 0 < b) (h9 : b ≤ 9000) : fdivF (.int i) (.int j) = vi (i / j) := by
  have h1 : fdivC i j = true := by unfold fdivC; rw [decide_eq_true h, decide_eq_true (wide_div (i := i) h hb h0 h9).2]; rfl
  simp only [fdivF, ints2, h1, if_true]
theorem pow_p {i j : Int} (h1 : 0 ≤ j) (h2 : j ≤ 1000000) (h3 : i.natAbs < 2 ^ 64) : powF (.int i) (.int j) = vi (i ^ j.toNat) := by
  have h : powC i j = true := by unfold powC; rw [decide_eq_true h1, decide_eq_true h2, decide_eq_true h3]; rfl
  simp only [powF, ints2, h, if_true]
end DL
end
section
/-! DLz: the end of a law. -/
namespace DL
open PySem PySem.Spec PyProof.Rows L2
theorem funAt_mk {K : PySem.W.Frag} {h : Heap} {mg : Str → Option Value} {x : Str} {st : Stmt} {ps : List Str} {f : Addr} {oc kV dc pm cd ct : Value} {od an : Option Addr} {sl : Array (Option Value)} (X : K.In h) (G : h.Ns mainGlobals mg)
    (a : PySem.W.nsIn K mainGlobals x = some (some (.ref f))) (l : K.lookup f = some ⟨oc, od, .func (PySem.W.fnOf x x (defArgs st) (defBody st) (defScope st) .none kV dc pm an cd ct), sl⟩) (c : PySem.W.codeIn K cd x = true) (k : PySem.W.keepIn K (.ref f) = true)
    (hb : ∀ (kV doc pm : Value) (an : Option Addr) (cdv ct : Value) (us : List Value), us.length = ps.length → bindArgs (PySem.W.fnOf x x (defArgs st) (defBody st) (defScope st) .none kV doc pm an cdv ct) ⟨us, []⟩ = pure (ps.zip us)) : FunAt K mg x st ps :=
  ⟨f, _, PySem.W.mg_of X G a, fun_mk l c k, fun us hl => hb _ _ _ _ _ _ us hl⟩
/-- what a law's start shares: the script; of the tables, the names in nm -/
def S0H (nm : Addr → Option Str) (H : Hp) : Hp := fun b => match H b with
  | some (.tbl _) => (nm b).map tabU
  | x => x
theorem S0H_seq {nm : Addr → Option Str} {K : PySem.W.Frag} {H : Hp} {a : Addr} {xs : List V} (h : SqL K H a xs) : SqL K (S0H nm H) a xs := by
  rcases h with (h | ⟨o, h⟩) | h
  · exact .inl (.inl (by unfold S0H; rw [h]))
  · exact .inl (.inr ⟨o, by unfold S0H; rw [h]⟩)
  · exact .inr h
theorem tabOf_nt {u : HO} (h : ∀ ps, u ≠ .tbl ps) : tabOf u = none := by
  cases u <;> first | rfl | exact (h _ rfl).elim
theorem cx_no {P : Program} {w : World} {H : Hp} {s : Shared} {e : Value} {s' : Shared} (h : L2.CX P w [] H s (fun _ _ _ => False) e s') : False := by
  obtain ⟨_, _, _, _, _, _, _, _, _, _, _, _, z⟩ := h
  exact z
end DL
end
section
/-! DM3: calls with names; dict displays. -/
namespace DL
open PySem PySem.Spec PyProof.Rows L2
section
variable {X : Cx} {W : WX} {N : List Str} {sc : Scope} {full : Bool} {k : Nat} {e : Expr} {es : List Expr} {kws : List Keyword} {g : GE} {gs gk : GA} {pos p kpos : Pos} {nm : Option Str}
/-- the arguments in the parameters' order -/
def pick {α : Type} (ix : List Nat) (l : List α) : List α := ix.filterMap fun i => l[i]?
def gCallC (F : FnD) (ms : List Bool) (as : List Val) : GE := fun st1 => match prep ms st1 as with
  | none => .no
  | some (ys, st2) => if (ixs ys).Nodup then (match datas st2 ys with
    | none => .no
    | some ds => (match F ds with
      | .no => .no
      | .ok a ios => (match back (ixs ys) ios st2 with
        | some st3 => .ok a st3
        | none => .no)
      | .ex e ios => (match back (ixs ys) ios st2 with
        | some st3 => .ex e st3
        | none => .no))) else .no
def gCallK (F : FnD) (ms : List Bool) (n : Nat) (ix : List Nat) (ga gk : GA) : GE := fun st => (ga st).bind fun as st1 => (gk st1).bind fun bs st2 =>
  if (as.length == n && (bs.length == ix.length - n)) = true then gCallC F ms (pick ix (as ++ bs)) st2 else .no
theorem core_of {G : Gx} {P : Pin} {R S1 H1 : Hp} {σ : L2.St} {st1 : DS} {W : WX} {F : FnD} {ms : List Bool} {vs : List V} {as : List Val} {Q : VK} (h1 : StR G P R S1 H1 σ st1) (ps : Pvs G S1 σ vs as)
    (k : Fin G P R W σ S1 (gCallC F ms as st1) fun a st' S' H' => ∀ v, RepV G R S' H' σ st' v a → Q v H') : spOf G ms F vs H1 Q (WE W σ) := by
  unfold gCallC at k
  cases ep : prep ms st1 as with
  | none => rw [ep] at k; exact k.elim
  | some p =>
    obtain ⟨ys, st2⟩ := p
    rw [ep] at k
    dsimp only at k
    by_cases nd : (ixs ys).Nodup
    · rw [if_pos nd] at k
      cases ed : datas st2 ys with
      | none => rw [ed] at k; exact k.elim
      | some ds =>
        rw [ed] at k
        dsimp only at k
        obtain ⟨S2, e2, h2, pr⟩ := prep_ok h1 ps ep
        refine ⟨frame R H1 σ st2 (ixs ys), S2, ds, h2.sub, h2.tab, frame_of h2, arg_ok h2 pr ed (fun j hj => hj), nodup_io h2 pr ed nd, ?_⟩
        cases ef : F ds with
        | no => rw [ef] at k; exact k.elim
        | ok a ios =>
          rw [ef] at k
          dsimp only at k
          intro v S' H' e3 l f o r
          cases eb : back (ixs ys) ios st2 with
          | none => rw [eb] at k; exact k.elim
          | some st3 =>
            rw [eb] at k
            obtain ⟨h3, r3⟩ := back_ok h2 pr ed nd e3 l f o eb
            exact k S' H' (e2.trans e3) h3 v (r3 v a r)
        | ex x ios =>
          rw [ef] at k
          dsimp only at k
          intro cls d S' H' e3 l f o r
          cases eb : back (ixs ys) ios st2 with
          | none => rw [eb] at k; exact k.elim
          | some st3 =>
            rw [eb] at k
            obtain ⟨h3, _⟩ := back_ok h2 pr ed nd e3 l f o eb
            exact k cls d S' H' (e2.trans e3) h3 r
    · rw [if_neg nd] at k
      exact k.elim
/-- a def of the module's top that does F -/
def DOf (P : Program) (w : World) (K : PySem.W.Frag) (mg : Str → Option Value) (base : Heap) (k : Nat) (x : Str) (st : Stmt) (ps : List Str) (ms : List Bool) (F : FnD) : Prop :=
  ∃ f fd, mg x = some (.ref f) ∧ Fun K x x st f fd ∧ Binds K fd ps [] ∧ FnG P w K mg base k f fd ps (spOf ⟨K, mg⟩ ms F)
theorem DOf.ok {P : Program} {w : World} {K : PySem.W.Frag} {mg : Str → Option Value} {base : Heap} {k : Nat} {x : Str} {st : Stmt} {ps : List Str} {ms : List Bool} {F : FnD} (h : DOf P w K mg base k x st ps ms F) : DOk P w K mg base k x ps ms F := by
  obtain ⟨f, fd, h1, h2, h3, h4⟩ := h
  exact ⟨f, fd, h1, h2.kp, h3, h4⟩
theorem fun_f {P : Program} {w : World} {K : PySem.W.Frag} {mg : Str → Option Value} {base : Heap} {x : Str} {st : Stmt} {N ps : List Str} {k : Nat} {ms : List Bool} {s : GS} (A : FunAt K mg x st ps) (Sc : FnScope N ps (defScope st)) (hm : ms.length = ps.length)
    (hbody : ∀ (X : Cx) (W : WX), X.prog = P → X.w = w → X.K = K → X.mg = mg → X.base = base → Cs X N (defScope st) → Ev X W k → Tp X → DSs X W (defBody st) s) : DOf P w K mg base (k + 1) x st ps ms (callD ms N.length s) := by
  obtain ⟨f, fd, h1, h2, h3⟩ := A
  exact ⟨f, fd, h1, h2, .all h3, fn_d h2 Sc hm fun X W e1 e2 e3 e4 e5 e6 e7 e8 e9 hr e10 e11 e12 tk pp gu => hbody X W e1 e2 e3 e4 e5 ⟨e6, e7, Sc.nd, fun _ x => by rw [e9]⟩ ⟨hr, e8, tk, pp, gu⟩ ⟨e10, e11⟩⟩
end
/-! ### {k: v, ..} -/
def gPs : List (GE × GE) → DS → Rs (List Val × List Val)
  | [], st => .ok ([], []) st
  | (gk, gv) :: r, st => (gk st).bind fun a st1 => (gv st1).bind fun b st2 => (gPs r st2).bind fun ps st3 => .ok (a :: ps.1, b :: ps.2) st3
def keyV : Val → Option Key
  | .d (.int i) => some (.inl i)
  | .d (.str x) => some (.inr x)
  | _ => none
def keysV : List Val → Option (List Key)
  | [] => some []
  | a :: as => match keyV a, keysV as with
    | some k, some ks => some (k :: ks)
    | _, _ => none
def gDct (l : List (GE × GE)) : GE := fun st => (gPs l st).bind fun ps st1 => match keysV ps.1, takes st1 ps.2 with
  | some ks, some (ds, st2) => if decide ks.Nodup && decide (ks.length ≤ 15) then .ok (.fr (.dct ((ks.map keyD).zip ds))) st2 else .no
  | _, _ => .no
section
variable {G : Gx} {P : Pin} {R : Hp} {W : WX} {σ : L2.St}
theorem pairs_of : ∀ (l : List (GE × GE)) {S H : Hp} {st : DS} {Q : List (V × V) → Hp → Prop}, StR G P R S H σ st → (Fin G P R W σ S (gPs l st) fun ps st' S' H' => ∀ vs, StR G P R S' H' σ st' → Pvs G S' σ (vs.map (·.1)) ps.1 → Pvs G S' σ (vs.map (·.2)) ps.2 → Q vs H') → tPairs (l.map fun p => (tD G W p.1, tD G W p.2)) σ H Q
  | [], S, H, st, Q, h, f => f S H (Same.refl S) h [] h .nil .nil
  | (gk, gv) :: r, S, H, st, Q, h, f => by
    refine ⟨P, R, S, st, h, Fin.imp (Fin.bind f) fun a st1 S1 H1 e1 h1 k v rv => ?_⟩
    obtain ⟨S2, e2, h2, pv⟩ := h1.settle rv
    refine ⟨P, R, S2, st1, h2, Fin.imp (Fin.bind (Fin.up k e2)) fun b st3 S3 H3 e3 h3 k3 u ru => ?_⟩
    obtain ⟨S4, e4, h4, pu⟩ := h3.settle ru
    refine pairs_of r h4 (Fin.imp (Fin.bind (Fin.up k3 e4)) fun ps st5 S5 H5 e5 h5 k5 vs h5' p1 p2 => ?_)
    exact k5 S5 H5 (Same.refl _) h5 ((v, u) :: vs) h5 (.cons (pv.mono ((e3.trans e4).trans e5)) p1) (.cons (pu.mono e5) p2)
end
theorem putK_new {κ : Type} [DecidableEq κ] {kvs : List (κ × V)} {k : κ} {v : V} (h : k ∉ kvs.map (·.1)) : putK kvs k v = kvs ++ [(k, v)] := by
  unfold putK
  rw [if_neg]
  intro z
  rw [List.any_eq_true] at z
  obtain ⟨q, h1, h2⟩ := z
  have := of_decide_eq_true h2
  subst this
  exact h (List.mem_map_of_mem h1)
theorem mergeK_new : ∀ (more kvs : List (Key × V)), ((kvs ++ more).map (·.1)).Nodup → mergeK kvs more = kvs ++ more
  | [], kvs, _ => by rw [List.append_nil]; rfl
  | p :: r, kvs, h => by
    show mergeK (putK kvs p.1 p.2) r = _
    have hp : p.1 ∉ kvs.map (·.1) := fun z => by
      rw [List.map_append, List.map_cons, List.nodup_append] at h
      exact h.2.2 _ z _ List.mem_cons_self rfl
    rw [putK_new hp, mergeK_new r _ (by rw [List.append_assoc]; exact h), List.append_assoc]
    rfl
theorem keyV_of {G : Gx} {S : Hp} {σ : L2.St} {v : V} {a : Val} {k : Key} (h : Pv G S σ v a) (e : keyV a = some k) : v = kV k := by
  unfold keyV at e
  split at e
  · cases e; cases h; rfl
  · cases e; cases h; rfl
  · cases e
theorem keysV_of {G : Gx} {S : Hp} {σ : L2.St} : ∀ {vs : List V} {as : List Val} {ks : List Key}, Pvs G S σ vs as → keysV as = some ks → vs = ks.map kV
  | _, _, _, .nil, e => by cases e; rfl
  | _, _, _, .cons (a := a) (as := as) h t, e => by
    unfold keysV at e
    cases e1 : keyV a with
    | none => rw [e1] at e; cases e
    | some k =>
      cases e2 : keysV as with
      | none => rw [e1, e2] at e; cases e
      | some ks =>
        rw [e1, e2] at e
        cases e
        rw [keyV_of h e1, keysV_of t e2]
        rfl
theorem repKV_zip {G : Gx} {S : Hp} : ∀ {ks : List Key} {vs : List V} {ds : List D}, RepAll G S vs ds → RepKV G S (ks.zip vs) ((ks.map keyD).zip ds)
  | [], _, _, _ => by rw [List.zip_nil_left, List.map_nil, List.zip_nil_left]; exact .nil
  | _ :: _, _, _, .nil => by rw [List.zip_nil_right, List.zip_nil_right]; exact .nil
  | k :: ks, _, _, .cons h t => by rw [List.zip_cons_cons, List.map_cons, List.zip_cons_cons]; exact .cons h (repKV_zip t)
section
variable {X : Cx} {W : WX} {pos : Pos}
structure DPs (X : Cx) (W : WX) (pos : Pos) (keys : List (Option Expr)) (values : List Expr) (l : List (GE × GE)) : Prop where
  pps : PPs X pos keys values (l.map fun p => (tD (gx X) W p.1, tD (gx X) W p.2))
theorem dps_nil : DPs X W pos [] [] [] := ⟨pps_nil⟩
theorem dps_cons {k v : Expr} {ks : List (Option Expr)} {vs : List Expr} {gk gv : GE} {l : List (GE × GE)} (hk : DE X W k gk) (hv : DE X W v gv) (hr : DPs X W pos ks vs l) : DPs X W pos (some k :: ks) (v :: vs) ((gk, gv) :: l) := ⟨pps_cons hk hv hr.pps⟩
theorem pair_split : ∀ (vs : List (V × V)) (ks : List Key), vs.map (·.1) = ks.map kV → vs = (ks.zip (vs.map (·.2))).map (fun kv => (kV kv.1, kv.2))
  | [], [], _ => rfl
  | [], _ :: _, h => by cases h
  | _ :: _, [], h => by cases h
  | (a, b) :: vs, k :: ks, h => by
    rw [List.map_cons, List.map_cons, List.cons.injEq] at h
    rw [List.map_cons, List.zip_cons_cons, List.map_cons, ← pair_split vs ks h.2, ← h.1]
theorem ddct {keys : List (Option Expr)} {values : List Expr} {l : List (GE × GE)} (h : DPs X W pos keys values l) (hall : keys.all (·.isSome) = true := by rfl) (hl : keys.length = values.length := by rfl) (h0 : keys ≠ [] := by exact List.cons_ne_nil _ _) (h15 : keys.length ≤ 15 := by decide) :
    DE X W (.Dict keys values pos) (gDct l) :=
  pe_imp (pe_disp h.pps hall hl h0 h15) fun σ H Q ⟨P, R, S, st, hs, fi⟩ p hp => by
    have hs1 := hs.hold (o := .dK []) hp
    have rp := (hs.new hp).2.1
    refine pairs_of (R := upd R p (.dK [])) l hs1 ?_
    unfold gDct at fi
    cases eg : gPs l st with
    | no => rw [eg] at fi; exact fi.elim
    | ex e st' => rw [eg] at fi; exact fun cls d S' H' e h x => fi cls d S' H' e (h.unhold rp) x
    | ok ps st1 =>
      rw [eg] at fi
      intro S1 H1 e1 h1 vs h1' p1 p2
      simp only [Rs.bind] at fi
      cases ek : keysV ps.1 with
      | none => rw [ek] at fi; exact fi.elim
      | some ks =>
        cases et : takes st1 ps.2 with
        | none => rw [ek, et] at fi; exact fi.elim
        | some r =>
          obtain ⟨ds, st2⟩ := r
          rw [ek, et] at fi
          dsimp only at fi
          split at fi
          · rename_i hc
            rw [Bool.and_eq_true, decide_eq_true_eq, decide_eq_true_eq] at hc
            obtain ⟨S2, e2, h2, ra⟩ := takes_ok h1 p2 et
            have hk := keysV_of p1 ek
            have hlen : ks.length = (vs.map (·.2)).length := by
              have := congrArg List.length hk
              rw [List.length_map, List.length_map] at this
              rw [List.length_map]; exact this.symm
            have hm : mergeK [] (ks.zip (vs.map (·.2))) = ks.zip (vs.map (·.2)) := by
              refine mergeK_new _ [] ?_
              rw [List.nil_append, List.map_fst_zip (by omega)]
              exact hc.1
            refine ⟨(h1.frm p _ upd_same).1, ks.zip (vs.map (·.2)), pair_split vs ks hk, by rw [List.length_zip]; omega, ?_⟩
            rw [hm]
            have h3 := (h2.rehold (o' := .dK (ks.zip (vs.map (·.2)))))
            exact fi S2 _ (e1.trans e2) (h3.unhold rp) _ ⟨p, _, rfl, upd_same, Top.dK (repKV_zip ra), (h3.frm p _ upd_same).2.none ⟨(fun _ _ z => by cases z), (fun _ z => by cases z)⟩, rp, h3.loose⟩
          · exact fi.elim
end
theorem conAt_mk {K : PySem.W.Frag} {h : Heap} {mg : Str → Option Value} {x : Str} {v : V} {u : Value} (X : K.In h) (G : h.Ns mainGlobals mg) (e : PySem.W.nsIn K mainGlobals x = some (some u)) (r : RelV v u) : ConAt mg x v := ⟨u, PySem.W.mg_of X G e, r⟩
end DL
end
section
/-! DM4: list comprehensions with two fors. -/
namespace DL
open PySem PySem.Spec PyProof.Rows L2
def runLc2 (vs vs1 : List Nat) (ag : AG) (tt : GT) (gi1 : GI) (ag1 : AG) (tt1 : GT) (ge : GE) : List D → DS → List D → Option (List D × DS)
  | [], st, acc => some (acc, st)
  | d :: ds, st, acc => match ag d st with
    | none => none
    | some st1 => match tt st1 with
      | .ok true st2 => (match gi1 st2 with
        | .ok ds1 st3 => (match runLc vs1 ag1 tt1 ge ds1 (wipeD st3 vs1) acc with
          | some (acc2, st4) => runLc2 vs vs1 ag tt gi1 ag1 tt1 ge ds (wipeD st4 vs) acc2
          | none => none)
        | _ => none)
      | .ok false st2 => runLc2 vs vs1 ag tt gi1 ag1 tt1 ge ds (wipeD st2 vs) acc
      | _ => none
def gLc2 (vs vs1 : List Nat) (gi : GI) (ag : AG) (tt : GT) (gi1 : GI) (ag1 : AG) (tt1 : GT) (ge : GE) : GE := fun st => (gi st).bind fun ds st1 => if (vs.all fun i => plainS st1[i]?) = true then (match runLc2 vs vs1 ag tt gi1 ag1 tt1 ge ds (wipeD st1 vs) [] with
  | some (xs, st2) => if st1.length = st2.length then .ok (.fr (.lst xs)) (restD st1 st2 vs) else .no
  | none => .no) else .no
end DL
end
section
/-! DM5: a new thing handed in to be changed. -/
namespace DL
open PySem PySem.Spec PyProof.Rows L2
def gCallT (F : FnD) (ga : GE) (rest : List D) : GE := fun st => (ga st).bind fun a st1 => match a with
  | .fr x => (match F (x :: rest) with
    | .ok r _ => .ok r st1
    | .ex e _ => .ex e st1
    | .no => .no)
  | _ => .no
theorem v_callT {F : FnD} {ga : GE} {rest : List D} {st : DS} {Q : Val → DS → Prop} {E : Ex → DS → Prop} (h : (ga st).sat (fun a st1 => ∃ x, a = .fr x ∧ (F (x :: rest)).sat (fun r _ => Q r st1) (fun e _ => E e st1)) E) : (gCallT F ga rest st).sat Q E := by
  unfold gCallT
  refine sat_bind (sat_imp h (fun a st1 q => ?_) fun _ _ q => q)
  obtain ⟨x, rfl, q⟩ := q
  dsimp only
  cases er : F (x :: rest) with
  | no => rw [er] at q; exact q.elim
  | ok r ios => rw [er] at q; exact q
  | ex e ios => rw [er] at q; exact q
end DL
end
section
/-! DM6: pop(i), tuple(..), str(..), int(text). -/
namespace DL
open PySem PySem.Spec PyProof.Rows L2
def gPop (i : Nat) (ga : GA) : GE := fun st => match cont st i with
  | some (.lst _) => (ga st).bind fun as st1 => (match looks st1 as, cont st1 i with
    | some [.int j], some (.lst xs) => if small62 j = true then (match seqIndex? j xs.length with
      | some k => (match xs[k]? with
        | some y => .ok (.d y) (setC st1 i (.lst (xs.eraseIdx k)))
        | none => .no)
      | none => .no) else .no
    | _, _ => .no)
  | _ => .no
section
variable {X : Cx} {W : WX} {N : List Str} {sc : Scope} {full : Bool} {k : Nat} {e : Expr} {es : List Expr} {gs : GA} {pos p : Pos}
/-! ### str, int of a text, tuple -/
def strF : List D → Option Val
  | [.int i] => if decide (i.natAbs.log2 < 1920) = true then vs (toString i) else none
  | [.str x] => vs x
  | _ => none
theorem callS_str {G : Gx} : CallS G (fun xs H Q => (∃ i, xs = [V.int i] ∧ i.natAbs.log2 < 1920 ∧ Q (.str (toString i)) H) ∨ ∃ a, xs = [V.str a] ∧ Q (.str a) H) strF := fun P R S H σ st vs xs c Q hs hv e k => by
  unfold strF at e
  split at e
  · rename_i i
    split at e
    · rename_i hi
      cases e
      obtain ⟨v, rfl, rv⟩ := repTs_one hv
      exact .inl ⟨i, by rw [rv.int], of_decide_eq_true hi, k _ S H (Same.refl S) hs (.str _)⟩
    · cases e
  · rename_i x
    cases e
    obtain ⟨v, rfl, rv⟩ := repTs_one hv
    exact .inr ⟨x, by rw [rv.str], k _ S H (Same.refl S) hs (.str _)⟩
  · cases e
theorem dstr (c : Cs X N sc full) (hm : X.mg "str" = none) (ha : DA X W (e :: es) gs) (hg : GlS sc "str" := by rfl) (he : starEach (e :: es) X.env = (false, eval e X.env) :: starEach es X.env := by rfl) (hpl : (backTo pos (starEach es X.env)).any (·.1) = false := by rfl) :
    DE X W (.Call (.Name "str" p) (e :: es) [] pos) (gCB strF gs) := dct c (callR_or call_str_int SkE.call_str_str) callS_str hm ha bt_str hg (by decide) (by decide) he hpl
def intSF : List D → Option Val
  | [.str a] => match PySem.intText? a with
    | some n => if decide (a.length ≤ 640) = true then vi n else none
    | none => none
  | _ => none
def int2F : List D → Option Val := orL intF intSF
theorem callS_intS {G : Gx} : CallS G (fun xs H Q => ∃ a n, xs = [V.str a] ∧ PySem.intText? a = some n ∧ a.length ≤ 640 ∧ Q (.int n) H) intSF := fun P R S H σ st vs xs c Q hs hv e k => by
  unfold intSF at e
  split at e
  · rename_i a
    split at e
    · rename_i n hn
      split at e
      · rename_i hl
        cases e
        obtain ⟨v, rfl, rv⟩ := repTs_one hv
        exact ⟨a, n, by rw [rv.str], hn, of_decide_eq_true hl, k _ S H (Same.refl S) hs (.int _)⟩
      · cases e
    · cases e
  · cases e
theorem dint2 (c : Cs X N sc full) (hm : X.mg "int" = none) (ha : DA X W (e :: es) gs) (hg : GlS sc "int" := by rfl) (he : starEach (e :: es) X.env = (false, eval e X.env) :: starEach es X.env := by rfl) (hpl : (backTo pos (starEach es X.env)).any (·.1) = false := by rfl) :
    DE X W (.Call (.Name "int" p) (e :: es) [] pos) (gCB int2F gs) := dct c (callR_or call_int1 call_int_str) (CallS.or callS_int callS_intS) hm ha bt_int hg (by decide) (by decide) he hpl
end
/-! ### runs -/
section
variable {st : DS} {Q : Val → DS → Prop} {E : Ex → DS → Prop} {gs : GA} {i : Nat}
def OPo (i : Nat) (st : DS) (as : List Val) (Q : Val → DS → Prop) : Prop := ∃ (j : Int) (xs : List D) (kk : Nat) (y : D), looks st as = some [.int j] ∧ cont st i = some (.lst xs) ∧ small62 j = true ∧ seqIndex? j xs.length = some kk ∧ xs[kk]? = some y ∧ Q (.d y) (setC st i (.lst (xs.eraseIdx kk)))
theorem v_pop {l : List D} (h0 : cont st i = some (.lst l)) (h : (gs st).sat (fun as st1 => OPo i st1 as Q) E) : (gPop i gs st).sat Q E := by
  unfold gPop
  rw [h0]
  dsimp only
  refine sat_bind (sat_imp h (fun a st1 q => ?_) fun _ _ q => q)
  obtain ⟨j, xs, kk, y, h1, h2, h3, h4, h5, h6⟩ := q
  rw [h1, h2]
  dsimp only
  rw [if_pos h3, h4]
  dsimp only
  rw [h5]
  exact h6
end
end DL
end
section
/-! DM7: instances of an own class: made, their attributes read and stored. -/
namespace DL
open PySem PySem.Spec PyProof.Rows L2
/-! ### attributes -/
theorem RepT.ins {G : Gx} {S H : Hp} {v : V} {c : Str} {gs : List (Str × D)} (l : Le S H) (h : RepT G S H v (.ins c gs)) : ∃ a C dx fs, v = .ref a ∧ G.mg c = some (.ref C) ∧ H a = some (.ins C dx fs) ∧ RepF G S fs gs := by
  rcases h with h | ⟨a, o, q1, q2, t⟩
  · cases h with
    | @ins a C dx _ fs _ m e r =>
      refine ⟨a, C, dx, fs, rfl, m, ?_, r⟩
      rcases l.two e rfl with q | ⟨z, _⟩
      · exact q
      · cases z
  · cases t with
    | @ins C dx fs _ _ m r => exact ⟨a, C, dx, fs, q1, m, q2, r⟩
/-- what holds of an own class c: it is a plain one, and f is no name of the class -/
def ClsOk (K : PySem.W.Frag) (mg : Str → Option Value) (c : Str) : Prop := ∀ C, mg c = some (.ref C) → Cls K C
def NoAt (K : PySem.W.Frag) (mg : Str → Option Value) (c f : Str) : Prop := ∀ C, mg c = some (.ref C) → NoAttr K C f
def gFld (c f : Str) (g : GE) : GE := fun st => (g st).bind fun a st1 => match look st1 a with
  | some (.ins c' fs) => if c' = c then (match fs.lookup f with
    | some d => .ok (.d d) st1
    | none => .no) else .no
  | _ => .no
def putFD (f : Str) (v : D) : List (Str × D) → List (Str × D)
  | [] => [(f, v)]
  | (g, x) :: r => if g = f then (g, v) :: r else (g, x) :: putFD f v r
theorem repF_put {G : Gx} {S : Hp} {f : Str} {v : V} {d : D} (h : Rep G S v d) : ∀ {fs : List (Str × V)} {gs : List (Str × D)}, RepF G S fs gs → RepF G S (putF f v fs) (putFD f d gs)
  | _, _, .nil => .cons h .nil
  | _, _, .cons (f := g) q t => by
    unfold putF putFD
    by_cases e : g = f
    · rw [if_pos e, if_pos e]; exact .cons h t
    · rw [if_neg e, if_neg e]; exact .cons q (repF_put h t)
theorem repF_len {G : Gx} {S : Hp} : ∀ {fs : List (Str × V)} {gs : List (Str × D)}, RepF G S fs gs → fs.length = gs.length
  | _, _, .nil => rfl
  | _, _, .cons _ t => by rw [List.length_cons, List.length_cons, repF_len t]
def sSetF (c f : Str) (ge go : GE) : GS := fun st => (ge st).bindS fun a st1 => (go st1).bindS fun ov st2 => match take1 st2 a, ov with
  | some (v, st3), .sl i => (match cont st3 i with
    | some (.ins c' fs) => if c' = c ∧ fs.length < 1000 then .nx (setC st3 i (.ins c' (putFD f v fs))) else .no
    | _ => .no)
  | _, _ => .no
section
variable {X : Cx} {W : WX} {N : List Str} {sc : Scope} {full : Bool} {k : Nat} {e o : Expr} {es : List Expr} {g go : GE} {gs : GA} {pos p pos' : Pos} {c f : Str}
theorem dfld (T : ClsOk X.K X.mg c) (n : NoAt X.K X.mg c f) (he : DE X W e g) (hb : attributeBase e f X.env (eval e X.env) = eval e X.env := by rfl) : DE X W (.Attribute e f pos) (gFld c f g) :=
  pe_imp (pe_fld he hb) fun σ H Q ⟨P, R, S, st, h, fi⟩ => ⟨P, R, S, st, h, Fin.imp (Fin.bind fi) fun a st1 S1 H1 e1 h1 k v rv => by
    obtain ⟨S2, e2, h2, pv⟩ := h1.settle rv
    cases ea : look st1 a with
    | none => rw [ea] at k; exact k.elim
    | some x =>
      rw [ea] at k
      cases x with
      | ins c' fs =>
        dsimp only at k
        split at k
        · rename_i hc
          subst hc
          cases el : fs.lookup f with
          | none => rw [el] at k; exact k.elim
          | some d =>
            rw [el] at k
            obtain ⟨a, C, dx, gs, rfl, m, ha, rf⟩ := (pv.look h2 ea).ins h2.sub
            obtain ⟨u, hu, ru⟩ := repF_get rf el
            exact ⟨a, C, dx, gs, u, rfl, ha, T C m, n C m, hu, k S2 H1 e2 h2 u ru⟩
        · exact k.elim
      | _ => exact k.elim⟩
theorem dsetF (T : ClsOk X.K X.mg c) (n : NoAt X.K X.mg c f) (he : DE X W e g) (ho : DE X W o go) (hs : swapsWith e (some (.Attribute o f pos')) pos.line X.env = pure false := by rfl) : DSt X W (.Assign [.Attribute o f pos'] e pos) (sSetF c f g go) :=
  ps_imp (ps_fld ho he hs) fun E σ H ⟨P, R, S, st, h, fi⟩ => ⟨P, R, S, st, h, Fin.imp (Fin.bindS (σ := σ) fi) fun a st1 S1 H1 e1 h1 k v rv => by
    obtain ⟨S2, e2, h2, pv⟩ := h1.settle rv
    refine ⟨P, R, S2, st1, h2, Fin.imp (Fin.bindS (σ := σ) (FinS.up k e2)) fun ov st3 S3 H3 e3 h3 k3 u ru => ?_⟩
    split at k3
    · rename_i v' st4 i et
      obtain ⟨S4, e4, h4, r4⟩ := take1_ok h3 (pv.mono e3) et
      cases ec : cont st4 i with
      | none => rw [ec] at k3; exact k3.elim
      | some x =>
        rw [ec] at k3
        cases x with
        | ins c' fs =>
          dsimp only at k3
          split at k3
          · rename_i hc
            obtain ⟨rfl, hl⟩ := hc
            have ow := cont_owns ec
            obtain ⟨b, ob, z1, z2, z3, z4, z5⟩ := h4.own i _ ow
            have hu : σ[i]? = some (some u) := ru
            rw [z1] at hu
            cases hu
            cases z3 with
            | @ins C dx gs _ _ m rf =>
              exact ⟨b, C, dx, gs, rfl, z2, T C m, n C m, by rw [repF_len rf]; exact hl, k3 σ S4 _ e4 (h4.mut ow z1 (Top.ins m (repF_put r4 rf)))⟩
          · exact k3.elim
        | _ => exact k3.elim
    · exact k3.elim⟩
end
end DL
end
section
/-! DM8: C(e, ..) of an own class with an __init__. -/
namespace DL
open PySem PySem.Spec PyProof.Rows L2
section
variable {X : Cx} {k : Nat} {C f : Addr} {fd : FuncData} {ps : List Str} {sp : Sp} {E : XK}
theorem run_makeG {pins : List (Addr × Obj)} {σ : L2.St} {H : Hp} {s : Shared} {Q : VK} {us : List Value} {vs : List V} (M : Mk X.K C f) (F : FnG X.prog X.w X.K X.mg X.base k f fd ps sp) (hr : Room (k + 1) X.A) (hgu : X.A.guards = some []) (hb : Binds X.K fd ps [])
    (hx : PassesAt (L2.CX X.prog X.w) X σ E) (I : Inv X pins σ H s) (r : Vals vs us)
    (h : ∀ x dx, H x = none → H dx = none → dx ≠ x → sp (.ref x :: vs) (upd (upd H dx (.own x)) x (.ins C dx [])) (fun v H2 => v = .non ∧ Q (.ref x) H2) E) :
    wpAny (model X.prog X.w) X.A (call (.ref C) us) (EP X pins σ Q) X.xe s := by
  have hq := h (s.heap.objs.size + 1) s.heap.objs.size (I.hok.fresh (Nat.le_succ _)) (I.hok.fresh (Nat.le_refl _)) (Nat.ne_of_lt (Nat.lt_succ_self _))
  have I2 := Inv.made (C := C) I
  have r2 : Vals (V.ref (s.heap.objs.size + 1) :: vs) (Value.ref (s.heap.objs.size + 1) :: us) := .cons rfl r
  have hl : (Value.ref (s.heap.objs.size + 1) :: us).length = ps.length := by
    have e := r2.length
    rw [F.len hq] at e
    exact e.symm
  have hb' := hb _ (Value.ref (s.heap.objs.size + 1) :: us) I2.kIn (by rw [List.append_nil]; exact hl)
  rw [List.append_nil] at hb'
  refine wpAny_call (make_map (f := f) I.kIn M.makes M.init (beq_iff_eq.mp M.fn) (codeAny_mono (F.go (hr.make C us []) hgu
    (I2.env0.make C us []) hb' r2 hq) fun r s' hq' => ?_))
  cases r with
  | error e => exact hx pins _ _ e s' I2 hq'
  | ok fl =>
    cases fl with
    | ret u =>
      obtain ⟨v, H', I3, rv, ev, q3⟩ := I2.after hq'
      subst ev
      exact ⟨rv, ⟨V.ref (s.heap.objs.size + 1), H', I3, rfl, q3⟩⟩
    | next => exact False.elim hq'
    | brk => exact False.elim hq'
    | cont => exact False.elim hq'
end
/-- an own class c whose __init__ does F -/
def MkOk (P : Program) (w : World) (K : PySem.W.Frag) (mg : Str → Option Value) (base : Heap) (k : Nat) (c : Str) (n : Nat) (F : FnD) : Prop :=
  ∃ C f fd ps, mg c = some (.ref C) ∧ Mk K C f ∧ Binds K fd ps [] ∧ FnG P w K mg base k f fd ps (spOf ⟨K, mg⟩ (true :: List.replicate n false) F)
def gMake (c : Str) (n : Nat) (F : FnD) (ga : GA) : GE := fun st => (ga st).bind fun as st1 => match takes st1 as with
  | some (ds, st2) => if ds.length = n then (match F (.ins c [] :: ds) with
    | .ok (.d .non) [x] => .ok (.fr x) st2
    | .ex e _ => .ex e st2
    | _ => .no) else .no
  | none => .no
theorem argR_sh {G : Gx} {R S H : Hp} : ∀ {vs : List V} {ds : List D}, RepAll G S vs ds → ArgR G R S H (List.replicate ds.length false) vs ds
  | _, _, .nil => .nil
  | _, _, .cons h t => by rw [List.length_cons, List.replicate_succ]; exact .sh h (argR_sh t)
theorem ioA_sh : ∀ (n : Nat) (vs : List V), ioA (List.replicate n false) vs = []
  | 0, [] => rfl
  | 0, _ :: _ => rfl
  | n + 1, [] => rfl
  | n + 1, v :: vs => by rw [List.replicate_succ]; show ioA (List.replicate n false) vs = []; exact ioA_sh n vs
section
variable {X : Cx} {W : WX} {N : List Str} {sc : Scope} {full : Bool} {k : Nat} {e : Expr} {es : List Expr} {gs : GA} {pos p : Pos} {c : Str}
theorem make_of {G : Gx} {W : WX} {n : Nat} {F : FnD} {ga : GA} {C : Addr} {c : Str} (hC : G.mg c = some (.ref C)) : ∀ σ H Q, tD G W (gMake c n F ga) σ H Q → tDA G W ga σ H fun vs H1 => ∀ x dx, H1 x = none → H1 dx = none → dx ≠ x →
    spOf G (true :: List.replicate n false) F (.ref x :: vs) (upd (upd H1 dx (.own x)) x (.ins C dx [])) (fun v H2 => v = .non ∧ Q (.ref x) H2) (WE W σ) := by
  rintro σ H Q ⟨P, R, S, st, h, fi⟩
  refine ⟨P, R, S, st, h, Fin.imp (Fin.bind fi) fun as st1 S1 H1 e1 h1 k vs pv x dx nx nd ne => ?_⟩
  cases et : takes st1 as with
  | none => rw [et] at k; exact k.elim
  | some r =>
    obtain ⟨ds, st2⟩ := r
    rw [et] at k
    dsimp only at k
    split at k
    · rename_i hn
      obtain ⟨S2, e2, h2, ra⟩ := takes_ok h1 pv et
      have g1 := h2.grow (o := .own x) nd
      have nx' : upd H1 dx (.own x) x = none := by rw [upd_ne (fun z => ne z.symm)]; exact nx
      have g2 := g1.grow (o := .ins C dx []) nx'
      obtain ⟨sx, rx, lx⟩ := g1.new nx'
      have fx : frame R (upd (upd H1 dx (.own x)) x (.ins C dx [])) σ st2 [] x = none := by
        unfold frame
        rw [if_neg]
        · exact rx
        · rintro ⟨i, d, q1, q2, _⟩
          exact lx i d q1 q2
      refine ⟨frame R (upd (upd H1 dx (.own x)) x (.ins C dx [])) σ st2 [], S2, .ins c [] :: ds, g2.sub, g2.tab, frame_of g2, .io upd_same (Top.ins hC .nil) sx fx (by rw [← hn]; exact argR_sh ra), ?_, ?_⟩
      · show (x :: ioA (List.replicate n false) vs).Nodup
        rw [ioA_sh]
        simp
      · cases er : F (.ins c [] :: ds) with
        | no => rw [er] at k; exact k.elim
        | ex z ios =>
          rw [er] at k
          dsimp only at k
          intro cls d S' H' e3 l f o r
          obtain ⟨h3, _⟩ := back_ok (ms := []) (vs := []) (ys := []) (ds := []) (ios := []) g2 .nil rfl List.nodup_nil e3 l f .nil rfl
          exact k cls d S' H' (e2.trans e3) h3 r
        | ok a ios =>
          rw [er] at k
          intro v S' H' e3 l f o r
          split at k
          · rename_i y hq
            cases hq
            obtain ⟨h3, _⟩ := back_ok (ms := []) (vs := []) (ys := []) (ds := []) (ios := []) g2 .nil rfl List.nodup_nil e3 l f .nil rfl
            cases o with
            | io ha ht sa o =>
              have r' : Rep G S' v .non := r
              cases r'
              refine ⟨rfl, k S' H' (e2.trans e3) h3 (.ref x) ⟨x, _, rfl, ha, ht, sa, rx, lx⟩⟩
          · rename_i hq; cases hq
          · exact k.elim
    · exact k.elim
theorem dmake {j n : Nat} {F : FnD} (cs : Cs X N sc full) (v : Ev X W k) (T : MkOk X.prog X.w X.K X.mg X.base j c n F) (ha : DA X W (e :: es) gs) (hj : j + 1 ≤ k := by decide) (hg : GlS sc c := by rfl) (hdb : (c == ("__debug__" : Str)) = false := by decide)
    (he : starEach (e :: es) X.env = (false, eval e X.env) :: starEach es X.env := by rfl) (hpl : (backTo pos (starEach es X.env)).any (·.1) = false := by rfl) : DE X W (.Call (.Name c p) (e :: es) [] pos) (gMake c n F gs) := by
  obtain ⟨C, f, fd, ps, hC, M, hb, Fn⟩ := T
  refine ⟨fun pins s σ H Q I h => ?_⟩
  have h := make_of (G := gx X) hC σ H Q h
  refine wpAny_Call_Name_kw (ld_glob I (gl_of cs hg) hC ?_ hdb)
  refine PySem.W.callWith_K (h₀ := X.base) I.ok.mod.kin M.kp (thn (ha.run pos pins s σ H _ I h) fun us s1 ⟨vs, H1, I1, r, q⟩ => ⟨I1.kIn, ?_⟩) he hpl
  exact run_makeG M Fn (v.mono hj).room v.gd hb (passAt v.tk σ) I1 r q
end
end DL
end
section
/-! DM9: methods, properties and class methods of an own class, called. -/
namespace DL
open PySem PySem.Spec PyProof.Rows L2
/-- an own class c with a method m that does F -/
def MtOk (P : Program) (w : World) (K : PySem.W.Frag) (mg : Str → Option Value) (base : Heap) (k : Nat) (c m : Str) (ms : List Bool) (F : FnD) : Prop :=
  ∃ C f fd ps, mg c = some (.ref C) ∧ Cls K C ∧ Meth K C m f ∧ Binds K fd ps [] ∧ FnG P w K mg base k f fd ps (spOf ⟨K, mg⟩ ms F)
def isIns (st : DS) (a : Val) (c m : Str) : Bool := match look st a with
  | some (.ins c' fs) => c' == c && (fs.lookup m).isNone
  | _ => false
def gMeth (c m : Str) (ms : List Bool) (F : FnD) (go : GE) (ga : GA) : GE := fun st => (go st).bind fun a st1 => if isIns st1 a c m = true then (ga st1).bind fun as st2 => gCallC F ms (a :: as) st2 else .no
def isInC (st : DS) (a : Val) (c : Str) : Bool := match look st a with
  | some (.ins c' fs) => c' == c
  | _ => false
def noEx (F : FnD) : FnD := fun ds => match F ds with
  | .ok a ios => .ok a ios
  | _ => .no
def gProp (c : Str) (F : FnD) (go : GE) : GE := fun st => (go st).bind fun a st1 => if isInC st1 a c = true then gCallC (noEx F) [false] [a] st1 else .no
def gCMeth (c : Str) (ms : List Bool) (F : FnD) (ga : GA) : GE := fun st => (ga st).bind fun as st1 => gCallC F ms (.d (.cls c) :: as) st1
theorem isIns_of {G : Gx} {P : Pin} {R S H : Hp} {σ : L2.St} {st : DS} {v : V} {a : Val} {c m : Str} {C : Addr} (hC : G.mg c = some (.ref C)) (h : StR G P R S H σ st) (pv : Pv G S σ v a) (e : isIns st a c m = true) : ∃ x dx fs, v = .ref x ∧ H x = some (.ins C dx fs) ∧ fs.lookup m = none := by
  unfold isIns at e
  cases ea : look st a with
  | none => rw [ea] at e; cases e
  | some x =>
    rw [ea] at e
    cases x with
    | ins c' fs =>
      dsimp only at e
      rw [Bool.and_eq_true, beq_iff_eq] at e
      obtain ⟨rfl, e2⟩ := e
      obtain ⟨x, C', dx, gs, rfl, m', ha, rf⟩ := (pv.look h ea).ins h.sub
      rw [hC] at m'
      cases m'
      refine ⟨x, dx, gs, rfl, ha, ?_⟩
      clear ha
      have q : fs.lookup m = none := by simpa using e2
      clear e2 ea
      induction gs generalizing fs with
      | nil => rfl
      | cons y ys ih =>
        cases rf with
        | cons r t =>
          rw [List.lookup_cons] at q ⊢
          split at q
          · cases q
          · exact ih _ t q
    | _ => cases e
section
variable {X : Cx} {W : WX} {N : List Str} {sc : Scope} {full : Bool} {k : Nat} {e o : Expr} {es : List Expr} {go : GE} {gs : GA} {pos apos p : Pos} {c m : Str}
theorem meth_of {G : Gx} {C : Addr} {ms : List Bool} {F : FnD} (hC : G.mg c = some (.ref C)) : ∀ σ H Q, tD G W (gMeth c m ms F go gs) σ H Q → tD G W go σ H fun x H1 => ∃ a dx fs, x = .ref a ∧ H1 a = some (.ins C dx fs) ∧ fs.lookup m = none ∧
    tDA G W gs σ H1 fun vs H2 => spOf G ms F (.ref a :: vs) H2 Q (WE W σ) := by
  rintro σ H Q ⟨P, R, S, st, h, fi⟩
  refine ⟨P, R, S, st, h, Fin.imp (Fin.bind fi) fun a st1 S1 H1 e1 h1 k v rv => ?_⟩
  obtain ⟨S2, e2, h2, pv⟩ := h1.settle rv
  split at k
  · rename_i hi
    obtain ⟨x, dx, fs, rfl, hx, hl⟩ := isIns_of hC h2 pv hi
    refine ⟨x, dx, fs, rfl, hx, hl, P, R, S2, st1, h2, Fin.imp (Fin.bind (Fin.up k e2)) fun as st3 S3 H3 e3 h3 k3 vs pvs => ?_⟩
    exact core_of h3 (.cons (pv.mono e3) pvs) k3
  · exact k.elim
theorem dmeth {j : Nat} {ms : List Bool} {F : FnD} {pl : Sem Bool} (v : Ev X W k) (T : MtOk X.prog X.w X.K X.mg X.base j c m ms F) (ho : DE X W o go) (ha : DA X W (e :: es) gs) (hj : j ≤ k := by decide)
    (hst : starEach (e :: es) X.env = (false, eval e X.env) :: starEach es X.env := by rfl) (hpl : (backTo pos (starEach es X.env)).any (·.1) = false := by rfl)
    (ht : eval (.Call (.Attribute o m apos) (e :: es) [] pos) X.env = (do
      let ov ← eval o X.env
      standAt apos.atName
      let (f, first) ← holding [ov] (getMethod ov m pl)
      callWith pos f first (backTo pos (starEach (e :: es) X.env)) (backToKw pos (keywordEach [] X.env))) := by rfl) :
    DE X W (.Call (.Attribute o m apos) (e :: es) [] pos) (gMeth c m ms F go gs) := by
  obtain ⟨C, f, fd, ps, hC, cl, hm, hb, Fn⟩ := T
  refine ⟨fun pins s σ H Q I h => ?_⟩
  have h := meth_of (G := gx X) hC σ H Q h
  refine PySem.W.methodCall_KW (pl := pl) (thn (ho.run pins s σ H _ I h) fun u s1 ⟨x, H1, I1, rx, a, dx, fs, ex, ea, l, q⟩ => ?_) ht
  subst ex
  obtain rfl : u = Value.ref a := rx
  refine getmeth_ok I1 ea cl hm l ?_
  refine PySem.W.callWith_K (first := [.ref a]) (h₀ := X.base) I.ok.mod.kin hm.kp (thn (ha.run pos pins s1 σ H1 _ I1 q) fun us s2 ⟨vs, H2, I2, r, q2⟩ => ⟨I2.kIn, ?_⟩) hst hpl
  have r2 : Vals (V.ref a :: vs) (Value.ref a :: us) := .cons rfl r
  have hb' := hb s2 (Value.ref a :: us) I2.kIn (by rw [List.append_nil, ← r2.length]; exact Fn.len q2)
  rw [List.append_nil] at hb'
  exact run_g (E := WE W) Fn (v.mono hj).room v.gd (passAt v.tk σ) I2 hb' r2 q2 rfl
theorem dmeth0 {j : Nat} {ms : List Bool} {F : FnD} {pl : Sem Bool} (v : Ev X W k) (T : MtOk X.prog X.w X.K X.mg X.base j c m ms F) (ho : DE X W o go) (hj : j ≤ k := by decide)
    (ht : eval (.Call (.Attribute o m apos) [] [] pos) X.env = (do
      let ov ← eval o X.env
      standAt apos.atName
      let (f, first) ← holding [ov] (getMethod ov m pl)
      callWith pos f first (backTo pos (starEach [] X.env)) (backToKw pos (keywordEach [] X.env))) := by rfl) :
    DE X W (.Call (.Attribute o m apos) [] [] pos) (gMeth c m ms F go gNil) := by
  obtain ⟨C, f, fd, ps, hC, cl, hm, hb, Fn⟩ := T
  refine ⟨fun pins s σ H Q I h => ?_⟩
  have h := meth_of (G := gx X) hC σ H Q h
  refine PySem.W.methodCall_KW (pl := pl) (thn (ho.run pins s σ H _ I h) fun u s1 ⟨x, H1, I1, rx, a, dx, fs, ex, ea, l, q⟩ => ?_) ht
  subst ex
  obtain rfl : u = Value.ref a := rx
  refine getmeth_ok I1 ea cl hm l ?_
  obtain ⟨P, R, S, st, h0, f0⟩ := q
  have q2 := f0 S H1 (Same.refl S) h0 [] .nil
  have r2 : Vals [V.ref a] [Value.ref a] := .cons rfl .nil
  have hb' := hb s1 [Value.ref a] I1.kIn (by rw [List.append_nil, ← r2.length]; exact Fn.len q2)
  rw [List.append_nil] at hb'
  exact PySem.W.callWith_K0 (first := [.ref a]) I1.kIn hm.kp (run_g (E := WE W) Fn (v.mono hj).room v.gd (passAt v.tk σ) I1 hb' r2 q2 rfl)
end
end DL
end
section
/-! DM10: special methods of an own class: len(q), str(q), e in q, q(e), q & r. -/
namespace DL
open PySem PySem.Spec PyProof.Rows L2
/-- an own class c with a special method m that does F -/
def SpM (P : Program) (w : World) (K : PySem.W.Frag) (mg : Str → Option Value) (base : Heap) (k : Nat) (c m : Str) (ms : List Bool) (F : FnD) : Prop :=
  ∃ C f fd ps, mg c = some (.ref C) ∧ PySem.W.findIn K (.ref C) m = some (some (.ref f)) ∧ PySem.W.isFn K (.ref f) = true ∧ PySem.W.fnIn K f = true ∧ PySem.W.selfFirst K C = true ∧ Binds K fd ps [] ∧ FnG P w K mg base k f fd ps (spOf ⟨K, mg⟩ ms F)
def chkR (chk : D → Option D) : Val → DS → Rs Val
  | .d x, st => (match chk x with
    | some y => .ok (.d y) st
    | none => .no)
  | _, _ => .no
/-- len(q), str(q) -/
def gSp1 (c : Str) (F : FnD) (chk : D → Option D) (ga : GA) : GE := fun st => (ga st).bind fun as st1 => match as with
  | [a] => if isInC st1 a c = true then (gCallC (noEx F) [false] [a] st1).bind (chkR chk) else .no
  | _ => .no
section
variable {X : Cx} {W : WX} {N : List Str} {sc : Scope} {full : Bool} {k j : Nat} {a b e o : Expr} {es : List Expr} {ga gb go : GE} {gs : GA} {pos p : Pos} {c : Str} {F : FnD}
/-- e in q, e not in q -/
def chkB (neg : Bool) : D → Option D
  | .bl b => some (.bl (b != neg))
  | _ => none
def gInI (c : Str) (F : FnD) (neg : Bool) (ga gb : GE) : GE := fun st => (ga st).bind fun a st1 => (gb st1).bind fun b st2 => if isInC st2 b c = true then (gCallC (noEx F) [false, false] [b, a] st2).bind (chkR (chkB neg)) else .no
/-- q(e, ..) -/
def gCallO (c : Str) (ms : List Bool) (F : FnD) (go : GE) (ga : GA) : GE := fun st => (go st).bind fun a st1 => if isInC st1 a c = true then ((ga st1).bind fun as st2 => if isInC st2 a c = true then gCallC F ms (a :: as) st2 else .no) else .no
/-- q & r, both of the class -/
def gBinI (c : Str) (F : FnD) (ga gb : GE) : GE := fun st => (ga st).bind fun a st1 => (gb st1).bind fun b st2 => if (isInC st2 a c && isInC st2 b c) = true then (gCallC F [false, false] [a, b] st2).bind (fun r st3 => .ok r st3) else .no
end
end DL
end
section
/-! DM11: q & r; for x in q, where __iter__ is iter(self.f). -/
namespace DL
open PySem PySem.Spec PyProof.Rows L2
/-! ### own iteration -/
def gIterI (c f : Str) (g : GE) : GI := fun st => (g st).bind fun a st1 => match look st1 a with
  | some (.ins c' fs) => if c' = c then (match fs.lookup f with
    | some (.lst xs) => .ok xs st1
    | _ => .no) else .no
  | _ => .no
end DL
end
section
/-! DM12: the defs of an own class, by their bodies. -/
namespace DL
open PySem PySem.Spec PyProof.Rows L2
def clsDef (j : Nat) : Stmt → Stmt
  | .ClassDef (body := b) .. => b.getD j (.Pass ⟨0, 0, 0, 0⟩)
  | s => s
/-- an own class c, its instances' fields fs -/
def ClAt (K : PySem.W.Frag) (mg : Str → Option Value) (c : Str) (fs : List Str) : Prop :=
  ∃ C, mg c = some (.ref C) ∧ Cls K C ∧ PySem.W.selfFirst K C = true ∧ PySem.W.makesIn K C = true ∧ PySem.W.keepIn K (.ref C) = true ∧ ∀ f ∈ fs, NoAttr K C f
abbrev BindAll (fd : FuncData) (ps : List Str) : Prop := ∀ us : List Value, us.length = ps.length → bindArgs fd ⟨us, []⟩ = pure (ps.zip us)
/-- its def m -/
def MeAt (K : PySem.W.Frag) (mg : Str → Option Value) (c m qual : Str) (st : Stmt) (ps : List Str) : Prop :=
  ∃ C f fd, mg c = some (.ref C) ∧ PySem.W.findIn K (.ref C) m = some (some (.ref f)) ∧ PySem.W.isFn K (.ref f) = true ∧ PySem.W.fnIn K f = true ∧ Fun K m qual st f fd ∧ BindAll fd ps
section
variable {P : Program} {w : World} {K : PySem.W.Frag} {mg : Str → Option Value} {base : Heap} {c m qual : Str} {st : Stmt} {N ps fs : List Str} {k : Nat} {ms : List Bool} {s : GS}
theorem ClAt.cls (h : ClAt K mg c fs) : ClsOk K mg c := fun C e => by
  obtain ⟨C', h1, h2, _⟩ := h
  rw [h1] at e
  cases e
  exact h2
theorem ClAt.no (h : ClAt K mg c fs) {f : Str} (hf : f ∈ fs) : NoAt K mg c f := fun C e => by
  obtain ⟨C', h1, _, _, _, _, h2⟩ := h
  rw [h1] at e
  cases e
  exact h2 f hf
abbrev BodyOk (P : Program) (w : World) (K : PySem.W.Frag) (mg : Str → Option Value) (base : Heap) (N : List Str) (st : Stmt) (k : Nat) (s : GS) : Prop :=
  ∀ (X : Cx) (W : WX), X.prog = P → X.w = w → X.K = K → X.mg = mg → X.base = base → Cs X N (defScope st) → Ev X W k → Tp X → DSs X W (defBody st) s
theorem fun_g {x qual : Str} {f : Addr} {fd : FuncData} (F : Fun K x qual st f fd) (Sc : FnScope N ps (defScope st)) (hm : ms.length = ps.length) (hbody : BodyOk P w K mg base N st k s) : FnG P w K mg base (k + 1) f fd ps (spOf ⟨K, mg⟩ ms (callD ms N.length s)) :=
  fn_d F Sc hm fun X W e1 e2 e3 e4 e5 e6 e7 e8 e9 hr e10 e11 e12 tk pp gu => hbody X W e1 e2 e3 e4 e5 ⟨e6, e7, Sc.nd, fun _ x => by rw [e9]⟩ ⟨hr, e8, tk, pp, gu⟩ ⟨e10, e11⟩
theorem me_f (T : ClAt K mg c fs) (A : MeAt K mg c m qual st ps) (Sc : FnScope N ps (defScope st)) (hm : ms.length = ps.length) (hbody : BodyOk P w K mg base N st k s) : SpM P w K mg base (k + 1) c m ms (callD ms N.length s) := by
  obtain ⟨C, f, fd, h1, h2, h3, h4, h5, h6⟩ := A
  obtain ⟨C', t1, t2, t3, t4, t5, t6⟩ := T
  rw [h1] at t1
  cases t1
  exact ⟨C, f, fd, ps, h1, h2, h3, h4, t3, .all h6, fun_g h5 Sc hm hbody⟩
theorem SpM.meth {F : FnD} (h : SpM P w K mg base k c m ms F) (T : ClAt K mg c fs) (A : MeAt K mg c m qual st ps) : MtOk P w K mg base k c m ms F := by
  obtain ⟨C, f, fd, ps, h1, h2, h3, h4, h5, h6, h7⟩ := h
  obtain ⟨C', t1, t2, t3, t4, t5, t6⟩ := T
  rw [h1] at t1
  cases t1
  obtain ⟨C', f', fd', a1, a2, a3, a4, a5, a6⟩ := A
  rw [h1] at a1
  cases a1
  rw [h2] at a2
  cases a2
  exact ⟨C, f, fd, ps, h1, t2, ⟨h2, h3, a5.kp⟩, h6, h7⟩
theorem SpM.make {F : FnD} {n : Nat} (h : SpM P w K mg base k c "__init__" (true :: List.replicate n false) F) (T : ClAt K mg c fs) : MkOk P w K mg base k c n F := by
  obtain ⟨C, f, fd, ps, h1, h2, h3, h4, h5, h6, h7⟩ := h
  obtain ⟨C', t1, t2, t3, t4, t5, t6⟩ := T
  rw [h1] at t1
  cases t1
  exact ⟨C, f, fd, ps, h1, ⟨t4, h2, h3, t5⟩, h6, h7⟩
end
end DL
end
section
/-! DM13: what the closing must show of an own class. -/
namespace DL
open PySem PySem.Spec PyProof.Rows L2
section
variable {K : PySem.W.Frag} {h : Heap} {mg : Str → Option Value} {c m qual : Str} {st : Stmt} {ps fs : List Str} {C p f : Addr} {mc oc kV dc pm cd ct : Value} {od an : Option Addr} {sl : Array (Option Value)} {rest : List Value}
theorem clAt_mk (X : K.In h) (G : h.Ns mainGlobals mg) (aC : PySem.W.nsIn K mainGlobals c = some (some (.ref C))) (pg : PySem.W.plainGet K C Str.empty = true) (hd : PySem.W.hasDictIn K C = true) (po : PySem.W.plainOver K C = true)
    (sa : PySem.W.findIn K (.ref C) "__setattr__" = some (some (.builtin "object.__setattr__"))) (sf : PySem.W.selfFirst K C = true) (mk : PySem.W.makesIn K C = true) (kp : PySem.W.keepIn K (.ref C) = true) (hfs : findAll K C fs = true) : ClAt K mg c fs :=
  ⟨C, PySem.W.mg_of X G aC, ⟨pg, hd, po, sa⟩, sf, mk, kp, fun f hf => show PySem.W.findIn K (.ref C) f = some none from of_decide_eq_true (List.all_eq_true.mp hfs f hf)⟩
theorem meAt_mk (X : K.In h) (G : h.Ns mainGlobals mg) (aC : PySem.W.nsIn K mainGlobals c = some (some (.ref C))) (at_ : PySem.W.findIn K (.ref C) m = some (some (.ref f))) (fn : PySem.W.isFn K (.ref f) = true) (fi : PySem.W.fnIn K f = true)
    (l : K.lookup f = some ⟨oc, od, .func (PySem.W.fnOf m qual (defArgs st) (defBody st) (defScope st) .none kV dc pm an cd ct), sl⟩) (ci : PySem.W.codeIn K cd qual = true) (kp : PySem.W.keepIn K (.ref f) = true)
    (hb : ∀ (kV doc pm : Value) (an : Option Addr) (cdv ct : Value) (us : List Value), us.length = ps.length → bindArgs (PySem.W.fnOf m qual (defArgs st) (defBody st) (defScope st) .none kV doc pm an cdv ct) ⟨us, []⟩ = pure (ps.zip us)) : MeAt K mg c m qual st ps :=
  ⟨C, f, _, PySem.W.mg_of X G aC, at_, fn, fi, fun_mk l ci kp, fun us hl => hb _ _ _ _ _ _ us hl⟩
end
end DL
end
section
/-! DM14: d[text]. -/
namespace DL
open PySem PySem.Spec PyProof.Rows L2
def isStrK (x : Str) : D → Bool
  | .str y => decide (y = x)
  | _ => false
end DL
end
section
/-! DM15: a module's tuple of ints, its index; text.count(text); i & j. -/
namespace DL
open PySem PySem.Spec PyProof.Rows L2
def ixOf (ns : List Int) (k : Int) : Option D := if ns.contains k = true then some (.int (ns.idxOf k : Nat)) else none
def gTIx (ns : List Int) (ge : GE) : GE := fun st => (ge st).bind fun b st1 => match look st1 b with
  | some (.int k) => (match ixOf ns k with
    | some d => .ok (.d d) st1
    | none => .no)
  | _ => .no
end DL
end
section
/-! DM16: {key: value for target in iter if test}, the keys texts that do not come twice. -/
namespace DL
open PySem PySem.Spec PyProof.Rows L2
def newK (x : Str) (acc : List (D × D)) : Bool := decide (acc.length < sizeLine) && acc.all fun p => !isStrK x p.1
def runDc (vs : List Nat) (ag : AG) (tt : GT) (gk gv : GE) : List D → DS → List (D × D) → Option (List (D × D) × DS)
  | [], st, acc => some (acc, st)
  | d :: ds, st, acc => match ag d st with
    | none => none
    | some st1 => match tt st1 with
      | .ok true st2 => (match gk st2 with
        | .ok a st3 => (match look st3 a with
          | some (.str x) => (match gv st3 with
            | .ok b st4 => (match take1 st4 b with
              | some (y, st5) => if newK x acc = true then runDc vs ag tt gk gv ds (wipeD st5 vs) (acc ++ [(.str x, y)]) else none
              | none => none)
            | _ => none)
          | _ => none)
        | _ => none)
      | .ok false st2 => runDc vs ag tt gk gv ds (wipeD st2 vs) acc
      | _ => none
def gDc (vs : List Nat) (gi : GI) (ag : AG) (tt : GT) (gk gv : GE) : GE := fun st => (gi st).bind fun ds st1 => if (vs.all fun i => plainS st1[i]?) = true then (match runDc vs ag tt gk gv ds (wipeD st1 vs) [] with
  | some (xs, st2) => if st1.length = st2.length then .ok (.fr (.dct xs)) (restD st1 st2 vs) else .no
  | none => .no) else .no
end DL
end
section
/-! DM17: ~q; q == x. -/
namespace DL
open PySem PySem.Spec PyProof.Rows L2
section
variable {X : Cx} {W : WX} {N : List Str} {sc : Scope} {full : Bool} {k j : Nat} {a b e o : Expr} {es : List Expr} {ga gb go : GE} {gs : GA} {pos p : Pos} {c : Str} {F : FnD}
/-- ~q -/
def gUnI (c : Str) (F : FnD) (go : GE) : GE := fun st => (go st).bind fun a st1 => if isInC st1 a c = true then gCallC F [false] [a] st1 else .no
def okEq (st : DS) (b : Val) (c : Str) : Bool := match look st b with
  | some (.ins c' _) => c' == c
  | some (.str _) => true
  | some (.int _) => true
  | _ => false
def gEqI (c : Str) (F : FnD) (neg : Bool) (ga gb : GE) : GE := fun st => (ga st).bind fun a st1 => (gb st1).bind fun b st2 => if (isInC st2 a c && okEq st2 b c) = true then (gCallC (noEx F) [false, false] [a, b] st2).bind (chkR (chkB neg)) else .no
end
end DL
end
section
/-! DM18: q != x by the own ==. -/
namespace PySem.W
open PySem PySem.Spec PySem.Calls PyProof.Rows
end PySem.W
namespace DL
open PySem PySem.Spec PyProof.Rows L2
end DL
end
section
/-! DM19: isinstance(x, C), C an own class of the module. -/
namespace DL
open PySem PySem.Spec PyProof.Rows L2
/-- what isinstance asks of an own class c: b: the built-in types are none of it -/
def IsC (K : PySem.W.Frag) (mg : Str → Option Value) (c : Str) : Prop := ∃ C, mg c = some (.ref C) ∧ Cls K C ∧ PySem.W.findIn K (.ref C) "__class__" = some (some (.builtin "object.__class__")) ∧
  PySem.W.specialIn K (.builtin "object.__class__") "__get__" = some (some (.builtin "getset_descriptor.__get__")) ∧ PySem.W.takesIn K (.builtin "object.__class__") = some true ∧ PySem.W.mroIn K C (.type "object") = some true ∧
  ∀ t ∈ tyNames, PySem.W.kitOne K (.type t) (.ref C) = some false
def isiO (c : Str) : FL
  | [.ins c' _, .cls d] => if (c' == c && d == c) = true then vb true else none
  | [x, .cls d] => if (d == c && (tyN x).isSome) = true then vb false else none
  | _ => none
theorem callS_isiO {G : Gx} {c : Str} (T : IsC G.K G.mg c) : CallS G (yIsi G.K) (isiO c) := fun P R S H σ st vs xs cc Q hs hv e k => by
  obtain ⟨C, hC, cl, h1, h2, h3, h4, h5⟩ := T
  unfold isiO at e
  split at e
  · rename_i c' fs d
    split at e
    · rename_i hc
      cases e
      rw [Bool.and_eq_true, beq_iff_eq, beq_iff_eq] at hc
      obtain ⟨rfl, rfl⟩ := hc
      cases hv with
      | cons r t =>
        cases t with
        | cons r2 t2 =>
          cases t2
          obtain ⟨a, C', dx, gs, rfl, m, ha, rf⟩ := r.ins hs.sub
          rw [hC] at m
          cases m
          rcases r2 with r2 | ⟨b, ob, _, _, tp⟩
          · cases r2 with
            | cls m2 =>
              rw [hC] at m2
              cases m2
              exact ⟨.ref a, .ref C, .ref C, .ref C, true, rfl, .own C, .kit (.base (.ins ha cl h1 h2 h3 h4)), by unfold PySem.W.kitOne; simp, k _ S H (Same.refl S) hs (.bl true)⟩
          · cases tp
    · cases e
  · rename_i x d hx
    split at e
    · rename_i hc
      cases e
      rw [Bool.and_eq_true, beq_iff_eq] at hc
      obtain ⟨rfl, hn⟩ := hc
      obtain ⟨a, ea⟩ := Option.isSome_iff_exists.mp hn
      cases hv with
      | cons r t =>
        cases t with
        | cons r2 t2 =>
          cases t2
          rcases r2 with r2 | ⟨b, ob, _, _, tp⟩
          · cases r2 with
            | cls m2 =>
              rw [hC] at m2
              cases m2
              exact ⟨_, .ref C, .type a, .ref C, false, rfl, .own C, tyX_of hs.sub r ea, h5 a (tyN_mem ea), k _ S H (Same.refl S) hs (.bl false)⟩
          · cases tp
    · cases e
  · cases e
section
variable {X : Cx} {W : WX} {N : List Str} {sc : Scope} {full : Bool} {k : Nat} {e : Expr} {es : List Expr} {gs : GA} {pos p : Pos} {c : Str}
theorem disiO (cs : Cs X N sc full) (T : IsC X.K X.mg c) (hm : X.mg "isinstance" = none) (ha : DA X W (e :: es) gs) (hg : GlS sc "isinstance" := by rfl) (he : starEach (e :: es) X.env = (false, eval e X.env) :: starEach es X.env := by rfl) (hpl : (backTo pos (starEach es X.env)).any (·.1) = false := by rfl) :
    DE X W (.Call (.Name "isinstance" p) (e :: es) [] pos) (gCB (isiO c) gs) := dcb cs y_isi (callS_isiO T) hm ha bt_isi hg (by decide) (by decide) he hpl
theorem dcls (cs : Cs X N sc full) (T : ClsAt X.mg c) (hg : GlS sc c := by rfl) (hdb : (c == ("__debug__" : Str)) = false := by decide) : DE X W (.Name c pos) (gC (.cls c)) := by
  obtain ⟨C, hC⟩ := T
  exact de_c (pe_glob (v := .ref C) (gl_of cs hg) hC rfl hdb) fun S => .cls hC
end
end DL
end
section
/-! DM20: for the closing: what ==, != and isinstance ask of an own class. -/
namespace DL
open PySem PySem.Spec PyProof.Rows L2
section
variable {K : PySem.W.Frag} {h : Heap} {mg : Str → Option Value} {c : Str} {C : Addr}
def noKit (K : PySem.W.Frag) (C : Addr) : Bool := tyNames.all fun t => PySem.W.kitOne K (.type t) (.ref C) == some false
theorem isC_mk (X : K.In h) (G : h.Ns mainGlobals mg) (aC : PySem.W.nsIn K mainGlobals c = some (some (.ref C))) (T : ClAt K mg c fs) (h1 : PySem.W.findIn K (.ref C) "__class__" = some (some (.builtin "object.__class__")))
    (h2 : PySem.W.specialIn K (.builtin "object.__class__") "__get__" = some (some (.builtin "getset_descriptor.__get__"))) (h3 : PySem.W.takesIn K (.builtin "object.__class__") = some true) (h4 : PySem.W.mroIn K C (.type "object") = some true) (h5 : noKit K C = true) : IsC K mg c :=
  ⟨C, PySem.W.mg_of X G aC, T.cls C (PySem.W.mg_of X G aC), h1, h2, h3, h4, fun t ht => beq_iff_eq.mp (List.all_eq_true.mp h5 t ht)⟩
end
end DL
end
section
/-! DM21: e in q, q == x as tests. -/
namespace DL
open PySem PySem.Spec PyProof.Rows L2
end DL
end
section
/-! DM22: what is handed about shared (gSh); a name that is a cell gets a comprehension. -/
namespace DL
open PySem PySem.Spec PyProof.Rows L2
/-- the value, shared from here on -/
def gSh (g : GE) : GE := fun st => (g st).bind fun a st1 => match take1 st1 a with
  | some (x, st2) => .ok (.d x) st2
  | none => .no
section
variable {X : Cx} {W : WX} {N : List Str} {sc : Scope} {full : Bool} {k : Nat} {e : Expr} {g : GE} {pos : Pos}
theorem dsh (h : DE X W e g) : DE X W e (gSh g) :=
  pe_imp h fun σ H Q ⟨P, R, S, st, h0, fi⟩ => ⟨P, R, S, st, h0, Fin.imp (Fin.bind fi) fun a st1 S1 H1 e1 h1 k v rv => by
    obtain ⟨S2, e2, h2, pv⟩ := h1.settle rv
    cases et : take1 st1 a with
    | none => rw [et] at k; exact k.elim
    | some p =>
      obtain ⟨x, st2⟩ := p
      rw [et] at k
      obtain ⟨S3, e3, h3, r3⟩ := take1_ok h2 pv et
      exact k S3 H1 (e2.trans e3) h3 v r3⟩
theorem dsetSh {s : Stmt} {i : Nat} (h : DSt X W s (sAsg i g)) : DSt X W s (sAsg i (gSh g)) :=
  ps_imp h fun E σ H ⟨P, R, S, st, h0, fi⟩ => ⟨P, R, S, st, h0, by
    unfold sAsg gSh at fi
    unfold sAsg
    cases er : g st with
    | no => rw [er] at fi; exact fi
    | ex z st1 => rw [er] at fi; exact fi
    | ok a st1 =>
      rw [er] at fi
      cases a with
      | d x => exact fi
      | nk x k => exact fi
      | fr x =>
        dsimp only [Rs.bind, Rs.bindS, take1, putV] at fi ⊢
        split at fi
        · rename_i hlt
          rw [if_pos hlt]
          intro σ' S' H' e1 h1
          have hg : (st1.set i (Slot.ow x))[i]? = some (.ow x) := List.getElem?_set_self hlt
          obtain ⟨S2, v, q1, q2, _, _⟩ := h1.freeze hg
          rw [List.set_set] at q2
          exact fi σ' S2 H' (e1.trans q1) q2
        · exact fi.elim
      | sl j =>
        dsimp only [Rs.bind, Rs.bindS, putV] at fi ⊢
        cases et : take1 st1 (.sl j) with
        | none => rw [et] at fi; exact fi.elim
        | some p =>
          obtain ⟨x, st2⟩ := p
          rw [et] at fi
          dsimp only [putV] at fi ⊢
          rw [take1_len et] at fi
          exact fi⟩
end
section
variable {st st2 : DS} {Q : Val → DS → Prop} {E : Ex → DS → Prop} {g : GE} {a : Val} {x : D}
def OSh (st : DS) (a : Val) (Q : Val → DS → Prop) : Prop := ∃ x st2, take1 st a = some (x, st2) ∧ Q (.d x) st2
theorem v_gsh (h : (g st).sat (fun a st1 => OSh st1 a Q) E) : (gSh g st).sat Q E := by
  refine sat_bind (sat_imp h (fun a st1 h1 => ?_) fun _ _ z => z)
  obtain ⟨x, st2, h2, h3⟩ := h1
  rw [h2]
  exact h3
theorem o_sh (h1 : take1 st a = some (x, st2)) (h2 : Q (.d x) st2) : OSh st a Q := ⟨x, st2, h1, h2⟩
end
end DL
end
section
/-! DM23: is None; min, max, sum of a list of ints; * of both kinds; f-strings of texts and ints; a def that hands back nothing (recursion's ground); methods with names. -/
namespace DL
open PySem PySem.Spec PyProof.Rows L2
/-! ### is None -/
def isNonF : D → Option Val
  | .non => vb true
  | _ => vb false
section
variable {X : Cx} {W : WX} {N : List Str} {sc : Scope} {full : Bool} {k : Nat} {a b e o : Expr} {es : List Expr} {ga gb g go : GE} {gs gk : GA} {pos p p' apos : Pos} {kws : List Keyword}
theorem rep_non_iff {G : Gx} {S H : Hp} {v : V} {x : D} (r : RepT G S H v x) : (decide (v = .non)) = (match x with | .non => true | _ => false) := by
  rcases r with r | ⟨a, o, rfl, _, t⟩
  · cases r <;> rfl
  · cases t <;> rfl
theorem isN_of {G : Gx} : ∀ σ H Q, tD G W (gOp1 isNonF g) σ H Q → tIsN (tD G W g) σ H Q := by
  rintro σ H Q ⟨P, R, S, st, h, fi⟩
  refine ⟨P, R, S, st, h, Fin.imp (Fin.bind fi) fun a st1 S1 H1 e1 h1 k v rv => ?_⟩
  obtain ⟨S2, e2, h2, pv⟩ := h1.settle rv
  cases ea : look st1 a with
  | none => rw [ea] at k; exact k.elim
  | some x =>
    rw [ea] at k
    rw [rep_non_iff (pv.look h2 ea)]
    cases x <;> exact k S2 H1 e2 h2 _ (.bl _)
theorem tb_of {G : Gx} {g : GE} {t : TE} (h : ∀ σ H Q, tD G W g σ H Q → t σ H Q) : ∀ σ H Q, tDT G W (gTst g) σ H Q → tB t σ H Q := by
  rintro σ H Q ⟨P, R, S, st, h0, fi⟩
  refine h σ H _ ⟨P, R, S, st, h0, Fin.imp (Fin.bind fi) fun a st1 S1 H1 e1 h1 k v rv => ?_⟩
  obtain ⟨S2, e2, h2, pv⟩ := h1.settle rv
  cases ea : look st1 a with
  | none => rw [ea] at k; exact k.elim
  | some x =>
    rw [ea] at k
    cases x with
    | bl b =>
      have := (pv.look h2 ea).bl
      exact ⟨b, this, k S1 H1 (Same.refl _) h1⟩
    | _ => exact k.elim
theorem tisN {j : Nat} (h : DE X W a g) : DT X W (.Compare a [.Is] [.Constant .none j p'] pos) (gTst (gOp1 isNonF g)) := pt_imp (pt_cmp (pc_isN h)) (tb_of isN_of)
/-! ### * -/
def mulA : F2 := orF repF mulF
theorem de_mulA (ha : DE X W a ga) (hb : DE X W b gb) : DE X W (.BinOp a .Mult b pos) (gOp2 mulA ga gb) := by
  unfold mulA mulF
  exact de_op ((opR_or op_repS op_rep).or (op_mul.or op_mulW)) (opS_rep.or ((opS_rI mulC fun _ _ h => mulC_ok h).or (opS_rI mulW fun i j h => (of_decide_eq_true h : i.natAbs.log2 + j.natAbs.log2 < 1000000)))) ha hb
/-! ### min, max, sum -/
/-! ### f'..' -/
def fmtF : D → Option Val
  | .str y => if fits y.length = true then vs y else none
  | .int i => if decide (i.natAbs.log2 < 1920) = true then vs (toString i) else none
  | _ => none
def gJs : List GE → Str → DS → Rs Str
  | [], acc, st => .ok acc st
  | g :: gs, acc, st => (g st).bind fun a st1 => match look st1 a with
    | some (.str y) => if fits (acc ++ y).length = true then gJs gs (acc ++ y) st1 else .no
    | _ => .no
def gJoined (gs : List GE) : GE := fun st => (gJs gs Str.empty st).bind fun x st1 => .ok (.d (.str x)) st1
end
/-! ### recursion -/
def noF : FnD := fun _ => .no
theorem fun_no {P : Program} {w : World} {K : PySem.W.Frag} {mg : Str → Option Value} {base : Heap} {k : Nat} {x : Str} {st : Stmt} {N ps : List Str} {ms : List Bool} (A : FunAt K mg x st ps) (Sc : FnScope N ps (defScope st)) (hm : ms.length = ps.length) : DOf P w K mg base k x st ps ms noF := by
  obtain ⟨f, fd, h1, h2, h3⟩ := A
  refine ⟨f, fd, h1, h2, .all h3, ⟨fun {vs H Q E} h => ?_, fun {A outer s H args us vs Q E} _ _ _ _ _ h => ?_⟩⟩
  · obtain ⟨R, S, ds, _, _, _, _, _, z⟩ := h
    exact z.elim
  · obtain ⟨R, S, ds, _, _, _, _, _, z⟩ := h
    exact z.elim
section
variable {st st1 : DS} {Q : Val → DS → Prop} {E : Ex → DS → Prop}
/-- the parts of f'..' -/
def SJs (gs : List GE) (acc : Str) (st : DS) (Q : Str → DS → Prop) (E : Ex → DS → Prop) : Prop := (gJs gs acc st).sat Q E
theorem v_joined {gs : List GE} (h : SJs gs Str.empty st (fun x st1 => Q (.d (.str x)) st1) E) : (gJoined gs st).sat Q E := sat_bind h
theorem v_jnil {acc : Str} {Q : Str → DS → Prop} (h : Q acc st) : SJs [] acc st Q E := h
def OJ (gs : List GE) (acc : Str) (st1 : DS) (a : Val) (Q : Str → DS → Prop) (E : Ex → DS → Prop) : Prop := ∃ y, look st1 a = some (.str y) ∧ fits (acc ++ y).length = true ∧ SJs gs (acc ++ y) st1 Q E
theorem v_jcons {g : GE} {gs : List GE} {acc : Str} {Q : Str → DS → Prop} (h : (g st).sat (fun a st1 => OJ gs acc st1 a Q E) E) : SJs (g :: gs) acc st Q E := by
  refine sat_bind (sat_imp h (fun a st1 h1 => ?_) fun _ _ z => z)
  obtain ⟨y, h2, h3, h4⟩ := h1
  rw [h2]
  dsimp only
  rw [if_pos h3]
  exact h4
theorem o_j {gs : List GE} {acc y : Str} {a : Val} {Q : Str → DS → Prop} (h1 : look st1 a = some (.str y)) (h2 : fits (acc ++ y).length = true) (h3 : SJs gs (acc ++ y) st1 Q E) : OJ gs acc st1 a Q E := ⟨y, h1, h2, h3⟩
end
end DL
end
section
/-! DM24: a, b = x, y. -/
namespace DL
open PySem PySem.Spec PyProof.Rows L2
def sPar (i j : Nat) (ga : GA) : GS := fun st => (ga st).bindS fun as st1 => match takes st1 as with
  | some ([x, y], st2) => if i < st2.length ∧ j < st2.length then .nx ((st2.set i (.sh x)).set j (.sh y)) else .no
  | _ => .no
section
variable {st st2 st3 : DS} {gs : GA} {Z : SE} {x y : D} {as : List Val} {i j : Nat} {N : DS → Prop}
def OPr (i j : Nat) (st : DS) (as : List Val) (N : DS → Prop) : Prop := ∃ x y st2, takes st as = some ([x, y], st2) ∧ (i < st2.length ∧ j < st2.length) ∧ N ((st2.set i (.sh x)).set j (.sh y))
theorem v_par (h : (gs st).sat (fun as st1 => OPr i j st1 as Z.nx) Z.ex) : (sPar i j gs st).sat Z := by
  refine sat_bindS (sat_imp h (fun as st1 h1 => ?_) fun _ _ z => z)
  obtain ⟨x, y, st2, h2, h3, h4⟩ := h1
  rw [h2]
  dsimp only
  rw [if_pos h3]
  exact h4
theorem o_pr (h1 : takes st as = some ([x, y], st2)) (h2 : Nat.ble (max i j + 1) st2.length = true) (h3 : (st2.set i (.sh x)).set j (.sh y) = st3) (h4 : N st3) : OPr i j st as N := by
  have := Nat.le_of_ble_eq_true h2
  exact ⟨x, y, st2, h1, by omega, by rw [h3]; exact h4⟩
end
end DL
end
section
/-! DM25: methods called with names alone. -/
namespace DL
open PySem PySem.Spec PyProof.Rows L2
def gMethK0 (c m : Str) (ms : List Bool) (F : FnD) (ix : List Nat) (go : GE) (gk : GA) : GE := fun st => (go st).bind fun a st1 => if isIns st1 a c m = true then (gk st1).bind fun bs st2 => if (bs.length == ix.length - 1) = true then gCallC F ms (pick ix ([a] ++ bs)) st2 else .no else .no
section
variable {st : DS} {Q : Val → DS → Prop} {E : Ex → DS → Prop} {go : GE} {gk : GA}
theorem v_methK0 {c m : Str} {ms : List Bool} {F : FnD} {ix : List Nat} (h : (go st).sat (fun a st1 => isIns st1 a c m = true ∧ (gk st1).sat (fun bs st2 => (bs.length == ix.length - 1) = true ∧ OC F ms st2 (pick ix ([a] ++ bs)) Q E) E) E) : (gMethK0 c m ms F ix go gk st).sat Q E := by
  refine sat_bind (sat_imp h (fun a st1 h1 => ?_) fun _ _ z => z)
  rw [if_pos h1.1]
  refine sat_bind (sat_imp h1.2 (fun bs st2 h2 => ?_) fun _ _ z => z)
  rw [if_pos h2.1]
  obtain ⟨ys, st3, ds, h3, h4, h5, h6⟩ := h2.2
  unfold gCallC
  rw [h3]
  dsimp only
  rw [if_pos h4, h5]
  dsimp only
  cases e : F ds with
  | ok a ios =>
    rw [e] at h6
    obtain ⟨st3, h7, h8⟩ := h6
    dsimp only
    rw [h7]
    exact h8
  | ex x ios =>
    rw [e] at h6
    obtain ⟨st3, h7, h8⟩ := h6
    dsimp only
    rw [h7]
    exact h8
  | no => rw [e] at h6; exact h6
end
end DL
end
section
/-! DM26: list(q), q of an own class with __iter__ (iter(self.f)) and __len__. -/
namespace DL
open PySem PySem.Spec PyProof.Rows L2
def gListI (c f : Str) (F : FnD) (g : GE) : GE := fun st => (g st).bind fun a st1 => match look st1 a with
  | some (.ins c' fs) => if c' = c then (match fs.lookup f with
    | some (.lst xs) => (gCallC (noEx F) [false] [a] st1).bind fun v st2 => (match v with
      | .d (.int n) => if (decide (0 ≤ n) && decide (n ≤ 16777216)) = true then .ok (.fr (.lst xs)) st2 else .no
      | _ => .no)
    | _ => .no) else .no
  | _ => .no
end DL
end
section
/-! DM27: list(zip(a, b)), each a text, a list or a tuple. -/
namespace DL
open PySem PySem.Spec PyProof.Rows L2
abbrev IsZipB (h : Heap) (z TI TO : Addr) (f0 : Value) (b : Bool) : Prop := h.get? z = some { cls := .type "zip", dict := none, data := .fields #[f0, .bool b, .bool false, .ref TI, .ref TO], slots := #[] }
/-- what the pairs' tuples add -/
inductive Alc (H0 : Hp) : Hp → List V → List (V × V) → Prop
  | nil : Alc H0 H0 [] []
  | snoc {H : Hp} {ts : List V} {ps : List (V × V)} {T : Addr} {x y : V} : Alc H0 H ts ps → H T = none → Alc H0 (upd H T (.tup [x, y])) (ts ++ [.ref T]) (ps ++ [(x, y)])
theorem Alc.len {H0 H : Hp} {ts : List V} {ps : List (V × V)} (h : Alc H0 H ts ps) : ts.length = ps.length := by
  induction h with
  | nil => rfl
  | snoc h n ih => rw [List.length_append, List.length_append, ih]; rfl
section
variable {X : Cx} {pins : List (Addr × Obj)} {σ : L2.St} {A1 : Around} {q z TI TO i1 i2 : Addr} {k1 k2 : Sk} {xs ys : List V} {H0 : Hp}
def ZSt (z TI TO i1 i2 q : Addr) (k1 k2 : Sk) (i : Nat) (h : Heap) : Prop := IsPair h TI (.ref i1) (.ref i2) ∧ k1.itr i1 i h ∧ k2.itr i2 i h ∧ ((IsZip h z TI TO .none ∧ ∃ x y, IsPair h TO x y) ∨ ∃ (T : Addr) (o : Obj) (bb : Bool), IsZipB h z TI TO (rawInt T) bb ∧ h.get? T = some o ∧ T ∉ [z, i1, i2, q])
theorem ZSt.at {i : Nat} {h h' : Heap} (s : ZSt z TI TO i1 i2 q k1 k2 i h) (nq : q ∉ [z, TI, TO, i1, i2]) (k : ∀ c o, c ≠ q → h.get? c = some o → h'.get? c = some o) : ZSt z TI TO i1 i2 q k1 k2 i h' := by
  obtain ⟨s1, s2, s3, s4⟩ := s
  have ne : ∀ c ∈ [z, TI, TO, i1, i2], c ≠ q := fun c hc e => nq (e ▸ hc)
  refine ⟨k _ _ (ne TI (by simp)) s1, Sk.itr_at s2 fun o e => k _ _ (ne i1 (by simp)) e, Sk.itr_at s3 fun o e => k _ _ (ne i2 (by simp)) e, ?_⟩
  rcases s4 with ⟨y1, x, y, y2⟩ | ⟨T, o, bb, y1, y2, y3⟩
  · exact .inl ⟨k _ _ (ne z (by simp)) y1, x, y, k _ _ (ne TO (by simp)) y2⟩
  · exact .inr ⟨T, o, bb, k _ _ (ne z (by simp)) y1, k _ _ (fun e => y3 (by simp [e])) y2, y3⟩
end
/-! ### on data -/
def gListZ (ga : GA) : GE := fun st => (ga st).bind fun as st1 => match takes st1 as with
  | some ([x, y], st2) => (match items x, items y with
    | some xs, some ys => if (zipD xs ys).length ≤ 100000 then .ok (.fr (.lst (zipD xs ys))) st2 else .no
    | _, _ => .no)
  | _ => .no
section
variable {st st2 : DS} {Q : Val → DS → Prop} {E : Ex → DS → Prop} {ga : GA} {as : List Val} {x y : D} {xs ys zs : List D}
def OLz (st : DS) (as : List Val) (Q : Val → DS → Prop) : Prop := ∃ x y xs ys st2, takes st as = some ([x, y], st2) ∧ items x = some xs ∧ items y = some ys ∧ (zipD xs ys).length ≤ 100000 ∧ Q (.fr (.lst (zipD xs ys))) st2
theorem v_listZ (h : (ga st).sat (fun as st1 => OLz st1 as Q) E) : (gListZ ga st).sat Q E := by
  refine sat_bind (sat_imp h (fun as st1 h1 => ?_) fun _ _ z => z)
  obtain ⟨x, y, xs, ys, st2, h2, h3, h4, h5, h6⟩ := h1
  rw [h2]
  dsimp only
  rw [h3, h4]
  dsimp only
  rw [if_pos h5]
  exact h6
theorem o_lz (h1 : takes st as = some ([x, y], st2)) (h2 : items x = some xs) (h3 : items y = some ys) (h4 : zipD xs ys = zs) (h5 : zs.length ≤ 100000) (h6 : Q (.fr (.lst zs)) st2) : OLz st as Q := by subst h4; exact ⟨x, y, xs, ys, st2, h1, h2, h3, h5, h6⟩
end
end DL
end
section
/-! DM28: dicts with texts and whole numbers as keys: {}, d[k] = v, k in d, d.get. -/
namespace DL
open PySem PySem.Spec PyProof.Rows L2
def keyOf : D → Option Key
  | .str x => some (.inr x)
  | .int i => some (.inl i)
  | _ => none
def isK : Key → D → Bool
  | .inr x, .str y => decide (y = x)
  | .inl i, .int j => decide (j = i)
  | _, _ => false
def getD (ds : List (D × D)) (k : Key) : Option D := (ds.find? fun p => isK k p.1).map fun p => p.2
theorem isK_keyD (k k' : Key) : isK k (keyD k') = decide (k' = k) := by
  cases k with
  | inl i =>
    cases k' with
    | inl j =>
      show decide (j = i) = _
      rw [Bool.eq_iff_iff, decide_eq_true_eq, decide_eq_true_eq]
      exact ⟨fun h => by rw [h], fun h => Sum.inl.inj h⟩
    | inr y => rfl
  | inr x =>
    cases k' with
    | inl j => rfl
    | inr y =>
      show decide (y = x) = _
      rw [Bool.eq_iff_iff, decide_eq_true_eq, decide_eq_true_eq]
      exact ⟨fun h => by rw [h], fun h => Sum.inr.inj h⟩
section
variable {G : Gx} {S : Hp}
theorem repKV_val {k : Key} : ∀ {kvs : List (Key × V)} {ds : List (D × D)}, RepKV G S kvs ds → (match valV kvs k, getD ds k with | some v, some d => Rep G S v d | none, none => True | _, _ => False)
  | _, _, .nil => trivial
  | _, _, .cons (k := k') (v := w) (vs := vs) (d := e) (ds := ds) h t => by
    have hk := isK_keyD k k'
    have ih := repKV_val (k := k) t
    unfold valV getD at ih ⊢
    rw [List.find?_cons, List.find?_cons]
    by_cases hc : k' = k
    · rw [show isK k (keyD k', e).1 = true by rw [hk, decide_eq_true hc], show decide ((k', w).1 = k) = true from decide_eq_true hc]
      exact h
    · rw [show isK k (keyD k', e).1 = false by rw [hk, decide_eq_false hc], show decide ((k', w).1 = k) = false from decide_eq_false hc]
      exact ih
end
/-! ### {} -/
def headK : List (D × D) → Bool
  | [] => true
  | p :: _ => (keyOf p.1).isSome
theorem repKT_head {G : Gx} {S : Hp} {kvs : List (List Key × V)} {ds : List (D × D)} (n : kvs ≠ []) (r : RepKT G S kvs ds) : headK ds = false := by
  cases r with
  | nil => exact (n rfl).elim
  | cons h t => rfl
section
variable {X : Cx} {W : WX} {k : Nat} {pos pos' : Pos} {e eo ei : Expr} {ge go gi : GE}
/-! ### d[k] = v -/
/-! ### k in d -/
theorem dget_rep {G : Gx} {P : Pin} {R S H : Hp} {σ : L2.St} {st : DS} {v u : V} {y : D} {ds : List (D × D)} {kk : Key} (hs : StR G P R S H σ st) (hv : RepT G S H v y) (hu : RepT G S H u (.dct ds)) (ek : keyOf y = some kk) (hh : headK ds = true) :
    ∃ a kvs, u = .ref a ∧ v = kV kk ∧ DGet H a (kV kk) (valV kvs kk) ∧ RepKV G S kvs ds := by
  have hv' : v = kV kk := by
    cases y with
    | str x => cases ek; rw [hv.str]; rfl
    | int i => cases ek; rw [hv.int]; rfl
    | _ => cases ek
  rcases hu with hu | ⟨a, o, rfl, ha, t⟩
  · cases hu with
    | dK h r => exact ⟨_, _, rfl, hv', .inl ⟨_, kk, hs.sub.rd (.inl h), rfl, rfl⟩, r⟩
    | dT h n r => rw [repKT_head n r] at hh; cases hh
  · cases t with
    | dK r => exact ⟨_, _, rfl, hv', .inl ⟨_, kk, .inl ha, rfl, rfl⟩, r⟩
    | dT n r => rw [repKT_head n r] at hh; cases hh
end
end DL
end
section
/-! DM29: x.extend(list). -/
namespace DL
open PySem PySem.Spec PyProof.Rows L2
end DL
end
section
/-! DM30: slices of tuples (a part that is not the whole). -/
namespace DL
open PySem PySem.Spec PyProof.Rows L2
end DL
end
section
/-! DM31: dict(zip(a, b)), the keys texts or whole numbers. -/
namespace DL
open PySem PySem.Spec PyProof.Rows L2
/-! ### on data -/
end DL
end
section
/-! DM32: enumerate of a text, a list or a tuple. -/
namespace DL
open PySem PySem.Spec PyProof.Rows L2
end DL
end
section
/-! DM33: x in a list, by deep ==. -/
namespace DL
open PySem PySem.Spec PyProof.Rows L2
end DL
end
section
/-! DM34: slices of lists, texts and tuples alike. -/
namespace DL
open PySem PySem.Spec PyProof.Rows L2
def slAF : D → Option Int → Option Int → Option Val
  | .tup xs, lo, hi => some (.d (.tup (cut xs lo hi)))
  | x, lo, hi => slF x lo hi
def gSlA (g : GE) (gl gh : GO) : GE := fun st => (g st).bind fun a st1 => (gl st1).bind fun lo st2 => (gh st2).bind fun hi st3 => match look st3 a with
  | some x => lift (slAF x lo hi) st3
  | none => .no
section
variable {st : DS} {Q : Val → DS → Prop} {E : Ex → DS → Prop} {g : GE} {x : D} {c : Val} {lo hi : Option Int} {a : Val}
def OSA (st : DS) (a : Val) (lo hi : Option Int) (Q : Val → DS → Prop) : Prop := ∃ x c, look st a = some x ∧ slAF x lo hi = some c ∧ Q c st
theorem v_slA {gl gh : GO} (h : (g st).sat (fun a st1 => (gl st1).sat (fun lo st2 => (gh st2).sat (fun hi st3 => OSA st3 a lo hi Q) E) E) E) : (gSlA g gl gh st).sat Q E := by
  refine sat_bind (sat_imp h (fun a st1 h1 => sat_bind (sat_imp h1 (fun lo st2 h2 => sat_bind (sat_imp h2 (fun hi st3 h4 => ?_) fun _ _ z => z)) fun _ _ z => z)) fun _ _ z => z)
  obtain ⟨x, c, h3, h5, h6⟩ := h4
  rw [h3]
  dsimp only
  rw [h5]
  exact h6
theorem o_slA (h1 : look st a = some x) (h3 : slAF x lo hi = some c) (h4 : Q c st) : OSA st a lo hi Q := ⟨x, c, h1, h3, h4⟩
end
end DL
end
section
/-! DN1: symbolic runs of the further combinators; texts as lists of codes; what repr tells. -/
namespace DL
open PySem PySem.Spec PyProof.Rows L2
section
variable {st st1 st2 st3 : DS} {Q : Val → DS → Prop} {QB : Bool → DS → Prop} {QA : List Val → DS → Prop} {QI : List D → DS → Prop} {E : Ex → DS → Prop} {i : Nat} {x y z : D} {ga gb gc g : GE} {gs gk : GA} {Z : SE} {f f2 : F2} {a b c : Val} {as : List Val} {xs ys : List D} {N : DS → Prop}
abbrev NoX : Ex → DS → Prop := fun _ _ => False
theorem eq_of_sat {r : FR} {v : Val} {ios : List D} (h : r.sat (fun a is => a = v ∧ is = ios) (fun _ _ => False)) : r = .ok v ios := by
  cases r with
  | ok a is => obtain ⟨rfl, rfl⟩ := h; rfl
  | ex e is => exact h.elim
  | no => exact h.elim
theorem eq_of_satE {r : FR} {v : Ex} {ios : List D} (h : r.sat (fun _ _ => False) (fun a is => a = v ∧ is = ios)) : r = .ex v ios := by
  cases r with
  | ok a is => exact h.elim
  | ex e is => obtain ⟨rfl, rfl⟩ := h; rfl
  | no => exact h.elim
/-! ### list comprehensions -/
def LcS (vs : List Nat) (ag : AG) (tt : GT) (ge : GE) (I : Nat → DS → List D → Prop) (i : Nat) (d : D) (st : DS) (acc : List D) : Prop := ∃ st', ag d st = some st' ∧
  (tt st').sat (fun b st2 => (b = true → (ge st2).sat (fun a st3 => ∃ x st4, take1 st3 a = some (x, st4) ∧ I (i + 1) (wipeD st4 vs) (acc ++ [x])) NoX) ∧ (b = false → I (i + 1) (wipeD st2 vs) acc)) NoX
theorem run_lc {vs : List Nat} {ag : AG} {tt : GT} {ge : GE} (ds : List D) (I : Nat → DS → List D → Prop) (hz : ds.length ≤ sizeLine) (h0 : I 0 st []) (hs : ∀ i d st acc, ds[i]? = some d → I i st acc → acc.length ≤ i → LcS vs ag tt ge I i d st acc) :
    ∃ acc st2, runLc vs ag tt ge ds st [] = some (acc, st2) ∧ I ds.length st2 acc := by
  have key : ∀ (l : List D) (k : Nat) (st : DS) (acc : List D), ds.drop k = l → k ≤ ds.length → acc.length ≤ k → I k st acc → ∃ acc' st2, runLc vs ag tt ge l st acc = some (acc', st2) ∧ I ds.length st2 acc' := by
    intro l
    induction l with
    | nil =>
      intro k st acc e hk ha h
      have : k = ds.length := by
        have := congrArg List.length e
        rw [List.length_drop, List.length_nil] at this
        omega
      subst this
      exact ⟨acc, st, rfl, h⟩
    | cons d l ih =>
      intro k st acc e hk ha h
      have hk' : k < ds.length := by
        have := congrArg List.length e
        rw [List.length_drop, List.length_cons] at this
        omega
      rw [List.drop_eq_getElem_cons hk'] at e
      obtain ⟨e1, e2⟩ := List.cons.inj e
      obtain ⟨st', h1, h2⟩ := hs k d st acc (by rw [List.getElem?_eq_getElem hk', e1]) h ha
      unfold runLc
      rw [h1]
      dsimp only
      cases et : tt st' with
      | no => rw [et] at h2; exact h2.elim
      | ex e s => rw [et] at h2; exact h2.elim
      | ok b st2 =>
        rw [et] at h2
        obtain ⟨h3, h4⟩ := h2
        cases b with
        | false => exact ih (k + 1) _ acc e2 hk' (by omega) (h4 rfl)
        | true =>
          have h5 := h3 rfl
          dsimp only
          cases eg : ge st2 with
          | no => rw [eg] at h5; exact h5.elim
          | ex e s => rw [eg] at h5; exact h5.elim
          | ok a st3 =>
            rw [eg] at h5
            obtain ⟨x, st4, h6, h7⟩ := h5
            dsimp only
            rw [h6]
            dsimp only
            rw [if_pos (by omega)]
            exact ih (k + 1) _ (acc ++ [x]) e2 hk' (by rw [List.length_append, List.length_singleton]; omega) h7
  exact key ds 0 st [] rfl (Nat.zero_le _) (Nat.le_refl _) h0
def OLc (vs : List Nat) (ag : AG) (tt : GT) (ge : GE) (ds : List D) (st1 : DS) (Q : Val → DS → Prop) : Prop := (vs.all fun i => plainS st1[i]?) = true ∧ ∃ xs st2, runLc vs ag tt ge ds (wipeD st1 vs) [] = some (xs, st2) ∧ st1.length = st2.length ∧ Q (.fr (.lst xs)) (restD st1 st2 vs)
theorem v_lc {vs : List Nat} {gi : GI} {ag : AG} {tt : GT} {ge : GE} (h : (gi st).sat (fun ds st1 => OLc vs ag tt ge ds st1 Q) E) : (gLc vs gi ag tt ge st).sat Q E := by
  unfold gLc
  refine sat_bind (sat_imp h (fun ds st1 q => ?_) fun _ _ q => q)
  obtain ⟨h1, xs, st2, h2, h3, h4⟩ := q
  try dsimp only
  rw [if_pos h1, h2]
  dsimp only
  rw [if_pos h3]
  exact h4
/-- with an invariant of one's own -/
theorem o_lcI {vs : List Nat} {ag : AG} {tt : GT} {ge : GE} {ds : List D} (I : Nat → DS → List D → Prop) (hp : (vs.all fun i => plainS st[i]?) = true) (hz : ds.length ≤ sizeLine) (h0 : I 0 (wipeD st vs) [])
    (hs : ∀ i d st acc, ds[i]? = some d → I i st acc → acc.length ≤ i → LcS vs ag tt ge I i d st acc) (hd : ∀ st2 acc, I ds.length st2 acc → st.length = st2.length ∧ Q (.fr (.lst acc)) (restD st st2 vs)) : OLc vs ag tt ge ds st Q := by
  obtain ⟨acc, st2, h1, h2⟩ := run_lc ds I hz h0 hs
  obtain ⟨h3, h4⟩ := hd st2 acc h2
  exact ⟨hp, acc, st2, h1, h3, h4⟩
theorem v_yes (h : QB true st) : (gYes st).sat QB E := h
/-! ### what is gone through -/
def OE (st : DS) (as : List Val) (Q : List D → DS → Prop) : Prop := ∃ x, looks st as = some [.str x] ∧ Q (enumD 0 (chars x)) st
theorem v_enum (h : (gs st).sat (fun as st1 => OE st1 as QI) E) : (gEnum gs st).sat QI E := by
  unfold gEnum
  refine sat_bind (sat_imp h (fun as st1 q => ?_) fun _ _ q => q)
  obtain ⟨x, h1, h2⟩ := q
  try dsimp only
  rw [h1]
  exact h2
def OZ (st : DS) (as : List Val) (Q : List D → DS → Prop) : Prop := ∃ x y xs ys st2, takes st as = some ([x, y], st2) ∧ items x = some xs ∧ items y = some ys ∧ Q (zipD xs ys) st2
theorem v_zip (h : (gs st).sat (fun as st1 => OZ st1 as QI) E) : (gZip gs st).sat QI E := by
  unfold gZip
  refine sat_bind (sat_imp h (fun as st1 q => ?_) fun _ _ q => q)
  obtain ⟨x, y, xs, ys, st2, h1, h2, h3, h4⟩ := q
  try dsimp only
  rw [h1]
  dsimp only
  rw [h2, h3]
  exact h4
theorem o_e {t : Str} (h1 : looks st as = some [.str t]) (h2 : QI (enumD 0 (chars t)) st) : OE st as QI := ⟨t, h1, h2⟩
theorem o_z (h1 : takes st as = some ([x, y], st2)) (h2 : items x = some xs) (h3 : items y = some ys) (h4 : QI (zipD xs ys) st2) : OZ st as QI := ⟨x, y, xs, ys, st2, h1, h2, h3, h4⟩
/-! ### a, b = e; raise; try -/
def OUn (ag : AG) (st : DS) (a : Val) (N : DS → Prop) : Prop := ∃ x st2 st3, take1 st a = some (x, st2) ∧ ag x st2 = some st3 ∧ N st3
theorem v_unp {ag : AG} (h : (g st).sat (fun a st1 => OUn ag st1 a Z.nx) Z.ex) : (sUnp g ag st).sat Z := by
  unfold sUnp
  refine sat_bindS (sat_imp h (fun a st1 q => ?_) fun _ _ q => q)
  obtain ⟨x, st2, st3, h1, h2, h3⟩ := q
  try dsimp only
  rw [h1]
  dsimp only
  rw [h2]
  exact h3
def ORa (x : Str) (mk : List D → Option (List (Str × D))) (st : DS) (as : List Val) (N : Ex → DS → Prop) : Prop := ∃ ds st2 fs, takes st as = some (ds, st2) ∧ mk ds = some fs ∧ ds.length ≤ 900 ∧ N ⟨x, fs⟩ st2
theorem v_raise {x : Str} {mk : List D → Option (List (Str × D))} (h : (gs st).sat (fun as st1 => ORa x mk st1 as Z.ex) Z.ex) : (sRaise x mk gs st).sat Z := by
  unfold sRaise
  refine sat_bindS (sat_imp h (fun a st1 q => ?_) fun _ _ q => q)
  obtain ⟨ds, st2, fs, h1, h2, h3, h4⟩ := q
  try dsimp only
  rw [h1]
  dsimp only
  rw [h2]
  dsimp only
  rw [if_pos h3]
  exact h4
theorem o_un {ag : AG} (h1 : take1 st a = some (x, st2)) (h2 : ag x st2 = some st3) (h3 : N st3) : OUn ag st a N := ⟨x, st2, st3, h1, h2, h3⟩
theorem o_ra {w : Str} {mk : List D → Option (List (Str × D))} {fs : List (Str × D)} {N : Ex → DS → Prop} (h1 : takes st as = some (xs, st2)) (h2 : mk xs = some fs) (h3 : xs.length ≤ 900) (h4 : N ⟨w, fs⟩ st2) : ORa w mk st as N := ⟨xs, st2, fs, h1, h2, h3, h4⟩
theorem v_try {xs : List Str} {sub : Str → Str → Bool} {b : GS} {hs : List Hd} (h : (b st).sat { Z with ex := fun e st1 => e.cls ∈ xs ∧ (hdl sub hs e st1).sat Z }) : (sTry xs sub b hs st).sat Z := by
  unfold sTry
  cases eb : b st with
  | ex e st1 =>
    rw [eb] at h
    dsimp only
    rw [if_pos h.1]
    exact h.2
  | nx st1 => rw [eb] at h; exact h
  | rt a st1 => rw [eb] at h; exact h
  | bk st1 => rw [eb] at h; exact h
  | ct st1 => rw [eb] at h; exact h
  | no => rw [eb] at h; exact h
/-! ### the other forms -/
theorem v_callK {F : FnD} {ms : List Bool} {n : Nat} {ix : List Nat} (h : (gs st).sat (fun as st1 => (gk st1).sat (fun bs st2 => (as.length == n && (bs.length == ix.length - n)) = true ∧ OC F ms st2 (pick ix (as ++ bs)) Q E) E) E) : (gCallK F ms n ix gs gk st).sat Q E := by
  unfold gCallK
  refine sat_bind (sat_imp h (fun as st1 q => ?_) fun _ _ q => q)
  refine sat_bind (sat_imp q (fun bs st2 q => ?_) fun _ _ q => q)
  rw [if_pos q.1]
  have := v_call (F := F) (ms := ms) (dd := []) (gs := fun s => .ok (pick ix (as ++ bs)) s) (st := st2) (Q := Q) (E := E) (by show OC F ms st2 (pick ix (as ++ bs) ++ []) Q E; rw [List.append_nil]; exact q.2)
  have e : gCall F ms [] (fun s => .ok (pick ix (as ++ bs)) s) st2 = gCallC F ms (pick ix (as ++ bs)) st2 := by
    show gCallC F ms (pick ix (as ++ bs) ++ []) st2 = _
    rw [List.append_nil]
  rw [e] at this
  exact this
def OCh (f f2 : F2) (gc : GE) (st : DS) (a b : Val) (Q : Val → DS → Prop) (E : Ex → DS → Prop) : Prop := ∃ dx dy t, look st a = some dx ∧ look st b = some dy ∧ f dx dy = vb t ∧ (t = true → (gc st).sat (fun c st3 => O2 f2 st3 b c Q) E) ∧ (t = false → Q (.d (.bl false)) st)
theorem v_chain (h : (ga st).sat (fun a st1 => (gb st1).sat (fun b st2 => OCh f f2 gc st2 a b Q E) E) E) : (gChain f f2 ga gb gc st).sat Q E := by
  unfold gChain
  refine sat_bind (sat_imp h (fun a st1 q => ?_) fun _ _ q => q)
  refine sat_bind (sat_imp q (fun b st2 q => ?_) fun _ _ q => q)
  obtain ⟨dx, dy, t, h1, h2, h3, h4, h5⟩ := q
  rw [h1, h2]
  dsimp only
  rw [h3]
  cases t with
  | false => exact h5 rfl
  | true =>
    refine sat_bind (sat_imp (h4 rfl) (fun c st3 q => ?_) fun _ _ q => q)
    obtain ⟨y', z', w, z1, z2, z3, z4⟩ := q
    try dsimp only
    rw [z1, z2]
    dsimp only
    rw [z3]
    exact z4
theorem o_ch {t : Bool} (h1 : look st a = some x) (h2 : look st b = some y) (h3 : f x y = vb t) (h4 : (t = true → (gc st).sat (fun c st3 => O2 f2 st3 b c Q) E) ∧ (t = false → Q (.d (.bl false)) st)) : OCh f f2 gc st a b Q E := ⟨x, y, t, h1, h2, h3, h4.1, h4.2⟩
theorem v_m1 {go ge : GE} (h : (go st).sat (fun a st1 => ∃ t, look st1 a = some (.str t) ∧ (ge st1).sat (fun b st2 => O2 f st2 a b Q) E) E) : (gM1 f go ge st).sat Q E := by
  unfold gM1
  refine sat_bind (sat_imp h (fun a st1 q => ?_) fun _ _ q => q)
  obtain ⟨t, h1, q⟩ := q
  rw [h1]
  dsimp only
  refine sat_bind (sat_imp q (fun b st2 q => ?_) fun _ _ q => q)
  obtain ⟨y', z', w, z1, z2, z3, z4⟩ := q
  try dsimp only
  rw [z1, z2]
  dsimp only
  rw [z3]
  exact z4
def OLr (st : DS) (a : Val) (Q : Val → DS → Prop) : Prop := ∃ n : Int, look st a = some (.int n) ∧ -(2 ^ 62) ≤ n ∧ n ≤ 16777216 ∧ Q (.fr (.lst (rng 0 n.toNat))) st
theorem v_lstRg (h : (g st).sat (fun a st1 => OLr st1 a Q) E) : (gLstRg g st).sat Q E := by
  unfold gLstRg
  refine sat_bind (sat_imp h (fun a st1 q => ?_) fun _ _ q => q)
  obtain ⟨n, h1, h2, h3, h4⟩ := q
  try dsimp only
  rw [h1]
  dsimp only
  rw [if_pos (by simp only [Bool.and_eq_true, decide_eq_true_eq]; exact ⟨h2, h3⟩)]
  exact h4
theorem o_lr {n : Int} (h1 : look st a = some (.int n)) (h2 : -(2 ^ 62) ≤ n) (h3 : n ≤ 16777216) (h4 : Q (.fr (.lst (rng 0 n.toNat))) st) : OLr st a Q := ⟨n, h1, h2, h3, h4⟩
def OAp (i : Nat) (st : DS) (as : List Val) (Q : Val → DS → Prop) : Prop := ∃ x st2 xs, takes st as = some ([x], st2) ∧ cont st2 i = some (.lst xs) ∧ xs.length < sizeLine ∧ Q (.d .non) (setC st2 i (.lst (xs ++ [x])))
theorem v_app {l : List D} (h0 : cont st i = some (.lst l)) (h : (gs st).sat (fun as st1 => OAp i st1 as Q) E) : (gApp i gs st).sat Q E := by
  unfold gApp
  rw [h0]
  dsimp only
  refine sat_bind (sat_imp h (fun a st1 q => ?_) fun _ _ q => q)
  obtain ⟨x, st2, xs, h1, h2, h3, h4⟩ := q
  rw [h1]
  dsimp only
  rw [h2]
  dsimp only
  rw [if_pos h3]
  exact h4
theorem o_ap (h1 : takes st as = some ([x], st2)) (h2 : cont st2 i = some (.lst xs)) (h3 : xs.length < sizeLine) (h4 : setC st2 i (.lst (xs ++ [x])) = st3) (h5 : Q (.d .non) st3) : OAp i st as Q := ⟨x, st2, xs, h1, h2, h3, by rw [h4]; exact h5⟩
end
theorem o_ck {F : FnD} {ms : List Bool} {st : DS} {as : List Val} {Q : Val → DS → Prop} {E : Ex → DS → Prop} {b : Bool} (h0 : b = true) (h1 : OC F ms st as Q E) : b = true ∧ OC F ms st as Q E := ⟨h0, h1⟩
theorem o_m1 {f : F2} {ge : GE} {st : DS} {a : Val} {t : Str} {Q : Val → DS → Prop} {E : Ex → DS → Prop} (h0 : look st a = some (.str t)) (h1 : (ge st).sat (fun b st2 => O2 f st2 a b Q) E) : ∃ t, look st a = some (.str t) ∧ (ge st).sat (fun b st2 => O2 f st2 a b Q) E := ⟨t, h0, h1⟩
/-- the call of a def that is known: it hands back v and changes nothing that was handed in -/
theorem c_ok {F : FnD} {xs : List D} {st2 : DS} {v : Val} {Q : Val → DS → Prop} {E : Ex → List D → Prop} (e : F xs = .ok v []) (h : Q v st2) : (F xs).sat (fun a ios => ∃ st3, back [] ios st2 = some st3 ∧ Q a st3) E := by
  rw [e]; exact ⟨st2, rfl, h⟩
theorem c_ex {F : FnD} {xs : List D} {st2 : DS} {x : Ex} {Q : Val → List D → Prop} {E : Ex → DS → Prop} (e : F xs = .ex x []) (h : E x st2) : (F xs).sat Q (fun e ios => ∃ st3, back [] ios st2 = some st3 ∧ E e st3) := by
  rw [e]; exact ⟨st2, rfl, h⟩
/-! ### texts by their codes -/
def ch (c : Nat) : D := .str ⟨#[c]⟩
def cd (x : Str) (i : Nat) : Nat := x.cps.toList.getD i 0
theorem len_cps (x : Str) : x.cps.toList.length = x.length := Array.length_toList
theorem list_ix {α : Type} (l : List α) (d : α) : l = (List.range l.length).map fun i => l.getD i d := by
  refine List.ext_getElem (by simp) fun i h1 h2 => ?_
  simp [List.getD, h1]
theorem cps_ix (x : Str) : x.cps.toList = (List.range x.length).map (cd x) := by
  have := list_ix x.cps.toList 0
  rw [len_cps] at this
  exact this
theorem chars_ix (x : Str) : chars x = (List.range x.length).map fun i => ch (cd x i) := by
  unfold chars
  rw [cps_ix x, List.map_map]
  rfl
theorem rng_ix (n : Nat) : rng 0 n = (List.range n).map fun i => .int (i : Nat) := by
  unfold rng
  refine List.map_congr_left fun i _ => ?_
  rw [Int.zero_add]
theorem item_s {x : Str} {i : Nat} (h : i < x.length) (hz : fits x.length = true) : itemF (.str x) (.int (i : Nat)) = some (.d (ch (cd x i))) := by
  unfold itemF
  dsimp only
  rw [if_pos hz]
  have e : atI x.cps.toList (i : Int) = some (cd x i) := by
    have hl : i < x.cps.toList.length := by rw [len_cps]; exact h
    have := atI_nat (xs := x.cps.toList) (j := i) (v := cd x i) (by unfold cd; rw [List.getD_eq_getElem?_getD, List.getElem?_eq_getElem hl]; rfl)
    exact this
  rw [e]
  rfl
theorem fits_le {n : Nat} (h : n ≤ 16777216) : fits n = true := by unfold fits; rw [decide_eq_true_eq, sizeLine_eq]; omega
theorem len_s {x : Str} (h : fits x.length = true) : lenF [.str x] = vi x.length := by
  unfold lenF; dsimp only; rw [if_pos h]
/-! ### what repr tells -/
def ShL (d : D) (n k : Nat) : Prop := ∃ p, shw d = some p ∧ p.showable = true ∧ p.depth ≤ k ∧ p.shown.length ≤ n
theorem ShL.mono {d : D} {n k n' k' : Nat} (h : ShL d n k) (h1 : n ≤ n') (h2 : k ≤ k') : ShL d n' k' := by
  obtain ⟨p, a, b, c, e⟩ := h
  exact ⟨p, a, b, by omega, by omega⟩
theorem rprD_of {d : D} {n k : Nat} (h : ShL d n k) (h1 : n ≤ 16777216) (h2 : k ≤ 100) : ∃ t, rprD d = some t ∧ t.length ≤ n := by
  obtain ⟨p, a, b, c, e⟩ := h
  refine ⟨p.shown, ?_, e⟩
  unfold rprD
  rw [a]
  dsimp only
  rw [if_pos]
  unfold okSh
  rw [b]
  simp only [Bool.true_and, Bool.and_eq_true, decide_eq_true_eq]
  refine ⟨by omega, ?_⟩
  unfold fits
  rw [decide_eq_true_eq, sizeLine_eq]
  omega
theorem rprF_of {d : D} {t : Str} (h : rprD d = some t) : rprF [d] = vs t := by
  unfold rprF
  dsimp only
  rw [h]
theorem shl_int {i : Int} {k : Nat} (h0 : 0 < k) (hk : k ≤ 1900) (h : i.natAbs < 2 ^ k) : ShL (.int i) (k + 1) 0 := by
  have hl : i.natAbs.log2 < k := by
    by_cases hz : i.natAbs = 0
    · rw [hz]; exact h0
    · exact (Nat.log2_lt hz).mpr h
  refine ⟨.int i, rfl, ?_, Nat.le_refl _, ?_⟩
  · unfold PyData.showable; rw [decide_eq_true_eq]; omega
  · unfold PyData.shown
    have := int_text_length_le h0 hl
    show (Str.ofString (toString i)).length ≤ _
    rw [PySem.ofString_length]
    exact this
end DL
end
section
/-! DM35: defs with names-only parameters that have defaults (None, integers, truth values). -/
namespace DL
open PySem PySem.Spec PyProof.Rows L2
def gCallKD (F : FnD) (ms : List Bool) (n m : Nat) (ix : List Nat) (dd : List D) (ga gk : GA) : GE := fun st => (ga st).bind fun as st1 => (gk st1).bind fun bs st2 =>
  if (as.length == n && bs.length == m) = true then gCallC F ms (pick ix ((as ++ bs) ++ dd.map .d)) st2 else .no
/-! ### the closing -/
inductive KwsIs (K : PySem.W.Frag) (D : Addr) : List (Str × V) → Prop
  | nil : KwsIs K D []
  | cons {x : Str} {v : V} {u : Value} {l : List (Str × V)} : RelV v u → PySem.W.nsIn K D x = some (some u) → KwsIs K D l → KwsIs K D ((x, v) :: l)
theorem KwsIs.all {K : PySem.W.Frag} {D : Addr} : ∀ {l : List (Str × V)}, KwsIs K D l → ∀ q ∈ l, ∃ u, PySem.W.nsIn K D q.1 = some (some u) ∧ RelV q.2 u
  | _, .nil, q, hq => by cases hq
  | _, .cons r h t, q, hq => by
    rcases List.mem_cons.mp hq with rfl | hq
    · exact ⟨_, h, r⟩
    · exact t.all q hq
/-! ### symbolic runs -/
section
variable {st : DS} {Q : Val → DS → Prop} {E : Ex → DS → Prop}
theorem v_callKD {F : FnD} {ms : List Bool} {n m : Nat} {ix : List Nat} {dd : List D} {gs gk : GA} (h : (gs st).sat (fun as st1 => (gk st1).sat (fun bs st2 => (as.length == n && bs.length == m) = true ∧ OC F ms st2 (pick ix ((as ++ bs) ++ dd.map .d)) Q E) E) E) : (gCallKD F ms n m ix dd gs gk st).sat Q E := by
  refine sat_bind (sat_imp h (fun as st1 h1 => sat_bind (sat_imp h1 (fun bs st2 h2 => ?_) fun _ _ z => z)) fun _ _ z => z)
  rw [if_pos h2.1]
  have h3 := h2.2
  obtain ⟨ys, st3, ds, q1, q2, q3, q4⟩ := h3
  unfold gCallC
  rw [q1]
  dsimp only
  rw [if_pos q2, q3]
  dsimp only
  cases e : F ds with
  | ok a ios =>
    rw [e] at q4
    obtain ⟨st4, q5, q6⟩ := q4
    dsimp only
    rw [q5]
    exact q6
  | ex x ios =>
    rw [e] at q4
    obtain ⟨st4, q5, q6⟩ := q4
    dsimp only
    rw [q5]
    exact q6
  | no => rw [e] at q4; exact q4
end
end DL
end
section
/-! DM36: sorted of alike data (texts, whole numbers, tuples), any length; tuples of which the first is empty too. -/
namespace DL
open PySem PySem.Spec PyProof.Rows PySem.W PySem.SeqAt PySem.Calls L2
end DL
end
section
/-! DM37: sorted(xs) on data. -/
namespace DL
open PySem PySem.Spec PyProof.Rows PySem.W PySem.SeqAt PySem.Calls L2
/-! ### on data -/
end DL
end
section
/-! DM38: sorted(xs, key=len), xs a list of tuples. -/
namespace DL
open PySem PySem.Spec PyProof.Rows PySem.W PySem.SeqAt PySem.Calls L2
/-! ### on data -/
end DL
end
section
/-! DM39: sorted(xs, key=len); dict(pairs), dict(d); *e in displays; xs[::-1]; d.get(k, x). -/
namespace DL
open PySem PySem.Spec PyProof.Rows L2
/-! ### dict(..) -/
section
variable {X : Cx} {W : WX} {N : List Str} {sc : Scope} {full : Bool} {k : Nat} {e e2 e3 : Expr} {es : List Expr} {g g2 g3 : GE} {gs : GA} {pos p p1 p2 p3 kp apos : Pos}
/-! ### *e -/
def gStar (g : GE) (gs : GA) : GA := fun st => (g st).bind fun a st1 => match look st1 a with
  | some (.lst xs) => (gs st1).bind fun as st2 => .ok (xs.map .d ++ as) st2
  | some (.tup xs) => (gs st1).bind fun as st2 => .ok (xs.map .d ++ as) st2
  | _ => .no
theorem das (h : DE X W e g) (hr : DA X W es gs) (hs : starEach (.Starred e p :: es) X.env = (true, eval e X.env) :: starEach es X.env := by rfl) : DA X W (.Starred e p :: es) (gStar g gs) :=
  pa_imp (StX.pa_star h hr hs) fun σ H Q ⟨P, R, S, st, h, fi⟩ => ⟨P, R, S, st, h, Fin.imp (Fin.bind fi) fun a st1 S1 H1 e1 h1 k v rv => by
    obtain ⟨S2, e2, h2, pv⟩ := h1.settle rv
    cases el : look st1 a with
    | none => rw [el] at k; exact k.elim
    | some x =>
      rw [el] at k
      have rx := pv.look h2 el
      cases x with
      | lst xs =>
        dsimp only at k
        obtain ⟨b, bs, rfl, hb, rb⟩ := rx.lst h2.sub
        refine ⟨b, bs, rfl, .inr (SqL.of hb), ?_⟩
        refine ⟨P, R, S2, st1, h2, Fin.imp (Fin.bind (Fin.up k e2)) fun as st3 S3 H3 e3 h3 k3 vs pvs => ?_⟩
        exact k3 S3 H3 (Same.refl _) h3 (bs ++ vs) ((pvs_d (rb.mono e3)).append pvs)
      | tup xs =>
        dsimp only at k
        have rp : Rep (gx X) S2 v (.tup xs) := by
          rcases rx with r | ⟨a, o, _, _, t⟩
          · exact r
          · cases t
        obtain ⟨b, bs, rfl, hb, rb⟩ := rp.tupAt
        refine ⟨b, bs, rfl, .inl (h2.sub.tupAt hb).sq, ?_⟩
        refine ⟨P, R, S2, st1, h2, Fin.imp (Fin.bind (Fin.up k e2)) fun as st3 S3 H3 e3 h3 k3 vs pvs => ?_⟩
        exact k3 S3 H3 (Same.refl _) h3 (bs ++ vs) ((pvs_d (rb.mono e3)).append pvs)
      | _ => exact k.elim⟩
/-! ### xs[::-1] -/
def gRev (g : GE) : GE := fun st => (g st).bind fun a st1 => match look st1 a with
  | some (.lst xs) => .ok (.fr (.lst xs.reverse)) st1
  | _ => .no
theorem repAll_rev {G : Gx} {S : Hp} : ∀ {vs : List V} {ds : List D}, RepAll G S vs ds → RepAll G S vs.reverse ds.reverse
  | _, _, .nil => .nil
  | _, _, .cons h t => by
    rw [List.reverse_cons, List.reverse_cons]
    exact RepAll.append (repAll_rev t) (.cons h .nil)
theorem dgrev {n : Nat} (h : DE X W e g) : DE X W (.Subscript e (.Slice none none (some (.UnaryOp .USub (.Constant (.int 1) n p1) p2)) p3) pos) (gRev g) :=
  pe_imp (pe_revL h) fun σ H Q ⟨P, R, S, st, h, fi⟩ => ⟨P, R, S, st, h, Fin.imp (Fin.bind fi) fun a st1 S1 H1 e1 h1 k v rv => by
    obtain ⟨S2, e2, h2, pv⟩ := h1.settle rv
    cases el : look st1 a with
    | none => rw [el] at k; exact k.elim
    | some x =>
      rw [el] at k
      have rx := pv.look h2 el
      cases x with
      | lst xs =>
        obtain ⟨b, bs, rfl, hb, rb⟩ := rx.lst h2.sub
        refine ⟨b, bs, rfl, SqL.of hb, fun p np => ?_⟩
        obtain ⟨h3, f3⟩ := h2.alloc np (.lst (repAll_rev rb))
        exact k S2 _ e2 h3 _ f3
      | _ => exact k.elim⟩
/-! ### d.get(k, x) -/
def gGet2 (g g2 g3 : GE) : GE := fun st => (g st).bind fun a st1 => match look st1 a with
  | some (.dct _) => (g2 st1).bind fun b st2 => (g3 st2).bind fun c st3 => match look st3 a, look st3 b, take1 st3 c with
    | some (.dct ds), some y, some (z, st4) => (match keyOf y with
      | some kk => if headK ds = true then (match getD ds kk with
        | some x => .ok (.d x) st4
        | none => .ok (.d z) st4) else .no
      | none => .no)
    | _, _, _ => .no
  | _ => .no
theorem isD_rep {G : Gx} {P : Pin} {R S H : Hp} {σ : L2.St} {st : DS} {u : V} {ds : List (D × D)} (hs : StR G P R S H σ st) (hu : RepT G S H u (.dct ds)) : ∃ a, u = .ref a ∧ IsD H a := by
  rcases hu with hu | ⟨a, o, rfl, ha, t⟩
  · cases hu with
    | dK h r => exact ⟨_, rfl, .inl ⟨_, hs.sub.rd (.inl h)⟩⟩
    | dT h n r => exact ⟨_, rfl, .inr ⟨_, hs.sub.rd (.inl h)⟩⟩
  · cases t with
    | dK r => exact ⟨_, rfl, .inl ⟨_, .inl ha⟩⟩
    | dT n r => exact ⟨_, rfl, .inr ⟨_, .inl ha⟩⟩
theorem dget2 (v : Ev X W k) (h1 : DE X W e g) (h2 : DE X W e2 g2) (h3 : DE X W e3 g3) (m : M2 X e "get" apos e2 e3 pos := by exact ⟨rfl, rfl, rfl, rfl⟩) : DE X W (.Call (.Attribute e "get" apos) [e2, e3] [] pos) (gGet2 g g2 g3) :=
  pe_imp (pe_dget2 (by have := v.room.un; omega) h1 h2 h3 m) fun σ H Q ⟨P, R, S, st, h, fi⟩ => ⟨P, R, S, st, h, Fin.imp (Fin.bind fi) fun a st1 S1 H1 e1 h1 k v rv => by
    obtain ⟨S2, e2, h2, pv⟩ := h1.settle rv
    cases el : look st1 a with
    | none => rw [el] at k; exact k.elim
    | some x =>
      rw [el] at k
      cases x with
      | dct ds0 =>
        dsimp only at k
        obtain ⟨b, rfl, isd⟩ := isD_rep h2 (pv.look h2 el)
        refine ⟨b, rfl, isd, P, R, S2, st1, h2, Fin.imp (Fin.bind (Fin.up k e2)) fun ov st3 S3 H3 e3 h3 k3 w rw3 => ?_⟩
        obtain ⟨S4, e4, h4, pw⟩ := h3.settle rw3
        refine ⟨P, R, S4, st3, h4, Fin.imp (Fin.bind (Fin.up k3 e4)) fun ix st5 S5 H5 e5 h5 k5 u ru => ?_⟩
        obtain ⟨S6, e6, h6, pu⟩ := h5.settle ru
        split at k5
        · rename_i ds y z st7 q1 q2 q3
          split at k5
          · rename_i kk ek
            split at k5
            · rename_i hh
              obtain ⟨S7, e7, h7, r7⟩ := take1_ok h6 pu q3
              have pv6 := pv.mono (((e3.trans e4).trans e5).trans e6)
              have pw6 := pw.mono (e5.trans e6)
              obtain ⟨b', kvs, eb, rfl, dg, rk⟩ := dget_rep h6 (pw6.look h6 q2) (pv6.look h6 q1) ek hh
              cases eb
              have rk7 := rk.mono e7
              have vv := repKV_val (k := kk) rk7
              refine ⟨_, dg, ?_⟩
              cases ea : valV kvs kk with
              | none =>
                cases ed : getD ds kk with
                | none =>
                  rw [ed] at k5
                  exact k5 S7 _ (e6.trans e7) h7 _ r7
                | some d => rw [ea, ed] at vv; exact vv.elim
              | some x =>
                cases ed : getD ds kk with
                | none => rw [ea, ed] at vv; exact vv.elim
                | some d =>
                  rw [ed] at k5
                  rw [ea, ed] at vv
                  exact k5 S7 _ (e6.trans e7) h7 _ vv
            · exact k5.elim
          · exact k5.elim
        · exact k5.elim
      | _ => exact k.elim⟩
end
/-! ### their runs -/
section
variable {st st2 : DS} {Q : Val → DS → Prop} {E : Ex → DS → Prop} {g g2 g3 : GE} {gs : GA} {QA : List Val → DS → Prop} {a b c : Val}
def OSt (st : DS) (a : Val) (gs : GA) (QA : List Val → DS → Prop) (E : Ex → DS → Prop) : Prop := ∃ xs, (look st a = some (.lst xs) ∨ look st a = some (.tup xs)) ∧ (gs st).sat (fun as st2 => QA (xs.map .d ++ as) st2) E
theorem v_star (h : (g st).sat (fun a st1 => OSt st1 a gs QA E) E) : (gStar g gs st).sat QA E := by
  refine sat_bind (sat_imp h (fun a st1 h1 => ?_) fun _ _ z => z)
  obtain ⟨xs, h2 | h2, h3⟩ := h1
  · rw [h2]
    exact sat_bind (sat_imp h3 (fun as st2 z => z) fun _ _ z => z)
  · rw [h2]
    exact sat_bind (sat_imp h3 (fun as st2 z => z) fun _ _ z => z)
theorem o_starL {xs : List D} (h : look st a = some (.lst xs)) (h2 : (gs st).sat (fun as st2 => QA (xs.map .d ++ as) st2) E) : OSt st a gs QA E := ⟨xs, .inl h, h2⟩
theorem o_starT {xs : List D} (h : look st a = some (.tup xs)) (h2 : (gs st).sat (fun as st2 => QA (xs.map .d ++ as) st2) E) : OSt st a gs QA E := ⟨xs, .inr h, h2⟩
def ORv (st : DS) (a : Val) (Q : Val → DS → Prop) : Prop := ∃ xs, look st a = some (.lst xs) ∧ Q (.fr (.lst xs.reverse)) st
theorem v_rev (h : (g st).sat (fun a st1 => ORv st1 a Q) E) : (gRev g st).sat Q E := by
  refine sat_bind (sat_imp h (fun a st1 h1 => ?_) fun _ _ z => z)
  obtain ⟨xs, h2, h3⟩ := h1
  rw [h2]
  exact h3
theorem o_rev {xs : List D} (h : look st a = some (.lst xs)) (h2 : Q (.fr (.lst xs.reverse)) st) : ORv st a Q := ⟨xs, h, h2⟩
def getOr (ds : List (D × D)) (k : Key) (z : D) : D := (getD ds k).getD z
def OGt (st1 : DS) (a : Val) (g2 g3 : GE) (Q : Val → DS → Prop) (E : Ex → DS → Prop) : Prop := (∃ ds, look st1 a = some (.dct ds)) ∧ (g2 st1).sat (fun b st2 => (g3 st2).sat (fun c st3 => ∃ ds y z st4 kk, look st3 a = some (.dct ds) ∧ look st3 b = some y ∧ take1 st3 c = some (z, st4) ∧ keyOf y = some kk ∧ headK ds = true ∧ Q (.d (getOr ds kk z)) st4) E) E
theorem v_get2 (h : (g st).sat (fun a st1 => OGt st1 a g2 g3 Q E) E) : (gGet2 g g2 g3 st).sat Q E := by
  refine sat_bind (sat_imp h (fun a st1 h1 => ?_) fun _ _ z => z)
  obtain ⟨⟨ds0, q0⟩, h2⟩ := h1
  rw [q0]
  dsimp only
  refine sat_bind (sat_imp h2 (fun b st2 h3 => ?_) fun _ _ z => z)
  refine sat_bind (sat_imp h3 (fun c st3 h4 => ?_) fun _ _ z => z)
  obtain ⟨ds, y, z, st4, kk, q1, q2, q3, q4, q5, q6⟩ := h4
  rw [q1, q2, q3]
  dsimp only
  rw [q4]
  dsimp only
  rw [if_pos q5]
  unfold getOr at q6
  cases e : getD ds kk with
  | none => rw [e] at q6; exact q6
  | some x => rw [e] at q6; exact q6
end
end DL
end
section
/-! DM40: [.. for .. in xs if ..], xs a name whose list is changed later on. -/
namespace DL
open PySem PySem.Spec PyProof.Rows L2
def lstOf : Slot → Option (List D)
  | .ow (.lst ds) => some ds
  | .io (.lst ds) => some ds
  | _ => none
theorem lstOf_owns {st : DS} {i : Nat} {s : Slot} {ds : List D} (e : st[i]? = some s) (h : lstOf s = some ds) : Owns st i (.lst ds) := by
  cases s with
  | no => cases h
  | sh d => cases h
  | ow d =>
    cases d with
    | lst xs => cases h; exact .inl e
    | _ => cases h
  | io d =>
    cases d with
    | lst xs => cases h; exact .inr e
    | _ => cases h
theorem owns_set {st : DS} {i j : Nat} {s : Slot} {d : D} (h : Owns (st.set i s) j d) (hj : j ≠ i) : Owns st j d := by
  unfold Owns at h ⊢
  rw [List.getElem?_set_ne fun z => hj z.symm] at h
  exact h
theorem owns_no {st : DS} {i j : Nat} {d : D} (h : Owns (st.set i .no) j d) : Owns st j d ∧ j ≠ i := by
  have hj : j ≠ i := fun z => by
    subst z
    by_cases hi : j < st.length
    · rcases h with h | h <;> (rw [List.getElem?_set_self hi] at h; cases h)
    · have e : (st.set j .no)[j]? = none := List.getElem?_eq_none (by rw [List.length_set]; omega)
      rcases h with h | h <;> (rw [e] at h; cases h)
  exact ⟨owns_set h hj, hj⟩
section
variable {G : Gx} {P : Pin} {R S H : Hp} {σ : L2.St} {st : DS}
theorem StR.lock (h : StR G P R S H σ st) {i : Nat} {ds : List D} {s : Slot} (e : st[i]? = some s) (hs : lstOf s = some ds) :
    ∃ a vs, σ[i]? = some (some (.ref a)) ∧ H a = some (.lst vs) ∧ RepAll G S vs ds ∧ R a = none ∧ S a = none ∧ (∀ d, s = .io d → P i = some a) ∧ StR G P (upd R a (.lst vs)) S H σ (st.set i .no) := by
  have ow := lstOf_owns e hs
  obtain ⟨a, o, hv, ha, t, sa, ra⟩ := h.own i _ ow
  cases t with
  | @lst vs _ r =>
    refine ⟨a, vs, hv, ha, r, ra, sa, fun d ed => ?_, ⟨by rw [List.length_set]; exact h.len, h.tab, h.sub, fun j d q => ?_, fun j d q => ?_, fun j k d e' b q1 q2 q3 q4 => ?_, fun j d q => ?_, fun b u q => ?_⟩⟩
    · subst ed
      obtain ⟨b, p1, p2⟩ := h.pin i d e
      rw [hv] at p2
      cases p2
      exact p1
    · have hj : i ≠ j := fun z => by
        subst z
        rw [List.getElem?_set_self (List.getElem?_eq_some_iff.mp e).1] at q
        cases q
      rw [List.getElem?_set_ne hj] at q
      exact h.val j d q
    · obtain ⟨q', hj⟩ := owns_no q
      obtain ⟨b, u, q1, q2, q3, q4, q5⟩ := h.own j d q'
      have hb : b ≠ a := fun z => by
        subst z
        exact hj (h.inj j i _ _ _ q' ow q1 hv)
      exact ⟨b, u, q1, q2, q3, q4, by rw [upd_ne hb]; exact q5⟩
    · exact h.inj j k d e' b (owns_no q1).1 (owns_no q2).1 q3 q4
    · have hj : i ≠ j := fun z => by
        subst z
        rw [List.getElem?_set_self (List.getElem?_eq_some_iff.mp e).1] at q
        cases q
      rw [List.getElem?_set_ne hj] at q
      exact h.pin j d q
    · by_cases hb : b = a
      · subst hb; rw [upd_same] at q; cases q; exact ⟨ha, .inl sa⟩
      · rw [upd_ne hb] at q; exact h.frm b u q
end
def gLcO (vs : List Nat) (i : Nat) (ag : AG) (tt : GT) (ge : GE) : GE := fun st => match st[i]? with
  | some (.sh _) => gLc vs (gIter (gVar i)) ag tt ge st
  | some s => (match lstOf s with
    | some ds => if (vs.all fun j => plainS (st.set i .no)[j]?) = true then (match runLc vs ag tt ge ds (wipeD (st.set i .no) vs) [] with
      | some (xs, st2) => if (st.set i .no).length = st2.length then .ok (.fr (.lst xs)) ((restD (st.set i .no) st2 vs).set i s) else .no
      | none => .no) else .no
    | none => .no)
  | none => .no
/-! ### its run -/
section
variable {st : DS} {Q : Val → DS → Prop} {E : Ex → DS → Prop}
theorem v_lcO {vs : List Nat} {i : Nat} {ag : AG} {tt : GT} {ge : GE} {ds : List D} {s : Slot} {st1 : DS} (h1 : st[i]? = some s) (h2 : lstOf s = some ds) (h3 : st.set i .no = st1) (h : OLc vs ag tt ge ds st1 fun a st2 => Q a (st2.set i s)) : (gLcO vs i ag tt ge st).sat Q E := by
  subst h3
  obtain ⟨q1, xs, st2, q2, q3, q4⟩ := h
  unfold gLcO
  cases s with
  | sh d => cases h2
  | no => cases h2
  | ow d =>
    rw [h1]
    dsimp only
    rw [h2]
    dsimp only
    rw [if_pos q1, q2]
    dsimp only
    rw [if_pos q3]
    exact q4
  | io d =>
    rw [h1]
    dsimp only
    rw [h2]
    dsimp only
    rw [if_pos q1, q2]
    dsimp only
    rw [if_pos q3]
    exact q4
end
end DL
end
section
/-! DM41: text * a negative whole number. -/
namespace DL
open PySem PySem.Spec PyProof.Rows L2
end DL
end
section
/-! DM42: sorted(d) of a dict of texts, any size; d.get(k). -/
namespace DL
open PySem PySem.Spec PyProof.Rows PySem.W PySem.SeqAt PySem.Calls L2
/-! ### on data -/
section
variable {X : Cx} {W : WX} {N : List Str} {sc : Scope} {full : Bool} {k : Nat} {e e2 : Expr} {es : List Expr} {gs : GA} {g g2 : GE} {pos p apos : Pos}
/-! ### d.get(k) -/
def gGet1 (g g2 : GE) : GE := fun st => (g st).bind fun a st1 => match look st1 a with
  | some (.dct _) => (g2 st1).bind fun b st2 => match look st2 a, look st2 b with
    | some (.dct ds), some y => (match keyOf y with
      | some kk => if headK ds = true then .ok (.d ((getD ds kk).getD .non)) st2 else .no
      | none => .no)
    | _, _ => .no
  | _ => .no
theorem dget1 (v : Ev X W k) (h1 : DE X W e g) (h2 : DE X W e2 g2) (m : M1 X e "get" apos e2 pos := by exact ⟨rfl, rfl, rfl, rfl⟩) : DE X W (.Call (.Attribute e "get" apos) [e2] [] pos) (gGet1 g g2) :=
  pe_imp (pe_dget1 (by have := v.room.un; omega) h1 h2 m) fun σ H Q ⟨P, R, S, st, h, fi⟩ => ⟨P, R, S, st, h, Fin.imp (Fin.bind fi) fun a st1 S1 H1 e1 h1 k v rv => by
    obtain ⟨S2, e2, h2, pv⟩ := h1.settle rv
    cases el : look st1 a with
    | none => rw [el] at k; exact k.elim
    | some x =>
      rw [el] at k
      cases x with
      | dct ds0 =>
        dsimp only at k
        obtain ⟨b, rfl, isd⟩ := isD_rep h2 (pv.look h2 el)
        refine ⟨b, rfl, isd, P, R, S2, st1, h2, Fin.imp (Fin.bind (Fin.up k e2)) fun ov st3 S3 H3 e3 h3 k3 w rw3 => ?_⟩
        obtain ⟨S4, e4, h4, pw⟩ := h3.settle rw3
        split at k3
        · rename_i ds y q1 q2
          split at k3
          · rename_i kk ek
            split at k3
            · rename_i hh
              have pv4 := pv.mono (e3.trans e4)
              obtain ⟨b', kvs, eb, rfl, dg, rk⟩ := dget_rep h4 (pw.look h4 q2) (pv4.look h4 q1) ek hh
              cases eb
              have vv := repKV_val (k := kk) rk
              refine ⟨_, dg, ?_⟩
              cases ea : valV kvs kk with
              | none =>
                cases ed : getD ds kk with
                | none =>
                  rw [ed] at k3
                  exact k3 S4 _ e4 h4 _ .non
                | some d => rw [ea, ed] at vv; exact vv.elim
              | some x =>
                cases ed : getD ds kk with
                | none => rw [ea, ed] at vv; exact vv.elim
                | some d =>
                  rw [ed] at k3
                  rw [ea, ed] at vv
                  exact k3 S4 _ e4 h4 _ vv
            · exact k3.elim
          · exact k3.elim
        · exact k3.elim
      | _ => exact k.elim⟩
end
/-! ### text.index(sign), where it is found -/
/-! ### its runs -/
section
variable {st st2 : DS} {Q : Val → DS → Prop} {E : Ex → DS → Prop} {g g2 : GE} {a b : Val}
def OGb (ds : List (D × D)) (st2 : DS) (a b : Val) (Q : Val → DS → Prop) : Prop := ∃ y kk, look st2 a = some (.dct ds) ∧ look st2 b = some y ∧ keyOf y = some kk ∧ headK ds = true ∧ Q (.d ((getD ds kk).getD .non)) st2
def OG1 (st1 : DS) (a : Val) (g2 : GE) (Q : Val → DS → Prop) (E : Ex → DS → Prop) : Prop := ∃ ds, look st1 a = some (.dct ds) ∧ (g2 st1).sat (fun b st2 => OGb ds st2 a b Q) E
theorem v_get1 (h : (g st).sat (fun a st1 => OG1 st1 a g2 Q E) E) : (gGet1 g g2 st).sat Q E := by
  refine sat_bind (sat_imp h (fun a st1 h1 => ?_) fun _ _ z => z)
  obtain ⟨ds0, q0, h2⟩ := h1
  rw [q0]
  dsimp only
  refine sat_bind (sat_imp h2 (fun b st2 h3 => ?_) fun _ _ z => z)
  obtain ⟨y, kk, q1, q2, q4, q5, q6⟩ := h3
  rw [q1, q2]
  dsimp only
  rw [q4]
  dsimp only
  rw [if_pos q5]
  exact q6
theorem o_g1 {ds : List (D × D)} (h : look st a = some (.dct ds)) (h2 : (g2 st).sat (fun b st2 => OGb ds st2 a b Q) E) : OG1 st a g2 Q E := ⟨ds, h, h2⟩
theorem o_gb {ds : List (D × D)} {y z : D} {kk : Key} (h1 : look st2 a = some (.dct ds)) (h2 : look st2 b = some y) (h3 : keyOf y = some kk) (h4 : headK ds = true) (h5 : (getD ds kk).getD .non = z) (h6 : Q (.d z) st2) : OGb ds st2 a b Q := ⟨y, kk, h1, h2, h3, h4, by rw [h5]; exact h6⟩
end
end DL
end
section
/-! DM43: a call by a name that holds a def; name += e, name -= e on whole numbers. -/
namespace DL
open PySem PySem.Spec PyProof.Rows L2
theorem lookup_mem {α β : Type} [BEq α] [LawfulBEq α] {x : α} {y : β} : ∀ {l : List (α × β)}, l.lookup x = some y → (x, y) ∈ l
  | [], h => by cases h
  | (a, b) :: l, h => by
    rw [List.lookup_cons] at h
    cases e : x == a with
    | true =>
      rw [e] at h
      cases h
      rw [beq_iff_eq.mp e]
      exact List.mem_cons_self
    | false => rw [e] at h; exact List.mem_cons_of_mem _ (lookup_mem h)
section
variable {X : Cx} {W : WX} {N : List Str} {sc : Scope} {full : Bool} {k : Nat} {e : Expr} {es : List Expr} {gs : GA} {g : GE} {pos p : Pos}
/-! ### name += e on whole numbers -/
def sAugI (f : Int → Int → Int) (i : Nat) (g : GE) : GS := fun st => match st[i]? with
  | some (.sh (.int a)) => (g st).bindS fun b st1 => (match look st1 b with
    | some (.int y) => if i < st1.length then .nx (st1.set i (.sh (.int (f a y)))) else .no
    | _ => .no)
  | _ => .no
theorem daug_of {f : Int → Int → Int} {op : Operator} {x : Str} {p' : Pos} (c : Cs X N sc full) (i : Nat) (hop : OpR X (inplaceOp op) (rI0 fun a b => .int (f a b))) (he : DE X W e g) (h : N[i]? = some x) (hl : LocB sc full x) :
    DSt X W (.AugAssign (.Name x p') op e pos) (sAugI f i g) :=
  ps_imp (ps_aug (by rw [c.n]; exact c.nd) (by rw [c.n]; exact h) (by rw [c.s]; exact hl.loc) he hop (c.fn hl)) fun E σ H ⟨P, R, S, st, h0, fi⟩ => by
    unfold sAugI at fi
    split at fi
    · rename_i a hst
      obtain ⟨w, hw, rw'⟩ := h0.val i _ hst
      cases rw'
      refine ⟨.int a, hw, P, R, S, st, h0, Fin.imp (Fin.bindS (σ := σ) fi) fun b st1 S1 H1 e1 h1 k v rv => ?_⟩
      obtain ⟨S2, e2, h2, pv⟩ := h1.settle rv
      split at k
      · rename_i y eb
        split at k
        · rename_i hi
          have hv := (pv.look h2 eb).int
          subst hv
          exact ⟨a, y, rfl, rfl, k _ S2 H1 e2 (h2.setSh (.int _) hi)⟩
        · exact k.elim
      · exact k.elim
    · exact fi.elim
theorem dauga {x : Str} {p' : Pos} (c : Cs X N sc full) (i : Nat) (he : DE X W e g) (h : N[i]? = some x := by rfl) (hl : LocB sc full x := by first | exact Or.inl rfl | exact Or.inr ⟨rfl, rfl⟩) : DSt X W (.AugAssign (.Name x p') .Add e pos) (sAugI (fun a b => a + b) i g) := daug_of c i iop_add he h hl
end
/-! ### their runs -/
section
variable {st : DS} {Q : Val → DS → Prop} {E : Ex → DS → Prop} {g : GE} {Z : SE}
def OAug (f : Int → Int → Int) (i : Nat) (a : Int) (st1 : DS) (b : Val) (N : DS → Prop) : Prop := ∃ y, look st1 b = some (.int y) ∧ i < st1.length ∧ N (st1.set i (.sh (.int (f a y))))
theorem v_aug {f : Int → Int → Int} {i : Nat} {a : Int} (hs : st[i]? = some (.sh (.int a))) (h : (g st).sat (fun b st1 => OAug f i a st1 b Z.nx) Z.ex) : (sAugI f i g st).sat Z := by
  unfold sAugI
  rw [hs]
  dsimp only
  refine sat_bindS (sat_imp h (fun b st1 h1 => ?_) fun _ _ z => z)
  obtain ⟨y, h2, h3, h4⟩ := h1
  rw [h2]
  dsimp only
  rw [if_pos h3]
  exact h4
theorem o_aug {f : Int → Int → Int} {i : Nat} {a y : Int} {b : Val} {st2 : DS} {N : DS → Prop} (h1 : look st b = some (.int y)) (h2 : i < st.length) (h3 : st.set i (.sh (.int (f a y))) = st2) (h4 : N st2) : OAug f i a st b N := ⟨y, h1, h2, by rw [h3]; exact h4⟩
end
end DL
end
section
/-! DM44: list.index(x) where it is found, by deep ==. -/
namespace DL
open PySem PySem.Spec PyProof.Rows L2
/-! ### its runs -/
end DL
end
section
/-! DM45: xs.pop(); for k, v in d.items(). -/
namespace DL
open PySem PySem.Spec PyProof.Rows L2
def gPop0 (i : Nat) : GE := fun st => match cont st i with
  | some (.lst xs) => (match xs[xs.length - 1]? with
    | some y => .ok (.d y) (setC st i (.lst xs.dropLast))
    | none => .no)
  | _ => .no
section
variable {X : Cx} {W : WX} {N : List Str} {sc : Scope} {full : Bool} {k : Nat} {e : Expr} {es : List Expr} {gs : GA} {g : GE} {pos p : Pos}
/-! ### d.items() -/
def pairD (p : D × D) : D := .tup [p.1, p.2]
def gItm (g : GE) : GI := fun st => (g st).bind fun a st1 => match take1 st1 a with
  | some (x, st2) => (match x with
    | .dct ds => if (ds.all fun p => isKD p.1) = true then .ok (ds.map pairD) st2 else .no
    | _ => .no)
  | none => .no
end
/-! ### their runs -/
section
variable {st st1 st2 : DS} {Q : Val → DS → Prop} {QI : List D → DS → Prop} {E : Ex → DS → Prop} {g : GE} {a : Val}
theorem v_pop0 {i : Nat} {xs ys : List D} {y : D} (h1 : cont st i = some (.lst xs)) (h2 : xs = ys ++ [y]) (h3 : setC st i (.lst ys) = st2) (h4 : Q (.d y) st2) : (gPop0 i st).sat Q E := by
  unfold gPop0
  rw [h1]
  subst h2
  dsimp only
  rw [show (ys ++ [y])[(ys ++ [y]).length - 1]? = some y by
    rw [List.length_append, List.length_singleton, Nat.add_sub_cancel, List.getElem?_append_right (Nat.le_refl _), Nat.sub_self]; rfl]
  dsimp only
  rw [List.dropLast_concat, h3]
  exact h4
def OItm (st1 : DS) (a : Val) (QI : List D → DS → Prop) : Prop := ∃ ds st2, take1 st1 a = some (.dct ds, st2) ∧ (ds.all fun p => isKD p.1) = true ∧ QI (ds.map pairD) st2
theorem v_itm (h : (g st).sat (fun a st1 => OItm st1 a QI) E) : (gItm g st).sat QI E := by
  refine sat_bind (sat_imp h (fun a st1 h1 => ?_) fun _ _ z => z)
  obtain ⟨ds, st2, h2, h3, h4⟩ := h1
  rw [h2]
  dsimp only
  rw [if_pos h3]
  exact h4
theorem o_itm {ds : List (D × D)} {ps : List D} (h1 : take1 st a = some (.dct ds, st2)) (h2 : (ds.all fun p => isKD p.1) = true) (h3 : ds.map pairD = ps) (h4 : QI ps st2) : OItm st a QI := ⟨ds, st2, h1, h2, by rw [h3]; exact h4⟩
end
end DL
end
section
/-! DM46: dicts with tuples as keys: d[k] = v, d[k], k in d, for k in d, list(d), list(d.items()). -/
namespace DL
open PySem PySem.Spec PyProof.Rows L2
def eqKs : List Key → List D → Bool
  | [], [] => true
  | k :: ks, d :: ds => isK k d && eqKs ks ds
  | _, _ => false
def isTK (k : List Key) : D → Bool
  | .tup xs => eqKs k xs
  | _ => false
def tkeysOf : List D → Option (List Key)
  | [] => some []
  | d :: ds => match keyOf d, tkeysOf ds with
    | some k, some ks => some (k :: ks)
    | _, _ => none
def keyTOf : D → Option (List Key)
  | .tup xs => if xs.length < 7 then tkeysOf xs else none
  | _ => none
def keyTD (k : List Key) : D := .tup (k.map keyD)
def putDT (ds : List (D × D)) (k : List Key) (v : D) : List (D × D) := if (ds.any fun p => isTK k p.1) = true then ds.map (fun p => if isTK k p.1 = true then (p.1, v) else p) else ds ++ [(keyTD k, v)]
/-- no keys, or the first one is a tuple -/
def headT : List (D × D) → Bool
  | [] => true
  | p :: _ => match p.1 with
    | .tup _ => true
    | _ => false
/-! ### d[k] = v -/
def sDPutT (ge go gi : GE) : GS := fun st => (ge st).bindS fun a st1 => (go st1).bindS fun ov st2 => (gi st2).bindS fun ix st3 => match take1 st3 a, ov with
  | some (v, st4), .sl i => (match cont st4 i, look st4 ix with
    | some (.dct ds), some y => (match keyTOf y with
      | some k => if (decide (ds.length < 100000) && headT ds) = true then .nx (setC st4 i (.dct (putDT ds k v))) else .no
      | none => .no)
    | _, _ => .no)
  | _, _ => .no
section
variable {X : Cx} {W : WX} {k : Nat} {pos pos' p apos cpos : Pos} {e eo ei : Expr} {ge go gi g : GE}
/-! ### d[k], k in d -/
def neD (ds : List (D × D)) : Bool := !ds.isEmpty
end
/-! ### for k in d -/
def gIterT (g : GE) : GI := fun st => (g st).bind fun a st1 => match take1 st1 a with
  | some (x, st2) => (match x with
    | .dct ds => if headT ds = true then .ok (ds.map (·.1)) st2 else .no
    | _ => .no)
  | none => .no
/-! ### their runs -/
section
variable {st st1 st2 : DS} {Q : Val → DS → Prop} {QI : List D → DS → Prop} {E : Ex → DS → Prop} {g ge go gi : GE} {a ov ix : Val} {Z : SE}
def OItT (st1 : DS) (a : Val) (QI : List D → DS → Prop) : Prop := ∃ ds st2, take1 st1 a = some (.dct ds, st2) ∧ headT ds = true ∧ QI (ds.map (·.1)) st2
theorem v_itT (h : (g st).sat (fun a st1 => OItT st1 a QI) E) : (gIterT g st).sat QI E := by
  refine sat_bind (sat_imp h (fun a st1 h1 => ?_) fun _ _ z => z)
  obtain ⟨ds, st2, h2, h3, h4⟩ := h1
  rw [h2]
  dsimp only
  rw [if_pos h3]
  exact h4
theorem o_itT {ds : List (D × D)} {ps : List D} (h1 : take1 st a = some (.dct ds, st2)) (h2 : headT ds = true) (h3 : ds.map (·.1) = ps) (h4 : QI ps st2) : OItT st a QI := ⟨ds, st2, h1, h2, by rw [h3]; exact h4⟩
def OPutT (st : DS) (a ov ix : Val) (N : DS → Prop) : Prop := ∃ v st4 i ds y k, take1 st a = some (v, st4) ∧ ov = .sl i ∧ cont st4 i = some (.dct ds) ∧ look st4 ix = some y ∧ keyTOf y = some k ∧ (decide (ds.length < 100000) && headT ds) = true ∧ N (setC st4 i (.dct (putDT ds k v)))
theorem v_dputT (h : (ge st).sat (fun a st1 => (go st1).sat (fun ov st2 => (gi st2).sat (fun ix st3 => OPutT st3 a ov ix Z.nx) Z.ex) Z.ex) Z.ex) : (sDPutT ge go gi st).sat Z := by
  refine sat_bindS (sat_imp h (fun a st1 h1 => sat_bindS (sat_imp h1 (fun ov st2 h2 => sat_bindS (sat_imp h2 (fun ix st3 h3 => ?_) fun _ _ z => z)) fun _ _ z => z)) fun _ _ z => z)
  obtain ⟨v, st4, i, ds, y, k, e1, rfl, e2, e3, e4, e5, e6⟩ := h3
  rw [e1]
  dsimp only
  rw [e2, e3]
  dsimp only
  rw [e4]
  dsimp only
  rw [if_pos e5]
  exact e6
theorem o_dputT {v : D} {st4 st5 : DS} {i : Nat} {ds es : List (D × D)} {y : D} {k : List Key} {N : DS → Prop} (h1 : take1 st a = some (v, st4)) (h2 : ov = .sl i) (h3 : cont st4 i = some (.dct ds)) (h4 : look st4 ix = some y) (h5 : keyTOf y = some k) (h6 : (decide (ds.length < 100000) && headT ds) = true) (h7 : putDT ds k v = es) (h8 : setC st4 i (.dct es) = st5) (h9 : N st5) : OPutT st a ov ix N :=
  ⟨v, st4, i, ds, y, k, h1, h2, h3, h4, h5, h6, by rw [h7, h8]; exact h9⟩
end
end DL
end
section
/-! DM47: list(d), list(d.items()) of a dict with tuples as keys. -/
namespace DL
open PySem PySem.Spec PyProof.Rows L2
/-! ### list(d) -/
/-! ### list(d.items()) -/
def gListItT (g : GE) : GE := fun st => (g st).bind fun a st1 => match look st1 a with
  | some (.dct ds) => if (headT ds && neD ds) = true then .ok (.fr (.lst (ds.map pairD))) st1 else .no
  | _ => .no
/-! ### its run -/
section
variable {st st1 : DS} {Q : Val → DS → Prop} {E : Ex → DS → Prop} {g : GE} {a : Val}
def OLIt (st1 : DS) (a : Val) (Q : Val → DS → Prop) : Prop := ∃ ds, look st1 a = some (.dct ds) ∧ (headT ds && neD ds) = true ∧ Q (.fr (.lst (ds.map pairD))) st1
theorem v_listIt (h : (g st).sat (fun a st1 => OLIt st1 a Q) E) : (gListItT g st).sat Q E := by
  refine sat_bind (sat_imp h (fun a st1 h1 => ?_) fun _ _ z => z)
  obtain ⟨ds, h2, h3, h4⟩ := h1
  rw [h2]
  dsimp only
  rw [if_pos h3]
  exact h4
theorem o_listIt {ds : List (D × D)} {ps : List D} (h1 : look st a = some (.dct ds)) (h2 : (headT ds && neD ds) = true) (h3 : ds.map pairD = ps) (h4 : Q (.fr (.lst ps)) st) : OLIt st a Q := ⟨ds, h1, h2, by rw [h3]; exact h4⟩
end
end DL
end
section
/-! DM48: len(d). -/
namespace DL
open PySem PySem.Spec PyProof.Rows L2
def lenD : FL
  | [.dct ds] => if headK ds = true then vi (ds.length : Nat) else none
  | _ => none
end DL
end
section
/-! DM49: x not in a list, by deep ==. -/
namespace DL
open PySem PySem.Spec PyProof.Rows L2
end DL
end
section
/-! DM50: t + u of tuples. -/
namespace DL
open PySem PySem.Spec PyProof.Rows L2
end DL
end
section
/-! DM51: sum of a list or a tuple of whole numbers. -/
namespace DL
open PySem PySem.Spec PyProof.Rows L2
end DL
end
section
/-! DM52: list(text). -/
namespace DL
open PySem PySem.Spec PyProof.Rows L2
end DL
end
section
set_option maxHeartbeats 8000000
/-! DM53: raise C(), C's own __init__(self) handing a text on to super(): an exception without fields. -/
namespace DL
open PySem PySem.Spec PyProof.Rows L2
/-! ### __init__(self): super().__init__('..') -/
/-! ### raise C() on data -/
end DL
end
section
/-! DM54: defs whose parameters have defaults, called with all arguments given. -/
namespace DL
open PySem PySem.Spec PyProof.Rows L2
def DOfV (P : Program) (w : World) (K : PySem.W.Frag) (mg : Str → Option Value) (base : Heap) (k : Nat) (x : Str) (st : Stmt) (ps : List Str) (ms : List Bool) (F : FnD) : Prop := DOk P w K mg base k x ps ms F
theorem DOfV.ok {P : Program} {w : World} {K : PySem.W.Frag} {mg : Str → Option Value} {base : Heap} {k : Nat} {x : Str} {st : Stmt} {ps : List Str} {ms : List Bool} {F : FnD} (h : DOfV P w K mg base k x st ps ms F) : DOk P w K mg base k x ps ms F := h
/-! ### what is not told -/
end DL
end
section
/-! DM55: rows = [[0, 0] for p in range(m)] and for p, b in told: rows[p][b] += 1, the rows told as shared behind the two statements. -/
namespace DL
open PySem PySem.Spec PyProof.Rows L2
def rowO (r : Int × Int) : HO := .lst [.int r.1, .int r.2]
/-- what is held: the outer list at L, the rows at as -/
structure Held (R1 R2 : Hp) (L : Addr) (as : List Addr) (rows : List (Int × Int)) : Prop where
  sub : Same R1 R2
  len : as.length = rows.length
  at_ : ∀ (k : Nat) (a : Addr) (r : Int × Int), as[k]? = some a → rows[k]? = some r → R2 a = some (rowO r)
  new : ∀ a ∈ as, R1 a = none ∧ a ≠ L
  nd : as.Nodup
  lst : R2 L = some (.lst (as.map V.ref))
  out : R1 L = none
/-! ### x[k] by values -/
theorem Held.mono {R1 R2 R3 : Hp} {L : Addr} {as : List Addr} {rows : List (Int × Int)} (h : Held R1 R2 L as rows) (e : Same R2 R3) : Held R1 R3 L as rows :=
  ⟨h.sub.trans e, h.len, fun k a r e1 e2 => e _ _ (h.at_ k a r e1 e2), h.new, h.nd, e _ _ h.lst, h.out⟩
theorem Held.snoc {R1 R2 : Hp} {L a : Addr} {as : List Addr} {rows : List (Int × Int)} {r : Int × Int} (h : Held R1 R2 L as rows) (ra : R2 a = none) : Held R1 (upd (upd R2 a (rowO r)) L (.lst (as.map V.ref ++ [.ref a]))) L (as ++ [a]) (rows ++ [r]) := by
  have nL : a ≠ L := fun z => by rw [z, h.lst] at ra; cases ra
  have r1 : R1 a = none := by
    cases q : R1 a with
    | none => rfl
    | some o => rw [h.sub _ _ q] at ra; cases ra
  have nin : a ∉ as := fun hm => by
    obtain ⟨k, hk, e⟩ := List.getElem_of_mem hm
    have e1 : as[k]? = some a := by rw [List.getElem?_eq_getElem hk, e]
    have hk2 : k < rows.length := by rw [← h.len]; exact hk
    rw [h.at_ k a _ e1 (List.getElem?_eq_getElem hk2)] at ra
    cases ra
  refine ⟨fun b o q => ?_, by rw [List.length_append, List.length_append, h.len]; rfl, fun k b r' e1 e2 => ?_, fun b hb => ?_, ?_, by rw [upd_same, List.map_append]; rfl, h.out⟩
  · have nb : b ≠ L := fun z => by rw [z, h.out] at q; cases q
    have nb2 : b ≠ a := fun z => by rw [z, r1] at q; cases q
    rw [upd_ne nb, upd_ne nb2]
    exact h.sub b o q
  · by_cases hk : k < as.length
    · rw [List.getElem?_append_left hk] at e1
      rw [List.getElem?_append_left (by rw [← h.len]; exact hk)] at e2
      have hm := List.mem_of_getElem? e1
      have nb : b ≠ a := fun z => nin (by rw [← z]; exact hm)
      rw [upd_ne (h.new b hm).2, upd_ne nb]
      exact h.at_ k b r' e1 e2
    · have hk2 : k < (as ++ [a]).length := (List.getElem?_eq_some_iff.mp e1).1
      rw [List.length_append, List.length_singleton] at hk2
      have hk3 : k = as.length := by omega
      subst hk3
      rw [List.getElem?_append_right (Nat.le_refl _), Nat.sub_self] at e1
      rw [h.len, List.getElem?_append_right (Nat.le_refl _), Nat.sub_self] at e2
      cases e1
      cases e2
      rw [upd_ne nL, upd_same]
  · rcases List.mem_append.mp hb with hb | hb
    · exact h.new b hb
    · rw [List.mem_singleton.mp hb]; exact ⟨r1, nL⟩
  · rw [List.nodup_append]
    exact ⟨h.nd, by simp, fun x hx y hy z => nin (by rw [List.mem_singleton.mp hy] at z; rw [← z]; exact hx)⟩
theorem Held.set {R1 R2 : Hp} {L a : Addr} {as : List Addr} {rows : List (Int × Int)} {r r' : Int × Int} {j : Nat} (h : Held R1 R2 L as rows) (ea : as[j]? = some a) (er : rows[j]? = some r) : Held R1 (upd R2 a (rowO r')) L as (rows.set j r') := by
  have hm := List.mem_of_getElem? ea
  obtain ⟨n1, n2⟩ := h.new a hm
  have hj : j < rows.length := (List.getElem?_eq_some_iff.mp er).1
  refine ⟨fun b o q => ?_, by rw [List.length_set]; exact h.len, fun k b s e1 e2 => ?_, h.new, h.nd, by rw [upd_ne n2.symm]; exact h.lst, h.out⟩
  · rw [upd_ne (fun z => by rw [z, n1] at q; cases q)]
    exact h.sub b o q
  · by_cases hk : j = k
    · subst hk
      rw [ea] at e1
      cases e1
      rw [List.getElem?_set_self hj] at e2
      cases e2
      exact upd_same
    · rw [List.getElem?_set_ne hk] at e2
      have nb : b ≠ a := fun z => by
        subst z
        have hj2 := (List.getElem?_eq_some_iff.mp ea).1
        exact hk ((List.getElem?_inj hj2 h.nd).mp (ea.trans e1.symm))
      rw [upd_ne nb]
      exact h.at_ k b s e1 e2
/-! ### the two statements -/
end DL
end
section
/-! DM56: list.count(k) on a list of whole numbers. -/
namespace DL
open PySem PySem.Spec PyProof.Rows L2
end DL
end
section
/-! HX: what the top leaves, looked at by one run in the kernel: facts of defs, methods, classes, exceptions, constants, over a fragment that is never written out. -/
namespace HX
open PySem PySem.Spec PyProof.Rows L2 DL
/-! ### lists of facts -/
structure Fct where
  α : Type
  obs : PySem.W.Frag → α
  val : α
def ObsT : List Fct → Type
  | [] => Unit
  | f :: r => f.α × ObsT r
def obsL : (l : List Fct) → PySem.W.Frag → ObsT l
  | [], _ => ()
  | f :: r, K => (f.obs K, obsL r K)
def valL : (l : List Fct) → ObsT l
  | [] => ()
  | f :: r => (f.val, valL r)
def SaysX (l : List Fct) (K : PySem.W.Frag) : Prop := obsL l K = valL l
theorem SaysX.get : ∀ {l : List Fct} {K : PySem.W.Frag} {i : Nat} {f : Fct}, SaysX l K → l[i]? = some f → f.obs K = f.val
  | f :: r, K, 0, g, h, e => by
    cases e
    exact congrArg Prod.fst h
  | f :: r, K, i + 1, g, h, e => SaysX.get (l := r) (congrArg Prod.snd h) (by simpa using e)
  | [], _, _, _, _, e => by simp at e
/-! ### what is looked at -/
def refsX (o : Obj) : List Addr := He.refV o.cls ++ match o.data with
  | .seq its _ => its.toList.flatMap He.refV
  | .dict es _ => es.toList.flatMap fun e => He.refV e.val
  | .func fd => He.refV fd.code ++ (He.refV fd.defaults ++ (He.refV fd.kwdefaults ++ fd.closure.map (·.2)))
  | .cls cd => cd.ns :: cd.mro.flatMap He.refV
  | .fields vs => vs.toList.flatMap He.refV
  | .cell (some v) => He.refV v
  | _ => []
def refsG (g : Addr → Option Obj) (a : Addr) : List Addr := match g a with
  | some o => refsX o
  | none => []
/-- what is not yet seen, each once -/
def addX : List Addr → Nat → Nat × List Addr
  | [], s => (s, [])
  | a :: r, s => match Nat.beq (Nat.land (Nat.shiftRight s a) 1) 1 with
    | true => addX r s
    | false => match addX r (Nat.lor s (Nat.shiftLeft 1 a)) with
      | (s', l) => (s', a :: l)
def lvlX (g : Addr → Option Obj) : Nat → Nat → List Addr → List Addr
  | 0, _, fr => fr
  | n + 1, s, fr => match addX (fr.flatMap (refsG g)) s with
    | (s', new) => fr ++ lvlX g n s' new
def asX (g : Addr → Option Obj) (n : Nat) : List Addr := match addX [mainGlobals, cStatics] 0 with
  | (s, fr) => lvlX g n s fr
/-! ### the law over such a head -/
/-! ### tests -/
theorem ba {a b : Bool} (h : (a && b) = true) : a = true ∧ b = true := Bool.and_eq_true_iff.mp h
def eqR (a : Option (Option Value)) (b : Addr) : Bool := match a with
  | some (some (.ref c)) => Nat.beq c b
  | _ => false
theorem eqR_ok {a : Option (Option Value)} {b : Addr} (h : eqR a b = true) : a = some (some (.ref b)) := by
  unfold eqR at h
  split at h
  · rw [Nat.eq_of_beq_eq_true h]
  · cases h
def eqB (a : Option (Option Value)) (s : String) : Bool := match a with
  | some (some (.builtin t)) => t == s
  | _ => false
theorem eqB_ok {a : Option (Option Value)} {s : String} (h : eqB a s = true) : a = some (some (.builtin s)) := by
  unfold eqB at h
  split at h
  · rw [beq_iff_eq.mp h]
  · cases h
def isNo (a : Option (Option Value)) : Bool := match a with
  | some none => true
  | _ => false
theorem isNo_ok {a : Option (Option Value)} (h : isNo a = true) : a = some none := by
  unfold isNo at h
  split at h
  · rfl
  · cases h
def isT (a : Option Bool) : Bool := match a with
  | some true => true
  | _ => false
theorem isT_ok {a : Option Bool} (h : isT a = true) : a = some true := by
  unfold isT at h
  split at h
  · rfl
  · cases h
def relB : V → Value → Bool
  | .non, .none => true
  | .bl b, .bool c => b == c
  | .int i, .int j _ => i == j
  | .str x, .str y _ => x == y
  | _, _ => false
theorem relB_ok {v : V} {u : Value} (h : relB v u = true) : RelV v u := by
  unfold relB at h
  split at h
  · rfl
  · show _ = _; rw [beq_iff_eq.mp h]
  · exact ⟨_, by rw [beq_iff_eq.mp h]⟩
  · exact ⟨_, by rw [beq_iff_eq.mp h]⟩
  · cases h
/-! ### a def at an address -/
abbrev FnW : Type := Option (Str × Str × Arguments × FuncBody × Scope × Addr × List Str × Nat × Addr)
def dN : Value → Nat
  | .none => 0
  | .ref _ => 1
  | _ => 2
def fnW (K : PySem.W.Frag) (f : Addr) : FnW := match K.lookup f with
  | some ⟨_, _, .func fd, _⟩ => some (fd.name, fd.qualname, fd.params, fd.body, fd.scope, fd.globals, fd.closure.map (·.1), dN fd.defaults, fd.builtins)
  | _ => none
def valW (nm ql : Str) (st : Stmt) (cl : List Str) (n : Nat) : FnW := some (nm, ql, defArgs st, .stmts (defBody st), defScope st, mainGlobals, cl, n, builtinsNs)
theorem dN0 {v : Value} (h : dN v = 0) : v = .none := by
  cases v <;> first | rfl | cases h
theorem fnW_ok {K : PySem.W.Frag} {f : Addr} {nm ql : Str} {st : Stmt} {cl : List Str} {n : Nat} (e : fnW K f = valW nm ql st cl n) :
    ∃ oc od osl clo dv kV doc pm an cdv ct, K.lookup f = some ⟨oc, od, .func ⟨nm, ql, defArgs st, .stmts (defBody st), defScope st, mainGlobals, clo, dv, kV, doc, pm, an, cdv, ct, builtinsNs⟩, osl⟩ ∧ clo.map (·.1) = cl ∧ dN dv = n := by
  unfold fnW valW at e
  split at e
  · rename_i oc od fd osl hq
    obtain ⟨n1, n2, n3, n4, n5, n6, n7, n8, n9, n10, n11, n12, n13, n14, n15⟩ := fd
    simp only [Option.some.injEq, Prod.mk.injEq] at e
    obtain ⟨h1, h2, h3, h4, h5, h6, h7, h8, h9⟩ := e
    subst h1 h2 h3 h4 h5 h6 h9
    exact ⟨oc, od, osl, n7, n8, n9, n10, n11, n12, n13, n14, hq, h7, h8⟩
  · cases e
/-- its code -/
def codeF (K : PySem.W.Frag) (f : Addr) (q : Str) : Bool := match K.lookup f with
  | some ⟨_, _, .func fd, _⟩ => PySem.W.codeIn K fd.code q
  | _ => false
theorem map_nil {l : List (Str × Addr)} (h : l.map (·.1) = []) : l = [] := by
  cases l with
  | nil => rfl
  | cons a l => cases h
theorem fnW_of {K : PySem.W.Frag} {f : Addr} {nm ql : Str} {st : Stmt} (e : fnW K f = valW nm ql st [] 0) (c : codeF K f ql = true) :
    ∃ oc od kV dc pm an cd ct sl, K.lookup f = some ⟨oc, od, .func (PySem.W.fnOf nm ql (defArgs st) (defBody st) (defScope st) .none kV dc pm an cd ct), sl⟩ ∧ PySem.W.codeIn K cd ql = true := by
  obtain ⟨oc, od, osl, clo, dv, kV, doc, pm, an, cdv, ct, h1, h2, h3⟩ := fnW_ok e
  rw [map_nil h2, dN0 h3] at h1
  unfold codeF at c
  rw [h1] at c
  exact ⟨oc, od, kV, doc, pm, an, cdv, ct, osl, h1, c⟩
/-! ### names -/
def glo (K : PySem.W.Frag) (x : Str) : Bool := eqR (PySem.W.nsIn K mainGlobals x) (He.ga K x)
section
variable {K : PySem.W.Frag} {h : Heap} {mg : Str → Option Value}
theorem glo_ok {x : Str} (c : glo K x = true) : PySem.W.nsIn K mainGlobals x = some (some (.ref (He.ga K x))) := eqR_ok c
/-- a def of the module -/
def fFun (x : Str) (st : Stmt) : Fct := ⟨Bool × FnW, fun K => (glo K x && (codeF K (He.ga K x) x && PySem.W.keepIn K (.ref (He.ga K x))), fnW K (He.ga K x)), (true, valW x x st [] 0)⟩
theorem fun_of (X : K.In h) (G : h.Ns mainGlobals mg) {x : Str} {st : Stmt} {ps : List Str} (c : (fFun x st).obs K = (fFun x st).val)
    (hb : ∀ (kV doc pm : Value) (an : Option Addr) (cdv ct : Value) (us : List Value), us.length = ps.length → bindArgs (PySem.W.fnOf x x (defArgs st) (defBody st) (defScope st) .none kV doc pm an cdv ct) ⟨us, []⟩ = pure (ps.zip us)) : FunAt K mg x st ps := by
  obtain ⟨c1, c⟩ := ba (congrArg Prod.fst c)
  obtain ⟨c2, c3⟩ := ba c
  rename_i cc
  obtain ⟨oc, od, kV, dc, pm, an, cd, ct, sl, h1, h2⟩ := fnW_of (congrArg Prod.snd cc) c2
  exact funAt_mk X G (glo_ok c1) h1 h2 c3 hb
/-! ### classes -/
def fMe (c m qual : Str) (st : Stmt) : Fct := ⟨Bool × FnW, fun K => (glo K c && (eqR (PySem.W.findIn K (.ref (He.ga K c)) m) (He.ma K (He.ga K c) m) && (PySem.W.isFn K (.ref (He.ma K (He.ga K c) m)) && (PySem.W.fnIn K (He.ma K (He.ga K c) m) && (codeF K (He.ma K (He.ga K c) m) qual && PySem.W.keepIn K (.ref (He.ma K (He.ga K c) m)))))), fnW K (He.ma K (He.ga K c) m)), (true, valW m qual st [] 0)⟩
theorem me_of (X : K.In h) (G : h.Ns mainGlobals mg) {c m qual : Str} {st : Stmt} {ps : List Str} (e : (fMe c m qual st).obs K = (fMe c m qual st).val)
    (hb : ∀ (kV doc pm : Value) (an : Option Addr) (cdv ct : Value) (us : List Value), us.length = ps.length → bindArgs (PySem.W.fnOf m qual (defArgs st) (defBody st) (defScope st) .none kV doc pm an cdv ct) ⟨us, []⟩ = pure (ps.zip us)) : MeAt K mg c m qual st ps := by
  have cc := e
  obtain ⟨c1, e⟩ := ba (congrArg Prod.fst e)
  obtain ⟨c2, e⟩ := ba e
  obtain ⟨c3, e⟩ := ba e
  obtain ⟨c4, e⟩ := ba e
  obtain ⟨c5, c6⟩ := ba e
  obtain ⟨oc, od, kV, dc, pm, an, cd, ct, sl, h1, h2⟩ := fnW_of (congrArg Prod.snd cc) c5
  exact meAt_mk X G (glo_ok c1) (eqR_ok c2) c3 c4 h1 h2 c6 hb
def clB (K : PySem.W.Frag) (c : Str) (fs : List Str) : Bool := glo K c && (PySem.W.plainGet K (He.ga K c) Str.empty && (PySem.W.hasDictIn K (He.ga K c) && (PySem.W.plainOver K (He.ga K c) && (eqB (PySem.W.findIn K (.ref (He.ga K c)) "__setattr__") "object.__setattr__" && (PySem.W.selfFirst K (He.ga K c) && (PySem.W.makesIn K (He.ga K c) && (PySem.W.keepIn K (.ref (He.ga K c)) && findAll K (He.ga K c) fs)))))))
def fCl (c : Str) (fs : List Str) : Fct := ⟨Bool, fun K => clB K c fs, true⟩
theorem clB_of (X : K.In h) (G : h.Ns mainGlobals mg) {c : Str} {fs : List Str} (e : clB K c fs = true) : ClAt K mg c fs := by
  obtain ⟨c1, e⟩ := ba e
  obtain ⟨c2, e⟩ := ba e
  obtain ⟨c3, e⟩ := ba e
  obtain ⟨c4, e⟩ := ba e
  obtain ⟨c5, e⟩ := ba e
  obtain ⟨c6, e⟩ := ba e
  obtain ⟨c7, e⟩ := ba e
  obtain ⟨c8, c9⟩ := ba e
  exact clAt_mk X G (glo_ok c1) c2 c3 c4 (eqB_ok c5) c6 c7 c8 c9
theorem cl_of (X : K.In h) (G : h.Ns mainGlobals mg) {c : Str} {fs : List Str} (e : (fCl c fs).obs K = (fCl c fs).val) : ClAt K mg c fs := clB_of X G e
def fCls (x : Str) : Fct := ⟨Bool, fun K => glo K x, true⟩
theorem cls_of (X : K.In h) (G : h.Ns mainGlobals mg) {x : Str} (e : (fCls x).obs K = (fCls x).val) : ClsAt mg x := clsAt_mk X G (glo_ok e)
def fIsC (c : Str) (fs : List Str) : Fct := ⟨Bool, fun K => clB K c fs && (eqB (PySem.W.findIn K (.ref (He.ga K c)) "__class__") "object.__class__" && (eqB (PySem.W.specialIn K (.builtin "object.__class__") "__get__") "getset_descriptor.__get__" && (isT (PySem.W.takesIn K (.builtin "object.__class__")) && (isT (PySem.W.mroIn K (He.ga K c) (.type "object")) && noKit K (He.ga K c))))), true⟩
theorem isC_of (X : K.In h) (G : h.Ns mainGlobals mg) {c : Str} {fs : List Str} (e : (fIsC c fs).obs K = (fIsC c fs).val) : IsC K mg c := by
  obtain ⟨c1, e⟩ := ba (show (_ && _) = true from e)
  obtain ⟨c2, e⟩ := ba e
  obtain ⟨c3, e⟩ := ba e
  obtain ⟨c4, e⟩ := ba e
  obtain ⟨c5, c6⟩ := ba e
  exact isC_mk (fs := fs) X G (glo_ok (ba c1).1) (clB_of X G c1) (eqB_ok c2) (eqB_ok c3) (isT_ok c4) (isT_ok c5) c6
/-! ### constants, free names -/
def fFree (x : Str) : Fct := ⟨Bool, fun K => isNo (PySem.W.nsIn K mainGlobals x), true⟩
theorem free_of (X : K.In h) (G : h.Ns mainGlobals mg) {x : Str} (e : (fFree x).obs K = (fFree x).val) : mg x = none := PySem.W.mg_none_of X G (isNo_ok e)
def conB (K : PySem.W.Frag) (x : Str) (v : V) : Bool := match PySem.W.nsIn K mainGlobals x with
  | some (some u) => relB v u
  | _ => false
def fCon (x : Str) (v : V) : Fct := ⟨Bool, fun K => conB K x v, true⟩
theorem con_of (X : K.In h) (G : h.Ns mainGlobals mg) {x : Str} {v : V} (e : (fCon x v).obs K = (fCon x v).val) : ConAt mg x v := by
  have e' : conB K x v = true := e
  unfold conB at e'
  split at e'
  · rename_i u hu
    exact conAt_mk X G hu (relB_ok e')
  · cases e'
/-! ### exceptions -/
def exS (K : PySem.W.Frag) (C : Addr) : Bool := match K.lookup C with
  | some ⟨.type t, _, .cls cd, sl⟩ => (match cd.mro, sl.toList with
    | .ref D :: bm, [_, _, _, _, some (.builtin n), _] => Nat.beq D C && (t == "type" && (n == "ValueError.__new__" && (!cd.hasDel && (cd.hasDict && PySem.HandSPX.refsVE bm))))
    | _, _ => false)
  | _ => false
theorem exS_ok {C : Addr} (e : exS K C = true) : ∃ nm q N bs bm sn sub ab col dd k0 k1 k2 k3 k5, K.lookup C = some (excClassObj nm q C N bs bm true sn sub ab col dd k0 k1 k2 k3 k5 "ValueError.__new__") ∧ PySem.HandSPX.refsVE bm = true := by
  unfold exS at e
  split at e
  · rename_i t dd cd sl hq
    split at e
    · rename_i D bm k0 k1 k2 k3 n k5 hm hs
      obtain ⟨c1, e⟩ := ba e
      obtain ⟨c2, e⟩ := ba e
      obtain ⟨c3, e⟩ := ba e
      obtain ⟨c4, e⟩ := ba e
      obtain ⟨c5, c6⟩ := ba e
      obtain ⟨a1, a2, a3, a4, a5, a6, a7, a8, a9, a10, a11⟩ := cd
      dsimp only at hm c4 c5
      have hD := Nat.eq_of_beq_eq_true c1
      have ht := beq_iff_eq.mp c2
      have hn := beq_iff_eq.mp c3
      have hdel : a11 = false := by cases a11 <;> first | rfl | cases c4
      have hsl : sl = #[k0, k1, k2, k3, some (.builtin n), k5] := by
        rw [← Array.toArray_toList (xs := sl), hs]
      subst hD ht hn hdel c5 hm hsl
      exact ⟨_, _, _, _, bm, _, _, _, _, _, _, _, _, _, _, hq, c6⟩
    · cases e
  · cases e
/-- the code of an __init__ that asks for super: where it stands, its file -/
def cdaF (K : PySem.W.Frag) (f : Addr) : Addr := match K.lookup f with
  | some ⟨_, _, .func fd, _⟩ => (match fd.code with
    | .ref a => a
    | _ => 0)
  | _ => 0
def isRefC (K : PySem.W.Frag) (f : Addr) : Bool := match K.lookup f with
  | some ⟨_, _, .func fd, _⟩ => (match fd.code with
    | .ref _ => true
    | _ => false)
  | _ => false
def ccF (K : PySem.W.Frag) (f : Addr) : Addr := match K.lookup f with
  | some ⟨_, _, .func fd, _⟩ => (match fd.closure with
    | [(_, a)] => a
    | _ => 0)
  | _ => 0
def fileB (K : PySem.W.Frag) (cda : Addr) (file : Str) : Bool := match K.lookup cda with
  | some ⟨_, _, .fields vs, _⟩ => (match (vs[2]? : Option Value) with
    | some (.str f _) => file == f
    | _ => false)
  | _ => false
theorem fileB_ok {cda : Addr} {file : Str} (e : fileB K cda file = true) : ∃ ccl cdd vs ccs f tf, K.lookup cda = some ⟨ccl, cdd, .fields vs, ccs⟩ ∧ vs[2]? = some (.str f tf) ∧ (file == f) = true := by
  unfold fileB at e
  split at e
  · rename_i ccl cdd vs ccs hq
    split at e
    · rename_i f tf hv
      exact ⟨_, _, _, _, _, _, hq, hv, e⟩
    · cases e
  · cases e
def cellB (K : PySem.W.Frag) (cc C : Addr) : Bool := match K.lookup cc with
  | some ⟨_, _, .cell (some (.ref D)), _⟩ => Nat.beq D C
  | _ => false
theorem cellB_ok {cc C : Addr} (e : cellB K cc C = true) : ∃ cl cld csl, K.lookup cc = some ⟨cl, cld, .cell (some (.ref C)), csl⟩ := by
  unfold cellB at e
  split at e
  · rename_i cl cld D csl hq
    rw [Nat.eq_of_beq_eq_true e] at hq
    exact ⟨_, _, _, hq⟩
  · cases e
def tyB (a : Option Value) (s : String) : Bool := match a with
  | some (.type t) => t == s
  | _ => false
theorem tyB_ok {a : Option Value} {s : String} (e : tyB a s = true) : a = some (.type s) := by
  unfold tyB at e
  split at e
  · rw [beq_iff_eq.mp e]
  · cases e
def exB (P : Program) (K : PySem.W.Frag) (x qual : Str) (fs : List Str) : Bool :=
  (glo K x && (exS K (He.ga K x) && (eqB (PySem.W.findIn K (.ref (He.ga K x)) "__setattr__") "object.__setattr__" && (isT (PySem.W.subIn K (.ref (He.ga K x)) (.type "BaseException")) && (tyB (PySem.W.typeIn K (.ref (He.ga K x))) "type" && (PySem.W.keepIn K (.ref (He.ga K x)) && (eqR (PySem.W.findIn K (.ref (He.ga K x)) "__init__") (He.ma K (He.ga K x) "__init__") && (tyB (PySem.W.typeIn K (.ref (He.ma K (He.ga K x) "__init__"))) "function" && (isRefC K (He.ma K (He.ga K x) "__init__") && codeF K (He.ma K (He.ga K x) "__init__") qual))))))))) &&
  ((fileB K (cdaF K (He.ma K (He.ga K x) "__init__")) P.main.file && (cellB K (ccF K (He.ma K (He.ga K x) "__init__")) (He.ga K x) && (isT (PySem.W.mroIn K (He.ga K x) (.ref (He.ga K x))) && (isNo (PySem.W.nsIn K cStatics "thirdparty.any") && (!(P.main.scope.names.lookup ("super" : Str)).isSome && (eqB (PySem.W.ks_superIn K (He.ga K x) (He.ga K x) "__init__") "ValueError.__init__" && isT (PySem.W.subIn K (.ref (He.ga K x)) (.type "ValueError")))))))) &&
  (isNo (PySem.W.nsIn K mainGlobals "super") && (eqB (PySem.W.findIn K (.ref (He.ga K x)) "__getattribute__") "BaseException.__getattribute__" && (isNo (PySem.W.findIn K (.ref (He.ga K x)) "__getattr__") && (PySem.W.hasDictIn K (He.ga K x) && findAll K (He.ga K x) fs)))))
def fEx (P : Program) (x qual : Str) (st : Stmt) (fs : List Str) : Fct := ⟨Bool × FnW, fun K => (exB P K x qual fs, fnW K (He.ma K (He.ga K x) "__init__")), (true, valW "__init__" qual st ["__class__"] 0)⟩
theorem ex_of {P : Program} (X : K.In h) (G : h.Ns mainGlobals mg) {x qual : Str} {st : Stmt} {fs : List Str} (e : (fEx P x qual st fs).obs K = (fEx P x qual st fs).val) : ExAt P K mg x qual st fs := by
  have cc := e
  have e := congrArg Prod.fst e
  obtain ⟨e1, e2⟩ := ba (show exB P K x qual fs = true from e)
  obtain ⟨c1, e⟩ := ba e1
  obtain ⟨c2, e⟩ := ba e
  obtain ⟨c3, e⟩ := ba e
  obtain ⟨c4, e⟩ := ba e
  obtain ⟨c5, e⟩ := ba e
  obtain ⟨c6, e⟩ := ba e
  obtain ⟨c7, e⟩ := ba e
  obtain ⟨c8, e⟩ := ba e
  obtain ⟨c9, c10⟩ := ba e
  obtain ⟨e3, e4⟩ := ba e2
  obtain ⟨d1, e⟩ := ba e3
  obtain ⟨d2, e⟩ := ba e
  obtain ⟨d3, e⟩ := ba e
  obtain ⟨d4, e⟩ := ba e
  obtain ⟨d5, e⟩ := ba e
  obtain ⟨d6, d7⟩ := ba e
  obtain ⟨g1, e⟩ := ba e4
  obtain ⟨g2, e⟩ := ba e
  obtain ⟨g3, e⟩ := ba e
  obtain ⟨g4, g5⟩ := ba e
  obtain ⟨oc, od, osl, clo, dv, kV, doc, pm, an, cdv, ct, h1, h2, h3⟩ := fnW_ok (congrArg Prod.snd cc)
  obtain ⟨nm, q, N, bs, bm, sn, sub, ab, col, dd, k0, k1, k2, k3, k5, l1, l2⟩ := exS_ok c2
  rw [dN0 h3] at h1
  obtain ⟨cca, rfl⟩ : ∃ a, clo = [(("__class__" : Str), a)] := by
    match clo, h2 with
    | [(n, a)], h2 =>
      have : n = ("__class__" : Str) := (List.cons.inj h2).1
      rw [this]
      exact ⟨a, rfl⟩
  unfold isRefC at c9
  rw [h1] at c9
  dsimp only at c9
  split at c9
  · rename_i cda
    have ecd : cdaF K (He.ma K (He.ga K x) "__init__") = cda := by unfold cdaF; rw [h1]
    have ecc : ccF K (He.ma K (He.ga K x) "__init__") = cca := by unfold ccF; rw [h1]
    rw [ecd] at d1
    rw [ecc] at d2
    unfold codeF at c10
    rw [h1] at c10
    obtain ⟨ccl, cdd, vs, ccs, file, tf, m1, m2, m3⟩ := fileB_ok d1
    obtain ⟨cl, cld, csl, n1⟩ := cellB_ok d2
    exact exAt_mk X G (glo_ok c1) l1 l2 (eqB_ok c3) (isT_ok c4) (tyB_ok c5) c6 (eqR_ok c7) h1 (tyB_ok c8) c10 m1 m2 m3 n1 (isT_ok d3) (isNo_ok d4) (by simpa using d5) (eqB_ok d6) (isT_ok d7) (isNo_ok g1) (eqB_ok g2) (isNo_ok g3) g4 g5
  · cases c9
def subB (K : PySem.W.Frag) (x y : Str) (b : Bool) : Bool := glo K x && (glo K y && (match PySem.W.exmOne K (.ref (He.ga K x)) (.ref (He.ga K y)) with
  | some c => c == b
  | none => false))
theorem sub_of (X : K.In h) (G : h.Ns mainGlobals mg) {x y : Str} {b : Bool} (e : subB K x y b = true) : SubAt K mg x y b := by
  obtain ⟨c1, e⟩ := ba (show (_ && _) = true from e)
  obtain ⟨c2, c3⟩ := ba e
  split at c3
  · rename_i c hq
    rw [beq_iff_eq.mp c3] at hq
    exact subAt_mk X G (glo_ok c1) (glo_ok c2) hq
  · cases c3
def fSubs (l : List (Str × Str × Bool)) : Fct := ⟨Bool, fun K => l.all fun q => subB K q.1 q.2.1 q.2.2, true⟩
theorem subs_all (X : K.In h) (G : h.Ns mainGlobals mg) : ∀ {l : List (Str × Str × Bool)}, (l.all fun q => subB K q.1 q.2.1 q.2.2) = true → SubsAt K mg l
  | [], _ => .nil
  | (x, y, b) :: l, e => by
    rw [List.all_cons] at e
    obtain ⟨e1, e2⟩ := ba e
    exact .cons (sub_of (b := b) X G e1) (subs_all X G e2)
theorem subs_of (X : K.In h) (G : h.Ns mainGlobals mg) {l : List (Str × Str × Bool)} (e : (fSubs l).obs K = (fSubs l).val) : SubsAt K mg l := subs_all X G e
end
end HX
end
section
/-! DM57: a new list within a new tuple, and an item of what a call hands back. -/
namespace DL
open PySem PySem.Spec PyProof.Rows L2
theorem Pvs.get {G : Gx} {S : Hp} {σ : L2.St} : ∀ {vs : List V} {as : List Val} {k : Nat} {a : Val}, Pvs G S σ vs as → as[k]? = some a → ∃ v, vs[k]? = some v ∧ Pv G S σ v a
  | _, _, 0, _, .cons p _, e => by simp at e; subst e; exact ⟨_, rfl, p⟩
  | _, _, k + 1, _, .cons _ t, e => t.get (k := k) (by simpa using e)
  | _, _, _, _, .nil, e => by simp at e
theorem Pvs.set {G : Gx} {S : Hp} {σ : L2.St} {v : V} {a : Val} (p : Pv G S σ v a) : ∀ {vs : List V} {as : List Val} (k : Nat), Pvs G S σ vs as → Pvs G S σ (vs.set k v) (as.set k a)
  | _, _, 0, .cons _ t => .cons p t
  | _, _, k + 1, .cons q t => .cons q (t.set p k)
  | _, _, _, .nil => .nil
theorem Pvs.length {G : Gx} {S : Hp} {σ : L2.St} : ∀ {vs : List V} {as : List Val}, Pvs G S σ vs as → vs.length = as.length
  | _, _, .cons _ t => by rw [List.length_cons, List.length_cons, t.length]
  | _, _, .nil => rfl
end DL
end
section
/-! DM58: cls(e) by a name of one's own; class methods called with names. -/
namespace DL
open PySem PySem.Spec PyProof.Rows L2
/-! ### class methods with names -/
end DL
end
section
/-! DC1: cells that hold still: tracked for a time, untracked again. -/
namespace DL
open PySem PySem.Spec PyProof.Rows L2
section
variable {P : Program} {w : World} {K : PySem.W.Frag} {mg : Str → Option Value} {base h h' : Heap} {A : Around} {outer : List Env} {s s' : Shared} {H H' : Hp} {C : Addr → Option Obj} {Q Q' : VK} {E E' : XK} {u : Value} {b : Addr}
/-- every cell of C is tracked in H -/
def CIn (C : Addr → Option Obj) (H : Hp) : Prop := ∀ c o, C c = some o → H c = some (CellO c o)
theorem CIn.no (hC : CIn C H) (e : H b = none) : C b = none := by
  cases c : C b with
  | none => rfl
  | some o => rw [hC b o c] at e; cases e
/-- no cell of C is tracked in H -/
def COut (C : Addr → Option Obj) (H : Hp) : Prop := ∀ c o, C c = some o → H c = none
theorem COut.no (hC : COut C H) {x : HO} (e : H b = some x) : C b = none := by
  cases c : C b with
  | none => rfl
  | some o => rw [hC b o c] at e; cases e
/-! ### the cells are dropped for a call -/
/-! ### the cells are tracked for a call -/
end
end DL
end
section
/-! DC2: a def within a def that captured names and has cells of its own: its call, by its body. -/
namespace DL
open PySem PySem.Spec PyProof.Rows L2 NdefX LamX
/-! ### the frame -/
/-! ### on data -/
/-- what the code of a nested def leaves: q its full name, st its statement -/
structure NStat (st : Stmt) (q : Str) (F : NF) : Prop where
  prm : F.params = defArgs st
  bod : F.body = defBody st
  sco : F.scope = defScope st
  qul : F.qual = q
/-- calls of what st makes do F on the arguments and what was captured -/
def NgOk (P : Program) (w : World) (K : PySem.W.Frag) (mg : Str → Option Value) (base : Heap) (k : Nat) (q : Str) (st : Stmt) (n : Nat) (F : FnD) : Prop :=
  ∀ (A : Around) (outer : List Env) (s : Shared) (H : Hp) (f : Addr) (Fn : NF) (us : List Value) (vs ws : List V) (Q : VK) (E : XK), Room k A → A.guards = some [] → Env0 P w K mg base A outer s H → H f = some (FnO f Fn) → NStat st q Fn → H Fn.c = some (CodeO Fn.c q) →
    CellsAt Fn.cl (frOf st) (ws.map some) s.heap H → Vals vs us → vs.length = n → spOf ⟨K, mg⟩ (List.replicate (n + (frOf st).length) false) F (vs ++ ws) H Q E → codeAny (model P w) A (.call (.ref f) ⟨us, []⟩) (CR (L2.CX P w) outer P w H s Q E) s
end DL
end
section
/-! DC3: a name that holds a function made by a nested def, called. -/
namespace DL
open PySem PySem.Spec PyProof.Rows L2 NdefX LamX
/-! ### data without functions in it -/
/-- what is no tracked thing of the heap's own is kept -/
def Thin (S S' : Hp) : Prop := ∀ a u, S a = some u → (∀ φ, u ≠ .ext φ) → S' a = some u
theorem Thin.seq {S S' : Hp} (h : Thin S S') {K : PySem.W.Frag} {a : Addr} {xs : List V} (r : SqL K S a xs) : SqL K S' a xs := by
  rcases r with (r | ⟨o, r⟩) | r
  · exact .inl (.inl (h _ _ r fun φ z => by cases z))
  · exact .inl (.inr ⟨o, h _ _ r fun φ z => by cases z⟩)
  · exact .inr r
/-! ### all arguments shared -/
/-- the functions that a name may stand for -/
def NgTab (P : Program) (w : World) (K : PySem.W.Frag) (mg : Str → Option Value) (base : Heap) (k : Nat) (tbl : List (Str × Stmt × Nat × FnD)) : Prop := ∀ q ∈ tbl, ∃ j, j ≤ k ∧ NgOk P w K mg base j q.1 q.2.1 q.2.2.1 q.2.2.2
theorem NgTab.mono {P : Program} {w : World} {K : PySem.W.Frag} {mg : Str → Option Value} {base : Heap} {k k' : Nat} {tbl : List (Str × Stmt × Nat × FnD)} (h : NgTab P w K mg base k tbl) (e : k ≤ k') : NgTab P w K mg base k' tbl := fun q hq => by
  obtain ⟨j, h1, h2⟩ := h q hq
  exact ⟨j, Nat.le_trans h1 e, h2⟩
end DL
end
section
/-! DC4: def g(..): .. captures names; return f(e, .., g). -/
namespace DL
open PySem PySem.Spec PyProof.Rows L2 NdefX LamX
/-! ### the arguments, a name that holds the function behind them -/
/-! ### the state behind the def -/
section
variable {G : Gx} {P : Pin} {R S H : Hp} {σ : L2.St} {st : DS}
theorem StR.nf {f : Addr} {F : NF} (h : StR G P R S H σ st) (hf : H f = none) : Same S (upd S f (FnO f F)) ∧ StR G P R (upd S f (FnO f F)) (upd H f (FnO f F)) σ st := by
  obtain ⟨sf, rf, lo⟩ := h.new hf
  exact ⟨same_upd sf, (h.grow hf).more upd_same sf rf lo rfl⟩
/-- nothing is promised any more -/
theorem StR.none (h : StR G P R S H σ st) : StR G P R S H σ (st.map fun _ => .no) := by
  have no : ∀ {j : Nat} {x : Slot}, (st.map fun _ => Slot.no)[j]? = some x → x = .no := fun {j x} z => by
    rw [List.getElem?_map] at z
    cases y : st[j]? with
    | none => rw [y] at z; cases z
    | some w => rw [y] at z; cases z; rfl
  refine ⟨by rw [List.length_map]; exact h.len, h.tab, h.sub, fun j d z => (by cases no z), fun j d z => ?_, fun j k d e a z1 _ _ _ => ?_, fun j d z => (by cases no z), h.frm⟩
  · rcases z with z | z <;> cases no z
  · rcases z1 with z | z <;> cases no z
end
/-! ### the rule -/
end DL
end
section
/-! DC5: the rule for «def g(..): ..; return f(e, .., g)». -/
namespace DL
open PySem PySem.Spec PyProof.Rows L2 NdefX LamX
end DL
end
section
/-! DC6: the frame of a def in which another one is made. -/
namespace DL
open PySem PySem.Spec PyProof.Rows L2 NdefX LamX
/-! ### its symbolic runs -/
end DL
end
section
/-! HY: HX for programs in which defs make defs: the tables of their codes are no part of the fragment, they are told apart. -/
namespace HX
open PySem PySem.Spec PyProof.Rows L2 DL NdefX LamX
def nestNames : List Str := ["worst_tree", "total_tree", "is_worst_paper", "is_total_paper"]
theorem nest_in {x q : Str} (h : nestOf x = some q) : x ∈ nestNames := by
  have := lookup_mem h
  simp only [List.mem_cons, Prod.mk.injEq, List.not_mem_nil, or_false] at this
  unfold nestNames
  rcases this with h | h | h | h <;> (rw [h.1]; simp)
/-- the code of a def, its table -/
def codP (K : PySem.W.Frag) (x : Str) : Option (Addr × Addr) := match K.lookup (He.ga K x) with
  | some ⟨_, _, .func fd, _⟩ => (match fd.code with
    | .ref c => (match K.lookup c with
      | some ⟨_, _, .fields vs, _⟩ => (match (vs[11]? : Option Value) with
        | some (.ref T) => some (c, T)
        | _ => none)
      | _ => none)
    | _ => none)
  | _ => none
def bmB (K : PySem.W.Frag) : Bool := glo K "__builtins__" && (!Nat.beq (He.ga K "__builtins__") builtinsNs && (!Nat.beq (He.ga K "__builtins__") mainGlobals && match K.lookup (He.ga K "__builtins__") with
  | some ⟨.type t, some d, .plain, _⟩ => t == "module" && Nat.beq d builtinsNs
  | _ => false))
def nestB (K : PySem.W.Frag) (x : Str) : Bool := isNo (PySem.W.nsIn K mainGlobals x) || (glo K x && match codP K x with
  | some (c, T) => PySem.W.codeHdIn K c T && (!Nat.beq mainGlobals T && !Nat.beq (He.ga K "__builtins__") T)
  | none => false)
def csK (K : PySem.W.Frag) : List (Str × Addr × Addr) := nestNames.filterMap fun x => if glo K x then (codP K x).map fun p => (x, p) else none
def apartB : List (Str × Addr × Addr) → Bool
  | [] => true
  | p :: r => (r.all fun q => !Nat.beq p.2.2 q.2.2) && apartB r
def tabsB (K : PySem.W.Frag) : Bool := bmB K && (nestNames.all (nestB K) && apartB (csK K))
/-- an empty table -/
def isET : Option Obj → Bool
  | some ⟨.none, none, .fields vs, sl⟩ => Nat.beq vs.size 0 && Nat.beq sl.size 0
  | _ => false
theorem isET_ok {o : Option Obj} (e : isET o = true) : o = some { cls := .none, data := .fields #[] } := by
  unfold isET at e
  split at e
  · rename_i vs sl
    obtain ⟨e1, e2⟩ := ba e
    have h1 := Nat.eq_of_beq_eq_true e1
    have h2 := Nat.eq_of_beq_eq_true e2
    rw [Array.eq_empty_of_size_eq_zero h1, Array.eq_empty_of_size_eq_zero h2]
  · cases e
def asY (g : Addr → Option Obj) (n : Nat) : List Addr := (asX g n).filter fun a => !isET (g a)
def obY (n : Nat) (l : List Fct) (g : Addr → Option Obj) : ObsT l × Bool := (obsL l (He.frG g (asY g n)), tabsB (He.frG g (asY g n)) && (csK (He.frG g (asY g n))).all fun p => isET (g p.2.2))
theorem frG_there {g : Addr → Option Obj} {a : Addr} {o : Obj} : ∀ {as : List Addr}, (He.frG g as).lookup a = some o → a ∈ as := fun {as} h => by
  have h1 : (a, o) ∈ He.frG g as := lookup_mem h
  unfold He.frG at h1
  obtain ⟨b, hb, e⟩ := List.mem_filterMap.mp h1
  cases z : g b with
  | none => rw [z] at e; cases e
  | some u => rw [z] at e; cases e; exact hb
def SaysT (l : List Fct) (h : Heap) : Prop := ∃ K : PySem.W.Frag, K.In h ∧ SaysX l K ∧ tabsB K = true ∧ ∀ p ∈ csK K, h.get? p.2.2 = some { cls := .none, data := .fields #[] } ∧ K.lookup p.2.2 = none
def hookY (n : Nat) (l : List Fct) : PySem.W.Hook where
  α := ObsT l × Bool
  obs := fun s => obY n l s.heap.get?
  val := fun _ => (valL l, true)
  says := fun _ h => SaysT l h
  of := fun _ _ e => by
    obtain ⟨e1, e2⟩ := Prod.mk.inj e
    obtain ⟨e3, e4⟩ := ba e2
    refine ⟨_, He.frG_in, e1, e3, fun p hp => ?_⟩
    have z := List.all_eq_true.mp e4 p hp
    refine ⟨isET_ok z, ?_⟩
    cases q : (He.frG _ (asY _ n)).lookup p.2.2 with
    | none => rfl
    | some o =>
      have m := (List.mem_filter.mp (frG_there q)).2
      rw [z] at m
      cases m
  keeps := fun _ _ _ ⟨K, hK, c, t, q⟩ k => ⟨K, PySem.W.Frag.In.keeps hK k, c, t, fun p hp => ⟨k _ _ (q p hp).1, (q p hp).2⟩⟩
theorem obY_eq {n : Nat} {l : List Fct} (s : PySem.W.SharedT) : obY n l (HandSHeadRun.getT s) = (hookY n l).obs s.abs := by
  have e : HandSHeadRun.getT s = s.abs.heap.get? := funext fun a => HandSHeadRun.getT_eq s a
  rw [e]
  rfl
/-! ### what the tables tell -/
section
variable {K : PySem.W.Frag} {h : Heap} {mg : Str → Option Value}
theorem codP_ok {x : Str} {c T : Addr} (e : codP K x = some (c, T)) : ∃ oc od fd osl, K.lookup (He.ga K x) = some ⟨oc, od, .func fd, osl⟩ ∧ fd.code = .ref c := by
  unfold codP at e
  split at e
  · rename_i oc od fd osl hq
    split at e
    · rename_i c' hc
      refine ⟨oc, od, fd, osl, hq, ?_⟩
      rw [hc]
      split at e
      · split at e
        · cases e; rfl
        · cases e
      · cases e
    · cases e
  · cases e
theorem apart_ok : ∀ {l : List (Str × Addr × Addr)}, apartB l = true → ∀ p ∈ l, ∀ q ∈ l, p.2.2 = q.2.2 → p = q
  | [], _, p, hp, _, _, _ => by cases hp
  | r :: l, e, p, hp, q, hq, z => by
    obtain ⟨e1, e2⟩ := ba e
    have ne : ∀ q ∈ l, r.2.2 ≠ q.2.2 := fun q hq y => by
      have w := List.all_eq_true.mp e1 q hq
      rw [y, Nat.beq_refl] at w
      cases w
    rcases List.mem_cons.mp hp with m1 | m1 <;> rcases List.mem_cons.mp hq with m2 | m2
    · rw [m1, m2]
    · exact (ne q m2 (by rw [← m1]; exact z)).elim
    · exact (ne p m1 (by rw [← m2]; exact z.symm)).elim
    · exact apart_ok e2 p m1 q m2 z
/-- a table of a def is in the list -/
theorem tb_in (X : K.In h) (G : h.Ns mainGlobals mg) (t : tabsB K = true) {T : Addr} {q : Str} (b : TbOf ⟨K, mg⟩ T q) : ∃ x c, nestOf x = some q ∧ (x, c, T) ∈ csK K ∧ PySem.W.codeHdIn K c T = true := by
  obtain ⟨x, f, fo, fd, c, h1, h2, h3, h4, h5, h6⟩ := b
  have h1 : mg x = some (.ref f) := h1
  have h2 : K.lookup f = some fo := h2
  have h5 : PySem.W.codeHdIn K c T = true := h5
  obtain ⟨t1, t2⟩ := ba t
  obtain ⟨t2, _⟩ := ba t2
  have z : nestB K x = true := List.all_eq_true.mp t2 x (nest_in h6)
  unfold nestB at z
  rcases Bool.or_eq_true_iff.mp z with z | z
  · rw [PySem.W.mg_none_of X G (isNo_ok z)] at h1
    cases h1
  · obtain ⟨z1, z2⟩ := ba z
    split at z2
    · rename_i c' T' hc
      obtain ⟨z3, _⟩ := ba z2
      have hf : mg x = some (.ref (He.ga K x)) := PySem.W.mg_of X G (glo_ok z1)
      rw [h1] at hf
      cases hf
      obtain ⟨oc, od, fd', osl, g1, g2⟩ := codP_ok hc
      rw [h2] at g1
      cases g1
      cases h3
      rw [h4] at g2
      cases g2
      -- the table is the code's
      have eT : T = T' := by
        unfold codP at hc
        rw [h2] at hc
        dsimp only at hc
        rw [h4] at hc
        dsimp only at hc
        unfold PySem.W.codeHdIn at h5
        split at h5
        · rename_i vs sl hk
          rw [hk] at hc
          dsimp only at hc
          simp only [Bool.and_eq_true] at h5
          obtain ⟨⟨⟨⟨⟨e1, _⟩, _⟩, _⟩, _⟩, _⟩ := h5
          split at e1
          · rename_i P' hv
            rw [hv] at hc
            cases hc
            exact (beq_iff_eq.mp e1).symm
          · cases e1
        · cases h5
      subst eT
      refine ⟨x, c, h6, List.mem_filterMap.mpr ⟨x, nest_in h6, ?_⟩, z3⟩
      rw [z1, hc]
      rfl
    · cases z2
end
/-! ### the law's promise over such tables -/
def spLawT (K : PySem.W.Frag) (cs : List Addr) : Sp := fun vs H Q _ => ∃ (a : Addr) (ns : List Int), vs = [.ref a] ∧ SqL K H a (ns.map V.int) ∧ ns.length ≤ 63 ∧ (∀ z ∈ ns, Builtin.Int.intBits z ≤ 1048576) ∧ (∀ T ∈ cs, H T = some (.tbl #[])) ∧ (∀ b ps, H b = some (.tbl ps) → ps = #[]) ∧ ∀ H', Q (.bl true) H'
theorem law_fnY {P : Program} {w : World} {K : PySem.W.Frag} {h : Heap} {mg : Str → Option Value} {x nm : Str} {st : Stmt} {N : List Str} {k : Nat} {s : GS} {fa : Addr} (KX : K.In h) (G : h.Ns mainGlobals mg) (tB : tabsB K = true) (A : FunAt K mg nm st [x]) (Sc : FnScope N [x] (defScope st)) (hfa : mg nm = some (.ref fa))
    (hbody : ∀ (base : Heap) (X : Cx) (W : WX), X.prog = P → X.w = w → X.K = K → X.mg = mg → X.base = base → Cs X N (defScope st) → Ev X W k → Tp X → DSs X W (defBody st) s)
    (law : ∀ ns : List Int, ns.length ≤ 63 → (∀ z ∈ ns, Builtin.Int.intBits z ≤ 1048576) → (callD [false] N.length s [.scr ns]).sat (fun a ios => a = .d (.bl true) ∧ ios = []) (fun _ _ => False)) :
    ∃ fd : FuncData, (∀ (s : Shared) (u : Value), BindsTo s fd ⟨[u], []⟩ [(x, u)]) ∧ ∀ base : Heap, K.In base → base.Ns mainGlobals mg → FnG P w K mg base (k + 1) fa fd [x] (spLawT K ((csK K).map (·.2.2))) := by
  classical
  obtain ⟨f, fd, h1, h2, h3⟩ := A
  rw [h1] at hfa
  cases hfa
  refine ⟨fd, fun s u => .of_eq (h3 [u] rfl), fun base _ _ => ?_⟩
  refine FnG.weak (fn_d (ms := [false]) h2 Sc rfl fun X W e1 e2 e3 e4 e5 e6 e7 e8 e9 hr e10 e11 e12 tk pp gu => hbody base X W e1 e2 e3 e4 e5 ⟨e6, e7, Sc.nd, fun _ x => by rw [e9]⟩ ⟨hr, e8, tk, pp, gu⟩ ⟨e10, e11⟩) fun {vs H Q E} h => ?_
  obtain ⟨a, ns, rfl, hs, hl, hb, hT, hE, q⟩ := h
  obtain ⟨r, ios, e, rfl, rfl⟩ := sat_eq (law ns hl hb)
  let nm : Addr → Option Str := fun T => if z : ∃ q, TbOf ⟨K, mg⟩ T q then some (Classical.choose z) else none
  have hnm : ∀ T q, TbOf ⟨K, mg⟩ T q → nm T = some q := fun T q z => by
    have ex : ∃ q, TbOf ⟨K, mg⟩ T q := ⟨q, z⟩
    have e0 : nm T = some (Classical.choose ex) := dif_pos ex
    rw [e0]
    obtain ⟨x1, c1, a1, a2, _⟩ := tb_in KX G tB (Classical.choose_spec ex)
    obtain ⟨x2, c2, b1, b2, _⟩ := tb_in KX G tB z
    have := apart_ok (ba (ba tB).2).2 _ a2 _ b2 rfl
    cases this
    rw [a1] at b1
    exact b1
  have le : Le (S0H nm H) H := fun b u z => by
    unfold S0H at z
    split at z
    · rename_i ps hp
      cases y : nm b with
      | none => rw [y] at z; cases z
      | some p =>
        rw [y] at z
        cases z
        have := hE b ps hp
        subst this
        exact .inr (.inr ⟨p, rfl, #[], hp, trivial, fun pos cv y => by simp [codeAmong] at y⟩)
    · rename_i hx
      exact .inl ⟨tabOf_nt fun ps y => by subst y; exact hx ps z, z⟩
  refine ⟨fun _ => none, S0H nm H, [.scr ns], le, (fun T q z => ?_), (fun b o z => by cases z), .sh (.scr (S0H_seq hs)) .nil, List.nodup_nil, ?_⟩
  · obtain ⟨x1, c1, a1, a2, _⟩ := tb_in KX G tB z
    have hH := hT T (List.mem_map.mpr ⟨_, a2, rfl⟩)
    unfold S0H
    rw [hH]
    show (nm T).map tabU = _
    rw [hnm T q z]
    rfl
  · rw [e]
    intro v S' H' _ _ _ _ r
    cases r
    exact q H'
/-! ### the head -/
section
variable {P : Program} {w : World} {K : PySem.W.Frag} {mg mb : Str → Option Value} {k : Nat} {fa a : Addr} {fd : FuncData} {x : Str} {sp : Sp} {s₁ : Shared} {vs : List Value} {ns : List Int} {cs : List Addr}
theorem head_tab {H : Hp} (KX : K.In s₁.heap) (hns : s₁.heap.Ns mainGlobals mg) (hb : s₁.heap.Ns builtinsNs mb) (hbb : ∀ x : Str, x ≠ "__name__" → mb x = bootBuiltins x) (hlim : s₁.heap.NoLimit) (hg : s₁.gens = #[])
    (hr : Room k callerA) (F : ∀ base : Heap, K.In base → base.Ns mainGlobals mg → FnG P w K mg base k fa fd [x] sp) (hbind : ∀ (s : Shared) (u : Value), BindsTo s fd ⟨[u], []⟩ [(x, u)]) (hsp : sp [.ref a] H (fun v _ => v = .bl true) fun _ _ _ => False)
    (hH : ∀ b, H b = none ∨ (∃ ob ys, H b = some (.frz ob (.lst ys))) ∨ (b ∈ cs ∧ H b = some (.tbl #[]))) (hok : HOk P w H s₁.heap) (hK : ∀ b, H b ≠ none → K.lookup b = none) (hT : ∀ T ∈ cs, isCodeTable s₁.heap T) : codeAny (model P w) callerA (.call (.ref fa) ⟨[.ref a], []⟩) (DL.Due s₁) s₁ := by
  have free : ∀ {b : Addr} {m : Str → Option Value}, s₁.heap.Ns b m → H b = none := fun {b m} z => by
    obtain ⟨o, es, ep, z1, z2, _⟩ := z
    rcases hH b with y | ⟨ob, ys, y⟩ | ⟨_, y⟩
    · exact y
    · obtain ⟨_, _, its, n, _, q⟩ := (show ObjOk P w H s₁.heap b (.frz ob (.lst ys)) from hok b _ y)
      rw [z1] at q
      cases q
      cases z2
    · have q : s₁.heap.get? b = some { cls := .none, data := .fields #[] } := hok b _ y
      rw [z1] at q
      cases q
      cases z2
  have names : ∀ {b : Addr} {m : Str → Option Value}, s₁.heap.Ns b m → (hidT s₁.heap H).Ns b m := fun {b m} z => by
    have f := free z
    obtain ⟨o, es, ep, z1, z2, z3⟩ := z
    exact ⟨o, es, ep, hidT_get z1 f, z2, z3⟩
  have kin : K.In (hidT s₁.heap H) := fun b o z => hidT_get (KX b o z) (Classical.byContradiction fun n => by
    rw [hK b n] at z
    cases z)
  have md : Mod K mg (hidT s₁.heap H) := by
    obtain ⟨mc, l1, l2⟩ := hlim
    exact ⟨kin, names hns, ⟨mb, names hb, hbb⟩, ⟨mc, names l1, l2⟩⟩
  have env : Env0 P w K mg (hidT s₁.heap H) callerA [] s₁ H := ⟨rfl, md, fun b o z => of_hidT z, Nat.le_of_eq (hidT_size _ _), trivial, fun b z => absurd z List.not_mem_nil, hok, .of_eq hg⟩
  refine codeAny_mono ((F _ kin (names hns)).go (us := [.ref a]) hr rfl env (hbind s₁ (.ref a)) (Paired.cons (show RelV (V.ref a) (Value.ref a) from rfl) Paired.nil) hsp) fun r s' z => ?_
  cases r with
  | error u => exact (cx_no z).elim
  | ok fl =>
    cases fl with
    | ret u =>
      obtain ⟨v, H', q1, q2, un, hok', rv, q⟩ := z
      have q : v = .bl true := q
      subst q
      obtain rfl : u = Value.bool true := rv
      have old : ∀ b o, s₁.heap.get? b = some o → asItWas s₁.heap s'.heap b o := fun b o z => by
        rcases hH b with y | ⟨ob, ys, y⟩ | ⟨m, y⟩
        · exact .inl (un.keep b o z y (fun y => absurd (show b ∈ ([] : List Addr) from y) (by simp)) (by simp))
        · have y1 := (hok b _ y).1
          have y2 := (hok' b _ (un.frzs b ob _ y)).1
          rw [z] at y1
          cases y1
          exact .inl y2
        · have y1 : s₁.heap.get? b = some { cls := .none, data := .fields #[] } := hok b _ y
          rw [z] at y1
          cases y1
          obtain ⟨more, y2⟩ := un.tbls b #[] y
          have y3 : s'.heap.get? b = some { cls := .none, data := .fields (#[] ++ more) } := hok' b _ y2
          exact .inr (.inl ⟨hT b m, rfl, #[], more, rfl, y3⟩)
      exact ⟨rfl, ⟨old, fun b o z => un.there b o z (by simp)⟩, q1, q2⟩
    | next => exact False.elim z
    | brk => exact False.elim z
    | cont => exact False.elim z
/-- the call of the law, the script in the fragment or not -/
theorem head_T (KX : K.In s₁.heap) (hns : s₁.heap.Ns mainGlobals mg) (hb : s₁.heap.Ns builtinsNs mb) (hbb : ∀ x : Str, x ≠ "__name__" → mb x = bootBuiltins x) (hlim : s₁.heap.NoLimit) (hg : s₁.gens = #[])
    (ha : s₁.heap.get? a = some { cls := .type "list", data := .seq vs.toArray }) (hi : IntsAre vs ns) (hl : ns.length ≤ 63) (hbits : ∀ z ∈ ns, Builtin.Int.intBits z ≤ 1048576) (hr : Room k callerA)
    (F : ∀ base : Heap, K.In base → base.Ns mainGlobals mg → FnG P w K mg base k fa fd [x] (spLawT K cs)) (hbind : ∀ (s : Shared) (u : Value), BindsTo s fd ⟨[u], []⟩ [(x, u)])
    (hT : ∀ T ∈ cs, s₁.heap.get? T = some { cls := .none, data := .fields #[] } ∧ K.lookup T = none) (hC : ∀ T ∈ cs, isCodeTable s₁.heap T) : codeAny (model P w) callerA (.call (.ref fa) ⟨[.ref a], []⟩) (DL.Due s₁) s₁ := by
  classical
  have rv := vals_ints hi
  have hl2 : ns.length ≤ sizeLine := Nat.le_trans hl (by decide)
  have aT : a ∉ cs := fun z => by
    have q := (hT a z).1
    rw [ha] at q
    cases q
  let T0 : Hp := fun b => if b ∈ cs then some (.tbl #[]) else none
  have t0 : ∀ {b u}, T0 b = some u → b ∈ cs ∧ u = .tbl #[] := fun {b u} z => by
    by_cases m : b ∈ cs
    · have z' : (if b ∈ cs then some (HO.tbl #[]) else none) = some u := z
      rw [if_pos m] at z'
      cases z'
      exact ⟨m, rfl⟩
    · have z' : (if b ∈ cs then some (HO.tbl #[]) else none) = some u := z
      rw [if_neg m] at z'
      cases z'
  have t1 : ∀ {b}, b ∈ cs → T0 b = some (.tbl #[]) := fun m => if_pos m
  have tn : ∀ {b}, b ∉ cs → T0 b = none := fun m => if_neg m
  cases hk : K.lookup a with
  | some o =>
    have z := KX a o hk
    rw [ha] at z
    cases z
    refine head_tab (H := T0) (cs := cs) KX hns hb hbb hlim hg hr F hbind ⟨a, ns, rfl, Or.inr ⟨_, vs.toArray, _, hk, rfl, rfl, rfl, by rw [List.size_toArray, hi.length]; exact hl2, by simpa using rv⟩, hl, hbits, fun T m => t1 m, fun b ps z => ?_, fun _ => rfl⟩ (fun b => ?_) (fun b u z => ?_) (fun b z => ?_) hC
    · have := (t0 z).2; cases this; rfl
    · by_cases m : b ∈ cs
      · exact .inr (.inr ⟨m, t1 m⟩)
      · exact .inl (tn m)
    · obtain ⟨m, rfl⟩ := t0 z
      exact (hT b m).1
    · by_cases m : b ∈ cs
      · exact (hT b m).2
      · exact (z (tn m)).elim
  | none =>
    let H : Hp := fun b => if b = a then some (.frz { cls := .type "list", data := .seq vs.toArray } (.lst (ns.map V.int))) else T0 b
    have hne : ∀ {b : Addr}, b ≠ a → H b = T0 b := fun h => if_neg h
    have hat : H a = some (.frz { cls := .type "list", data := .seq vs.toArray } (.lst (ns.map V.int))) := if_pos rfl
    refine head_tab (H := H) (cs := cs) KX hns hb hbb hlim hg hr F hbind ⟨a, ns, rfl, Or.inl (Or.inr ⟨_, hat⟩), hl, hbits, fun T m => ?_, fun b ps z => ?_, fun _ => rfl⟩ (fun b => ?_) (fun b u z => ?_) (fun b z => ?_) hC
    · rw [hne (fun y => aT (by rw [← y]; exact m))]; exact t1 m
    · by_cases y : b = a
      · subst y; rw [hat] at z; cases z
      · rw [hne y] at z; have := (t0 z).2; cases this; rfl
    · by_cases y : b = a
      · subst y; exact .inr (.inl ⟨_, _, hat⟩)
      · by_cases m : b ∈ cs
        · exact .inr (.inr ⟨m, by rw [hne y]; exact t1 m⟩)
        · exact .inl (by rw [hne y]; exact tn m)
    · by_cases y : b = a
      · subst y
        rw [hat] at z
        cases z
        exact ⟨ha, by rw [List.length_map]; exact hl2, vs, _, rv, ha⟩
      · rw [hne y] at z
        obtain ⟨m, rfl⟩ := t0 z
        exact (hT b m).1
    · by_cases y : b = a
      · subst y; exact hk
      · rw [hne y] at z
        by_cases m : b ∈ cs
        · exact (hT b m).2
        · exact (z (tn m)).elim
end
theorem walk_gY {l : PySem.W.OpenLaw} {n k : Nat} {q : Program} {loose : List Str} {XP : (Str → Option Value) → Heap → Prop} {L : List Fct} {d : DefRec} {x : Str}
    (hn : l.most = some n) (h63 : n ≤ 63) (hdf : d.params.defaults = []) (hr : Room k callerA)
    (F : ∀ (w : World) (mg : Str → Option Value) (fa : Addr) (h : Heap) (K : PySem.W.Frag), K.In h → SaysX L K → tabsB K = true → h.Ns mainGlobals mg → mg d.name = some (.ref fa) →
      ∃ fd : FuncData, (∀ (s : Shared) (u : Value), BindsTo s fd ⟨[u], []⟩ [(x, u)]) ∧ ∀ base : Heap, K.In base → base.Ns mainGlobals mg → FnG l.prog w K mg base k fa fd [x] (spLawT K ((csK K).map (·.2.2)))) :
    PySem.W.WalkO q loose XP (fun _ h => SaysT L h) l.row.toRowW d [] (fun f vs => PySem.call f vs) := by
  refine Att.attach_callB hn hdf fun w s₀ s₁ mg mb fa o pm cd doc a vs ns G Y ho hd hcd hmg hobj hints hlen hbits hg => ?_
  obtain ⟨K, KX, c, t, tb⟩ := Y
  obtain ⟨fd, hb, hF⟩ := F w mg fa _ K KX c t G.T.g hmg
  refine head_T KX G.T.g G.T.b G.T.builtins G.T.nolimit hg hobj hints (Nat.le_trans hlen h63) hbits hr hF hb (fun T hT => ?_) fun T hT => ?_
  · obtain ⟨p, hp, rfl⟩ := List.mem_map.mp hT
    exact tb p hp
  · obtain ⟨⟨y, c0, T0⟩, hp, e⟩ := List.mem_map.mp hT
    have e : T0 = T := e
    subst e
    have hcd : PySem.W.codeHdIn K c0 T0 = true := by
      obtain ⟨z, hz, e⟩ := List.mem_filterMap.mp hp
      have e : (if glo K z = true then (codP K z).map fun p => (z, p) else none) = some (y, c0, T0) := e
      split at e
      · rename_i hglo
        cases hcp : codP K z with
        | none => rw [hcp] at e; cases e
        | some p =>
          rw [hcp] at e
          cases e
          have nb : nestB K y = true := List.all_eq_true.mp (ba (ba t).2).1 y hz
          unfold nestB at nb
          rcases Bool.or_eq_true_iff.mp nb with nb | nb
          · have g := glo_ok hglo
            have i := isNo_ok nb
            rw [g] at i
            cases i
          · have nb2 := (ba nb).2
            rw [hcp] at nb2
            exact (ba nb2).1
      · cases e
    exact ((PySem.W.codeHd_of_K KX hcd).tab (tb _ hp).1).isCodeTable
end HX
end
section
/-! DM62: list(d.values()) of a dict with texts or whole numbers as keys. -/
namespace DL
open PySem PySem.Spec PyProof.Rows L2
end DL
end
section
/-! DM63: list(d.values()) of a dict with tuples as keys. -/
namespace DL
open PySem PySem.Spec PyProof.Rows L2
end DL
end
section
/-! DM64: a <= b <= c <= d of whole numbers. -/
namespace DL
open PySem PySem.Spec PyProof.Rows L2
end DL
end
section
/-! DM65: max of a tuple of whole numbers. -/
namespace DL
open PySem PySem.Spec PyProof.Rows PySem.W PySem.SeqAt PySem.Calls L2
end DL
end
section
/-! DM66: y = x where x's own list goes over to y; told = f(..); if bad(told): return False; if c: told[k].append(e): a new list in a told tuple, lent to a test and changed behind it. -/
namespace DL
open PySem PySem.Spec PyProof.Rows L2
/-! ### a told tuple with a new list -/
end DL
end
section
/-! DM73: x.f += j on an instance of one's own whose field f is a whole number. -/
namespace DL
open PySem PySem.Spec PyProof.Rows L2
def sIncF (c f : Str) (i : Nat) (j : Int) : GS := fun st => match cont st i with
  | some (.ins c' fs) => if c' = c ∧ fs.length < 1000 then (match fs.lookup f with
    | some (.int a) => .nx (setC st i (.ins c' (putFD f (.int (a + j)) fs)))
    | _ => .no) else .no
  | _ => .no
section
variable {X : Cx} {W : WX} {e o : Expr} {pos pos' : Pos} {c f : Str}
theorem dincF (T : ClsOk X.K X.mg c) (n : NoAt X.K X.mg c f) (i : Nat) (j : Int) (ho : DE X W o (gVar i)) (he : DE X W e (gC (.int j))) : DSt X W (.AugAssign (.Attribute o f pos') .Add e pos) (sIncF c f i j) :=
  ps_imp (ps_fldaug ho he in_add) fun E σ H ⟨P, R, S, st, h, fi⟩ => by
    unfold sIncF at fi
    split at fi
    · rename_i c' fs ec
      split at fi
      · rename_i hc
        obtain ⟨rfl, hl⟩ := hc
        split at fi
        · rename_i a ef
          have ow := cont_owns ec
          have hv : gVar i st = .ok (.sl i) st := by
            unfold gVar
            rcases ow with q | q <;> rw [q]
          refine ⟨P, R, S, st, h, ?_⟩
          rw [hv]
          intro S1 H1 e1 h1 v rv
          have hu : σ[i]? = some (some v) := rv
          obtain ⟨b, ob, z1, z2, z3, z4, z5⟩ := h1.own i _ ow
          rw [z1] at hu
          cases hu
          cases z3 with
          | @ins C dx gs _ _ m rf =>
            obtain ⟨u, hu, ru⟩ := repF_get rf ef
            refine ⟨b, C, dx, gs, u, rfl, z2, T C m, n C m, hu, P, R, S1, st, h1, ?_⟩
            intro S2 H2 e2 h2 y ry
            obtain ⟨S3, e3, h3, pv⟩ := h2.settle ry
            have hy : y = .int j := (pv.look h3 rfl).int
            subst hy
            cases ru
            obtain ⟨b', ob', y1, y2, y3, y4, y5⟩ := h3.own i _ ow
            rw [z1] at y1
            cases y1
            cases y3 with
            | @ins C' dx' gs' _ _ m' rf' =>
              rw [m] at m'
              cases m'
              exact ⟨a, j, rfl, rfl, dx', gs', y2, by rw [repF_len rf']; exact hl, fi σ S3 _ ((e1.trans e2).trans e3) (h3.mut ow z1 (Top.ins m (repF_put (.int _) rf')))⟩
        · exact fi.elim
      · exact fi.elim
    · exact fi.elim
end
end DL
end
section
/-! DM74: a module's tuple of texts: its length, its items, in, its index. -/
namespace DL
open PySem PySem.Spec PyProof.Rows L2
/-- the module's name x is a tuple of the texts ss -/
def TupS (K : PySem.W.Frag) (mg : Str → Option Value) (x : Str) (ss : List Str) : Prop :=
  ∃ p o its n, mg x = some (.ref p) ∧ K.lookup p = some o ∧ o.cls = .type "tuple" ∧ o.dict = none ∧ o.data = .seq its n ∧ its.size ≤ sizeLine ∧ Vals (ss.map V.str) its.toList
def sIt (ss : List Str) : D → Option Val
  | .int i => (atI ss i).bind fun s => vs s
  | _ => none
def sIn (ss : List Str) : D → Option Val
  | .str s => vb (ss.any (· == s))
  | _ => none
def sIx (ss : List Str) : D → Option Val
  | .str s => if ss.contains s = true then vi (ss.idxOf s : Nat) else none
  | _ => none
theorem atI_map {α β : Type} (f : α → β) (xs : List α) (i : Int) : atI (xs.map f) i = (atI xs i).map f := by
  unfold atI
  rw [List.length_map]
  cases ixN xs.length i with
  | none => rfl
  | some j => exact List.getElem?_map
theorem inV_str (s : Str) (ss : List Str) : inV (.str s) (ss.map V.str) = ss.any (· == s) := by
  unfold inV
  rw [List.any_map]
  congr 1
theorem flat_strs (ss : List Str) : (ss.map V.str).all flatV = true := by
  rw [List.all_map, List.all_eq_true]
  exact fun _ _ => rfl
section
variable {X : Cx} {W : WX} {N : List Str} {sc : Scope} {full : Bool} {k : Nat} {a b e o : Expr} {ga gb ge go : GE} {pos p apos : Pos} {x : Str} {ss : List Str}
theorem dsIt (c : Cs X N sc full) (T : TupS X.K X.mg x ss) (he : DE X W e ge) (hg : GlS sc x := by rfl) (hdb : (x == ("__debug__" : Str)) = false := by decide) (hs : PlainIx e := by exact fun _ _ => rfl) : DE X W (.Subscript (.Name x p) e pos) (gOp1 (sIt ss) ge) := by
  obtain ⟨q, ob, its, n, h1, h2, h3, h4, h5, h6, h7⟩ := T
  refine pe_imp (pe_ix ix_tup (pe_glob (v := .ref q) (gl_of c hg) h1 rfl hdb) he hs) fun σ H Q ⟨P, R, S, st, h, fi⟩ => ⟨P, R, S, st, h, Fin.imp (Fin.bind fi) fun a st1 S1 H1 e1 h1 k v rv => ?_⟩
  obtain ⟨S2, e2, h2', pv⟩ := h1.settle rv
  cases ea : look st1 a with
  | none => rw [ea] at k; exact k.elim
  | some y =>
    rw [ea] at k
    cases y with
    | int i =>
      have hy := (pv.look h2' ea).int
      subst hy
      dsimp only at k
      unfold sIt at k
      dsimp only at k
      cases ei : atI ss i with
      | none => rw [ei] at k; exact k.elim
      | some s =>
        rw [ei] at k
        exact ⟨q, ss.map V.str, i, .str s, rfl, rfl, .inr ⟨ob, its, n, h2, h3, h5, h6, h7⟩, by rw [atI_map, ei]; rfl, k S2 H1 e2 h2' _ (.str _)⟩
    | _ => exact k.elim
theorem in_imp (T : TupS X.K X.mg x ss) {q : Addr} (hq : X.mg x = some (.ref q)) : ∀ σ H Q, tD (gx X) W (gOp1 (sIn ss) ge) σ H Q → tOp (rIn X.K false) (tD (gx X) W ge) (tC (.ref q)) σ H Q := by
  obtain ⟨q', ob, its, n, h1, h2, h3, h4, h5, h6, h7⟩ := T
  rw [h1] at hq
  cases hq
  rintro σ H Q ⟨P, R, S, st, h, fi⟩
  refine ⟨P, R, S, st, h, Fin.imp (Fin.bind fi) fun a st1 S1 H1 e1 h1 k v rv => ?_⟩
  obtain ⟨S2, e2, h2', pv⟩ := h1.settle rv
  cases ea : look st1 a with
  | none => rw [ea] at k; exact k.elim
  | some y =>
    rw [ea] at k
    cases y with
    | str s =>
      have hy := (pv.look h2' ea).str
      subst hy
      refine ⟨q, ss.map V.str, rfl, .inr (.inr ⟨ob, its, n, h2, h3, h5, h6, h7⟩), rfl, flat_strs ss, ?_⟩
      show Q (.bl (inV (.str s) (ss.map V.str))) H1
      rw [inV_str]
      exact k S2 H1 e2 h2' _ (.bl _)
    | _ => exact k.elim
theorem tsIn (c : Cs X N sc full) (T : TupS X.K X.mg x ss) (he : DE X W e ge) (hg : GlS sc x := by rfl) (hdb : (x == ("__debug__" : Str)) = false := by decide) (hm : behindInMarks .In (.Name x p) = false := by rfl) : DT X W (.Compare e [.In] [.Name x p] pos) (gTst (gOp1 (sIn ss) ge)) := by
  obtain ⟨q, hq⟩ : ∃ q, X.mg x = some (.ref q) := ⟨_, T.choose_spec.choose_spec.choose_spec.choose_spec.1⟩
  exact pt_imp (pt_cmpR op_in_seq he (pe_glob (v := .ref q) (gl_of c hg) hq rfl hdb) hm) (tst_of (in_imp T hq))
theorem dsLen (c : Cs X N sc full) (T : TupS X.K X.mg x ss) (hm : X.mg "len" = none) (hl : GlS sc "len" := by rfl) (hg : GlS sc x := by rfl) (hdb : (x == ("__debug__" : Str)) = false := by decide)
    (he : starEach [.Name x apos] X.env = (false, eval (.Name x apos) X.env) :: starEach [] X.env := by rfl) (hpl : (backTo pos (starEach [] X.env)).any (·.1) = false := by rfl) : DE X W (.Call (.Name "len" p) [.Name x apos] [] pos) (gC (.int (ss.length : Nat))) := by
  obtain ⟨q, ob, its, n, h1, h2, h3, h4, h5, h6, h7⟩ := T
  refine pe_imp (pe_callB call_len_seq (gl_of c hl) hm bt_len (pa_cons (pe_glob (v := .ref q) (gl_of c hg) h1 rfl hdb) pa_nil he) (by decide) (by decide) he hpl) fun σ H Q ⟨P, R, S, st, h, fi⟩ => ?_
  refine ⟨q, ss.map V.str, rfl, .inr (.inr ⟨ob, its, n, h2, h3, h5, h6, h7⟩), ?_⟩
  rw [List.length_map]
  exact fi S H (Same.refl S) h _ (.int _)
theorem mt_tixS : MtR X "tuple.index" (fun x xs H Q => ∃ (q : Addr) (ss : List Str) (k : Str), x = .ref q ∧ xs = [.str k] ∧ SqT X.K H q (ss.map V.str) ∧ k ∈ ss ∧ Q (.int (ss.idxOf k : Nat)) H) := by
  intro pins s σ H x xs v us Q I rx rs h
  obtain ⟨q, ns, k, rfl, rfl, hq, hk, z⟩ := h
  cases rx
  obtain ⟨u, rfl, t, rfl⟩ := vals1 rs
  obtain ⟨its, r, pl, hz⟩ := I.tuple hq
  exact PySem.SeqAt.tuple_index_strs pl (strsAre_of r) hk ⟨.int (ns.idxOf k : Nat), H, I.tok _, ⟨_, rfl⟩, z⟩
theorem dsIx (c : Cs X N sc full) (T : TupS X.K X.mg x ss) (he : DE X W e ge) (hg : GlS sc x := by rfl) (hdb : (x == ("__debug__" : Str)) = false := by decide)
    (hbase : attributeBase (.Name x p) "index" X.env (eval (.Name x p) X.env) = eval (.Name x p) X.env := by rfl)
    (hfew : ((backTo pos (starEach [e] X.env)).all (fun x => !x.1) && (backToKw pos (keywordEach [] X.env)).all (fun x => x.1.isSome)
      && decide ([e].length + ([] : List Keyword).length + (if ([] : List Keyword).isEmpty then 0 else 1) < 30)) = true := by rfl)
    (hline : (apos.endLine == pos.line) = true := by rfl) (hs : starEach [e] X.env = (false, eval e X.env) :: starEach [] X.env := by rfl) (hplain : (backTo pos (starEach [] X.env)).any (·.1) = false := by rfl) :
    DE X W (.Call (.Attribute (.Name x p) "index" apos) [e] [] pos) (gOp1 (sIx ss) ge) := by
  obtain ⟨q, ob, its, n, h1, h2, h3, h4, h5, h6, h7⟩ := T
  refine pe_imp (pe_bm F.plainAttrs_tuple F.slot_tuple_index F.type_tuple_index mt_tixS (pe_glob (v := .ref q) (gl_of c hg) h1 rfl hdb) (pa_cons he pa_nil hs) hbase hfew hline hs hplain) fun σ H Q ⟨P, R, S, st, h, fi⟩ => ?_
  refine ⟨.inr (.inl ⟨rfl, ob, h2, h3, h4⟩), P, R, S, st, h, Fin.imp (Fin.bind fi) fun b st1 S1 H1 e1 hs1 kk u ru => ?_⟩
  obtain ⟨S2, e2, hs2, pu⟩ := hs1.settle ru
  cases eb : look st1 b with
  | none => rw [eb] at kk; exact kk.elim
  | some y =>
    rw [eb] at kk
    cases y with
    | str s =>
      have hu := (pu.look hs2 eb).str
      subst hu
      dsimp only at kk
      unfold sIx at kk
      dsimp only at kk
      split at kk
      · rename_i hc
        exact ⟨q, ss, s, rfl, rfl, .inr ⟨ob, its, n, h2, h3, h5, h6, h7⟩, by simpa using hc, kk S2 H1 e2 hs2 _ (.int _)⟩
      · exact kk.elim
    | _ => exact kk.elim
end
theorem tupS_mk {K : PySem.W.Frag} {h : Heap} {mg : Str → Option Value} {x : Str} {ss : List Str} {q : Addr} {its : Array Value} {n : Nat} {sl : Array (Option Value)} (X : K.In h) (G : h.Ns mainGlobals mg) (a : PySem.W.nsIn K mainGlobals x = some (some (.ref q)))
    (l : K.lookup q = some ⟨.type "tuple", none, .seq its n, sl⟩) (hz : its.size ≤ sizeLine) (hv : Vals (ss.map V.str) its.toList) : TupS K mg x ss := ⟨q, _, its, n, PySem.W.mg_of X G a, l, rfl, rfl, rfl, hz, hv⟩
end DL
end
section
/-! HZ: the closing's fact for a module's tuple of texts. -/
namespace HX
open PySem PySem.Spec PyProof.Rows L2 DL
variable {h : Heap} {K : PySem.W.Frag} {mg : Str → Option Value}
def strsV : List Str → List Value → Bool
  | [], [] => true
  | s :: r, .str y _ :: us => y == s && strsV r us
  | _, _ => false
theorem strsV_ok : ∀ {ss : List Str} {us : List Value}, strsV ss us = true → Vals (ss.map V.str) us
  | [], [], _ => .nil
  | [], _ :: _, e => by cases e
  | _ :: _, [], e => by cases e
  | s :: r, u :: us, e => by
    cases u with
    | str y t =>
      obtain ⟨e1, e2⟩ := ba (show (_ == s && strsV _ _) = true from e)
      exact .cons ⟨t, by rw [beq_iff_eq.mp e1]⟩ (strsV_ok e2)
    | _ => cases e
def tupSB (K : PySem.W.Frag) (x : Str) (ss : List Str) : Bool := match K.lookup (He.ga K x) with
  | some ⟨.type t, none, .seq its _, _⟩ => t == "tuple" && strsV ss its.toList
  | _ => false
def fTupS (x : Str) (ss : List Str) : Fct := ⟨Bool, fun K => glo K x && tupSB K x ss, true⟩
theorem tupS_of (X : K.In h) (G : h.Ns mainGlobals mg) {x : Str} {ss : List Str} (hz : ss.length ≤ sizeLine) (e : (fTupS x ss).obs K = (fTupS x ss).val) : TupS K mg x ss := by
  obtain ⟨c1, c2⟩ := ba (show (_ && _) = true from e)
  unfold tupSB at c2
  split at c2
  · rename_i t its n sl hq
    obtain ⟨d1, d2⟩ := ba c2
    rw [beq_iff_eq.mp d1] at hq
    have hv := strsV_ok d2
    have hl := hv.length
    rw [List.length_map] at hl
    exact tupS_mk X G (glo_ok c1) hq (by rw [← Array.length_toList, ← hl]; exact hz) hv
  · cases c2
end HX
end
namespace K22r
open PySem PySem.Spec PyProof.Rows L2 DL
def topS (i : Nat) : Stmt := PySem.Challenge.pw_leastlooks_k22_formulas_refused.main.body.getD i (.Pass ⟨0, 0, 0, 0⟩)
abbrev s_tokens_of : Stmt := topS 9
abbrev s_law_pool : Stmt := topS 14
abbrev s_law_draw : Stmt := topS 15
abbrev s_law_node : Stmt := topS 16
abbrev s_law_parts : Stmt := topS 17
abbrev s_law_bare : Stmt := topS 19
abbrev s_law_tokens : Stmt := topS 18
abbrev s_law_spaced : Stmt := topS 20
abbrev s_law_cut : Stmt := topS 23
abbrev s_law_step : Stmt := topS 24
abbrev s_law_fault : Stmt := topS 25
abbrev s_law_bent : Stmt := topS 27
abbrev s_law_signed : Stmt := topS 28
abbrev s_Reader_init : Stmt := clsDef 0 (topS 10)
abbrev s_Reader_here : Stmt := clsDef 1 (topS 10)
abbrev s_Reader_fault : Stmt := clsDef 2 (topS 10)
abbrev s_Reader_need : Stmt := clsDef 3 (topS 10)
abbrev s_Reader_counted : Stmt := clsDef 7 (topS 10)
abbrev s_Reader_atom : Stmt := clsDef 6 (topS 10)
abbrev s_Reader_turned : Stmt := clsDef 5 (topS 10)
abbrev s_Reader_joined : Stmt := clsDef 4 (topS 10)
abbrev s_read_node : Stmt := topS 11
abbrev s_Formula_init : Stmt := clsDef 0 (topS 12)
abbrev s_law_told : Stmt := topS 26
abbrev s_law : Stmt := topS 29
abbrev i_BadFormula : Stmt := clsInit (topS 3)
def subsL : List (Str × Str × Bool) := [("BadFormula", "LooksError", true), ("BadFormula", "BadFormula", true)]
end K22r
namespace K22r
open PySem PySem.Spec PyProof.Rows L2 DL HX
def fcts : List Fct := ([fFun "tokens_of" s_tokens_of,
    fFun "_law_pool" s_law_pool,
    fFun "_law_draw" s_law_draw,
    fFun "_law_node" s_law_node,
    fFun "_law_parts" s_law_parts,
    fFun "_law_bare" s_law_bare,
    fFun "_law_tokens" s_law_tokens,
    fFun "_law_spaced" s_law_spaced,
    fFun "_law_cut" s_law_cut,
    fFun "_law_step" s_law_step,
    fFun "_law_fault" s_law_fault,
    fFun "_law_bent" s_law_bent,
    fFun "_law_signed" s_law_signed,
    fMe "Reader" "__init__" "Reader.__init__" s_Reader_init,
    fMe "Reader" "here" "Reader.here" s_Reader_here,
    fMe "Reader" "fault" "Reader.fault" s_Reader_fault,
    fMe "Reader" "need" "Reader.need" s_Reader_need,
    fMe "Reader" "counted" "Reader.counted" s_Reader_counted,
    fMe "Reader" "atom" "Reader.atom" s_Reader_atom,
    fMe "Reader" "turned" "Reader.turned" s_Reader_turned] : List Fct) ++ ([fMe "Reader" "joined" "Reader.joined" s_Reader_joined,
    fFun "read_node" s_read_node,
    fMe "Formula" "__init__" "Formula.__init__" s_Formula_init,
    fFun "_law_told" s_law_told,
    fFun "law" s_law,
    fCl "Formula" ["node"],
    fCl "Reader" ["tokens", "length", "place"],
    fCls "Formula",
    fIsC "Formula" ["node"],
    fTupS "BITS_OF" ["x0", "x1", "x2", "x3", "x4", "x5"],
    fTupS "JOINS" ["or", "xor", "and"],
    fFree "int",
    fFree "isinstance",
    fFree "len",
    fFree "list",
    fFree "max",
    fFree "min",
    fFree "range",
    fFree "str",
    fCon "DIGITS" (.str "0123456789")] : List Fct) ++ ([fCon "LETTERS" (.str "abcdefghijklmnopqrstuvwxyzABCDEFGHIJKLMNOPQRSTUVWXYZ0123456789"),
    fEx (PySem.Challenge.rw_leastlooks_k22_formulas_refused).prog "BadFormula" "BadFormula.__init__" i_BadFormula ["at"],
    fCls "LooksError",
    fCls "BadFormula",
    fSubs subsL] : List Fct)
def loose : List Str := (["_wall",
    "LooksError",
    "BadFormula",
    "DIGITS",
    "LETTERS",
    "BITS_OF",
    "JOINS",
    "tokens_of",
    "Reader",
    "read_node",
    "Formula",
    "_law_pool",
    "_law_draw",
    "_law_node",
    "_law_parts",
    "_law_tokens",
    "_law_bare",
    "_law_spaced",
    "_law_value",
    "_law_bits",
    "_law_cut",
    "_law_step",
    "_law_fault",
    "_law_told",
    "_law_bent",
    "_law_signed"] : List Str)
theorem run (w : World) : HandSHeadRun.RunEq (PySem.W.OpenLaw.row PySem.Challenge.rw_leastlooks_k22_formulas_refused) (PySem.W.view (PySem.W.OpenLaw.row PySem.Challenge.rw_leastlooks_k22_formulas_refused).prog [29]) (hookY 6 fcts) (fun s => obY 6 fcts (HandSHeadRun.getT s)) 30000 loose w := by
  intro os
  kernel_rfl
end K22r
section
/-! DN2: single signs, texts put together of them, empty lists, the texts of errors. -/
namespace DL
open PySem PySem.Spec PyProof.Rows L2
/-- a text by its codes -/
def tx (l : List Nat) : Str := ⟨l.toArray⟩
theorem tx_len (l : List Nat) : (tx l).length = l.length := by show l.toArray.size = _; rw [List.size_toArray]
theorem cd_tx (l : List Nat) (i : Nat) : cd (tx l) i = l.getD i 0 := rfl
theorem str_beq (c k : Nat) : ((⟨#[c]⟩ : Str) == ⟨#[k]⟩) = (c == k) := by
  rw [Bool.eq_iff_iff, beq_iff_eq, beq_iff_eq]
  constructor
  · intro h
    injection h with h
    have := congrArg Array.toList h
    simpa using this
  · rintro rfl; rfl
theorem eq_ch (c k : Nat) : eqF (ch c) (ch k) = vb (c == k) := by
  show vb ((⟨#[c]⟩ : Str) == ⟨#[k]⟩) = _
  rw [str_beq]
theorem ne_ch (c k : Nat) : neF (ch c) (ch k) = vb (c != k) := by
  show vb (!((⟨#[c]⟩ : Str) == ⟨#[k]⟩)) = _
  rw [str_beq]
  rfl
theorem eq_ch1 (c k : Nat) {s : Str} (h : s = ⟨#[k]⟩ := by rfl) : eqF (ch c) (.str s) = vb (c == k) := by subst h; exact eq_ch c k
theorem ne_ch1 (c k : Nat) {s : Str} (h : s = ⟨#[k]⟩ := by rfl) : neF (ch c) (.str s) = vb (c != k) := by subst h; exact ne_ch c k
theorem in_ch (c : Nat) (z : Str) : inF (ch c) (.str z) = vb (decide (c ∈ z.cps.toList)) := rfl
theorem nin_ch (c : Nat) (z : Str) : notInF (ch c) (.str z) = vb (!decide (c ∈ z.cps.toList)) := rfl
theorem in_two (c k j : Nat) {s : Str} (h : s = ⟨#[j]⟩ := by rfl) : inF (ch c) (.tup [.str s, ch k]) = vb (j == c || k == c) := by
  subst h
  show vb (((⟨#[j]⟩ : Str) == ⟨#[c]⟩) || (((⟨#[k]⟩ : Str) == ⟨#[c]⟩) || false)) = _
  rw [str_beq, str_beq, Bool.or_false]
theorem nin_two (c k j : Nat) {s : Str} (h : s = ⟨#[j]⟩ := by rfl) : notInF (ch c) (.tup [.str s, ch k]) = vb (!(j == c || k == c)) := by
  subst h
  show vb (!(((⟨#[j]⟩ : Str) == ⟨#[c]⟩) || (((⟨#[k]⟩ : Str) == ⟨#[c]⟩) || false))) = _
  rw [str_beq, str_beq, Bool.or_false]
theorem eq_dash (c : Nat) : eqF (ch c) (.str (Str.ofString "-")) = vb (c == 45) := eq_ch1 c 45
theorem ne_dash (c : Nat) : neF (ch c) (.str (Str.ofString "-")) = vb (c != 45) := ne_ch1 c 45
theorem eq_zero (c : Nat) : eqF (ch c) (.str (Str.ofString "0")) = vb (c == 48) := eq_ch1 c 48
theorem ne_zero (c : Nat) : neF (ch c) (.str (Str.ofString "0")) = vb (c != 48) := ne_ch1 c 48
theorem eq_one (c : Nat) : eqF (ch c) (.str (Str.ofString "1")) = vb (c == 49) := eq_ch1 c 49
theorem ne_one (c : Nat) : neF (ch c) (.str (Str.ofString "1")) = vb (c != 49) := ne_ch1 c 49
theorem in_dash (c k : Nat) : inF (ch c) (.tup [.str (Str.ofString "-"), ch k]) = vb (45 == c || k == c) := in_two c k 45
theorem nin_dash (c k : Nat) : notInF (ch c) (.tup [.str (Str.ofString "-"), ch k]) = vb (!(45 == c || k == c)) := nin_two c k 45
theorem blsOf_map {α : Type} (f : α → Bool) : ∀ l : List α, blsOf (l.map fun a => D.bl (f a)) = some (l.map f)
  | [] => rfl
  | a :: l => by simp only [List.map_cons, blsOf, blsOf_map f l, Option.map_some]
theorem all_map {α : Type} (f : α → Bool) (l : List α) : allF [.lst (l.map fun a => D.bl (f a))] = vb (l.all f) := by
  unfold allF
  dsimp only
  rw [blsOf_map]
  dsimp only
  rw [List.all_map]
  rfl
theorem any_map {α : Type} (f : α → Bool) (l : List α) : anyF [.lst (l.map fun a => D.bl (f a))] = vb (l.any f) := by
  unfold anyF
  dsimp only
  rw [blsOf_map]
  dsimp only
  rw [List.any_map]
  rfl
/-! ### against the empty list -/
/-! ### what errors keep -/
theorem mk1_of {f pre : Str} {d : D} {n k : Nat} (h : ShL d n k) (hn : n + pre.length ≤ 16777216) (hk : k ≤ 100) : mk1 f pre [d] = some [(f, d)] := by
  obtain ⟨t, h1, h2⟩ := rprD_of h (by omega) hk
  unfold mk1
  dsimp only
  rw [h1]
  dsimp only
  rw [if_pos]
  have e0 : (Str.empty).length = 0 := rfl
  rw [Bool.and_eq_true]
  exact ⟨fits_le (by rw [strLen_append]; omega), fits_le (by rw [strLen_append, strLen_append]; omega)⟩
theorem v_runn {ag : AG} {b : GS} {st : DS} {Z : SE} (h : Z.nx st) : (runFor ag b [] st).sat Z := h
theorem v_runc {ag : AG} {b : GS} {d : D} {ds : List D} {st st1 : DS} {Z : SE} (h1 : ag d st = some st1) (h2 : (b st1).sat { Z with nx := fun st2 => (runFor ag b ds st2).sat Z, ct := fun st2 => (runFor ag b ds st2).sat Z, bk := Z.nx }) : (runFor ag b (d :: ds) st).sat Z := by
  unfold runFor
  rw [h1]
  dsimp only
  cases eb : b st1 with
  | nx st2 => rw [eb] at h2; exact h2
  | ct st2 => rw [eb] at h2; exact h2
  | bk st2 => rw [eb] at h2; exact h2
  | rt a st2 => rw [eb] at h2; exact h2
  | ex e st2 => rw [eb] at h2; exact h2
  | no => rw [eb] at h2; exact h2
theorem v_dct {l : List (GE × GE)} {st st1 : DS} {a : Val} {Q : Val → DS → Prop} {E : Ex → DS → Prop} (h1 : gDct l st = .ok a st1) (h2 : Q a st1) : (gDct l st).sat Q E := by rw [h1]; exact h2
end DL
end
section
/-! DN3: comprehensions with two fors that change nothing; lists of texts. -/
namespace DL
open PySem PySem.Spec PyProof.Rows L2
def OLc2 (vs vs1 : List Nat) (ag : AG) (tt : GT) (gi1 : GI) (ag1 : AG) (tt1 : GT) (ge : GE) (ds : List D) (st1 : DS) (Q : Val → DS → Prop) : Prop := (vs.all fun i => plainS st1[i]?) = true ∧ ∃ xs st2, runLc2 vs vs1 ag tt gi1 ag1 tt1 ge ds (wipeD st1 vs) [] = some (xs, st2) ∧ st1.length = st2.length ∧ Q (.fr (.lst xs)) (restD st1 st2 vs)
section
variable {st : DS} {Q : Val → DS → Prop} {E : Ex → DS → Prop}
theorem v_lc2 {vs vs1 : List Nat} {gi gi1 : GI} {ag ag1 : AG} {tt tt1 : GT} {ge : GE} (h : (gi st).sat (fun ds st1 => OLc2 vs vs1 ag tt gi1 ag1 tt1 ge ds st1 Q) E) : (gLc2 vs vs1 gi ag tt gi1 ag1 tt1 ge st).sat Q E := by
  unfold gLc2
  refine sat_bind (sat_imp h (fun ds st1 q => ?_) fun _ _ q => q)
  obtain ⟨h1, xs, st2, h2, h3, h4⟩ := q
  try dsimp only
  rw [if_pos h1, h2]
  dsimp only
  rw [if_pos h3]
  exact h4
end
/-! ### lists of texts -/
def txs (l : List (List Nat)) : List D := l.map fun t => .str (tx t)
theorem str_app_len (x y : Str) : (x ++ y).length = x.length + y.length := by show (x.cps ++ y.cps).size = _; rw [Array.size_append]; rfl
theorem add_lst {xs ys : List D} (h : xs.length + ys.length ≤ 16777216) : addF (.lst xs) (.lst ys) = some (.fr (.lst (xs ++ ys))) := by
  show (match addSF (.lst xs) (.lst ys) with
    | some c => some c
    | none => catF (.lst xs) (.lst ys)) = _
  have e : addSF (.lst xs) (.lst ys) = none := rfl
  rw [e]
  dsimp only
  unfold catF
  dsimp only
  rw [if_pos (fits_le h)]
theorem chars_tx (l : List Nat) : chars (tx l) = l.map ch := rfl
/-- all texts of n signs -/
def allT (A : List Nat) : Nat → List (List Nat)
  | 0 => [[]]
  | n + 1 => (allT A n).flatMap fun t => A.map fun c => t ++ [c]
end DL
end
namespace Q
open PySem PySem.Spec PyProof.Rows L2 DL
def g_law_pool : GS := (sSeq (sAsg 2 (gIf (gTst (gOp2 ltF (gVar 1) (gCB lenF (gCons (gVar 0) gNil)))) (gOp2 itemF (gVar 0) (gVar 1)) (gC (.int 0))))
  (sRet (gLst (gCons (gVar 2) (gCons (gC (.int 0)) (gCons (gOp2 geF (gVar 2) (gOp2 powF (gC (.int 10)) (gC (.int 18)))) (gCons (gVar 1) gNil)))))))
def F_law_pool : FnD := callD [false, false] 3 g_law_pool
def g_law_draw : GS := (sSeq (sSetIx (gOp2 addF (gOp2 itemF (gVar 0) (gC (.int 1))) (gC (.int 1))) (gVar 0) (gC (.int 1)))
  (sSeq (sIf (gTru (gOp2 itemF (gVar 0) (gC (.int 2)))) (sSeq (sAsg 4 (gOp2 modF (gCB intF (gCons (gOp2 itemF (gVar 0) (gC (.int 0))) gNil)) (gVar 1)))
  (sSeq (sSetIx (gOp2 fdivF (gCB intF (gCons (gOp2 itemF (gVar 0) (gC (.int 0))) gNil)) (gVar 1)) (gVar 0) (gC (.int 0)))
  (sRet (gVar 4)))) sNext)
  (sSeq (sAsg 2 (gOp2 addF (gOp2 addF (gOp2 addF (gOp2 mulF (gOp2 itemF (gVar 0) (gC (.int 0))) (gC (.int 48271))) (gOp2 mulF (gOp2 itemF (gVar 0) (gC (.int 1))) (gC (.int 104729)))) (gOp2 mulF (gOp2 itemF (gVar 0) (gC (.int 3))) (gC (.int 8191)))) (gC (.int 11))))
  (sSeq (sAsg 3 (gOp2 modF (gCB intF (gCons (gVar 2) gNil)) (gC (.int 2147483647))))
  (sSeq (sAsg 3 (gOp2 modF (gCB intF (gCons (gOp2 addF (gOp2 powF (gVar 3) (gC (.int 3))) (gOp2 mulF (gOp2 itemF (gVar 0) (gC (.int 1))) (gC (.int 7919)))) gNil)) (gC (.int 2147483629))))
  (sRet (gOp2 modF (gOp2 fdivF (gCB intF (gCons (gOp2 modF (gOp2 powF (gVar 3) (gC (.int 5))) (gC (.int 2147483587))) gNil)) (gC (.int 16))) (gVar 1))))))))
def F_law_draw : FnD := callD [true, false] 5 g_law_draw
end Q
namespace Q
open PySem PySem.Spec PyProof.Rows L2 DL
end Q
namespace Q
open PySem PySem.Spec PyProof.Rows L2 DL
end Q
namespace Q
open PySem PySem.Spec PyProof.Rows L2 DL
end Q
namespace Q
open PySem PySem.Spec PyProof.Rows L2 DL
end Q
namespace Q
open PySem PySem.Spec PyProof.Rows L2 DL
end Q
namespace Q
open PySem PySem.Spec PyProof.Rows L2 DL
end Q
namespace Q
open PySem PySem.Spec PyProof.Rows L2 DL
end Q
namespace Q
open PySem PySem.Spec PyProof.Rows L2 DL
end Q
namespace Q
open PySem PySem.Spec PyProof.Rows L2 DL
end Q
namespace Q
open PySem PySem.Spec PyProof.Rows L2 DL
end Q
section
/-! DN4: data that can be compared; == and != of equal data, of texts, of lists of texts. -/
namespace DL
open PySem PySem.Spec PyProof.Rows L2
def Cm (d : D) (k : Nat) : Prop := ∃ p, py d = some p ∧ p.canLay0 = true ∧ p.depth ≤ k
theorem Cm.mono {d : D} {k k' : Nat} (h : Cm d k) (q : k ≤ k') : Cm d k' := by
  obtain ⟨p, h1, h2, h3⟩ := h
  exact ⟨p, h1, h2, by omega⟩
theorem cm_non {k : Nat} : Cm .non k := ⟨_, rfl, rfl, Nat.zero_le _⟩
theorem cm_bl {b : Bool} {k : Nat} : Cm (.bl b) k := ⟨_, rfl, rfl, Nat.zero_le _⟩
theorem cm_int {i : Int} {k : Nat} : Cm (.int i) k := ⟨_, rfl, rfl, Nat.zero_le _⟩
theorem lay_tx {l : List Nat} (h : ∀ c ∈ l, c < 0x110000) : PyData.canLay0 (.str (tx l)) = true := by
  show (tx l).cps.all (· < 0x110000) = true
  rw [Array.all_eq_true']
  intro c hc
  exact decide_eq_true (h c (by simpa [tx] using hc))
theorem cm_tx {l : List Nat} {k : Nat} (h : ∀ c ∈ l, c < 0x110000) : Cm (.str (tx l)) k := ⟨_, rfl, lay_tx h, Nat.zero_le _⟩
theorem cm_all {k : Nat} : ∀ {ds : List D}, (∀ d ∈ ds, Cm d k) → ∃ ps, pys ds = some ps ∧ PyData.canLayAll0 ps = true ∧ PyData.depthAll ps ≤ k
  | [], _ => ⟨[], rfl, rfl, Nat.zero_le _⟩
  | d :: ds, h => by
    obtain ⟨p, h1, h2, h3⟩ := h d (List.Mem.head _)
    obtain ⟨ps, q1, q2, q3⟩ := cm_all fun d hd => h d (List.Mem.tail _ hd)
    refine ⟨p :: ps, by simp only [pys, h1, q1], by rw [PyData.canLayAll0, h2, q2]; rfl, ?_⟩
    rw [PyData.depthAll]
    omega
theorem cm_lst {k : Nat} {ds : List D} (h : ∀ d ∈ ds, Cm d k) : Cm (.lst ds) (k + 1) := by
  obtain ⟨ps, h1, h2, h3⟩ := cm_all h
  refine ⟨.list ps, by simp only [py, h1, Option.map_some], by rw [PyData.canLay0]; exact h2, ?_⟩
  rw [PyData.depth]
  omega
theorem cm_tup {k : Nat} {ds : List D} (h : ∀ d ∈ ds, Cm d k) : Cm (.tup ds) (k + 1) := by
  obtain ⟨ps, h1, h2, h3⟩ := cm_all h
  refine ⟨.tuple ps, by simp only [py, h1, Option.map_some], by rw [PyData.canLay0]; exact h2, ?_⟩
  rw [PyData.depth]
  omega
theorem cm_shaped {p : PyData} (h2 : p.canLay0 = true) (h3 : p.depth ≤ 64) : SeqAt.shaped p = true := by
  unfold SeqAt.shaped
  rw [h2, decide_eq_true h3]
  rfl
/-- == of lists and tuples, by their data -/
theorem eqD_py {x y : D} {p q : PyData} (hx : py x = some p) (hy : py y = some q) (h1 : p.canLay0 = true) (h2 : p.depth ≤ 64) (h3 : q.canLay0 = true) (h4 : q.depth ≤ 64) (hn : (∀ i, x ≠ .int i) ∧ (∀ i, x ≠ .str i) ∧ (∀ i, x ≠ .bl i)) : eqD x y = some (PyData.eqv p q) := by
  obtain ⟨n1, n2, n3⟩ := hn
  unfold eqD
  split
  · exact (n1 _ rfl).elim
  · exact (n2 _ rfl).elim
  · exact (n3 _ rfl).elim
  · rw [hx, hy]
    dsimp only
    rw [cm_shaped h1 h2, cm_shaped h3 h4]
    rfl
theorem cm_eq {d : D} (h : Cm d 64) : eqD d d = some true := by
  obtain ⟨p, h1, h2, h3⟩ := h
  cases d with
  | int i => show some (i == i) = _; rw [beq_self_eq_true]
  | str i => show some (i == i) = _; rw [beq_self_eq_true]
  | bl i => show some (i == i) = _; rw [beq_self_eq_true]
  | _ => rw [eqD_py h1 h1 h2 h3 h2 h3 ⟨fun _ z => (by cases z), fun _ z => (by cases z), fun _ z => (by cases z)⟩, PySem.SeqAt.eqv_refl p h2]
theorem ne_same {d : D} (h : Cm d 64) : neF d d = vb false := by unfold neF; rw [cm_eq h]; rfl
theorem tx_beq (a b : List Nat) : (tx a == tx b) = (a == b) := by
  rw [Bool.eq_iff_iff, beq_iff_eq, beq_iff_eq]
  constructor
  · intro h
    have := congrArg (fun x : Str => x.cps.toList) h
    exact this
  · intro h; rw [h]
theorem eq_tx (a b : List Nat) : eqF (.str (tx a)) (.str (tx b)) = vb (a == b) := by show vb (tx a == tx b) = _; rw [tx_beq]
theorem ne_tx (a b : List Nat) : neF (.str (tx a)) (.str (tx b)) = vb (a != b) := by show vb (!(tx a == tx b)) = _; rw [tx_beq]; rfl
theorem txs_py : ∀ (l : List (List Nat)), pys (txs l) = some (l.map fun t => .str (tx t))
  | [] => rfl
  | t :: l => by
    show (match py (.str (tx t)), pys (txs l) with | some d, some ds => some (d :: ds) | _, _ => none) = _
    rw [txs_py l]
    rfl
theorem txs_eqv : ∀ (l m : List (List Nat)), PyData.eqvAll (l.map fun t => .str (tx t)) (m.map fun t => .str (tx t)) = (l == m)
  | [], [] => rfl
  | [], _ :: _ => rfl
  | _ :: _, [] => rfl
  | t :: l, u :: m => by
    rw [List.map_cons, List.map_cons, PyData.eqvAll, txs_eqv l m]
    show (PyData.eqv (.str (tx t)) (.str (tx u)) && _) = ((t :: l) == (u :: m))
    rw [PyData.eqv, tx_beq]
    rfl
theorem eqD_txs {l m : List (List Nat)} (hl : ∀ t ∈ l, ∀ c ∈ t, c < 0x110000) (hm : ∀ t ∈ m, ∀ c ∈ t, c < 0x110000) : eqD (.lst (txs l)) (.lst (txs m)) = some (l == m) := by
  have key : ∀ (l : List (List Nat)), (∀ t ∈ l, ∀ c ∈ t, c < 0x110000) → PyData.canLay0 (.list (l.map fun t => .str (tx t))) = true ∧ PyData.depth (.list (l.map fun t => .str (tx t))) ≤ 64 := by
    intro l hl
    obtain ⟨ps, q1, q2, q3⟩ := cm_all (k := 0) (ds := txs l) fun d hd => by
      obtain ⟨t, ht, rfl⟩ := List.mem_map.mp hd
      exact cm_tx (hl t ht)
    rw [txs_py] at q1
    cases q1
    refine ⟨by rw [PyData.canLay0]; exact q2, ?_⟩
    rw [PyData.depth]
    omega
  rw [eqD_py (p := .list (l.map fun t => .str (tx t))) (q := .list (m.map fun t => .str (tx t))) (by simp only [py, txs_py, Option.map_some]) (by simp only [py, txs_py, Option.map_some]) (key l hl).1 (key l hl).2 (key m hm).1 (key m hm).2 ⟨fun _ z => (by cases z), fun _ z => (by cases z), fun _ z => (by cases z)⟩, PyData.eqv, txs_eqv]
theorem ne_txs {l m : List (List Nat)} (hl : ∀ t ∈ l, ∀ c ∈ t, c < 0x110000) (hm : ∀ t ∈ m, ∀ c ∈ t, c < 0x110000) : neF (.lst (txs l)) (.lst (txs m)) = vb (l != m) := by unfold neF; rw [eqD_txs hl hm]; rfl
/-! ### slices -/
theorem cut_take {α : Type} (xs : List α) (k : Nat) : cut xs none (some (k : Int)) = xs.take k := by
  unfold cut
  rw [HT.sIx_none, HT.sIx_nat, List.drop_zero, Nat.sub_zero]
  by_cases h : k ≤ xs.length
  · rw [Nat.min_eq_left h]
  · rw [Nat.min_eq_right (by omega), List.take_length, List.take_of_length_le (by omega)]
theorem cut_drop {α : Type} (xs : List α) (k : Nat) : cut xs (some (k : Int)) none = xs.drop k := by
  unfold cut
  rw [HT.sIx_none, HT.sIx_nat]
  by_cases h : k ≤ xs.length
  · rw [Nat.min_eq_left h, List.take_of_length_le (by rw [List.length_drop]; omega)]
  · rw [Nat.min_eq_right (by omega), List.drop_length, List.drop_of_length_le (by omega)]
    simp
theorem cut_last {α : Type} (xs : List α) (a : α) : cut (xs ++ [a]) none (some (-1)) = xs := by
  unfold cut
  rw [HT.sIx_none, List.drop_zero, Nat.sub_zero]
  unfold HT.sIx
  dsimp only
  rw [if_pos (by decide), List.length_append, List.length_singleton, show ((-1 : Int) + ((xs.length + 1 : Nat) : Int)).toNat = xs.length by omega, List.take_left]
theorem sl_lst (xs : List D) (lo hi : Option Int) : slF (.lst xs) lo hi = some (.fr (.lst (cut xs lo hi))) := rfl
theorem it_last (xs : List D) (a : D) : itemF (.lst (xs ++ [a])) (.int (-1)) = some (.d a) := by
  show (atI (xs ++ [a]) (-1)).map Val.d = _
  unfold atI ixN
  rw [if_neg (by decide), if_pos (by rw [List.length_append, List.length_singleton]; omega), List.length_append, List.length_singleton, Option.bind_some, show ((-1 : Int) + ((xs.length + 1 : Nat) : Int)).toNat = xs.length by omega]
  simp
/-! ### calls, to be taken with_reducible -/
theorem c_okR {F : FnD} {Q : Val → DS → Prop} {st2 : DS} {xs : List D} {v : Val} {js : List Nat} {E : Ex → List D → Prop} (hj : js = []) (e : F xs = .ok v []) (h : Q v st2) : (F xs).sat (fun a ios => ∃ st3, back js ios st2 = some st3 ∧ Q a st3) E := by subst hj; exact c_ok e h
theorem c_exR {F : FnD} {E : Ex → DS → Prop} {st2 : DS} {xs : List D} {x : Ex} {js : List Nat} {P : Val → List D → Prop} (hj : js = []) (e : F xs = .ex x []) (h : E x st2) : (F xs).sat P (fun e ios => ∃ st3, back js ios st2 = some st3 ∧ E e st3) := by subst hj; exact c_ex e h
end DL
end
section
/-! DN5: symbolic runs of what has to do with an own class. -/
namespace DL
open PySem PySem.Spec PyProof.Rows L2
section
variable {st st1 st2 st3 : DS} {Q : Val → DS → Prop} {QB : Bool → DS → Prop} {QA : List Val → DS → Prop} {QI : List D → DS → Prop} {E : Ex → DS → Prop} {ga gb g go ge : GE} {gs gk : GA} {Z : SE} {F : FnD} {ms : List Bool} {c f m : Str} {a b : Val} {as : List Val} {fs : List (Str × D)} {x y d : D} {i : Nat} {N : DS → Prop}
theorem v_callC (h : OC F ms st as Q E) : (gCallC F ms as st).sat Q E := by
  obtain ⟨ys, st3, ds, h3, h4, h5, h6⟩ := h
  unfold gCallC
  rw [h3]
  dsimp only
  rw [if_pos h4, h5]
  dsimp only
  cases e : F ds with
  | ok a ios =>
    rw [e] at h6
    obtain ⟨st3, h7, h8⟩ := h6
    dsimp only
    rw [h7]
    exact h8
  | ex x ios =>
    rw [e] at h6
    obtain ⟨st3, h7, h8⟩ := h6
    dsimp only
    rw [h7]
    exact h8
  | no => rw [e] at h6; exact h6
/-- a call that may not raise -/
theorem c_okN {xs : List D} {v : Val} {E : Ex → List D → Prop} (e : F xs = .ok v []) (h : Q v st2) : (noEx F xs).sat (fun a ios => ∃ st3, back [] ios st2 = some st3 ∧ Q a st3) E := by
  unfold noEx
  rw [e]
  exact ⟨st2, rfl, h⟩
/-- the same rules, to be taken with_reducible -/
theorem c_okNR {xs : List D} {v : Val} {js : List Nat} {E : Ex → List D → Prop} (hj : js = []) (e : F xs = .ok v []) (h : Q v st2) : (noEx F xs).sat (fun a ios => ∃ st3, back js ios st2 = some st3 ∧ Q a st3) E := by subst hj; exact c_okN e h
def OF (c f : Str) (st : DS) (a : Val) (Q : Val → DS → Prop) : Prop := ∃ fs d, look st a = some (.ins c fs) ∧ fs.lookup f = some d ∧ Q (.d d) st
theorem v_fld (h : (g st).sat (fun a st1 => OF c f st1 a Q) E) : (gFld c f g st).sat Q E := by
  refine sat_bind (sat_imp h (fun a st1 h1 => ?_) fun _ _ z => z)
  obtain ⟨fs, d, h2, h3, h4⟩ := h1
  rw [h2]
  dsimp only
  rw [if_pos rfl, h3]
  exact h4
theorem o_fld (h1 : look st a = some (.ins c fs)) (h2 : fs.lookup f = some d) (h3 : Q (.d d) st) : OF c f st a Q := ⟨fs, d, h1, h2, h3⟩
theorem v_prop (h : (go st).sat (fun a st1 => isInC st1 a c = true ∧ OC (noEx F) [false] st1 [a] Q E) E) : (gProp c F go st).sat Q E := by
  refine sat_bind (sat_imp h (fun a st1 h1 => ?_) fun _ _ z => z)
  rw [if_pos h1.1]
  exact v_callC h1.2
theorem v_meth (h : (go st).sat (fun a st1 => isIns st1 a c m = true ∧ (gs st1).sat (fun as st2 => OC F ms st2 (a :: as) Q E) E) E) : (gMeth c m ms F go gs st).sat Q E := by
  refine sat_bind (sat_imp h (fun a st1 h1 => ?_) fun _ _ z => z)
  rw [if_pos h1.1]
  exact sat_bind (sat_imp h1.2 (fun as st2 h2 => v_callC h2) fun _ _ z => z)
theorem v_cmeth (h : (gs st).sat (fun as st2 => OC F ms st2 (.d (.cls c) :: as) Q E) E) : (gCMeth c ms F gs st).sat Q E := sat_bind (sat_imp h (fun as st2 h2 => v_callC h2) fun _ _ z => z)
theorem v_callO (h : (go st).sat (fun a st1 => isInC st1 a c = true ∧ (gs st1).sat (fun as st2 => isInC st2 a c = true ∧ OC F ms st2 (a :: as) Q E) E) E) : (gCallO c ms F go gs st).sat Q E := by
  refine sat_bind (sat_imp h (fun a st1 h1 => ?_) fun _ _ z => z)
  rw [if_pos h1.1]
  refine sat_bind (sat_imp h1.2 (fun as st2 h2 => ?_) fun _ _ z => z)
  rw [if_pos h2.1]
  exact v_callC h2.2
theorem v_unI (h : (go st).sat (fun a st1 => isInC st1 a c = true ∧ OC F [false] st1 [a] Q E) E) : (gUnI c F go st).sat Q E := by
  refine sat_bind (sat_imp h (fun a st1 h1 => ?_) fun _ _ z => z)
  rw [if_pos h1.1]
  exact v_callC h1.2
theorem v_binI (h : (ga st).sat (fun a st1 => (gb st1).sat (fun b st2 => (isInC st2 a c && isInC st2 b c) = true ∧ OC F [false, false] st2 [a, b] Q E) E) E) : (gBinI c F ga gb st).sat Q E := by
  refine sat_bind (sat_imp h (fun a st1 h1 => sat_bind (sat_imp h1 (fun b st2 h2 => ?_) fun _ _ z => z)) fun _ _ z => z)
  rw [if_pos h2.1]
  exact sat_bind (v_callC h2.2)
theorem o_b {t : Bool} {P : Prop} (h1 : t = true) (h2 : P) : t = true ∧ P := ⟨h1, h2⟩
def OM (c : Str) (n : Nat) (F : FnD) (st : DS) (as : List Val) (Q : Val → DS → Prop) (E : Ex → DS → Prop) : Prop := ∃ ds st2, takes st as = some (ds, st2) ∧ ds.length = n ∧ (F (.ins c [] :: ds)).sat (fun a ios => ∃ x, a = .d .non ∧ ios = [x] ∧ Q (.fr x) st2) (fun e _ => E e st2)
theorem v_make {n : Nat} (h : (gs st).sat (fun as st1 => OM c n F st1 as Q E) E) : (gMake c n F gs st).sat Q E := by
  refine sat_bind (sat_imp h (fun as st1 h1 => ?_) fun _ _ z => z)
  obtain ⟨ds, st2, h2, h3, h4⟩ := h1
  rw [h2]
  dsimp only
  rw [if_pos h3]
  cases e : F (.ins c [] :: ds) with
  | ok a ios =>
    rw [e] at h4
    obtain ⟨x, rfl, rfl, h5⟩ := h4
    exact h5
  | ex x ios => rw [e] at h4; exact h4
  | no => rw [e] at h4; exact h4
theorem o_mk {n : Nat} {ds : List D} (h1 : takes st as = some (ds, st2)) (h2 : ds.length = n) (h3 : (F (.ins c [] :: ds)).sat (fun a ios => ∃ x, a = .d .non ∧ ios = [x] ∧ Q (.fr x) st2) (fun e _ => E e st2)) : OM c n F st as Q E := ⟨ds, st2, h1, h2, h3⟩
theorem m_ok {xs : List D} {P : D → Prop} {E : Ex → List D → Prop} (e : F xs = .ok (.d .non) [x]) (h : P x) : (F xs).sat (fun a ios => ∃ x, a = .d .non ∧ ios = [x] ∧ P x) E := by
  rw [e]
  exact ⟨x, rfl, rfl, h⟩
theorem m_ex {xs ios : List D} {z : Ex} {P : Val → List D → Prop} (e : F xs = .ex z ios) (h : E z st2) : (F xs).sat P (fun e _ => E e st2) := by
  rw [e]
  exact h
def OSF (c f : Str) (st : DS) (a ov : Val) (N : DS → Prop) : Prop := ∃ v st3 i fs, take1 st a = some (v, st3) ∧ ov = .sl i ∧ cont st3 i = some (.ins c fs) ∧ fs.length < 1000 ∧ N (setC st3 i (.ins c (putFD f v fs)))
theorem v_setF (h : (ge st).sat (fun a st1 => (go st1).sat (fun ov st2 => OSF c f st2 a ov Z.nx) Z.ex) Z.ex) : (sSetF c f ge go st).sat Z := by
  refine sat_bindS (sat_imp h (fun a st1 h1 => sat_bindS (sat_imp h1 (fun ov st2 h2 => ?_) fun _ _ z => z)) fun _ _ z => z)
  obtain ⟨v, st3, i, fs, q1, rfl, q2, q3, q4⟩ := h2
  rw [q1]
  dsimp only
  rw [q2]
  dsimp only
  rw [if_pos ⟨rfl, q3⟩]
  exact q4
theorem o_setF {v : D} (h1 : take1 st a = some (v, st3)) (h2 : cont st3 i = some (.ins c fs)) (h3 : Nat.ble (fs.length + 1) 1000 = true) (h4 : setC st3 i (.ins c (putFD f v fs)) = st2) (h5 : N st2) : OSF c f st a (.sl i) N := ⟨v, st3, i, fs, h1, rfl, h2, Nat.le_of_ble_eq_true h3, by rw [h4]; exact h5⟩
def OChk (chk : D → Option D) (v : Val) (st : DS) (Q : Val → DS → Prop) : Prop := ∃ x y, v = .d x ∧ chk x = some y ∧ Q (.d y) st
theorem o_chk {chk : D → Option D} (h1 : chk x = some y) (h2 : Q (.d y) st) : OChk chk (.d x) st Q := ⟨x, y, rfl, h1, h2⟩
theorem sat_chk {r : Rs Val} {chk : D → Option D} (h : r.sat (fun v st2 => OChk chk v st2 Q) E) : (r.bind (chkR chk)).sat Q E := by
  refine sat_bind (sat_imp h (fun v st2 h1 => ?_) fun _ _ z => z)
  obtain ⟨x, y, rfl, h2, h3⟩ := h1
  show (match chk x with | some y => Rs.ok (Val.d y) st2 | none => Rs.no).sat Q E
  rw [h2]
  exact h3
def OS1 (c : Str) (F : FnD) (chk : D → Option D) (st : DS) (as : List Val) (Q : Val → DS → Prop) (E : Ex → DS → Prop) : Prop := ∃ a, as = [a] ∧ isInC st a c = true ∧ OC (noEx F) [false] st [a] (fun v st2 => OChk chk v st2 Q) E
theorem v_sp1 {chk : D → Option D} (h : (gs st).sat (fun as st1 => OS1 c F chk st1 as Q E) E) : (gSp1 c F chk gs st).sat Q E := by
  refine sat_bind (sat_imp h (fun as st1 h1 => ?_) fun _ _ z => z)
  obtain ⟨a, rfl, h2, h3⟩ := h1
  dsimp only
  rw [if_pos h2]
  exact sat_chk (v_callC h3)
theorem o_sp1 {chk : D → Option D} (h1 : isInC st a c = true) (h2 : OC (noEx F) [false] st [a] (fun v st2 => OChk chk v st2 Q) E) : OS1 c F chk st [a] Q E := ⟨a, rfl, h1, h2⟩
theorem v_inI {neg : Bool} (h : (ga st).sat (fun a st1 => (gb st1).sat (fun b st2 => isInC st2 b c = true ∧ OC (noEx F) [false, false] st2 [b, a] (fun v st3 => OChk (chkB neg) v st3 Q) E) E) E) : (gInI c F neg ga gb st).sat Q E := by
  refine sat_bind (sat_imp h (fun a st1 h1 => sat_bind (sat_imp h1 (fun b st2 h2 => ?_) fun _ _ z => z)) fun _ _ z => z)
  rw [if_pos h2.1]
  exact sat_chk (v_callC h2.2)
theorem v_eqI {neg : Bool} (h : (ga st).sat (fun a st1 => (gb st1).sat (fun b st2 => (isInC st2 a c && okEq st2 b c) = true ∧ OC (noEx F) [false, false] st2 [a, b] (fun v st3 => OChk (chkB neg) v st3 Q) E) E) E) : (gEqI c F neg ga gb st).sat Q E := by
  refine sat_bind (sat_imp h (fun a st1 h1 => sat_bind (sat_imp h1 (fun b st2 h2 => ?_) fun _ _ z => z)) fun _ _ z => z)
  rw [if_pos h2.1]
  exact sat_chk (v_callC h2.2)
def OII (c f : Str) (st : DS) (a : Val) (Q : List D → DS → Prop) : Prop := ∃ fs xs, look st a = some (.ins c fs) ∧ fs.lookup f = some (.lst xs) ∧ Q xs st
theorem v_iterI (h : (g st).sat (fun a st1 => OII c f st1 a QI) E) : (gIterI c f g st).sat QI E := by
  refine sat_bind (sat_imp h (fun a st1 h1 => ?_) fun _ _ z => z)
  obtain ⟨fs, xs, h2, h3, h4⟩ := h1
  rw [h2]
  dsimp only
  rw [if_pos rfl, h3]
  exact h4
theorem o_ii {xs : List D} (h1 : look st a = some (.ins c fs)) (h2 : fs.lookup f = some (.lst xs)) (h3 : QI xs st) : OII c f st a QI := ⟨fs, xs, h1, h2, h3⟩
def OTx (ns : List Int) (st : DS) (a : Val) (Q : Val → DS → Prop) : Prop := ∃ k d, look st a = some (.int k) ∧ ixOf ns k = some d ∧ Q (.d d) st
theorem v_tix {ns : List Int} (h : (g st).sat (fun a st1 => OTx ns st1 a Q) E) : (gTIx ns g st).sat Q E := by
  refine sat_bind (sat_imp h (fun a st1 h1 => ?_) fun _ _ z => z)
  obtain ⟨k, d, h2, h3, h4⟩ := h1
  rw [h2]
  dsimp only
  rw [h3]
  exact h4
theorem o_tx {ns : List Int} {k : Int} (h1 : look st a = some (.int k)) (h2 : ixOf ns k = some d) (h3 : Q (.d d) st) : OTx ns st a Q := ⟨k, d, h1, h2, h3⟩
/-! ### dict comprehensions -/
end
end DL
end
section
/-! DM75: a method of which nothing is promised (the start of a ring of methods); the run of x.f += j. -/
namespace DL
open PySem PySem.Spec PyProof.Rows L2
theorem me_no {P : Program} {w : World} {K : PySem.W.Frag} {mg : Str → Option Value} {base : Heap} {c m qual : Str} {st : Stmt} {N ps fs : List Str} {k : Nat} {ms : List Bool} (T : ClAt K mg c fs) (A : MeAt K mg c m qual st ps) (Sc : FnScope N ps (defScope st)) (hm : ms.length = ps.length) : SpM P w K mg base k c m ms noF := by
  obtain ⟨C, f, fd, h1, h2, h3, h4, h5, h6⟩ := A
  obtain ⟨C', t1, t2, t3, t4, t5, t6⟩ := T
  rw [h1] at t1
  cases t1
  refine ⟨C, f, fd, ps, h1, h2, h3, h4, t3, .all h6, ⟨fun {vs H Q E} h => ?_, fun {A outer s H args us vs Q E} _ _ _ _ _ h => ?_⟩⟩
  · obtain ⟨R, S, ds, _, _, _, _, _, z⟩ := h
    exact z.elim
  · obtain ⟨R, S, ds, _, _, _, _, _, z⟩ := h
    exact z.elim
section
variable {st st2 : DS} {Z : SE} {c f : Str} {i : Nat} {j a b : Int} {fs gs : List (Str × D)}
theorem v_incF (h1 : cont st i = some (.ins c fs)) (h2 : fs.lookup f = some (.int a)) (h3 : Nat.ble (fs.length + 1) 1000 = true) (hb : a + j = b) (hp : putFD f (.int b) fs = gs) (h4 : setC st i (.ins c gs) = st2) (h5 : Z.nx st2) : (sIncF c f i j st).sat Z := by
  subst hp
  unfold sIncF
  rw [h1]
  dsimp only
  rw [if_pos ⟨rfl, Nat.le_of_ble_eq_true h3⟩, h2]
  dsimp only
  rw [hb, h4]
  exact h5
theorem c_okI {F : FnD} {Q : Val → DS → Prop} {xs ios : List D} {v : Val} {js : List Nat} {st3 : DS} {E : Ex → List D → Prop} (e : F xs = .ok v ios) (hb : back js ios st2 = some st3) (h : Q v st3) : (F xs).sat (fun a ios => ∃ st3, back js ios st2 = some st3 ∧ Q a st3) E := by
  rw [e]
  exact ⟨st3, hb, h⟩
theorem c_exI {F : FnD} {E : Ex → DS → Prop} {xs ios : List D} {x : Ex} {js : List Nat} {st3 : DS} {P : Val → List D → Prop} (e : F xs = .ex x ios) (hb : back js ios st2 = some st3) (h : E x st3) : (F xs).sat P (fun e ios => ∃ st3, back js ios st2 = some st3 ∧ E e st3) := by
  rw [e]
  exact ⟨st3, hb, h⟩
end
end DL
end
section
/-! DM76: text in text, of any length. -/
namespace DL
open PySem PySem.Spec PyProof.Rows L2
def notInT : F2
  | .str i, .str j => vb (!(!(Builtin.Str.occurrences j i 0 j.length 1).isEmpty))
  | _, _ => none
theorem opS_notInT {G : Gx} : OpS G (fun x y H Q => ∃ i j, x = V.str i ∧ y = V.str j ∧ Q (.bl (!(!(Builtin.Str.occurrences j i 0 j.length 1).isEmpty))) H) notInT := fun P R S H σ st v u x y cc Q hs hv hu e k => by
  unfold notInT at e
  split at e
  · cases e
    exact ⟨_, _, hv.str, hu.str, k _ S H (Same.refl S) hs (.bl _)⟩
  · cases e
section
variable {X : Cx} {W : WX} {a b : Expr} {ga gb : GE} {pos : Pos}
theorem de_ninT (hm : behindInMarks .NotIn b = false := by rfl) (ha : DE X W a ga) (hb : DE X W b gb) : DE X W (.Compare a [.NotIn] [b] pos) (gOp2 notInT ga gb) := de_cmp op_notin_str opS_notInT ha hb hm
end
end DL
end
namespace K22
open PySem PySem.Spec PyProof.Rows L2 DL Q
noncomputable section
def topS (i : Nat) : Stmt := PySem.Challenge.pw_leastlooks_k22_formulas_refused.main.body.getD i (.Pass ⟨0, 0, 0, 0⟩)
abbrev s_tokens_of : Stmt := topS 9
def N_tokens_of : List Str := ["text", "found", "at", "end"]
theorem sc_tokens_of : FnScope N_tokens_of ["text"] (defScope s_tokens_of) := ⟨rfl, rfl, rfl, by decide +kernel, rfl, by decide +kernel, by decide +kernel⟩
abbrev s_law_pool : Stmt := topS 14
def N_law_pool : List Str := ["_law_script", "_law_k", "_law_cell"]
theorem sc_law_pool : FnScope N_law_pool ["_law_script", "_law_k"] (defScope s_law_pool) := ⟨rfl, rfl, rfl, by decide +kernel, rfl, by decide +kernel, by decide +kernel⟩
abbrev s_law_draw : Stmt := topS 15
def N_law_draw : List Str := ["_law_pool_here", "_law_limit", "_law_seed", "_law_mixed", "_law_digit"]
theorem sc_law_draw : FnScope N_law_draw ["_law_pool_here", "_law_limit"] (defScope s_law_draw) := ⟨rfl, rfl, rfl, by decide +kernel, rfl, by decide +kernel, by decide +kernel⟩
abbrev s_law_node : Stmt := topS 16
def N_law_node : List Str := ["_law_pool_here", "_law_floors", "_law_many", "_law_way", "_law_count", "_law_parts_here", "_law_k"]
theorem sc_law_node : FnScope N_law_node ["_law_pool_here", "_law_floors", "_law_many"] (defScope s_law_node) := ⟨rfl, rfl, rfl, by decide +kernel, rfl, by decide +kernel, by decide +kernel⟩
abbrev s_law_parts : Stmt := topS 17
def N_law_parts : List Str := ["_law_node_here"]
theorem sc_law_parts : FnScope N_law_parts ["_law_node_here"] (defScope s_law_parts) := ⟨rfl, rfl, rfl, by decide +kernel, rfl, by decide +kernel, by decide +kernel⟩
abbrev s_law_bare : Stmt := topS 19
def N_law_bare : List Str := ["_law_pool_here", "_law_node_here", "_law_level", "_law_found", "_law_piece"]
theorem sc_law_bare : FnScope N_law_bare ["_law_pool_here", "_law_node_here", "_law_level"] (defScope s_law_bare) := ⟨rfl, rfl, rfl, by decide +kernel, rfl, by decide +kernel, by decide +kernel⟩
abbrev s_law_tokens : Stmt := topS 18
def N_law_tokens : List Str := ["_law_pool_here", "_law_node_here", "_law_least", "_law_level", "_law_bare_here"]
theorem sc_law_tokens : FnScope N_law_tokens ["_law_pool_here", "_law_node_here", "_law_least"] (defScope s_law_tokens) := ⟨rfl, rfl, rfl, by decide +kernel, rfl, by decide +kernel, by decide +kernel⟩
abbrev s_law_spaced : Stmt := topS 20
def N_law_spaced : List Str := ["_law_pool_here", "_law_tokens_here", "_law_text", "_law_marks", "_law_k", "_law_need"]
theorem sc_law_spaced : FnScope N_law_spaced ["_law_pool_here", "_law_tokens_here"] (defScope s_law_spaced) := ⟨rfl, rfl, rfl, by decide +kernel, rfl, by decide +kernel, by decide +kernel⟩
abbrev s_law_cut : Stmt := topS 23
def N_law_cut : List Str := ["_law_text", "_law_signs", "_law_found", "_law_k"]
theorem sc_law_cut : FnScope N_law_cut ["_law_text"] (defScope s_law_cut) := ⟨rfl, rfl, rfl, by decide +kernel, rfl, by decide +kernel, by decide +kernel⟩
abbrev s_law_step : Stmt := topS 24
def N_law_step : List Str := ["_law_token", "_law_want", "_law_stack"]
theorem sc_law_step : FnScope N_law_step ["_law_token", "_law_want", "_law_stack"] (defScope s_law_step) := ⟨rfl, rfl, rfl, by decide +kernel, rfl, by decide +kernel, by decide +kernel⟩
abbrev s_law_fault : Stmt := topS 25
def N_law_fault : List Str := ["_law_text", "_law_here", "_law_token", "_law_at"]
theorem sc_law_fault : FnScope N_law_fault ["_law_text"] (defScope s_law_fault) := ⟨rfl, rfl, rfl, by decide +kernel, rfl, by decide +kernel, by decide +kernel⟩
abbrev s_law_bent : Stmt := topS 27
def N_law_bent : List Str := ["_law_pool_here", "_law_tokens_here", "_law_some", "_law_at", "_law_way", "_law_token"]
theorem sc_law_bent : FnScope N_law_bent ["_law_pool_here", "_law_tokens_here"] (defScope s_law_bent) := ⟨rfl, rfl, rfl, by decide +kernel, rfl, by decide +kernel, by decide +kernel⟩
abbrev s_law_signed : Stmt := topS 28
def N_law_signed : List Str := ["_law_pool_here", "_law_text", "_law_signs", "_law_at", "_law_sign"]
theorem sc_law_signed : FnScope N_law_signed ["_law_pool_here", "_law_text"] (defScope s_law_signed) := ⟨rfl, rfl, rfl, by decide +kernel, rfl, by decide +kernel, by decide +kernel⟩
abbrev s_Reader_init : Stmt := clsDef 0 (topS 10)
def N_Reader_init : List Str := ["self", "text"]
theorem sc_Reader_init : FnScope N_Reader_init ["self", "text"] (defScope s_Reader_init) := ⟨rfl, rfl, rfl, by decide +kernel, rfl, by decide +kernel, by decide +kernel⟩
abbrev s_Reader_here : Stmt := clsDef 1 (topS 10)
def N_Reader_here : List Str := ["self"]
theorem sc_Reader_here : FnScope N_Reader_here ["self"] (defScope s_Reader_here) := ⟨rfl, rfl, rfl, by decide +kernel, rfl, by decide +kernel, by decide +kernel⟩
abbrev s_Reader_fault : Stmt := clsDef 2 (topS 10)
def N_Reader_fault : List Str := ["self"]
theorem sc_Reader_fault : FnScope N_Reader_fault ["self"] (defScope s_Reader_fault) := ⟨rfl, rfl, rfl, by decide +kernel, rfl, by decide +kernel, by decide +kernel⟩
abbrev s_Reader_need : Stmt := clsDef 3 (topS 10)
def N_Reader_need : List Str := ["self", "token"]
theorem sc_Reader_need : FnScope N_Reader_need ["self", "token"] (defScope s_Reader_need) := ⟨rfl, rfl, rfl, by decide +kernel, rfl, by decide +kernel, by decide +kernel⟩
abbrev s_Reader_counted : Stmt := clsDef 7 (topS 10)
def N_Reader_counted : List Str := ["self", "count", "parts"]
theorem sc_Reader_counted : FnScope N_Reader_counted ["self"] (defScope s_Reader_counted) := ⟨rfl, rfl, rfl, by decide +kernel, rfl, by decide +kernel, by decide +kernel⟩
abbrev s_Reader_atom : Stmt := clsDef 6 (topS 10)
def N_Reader_atom : List Str := ["self", "token", "node"]
theorem sc_Reader_atom : FnScope N_Reader_atom ["self"] (defScope s_Reader_atom) := ⟨rfl, rfl, rfl, by decide +kernel, rfl, by decide +kernel, by decide +kernel⟩
abbrev s_Reader_turned : Stmt := clsDef 5 (topS 10)
def N_Reader_turned : List Str := ["self", "count", "node", "turn"]
theorem sc_Reader_turned : FnScope N_Reader_turned ["self"] (defScope s_Reader_turned) := ⟨rfl, rfl, rfl, by decide +kernel, rfl, by decide +kernel, by decide +kernel⟩
abbrev s_Reader_joined : Stmt := clsDef 4 (topS 10)
def N_Reader_joined : List Str := ["self", "level", "parts"]
theorem sc_Reader_joined : FnScope N_Reader_joined ["self", "level"] (defScope s_Reader_joined) := ⟨rfl, rfl, rfl, by decide +kernel, rfl, by decide +kernel, by decide +kernel⟩
abbrev s_read_node : Stmt := topS 11
def N_read_node : List Str := ["text", "reader", "node"]
theorem sc_read_node : FnScope N_read_node ["text"] (defScope s_read_node) := ⟨rfl, rfl, rfl, by decide +kernel, rfl, by decide +kernel, by decide +kernel⟩
abbrev s_Formula_init : Stmt := clsDef 0 (topS 12)
def N_Formula_init : List Str := ["self", "text"]
theorem sc_Formula_init : FnScope N_Formula_init ["self", "text"] (defScope s_Formula_init) := ⟨rfl, rfl, rfl, by decide +kernel, rfl, by decide +kernel, by decide +kernel⟩
abbrev s_law_told : Stmt := topS 26
def N_law_told : List Str := ["_law_text", "e"]
theorem sc_law_told : FnScope N_law_told ["_law_text"] (defScope s_law_told) := ⟨rfl, rfl, rfl, by decide +kernel, rfl, by decide +kernel, by decide +kernel⟩
abbrev s_law : Stmt := topS 29
def N_law : List Str := ["_law_script", "_law_k", "_law_pool_here", "_law_spoils", "_law_floors", "_law_tokens_here", "_law_text", "_law_some", "_law_turn", "_law_texts", "_law_tried", "_law_cut_here"]
theorem sc_law : FnScope N_law ["_law_script"] (defScope s_law) := ⟨rfl, rfl, rfl, by decide +kernel, rfl, by decide +kernel, by decide +kernel⟩
abbrev i_BadFormula : Stmt := clsInit (topS 3)
def xsL : List Str := ["BadFormula"]
def subsL : List (Str × Str × Bool) := [("BadFormula", "LooksError", true), ("BadFormula", "BadFormula", true)]
structure Top (P : Program) (K : PySem.W.Frag) (mg : Str → Option Value) : Prop where
  f_tokens_of : FunAt K mg "tokens_of" s_tokens_of ["text"]
  f_law_pool : FunAt K mg "_law_pool" s_law_pool ["_law_script", "_law_k"]
  f_law_draw : FunAt K mg "_law_draw" s_law_draw ["_law_pool_here", "_law_limit"]
  f_law_node : FunAt K mg "_law_node" s_law_node ["_law_pool_here", "_law_floors", "_law_many"]
  f_law_parts : FunAt K mg "_law_parts" s_law_parts ["_law_node_here"]
  f_law_bare : FunAt K mg "_law_bare" s_law_bare ["_law_pool_here", "_law_node_here", "_law_level"]
  f_law_tokens : FunAt K mg "_law_tokens" s_law_tokens ["_law_pool_here", "_law_node_here", "_law_least"]
  f_law_spaced : FunAt K mg "_law_spaced" s_law_spaced ["_law_pool_here", "_law_tokens_here"]
  f_law_cut : FunAt K mg "_law_cut" s_law_cut ["_law_text"]
  f_law_step : FunAt K mg "_law_step" s_law_step ["_law_token", "_law_want", "_law_stack"]
  f_law_fault : FunAt K mg "_law_fault" s_law_fault ["_law_text"]
  f_law_bent : FunAt K mg "_law_bent" s_law_bent ["_law_pool_here", "_law_tokens_here"]
  f_law_signed : FunAt K mg "_law_signed" s_law_signed ["_law_pool_here", "_law_text"]
  m_Reader_init : MeAt K mg "Reader" "__init__" "Reader.__init__" s_Reader_init ["self", "text"]
  m_Reader_here : MeAt K mg "Reader" "here" "Reader.here" s_Reader_here ["self"]
  m_Reader_fault : MeAt K mg "Reader" "fault" "Reader.fault" s_Reader_fault ["self"]
  m_Reader_need : MeAt K mg "Reader" "need" "Reader.need" s_Reader_need ["self", "token"]
  m_Reader_counted : MeAt K mg "Reader" "counted" "Reader.counted" s_Reader_counted ["self"]
  m_Reader_atom : MeAt K mg "Reader" "atom" "Reader.atom" s_Reader_atom ["self"]
  m_Reader_turned : MeAt K mg "Reader" "turned" "Reader.turned" s_Reader_turned ["self"]
  m_Reader_joined : MeAt K mg "Reader" "joined" "Reader.joined" s_Reader_joined ["self", "level"]
  f_read_node : FunAt K mg "read_node" s_read_node ["text"]
  m_Formula_init : MeAt K mg "Formula" "__init__" "Formula.__init__" s_Formula_init ["self", "text"]
  f_law_told : FunAt K mg "_law_told" s_law_told ["_law_text"]
  f_law : FunAt K mg "law" s_law ["_law_script"]
  q_Formula : ClAt K mg "Formula" ["node"]
  q_Reader : ClAt K mg "Reader" ["tokens", "length", "place"]
  l_Formula : ClsAt mg "Formula"
  i_Formula : IsC K mg "Formula"
  u_BITS_OF : TupS K mg "BITS_OF" ["x0", "x1", "x2", "x3", "x4", "x5"]
  u_JOINS : TupS K mg "JOINS" ["or", "xor", "and"]
  z_int : mg "int" = none
  z_isinstance : mg "isinstance" = none
  z_len : mg "len" = none
  z_list : mg "list" = none
  z_max : mg "max" = none
  z_min : mg "min" = none
  z_range : mg "range" = none
  z_str : mg "str" = none
  c_DIGITS : ConAt mg "DIGITS" (.str "0123456789")
  c_LETTERS : ConAt mg "LETTERS" (.str "abcdefghijklmnopqrstuvwxyzABCDEFGHIJKLMNOPQRSTUVWXYZ0123456789")
  x_BadFormula : ExAt P K mg "BadFormula" "BadFormula.__init__" i_BadFormula ["at"]
  l_LooksError : ClsAt mg "LooksError"
  l_BadFormula : ClsAt mg "BadFormula"
  subs : SubsAt K mg subsL
variable {P : Program} {w : World} {K : PySem.W.Frag} {mg : Str → Option Value} {base : Heap} {X : Cx} {W : WX}
abbrev mk_BadFormula := mk1 "at" "BadFormula: "
theorem x_BadFormula (T : Top P K mg) : XOk P w K mg base 1 "BadFormula" mk_BadFormula := x_ok1 T.x_BadFormula rfl ⟨rfl, rfl, rfl, by decide, rfl, by decide +kernel, by decide +kernel, by decide +kernel, by decide +kernel, by decide +kernel⟩ rfl rfl (by decide) (by decide) (by decide) (fun _ => ⟨_, rfl⟩) (fun _ => rfl) (fun _ _ _ _ _ _ _ us hl => match us, hl with | [_, _], _ => rfl)
def g_tokens_of : GS := (sSeq (sAsg 1 (gLst gNil))
  (sSeq (sAsg 2 (gC (.int 0)))
  (sSeq (sWhile 100000 (gTst (gOp2 ltF (gVar 2) (gCB lenF (gCons (gVar 0) gNil)))) (sSeq (sAsg 3 (gVar 2))
  (sSeq (sWhile 100000 (gAnd (gTst (gOp2 ltF (gVar 3) (gCB lenF (gCons (gVar 0) gNil)))) (gTst (gOp2 inF (gOp2 itemF (gVar 0) (gVar 3)) (gC (.str "abcdefghijklmnopqrstuvwxyzABCDEFGHIJKLMNOPQRSTUVWXYZ0123456789"))))) (sAugI (fun a b => a + b) 3 (gC (.int 1))))
  (sSeq (sIf (gTst (gOp2 eqF (gVar 3) (gVar 2))) (sAugI (fun a b => a + b) 3 (gC (.int 1))) sNext)
  (sSeq (sIf (gTst (gOp2 neF (gOp2 itemF (gVar 0) (gVar 2)) (gC (.str " ")))) (sExpr (gApp 1 (gCons (gTup (gCons (gSl (gVar 0) (gPart (gVar 2)) (gPart (gVar 3))) (gCons (gVar 2) gNil))) gNil))) sNext)
  (sAsg 2 (gVar 3)))))))
  (sRet (gSh (gVar 1))))))
def F_tokens_of : FnD := callD [false] 4 g_tokens_of
theorem b_tokens_of (c : Cs X N_tokens_of (defScope s_tokens_of)) (v : Ev X W 0) (q : Tp X) (T : Top X.prog X.K X.mg) : DSs X W (defBody s_tokens_of) g_tokens_of :=
  (dss_cons (dset c 1 (de_lst da_nil))
    (dss_cons (dset c 2 de_int)
    (dss_cons (dwhile 100000 v (dt_lt (dv c 2) (dlen c T.z_len (dac (dv c 0) da_nil))) (dss_cons (dset c 3 (dv c 2))
    (dss_cons (dwhile 100000 v (PW.pt (dw_and (dt_lt (dv c 3) (dlen c T.z_len (dac (dv c 0) da_nil))) (dw_and1 (dt_in (ha := (ditem (dv c 0) (dv c 3))) (hb := (dconS c T.c_LETTERS)))))) (dss_one (dauga c 3 de_int)))
    (dss_cons (ds_if (teq v (dv c 3) (dv c 2)) (dss_one (dauga c 3 de_int)) dss_nil)
    (dss_cons (ds_if (tne v (ditem (dv c 0) (dv c 2)) de_str) (dss_one (dexpr (dapp c 1 (dac (de_tup (dac (de_slice (dv c 0) (do_some (dv c 2)) (do_some (dv c 3))) (dac (dv c 2) da_nil))) da_nil)))) dss_nil)
    (dss_one (dset c 2 (dv c 3))))))))
    (dss_one (ds_ret (dsh (dv c 1)))))))
theorem ok_tokens_of (T : Top P K mg) : DOf P w K mg base 1 "tokens_of" s_tokens_of ["text"] [false] F_tokens_of := fun_f T.f_tokens_of sc_tokens_of rfl fun X W e1 e2 e3 e4 e5 c v q => by
  subst e1 e2 e3 e4 e5
  exact b_tokens_of c v q T
theorem b_law_pool (c : Cs X N_law_pool (defScope s_law_pool)) (v : Ev X W 0) (q : Tp X) (T : Top X.prog X.K X.mg) : DSs X W (defBody s_law_pool) g_law_pool :=
  (dss_cons (dset c 2 (de_if (dt_lt (dv c 1) (dlen c T.z_len (dac (dv c 0) da_nil))) (ditem (dv c 0) (dv c 1)) de_int))
    (dss_one (ds_ret (de_lst (dac (dv c 2) (dac de_int (dac (de_ge (dv c 2) (de_pow de_int de_int)) (dac (dv c 1) da_nil))))))))
theorem ok_law_pool (T : Top P K mg) : DOf P w K mg base 1 "_law_pool" s_law_pool ["_law_script", "_law_k"] [false, false] F_law_pool := fun_f T.f_law_pool sc_law_pool rfl fun X W e1 e2 e3 e4 e5 c v q => by
  subst e1 e2 e3 e4 e5
  exact b_law_pool c v q T
theorem b_law_draw (c : Cs X N_law_draw (defScope s_law_draw)) (v : Ev X W 0) (q : Tp X) (T : Top X.prog X.K X.mg) : DSs X W (defBody s_law_draw) g_law_draw :=
  (dss_cons (dsub (de_add (ditem (dv c 0) de_int) de_int) (dv c 0) de_int)
    (dss_cons (ds_if (dtv (ditem (dv c 0) de_int)) (dss_cons (dset c 4 (de_mod (dint c T.z_int (dac (ditem (dv c 0) de_int) da_nil)) (dv c 1)))
    (dss_cons (dsub (de_fdiv (dint c T.z_int (dac (ditem (dv c 0) de_int) da_nil)) (dv c 1)) (dv c 0) de_int)
    (dss_one (ds_ret (dv c 4))))) dss_nil)
    (dss_cons (dset c 2 (de_add (de_add (de_add (de_mul (ditem (dv c 0) de_int) de_int) (de_mul (ditem (dv c 0) de_int) de_int)) (de_mul (ditem (dv c 0) de_int) de_int)) de_int))
    (dss_cons (dset c 3 (de_mod (dint c T.z_int (dac (dv c 2) da_nil)) de_int))
    (dss_cons (dset c 3 (de_mod (dint c T.z_int (dac (de_add (de_pow (dv c 3) de_int) (de_mul (ditem (dv c 0) de_int) de_int)) da_nil)) de_int))
    (dss_one (ds_ret (de_mod (de_fdiv (dint c T.z_int (dac (de_mod (de_pow (dv c 3) de_int) de_int) da_nil)) de_int) (dv c 1)))))))))
theorem ok_law_draw (T : Top P K mg) : DOf P w K mg base 1 "_law_draw" s_law_draw ["_law_pool_here", "_law_limit"] [true, false] F_law_draw := fun_f T.f_law_draw sc_law_draw rfl fun X W e1 e2 e3 e4 e5 c v q => by
  subst e1 e2 e3 e4 e5
  exact b_law_draw c v q T
def g_law_node (self : FnD) : GS := (sSeq (sAsg 3 (gCall F_law_draw [true, false] [] (gCons (gVar 0) (gCons (gC (.int 9)) gNil))))
  (sSeq (sIf (gOr (gTst (gOp2 eqF (gVar 1) (gC (.int 0)))) (gTst (gOp2 ltF (gVar 3) (gC (.int 3))))) (sRet (gIf (gTst (gOp2 eqF (gCall F_law_draw [true, false] [] (gCons (gVar 0) (gCons (gC (.int 9)) gNil))) (gC (.int 0)))) (gTup (gCons (gC (.str "answer")) (gCons (gOp2 modF (gVar 3) (gC (.int 2))) gNil))) (gTup (gCons (gC (.str "bit")) (gCons (gCall F_law_draw [true, false] [] (gCons (gVar 0) (gCons (gVar 2) gNil))) gNil))))) sNext)
  (sSeq (sIf (gTst (gOp2 eqF (gVar 3) (gC (.int 3)))) (sRet (gTup (gCons (gC (.str "not")) (gCons (gLst (gCons (gCall self [true, false, false] [] (gCons (gVar 0) (gCons (gOp2 subF (gVar 1) (gC (.int 1))) (gCons (gVar 2) gNil)))) gNil)) gNil)))) sNext)
  (sSeq (sAsg 4 (gOp2 addF (gC (.int 1)) (gCall F_law_draw [true, false] [] (gCons (gVar 0) (gCons (gC (.int 3)) gNil)))))
  (sSeq (sIf (gAnd (gTst (gOp2 eqF (gVar 3) (gC (.int 8)))) (gTst (gOp2 eqF (gVar 1) (gC (.int 1))))) (sAsg 4 (gOp2 addF (gC (.int 1)) (gCall F_law_draw [true, false] [] (gCons (gVar 0) (gCons (gC (.int 7)) gNil))))) sNext)
  (sSeq (sAsg 5 (gSh (gLc [6] (gRng rng1 (gCons (gOp2 addF (gVar 4) (gCB intF (gCons (gOp2 ltF (gVar 3) (gC (.int 8))) gNil))) gNil)) (aName 6) gYes (gCall self [true, false, false] [] (gCons (gVar 0) (gCons (gOp2 subF (gVar 1) (gC (.int 1))) (gCons (gVar 2) gNil)))))))
  (sRet (gTup (gCons (gOp2 itemF (gLst (gCons (gC (.str "and")) (gCons (gC (.str "or")) (gCons (gC (.str "xor")) (gCons (gC (.str "and")) (gCons (gC (.str "atleast")) gNil)))))) (gOp2 subF (gVar 3) (gC (.int 4)))) (gCons (gIf (gTst (gOp2 eqF (gVar 3) (gC (.int 8)))) (gOp2 addF (gLst (gCons (gCall F_law_draw [true, false] [] (gCons (gVar 0) (gCons (gC (.int 10)) gNil))) gNil)) (gVar 5)) (gVar 5)) gNil))))))))))
def F_law_node : Nat → FnD
  | 0 => noF
  | n + 1 => callD [true, false, false] 7 (g_law_node (F_law_node n))
theorem b_law_node {n : Nat} (h : DOf X.prog X.w X.K X.mg X.base (1 + n) "_law_node" s_law_node ["_law_pool_here", "_law_floors", "_law_many"] [true, false, false] (F_law_node n)) (c : Cs X N_law_node (defScope s_law_node)) (v : Ev X W (1 + n)) (q : Tp X) (T : Top X.prog X.K X.mg) : DSs X W (defBody s_law_node) (g_law_node (F_law_node n)) :=
  (dss_cons (dset c 3 (dcall c v (ok_law_draw T).ok (dac (dv c 0) (dac de_int da_nil)) (hj := by omega)))
    (dss_cons (ds_if (PW.pt (dw_or (teq v (dv c 1) de_int) (dw_or1 (dt_lt (dv c 3) de_int)))) (dss_one (ds_ret (de_if (teq v (dcall c v (ok_law_draw T).ok (dac (dv c 0) (dac de_int da_nil)) (hj := by omega)) de_int) (de_tup (dac de_str (dac (de_mod (dv c 3) de_int) da_nil))) (de_tup (dac de_str (dac (dcall c v (ok_law_draw T).ok (dac (dv c 0) (dac (dv c 2) da_nil)) (hj := by omega)) da_nil)))))) dss_nil)
    (dss_cons (ds_if (teq v (dv c 3) de_int) (dss_one (ds_ret (de_tup (dac de_str (dac (de_lst (dac (dcall c v h.ok (dac (dv c 0) (dac (de_sub (dv c 1) de_int) (dac (dv c 2) da_nil))) (hj := by omega)) da_nil)) da_nil))))) dss_nil)
    (dss_cons (dset c 4 (de_add de_int (dcall c v (ok_law_draw T).ok (dac (dv c 0) (dac de_int da_nil)) (hj := by omega))))
    (dss_cons (ds_if (PW.pt (dw_and (teq v (dv c 3) de_int) (dw_and1 (teq v (dv c 1) de_int)))) (dss_one (dset c 4 (de_add de_int (dcall c v (ok_law_draw T).ok (dac (dv c 0) (dac de_int da_nil)) (hj := by omega))))) dss_nil)
    (dss_cons (dsetSh (dsetLc c v 5 [("_law_k", 6)] (drng1 c T.z_range (dac (de_add (dv c 4) (dint c T.z_int (dac (de_lt (dv c 3) de_int) da_nil))) da_nil)) (fun c => (dgn c 6)) (fun c v => dts_nil) (fun c v => (dcall c v h.ok (dac (dv c 0) (dac (de_sub (dv c 1) de_int) (dac (dv c 2) da_nil))) (hj := by omega)))))
    (dss_one (ds_ret (de_tup (dac (ditem (de_lst (dac de_str (dac de_str (dac de_str (dac de_str (dac de_str da_nil)))))) (de_sub (dv c 3) de_int)) (dac (de_if (teq v (dv c 3) de_int) (de_add (de_lst (dac (dcall c v (ok_law_draw T).ok (dac (dv c 0) (dac de_int da_nil)) (hj := by omega)) da_nil)) (dv c 5)) (dv c 5)) da_nil)))))))))))
theorem ok_law_node (T : Top P K mg) (n : Nat) : DOf P w K mg base (1 + n) "_law_node" s_law_node ["_law_pool_here", "_law_floors", "_law_many"] [true, false, false] (F_law_node n) := by
  induction n with
  | zero => exact fun_no T.f_law_node sc_law_node rfl
  | succ n ih =>
    exact fun_f (k := 1 + n) T.f_law_node sc_law_node rfl fun X W e1 e2 e3 e4 e5 c v q => by
      subst e1 e2 e3 e4 e5
      exact b_law_node ih c v q T
def g_law_parts : GS := (sSeq (sIf (gTst (gOp2 inF (gOp2 itemF (gVar 0) (gC (.int 0))) (gTup (gCons (gC (.str "bit")) (gCons (gC (.str "answer")) gNil))))) (sRet (gSh (gLst gNil))) sNext)
  (sRet (gSh (gIf (gTst (gOp2 eqF (gOp2 itemF (gVar 0) (gC (.int 0))) (gC (.str "atleast")))) (gSl (gOp2 itemF (gVar 0) (gC (.int 1))) (gPart (gC (.int 1))) gNoPart) (gOp2 itemF (gVar 0) (gC (.int 1)))))))
def F_law_parts : FnD := callD [false] 1 g_law_parts
theorem b_law_parts (c : Cs X N_law_parts (defScope s_law_parts)) (v : Ev X W 0) (q : Tp X) (T : Top X.prog X.K X.mg) : DSs X W (defBody s_law_parts) g_law_parts :=
  (dss_cons (ds_if (dt_in (ha := (ditem (dv c 0) de_int)) (hb := (de_tup (dac de_str (dac de_str da_nil))))) (dss_one (ds_ret (dsh (de_lst da_nil)))) dss_nil)
    (dss_one (ds_ret (dsh (de_if (teq v (ditem (dv c 0) de_int) de_str) (de_slice (ditem (dv c 0) de_int) (do_some de_int) do_none) (ditem (dv c 0) de_int))))))
theorem ok_law_parts (T : Top P K mg) : DOf P w K mg base 1 "_law_parts" s_law_parts ["_law_node_here"] [false] F_law_parts := fun_f T.f_law_parts sc_law_parts rfl fun X W e1 e2 e3 e4 e5 c v q => by
  subst e1 e2 e3 e4 e5
  exact b_law_parts c v q T
def g_law_bare (self : FnD) : GS := (sSeq (sIf (gTst (gOp2 eqF (gOp2 itemF (gVar 1) (gC (.int 0))) (gC (.str "bit")))) (sRet (gSh (gLst (gCons (gOp2 addF (gC (.str "x")) (gCB strF (gCons (gOp2 itemF (gVar 1) (gC (.int 1))) gNil))) gNil)))) sNext)
  (sSeq (sIf (gTst (gOp2 eqF (gOp2 itemF (gVar 1) (gC (.int 0))) (gC (.str "answer")))) (sRet (gSh (gLst (gCons (gCB strF (gCons (gOp2 itemF (gVar 1) (gC (.int 1))) gNil)) gNil)))) sNext)
  (sSeq (sIf (gTst (gOp2 eqF (gOp2 itemF (gVar 1) (gC (.int 0))) (gC (.str "not")))) (sRet (gSh (gOp2 addF (gLst (gCons (gC (.str "not")) gNil)) (gCall self [true, false, false] [] (gCons (gVar 0) (gCons (gOp2 itemF (gOp2 itemF (gVar 1) (gC (.int 1))) (gC (.int 0))) (gCons (gC (.int 3)) gNil))))))) sNext)
  (sSeq (sAsg 3 (gSh (gIf (gTst (gOp2 eqF (gOp2 itemF (gVar 1) (gC (.int 0))) (gC (.str "atleast")))) (gLst (gCons (gC (.str "atleast")) (gCons (gC (.str "(")) (gCons (gCB strF (gCons (gOp2 itemF (gOp2 itemF (gVar 1) (gC (.int 1))) (gC (.int 0))) gNil)) gNil)))) (gLst gNil))))
  (sSeq (sFor (gIter (gCall F_law_parts [false] [] (gCons (gVar 1) gNil))) (aName 4) (sIf (gTst (gOp2 eqF (gOp2 itemF (gVar 1) (gC (.int 0))) (gC (.str "atleast")))) (sAsg 3 (gSh (gOp2 addF (gOp2 addF (gVar 3) (gLst (gCons (gC (.str ",")) gNil))) (gCall self [true, false, false] [] (gCons (gVar 0) (gCons (gVar 4) (gCons (gC (.int 0)) gNil))))))) (sAsg 3 (gSh (gOp2 addF (gOp2 addF (gVar 3) (gOp2 repF (gLst (gCons (gOp2 itemF (gVar 1) (gC (.int 0))) gNil)) (gCB intF (gCons (gOp2 neF (gVar 3) (gLst gNil)) gNil)))) (gCall self [true, false, false] [] (gCons (gVar 0) (gCons (gVar 4) (gCons (gOp2 addF (gVar 2) (gC (.int 1))) gNil)))))))))
  (sRet (gSh (gOp2 addF (gVar 3) (gOp2 repF (gLst (gCons (gC (.str ")")) gNil)) (gCB intF (gCons (gOp2 eqF (gOp2 itemF (gVar 1) (gC (.int 0))) (gC (.str "atleast"))) gNil)))))))))))
def F_law_bare (self : FnD) : FnD := callD [true, false, false] 5 (g_law_bare self)
theorem b_law_bare {n : Nat} {self : FnD} (h : DOf X.prog X.w X.K X.mg X.base (1 + 2 * n) "_law_tokens" s_law_tokens ["_law_pool_here", "_law_node_here", "_law_least"] [true, false, false] self) (c : Cs X N_law_bare (defScope s_law_bare)) (v : Ev X W (1 + 2 * n + 0)) (q : Tp X) (T : Top X.prog X.K X.mg) : DSs X W (defBody s_law_bare) (g_law_bare self) :=
  (dss_cons (ds_if (teq v (ditem (dv c 1) de_int) de_str) (dss_one (ds_ret (dsh (de_lst (dac (de_add de_str (dstr c T.z_str (dac (ditem (dv c 1) de_int) da_nil))) da_nil))))) dss_nil)
    (dss_cons (ds_if (teq v (ditem (dv c 1) de_int) de_str) (dss_one (ds_ret (dsh (de_lst (dac (dstr c T.z_str (dac (ditem (dv c 1) de_int) da_nil)) da_nil))))) dss_nil)
    (dss_cons (ds_if (teq v (ditem (dv c 1) de_int) de_str) (dss_one (ds_ret (dsh (de_add (de_lst (dac de_str da_nil)) (dcall c v h.ok (dac (dv c 0) (dac (ditem (ditem (dv c 1) de_int) de_int) (dac de_int da_nil))) (hj := by omega)))))) dss_nil)
    (dss_cons (dsetSh (dset c 3 (de_if (teq v (ditem (dv c 1) de_int) de_str) (de_lst (dac de_str (dac de_str (dac (dstr c T.z_str (dac (ditem (ditem (dv c 1) de_int) de_int) da_nil)) da_nil)))) (de_lst da_nil))))
    (dss_cons (dfor v (di_val (dcall c v (ok_law_parts T).ok (dac (dv c 1) da_nil) (hj := by omega))) (dgn c 4) (dss_one (ds_if (teq v (ditem (dv c 1) de_int) de_str) (dss_one (dsetSh (dset c 3 (de_add (de_add (dv c 3) (de_lst (dac de_str da_nil))) (dcall c v h.ok (dac (dv c 0) (dac (dv c 4) (dac de_int da_nil))) (hj := by omega)))))) (dss_one (dsetSh (dset c 3 (de_add (de_add (dv c 3) (de_rep (de_lst (dac (ditem (dv c 1) de_int) da_nil)) (dint c T.z_int (dac (dne v (dv c 3) (de_lst da_nil)) da_nil)))) (dcall c v h.ok (dac (dv c 0) (dac (dv c 4) (dac (de_add (dv c 2) de_int) da_nil))) (hj := by omega)))))))))
    (dss_one (ds_ret (dsh (de_add (dv c 3) (de_rep (de_lst (dac de_str da_nil)) (dint c T.z_int (dac (deq v (ditem (dv c 1) de_int) de_str) da_nil))))))))))))
theorem ok_law_bare (T : Top P K mg) {n : Nat} {self : FnD} (h : DOf P w K mg base (1 + 2 * n) "_law_tokens" s_law_tokens ["_law_pool_here", "_law_node_here", "_law_least"] [true, false, false] self) : DOf P w K mg base (1 + 2 * n + 1) "_law_bare" s_law_bare ["_law_pool_here", "_law_node_here", "_law_level"] [true, false, false] (F_law_bare self) := fun_f (k := (1 + 2 * n + 0)) T.f_law_bare sc_law_bare rfl fun X W e1 e2 e3 e4 e5 c v q => by
  subst e1 e2 e3 e4 e5
  exact b_law_bare h c v q T
def g_law_tokens (self : FnD) : GS := (sSeq (sAsg 3 (gSh (gGet2 (gDct (((gC (.str "or")), (gC (.int 0))) :: (((gC (.str "xor")), (gC (.int 1))) :: (((gC (.str "and")), (gC (.int 2))) :: (((gC (.str "not")), (gC (.int 3))) :: []))))) (gOp2 itemF (gVar 1) (gC (.int 0))) (gC (.int 4)))))
  (sSeq (sAsg 4 (gCall (F_law_bare self) [true, false, false] [] (gCons (gVar 0) (gCons (gVar 1) (gCons (gVar 3) gNil)))))
  (sSeq (sIf (gOr (gTst (gOp2 ltF (gVar 3) (gVar 2))) (gTst (gOp2 eqF (gCall F_law_draw [true, false] [] (gCons (gVar 0) (gCons (gC (.int 6)) gNil))) (gC (.int 5))))) (sRet (gSh (gOp2 addF (gOp2 addF (gLst (gCons (gC (.str "(")) gNil)) (gVar 4)) (gLst (gCons (gC (.str ")")) gNil))))) sNext)
  (sRet (gVar 4)))))
def F_law_tokens : Nat → FnD
  | 0 => noF
  | n + 1 => callD [true, false, false] 5 (g_law_tokens (F_law_tokens n))
theorem b_law_tokens {n : Nat} {self : FnD} (h : DOf X.prog X.w X.K X.mg X.base (1 + 2 * n) "_law_tokens" s_law_tokens ["_law_pool_here", "_law_node_here", "_law_least"] [true, false, false] self) (c : Cs X N_law_tokens (defScope s_law_tokens)) (v : Ev X W (1 + 2 * n + 1)) (q : Tp X) (T : Top X.prog X.K X.mg) : DSs X W (defBody s_law_tokens) (g_law_tokens self) :=
  (dss_cons (dsetSh (dset c 3 (dget2 v (ddct (dps_cons de_str de_int (dps_cons de_str de_int (dps_cons de_str de_int (dps_cons de_str de_int dps_nil))))) (ditem (dv c 1) de_int) de_int)))
    (dss_cons (dset c 4 (dcall c v (ok_law_bare T h).ok (dac (dv c 0) (dac (dv c 1) (dac (dv c 3) da_nil))) (hj := by omega)))
    (dss_cons (ds_if (PW.pt (dw_or (dt_lt (dv c 3) (dv c 2)) (dw_or1 (teq v (dcall c v (ok_law_draw T).ok (dac (dv c 0) (dac de_int da_nil)) (hj := by omega)) de_int)))) (dss_one (ds_ret (dsh (de_add (de_add (de_lst (dac de_str da_nil)) (dv c 4)) (de_lst (dac de_str da_nil)))))) dss_nil)
    (dss_one (ds_ret (dv c 4))))))
theorem ok_law_tokens (T : Top P K mg) (n : Nat) : DOf P w K mg base (1 + 2 * n) "_law_tokens" s_law_tokens ["_law_pool_here", "_law_node_here", "_law_least"] [true, false, false] (F_law_tokens n) := by
  induction n with
  | zero => exact fun_no T.f_law_tokens sc_law_tokens rfl
  | succ n ih =>
    exact fun_f (k := (1 + 2 * n + 1)) T.f_law_tokens sc_law_tokens rfl fun X W e1 e2 e3 e4 e5 c v q => by
      subst e1 e2 e3 e4 e5
      exact b_law_tokens ih c v q T
def g_law_spaced : GS := (sSeq (sAsg 2 (gOp2 repF (gC (.str " ")) (gCall F_law_draw [true, false] [] (gCons (gVar 0) (gCons (gC (.int 2)) gNil)))))
  (sSeq (sAsg 3 (gC (.str "(),")))
  (sSeq (sFor (gRng rng1 (gCons (gCB lenF (gCons (gVar 1) gNil)) gNil)) (aName 4) (sSeq (sAsg 5 (gAndV (gOp2 gtF (gVar 4) (gC (.int 0))) (gAndV (gOp2 notInT (gOp2 itemF (gVar 1) (gVar 4)) (gVar 3)) (gOp2 notInT (gOp2 itemF (gVar 1) (gOp2 subF (gVar 4) (gC (.int 1)))) (gVar 3)))))
  (sAsg 2 (gOp2 addF (gOp2 addF (gVar 2) (gOp2 repF (gC (.str " ")) (gOp2 addF (gCB intF (gCons (gVar 5) gNil)) (gCall F_law_draw [true, false] [] (gCons (gVar 0) (gCons (gC (.int 2)) gNil)))))) (gOp2 itemF (gVar 1) (gVar 4))))))
  (sRet (gOp2 addF (gVar 2) (gOp2 repF (gC (.str " ")) (gCall F_law_draw [true, false] [] (gCons (gVar 0) (gCons (gC (.int 2)) gNil)))))))))
def F_law_spaced : FnD := callD [true, false] 6 g_law_spaced
theorem b_law_spaced (c : Cs X N_law_spaced (defScope s_law_spaced)) (v : Ev X W 1) (q : Tp X) (T : Top X.prog X.K X.mg) : DSs X W (defBody s_law_spaced) g_law_spaced :=
  (dss_cons (dset c 2 (de_rep de_str (dcall c v (ok_law_draw T).ok (dac (dv c 0) (dac de_int da_nil)))))
    (dss_cons (dset c 3 de_str)
    (dss_cons (dfor v (drng1 c T.z_range (dac (dlen c T.z_len (dac (dv c 1) da_nil)) da_nil)) (dgn c 4) (dss_cons (dset c 5 (de_and (de_gt (dv c 4) de_int) (de_and (de_ninT (ha := (ditem (dv c 1) (dv c 4))) (hb := (dv c 3))) (de_one (de_ninT (ha := (ditem (dv c 1) (de_sub (dv c 4) de_int))) (hb := (dv c 3)))))))
    (dss_one (dset c 2 (de_add (de_add (dv c 2) (de_rep de_str (de_add (dint c T.z_int (dac (dv c 5) da_nil)) (dcall c v (ok_law_draw T).ok (dac (dv c 0) (dac de_int da_nil)))))) (ditem (dv c 1) (dv c 4)))))))
    (dss_one (ds_ret (de_add (dv c 2) (de_rep de_str (dcall c v (ok_law_draw T).ok (dac (dv c 0) (dac de_int da_nil))))))))))
theorem ok_law_spaced (T : Top P K mg) : DOf P w K mg base 2 "_law_spaced" s_law_spaced ["_law_pool_here", "_law_tokens_here"] [true, false] F_law_spaced := fun_f T.f_law_spaced sc_law_spaced rfl fun X W e1 e2 e3 e4 e5 c v q => by
  subst e1 e2 e3 e4 e5
  exact b_law_spaced c v q T
def g_law_cut : GS := (sSeq (sAsg 1 (gC (.str "abcdefghijklmnopqrstuvwxyzABCDEFGHIJKLMNOPQRSTUVWXYZ0123456789")))
  (sSeq (sAsg 2 (gLst gNil))
  (sSeq (sFor (gRng rng1 (gCons (gCB lenF (gCons (gVar 0) gNil)) gNil)) (aName 3) (sIf (gAnd (gTst (gOp2 inF (gOp2 itemF (gVar 0) (gVar 3)) (gVar 1))) (gAnd (gTst (gOp2 gtF (gVar 3) (gC (.int 0)))) (gTst (gOp2 inF (gOp2 itemF (gVar 0) (gOp2 subF (gVar 3) (gC (.int 1)))) (gVar 1))))) (sSetIx (gTup (gCons (gOp2 addF (gOp2 itemF (gOp2 itemF (gVar 2) (gOp1 negF (gC (.int 1)))) (gC (.int 0))) (gOp2 itemF (gVar 0) (gVar 3))) (gCons (gOp2 itemF (gOp2 itemF (gVar 2) (gOp1 negF (gC (.int 1)))) (gC (.int 1))) gNil))) (gVar 2) (gOp1 negF (gC (.int 1)))) (sIf (gTst (gOp2 neF (gOp2 itemF (gVar 0) (gVar 3)) (gC (.str " ")))) (sExpr (gApp 2 (gCons (gTup (gCons (gOp2 itemF (gVar 0) (gVar 3)) (gCons (gVar 3) gNil))) gNil))) sNext)))
  (sRet (gSh (gVar 2))))))
def F_law_cut : FnD := callD [false] 4 g_law_cut
theorem b_law_cut (c : Cs X N_law_cut (defScope s_law_cut)) (v : Ev X W 0) (q : Tp X) (T : Top X.prog X.K X.mg) : DSs X W (defBody s_law_cut) g_law_cut :=
  (dss_cons (dset c 1 de_str)
    (dss_cons (dset c 2 (de_lst da_nil))
    (dss_cons (dfor v (drng1 c T.z_range (dac (dlen c T.z_len (dac (dv c 0) da_nil)) da_nil)) (dgn c 3) (dss_one (ds_if (PW.pt (dw_and (dt_in (ha := (ditem (dv c 0) (dv c 3))) (hb := (dv c 1))) (dw_and (dt_gt (dv c 3) de_int) (dw_and1 (dt_in (ha := (ditem (dv c 0) (de_sub (dv c 3) de_int))) (hb := (dv c 1))))))) (dss_one (dsub (de_tup (dac (de_add (ditem (ditem (dv c 2) (de_neg de_int)) de_int) (ditem (dv c 0) (dv c 3))) (dac (ditem (ditem (dv c 2) (de_neg de_int)) de_int) da_nil))) (dv c 2) (de_neg de_int))) (dss_one (ds_if (tne v (ditem (dv c 0) (dv c 3)) de_str) (dss_one (dexpr (dapp c 2 (dac (de_tup (dac (ditem (dv c 0) (dv c 3)) (dac (dv c 3) da_nil))) da_nil)))) dss_nil)))))
    (dss_one (ds_ret (dsh (dv c 2)))))))
theorem ok_law_cut (T : Top P K mg) : DOf P w K mg base 1 "_law_cut" s_law_cut ["_law_text"] [false] F_law_cut := fun_f T.f_law_cut sc_law_cut rfl fun X W e1 e2 e3 e4 e5 c v q => by
  subst e1 e2 e3 e4 e5
  exact b_law_cut c v q T
def g_law_step : GS := (sSeq (sIf (gTst (gOp2 eqF (gVar 1) (gC (.str "operand")))) (sSeq (sIf (gTst (gOp2 inF (gVar 0) (gTup (gCons (gC (.str "x0")) (gCons (gC (.str "x1")) (gCons (gC (.str "x2")) (gCons (gC (.str "x3")) (gCons (gC (.str "x4")) (gCons (gC (.str "x5")) (gCons (gC (.str "0")) (gCons (gC (.str "1")) gNil))))))))))) (sRet (gSh (gLst (gCons (gC (.str "after")) (gCons (gVar 2) gNil))))) sNext)
  (sSeq (sIf (gTst (gOp2 eqF (gVar 0) (gC (.str "(")))) (sRet (gSh (gLst (gCons (gC (.str "operand")) (gCons (gOp2 addF (gVar 2) (gLst (gCons (gC (.str "group")) gNil))) gNil))))) sNext)
  (sRet (gSh (gGet1 (gDct (((gC (.str "not")), (gLst (gCons (gC (.str "operand")) (gCons (gVar 2) gNil)))) :: (((gC (.str "atleast")), (gLst (gCons (gC (.str "open")) (gCons (gVar 2) gNil)))) :: []))) (gVar 0)))))) sNext)
  (sSeq (sIf (gTst (gOp2 eqF (gVar 1) (gC (.str "open")))) (sRet (gSh (gIf (gTst (gOp2 eqF (gVar 0) (gC (.str "(")))) (gLst (gCons (gC (.str "digit")) (gCons (gOp2 addF (gVar 2) (gLst (gCons (gC (.str "count")) gNil))) gNil))) (gC .non)))) sNext)
  (sSeq (sIf (gTst (gOp2 eqF (gVar 1) (gC (.str "digit")))) (sRet (gSh (gIf (gAnd (gTst (gOp2 eqF (gCB lenF (gCons (gVar 0) gNil)) (gC (.int 1)))) (gTst (gOp2 inF (gVar 0) (gC (.str "0123456789"))))) (gLst (gCons (gC (.str "comma")) (gCons (gVar 2) gNil))) (gC .non)))) sNext)
  (sSeq (sIf (gTst (gOp2 eqF (gVar 1) (gC (.str "comma")))) (sRet (gSh (gIf (gTst (gOp2 eqF (gVar 0) (gC (.str ",")))) (gLst (gCons (gC (.str "operand")) (gCons (gVar 2) gNil))) (gC .non)))) sNext)
  (sSeq (sIf (gTst (gOp2 inF (gVar 0) (gTup (gCons (gC (.str "and")) (gCons (gC (.str "or")) (gCons (gC (.str "xor")) gNil)))))) (sRet (gSh (gLst (gCons (gC (.str "operand")) (gCons (gVar 2) gNil))))) sNext)
  (sSeq (sIf (gAnd (gTst (gOp2 eqF (gVar 0) (gC (.str ")")))) (gTst (gOp2 neF (gVar 2) (gLst gNil)))) (sRet (gSh (gLst (gCons (gC (.str "after")) (gCons (gSl (gVar 2) gNoPart (gPart (gOp1 negF (gC (.int 1))))) gNil))))) sNext)
  (sRet (gSh (gIf (gAnd (gTst (gOp2 eqF (gVar 0) (gC (.str ",")))) (gTst (gOp2 eqF (gSl (gVar 2) (gPart (gOp1 negF (gC (.int 1)))) gNoPart) (gLst (gCons (gC (.str "count")) gNil))))) (gLst (gCons (gC (.str "operand")) (gCons (gVar 2) gNil))) (gC .non))))))))))
def F_law_step : FnD := callD [false, false, false] 3 g_law_step
theorem b_law_step (c : Cs X N_law_step (defScope s_law_step)) (v : Ev X W 0) (q : Tp X) (T : Top X.prog X.K X.mg) : DSs X W (defBody s_law_step) g_law_step :=
  (dss_cons (ds_if (teq v (dv c 1) de_str) (dss_cons (ds_if (dt_in (ha := (dv c 0)) (hb := (de_tup (dac de_str (dac de_str (dac de_str (dac de_str (dac de_str (dac de_str (dac de_str (dac de_str da_nil))))))))))) (dss_one (ds_ret (dsh (de_lst (dac de_str (dac (dv c 2) da_nil)))))) dss_nil)
    (dss_cons (ds_if (teq v (dv c 0) de_str) (dss_one (ds_ret (dsh (de_lst (dac de_str (dac (de_add (dv c 2) (de_lst (dac de_str da_nil))) da_nil)))))) dss_nil)
    (dss_one (ds_ret (dsh (dget1 v (ddct (dps_cons de_str (de_lst (dac de_str (dac (dv c 2) da_nil))) (dps_cons de_str (de_lst (dac de_str (dac (dv c 2) da_nil))) dps_nil))) (dv c 0))))))) dss_nil)
    (dss_cons (ds_if (teq v (dv c 1) de_str) (dss_one (ds_ret (dsh (de_if (teq v (dv c 0) de_str) (de_lst (dac de_str (dac (de_add (dv c 2) (de_lst (dac de_str da_nil))) da_nil))) de_non)))) dss_nil)
    (dss_cons (ds_if (teq v (dv c 1) de_str) (dss_one (ds_ret (dsh (de_if (PW.pt (dw_and (teq v (dlen c T.z_len (dac (dv c 0) da_nil)) de_int) (dw_and1 (dt_in (ha := (dv c 0)) (hb := de_str))))) (de_lst (dac de_str (dac (dv c 2) da_nil))) de_non)))) dss_nil)
    (dss_cons (ds_if (teq v (dv c 1) de_str) (dss_one (ds_ret (dsh (de_if (teq v (dv c 0) de_str) (de_lst (dac de_str (dac (dv c 2) da_nil))) de_non)))) dss_nil)
    (dss_cons (ds_if (dt_in (ha := (dv c 0)) (hb := (de_tup (dac de_str (dac de_str (dac de_str da_nil)))))) (dss_one (ds_ret (dsh (de_lst (dac de_str (dac (dv c 2) da_nil)))))) dss_nil)
    (dss_cons (ds_if (PW.pt (dw_and (teq v (dv c 0) de_str) (dw_and1 (tne v (dv c 2) (de_lst da_nil))))) (dss_one (ds_ret (dsh (de_lst (dac de_str (dac (de_slice (dv c 2) do_none (do_some (de_neg de_int))) da_nil)))))) dss_nil)
    (dss_one (ds_ret (dsh (de_if (PW.pt (dw_and (teq v (dv c 0) de_str) (dw_and1 (teq v (de_slice (dv c 2) (do_some (de_neg de_int)) do_none) (de_lst (dac de_str da_nil)))))) (de_lst (dac de_str (dac (dv c 2) da_nil))) de_non))))))))))
theorem ok_law_step (T : Top P K mg) : DOf P w K mg base 1 "_law_step" s_law_step ["_law_token", "_law_want", "_law_stack"] [false, false, false] F_law_step := fun_f T.f_law_step sc_law_step rfl fun X W e1 e2 e3 e4 e5 c v q => by
  subst e1 e2 e3 e4 e5
  exact b_law_step c v q T
def g_law_fault : GS := (sSeq (sAsg 1 (gSh (gLst (gCons (gC (.str "operand")) (gCons (gLst gNil) gNil)))))
  (sSeq (sFor (gIter (gCall F_law_cut [false] [] (gCons (gVar 0) gNil))) (aTup 2 (aCons (aName 2) (aCons (aName 3) aNil))) (sSeq (sAsg 1 (gCall F_law_step [false, false, false] [] (gCons (gVar 2) (gCons (gOp2 itemF (gVar 1) (gC (.int 0))) (gCons (gOp2 itemF (gVar 1) (gC (.int 1))) gNil)))))
  (sIf (gTst (gOp1 isNonF (gVar 1))) (sRet (gVar 3)) sNext)))
  (sRet (gIf (gTst (gOp2 eqF (gVar 1) (gLst (gCons (gC (.str "after")) (gCons (gLst gNil) gNil))))) (gC .non) (gCB lenF (gCons (gVar 0) gNil))))))
def F_law_fault : FnD := callD [false] 4 g_law_fault
theorem b_law_fault (c : Cs X N_law_fault (defScope s_law_fault)) (v : Ev X W 1) (q : Tp X) (T : Top X.prog X.K X.mg) : DSs X W (defBody s_law_fault) g_law_fault :=
  (dss_cons (dsetSh (dset c 1 (de_lst (dac de_str (dac (de_lst da_nil) da_nil)))))
    (dss_cons (dfor v (di_val (dcall c v (ok_law_cut T).ok (dac (dv c 0) da_nil))) (dgt v.calm (dgc (dgn c 2) (dgc (dgn c 3) dgs_nil))) (dss_cons (dset c 1 (dcall c v (ok_law_step T).ok (dac (dv c 2) (dac (ditem (dv c 1) de_int) (dac (ditem (dv c 1) de_int) da_nil)))))
    (dss_one (ds_if (tisN (dv c 1)) (dss_one (ds_ret (dv c 3))) dss_nil))))
    (dss_one (ds_ret (de_if (teq v (dv c 1) (de_lst (dac de_str (dac (de_lst da_nil) da_nil)))) de_non (dlen c T.z_len (dac (dv c 0) da_nil)))))))
theorem ok_law_fault (T : Top P K mg) : DOf P w K mg base 2 "_law_fault" s_law_fault ["_law_text"] [false] F_law_fault := fun_f T.f_law_fault sc_law_fault rfl fun X W e1 e2 e3 e4 e5 c v q => by
  subst e1 e2 e3 e4 e5
  exact b_law_fault c v q T
def g_law_bent : GS := (sSeq (sAsg 2 (gSh (gLst (gCons (gC (.str "(")) (gCons (gC (.str ")")) (gCons (gC (.str ",")) (gCons (gC (.str "not")) (gCons (gC (.str "and")) (gCons (gC (.str "or")) (gCons (gC (.str "xor")) (gCons (gC (.str "atleast")) (gCons (gC (.str "0")) (gCons (gC (.str "1")) (gCons (gC (.str "2")) (gCons (gC (.str "x5")) (gCons (gC (.str "x6")) (gCons (gC (.str "x")) (gCons (gC (.str "&")) (gCons (gC (.str "AND")) (gCons (gC (.str "x01")) (gCons (gC (.str "-")) gNil)))))))))))))))))))))
  (sSeq (sAsg 3 (gCall F_law_draw [true, false] [] (gCons (gVar 0) (gCons (gOp2 addF (gCB lenF (gCons (gVar 1) gNil)) (gC (.int 1))) gNil))))
  (sSeq (sAsg 4 (gCall F_law_draw [true, false] [] (gCons (gVar 0) (gCons (gC (.int 5)) gNil))))
  (sSeq (sAsg 5 (gOp2 itemF (gVar 2) (gCall F_law_draw [true, false] [] (gCons (gVar 0) (gCons (gCB lenF (gCons (gVar 2) gNil)) gNil)))))
  (sSeq (sIf (gTst (gOp2 eqF (gVar 4) (gC (.int 0)))) (sRet (gSh (gOp2 addF (gSl (gVar 1) gNoPart (gPart (gVar 3))) (gSl (gVar 1) (gPart (gOp2 addF (gVar 3) (gC (.int 1)))) gNoPart)))) sNext)
  (sSeq (sIf (gTst (gOp2 eqF (gVar 4) (gC (.int 1)))) (sRet (gSh (gOp2 addF (gOp2 addF (gSl (gVar 1) gNoPart (gPart (gVar 3))) (gSl (gVar 1) (gPart (gVar 3)) (gPart (gOp2 addF (gVar 3) (gC (.int 1)))))) (gSl (gVar 1) (gPart (gVar 3)) gNoPart)))) sNext)
  (sSeq (sIf (gTst (gOp2 eqF (gVar 4) (gC (.int 2)))) (sRet (gSh (gOp2 addF (gOp2 addF (gSl (gVar 1) gNoPart (gPart (gVar 3))) (gLst (gCons (gVar 5) gNil))) (gSl (gVar 1) (gPart (gVar 3)) gNoPart)))) sNext)
  (sSeq (sIf (gTst (gOp2 eqF (gVar 4) (gC (.int 3)))) (sRet (gSh (gOp2 addF (gOp2 addF (gSl (gVar 1) gNoPart (gPart (gVar 3))) (gLst (gCons (gVar 5) gNil))) (gSl (gVar 1) (gPart (gOp2 addF (gVar 3) (gC (.int 1)))) gNoPart)))) sNext)
  (sRet (gSh (gOp2 addF (gOp2 addF (gSl (gVar 1) gNoPart (gPart (gVar 3))) (gRev (gSl (gVar 1) (gPart (gVar 3)) (gPart (gOp2 addF (gVar 3) (gC (.int 2))))))) (gSl (gVar 1) (gPart (gOp2 addF (gVar 3) (gC (.int 2)))) gNoPart))))))))))))
def F_law_bent : FnD := callD [true, false] 6 g_law_bent
theorem b_law_bent (c : Cs X N_law_bent (defScope s_law_bent)) (v : Ev X W 1) (q : Tp X) (T : Top X.prog X.K X.mg) : DSs X W (defBody s_law_bent) g_law_bent :=
  (dss_cons (dsetSh (dset c 2 (de_lst (dac de_str (dac de_str (dac de_str (dac de_str (dac de_str (dac de_str (dac de_str (dac de_str (dac de_str (dac de_str (dac de_str (dac de_str (dac de_str (dac de_str (dac de_str (dac de_str (dac de_str (dac de_str da_nil)))))))))))))))))))))
    (dss_cons (dset c 3 (dcall c v (ok_law_draw T).ok (dac (dv c 0) (dac (de_add (dlen c T.z_len (dac (dv c 1) da_nil)) de_int) da_nil))))
    (dss_cons (dset c 4 (dcall c v (ok_law_draw T).ok (dac (dv c 0) (dac de_int da_nil))))
    (dss_cons (dset c 5 (ditem (dv c 2) (dcall c v (ok_law_draw T).ok (dac (dv c 0) (dac (dlen c T.z_len (dac (dv c 2) da_nil)) da_nil)))))
    (dss_cons (ds_if (teq v (dv c 4) de_int) (dss_one (ds_ret (dsh (de_add (de_slice (dv c 1) do_none (do_some (dv c 3))) (de_slice (dv c 1) (do_some (de_add (dv c 3) de_int)) do_none))))) dss_nil)
    (dss_cons (ds_if (teq v (dv c 4) de_int) (dss_one (ds_ret (dsh (de_add (de_add (de_slice (dv c 1) do_none (do_some (dv c 3))) (de_slice (dv c 1) (do_some (dv c 3)) (do_some (de_add (dv c 3) de_int)))) (de_slice (dv c 1) (do_some (dv c 3)) do_none))))) dss_nil)
    (dss_cons (ds_if (teq v (dv c 4) de_int) (dss_one (ds_ret (dsh (de_add (de_add (de_slice (dv c 1) do_none (do_some (dv c 3))) (de_lst (dac (dv c 5) da_nil))) (de_slice (dv c 1) (do_some (dv c 3)) do_none))))) dss_nil)
    (dss_cons (ds_if (teq v (dv c 4) de_int) (dss_one (ds_ret (dsh (de_add (de_add (de_slice (dv c 1) do_none (do_some (dv c 3))) (de_lst (dac (dv c 5) da_nil))) (de_slice (dv c 1) (do_some (de_add (dv c 3) de_int)) do_none))))) dss_nil)
    (dss_one (ds_ret (dsh (de_add (de_add (de_slice (dv c 1) do_none (do_some (dv c 3))) (dgrev (de_slice (dv c 1) (do_some (dv c 3)) (do_some (de_add (dv c 3) de_int))))) (de_slice (dv c 1) (do_some (de_add (dv c 3) de_int)) do_none)))))))))))))
theorem ok_law_bent (T : Top P K mg) : DOf P w K mg base 2 "_law_bent" s_law_bent ["_law_pool_here", "_law_tokens_here"] [true, false] F_law_bent := fun_f T.f_law_bent sc_law_bent rfl fun X W e1 e2 e3 e4 e5 c v q => by
  subst e1 e2 e3 e4 e5
  exact b_law_bent c v q T
def g_law_signed : GS := (sSeq (sAsg 2 (gC (.str " !\"#$&'()*+,-./0123456789:;<=>?@ABCDEFGHIJKLMNOPQRSTUVWXYZ[\\]^_`abcdefghijklmnopqrstuvwxyz{|}~")))
  (sSeq (sAsg 3 (gCall F_law_draw [true, false] [] (gCons (gVar 0) (gCons (gOp2 addF (gCB lenF (gCons (gVar 1) gNil)) (gC (.int 1))) gNil))))
  (sSeq (sAsg 4 (gOp2 mulA (gOp2 itemF (gVar 2) (gCall F_law_draw [true, false] [] (gCons (gVar 0) (gCons (gCB lenF (gCons (gVar 2) gNil)) gNil)))) (gCB intF (gCons (gOp2 gtF (gCall F_law_draw [true, false] [] (gCons (gVar 0) (gCons (gC (.int 4)) gNil))) (gC (.int 0))) gNil))))
  (sRet (gSh (gOp2 addF (gOp2 addF (gSl (gVar 1) gNoPart (gPart (gVar 3))) (gVar 4)) (gSl (gVar 1) (gPart (gOp2 addF (gVar 3) (gCall F_law_draw [true, false] [] (gCons (gVar 0) (gCons (gC (.int 2)) gNil))))) gNoPart)))))))
def F_law_signed : FnD := callD [true, false] 5 g_law_signed
theorem b_law_signed (c : Cs X N_law_signed (defScope s_law_signed)) (v : Ev X W 1) (q : Tp X) (T : Top X.prog X.K X.mg) : DSs X W (defBody s_law_signed) g_law_signed :=
  (dss_cons (dset c 2 de_str)
    (dss_cons (dset c 3 (dcall c v (ok_law_draw T).ok (dac (dv c 0) (dac (de_add (dlen c T.z_len (dac (dv c 1) da_nil)) de_int) da_nil))))
    (dss_cons (dset c 4 (de_mulA (ditem (dv c 2) (dcall c v (ok_law_draw T).ok (dac (dv c 0) (dac (dlen c T.z_len (dac (dv c 2) da_nil)) da_nil)))) (dint c T.z_int (dac (de_gt (dcall c v (ok_law_draw T).ok (dac (dv c 0) (dac de_int da_nil))) de_int) da_nil))))
    (dss_one (ds_ret (dsh (de_add (de_add (de_slice (dv c 1) do_none (do_some (dv c 3))) (dv c 4)) (de_slice (dv c 1) (do_some (de_add (dv c 3) (dcall c v (ok_law_draw T).ok (dac (dv c 0) (dac de_int da_nil))))) do_none))))))))
theorem ok_law_signed (T : Top P K mg) : DOf P w K mg base 2 "_law_signed" s_law_signed ["_law_pool_here", "_law_text"] [true, false] F_law_signed := fun_f T.f_law_signed sc_law_signed rfl fun X W e1 e2 e3 e4 e5 c v q => by
  subst e1 e2 e3 e4 e5
  exact b_law_signed c v q T
def g_Reader_init : GS := (sSeq (sSetF "Reader" "tokens" (gCall F_tokens_of [false] [] (gCons (gVar 1) gNil)) (gVar 0))
  (sSeq (sSetF "Reader" "length" (gCB lenF (gCons (gVar 1) gNil)) (gVar 0))
  (sSetF "Reader" "place" (gC (.int 0)) (gVar 0))))
def F_Reader_init : FnD := callD [true, false] 2 g_Reader_init
theorem b_Reader_init (c : Cs X N_Reader_init (defScope s_Reader_init)) (v : Ev X W 1) (q : Tp X) (T : Top X.prog X.K X.mg) : DSs X W (defBody s_Reader_init) g_Reader_init :=
  (dss_cons (dsetF T.q_Reader.cls (T.q_Reader.no (by decide)) (dcall c v (ok_tokens_of T).ok (dac (dv c 1) da_nil)) (dv c 0))
    (dss_cons (dsetF T.q_Reader.cls (T.q_Reader.no (by decide)) (dlen c T.z_len (dac (dv c 1) da_nil)) (dv c 0))
    (dss_one (dsetF T.q_Reader.cls (T.q_Reader.no (by decide)) de_int (dv c 0)))))
theorem ok_Reader_init (T : Top P K mg) : SpM P w K mg base 2 "Reader" "__init__" [true, false] F_Reader_init := me_f T.q_Reader T.m_Reader_init sc_Reader_init rfl fun X W e1 e2 e3 e4 e5 c v q => by
  subst e1 e2 e3 e4 e5
  exact b_Reader_init c v q T
def g_Reader_here : GS := (sRet (gIf (gTst (gOp2 ltF (gFld "Reader" "place" (gVar 0)) (gCB lenF (gCons (gFld "Reader" "tokens" (gVar 0)) gNil)))) (gOp2 itemF (gOp2 itemF (gFld "Reader" "tokens" (gVar 0)) (gFld "Reader" "place" (gVar 0))) (gC (.int 0))) (gC (.str ""))))
def F_Reader_here : FnD := callD [true] 1 g_Reader_here
theorem b_Reader_here (c : Cs X N_Reader_here (defScope s_Reader_here)) (v : Ev X W 0) (q : Tp X) (T : Top X.prog X.K X.mg) : DSs X W (defBody s_Reader_here) g_Reader_here :=
  (dss_one (ds_ret (de_if (dt_lt (dfld T.q_Reader.cls (T.q_Reader.no (by decide)) (dv c 0)) (dlen c T.z_len (dac (dfld T.q_Reader.cls (T.q_Reader.no (by decide)) (dv c 0)) da_nil))) (ditem (ditem (dfld T.q_Reader.cls (T.q_Reader.no (by decide)) (dv c 0)) (dfld T.q_Reader.cls (T.q_Reader.no (by decide)) (dv c 0))) de_int) de_str)))
theorem ok_Reader_here (T : Top P K mg) : SpM P w K mg base 1 "Reader" "here" [true] F_Reader_here := me_f T.q_Reader T.m_Reader_here sc_Reader_here rfl fun X W e1 e2 e3 e4 e5 c v q => by
  subst e1 e2 e3 e4 e5
  exact b_Reader_here c v q T
def g_Reader_fault : GS := (sRet (gIf (gTst (gOp2 ltF (gFld "Reader" "place" (gVar 0)) (gCB lenF (gCons (gFld "Reader" "tokens" (gVar 0)) gNil)))) (gOp2 itemF (gOp2 itemF (gFld "Reader" "tokens" (gVar 0)) (gFld "Reader" "place" (gVar 0))) (gC (.int 1))) (gFld "Reader" "length" (gVar 0))))
def F_Reader_fault : FnD := callD [true] 1 g_Reader_fault
theorem b_Reader_fault (c : Cs X N_Reader_fault (defScope s_Reader_fault)) (v : Ev X W 0) (q : Tp X) (T : Top X.prog X.K X.mg) : DSs X W (defBody s_Reader_fault) g_Reader_fault :=
  (dss_one (ds_ret (de_if (dt_lt (dfld T.q_Reader.cls (T.q_Reader.no (by decide)) (dv c 0)) (dlen c T.z_len (dac (dfld T.q_Reader.cls (T.q_Reader.no (by decide)) (dv c 0)) da_nil))) (ditem (ditem (dfld T.q_Reader.cls (T.q_Reader.no (by decide)) (dv c 0)) (dfld T.q_Reader.cls (T.q_Reader.no (by decide)) (dv c 0))) de_int) (dfld T.q_Reader.cls (T.q_Reader.no (by decide)) (dv c 0)))))
theorem ok_Reader_fault (T : Top P K mg) : SpM P w K mg base 1 "Reader" "fault" [true] F_Reader_fault := me_f T.q_Reader T.m_Reader_fault sc_Reader_fault rfl fun X W e1 e2 e3 e4 e5 c v q => by
  subst e1 e2 e3 e4 e5
  exact b_Reader_fault c v q T
def g_Reader_need : GS := (sSeq (sIf (gTst (gOp2 neF (gMeth "Reader" "here" [true] F_Reader_here (gVar 0) gNil) (gVar 1))) (sRaise "BadFormula" mk_BadFormula (gCons (gMeth "Reader" "fault" [true] F_Reader_fault (gVar 0) gNil) gNil)) sNext)
  (sIncF "Reader" "place" 0 1))
def F_Reader_need : FnD := callD [true, false] 2 g_Reader_need
theorem b_Reader_need (c : Cs X N_Reader_need (defScope s_Reader_need)) (v : Ev X W 2) (q : Tp X) (T : Top X.prog X.K X.mg) : DSs X W (defBody s_Reader_need) g_Reader_need :=
  (dss_cons (ds_if (tne v (dmeth0 v ((ok_Reader_here T).meth T.q_Reader T.m_Reader_here) (dv c 0)) (dv c 1)) (dss_one (draise c v (x_BadFormula T) (dac (dmeth0 v ((ok_Reader_fault T).meth T.q_Reader T.m_Reader_fault) (dv c 0)) da_nil))) dss_nil)
    (dss_one (dincF T.q_Reader.cls (T.q_Reader.no (by decide)) 0 1 (dv c 0) de_int)))
theorem ok_Reader_need (T : Top P K mg) : SpM P w K mg base 3 "Reader" "need" [true, false] F_Reader_need := me_f T.q_Reader T.m_Reader_need sc_Reader_need rfl fun X W e1 e2 e3 e4 e5 c v q => by
  subst e1 e2 e3 e4 e5
  exact b_Reader_need c v q T
def g_Reader_counted (self : FnD) : GS := (sSeq (sExpr (gMeth "Reader" "need" [true, false] F_Reader_need (gVar 0) (gCons (gC (.str "atleast")) gNil)))
  (sSeq (sExpr (gMeth "Reader" "need" [true, false] F_Reader_need (gVar 0) (gCons (gC (.str "(")) gNil)))
  (sSeq (sIf (gOr (gTst (gOp2 neF (gCB lenF (gCons (gMeth "Reader" "here" [true] F_Reader_here (gVar 0) gNil) gNil)) (gC (.int 1)))) (gTst (gOp2 notInF (gMeth "Reader" "here" [true] F_Reader_here (gVar 0) gNil) (gC (.str "0123456789"))))) (sRaise "BadFormula" mk_BadFormula (gCons (gMeth "Reader" "fault" [true] F_Reader_fault (gVar 0) gNil) gNil)) sNext)
  (sSeq (sAsg 1 (gCB int2F (gCons (gMeth "Reader" "here" [true] F_Reader_here (gVar 0) gNil) gNil)))
  (sSeq (sIncF "Reader" "place" 0 1)
  (sSeq (sExpr (gMeth "Reader" "need" [true, false] F_Reader_need (gVar 0) (gCons (gC (.str ",")) gNil)))
  (sSeq (sAsg 2 (gLst (gCons (gMeth "Reader" "joined" [true, false] self (gVar 0) (gCons (gC (.int 0)) gNil)) gNil)))
  (sSeq (sWhile 100000 (gTst (gOp2 eqF (gMeth "Reader" "here" [true] F_Reader_here (gVar 0) gNil) (gC (.str ",")))) (sSeq (sIncF "Reader" "place" 0 1)
  (sExpr (gApp 2 (gCons (gMeth "Reader" "joined" [true, false] self (gVar 0) (gCons (gC (.int 0)) gNil)) gNil)))))
  (sSeq (sExpr (gMeth "Reader" "need" [true, false] F_Reader_need (gVar 0) (gCons (gC (.str ")")) gNil)))
  (sRet (gTup (gCons (gC (.str "atleast")) (gCons (gLst (gCons (gVar 1) (gStar (gVar 2) gNil))) gNil)))))))))))))
def F_Reader_counted (self : FnD) : FnD := callD [true] 3 (g_Reader_counted self)
theorem b_Reader_counted {n : Nat} {self : FnD} (h : SpM X.prog X.w X.K X.mg X.base (3 + 4 * n) "Reader" "joined" [true, false] self) (c : Cs X N_Reader_counted (defScope s_Reader_counted)) (v : Ev X W (3 + 4 * n + 0)) (q : Tp X) (T : Top X.prog X.K X.mg) : DSs X W (defBody s_Reader_counted) (g_Reader_counted self) :=
  (dss_cons (dexpr (dmeth v ((ok_Reader_need T).meth T.q_Reader T.m_Reader_need) (dv c 0) (dac de_str da_nil) (hj := by omega)))
    (dss_cons (dexpr (dmeth v ((ok_Reader_need T).meth T.q_Reader T.m_Reader_need) (dv c 0) (dac de_str da_nil) (hj := by omega)))
    (dss_cons (ds_if (PW.pt (dw_or (tne v (dlen c T.z_len (dac (dmeth0 v ((ok_Reader_here T).meth T.q_Reader T.m_Reader_here) (dv c 0) (hj := by omega)) da_nil)) de_int) (dw_or1 (dt_nin (ha := (dmeth0 v ((ok_Reader_here T).meth T.q_Reader T.m_Reader_here) (dv c 0) (hj := by omega))) (hb := (dconS c T.c_DIGITS)))))) (dss_one (draise c v (x_BadFormula T) (dac (dmeth0 v ((ok_Reader_fault T).meth T.q_Reader T.m_Reader_fault) (dv c 0) (hj := by omega)) da_nil) (hk := by omega))) dss_nil)
    (dss_cons (dset c 1 (dint2 c T.z_int (dac (dmeth0 v ((ok_Reader_here T).meth T.q_Reader T.m_Reader_here) (dv c 0) (hj := by omega)) da_nil)))
    (dss_cons (dincF T.q_Reader.cls (T.q_Reader.no (by decide)) 0 1 (dv c 0) de_int)
    (dss_cons (dexpr (dmeth v ((ok_Reader_need T).meth T.q_Reader T.m_Reader_need) (dv c 0) (dac de_str da_nil) (hj := by omega)))
    (dss_cons (dset c 2 (de_lst (dac (dmeth v (h.meth T.q_Reader T.m_Reader_joined) (dv c 0) (dac de_int da_nil) (hj := by omega)) da_nil)))
    (dss_cons (dwhile 100000 v (teq v (dmeth0 v ((ok_Reader_here T).meth T.q_Reader T.m_Reader_here) (dv c 0) (hj := by omega)) de_str) (dss_cons (dincF T.q_Reader.cls (T.q_Reader.no (by decide)) 0 1 (dv c 0) de_int)
    (dss_one (dexpr (dapp c 2 (dac (dmeth v (h.meth T.q_Reader T.m_Reader_joined) (dv c 0) (dac de_int da_nil) (hj := by omega)) da_nil))))))
    (dss_cons (dexpr (dmeth v ((ok_Reader_need T).meth T.q_Reader T.m_Reader_need) (dv c 0) (dac de_str da_nil) (hj := by omega)))
    (dss_one (ds_ret (de_tup (dac de_str (dac (de_lst (dac (dv c 1) (das (dv c 2) da_nil))) da_nil))))))))))))))
theorem ok_Reader_counted (T : Top P K mg) {n : Nat} {self : FnD} (h : SpM P w K mg base (3 + 4 * n) "Reader" "joined" [true, false] self) : SpM P w K mg base (3 + 4 * n + 1) "Reader" "counted" [true] (F_Reader_counted self) := me_f (k := (3 + 4 * n + 0)) T.q_Reader T.m_Reader_counted sc_Reader_counted rfl fun X W e1 e2 e3 e4 e5 c v q => by
  subst e1 e2 e3 e4 e5
  exact b_Reader_counted h c v q T
def g_Reader_atom (self : FnD) : GS := (sSeq (sAsg 1 (gSh (gMeth "Reader" "here" [true] F_Reader_here (gVar 0) gNil)))
  (sSeq (sIf (gTst (gOp1 (sIn ["x0", "x1", "x2", "x3", "x4", "x5"]) (gVar 1))) (sSeq (sIncF "Reader" "place" 0 1)
  (sRet (gTup (gCons (gC (.str "bit")) (gCons (gOp1 (sIx ["x0", "x1", "x2", "x3", "x4", "x5"]) (gVar 1)) gNil))))) sNext)
  (sSeq (sIf (gTst (gOp2 inF (gVar 1) (gTup (gCons (gC (.str "0")) (gCons (gC (.str "1")) gNil))))) (sSeq (sIncF "Reader" "place" 0 1)
  (sRet (gTup (gCons (gC (.str "answer")) (gCons (gCB int2F (gCons (gVar 1) gNil)) gNil))))) sNext)
  (sSeq (sIf (gTst (gOp2 eqF (gVar 1) (gC (.str "atleast")))) (sRet (gSh (gMeth "Reader" "counted" [true] (F_Reader_counted self) (gVar 0) gNil))) sNext)
  (sSeq (sExpr (gMeth "Reader" "need" [true, false] F_Reader_need (gVar 0) (gCons (gC (.str "(")) gNil)))
  (sSeq (sAsg 2 (gSh (gMeth "Reader" "joined" [true, false] self (gVar 0) (gCons (gC (.int 0)) gNil))))
  (sSeq (sExpr (gMeth "Reader" "need" [true, false] F_Reader_need (gVar 0) (gCons (gC (.str ")")) gNil)))
  (sRet (gVar 2)))))))))
def F_Reader_atom (self : FnD) : FnD := callD [true] 3 (g_Reader_atom self)
theorem b_Reader_atom {n : Nat} {self : FnD} (h : SpM X.prog X.w X.K X.mg X.base (3 + 4 * n) "Reader" "joined" [true, false] self) (c : Cs X N_Reader_atom (defScope s_Reader_atom)) (v : Ev X W (3 + 4 * n + 1)) (q : Tp X) (T : Top X.prog X.K X.mg) : DSs X W (defBody s_Reader_atom) (g_Reader_atom self) :=
  (dss_cons (dsetSh (dset c 1 (dmeth0 v ((ok_Reader_here T).meth T.q_Reader T.m_Reader_here) (dv c 0) (hj := by omega))))
    (dss_cons (ds_if (tsIn c T.u_BITS_OF (dv c 1)) (dss_cons (dincF T.q_Reader.cls (T.q_Reader.no (by decide)) 0 1 (dv c 0) de_int)
    (dss_one (ds_ret (de_tup (dac de_str (dac (dsIx c T.u_BITS_OF (dv c 1)) da_nil)))))) dss_nil)
    (dss_cons (ds_if (dt_in (ha := (dv c 1)) (hb := (de_tup (dac de_str (dac de_str da_nil))))) (dss_cons (dincF T.q_Reader.cls (T.q_Reader.no (by decide)) 0 1 (dv c 0) de_int)
    (dss_one (ds_ret (de_tup (dac de_str (dac (dint2 c T.z_int (dac (dv c 1) da_nil)) da_nil)))))) dss_nil)
    (dss_cons (ds_if (teq v (dv c 1) de_str) (dss_one (ds_ret (dsh (dmeth0 v ((ok_Reader_counted T h).meth T.q_Reader T.m_Reader_counted) (dv c 0) (hj := by omega))))) dss_nil)
    (dss_cons (dexpr (dmeth v ((ok_Reader_need T).meth T.q_Reader T.m_Reader_need) (dv c 0) (dac de_str da_nil) (hj := by omega)))
    (dss_cons (dsetSh (dset c 2 (dmeth v (h.meth T.q_Reader T.m_Reader_joined) (dv c 0) (dac de_int da_nil) (hj := by omega))))
    (dss_cons (dexpr (dmeth v ((ok_Reader_need T).meth T.q_Reader T.m_Reader_need) (dv c 0) (dac de_str da_nil) (hj := by omega)))
    (dss_one (ds_ret (dv c 2))))))))))
theorem ok_Reader_atom (T : Top P K mg) {n : Nat} {self : FnD} (h : SpM P w K mg base (3 + 4 * n) "Reader" "joined" [true, false] self) : SpM P w K mg base (3 + 4 * n + 2) "Reader" "atom" [true] (F_Reader_atom self) := me_f (k := (3 + 4 * n + 1)) T.q_Reader T.m_Reader_atom sc_Reader_atom rfl fun X W e1 e2 e3 e4 e5 c v q => by
  subst e1 e2 e3 e4 e5
  exact b_Reader_atom h c v q T
def g_Reader_turned (self : FnD) : GS := (sSeq (sAsg 1 (gC (.int 0)))
  (sSeq (sWhile 100000 (gTst (gOp2 eqF (gMeth "Reader" "here" [true] F_Reader_here (gVar 0) gNil) (gC (.str "not")))) (sSeq (sIncF "Reader" "place" 0 1)
  (sAugI (fun a b => a + b) 1 (gC (.int 1)))))
  (sSeq (sAsg 2 (gSh (gMeth "Reader" "atom" [true] (F_Reader_atom self) (gVar 0) gNil)))
  (sSeq (sFor (gRng rng1 (gCons (gVar 1) gNil)) (aName 3) (sAsg 2 (gTup (gCons (gC (.str "not")) (gCons (gLst (gCons (gVar 2) gNil)) gNil)))))
  (sRet (gVar 2))))))
def F_Reader_turned (self : FnD) : FnD := callD [true] 4 (g_Reader_turned self)
theorem b_Reader_turned {n : Nat} {self : FnD} (h : SpM X.prog X.w X.K X.mg X.base (3 + 4 * n) "Reader" "joined" [true, false] self) (c : Cs X N_Reader_turned (defScope s_Reader_turned)) (v : Ev X W (3 + 4 * n + 2)) (q : Tp X) (T : Top X.prog X.K X.mg) : DSs X W (defBody s_Reader_turned) (g_Reader_turned self) :=
  (dss_cons (dset c 1 de_int)
    (dss_cons (dwhile 100000 v (teq v (dmeth0 v ((ok_Reader_here T).meth T.q_Reader T.m_Reader_here) (dv c 0) (hj := by omega)) de_str) (dss_cons (dincF T.q_Reader.cls (T.q_Reader.no (by decide)) 0 1 (dv c 0) de_int)
    (dss_one (dauga c 1 de_int))))
    (dss_cons (dsetSh (dset c 2 (dmeth0 v ((ok_Reader_atom T h).meth T.q_Reader T.m_Reader_atom) (dv c 0) (hj := by omega))))
    (dss_cons (dfor v (drng1 c T.z_range (dac (dv c 1) da_nil)) (dgn c 3) (dss_one (dset c 2 (de_tup (dac de_str (dac (de_lst (dac (dv c 2) da_nil)) da_nil))))))
    (dss_one (ds_ret (dv c 2)))))))
theorem ok_Reader_turned (T : Top P K mg) {n : Nat} {self : FnD} (h : SpM P w K mg base (3 + 4 * n) "Reader" "joined" [true, false] self) : SpM P w K mg base (3 + 4 * n + 3) "Reader" "turned" [true] (F_Reader_turned self) := me_f (k := (3 + 4 * n + 2)) T.q_Reader T.m_Reader_turned sc_Reader_turned rfl fun X W e1 e2 e3 e4 e5 c v q => by
  subst e1 e2 e3 e4 e5
  exact b_Reader_turned h c v q T
def g_Reader_joined (self : FnD) : GS := (sSeq (sIf (gTst (gOp2 eqF (gVar 1) (gC (.int 3)))) (sRet (gSh (gMeth "Reader" "turned" [true] (F_Reader_turned self) (gVar 0) gNil))) sNext)
  (sSeq (sAsg 2 (gLst (gCons (gMeth "Reader" "joined" [true, false] self (gVar 0) (gCons (gOp2 addF (gVar 1) (gC (.int 1))) gNil)) gNil)))
  (sSeq (sWhile 100000 (gTst (gOp2 eqF (gMeth "Reader" "here" [true] F_Reader_here (gVar 0) gNil) (gOp1 (sIt ["or", "xor", "and"]) (gVar 1)))) (sSeq (sIncF "Reader" "place" 0 1)
  (sExpr (gApp 2 (gCons (gMeth "Reader" "joined" [true, false] self (gVar 0) (gCons (gOp2 addF (gVar 1) (gC (.int 1))) gNil)) gNil)))))
  (sRet (gIf (gTst (gOp2 eqF (gCB lenF (gCons (gVar 2) gNil)) (gC (.int 1)))) (gOp2 itemF (gVar 2) (gC (.int 0))) (gTup (gCons (gOp1 (sIt ["or", "xor", "and"]) (gVar 1)) (gCons (gVar 2) gNil))))))))
def F_Reader_joined : Nat → FnD
  | 0 => noF
  | n + 1 => callD [true, false] 3 (g_Reader_joined (F_Reader_joined n))
theorem b_Reader_joined {n : Nat} {self : FnD} (h : SpM X.prog X.w X.K X.mg X.base (3 + 4 * n) "Reader" "joined" [true, false] self) (c : Cs X N_Reader_joined (defScope s_Reader_joined)) (v : Ev X W (3 + 4 * n + 3)) (q : Tp X) (T : Top X.prog X.K X.mg) : DSs X W (defBody s_Reader_joined) (g_Reader_joined self) :=
  (dss_cons (ds_if (teq v (dv c 1) (dsLen c T.u_JOINS T.z_len)) (dss_one (ds_ret (dsh (dmeth0 v ((ok_Reader_turned T h).meth T.q_Reader T.m_Reader_turned) (dv c 0) (hj := by omega))))) dss_nil)
    (dss_cons (dset c 2 (de_lst (dac (dmeth v (h.meth T.q_Reader T.m_Reader_joined) (dv c 0) (dac (de_add (dv c 1) de_int) da_nil) (hj := by omega)) da_nil)))
    (dss_cons (dwhile 100000 v (teq v (dmeth0 v ((ok_Reader_here T).meth T.q_Reader T.m_Reader_here) (dv c 0) (hj := by omega)) (dsIt c T.u_JOINS (dv c 1))) (dss_cons (dincF T.q_Reader.cls (T.q_Reader.no (by decide)) 0 1 (dv c 0) de_int)
    (dss_one (dexpr (dapp c 2 (dac (dmeth v (h.meth T.q_Reader T.m_Reader_joined) (dv c 0) (dac (de_add (dv c 1) de_int) da_nil) (hj := by omega)) da_nil))))))
    (dss_one (ds_ret (de_if (teq v (dlen c T.z_len (dac (dv c 2) da_nil)) de_int) (ditem (dv c 2) de_int) (de_tup (dac (dsIt c T.u_JOINS (dv c 1)) (dac (dv c 2) da_nil)))))))))
theorem ok_Reader_joined (T : Top P K mg) (n : Nat) : SpM P w K mg base (3 + 4 * n) "Reader" "joined" [true, false] (F_Reader_joined n) := by
  induction n with
  | zero => exact me_no T.q_Reader T.m_Reader_joined sc_Reader_joined rfl
  | succ n ih =>
    exact me_f (k := (3 + 4 * n + 3)) T.q_Reader T.m_Reader_joined sc_Reader_joined rfl fun X W e1 e2 e3 e4 e5 c v q => by
      subst e1 e2 e3 e4 e5
      exact b_Reader_joined ih c v q T
def g_read_node : GS := (sSeq (sAsg 1 (gMake "Reader" 1 F_Reader_init (gCons (gVar 0) gNil)))
  (sSeq (sAsg 2 (gSh (gMeth "Reader" "joined" [true, false] (F_Reader_joined 52) (gVar 1) (gCons (gC (.int 0)) gNil))))
  (sSeq (sIf (gTst (gOp2 neF (gMeth "Reader" "here" [true] F_Reader_here (gVar 1) gNil) (gC (.str "")))) (sRaise "BadFormula" mk_BadFormula (gCons (gMeth "Reader" "fault" [true] F_Reader_fault (gVar 1) gNil) gNil)) sNext)
  (sRet (gVar 2)))))
def F_read_node : FnD := callD [false] 3 g_read_node
theorem b_read_node (c : Cs X N_read_node (defScope s_read_node)) (v : Ev X W 211) (q : Tp X) (T : Top X.prog X.K X.mg) : DSs X W (defBody s_read_node) g_read_node :=
  (dss_cons (dset c 1 (dmake c v ((ok_Reader_init T).make (n := 1) T.q_Reader) (dac (dv c 0) da_nil)))
    (dss_cons (dsetSh (dset c 2 (dmeth v ((ok_Reader_joined T 52).meth T.q_Reader T.m_Reader_joined) (dv c 1) (dac de_int da_nil))))
    (dss_cons (ds_if (tne v (dmeth0 v ((ok_Reader_here T).meth T.q_Reader T.m_Reader_here) (dv c 1)) de_str) (dss_one (draise c v (x_BadFormula T) (dac (dmeth0 v ((ok_Reader_fault T).meth T.q_Reader T.m_Reader_fault) (dv c 1)) da_nil))) dss_nil)
    (dss_one (ds_ret (dv c 2))))))
theorem ok_read_node (T : Top P K mg) : DOf P w K mg base 212 "read_node" s_read_node ["text"] [false] F_read_node := fun_f T.f_read_node sc_read_node rfl fun X W e1 e2 e3 e4 e5 c v q => by
  subst e1 e2 e3 e4 e5
  exact b_read_node c v q T
def g_Formula_init : GS := (sSetF "Formula" "node" (gCall F_read_node [false] [] (gCons (gVar 1) gNil)) (gVar 0))
def F_Formula_init : FnD := callD [true, false] 2 g_Formula_init
theorem b_Formula_init (c : Cs X N_Formula_init (defScope s_Formula_init)) (v : Ev X W 212) (q : Tp X) (T : Top X.prog X.K X.mg) : DSs X W (defBody s_Formula_init) g_Formula_init :=
  (dss_one (dsetF T.q_Formula.cls (T.q_Formula.no (by decide)) (dcall c v (ok_read_node T).ok (dac (dv c 1) da_nil)) (dv c 0)))
theorem ok_Formula_init (T : Top P K mg) : SpM P w K mg base 213 "Formula" "__init__" [true, false] F_Formula_init := me_f T.q_Formula T.m_Formula_init sc_Formula_init rfl fun X W e1 e2 e3 e4 e5 c v q => by
  subst e1 e2 e3 e4 e5
  exact b_Formula_init c v q T
def g_law_told : GS := (sTry xsL (subT subsL) (sRet (gSh (gIf (gTru (gCB (isiO "Formula") (gCons (gMake "Formula" 1 F_Formula_init (gCons (gVar 0) gNil)) (gCons (gC (.cls "Formula")) gNil)))) (gLst (gCons (gC .non) gNil)) (gLst (gCons (gC (.str "other")) gNil))))) (⟨"BadFormula", some 1, (.f "at" :: [])⟩ :: (⟨"LooksError", none, (.c "other" :: [])⟩ :: [])))
def F_law_told : FnD := callD [false] 2 g_law_told
theorem b_law_told (c : Cs X N_law_told (defScope s_law_told)) (v : Ev X W 214) (q : Tp X) (T : Top X.prog X.K X.mg) : DSs X W (defBody s_law_told) g_law_told :=
  (dss_one (dtry c v q xsL T.subs (fun c v => (dss_one (ds_ret (dsh (de_if (dtv (disiO c T.i_Formula T.z_isinstance (dac (dmake c v ((ok_Formula_init T).make (n := 1) T.q_Formula) (dac (dv c 0) da_nil)) (dac (dcls c T.l_Formula) da_nil)))) (de_lst (dac de_non da_nil)) (de_lst (dac de_str da_nil))))))) (hdo_nm c 1 T.l_BadFormula (fun C hC => (hio_f c T.x_BadFormula hC .nil)) (hdo_pl c T.l_LooksError (fun C hC => (.c .nil)) hdo_nil))))
theorem ok_law_told (T : Top P K mg) : DOf P w K mg base 215 "_law_told" s_law_told ["_law_text"] [false] F_law_told := fun_f T.f_law_told sc_law_told rfl fun X W e1 e2 e3 e4 e5 c v q => by
  subst e1 e2 e3 e4 e5
  exact b_law_told c v q T
def g_law : GS := (sSeq (sFor (gRng rng1 (gCons (gCB max2F (gCons (gC (.int 2)) (gCons (gCB min2F (gCons (gCB lenF (gCons (gVar 0) gNil)) (gCons (gC (.int 8)) gNil))) gNil))) gNil)) (aName 1) (sSeq (sAsg 2 (gCall F_law_pool [false, false] [] (gCons (gVar 0) (gCons (gVar 1) gNil))))
  (sSeq (sAsg 3 (gOp2 addF (gC (.int 1)) (gCall F_law_draw [true, false] [] (gCons (gVar 2) (gCons (gC (.int 2)) gNil)))))
  (sSeq (sAsg 4 (gOp2 addF (gC (.int 1)) (gCall F_law_draw [true, false] [] (gCons (gVar 2) (gCons (gC (.int 3)) gNil)))))
  (sSeq (sAsg 5 (gCall (F_law_tokens 6) [true, false, false] [] (gCons (gVar 2) (gCons (gCall (F_law_node 5) [true, false, false] [] (gCons (gVar 2) (gCons (gVar 4) (gCons (gC (.int 6)) gNil)))) (gCons (gC (.int 0)) gNil)))))
  (sSeq (sAsg 6 (gCall F_law_spaced [true, false] [] (gCons (gVar 2) (gCons (gVar 5) gNil))))
  (sSeq (sAsg 7 (gSh (gCB listF (gCons (gVar 5) gNil))))
  (sSeq (sFor (gRng rng1 (gCons (gVar 3) gNil)) (aName 8) (sAsg 7 (gCall F_law_bent [true, false] [] (gCons (gVar 2) (gCons (gVar 7) gNil)))))
  (sSeq (sAsg 9 (gSh (gLst (gCons (gVar 6) (gCons (gCall F_law_spaced [true, false] [] (gCons (gVar 2) (gCons (gVar 7) gNil))) (gCons (gCall F_law_signed [true, false] [] (gCons (gVar 2) (gCons (gVar 6) gNil))) gNil))))))
  (sFor (gIter (gOp2 addF (gVar 9) (gLst (gCons (gCall F_law_signed [true, false] [] (gCons (gVar 2) (gCons (gOp2 itemF (gVar 9) (gC (.int 2))) gNil))) gNil)))) (aName 10) (sSeq (sIf (gTst (gOp2 neF (gCall F_law_told [false] [] (gCons (gVar 10) gNil)) (gLst (gCons (gCall F_law_fault [false] [] (gCons (gVar 10) gNil)) gNil)))) (sRet (gC (.bl false))) sNext)
  (sSeq (sAsg 11 (gSh (gSl (gVar 10) gNoPart (gPart (gCall F_law_draw [true, false] [] (gCons (gVar 2) (gCons (gOp2 addF (gCB lenF (gCons (gVar 10) gNil)) (gC (.int 1))) gNil)))))))
  (sIf (gTst (gOp2 neF (gCall F_law_told [false] [] (gCons (gVar 11) gNil)) (gLst (gCons (gCall F_law_fault [false] [] (gCons (gVar 11) gNil)) gNil)))) (sRet (gC (.bl false))) sNext)))))))))))))
  (sRet (gAndV (gOp2 eqF (gCall F_law_told [false] [] (gCons (gC (.str "")) gNil)) (gLst (gCons (gC (.int 0)) gNil))) (gOp2 eqF (gCall F_law_told [false] [] (gCons (gC (.str "   ")) gNil)) (gLst (gCons (gC (.int 3)) gNil))))))
theorem b_law (c : Cs X N_law (defScope s_law)) (v : Ev X W 215) (q : Tp X) (T : Top X.prog X.K X.mg) : DSs X W (defBody s_law) g_law :=
  (dss_cons (dfor v (drng1 c T.z_range (dac (dmax2 c v T.z_max (dac de_int (dac (dmin2 c v T.z_min (dac (dlen c T.z_len (dac (dv c 0) da_nil)) (dac de_int da_nil))) da_nil))) da_nil)) (dgn c 1) (dss_cons (dset c 2 (dcall c v (ok_law_pool T).ok (dac (dv c 0) (dac (dv c 1) da_nil))))
    (dss_cons (dset c 3 (de_add de_int (dcall c v (ok_law_draw T).ok (dac (dv c 2) (dac de_int da_nil)))))
    (dss_cons (dset c 4 (de_add de_int (dcall c v (ok_law_draw T).ok (dac (dv c 2) (dac de_int da_nil)))))
    (dss_cons (dset c 5 (dcall c v (ok_law_tokens T 6).ok (dac (dv c 2) (dac (dcall c v (ok_law_node T 5).ok (dac (dv c 2) (dac (dv c 4) (dac de_int da_nil)))) (dac de_int da_nil)))))
    (dss_cons (dset c 6 (dcall c v (ok_law_spaced T).ok (dac (dv c 2) (dac (dv c 5) da_nil))))
    (dss_cons (dsetSh (dset c 7 (dlist c T.z_list (dac (dv c 5) da_nil))))
    (dss_cons (dfor v (drng1 c T.z_range (dac (dv c 3) da_nil)) (dgn c 8) (dss_one (dset c 7 (dcall c v (ok_law_bent T).ok (dac (dv c 2) (dac (dv c 7) da_nil))))))
    (dss_cons (dsetSh (dset c 9 (de_lst (dac (dv c 6) (dac (dcall c v (ok_law_spaced T).ok (dac (dv c 2) (dac (dv c 7) da_nil))) (dac (dcall c v (ok_law_signed T).ok (dac (dv c 2) (dac (dv c 6) da_nil))) da_nil))))))
    (dss_one (dfor v (di_val (de_add (dv c 9) (de_lst (dac (dcall c v (ok_law_signed T).ok (dac (dv c 2) (dac (ditem (dv c 9) de_int) da_nil))) da_nil)))) (dgn c 10) (dss_cons (ds_if (tne v (dcall c v (ok_law_told T).ok (dac (dv c 10) da_nil)) (de_lst (dac (dcall c v (ok_law_fault T).ok (dac (dv c 10) da_nil)) da_nil))) (dss_one (ds_ret de_bl)) dss_nil)
    (dss_cons (dsetSh (dset c 11 (de_slice (dv c 10) do_none (do_some (dcall c v (ok_law_draw T).ok (dac (dv c 2) (dac (de_add (dlen c T.z_len (dac (dv c 10) da_nil)) de_int) da_nil)))))))
    (dss_one (ds_if (tne v (dcall c v (ok_law_told T).ok (dac (dv c 11) da_nil)) (de_lst (dac (dcall c v (ok_law_fault T).ok (dac (dv c 11) da_nil)) da_nil))) (dss_one (ds_ret de_bl)) dss_nil)))))))))))))))
    (dss_one (ds_ret (de_and (deq v (dcall c v (ok_law_told T).ok (dac de_str da_nil)) (de_lst (dac de_int da_nil))) (de_one (deq v (dcall c v (ok_law_told T).ok (dac de_str da_nil)) (de_lst (dac de_int da_nil))))))))
theorem law_b (T : Top P K mg) (e1 : X.prog = P) (e3 : X.K = K) (e4 : X.mg = mg) (c : Cs X N_law (defScope s_law)) (v : Ev X W 215) (q : Tp X) : DSs X W (defBody s_law) g_law := by
  subst e1 e3 e4
  exact b_law c v q T
end
end K22
set_option maxHeartbeats 8000000
set_option pp.deepTerms false
set_option pp.deepTerms.threshold 7
open PySem PySem.Spec PyProof.Rows L2 DL Q
local macro_rules | `(tactic| walk_at "set") => `(tactic| first
  | (simp only [putV, isIo, take1, List.getElem?_cons_zero, List.getElem?_cons_succ, List.set_cons_zero, List.set_cons_succ, Bool.false_eq_true, if_false, reduceIte]; done)
  | (simp only [putV, isIo, take1, List.getElem?_cons_zero, List.getElem?_cons_succ, List.set_cons_zero, List.set_cons_succ, Bool.false_eq_true, if_false, reduceIte]; rfl))
local macro_rules | `(tactic| walk_at "f") => `(tactic| first
  | exact ne_nil _
  | exact item_0 _ _
  | rfl
  | exact mul_r (by decide) (by decide)
  | exact mul_l (by decide) (by decide)
  | exact mod_p (by decide)
  | exact mod_p (by assumption)
  | exact fdiv_p (b := 64) (by decide) (by decide) (by decide) (by decide)
  | exact pow_p (by decide) (by decide) (by decide)
  | exact pow_p (by decide) (by decide) (by omega)
  | (refine' fdiv_p ?h1 ?h2 ?h3 ?h4; (case h1 => assumption); (case h2 => assumption); (case h3 => decide); (case h4 => decide))
  | with_reducible assumption)
local macro_rules | `(tactic| walk_at "setf") => `(tactic| first | exact s4_0 | exact s4_1 | exact s4_2 | exact s4_3 | rfl)
local macro_rules | `(tactic| walk_at "sl") => `(tactic| first | exact sl_tail _ _ | rfl)
local macro_rules | `(tactic| walk_at "ev") => `(tactic| first
  | with_reducible refine v_sh rfl ?_ | with_reducible refine v_io rfl ?_ | with_reducible refine v_ow rfl ?_ | with_reducible refine v_c ?_
  | with_reducible refine v_op2 ?_ | with_reducible refine v_op1 ?_ | with_reducible refine v_tst ?_ | with_reducible refine v_tru ?_
  | with_reducible refine v_not ?_ | with_reducible refine v_and ?_ | with_reducible refine v_or ?_ | with_reducible refine v_andV ?_ | with_reducible refine v_orV ?_ | with_reducible refine v_b ?_ | with_reducible refine v_if ?_
  | with_reducible refine v_nil ?_ | with_reducible refine v_cons ?_ | with_reducible refine v_lst ?_ | with_reducible refine v_tup ?_ | with_reducible refine v_cb ?_
  | with_reducible refine v_nop ?_ | with_reducible refine v_part ?_ | with_reducible refine v_sl ?_ | with_reducible refine v_call ?_
  | with_reducible refine v_asg ?_ | with_reducible refine v_expr ?_ | with_reducible refine v_ret ?_ | with_reducible refine v_retN ?_ | with_reducible refine v_next ?_ | with_reducible refine v_break ?_ | with_reducible refine v_cont ?_
  | with_reducible refine v_seq ?_ | with_reducible refine v_sif ?_ | with_reducible refine v_setIx ?_ | with_reducible refine v_sfor ?_ | with_reducible refine v_rng ?_ | with_reducible refine v_iter ?_
  | ((with_reducible refine' o_2 ?h1 ?h2 ?h3 ?h4); (case h1 => rfl); (case h2 => rfl); (case h3 => walk_at "f"))
  | ((with_reducible refine' o_1 ?h1 ?h3 ?h4); (case h1 => rfl); (case h3 => walk_at "f"))
  | ((with_reducible refine' o_t ?h1 ?h4); (case h1 => rfl))
  | ((with_reducible refine' o_u ?h1 ?h3 ?h4); (case h1 => rfl); (case h3 => walk_at "f"))
  | ((with_reducible refine' o_k ?h1 ?h3 ?h4); (case h1 => rfl); (case h3 => first | rfl | decide))
  | ((with_reducible refine' o_l ?h1 ?h3 ?h4); (case h1 => rfl); (case h3 => walk_at "f"))
  | ((with_reducible refine' o_p ?h1 ?h4); (case h1 => rfl))
  | ((with_reducible refine' o_s ?h1 ?h3 ?h4); (case h1 => rfl); (case h3 => walk_at "sl"))
  | ((with_reducible refine' o_a ?h1 ?h3 ?h4); (case h1 => exact lt_ble rfl); (case h3 => walk_at "set"))
  | ((with_reducible refine' o_r ?h3 ?h4); (case h3 => rfl))
  | ((with_reducible refine' o_g ?h1 ?h3 ?h4); (case h1 => rfl); (case h3 => rfl))
  | ((with_reducible refine' o_it ?h1 ?h3 ?h4); (case h1 => rfl); (case h3 => rfl))
  | ((with_reducible refine' o_i ?h1 ?h2 ?h3 ?h4 ?h5 ?h6); (case h1 => rfl); (case h2 => rfl); (case h3 => rfl); (case h4 => walk_at "setf"); (case h5 => walk_at "setc"))
  | ((with_reducible refine' o_c ?h1 ?h2 ?h3 ?h4); (case h1 => rfl); (case h2 => exact nd_b rfl); (case h3 => rfl)))
local macro_rules | `(tactic| walk_at "setc") => `(tactic| (simp only [setC, List.getElem?_cons_zero, List.getElem?_cons_succ, List.set_cons_zero, List.set_cons_succ]; try rfl))
local macro_rules | `(tactic| walk_at "yes") => `(tactic| first | rfl | decide | with_reducible assumption | (simp only [decide_eq_true_eq, decide_eq_false_iff_not, beq_iff_eq, bne_iff_ne, ne_eq, beq_eq_false_iff_ne, Bool.not_eq_true', Bool.not_eq_false', List.isEmpty_cons, List.isEmpty_nil, Bool.not_false, Bool.not_true, beq_self_eq_true] at *; first | done | omega))
local macro_rules | `(tactic| walk_at "br") => `(tactic| first
  | ((with_reducible refine' br_t ?h1 ?h2); (case h1 => walk_at "yes"))
  | ((with_reducible refine' br_f ?h1 ?h2); (case h1 => walk_at "yes"))
  | ((with_reducible refine' br_t' ?h1 ?h2); (case h1 => walk_at "yes"))
  | ((with_reducible refine' br_f' ?h1 ?h2); (case h1 => walk_at "yes")))
local macro_rules | `(tactic| walk_at "go") => `(tactic| ((refine' call_go ?h1 ?h2 ?h3 ?h4); (case h1 => rfl); (case h2 => decide); (case h3 => (simp only [init, slots0, List.length_cons, List.length_nil, Nat.reduceAdd, Nat.reduceSub, Nat.zero_add, List.replicate_succ, List.replicate_zero, List.cons_append, List.nil_append]; try rfl))))
local macro_rules | `(tactic| walk_at "tgt") => `(tactic| (simp only [aTup, aCons, aName, aNil, List.length_cons, List.length_nil, Nat.zero_add, Nat.reduceAdd, Nat.reduceLT, Nat.reduceLeDiff, if_true, reduceIte, Option.bind_some, List.set_cons_zero, List.set_cons_succ]; try rfl))
local macro_rules | `(tactic| walk_at "f") => `(tactic| first | with_reducible assumption | (refine' Eq.trans ?q1 ?q2; (case q1 => with_reducible assumption); (case q2 => rfl)) | exact len_s (by with_reducible assumption) | exact ne_dash _ | exact eq_dash _ | exact ne_zero _ | exact eq_zero _ | exact ne_one _ | exact eq_one _ | exact in_dash _ _ | exact nin_dash _ _ | exact ne_ch _ _ | exact eq_ch _ _ | exact all_map _ _ | exact any_map _ _ | exact rprF_of (by with_reducible assumption) | exact item_s (by with_reducible assumption) (by with_reducible assumption))
local macro_rules | `(tactic| walk_at "bd") => `(tactic| first | decide | omega)
local macro_rules | `(tactic| walk_at "mk") => `(tactic| first | with_reducible assumption | rfl)
local macro_rules | `(tactic| walk_at "call") => `(tactic| fail)
local macro_rules | `(tactic| walk_at "ev") => `(tactic| first
  | with_reducible refine v_lc ?_ | with_reducible refine v_lc2 ?_ | with_reducible refine v_yes ?_ | with_reducible refine v_enum ?_ | with_reducible refine v_zip ?_ | with_reducible refine v_unp ?_ | with_reducible refine v_raise ?_ | with_reducible refine v_try ?_
  | with_reducible refine v_callK ?_ | with_reducible refine v_chain ?_ | with_reducible refine v_m1 ?_ | with_reducible refine v_lstRg ?_ | with_reducible refine v_callT ?_
  | ((with_reducible refine' o_g ?h1 ?h3 ?h4); (case h1 => rfl); (case h3 => with_reducible assumption))
  | ((with_reducible refine' v_pop ?g0 ?g1); (case g0 => rfl))
  | ((with_reducible refine' v_app ?g0 ?g1); (case g0 => rfl))
  | ((with_reducible refine' o_ck ?g0 ?g1); (case g0 => rfl))
  | ((with_reducible refine' o_m1 ?g0 ?g1); (case g0 => rfl))
  | ((with_reducible refine' o_e ?h1 ?h2); (case h1 => rfl))
  | ((with_reducible refine' o_z ?h1 ?h2 ?h3 ?h4); (case h1 => rfl); (case h2 => rfl); (case h3 => rfl))
  | ((with_reducible refine' o_un ?h1 ?h2 ?h3); (case h1 => rfl); (case h2 => walk_at "tgt"))
  | ((with_reducible refine' o_ra ?h1 ?h2 ?h3 ?h4); (case h1 => rfl); (case h2 => walk_at "mk"); (case h3 => exact Nat.le_of_ble_eq_true rfl))
  | ((with_reducible refine' o_ch ?h1 ?h2 ?h3 ?h4); (case h1 => rfl); (case h2 => rfl); (case h3 => walk_at "f"))
  | ((with_reducible refine' o_lr ?h1 ?h2 ?h3 ?h4); (case h1 => rfl); (case h2 => walk_at "bd"); (case h3 => walk_at "bd"))
  | ((with_reducible refine' o_ap ?h1 ?h2 ?h3 ?h4 ?h5); (case h1 => rfl); (case h2 => rfl); (case h3 => walk_at "bd"); (case h4 => walk_at "setc"))
  | ((with_reducible refine' v_dct ?h1 ?h2); (case h1 => rfl))
  | walk_at "call")
local macro_rules | `(tactic| walk_at "sz") => `(tactic| first | rfl | (refine fits_le ?_; first | omega | (simp only [tx_len, List.length_append, List.length_cons, List.length_nil, List.length_map, List.length_range, str_app_len, List.length_replicate]; omega)) | with_reducible assumption)
local macro_rules | `(tactic| walk_at "ev") => `(tactic| first
  | with_reducible refine v_gsh ?_ | with_reducible refine v_joined ?_ | with_reducible refine v_jcons ?_ | with_reducible refine v_jnil ?_
  | ((with_reducible refine' o_sh ?h1 ?h2); (case h1 => rfl))
  | ((with_reducible refine' o_j ?h1 ?h2 ?h3); (case h1 => rfl); (case h2 => walk_at "sz")))
local macro_rules | `(tactic| walk_at "un") => `(tactic| first
  | with_reducible refine v_runn ?_
  | ((with_reducible refine' v_runc ?h1 ?h2); (case h1 => walk_at "tgt")))
local macro_rules | `(tactic| walk_at "run") => `(tactic| repeat (first | walk_at "ev" | walk_at "br" | walk_at "un"))
local macro_rules | `(tactic| walk_at "run0") => `(tactic| repeat (first | walk_at "ev" | walk_at "br"))
local macro_rules | `(tactic| walk_at "call") => `(tactic| first | ((with_reducible refine' c_okR ?hj ?hc ?hn); (case hj => rfl); (case hc => with_reducible assumption)) | ((with_reducible refine' c_exR ?hj ?hc ?hn); (case hj => rfl); (case hc => with_reducible assumption)))
local macro_rules | `(tactic| walk_at "ev") => `(tactic| first
  | with_reducible refine v_par ?_
  | ((with_reducible refine' o_pr ?h1 ?h2 ?h3 ?h4); (case h1 => rfl); (case h2 => rfl); (case h3 => walk_at "setc")))
local macro_rules | `(tactic| walk_at "sl") => `(tactic| first | with_reducible assumption | (refine' Eq.trans ?q1 ?q2; (case q1 => with_reducible assumption); (case q2 => rfl)))
local macro_rules | `(tactic| walk_at "f") => `(tactic| with_reducible assumption)
local macro_rules | `(tactic| walk_at "ev") => `(tactic| first
  | with_reducible refine v_sh rfl ?_ | with_reducible refine v_cons ?_ | with_reducible refine v_nil ?_ | with_reducible refine v_op2 ?_
  | ((with_reducible refine' o_2 ?h1 ?h2 ?h3 ?h4); (case h1 => rfl); (case h2 => rfl); (case h3 => with_reducible assumption))
  | with_reducible refine v_c ?_ | with_reducible refine v_seq ?_ | with_reducible refine v_asg ?_
  | ((with_reducible refine' o_a ?h1 ?h3 ?h4); (case h1 => exact lt_ble rfl); (case h3 => walk_at "set"))
  | with_reducible refine v_call ?_
  | ((with_reducible refine' o_c ?h1 ?h2 ?h3 ?h4); (case h1 => rfl); (case h2 => exact nd_b rfl); (case h3 => rfl))
  | ((with_reducible refine' c_okR ?hj ?hc ?hn); (case hj => rfl); (case hc => with_reducible assumption))
  | with_reducible refine v_sif ?_ | with_reducible refine v_tst ?_ | ((with_reducible refine' o_t ?h1 ?h4); (case h1 => rfl))
  | with_reducible refine v_cb ?_ | ((with_reducible refine' o_l ?h1 ?h3 ?h4); (case h1 => rfl); (case h3 => with_reducible assumption))
  | with_reducible refine v_next ?_ | with_reducible refine v_tru ?_ | with_reducible refine v_ret ?_)
namespace Q
/-! ### the draws -/
def Pool (b : D) : Prop := ∃ (c n k : Int) (g : Bool), b = .lst [.int c, .int n, .bl g, .int k]
def Drawn (lim : Int) (a : Val) (ios : List D) : Prop := ∃ r b, a = .d (.int r) ∧ ios = [b] ∧ 0 ≤ r ∧ r < lim ∧ Pool b
theorem drawn_mk {lim r c n k : Int} {g : Bool} (h0 : 0 ≤ r) (h1 : r < lim) : Drawn lim (.d (.int r)) [.lst [.int c, .int n, .bl g, .int k]] := ⟨r, _, rfl, rfl, h0, h1, c, n, k, g, rfl⟩
set_option maxHeartbeats 4000000 in
theorem draw_ok {b : D} {lim : Int} (hb : Pool b) (hl : 0 < lim) (h9 : lim.natAbs < 2 ^ 40) : (F_law_draw [b, .int lim]).sat (Drawn lim) (fun _ _ => False) := by
  obtain ⟨c, n, k, g, rfl⟩ := hb
  have fd : ∀ i : Int, fdivF (.int i) (.int lim) = vi (i / lim) := fun i => fdiv_p (b := 40) hl h9 (by decide) (by decide)
  have e0 : ∀ i : Int, 0 ≤ i % lim := fun i => Int.emod_nonneg i (by omega)
  have e1 : ∀ i : Int, i % lim < lim := fun i => Int.emod_lt_of_pos i hl
  have p1 : ∀ i : Int, (i % 2147483647).natAbs < 2 ^ 64 := fun i => by omega
  have p2 : ∀ i : Int, (i % 2147483629).natAbs < 2 ^ 64 := fun i => by omega
  walk_at "go"
  unfold g_law_draw
  cases g with
  | true =>
    repeat (first | walk_at "ev" | walk_at "br")
    exact ⟨_, rfl, rfl, drawn_mk (e0 _) (e1 _)⟩
  | false =>
    repeat (first | walk_at "ev" | walk_at "br")
    exact ⟨_, rfl, rfl, drawn_mk (e0 _) (e1 _)⟩
theorem c_draw {b : D} {lim : Int} {st2 : DS} {j : Nat} {st3 : D → DS} {Q : Val → DS → Prop} {E : Ex → List D → Prop} (hs : ∀ b', setC st2 j b' = st3 b') (hb : Pool b) (hl : 0 < lim) (h9 : lim.natAbs < 2 ^ 40)
    (h : ∀ r b', 0 ≤ r → r < lim → Pool b' → Q (.d (.int r)) (st3 b')) : (F_law_draw [b, .int lim]).sat (fun a ios => ∃ st3, back [j] ios st2 = some st3 ∧ Q a st3) E := by
  refine fr_imp (draw_ok hb hl h9) (fun a ios h' => ?_) fun _ _ h => h.elim
  obtain ⟨r, b', rfl, rfl, h0, h1, hb'⟩ := h'
  exact ⟨_, back1 (hs b'), h r b' h0 h1 hb'⟩
def pool0 (ns : List Int) (k : Nat) : D := .lst [.int (ns.getD k 0), .int 0, .bl (decide (10 ^ 18 ≤ ns.getD k 0)), .int (k : Nat)]
theorem pool_ok {ns : List Int} {k : Nat} (hk : k < 60) : F_law_pool [.scr ns, .int (k : Nat)] = .ok (.fr (pool0 ns k)) [] := by
  refine eq_of_sat ?_
  walk_at "go"
  unfold g_law_pool
  repeat (first | walk_at "ev" | walk_at "br")
  refine ⟨fun h => ?_, fun h => ?_⟩
  · have hk' : k < ns.length := by rw [decide_eq_true_eq] at h; omega
    have hi : itemF (.scr ns) (.int (k : Nat)) = some (.d (.int (ns.getD k 0))) := by
      show (atI ns ((k : Nat) : Int)).map (fun n => Val.d (.int n)) = _
      rw [atI_nat (v := ns.getD k 0) (by rw [List.getD_eq_getElem?_getD, List.getElem?_eq_getElem hk']; rfl)]
      rfl
    repeat (first | walk_at "ev" | walk_at "br")
    exact ⟨_, rfl, rfl, rfl, rfl⟩
  · have hk' : ns.length ≤ k := by rw [decide_eq_false_iff_not] at h; omega
    have hg : ns.getD k 0 = 0 := by rw [List.getD_eq_getElem?_getD, List.getElem?_eq_none hk']; rfl
    repeat (first | walk_at "ev" | walk_at "br")
    refine ⟨_, rfl, rfl, ?_, rfl⟩
    unfold pool0
    rw [hg]
    rfl
theorem pool_is {ns : List Int} {k : Nat} : Pool (pool0 ns k) := ⟨_, 0, k, _, rfl⟩
theorem rng_small {m : Int} (h0 : 0 ≤ m) (h1 : m ≤ 100000) : rng1 [.int m] = some (rng 0 m.toNat) := by
  have hsm : small62 m = true := by unfold small62; rw [Bool.and_eq_true, decide_eq_true_eq, decide_eq_true_eq]; omega
  unfold rng1; dsimp only; rw [if_pos hsm]
theorem rng_get {n i : Nat} {d : D} (h : (rng 0 n)[i]? = some d) : d = .int (i : Nat) ∧ i < n := by
  rw [rng_ix, List.getElem?_map] at h
  by_cases hi : i < n
  · rw [List.getElem?_range hi] at h; cases h; exact ⟨rfl, hi⟩
  · rw [List.getElem?_eq_none (by rw [List.length_range]; omega)] at h; cases h
theorem item_tx {l : List Nat} {k : Nat} (h : k < l.length) (hl : l.length ≤ 100000) : itemF (.str (tx l)) (.int (k : Nat)) = some (.d (ch (l.getD k 0))) := by
  have := item_s (x := tx l) (i := k) (by rw [tx_len]; exact h) (fits_le (by rw [tx_len]; omega))
  rw [cd_tx] at this
  exact this
theorem add_s {x y : Str} (h : fits (x.length + y.length) = true) : addF (.str x) (.str y) = vs (x ++ y) := by
  show orF _ _ _ _ = _
  unfold orF
  show (match addSF (.str x) (.str y) with | some v => some v | none => _) = _
  have : addSF (.str x) (.str y) = vs (x ++ y) := by
    show (if fits (x.length + y.length) = true then vs (x ++ y) else none) = _
    rw [if_pos h]
  rw [this]
  rfl
theorem app_tx (a b : List Nat) : tx a ++ tx b = tx (a ++ b) := by
  show Str.mk (a.toArray ++ b.toArray) = Str.mk (a ++ b).toArray
  rw [List.append_toArray]
theorem str_dig {p : Nat} (hp : p < 10) : strF [.int (p : Nat)] = vs (tx [48 + p]) ∧ fmtF (.int (p : Nat)) = vs (tx [48 + p]) := by
  rcases (show p = 0 ∨ p = 1 ∨ p = 2 ∨ p = 3 ∨ p = 4 ∨ p = 5 ∨ p = 6 ∨ p = 7 ∨ p = 8 ∨ p = 9 by omega) with rfl | rfl | rfl | rfl | rfl | rfl | rfl | rfl | rfl | rfl <;> exact ⟨by kernel_rfl, by kernel_rfl⟩
/-! ### whole numbers -/
def whole (d : D) (lo hi : Int) : Bool := match d with
  | .int i => decide (lo ≤ i) && decide (i ≤ hi)
  | _ => false
end Q
/-! DN6: symbolic runs, more. -/
namespace DL
open PySem PySem.Spec PyProof.Rows L2
section
variable {st : DS} {Q : Val → DS → Prop} {E : Ex → DS → Prop} {g : GE} {c f : Str} {F : FnD} {a : Val} {fs : List (Str × D)} {xs : List D}
def OLn (xs : List D) (v : Val) (st : DS) (Q : Val → DS → Prop) : Prop := ∃ n : Int, v = .d (.int n) ∧ 0 ≤ n ∧ n ≤ 16777216 ∧ Q (.fr (.lst xs)) st
def OLI (c f : Str) (F : FnD) (st : DS) (a : Val) (Q : Val → DS → Prop) (E : Ex → DS → Prop) : Prop := ∃ fs xs, look st a = some (.ins c fs) ∧ fs.lookup f = some (.lst xs) ∧ OC (noEx F) [false] st [a] (fun v st2 => OLn xs v st2 Q) E
theorem v_listI (h : (g st).sat (fun a st1 => OLI c f F st1 a Q E) E) : (gListI c f F g st).sat Q E := by
  refine sat_bind (sat_imp h (fun a st1 h1 => ?_) fun _ _ z => z)
  obtain ⟨fs, xs, h2, h3, h4⟩ := h1
  rw [h2]
  dsimp only
  rw [if_pos rfl, h3]
  dsimp only
  refine sat_bind (sat_imp (v_callC h4) (fun v st2 h5 => ?_) fun _ _ z => z)
  obtain ⟨n, rfl, n0, n1, q⟩ := h5
  dsimp only
  rw [if_pos (by rw [decide_eq_true n0, decide_eq_true n1]; rfl)]
  exact q
theorem o_li (h1 : look st a = some (.ins c fs)) (h2 : fs.lookup f = some (.lst xs)) (h3 : OC (noEx F) [false] st [a] (fun v st2 => OLn xs v st2 Q) E) : OLI c f F st a Q E := ⟨fs, xs, h1, h2, h3⟩
theorem o_ln {n : Int} (h0 : 0 ≤ n) (h1 : n ≤ 16777216) (h : Q (.fr (.lst xs)) st) : OLn xs (.d (.int n)) st Q := ⟨n, rfl, h0, h1, h⟩
def ODc (vs : List Nat) (ag : AG) (tt : GT) (gk gv : GE) (ds : List D) (st1 : DS) (Q : Val → DS → Prop) : Prop := (vs.all fun i => plainS st1[i]?) = true ∧ ∃ xs st2, runDc vs ag tt gk gv ds (wipeD st1 vs) [] = some (xs, st2) ∧ st1.length = st2.length ∧ Q (.fr (.dct xs)) (restD st1 st2 vs)
theorem v_dc {vs : List Nat} {gi : GI} {ag : AG} {tt : GT} {gk gv : GE} (h : (gi st).sat (fun ds st1 => ODc vs ag tt gk gv ds st1 Q) E) : (gDc vs gi ag tt gk gv st).sat Q E := by
  refine sat_bind (sat_imp h (fun ds st1 h1 => ?_) fun _ _ z => z)
  obtain ⟨h2, xs, st2, h3, h4, h5⟩ := h1
  rw [if_pos h2, h3]
  dsimp only
  rw [if_pos h4]
  exact h5
end
end DL
open PySem PySem.Spec PyProof.Rows L2 DL Q
local macro_rules | `(tactic| walk_at "draw") => `(tactic| ((refine' c_draw ?hs ?hb ?hl ?h9 ?h); (case hs => (intro b'; walk_at "setc")); (case hb => with_reducible assumption); (case hl => first | decide | omega); (case h9 => first | decide | omega)))
local macro_rules | `(tactic| walk_at "f") => `(tactic| first | with_reducible assumption | (refine' Eq.trans ?q1 ?q2; (case q1 => with_reducible assumption); (case q2 => rfl)) | exact add_s (by walk_at "sz"))
local macro_rules | `(tactic| walk_at "ev") => `(tactic| first
  | with_reducible refine v_fld ?_ | with_reducible refine v_prop ?_ | with_reducible refine v_meth ?_ | with_reducible refine v_cmeth ?_ | with_reducible refine v_callO ?_ | with_reducible refine v_unI ?_ | with_reducible refine v_binI ?_
  | with_reducible refine v_make ?_ | with_reducible refine v_setF ?_ | with_reducible refine v_sp1 ?_ | with_reducible refine v_inI ?_ | with_reducible refine v_eqI ?_ | with_reducible refine v_iterI ?_ | with_reducible refine v_tix ?_ | with_reducible refine v_listI ?_ | with_reducible refine v_methK0 ?_
  | ((with_reducible refine' o_fld ?h1 ?h2 ?h3); (case h1 => rfl); (case h2 => rfl))
  | ((with_reducible refine' o_b ?h1 ?h2); (case h1 => rfl))
  | ((with_reducible refine' o_mk ?h1 ?h2 ?h3); (case h1 => rfl); (case h2 => rfl))
  | ((with_reducible refine' o_setF ?h1 ?h2 ?h3 ?h4 ?h5); (case h1 => rfl); (case h2 => rfl); (case h3 => rfl); (case h4 => walk_at "setc"))
  | ((with_reducible refine' o_sp1 ?h1 ?h2); (case h1 => rfl))
  | ((with_reducible refine' o_chk ?h1 ?h2); (case h1 => walk_at "f"))
  | ((with_reducible refine' o_ii ?h1 ?h2 ?h3); (case h1 => rfl); (case h2 => rfl))
  | ((with_reducible refine' o_tx ?h1 ?h2 ?h3); (case h1 => rfl); (case h2 => walk_at "f"))
  | ((with_reducible refine' o_li ?h1 ?h2 ?h3); (case h1 => rfl); (case h2 => rfl))
  | ((with_reducible refine' o_ln ?h1 ?h2 ?h3); (case h1 => omega); (case h2 => omega)))
local macro_rules | `(tactic| walk_at "call") => `(tactic| first
  | ((with_reducible refine' c_okNR ?hj ?hc ?hn); (case hj => rfl); (case hc => with_reducible assumption))
  | ((with_reducible refine' m_ok ?hc ?hn); (case hc => with_reducible assumption)) | ((with_reducible refine' m_ex ?hc ?hn); (case hc => with_reducible assumption)))
namespace Q
/-! ### inputs -/
def inA (s : Str) (c : Nat) : Bool := decide (c ∈ s.cps.toList)
def isSg (s : Str) : D → Bool
  | .str x => decide (x.length ≤ 6) && (List.range x.length).all fun i => inA s (cd x i)
  | _ => false
def Bt : List Nat := [48, 49]
end Q
open PySem PySem.Spec PyProof.Rows L2 DL Q
namespace Q
theorem txs_len (l : List (List Nat)) : (txs l).length = l.length := by unfold txs; rw [List.length_map]
/-! ### inputs that are asked for -/
/-! ### tables -/
end Q
open PySem PySem.Spec PyProof.Rows L2 DL Q
namespace Q
/-! ### a question -/
def bc (b : Bool) : Nat := if b = true then 49 else 48
def bi (b : Bool) : Int := if b = true then 1 else 0
def tab (n : Nat) (f : List Nat → Bool) : List Nat := (allT Bt n).map fun x => bc (f x)
def ansD (n : Nat) (f : List Nat → Bool) : D := .dct ((allT Bt n).map fun x => (.str (tx x), .int (bi (f x))))
def yesL (n : Nat) (f : List Nat → Bool) : List (List Nat) := (allT Bt n).filter f
theorem tx_inj {a b : List Nat} (h : tx a = tx b) : a = b := by have := congrArg (fun s : Str => s.cps.toList) h; exact this
theorem len_lst {xs : List D} (h : xs.length ≤ 16777216) : lenF [.lst xs] = vi xs.length := by
  rfl
/-! ### a question is made -/
def q1 (n : Nat) (f : List Nat → Bool) : List (Str × D) := [("kept_table", .str (tx (tab n f)))]
def q2 (n : Nat) (f : List Nat → Bool) : List (Str × D) := [("kept_table", .str (tx (tab n f))), ("kept_many", .int (n : Nat))]
def q3 (n : Nat) (f : List Nat → Bool) : List (Str × D) := [("kept_table", .str (tx (tab n f))), ("kept_many", .int (n : Nat)), ("answer_of", ansD n f)]
end Q
open PySem PySem.Spec PyProof.Rows L2 DL Q
namespace Q
def conB (n : Nat) (f : List Nat → Bool) (d : D) : Bool := isSg "01" d && (match d with | .str s => decide (s.cps.toList ∈ yesL n f) | _ => false)
end Q
open PySem PySem.Spec PyProof.Rows L2 DL Q
namespace Q
/-! ### drawn odd values -/
theorem c_pool {r : FR} {st2 : DS} {j : Nat} {st3 : D → DS} {R : Val → D → Prop} {Q : Val → DS → Prop} {E : Ex → List D → Prop} (h0 : r.sat (fun a ios => ∃ b', ios = [b'] ∧ R a b') (fun _ _ => False)) (hs : ∀ b', setC st2 j b' = st3 b')
    (h : ∀ a b', R a b' → Q a (st3 b')) : r.sat (fun a ios => ∃ st3, back [j] ios st2 = some st3 ∧ Q a st3) E := by
  refine fr_imp h0 (fun a ios h' => ?_) fun _ _ h => h.elim
  obtain ⟨b', rfl, hr⟩ := h'
  exact ⟨_, back1 (hs b'), h a b' hr⟩
end Q
open PySem PySem.Spec PyProof.Rows L2 DL Q
namespace Q
end Q
open PySem PySem.Spec PyProof.Rows L2 DL Q
namespace Q
/-! ### slices of texts -/
end Q
/-! DN7: short ways for symbolic runs. -/
namespace DL
open PySem PySem.Spec PyProof.Rows L2
theorem cms_nil {k : Nat} : ∀ d ∈ ([] : List D), Cm d k := fun d h => by cases h
theorem cms_cons {k : Nat} {d : D} {ds : List D} (h : Cm d k) (hs : ∀ x ∈ ds, Cm x k) : ∀ x ∈ d :: ds, Cm x k := fun x hx => by
  rcases List.mem_cons.mp hx with rfl | hx
  · exact h
  · exact hs x hx
def Uc (t : List Nat) : Prop := ∀ c ∈ t, c < 0x110000
theorem cm_uc {t : List Nat} {k : Nat} (h : Uc t) : Cm (.str (tx t)) k := cm_tx h
theorem Uc.app {a b : List Nat} (h1 : Uc a) (h2 : Uc b) : Uc (a ++ b) := fun c hc => (List.mem_append.mp hc).elim (h1 c) (h2 c)
/-! ### comprehensions, their sides by themselves -/
/-! ### comprehensions over written lists -/
def RLc (vs : List Nat) (ag : AG) (tt : GT) (ge : GE) (ds : List D) (st : DS) (acc : List D) (K : List D → DS → Prop) : Prop := ∃ xs st2, runLc vs ag tt ge ds st acc = some (xs, st2) ∧ K xs st2
section
variable {st st1 st3 st4 st5 stw : DS} {Q : Val → DS → Prop} {vs : List Nat} {ag : AG} {tt : GT} {ge : GE} {d x : D} {ds acc acc2 : List D} {K : List D → DS → Prop} {a : Val}
def OUe (vs : List Nat) (st : DS) (Q : Val → DS → Prop) (xs : List D) (st2 : DS) : Prop := st.length = st2.length ∧ Q (.fr (.lst xs)) (restD st st2 vs)
theorem u_lc (hw : wipeD st vs = stw) (hp : (vs.all fun i => plainS st[i]?) = true) (h : RLc vs ag tt ge (d :: ds) stw [] fun xs st2 => OUe vs st Q xs st2) : OLc vs ag tt ge (d :: ds) st Q := by
  subst hw
  obtain ⟨xs, st2, h1, h2, h3⟩ := h
  exact ⟨hp, xs, st2, h1, h2, h3⟩
theorem u_nil (h : K acc st) : RLc vs ag tt ge [] st acc K := ⟨acc, st, rfl, h⟩
def OUl (vs : List Nat) (ag : AG) (tt : GT) (ge : GE) (ds : List D) (acc : List D) (K : List D → DS → Prop) (st3 : DS) (a : Val) : Prop := ∃ x st4, take1 st3 a = some (x, st4) ∧ acc.length < sizeLine ∧ RLc vs ag tt ge ds (wipeD st4 vs) (acc ++ [x]) K
theorem u_cons (h1 : ag d st = some st1) (h2 : (tt st1).sat (fun b st2 => (b = true → (ge st2).sat (fun a st3 => OUl vs ag tt ge ds acc K st3 a) NoX) ∧ (b = false → RLc vs ag tt ge ds (wipeD st2 vs) acc K)) NoX) : RLc vs ag tt ge (d :: ds) st acc K := by
  unfold RLc runLc
  rw [h1]
  dsimp only
  cases et : tt st1 with
  | no => rw [et] at h2; exact h2.elim
  | ex e s => rw [et] at h2; exact h2.elim
  | ok b st2 =>
    rw [et] at h2
    obtain ⟨h3, h4⟩ := h2
    cases b with
    | false => exact h4 rfl
    | true =>
      have h5 := h3 rfl
      dsimp only
      cases eg : ge st2 with
      | no => rw [eg] at h5; exact h5.elim
      | ex e s => rw [eg] at h5; exact h5.elim
      | ok a st3 =>
        rw [eg] at h5
        obtain ⟨x, st4, h6, h7, h8⟩ := h5
        dsimp only
        rw [h6]
        dsimp only
        rw [if_pos h7]
        exact h8
theorem o_ul (h1 : take1 st3 a = some (x, st4)) (h2 : wipeD st4 vs = st5) (h3 : acc ++ [x] = acc2) (h4 : Nat.ble acc.length 1000 = true) (h5 : RLc vs ag tt ge ds st5 acc2 K) : OUl vs ag tt ge ds acc K st3 a := by
  subst h2 h3
  exact ⟨x, st4, h1, by have := Nat.le_of_ble_eq_true h4; rw [sizeLine_eq]; omega, h5⟩
theorem o_ue {st2 : DS} {xs : List D} (h1 : st.length = st1.length) (h2 : restD st st1 vs = st2) (h3 : Q (.fr (.lst xs)) st2) : OUe vs st Q xs st1 := ⟨h1, by rw [h2]; exact h3⟩
end
end DL
open PySem PySem.Spec PyProof.Rows L2 DL Q
local macro_rules | `(tactic| walk_at "cm") => `(tactic| repeat' (first | exact cm_non | exact cm_bl | exact cm_int | with_reducible assumption | exact cm_uc (by with_reducible assumption) | with_reducible refine cm_lst ?_ | with_reducible refine cm_tup ?_ | with_reducible exact cms_nil | with_reducible refine cms_cons ?_ ?_))
local macro_rules | `(tactic| walk_at "wipe") => `(tactic| (simp only [wipeD, List.set_cons_zero, List.set_cons_succ]; try rfl))
local macro_rules | `(tactic| walk_at "ds") => `(tactic| first | rfl | with_reducible assumption | exact chars_tx _ | exact chars_ix _ | exact rng_ix _)
local macro_rules | `(tactic| walk_at "zz") => `(tactic| (rw [sizeLine_eq]; first | omega | (simp only [List.length_range, List.length_map, List.length_append, List.length_cons, List.length_nil]; omega)))
local macro_rules | `(tactic| walk_at "itm") => `(tactic| ((refine ⟨_, by walk_at "tgt", ?_⟩); walk_at "run"; (first | exact ⟨_, rfl, rfl⟩ | skip)))
local macro_rules | `(tactic| walk_at "itp") => `(tactic| ((refine ⟨_, by walk_at "tgt", ?_⟩); walk_at "run"; (refine ⟨rfl, fun hb => ?_, fun hb => rfl⟩); walk_at "run"; (first | exact ⟨_, rfl, rfl⟩ | skip)))
local macro_rules | `(tactic| walk_at "rest") => `(tactic| (simp only [restD, List.set_cons_zero, List.set_cons_succ, List.getD_cons_zero, List.getD_cons_succ]; try rfl))
local macro_rules | `(tactic| walk_at "app") => `(tactic| (simp only [List.nil_append, List.cons_append]; try rfl))
local macro_rules | `(tactic| walk_at "un") => `(tactic| first
  | ((with_reducible refine' u_lc ?h1 ?h2 ?h3); (case h1 => walk_at "wipe"); (case h2 => rfl))
  | with_reducible refine u_nil ?_
  | ((with_reducible refine' u_cons ?h1 ?h2); (case h1 => walk_at "tgt"))
  | ((with_reducible refine' o_ul ?h1 ?h2 ?h3 ?h4 ?h5); (case h1 => rfl); (case h2 => walk_at "wipe"); (case h3 => walk_at "app"); (case h4 => rfl))
  | ((with_reducible refine' o_ue ?h1 ?h2 ?h3); (case h1 => rfl); (case h2 => walk_at "rest")))
local macro_rules | `(tactic| walk_at "go") => `(tactic| ((with_reducible refine' call_go ?h1 ?h2 ?h3 ?h4); (case h1 => rfl); (case h2 => decide); (case h3 => (simp only [init, slots0, List.length_cons, List.length_nil, Nat.reduceAdd, Nat.reduceSub, Nat.zero_add, List.replicate_succ, List.replicate_zero, List.cons_append, List.nil_append]; try rfl))))
local macro_rules | `(tactic| walk_at "f") => `(tactic| with_reducible assumption)
local macro_rules | `(tactic| walk_at "ev") => `(tactic| first
  | with_reducible refine v_sh rfl ?_ | with_reducible refine v_cons ?_ | with_reducible refine v_nil ?_ | with_reducible refine v_op2 ?_
  | ((with_reducible refine' o_2 ?h1 ?h2 ?h3 ?h4); (case h1 => rfl); (case h2 => rfl); (case h3 => with_reducible assumption))
  | with_reducible refine v_c ?_ | with_reducible refine v_seq ?_ | with_reducible refine v_asg ?_
  | ((with_reducible refine' o_a ?h1 ?h3 ?h4); (case h1 => exact lt_ble rfl); (case h3 => walk_at "set"))
  | with_reducible refine v_call ?_
  | ((with_reducible refine' o_c ?h1 ?h2 ?h3 ?h4); (case h1 => rfl); (case h2 => exact nd_b rfl); (case h3 => rfl))
  | ((with_reducible refine' c_okR ?hj ?hc ?hn); (case hj => rfl); (case hc => with_reducible assumption))
  | with_reducible refine v_sif ?_ | with_reducible refine v_tst ?_ | ((with_reducible refine' o_t ?h1 ?h4); (case h1 => rfl))
  | with_reducible refine v_cb ?_ | ((with_reducible refine' o_l ?h1 ?h3 ?h4); (case h1 => rfl); (case h3 => with_reducible assumption))
  | with_reducible refine v_next ?_ | with_reducible refine v_tru ?_ | with_reducible refine v_ret ?_)
namespace Q
theorem rep_ch {c : Nat} {k : Int} (h0 : 0 ≤ k) (h1 : k ≤ 8) : repF (.str (tx [c])) (.int k) = vs (tx (List.replicate k.toNat c)) := by
  rcases (show k = 0 ∨ k = 1 ∨ k = 2 ∨ k = 3 ∨ k = 4 ∨ k = 5 ∨ k = 6 ∨ k = 7 ∨ k = 8 by omega) with rfl | rfl | rfl | rfl | rfl | rfl | rfl | rfl | rfl <;> rfl
end Q
open PySem PySem.Spec PyProof.Rows L2 DL Q
/-! FM1: formulas plainly: tokens, the parser as the program has it, the law's automaton, and that they find the same fault. -/
namespace FM
open DL Q
abbrev Tk := List Nat × Nat
def wOr : List Nat := [111, 114]
def wXor : List Nat := [120, 111, 114]
def wAnd : List Nat := [97, 110, 100]
def wNot : List Nat := [110, 111, 116]
def wAtl : List Nat := [97, 116, 108, 101, 97, 115, 116]
def jo : Nat → List Nat
  | 0 => wOr
  | 1 => wXor
  | _ => wAnd
def bitT (t : List Nat) : Bool := t == [120, 48] || t == [120, 49] || t == [120, 50] || t == [120, 51] || t == [120, 52] || t == [120, 53]
def ansT (t : List Nat) : Bool := t == [48] || t == [49]
def digT (t : List Nat) : Bool := match t with
  | [c] => Nat.ble 48 c && Nat.ble c 57
  | _ => false
def hd : List Tk → List Nat
  | [] => []
  | t :: _ => t.1
def flt (L : Nat) : List Tk → Nat
  | [] => L
  | t :: _ => t.2
def dg (t : List Nat) : Nat := t.getD 0 48 - 48
abbrev R := Option (Except Nat (D × List Tk))
def pLoop (self : Nat → List Tk → R) (w : List Nat) (lv : Nat) : Nat → List D → List Tk → Option (Except Nat (List D × List Tk))
  | 0, acc, ts => some (.ok (acc, ts))
  | k + 1, acc, ts => if hd ts = w then (match self lv ts.tail with
    | none => none
    | some (.error a) => some (.error a)
    | some (.ok (x, r)) => pLoop self w lv k (acc ++ [x]) r) else some (.ok (acc, ts))
def pCount (L : Nat) (self : Nat → List Tk → R) (ts : List Tk) : R :=
  if hd ts.tail ≠ [40] then some (.error (flt L ts.tail)) else
  if digT (hd ts.tail.tail) = false then some (.error (flt L ts.tail.tail)) else
  if hd ts.tail.tail.tail ≠ [44] then some (.error (flt L ts.tail.tail.tail)) else
  match self 0 ts.tail.tail.tail.tail with
  | none => none
  | some (.error a) => some (.error a)
  | some (.ok (x, r)) => (match pLoop self [44] 0 r.length [x] r with
    | none => none
    | some (.error a) => some (.error a)
    | some (.ok (xs, r')) => if hd r' ≠ [41] then some (.error (flt L r')) else some (.ok (.tup [.str (Str.ofString "atleast"), .lst (.int (dg (hd ts.tail.tail) : Nat) :: xs)], r'.tail)))
def pAtom (L : Nat) (self : Nat → List Tk → R) (ts : List Tk) : R :=
  if bitT (hd ts) = true then some (.ok (.tup [.str (Str.ofString "bit"), .int (((hd ts).getD 1 48 - 48 : Nat) : Int)], ts.tail)) else
  if ansT (hd ts) = true then some (.ok (.tup [.str (Str.ofString "answer"), .int (dg (hd ts) : Nat)], ts.tail)) else
  if hd ts = wAtl then pCount L self ts else
  if hd ts ≠ [40] then some (.error (flt L ts)) else
  match self 0 ts.tail with
  | none => none
  | some (.error a) => some (.error a)
  | some (.ok (x, r)) => if hd r ≠ [41] then some (.error (flt L r)) else some (.ok (x, r.tail))
def wrapN : Nat → D → D
  | 0, x => x
  | k + 1, x => wrapN k (.tup [.str (Str.ofString "not"), .lst [x]])
def nots : List Tk → Nat × List Tk
  | [] => (0, [])
  | t :: ts => if t.1 = wNot then ((nots ts).1 + 1, (nots ts).2) else (0, t :: ts)
def pTurn (L : Nat) (self : Nat → List Tk → R) (ts : List Tk) : R := match pAtom L self (nots ts).2 with
  | some (.ok (x, r)) => some (.ok (wrapN (nots ts).1 x, r))
  | r => r
def jn (w : List Nat) (xs : List D) : D := match xs with
  | [x] => x
  | xs => .tup [.str (tx w), .lst xs]
def pJ (L : Nat) : Nat → Nat → List Tk → R
  | 0, _, _ => none
  | n + 1, lv, ts => if lv = 3 then pTurn L (pJ L n) ts else (match pJ L n (lv + 1) ts with
    | none => none
    | some (.error a) => some (.error a)
    | some (.ok (x, r)) => (match pLoop (pJ L n) (jo lv) (lv + 1) r.length [x] r with
      | none => none
      | some (.error a) => some (.error a)
      | some (.ok (xs, r')) => some (.ok (jn (jo lv) xs, r'))))
/-! ### the automaton -/
inductive W | operand | opn | digit | comma | after
deriving DecidableEq
def jT (t : List Nat) : Bool := t == wAnd || t == wOr || t == wXor
/-- the top of the stack is its head; true: a count, false: a group -/
def step : W → List Bool → List Nat → Option (W × List Bool)
  | .operand, s, t => if bitT t || ansT t then some (.after, s) else if t = [40] then some (.operand, false :: s) else if t = wNot then some (.operand, s) else if t = wAtl then some (.opn, s) else none
  | .opn, s, t => if t = [40] then some (.digit, true :: s) else none
  | .digit, s, t => if digT t then some (.comma, s) else none
  | .comma, s, t => if t = [44] then some (.operand, s) else none
  | .after, s, t => if jT t then some (.operand, s) else if t = [41] ∧ s ≠ [] then some (.after, s.tail) else if t = [44] ∧ s.head? = some true then some (.operand, s) else none
def run (L : Nat) : W → List Bool → List Tk → Option Nat
  | w, s, [] => if w = .after ∧ s = [] then none else some L
  | w, s, t :: ts => match step w s t.1 with
    | none => some t.2
    | some (w', s') => run L w' s' ts
def bd (M : Nat) : W → List Bool → List Tk → Prop
  | _, s, [] => s.length ≤ M
  | w, s, t :: ts => s.length ≤ M ∧ (match step w s t.1 with
    | none => True
    | some (w', s') => bd M w' s' ts)
theorem bd_len {M : Nat} {w : W} {s : List Bool} : ∀ {ts : List Tk}, bd M w s ts → s.length ≤ M
  | [], h => h
  | _ :: _, h => h.1
theorem bd_step {M : Nat} {w w' : W} {s s' : List Bool} {t : Tk} {ts : List Tk} (h : bd M w s (t :: ts)) (e : step w s t.1 = some (w', s')) : bd M w' s' ts := by
  have := h.2
  rw [e] at this
  exact this
theorem run_step {L : Nat} {w w' : W} {s s' : List Bool} {t : Tk} {ts : List Tk} (e : step w s t.1 = some (w', s')) : run L w s (t :: ts) = run L w' s' ts := by
  show (match step w s t.1 with | none => some t.2 | some (w', s') => run L w' s' ts) = _
  rw [e]
theorem run_no {L : Nat} {w : W} {s : List Bool} {t : Tk} {ts : List Tk} (e : step w s t.1 = none) : run L w s (t :: ts) = some t.2 := by
  show (match step w s t.1 with | none => some t.2 | some (w', s') => run L w' s' ts) = _
  rw [e]
/-- a shorter end of a list -/
def Lt (r ts : List Tk) : Prop := r.length < ts.length ∧ r <:+ ts
theorem Lt.one {t : Tk} {ts : List Tk} : Lt ts (t :: ts) := ⟨Nat.lt_succ_self _, List.suffix_cons _ _⟩
theorem Lt.of {r q ts : List Tk} (h : r <:+ q) (k : Lt q ts) : Lt r ts := ⟨Nat.lt_of_le_of_lt h.length_le k.1, h.trans k.2⟩
theorem Lt.le {r q ts : List Tk} (k : Lt r q) (h : q <:+ ts) : Lt r ts := ⟨Nat.lt_of_lt_of_le k.1 h.length_le, k.2.trans h⟩
theorem Lt.cons {t : Tk} {r ts : List Tk} (k : Lt r ts) : Lt r (t :: ts) := k.le (List.suffix_cons _ _)
/-- what a reading at level lv is to be -/
def Good (L M lv : Nat) (s : List Bool) (ts : List Tk) : R → Prop
  | none => False
  | some (.error a) => run L .operand s ts = some a
  | some (.ok (_, r)) => run L .operand s ts = run L .after s r ∧ bd M .after s r ∧ Lt r ts ∧ ∀ i, lv ≤ i → i < 3 → hd r ≠ jo i
theorem jT_jo (t : List Nat) (h : jT t = true) : ∃ i, i < 3 ∧ t = jo i := by
  unfold jT at h
  simp only [Bool.or_eq_true, beq_iff_eq] at h
  rcases h with (rfl | rfl) | rfl
  · exact ⟨2, by decide, rfl⟩
  · exact ⟨0, by decide, rfl⟩
  · exact ⟨1, by decide, rfl⟩
theorem jo_jT {i : Nat} (h : i < 3) : jT (jo i) = true := by
  rcases (show i = 0 ∨ i = 1 ∨ i = 2 by omega) with rfl | rfl | rfl <;> decide
def GoodL (L M : Nat) (w : List Nat) (s : List Bool) (ts : List Tk) : Option (Except Nat (List D × List Tk)) → Prop
  | none => False
  | some (.error a) => run L .after s ts = some a
  | some (.ok (_, r)) => run L .after s ts = run L .after s r ∧ bd M .after s r ∧ r <:+ ts ∧ hd r ≠ w
theorem loop_good {L M lv : Nat} {self : Nat → List Tk → R} {w : List Nat} {s : List Bool} (hw : w ≠ []) (hs : step .after s w = some (.operand, s)) (P : List Nat → Prop) (hself : ∀ ts, bd M .operand s ts → Good L M lv s ts (self lv ts)) (hP : ∀ r, (∀ i, lv ≤ i → i < 3 → hd r ≠ jo i) → P (hd r)) :
    ∀ (k : Nat) (acc : List D) (ts : List Tk), ts.length ≤ k → bd M .after s ts → P (hd ts) → GoodL L M w s ts (pLoop self w lv k acc ts) ∧ ∀ xs r, pLoop self w lv k acc ts = some (.ok (xs, r)) → P (hd r)
  | 0, acc, ts, hk, hb, hp => by
    have : ts = [] := List.length_eq_zero_iff.mp (by omega)
    subst this
    refine ⟨⟨rfl, hb, List.suffix_refl _, fun z => hw z.symm⟩, fun xs r e => ?_⟩
    cases e
    exact hp
  | k + 1, acc, ts, hk, hb, hp => by
    unfold pLoop
    by_cases h : hd ts = w
    · rw [if_pos h]
      cases ts with
      | nil => exact (hw h.symm).elim
      | cons t ts =>
        have ht : t.1 = w := h
        have hs' : step .after s t.1 = some (.operand, s) := by rw [ht]; exact hs
        have hb' := bd_step hb hs'
        have hg := hself ts hb'
        show GoodL L M w s (t :: ts) (match self lv ts with
          | none => none
          | some (.error a) => some (.error a)
          | some (.ok (x, r)) => pLoop self w lv k (acc ++ [x]) r) ∧ _
        simp only [List.tail_cons]
        cases e : self lv ts with
        | none => rw [e] at hg; exact hg.elim
        | some q =>
          rw [e] at hg
          cases q with
          | error a => exact ⟨by show run L .after s (t :: ts) = some a; rw [run_step hs']; exact hg, fun xs r z => by cases z⟩
          | ok y =>
            obtain ⟨x, r⟩ := y
            obtain ⟨g1, g2, g3, g4⟩ := hg
            obtain ⟨i1, i2⟩ := loop_good hw hs P hself hP k (acc ++ [x]) r (by have := g3.1; rw [List.length_cons] at hk; omega) g2 (hP r g4)
            refine ⟨?_, i2⟩
            dsimp only
            cases e2 : pLoop self w lv k (acc ++ [x]) r with
            | none => rw [e2] at i1; exact i1.elim
            | some q2 =>
              rw [e2] at i1
              cases q2 with
              | error a =>
                show run L .after s (t :: ts) = some a
                rw [run_step hs', g1]
                exact i1
              | ok y2 =>
                obtain ⟨xs, r2⟩ := y2
                obtain ⟨j1, j2, j3, j4⟩ := i1
                exact ⟨by rw [run_step hs', g1]; exact j1, j2, (j3.trans g3.2).trans (List.suffix_cons _ _), j4⟩
    · rw [if_neg h]
      refine ⟨⟨rfl, hb, List.suffix_refl _, h⟩, fun xs r e => ?_⟩
      cases e
      exact hp
/-! ### the parser finds what the automaton finds -/
theorem step_op {s : List Bool} {t : List Nat} (h : bitT t = true ∨ ansT t = true) : step .operand s t = some (.after, s) := by
  show (if bitT t || ansT t then _ else _) = _
  rw [if_pos (by rw [Bool.or_eq_true]; exact h)]
theorem step_grp {s : List Bool} : step .operand s [40] = some (.operand, false :: s) := by
  first | rfl | (simp [step, bitT, ansT, jT, wNot, wAtl, wAnd, wOr, wXor])
theorem step_not {s : List Bool} : step .operand s wNot = some (.operand, s) := by
  first | rfl | (simp [step, bitT, ansT, jT, wNot, wAtl, wAnd, wOr, wXor])
theorem step_atl {s : List Bool} : step .operand s wAtl = some (.opn, s) := by
  first | rfl | (simp [step, bitT, ansT, jT, wNot, wAtl, wAnd, wOr, wXor])
theorem step_bad {s : List Bool} {t : List Nat} (h1 : bitT t = false) (h2 : ansT t = false) (h3 : t ≠ [40]) (h4 : t ≠ wNot) (h5 : t ≠ wAtl) : step .operand s t = none := by
  show (if bitT t || ansT t then _ else _) = _
  rw [if_neg (by rw [h1, h2]; decide), if_neg h3, if_neg h4, if_neg h5]
theorem step_jo {s : List Bool} {i : Nat} (h : i < 3) : step .after s (jo i) = some (.operand, s) := by
  show (if jT (jo i) then _ else _) = _
  rw [if_pos (jo_jT h)]
theorem step_cl {b : Bool} {s : List Bool} : step .after (b :: s) [41] = some (.after, s) := by
  first | rfl | (simp [step, bitT, ansT, jT, wNot, wAtl, wAnd, wOr, wXor])
theorem step_com {s : List Bool} : step .after (true :: s) [44] = some (.operand, true :: s) := by
  first | rfl | (simp [step, bitT, ansT, jT, wNot, wAtl, wAnd, wOr, wXor])
theorem jT_no {t : List Nat} (h : ∀ i, i < 3 → t ≠ jo i) : jT t = false := by
  cases e : jT t with
  | false => rfl
  | true =>
    obtain ⟨i, h1, h2⟩ := jT_jo t e
    exact (h i h1 h2).elim
theorem step_end {b : Bool} {s : List Bool} {t : List Nat} (h : ∀ i, i < 3 → t ≠ jo i) (h2 : t ≠ [41]) (h3 : b = true → t ≠ [44]) : step .after (b :: s) t = none := by
  show (if jT t then _ else _) = _
  rw [if_neg (by rw [jT_no h]; decide), if_neg (fun z => h2 z.1), if_neg (fun z => by
    obtain ⟨z1, z2⟩ := z
    cases b with
    | false => cases z2
    | true => exact h3 rfl z1)]
/-- the end of a part in brackets -/
theorem close_good {L M : Nat} {b : Bool} {s : List Bool} {r : List Tk} (hb : bd M .after (b :: s) r) (hj : ∀ i, i < 3 → hd r ≠ jo i) (hc : b = true → hd r ≠ [44]) :
    (hd r ≠ [41] → run L .after (b :: s) r = some (flt L r)) ∧ (hd r = [41] → run L .after (b :: s) r = run L .after s r.tail ∧ bd M .after s r.tail ∧ Lt r.tail r) := by
  refine ⟨fun h => ?_, fun h => ?_⟩
  · cases r with
    | nil => rfl
    | cons t ts => exact run_no (step_end hj h hc)
  · cases r with
    | nil => cases h
    | cons t ts =>
      have e : step .after (b :: s) t.1 = some (.after, s) := by
        rw [show t.1 = [41] from h]
        exact step_cl
      exact ⟨run_step e, bd_step hb e, Lt.one⟩
theorem atom_good {L M : Nat} {self : Nat → List Tk → R} {s : List Bool} {ts : List Tk} (hn : hd ts ≠ wNot) (hb : bd M .operand s ts)
    (h0 : ∀ b ts, (b :: s).length ≤ M → bd M .operand (b :: s) ts → Good L M 0 (b :: s) ts (self 0 ts)) : Good L M 3 s ts (pAtom L self ts) := by
  have f3 : ∀ (r : List Tk) i, 3 ≤ i → i < 3 → hd r ≠ jo i := fun r i h1 h2 => by omega
  unfold pAtom
  cases ts with
  | nil => exact (rfl : run L .operand s [] = some L)
  | cons t ts =>
    by_cases c1 : bitT t.1 = true
    · rw [if_pos (show bitT (hd (t :: ts)) = true from c1)]
      exact ⟨run_step (step_op (.inl c1)), bd_step hb (step_op (.inl c1)), Lt.one, f3 _⟩
    rw [if_neg (show ¬ bitT (hd (t :: ts)) = true from c1)]
    by_cases c2 : ansT t.1 = true
    · rw [if_pos (show ansT (hd (t :: ts)) = true from c2)]
      exact ⟨run_step (step_op (.inr c2)), bd_step hb (step_op (.inr c2)), Lt.one, f3 _⟩
    rw [if_neg (show ¬ ansT (hd (t :: ts)) = true from c2)]
    by_cases c3 : t.1 = wAtl
    · rw [if_pos (show hd (t :: ts) = wAtl from c3)]
      have e1 : step .operand s t.1 = some (.opn, s) := by rw [c3]; exact step_atl
      have b1 := bd_step hb e1
      have r1 : run L .operand s (t :: ts) = run L .opn s ts := run_step e1
      unfold pCount
      by_cases d1 : hd ts ≠ [40]
      · rw [if_pos (show hd (t :: ts).tail ≠ [40] from d1)]
        show run L .operand s (t :: ts) = some (flt L ts)
        rw [r1]
        cases ts with
        | nil => rfl
        | cons u us => exact run_no (if_neg d1)
      rw [if_neg (show ¬ hd (t :: ts).tail ≠ [40] from d1)]
      have d1 : hd ts = [40] := Classical.not_not.mp d1
      cases ts with
      | nil => cases d1
      | cons u us =>
      have e2 : step .opn s u.1 = some (.digit, true :: s) := if_pos d1
      have b2 := bd_step b1 e2
      have r2 : run L .operand s (t :: u :: us) = run L .digit (true :: s) us := r1.trans (run_step e2)
      cases d2 : digT (hd us) with
      | false =>
        rw [if_pos (show digT (hd (t :: u :: us).tail.tail) = false from d2)]
        show run L .operand s (t :: u :: us) = some (flt L us)
        rw [r2]
        cases us with
        | nil => rfl
        | cons v vs => exact run_no (if_neg (by rw [show digT v.1 = false from d2]; decide))
      | true =>
      rw [if_neg (show ¬ digT (hd (t :: u :: us).tail.tail) = false by rw [show digT (hd (t :: u :: us).tail.tail) = true from d2]; decide)]
      cases us with
      | nil => cases d2
      | cons v vs =>
      have e3 : step .digit (true :: s) v.1 = some (.comma, true :: s) := if_pos d2
      have b3 := bd_step b2 e3
      have r3 : run L .operand s (t :: u :: v :: vs) = run L .comma (true :: s) vs := r2.trans (run_step e3)
      by_cases d3 : hd vs ≠ [44]
      · rw [if_pos (show hd (t :: u :: v :: vs).tail.tail.tail ≠ [44] from d3)]
        show run L .operand s (t :: u :: v :: vs) = some (flt L vs)
        rw [r3]
        cases vs with
        | nil => rfl
        | cons w ws => exact run_no (if_neg d3)
      rw [if_neg (show ¬ hd (t :: u :: v :: vs).tail.tail.tail ≠ [44] from d3)]
      have d3 : hd vs = [44] := Classical.not_not.mp d3
      cases vs with
      | nil => cases d3
      | cons w ws =>
      have e4 : step .comma (true :: s) w.1 = some (.operand, true :: s) := if_pos d3
      have b4 := bd_step b3 e4
      have r4 : run L .operand s (t :: u :: v :: w :: ws) = run L .operand (true :: s) ws := r3.trans (run_step e4)
      have g := h0 true ws (bd_len b2) b4
      have e9 : ∃ q, self 0 (t :: u :: v :: w :: ws).tail.tail.tail.tail = q ∧ self 0 ws = q := ⟨_, rfl, rfl⟩
      obtain ⟨q9, e8, e⟩ := e9
      rw [e8]
      cases q9 with
      | none => rw [e] at g; exact g.elim
      | some q =>
        rw [e] at g
        cases q with
        | error a =>
          show run L .operand s (t :: u :: v :: w :: ws) = some a
          rw [r4]
          exact g
        | ok y =>
          obtain ⟨x, r⟩ := y
          obtain ⟨g1, g2, g3, g4⟩ := g
          obtain ⟨k1, k2⟩ := loop_good (L := L) (M := M) (lv := 0) (self := self) (w := [44]) (s := true :: s) (by decide) step_com (fun t => ∀ i, i < 3 → t ≠ jo i) (fun ts h => h0 true ts (bd_len b2) h) (fun r h i hi => h i (Nat.zero_le _) hi) r.length [x] r (Nat.le_refl _) g2 (fun i hi => g4 i (Nat.zero_le _) hi)
          dsimp only
          cases e5 : pLoop self [44] 0 r.length [x] r with
          | none => rw [e5] at k1; exact k1.elim
          | some q2 =>
            rw [e5] at k1
            cases q2 with
            | error a =>
              show run L .operand s (t :: u :: v :: w :: ws) = some a
              rw [r4, g1]
              exact k1
            | ok y2 =>
              obtain ⟨xs, r'⟩ := y2
              obtain ⟨j1, j2, j3, j4⟩ := k1
              obtain ⟨z1, z2⟩ := close_good (L := L) j2 (k2 xs r' e5) (fun _ => j4)
              dsimp only
              by_cases d5 : hd r' ≠ [41]
              · rw [if_pos d5]
                show run L .operand s (t :: u :: v :: w :: ws) = some (flt L r')
                rw [r4, g1, j1]
                exact z1 d5
              · rw [if_neg d5]
                obtain ⟨y1, y2, y3⟩ := z2 (Classical.not_not.mp d5)
                exact ⟨by rw [r4, g1, j1, y1], y2, (Lt.of (y3.2.trans j3) g3).cons.cons.cons.cons, f3 _⟩
    rw [if_neg (show ¬ hd (t :: ts) = wAtl from c3)]
    by_cases c4 : t.1 ≠ [40]
    · rw [if_pos (show hd (t :: ts) ≠ [40] from c4)]
      exact run_no (step_bad (by simpa using c1) (by simpa using c2) c4 hn c3)
    rw [if_neg (show ¬ hd (t :: ts) ≠ [40] from c4)]
    have c4 : t.1 = [40] := Classical.not_not.mp c4
    have e1 : step .operand s t.1 = some (.operand, false :: s) := by rw [c4]; exact step_grp
    have b1 := bd_step hb e1
    have r1 : run L .operand s (t :: ts) = run L .operand (false :: s) ts := run_step e1
    have g := h0 false ts (bd_len b1) b1
    have e9 : ∃ q, self 0 (t :: ts).tail = q ∧ self 0 ts = q := ⟨_, rfl, rfl⟩
    obtain ⟨q9, e8, e⟩ := e9
    rw [e8]
    cases q9 with
    | none => rw [e] at g; exact g.elim
    | some q =>
      rw [e] at g
      cases q with
      | error a =>
        show run L .operand s (t :: ts) = some a
        rw [r1]
        exact g
      | ok y =>
        obtain ⟨x, r⟩ := y
        obtain ⟨g1, g2, g3, g4⟩ := g
        obtain ⟨z1, z2⟩ := close_good (L := L) g2 (fun i hi => g4 i (Nat.zero_le _) hi) (fun z => by cases z)
        dsimp only
        by_cases d5 : hd r ≠ [41]
        · rw [if_pos d5]
          show run L .operand s (t :: ts) = some (flt L r)
          rw [r1, g1]
          exact z1 d5
        · rw [if_neg d5]
          obtain ⟨y1, y2, y3⟩ := z2 (Classical.not_not.mp d5)
          exact ⟨by rw [r1, g1, y1], y2, (Lt.of y3.2 g3).cons, f3 _⟩
theorem nots_good {L M : Nat} {s : List Bool} : ∀ {ts : List Tk}, bd M .operand s ts → run L .operand s ts = run L .operand s (nots ts).2 ∧ bd M .operand s (nots ts).2 ∧ (nots ts).2 <:+ ts ∧ hd (nots ts).2 ≠ wNot
  | [], hb => ⟨rfl, hb, List.suffix_refl _, by decide⟩
  | t :: ts, hb => by
    unfold nots
    by_cases h : t.1 = wNot
    · rw [if_pos h]
      have e : step .operand s t.1 = some (.operand, s) := by rw [h]; exact step_not
      obtain ⟨h1, h2, h3, h4⟩ := nots_good (L := L) (bd_step hb e)
      exact ⟨(run_step e).trans h1, h2, h3.trans (List.suffix_cons _ _), h4⟩
    · rw [if_neg h]
      exact ⟨rfl, hb, List.suffix_refl _, h⟩
theorem turn_good {L M : Nat} {self : Nat → List Tk → R} {s : List Bool} {ts : List Tk} (hb : bd M .operand s ts)
    (h0 : ∀ b ts, (b :: s).length ≤ M → bd M .operand (b :: s) ts → Good L M 0 (b :: s) ts (self 0 ts)) : Good L M 3 s ts (pTurn L self ts) := by
  obtain ⟨h1, h2, h3, h4⟩ := nots_good (L := L) hb
  have g := atom_good h4 h2 h0
  unfold pTurn
  cases e : pAtom L self (nots ts).2 with
  | none => rw [e] at g; exact g
  | some q =>
    rw [e] at g
    cases q with
    | error a => exact h1.trans g
    | ok y =>
      obtain ⟨x, r⟩ := y
      obtain ⟨g1, g2, g3, g4⟩ := g
      exact ⟨h1.trans g1, g2, g3.le h3, g4⟩
theorem pJ_good {L M : Nat} : ∀ (n lv : Nat) (s : List Bool) (ts : List Tk), lv ≤ 3 → bd M .operand s ts → 4 * (M - s.length) + 4 ≤ n + lv → Good L M lv s ts (pJ L n lv ts)
  | 0, lv, s, ts, hl, hb, hf => by omega
  | n + 1, lv, s, ts, hl, hb, hf => by
    have hm := bd_len hb
    unfold pJ
    by_cases h : lv = 3
    · rw [if_pos h]
      subst h
      exact turn_good hb fun b ts hs hb' => pJ_good n 0 (b :: s) ts (by decide) hb' (by rw [List.length_cons] at hs ⊢; omega)
    · rw [if_neg h]
      have g := pJ_good (L := L) (M := M) n (lv + 1) s ts (by omega) hb (by omega)
      cases e : pJ L n (lv + 1) ts with
      | none => rw [e] at g; exact g.elim
      | some q =>
        rw [e] at g
        cases q with
        | error a => exact g
        | ok y =>
          obtain ⟨x, r⟩ := y
          obtain ⟨g1, g2, g3, g4⟩ := g
          obtain ⟨k1, k2⟩ := loop_good (L := L) (M := M) (lv := lv + 1) (self := pJ L n) (w := jo lv) (s := s) (by rcases (show lv = 0 ∨ lv = 1 ∨ lv = 2 by omega) with rfl | rfl | rfl <;> decide) (step_jo (by omega)) (fun t => ∀ i, lv + 1 ≤ i → i < 3 → t ≠ jo i) (fun ts hb' => pJ_good n (lv + 1) s ts (by omega) hb' (by omega)) (fun r h => h) r.length [x] r (Nat.le_refl _) g2 g4
          dsimp only
          cases e5 : pLoop (pJ L n) (jo lv) (lv + 1) r.length [x] r with
          | none => rw [e5] at k1; exact k1.elim
          | some q2 =>
            rw [e5] at k1
            cases q2 with
            | error a => exact g1.trans k1
            | ok y2 =>
              obtain ⟨xs, r'⟩ := y2
              obtain ⟨j1, j2, j3, j4⟩ := k1
              refine ⟨g1.trans j1, j2, Lt.of j3 g3, fun i h1 h2 => ?_⟩
              by_cases hi : i = lv
              · rw [hi]; exact j4
              · exact k2 xs r' e5 i (by omega) h2
/-- reading a whole text -/
def pTop (L n : Nat) (ts : List Tk) : Option (Except Nat D) := match pJ L n 0 ts with
  | none => none
  | some (.error a) => some (.error a)
  | some (.ok (x, r)) => if hd r ≠ [] then some (.error (flt L r)) else some (.ok x)
theorem pTop_good {L M n : Nat} {ts : List Tk} (hne : ∀ t ∈ ts, t.1 ≠ []) (hb : bd M .operand [] ts) (hf : 4 * M + 4 ≤ n) : match pTop L n ts with
    | none => False
    | some (.error a) => run L .operand [] ts = some a
    | some (.ok _) => run L .operand [] ts = none := by
  have g := pJ_good (L := L) (M := M) n 0 [] ts (by decide) hb (by simpa using hf)
  unfold pTop
  cases e : pJ L n 0 ts with
  | none => rw [e] at g; exact g.elim
  | some q =>
    rw [e] at g
    cases q with
    | error a => exact g
    | ok y =>
      obtain ⟨x, r⟩ := y
      obtain ⟨g1, g2, g3, g4⟩ := g
      dsimp only
      by_cases h : hd r ≠ []
      · rw [if_pos h]
        show run L .operand [] ts = some (flt L r)
        rw [g1]
        cases r with
        | nil => exact (h rfl).elim
        | cons t r =>
          refine run_no ?_
          show (if jT t.1 then _ else if t.1 = [41] ∧ ([] : List Bool) ≠ [] then _ else if t.1 = [44] ∧ ([] : List Bool).head? = some true then _ else _) = _
          rw [if_neg (by rw [jT_no (t := t.1) fun i hi => g4 i (Nat.zero_le _) hi]; decide), if_neg (fun z => z.2 rfl), if_neg (fun z => by cases z.2)]
      · rw [if_neg h]
        show run L .operand [] ts = none
        rw [g1]
        cases r with
        | nil => rfl
        | cons t r => exact (hne t (g3.2.subset List.mem_cons_self) (Classical.not_not.mp h)).elim
end FM
open PySem PySem.Spec PyProof.Rows L2 DL Q
local macro_rules | `(tactic| walk_at "ev") => `(tactic| first
  | with_reducible refine v_listZ ?_
  | ((with_reducible refine' o_lz ?h1 ?h2 ?h3 ?h4 ?h5 ?h6); (case h1 => rfl); (case h2 => rfl); (case h3 => rfl); (case h4 => with_reducible assumption); (case h5 => (first | omega | (simp only [List.length_map]; omega)))))
local macro_rules | `(tactic| walk_at "ev") => `(tactic| first
  | with_reducible refine v_slA ?_ | ((with_reducible refine' o_slA ?h1 ?h3 ?h4); (case h1 => rfl); (case h3 => walk_at "f")))
local macro_rules | `(tactic| walk_at "ev") => `(tactic| first
  | with_reducible refine v_star ?_ | with_reducible refine v_rev ?_ | with_reducible refine v_get2 ?_
  | ((with_reducible refine' o_starL ?g0 ?g1); (case g0 => rfl)) | ((with_reducible refine' o_starT ?g0 ?g1); (case g0 => rfl))
  | ((with_reducible refine' o_rev ?g0 ?g1); (case g0 => rfl))
  | ((with_reducible refine' v_lcO ?g0 ?g1 ?g2 ?g3); (case g0 => rfl); (case g1 => rfl); (case g2 => walk_at "setc"))
  | ((with_reducible refine' o_k ?g0 ?g1 ?g2); (case g0 => exact takes_app rfl); (case g1 => refine fits_le ?_; walk_at "zy")))
local macro_rules | `(tactic| walk_at "ev") => `(tactic| first
  | with_reducible refine v_get1 ?_ | with_reducible refine v_dc ?_ | with_reducible refine v_callKD ?_
  | ((with_reducible refine' o_g1 ?g0 ?g1); (case g0 => rfl))
  | ((with_reducible refine' o_gb ?g0 ?g1 ?g2 ?g3 ?g4 ?g5); (case g0 => rfl); (case g1 => rfl); (case g2 => rfl); (case g3 => with_reducible assumption); (case g4 => with_reducible assumption)))
local macro_rules | `(tactic| walk_at "ev") => `(tactic| first
  | ((with_reducible refine' o_it ?h1 ?h3 ?h4); (case h1 => rfl); (case h3 => with_reducible assumption)))
local macro_rules | `(tactic| walk_at "ev") => `(tactic| first
  | ((with_reducible refine' v_pop0 ?g0 ?g1 ?g2 ?g3); (case g0 => rfl); (case g1 => with_reducible assumption); (case g2 => walk_at "setc"))
  | with_reducible refine v_itm ?_
  | ((with_reducible refine' o_itm ?g0 ?g1 ?g2 ?g3); (case g0 => rfl); (case g1 => with_reducible assumption); (case g2 => with_reducible assumption)))
local macro_rules | `(tactic| walk_at "ev") => `(tactic| first
  | with_reducible refine v_itT ?_ | with_reducible refine v_dputT ?_ | with_reducible refine v_listIt ?_
  | ((with_reducible refine' o_itT ?h1 ?h2 ?h3 ?h4); (case h1 => rfl); (case h2 => with_reducible assumption); (case h3 => with_reducible assumption))
  | ((with_reducible refine' o_dputT ?h1 ?h2 ?h3 ?h4 ?h5 ?h6 ?h7 ?h8 ?h9); (case h1 => rfl); (case h2 => rfl); (case h3 => rfl); (case h4 => rfl); (case h5 => with_reducible assumption); (case h6 => with_reducible assumption); (case h7 => with_reducible assumption); (case h8 => walk_at "setc"))
  | ((with_reducible refine' o_listIt ?h1 ?h2 ?h3 ?h4); (case h1 => rfl); (case h2 => with_reducible assumption); (case h3 => with_reducible assumption)))
local macro_rules | `(tactic| walk_at "ev") => `(tactic| first
  | ((with_reducible refine' v_aug ?h1 ?h2); (case h1 => rfl))
  | ((with_reducible refine' o_aug ?h1 ?h2 ?h3 ?h4); (case h1 => rfl); (case h2 => (simp only [List.length_cons, List.length_nil]; omega)); (case h3 => (simp only [List.set_cons_zero, List.set_cons_succ]; rfl))))
local macro_rules | `(tactic| walk_at "ev") => `(tactic| first
  | ((with_reducible refine' v_incF ?h1 ?h2 ?h3 ?hb ?hp ?h4 ?h5); (case h1 => rfl); (case h2 => rfl); (case h3 => rfl); (case hb => with_reducible first | assumption | rfl); (case hp => first | with_reducible assumption | rfl); (case h4 => walk_at "setc"))
  | ((with_reducible refine' c_okI ?he ?hb ?h); (case he => with_reducible assumption); (case hb => exact back1 (by walk_at "setc")))
  | ((with_reducible refine' c_exI ?he ?hb ?h); (case he => with_reducible assumption); (case hb => exact back1 (by walk_at "setc"))))
local macro_rules | `(tactic| walk_at "f") => `(tactic| with_reducible assumption)
local macro_rules | `(tactic| walk_at "ev") => `(tactic| first
  | with_reducible refine v_sh rfl ?_ | with_reducible refine v_cons ?_ | with_reducible refine v_nil ?_ | with_reducible refine v_op2 ?_
  | ((with_reducible refine' o_2 ?h1 ?h2 ?h3 ?h4); (case h1 => rfl); (case h2 => rfl); (case h3 => with_reducible assumption))
  | with_reducible refine v_c ?_ | with_reducible refine v_seq ?_ | with_reducible refine v_asg ?_
  | ((with_reducible refine' o_a ?h1 ?h3 ?h4); (case h1 => exact lt_ble rfl); (case h3 => walk_at "set"))
  | with_reducible refine v_call ?_
  | ((with_reducible refine' o_c ?h1 ?h2 ?h3 ?h4); (case h1 => rfl); (case h2 => exact nd_b rfl); (case h3 => rfl))
  | ((with_reducible refine' c_okR ?hj ?hc ?hn); (case hj => rfl); (case hc => with_reducible assumption))
  | with_reducible refine v_sif ?_ | with_reducible refine v_tst ?_ | ((with_reducible refine' o_t ?h1 ?h4); (case h1 => rfl))
  | with_reducible refine v_cb ?_ | ((with_reducible refine' o_l ?h1 ?h3 ?h4); (case h1 => rfl); (case h3 => with_reducible assumption))
  | with_reducible refine v_next ?_ | with_reducible refine v_tru ?_ | with_reducible refine v_ret ?_)
namespace K22
open FM
def tkD (t : Tk) : D := .tup [.str (tx t.1), .int (t.2 : Nat)]
def rdD (T : List Tk) (L p : Nat) : D := .ins "Reader" [("tokens", .lst (T.map tkD)), ("length", .int (L : Nat)), ("place", .int (p : Nat))]
theorem put_place (x y z b : D) : putFD "place" b [("tokens", x), ("length", y), ("place", z)] = ([("tokens", x), ("length", y), ("place", b)] : List (Str × D)) := rfl
structure Rd (T : List Tk) (L : Nat) : Prop where
  len : T.length ≤ 50000
  top : L ≤ 100000
  idx : ∀ t ∈ T, t.2 ≤ 100000
  tok : ∀ t ∈ T, t.1.length ≤ 100000
theorem ltN (a b : Nat) : ltF (.int (a : Nat)) (.int (b : Nat)) = vb (decide (a < b)) := by
  show vb (decide ((a : Int) < (b : Int))) = _
  congr 1
  exact decide_eq_decide.mpr Int.ofNat_lt
theorem item_tk {T : List Tk} {p : Nat} (h : p < T.length) : itemF (.lst (T.map tkD)) (.int (p : Nat)) = some (.d (tkD T[p])) := by
  show (atI (T.map tkD) ((p : Nat) : Int)).map Val.d = _
  rw [atI_nat (v := tkD T[p]) (by rw [List.getElem?_map, List.getElem?_eq_getElem h]; rfl)]
  rfl
theorem here_ok {T : List Tk} {L p : Nat} (h : Rd T L) : F_Reader_here [rdD T L p] = .ok (.d (.str (tx (hd (T.drop p))))) [rdD T L p] := by
  have h1 := len_lst (xs := T.map tkD) (by rw [List.length_map]; have := h.len; omega)
  rw [List.length_map] at h1
  have h2 := ltN p T.length
  refine eq_of_sat ?_
  unfold F_Reader_here rdD
  by_cases hp : p < T.length
  · have h3 := item_tk hp
    have h4 : itemF (tkD T[p]) (.int 0) = some (.d (.str (tx T[p].1))) := rfl
    rw [decide_eq_true hp] at h2
    rw [List.drop_eq_getElem_cons hp]
    generalize T.map tkD = ds at *
    walk_at "go"
    unfold g_Reader_here
    walk_at "run"
    exact ⟨_, rfl, rfl, rfl, rfl⟩
  · rw [decide_eq_false hp] at h2
    rw [List.drop_eq_nil_of_le (by omega)]
    generalize T.map tkD = ds at *
    walk_at "go"
    unfold g_Reader_here
    walk_at "run"
    exact ⟨_, rfl, rfl, rfl, rfl⟩
theorem fault_ok {T : List Tk} {L p : Nat} (h : Rd T L) : F_Reader_fault [rdD T L p] = .ok (.d (.int (flt L (T.drop p) : Nat))) [rdD T L p] := by
  have h1 := len_lst (xs := T.map tkD) (by rw [List.length_map]; have := h.len; omega)
  rw [List.length_map] at h1
  have h2 := ltN p T.length
  refine eq_of_sat ?_
  unfold F_Reader_fault rdD
  by_cases hp : p < T.length
  · have h3 := item_tk hp
    have h4 : itemF (tkD T[p]) (.int 1) = some (.d (.int (T[p].2 : Nat))) := rfl
    rw [decide_eq_true hp] at h2
    rw [List.drop_eq_getElem_cons hp]
    generalize T.map tkD = ds at *
    walk_at "go"
    unfold g_Reader_fault
    walk_at "run"
    exact ⟨_, rfl, rfl, rfl, rfl⟩
  · rw [decide_eq_false hp] at h2
    rw [List.drop_eq_nil_of_le (by omega)]
    generalize T.map tkD = ds at *
    walk_at "go"
    unfold g_Reader_fault
    walk_at "run"
    exact ⟨_, rfl, rfl, rfl, rfl⟩
theorem flt_le {T : List Tk} {L p : Nat} (h : Rd T L) : flt L (T.drop p) ≤ 100000 := by
  cases e : T.drop p with
  | nil => exact h.top
  | cons t r => exact h.idx t (List.mem_of_mem_drop (by rw [e]; exact List.mem_cons_self))
theorem mk_fault {k : Nat} (h : k ≤ 100000) : mk_BadFormula [.int (k : Nat)] = some [(("at" : Str), D.int (k : Nat))] :=
  mk1_of (d := D.int (k : Nat)) (n := 18) (k := 0) (shl_int (k := 17) (by decide) (by decide) (by show k < 131072; omega)) (by decide) (by decide)
theorem need_ok {T : List Tk} {L p : Nat} (w : List Nat) (h : Rd T L) : F_Reader_need [rdD T L p, .str (tx w)] = if hd (T.drop p) = w then .ok (.d .non) [rdD T L (p + 1)] else .ex ⟨"BadFormula", [("at", .int (flt L (T.drop p) : Nat))]⟩ [rdD T L p] := by
  have h1 := here_ok (p := p) h
  have h2 := fault_ok (p := p) h
  have h3 := ne_tx (hd (T.drop p)) w
  have h4 := mk_fault (flt_le (p := p) h)
  have hb : ((p : Nat) : Int) + 1 = ((p + 1 : Nat) : Int) := by omega
  by_cases hw : hd (T.drop p) = w
  · rw [if_pos hw]
    rw [show (hd (T.drop p) != w) = false by rw [hw]; simp] at h3
    refine eq_of_sat ?_
    unfold F_Reader_need
    unfold rdD at *
    generalize T.map tkD = ds at *
    walk_at "go"
    unfold g_Reader_need
    walk_at "run"
    first | exact ⟨_, rfl, rfl⟩ | exact ⟨_, rfl, rfl, rfl⟩
  · rw [if_neg hw]
    rw [show (hd (T.drop p) != w) = true from bne_iff_ne.mpr hw] at h3
    refine eq_of_satE ?_
    unfold F_Reader_need
    unfold rdD at *
    generalize T.map tkD = ds at *
    walk_at "go"
    unfold g_Reader_need
    walk_at "run"
    exact ⟨_, rfl, rfl, rfl⟩
/-! ### the ring -/
def toF (T : List Tk) (L : Nat) : R → FR → Prop
  | none, _ => True
  | some (.error a), f => ∃ p, f = .ex ⟨"BadFormula", [("at", .int (a : Nat))]⟩ [rdD T L p]
  | some (.ok (x, r)), f => f = .ok (.d x) [rdD T L (T.length - r.length)]
/-- self does what the parser's self does -/
def SelfOk (T : List Tk) (L : Nat) (self : FnD) (ps : Nat → List Tk → R) : Prop := ∀ lv p, lv ≤ 3 → p ≤ T.length → toF T L (ps lv (T.drop p)) (self [rdD T L p, .int (lv : Nat)])
theorem drop_of {r T : List Tk} (h : r <:+ T) : T.drop (T.length - r.length) = r := (List.suffix_iff_eq_drop.mp h).symm
theorem tail_drop {T : List Tk} {p : Nat} : (T.drop p).tail = T.drop (p + 1) := List.tail_drop
end K22
open PySem PySem.Spec PyProof.Rows L2 DL Q
namespace K22
open FM
theorem cs6 (t : List Nat) (h : bitT t = true) : ∃ k : Nat, k < 6 ∧ t = [120, 48 + k] := by
  unfold bitT at h
  simp only [Bool.or_eq_true, beq_iff_eq] at h
  rcases h with ((((rfl | rfl) | rfl) | rfl) | rfl) | rfl
  · exact ⟨0, by decide, rfl⟩
  · exact ⟨1, by decide, rfl⟩
  · exact ⟨2, by decide, rfl⟩
  · exact ⟨3, by decide, rfl⟩
  · exact ⟨4, by decide, rfl⟩
  · exact ⟨5, by decide, rfl⟩
theorem sin_bits (t : List Nat) : sIn ["x0", "x1", "x2", "x3", "x4", "x5"] (.str (tx t)) = vb (bitT t) := by
  show vb ((tx [120, 48] == tx t) || ((tx [120, 49] == tx t) || ((tx [120, 50] == tx t) || ((tx [120, 51] == tx t) || ((tx [120, 52] == tx t) || ((tx [120, 53] == tx t) || false)))))) = _
  simp only [tx_beq]
  unfold bitT
  simp only [Bool.or_false, Bool.or_assoc, BEq.comm (b := t)]
theorem six_bits {t : List Nat} (h : bitT t = true) : sIx ["x0", "x1", "x2", "x3", "x4", "x5"] (.str (tx t)) = vi (t.getD 1 48 - 48 : Nat) := by
  obtain ⟨k, hk, rfl⟩ := cs6 t h
  rcases (show k = 0 ∨ k = 1 ∨ k = 2 ∨ k = 3 ∨ k = 4 ∨ k = 5 by omega) with rfl | rfl | rfl | rfl | rfl | rfl <;> kernel_rfl
theorem in_ans (t : List Nat) : inF (.str (tx t)) (.tup [.str (Str.ofString "0"), .str (Str.ofString "1")]) = vb (ansT t) := by
  show vb ((tx [48] == tx t) || ((tx [49] == tx t) || false)) = _
  simp only [tx_beq]
  unfold ansT
  simp only [Bool.or_false, BEq.comm (b := t)]
theorem int_ans {t : List Nat} (h : ansT t = true) : int2F [.str (tx t)] = vi (dg t : Nat) := by
  unfold ansT at h
  simp only [Bool.or_eq_true, beq_iff_eq] at h
  rcases h with rfl | rfl <;> kernel_rfl
theorem sel_ok {T : List Tk} {L p : Nat} {self : FnD} {ps : Nat → List Tk → R} (h : SelfOk T L self ps) (lv : Nat) (hl : lv ≤ 3) (hp : p ≤ T.length) (i : Int) (hi : i = (lv : Nat)) :
    ps lv (T.drop p) = none ∨ (∃ a q, ps lv (T.drop p) = some (.error a) ∧ self [rdD T L p, .int i] = .ex ⟨"BadFormula", [("at", .int (a : Nat))]⟩ [rdD T L q]) ∨ ∃ x r, ps lv (T.drop p) = some (.ok (x, r)) ∧ self [rdD T L p, .int i] = .ok (.d x) [rdD T L (T.length - r.length)] := by
  subst hi
  have := h lv p hl hp
  cases e : ps lv (T.drop p) with
  | none => exact .inl rfl
  | some q =>
    rw [e] at this
    cases q with
    | error a =>
      obtain ⟨q, hq⟩ := this
      exact .inr (.inl ⟨a, q, rfl, hq⟩)
    | ok y => exact .inr (.inr ⟨y.1, y.2, rfl, this⟩)
theorem eq_w (t w : List Nat) (s : Str) (h : tx w = s := by rfl) : eqF (.str (tx t)) (.str s) = vb (t == w) := by
  subst h
  exact eq_tx t w
theorem need_s {T : List Tk} {L p : Nat} (w : List Nat) (s : Str) (h : Rd T L) (e : tx w = s := by rfl) : F_Reader_need [rdD T L p, .str s] = if hd (T.drop p) = w then .ok (.d .non) [rdD T L (p + 1)] else .ex ⟨"BadFormula", [("at", .int (flt L (T.drop p) : Nat))]⟩ [rdD T L p] := by
  subst e
  exact need_ok w h
theorem rd_inc (p : Nat) : ((p : Nat) : Int) + 1 = ((p + 1 : Nat) : Int) := by omega
theorem hd_lt {T : List Tk} {p : Nat} (h : hd (T.drop p) ≠ []) : p < T.length := by
  rcases Nat.lt_or_ge p T.length with z | z
  · exact z
  · rw [List.drop_eq_nil_of_le z] at h
    exact (h rfl).elim
theorem pos_tail {T : List Tk} {p : Nat} (h : p < T.length) : T.length - (T.drop p).tail.length = p + 1 := by
  rw [List.length_tail, List.length_drop]
  omega
/-- a value, by what the parser tells -/
theorem toF_end {T : List Tk} {L p q : Nat} {x : D} {f : FR} (h : p = q) (e : f = .ok (.d x) [rdD T L q]) : f = .ok (.d x) [rdD T L p] := by rw [h]; exact e
set_option maxHeartbeats 8000000 in
theorem atom_ok {T : List Tk} {L p : Nat} {self : FnD} {ps : Nat → List Tk → R} (h : Rd T L) (hs : SelfOk T L self ps) (hsuf : ∀ lv ts x r, ps lv ts = some (.ok (x, r)) → r <:+ ts) (hp : p ≤ T.length)
    (hc : hd (T.drop p) = wAtl → toF T L (pCount L ps (T.drop p)) (F_Reader_counted self [rdD T L p])) : toF T L (pAtom L ps (T.drop p)) (F_Reader_atom self [rdD T L p]) := by
  have h1 := here_ok (p := p) h
  have h2 := sin_bits (hd (T.drop p))
  have h3 := in_ans (hd (T.drop p))
  have hb := rd_inc p
  unfold pAtom
  by_cases c1 : bitT (hd (T.drop p)) = true
  · rw [if_pos c1]
    rw [c1] at h2
    have h6 := six_bits c1
    have hl : p < T.length := hd_lt fun z => by rw [z] at c1; cases c1
    refine toF_end (pos_tail hl) ?_
    clear hs hsuf hc
    refine eq_of_sat ?_
    unfold F_Reader_atom
    unfold rdD at *
    generalize T.map tkD = ds at *
    walk_at "go"
    unfold g_Reader_atom
    walk_at "run"
    exact ⟨_, rfl, rfl, rfl, rfl⟩
  rw [if_neg c1]
  have c1 : bitT (hd (T.drop p)) = false := by simpa using c1
  rw [c1] at h2
  by_cases c2 : ansT (hd (T.drop p)) = true
  · rw [if_pos c2]
    rw [c2] at h3
    have h6 := int_ans c2
    have hl : p < T.length := hd_lt fun z => by rw [z] at c2; cases c2
    refine toF_end (pos_tail hl) ?_
    clear hs hsuf hc
    refine eq_of_sat ?_
    unfold F_Reader_atom
    unfold rdD at *
    generalize T.map tkD = ds at *
    walk_at "go"
    unfold g_Reader_atom
    walk_at "run"
    exact ⟨_, rfl, rfl, rfl, rfl⟩
  rw [if_neg c2]
  have c2 : ansT (hd (T.drop p)) = false := by simpa using c2
  rw [c2] at h3
  have h4 := eq_w (hd (T.drop p)) wAtl (Str.ofString "atleast")
  by_cases c3 : hd (T.drop p) = wAtl
  · rw [if_pos c3]
    rw [show (hd (T.drop p) == wAtl) = true by rw [c3]; rfl] at h4
    have hc := hc c3
    clear hs hsuf
    cases e : pCount L ps (T.drop p) with
    | none => exact trivial
    | some q =>
      rw [e] at hc
      cases q with
      | error a =>
        obtain ⟨q, hc⟩ := hc
        refine ⟨q, ?_⟩
        refine eq_of_satE ?_
        unfold F_Reader_atom
        unfold rdD at *
        generalize T.map tkD = ds at *
        walk_at "go"
        unfold g_Reader_atom
        walk_at "run"
        exact ⟨_, rfl, rfl, rfl⟩
      | ok y =>
        obtain ⟨x, r⟩ := y
        have hc : F_Reader_counted self [rdD T L p] = .ok (.d x) [rdD T L (T.length - r.length)] := hc
        show F_Reader_atom self [rdD T L p] = .ok (.d x) [rdD T L (T.length - r.length)]
        refine eq_of_sat ?_
        unfold F_Reader_atom
        unfold rdD at *
        generalize T.map tkD = ds at *
        walk_at "go"
        unfold g_Reader_atom
        walk_at "run"
        exact ⟨_, rfl, rfl, rfl, rfl⟩
  rw [if_neg c3]
  rw [show (hd (T.drop p) == wAtl) = false from beq_eq_false_iff_ne.mpr c3] at h4
  have h5 := need_s (p := p) [40] (Str.ofString "(") h
  by_cases c4 : hd (T.drop p) ≠ [40]
  · rw [if_pos c4]
    rw [if_neg c4] at h5
    refine ⟨p, ?_⟩
    clear hs hsuf hc
    refine eq_of_satE ?_
    unfold F_Reader_atom
    unfold rdD at *
    generalize T.map tkD = ds at *
    walk_at "go"
    unfold g_Reader_atom
    walk_at "run"
    exact ⟨_, rfl, rfl, rfl⟩
  rw [if_neg c4]
  have c4 : hd (T.drop p) = [40] := Classical.not_not.mp c4
  rw [if_pos c4] at h5
  have hl : p < T.length := hd_lt fun z => by rw [z] at c4; cases c4
  rw [tail_drop]
  have h6 := sel_ok hs 0 (by decide) (p := p + 1) hl 0 rfl
  rcases h6 with h6 | ⟨a, q, h6, h7⟩ | ⟨x, r, h6, h7⟩
  · rw [h6]
    exact trivial
  · rw [h6]
    refine ⟨q, ?_⟩
    clear hs hsuf hc
    refine eq_of_satE ?_
    unfold F_Reader_atom
    unfold rdD at *
    generalize T.map tkD = ds at *
    walk_at "go"
    unfold g_Reader_atom
    walk_at "run"
    exact ⟨_, rfl, rfl, rfl⟩
  · rw [h6]
    have hr := (hsuf _ _ _ _ h6).trans (List.drop_suffix (p + 1) T)
    have hd1 := drop_of hr
    have h8 := need_s (p := T.length - r.length) [41] (Str.ofString ")") h
    rw [hd1] at h8
    dsimp only
    have hq : r.length ≤ T.length := hr.length_le
    clear hs hsuf hc hr
    by_cases c5 : hd r ≠ [41]
    · rw [if_pos c5]
      rw [if_neg c5] at h8
      refine ⟨T.length - r.length, ?_⟩
      refine eq_of_satE ?_
      unfold F_Reader_atom
      unfold rdD at *
      generalize T.map tkD = ds at *
      walk_at "go"
      unfold g_Reader_atom
      walk_at "run"
      exact ⟨_, rfl, rfl, rfl⟩
    · rw [if_neg c5]
      rw [if_pos (Classical.not_not.mp c5)] at h8
      have hr0 : 0 < r.length := by
        cases r with
        | nil => exact (c5 (by decide)).elim
        | cons _ _ => exact Nat.succ_pos _
      refine toF_end (q := T.length - r.length + 1) (by rw [List.length_tail]; omega) ?_
      refine eq_of_sat ?_
      unfold F_Reader_atom
      unfold rdD at *
      generalize T.map tkD = ds at *
      walk_at "go"
      unfold g_Reader_atom
      walk_at "run"
      exact ⟨_, rfl, rfl, rfl, rfl⟩
end K22
open PySem PySem.Spec PyProof.Rows L2 DL Q
namespace K22
open FM
theorem eqNN (i j : Nat) : eqF (.int (i : Nat)) (.int (j : Nat)) = vb (i == j) := by
  show vb (((i : Nat) : Int) == ((j : Nat) : Int)) = _
  congr 1
  rw [Bool.eq_iff_iff, beq_iff_eq, beq_iff_eq]
  omega
theorem sit_jo {lv : Nat} (h : lv < 3) : sIt ["or", "xor", "and"] (.int (lv : Nat)) = vs (tx (jo lv)) := by
  rcases (show lv = 0 ∨ lv = 1 ∨ lv = 2 by omega) with rfl | rfl | rfl <;> kernel_rfl
theorem jo_ne (lv : Nat) : jo lv ≠ [] := by
  unfold jo
  split <;> decide
theorem pLoop_step {ps : Nat → List Tk → R} {w : List Nat} {lv k : Nat} {acc : List D} {ts : List Tk} (hw : w ≠ []) (hk : ts.length ≤ k) : pLoop ps w lv k acc ts = if hd ts = w then (match ps lv ts.tail with
    | none => none
    | some (.error a) => some (.error a)
    | some (.ok (x, r)) => pLoop ps w lv (k - 1) (acc ++ [x]) r) else some (.ok (acc, ts)) := by
  cases k with
  | zero =>
    have : ts = [] := List.length_eq_zero_iff.mp (by omega)
    subst this
    rw [if_neg (fun z => hw z.symm)]
    rfl
  | succ k => rfl
/-- a round of a loop: what is read next -/
theorem loop_cases {T : List Tk} {L p lv k : Nat} {self : FnD} {ps : Nat → List Tk → R} {w : List Nat} {acc : List D} {q0 : Except Nat (List D × List Tk)} (hs : SelfOk T L self ps) (hsuf : ∀ lv ts x r, ps lv ts = some (.ok (x, r)) → r <:+ ts) (hl : lv ≤ 3) (hw : w ≠ []) (hp : p ≤ T.length) (hk : (T.drop p).length ≤ k)
    (he : pLoop ps w lv k acc (T.drop p) = some q0) (i : Int) (hi : i = (lv : Nat)) :
    (hd (T.drop p) ≠ w ∧ q0 = .ok (acc, T.drop p)) ∨ (hd (T.drop p) = w ∧ p < T.length ∧ ((∃ a q, q0 = .error a ∧ self [rdD T L (p + 1), .int i] = .ex ⟨"BadFormula", [("at", .int (a : Nat))]⟩ [rdD T L q]) ∨
      ∃ x r, self [rdD T L (p + 1), .int i] = .ok (.d x) [rdD T L (T.length - r.length)] ∧ r <:+ T.drop (p + 1) ∧ pLoop ps w lv (k - 1) (acc ++ [x]) (T.drop (T.length - r.length)) = some q0 ∧ (T.drop (T.length - r.length)).length ≤ k - 1)) := by
  rw [pLoop_step hw hk] at he
  by_cases h : hd (T.drop p) = w
  · rw [if_pos h] at he
    have hlt : p < T.length := hd_lt fun z => hw (h.symm.trans z)
    refine .inr ⟨h, hlt, ?_⟩
    rw [tail_drop] at he
    rcases sel_ok hs lv hl (p := p + 1) hlt i hi with e | ⟨a, q, e, e2⟩ | ⟨x, r, e, e2⟩
    · rw [e] at he
      cases he
    · rw [e] at he
      cases he
      exact .inl ⟨a, q, rfl, e2⟩
    · rw [e] at he
      have hr := hsuf _ _ _ _ e
      have hrT := hr.trans (List.drop_suffix (p + 1) T)
      have h1 := hr.length_le
      rw [List.length_drop] at h1 hk
      refine .inr ⟨x, r, e2, hr, ?_, ?_⟩
      · rw [drop_of hrT]
        exact he
      · rw [drop_of hrT]
        omega
  · rw [if_neg h] at he
    cases he
    exact .inl ⟨h, rfl⟩
theorem ex_of_sat {T : List Tk} {L : Nat} {f : FR} {z : Ex} (h : f.sat (fun _ _ => False) (fun e ios => e = z ∧ ∃ q, ios = [rdD T L q])) : ∃ q, f = .ex z [rdD T L q] := by
  cases f with
  | ok a ios => exact h.elim
  | ex e ios =>
    obtain ⟨rfl, q, rfl⟩ := h
    exact ⟨q, rfl⟩
  | no => exact h.elim
set_option maxHeartbeats 8000000 in
theorem joined_ok {T : List Tk} {L n p lv : Nat} (h : Rd T L) (hs : SelfOk T L (F_Reader_joined n) (pJ L n)) (hsuf : ∀ lv ts x r, pJ L n lv ts = some (.ok (x, r)) → r <:+ ts) (hp : p ≤ T.length) (hl : lv < 3) : toF T L (pJ L (n + 1) lv (T.drop p)) (F_Reader_joined (n + 1) [rdD T L p, .int (lv : Nat)]) := by
  have hj := sit_jo hl
  have h3 := eqNN lv 3
  rw [beq_eq_false_iff_ne.mpr (show lv ≠ 3 by omega)] at h3
  have hlen := h.len
  unfold pJ
  rw [if_neg (show lv ≠ 3 by omega)]
  show toF T L _ (callD [true, false] 3 (g_Reader_joined (F_Reader_joined n)) _)
  rcases sel_ok hs (lv + 1) (by omega) hp ((lv : Int) + 1) (by omega) with e | ⟨a, q, e, e2⟩ | ⟨x, r, e, e2⟩
  · rw [e]
    exact trivial
  · rw [e]
    refine ⟨q, ?_⟩
    generalize F_Reader_joined n = self at *
    generalize pJ L n = ps at *
    refine eq_of_satE ?_
    clear hs hsuf
    unfold rdD at *
    generalize T.map tkD = ds at *
    walk_at "go"
    unfold g_Reader_joined
    walk_at "run"
    exact ⟨_, rfl, rfl, rfl⟩
  rw [e]
  have hr := (hsuf _ _ _ _ e).trans (List.drop_suffix p T)
  have hd1 := drop_of hr
  dsimp only
  rw [show pLoop (pJ L n) (jo lv) (lv + 1) r.length [x] r = pLoop (pJ L n) (jo lv) (lv + 1) r.length [x] (T.drop (T.length - r.length)) by rw [hd1]]
  cases hq : pLoop (pJ L n) (jo lv) (lv + 1) r.length [x] (T.drop (T.length - r.length)) with
  | none => exact trivial
  | some q0 =>
  generalize F_Reader_joined n = self at *
  generalize pJ L n = ps at *
  have hrl : r.length ≤ T.length := hr.length_le
  have hkk : (T.drop (T.length - r.length)).length ≤ r.length := by rw [hd1]; exact Nat.le_refl _
  generalize hp1 : T.length - r.length = p1 at *
  have hlc := fun p k acc hp hk he => loop_cases (L := L) (p := p) (k := k) (acc := acc) (q0 := q0) hs hsuf (lv := lv + 1) (by omega) (jo_ne lv) hp hk he ((lv : Int) + 1) (by omega)
  have hhere := fun p => here_ok (p := p) h
  clear hs hsuf
  have heq := fun p => eq_tx (hd (T.drop p)) (jo lv)
  have hinc := rd_inc
  have hx0 : ([x] : List D).length ≤ p1 + 1 := by rw [List.length_singleton]; omega
  have hp1' : p1 ≤ T.length := by omega
  cases q0 with
  | error a =>
    refine ex_of_sat ?_
    unfold rdD at *
    generalize T.map tkD = ds at *
    walk_at "go"
    unfold g_Reader_joined
    walk_at "run0"
    with_reducible refine' v_while (fun m st => ∃ acc p k, m = T.length - p ∧ p ≤ T.length ∧ (T.drop p).length ≤ k ∧ acc.length ≤ p + 1 ∧ pLoop ps (jo lv) (lv + 1) k acc (T.drop p) = some (.error a) ∧ st = [.io (.ins "Reader" [("tokens", .lst ds), ("length", .int (L : Nat)), ("place", .int (p : Nat))]), .sh (.int (lv : Nat)), .ow (.lst acc)]) (T.length - p1) ?w0 ?w1 ?w2
    · exact ⟨[x], p1, r.length, rfl, hp1', hkk, hx0, hq, rfl⟩
    · omega
    · rintro m st ⟨acc, p, k, rfl, hp, hk, ha, he, rfl⟩
      have hh := hhere p
      have heq := heq p
      have hinc := hinc p
      have hput := put_place (.lst ds) (.int (L : Nat)) (.int (p : Nat)) (.int ((p + 1 : Nat) : Int))
      rcases hlc p k acc hp hk he with ⟨g1, g2⟩ | ⟨g1, g2, ⟨b, q, g3, g4⟩ | ⟨y, r2, g3, g4, g5, g6⟩⟩
      · cases g2
      · rw [show (hd (T.drop p) == jo lv) = true from beq_iff_eq.mpr g1] at heq
        cases g3
        walk_at "run0"
        exact ⟨_, rfl, rfl, _, rfl⟩
      · rw [show (hd (T.drop p) == jo lv) = true from beq_iff_eq.mpr g1] at heq
        have hr2 := g4.length_le
        rw [List.length_drop] at hr2
        have hz : (acc ++ [y]).length ≤ (T.length - r2.length) + 1 := by rw [List.length_append, List.length_singleton]; omega
        have hzz : acc.length < sizeLine := by rw [sizeLine_eq]; omega
        walk_at "run0"
        exact ⟨_, by omega, acc ++ [y], _, _, rfl, by omega, g6, hz, g5, rfl⟩
  | ok y =>
    obtain ⟨xs, r'⟩ := y
    show _ = FR.ok (.d (jn (jo lv) xs)) [rdD T L (T.length - r'.length)]
    refine eq_of_sat ?_
    unfold rdD at *
    generalize T.map tkD = ds at *
    walk_at "go"
    unfold g_Reader_joined
    walk_at "run0"
    with_reducible refine' v_while (fun m st => ∃ acc p k, m = T.length - p ∧ p ≤ T.length ∧ (T.drop p).length ≤ k ∧ acc.length ≤ p + 1 ∧ pLoop ps (jo lv) (lv + 1) k acc (T.drop p) = some (.ok (xs, r')) ∧ st = [.io (.ins "Reader" [("tokens", .lst ds), ("length", .int (L : Nat)), ("place", .int (p : Nat))]), .sh (.int (lv : Nat)), .ow (.lst acc)]) (T.length - p1) ?v0 ?v1 ?v2
    · exact ⟨[x], p1, r.length, rfl, hp1', hkk, hx0, hq, rfl⟩
    · omega
    · rintro m st ⟨acc, p, k, rfl, hp, hk, ha, he, rfl⟩
      have hh := hhere p
      have heq := heq p
      have hinc := hinc p
      have hput := put_place (.lst ds) (.int (L : Nat)) (.int (p : Nat)) (.int ((p + 1 : Nat) : Int))
      rcases hlc p k acc hp hk he with ⟨g1, g2⟩ | ⟨g1, g2, ⟨b, q, g3, g4⟩ | ⟨y, r2, g3, g4, g5, g6⟩⟩
      · rw [show (hd (T.drop p) == jo lv) = false from beq_eq_false_iff_ne.mpr g1] at heq
        have g3 : acc = xs := by cases g2; rfl
        have g4 : T.drop p = r' := by cases g2; rfl
        subst g3
        subst g4
        have hl1 := len_lst (xs := acc) (by omega)
        have hl2 := eqNN acc.length 1
        rw [show T.length - (T.drop p).length = p by rw [List.length_drop]; omega]
        rcases acc with _ | ⟨y, _ | ⟨y2, ys⟩⟩
        · walk_at "run0"
          exact ⟨_, rfl, rfl, rfl, rfl⟩
        · have hi : itemF (.lst [y]) (.int 0) = some (.d y) := rfl
          walk_at "run0"
          exact ⟨_, rfl, rfl, rfl, rfl⟩
        · walk_at "run0"
          exact ⟨_, rfl, rfl, rfl, rfl⟩
      · cases g3
      · rw [show (hd (T.drop p) == jo lv) = true from beq_iff_eq.mpr g1] at heq
        have hr2 := g4.length_le
        rw [List.length_drop] at hr2
        have hz : (acc ++ [y]).length ≤ (T.length - r2.length) + 1 := by rw [List.length_append, List.length_singleton]; omega
        have hzz : acc.length < sizeLine := by rw [sizeLine_eq]; omega
        walk_at "run0"
        exact ⟨_, by omega, acc ++ [y], _, _, rfl, by omega, g6, hz, g5, rfl⟩
end K22
open PySem PySem.Spec PyProof.Rows L2 DL Q
/-! FM2: what is left behind a reading is an end of what was read. -/
namespace FM
open DL Q
def SufS (ps : Nat → List Tk → R) : Prop := ∀ lv ts x r, ps lv ts = some (.ok (x, r)) → r <:+ ts
theorem tail_suf {r ts : List Tk} (h : r <:+ ts.tail) : r <:+ ts := h.trans (List.tail_suffix ts)
theorem pLoop_suf {ps : Nat → List Tk → R} (hs : SufS ps) {w : List Nat} {lv : Nat} : ∀ (k : Nat) (acc : List D) (ts : List Tk) (xs : List D) (r : List Tk), pLoop ps w lv k acc ts = some (.ok (xs, r)) → r <:+ ts
  | 0, acc, ts, xs, r, e => by
    cases e
    exact List.suffix_refl _
  | k + 1, acc, ts, xs, r, e => by
    unfold pLoop at e
    split at e
    · cases e2 : ps lv ts.tail with
      | none => rw [e2] at e; cases e
      | some q =>
        rw [e2] at e
        cases q with
        | error a => cases e
        | ok y =>
          obtain ⟨x, r2⟩ := y
          exact (pLoop_suf hs k (acc ++ [x]) r2 xs r e).trans (tail_suf (hs _ _ _ _ e2))
    · cases e
      exact List.suffix_refl _
theorem pCount_suf {L : Nat} {ps : Nat → List Tk → R} (hs : SufS ps) {ts : List Tk} {x : D} {r : List Tk} (e : pCount L ps ts = some (.ok (x, r))) : r <:+ ts := by
  unfold pCount at e
  split at e
  · cases e
  split at e
  · cases e
  split at e
  · cases e
  cases e2 : ps 0 ts.tail.tail.tail.tail with
  | none => rw [e2] at e; cases e
  | some q =>
    rw [e2] at e
    cases q with
    | error a => cases e
    | ok y =>
      obtain ⟨x1, r1⟩ := y
      dsimp only at e
      cases e3 : pLoop ps [44] 0 r1.length [x1] r1 with
      | none => rw [e3] at e; cases e
      | some q2 =>
        rw [e3] at e
        cases q2 with
        | error a => cases e
        | ok y2 =>
          obtain ⟨xs, r2⟩ := y2
          dsimp only at e
          split at e
          · cases e
          · cases e
            exact (List.tail_suffix r2).trans ((pLoop_suf hs _ _ _ _ _ e3).trans (tail_suf (tail_suf (tail_suf (tail_suf (hs _ _ _ _ e2))))))
theorem pAtom_suf {L : Nat} {ps : Nat → List Tk → R} (hs : SufS ps) {ts : List Tk} {x : D} {r : List Tk} (e : pAtom L ps ts = some (.ok (x, r))) : r <:+ ts := by
  unfold pAtom at e
  split at e
  · cases e; exact List.tail_suffix ts
  split at e
  · cases e; exact List.tail_suffix ts
  split at e
  · exact pCount_suf hs e
  split at e
  · cases e
  cases e2 : ps 0 ts.tail with
  | none => rw [e2] at e; cases e
  | some q =>
    rw [e2] at e
    cases q with
    | error a => cases e
    | ok y =>
      obtain ⟨x1, r1⟩ := y
      dsimp only at e
      split at e
      · cases e
      · cases e
        exact (List.tail_suffix r1).trans (tail_suf (hs _ _ _ _ e2))
theorem nots_suf : ∀ (ts : List Tk), (nots ts).2 <:+ ts
  | [] => List.suffix_refl _
  | t :: ts => by
    unfold nots
    split
    · exact (nots_suf ts).trans (List.suffix_cons _ _)
    · exact List.suffix_refl _
theorem pTurn_suf {L : Nat} {ps : Nat → List Tk → R} (hs : SufS ps) {ts : List Tk} {x : D} {r : List Tk} (e : pTurn L ps ts = some (.ok (x, r))) : r <:+ ts := by
  unfold pTurn at e
  cases e2 : pAtom L ps (nots ts).2 with
  | none => rw [e2] at e; cases e
  | some q =>
    rw [e2] at e
    cases q with
    | error a => cases e
    | ok y =>
      obtain ⟨x1, r1⟩ := y
      cases e
      exact (pAtom_suf hs e2).trans (nots_suf ts)
theorem pJ_suf {L : Nat} : ∀ n, SufS (pJ L n)
  | 0 => fun lv ts x r e => by cases e
  | n + 1 => fun lv ts x r e => by
    unfold pJ at e
    split at e
    · exact pTurn_suf (pJ_suf n) e
    · cases e2 : pJ L n (lv + 1) ts with
      | none => rw [e2] at e; cases e
      | some q =>
        rw [e2] at e
        cases q with
        | error a => cases e
        | ok y =>
          obtain ⟨x1, r1⟩ := y
          dsimp only at e
          cases e3 : pLoop (pJ L n) (jo lv) (lv + 1) r1.length [x1] r1 with
          | none => rw [e3] at e; cases e
          | some q2 =>
            rw [e3] at e
            cases q2 with
            | error a => cases e
            | ok y2 =>
              obtain ⟨xs, r2⟩ := y2
              cases e
              exact (pLoop_suf (pJ_suf n) _ _ _ _ _ e3).trans (pJ_suf n _ _ _ _ e2)
end FM
open PySem PySem.Spec PyProof.Rows L2 DL Q
/-! FM3: the tokens of a text plainly; how deep the brackets go. -/
namespace FM
open DL Q
def isL (c : Nat) : Bool := (Nat.ble 97 c && Nat.ble c 122) || (Nat.ble 65 c && Nat.ble c 90) || (Nat.ble 48 c && Nat.ble c 57)
def clW : Option Tk → List Tk
  | none => []
  | some t => [t]
def exW (i c : Nat) : Option Tk → Tk
  | none => ([c], i)
  | some (v, j) => (v ++ [c], j)
def ctA : Nat → Option Tk → List Nat → List Tk
  | _, w, [] => clW w
  | i, w, c :: l => if isL c then ctA (i + 1) (some (exW i c w)) l else if c = 32 then clW w ++ ctA (i + 1) none l else clW w ++ ([c], i) :: ctA (i + 1) none l
def ctk (s : List Nat) : List Tk := ctA 0 none s
theorem ctA_let {i : Nat} {w : Option Tk} {c : Nat} {l : List Nat} (h : isL c = true) : ctA i w (c :: l) = ctA (i + 1) (some (exW i c w)) l := by
  show (if isL c = true then _ else _) = _
  rw [if_pos h]
theorem ctA_sp {i : Nat} {w : Option Tk} {l : List Nat} : ctA i w (32 :: l) = clW w ++ ctA (i + 1) none l := rfl
theorem ctA_ot {i : Nat} {w : Option Tk} {c : Nat} {l : List Nat} (h : isL c = false) (h2 : c ≠ 32) : ctA i w (c :: l) = clW w ++ ([c], i) :: ctA (i + 1) none l := by
  show (if isL c = true then _ else if c = 32 then _ else _) = _
  rw [if_neg (by rw [h]; decide), if_neg h2]
theorem ctA_word : ∀ (l : List Nat) (i j : Nat) (v : List Nat), ctA i (some (v, j)) l = (v ++ l.takeWhile isL, j) :: ctA (i + (l.takeWhile isL).length) none (l.drop (l.takeWhile isL).length)
  | [], i, j, v => by
    show [(v, j)] = (v ++ [], j) :: []
    rw [List.append_nil]
  | c :: l, i, j, v => by
    by_cases h : isL c = true
    · rw [ctA_let h, List.takeWhile_cons_of_pos h]
      show ctA (i + 1) (some (v ++ [c], j)) l = _
      rw [ctA_word l (i + 1) j (v ++ [c]), List.append_assoc, List.length_cons, List.drop_succ_cons, show i + 1 + (l.takeWhile isL).length = i + ((l.takeWhile isL).length + 1) by omega]
      rfl
    · rw [List.takeWhile_cons_of_neg h]
      have h : isL c = false := by simpa using h
      show _ = (v ++ [], j) :: ctA i none (c :: l)
      rw [List.append_nil]
      by_cases h2 : c = 32
      · subst h2
        rfl
      · rw [ctA_ot h h2, ctA_ot h h2]
        rfl
/-! ### bounds -/
def WOk (i : Nat) : Option Tk → Prop
  | none => True
  | some (v, j) => v ≠ [] ∧ j ≤ i ∧ v.length ≤ i ∧ ∀ c ∈ v, isL c = true
theorem WOk.ext {i c : Nat} {w : Option Tk} (h : WOk i w) (hc : isL c = true) : WOk (i + 1) (some (FM.exW i c w)) := by
  cases w with
  | none => exact ⟨by simp [FM.exW], by show i ≤ i + 1; omega, by show [c].length ≤ i + 1; rw [List.length_singleton]; omega, fun d hd => by
      rcases List.mem_singleton.mp hd with rfl
      exact hc⟩
  | some t =>
    obtain ⟨v, j⟩ := t
    obtain ⟨h1, h2, h3, h4⟩ := h
    refine ⟨by show v ++ [c] ≠ []; simp, by show j ≤ i + 1; omega, by show (v ++ [c]).length ≤ i + 1; rw [List.length_append, List.length_singleton]; omega, fun d hd => ?_⟩
    rcases List.mem_append.mp (show d ∈ v ++ [c] from hd) with hd | hd
    · exact h4 d hd
    · rcases List.mem_singleton.mp hd with rfl
      exact hc
theorem WOk.cl {i n : Nat} {w : Option Tk} (h : WOk i w) (hn : i ≤ n) : ∀ t ∈ FM.clW w, t.1 ≠ [] ∧ t.2 ≤ n ∧ t.1.length ≤ n := by
  intro t ht
  cases w with
  | none => cases ht
  | some u =>
    rcases List.mem_singleton.mp ht with rfl
    obtain ⟨v, j⟩ := t
    obtain ⟨h1, h2, h3, h4⟩ := h
    exact ⟨h1, by show j ≤ n; omega, by show v.length ≤ n; omega⟩
theorem ctA_mem : ∀ (l : List Nat) (i : Nat) (w : Option Tk), WOk i w → ∀ t ∈ ctA i w l, t.1 ≠ [] ∧ t.2 ≤ i + l.length ∧ t.1.length ≤ i + l.length
  | [], i, w, h, t, ht => h.cl (Nat.le_refl _) t ht
  | c :: l, i, w, h, t, ht => by
    by_cases hc : isL c = true
    · rw [ctA_let hc] at ht
      have := ctA_mem l (i + 1) _ (h.ext hc) t ht
      rw [List.length_cons]
      exact ⟨this.1, by omega, by omega⟩
    · have hc : isL c = false := by simpa using hc
      by_cases h2 : c = 32
      · subst h2
        rw [ctA_sp] at ht
        rcases List.mem_append.mp ht with ht | ht
        · exact h.cl (by omega) t ht
        · have := ctA_mem l (i + 1) none trivial t ht
          rw [List.length_cons]
          exact ⟨this.1, by omega, by omega⟩
      · rw [ctA_ot hc h2] at ht
        rcases List.mem_append.mp ht with ht | ht
        · exact h.cl (by omega) t ht
        · rcases List.mem_cons.mp ht with rfl | ht
          · exact ⟨by simp, by show i ≤ _; omega, by show [c].length ≤ i + (c :: l).length; rw [List.length_cons, List.length_cons, List.length_nil]; omega⟩
          · have := ctA_mem l (i + 1) none trivial t ht
            rw [List.length_cons]
            exact ⟨this.1, by omega, by omega⟩
theorem ctA_len : ∀ (l : List Nat) (i : Nat) (w : Option Tk), (ctA i w l).length ≤ l.length + (clW w).length
  | [], i, w => by show (clW w).length ≤ 0 + _; omega
  | c :: l, i, w => by
    by_cases hc : isL c = true
    · rw [ctA_let hc]
      have := ctA_len l (i + 1) (some (exW i c w))
      rw [show (clW (some (exW i c w))).length = 1 from rfl] at this
      rw [List.length_cons]
      omega
    · have hc : isL c = false := by simpa using hc
      have := ctA_len l (i + 1) none
      rw [show (clW none).length = 0 from rfl] at this
      by_cases h2 : c = 32
      · subst h2
        rw [ctA_sp, List.length_append, List.length_cons]
        omega
      · rw [ctA_ot hc h2, List.length_append, List.length_cons, List.length_cons]
        omega
theorem ctk_mem {s : List Nat} : ∀ t ∈ ctk s, t.1 ≠ [] ∧ t.2 ≤ s.length ∧ t.1.length ≤ s.length := fun t ht => by
  have := ctA_mem s 0 none trivial t ht
  rw [Nat.zero_add] at this
  exact this
theorem ctk_len {s : List Nat} : (ctk s).length ≤ s.length := ctA_len s 0 none
/-! ### brackets -/
def wC (c : Nat) : Int := if c = 40 then 1 else if c = 41 then -1 else 0
def wT (t : List Nat) : Int := if t = [40] then 1 else if t = [41] then -1 else 0
/-- a budget that no beginning outruns -/
def bgt : Int → List Int → Prop
  | d, [] => 0 ≤ d
  | d, x :: l => 0 ≤ d ∧ bgt (d - x) l
theorem bgt_nn {d : Int} : ∀ {l : List Int}, bgt d l → 0 ≤ d
  | [], h => h
  | _ :: _, h => h.1
theorem bgt_mono : ∀ {l : List Int} {d e : Int}, bgt d l → d ≤ e → bgt e l
  | [], d, e, h, k => by
    have : 0 ≤ d := h
    show 0 ≤ e
    omega
  | x :: l, d, e, h, k => ⟨by have := h.1; omega, bgt_mono h.2 (by omega)⟩
theorem bgt_app : ∀ {a b : List Int} {d : Int}, bgt d (a ++ b) ↔ bgt d a ∧ bgt (d - a.sum) b
  | [], b, d => ⟨fun h => ⟨bgt_nn h, by rw [List.sum_nil, Int.sub_zero]; exact h⟩, fun h => by have := h.2; rw [List.sum_nil, Int.sub_zero] at this; exact this⟩
  | x :: a, b, d => by
    rw [List.cons_append, List.sum_cons, show d - (x + a.sum) = d - x - a.sum by omega]
    exact ⟨fun h => ⟨⟨h.1, (bgt_app.mp h.2).1⟩, (bgt_app.mp h.2).2⟩, fun h => ⟨h.1.1, bgt_app.mpr ⟨h.1.2, h.2⟩⟩⟩
theorem let_w {c : Nat} (h : isL c = true) : wC c = 0 := by
  unfold wC
  rw [if_neg (by intro z; subst z; cases h), if_neg (by intro z; subst z; cases h)]
theorem WOk.w {i : Nat} {w : Option Tk} (h : WOk i w) : (FM.clW w).map (fun t => wT t.1) = (FM.clW w).map fun _ => 0 := by
  cases w with
  | none => rfl
  | some t =>
    obtain ⟨v, j⟩ := t
    obtain ⟨h1, h2, h3, h4⟩ := h
    show [wT v] = [0]
    unfold wT
    rw [if_neg (by intro z; subst z; exact absurd (h4 40 List.mem_cons_self) (by decide)), if_neg (by intro z; subst z; exact absurd (h4 41 List.mem_cons_self) (by decide))]
theorem bgt_clW {i : Nat} {w : Option Tk} (h : WOk i w) {d : Int} {l : List Int} (k : bgt d l) : bgt d ((FM.clW w).map (fun t => wT t.1) ++ l) := by
  rw [h.w]
  cases w with
  | none => exact k
  | some t => exact ⟨bgt_nn k, by rw [Int.sub_zero]; exact k⟩
theorem wT_one (c : Nat) : wT [c] = wC c := by
  unfold wT wC
  simp only [List.cons.injEq, and_true]
theorem bgt_ctA : ∀ (l : List Nat) (i : Nat) (w : Option Tk) (d : Int), WOk i w → bgt d (l.map wC) → bgt d ((ctA i w l).map fun t => wT t.1)
  | [], i, w, d, h, k => by
    have := bgt_clW h k
    rw [List.map_nil, List.append_nil] at this
    exact this
  | c :: l, i, w, d, h, k => by
    obtain ⟨k1, k2⟩ := (show 0 ≤ d ∧ bgt (d - wC c) (l.map wC) from k)
    by_cases hc : isL c = true
    · rw [ctA_let hc]
      rw [let_w hc, Int.sub_zero] at k2
      exact bgt_ctA l (i + 1) _ d (h.ext hc) k2
    · have hc : isL c = false := by simpa using hc
      by_cases h2 : c = 32
      · subst h2
        rw [ctA_sp, List.map_append]
        rw [show wC 32 = 0 from rfl, Int.sub_zero] at k2
        exact bgt_clW h (bgt_ctA l (i + 1) none d trivial k2)
      · rw [ctA_ot hc h2, List.map_append, List.map_cons]
        refine bgt_clW h ⟨k1, ?_⟩
        show bgt (d - wT [c]) _
        rw [wT_one]
        exact bgt_ctA l (i + 1) none _ trivial k2
theorem bgt_ctk {s : List Nat} {d : Int} (h : bgt d (s.map wC)) : bgt d ((ctk s).map fun t => wT t.1) := bgt_ctA s 0 none d trivial h
theorem bit_w {t : List Nat} (h : (bitT t || ansT t) = true) : wT t = 0 := by
  unfold wT
  rw [if_neg (by intro z; subst z; cases h), if_neg (by intro z; subst z; cases h)]
theorem dig_w {t : List Nat} (h : digT t = true) : wT t = 0 := by
  unfold wT
  rw [if_neg (by intro z; subst z; cases h), if_neg (by intro z; subst z; cases h)]
theorem jT_w {t : List Nat} (h : jT t = true) : wT t = 0 := by
  unfold wT
  rw [if_neg (by intro z; subst z; cases h), if_neg (by intro z; subst z; cases h)]
theorem step_w {w w' : W} {s s' : List Bool} {t : List Nat} (e : step w s t = some (w', s')) : (s'.length : Int) = s.length + wT t := by
  cases w with
  | operand =>
    simp only [step] at e
    split at e
    · rename_i h
      cases e
      rw [bit_w h]; omega
    split at e
    · rename_i h
      subst h
      cases e
      show (((false :: s).length : Nat) : Int) = (s.length : Int) + 1
      rw [List.length_cons]; omega
    split at e
    · rename_i h
      subst h
      cases e
      show (s.length : Int) = s.length + 0
      omega
    split at e
    · rename_i h
      subst h
      cases e
      show (s.length : Int) = s.length + 0
      omega
    · cases e
  | opn =>
    simp only [step] at e
    split at e
    · rename_i h
      subst h
      cases e
      show (((true :: s).length : Nat) : Int) = (s.length : Int) + 1
      rw [List.length_cons]; omega
    · cases e
  | digit =>
    simp only [step] at e
    split at e
    · rename_i h
      cases e
      rw [dig_w h]; omega
    · cases e
  | comma =>
    simp only [step] at e
    split at e
    · rename_i h
      subst h
      cases e
      show (s.length : Int) = s.length + 0
      omega
    · cases e
  | after =>
    simp only [step] at e
    split at e
    · rename_i h
      cases e
      rw [jT_w h]; omega
    split at e
    · rename_i h
      obtain ⟨rfl, h⟩ := h
      cases e
      show ((s.tail.length : Nat) : Int) = (s.length : Int) + -1
      have : 0 < s.length := List.length_pos_iff.mpr h
      rw [List.length_tail]; omega
    split at e
    · rename_i h
      obtain ⟨rfl, h⟩ := h
      cases e
      show (s.length : Int) = s.length + 0
      omega
    · cases e
theorem bd_bgt {M : Nat} : ∀ (ts : List Tk) (w : W) (s : List Bool), bgt ((M : Int) - s.length) (ts.map fun t => wT t.1) → bd M w s ts
  | [], w, s, h => by
    have : (0 : Int) ≤ (M : Int) - s.length := h
    show s.length ≤ M
    omega
  | t :: ts, w, s, h => by
    obtain ⟨h1, h2⟩ := (show (0 : Int) ≤ (M : Int) - s.length ∧ bgt ((M : Int) - s.length - wT t.1) (ts.map fun t => wT t.1) from h)
    refine ⟨by omega, ?_⟩
    cases e : step w s t.1 with
    | none => trivial
    | some q =>
      obtain ⟨w', s'⟩ := q
      have := step_w e
      exact bd_bgt ts w' s' (by rw [this, show (M : Int) - (s.length + wT t.1) = (M : Int) - s.length - wT t.1 by omega]; exact h2)
/-- what a change of at most so much does -/
theorem sum_le {k : Int} : ∀ {l : List Int}, (∀ x ∈ l, x ≤ k) → (0 : Int) ≤ k → l.sum ≤ k * l.length
  | [], _, _ => by simp
  | x :: l, h, hk => by
    have h1 := h x List.mem_cons_self
    have h2 := sum_le (fun y hy => h y (List.mem_cons_of_mem _ hy)) hk
    rw [List.sum_cons, List.length_cons, Int.natCast_add, Int.mul_add]
    have : k * ((1 : Nat) : Int) = k := by simp
    omega
def Wt (l : List Int) : Prop := ∀ x ∈ l, x ≤ 1 ∧ -1 ≤ x
theorem Wt.sum_le : ∀ {l : List Int}, Wt l → l.sum ≤ l.length ∧ -(l.length : Int) ≤ l.sum
  | [], _ => by simp
  | x :: l, h => by
    have h1 := h x List.mem_cons_self
    have h2 := Wt.sum_le (l := l) (fun y hy => h y (List.mem_cons_of_mem _ hy))
    rw [List.sum_cons, List.length_cons]
    omega
theorem bgt_len : ∀ {l : List Int} {d : Int}, Wt l → (l.length : Int) ≤ d → bgt d l
  | [], d, h, k => by
    show 0 ≤ d
    rw [List.length_nil] at k
    omega
  | x :: l, d, h, k => by
    rw [List.length_cons] at k
    have h1 := h x List.mem_cons_self
    exact ⟨by omega, bgt_len (fun y hy => h y (List.mem_cons_of_mem _ hy)) (by omega)⟩
theorem bgt_swap {a x y b : List Int} {d e : Int} (hx : Wt x) (hy : Wt y) (h : bgt d (a ++ y ++ b)) (he : d + x.length + y.length ≤ e) : bgt e (a ++ x ++ b) := by
  obtain ⟨h1, h2⟩ := bgt_app.mp h
  obtain ⟨h3, h4⟩ := bgt_app.mp h1
  have s1 := hx.sum_le
  have s2 := hy.sum_le
  have n4 := bgt_nn h4
  rw [List.sum_append] at h2
  refine bgt_app.mpr ⟨bgt_app.mpr ⟨bgt_mono h3 (by omega), bgt_len hx (by omega)⟩, ?_⟩
  rw [List.sum_append]
  exact bgt_mono h2 (by omega)
theorem wC_le (c : Nat) : wC c ≤ 1 ∧ -1 ≤ wC c := by
  unfold wC
  split
  · decide
  · split <;> decide
theorem wT_le (t : List Nat) : wT t ≤ 1 ∧ -1 ≤ wT t := by
  unfold wT
  split
  · decide
  · split <;> decide
theorem Wt_mapC (l : List Nat) : Wt (l.map wC) := fun x hx => by
  obtain ⟨c, _, rfl⟩ := List.mem_map.mp hx
  exact wC_le c
theorem Wt_mapT (l : List (List Nat)) : Wt (l.map wT) := fun x hx => by
  obtain ⟨c, _, rfl⟩ := List.mem_map.mp hx
  exact wT_le c
end FM
open PySem PySem.Spec PyProof.Rows L2 DL Q
/-! FM4: formulas as trees of data, how they are written, and how deep their brackets go. -/
namespace FM
open DL Q
def bitN (i : Nat) : D := .tup [.str (Str.ofString "bit"), .int (i : Nat)]
def ansN (b : Nat) : D := .tup [.str (Str.ofString "answer"), .int (b : Nat)]
def notN (x : D) : D := .tup [.str (Str.ofString "not"), .lst [x]]
def opN (w : Nat) (xs : List D) : D := .tup [.str (tx (jo w)), .lst xs]
def atlN (c : Nat) (xs : List D) : D := .tup [.str (Str.ofString "atleast"), .lst (.int (c : Nat) :: xs)]
def Leaf (m : Nat) (d : D) : Prop := (∃ i, i < m ∧ d = bitN i) ∨ (∃ b, b < 2 ∧ d = ansN b)
def Nd (m : Nat) : Nat → D → Prop
  | 0, d => Leaf m d
  | f + 1, d => Leaf m d ∨ (∃ x, Nd m f x ∧ d = notN x) ∨ (∃ w xs, w < 3 ∧ 2 ≤ xs.length ∧ xs.length ≤ 4 ∧ (∀ x ∈ xs, Nd m f x) ∧ d = opN w xs) ∨ (∃ c xs, c < 10 ∧ 1 ≤ xs.length ∧ xs.length ≤ 7 ∧ (∀ x ∈ xs, Nd m f x) ∧ d = atlN c xs)
abbrev Tt := List (List Nat)
/-- a bare text, or one in brackets -/
def Prt (B : D → Nat → Tt → Prop) (lv : Nat) (d : D) (ts : Tt) : Prop := ∃ l us, B d l us ∧ ((lv ≤ l ∧ ts = us) ∨ ts = [40] :: us ++ [[41]])
def LfT (d : D) (l : Nat) (ts : Tt) : Prop := l = 4 ∧ ((∃ i, i < 6 ∧ d = bitN i ∧ ts = [[120, 48 + i]]) ∨ (∃ b, b < 2 ∧ d = ansN b ∧ ts = [[48 + b]]))
def fl (w : List Nat) (uss : List Tt) : Tt := (uss.map fun u => w :: u).flatten
theorem fl_nil (w : List Nat) : fl w [] = [] := rfl
theorem fl_cons (w : List Nat) (u : Tt) (uss : List Tt) : fl w (u :: uss) = w :: (u ++ fl w uss) := rfl
theorem fl_snoc (w : List Nat) (u : Tt) (uss : List Tt) : fl w (uss ++ [u]) = fl w uss ++ w :: u := by
  unfold fl
  rw [List.map_append, List.flatten_append]
  show _ ++ ((w :: u) ++ []) = _
  rw [List.append_nil]
/-- the tokens of a tree, with its level -/
def Bare : Nat → D → Nat → Tt → Prop
  | 0, d, l, ts => LfT d l ts
  | f + 1, d, l, ts => LfT d l ts ∨ (∃ x us, d = notN x ∧ l = 3 ∧ Prt (Bare f) 3 x us ∧ ts = wNot :: us)
    ∨ (∃ w x u, ∃ ps : List (D × Tt), w < 3 ∧ l = w ∧ 1 ≤ ps.length ∧ ps.length ≤ 3 ∧ Prt (Bare f) (w + 1) x u ∧ (∀ p ∈ ps, Prt (Bare f) (w + 1) p.1 p.2) ∧ d = opN w (x :: ps.map (fun p : D × Tt => p.1)) ∧ ts = u ++ fl (jo w) (ps.map fun p => p.2))
    ∨ (∃ c, ∃ ps : List (D × Tt), c < 10 ∧ l = 4 ∧ 1 ≤ ps.length ∧ ps.length ≤ 7 ∧ (∀ p ∈ ps, Prt (Bare f) 0 p.1 p.2) ∧ d = atlN c (ps.map (fun p : D × Tt => p.1)) ∧ ts = wAtl :: [40] :: [48 + c] :: (fl [44] (ps.map fun p => p.2) ++ [[41]]))
/-! ### brackets and lengths of what is written -/
def TokOk (t : List Nat) : Prop := t.length ≤ 7 ∧ (t = [40] ∨ t = [41] ∨ ∀ c ∈ t, wC c = 0)
/-- balanced, no deeper than d, no more than n tokens -/
structure Bal (d : Int) (n : Nat) (ts : Tt) : Prop where
  sum : (ts.map wT).sum = 0
  bud : bgt d (ts.map wT)
  len : ts.length ≤ n
  ok : ∀ t ∈ ts, TokOk t
theorem Bal.mono {d e : Int} {n m : Nat} {ts : Tt} (h : Bal d n ts) (h1 : d ≤ e) (h2 : n ≤ m) : Bal e m ts := ⟨h.sum, bgt_mono h.bud h1, Nat.le_trans h.len h2, h.ok⟩
theorem Bal.app {d : Int} {n m : Nat} {a b : Tt} (h : Bal d n a) (k : Bal d m b) : Bal d (n + m) (a ++ b) := by
  refine ⟨by rw [List.map_append, List.sum_append, h.sum, k.sum]; rfl, ?_, by rw [List.length_append]; have := h.len; have := k.len; omega, fun t ht => ?_⟩
  · rw [List.map_append]
    refine bgt_app.mpr ⟨h.bud, ?_⟩
    rw [h.sum, Int.sub_zero]
    exact k.bud
  · rcases List.mem_append.mp ht with z | z
    · exact h.ok t z
    · exact k.ok t z
theorem Bal.nil {d : Int} (h : 0 ≤ d) : Bal d 0 [] := ⟨rfl, h, Nat.le_refl _, fun t ht => by cases ht⟩
theorem Bal.one {d : Int} {t : List Nat} (h : 0 ≤ d) (ht : t.length ≤ 7) (hc : ∀ c ∈ t, wC c = 0) (h0 : wT t = 0) : Bal d 1 [t] := by
  refine ⟨?_, ⟨h, ?_⟩, Nat.le_refl _, fun u hu => ?_⟩
  · show wT t + 0 = 0
    rw [h0]; rfl
  · show 0 ≤ d - wT t
    rw [h0]; omega
  · rcases List.mem_singleton.mp hu with rfl
    exact ⟨ht, .inr (.inr hc)⟩
theorem Bal.brk {d : Int} {n : Nat} {ts : Tt} (h : Bal d n ts) : Bal (d + 1) (n + 2) ([40] :: ts ++ [[41]]) := by
  refine ⟨?_, ?_, ?_, fun t ht => ?_⟩
  · rw [List.cons_append, List.map_cons, List.map_append, List.sum_cons, List.sum_append, h.sum]
    rfl
  · rw [List.cons_append, List.map_cons]
    refine ⟨by have := bgt_nn h.bud; omega, ?_⟩
    show bgt (d + 1 - 1) _
    rw [show d + 1 - 1 = d by omega, List.map_append]
    refine bgt_app.mpr ⟨h.bud, ?_⟩
    rw [h.sum, Int.sub_zero]
    have := bgt_nn h.bud
    exact ⟨this, by show 0 ≤ d - wT [41]; rw [show wT [41] = -1 from rfl]; omega⟩
  · rw [List.cons_append, List.length_cons, List.length_append, List.length_singleton]
    have := h.len
    omega
  · rcases List.mem_cons.mp ht with rfl | z
    · exact ⟨by decide, .inl rfl⟩
    · rcases List.mem_append.mp z with z | z
      · exact h.ok t z
      · rcases List.mem_singleton.mp z with rfl
        exact ⟨by decide, .inr (.inl rfl)⟩
theorem Bal.fl {d : Int} {n : Nat} {w : List Nat} (hd : 0 ≤ d) (hw : Bal d 1 [w]) : ∀ {uss : List Tt}, (∀ u ∈ uss, Bal d n u) → Bal d (uss.length * (n + 1)) (fl w uss)
  | [], _ => by
    rw [fl_nil, List.length_nil, Nat.zero_mul]
    exact .nil hd
  | u :: uss, h => by
    rw [fl_cons, List.length_cons]
    have := hw.app ((h u List.mem_cons_self).app (Bal.fl hd hw (uss := uss) fun v hv => h v (List.mem_cons_of_mem _ hv)))
    refine this.mono (Int.le_refl _) ?_
    rw [Nat.add_mul, Nat.one_mul]
    omega
def cnt : Nat → Nat
  | 0 => 1
  | f + 1 => 7 * (cnt f + 3) + 4
theorem dig_wC {c : Nat} (h : c < 10) : wC (48 + c) = 0 := by
  unfold wC
  rw [if_neg (by omega), if_neg (by omega)]
theorem lf_bal {d : D} {l : Nat} {ts : Tt} (h : LfT d l ts) : Bal 0 1 ts := by
  obtain ⟨rfl, ⟨i, hi, rfl, rfl⟩ | ⟨b, hb, rfl, rfl⟩⟩ := h
  · refine .one (Int.le_refl _) (by show 2 ≤ 7; decide) (fun c hc => ?_) ?_
    · rcases List.mem_cons.mp hc with rfl | hc
      · rfl
      · rcases List.mem_singleton.mp hc with rfl
        exact dig_wC (by omega)
    · unfold wT
      rw [if_neg (by simp), if_neg (by simp)]
  · refine .one (Int.le_refl _) (by show 1 ≤ 7; decide) (fun c hc => ?_) ?_
    · rcases List.mem_singleton.mp hc with rfl
      exact dig_wC (by omega)
    · rw [wT_one]
      exact dig_wC (by omega)
theorem prt_bal {f : Nat} {lv : Nat} {d : D} {ts : Tt} {e : Int} {n : Nat} (h : Prt (Bare f) lv d ts) (ih : ∀ d l us, Bare f d l us → Bal e n us) : Bal (e + 1) (n + 2) ts := by
  obtain ⟨l, us, hb, ⟨_, rfl⟩ | rfl⟩ := h
  · exact (ih _ _ _ hb).mono (by omega) (by omega)
  · exact (ih _ _ _ hb).brk
theorem jo_bal {w : Nat} (h : w < 3) : Bal 0 1 [jo w] := by
  rcases (show w = 0 ∨ w = 1 ∨ w = 2 by omega) with rfl | rfl | rfl <;> exact .one (Int.le_refl _) (by decide) (by decide) (by decide)
theorem bare_bal : ∀ (f : Nat) (d : D) (l : Nat) (ts : Tt), Bare f d l ts → Bal (2 * (f : Int)) (cnt f) ts
  | 0, d, l, ts, h => lf_bal h
  | f + 1, d, l, ts, h => by
    have ih := bare_bal f
    have hc : 1 ≤ cnt f := by
      cases f with
      | zero => exact Nat.le_refl _
      | succ f => show 1 ≤ 7 * (cnt f + 3) + 4; omega
    show Bal (2 * ((f + 1 : Nat) : Int)) (7 * (cnt f + 3) + 4) ts
    have e2 : 2 * ((f + 1 : Nat) : Int) = 2 * (f : Int) + 1 + 1 := by omega
    rw [e2]
    have hd : (0 : Int) ≤ 2 * (f : Int) + 1 := by omega
    rcases h with h | ⟨x, us, rfl, rfl, h, rfl⟩ | ⟨w, x, u, ps, hw, rfl, h1, h2, hx, hp, rfl, rfl⟩ | ⟨c, ps, hc2, rfl, h1, h2, hp, rfl, rfl⟩
    · exact (lf_bal h).mono (by omega) (by omega)
    · have := (Bal.one (t := wNot) hd (by decide) (by decide) (by decide)).app (prt_bal h ih)
      exact this.mono (by omega) (by omega)
    · have hf := Bal.fl (n := cnt f + 2) hd ((jo_bal hw).mono hd (Nat.le_refl _)) (uss := ps.map fun p => p.2) fun v hv => by
        obtain ⟨p, hp', rfl⟩ := List.mem_map.mp hv
        exact prt_bal (hp p hp') ih
      have := (prt_bal hx ih).app hf
      rw [List.length_map] at this
      refine this.mono (by omega) ?_
      have : ps.length * (cnt f + 2 + 1) ≤ 3 * (cnt f + 2 + 1) := Nat.mul_le_mul_right _ h2
      omega
    · have hf := Bal.fl (n := cnt f + 2) hd (Bal.one (t := [44]) hd (by decide) (by decide) (by decide)) (uss := ps.map fun p => p.2) fun v hv => by
        obtain ⟨p, hp', rfl⟩ := List.mem_map.mp hv
        exact prt_bal (hp p hp') ih
      rw [List.length_map] at hf
      have h3 := ((Bal.one (t := [48 + c]) hd (by show 1 ≤ 7; decide) (fun z hz => by
        rcases List.mem_singleton.mp hz with rfl
        exact dig_wC hc2) (by rw [wT_one]; exact dig_wC hc2)).app hf).brk
      have h4 := (Bal.one (t := wAtl) (d := 2 * (f : Int) + 1 + 1) (by omega) (by decide) (by decide) (by decide)).app h3
      have e : wAtl :: [40] :: [48 + c] :: (fl [44] (ps.map fun p => p.2) ++ [[41]]) = [wAtl] ++ ([40] :: ([[48 + c]] ++ fl [44] (ps.map fun p => p.2)) ++ [[41]]) := by simp
      rw [e]
      refine h4.mono (Int.le_refl _) ?_
      have : ps.length * (cnt f + 2 + 1) ≤ 7 * (cnt f + 2 + 1) := Nat.mul_le_mul_right _ h2
      omega
theorem cnt3 : ∀ f, f ≤ 3 → cnt f ≤ 2000 := by decide
/-! ### from tokens to texts -/
theorem wC_zero {t : List Nat} (h : ∀ c ∈ t, wC c = 0) : (t.map wC).sum = 0 ∧ ∀ d, 0 ≤ d → bgt d (t.map wC) := by
  induction t with
  | nil => exact ⟨rfl, fun d h => h⟩
  | cons c t ih =>
    obtain ⟨h1, h2⟩ := ih fun x hx => h x (List.mem_cons_of_mem _ hx)
    have hc := h c List.mem_cons_self
    refine ⟨by rw [List.map_cons, List.sum_cons, hc, h1]; rfl, fun d hd => ⟨hd, ?_⟩⟩
    show bgt (d - wC c) _
    rw [hc, Int.sub_zero]
    exact h2 d hd
theorem tok_sum {t : List Nat} (h : TokOk t) : (t.map wC).sum = wT t := by
  rcases h.2 with rfl | rfl | h
  · rfl
  · rfl
  · rw [(wC_zero h).1]
    unfold wT
    rw [if_neg (by intro z; subst z; have := h 40 List.mem_cons_self; revert this; decide), if_neg (by intro z; subst z; have := h 41 List.mem_cons_self; revert this; decide)]
theorem tok_bud {t : List Nat} {d : Int} (h : TokOk t) (h0 : 0 ≤ d) (h1 : 0 ≤ d - wT t) : bgt d (t.map wC) := by
  rcases h.2 with rfl | rfl | h
  · exact ⟨h0, h1⟩
  · exact ⟨h0, h1⟩
  · exact (wC_zero h).2 d h0
/-- a list of tokens as it may stand after changes -/
structure Tks (d : Int) (n : Nat) (ts : Tt) : Prop where
  bud : bgt d (ts.map wT)
  len : ts.length ≤ n
  ok : ∀ t ∈ ts, TokOk t
theorem Bal.tks {d : Int} {n : Nat} {ts : Tt} (h : Bal d n ts) : Tks d n ts := ⟨h.bud, h.len, h.ok⟩
/-- a text as it may stand after changes -/
structure Txt (d : Int) (n : Nat) (s : List Nat) : Prop where
  bud : bgt d (s.map wC)
  len : s.length ≤ n
theorem Txt.mono {d e : Int} {n m : Nat} {s : List Nat} (h : Txt d n s) (h1 : d ≤ e) (h2 : n ≤ m) : Txt e m s := ⟨bgt_mono h.bud h1, Nat.le_trans h.len h2⟩
theorem Txt.take {d : Int} {n : Nat} {s : List Nat} (h : Txt d n s) (k : Nat) : Txt d n (s.take k) := by
  refine ⟨?_, by rw [List.length_take]; have := h.len; omega⟩
  have := h.bud
  rw [← List.take_append_drop k s, List.map_append] at this
  exact (bgt_app.mp this).1
/-- one sign at most in the place of one at most -/
theorem Txt.put {d : Int} {n : Nat} {s u : List Nat} (h : Txt d n s) (hu : u.length ≤ 1) {i j : Nat} (hj : j ≤ 1) : Txt (d + 2) (n + 1) (s.take i ++ u ++ s.drop (i + j)) := by
  have e : s = s.take i ++ (s.drop i).take j ++ s.drop (i + j) := by
    rw [← List.drop_drop, List.append_assoc, List.take_append_drop, List.take_append_drop]
  refine ⟨?_, ?_⟩
  · have hb := h.bud
    rw [e, List.map_append, List.map_append] at hb
    rw [List.map_append, List.map_append]
    refine bgt_swap (Wt_mapC u) (Wt_mapC _) hb ?_
    rw [List.length_map, List.length_map]
    rw [List.length_take]
    omega
  · rw [List.length_append, List.length_append, List.length_take, List.length_drop]
    have := h.len
    omega
theorem bgt_sw {a x y b : List Int} {d e : Int} (h : bgt d (a ++ y ++ b)) (hde : d ≤ e) (hx : ∀ c, 0 ≤ c → bgt (c + (e - d)) x) (hs : x.sum - y.sum ≤ e - d) : bgt e (a ++ x ++ b) := by
  obtain ⟨h1, h2⟩ := bgt_app.mp h
  obtain ⟨h3, h4⟩ := bgt_app.mp h1
  have n4 := bgt_nn h4
  rw [List.sum_append] at h2
  refine bgt_app.mpr ⟨bgt_app.mpr ⟨bgt_mono h3 hde, ?_⟩, ?_⟩
  · have := hx (d - a.sum) n4
    rw [show d - a.sum + (e - d) = e - a.sum by omega] at this
    exact this
  · rw [List.sum_append]
    exact bgt_mono h2 (by omega)
theorem Tks.put {d : Int} {n : Nat} {a x y b : Tt} (h : Tks d n (a ++ y ++ b)) (hx : ∀ t ∈ x, TokOk t) (hl : x.length ≤ 2) (hs : (x.map wT).sum - (y.map wT).sum ≤ 2) (hn : x.length ≤ y.length + 1) : Tks (d + 2) (n + 1) (a ++ x ++ b) := by
  refine ⟨?_, ?_, fun t ht => ?_⟩
  · have hb := h.bud
    rw [List.map_append, List.map_append] at hb ⊢
    refine bgt_sw hb (by omega) (fun c hc => bgt_len (Wt_mapT x) ?_) (by omega)
    rw [List.length_map]
    omega
  · have := h.len
    rw [List.length_append, List.length_append] at this ⊢
    omega
  · rcases List.mem_append.mp ht with z | z
    · rcases List.mem_append.mp z with z | z
      · exact h.ok t (List.mem_append_left _ (List.mem_append_left _ z))
      · exact hx t z
    · exact h.ok t (List.mem_append_right _ z)
theorem one_sum {y : Tt} (h : y.length ≤ 1) : (y.map wT).sum ≤ 1 ∧ -1 ≤ (y.map wT).sum := by
  cases y with
  | nil => exact ⟨by decide, by decide⟩
  | cons t y =>
    have : y = [] := List.length_eq_zero_iff.mp (by rw [List.length_cons] at h; omega)
    subst this
    have := wT_le t
    show wT t + 0 ≤ 1 ∧ -1 ≤ wT t + 0
    omega
theorem sp_w (k : Nat) : ((List.replicate k 32).map wC).sum = 0 ∧ ∀ d, 0 ≤ d → bgt d ((List.replicate k 32).map wC) := wC_zero fun c hc => by
  rw [(List.mem_replicate.mp hc).2]
  rfl
/-- a text behind some of its tokens -/
structure Spc (d : Int) (ts : Tt) (k : Nat) (s : List Nat) : Prop where
  sum : (s.map wC).sum = ((ts.take k).map wT).sum
  bud : bgt d (s.map wC)
  len : s.length ≤ 1 + 9 * k
theorem Spc.zero {d : Int} {ts : Tt} {j : Nat} (hd : 0 ≤ d) (hj : j ≤ 1) : Spc d ts 0 (List.replicate j 32) := ⟨(sp_w j).1, (sp_w j).2 d hd, by rw [List.length_replicate]; omega⟩
theorem Spc.step {d : Int} {n : Nat} {ts : Tt} {k j : Nat} {s t : List Nat} (h : Spc d ts k s) (ht : Tks d n ts) (hk : ts[k]? = some t) (hj : j ≤ 2) : Spc d ts (k + 1) (s ++ List.replicate j 32 ++ t) := by
  have hm : t ∈ ts := List.mem_of_getElem? hk
  have hok := ht.ok t hm
  obtain ⟨hlt, hg⟩ := List.getElem?_eq_some_iff.mp hk
  have hb := ht.bud
  rw [← List.take_append_drop k ts, List.map_append] at hb
  obtain ⟨_, hb2⟩ := bgt_app.mp hb
  rw [List.drop_eq_getElem_cons hlt, List.map_cons, hg] at hb2
  obtain ⟨hb3, hb4⟩ := hb2
  have hb5 := bgt_nn hb4
  refine ⟨?_, ?_, ?_⟩
  · rw [List.take_add_one, hk]
    show _ = ((ts.take k ++ [t]).map wT).sum
    rw [List.map_append, List.map_append, List.map_append, List.sum_append, List.sum_append, List.sum_append, h.sum, (sp_w j).1, tok_sum hok]
    show _ = _ + (wT t + 0)
    omega
  · rw [List.map_append, List.map_append]
    have hd := bgt_nn h.bud
    refine bgt_app.mpr ⟨bgt_app.mpr ⟨h.bud, (sp_w j).2 _ (by rw [h.sum]; exact hb3)⟩, ?_⟩
    rw [List.sum_append, (sp_w j).1, h.sum, Int.add_zero]
    exact tok_bud hok hb3 hb5
  · rw [List.length_append, List.length_append, List.length_replicate]
    have := h.len
    have := hok.1
    omega
theorem Spc.fin {d : Int} {n : Nat} {ts : Tt} {j : Nat} {s : List Nat} (h : Spc d ts ts.length s) (ht : Tks d n ts) (hj : j ≤ 1) : Txt d (9 * n + 2) (s ++ List.replicate j 32) := by
  refine ⟨?_, ?_⟩
  · rw [List.map_append]
    have hb := ht.bud
    refine bgt_app.mpr ⟨h.bud, (sp_w j).2 _ ?_⟩
    rw [h.sum, List.take_length]
    have := bgt_app (a := ts.map wT) (b := []) (d := d)
    rw [List.append_nil] at this
    exact (this.mp hb).2
  · rw [List.length_append, List.length_replicate]
    have := h.len
    have := ht.len
    omega
end FM
open PySem PySem.Spec PyProof.Rows L2 DL Q
namespace K22
open FM
def NdR (m f : Nat) (a : Val) (b : D) : Prop := ∃ d, a = .d d ∧ Pool b ∧ Nd m f d
theorem nd_leaf {m f : Nat} {d : D} (h : Leaf m d) : Nd m f d := by
  cases f with
  | zero => exact h
  | succ f => exact .inl h
theorem eq_zn {z : Int} {f : Nat} (hz : z = (f : Nat)) (j : Nat) (i : Int) (hi : i = (j : Nat)) : eqF (.int z) (.int i) = vb (f == j) := by
  subst hz hi
  exact eqNN f j
theorem word_at {r : Int} (h0 : 4 ≤ r) (h1 : r < 8) : ∃ W, W < 3 ∧ itemF (.lst [.str (Str.ofString "and"), .str (Str.ofString "or"), .str (Str.ofString "xor"), .str (Str.ofString "and"), .str (Str.ofString "atleast")]) (.int (r - 4)) = some (.d (.str (tx (jo W)))) := by
  rcases (show r = 4 ∨ r = 5 ∨ r = 6 ∨ r = 7 by omega) with rfl | rfl | rfl | rfl
  · exact ⟨2, by decide, rfl⟩
  · exact ⟨0, by decide, rfl⟩
  · exact ⟨1, by decide, rfl⟩
  · exact ⟨2, by decide, rfl⟩
set_option maxHeartbeats 16000000 in
theorem node_ok {m : Nat} {w : Int} (hw : w = (m : Nat)) (hm : 0 < m) (hm6 : m ≤ 6) : ∀ (n f : Nat) (z : Int) (b : D), z = (f : Nat) → f < n → Pool b → (F_law_node n [b, .int z, .int w]).sat (fun a ios => ∃ b', ios = [b'] ∧ NdR m f a b') (fun _ _ => False)
  | 0, _, _, _, _, h, _ => absurd h (Nat.not_lt_zero _)
  | n + 1, 0, z, b, hz, hf, hb => by
    have hz0 := eq_zn hz 0 0 rfl
    rw [show ((0 : Nat) == 0) = true from rfl] at hz0
    show (callD [true, false, false] 7 (g_law_node (F_law_node n)) [b, .int z, .int w]).sat _ _
    walk_at "go"
    unfold g_law_node
    walk_at "run0"
    walk_at "draw"
    intro r b1 h0 h1 hb1
    walk_at "run0"
    walk_at "draw"
    intro r2 b2 h2 h3 hb2
    have q2 : eqF (.int r2) (.int 0) = vb (r2 == 0) := rfl
    walk_at "run0"
    refine ⟨fun hc => ?_, fun hc => ?_⟩
    · walk_at "run0"
      exact ⟨_, rfl, rfl, b2, rfl, _, rfl, hb2, nd_leaf (.inr ⟨(r % 2).toNat, by omega, by unfold ansN; rw [show (((r % 2).toNat : Nat) : Int) = r % 2 by omega]⟩)⟩
    · walk_at "run0"
      walk_at "draw"
      intro r3 b3 h4 h5 hb3
      walk_at "run0"
      exact ⟨_, rfl, rfl, b3, rfl, _, rfl, hb3, nd_leaf (.inl ⟨r3.toNat, by omega, by unfold bitN; rw [show ((r3.toNat : Nat) : Int) = r3 by omega]⟩)⟩
  | n + 1, f + 1, z, b, hz, hf, hb => by
    have ih : ∀ b, Pool b → (F_law_node n [b, .int (z - 1), .int w]).sat (fun a ios => ∃ b', ios = [b'] ∧ NdR m f a b') (fun _ _ => False) := fun b hb => node_ok hw hm hm6 n f (z - 1) b (by omega) (by omega) hb
    have hz0 := eq_zn hz 0 0 rfl
    rw [show (f + 1 == 0) = false from rfl] at hz0
    show (callD [true, false, false] 7 (g_law_node (F_law_node n)) [b, .int z, .int w]).sat _ _
    walk_at "go"
    unfold g_law_node
    walk_at "run0"
    walk_at "draw"
    intro r b1 h0 h1 hb1
    have hlt : ltF (.int r) (.int 3) = vb (decide (r < 3)) := rfl
    by_cases c1 : r < 3
    · rw [decide_eq_true c1] at hlt
      walk_at "run0"
      walk_at "draw"
      intro r2 b2 h2 h3 hb2
      have q2 : eqF (.int r2) (.int 0) = vb (r2 == 0) := rfl
      walk_at "run0"
      refine ⟨fun hc => ?_, fun hc => ?_⟩
      · walk_at "run0"
        exact ⟨_, rfl, rfl, b2, rfl, _, rfl, hb2, nd_leaf (.inr ⟨(r % 2).toNat, by omega, by unfold ansN; rw [show (((r % 2).toNat : Nat) : Int) = r % 2 by omega]⟩)⟩
      · walk_at "run0"
        walk_at "draw"
        intro r3 b3 h4 h5 hb3
        walk_at "run0"
        exact ⟨_, rfl, rfl, b3, rfl, _, rfl, hb3, nd_leaf (.inl ⟨r3.toNat, by omega, by unfold bitN; rw [show ((r3.toNat : Nat) : Int) = r3 by omega]⟩)⟩
    rw [decide_eq_false c1] at hlt
    have he3 : eqF (.int r) (.int 3) = vb (r == 3) := rfl
    by_cases c2 : r = 3
    · rw [show (r == 3) = true from beq_iff_eq.mpr c2] at he3
      walk_at "run0"
      refine c_pool (ih b1 hb1) (fun b' => by walk_at "setc") fun a b2 h2 => ?_
      obtain ⟨d2, rfl, hb2, hd2⟩ := h2
      walk_at "run0"
      exact ⟨_, rfl, rfl, b2, rfl, _, rfl, hb2, .inr (.inl ⟨d2, hd2, rfl⟩)⟩
    rw [show (r == 3) = false from beq_eq_false_iff_ne.mpr c2] at he3
    have he8 : eqF (.int r) (.int 8) = vb (r == 8) := rfl
    have hl8 : ltF (.int r) (.int 8) = vb (decide (r < 8)) := rfl
    have i1 : intF [.bl true] = vi 1 := rfl
    have i0 : intF [.bl false] = vi 0 := rfl
    by_cases c3 : r = 8
    · subst c3
      have he8 : eqF (.int 8) (.int 8) = vb true := rfl
      have hl8 : ltF (.int 8) (.int 8) = vb false := rfl
      have hz1 := eq_zn hz 1 1 rfl
      have hit : itemF (.lst [.str (Str.ofString "and"), .str (Str.ofString "or"), .str (Str.ofString "xor"), .str (Str.ofString "and"), .str (Str.ofString "atleast")]) (.int 4) = some (.d (.str (Str.ofString "atleast"))) := rfl
      have hsb : subF (.int 8) (.int 4) = vi 4 := rfl
      walk_at "run0"
      walk_at "draw"
      intro r2 b2 h2 h3 hb2
      by_cases c4 : f + 1 = 1
      · rw [show (f + 1 == 1) = true from beq_iff_eq.mpr c4] at hz1
        walk_at "run0"
        walk_at "draw"
        intro r3 b7 h4 h5 hb7
        have hr := rng_small (m := 1 + r3 + 0) (by omega) (by omega)
        walk_at "run0"
        with_reducible refine' o_lcI (fun i st acc => ∃ b xs, Pool b ∧ st = [.io b, .sh (.int z), .sh (.int w), .sh (.int 8), .sh (.int (1 + r3)), .no, .no] ∧ acc = xs ∧ xs.length = i ∧ ∀ x ∈ xs, Nd m f x) ?p0 ?p1 ?p2 ?p3 ?p4
        · rfl
        · rw [rng_len, sizeLine_eq]; omega
        · exact ⟨b7, [], hb7, rfl, rfl, rfl, fun z hz => by cases hz⟩
        · rintro i d st acc hd ⟨b3, xs, hb3, rfl, rfl, hl, hp⟩ -
          refine ⟨_, by walk_at "tgt", ?_⟩
          walk_at "run0"
          refine c_pool (ih b3 hb3) (fun b' => by walk_at "setc") fun a b4 h4 => ?_
          obtain ⟨d4, rfl, hb4, hd4⟩ := h4
          walk_at "run0"
          refine ⟨_, _, rfl, b4, acc ++ [d4], hb4, rfl, rfl, by rw [List.length_append, hl]; rfl, fun x hx => ?_⟩
          rcases List.mem_append.mp hx with q | q
          · exact hp x q
          · rw [List.mem_singleton.mp q]; exact hd4
        · rintro st acc ⟨b5, xs, hb5, rfl, rfl, hl, hp⟩
          rw [rng_len] at hl
          refine ⟨rfl, ?_⟩
          walk_at "rest"
          walk_at "run0"
          walk_at "draw"
          intro r6 b6 h8 h9 hb6
          have hap : addF (.lst [.int r6]) (.lst acc) = some (.fr (.lst (.int r6 :: acc))) := add_lst (by show 1 + acc.length ≤ _; omega)
          walk_at "run0"
          refine ⟨_, rfl, rfl, b6, rfl, _, rfl, hb6, .inr (.inr (.inr ⟨r6.toNat, acc, by omega, by omega, by omega, hp, ?_⟩))⟩
          unfold atlN
          rw [show ((r6.toNat : Nat) : Int) = r6 by omega]
      · rw [show (f + 1 == 1) = false from beq_eq_false_iff_ne.mpr c4] at hz1
        have hr := rng_small (m := 1 + r2 + 0) (by omega) (by omega)
        walk_at "run0"
        with_reducible refine' o_lcI (fun i st acc => ∃ b xs, Pool b ∧ st = [.io b, .sh (.int z), .sh (.int w), .sh (.int 8), .sh (.int (1 + r2)), .no, .no] ∧ acc = xs ∧ xs.length = i ∧ ∀ x ∈ xs, Nd m f x) ?q0 ?q1 ?q2 ?q3 ?q4
        · rfl
        · rw [rng_len, sizeLine_eq]; omega
        · exact ⟨b2, [], hb2, rfl, rfl, rfl, fun z hz => by cases hz⟩
        · rintro i d st acc hd ⟨b3, xs, hb3, rfl, rfl, hl, hp⟩ -
          refine ⟨_, by walk_at "tgt", ?_⟩
          walk_at "run0"
          refine c_pool (ih b3 hb3) (fun b' => by walk_at "setc") fun a b4 h4 => ?_
          obtain ⟨d4, rfl, hb4, hd4⟩ := h4
          walk_at "run0"
          refine ⟨_, _, rfl, b4, acc ++ [d4], hb4, rfl, rfl, by rw [List.length_append, hl]; rfl, fun x hx => ?_⟩
          rcases List.mem_append.mp hx with q | q
          · exact hp x q
          · rw [List.mem_singleton.mp q]; exact hd4
        · rintro st acc ⟨b5, xs, hb5, rfl, rfl, hl, hp⟩
          rw [rng_len] at hl
          refine ⟨rfl, ?_⟩
          walk_at "rest"
          walk_at "run0"
          walk_at "draw"
          intro r6 b6 h8 h9 hb6
          have hap : addF (.lst [.int r6]) (.lst acc) = some (.fr (.lst (.int r6 :: acc))) := add_lst (by show 1 + acc.length ≤ _; omega)
          walk_at "run0"
          refine ⟨_, rfl, rfl, b6, rfl, _, rfl, hb6, .inr (.inr (.inr ⟨r6.toNat, acc, by omega, by omega, by omega, hp, ?_⟩))⟩
          unfold atlN
          rw [show ((r6.toNat : Nat) : Int) = r6 by omega]
    · rw [show (r == 8) = false from beq_eq_false_iff_ne.mpr c3] at he8
      rw [decide_eq_true (show r < 8 by omega)] at hl8
      obtain ⟨W, hW, hit⟩ := word_at (r := r) (by omega) (by omega)
      walk_at "run0"
      walk_at "draw"
      intro r2 b2 h2 h3 hb2
      have hr := rng_small (m := 1 + r2 + 1) (by omega) (by omega)
      walk_at "run0"
      with_reducible refine' o_lcI (fun i st acc => ∃ b xs, Pool b ∧ st = [.io b, .sh (.int z), .sh (.int w), .sh (.int r), .sh (.int (1 + r2)), .no, .no] ∧ acc = xs ∧ xs.length = i ∧ ∀ x ∈ xs, Nd m f x) ?u0 ?u1 ?u2 ?u3 ?u4
      · rfl
      · rw [rng_len, sizeLine_eq]; omega
      · exact ⟨b2, [], hb2, rfl, rfl, rfl, fun z hz => by cases hz⟩
      · rintro i d st acc hd ⟨b3, xs, hb3, rfl, rfl, hl, hp⟩ -
        refine ⟨_, by walk_at "tgt", ?_⟩
        walk_at "run0"
        refine c_pool (ih b3 hb3) (fun b' => by walk_at "setc") fun a b4 h4 => ?_
        obtain ⟨d4, rfl, hb4, hd4⟩ := h4
        walk_at "run0"
        refine ⟨_, _, rfl, b4, acc ++ [d4], hb4, rfl, rfl, by rw [List.length_append, hl]; rfl, fun x hx => ?_⟩
        rcases List.mem_append.mp hx with q | q
        · exact hp x q
        · rw [List.mem_singleton.mp q]; exact hd4
      · rintro st acc ⟨b5, xs, hb5, rfl, rfl, hl, hp⟩
        rw [rng_len] at hl
        refine ⟨rfl, ?_⟩
        walk_at "rest"
        walk_at "run0"
        exact ⟨_, rfl, rfl, b5, rfl, _, rfl, hb5, .inr (.inr (.inl ⟨W, acc, hW, by omega, by omega, hp, rfl⟩))⟩
end K22
open PySem PySem.Spec PyProof.Rows L2 DL Q
namespace K22
open FM
theorem v_is {g : GE} {st st2 : DS} {a : Val} {Q : Val → DS → Prop} {E : Ex → DS → Prop} (e : g st = .ok a st2) (h : Q a st2) : (g st).sat Q E := by
  rw [e]
  exact h
abbrev levG : GE := gGet2 (gDct (((gC (.str "or")), (gC (.int 0))) :: (((gC (.str "xor")), (gC (.int 1))) :: (((gC (.str "and")), (gC (.int 2))) :: (((gC (.str "not")), (gC (.int 3))) :: []))))) (gOp2 itemF (gVar 1) (gC (.int 0))) (gC (.int 4))
def LevAt (d : D) (l : Nat) : Prop := ∀ (b : D) (v : Int), levG [.io b, .sh d, .sh (.int v), .no, .no] = .ok (.d (.int (l : Nat))) [.io b, .sh d, .sh (.int v), .no, .no]
theorem lev_bit (i : Nat) : LevAt (bitN i) 4 := fun _ _ => rfl
theorem lev_ans (i : Nat) : LevAt (ansN i) 4 := fun _ _ => rfl
theorem lev_not (x : D) : LevAt (notN x) 3 := fun _ _ => rfl
theorem lev_atl (c : Nat) (xs : List D) : LevAt (atlN c xs) 4 := fun _ _ => rfl
theorem lev_op {w : Nat} (hw : w < 3) (xs : List D) : LevAt (opN w xs) w := fun _ _ => by
  rcases (show w = 0 ∨ w = 1 ∨ w = 2 by omega) with rfl | rfl | rfl <;> rfl
/-- a walk that draws and hands back tokens -/
def TkR (P : Tt → Prop) (f : FR) : Prop := f.sat (fun a ios => ∃ b' ts, ios = [b'] ∧ a = .d (.lst (txs ts)) ∧ Pool b' ∧ P ts) (fun _ _ => False)
theorem c_tk {b : D} {P : Tt → Prop} {f : FR} {st2 : DS} {j : Nat} {st3 : D → DS} {Q : Val → DS → Prop} {E : Ex → List D → Prop} (hf : TkR P f) (hs : ∀ b', setC st2 j b' = st3 b')
    (h : ∀ ts b', Pool b' → P ts → Q (.d (.lst (txs ts))) (st3 b')) : f.sat (fun a ios => ∃ st3, back [j] ios st2 = some st3 ∧ Q a st3) E := by
  refine fr_imp hf (fun a ios h' => ?_) fun _ _ h => h.elim
  obtain ⟨b', ts, rfl, rfl, hb, hp⟩ := h'
  exact ⟨_, back1 (hs b'), h ts b' hb hp⟩
theorem txs_app2 (a b : Tt) : txs a ++ txs b = txs (a ++ b) := by unfold txs; rw [List.map_append]
set_option maxHeartbeats 16000000 in
theorem tokens_walk {n f l : Nat} {d : D} {v : Int} {lv : Nat} {b : D} (hf : f ≤ 3) (hv : v = (lv : Nat)) (hlev : LevAt d l) (hb : Pool b) (hbare : ∀ b, Pool b → TkR (fun us => Bare f d l us) (F_law_bare (F_law_tokens n) [b, d, .int (l : Nat)])) : TkR (fun ts => Prt (Bare f) lv d ts) (F_law_tokens (n + 1) [b, d, .int v]) := by
  have hle := hlev b v
  unfold levG at hle
  have hlt : ltF (.int (l : Nat)) (.int v) = vb (decide (l < lv)) := by
    rw [hv]
    exact ltN l lv
  show (callD [true, false, false] 5 (g_law_tokens (F_law_tokens n)) [b, d, .int v]).sat _ _
  walk_at "go"
  unfold g_law_tokens
  generalize F_law_bare (F_law_tokens n) = bare at *
  refine v_seq (v_asg (v_gsh (v_is hle ?_)))
  walk_at "run0"
  refine c_tk (b := b) (hbare b hb) (fun b' => by walk_at "setc") fun us b1 hb1 hus => ?_
  have hus := (show Bare f d l us from hus)
  have hlen := (bare_bal f d l us hus).len
  have h2000 := cnt3 f hf
  have ha1 : addF (.lst [.str (Str.ofString "(")]) (.lst (txs us)) = some (.fr (.lst (txs ([40] :: us)))) := add_lst (by show 1 + (txs us).length ≤ _; rw [txs_len]; omega)
  have ha2 : addF (.lst (txs ([40] :: us))) (.lst [.str (Str.ofString ")")]) = some (.fr (.lst (txs ([40] :: us ++ [[41]])))) := by
    rw [← txs_app2]
    exact add_lst (by rw [txs_len, List.length_cons]; show us.length + 1 + 1 ≤ _; omega)
  have hbr : Prt (Bare f) lv d ([40] :: us ++ [[41]]) := ⟨l, us, hus, .inr rfl⟩
  generalize txs ([40] :: us) = zs at *
  by_cases hc : l < lv
  · rw [decide_eq_true hc] at hlt
    walk_at "run0"
    exact ⟨_, rfl, rfl, b1, _, rfl, rfl, hb1, hbr⟩
  · rw [decide_eq_false hc] at hlt
    walk_at "run0"
    walk_at "draw"
    intro r b2 h0 h1 hb2
    have hq : eqF (.int r) (.int 5) = vb (r == 5) := rfl
    walk_at "run0"
    refine ⟨fun c => ?_, fun c => ?_⟩
    · walk_at "run0"
      exact ⟨_, rfl, rfl, b2, _, rfl, rfl, hb2, hbr⟩
    · walk_at "run0"
      exact ⟨_, rfl, rfl, b2, _, rfl, rfl, hb2, ⟨l, us, hus, .inl ⟨by omega, rfl⟩⟩⟩
theorem lf_bare {f l : Nat} {d : D} {ts : Tt} (h : LfT d l ts) : Bare f d l ts := by
  cases f with
  | zero => exact h
  | succ f => exact .inl h
set_option maxHeartbeats 8000000 in
theorem bare_bit {self : FnD} {i : Nat} {v : Int} {b : D} (hi : i < 6) (hb : Pool b) : TkR (fun us => LfT (bitN i) 4 us) (F_law_bare self [b, bitN i, .int v]) := by
  have h1 := (str_dig (p := i) (by omega)).1
  have h2 : addF (.str (Str.ofString "x")) (.str (tx [48 + i])) = vs (tx [120, 48 + i]) := (add_s (x := Str.ofString "x") (y := tx [48 + i]) (fits_le (by rw [tx_len]; show 1 + 1 ≤ _; omega))).trans (congrArg vs (app_tx [120] [48 + i]))
  have h3 : itemF (bitN i) (.int 0) = some (.d (.str (Str.ofString "bit"))) := rfl
  have h4 : itemF (bitN i) (.int 1) = some (.d (.int (i : Nat))) := rfl
  have h5 : eqF (.str (Str.ofString "bit")) (.str (Str.ofString "bit")) = vb true := rfl
  unfold TkR F_law_bare
  generalize hd : bitN i = d at *
  walk_at "go"
  unfold g_law_bare
  walk_at "run0"
  exact ⟨_, rfl, rfl, b, [[120, 48 + i]], rfl, rfl, hb, rfl, .inl ⟨i, hi, hd.symm, rfl⟩⟩
set_option maxHeartbeats 8000000 in
theorem bare_ans {self : FnD} {i : Nat} {v : Int} {b : D} (hi : i < 2) (hb : Pool b) : TkR (fun us => LfT (ansN i) 4 us) (F_law_bare self [b, ansN i, .int v]) := by
  have h1 := (str_dig (p := i) (by omega)).1
  have h3 : itemF (ansN i) (.int 0) = some (.d (.str (Str.ofString "answer"))) := rfl
  have h4 : itemF (ansN i) (.int 1) = some (.d (.int (i : Nat))) := rfl
  have h5 : eqF (.str (Str.ofString "answer")) (.str (Str.ofString "bit")) = vb false := rfl
  have h6 : eqF (.str (Str.ofString "answer")) (.str (Str.ofString "answer")) = vb true := rfl
  unfold TkR F_law_bare
  generalize hd : ansN i = d at *
  walk_at "go"
  unfold g_law_bare
  walk_at "run0"
  exact ⟨_, rfl, rfl, b, [[48 + i]], rfl, rfl, hb, rfl, .inr ⟨i, hi, hd.symm, rfl⟩⟩
set_option maxHeartbeats 8000000 in
theorem bare_not {self : FnD} {f : Nat} {x : D} {v : Int} {b : D} (hf : f ≤ 3) (hb : Pool b) (hx : ∀ b, Pool b → TkR (fun ts => Prt (Bare f) 3 x ts) (self [b, x, .int 3])) : TkR (fun us => Bare (f + 1) (notN x) 3 us) (F_law_bare self [b, notN x, .int v]) := by
  have h3 : itemF (notN x) (.int 0) = some (.d (.str (Str.ofString "not"))) := rfl
  have h4 : itemF (notN x) (.int 1) = some (.d (.lst [x])) := rfl
  have h4b : itemF (.lst [x]) (.int 0) = some (.d x) := rfl
  have h5 : eqF (.str (Str.ofString "not")) (.str (Str.ofString "bit")) = vb false := rfl
  have h6 : eqF (.str (Str.ofString "not")) (.str (Str.ofString "answer")) = vb false := rfl
  have h7 : eqF (.str (Str.ofString "not")) (.str (Str.ofString "not")) = vb true := rfl
  unfold TkR F_law_bare
  generalize hd : notN x = d at *
  walk_at "go"
  unfold g_law_bare
  walk_at "run0"
  refine c_tk (b := b) (hx b hb) (fun b' => by walk_at "setc") fun us b1 hb1 hus => ?_
  have hlen := (prt_bal hus (bare_bal f)).len
  have h2000 := cnt3 f hf
  have ha1 : addF (.lst [.str (Str.ofString "not")]) (.lst (txs us)) = some (.fr (.lst (txs (FM.wNot :: us)))) := add_lst (by show 1 + (txs us).length ≤ _; rw [txs_len]; omega)
  walk_at "run0"
  exact ⟨_, rfl, rfl, b1, _, rfl, rfl, hb1, .inr (.inl ⟨x, us, hd.symm, rfl, hus, rfl⟩)⟩
end K22
open PySem PySem.Spec PyProof.Rows L2 DL Q
namespace K22
open FM
def jnT (w : List Nat) : List Tt → Tt
  | [] => []
  | u :: us => u ++ fl w us
theorem jnT_snoc (w : List Nat) (u : Tt) : ∀ uss : List Tt, uss ≠ [] → jnT w (uss ++ [u]) = jnT w uss ++ [w] ++ u
  | [], h => (h rfl).elim
  | v :: uss, _ => by
    show v ++ fl w (uss ++ [u]) = v ++ fl w uss ++ [w] ++ u
    rw [fl_snoc, List.append_assoc, List.append_assoc]
    rfl
theorem prt_ne {f lv : Nat} {d : D} {ts : Tt} (h : Prt (Bare f) lv d ts) : ts ≠ [] := by
  obtain ⟨l, us, hb, ⟨_, rfl⟩ | rfl⟩ := h
  · cases f with
    | zero => obtain ⟨_, ⟨i, _, _, rfl⟩ | ⟨i, _, _, rfl⟩⟩ := hb <;> simp
    | succ f =>
      rcases hb with ⟨_, ⟨i, _, _, rfl⟩ | ⟨i, _, _, rfl⟩⟩ | ⟨x, us, rfl, rfl, h, rfl⟩ | ⟨w, x, u, ps, hw, rfl, h1, h2, hx, hp, rfl, rfl⟩ | ⟨c, ps, hc2, rfl, h1, h2, hp, rfl, rfl⟩
      · simp
      · simp
      · simp
      · intro z
        obtain ⟨z1, z2⟩ := List.append_eq_nil_iff.mp z
        cases ps with
        | nil => exact absurd h1 (by decide)
        | cons p ps => rw [List.map_cons, fl_cons] at z2; cases z2
      · simp
  · simp
def TL (ts : Tt) : Prop := ∀ t ∈ ts, ∀ c ∈ t, c < 128
theorem TL.app {a b : Tt} (h : TL a) (k : TL b) : TL (a ++ b) := fun t ht => by
  rcases List.mem_append.mp ht with z | z
  · exact h t z
  · exact k t z
theorem TL.cons {t : List Nat} {b : Tt} (h : ∀ c ∈ t, c < 128) (k : TL b) : TL (t :: b) := fun u hu => by
  rcases List.mem_cons.mp hu with rfl | z
  · exact h
  · exact k u z
theorem TL.nil : TL [] := fun t ht => by cases ht
theorem TL.fl {w : List Nat} (hw : ∀ c ∈ w, c < 128) : ∀ {uss : List Tt}, (∀ u ∈ uss, TL u) → TL (FM.fl w uss)
  | [], _ => TL.nil
  | u :: uss, h => by
    rw [fl_cons]
    exact .cons hw ((h u List.mem_cons_self).app (TL.fl hw fun v hv => h v (List.mem_cons_of_mem _ hv)))
theorem jo_lt {w : Nat} (h : w < 3) : ∀ c ∈ jo w, c < 128 := by
  rcases (show w = 0 ∨ w = 1 ∨ w = 2 by omega) with rfl | rfl | rfl <;> decide
theorem lf_lt {d : D} {l : Nat} {ts : Tt} (h : LfT d l ts) : TL ts := by
  obtain ⟨_, ⟨i, hi, _, rfl⟩ | ⟨b, hb, _, rfl⟩⟩ := h
  · refine .cons (fun c hc => ?_) .nil
    rcases List.mem_cons.mp hc with rfl | hc
    · decide
    · rcases List.mem_singleton.mp hc with rfl
      omega
  · refine .cons (fun c hc => ?_) .nil
    rcases List.mem_singleton.mp hc with rfl
    omega
theorem prt_lt {f lv : Nat} {d : D} {ts : Tt} (h : Prt (Bare f) lv d ts) (ih : ∀ d l us, Bare f d l us → TL us) : TL ts := by
  obtain ⟨l, us, hb, ⟨_, rfl⟩ | rfl⟩ := h
  · exact ih _ _ _ hb
  · exact .cons (by decide) ((ih _ _ _ hb).app (.cons (by decide) .nil))
theorem bare_lt : ∀ (f : Nat) (d : D) (l : Nat) (ts : Tt), Bare f d l ts → TL ts
  | 0, d, l, ts, h => lf_lt h
  | f + 1, d, l, ts, h => by
    have ih := bare_lt f
    rcases h with h | ⟨x, us, rfl, rfl, h, rfl⟩ | ⟨w, x, u, ps, hw, rfl, h1, h2, hx, hp, rfl, rfl⟩ | ⟨c, ps, hc2, rfl, h1, h2, hp, rfl, rfl⟩
    · exact lf_lt h
    · exact .cons (by decide) (prt_lt h ih)
    · refine (prt_lt hx ih).app (.fl (jo_lt hw) fun v hv => ?_)
      obtain ⟨p, hp', rfl⟩ := List.mem_map.mp hv
      exact prt_lt (hp p hp') ih
    · refine .cons (by decide) (.cons (by decide) (.cons (fun z hz => ?_) (.app (.fl (by decide) fun v hv => ?_) (.cons (by decide) .nil))))
      · rcases List.mem_singleton.mp hz with rfl
        omega
      · obtain ⟨p, hp', rfl⟩ := List.mem_map.mp hv
        exact prt_lt (hp p hp') ih
theorem jn_lt {f lv w : Nat} (hw : w < 3) : ∀ {ps : List (D × Tt)}, (∀ p ∈ ps, Prt (Bare f) lv p.1 p.2) → TL (jnT (jo w) (ps.map fun p => p.2))
  | [], _ => TL.nil
  | p :: ps, h => (prt_lt (h p List.mem_cons_self) (bare_lt f)).app (.fl (jo_lt hw) fun v hv => by
      obtain ⟨q, hq, rfl⟩ := List.mem_map.mp hv
      exact prt_lt (h q (List.mem_cons_of_mem _ hq)) (bare_lt f))
theorem parts_op {w : Nat} (hw : w < 3) (xs : List D) : F_law_parts [opN w xs] = .ok (.d (.lst xs)) [] := by
  have h0 : itemF (opN w xs) (.int 0) = some (.d (.str (tx (jo w)))) := rfl
  have h1 : itemF (opN w xs) (.int 1) = some (.d (.lst xs)) := rfl
  have h2 : inF (.str (tx (jo w))) (.tup [.str (Str.ofString "bit"), .str (Str.ofString "answer")]) = vb false := by
    rcases (show w = 0 ∨ w = 1 ∨ w = 2 by omega) with rfl | rfl | rfl <;> rfl
  have h3 : eqF (.str (tx (jo w))) (.str (Str.ofString "atleast")) = vb false := by
    rcases (show w = 0 ∨ w = 1 ∨ w = 2 by omega) with rfl | rfl | rfl <;> rfl
  refine eq_of_sat ?_
  unfold F_law_parts
  generalize opN w xs = d at *
  walk_at "go"
  unfold g_law_parts
  walk_at "run0"
  exact ⟨_, rfl, rfl, rfl, rfl⟩
theorem parts_atl (c : Nat) (xs : List D) : F_law_parts [atlN c xs] = .ok (.d (.lst xs)) [] := by
  have h0 : itemF (atlN c xs) (.int 0) = some (.d (.str (Str.ofString "atleast"))) := rfl
  have h1 : itemF (atlN c xs) (.int 1) = some (.d (.lst (.int (c : Nat) :: xs))) := rfl
  have h2 : inF (.str (Str.ofString "atleast")) (.tup [.str (Str.ofString "bit"), .str (Str.ofString "answer")]) = vb false := rfl
  have h3 : eqF (.str (Str.ofString "atleast")) (.str (Str.ofString "atleast")) = vb true := rfl
  have h4 : slF (.lst (.int (c : Nat) :: xs)) (some 1) none = some (.fr (.lst xs)) := sl_tail _ _
  refine eq_of_sat ?_
  unfold F_law_parts
  generalize atlN c xs = d at *
  walk_at "go"
  unfold g_law_parts
  walk_at "run0"
  exact ⟨_, rfl, rfl, rfl, rfl⟩
/-- the pieces that are written so far -/
def Pcs (f lv : Nat) (xs : List D) (i : Nat) (ps : List (D × Tt)) : Prop := ps.map (fun p : D × Tt => p.1) = xs.take i ∧ ∀ p ∈ ps, Prt (Bare f) lv p.1 p.2
theorem Pcs.zero {f lv : Nat} {xs : List D} : Pcs f lv xs 0 [] := ⟨rfl, fun p h => by cases h⟩
theorem Pcs.snoc {f lv : Nat} {xs : List D} {i : Nat} {ps : List (D × Tt)} {x : D} {ts : Tt} (h : Pcs f lv xs i ps) (hx : xs[i]? = some x) (k : Prt (Bare f) lv x ts) : Pcs f lv xs (i + 1) (ps ++ [(x, ts)]) := by
  refine ⟨by rw [List.map_append, h.1, List.take_add_one, hx]; rfl, fun p hp => ?_⟩
  rcases List.mem_append.mp hp with z | z
  · exact h.2 p z
  · rcases List.mem_singleton.mp z with rfl
    exact k
theorem Pcs.len {f lv : Nat} {xs : List D} {i : Nat} {ps : List (D × Tt)} (h : Pcs f lv xs i ps) (hi : i ≤ xs.length) : ps.length = i := by
  have := congrArg List.length h.1
  rw [List.length_map, List.length_take] at this
  omega
theorem fl_len {f lv : Nat} {w : List Nat} (hf : f ≤ 3) : ∀ {ps : List (D × Tt)}, (∀ p ∈ ps, Prt (Bare f) lv p.1 p.2) → (fl w (ps.map fun p => p.2)).length ≤ ps.length * 2100
  | [], _ => Nat.zero_le _
  | p :: ps, h => by
    have h1 := (prt_bal (h p List.mem_cons_self) (bare_bal f)).len
    have h2 := fl_len (w := w) hf (ps := ps) fun q hq => h q (List.mem_cons_of_mem _ hq)
    have h3 := cnt3 f hf
    rw [List.map_cons, fl_cons, List.length_cons, List.length_append, List.length_cons]
    omega
theorem jn_len {f lv : Nat} {w : List Nat} (hf : f ≤ 3) {ps : List (D × Tt)} (h : ∀ p ∈ ps, Prt (Bare f) lv p.1 p.2) : (jnT w (ps.map fun p => p.2)).length ≤ ps.length * 2100 := by
  cases ps with
  | nil => exact Nat.zero_le _
  | cons p ps =>
    have h1 := (prt_bal (h p List.mem_cons_self) (bare_bal f)).len
    have h2 := fl_len (w := w) hf (ps := ps) fun q hq => h q (List.mem_cons_of_mem _ hq)
    have h3 := cnt3 f hf
    show (p.2 ++ fl w (ps.map fun p => p.2)).length ≤ _
    rw [List.length_append, List.length_cons]
    omega
set_option maxHeartbeats 16000000 in
theorem bare_op {self : FnD} {f w : Nat} {xs : List D} {v : Int} {b : D} (hf : f ≤ 3) (hw : w < 3) (hv : v = (w : Nat)) (h2 : 2 ≤ xs.length) (h4 : xs.length ≤ 4) (hb : Pool b) (hx : ∀ x ∈ xs, ∀ b, Pool b → TkR (fun ts => Prt (Bare f) (w + 1) x ts) (self [b, x, .int (v + 1)])) : TkR (fun us => Bare (f + 1) (opN w xs) w us) (F_law_bare self [b, opN w xs, .int v]) := by
  have g0 : itemF (opN w xs) (.int 0) = some (.d (.str (tx (jo w)))) := rfl
  have g1 := parts_op hw xs
  have g2 : eqF (.str (tx (jo w))) (.str (Str.ofString "atleast")) = vb false := by
    rcases (show w = 0 ∨ w = 1 ∨ w = 2 by omega) with rfl | rfl | rfl <;> rfl
  have g3 : eqF (.str (tx (jo w))) (.str (Str.ofString "bit")) = vb false := by
    rcases (show w = 0 ∨ w = 1 ∨ w = 2 by omega) with rfl | rfl | rfl <;> rfl
  have g4 : eqF (.str (tx (jo w))) (.str (Str.ofString "answer")) = vb false := by
    rcases (show w = 0 ∨ w = 1 ∨ w = 2 by omega) with rfl | rfl | rfl <;> rfl
  have g5 : eqF (.str (tx (jo w))) (.str (Str.ofString "not")) = vb false := by
    rcases (show w = 0 ∨ w = 1 ∨ w = 2 by omega) with rfl | rfl | rfl <;> rfl
  have i1 : intF [.bl true] = vi 1 := rfl
  have i0 : intF [.bl false] = vi 0 := rfl
  have r1 : repF (.lst [.str (tx (jo w))]) (.int 1) = some (.fr (.lst (txs [jo w]))) := rfl
  have r0 : repF (.lst [.str (tx (jo w))]) (.int 0) = some (.fr (.lst [])) := rfl
  have r2 : repF (.lst [.str (Str.ofString ")")]) (.int 0) = some (.fr (.lst [])) := rfl
  have fin : ∀ ps : List (D × Tt), Pcs f (w + 1) xs xs.length ps → Bare (f + 1) (opN w xs) w (jnT (jo w) (ps.map fun p => p.2)) := fun ps h => by
    have hl := h.len (Nat.le_refl _)
    obtain ⟨e, hp⟩ := h
    rw [List.take_length] at e
    cases ps with
    | nil => rw [List.length_nil] at hl; omega
    | cons p ps =>
      rw [List.length_cons] at hl
      exact .inr (.inr (.inl ⟨w, p.1, p.2, ps, hw, rfl, by omega, by omega, hp p List.mem_cons_self, fun q hq => hp q (List.mem_cons_of_mem _ hq), by rw [← e]; rfl, rfl⟩))
  unfold TkR F_law_bare
  generalize hd : opN w xs = d at *
  walk_at "go"
  unfold g_law_bare
  walk_at "run0"
  with_reducible refine' v_run xs (fun i st => ∃ b ps s4, Pool b ∧ Pcs f (w + 1) xs i ps ∧ st = [.io b, .sh d, .sh (.int v), .sh (.lst (txs (jnT (jo w) (ps.map fun p => p.2)))), s4]) ?o0 ?o1 ?o2
  · exact ⟨b, [], _, hb, Pcs.zero, rfl⟩
  · rintro st ⟨b2, ps, s4, hb2, hps, rfl⟩
    have hlen := jn_len (w := jo w) hf hps.2
    have := hps.len (Nat.le_refl _)
    have ha : addF (.lst (txs (jnT (jo w) (ps.map fun p => p.2)))) (.lst []) = some (.fr (.lst (txs (jnT (jo w) (ps.map fun p => p.2))))) := (add_lst (by rw [txs_len, List.length_nil]; omega)).trans (by rw [List.append_nil])
    walk_at "run0"
    exact ⟨_, rfl, rfl, b2, _, rfl, rfl, hb2, fin ps hps⟩
  · rintro i x st hi ⟨b2, ps, s4, hb2, hps, rfl⟩
    have hil : i < xs.length := (List.getElem?_eq_some_iff.mp hi).1
    have hlen := jn_len (w := jo w) hf hps.2
    have hpl := hps.len (Nat.le_of_lt hil)
    have hxm := hx x (List.mem_of_getElem? hi)
    rcases ps with _ | ⟨p, ps⟩
    · have hnil : neF (.lst (txs (jnT (jo w) (([] : List (D × Tt)).map fun p => p.2)))) (.lst []) = vb false := rfl
      have a1 : addF (.lst (txs (jnT (jo w) (([] : List (D × Tt)).map fun p => p.2)))) (.lst []) = some (.fr (.lst [])) := add_lst (xs := []) (ys := []) (by decide)
      refine ⟨_, rfl, ?_⟩
      walk_at "run0"
      refine c_tk (b := b2) (hxm b2 hb2) (fun b' => by walk_at "setc") fun ts b3 hb3 hts => ?_
      have hl3 := (prt_bal hts (bare_bal f)).len
      have h2000 := cnt3 f hf
      have a2 : addF (.lst []) (.lst (txs ts)) = some (.fr (.lst (txs ts))) := add_lst (by rw [txs_len, List.length_nil]; omega)
      walk_at "run0"
      refine ⟨b3, [] ++ [(x, ts)], .sh x, hb3, hps.snoc hi hts, ?_⟩
      show _ = [_, _, _, Slot.sh (D.lst (txs (ts ++ []))), _]
      rw [List.append_nil]
    · have hne0 : jnT (jo w) ((p :: ps).map fun p => p.2) ≠ [] := fun z => prt_ne (hps.2 p List.mem_cons_self) (List.append_eq_nil_iff.mp z).1
      have hnil : neF (.lst (txs (jnT (jo w) ((p :: ps).map fun p => p.2)))) (.lst []) = vb true := (ne_txs (m := []) (fun t ht c hc => by have := jn_lt hw hps.2 t ht c hc; omega) (fun t ht => by cases ht)).trans (congrArg vb (bne_iff_ne.mpr hne0))
      have hsn := fun u => jnT_snoc (jo w) u ((p :: ps).map fun p => p.2) (by simp)
      generalize hj : jnT (jo w) ((p :: ps).map fun p => p.2) = js at *
      have a1 : addF (.lst (txs js)) (.lst (txs [jo w])) = some (.fr (.lst (txs (js ++ [jo w])))) := (add_lst (by rw [txs_len, txs_len]; show _ + 1 ≤ _; omega)).trans (by rw [txs_app2])
      refine ⟨_, rfl, ?_⟩
      walk_at "run0"
      refine c_tk (b := b2) (hxm b2 hb2) (fun b' => by walk_at "setc") fun ts b3 hb3 hts => ?_
      have hl3 := (prt_bal hts (bare_bal f)).len
      have h2000 := cnt3 f hf
      have a2 : addF (.lst (txs (js ++ [jo w]))) (.lst (txs ts)) = some (.fr (.lst (txs (js ++ [jo w] ++ ts)))) := (add_lst (by rw [txs_len, txs_len, List.length_append]; show _ + 1 + _ ≤ _; omega)).trans (by rw [txs_app2])
      walk_at "run0"
      refine ⟨b3, (p :: ps) ++ [(x, ts)], .sh x, hb3, hps.snoc hi hts, ?_⟩
      rw [List.map_append, show (([(x, ts)] : List (D × Tt)).map fun p => p.2) = [ts] from rfl, hsn]
set_option maxHeartbeats 16000000 in
theorem bare_atl {self : FnD} {f c : Nat} {xs : List D} {v : Int} {b : D} (hf : f ≤ 3) (hc : c < 10) (h2 : 1 ≤ xs.length) (h4 : xs.length ≤ 7) (hb : Pool b) (hx : ∀ x ∈ xs, ∀ b, Pool b → TkR (fun ts => Prt (Bare f) 0 x ts) (self [b, x, .int 0])) : TkR (fun us => Bare (f + 1) (atlN c xs) 4 us) (F_law_bare self [b, atlN c xs, .int v]) := by
  have g0 : itemF (atlN c xs) (.int 0) = some (.d (.str (Str.ofString "atleast"))) := rfl
  have g0b : itemF (atlN c xs) (.int 1) = some (.d (.lst (.int (c : Nat) :: xs))) := rfl
  have g0c : itemF (.lst (.int (c : Nat) :: xs)) (.int 0) = some (.d (.int (c : Nat))) := item_0 _ _
  have g1 := parts_atl c xs
  have g2 : eqF (.str (Str.ofString "atleast")) (.str (Str.ofString "atleast")) = vb true := rfl
  have g3 : eqF (.str (Str.ofString "atleast")) (.str (Str.ofString "bit")) = vb false := rfl
  have g4 : eqF (.str (Str.ofString "atleast")) (.str (Str.ofString "answer")) = vb false := rfl
  have g5 : eqF (.str (Str.ofString "atleast")) (.str (Str.ofString "not")) = vb false := rfl
  have g6 := (str_dig (p := c) hc).1
  have i1 : intF [.bl true] = vi 1 := rfl
  have r2 : repF (.lst [.str (Str.ofString ")")]) (.int 1) = some (.fr (.lst (txs [[41]]))) := rfl
  have fin : ∀ ps : List (D × Tt), Pcs f 0 xs xs.length ps → Bare (f + 1) (atlN c xs) 4 ([FM.wAtl, [40], [48 + c]] ++ fl [44] (ps.map fun p => p.2) ++ [[41]]) := fun ps h => by
    have hl := h.len (Nat.le_refl _)
    obtain ⟨e, hp⟩ := h
    rw [List.take_length] at e
    exact .inr (.inr (.inr ⟨c, ps, hc, rfl, by omega, by omega, hp, by rw [← e], rfl⟩))
  unfold TkR F_law_bare
  generalize hd : atlN c xs = d at *
  walk_at "go"
  unfold g_law_bare
  walk_at "run0"
  with_reducible refine' v_run xs (fun i st => ∃ b ps s4, Pool b ∧ Pcs f 0 xs i ps ∧ st = [.io b, .sh d, .sh (.int v), .sh (.lst (txs ([FM.wAtl, [40], [48 + c]] ++ fl [44] (ps.map fun p => p.2)))), s4]) ?o0 ?o1 ?o2
  · exact ⟨b, [], _, hb, Pcs.zero, rfl⟩
  · rintro st ⟨b2, ps, s4, hb2, hps, rfl⟩
    have hlen := fl_len (w := [44]) hf hps.2
    have := hps.len (Nat.le_refl _)
    have ha : addF (.lst (txs ([FM.wAtl, [40], [48 + c]] ++ fl [44] (ps.map fun p => p.2)))) (.lst (txs [[41]])) = some (.fr (.lst (txs ([FM.wAtl, [40], [48 + c]] ++ fl [44] (ps.map fun p => p.2) ++ [[41]])))) := (add_lst (by rw [txs_len, txs_len, List.length_append]; show 3 + _ + 1 ≤ _; omega)).trans (by rw [txs_app2])
    walk_at "run0"
    exact ⟨_, rfl, rfl, b2, _, rfl, rfl, hb2, fin ps hps⟩
  · rintro i x st hi ⟨b2, ps, s4, hb2, hps, rfl⟩
    have hil : i < xs.length := (List.getElem?_eq_some_iff.mp hi).1
    have hlen := fl_len (w := [44]) hf hps.2
    have hpl := hps.len (Nat.le_of_lt hil)
    have hxm := hx x (List.mem_of_getElem? hi)
    have hsn : ∀ u, [FM.wAtl, [40], [48 + c]] ++ fl [44] ((ps ++ [(x, u)]).map fun p => p.2) = [FM.wAtl, [40], [48 + c]] ++ fl [44] (ps.map fun p => p.2) ++ [[44]] ++ u := fun u => by
      rw [List.map_append, show (([(x, u)] : List (D × Tt)).map fun p => p.2) = [u] from rfl, fl_snoc, List.append_assoc, List.append_assoc]
      rfl
    have hjl : ([FM.wAtl, [40], [48 + c]] ++ fl [44] (ps.map fun p => p.2)).length ≤ 20000 := by rw [List.length_append]; show 3 + _ ≤ _; omega
    generalize hj : [FM.wAtl, [40], [48 + c]] ++ fl [44] (ps.map fun p => p.2) = js at *
    have a1 : addF (.lst (txs js)) (.lst [.str (Str.ofString ",")]) = some (.fr (.lst (txs (js ++ [[44]])))) := (add_lst (by rw [txs_len]; show _ + 1 ≤ _; omega)).trans (by rw [← txs_app2]; rfl)
    refine ⟨_, rfl, ?_⟩
    walk_at "run0"
    refine c_tk (b := b2) (hxm b2 hb2) (fun b' => by walk_at "setc") fun ts b3 hb3 hts => ?_
    have hl3 := (prt_bal hts (bare_bal f)).len
    have h2000 := cnt3 f hf
    have a2 : addF (.lst (txs (js ++ [[44]]))) (.lst (txs ts)) = some (.fr (.lst (txs (js ++ [[44]] ++ ts)))) := (add_lst (by rw [txs_len, txs_len, List.length_append]; show _ + 1 + _ ≤ _; omega)).trans (by rw [txs_app2])
    walk_at "run0"
    refine ⟨b3, ps ++ [(x, ts)], .sh x, hb3, hps.snoc hi hts, ?_⟩
    rw [hsn]
theorem node_tokens {m : Nat} (hm : m ≤ 6) : ∀ (n f : Nat), f < n → f ≤ 3 → ∀ (d : D), Nd m f d → ∀ (lv : Nat) (v : Int) (b : D), v = (lv : Nat) → Pool b → TkR (fun ts => Prt (Bare f) lv d ts) (F_law_tokens n [b, d, .int v])
  | 0, _, h, _, _, _, _, _, _, _, _ => absurd h (Nat.not_lt_zero _)
  | n + 1, f, hf, hf3, d, hd, lv, v, b, hv, hb => by
    have lf : Leaf m d → TkR (fun ts => Prt (Bare f) lv d ts) (F_law_tokens (n + 1) [b, d, .int v]) := fun h => by
      rcases h with ⟨i, hi, rfl⟩ | ⟨i, hi, rfl⟩
      · exact tokens_walk hf3 hv (lev_bit i) hb fun b hb => fr_imp (bare_bit (by omega) hb) (fun a ios ⟨b', ts, e1, e2, h1, h2⟩ => ⟨b', ts, e1, e2, h1, lf_bare h2⟩) fun _ _ h => h
      · exact tokens_walk hf3 hv (lev_ans i) hb fun b hb => fr_imp (bare_ans hi hb) (fun a ios ⟨b', ts, e1, e2, h1, h2⟩ => ⟨b', ts, e1, e2, h1, lf_bare h2⟩) fun _ _ h => h
    cases f with
    | zero => exact lf hd
    | succ f =>
      have ih := node_tokens hm n f (by omega) (by omega)
      rcases hd with hd | ⟨x, hx, rfl⟩ | ⟨w, xs, hw, h2, h4, hx, rfl⟩ | ⟨c, xs, hc, h2, h4, hx, rfl⟩
      · exact lf hd
      · exact tokens_walk hf3 hv (lev_not x) hb fun b hb => bare_not (by omega) hb fun b hb => ih x hx 3 3 b rfl hb
      · exact tokens_walk hf3 hv (lev_op hw xs) hb fun b hb => bare_op (by omega) hw rfl h2 h4 hb fun x hxm b hb => ih x (hx x hxm) (w + 1) _ b (by omega) hb
      · exact tokens_walk hf3 hv (lev_atl c xs) hb fun b hb => bare_atl (by omega) hc h2 h4 hb fun x hxm b hb => ih x (hx x hxm) 0 0 b rfl hb
end K22
open PySem PySem.Spec PyProof.Rows L2 DL Q
namespace K22
open FM
theorem rep_sp {r : Int} (h0 : 0 ≤ r) (h1 : r ≤ 8) : repF (.str (Str.ofString " ")) (.int r) = vs (tx (List.replicate r.toNat 32)) := rep_ch (c := 32) h0 h1
/-- a walk that draws and hands back a text -/
def TxR (P : List Nat → Prop) (f : FR) : Prop := f.sat (fun a ios => ∃ b' s, ios = [b'] ∧ a = .d (.str (tx s)) ∧ Pool b' ∧ P s) (fun _ _ => False)
theorem c_tx {b : D} {P : List Nat → Prop} {f : FR} {st2 : DS} {j : Nat} {st3 : D → DS} {Q : Val → DS → Prop} {E : Ex → List D → Prop} (hf : TxR P f) (hs : ∀ b', setC st2 j b' = st3 b')
    (h : ∀ s b', Pool b' → P s → Q (.d (.str (tx s))) (st3 b')) : f.sat (fun a ios => ∃ st3, back [j] ios st2 = some st3 ∧ Q a st3) E := by
  refine fr_imp hf (fun a ios h' => ?_) fun _ _ h => h.elim
  obtain ⟨b', ts, rfl, rfl, hb, hp⟩ := h'
  exact ⟨_, back1 (hs b'), h ts b' hb hp⟩
theorem nin_marks (t : List Nat) : ∃ x : Bool, notInT (.str (tx t)) (.str (Str.ofString "(),")) = vb x := ⟨_, rfl⟩
theorem txs_it {ts : Tt} {k : Nat} {t : List Nat} (h : ts[k]? = some t) : itemF (.lst (txs ts)) (.int (k : Nat)) = some (.d (.str (tx t))) := by
  show (atI (txs ts) ((k : Nat) : Int)).map Val.d = _
  rw [atI_nat (v := .str (tx t)) (by unfold txs; rw [List.getElem?_map, h]; rfl)]
  rfl
set_option maxHeartbeats 16000000 in
theorem spaced_ok {ts : Tt} {d : Int} {n : Nat} {b : D} (hb : Pool b) (hd : 0 ≤ d) (hn : n ≤ 5000) (h : Tks d n ts) : TxR (Txt d (9 * n + 2)) (F_law_spaced [b, .lst (txs ts)]) := by
  have hl := len_lst (xs := txs ts) (by rw [txs_len]; have := h.len; omega)
  rw [txs_len] at hl
  have hr := rng_small (m := (ts.length : Nat)) (by omega) (by have := h.len; omega)
  rw [Int.toNat_natCast] at hr
  have i1 : intF [.bl true] = vi 1 := rfl
  have i0 : intF [.bl false] = vi 0 := rfl
  unfold TxR F_law_spaced
  walk_at "go"
  unfold g_law_spaced
  walk_at "run0"
  walk_at "draw"
  intro r b1 h0 h1 hb1
  have hrp := rep_sp (r := r) h0 (by omega)
  walk_at "run0"
  with_reducible refine' v_run (rng 0 ts.length) (fun i st => ∃ b u s4 s5, Pool b ∧ Spc d ts i u ∧ st = [.io b, .sh (.lst (txs ts)), .sh (.str (tx u)), .sh (.str (Str.ofString "(),")), s4, s5]) ?o0 ?o1 ?o2
  · exact ⟨b1, _, _, _, hb1, Spc.zero hd (j := r.toNat) (by omega), rfl⟩
  · rintro st ⟨b2, u, s4, s5, hb2, hu, rfl⟩
    rw [rng_len] at hu
    walk_at "run0"
    walk_at "draw"
    intro r2 b3 h2 h3 hb3
    have hrp := rep_sp (r := r2) h2 (by omega)
    have hfin := hu.fin h (j := r2.toNat) (by omega)
    have hadd : addF (.str (tx u)) (.str (tx (List.replicate r2.toNat 32))) = vs (tx (u ++ List.replicate r2.toNat 32)) := (add_s (x := tx u) (fits_le (by rw [tx_len, tx_len, List.length_replicate]; have := hu.len; have := h.len; omega))).trans (congrArg vs (app_tx _ _))
    walk_at "run0"
    exact ⟨_, rfl, rfl, b3, _, rfl, rfl, hb3, hfin⟩
  · rintro i x st hi ⟨b2, u, s4, s5, hb2, hu, rfl⟩
    obtain ⟨rfl, hil⟩ := rng_get hi
    have hti : ts[i]? = some ts[i] := List.getElem?_eq_getElem hil
    have hit := txs_it hti
    obtain ⟨x1, hx1⟩ := nin_marks ts[i]
    have hgt : gtF (.int (i : Nat)) (.int 0) = vb (decide (0 < i)) := by
      show vb (decide ((i : Int) > 0)) = _
      exact congrArg vb (decide_eq_decide.mpr (by omega))
    have hul := hu.len
    have htl := h.len
    have htk := (h.ok ts[i] (List.mem_of_getElem? hti)).1
    have key : ∀ (b5 : D) (e r2 : Int), (e = 0 ∨ e = 1) → 0 ≤ r2 → r2 < 2 → ∃ w, Spc d ts (i + 1) w ∧ repF (.str (Str.ofString " ")) (.int (e + r2)) = vs (tx (List.replicate (e + r2).toNat 32)) ∧ addF (.str (tx u)) (.str (tx (List.replicate (e + r2).toNat 32))) = vs (tx (u ++ List.replicate (e + r2).toNat 32)) ∧ addF (.str (tx (u ++ List.replicate (e + r2).toNat 32))) (.str (tx ts[i])) = vs (tx w) := fun b5 e r2 he h2 h3 =>
      ⟨u ++ List.replicate (e + r2).toNat 32 ++ ts[i], hu.step h hti (by omega), rep_sp (by omega) (by omega), (add_s (x := tx u) (fits_le (by rw [tx_len, tx_len, List.length_replicate]; omega))).trans (congrArg vs (app_tx _ _)), (add_s (fits_le (by rw [tx_len, tx_len, List.length_append, List.length_replicate]; omega))).trans (congrArg vs (app_tx _ _))⟩
    have key0 : ∀ (b5 : D) (r2 : Int), 0 ≤ r2 → r2 < 2 → ∃ w, Spc d ts (i + 1) w ∧ repF (.str (Str.ofString " ")) (.int (0 + r2)) = vs (tx (List.replicate (0 + r2).toNat 32)) ∧ addF (.str (tx u)) (.str (tx (List.replicate (0 + r2).toNat 32))) = vs (tx (u ++ List.replicate (0 + r2).toNat 32)) ∧ addF (.str (tx (u ++ List.replicate (0 + r2).toNat 32))) (.str (tx ts[i])) = vs (tx w) := fun b5 r2 h2 h3 => key b5 0 r2 (.inl rfl) h2 h3
    refine ⟨_, rfl, ?_⟩
    by_cases h0i : 0 < i
    · rw [decide_eq_true h0i] at hgt
      have htp : ts[i - 1]? = some ts[i - 1] := List.getElem?_eq_getElem (by omega)
      have hip := txs_it htp
      rw [show ((i - 1 : Nat) : Int) = (i : Int) - 1 by omega] at hip
      obtain ⟨x2, hx2⟩ := nin_marks ts[i - 1]
      cases x1 with
      | false =>
        walk_at "run0"
        walk_at "draw"
        intro r2 b3 h2 h3 hb3
        obtain ⟨w, hw, k1, k2, k3⟩ := key0 b3 r2 h2 h3
        walk_at "run0"
        exact ⟨b3, w, _, _, hb3, hw, rfl⟩
      | true =>
        cases x2 with
        | false =>
          walk_at "run0"
          walk_at "draw"
          intro r2 b3 h2 h3 hb3
          obtain ⟨w, hw, k1, k2, k3⟩ := key0 b3 r2 h2 h3
          walk_at "run0"
          exact ⟨b3, w, _, _, hb3, hw, rfl⟩
        | true =>
          walk_at "run0"
          walk_at "draw"
          intro r2 b3 h2 h3 hb3
          obtain ⟨w, hw, k1, k2, k3⟩ := key b3 1 r2 (.inr rfl) h2 h3
          walk_at "run0"
          exact ⟨b3, w, _, _, hb3, hw, rfl⟩
    · rw [decide_eq_false h0i] at hgt
      walk_at "run0"
      walk_at "draw"
      intro r2 b3 h2 h3 hb3
      obtain ⟨w, hw, k1, k2, k3⟩ := key0 b3 r2 h2 h3
      walk_at "run0"
      exact ⟨b3, w, _, _, hb3, hw, rfl⟩
/-! ### changes -/
theorem slL_take {ts : Tt} {r : Int} (h : 0 ≤ r) : slF (.lst (txs ts)) none (some r) = some (.fr (.lst (txs (ts.take r.toNat)))) := by
  have := sl_lst (txs ts) none (some r)
  rw [show r = ((r.toNat : Nat) : Int) by omega] at this ⊢
  rw [this, cut_take]
  unfold txs
  rw [List.map_take]
  rfl
theorem slL_drop {ts : Tt} {r : Int} (h : 0 ≤ r) : slF (.lst (txs ts)) (some r) none = some (.fr (.lst (txs (ts.drop r.toNat)))) := by
  have := sl_lst (txs ts) (some r) none
  rw [show r = ((r.toNat : Nat) : Int) by omega] at this ⊢
  rw [this, cut_drop]
  unfold txs
  rw [List.map_drop]
  rfl
theorem slL_mid {ts : Tt} {r q : Int} (h : 0 ≤ r) (hq : r ≤ q) : slF (.lst (txs ts)) (some r) (some q) = some (.fr (.lst (txs ((ts.drop r.toNat).take (q.toNat - r.toNat))))) := by
  have e := sl_lst (txs ts) (some r) (some q)
  rw [show r = ((r.toNat : Nat) : Int) by omega, show q = ((q.toNat : Nat) : Int) by omega] at e ⊢
  rw [e]
  have hc : DL.cut (txs ts) (some ((r.toNat : Nat) : Int)) (some ((q.toNat : Nat) : Int)) = txs ((ts.drop r.toNat).take (q.toNat - r.toNat)) := by
    unfold DL.cut
    rw [HT.sIx_nat, HT.sIx_nat]
    unfold txs
    rw [List.length_map, List.map_take, List.map_drop]
    rcases Nat.lt_or_ge ts.length r.toNat with hr | hr
    · rw [Nat.min_eq_right (Nat.le_of_lt hr), List.drop_eq_nil_of_le (by rw [List.length_map]; exact Nat.le_refl _), List.drop_eq_nil_of_le (by rw [List.length_map]; omega), List.take_nil, List.take_nil]
    · rw [Nat.min_eq_left hr]
      refine List.take_eq_take_iff.mpr ?_
      rw [List.length_drop, List.length_map]
      omega
  rw [hc]
  rfl
end K22
open PySem PySem.Spec PyProof.Rows L2 DL Q
namespace K22
open FM
theorem wrap_snoc : ∀ (k : Nat) (x : D), wrapN (k + 1) x = .tup [.str (Str.ofString "not"), .lst [wrapN k x]]
  | 0, x => rfl
  | k + 1, x => wrap_snoc k (.tup [.str (Str.ofString "not"), .lst [x]])
theorem nots_yes {t : Tk} {ts : List Tk} (h : t.1 = FM.wNot) : nots (t :: ts) = ((nots ts).1 + 1, (nots ts).2) := by
  show (if t.1 = FM.wNot then _ else _) = _
  rw [if_pos h]
theorem nots_no {t : Tk} {ts : List Tk} (h : t.1 ≠ FM.wNot) : nots (t :: ts) = (0, t :: ts) := by
  show (if t.1 = FM.wNot then _ else _) = _
  rw [if_neg h]
theorem nots_drop {T : List Tk} : ∀ (j p : Nat), T.length - p = j → p ≤ T.length → (nots (T.drop p)).2 = T.drop (p + (nots (T.drop p)).1) ∧ p + (nots (T.drop p)).1 ≤ T.length ∧ hd (nots (T.drop p)).2 ≠ FM.wNot
  | 0, p, hj, hp => by
    rw [List.drop_eq_nil_of_le (by omega)]
    exact ⟨(List.drop_eq_nil_of_le (by omega)).symm, by show p + 0 ≤ _; omega, by decide⟩
  | j + 1, p, hj, hp => by
    have hl : p < T.length := by omega
    rw [List.drop_eq_getElem_cons hl]
    by_cases h : T[p].1 = FM.wNot
    · rw [nots_yes h]
      obtain ⟨h1, h2, h3⟩ := nots_drop (T := T) j (p + 1) (by omega) (by omega)
      refine ⟨by rw [h1]; congr 1; dsimp only; omega, by dsimp only; omega, h3⟩
    · rw [nots_no h]
      exact ⟨by rw [← List.drop_eq_getElem_cons hl]; rfl, by dsimp only; omega, h⟩
theorem nots_step {T : List Tk} {p : Nat} (hl : p < T.length) (h : hd (T.drop p) = FM.wNot) : (nots (T.drop p)).1 = (nots (T.drop (p + 1))).1 + 1 := by
  rw [List.drop_eq_getElem_cons hl] at h ⊢
  rw [nots_yes h]
theorem nots_zero {T : List Tk} {p : Nat} (h : hd (T.drop p) ≠ FM.wNot) : (nots (T.drop p)).1 = 0 := by
  cases e : T.drop p with
  | nil => rfl
  | cons t ts =>
    rw [e] at h
    rw [nots_no h]
set_option maxHeartbeats 8000000 in
theorem turned_ok {T : List Tk} {L p : Nat} {self : FnD} {ps : Nat → List Tk → R} (h : Rd T L) (hp : p ≤ T.length)
    (ha : ∀ p, p ≤ T.length → hd (T.drop p) ≠ FM.wNot → toF T L (pAtom L ps (T.drop p)) (F_Reader_atom self [rdD T L p])) : toF T L (pTurn L ps (T.drop p)) (F_Reader_turned self [rdD T L p]) := by
  obtain ⟨n1, n2, n3⟩ := nots_drop (T.length - p) p rfl hp
  have hlen := h.len
  unfold pTurn
  rw [n1] at n3 ⊢
  have ha := ha (p + (nots (T.drop p)).1) n2 n3
  have hhere := fun p => here_ok (p := p) h
  have heq := fun p => eq_w (hd (T.drop p)) FM.wNot (Str.ofString "not")
  have hinc := rd_inc
  generalize hc : (nots (T.drop p)).1 = c at *
  cases e : pAtom L ps (T.drop (p + c)) with
  | none => exact trivial
  | some q0 =>
  rw [e] at ha
  cases q0 with
  | error a =>
    obtain ⟨q, ha⟩ := ha
    refine ⟨q, ?_⟩
    refine eq_of_satE ?_
    unfold F_Reader_turned
    unfold rdD at *
    generalize T.map tkD = ds at *
    walk_at "go"
    unfold g_Reader_turned
    walk_at "run0"
    with_reducible refine' v_while (fun m st => ∃ q j, m = T.length - q ∧ q ≤ T.length ∧ q = p + j ∧ j + (nots (T.drop q)).1 = c ∧ st = [.io (.ins "Reader" [("tokens", .lst ds), ("length", .int (L : Nat)), ("place", .int (q : Nat))]), .sh (.int (j : Nat)), .no, .no]) (T.length - p) ?w0 ?w1 ?w2
    · exact ⟨p, 0, rfl, hp, rfl, by rw [hc]; omega, rfl⟩
    · omega
    · rintro m st ⟨q', j, rfl, hq, hpj, hcj, rfl⟩
      have hh := hhere q'
      have heq := heq q'
      have hinc1 := hinc q'
      have hinc2 := hinc j
      have hput := put_place (.lst ds) (.int (L : Nat)) (.int (q' : Nat)) (.int ((q' + 1 : Nat) : Int))
      by_cases g : hd (T.drop q') = FM.wNot
      · rw [show (hd (T.drop q') == FM.wNot) = true from beq_iff_eq.mpr g] at heq
        have hlt : q' < T.length := hd_lt fun z => by rw [g] at z; cases z
        have hst := nots_step hlt g
        walk_at "run0"
        exact ⟨_, by omega, q' + 1, j + 1, rfl, by omega, by omega, by omega, by rw [← hinc2]⟩
      · rw [show (hd (T.drop q') == FM.wNot) = false from beq_eq_false_iff_ne.mpr g] at heq
        have hz := nots_zero g
        have hjc : j = c := by omega
        subst hjc
        subst hpj
        walk_at "run0"
        exact ⟨_, rfl, rfl, rfl⟩
  | ok y =>
    obtain ⟨x, r⟩ := y
    have ha : F_Reader_atom self [rdD T L (p + c)] = .ok (.d x) [rdD T L (T.length - r.length)] := ha
    show _ = FR.ok (.d (wrapN c x)) [rdD T L (T.length - r.length)]
    refine eq_of_sat ?_
    have hr := rng_small (m := (c : Nat)) (by omega) (by omega)
    rw [Int.toNat_natCast] at hr
    unfold F_Reader_turned
    unfold rdD at *
    generalize T.map tkD = ds at *
    walk_at "go"
    unfold g_Reader_turned
    walk_at "run0"
    with_reducible refine' v_while (fun m st => ∃ q j, m = T.length - q ∧ q ≤ T.length ∧ q = p + j ∧ j + (nots (T.drop q)).1 = c ∧ st = [.io (.ins "Reader" [("tokens", .lst ds), ("length", .int (L : Nat)), ("place", .int (q : Nat))]), .sh (.int (j : Nat)), .no, .no]) (T.length - p) ?v0 ?v1 ?v2
    · exact ⟨p, 0, rfl, hp, rfl, by rw [hc]; omega, rfl⟩
    · omega
    · rintro m st ⟨q, j, rfl, hq, hpj, hcj, rfl⟩
      have hh := hhere q
      have heq := heq q
      have hinc1 := hinc q
      have hinc2 := hinc j
      have hput := put_place (.lst ds) (.int (L : Nat)) (.int (q : Nat)) (.int ((q + 1 : Nat) : Int))
      by_cases g : hd (T.drop q) = FM.wNot
      · rw [show (hd (T.drop q) == FM.wNot) = true from beq_iff_eq.mpr g] at heq
        have hlt : q < T.length := hd_lt fun z => by rw [g] at z; cases z
        have hst := nots_step hlt g
        walk_at "run0"
        exact ⟨_, by omega, q + 1, j + 1, rfl, by omega, by omega, by omega, by rw [← hinc2]⟩
      · rw [show (hd (T.drop q) == FM.wNot) = false from beq_eq_false_iff_ne.mpr g] at heq
        have hz := nots_zero g
        have hjc : j = c := by omega
        subst hjc
        subst hpj
        walk_at "run0"
        with_reducible refine' v_run (rng 0 j) (fun i st => ∃ s3, st = [.io (.ins "Reader" [("tokens", .lst ds), ("length", .int (L : Nat)), ("place", .int ((T.length - r.length : Nat) : Int))]), .sh (.int (j : Nat)), .sh (wrapN i x), s3]) ?u0 ?u1 ?u2
        · exact ⟨_, rfl⟩
        · intro st hI
          rw [rng_len] at hI
          obtain ⟨s3, rfl⟩ := hI
          walk_at "run0"
          exact ⟨_, rfl, rfl, rfl, rfl⟩
        · intro i d st hd hI
          obtain ⟨s3, rfl⟩ := hI
          refine ⟨_, by walk_at "tgt", ?_⟩
          walk_at "run0"
          exact ⟨_, by rw [wrap_snoc]⟩
end K22
open PySem PySem.Spec PyProof.Rows L2 DL Q
namespace K22
open FM
theorem neNN (i j : Nat) : neF (.int (i : Nat)) (.int (j : Nat)) = vb (i != j) := by
  show vb (!(((i : Nat) : Int) == ((j : Nat) : Int))) = _
  congr 1
  rw [show (i != j) = !(i == j) from rfl]
  congr 1
  rw [Bool.eq_iff_iff, beq_iff_eq, beq_iff_eq]
  omega
theorem dig_len {t : List Nat} (h : digT t = true) : ∃ c, t = [c] ∧ 48 ≤ c ∧ c ≤ 57 := by
  unfold digT at h
  split at h
  · rename_i c
    rw [Bool.and_eq_true, Nat.ble_eq, Nat.ble_eq] at h
    exact ⟨c, rfl, h.1, h.2⟩
  · cases h
theorem dig_one {c : Nat} : digT [c] = (Nat.ble 48 c && Nat.ble c 57) := rfl
theorem nin_dig (c : Nat) : notInF (.str (tx [c])) (.str (Str.ofString "0123456789")) = vb (!digT [c]) := by
  have h : notInF (ch c) (.str (Str.ofString "0123456789")) = vb (!decide (c ∈ (Str.ofString "0123456789").cps.toList)) := nin_ch c _
  refine h.trans (congrArg (fun b => vb (!b)) ?_)
  rw [dig_one, Bool.eq_iff_iff, decide_eq_true_iff, Bool.and_eq_true, Nat.ble_eq, Nat.ble_eq]
  rw [show (Str.ofString "0123456789").cps.toList = [48, 49, 50, 51, 52, 53, 54, 55, 56, 57] by decide +kernel]
  simp only [List.mem_cons, List.not_mem_nil, or_false]
  omega
theorem int_dig {t : List Nat} (h : digT t = true) : int2F [.str (tx t)] = vi (dg t : Nat) := by
  obtain ⟨c, rfl, h1, h2⟩ := dig_len h
  rcases (show c = 48 ∨ c = 49 ∨ c = 50 ∨ c = 51 ∨ c = 52 ∨ c = 53 ∨ c = 54 ∨ c = 55 ∨ c = 56 ∨ c = 57 by omega) with rfl | rfl | rfl | rfl | rfl | rfl | rfl | rfl | rfl | rfl <;> kernel_rfl
theorem len_tk {t : List Nat} (h : t.length ≤ 100000) : lenF [.str (tx t)] = vi (t.length : Nat) := by
  have := len_s (x := tx t) (fits_le (by rw [tx_len]; omega))
  rw [tx_len] at this
  exact this
theorem hd_len {T : List Tk} {L p : Nat} (h : Rd T L) : (hd (T.drop p)).length ≤ 100000 := by
  cases e : T.drop p with
  | nil => exact Nat.zero_le _
  | cons t r => exact h.tok t (List.mem_of_mem_drop (by rw [e]; exact List.mem_cons_self))
theorem takes_appF {st st2 : DS} {as : List Val} {ys : List D} : ∀ {xs : List D}, takes st as = some (ys, st2) → takes st (xs.map .d ++ as) = some (xs ++ ys, st2)
  | [], h => h
  | x :: xs, h => by
    show (match takes st (xs.map .d ++ as) with
      | none => none
      | some (zs, st2) => some (x :: zs, st2)) = _
    rw [takes_appF h]
    rfl
theorem takes_dF {st st2 : DS} {x : D} {as : List Val} {ys : List D} (h : takes st as = some (ys, st2)) : takes st (.d x :: as) = some (x :: ys, st2) := by
  show (match takes st as with | none => none | some (xs, st2) => some (x :: xs, st2)) = _
  rw [h]
set_option maxHeartbeats 16000000 in
theorem counted_ok {T : List Tk} {L p0 : Nat} {self : FnD} {ps : Nat → List Tk → R} (h : Rd T L) (hs : SelfOk T L self ps) (hsuf : SufS ps) (hp : p0 ≤ T.length) (hw : hd (T.drop p0) = wAtl) : toF T L (pCount L ps (T.drop p0)) (F_Reader_counted self [rdD T L p0]) := by
  have n1 := need_s (p := p0) wAtl (Str.ofString "atleast") h
  rw [if_pos hw] at n1
  have hl1 : p0 < T.length := hd_lt fun z => by rw [z] at hw; cases hw
  have n2 := need_s (p := p0 + 1) [40] (Str.ofString "(") h
  have hlen := h.len
  unfold pCount
  rw [tail_drop, tail_drop, tail_drop, tail_drop]
  by_cases d1 : hd (T.drop (p0 + 1)) ≠ [40]
  · rw [if_pos d1]
    rw [if_neg d1] at n2
    refine ⟨p0 + 1, ?_⟩
    refine eq_of_satE ?_
    clear hs hsuf
    unfold F_Reader_counted
    unfold rdD at *
    generalize T.map tkD = ds at *
    walk_at "go"
    unfold g_Reader_counted
    walk_at "run0"
    exact ⟨_, rfl, rfl, rfl⟩
  rw [if_neg d1]
  have d1 : hd (T.drop (p0 + 1)) = [40] := Classical.not_not.mp d1
  rw [if_pos d1] at n2
  have hl2 : p0 + 1 < T.length := hd_lt fun z => by rw [z] at d1; cases d1
  have hh2 := here_ok (p := p0 + 1 + 1) h
  have hf2 := fault_ok (p := p0 + 1 + 1) h
  have hm2 := mk_fault (flt_le (p := p0 + 1 + 1) h)
  have hln := len_tk (hd_len (p := p0 + 1 + 1) h)
  have hne : neF (.int ((hd (T.drop (p0 + 1 + 1))).length : Nat)) (.int 1) = vb ((hd (T.drop (p0 + 1 + 1))).length != 1) := neNN _ 1
  by_cases d2 : digT (hd (T.drop (p0 + 1 + 1))) = false
  · rw [if_pos d2]
    refine ⟨p0 + 1 + 1, ?_⟩
    refine eq_of_satE ?_
    clear hs hsuf
    by_cases d4 : (hd (T.drop (p0 + 1 + 1))).length = 1
    · obtain ⟨c, hc⟩ := List.length_eq_one_iff.mp d4
      rw [hc] at hne hln hh2 d2
      have hni := nin_dig c
      rw [d2] at hni
      rw [show (([c] : List Nat).length != 1) = false from rfl] at hne
      unfold F_Reader_counted
      unfold rdD at *
      generalize T.map tkD = ds at *
      walk_at "go"
      unfold g_Reader_counted
      walk_at "run0"
      exact ⟨_, rfl, rfl, rfl⟩
    · rw [show ((hd (T.drop (p0 + 1 + 1))).length != 1) = true from bne_iff_ne.mpr d4] at hne
      unfold F_Reader_counted
      unfold rdD at *
      generalize T.map tkD = ds at *
      walk_at "go"
      unfold g_Reader_counted
      walk_at "run0"
      exact ⟨_, rfl, rfl, rfl⟩
  rw [if_neg d2]
  have d2 : digT (hd (T.drop (p0 + 1 + 1))) = true := by simpa using d2
  have hct := int_dig d2
  obtain ⟨c, hc, hc1, hc2⟩ := dig_len d2
  have hni := nin_dig c
  rw [← hc, d2] at hni
  rw [show ((hd (T.drop (p0 + 1 + 1))).length != 1) = false by rw [hc]; rfl] at hne
  have hl3 : p0 + 1 + 1 < T.length := hd_lt fun z => by rw [z] at hc; cases hc
  have hi3 := rd_inc (p0 + 1 + 1)
  have n3 := need_s (p := p0 + 1 + 1 + 1) [44] (Str.ofString ",") h
  by_cases d3 : hd (T.drop (p0 + 1 + 1 + 1)) ≠ [44]
  · rw [if_pos d3]
    rw [if_neg d3] at n3
    refine ⟨p0 + 1 + 1 + 1, ?_⟩
    refine eq_of_satE ?_
    clear hs hsuf
    have hput := put_place (.lst (T.map tkD)) (.int (L : Nat)) (.int ((p0 + 1 + 1 : Nat) : Int)) (.int ((p0 + 1 + 1 + 1 : Nat) : Int))
    unfold F_Reader_counted
    unfold rdD at *
    generalize T.map tkD = ds at *
    walk_at "go"
    unfold g_Reader_counted
    walk_at "run0"
    exact ⟨_, rfl, rfl, rfl⟩
  rw [if_neg d3]
  rw [if_pos (Classical.not_not.mp d3)] at n3
  have hl4 : p0 + 1 + 1 + 1 < T.length := hd_lt fun z => d3 (by rw [z]; decide)
  have hput0 := put_place (.lst (T.map tkD)) (.int (L : Nat)) (.int ((p0 + 1 + 1 : Nat) : Int)) (.int ((p0 + 1 + 1 + 1 : Nat) : Int))
  rcases sel_ok hs 0 (by decide) (p := p0 + 1 + 1 + 1 + 1) hl4 0 rfl with e | ⟨a, q, e, e2⟩ | ⟨x, r, e, e2⟩
  · rw [e]
    exact trivial
  · rw [e]
    refine ⟨q, ?_⟩
    refine eq_of_satE ?_
    clear hs hsuf
    unfold F_Reader_counted
    unfold rdD at *
    generalize T.map tkD = ds at *
    walk_at "go"
    unfold g_Reader_counted
    walk_at "run0"
    exact ⟨_, rfl, rfl, rfl⟩
  rw [e]
  have hr := (hsuf _ _ _ _ e).trans (List.drop_suffix (p0 + 1 + 1 + 1 + 1) T)
  have hd1 := drop_of hr
  dsimp only
  rw [show pLoop ps [44] 0 r.length [x] r = pLoop ps [44] 0 r.length [x] (T.drop (T.length - r.length)) by rw [hd1]]
  cases hq : pLoop ps [44] 0 r.length [x] (T.drop (T.length - r.length)) with
  | none => exact trivial
  | some q0 =>
  have hrl : r.length ≤ T.length := hr.length_le
  have hkk : (T.drop (T.length - r.length)).length ≤ r.length := by rw [hd1]; exact Nat.le_refl _
  generalize hp1 : T.length - r.length = p1 at *
  have hlc := fun p k acc hp hk he => loop_cases (L := L) (p := p) (k := k) (acc := acc) (q0 := q0) hs hsuf (lv := 0) (by decide) (by decide : ([44] : List Nat) ≠ []) hp hk he 0 rfl
  have hhere := fun p => here_ok (p := p) h
  have hneed := fun p => need_s (p := p) [41] (Str.ofString ")") h
  clear hs hsuf
  have heq := fun p => eq_w (hd (T.drop p)) [44] (Str.ofString ",")
  have hinc := rd_inc
  have hx0 : ([x] : List D).length ≤ p1 + 1 := by rw [List.length_singleton]; omega
  have hp1' : p1 ≤ T.length := by omega
  cases q0 with
  | error a =>
    refine ex_of_sat ?_
    unfold F_Reader_counted
    unfold rdD at *
    generalize T.map tkD = ds at *
    walk_at "go"
    unfold g_Reader_counted
    walk_at "run0"
    with_reducible refine' v_while (fun m st => ∃ acc p k, m = T.length - p ∧ p ≤ T.length ∧ (T.drop p).length ≤ k ∧ acc.length ≤ p + 1 ∧ pLoop ps [44] 0 k acc (T.drop p) = some (.error a) ∧ st = [.io (.ins "Reader" [("tokens", .lst ds), ("length", .int (L : Nat)), ("place", .int (p : Nat))]), .sh (.int (dg (hd (T.drop (p0 + 1 + 1))) : Nat)), .ow (.lst acc)]) (T.length - p1) ?w0 ?w1 ?w2
    · exact ⟨[x], p1, r.length, rfl, hp1', hkk, hx0, hq, rfl⟩
    · omega
    · rintro m st ⟨acc, p, k, rfl, hp, hk, ha, he, rfl⟩
      have hh := hhere p
      have heq := heq p
      have hinc := hinc p
      have hput := put_place (.lst ds) (.int (L : Nat)) (.int (p : Nat)) (.int ((p + 1 : Nat) : Int))
      rcases hlc p k acc hp hk he with ⟨g1, g2⟩ | ⟨g1, g2, ⟨b, q, g3, g4⟩ | ⟨y, r2, g3, g4, g5, g6⟩⟩
      · cases g2
      · rw [show (hd (T.drop p) == [44]) = true from beq_iff_eq.mpr g1] at heq
        cases g3
        walk_at "run0"
        exact ⟨_, rfl, rfl, _, rfl⟩
      · rw [show (hd (T.drop p) == [44]) = true from beq_iff_eq.mpr g1] at heq
        have hr2 := g4.length_le
        rw [List.length_drop] at hr2
        have hz : (acc ++ [y]).length ≤ (T.length - r2.length) + 1 := by rw [List.length_append, List.length_singleton]; omega
        have hzz : acc.length < sizeLine := by rw [sizeLine_eq]; omega
        walk_at "run0"
        exact ⟨_, by omega, acc ++ [y], _, _, rfl, by omega, g6, hz, g5, rfl⟩
  | ok y =>
    obtain ⟨xs, r'⟩ := y
    dsimp only
    by_cases d5 : hd r' ≠ [41]
    · rw [if_pos d5]
      refine ex_of_sat ?_
      unfold F_Reader_counted
      unfold rdD at *
      generalize T.map tkD = ds at *
      walk_at "go"
      unfold g_Reader_counted
      walk_at "run0"
      with_reducible refine' v_while (fun m st => ∃ acc p k, m = T.length - p ∧ p ≤ T.length ∧ (T.drop p).length ≤ k ∧ acc.length ≤ p + 1 ∧ pLoop ps [44] 0 k acc (T.drop p) = some (.ok (xs, r')) ∧ st = [.io (.ins "Reader" [("tokens", .lst ds), ("length", .int (L : Nat)), ("place", .int (p : Nat))]), .sh (.int (dg (hd (T.drop (p0 + 1 + 1))) : Nat)), .ow (.lst acc)]) (T.length - p1) ?y0 ?y1 ?y2
      · exact ⟨[x], p1, r.length, rfl, hp1', hkk, hx0, hq, rfl⟩
      · omega
      · rintro m st ⟨acc, p, k, rfl, hp, hk, ha, he, rfl⟩
        have hh := hhere p
        have heq := heq p
        have hinc := hinc p
        have hput := put_place (.lst ds) (.int (L : Nat)) (.int (p : Nat)) (.int ((p + 1 : Nat) : Int))
        rcases hlc p k acc hp hk he with ⟨g1, g2⟩ | ⟨g1, g2, ⟨b, q, g3, g4⟩ | ⟨y, r2, g3, g4, g5, g6⟩⟩
        · rw [show (hd (T.drop p) == [44]) = false from beq_eq_false_iff_ne.mpr g1] at heq
          have g3 : acc = xs := by cases g2; rfl
          have g4 : T.drop p = r' := by cases g2; rfl
          subst g3
          subst g4
          have hneed := hneed p
          rw [if_neg d5] at hneed
          walk_at "run0"
          exact ⟨_, rfl, rfl, _, rfl⟩
        · cases g3
        · rw [show (hd (T.drop p) == [44]) = true from beq_iff_eq.mpr g1] at heq
          have hr2 := g4.length_le
          rw [List.length_drop] at hr2
          have hz : (acc ++ [y]).length ≤ (T.length - r2.length) + 1 := by rw [List.length_append, List.length_singleton]; omega
          have hzz : acc.length < sizeLine := by rw [sizeLine_eq]; omega
          walk_at "run0"
          exact ⟨_, by omega, acc ++ [y], _, _, rfl, by omega, g6, hz, g5, rfl⟩
    · rw [if_neg d5]
      have d5 : hd r' = [41] := Classical.not_not.mp d5
      show _ = FR.ok (.d (.tup [.str (Str.ofString "atleast"), .lst (.int (dg (hd (T.drop (p0 + 1 + 1))) : Nat) :: xs)])) [rdD T L (T.length - r'.tail.length)]
      refine eq_of_sat ?_
      unfold F_Reader_counted
      unfold rdD at *
      generalize T.map tkD = ds at *
      walk_at "go"
      unfold g_Reader_counted
      walk_at "run0"
      with_reducible refine' v_while (fun m st => ∃ acc p k, m = T.length - p ∧ p ≤ T.length ∧ (T.drop p).length ≤ k ∧ acc.length ≤ p + 1 ∧ pLoop ps [44] 0 k acc (T.drop p) = some (.ok (xs, r')) ∧ st = [.io (.ins "Reader" [("tokens", .lst ds), ("length", .int (L : Nat)), ("place", .int (p : Nat))]), .sh (.int (dg (hd (T.drop (p0 + 1 + 1))) : Nat)), .ow (.lst acc)]) (T.length - p1) ?z0 ?z1 ?z2
      · exact ⟨[x], p1, r.length, rfl, hp1', hkk, hx0, hq, rfl⟩
      · omega
      · rintro m st ⟨acc, p, k, rfl, hp, hk, ha, he, rfl⟩
        have hh := hhere p
        have heq := heq p
        have hinc := hinc p
        have hput := put_place (.lst ds) (.int (L : Nat)) (.int (p : Nat)) (.int ((p + 1 : Nat) : Int))
        rcases hlc p k acc hp hk he with ⟨g1, g2⟩ | ⟨g1, g2, ⟨b, q, g3, g4⟩ | ⟨y, r2, g3, g4, g5, g6⟩⟩
        · rw [show (hd (T.drop p) == [44]) = false from beq_eq_false_iff_ne.mpr g1] at heq
          have g3 : acc = xs := by cases g2; rfl
          have g4 : T.drop p = r' := by cases g2; rfl
          subst g3
          subst g4
          have hneed := hneed p
          rw [if_pos d5] at hneed
          have hlp : p < T.length := hd_lt fun z => by rw [z] at d5; cases d5
          rw [pos_tail hlp]
          walk_at "run0"
          refine o_k (takes_dF (takes_appF rfl)) (fits_le (by rw [List.length_cons, List.length_append, List.length_nil]; omega)) ?_
          rw [List.append_nil]
          walk_at "run0"
          exact ⟨_, rfl, rfl, rfl, rfl⟩
        · cases g3
        · rw [show (hd (T.drop p) == [44]) = true from beq_iff_eq.mpr g1] at heq
          have hr2 := g4.length_le
          rw [List.length_drop] at hr2
          have hz : (acc ++ [y]).length ≤ (T.length - r2.length) + 1 := by rw [List.length_append, List.length_singleton]; omega
          have hzz : acc.length < sizeLine := by rw [sizeLine_eq]; omega
          walk_at "run0"
          exact ⟨_, by omega, acc ++ [y], _, _, rfl, by omega, g6, hz, g5, rfl⟩
end K22
open PySem PySem.Spec PyProof.Rows L2 DL Q
namespace K22
open FM
set_option maxHeartbeats 8000000 in
theorem joined3_ok {T : List Tk} {L n p : Nat} (ht : toF T L (pTurn L (pJ L n) (T.drop p)) (F_Reader_turned (F_Reader_joined n) [rdD T L p])) : toF T L (pJ L (n + 1) 3 (T.drop p)) (F_Reader_joined (n + 1) [rdD T L p, .int (3 : Nat)]) := by
  have h3 : eqF (.int (3 : Nat)) (.int 3) = vb true := rfl
  unfold pJ
  rw [if_pos rfl]
  show toF T L _ (callD [true, false] 3 (g_Reader_joined (F_Reader_joined n)) _)
  cases e : pTurn L (pJ L n) (T.drop p) with
  | none => exact trivial
  | some q0 =>
    rw [e] at ht
    cases q0 with
    | error a =>
      obtain ⟨q, ht⟩ := ht
      refine ⟨q, ?_⟩
      generalize F_Reader_joined n = self at *
      refine eq_of_satE ?_
      unfold rdD at *
      generalize T.map tkD = ds at *
      walk_at "go"
      unfold g_Reader_joined
      walk_at "run0"
      exact ⟨_, rfl, rfl, rfl⟩
    | ok y =>
      obtain ⟨x, r⟩ := y
      have ht : F_Reader_turned (F_Reader_joined n) [rdD T L p] = .ok (.d x) [rdD T L (T.length - r.length)] := ht
      show _ = FR.ok (.d x) [rdD T L (T.length - r.length)]
      generalize F_Reader_joined n = self at *
      refine eq_of_sat ?_
      unfold rdD at *
      generalize T.map tkD = ds at *
      walk_at "go"
      unfold g_Reader_joined
      walk_at "run0"
      exact ⟨_, rfl, rfl, rfl, rfl⟩
theorem self_ok {T : List Tk} {L : Nat} (h : Rd T L) : ∀ n, SelfOk T L (F_Reader_joined n) (pJ L n)
  | 0 => fun lv p _ _ => trivial
  | n + 1 => fun lv p hl hp => by
    have ih := self_ok h n
    by_cases h3 : lv = 3
    · subst h3
      exact joined3_ok (turned_ok h hp fun p hp hn => atom_ok h ih (pJ_suf n) hp fun hw => counted_ok h ih (pJ_suf n) hp hw)
    · exact joined_ok h ih (pJ_suf n) hp (by omega)
end K22
open PySem PySem.Spec PyProof.Rows L2 DL Q
namespace K22
open FM
def lets : Str := "abcdefghijklmnopqrstuvwxyzABCDEFGHIJKLMNOPQRSTUVWXYZ0123456789"
theorem lets_all : ∀ c, c < 128 → decide (c ∈ lets.cps.toList) = isL c := by decide +kernel
theorem lets_lt : ∀ c ∈ lets.cps.toList, c < 128 := by decide +kernel
theorem lets_is (c : Nat) : decide (c ∈ lets.cps.toList) = isL c := by
  rcases Nat.lt_or_ge c 128 with h | h
  · exact lets_all c h
  · rw [decide_eq_false (fun z => by have := lets_lt c z; omega)]
    unfold isL
    rw [Bool.eq_iff_iff]
    simp only [Bool.or_eq_true, Bool.and_eq_true, Nat.ble_eq]
    constructor
    · intro z; cases z
    · intro z; omega
theorem in_let (c : Nat) : inF (ch c) (.str (Str.ofString "abcdefghijklmnopqrstuvwxyzABCDEFGHIJKLMNOPQRSTUVWXYZ0123456789")) = vb (isL c) := (in_ch c lets).trans (congrArg vb (lets_is c))
theorem slm {t : List Nat} {a m : Nat} (h : a + m ≤ t.length) (hl : t.length ≤ 100000) : slF (.str (tx t)) (some ((a : Nat) : Int)) (some ((a + m : Nat) : Int)) = vs (tx ((t.drop a).take m)) := by
  show (if fits (tx t).length = true then vs (cutS (tx t) (some ((a : Nat) : Int)) (some ((a + m : Nat) : Int))) else none) = _
  rw [if_pos (fits_le (by rw [tx_len]; omega))]
  have : cutS (tx t) (some ((a : Nat) : Int)) (some ((a + m : Nat) : Int)) = tx (DL.cut t (some ((a : Nat) : Int)) (some ((a + m : Nat) : Int))) := by
    unfold cutS DL.cut tx
    rfl
  rw [this]
  congr 1
  congr 1
  unfold DL.cut
  rw [HT.sIx_nat, HT.sIx_nat, Nat.min_eq_left h, Nat.min_eq_left (show a ≤ t.length by omega), show a + m - a = m by omega]
def wn (s : List Nat) (a : Nat) : Nat := ((s.drop a).takeWhile isL).length
theorem tw_get : ∀ (l : List Nat) (j : Nat), j < (l.takeWhile isL).length → isL (l.getD j 0) = true
  | [], j, h => absurd h (Nat.not_lt_zero _)
  | c :: l, j, h => by
    by_cases hc : isL c = true
    · cases j with
      | zero => exact hc
      | succ j =>
        rw [List.takeWhile_cons_of_pos hc, List.length_cons] at h
        exact tw_get l j (by omega)
    · rw [List.takeWhile_cons_of_neg hc] at h
      exact absurd h (Nat.not_lt_zero _)
theorem tw_end : ∀ (l : List Nat), (l.takeWhile isL).length < l.length → isL (l.getD (l.takeWhile isL).length 0) = false
  | [], h => absurd h (Nat.not_lt_zero _)
  | c :: l, h => by
    by_cases hc : isL c = true
    · rw [List.takeWhile_cons_of_pos hc, List.length_cons] at h ⊢
      rw [List.length_cons] at h
      exact tw_end l (by omega)
    · rw [List.takeWhile_cons_of_neg hc]
      show isL c = false
      simpa using hc
theorem tw_le : ∀ (l : List Nat), (l.takeWhile isL).length ≤ l.length
  | [] => Nat.le_refl _
  | c :: l => by
    by_cases hc : isL c = true
    · rw [List.takeWhile_cons_of_pos hc, List.length_cons, List.length_cons]
      have := tw_le l
      omega
    · rw [List.takeWhile_cons_of_neg hc]
      exact Nat.zero_le _
theorem tw_take : ∀ (l : List Nat), l.takeWhile isL = l.take (l.takeWhile isL).length
  | [] => rfl
  | c :: l => by
    by_cases hc : isL c = true
    · rw [List.takeWhile_cons_of_pos hc, List.length_cons, List.take_succ_cons, ← tw_take l]
    · rw [List.takeWhile_cons_of_neg hc]
      rfl
theorem getD_drop (s : List Nat) (a j : Nat) : (s.drop a).getD j 0 = s.getD (a + j) 0 := by
  rw [List.getD_eq_getElem?_getD, List.getD_eq_getElem?_getD, List.getElem?_drop]
theorem wn_le {s : List Nat} {a : Nat} (h : a ≤ s.length) : a + wn s a ≤ s.length := by
  have := tw_le (s.drop a)
  rw [List.length_drop] at this
  unfold wn
  omega
theorem wn_get {s : List Nat} {a e : Nat} (h1 : a ≤ e) (h2 : e < a + wn s a) : isL (s.getD e 0) = true := by
  have := tw_get (s.drop a) (e - a) (by unfold wn at h2; omega)
  rw [getD_drop, show a + (e - a) = e by omega] at this
  exact this
theorem wn_end {s : List Nat} {a : Nat} (h : a + wn s a < s.length) : isL (s.getD (a + wn s a) 0) = false := by
  have := tw_end (s.drop a) (by rw [List.length_drop]; unfold wn at h; omega)
  rw [getD_drop] at this
  exact this
theorem ctA_word0 {s : List Nat} {a : Nat} (hw : 0 < wn s a) : ctA a none (s.drop a) = ((s.drop a).take (wn s a), a) :: ctA (a + wn s a) none (s.drop (a + wn s a)) := by
  unfold wn at *
  cases e : s.drop a with
  | nil => rw [e] at hw; exact absurd hw (Nat.not_lt_zero _)
  | cons c l =>
    rw [e] at hw
    by_cases hc : isL c = true
    · have ht : (c :: l).takeWhile isL = c :: l.takeWhile isL := List.takeWhile_cons_of_pos hc
      rw [ht, List.length_cons, ctA_let hc]
      show ctA (a + 1) (some ([c], a)) l = _
      rw [ctA_word, List.take_succ_cons, ← tw_take l]
      have hd : s.drop (a + ((l.takeWhile isL).length + 1)) = l.drop (l.takeWhile isL).length := by
        rw [← List.drop_drop, e, List.drop_succ_cons]
      rw [hd, show a + 1 + (l.takeWhile isL).length = a + ((l.takeWhile isL).length + 1) by omega]
      rfl
    · rw [List.takeWhile_cons_of_neg hc] at hw
      exact absurd hw (Nat.not_lt_zero _)
theorem ctA_sign {s : List Nat} {a : Nat} (ha : a < s.length) (hw : wn s a = 0) : ctA a none (s.drop a) = if s.getD a 0 = 32 then ctA (a + 1) none (s.drop (a + 1)) else ((s.drop a).take 1, a) :: ctA (a + 1) none (s.drop (a + 1)) := by
  have hx := wn_end (s := s) (a := a) (by omega)
  rw [hw, Nat.add_zero] at hx
  rw [List.drop_eq_getElem_cons ha]
  have hg : s.getD a 0 = s[a] := by rw [List.getD_eq_getElem?_getD, List.getElem?_eq_getElem ha]; rfl
  rw [hg] at hx ⊢
  by_cases h32 : s[a] = 32
  · rw [if_pos h32, h32]
    rfl
  · rw [if_neg h32, ctA_ot hx h32]
    rfl
theorem tk_app (T : List Tk) (t : Tk) : T.map tkD ++ [tkD t] = (T ++ [t]).map tkD := by rw [List.map_append]; rfl
set_option maxHeartbeats 16000000 in
theorem tokens_ok {s : List Nat} (hs : s.length ≤ 50000) : F_tokens_of [.str (tx s)] = .ok (.d (.lst ((ctk s).map tkD))) [] := by
  have hl := len_tk (t := s) (by omega)
  refine eq_of_sat ?_
  unfold F_tokens_of
  walk_at "go"
  unfold g_tokens_of
  walk_at "run0"
  with_reducible refine' v_while (fun m st => ∃ a acc s3, m = s.length - a ∧ a ≤ s.length ∧ acc.length ≤ a ∧ ctk s = acc ++ ctA a none (s.drop a) ∧ st = [.sh (.str (tx s)), .ow (.lst (acc.map tkD)), .sh (.int (a : Nat)), s3]) s.length ?w0 ?w1 ?w2
  · exact ⟨0, [], _, rfl, Nat.zero_le _, Nat.le_refl _, rfl, rfl⟩
  · omega
  · rintro m st ⟨a, acc, s3, rfl, ha, hacc, hc, rfl⟩
    have ht := ltN a s.length
    have hzz : (acc.map tkD).length < sizeLine := by rw [List.length_map, sizeLine_eq]; omega
    by_cases hlt : a < s.length
    · rw [decide_eq_true hlt] at ht
      have hi := item_tx (l := s) (k := a) hlt (by omega)
      have hwl := wn_le (s := s) (a := a) ha
      have hne : neF (ch (s.getD a 0)) (.str (Str.ofString " ")) = vb ([s.getD a 0] != [32]) := ne_tx [s.getD a 0] [32]
      walk_at "run0"
      with_reducible refine' v_while (fun m st => ∃ e, m = a + wn s a - e ∧ a ≤ e ∧ e ≤ a + wn s a ∧ st = [.sh (.str (tx s)), .ow (.lst (acc.map tkD)), .sh (.int (a : Nat)), .sh (.int (e : Nat))]) (wn s a) ?y0 ?y1 ?y2
      · exact ⟨a, by omega, Nat.le_refl _, by omega, rfl⟩
      · omega
      · rintro m st ⟨e, rfl, he1, he2, rfl⟩
        have ht2 := ltN e s.length
        have hin := in_let (s.getD e 0)
        have hinc := rd_inc e
        by_cases he3 : e < a + wn s a
        · have hi2 := item_tx (l := s) (k := e) (by omega) (by omega)
          rw [decide_eq_true (show e < s.length by omega)] at ht2
          rw [wn_get he1 he3] at hin
          walk_at "run0"
          exact ⟨_, by omega, e + 1, rfl, by omega, by omega, rfl⟩
        · have he4 : e = a + wn s a := by omega
          subst he4
          by_cases hx : a + wn s a < s.length
          · have hi2 := item_tx (l := s) (k := a + wn s a) hx (by omega)
            rw [decide_eq_true hx] at ht2
            rw [wn_end hx] at hin
            have hnn := eqNN (a + wn s a) a
            by_cases hw0 : wn s a = 0
            · rw [show (a + wn s a == a) = true by rw [hw0]; exact beq_self_eq_true a] at hnn
              have hsg := ctA_sign hlt hw0
              have hsl := slm (t := s) (a := a) (m := 1) (by omega) (by omega)
              have hinc := rd_inc a
              rw [← hinc] at hsl
              rw [show a + wn s a = a by omega] at *
              by_cases h32 : s.getD a 0 = 32
              · rw [show ([s.getD a 0] != [32]) = false by rw [h32]; rfl] at hne
                rw [if_pos h32] at hsg
                walk_at "run0"
                exact ⟨_, by omega, a + 1, acc, _, rfl, by omega, by omega, by rw [hc, hsg], by rw [hinc]⟩
              · rw [show ([s.getD a 0] != [32]) = true from bne_iff_ne.mpr fun z => h32 (List.cons.inj z).1] at hne
                rw [if_neg h32] at hsg
                walk_at "run0"
                exact ⟨_, by omega, a + 1, acc ++ [((s.drop a).take 1, a)], _, rfl, by omega, by rw [List.length_append, List.length_singleton]; omega, by rw [hc, hsg, List.append_assoc]; rfl, by rw [hinc, ← tk_app]; rfl⟩
            · rw [show (a + wn s a == a) = false from beq_eq_false_iff_ne.mpr (by omega)] at hnn
              have hcl := wn_get (s := s) (a := a) (e := a) (Nat.le_refl _) (by omega)
              rw [show ([s.getD a 0] != [32]) = true from bne_iff_ne.mpr fun z => by rw [(List.cons.inj z).1] at hcl; cases hcl] at hne
              have hsl := slm (t := s) (a := a) (m := wn s a) hwl (by omega)
              walk_at "run0"
              exact ⟨_, by omega, a + wn s a, acc ++ [((s.drop a).take (wn s a), a)], _, rfl, by omega, by rw [List.length_append, List.length_singleton]; omega, by rw [hc, ctA_word0 (by omega), List.append_assoc]; rfl, by rw [← tk_app]; rfl⟩
          · rw [decide_eq_false hx] at ht2
            have hnn := eqNN (a + wn s a) a
            by_cases hw0 : wn s a = 0
            · rw [show (a + wn s a == a) = true by rw [hw0]; exact beq_self_eq_true a] at hnn
              have hsg := ctA_sign hlt hw0
              have hsl := slm (t := s) (a := a) (m := 1) (by omega) (by omega)
              have hinc := rd_inc a
              rw [← hinc] at hsl
              rw [show a + wn s a = a by omega] at *
              by_cases h32 : s.getD a 0 = 32
              · rw [show ([s.getD a 0] != [32]) = false by rw [h32]; rfl] at hne
                rw [if_pos h32] at hsg
                walk_at "run0"
                exact ⟨_, by omega, a + 1, acc, _, rfl, by omega, by omega, by rw [hc, hsg], by rw [hinc]⟩
              · rw [show ([s.getD a 0] != [32]) = true from bne_iff_ne.mpr fun z => h32 (List.cons.inj z).1] at hne
                rw [if_neg h32] at hsg
                walk_at "run0"
                exact ⟨_, by omega, a + 1, acc ++ [((s.drop a).take 1, a)], _, rfl, by omega, by rw [List.length_append, List.length_singleton]; omega, by rw [hc, hsg, List.append_assoc]; rfl, by rw [hinc, ← tk_app]; rfl⟩
            · rw [show (a + wn s a == a) = false from beq_eq_false_iff_ne.mpr (by omega)] at hnn
              have hcl := wn_get (s := s) (a := a) (e := a) (Nat.le_refl _) (by omega)
              rw [show ([s.getD a 0] != [32]) = true from bne_iff_ne.mpr fun z => by rw [(List.cons.inj z).1] at hcl; cases hcl] at hne
              have hsl := slm (t := s) (a := a) (m := wn s a) hwl (by omega)
              walk_at "run0"
              exact ⟨_, by omega, a + wn s a, acc ++ [((s.drop a).take (wn s a), a)], _, rfl, by omega, by rw [List.length_append, List.length_singleton]; omega, by rw [hc, ctA_word0 (by omega), List.append_assoc]; rfl, by rw [← tk_app]; rfl⟩
    · rw [decide_eq_false hlt] at ht
      have hae : a = s.length := by omega
      rw [List.drop_eq_nil_of_le (by omega)] at hc
      have hc : ctk s = acc := hc.trans (List.append_nil _)
      rw [hc]
      walk_at "run0"
      exact ⟨_, rfl, rfl, rfl, rfl⟩
end K22
open PySem PySem.Spec PyProof.Rows L2 DL Q
namespace K22
open FM
theorem add_txs {a b : Tt} (h : a.length + b.length ≤ 100000) : addF (.lst (txs a)) (.lst (txs b)) = some (.fr (.lst (txs (a ++ b)))) := (add_lst (by rw [txs_len, txs_len]; omega)).trans (by rw [txs_app2])
theorem txs_revF (l : Tt) : (txs l).reverse = txs l.reverse := by unfold txs; rw [List.map_reverse]
def someT : Tt := [[40], [41], [44], [110, 111, 116], [97, 110, 100], [111, 114], [120, 111, 114], [97, 116, 108, 101, 97, 115, 116], [48], [49], [50], [120, 53], [120, 54], [120], [38], [65, 78, 68], [120, 48, 49], [45]]
theorem some_ok : ∀ t ∈ someT, t.length ≤ 7 ∧ (t = [40] ∨ t = [41] ∨ (t.all fun c => decide (wC c = 0)) = true) := by decide
theorem some_at {r : Int} (h0 : 0 ≤ r) (h1 : r < 18) : ∃ t, TokOk t ∧ itemF (.lst [.str (Str.ofString "("), .str (Str.ofString ")"), .str (Str.ofString ","), .str (Str.ofString "not"), .str (Str.ofString "and"), .str (Str.ofString "or"), .str (Str.ofString "xor"), .str (Str.ofString "atleast"), .str (Str.ofString "0"), .str (Str.ofString "1"), .str (Str.ofString "2"), .str (Str.ofString "x5"), .str (Str.ofString "x6"), .str (Str.ofString "x"), .str (Str.ofString "&"), .str (Str.ofString "AND"), .str (Str.ofString "x01"), .str (Str.ofString "-")]) (.int r) = some (.d (.str (tx t))) := by
  have hk : r.toNat < someT.length := by show r.toNat < 18; omega
  have e : someT[r.toNat]? = some someT[r.toNat] := List.getElem?_eq_getElem hk
  refine ⟨someT[r.toNat], ?_, ?_⟩
  · obtain ⟨h1, h2⟩ := some_ok _ (List.getElem_mem hk)
    refine ⟨h1, ?_⟩
    rcases h2 with h2 | h2 | h2
    · exact .inl h2
    · exact .inr (.inl h2)
    · exact .inr (.inr fun c hc => of_decide_eq_true (List.all_eq_true.mp h2 c hc))
  · have := txs_it e
    rw [show ((r.toNat : Nat) : Int) = r by omega] at this
    exact this
def signS : Str := " !\"#$&'()*+,-./0123456789:;<=>?@ABCDEFGHIJKLMNOPQRSTUVWXYZ[\\]^_`abcdefghijklmnopqrstuvwxyz{|}~"
theorem signS_len : signS.cps.toList.length = 94 := by decide +kernel
theorem sign_at {r : Int} (h0 : 0 ≤ r) (h1 : r < 94) : ∃ c, itemF (.str (Str.ofString " !\"#$&'()*+,-./0123456789:;<=>?@ABCDEFGHIJKLMNOPQRSTUVWXYZ[\\]^_`abcdefghijklmnopqrstuvwxyz{|}~")) (.int r) = some (.d (ch c)) := by
  have h := item_tx (l := signS.cps.toList) (k := r.toNat) (by rw [signS_len]; omega) (by rw [signS_len]; omega)
  rw [show ((r.toNat : Nat) : Int) = r by omega] at h
  exact ⟨_, h⟩
set_option maxHeartbeats 16000000 in
theorem bent_ok {ts : Tt} {d : Int} {n : Nat} {b : D} (hb : Pool b) (hn : n ≤ 5000) (h : Tks d n ts) : TkR (Tks (d + 2) (n + 1)) (F_law_bent [b, .lst (txs ts)]) := by
  have hl := len_lst (xs := txs ts) (by rw [txs_len]; have := h.len; omega)
  rw [txs_len] at hl
  have hlen := h.len
  have h18 : lenF [.lst [.str (Str.ofString "("), .str (Str.ofString ")"), .str (Str.ofString ","), .str (Str.ofString "not"), .str (Str.ofString "and"), .str (Str.ofString "or"), .str (Str.ofString "xor"), .str (Str.ofString "atleast"), .str (Str.ofString "0"), .str (Str.ofString "1"), .str (Str.ofString "2"), .str (Str.ofString "x5"), .str (Str.ofString "x6"), .str (Str.ofString "x"), .str (Str.ofString "&"), .str (Str.ofString "AND"), .str (Str.ofString "x01"), .str (Str.ofString "-")]] = vi 18 := rfl
  unfold TkR F_law_bent
  walk_at "go"
  unfold g_law_bent
  walk_at "run0"
  walk_at "draw"
  intro r b1 h0 h1 hb1
  walk_at "run0"
  walk_at "draw"
  intro r2 b2 h2 h3 hb2
  walk_at "run0"
  walk_at "draw"
  intro r3 b3 h4 h5 hb3
  obtain ⟨t, ht, hit⟩ := some_at (r := r3) h4 (by omega)
  have s1 := slL_take (ts := ts) (r := r) h0
  have s2 := slL_drop (ts := ts) (r := r) h0
  have s3 := slL_drop (ts := ts) (r := r + 1) (by omega)
  have s4 := slL_drop (ts := ts) (r := r + 2) (by omega)
  have s5 := slL_mid (ts := ts) (r := r) (q := r + 1) h0 (by omega)
  have s6 := slL_mid (ts := ts) (r := r) (q := r + 2) h0 (by omega)
  rw [show (r + 1).toNat = r.toNat + 1 by omega] at s3 s5
  rw [show (r + 2).toNat = r.toNat + 2 by omega] at s4 s6
  rw [show r.toNat + 1 - r.toNat = 1 by omega] at s5
  rw [show r.toNat + 2 - r.toNat = 2 by omega] at s6
  generalize hk : r.toNat = k at *
  have p0 : ts = ts.take k ++ (ts.drop k).take 1 ++ ts.drop (k + 1) := by
    rw [← List.drop_drop, List.append_assoc, List.take_append_drop, List.take_append_drop]
  have p2 : ts = ts.take k ++ (ts.drop k).take 2 ++ ts.drop (k + 2) := by
    rw [← List.drop_drop, List.append_assoc, List.take_append_drop, List.take_append_drop]
  have pn : ts = ts.take k ++ [] ++ ts.drop k := by rw [List.append_nil, List.take_append_drop]
  have pd : ts.drop k = (ts.drop k).take 1 ++ ts.drop (k + 1) := by rw [← List.drop_drop, List.take_append_drop]
  have l1 : (ts.take k).length ≤ 5000 := by rw [List.length_take]; omega
  have l2 : (ts.drop k).length ≤ 5000 := by rw [List.length_drop]; omega
  have l3 : (ts.drop (k + 1)).length ≤ 5000 := by rw [List.length_drop]; omega
  have l4 : (ts.drop (k + 2)).length ≤ 5000 := by rw [List.length_drop]; omega
  have y1 : ((ts.drop k).take 1).length ≤ 1 := by rw [List.length_take]; omega
  have y2 : ((ts.drop k).take 2).length ≤ 2 := by rw [List.length_take]; omega
  have ok1 : ∀ u ∈ (ts.drop k).take 1, TokOk u := fun u hu => h.ok u (List.mem_of_mem_drop (List.mem_of_mem_take hu))
  have ok2 : ∀ u ∈ (ts.drop k).take 2, TokOk u := fun u hu => h.ok u (List.mem_of_mem_drop (List.mem_of_mem_take hu))
  have w1 := one_sum y1
  have wt := wT_le t
  have q0 : Tks (d + 2) (n + 1) (ts.take k ++ [] ++ ts.drop (k + 1)) := Tks.put (y := (ts.drop k).take 1) (by rw [← p0]; exact h) (fun u hu => by cases hu) (Nat.zero_le _) (by rw [List.map_nil, List.sum_nil]; omega) (by rw [List.length_nil]; omega)
  have q1 : Tks (d + 2) (n + 1) (ts.take k ++ ((ts.drop k).take 1 ++ (ts.drop k).take 1) ++ ts.drop (k + 1)) := Tks.put (y := (ts.drop k).take 1) (by rw [← p0]; exact h) (fun u hu => by
    rcases List.mem_append.mp hu with z | z
    · exact ok1 u z
    · exact ok1 u z) (by rw [List.length_append]; omega) (by rw [List.map_append, List.sum_append]; omega) (by rw [List.length_append]; omega)
  have q2 : Tks (d + 2) (n + 1) (ts.take k ++ [t] ++ ts.drop k) := Tks.put (y := []) (by rw [← pn]; exact h) (fun u hu => by rcases List.mem_singleton.mp hu with rfl; exact ht) (by show 1 ≤ 2; decide) (by show wT t + 0 - 0 ≤ 2; omega) (by rw [List.length_singleton, List.length_nil]; omega)
  have q3 : Tks (d + 2) (n + 1) (ts.take k ++ [t] ++ ts.drop (k + 1)) := Tks.put (y := (ts.drop k).take 1) (by rw [← p0]; exact h) (fun u hu => by rcases List.mem_singleton.mp hu with rfl; exact ht) (by show 1 ≤ 2; decide) (by show wT t + 0 - _ ≤ 2; omega) (by rw [List.length_singleton]; omega)
  have q4 : Tks (d + 2) (n + 1) (ts.take k ++ ((ts.drop k).take 2).reverse ++ ts.drop (k + 2)) := Tks.put (y := (ts.drop k).take 2) (by rw [← p2]; exact h) (fun u hu => ok2 u (List.mem_reverse.mp hu)) (by rw [List.length_reverse]; omega) (by rw [List.map_reverse, List.sum_reverse]; omega) (by rw [List.length_reverse]; omega)
  have a0 := add_txs (a := ts.take k) (b := ts.drop (k + 1)) (by omega)
  have a1 := add_txs (a := ts.take k) (b := (ts.drop k).take 1) (by omega)
  have a1b := add_txs (a := ts.take k ++ (ts.drop k).take 1) (b := ts.drop k) (by rw [List.length_append]; omega)
  have a2 : addF (.lst (txs (ts.take k))) (.lst [.str (tx t)]) = some (.fr (.lst (txs (ts.take k ++ [t])))) := add_txs (a := ts.take k) (b := [t]) (by rw [List.length_singleton]; omega)
  have a2b := add_txs (a := ts.take k ++ [t]) (b := ts.drop k) (by rw [List.length_append, List.length_singleton]; omega)
  have a3 := add_txs (a := ts.take k ++ [t]) (b := ts.drop (k + 1)) (by rw [List.length_append, List.length_singleton]; omega)
  have a4 : addF (.lst (txs (ts.take k))) (.lst (txs ((ts.drop k).take 2)).reverse) = some (.fr (.lst (txs (ts.take k ++ ((ts.drop k).take 2).reverse)))) := by
    rw [txs_revF]
    exact add_txs (by rw [List.length_reverse]; omega)
  have a4b := add_txs (a := ts.take k ++ ((ts.drop k).take 2).reverse) (b := ts.drop (k + 2)) (by rw [List.length_append, List.length_reverse]; omega)
  clear hn hlen
  rcases (show r2 = 0 ∨ r2 = 1 ∨ r2 = 2 ∨ r2 = 3 ∨ r2 = 4 by omega) with rfl | rfl | rfl | rfl | rfl
  · walk_at "run0"
    exact ⟨_, rfl, rfl, b3, _, rfl, rfl, hb3, by rw [List.append_nil] at q0; exact q0⟩
  · walk_at "run0"
    have e : ts.take k ++ (ts.drop k).take 1 ++ ts.drop k = ts.take k ++ ((ts.drop k).take 1 ++ (ts.drop k).take 1) ++ ts.drop (k + 1) := by
      simp only [List.append_assoc]
      rw [← pd]
    exact ⟨_, rfl, rfl, b3, _, rfl, rfl, hb3, by rw [e]; exact q1⟩
  · walk_at "run0"
    exact ⟨_, rfl, rfl, b3, _, rfl, rfl, hb3, q2⟩
  · walk_at "run0"
    exact ⟨_, rfl, rfl, b3, _, rfl, rfl, hb3, q3⟩
  · walk_at "run0"
    exact ⟨_, rfl, rfl, b3, _, rfl, rfl, hb3, q4⟩
theorem slS_take {t : List Nat} {r : Int} (h : 0 ≤ r) (hl : t.length ≤ 100000) : slF (.str (tx t)) none (some r) = vs (tx (t.take r.toNat)) := by
  show (if fits (tx t).length = true then vs (cutS (tx t) none (some r)) else none) = _
  rw [if_pos (fits_le (by rw [tx_len]; omega))]
  have e : r = ((r.toNat : Nat) : Int) := by omega
  have : cutS (tx t) none (some r) = tx (DL.cut t none (some r)) := by
    unfold cutS DL.cut tx
    rfl
  rw [this, e, cut_take]
  rfl
theorem slS_drop {t : List Nat} {r : Int} (h : 0 ≤ r) (hl : t.length ≤ 100000) : slF (.str (tx t)) (some r) none = vs (tx (t.drop r.toNat)) := by
  show (if fits (tx t).length = true then vs (cutS (tx t) (some r) none) else none) = _
  rw [if_pos (fits_le (by rw [tx_len]; omega))]
  have e : r = ((r.toNat : Nat) : Int) := by omega
  have : cutS (tx t) (some r) none = tx (DL.cut t (some r) none) := by
    unfold cutS DL.cut tx
    rfl
  rw [this, e, cut_drop]
  rfl
set_option maxHeartbeats 16000000 in
theorem signed_ok {s : List Nat} {d : Int} {n : Nat} {b : D} (hb : Pool b) (hn : n ≤ 60000) (h : Txt d n s) : TxR (Txt (d + 2) (n + 1)) (F_law_signed [b, .str (tx s)]) := by
  have hlen := h.len
  have hl := len_tk (t := s) (by omega)
  have hS : lenF [.str (Str.ofString " !\"#$&'()*+,-./0123456789:;<=>?@ABCDEFGHIJKLMNOPQRSTUVWXYZ[\\]^_`abcdefghijklmnopqrstuvwxyz{|}~")] = vi 94 := rfl
  have i1 : intF [.bl true] = vi 1 := rfl
  have i0 : intF [.bl false] = vi 0 := rfl
  unfold TxR F_law_signed
  walk_at "go"
  unfold g_law_signed
  walk_at "run0"
  walk_at "draw"
  intro r b1 h0 h1 hb1
  walk_at "run0"
  walk_at "draw"
  intro r2 b2 h2 h3 hb2
  obtain ⟨c, hit⟩ := sign_at (r := r2) h2 (by omega)
  walk_at "run0"
  walk_at "draw"
  intro r3 b3 h4 h5 hb3
  have key : ∀ (e : Int), (e = 0 ∨ e = 1) → ∃ u : List Nat, u.length ≤ 1 ∧ mulA (ch c) (.int e) = vs (tx u) := fun e he => by
    rcases he with rfl | rfl
    · exact ⟨[], Nat.zero_le _, rfl⟩
    · exact ⟨[c], Nat.le_refl _, rfl⟩
  have fin : ∀ (u : List Nat), u.length ≤ 1 → ∀ (b4 : D) (r4 : Int), 0 ≤ r4 → r4 < 2 → addF (.str (tx (s.take r.toNat))) (.str (tx u)) = vs (tx (s.take r.toNat ++ u)) ∧ slF (.str (tx s)) (some (r + r4)) none = vs (tx (s.drop (r.toNat + r4.toNat))) ∧ addF (.str (tx (s.take r.toNat ++ u))) (.str (tx (s.drop (r.toNat + r4.toNat)))) = vs (tx (s.take r.toNat ++ u ++ s.drop (r.toNat + r4.toNat))) ∧ Txt (d + 2) (n + 1) (s.take r.toNat ++ u ++ s.drop (r.toNat + r4.toNat)) := fun u hu b4 r4 h6 h7 => by
    have e1 : (s.take r.toNat).length ≤ 60000 := by rw [List.length_take]; omega
    have e2 : (s.drop (r.toNat + r4.toNat)).length ≤ 60000 := by rw [List.length_drop]; omega
    refine ⟨(add_s (fits_le (by rw [tx_len, tx_len]; omega))).trans (congrArg vs (app_tx _ _)), ?_, (add_s (fits_le (by rw [tx_len, tx_len, List.length_append]; omega))).trans (congrArg vs (app_tx _ _)), h.put hu (by omega)⟩
    have := slS_drop (t := s) (r := r + r4) (by omega) (by omega)
    rw [show (r + r4).toNat = r.toNat + r4.toNat by omega] at this
    exact this
  have s1 := slS_take (t := s) (r := r) h0 (by omega)
  obtain ⟨tb, htb⟩ : ∃ tb : Bool, gtF (.int r3) (.int 0) = vb tb := ⟨_, rfl⟩
  cases tb with
  | true =>
    obtain ⟨u, hu, hm⟩ := key 1 (.inr rfl)
    have f0 := (fin u hu b3 0 (by decide) (by decide)).1
    walk_at "run0"
    walk_at "draw"
    intro r4 b4 h6 h7 hb4
    obtain ⟨f1, f2, f3, f4⟩ := fin u hu b4 r4 h6 h7
    walk_at "run0"
    exact ⟨_, rfl, rfl, b4, _, rfl, rfl, hb4, f4⟩
  | false =>
    obtain ⟨u, hu, hm⟩ := key 0 (.inl rfl)
    have f0 := (fin u hu b3 0 (by decide) (by decide)).1
    walk_at "run0"
    walk_at "draw"
    intro r4 b4 h6 h7 hb4
    obtain ⟨f1, f2, f3, f4⟩ := fin u hu b4 r4 h6 h7
    walk_at "run0"
    exact ⟨_, rfl, rfl, b4, _, rfl, rfl, hb4, f4⟩
end K22
open PySem PySem.Spec PyProof.Rows L2 DL Q
namespace K22
open FM
def wD : W → Str
  | .operand => "operand"
  | .opn => "open"
  | .digit => "digit"
  | .comma => "comma"
  | .after => "after"
def bD (b : Bool) : D := .str (if b then "count" else "group")
def stk (s : List Bool) : D := .lst (s.reverse.map bD)
def sR : Option (W × List Bool) → D
  | none => .non
  | some (w, s) => .lst [.str (wD w), stk s]
theorem in_ops (t : List Nat) : inF (.str (tx t)) (.tup [.str "x0", .str "x1", .str "x2", .str "x3", .str "x4", .str "x5", .str "0", .str "1"]) = vb (bitT t || ansT t) := by
  show vb ((tx [120, 48] == tx t) || ((tx [120, 49] == tx t) || ((tx [120, 50] == tx t) || ((tx [120, 51] == tx t) || ((tx [120, 52] == tx t) || ((tx [120, 53] == tx t) || ((tx [48] == tx t) || ((tx [49] == tx t) || false)))))))) = _
  simp only [tx_beq]
  unfold bitT ansT
  simp only [Bool.or_false, Bool.or_assoc, BEq.comm (b := t)]
theorem in_joT (t : List Nat) : inF (.str (tx t)) (.tup [.str "and", .str "or", .str "xor"]) = vb (jT t) := by
  show vb ((tx [97, 110, 100] == tx t) || ((tx [111, 114] == tx t) || ((tx [120, 111, 114] == tx t) || false))) = _
  simp only [tx_beq]
  unfold jT
  simp only [Bool.or_false, Bool.or_assoc, BEq.comm (b := t)]
  rfl
theorem in_dig (c : Nat) : inF (.str (tx [c])) (.str (Str.ofString "0123456789")) = vb (digT [c]) := by
  have h : inF (ch c) (.str (Str.ofString "0123456789")) = vb (decide (c ∈ (Str.ofString "0123456789").cps.toList)) := in_ch c _
  refine h.trans (congrArg vb ?_)
  rw [dig_one, Bool.eq_iff_iff, decide_eq_true_iff, Bool.and_eq_true, Nat.ble_eq, Nat.ble_eq]
  rw [show (Str.ofString "0123456789").cps.toList = [48, 49, 50, 51, 52, 53, 54, 55, 56, 57] by decide +kernel]
  simp only [List.mem_cons, List.not_mem_nil, or_false]
  omega
theorem stk_push (b : Bool) (s : List Bool) : s.reverse.map bD ++ [bD b] = (b :: s).reverse.map bD := by rw [List.reverse_cons, List.map_append]; rfl
theorem cut_end {α : Type} (xs : List α) (a : α) : DL.cut (xs ++ [a]) (some (-1)) none = [a] := by
  unfold DL.cut
  rw [HT.sIx_none]
  unfold HT.sIx
  dsimp only
  rw [if_pos (by decide), List.length_append, List.length_singleton, show ((-1 : Int) + ((xs.length + 1 : Nat) : Int)).toNat = xs.length by omega, List.drop_left]
  rw [show xs.length + 1 - xs.length = 1 by omega]
  rfl
theorem stp_op {s : List Bool} {t : List Nat} : step .operand s t = if bitT t || ansT t then some (.after, s) else if t = [40] then some (.operand, false :: s) else if t = FM.wNot then some (.operand, s) else if t = FM.wAtl then some (.opn, s) else none := rfl
theorem stp_af {s : List Bool} {t : List Nat} : step .after s t = if jT t then some (.operand, s) else if t = [41] ∧ s ≠ [] then some (.after, s.tail) else if t = [44] ∧ s.head? = some true then some (.operand, s) else none := rfl
set_option maxHeartbeats 8000000 in
theorem step_ok {t : List Nat} (w : W) (s : List Bool) (ht : t.length ≤ 100000) (hsl : s.length ≤ 100000) : F_law_step [.str (tx t), .str (wD w), stk s] = .ok (.d (sR (step w s t))) [] := by
  have hl := len_tk ht
  have push : ∀ b, addF (.lst (s.reverse.map bD)) (.lst [bD b]) = some (.fr (.lst (s.reverse.map bD ++ [bD b]))) := fun b => add_lst (by rw [List.length_map, List.length_reverse]; show _ + 1 ≤ _; omega)
  have pushG : addF (.lst (s.reverse.map bD)) (.lst [.str (Str.ofString "group")]) = some (.fr (.lst (s.reverse.map bD ++ [bD false]))) := push false
  have pushC : addF (.lst (s.reverse.map bD)) (.lst [.str (Str.ofString "count")]) = some (.fr (.lst (s.reverse.map bD ++ [bD true]))) := push true
  clear push
  refine eq_of_sat ?_
  unfold F_law_step
  cases w with
  | operand =>
    have h1 := in_ops t
    have h2 := eq_w t [40] (Str.ofString "(")
    have e0 : eqF (.str (wD .operand)) (.str (Str.ofString "operand")) = vb true := rfl
    rw [stp_op]
    unfold stk
    walk_at "go"
    unfold g_law_step
    cases b1 : (bitT t || ansT t) with
    | true =>
      rw [b1] at h1
      walk_at "run0"
      exact ⟨_, rfl, rfl, rfl, rfl⟩
    | false =>
    rw [b1] at h1
    rw [if_neg (by decide)]
    by_cases b2 : t = [40]
    · rw [show (t == [40]) = true from beq_iff_eq.mpr b2] at h2
      rw [if_pos b2]
      walk_at "run0"
      refine ⟨_, rfl, rfl, ?_, rfl⟩
      show _ = Val.d (.lst [.str (wD .operand), .lst ((false :: s).reverse.map bD)])
      rw [← stk_push]
      rfl
    · rw [show (t == [40]) = false from beq_eq_false_iff_ne.mpr b2] at h2
      rw [if_neg b2]
      have kk : keyOf (.str (tx t)) = some (.inr (tx t)) := rfl
      have e1 : decide (Str.ofString "not" = tx t) = (t == FM.wNot) := by
        rw [show Str.ofString "not" = tx FM.wNot from rfl, Bool.eq_iff_iff, decide_eq_true_iff, beq_iff_eq]
        exact ⟨fun z => (tx_inj z).symm, fun z => by rw [z]⟩
      have e2 : decide (Str.ofString "atleast" = tx t) = (t == FM.wAtl) := by
        rw [show Str.ofString "atleast" = tx FM.wAtl from rfl, Bool.eq_iff_iff, decide_eq_true_iff, beq_iff_eq]
        exact ⟨fun z => (tx_inj z).symm, fun z => by rw [z]⟩
      have hg : (getD [(.str (Str.ofString "not"), .lst [.str (Str.ofString "operand"), .lst (s.reverse.map bD)]), (.str (Str.ofString "atleast"), .lst [.str (Str.ofString "open"), .lst (s.reverse.map bD)])] (.inr (tx t))).getD .non = sR (if t = FM.wNot then some (.operand, s) else if t = FM.wAtl then some (.opn, s) else none) := by
        unfold getD
        rw [List.find?_cons]
        show (Option.map _ (match decide (Str.ofString "not" = tx t) with | true => _ | false => _)).getD _ = _
        rw [e1]
        cases b3 : (t == FM.wNot) with
        | true =>
          rw [if_pos (beq_iff_eq.mp b3)]
          rfl
        | false =>
          rw [if_neg (beq_eq_false_iff_ne.mp b3)]
          dsimp only
          rw [List.find?_cons]
          show (Option.map _ (match decide (Str.ofString "atleast" = tx t) with | true => _ | false => _)).getD _ = _
          rw [e2]
          cases b4 : (t == FM.wAtl) with
          | true =>
            rw [if_pos (beq_iff_eq.mp b4)]
            rfl
          | false =>
            rw [if_neg (beq_eq_false_iff_ne.mp b4)]
            rfl
      walk_at "run0"
      refine o_gb rfl rfl kk rfl hg ?_
      walk_at "run0"
      exact ⟨_, rfl, rfl, rfl, rfl⟩
  | opn =>
    have h2 := eq_w t [40] (Str.ofString "(")
    have e0 : eqF (.str (wD .opn)) (.str (Str.ofString "operand")) = vb false := rfl
    have e1 : eqF (.str (wD .opn)) (.str (Str.ofString "open")) = vb true := rfl
    unfold stk
    walk_at "go"
    unfold g_law_step
    by_cases b2 : t = [40]
    · rw [show (t == [40]) = true from beq_iff_eq.mpr b2] at h2
      rw [show step .opn s t = some (.digit, true :: s) from if_pos b2]
      walk_at "run0"
      refine ⟨_, rfl, rfl, ?_, rfl⟩
      show _ = Val.d (.lst [.str (wD .digit), .lst ((true :: s).reverse.map bD)])
      rw [← stk_push]
      rfl
    · rw [show (t == [40]) = false from beq_eq_false_iff_ne.mpr b2] at h2
      rw [show step .opn s t = none from if_neg b2]
      walk_at "run0"
      exact ⟨_, rfl, rfl, rfl, rfl⟩
  | digit =>
    have e0 : eqF (.str (wD .digit)) (.str (Str.ofString "operand")) = vb false := rfl
    have e1 : eqF (.str (wD .digit)) (.str (Str.ofString "open")) = vb false := rfl
    have e2 : eqF (.str (wD .digit)) (.str (Str.ofString "digit")) = vb true := rfl
    have h3 := eqNN t.length 1
    unfold stk
    by_cases b1 : t.length = 1
    · obtain ⟨c, rfl⟩ := List.length_eq_one_iff.mp b1
      rw [show (([c] : List Nat).length == 1) = true from rfl] at h3
      have h4 := in_dig c
      cases b2 : digT [c] with
      | true =>
        rw [b2] at h4
        rw [show step .digit s [c] = some (.comma, s) from if_pos b2]
        walk_at "go"
        unfold g_law_step
        walk_at "run0"
        exact ⟨_, rfl, rfl, rfl, rfl⟩
      | false =>
        rw [b2] at h4
        rw [show step .digit s [c] = none from if_neg (by rw [b2]; decide)]
        walk_at "go"
        unfold g_law_step
        walk_at "run0"
        exact ⟨_, rfl, rfl, rfl, rfl⟩
    · rw [show (t.length == 1) = false from beq_eq_false_iff_ne.mpr b1] at h3
      rw [show step .digit s t = none from if_neg fun z => by obtain ⟨c, rfl, _⟩ := dig_len z; exact b1 rfl]
      walk_at "go"
      unfold g_law_step
      walk_at "run0"
      exact ⟨_, rfl, rfl, rfl, rfl⟩
  | comma =>
    have h2 := eq_w t [44] (Str.ofString ",")
    have e0 : eqF (.str (wD .comma)) (.str (Str.ofString "operand")) = vb false := rfl
    have e1 : eqF (.str (wD .comma)) (.str (Str.ofString "open")) = vb false := rfl
    have e2 : eqF (.str (wD .comma)) (.str (Str.ofString "digit")) = vb false := rfl
    have e3 : eqF (.str (wD .comma)) (.str (Str.ofString "comma")) = vb true := rfl
    unfold stk
    walk_at "go"
    unfold g_law_step
    by_cases b2 : t = [44]
    · rw [show (t == [44]) = true from beq_iff_eq.mpr b2] at h2
      rw [show step .comma s t = some (.operand, s) from if_pos b2]
      walk_at "run0"
      exact ⟨_, rfl, rfl, rfl, rfl⟩
    · rw [show (t == [44]) = false from beq_eq_false_iff_ne.mpr b2] at h2
      rw [show step .comma s t = none from if_neg b2]
      walk_at "run0"
      exact ⟨_, rfl, rfl, rfl, rfl⟩
  | after =>
    have h1 := in_joT t
    have h2 := eq_w t [41] (Str.ofString ")")
    have h3 := eq_w t [44] (Str.ofString ",")
    have e0 : eqF (.str (wD .after)) (.str (Str.ofString "operand")) = vb false := rfl
    have e1 : eqF (.str (wD .after)) (.str (Str.ofString "open")) = vb false := rfl
    have e2 : eqF (.str (wD .after)) (.str (Str.ofString "digit")) = vb false := rfl
    have e3 : eqF (.str (wD .after)) (.str (Str.ofString "comma")) = vb false := rfl
    have hs : ∃ gs : Tt, s.reverse.map bD = txs gs ∧ TL gs ∧ gs.length = s.length := ⟨s.reverse.map fun b => if b then [99, 111, 117, 110, 116] else [103, 114, 111, 117, 112], by
      unfold txs
      rw [List.map_map]
      exact List.map_congr_left fun b _ => by cases b <;> rfl, fun u hu => by
      obtain ⟨b, _, rfl⟩ := List.mem_map.mp hu
      cases b <;> decide, by rw [List.length_map, List.length_reverse]⟩
    obtain ⟨gs, hgs, hlt, hgl⟩ := hs
    have h5 : neF (.lst (s.reverse.map bD)) (.lst []) = vb (gs != []) := by
      rw [hgs]
      exact ne_txs (m := []) (fun t ht c hc => by have := hlt t ht c hc; omega) (fun t ht => by cases ht)
    rw [stp_af]
    unfold stk
    cases b1 : jT t with
    | true =>
      rw [b1] at h1
      walk_at "go"
      unfold g_law_step
      walk_at "run0"
      exact ⟨_, rfl, rfl, rfl, rfl⟩
    | false =>
    rw [b1] at h1
    rw [if_neg (by decide)]
    have e7 : neF (.lst (s.reverse.map bD)) (.lst []) = vb (decide (s ≠ [])) := by
      rw [h5]
      congr 1
      rw [Bool.eq_iff_iff, bne_iff_ne, decide_eq_true_iff]
      refine ⟨fun z y => z ?_, fun z y => z ?_⟩
      · rw [y] at hgl
        exact List.length_eq_zero_iff.mp hgl
      · rw [y] at hgl
        exact List.length_eq_zero_iff.mp hgl.symm
    have h6 : slF (.lst (s.reverse.map bD)) none (some (-1)) = some (.fr (.lst (s.tail.reverse.map bD))) := by
      cases s with
      | nil => rfl
      | cons b s =>
        rw [← stk_push, sl_lst, cut_last]
        rfl
    have h7 : slF (.lst (s.reverse.map bD)) (some (-1)) none = some (.fr (.lst (s.head?.toList.map bD))) := by
      cases s with
      | nil => rfl
      | cons b s =>
        rw [← stk_push, sl_lst, cut_end]
        rfl
    have h8 : eqF (.lst (s.head?.toList.map bD)) (.lst [.str (Str.ofString "count")]) = vb (decide (s.head? = some true)) := by
      cases s with
      | nil => kernel_rfl
      | cons b s => cases b <;> kernel_rfl
    by_cases b2 : t = [41]
    · rw [show (t == [41]) = true from beq_iff_eq.mpr b2] at h2
      by_cases b3 : s ≠ []
      · rw [decide_eq_true b3] at e7
        rw [if_pos ⟨b2, b3⟩]
        walk_at "go"
        unfold g_law_step
        walk_at "run0"
        exact ⟨_, rfl, rfl, rfl, rfl⟩
      · rw [decide_eq_false b3] at e7
        rw [if_neg (fun z => b3 z.2), if_neg (fun z => by rw [b2] at z; cases z.1)]
        rw [show (t == [44]) = false by rw [b2]; rfl] at h3
        walk_at "go"
        unfold g_law_step
        walk_at "run0"
        exact ⟨_, rfl, rfl, rfl, rfl⟩
    · rw [show (t == [41]) = false from beq_eq_false_iff_ne.mpr b2] at h2
      rw [if_neg (fun z => b2 z.1)]
      by_cases b4 : t = [44]
      · rw [show (t == [44]) = true from beq_iff_eq.mpr b4] at h3
        by_cases b5 : s.head? = some true
        · rw [decide_eq_true b5] at h8
          rw [if_pos ⟨b4, b5⟩]
          walk_at "go"
          unfold g_law_step
          walk_at "run0"
          exact ⟨_, rfl, rfl, rfl, rfl⟩
        · rw [decide_eq_false b5] at h8
          rw [if_neg (fun z => b5 z.2)]
          walk_at "go"
          unfold g_law_step
          walk_at "run0"
          exact ⟨_, rfl, rfl, rfl, rfl⟩
      · rw [show (t == [44]) = false from beq_eq_false_iff_ne.mpr b4] at h3
        rw [if_neg (fun z => b4 z.1)]
        walk_at "go"
        unfold g_law_step
        walk_at "run0"
        exact ⟨_, rfl, rfl, rfl, rfl⟩
end K22
open PySem PySem.Spec PyProof.Rows L2 DL Q
namespace K22
open FM
theorem rd_of {s : List Nat} (hs : s.length ≤ 50000) : Rd (ctk s) s.length := ⟨Nat.le_trans ctk_len hs, by omega, fun t ht => by have := ctk_mem t ht; omega, fun t ht => by have := ctk_mem t ht; omega⟩
set_option maxHeartbeats 8000000 in
theorem r_init {s : List Nat} (hs : s.length ≤ 50000) : F_Reader_init [.ins "Reader" [], .str (tx s)] = .ok (.d .non) [rdD (ctk s) s.length 0] := by
  have h1 := tokens_ok hs
  have h2 := len_tk (t := s) (by omega)
  refine eq_of_sat ?_
  unfold F_Reader_init rdD
  generalize (ctk s).map tkD = ds at *
  walk_at "go"
  unfold g_Reader_init
  walk_at "run0"
  first | exact ⟨_, rfl, rfl⟩ | exact ⟨_, rfl, rfl, rfl⟩
/-- what reading a text ends in -/
def RdR (s : List Nat) (f : FR) : Prop := match run s.length .operand [] (ctk s) with
  | none => ∃ x, f = .ok (.d x) []
  | some a => f = .ex ⟨"BadFormula", [("at", .int (a : Nat))]⟩ []
theorem RdR.yes {s : List Nat} {f : FR} {x : D} (h : run s.length .operand [] (ctk s) = none) (e : f = .ok (.d x) []) : RdR s f := by
  unfold RdR
  rw [h]
  exact ⟨x, e⟩
theorem RdR.bad {s : List Nat} {f : FR} {a : Nat} (h : run s.length .operand [] (ctk s) = some a) (e : f = .ex ⟨"BadFormula", [("at", .int (a : Nat))]⟩ []) : RdR s f := by
  unfold RdR
  rw [h]
  exact e
set_option maxHeartbeats 8000000 in
theorem read_ok {s : List Nat} (hs : s.length ≤ 50000) (hb : bgt 12 (s.map wC)) : RdR s (F_read_node [.str (tx s)]) := by
  have hr := rd_of hs
  have hbd : bd 12 .operand [] (ctk s) := bd_bgt _ _ _ (by simpa using bgt_ctk hb)
  have g := pTop_good (L := s.length) (n := 52) (fun t ht => (ctk_mem t ht).1) hbd (by decide)
  have hj := self_ok hr 52 0 0 (by decide) (Nat.zero_le _)
  rw [List.drop_zero] at hj
  have hj : toF (ctk s) s.length (pJ s.length 52 0 (ctk s)) (F_Reader_joined 52 [rdD (ctk s) s.length 0, .int 0]) := hj
  have hi := r_init hs
  have hsuf := pJ_suf (L := s.length) 52
  unfold pTop at g
  refine ?_
  show RdR s (callD [false] 3 g_read_node [.str (tx s)])
  unfold g_read_node
  generalize F_Reader_joined 52 = jf at *
  cases e : pJ s.length 52 0 (ctk s) with
  | none => rw [e] at g; exact g.elim
  | some q =>
    rw [e] at g hj
    cases q with
    | error a =>
      obtain ⟨p, hj⟩ := hj
      refine RdR.bad g ?_
      clear g hsuf
      refine eq_of_satE ?_
      unfold rdD at *
      generalize (ctk s).map tkD = ds at *
      walk_at "go"
      walk_at "run0"
      exact ⟨_, rfl, rfl, rfl⟩
    | ok y =>
      obtain ⟨x, r⟩ := y
      have hj : jf [rdD (ctk s) s.length 0, .int 0] = .ok (.d x) [rdD (ctk s) s.length ((ctk s).length - r.length)] := hj
      have hh := here_ok (p := (ctk s).length - r.length) hr
      have hf := fault_ok (p := (ctk s).length - r.length) hr
      have hm := mk_fault (flt_le (p := (ctk s).length - r.length) hr)
      have hsr := hsuf _ _ _ _ e
      rw [drop_of hsr] at hh hf hm
      have hne : neF (.str (tx (hd r))) (.str (Str.ofString "")) = vb (hd r != []) := ne_tx (hd r) []
      dsimp only at g
      by_cases h : hd r ≠ []
      · rw [if_pos h] at g
        rw [show (hd r != []) = true from bne_iff_ne.mpr h] at hne
        refine RdR.bad g ?_
        clear g hsuf hsr
        refine eq_of_satE ?_
        unfold rdD at *
        generalize (ctk s).map tkD = ds at *
        walk_at "go"
        walk_at "run0"
        exact ⟨_, rfl, rfl, rfl⟩
      · rw [if_neg h] at g
        rw [show (hd r != []) = false by rw [Classical.not_not.mp h]; rfl] at hne
        refine RdR.yes g (x := x) ?_
        clear g hsuf hsr
        refine eq_of_sat ?_
        unfold rdD at *
        generalize (ctk s).map tkD = ds at *
        walk_at "go"
        walk_at "run0"
        exact ⟨_, rfl, rfl, rfl, rfl⟩
def ft : Option Nat → D
  | none => .non
  | some a => .int (a : Nat)
set_option maxHeartbeats 8000000 in
theorem f_init {t : D} {x : D} (h : F_read_node [t] = .ok (.d x) []) : F_Formula_init [.ins "Formula" [], t] = .ok (.d .non) [.ins "Formula" [("node", x)]] := by
  refine eq_of_sat ?_
  unfold F_Formula_init
  walk_at "go"
  unfold g_Formula_init
  generalize F_read_node = rn at *
  walk_at "run0"
  first | exact ⟨_, rfl, rfl⟩ | exact ⟨_, rfl, rfl, rfl⟩
set_option maxHeartbeats 8000000 in
theorem f_init_ex {t : D} {z : Ex} (h : F_read_node [t] = .ex z []) : F_Formula_init [.ins "Formula" [], t] = .ex z [.ins "Formula" []] := by
  refine eq_of_satE ?_
  unfold F_Formula_init
  walk_at "go"
  unfold g_Formula_init
  generalize F_read_node = rn at *
  walk_at "run0"
  exact ⟨_, rfl, rfl, rfl⟩
set_option maxHeartbeats 8000000 in
theorem told_ok {s : List Nat} (hs : s.length ≤ 50000) (hb : bgt 12 (s.map wC)) : F_law_told [.str (tx s)] = .ok (.d (.lst [ft (run s.length .operand [] (ctk s))])) [] ∨ F_law_told [.str (tx s)] = .ok (.fr (.lst [ft (run s.length .operand [] (ctk s))])) [] := by
  have h := read_ok hs hb
  unfold RdR at h
  cases e : run s.length .operand [] (ctk s) with
  | none =>
    rw [e] at h
    obtain ⟨x, h⟩ := h
    have h2 := f_init h
    have h3 : isiO "Formula" [.ins "Formula" [("node", x)], .cls "Formula"] = vb true := rfl
    refine .inl (eq_of_sat ?_)
    unfold F_law_told
    walk_at "go"
    unfold g_law_told
    generalize F_Formula_init = fi at *
    walk_at "run0"
    exact ⟨_, rfl, rfl, rfl, rfl⟩
  | some a =>
    rw [e] at h
    have h2 := f_init_ex h
    refine .inr (eq_of_sat ?_)
    unfold F_law_told
    walk_at "go"
    unfold g_law_told
    generalize F_Formula_init = fi at *
    walk_at "run0"
    exact ⟨show ("BadFormula" : Str) ∈ xsL by decide, _, rfl, rfl, rfl, rfl⟩
end K22
open PySem PySem.Spec PyProof.Rows L2 DL Q
namespace K22
open FM
theorem set_lastF (xs : List D) (a v : D) : setF (.lst (xs ++ [a])) (.int (-1)) v = some (.lst (xs ++ [v])) := by
  show (ixN (xs ++ [a]).length (-1)).map (fun j => D.lst ((xs ++ [a]).set j v)) = _
  have e : ixN (xs ++ [a]).length (-1) = some xs.length := by
    unfold ixN
    rw [List.length_append, List.length_singleton]
    simp
    omega
  rw [e]
  show some (D.lst ((xs ++ [a]).set xs.length v)) = _
  rw [List.set_append_right _ _ (Nat.le_refl _), Nat.sub_self]
  rfl
/-- the law's list behind some signs -/
def CutI (s : List Nat) (i : Nat) (done : List Tk) (w : Option Tk) : Prop := ctk s = done ++ ctA i w (s.drop i) ∧ (done ++ clW w).length ≤ i ∧ (∀ v j, w = some (v, j) → v.length ≤ i) ∧ (w.isSome = true ↔ 0 < i ∧ isL (s.getD (i - 1) 0) = true)
theorem CutI.zero {s : List Nat} : CutI s 0 [] none := ⟨rfl, Nat.le_refl _, fun v j h => (by cases h), ⟨fun h => (by cases h), fun h => absurd h.1 (Nat.lt_irrefl _)⟩⟩
theorem drop_getD {s : List Nat} {i : Nat} (h : i < s.length) : s.drop i = s.getD i 0 :: s.drop (i + 1) := by
  rw [List.drop_eq_getElem_cons h, List.getD_eq_getElem?_getD, List.getElem?_eq_getElem h]
  rfl
theorem CutI.more {s : List Nat} {i : Nat} {done : List Tk} {v : List Nat} {j : Nat} (h : CutI s i done (some (v, j))) (hi : i < s.length) (hc : isL (s.getD i 0) = true) : CutI s (i + 1) done (some (v ++ [s.getD i 0], j)) := by
  obtain ⟨h1, h2, h3, h4⟩ := h
  rw [drop_getD hi, ctA_let hc] at h1
  refine ⟨h1, ?_, fun v' j' e => ?_, ⟨fun _ => ⟨Nat.succ_pos _, hc⟩, fun _ => rfl⟩⟩
  · rw [List.length_append] at h2 ⊢
    have e1 : (clW (some (v, j))).length = 1 := rfl
    have e2 : (clW (some (v ++ [s.getD i 0], j))).length = 1 := rfl
    omega
  · cases e
    rw [List.length_append, List.length_singleton]
    have := h3 v j rfl
    omega
theorem CutI.first {s : List Nat} {i : Nat} {done : List Tk} (h : CutI s i done none) (hi : i < s.length) (hc : isL (s.getD i 0) = true) : CutI s (i + 1) done (some ([s.getD i 0], i)) := by
  obtain ⟨h1, h2, h3, h4⟩ := h
  rw [drop_getD hi, ctA_let hc] at h1
  refine ⟨h1, ?_, fun v' j' e => ?_, ⟨fun _ => ⟨Nat.succ_pos _, hc⟩, fun _ => rfl⟩⟩
  · rw [List.length_append] at h2 ⊢
    have e2 : (clW (some ([s.getD i 0], i))).length = 1 := rfl
    omega
  · cases e
    rw [List.length_singleton]
    omega
theorem CutI.space {s : List Nat} {i : Nat} {done : List Tk} {w : Option Tk} (h : CutI s i done w) (hi : i < s.length) (hc : s.getD i 0 = 32) : CutI s (i + 1) (done ++ clW w) none := by
  obtain ⟨h1, h2, h3, h4⟩ := h
  rw [drop_getD hi, hc, ctA_sp, ← List.append_assoc] at h1
  refine ⟨h1, ?_, fun v' j' e => (by cases e), ⟨fun z => (by cases z), fun z => ?_⟩⟩
  · show (done ++ clW w ++ []).length ≤ _
    rw [List.append_nil]
    omega
  · have := z.2
    rw [Nat.add_sub_cancel, hc] at this
    cases this
theorem CutI.sign {s : List Nat} {i : Nat} {done : List Tk} {w : Option Tk} (h : CutI s i done w) (hi : i < s.length) (hc : isL (s.getD i 0) = false) (h32 : s.getD i 0 ≠ 32) : CutI s (i + 1) (done ++ clW w ++ [([s.getD i 0], i)]) none := by
  obtain ⟨h1, h2, h3, h4⟩ := h
  rw [drop_getD hi, ctA_ot hc h32] at h1
  refine ⟨by rw [h1, List.append_assoc, List.append_assoc]; rfl, ?_, fun v' j' e => (by cases e), ⟨fun z => (by cases z), fun z => ?_⟩⟩
  · show (done ++ clW w ++ [([s.getD i 0], i)] ++ []).length ≤ _
    rw [List.append_nil, List.length_append, List.length_singleton]
    omega
  · have := z.2
    rw [Nat.add_sub_cancel, hc] at this
    cases this
set_option maxHeartbeats 16000000 in
theorem cut_ok {s : List Nat} (hs : s.length ≤ 50000) : F_law_cut [.str (tx s)] = .ok (.d (.lst ((ctk s).map tkD))) [] := by
  have hl := len_tk (t := s) (by omega)
  have hr := rng_small (m := (s.length : Nat)) (by omega) (by omega)
  rw [Int.toNat_natCast] at hr
  refine eq_of_sat ?_
  unfold F_law_cut
  walk_at "go"
  unfold g_law_cut
  walk_at "run0"
  with_reducible refine' v_run (rng 0 s.length) (fun i st => ∃ done w s3, CutI s i done w ∧ st = [.sh (.str (tx s)), .sh (.str (Str.ofString "abcdefghijklmnopqrstuvwxyzABCDEFGHIJKLMNOPQRSTUVWXYZ0123456789")), .ow (.lst ((done ++ clW w).map tkD)), s3]) ?o0 ?o1 ?o2
  · exact ⟨[], none, _, CutI.zero, rfl⟩
  · rintro st ⟨done, w, s3, hc, rfl⟩
    rw [rng_len] at hc
    have h1 := hc.1
    rw [List.drop_length] at h1
    rw [h1]
    walk_at "run0"
    exact ⟨_, rfl, rfl, rfl, rfl⟩
  · rintro i x st hi ⟨done, w, s3, hc, rfl⟩
    obtain ⟨rfl, hil⟩ := rng_get hi
    have hit := item_tx (l := s) (k := i) hil (by omega)
    have hin := in_let (s.getD i 0)
    have hne : neF (ch (s.getD i 0)) (.str (Str.ofString " ")) = vb ([s.getD i 0] != [32]) := ne_tx [s.getD i 0] [32]
    have hzz : ((done ++ clW w).map tkD).length < sizeLine := by rw [List.length_map, sizeLine_eq]; have := hc.2.1; omega
    have hgt : gtF (.int (i : Nat)) (.int 0) = vb (decide (0 < i)) := by
      show vb (decide ((i : Int) > 0)) = _
      exact congrArg vb (decide_eq_decide.mpr (by omega))
    have napp : ∀ (t : Tk), (done ++ clW w ++ [t]).map tkD = (done ++ clW w).map tkD ++ [tkD t] := fun t => by rw [List.map_append]; rfl
    refine ⟨_, rfl, ?_⟩
    cases hcl : isL (s.getD i 0) with
    | true =>
      rw [hcl] at hin
      rw [show ([s.getD i 0] != [32]) = true from bne_iff_ne.mpr fun z => by rw [(List.cons.inj z).1] at hcl; cases hcl] at hne
      by_cases h0 : 0 < i
      · rw [decide_eq_true h0] at hgt
        have hip := item_tx (l := s) (k := i - 1) (by omega) (by omega)
        rw [show ((i - 1 : Nat) : Int) = (i : Int) - 1 by omega] at hip
        have hin2 := in_let (s.getD (i - 1) 0)
        cases hpl : isL (s.getD (i - 1) 0) with
        | true =>
          rw [hpl] at hin2
          have hw := hc.2.2.2.mpr ⟨h0, hpl⟩
          cases w with
          | none => cases hw
          | some t =>
            obtain ⟨v, j⟩ := t
            have hvl := hc.2.2.1 v j rfl
            have hlast : itemF (.lst ((done ++ clW (some (v, j))).map tkD)) (.int (-1)) = some (.d (tkD (v, j))) := by
              rw [List.map_append]
              exact it_last _ _
            have hi0 : itemF (tkD (v, j)) (.int 0) = some (.d (.str (tx v))) := rfl
            have hi1 : itemF (tkD (v, j)) (.int 1) = some (.d (.int (j : Nat))) := rfl
            have hadd : addF (.str (tx v)) (ch (s.getD i 0)) = vs (tx (v ++ [s.getD i 0])) := (add_s (x := tx v) (y := tx [s.getD i 0]) (fits_le (by rw [tx_len, tx_len]; show v.length + 1 ≤ _; omega))).trans (congrArg vs (app_tx v [s.getD i 0]))
            have hset : setF (.lst ((done ++ clW (some (v, j))).map tkD)) (.int (-1)) (.tup [.str (tx (v ++ [s.getD i 0])), .int (j : Nat)]) = some (.lst ((done ++ clW (some (v ++ [s.getD i 0], j))).map tkD)) := by
              rw [List.map_append, List.map_append]
              exact set_lastF _ _ _
            have hng : negF (.int 1) = vi (-1) := rfl
            generalize hL : (done ++ clW (some (v, j))).map tkD = L at *
            generalize tkD (v, j) = td at *
            walk_at "run0"
            refine o_i rfl rfl rfl hset rfl ?_
            exact ⟨done, some (v ++ [s.getD i 0], j), _, hc.more hil hcl, rfl⟩
        | false =>
          rw [hpl] at hin2
          have hw : w = none := by
            cases w with
            | none => rfl
            | some t => have := (hc.2.2.2.mp rfl).2; rw [hpl] at this; cases this
          subst hw
          walk_at "run0"
          exact ⟨done, some ([s.getD i 0], i), _, hc.first hil hcl, by rw [show done ++ clW (some ([s.getD i 0], i)) = done ++ clW none ++ [([s.getD i 0], i)] by simp [clW], napp]; rfl⟩
      · rw [decide_eq_false h0] at hgt
        have hw : w = none := by
          cases w with
          | none => rfl
          | some t => exact absurd (hc.2.2.2.mp rfl).1 h0
        subst hw
        walk_at "run0"
        exact ⟨done, some ([s.getD i 0], i), _, hc.first hil hcl, by rw [show done ++ clW (some ([s.getD i 0], i)) = done ++ clW none ++ [([s.getD i 0], i)] by simp [clW], napp]; rfl⟩
    | false =>
      rw [hcl] at hin
      by_cases h32 : s.getD i 0 = 32
      · rw [show ([s.getD i 0] != [32]) = false by rw [h32]; rfl] at hne
        walk_at "run0"
        exact ⟨done ++ clW w, none, _, hc.space hil h32, by rw [show done ++ clW w ++ clW none = done ++ clW w from List.append_nil _]; rfl⟩
      · rw [show ([s.getD i 0] != [32]) = true from bne_iff_ne.mpr fun z => h32 (List.cons.inj z).1] at hne
        walk_at "run0"
        exact ⟨done ++ clW w ++ [([s.getD i 0], i)], none, _, hc.sign hil hcl h32, by rw [show done ++ clW w ++ [([s.getD i 0], i)] ++ clW none = done ++ clW w ++ [([s.getD i 0], i)] from List.append_nil _, napp]; rfl⟩
theorem eq_stk (w : W) (s : List Bool) : eqF (.lst [.str (wD w), stk s]) (.lst [.str (Str.ofString "after"), .lst []]) = vb (decide (w = .after ∧ s = [])) := by
  obtain ⟨gs, hgs, hlt, hgl⟩ : ∃ gs : Tt, s.reverse.map bD = txs gs ∧ TL gs ∧ gs.length = s.length := ⟨s.reverse.map fun b => if b then [99, 111, 117, 110, 116] else [103, 114, 111, 117, 112], by
      unfold txs
      rw [List.map_map]
      exact List.map_congr_left fun b _ => by cases b <;> rfl, fun u hu => by
      obtain ⟨b, _, rfl⟩ := List.mem_map.mp hu
      cases b <;> decide, by rw [List.length_map, List.length_reverse]⟩
  unfold stk
  rw [hgs]
  have hw : ∃ u, wD w = tx u ∧ ∀ c ∈ u, c < 128 := by
    cases w
    · exact ⟨[111, 112, 101, 114, 97, 110, 100], rfl, by decide⟩
    · exact ⟨[111, 112, 101, 110], rfl, by decide⟩
    · exact ⟨[100, 105, 103, 105, 116], rfl, by decide⟩
    · exact ⟨[99, 111, 109, 109, 97], rfl, by decide⟩
    · exact ⟨[97, 102, 116, 101, 114], rfl, by decide⟩
  obtain ⟨u, hu, hul⟩ := hw
  have c1 : Cm (.lst [.str (wD w), .lst (txs gs)]) 60 := cm_lst fun x hx => by
    rcases List.mem_cons.mp hx with rfl | hx
    · rw [hu]; exact cm_tx fun c hc => by have := hul c hc; omega
    · rcases List.mem_singleton.mp hx with rfl
      refine cm_lst fun x hx => ?_
      obtain ⟨t, ht, rfl⟩ := List.mem_map.mp hx
      exact cm_tx fun c hc => by have := hlt t ht c hc; omega
  have c2 : Cm (.lst [.str (Str.ofString "after"), .lst []]) 60 := cm_lst fun x hx => by
    rcases List.mem_cons.mp hx with rfl | hx
    · exact cm_tx (l := [97, 102, 116, 101, 114]) (by decide)
    · rcases List.mem_singleton.mp hx with rfl
      exact cm_lst fun x hx => by cases hx
  obtain ⟨p, p1, p2, p3⟩ := c1
  obtain ⟨q, q1, q2, q3⟩ := c2
  unfold eqF
  rw [eqD_py p1 q1 p2 (by omega) q2 (by omega) ⟨fun _ z => (by cases z), fun _ z => (by cases z), fun _ z => (by cases z)⟩]
  have hp : py (.lst [.str (wD w), .lst (txs gs)]) = some (.list [.str (wD w), .list (gs.map fun t => .str (tx t))]) := by simp only [py, pys, txs_py, Option.map_some]
  have hq : py (.lst [.str (Str.ofString "after"), .lst []]) = some (.list [.str (Str.ofString "after"), .list []]) := rfl
  rw [hp] at p1
  rw [hq] at q1
  cases p1
  cases q1
  have he : PyData.eqv (.list [.str (wD w), .list (gs.map fun t => .str (tx t))]) (.list [.str (Str.ofString "after"), .list []]) = decide (w = .after ∧ s = []) := by
    rw [PyData.eqv, PyData.eqvAll, PyData.eqvAll, PyData.eqv, PyData.eqv]
    cases w <;> cases s <;> cases gs <;> first | rfl | (cases hgl) | decide
  rw [he]
/-- the automaton's state as data -/
def stD (w : W) (s : List Bool) : D := .lst [.str (wD w), stk s]
set_option maxHeartbeats 16000000 in
theorem fault_eq {s : List Nat} (hs : s.length ≤ 50000) (hb : bgt 12 (s.map wC)) : F_law_fault [.str (tx s)] = .ok (.d (ft (run s.length .operand [] (ctk s)))) [] := by
  have hl := len_tk (t := s) (by omega)
  have hc := cut_ok hs
  have hbd : bd 12 .operand [] (ctk s) := bd_bgt _ _ _ (by simpa using bgt_ctk hb)
  have htok : ∀ t ∈ ctk s, t.1.length ≤ 100000 := fun t ht => by have := ctk_mem t ht; omega
  generalize ctk s = T at *
  refine eq_of_sat ?_
  unfold F_law_fault
  walk_at "go"
  unfold g_law_fault
  walk_at "run0"
  with_reducible refine' v_run (T.map tkD) (fun i st => ∃ w b s2 s3, run s.length .operand [] T = run s.length w b (T.drop i) ∧ bd 12 w b (T.drop i) ∧ st = [.sh (.str (tx s)), .sh (stD w b), s2, s3]) ?o0 ?o1 ?o2
  · exact ⟨.operand, [], _, _, rfl, hbd, rfl⟩
  · rintro st ⟨w, b, s2, s3, hr, hb, rfl⟩
    rw [List.length_map, List.drop_length] at hr
    have he := eq_stk w b
    rw [hr]
    show _
    by_cases h : w = .after ∧ b = []
    · rw [decide_eq_true h] at he
      rw [show run s.length w b [] = none from if_pos h]
      generalize hx : stD w b = x
      unfold stD at hx
      rw [hx] at he
      walk_at "run0"
      exact ⟨_, rfl, rfl, rfl, rfl⟩
    · rw [decide_eq_false h] at he
      rw [show run s.length w b [] = some s.length from if_neg h]
      generalize hx : stD w b = x
      unfold stD at hx
      rw [hx] at he
      walk_at "run0"
      exact ⟨_, rfl, rfl, rfl, rfl⟩
  · rintro i x st hi ⟨w, b, s2, s3, hr, hb, rfl⟩
    rw [List.getElem?_map] at hi
    obtain ⟨t, ht, rfl⟩ : ∃ t, T[i]? = some t ∧ tkD t = x := by
      cases e : T[i]? with
      | none => rw [e] at hi; cases hi
      | some t => rw [e] at hi; cases hi; exact ⟨t, rfl, rfl⟩
    obtain ⟨hil, hg⟩ := List.getElem?_eq_some_iff.mp ht
    have hmt := htok t (List.mem_of_getElem? ht)
    have hbl := bd_len hb
    have hst := step_ok w b hmt (by omega)
    rw [List.drop_eq_getElem_cons hil, hg] at hr hb
    have i0 : itemF (stD w b) (.int 0) = some (.d (.str (wD w))) := rfl
    have i1 : itemF (stD w b) (.int 1) = some (.d (stk b)) := rfl
    refine ⟨_, rfl, ?_⟩
    cases e : step w b t.1 with
    | none =>
      rw [e] at hst
      rw [run_no e] at hr
      rw [hr]
      have n1 : isNonF .non = vb true := rfl
      generalize stD w b = sd at *
      unfold sR at hst
      walk_at "run0"
      exact ⟨_, rfl, rfl, rfl, rfl⟩
    | some q =>
      obtain ⟨w2, b2⟩ := q
      rw [e] at hst
      rw [run_step e] at hr
      have hst : F_law_step [.str (tx t.1), .str (wD w), stk b] = .ok (.d (stD w2 b2)) [] := hst
      have n1 : isNonF (stD w2 b2) = vb false := rfl
      generalize stD w b = sd at *
      generalize hx : stD w2 b2 = x at *
      walk_at "run0"
      exact ⟨w2, b2, _, _, hr, bd_step hb e, by rw [hx]⟩
end K22
open PySem PySem.Spec PyProof.Rows L2 DL Q
namespace K22
open FM
theorem ne_ft (x : Option Nat) : neF (.lst [ft x]) (.lst [ft x]) = vb false := ne_same (cm_lst (k := 63) fun d hd => by
  rcases List.mem_singleton.mp hd with rfl
  cases x with
  | none => exact cm_non
  | some a => exact cm_int)
theorem told_both {s : List Nat} {d : Int} {n : Nat} (h : Txt d n s) (hd : d ≤ 12) (hn : n ≤ 50000) : ∃ x : Option Nat, (F_law_told [.str (tx s)] = .ok (.d (.lst [ft x])) [] ∨ F_law_told [.str (tx s)] = .ok (.fr (.lst [ft x])) []) ∧ F_law_fault [.str (tx s)] = .ok (.d (ft x)) [] :=
  ⟨_, told_ok (Nat.le_trans h.len hn) (bgt_mono h.bud hd), fault_eq (Nat.le_trans h.len hn) (bgt_mono h.bud hd)⟩
theorem told_0 : F_law_told [.str (Str.ofString "")] = .ok (.d (.lst [.int 0])) [] ∨ F_law_told [.str (Str.ofString "")] = .ok (.fr (.lst [.int 0])) [] := told_ok (s := []) (by decide) (by show (0 : Int) ≤ 12; decide)
theorem told_3 : F_law_told [.str (Str.ofString "   ")] = .ok (.d (.lst [.int 3])) [] ∨ F_law_told [.str (Str.ofString "   ")] = .ok (.fr (.lst [.int 3])) [] := told_ok (s := [32, 32, 32]) (by decide) ((sp_w 3).2 12 (by decide))
theorem spd {n : Nat} {f : Nat} (hf : f ≤ 3) {d : D} {lv : Nat} {ts : Tt} (h : Prt (Bare f) lv d ts) : Tks 7 2002 ts := ((prt_bal h (bare_bal f)).mono (by omega) (by have := cnt3 f hf; omega)).tks
set_option maxHeartbeats 16000000 in
theorem law_ok (ns : List Int) (hl : ns.length ≤ 63) (hb : ∀ z ∈ ns, Builtin.Int.intBits z ≤ 1048576) : (callD [false] N_law.length g_law [.scr ns]).sat (fun a ios => a = .d (.bl true) ∧ ios = []) (fun _ _ => False) := by
  show (callD [false] 12 g_law [.scr ns]).sat _ _
  walk_at "go"
  unfold g_law
  have hm : ∃ m : Int, m = (if (if (8 : Int) < ns.length then (8 : Int) else ns.length) > 2 then (if (8 : Int) < ns.length then (8 : Int) else ns.length) else 2) ∧ 0 ≤ m ∧ m ≤ 8 := ⟨_, rfl, by split <;> split <;> omega, by split <;> split <;> omega⟩
  obtain ⟨m, hm, hm0, hm1⟩ := hm
  have hr := rng_small hm0 (by omega)
  rw [hm] at hr
  walk_at "run0"
  refine v_run _ (fun _ st => ∃ s1 s2 s3 s4 s5 s6 s7 s8 s9 s10 s11, st = [.sh (.scr ns), s1, s2, s3, s4, s5, s6, s7, s8, s9, s10, s11]) ⟨_, _, _, _, _, _, _, _, _, _, _, rfl⟩ (fun st hI => ?_) fun k d st hd hI => ?_
  · obtain ⟨s1, s2, s3, s4, s5, s6, s7, s8, s9, s10, s11, rfl⟩ := hI
    have e0 : eqF (.lst [.int 0]) (.lst [.int 0]) = vb true := rfl
    have e3 : eqF (.lst [.int 3]) (.lst [.int 3]) = vb true := rfl
    rcases told_0 with h0 | h0 <;> rcases told_3 with h3 | h3
    all_goals
      walk_at "run0"
      exact ⟨_, rfl, rfl, rfl, rfl⟩
  · obtain ⟨rfl, hk⟩ := rng_get hd
    rw [← hm] at hk
    clear hr hm
    obtain ⟨s1, s2, s3, s4, s5, s6, s7, s8, s9, s10, s11, rfl⟩ := hI
    have hp := pool_ok (ns := ns) (k := k) (by omega)
    have hpi := pool_is (ns := ns) (k := k)
    refine ⟨_, by walk_at "tgt", ?_⟩
    walk_at "run0"
    walk_at "draw"
    intro r0 b1 h0 h1 hb1
    walk_at "run0"
    walk_at "draw"
    intro r1 b2 h2 h3 hb2
    walk_at "run0"
    refine c_pool (node_ok (m := 6) (w := 6) rfl (by decide) (by decide) 5 (1 + r1).toNat (1 + r1) b2 (by omega) (by omega) hb2) (fun b' => by walk_at "setc") fun a b3 h4 => ?_
    obtain ⟨nd, rfl, hb3, hnd⟩ := h4
    walk_at "run0"
    refine c_tk (b := b3) (node_tokens (m := 6) (by decide) 6 (1 + r1).toNat (by omega) (by omega) nd hnd 0 0 b3 rfl hb3) (fun b' => by walk_at "setc") fun ts b4 hb4 hts => ?_
    have hT := spd (n := 0) (by omega) hts
    clear hnd hts
    walk_at "run0"
    refine c_tx (b := b4) (spaced_ok hb4 (by decide) (by decide) hT) (fun b' => by walk_at "setc") fun s b5 hb5 hs => ?_
    have hli : listF [.lst (txs ts)] = some (.fr (.lst (txs ts))) := rfl
    have hrs := rng_small (m := 1 + r0) (by omega) (by omega)
    walk_at "run0"
    with_reducible refine' v_run (rng 0 (1 + r0).toNat) (fun i st => ∃ b us s8, Pool b ∧ Tks (7 + 2 * (i : Int)) (2002 + i) us ∧ st = [.sh (.scr ns), .sh (.int (k : Nat)), .ow b, .sh (.int (1 + r0)), .sh (.int (1 + r1)), .sh (.lst (txs ts)), .sh (.str (tx s)), .sh (.lst (txs us)), s8, s9, s10, s11]) ?a0 ?a1 ?a2
    · exact ⟨b5, ts, _, hb5, hT, rfl⟩
    · rintro st ⟨b6, us, s8, hb6, hus, rfl⟩
      rw [rng_len] at hus
      have hU : Tks 12 2004 us := ⟨bgt_mono hus.bud (by omega), Nat.le_trans hus.len (by omega), hus.ok⟩
      walk_at "run0"
      refine c_tx (b := b6) (spaced_ok hb6 (by decide) (by decide) hU) (fun b' => by walk_at "setc") fun u b7 hb7 hu => ?_
      walk_at "run0"
      refine c_tx (b := b7) (signed_ok hb7 (by decide) hs) (fun b' => by walk_at "setc") fun v b8 hb8 hv => ?_
      walk_at "run0"
      refine c_tx (b := b8) (signed_ok hb8 (by decide) hv) (fun b' => by walk_at "setc") fun w b9 hb9 hw => ?_
      have hadd : addF (.lst [.str (tx s), .str (tx u), .str (tx v)]) (.lst [.str (tx w)]) = some (.fr (.lst [.str (tx s), .str (tx u), .str (tx v), .str (tx w)])) := add_lst (by show 3 + 1 ≤ _; decide)
      have hall : ∀ x ∈ [D.str (tx s), .str (tx u), .str (tx v), .str (tx w)], ∃ t, x = .str (tx t) ∧ Txt 12 50000 t := fun x hx => by
        simp only [List.mem_cons, List.not_mem_nil, or_false] at hx
        rcases hx with rfl | rfl | rfl | rfl
        · exact ⟨s, rfl, hs.mono (by decide) (by decide)⟩
        · exact ⟨u, rfl, hu.mono (by decide) (by decide)⟩
        · exact ⟨v, rfl, hv.mono (by decide) (by decide)⟩
        · exact ⟨w, rfl, hw.mono (by decide) (by decide)⟩
      generalize hL : [D.str (tx s), .str (tx u), .str (tx v), .str (tx w)] = L at *
      walk_at "run0"
      with_reducible refine' v_run L (fun i st => ∃ b s10 s11, Pool b ∧ st = [.sh (.scr ns), .sh (.int (k : Nat)), .ow b, .sh (.int (1 + r0)), .sh (.int (1 + r1)), .sh (.lst (txs ts)), .sh (.str (tx s)), .sh (.lst (txs us)), s8, .sh (.lst [.str (tx s), .str (tx u), .str (tx v)]), s10, s11]) ?e0 ?e1 ?e2
      · exact ⟨b9, _, _, hb9, rfl⟩
      · rintro st ⟨b10, s10, s11, hb10, rfl⟩
        exact ⟨_, _, _, _, _, _, _, _, _, _, _, rfl⟩
      · rintro i x st hi ⟨b10, s10, s11, hb10, rfl⟩
        obtain ⟨t, rfl, ht⟩ := hall x (List.mem_of_getElem? hi)
        clear hall hadd hL hi
        have hlt := len_tk (t := t) (by have := ht.len; omega)
        have htl := ht.len
        obtain ⟨y, hy1, hy2⟩ := told_both ht (by decide) (by decide)
        have hne := ne_ft y
        have key : ∀ r : Int, 0 ≤ r → ∃ z : Option Nat, slF (.str (tx t)) none (some r) = vs (tx (t.take r.toNat)) ∧ (F_law_told [.str (tx (t.take r.toNat))] = .ok (.d (.lst [ft z])) [] ∨ F_law_told [.str (tx (t.take r.toNat))] = .ok (.fr (.lst [ft z])) []) ∧ F_law_fault [.str (tx (t.take r.toNat))] = .ok (.d (ft z)) [] ∧ neF (.lst [ft z]) (.lst [ft z]) = vb false := fun r hr => by
          obtain ⟨z, hz1, hz2⟩ := told_both (ht.take r.toNat) (by decide) (by decide)
          exact ⟨z, slS_take hr (by omega), hz1, hz2, ne_ft z⟩
        refine ⟨_, rfl, ?_⟩
        rcases hy1 with hy1 | hy1
        all_goals
          walk_at "run0"
          walk_at "draw"
          intro r b11 h5 h6 hb11
          obtain ⟨z, hsl, hz1, hz2, hz3⟩ := key r h5
          rcases hz1 with hz1 | hz1
          all_goals
            walk_at "run0"
            exact ⟨b11, _, _, hb11, rfl⟩
    · rintro i x st hi ⟨b6, us, s8, hb6, hus, rfl⟩
      obtain ⟨rfl, hil⟩ := rng_get hi
      refine ⟨_, rfl, ?_⟩
      walk_at "run0"
      refine c_tk (b := b6) (bent_ok hb6 (by omega) hus) (fun b' => by walk_at "setc") fun vs b7 hb7 hvs => ?_
      walk_at "run0"
      exact ⟨b7, vs, _, hb7, ⟨bgt_mono hvs.bud (by omega), Nat.le_trans hvs.len (by omega), hvs.ok⟩, rfl⟩
end K22
set_option maxHeartbeats 0
open PySem PySem.Spec PyProof.Rows L2 DL
namespace K22
open HX
theorem top_of {K : PySem.W.Frag} {h : Heap} {mg : Str → Option Value} (X : K.In h) (G : h.Ns mainGlobals mg) (c : SaysX K22r.fcts K) (t : tabsB K = true) : Top (PySem.Challenge.rw_leastlooks_k22_formulas_refused).prog K mg :=
  Top.mk (fun_of X G (c.get (i := 0) rfl) fun _ _ _ _ _ _ us hl => match us, hl with | [_], _ => rfl)
    (fun_of X G (c.get (i := 1) rfl) fun _ _ _ _ _ _ us hl => match us, hl with | [_, _], _ => rfl)
    (fun_of X G (c.get (i := 2) rfl) fun _ _ _ _ _ _ us hl => match us, hl with | [_, _], _ => rfl)
    (fun_of X G (c.get (i := 3) rfl) fun _ _ _ _ _ _ us hl => match us, hl with | [_, _, _], _ => rfl)
    (fun_of X G (c.get (i := 4) rfl) fun _ _ _ _ _ _ us hl => match us, hl with | [_], _ => rfl)
    (fun_of X G (c.get (i := 5) rfl) fun _ _ _ _ _ _ us hl => match us, hl with | [_, _, _], _ => rfl)
    (fun_of X G (c.get (i := 6) rfl) fun _ _ _ _ _ _ us hl => match us, hl with | [_, _, _], _ => rfl)
    (fun_of X G (c.get (i := 7) rfl) fun _ _ _ _ _ _ us hl => match us, hl with | [_, _], _ => rfl)
    (fun_of X G (c.get (i := 8) rfl) fun _ _ _ _ _ _ us hl => match us, hl with | [_], _ => rfl)
    (fun_of X G (c.get (i := 9) rfl) fun _ _ _ _ _ _ us hl => match us, hl with | [_, _, _], _ => rfl)
    (fun_of X G (c.get (i := 10) rfl) fun _ _ _ _ _ _ us hl => match us, hl with | [_], _ => rfl)
    (fun_of X G (c.get (i := 11) rfl) fun _ _ _ _ _ _ us hl => match us, hl with | [_, _], _ => rfl)
    (fun_of X G (c.get (i := 12) rfl) fun _ _ _ _ _ _ us hl => match us, hl with | [_, _], _ => rfl)
    (me_of X G (c.get (i := 13) rfl) fun _ _ _ _ _ _ us hl => match us, hl with | [_, _], _ => rfl)
    (me_of X G (c.get (i := 14) rfl) fun _ _ _ _ _ _ us hl => match us, hl with | [_], _ => rfl)
    (me_of X G (c.get (i := 15) rfl) fun _ _ _ _ _ _ us hl => match us, hl with | [_], _ => rfl)
    (me_of X G (c.get (i := 16) rfl) fun _ _ _ _ _ _ us hl => match us, hl with | [_, _], _ => rfl)
    (me_of X G (c.get (i := 17) rfl) fun _ _ _ _ _ _ us hl => match us, hl with | [_], _ => rfl)
    (me_of X G (c.get (i := 18) rfl) fun _ _ _ _ _ _ us hl => match us, hl with | [_], _ => rfl)
    (me_of X G (c.get (i := 19) rfl) fun _ _ _ _ _ _ us hl => match us, hl with | [_], _ => rfl)
    (me_of X G (c.get (i := 20) rfl) fun _ _ _ _ _ _ us hl => match us, hl with | [_, _], _ => rfl)
    (fun_of X G (c.get (i := 21) rfl) fun _ _ _ _ _ _ us hl => match us, hl with | [_], _ => rfl)
    (me_of X G (c.get (i := 22) rfl) fun _ _ _ _ _ _ us hl => match us, hl with | [_, _], _ => rfl)
    (fun_of X G (c.get (i := 23) rfl) fun _ _ _ _ _ _ us hl => match us, hl with | [_], _ => rfl)
    (fun_of X G (c.get (i := 24) rfl) fun _ _ _ _ _ _ us hl => match us, hl with | [_], _ => rfl)
    (cl_of X G (c.get (i := 25) rfl))
    (cl_of X G (c.get (i := 26) rfl))
    (cls_of X G (c.get (i := 27) rfl))
    (isC_of (fs := ["node"]) X G (c.get (i := 28) rfl))
    (tupS_of X G (by decide +kernel) (c.get (i := 29) rfl))
    (tupS_of X G (by decide +kernel) (c.get (i := 30) rfl))
    (free_of X G (c.get (i := 31) rfl))
    (free_of X G (c.get (i := 32) rfl))
    (free_of X G (c.get (i := 33) rfl))
    (free_of X G (c.get (i := 34) rfl))
    (free_of X G (c.get (i := 35) rfl))
    (free_of X G (c.get (i := 36) rfl))
    (free_of X G (c.get (i := 37) rfl))
    (free_of X G (c.get (i := 38) rfl))
    (con_of X G (c.get (i := 39) rfl))
    (con_of X G (c.get (i := 40) rfl))
    (ex_of X G (c.get (i := 41) rfl))
    (cls_of X G (c.get (i := 42) rfl))
    (cls_of X G (c.get (i := 43) rfl))
    (subs_of X G (c.get (i := 44) rfl))
end K22
open PySem PySem.W PySem.Calls PyProof.Rows
theorem PySem.Challenge.cw_leastlooks_k22_formulas_refused_holds : PySem.Challenge.rw_leastlooks_k22_formulas_refused.Holds := by
  w_on; o_law
  refine HandSHeadRun.head_any (r := PySem.W.OpenLaw.row PySem.Challenge.rw_leastlooks_k22_formulas_refused) (q := PySem.W.view (PySem.W.OpenLaw.row PySem.Challenge.rw_leastlooks_k22_formulas_refused).prog [29]) (H := HX.hookY 6 K22r.fcts) (ob := fun s => HX.obY 6 K22r.fcts (HandSHeadRun.getT s)) (M := 30000) (loose := K22r.loose) (d := HandSHeadRun.topDef (PySem.W.OpenLaw.row PySem.Challenge.rw_leastlooks_k22_formulas_refused).prog 29) (kwd := []) (fun s => HX.obY_eq s)
    (by kernel_rfl) (fun s => by kernel_rfl) K22r.run (by kernel_rfl) (by kernel_rfl) (by kernel_rfl) (by rfl) (by first | assumption | decide +kernel) (by decide +kernel) ⟨rfl, rfl, rfl, rfl, rfl, by decide +kernel⟩ ?hw ?hc
  case hw => w_witness2
  case hc =>
    refine HX.walk_gY (l := PySem.Challenge.rw_leastlooks_k22_formulas_refused) (n := 63) (k := 216) (x := "_law_script") rfl (by decide) (by kernel_rfl) ⟨rfl, by decide, by decide⟩ ?F
    intro w mg fa h K KX c t G hmg0
    have hmg : mg ("law" : PySem.Str) = some (.ref fa) := by
      have e : (HandSHeadRun.topDef (PySem.W.OpenLaw.row PySem.Challenge.rw_leastlooks_k22_formulas_refused).prog 29).name = ("law" : PySem.Str) := by kernel_rfl
      rw [← e]
      exact hmg0
    have T := K22.top_of KX G c t
    exact HX.law_fnY (w := w) KX G t T.f_law K22.sc_law hmg (fun base X W e1 e2 e3 e4 e5 c v q => K22.law_b T e1 e3 e4 c v q) fun ns hl hb => K22.law_ok ns hl hb
