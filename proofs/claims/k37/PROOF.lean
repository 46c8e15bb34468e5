import PyProof.Rows.All
import Wide.All
import OpenK.AllK
import Wide.FinOn
import HandS.ForMost
import HandS.ForExc
import HandS.Lambda
import KE.KDictKeyed
import HandS.Wide
import HandS.Style
import HandS.Flow
import HandS.IsInst
import HandS.SortInts
import HandS.NoneIn
import HandS.Iter
import HandS.Comp
import HandS.Ends
import HandS.EndTab
import PyProof.ReprRoads
import HandS.Dict
import HandS.Property
import HandS.ClsMeth
import HandS.Star
import HandS.ExcInit
import HandS.ExcField
import HandS.ExcIs
import HandS.TryMany
import KE.KExcInit
import PyProof.ExcBaseAll.RuntimeError
import PyProof.ExcBaseAll.OverflowError
import PyProof.ExcBaseAll.IndexError
import KE.RegKTryMore
import HandS.NamedTupGet
import HandS.Conv
import KE.KExcIs
import KE.GoesMore
import PyProof.EnumMake
import KE.DataMinMax
import HandS.OwnEq
import OpenK.KMeth
import HandS.Deep
import HandS.Zip
import HandS.More
import PySem.Challenge.RW_dequeeffect_k37_great_long_powers
set_option Elab.async false
set_option linter.all false
set_option maxRecDepth 100000
set_option maxHeartbeats 0
namespace DL
open PySem L2

/-- a value as a tree -/
inductive D where
  | non | bl (b : Bool) | int (i : Int) | str (x : Str)
  | lst (xs : List D) | tup (xs : List D)
  | dct (kvs : List (Key × D)) | dcT (kvs : List (List Key × D)) | dcN (kvs : List (D × D))
  | obj (n : Str) (fs : List (Str × D))
  | scr (ns : List Int)
  | cls (n : Str)
  | ty (n : String)
  /-- a door: a function object, what its cells hold -/
  | clo (f : Addr) (us : List V) (ds : List D)
deriving Inhabited

mutual
/-- a key without texts -/
def noTx : NestedKey → Bool
  | .num _ => true
  | .tup ks => noTxL ks
  | _ => false
def noTxL : List NestedKey → Bool
  | [] => true
  | k :: ks => noTx k && noTxL ks
end
mutual
/-- data as a key -/
def nkD : D → Option NestedKey
  | .int i => some (.num i)
  | .tup ds => (nksD ds).map .tup
  | _ => none
def nksD : List D → Option (List NestedKey)
  | [] => some []
  | d :: ds => (nkD d).bind fun k => (nksD ds).map fun ks => k :: ks
end
/-- an entry told: the key, its own tuple, the value -/
abbrev NdE := NestedKey × Addr × V
/-- the dict at p, its keys tuples of whole numbers and tuples -/
def NdO (p : Addr) (us : List NdE) : HO := .ext fun h => (us.map (·.1)).Nodup ∧ us.length ≤ sizeLine ∧ (p == sysModules) = false ∧ (∀ u ∈ us, noTx u.1 = true ∧ u.1.depth ≤ 8) ∧
  ∃ (o : Obj) (es : Array DictEntry) (ep : Nat) (zs : List (NestedKey × Addr × Value)), h.get? p = some o ∧ o.ExactDict ∧ o.data = .dict es ep ∧ Paired (fun (u : NdE) (z : NestedKey × Addr × Value) => z.1 = u.1 ∧ z.2.1 = u.2.1 ∧ RelV u.2.2 z.2.2) us zs ∧ ∀ w : World, es.toList = zs.map fun z => (⟨z.1.hash w, .ref z.2.1, z.2.2⟩ : DictEntry)
theorem nd_ne_code {p c : Addr} {us : List NdE} {q : Str} : NdO p us ≠ LamX.CodeO c q := by
  intro h
  unfold NdO LamX.CodeO at h
  injection h with h
  have e := congrFun h { objs := Array.replicate (c + 1) { cls := .none, data := .fields #[.none, .str q 0] } }
  have g : ∀ a o, ({ objs := Array.replicate (c + 1) { cls := .none, data := .fields #[.none, .str q 0] } } : Heap).get? a = some o → o = { cls := .none, data := .fields #[.none, .str q 0] } := by
    intro a o hg
    unfold Heap.get? at hg
    simp only [Array.getElem?_replicate] at hg
    by_cases ha : a < c + 1
    · simp only [ha, if_true] at hg
      exact (Option.some.inj hg).symm
    · simp only [ha, if_false] at hg
      cases hg
  have w : ∃ (oc : Obj) (vs : Array Value) (t : Tok), ({ objs := Array.replicate (c + 1) { cls := .none, data := .fields #[.none, .str q 0] } } : Heap).get? c = some oc ∧ oc.data = .fields vs ∧ vs[1]? = some (.str q t) := by
    refine ⟨{ cls := .none, data := .fields #[.none, .str q 0] }, _, 0, ?_, rfl, rfl⟩
    unfold Heap.get?
    simp only [Array.getElem?_replicate, Nat.lt_succ_self, if_true]
  rw [← e] at w
  obtain ⟨_, _, _, _, o, es, ep, zs, ho, _, hd, _⟩ := w
  rw [g p o ho] at hd
  cases hd
/-- what is fixed for a whole text -/
structure Gc where
  K : PySem.W.Frag
  mg : Str → Option Value
  /-- the tables of code objects, each with the name that its codes bear -/
  T : List (Addr × Str)
/-- no such table -/
def Fx (o : HO) : Prop := ∀ ps, o ≠ .tbl ps
theorem fx_lst {xs : List V} : Fx (.lst xs) := fun _ h => nomatch h
theorem fx_tup {xs : List V} : Fx (.tup xs) := fun _ h => nomatch h
theorem fx_dK {xs : List (Key × V)} : Fx (.dK xs) := fun _ h => nomatch h
theorem fx_dT {xs : List (List Key × V)} : Fx (.dT xs) := fun _ h => nomatch h
theorem fx_nd {p : Addr} {us : List NdE} : Fx (NdO p us) := fun _ h => by unfold NdO at h; cases h
theorem fx_ins {C dx : Addr} {xs : List (Str × V)} : Fx (.ins C dx xs) := fun _ h => nomatch h
theorem fx_xd {xs : List (Str × V)} : Fx (.xd xs) := fun _ h => nomatch h
theorem fx_frz {o : Obj} {u : HO} : Fx (.frz o u) := fun _ h => nomatch h
theorem fx_own {x : Addr} : Fx (.own x) := fun _ h => nomatch h

/-- neither a table nor a thing known by a saying -/
def Pln (o : HO) : Prop := (∀ ps, o ≠ .tbl ps) ∧ ∀ c q, o ≠ LamX.CodeO c q
theorem pln_lst {xs : List V} : Pln (.lst xs) := ⟨fun _ h => (nomatch h), fun _ _ h => by unfold LamX.CodeO at h; cases h⟩
theorem pln_dK {xs : List (Key × V)} : Pln (.dK xs) := ⟨fun _ h => (nomatch h), fun _ _ h => by unfold LamX.CodeO at h; cases h⟩
theorem pln_dT {xs : List (List Key × V)} : Pln (.dT xs) := ⟨fun _ h => (nomatch h), fun _ _ h => by unfold LamX.CodeO at h; cases h⟩
theorem pln_ins {C dx : Addr} {xs : List (Str × V)} : Pln (.ins C dx xs) := ⟨fun _ h => (nomatch h), fun _ _ h => by unfold LamX.CodeO at h; cases h⟩
theorem pln_nd {p : Addr} {us : List NdE} : Pln (NdO p us) := ⟨fx_nd, fun _ _ => nd_ne_code⟩
theorem tabs_upd {T : List (Addr × Str)} {H : Hp} {D : Addr} {o o' : HO} (t : LamX.Tabs T H) (h : H D = some o) (p : Pln o) : LamX.Tabs T (upd H D o') := by
  intro q hq
  obtain ⟨ps, h1, h2, h3⟩ := t q hq
  have e : q.1 ≠ D := fun z => by rw [z, h] at h1; exact p.1 ps (Option.some.inj h1)
  refine ⟨ps, by rw [upd_ne e]; exact h1, h2, fun pos cv hc => ?_⟩
  obtain ⟨c, e1, e2⟩ := h3 pos cv hc
  have e' : c ≠ D := fun z => by rw [z, h] at e2; exact p.2 _ _ (Option.some.inj e2)
  exact ⟨c, e1, by rw [upd_ne e']; exact e2⟩
/-- the built-in types that data is of -/
abbrev tyNames : List String := ["NoneType", "bool", "int", "str", "list", "tuple", "dict"]
/-- what the written part says of a class whose instances are data -/
structure ObjK (K : PySem.W.Frag) (C : Addr) : Prop where
  cl : Cls K C
  ha : PySem.W.findIn K (.ref C) "__class__" = some (some (.builtin "object.__class__"))
  hn : PySem.W.specialIn K (.builtin "object.__class__") "__get__" = some (some (.builtin "getset_descriptor.__get__"))
  htk : PySem.W.takesIn K (.builtin "object.__class__") = some true
  hm : PySem.W.mroIn K C (.type "object") = some true
  ki : ∀ T ∈ tyNames, PySem.W.kitOne K (.ref C) (.type T) = some false
mutual
/-- v stands for the tree d, all its objects within Av -/
def Rep (G : Gc) (Av : Addr → Prop) (H : Hp) : D → V → Prop
  | .non, v => v = .non
  | .bl b, v => v = .bl b
  | .int i, v => v = .int i
  | .str x, v => v = .str x
  | .lst ds, v => ∃ a vs, v = .ref a ∧ Av a ∧ H a = some (.lst vs) ∧ RepL G Av H ds vs
  | .tup ds, v => ∃ a vs, v = .ref a ∧ Av a ∧ H a = some (.tup vs) ∧ RepL G Av H ds vs
  | .dct kvs, v => ∃ a us, v = .ref a ∧ Av a ∧ Rd H a (.dK us) ∧ RepK G Av H kvs us
  | .dcT kvs, v => ∃ a us, v = .ref a ∧ Av a ∧ Rd H a (.dT us) ∧ RepT G Av H kvs us
  | .dcN kvs, v => ∃ a us, v = .ref a ∧ Av a ∧ Rd H a (NdO a us) ∧ RepN G Av H kvs us
  | .obj n fs, v => ∃ a C dx us, v = .ref a ∧ Av a ∧ (G.mg n = some (.ref C) ∧ ObjK G.K C) ∧ H a = some (.ins C dx us) ∧ RepF G Av H fs us
  | .scr ns, v => ∃ a, v = .ref a ∧ ((Av a ∧ Rd H a (.lst (ns.map V.int))) ∨ ∀ H', SqL G.K H' a (ns.map V.int))
  | .cls n, v => ∃ C, G.mg n = some (.ref C) ∧ v = .ref C
  | .ty n, v => v = .ty n
  | .clo f us ds, v => v = .ref f ∧ RepL G Av H ds us
def RepL (G : Gc) (Av : Addr → Prop) (H : Hp) : List D → List V → Prop
  | [], vs => vs = []
  | d :: ds, vs => ∃ v r, vs = v :: r ∧ Rep G Av H d v ∧ RepL G Av H ds r
def RepK (G : Gc) (Av : Addr → Prop) (H : Hp) : List (Key × D) → List (Key × V) → Prop
  | [], us => us = []
  | (k, d) :: ds, us => ∃ v r, us = (k, v) :: r ∧ Rep G Av H d v ∧ RepK G Av H ds r
def RepT (G : Gc) (Av : Addr → Prop) (H : Hp) : List (List Key × D) → List (List Key × V) → Prop
  | [], us => us = []
  | (k, d) :: ds, us => ∃ v r, us = (k, v) :: r ∧ Rep G Av H d v ∧ RepT G Av H ds r
def RepN (G : Gc) (Av : Addr → Prop) (H : Hp) : List (D × D) → List NdE → Prop
  | [], us => us = []
  | (dk, d) :: ds, us => ∃ k p v r, us = (k, p, v) :: r ∧ nkD dk = some k ∧ Rep G Av H dk (.ref p) ∧ Rep G Av H d v ∧ RepN G Av H ds r
def RepF (G : Gc) (Av : Addr → Prop) (H : Hp) : List (Str × D) → List (Str × V) → Prop
  | [], us => us = []
  | (k, d) :: ds, us => ∃ v r, us = (k, v) :: r ∧ Rep G Av H d v ∧ RepF G Av H ds r
end

/-- what a step of the heap keeps for those who look within Av -/
structure Keep (G : Gc) (Av Av' : Addr → Prop) (H H' : Hp) : Prop where
  rd : ∀ a u, Av a → Fx u → Rd H a u → Rd H' a u
  lst : ∀ a vs, Av a → H a = some (.lst vs) → H' a = some (.lst vs)
  tup : ∀ a vs, Av a → H a = some (.tup vs) → H' a = some (.tup vs)
  ins : ∀ a C dx us, Av a → H a = some (.ins C dx us) → H' a = some (.ins C dx us)
  av : ∀ a u, Av a → Rd H a u → Av' a

theorem rd_of {H : Hp} {a : Addr} {u : HO} (h : H a = some u) : Rd H a u := .inl h

section
variable {G : Gc} {Av Av' : Addr → Prop} {H H' : Hp}
mutual
theorem Rep.keep (k : Keep G Av Av' H H') : ∀ {d : D} {v : V}, Rep G Av H d v → Rep G Av' H' d v
  | .non, v, h => by unfold Rep at h ⊢; exact h
  | .bl _, v, h => by unfold Rep at h ⊢; exact h
  | .int _, v, h => by unfold Rep at h ⊢; exact h
  | .str _, v, h => by unfold Rep at h ⊢; exact h
  | .lst ds, v, h => by
    unfold Rep at h ⊢
    obtain ⟨a, vs, e, ha, hh, r⟩ := h
    exact ⟨a, vs, e, k.av a _ ha (rd_of hh), k.lst a vs ha hh, RepL.keep k r⟩
  | .tup ds, v, h => by
    unfold Rep at h ⊢
    obtain ⟨a, vs, e, ha, hh, r⟩ := h
    exact ⟨a, vs, e, k.av a _ ha (rd_of hh), k.tup a vs ha hh, RepL.keep k r⟩
  | .dct kvs, v, h => by
    unfold Rep at h ⊢
    obtain ⟨a, us, e, ha, hh, r⟩ := h
    exact ⟨a, us, e, k.av a _ ha hh, k.rd a _ ha fx_dK hh, RepK.keep k r⟩
  | .dcT kvs, v, h => by
    unfold Rep at h ⊢
    obtain ⟨a, us, e, ha, hh, r⟩ := h
    exact ⟨a, us, e, k.av a _ ha hh, k.rd a _ ha fx_dT hh, RepT.keep k r⟩
  | .dcN kvs, v, h => by
    unfold Rep at h ⊢
    obtain ⟨a, us, e, ha, hh, r⟩ := h
    exact ⟨a, us, e, k.av a _ ha hh, k.rd a _ ha fx_nd hh, RepN.keep k r⟩
  | .obj n fs, v, h => by
    unfold Rep at h ⊢
    obtain ⟨a, C, dx, us, e, ha, hm, hh, r⟩ := h
    exact ⟨a, C, dx, us, e, k.av a _ ha (rd_of hh), hm, k.ins a C dx us ha hh, RepF.keep k r⟩
  | .scr ns, v, h => by
    unfold Rep at h ⊢
    obtain ⟨a, e, h⟩ := h
    refine ⟨a, e, ?_⟩
    rcases h with ⟨ha, hh⟩ | hh
    · exact .inl ⟨k.av a _ ha hh, k.rd a _ ha fx_lst hh⟩
    · exact .inr hh
  | .cls _, v, h => by unfold Rep at h ⊢; exact h
  | .ty _, v, h => by unfold Rep at h ⊢; exact h
  | .clo _ _ _, v, h => by unfold Rep at h ⊢; exact ⟨h.1, RepL.keep k h.2⟩
theorem RepL.keep (k : Keep G Av Av' H H') : ∀ {ds : List D} {vs : List V}, RepL G Av H ds vs → RepL G Av' H' ds vs
  | [], vs, h => by unfold RepL at h ⊢; exact h
  | d :: ds, vs, h => by
    unfold RepL at h ⊢
    obtain ⟨v, r, e, h1, h2⟩ := h
    exact ⟨v, r, e, Rep.keep k h1, RepL.keep k h2⟩
theorem RepK.keep (k : Keep G Av Av' H H') : ∀ {ds : List (Key × D)} {vs : List (Key × V)}, RepK G Av H ds vs → RepK G Av' H' ds vs
  | [], vs, h => by unfold RepK at h ⊢; exact h
  | (q, d) :: ds, vs, h => by
    unfold RepK at h ⊢
    obtain ⟨v, r, e, h1, h2⟩ := h
    exact ⟨v, r, e, Rep.keep k h1, RepK.keep k h2⟩
theorem RepT.keep (k : Keep G Av Av' H H') : ∀ {ds : List (List Key × D)} {vs : List (List Key × V)}, RepT G Av H ds vs → RepT G Av' H' ds vs
  | [], vs, h => by unfold RepT at h ⊢; exact h
  | (q, d) :: ds, vs, h => by
    unfold RepT at h ⊢
    obtain ⟨v, r, e, h1, h2⟩ := h
    exact ⟨v, r, e, Rep.keep k h1, RepT.keep k h2⟩
theorem RepN.keep (k : Keep G Av Av' H H') : ∀ {ds : List (D × D)} {vs : List NdE}, RepN G Av H ds vs → RepN G Av' H' ds vs
  | [], vs, h => by unfold RepN at h ⊢; exact h
  | (dk, d) :: ds, vs, h => by
    unfold RepN at h ⊢
    obtain ⟨q, p, v, r, e, e2, h1, h2, h3⟩ := h
    exact ⟨q, p, v, r, e, e2, Rep.keep k h1, Rep.keep k h2, RepN.keep k h3⟩
theorem RepF.keep (k : Keep G Av Av' H H') : ∀ {ds : List (Str × D)} {vs : List (Str × V)}, RepF G Av H ds vs → RepF G Av' H' ds vs
  | [], vs, h => by unfold RepF at h ⊢; exact h
  | (q, d) :: ds, vs, h => by
    unfold RepF at h ⊢
    obtain ⟨v, r, e, h1, h2⟩ := h
    exact ⟨v, r, e, Rep.keep k h1, RepF.keep k h2⟩
end
end

/-! ### the state of a def's run -/
/-- a slot: nothing known, shared data, an object that this slot alone holds -/
inductive SC where
  | un | sh (d : D) | ow (d : D)
deriving Inhabited
abbrev SD := List SC

/-- what is fixed for a run of a def: the heap at the entry, where results may lie, the slots of objects that the caller lends -/
structure Ct extends Gc where
  H0 : Hp
  A0 : Addr → Prop
  io : List (Nat × Addr)
/-- where data lies; the objects that slots own -/
structure Sx where
  Av : Addr → Prop
  ρ : Nat → Option Addr

/-- an owned object's content (its parts are shared data) -/
def Own (G : Gc) (Av : Addr → Prop) (H : Hp) (a : Addr) : D → Prop
  | .lst ds => ∃ vs, H a = some (.lst vs) ∧ RepL G Av H ds vs
  | .dct kvs => ∃ us, H a = some (.dK us) ∧ RepK G Av H kvs us
  | .dcT kvs => ∃ us, H a = some (.dT us) ∧ RepT G Av H kvs us
  | .dcN kvs => ∃ us, H a = some (NdO a us) ∧ RepN G Av H kvs us
  | .obj n fs => ∃ C dx us, (G.mg n = some (.ref C) ∧ ObjK G.K C) ∧ H a = some (.ins C dx us) ∧ RepF G Av H fs us
  | _ => False

theorem Own.pln {G : Gc} {Av : Addr → Prop} {H : Hp} {a : Addr} {d : D} (h : Own G Av H a d) : ∃ o, H a = some o ∧ Pln o ∧ Fx o := by
  cases d <;> first
    | exact h.elim
    | (obtain ⟨vs, h1, _⟩ := h; exact ⟨_, h1, by first | exact pln_lst | exact pln_dK | exact pln_dT | exact pln_nd, by first | exact fx_lst | exact fx_dK | exact fx_dT | exact fx_nd⟩)
    | (obtain ⟨C, dx, us, _, h1, _⟩ := h; exact ⟨_, h1, pln_ins, fx_ins⟩)
def SlotOk (c : Ct) (x : Sx) (σ : St) (H : Hp) (i : Nat) : Option SC → Prop
  | some (.sh d) => ∃ v, σ[i]? = some (some v) ∧ Rep c.toGc x.Av H d v
  | some (.ow d) => ∃ a, x.ρ i = some a ∧ σ[i]? = some (some (.ref a)) ∧ Own c.toGc x.Av H a d
  | _ => True

structure SR (c : Ct) (x : Sx) (σ : St) (H : Hp) (Δ : SD) : Prop where
  len : σ.length = Δ.length
  base : ∀ a o, c.H0 a = some o → Fx o → (∀ p ∈ c.io, p.2 ≠ a) → H a = some o
  tab : LamX.Tabs c.T H
  trk : ∀ a, H a = none → c.H0 a = none
  fr : ∀ p, H p = none → x.Av p
  av : ∀ a, x.Av a → c.A0 a
  a0 : ∀ p, c.H0 p = none → c.A0 p
  ow : ∀ i a, x.ρ i = some a → ¬ x.Av a ∧ H a ≠ none ∧ (c.H0 a = none ∨ ∃ p ∈ c.io, p.2 = a)
  inj : ∀ i j a, x.ρ i = some a → x.ρ j = some a → i = j
  slot : ∀ i, SlotOk c x σ H i Δ[i]?
  ios : ∀ p ∈ c.io, x.ρ p.1 = some p.2

/-- what a step keeps: everything that no slot owns; addresses -/
structure Kp (x : Sx) (H : Hp) (x' : Sx) (H' : Hp) : Prop where
  frame : ∀ a o, H a = some o → Fx o → (∀ i, x.ρ i ≠ some a) → H' a = some o
  trk : ∀ a, H' a = none → H a = none
  own : ∀ i a, x'.ρ i = some a → (∃ j, x.ρ j = some a) ∨ H a = none
  av : ∀ a, x.Av a → H a ≠ none → x'.Av a
  avb : ∀ a, x'.Av a → x.Av a ∨ H a = none ∨ ∃ j, x.ρ j = some a
theorem Kp.refl (x : Sx) (H : Hp) : Kp x H x H := ⟨fun _ _ h _ _ => h, fun _ h => h, fun i a h => .inl ⟨i, h⟩, fun _ h _ => h, fun _ h => .inl h⟩
theorem Kp.trans {x x1 x2 : Sx} {H H1 H2 : Hp} (a : Kp x H x1 H1) (b : Kp x1 H1 x2 H2) : Kp x H x2 H2 where
  frame := fun p o h f n => b.frame p o (a.frame p o h f n) f fun i e => by
    rcases a.own i p e with ⟨j, q⟩ | q
    · exact n j q
    · rw [h] at q; cases q
  trk := fun p h => a.trk p (b.trk p h)
  own := fun i p h => by
    rcases b.own i p h with ⟨j, q⟩ | q
    · exact a.own j p q
    · exact .inr (a.trk p q)
  av := fun p h n => b.av p (a.av p h n) fun e => n (a.trk p e)
  avb := fun p h => by
    rcases b.avb p h with q | q | ⟨j, q⟩
    · exact a.avb p q
    · exact .inr (.inl (a.trk p q))
    · rcases a.own j p q with q | q
      · exact .inr (.inr q)
      · exact .inr (.inl q)

section
variable {c : Ct} {x x' : Sx} {σ : St} {H H' : Hp} {Δ : SD}
theorem SR.notOwned (s : SR c x σ H Δ) {a : Addr} (h : x.Av a) : ∀ i, x.ρ i ≠ some a := fun i e => (s.ow i a e).1 h
theorem SR.keep (s : SR c x σ H Δ) (k : Kp x H x' H') : Keep c.toGc x.Av x'.Av H H' where
  rd := fun a u ha f h => by
    rcases h with h | ⟨o, h⟩
    · exact .inl (k.frame a _ h f (s.notOwned ha))
    · exact .inr ⟨o, k.frame a _ h fx_frz (s.notOwned ha)⟩
  lst := fun a vs ha h => k.frame a _ h fx_lst (s.notOwned ha)
  tup := fun a vs ha h => k.frame a _ h fx_tup (s.notOwned ha)
  ins := fun a C dx us ha h => k.frame a _ h fx_ins (s.notOwned ha)
  av := fun a u ha h => k.av a ha (by
    rcases h with h | ⟨o, h⟩ <;> (rw [h]; intro q; cases q))
theorem Rep.kp (s : SR c x σ H Δ) (k : Kp x H x' H') {d : D} {v : V} (h : Rep c.toGc x.Av H d v) : Rep c.toGc x'.Av H' d v := h.keep (s.keep k)
theorem RepL.kp (s : SR c x σ H Δ) (k : Kp x H x' H') {d : List D} {v : List V} (h : RepL c.toGc x.Av H d v) : RepL c.toGc x'.Av H' d v := h.keep (s.keep k)
/-- Keep between two sets over one heap -/
theorem Keep.sub {G : Gc} {Av Av' : Addr → Prop} {H : Hp} (h : ∀ a, H a ≠ none → Av a → Av' a) : Keep G Av Av' H H :=
  ⟨fun _ _ _ _ h => h, fun _ _ _ h => h, fun _ _ _ h => h, fun _ _ _ _ _ h => h, fun a u ha r => h a (by rcases r with r | ⟨o, r⟩ <;> (rw [r]; intro q; cases q)) ha⟩
/-- only new objects -/
def Ex (H H' : Hp) : Prop := ∀ a o, H a = some o → H' a = some o
theorem Ex.refl (H : Hp) : Ex H H := fun _ _ h => h
theorem Ex.trans {H H1 H2 : Hp} (a : Ex H H1) (b : Ex H1 H2) : Ex H H2 := fun x o h => b x o (a x o h)
theorem Ex.new {H : Hp} {p : Addr} {o : HO} (h : H p = none) : Ex H (upd H p o) := fun a u e => by
  rw [upd_ne (ne_of_none e h)]; exact e
theorem Ex.none {H H' : Hp} (e : Ex H H') {p : Addr} (h : H' p = none) : H p = none := by
  cases q : H p with
  | none => rfl
  | some o => rw [e p o q] at h; cases h
theorem Ex.keep {G : Gc} {Av : Addr → Prop} {H H' : Hp} (e : Ex H H') : Keep G Av Av H H' :=
  ⟨fun a u _ _ h => by
    rcases h with h | ⟨o, h⟩
    · exact .inl (e a _ h)
    · exact .inr ⟨o, e a _ h⟩, fun a vs _ h => e a _ h, fun a vs _ h => e a _ h, fun a C dx us _ h => e a _ h, fun _ _ h _ => h⟩
theorem Own.ex {G : Gc} {Av : Addr → Prop} (e : Ex H H') {a : Addr} {d : D} (h : Own G Av H a d) : Own G Av H' a d := by
  cases d <;> first
    | exact h
    | (obtain ⟨vs, h1, h2⟩ := h; exact ⟨vs, e a _ h1, h2.keep e.keep⟩)
    | (obtain ⟨C, dx, us, h0, h1, h2⟩ := h; exact ⟨C, dx, us, h0, e a _ h1, h2.keep e.keep⟩)
theorem Own.sub {G : Gc} {Av Av' : Addr → Prop} (hs : ∀ a, H a ≠ none → Av a → Av' a) {a : Addr} {d : D} (h : Own G Av H a d) : Own G Av' H a d := by
  cases d <;> first
    | exact h
    | (obtain ⟨vs, h1, h2⟩ := h; exact ⟨vs, h1, h2.keep (Keep.sub hs)⟩)
    | (obtain ⟨C, dx, us, h0, h1, h2⟩ := h; exact ⟨C, dx, us, h0, h1, h2.keep (Keep.sub hs)⟩)
/-- new objects only: the state stands -/
theorem SR.ex (s : SR c x σ H Δ) (e : Ex H H') : SR c x σ H' Δ where
  len := s.len
  base := fun a o h f n => e a o (s.base a o h f n)
  tab := s.tab.ext e
  trk := fun a h => s.trk a (e.none h)
  fr := fun p h => s.fr p (e.none h)
  av := s.av
  a0 := s.a0
  ow := fun i a h => ⟨(s.ow i a h).1, fun q => (s.ow i a h).2.1 (e.none q), (s.ow i a h).2.2⟩
  inj := s.inj
  slot := fun i => by
    have h := s.slot i
    revert h
    cases hq : Δ[i]? with
    | none => intro _; trivial
    | some z =>
      cases z with
      | un => intro _; trivial
      | sh d => exact fun ⟨v, h1, h2⟩ => ⟨v, h1, h2.keep e.keep⟩
      | ow d => exact fun ⟨a, h0, h1, h2⟩ => ⟨a, h0, h1, h2.ex e⟩
  ios := s.ios
theorem Kp.ex (e : Ex H H') (x : Sx) : Kp x H x H' := ⟨fun a o h _ _ => e a o h, fun a h => e.none h, fun i a h => .inl ⟨i, h⟩, fun _ h _ => h, fun _ h => .inl h⟩
end

/-! ### mirrors -/
inductive Res (α : Type) where
  | ok (a : α) (Δ : SD)
  | ex (n : Str) (d : Option D) (Δ : SD)
  | bad
abbrev M (α : Type) := SD → Res α
def mPure {α : Type} (a : α) : M α := fun Δ => .ok a Δ
def mBad {α : Type} : M α := fun _ => .bad
def mBind {α β : Type} (f : M α) (g : α → M β) : M β := fun Δ => match f Δ with
  | .ok a Δ' => g a Δ'
  | .ex n d Δ' => .ex n d Δ'
  | .bad => .bad
/-- a step that may have no answer -/
def mOpt {α : Type} : Option α → M α
  | some a => mPure a
  | none => mBad

/-- an exception in the air -/
def ExV (G : Gc) (Av : Addr → Prop) (H : Hp) (dx : Option Addr) : Option D → Prop
  | none => True
  | some d => ∃ p v, dx = some p ∧ Av p ∧ H p = some (.xd [("value", v)]) ∧ Rep G Av H d v
def ExG (G : Gc) (Av : Addr → Prop) (H : Hp) (n : Str) (d : Option D) (C : Addr) (dx : Option Addr) : Prop := G.mg n = some (.ref C) ∧ ExV G Av H dx d
abbrev ExR (c : Ct) (x : Sx) (H : Hp) (n : Str) (d : Option D) (C : Addr) (dx : Option Addr) : Prop := ExG c.toGc x.Av H n d C dx

/-- what a mirror's answer allows to want -/
def Post {α : Type} (c : Ct) (W : WX) (x : Sx) (σ : St) (H : Hp) (ok : α → SD → Prop) : Res α → Prop
  | .ok a Δ' => ok a Δ'
  | .ex n d Δ' => ∀ C dx x' H', Kp x H x' H' → SR c x' σ H' Δ' → ExR c x' H' n d C dx → W (.ref C) dx σ H'
  | .bad => False
/-- .. of a shared value -/
def okV (c : Ct) (x : Sx) (σ : St) (H : Hp) (Q : VK) (d : D) (Δ' : SD) : Prop := ∀ v x' H', Kp x H x' H' → SR c x' σ H' Δ' → Rep c.toGc x'.Av H' d v → Q v H'
/-- .. of a value that is read at once: its own object may be a slot's -/
def Rep1 (G : Gc) (Av : Addr → Prop) (H : Hp) (d : D) (v : V) : Prop := Rep G Av H d v ∨ ∃ a, v = .ref a ∧ Own G Av H a d
def okB (c : Ct) (x : Sx) (σ : St) (H : Hp) (Q : VK) (d : D) (Δ' : SD) : Prop := ∀ v x' H', Kp x H x' H' → SR c x' σ H' Δ' → Rep1 c.toGc x'.Av H' d v → Q v H'
/-- .. of a new object that nobody holds -/
def okF (c : Ct) (x : Sx) (σ : St) (H : Hp) (Q : VK) (d : D) (Δ' : SD) : Prop := ∀ a x' H', Kp x H x' H' → SR c x' σ H' Δ' → c.H0 a = none → H a = none → ¬ x'.Av a → (∀ i, x'.ρ i ≠ some a) → Own c.toGc x'.Av H' a d → Q (.ref a) H'
def okT (c : Ct) (x : Sx) (σ : St) (H : Hp) (Q : Bool → Hp → Prop) (b : Bool) (Δ' : SD) : Prop := ∀ x' H', Kp x H x' H' → SR c x' σ H' Δ' → Q b H'

def SoundE (c : Ct) (W : WX) (t : TE) (f : M D) : Prop := ∀ x σ H Δ Q, SR c x σ H Δ → Post c W x σ H (okV c x σ H Q) (f Δ) → t σ H Q
def SoundB (c : Ct) (W : WX) (t : TE) (f : M D) : Prop := ∀ x σ H Δ Q, SR c x σ H Δ → Post c W x σ H (okB c x σ H Q) (f Δ) → t σ H Q
def SoundF (c : Ct) (W : WX) (t : TE) (f : M D) : Prop := ∀ x σ H Δ Q, SR c x σ H Δ → Post c W x σ H (okF c x σ H Q) (f Δ) → t σ H Q
def SoundT (c : Ct) (W : WX) (t : TT) (f : M Bool) : Prop := ∀ x σ H Δ Q, SR c x σ H Δ → Post c W x σ H (okT c x σ H Q) (f Δ) → t σ H Q

section
variable {c : Ct} {W : WX} {x x1 : Sx} {σ : St} {H H1 : Hp} {Q : VK}
theorem Post.mono {α : Type} {ok ok' : α → SD → Prop} {r : Res α} (h : Post c W x σ H ok r) (k : ∀ a Δ, ok a Δ → ok' a Δ) : Post c W x σ H ok' r := by
  cases r with
  | ok a Δ' => exact k a Δ' h
  | ex n d Δ' => exact h
  | bad => exact h
/-- from a later state -/
theorem Post.step {α : Type} {ok ok' : α → SD → Prop} {r : Res α} (h : Post c W x σ H ok r) (k : Kp x H x1 H1) (m : ∀ a Δ, ok a Δ → ok' a Δ) : Post c W x1 σ H1 ok' r := by
  cases r with
  | ok a Δ' => exact m a Δ' h
  | ex n d Δ' => exact fun C dx x' H' k' => h C dx x' H' (k.trans k')
  | bad => exact h
theorem okV.step {d : D} {Δ : SD} (k : Kp x H x1 H1) (h : okV c x σ H Q d Δ) : okV c x1 σ H1 Q d Δ := fun v x' H' k' => h v x' H' (k.trans k')
theorem okB.step {d : D} {Δ : SD} (k : Kp x H x1 H1) (h : okB c x σ H Q d Δ) : okB c x1 σ H1 Q d Δ := fun v x' H' k' => h v x' H' (k.trans k')
theorem okF.step {d : D} {Δ : SD} (k : Kp x H x1 H1) (h : okF c x σ H Q d Δ) : okF c x1 σ H1 Q d Δ := fun a x' H' k' s h0 h1 => h a x' H' (k.trans k') s h0 (k.trk a h1)
theorem okT.step {Q : Bool → Hp → Prop} {b : Bool} {Δ : SD} (k : Kp x H x1 H1) (h : okT c x σ H Q b Δ) : okT c x1 σ H1 Q b Δ := fun x' H' k' => h x' H' (k.trans k')
/-- bind, the first part's answer: for any kind of end -/
theorem Post.bind {α β : Type} {ok : α → SD → Prop} {ok' : β → SD → Prop} {f : M α} {g : α → M β} {Δ : SD} (h : Post c W x σ H ok' (mBind f g Δ)) (k : ∀ a Δ1, Post c W x σ H ok' (g a Δ1) → ok a Δ1) : Post c W x σ H ok (f Δ) := by
  unfold mBind at h
  cases e : f Δ with
  | ok a Δ1 => rw [e] at h; exact k a Δ1 h
  | ex n d Δ1 => rw [e] at h; exact h
  | bad => rw [e] at h; exact h
end

section
variable {c : Ct} {W : WX} {t : TE} {f : M D}
theorem SoundE.b (h : SoundE c W t f) : SoundB c W t f := fun x σ H Δ Q s p => h x σ H Δ Q s (p.mono fun d Δ' q v x' H' k s' r => q v x' H' k s' (.inl r))
/-- a new object is let go: it is shared from then on -/
theorem SR.share {x : Sx} {σ : St} {H : Hp} {Δ : SD} (s : SR c x σ H Δ) {a : Addr} (hn : ∀ i, x.ρ i ≠ some a) (h0 : c.A0 a) : SR c { x with Av := fun b => x.Av b ∨ b = a } σ H Δ where
  len := s.len
  base := s.base
  tab := s.tab
  trk := s.trk
  fr := fun p h => .inl (s.fr p h)
  av := fun b h => h.elim (s.av b) fun e => e ▸ h0
  a0 := s.a0
  ow := fun i b h => ⟨fun q => q.elim (s.ow i b h).1 fun e => hn i (e ▸ h), (s.ow i b h).2⟩
  inj := s.inj
  slot := fun i => by
    have h := s.slot i
    revert h
    cases hq : Δ[i]? with
    | none => intro _; trivial
    | some z =>
      cases z with
      | un => intro _; trivial
      | sh d => exact fun ⟨v, h1, h2⟩ => ⟨v, h1, h2.keep (Keep.sub fun _ _ q => .inl q)⟩
      | ow d => exact fun ⟨b, h0, h1, h2⟩ => ⟨b, h0, h1, h2.sub fun _ _ q => .inl q⟩
  ios := s.ios
theorem Own.rep {G : Gc} {Av : Addr → Prop} {H : Hp} {a : Addr} {d : D} (h : Own G Av H a d) : Rep G (fun b => Av b ∨ b = a) H d (.ref a) := by
  have kp : Keep G Av (fun b => Av b ∨ b = a) H H := Keep.sub fun _ _ q => .inl q
  cases d <;> first
    | exact h.elim
    | (obtain ⟨vs, h1, h2⟩ := h; unfold Rep; exact ⟨a, vs, rfl, .inr rfl, h1, h2.keep kp⟩)
    | (obtain ⟨vs, h1, h2⟩ := h; unfold Rep; exact ⟨a, vs, rfl, .inr rfl, .inl h1, h2.keep kp⟩)
    | (obtain ⟨C, dx, us, h0, h1, h2⟩ := h; unfold Rep; exact ⟨a, C, dx, us, rfl, .inr rfl, h0, h1, h2.keep kp⟩)
theorem SoundF.e (h : SoundF c W t f) : SoundE c W t f := fun x σ H Δ Q s p => h x σ H Δ Q s (p.mono fun d Δ' q a x' H' k s' h0 h1 h2 h3 o =>
  q (.ref a) { x' with Av := fun b => x'.Av b ∨ b = a } H' ⟨k.frame, k.trk, k.own, fun b hb n => .inl (k.av b hb n), fun b hb => hb.elim (k.avb b) fun e => .inr (.inl (e ▸ h1))⟩ (s'.share h3 (s'.a0 a h0)) o.rep)
end
end DL

namespace DL
open PySem L2

/-- where a piece of code stands -/
structure Ok (X : Cx) (c : Ct) (W : WX) (k : Nat) : Prop where
  hK : c.K = X.K
  hmg : c.mg = X.mg
  calm : X.calm = true
  room : Room k X.A
  gd : 20 ≤ k → X.A.guards = some []
  tk : Takes X W
  pass : PassesOwn (model X.prog X.w) X.A X.env X.xe
  nd : X.N.Nodup

/-- an operand: a value, or a slot (read when it is used) -/
inductive AK where
  | v (d : D) | s (i : Nat)
def AKOk (c : Ct) (x : Sx) (σ : St) (H : Hp) : AK → V → Prop
  | .v d, v => Rep c.toGc x.Av H d v
  | .s i, v => σ[i]? = some (some v)
def AKsOk (c : Ct) (x : Sx) (σ : St) (H : Hp) : List AK → List V → Prop
  | [], vs => vs = []
  | a :: as, vs => ∃ v r, vs = v :: r ∧ AKOk c x σ H a v ∧ AKsOk c x σ H as r
def okO (c : Ct) (x : Sx) (σ : St) (H : Hp) (Q : VK) (a : AK) (Δ' : SD) : Prop := ∀ v x' H', Kp x H x' H' → SR c x' σ H' Δ' → AKOk c x' σ H' a v → Q v H'
def okA (c : Ct) (x : Sx) (σ : St) (H : Hp) (Q : List V → Hp → Prop) (as : List AK) (Δ' : SD) : Prop := ∀ vs x' H', Kp x H x' H' → SR c x' σ H' Δ' → AKsOk c x' σ H' as vs → Q vs H'
def SoundO (c : Ct) (W : WX) (t : TE) (f : M AK) : Prop := ∀ x σ H Δ Q, SR c x σ H Δ → Post c W x σ H (okO c x σ H Q) (f Δ) → t σ H Q
def SoundA (c : Ct) (W : WX) (t : TA) (f : M (List AK)) : Prop := ∀ x σ H Δ Q, SR c x σ H Δ → Post c W x σ H (okA c x σ H Q) (f Δ) → t σ H Q
theorem okO.step {c : Ct} {x x1 : Sx} {σ : St} {H H1 : Hp} {Q : VK} {d : AK} {Δ : SD} (k : Kp x H x1 H1) (h : okO c x σ H Q d Δ) : okO c x1 σ H1 Q d Δ := fun v x' H' k' => h v x' H' (k.trans k')
theorem okA.step {c : Ct} {x x1 : Sx} {σ : St} {H H1 : Hp} {Q : List V → Hp → Prop} {d : List AK} {Δ : SD} (k : Kp x H x1 H1) (h : okA c x σ H Q d Δ) : okA c x1 σ H1 Q d Δ := fun v x' H' k' => h v x' H' (k.trans k')

structure DE (X : Cx) (c : Ct) (W : WX) (e : Expr) (f : M D) : Prop where
  out : ∃ t, PE X e t ∧ SoundE c W t f
structure DF (X : Cx) (c : Ct) (W : WX) (e : Expr) (f : M D) : Prop where
  out : ∃ t, PE X e t ∧ SoundF c W t f
structure DO (X : Cx) (c : Ct) (W : WX) (e : Expr) (f : M AK) : Prop where
  out : ∃ t, PE X e t ∧ SoundO c W t f
structure DA (X : Cx) (c : Ct) (W : WX) (es : List Expr) (f : M (List AK)) : Prop where
  out : ∃ t, PA X es t ∧ SoundA c W t f
structure DT (X : Cx) (c : Ct) (W : WX) (e : Expr) (f : M Bool) : Prop where
  out : ∃ t, PT X e t ∧ SoundT c W t f
structure DW (X : Cx) (c : Ct) (W : WX) (e : Expr) (f : M Bool) : Prop where
  out : ∃ t, PW X e t ∧ SoundT c W t f

/-! ### mirrors of operands -/
/-- what a slot holds -/
def SC.rd : Option SC → Option D
  | some (.sh d) => some d
  | some (.ow d) => some d
  | _ => none
def mGet : AK → M D
  | .v d => mPure d
  | .s i => fun Δ => match SC.rd Δ[i]? with
    | some d => .ok d Δ
    | none => .bad
def mGets : List AK → M (List D)
  | [] => mPure []
  | a :: as => mBind (mGet a) fun d => mBind (mGets as) fun ds => mPure (d :: ds)
def mV (f : M D) : M AK := mBind f fun d => mPure (.v d)
def mSlot (i : Nat) : M AK := fun Δ => match SC.rd Δ[i]? with
  | some _ => .ok (.s i) Δ
  | none => .bad
def mNil : M (List AK) := mPure []
def mCons (f : M AK) (r : M (List AK)) : M (List AK) := mBind f fun a => mBind r fun as => mPure (a :: as)
/-- a name read for good: an object that a slot held alone is shared from then on -/
def mVar (i : Nat) : M D := fun Δ => match Δ[i]? with
  | some (.sh d) => .ok d Δ
  | some (.ow d) => .ok d (Δ.set i (.sh d))
  | _ => .bad

section
variable {c : Ct} {W : WX} {x x' : Sx} {σ : St} {H H' : Hp} {Δ : SD}
theorem AKOk.kp (s : SR c x σ H Δ) (k : Kp x H x' H') : ∀ {a : AK} {v : V}, AKOk c x σ H a v → AKOk c x' σ H' a v
  | .v _, _, h => Rep.kp s k h
  | .s _, _, h => h
theorem AKsOk.kp (s : SR c x σ H Δ) (k : Kp x H x' H') : ∀ {as : List AK} {vs : List V}, AKsOk c x σ H as vs → AKsOk c x' σ H' as vs
  | [], _, h => h
  | _ :: _, _, ⟨v, r, e, h1, h2⟩ => ⟨v, r, e, AKOk.kp s k h1, AKsOk.kp s k h2⟩
/-- reading an operand at last -/
theorem get_ok (s : SR c x σ H Δ) {a : AK} {v : V} {d : D} {Δ' : SD} (h : AKOk c x σ H a v) (e : mGet a Δ = .ok d Δ') : Δ' = Δ ∧ Rep1 c.toGc x.Av H d v := by
  cases a with
  | v d' =>
    have e' : Res.ok d' Δ = Res.ok d Δ' := e
    cases e'
    exact ⟨rfl, .inl h⟩
  | s i =>
    have sl := s.slot i
    have e' : (match SC.rd Δ[i]? with
      | some d => Res.ok d Δ
      | none => Res.bad) = Res.ok d Δ' := e
    have h' : σ[i]? = some (some v) := h
    revert sl e'
    cases Δ[i]? with
    | none => intro _ e'; cases e'
    | some z =>
      cases z with
      | un => intro _ e'; cases e'
      | sh d' =>
        rintro ⟨v', h1, h2⟩ e'
        cases e'
        rw [h1] at h'; cases h'
        exact ⟨rfl, .inl h2⟩
      | ow d' =>
        rintro ⟨p, _, h1, h2⟩ e'
        cases e'
        rw [h1] at h'; cases h'
        exact ⟨rfl, .inr ⟨p, rfl, h2⟩⟩
theorem get_not_ex {a : AK} {n : Str} {d : Option D} {Δ' : SD} : mGet a Δ ≠ .ex n d Δ' := by
  intro e
  cases a with
  | v _ => cases e
  | s i =>
    have e' : (match SC.rd Δ[i]? with
      | some d => Res.ok d Δ
      | none => Res.bad) = Res.ex n d Δ' := e
    split at e' <;> cases e'
/-- behind an operand: what is wanted holds of the data read -/
theorem Post.get {α : Type} {ok : α → SD → Prop} {g : D → M α} (s : SR c x σ H Δ) {a : AK} {v : V} (h : AKOk c x σ H a v) (p : Post c W x σ H ok (mBind (mGet a) g Δ)) : ∃ d, Rep1 c.toGc x.Av H d v ∧ Post c W x σ H ok (g d Δ) := by
  unfold mBind at p
  cases e : mGet a Δ with
  | ok d Δ' =>
    obtain ⟨rfl, r⟩ := get_ok s h e
    rw [e] at p
    exact ⟨d, r, p⟩
  | ex n d Δ' => exact absurd e get_not_ex
  | bad => rw [e] at p; exact p.elim
def Rep1L (G : Gc) (Av : Addr → Prop) (H : Hp) : List D → List V → Prop
  | [], vs => vs = []
  | d :: ds, vs => ∃ v r, vs = v :: r ∧ Rep1 G Av H d v ∧ Rep1L G Av H ds r
theorem Post.gets {α : Type} {ok : α → SD → Prop} (s : SR c x σ H Δ) : ∀ {as : List AK} {vs : List V} {g : List D → M α}, AKsOk c x σ H as vs → Post c W x σ H ok (mBind (mGets as) g Δ) → ∃ ds, Rep1L c.toGc x.Av H ds vs ∧ Post c W x σ H ok (g ds Δ)
  | [], vs, g, h, p => ⟨[], h, p⟩
  | a :: as, vs, g, ⟨v, r, e, h1, h2⟩, p => by
    have p' : Post c W x σ H ok (mBind (mGet a) (fun d => mBind (mGets as) fun ds => g (d :: ds)) Δ) := by
      refine cast (congrArg _ ?_) p
      show mBind (mBind (mGet a) fun d => mBind (mGets as) fun ds => mPure (d :: ds)) g Δ = _
      unfold mBind
      cases mGet a Δ with
      | ok d Δ1 =>
        dsimp only
        cases mGets as Δ1 with
        | ok ds Δ2 => rfl
        | ex n d Δ' => rfl
        | bad => rfl
      | ex n d Δ' => rfl
      | bad => rfl
    obtain ⟨d, r1, p1⟩ := Post.get s h1 p'
    obtain ⟨ds, r2, p2⟩ := Post.gets s h2 p1
    exact ⟨d :: ds, ⟨v, r, e, r1, r2⟩, p2⟩
end

/-! ### operands -/
section
variable {X : Cx} {c : Ct} {W : WX} {k : Nat} {ex a b : Expr} {es : List Expr} {f fa fb : M D} {pos : Pos}
theorem DE.o (h : DE X c W ex f) : DO X c W ex (mV f) := by
  obtain ⟨t, p, s⟩ := h.out
  exact ⟨t, p, fun x σ H Δ Q sr q => s x σ H Δ Q sr (q.bind fun d Δ1 q1 v x' H' k' s' r => q1 v x' H' k' s' r)⟩
theorem DF.de (h : DF X c W ex f) : DE X c W ex f := by
  obtain ⟨t, p, s⟩ := h.out
  exact ⟨t, p, s.e⟩
theorem DF.o (h : DF X c W ex f) : DO X c W ex (mV f) := h.de.o
theorem do_slot {i : Nat} {x : Str} (hN : X.N[i]? = some x) (hv : Vis X.env.scope x) (hd : (x == ("__debug__" : Str)) = false := by decide) (hcd : (x == ("__classdict__" : Str)) = false := by decide) : DO X c W (.Name x pos) (mSlot i) := by
  refine ⟨tVar i, pe_var hN hv hd hcd, fun y σ H Δ Q sr q => ?_⟩
  have sl := sr.slot i
  have q' : Post c W y σ H (okO c y σ H Q) (match SC.rd Δ[i]? with
    | some _ => Res.ok (.s i) Δ
    | none => Res.bad) := q
  revert sl q'
  cases Δ[i]? with
  | none => intro _ q'; exact q'.elim
  | some z =>
    cases z with
    | un => intro _ q'; exact q'.elim
    | sh d =>
      rintro ⟨v, h1, h2⟩ q'
      exact ⟨v, h1, q' v y H (Kp.refl _ _) sr h1⟩
    | ow d =>
      rintro ⟨p, h0, h1, h2⟩ q'
      exact ⟨.ref p, h1, q' _ y H (Kp.refl _ _) sr h1⟩
theorem da_nil : DA X c W [] mNil := ⟨tNil, pa_nil, fun x σ H Δ Q sr q => q [] x H (Kp.refl _ _) sr rfl⟩
theorem da_cons {fo : M AK} {fr : M (List AK)} (h : DO X c W ex fo) (r : DA X c W es fr) (hs : starEach (ex :: es) X.env = (false, eval ex X.env) :: starEach es X.env := by rfl) : DA X c W (ex :: es) (mCons fo fr) := by
  obtain ⟨t, p, s⟩ := h.out
  obtain ⟨u, p', s'⟩ := r.out
  refine ⟨tCons t u, pa_cons p p' hs, fun x σ H Δ Q sr q => ?_⟩
  refine s x σ H Δ _ sr (q.bind fun a Δ1 q1 v x1 H1 k1 sr1 h1 => ?_)
  refine s' x1 σ H1 Δ1 _ sr1 ((q1.step k1 fun a Δ q => okA.step k1 q).bind fun as Δ2 q2 vs x2 H2 k2 sr2 h2 => ?_)
  exact q2 (v :: vs) x2 H2 k2 sr2 ⟨v, vs, rfl, h1.kp sr1 k2, h2⟩

/-! ### names and constants -/
/-- an object that a slot held is shared -/
theorem SR.freeze {x : Sx} {σ : St} {H : Hp} {Δ : SD} (s : SR c x σ H Δ) {i : Nat} {d : D} (h : Δ[i]? = some (.ow d)) (hio : ∀ p ∈ c.io, p.1 ≠ i) : ∃ x' v, Kp x H x' H ∧ SR c x' σ H (Δ.set i (.sh d)) ∧ σ[i]? = some (some v) ∧ Rep c.toGc x'.Av H d v := by
  have sl := s.slot i
  rw [h] at sl
  obtain ⟨a, h0, h1, h2⟩ := sl
  obtain ⟨nav, hal, hor⟩ := s.ow i a h0
  have hH0 : c.H0 a = none := by
    rcases hor with q | ⟨p, hp, e⟩
    · exact q
    · have q1 := s.ios p hp
      rw [e] at q1
      exact absurd (s.inj _ _ _ q1 h0) (hio p hp)
  have hA0 : c.A0 a := s.a0 a hH0
  have rho : ∀ {j b}, (if j = i then none else x.ρ j) = some b → j ≠ i ∧ x.ρ j = some b := fun {j b} q => by
    by_cases e : j = i
    · rw [if_pos e] at q; cases q
    · rw [if_neg e] at q; exact ⟨e, q⟩
  refine ⟨⟨fun b => x.Av b ∨ b = a, fun j => if j = i then none else x.ρ j⟩, .ref a, ⟨fun p o hp _ _ => hp, fun p hp => hp, fun j p hj => .inl ⟨j, (rho hj).2⟩, fun p hp _ => .inl hp, fun p hp => hp.elim (fun q => .inl q) fun e => .inr (.inr ⟨i, e ▸ h0⟩)⟩, ?_, h1, h2.rep⟩
  exact {
    len := by rw [List.length_set]; exact s.len
    base := s.base
    tab := s.tab
    trk := s.trk
    fr := fun p q => .inl (s.fr p q)
    av := fun b q => q.elim (s.av b) fun e => e ▸ hA0
    a0 := s.a0
    ow := fun j b q => ⟨fun z => z.elim (s.ow j b (rho q).2).1 fun e => (rho q).1 (s.inj _ _ _ (rho q).2 (e ▸ h0)), (s.ow j b (rho q).2).2⟩
    inj := fun j l b q1 q2 => s.inj _ _ _ (rho q1).2 (rho q2).2
    slot := fun j => by
      by_cases e : j = i
      · subst e
        have hl : j < Δ.length := (List.getElem?_eq_some_iff.mp h).1
        rw [List.getElem?_set_self hl]
        exact ⟨_, h1, h2.rep⟩
      · rw [List.getElem?_set_ne (Ne.symm e)]
        have z := s.slot j
        revert z
        cases Δ[j]? with
        | none => intro _; trivial
        | some w =>
          cases w with
          | un => intro _; trivial
          | sh d' => exact fun ⟨v, z1, z2⟩ => ⟨v, z1, z2.keep (Keep.sub fun _ _ q => .inl q)⟩
          | ow d' => exact fun ⟨b, z0, z1, z2⟩ => ⟨b, by show (if j = i then none else x.ρ j) = some b; rw [if_neg e]; exact z0, z1, z2.sub fun _ _ q => .inl q⟩
    ios := fun p hp => by show (if p.1 = i then none else x.ρ p.1) = some p.2; rw [if_neg (hio p hp)]; exact s.ios p hp }
theorem de_var {i : Nat} {x : Str} (hio : ∀ p ∈ c.io, p.1 ≠ i) (hN : X.N[i]? = some x) (hv : Vis X.env.scope x) (hd : (x == ("__debug__" : Str)) = false := by decide) (hcd : (x == ("__classdict__" : Str)) = false := by decide) : DE X c W (.Name x pos) (mVar i) := by
  refine ⟨tVar i, pe_var hN hv hd hcd, fun y σ H Δ Q sr q => ?_⟩
  have sl := sr.slot i
  have q' : Post c W y σ H (okV c y σ H Q) (match Δ[i]? with
    | some (.sh d) => Res.ok d Δ
    | some (.ow d) => Res.ok d (Δ.set i (.sh d))
    | _ => Res.bad) := q
  cases e : Δ[i]? with
  | none => rw [e] at q'; exact q'.elim
  | some z =>
    rw [e] at q' sl
    cases z with
    | un => exact q'.elim
    | sh d =>
      obtain ⟨v, h1, h2⟩ := sl
      exact ⟨v, h1, q' v y H (Kp.refl _ _) sr h2⟩
    | ow d =>
      obtain ⟨x', v, k', s', h1, r⟩ := sr.freeze e hio
      exact ⟨v, h1, q' v x' H k' s' r⟩
theorem de_c {v : V} {d : D} (p : PE X ex (tC v)) (h : ∀ Av H, Rep c.toGc Av H d v) : DE X c W ex (mPure d) := ⟨_, p, fun x σ H Δ Q sr q => q v x H (Kp.refl _ _) sr (h _ _)⟩
theorem de_int {i j} : DE X c W (.Constant (.int i) j pos) (mPure (.int i)) := de_c pe_int fun _ _ => by unfold Rep; rfl
theorem de_bl {b j} : DE X c W (.Constant (.bool b) j pos) (mPure (.bl b)) := de_c pe_bl fun _ _ => by unfold Rep; rfl
theorem de_non {j} : DE X c W (.Constant .none j pos) (mPure .non) := de_c pe_non fun _ _ => by unfold Rep; rfl
theorem de_str {x j} : DE X c W (.Constant (.str x) j pos) (mPure (.str x)) := de_c pe_str fun _ _ => by unfold Rep; rfl
end
end DL

namespace DL
open PySem L2

abbrev Fresh (H : Hp) (Av : Addr → Prop) : Prop := ∀ p, H p = none → Av p
/-- a value comes back, new objects alone are made -/
def outV (G : Gc) (Av : Addr → Prop) (H : Hp) (Q : VK) : Option D → Prop
  | some d => ∀ v H', Ex H H' → Rep G Av H' d v → Q v H'
  | none => False
/-- a new object comes back -/
def outN (G : Gc) (Av : Addr → Prop) (H : Hp) (Q : VK) : Option D → Prop
  | some d => ∀ p H', H p = none → H' p ≠ none → Ex H H' → Own G (fun a => Av a ∧ a ≠ p) H' p d → Q (.ref p) H'
  | none => False
def OpD (G : Gc) (r : R2) (f : D → D → Option D) : Prop := ∀ Av H dx dy x y Q, Fresh H Av → Rep1 G Av H dx x → Rep1 G Av H dy y → outV G Av H Q (f dx dy) → r x y H Q
def OpN (G : Gc) (r : R2) (f : D → D → Option D) : Prop := ∀ Av H dx dy x y Q, Fresh H Av → Rep1 G Av H dx x → Rep1 G Av H dy y → outN G Av H Q (f dx dy) → r x y H Q
def UnD (G : Gc) (r : V → Hp → VK → Prop) (f : D → Option D) : Prop := ∀ Av H dx x Q, Fresh H Av → Rep1 G Av H dx x → outV G Av H Q (f dx) → r x H Q
def CaD (G : Gc) (r : List V → Hp → VK → Prop) (f : List D → Option D) : Prop := ∀ Av H ds vs Q, Fresh H Av → Rep1L G Av H ds vs → outV G Av H Q (f ds) → r vs H Q
def CaN (G : Gc) (r : List V → Hp → VK → Prop) (f : List D → Option D) : Prop := ∀ Av H ds vs Q, Fresh H Av → Rep1L G Av H ds vs → outN G Av H Q (f ds) → r vs H Q

def mOp (g : D → D → Option D) (fa fb : M AK) : M D := mBind fa fun a => mBind fb fun b => mBind (mGet a) fun x => mBind (mGet b) fun y => mOpt (g x y)
def mUn (g : D → Option D) (fa : M AK) : M D := mBind fa fun a => mBind (mGet a) fun x => mOpt (g x)
def mCb (g : List D → Option D) (fs : M (List AK)) : M D := mBind fs fun as => mBind (mGets as) fun ds => mOpt (g ds)

section
variable {c : Ct} {W : WX} {x : Sx} {σ : St} {H H' : Hp} {Δ : SD} {Q : VK}
/-- the end of a value that is made by new objects alone -/
theorem Post.outV {o : Option D} (s : SR c x σ H Δ) (h : Post c W x σ H (okV c x σ H Q) (mOpt o Δ)) : outV c.toGc x.Av H Q o := by
  cases o with
  | none => exact h
  | some d => exact fun v H' e r => h v x H' (Kp.ex e x) (s.ex e) r
theorem SR.alloc (s : SR c x σ H Δ) {p : Addr} (hp : H p = none) (e : Ex H H') : Kp x H ⟨fun a => x.Av a ∧ a ≠ p, x.ρ⟩ H' ∧ (H' p ≠ none → SR c ⟨fun a => x.Av a ∧ a ≠ p, x.ρ⟩ σ H' Δ) ∧ c.H0 p = none ∧ ∀ i, x.ρ i ≠ some p := by
  have ne : ∀ {a : Addr}, H a ≠ none → a ≠ p := fun h z => h (z ▸ hp)
  have nr : ∀ i, x.ρ i ≠ some p := fun i h => (s.ow i p h).2.1 hp
  have kp : Keep c.toGc x.Av (fun a => x.Av a ∧ a ≠ p) H H' := by
    have k0 := e.keep (G := c.toGc) (Av := x.Av)
    exact ⟨k0.rd, k0.lst, k0.tup, k0.ins, fun a u ha r => ⟨ha, ne (by rcases r with r | ⟨o, r⟩ <;> (rw [r]; intro q; cases q))⟩⟩
  refine ⟨⟨fun a o h _ _ => e a o h, fun a h => e.none h, fun i a h => .inl ⟨i, h⟩, fun a h n => ⟨h, ne n⟩, fun a h => .inl h.1⟩, fun hn => ?_, s.trk p hp, nr⟩
  exact {
    len := s.len
    base := fun a o h f n => e a o (s.base a o h f n)
    tab := s.tab.ext e
    trk := fun a h => s.trk a (e.none h)
    fr := fun a h => ⟨s.fr a (e.none h), fun z => hn (z ▸ h)⟩
    av := fun a h => s.av a h.1
    a0 := s.a0
    ow := fun i a h => ⟨fun q => (s.ow i a h).1 q.1, fun q => (s.ow i a h).2.1 (e.none q), (s.ow i a h).2.2⟩
    inj := s.inj
    slot := fun i => by
      have h := s.slot i
      revert h
      cases Δ[i]? with
      | none => intro _; trivial
      | some z =>
        cases z with
        | un => intro _; trivial
        | sh d => exact fun ⟨v, h1, h2⟩ => ⟨v, h1, h2.keep kp⟩
        | ow d => exact fun ⟨a, h0, h1, h2⟩ => ⟨a, h0, h1, (h2.sub fun b hb z => ⟨z, ne hb⟩).ex e⟩
    ios := s.ios }
theorem Post.outN {o : Option D} (s : SR c x σ H Δ) (h : Post c W x σ H (okF c x σ H Q) (mOpt o Δ)) : outN c.toGc x.Av H Q o := by
  cases o with
  | none => exact h
  | some d =>
    intro p H' hp hn e r
    obtain ⟨k, sr, h0, nr⟩ := s.alloc hp e
    exact h p _ H' k (sr hn) h0 hp (fun q => q.2 rfl) nr r
end

section
variable {X : Cx} {c : Ct} {W : WX} {k : Nat} {ea eb : Expr} {es : List Expr} {fa fb : M AK} {fs : M (List AK)} {pos : Pos} {g : D → D → Option D} {r : R2} {op : Operator}
theorem sound_op {ta tb : TE} (sa : SoundO c W ta fa) (sb : SoundO c W tb fb) (h : OpD c.toGc r g) : SoundE c W (tOp r ta tb) (mOp g fa fb) := by
  refine fun x σ H Δ Q sr q => sa x σ H Δ _ sr (q.bind fun a Δ1 q1 v x1 H1 k1 sr1 h1 => ?_)
  refine sb x1 σ H1 Δ1 _ sr1 ((q1.step k1 fun a Δ q => okV.step k1 q).bind fun b Δ2 q2 u x2 H2 k2 sr2 h2 => ?_)
  have q3 := q2.step k2 fun a Δ q => okV.step k2 q
  obtain ⟨dx, r1, q4⟩ := Post.get sr2 (h1.kp sr1 k2) q3
  obtain ⟨dy, r2, q5⟩ := Post.get sr2 h2 q4
  exact h x2.Av H2 dx dy v u Q sr2.fr r1 r2 (Post.outV sr2 q5)
theorem sound_opN {ta tb : TE} (sa : SoundO c W ta fa) (sb : SoundO c W tb fb) (h : OpN c.toGc r g) : SoundF c W (tOp r ta tb) (mOp g fa fb) := by
  refine fun x σ H Δ Q sr q => sa x σ H Δ _ sr (q.bind fun a Δ1 q1 v x1 H1 k1 sr1 h1 => ?_)
  refine sb x1 σ H1 Δ1 _ sr1 ((q1.step k1 fun a Δ q => okF.step k1 q).bind fun b Δ2 q2 u x2 H2 k2 sr2 h2 => ?_)
  have q3 := q2.step k2 fun a Δ q => okF.step k2 q
  obtain ⟨dx, r1, q4⟩ := Post.get sr2 (h1.kp sr1 k2) q3
  obtain ⟨dy, r2, q5⟩ := Post.get sr2 h2 q4
  exact h x2.Av H2 dx dy v u Q sr2.fr r1 r2 (Post.outN sr2 q5)
theorem de_op (ho : OpR X (binaryOp op) r) (h : OpD c.toGc r g) (ha : DO X c W ea fa) (hb : DO X c W eb fb) : DE X c W (.BinOp ea op eb pos) (mOp g fa fb) := by
  obtain ⟨ta, pa, sa⟩ := ha.out
  obtain ⟨tb, pb, sb⟩ := hb.out
  exact ⟨_, pe_op ho pa pb, sound_op sa sb h⟩
theorem df_op (ho : OpR X (binaryOp op) r) (h : OpN c.toGc r g) (ha : DO X c W ea fa) (hb : DO X c W eb fb) : DF X c W (.BinOp ea op eb pos) (mOp g fa fb) := by
  obtain ⟨ta, pa, sa⟩ := ha.out
  obtain ⟨tb, pb, sb⟩ := hb.out
  exact ⟨_, pe_op ho pa pb, sound_opN sa sb h⟩
theorem de_cmp {op : CmpOp} (ho : OpR X (compareOp op) r) (h : OpD c.toGc r g) (ha : DO X c W ea fa) (hb : DO X c W eb fb) (hm : behindInMarks op eb = false) : DE X c W (.Compare ea [op] [eb] pos) (mOp g fa fb) := by
  obtain ⟨ta, pa, sa⟩ := ha.out
  obtain ⟨tb, pb, sb⟩ := hb.out
  exact ⟨_, pe_cmpR ho pa pb hm, sound_op sa sb h⟩
theorem de_un {op : UnaryOp} {r : V → Hp → VK → Prop} {g : D → Option D} (ho : UnR X (unaryOp op) r) (h : UnD c.toGc r g) (ha : DO X c W ea fa) : DE X c W (.UnaryOp op ea pos) (mUn g fa) := by
  obtain ⟨ta, pa, sa⟩ := ha.out
  refine ⟨_, pe_un ho pa, fun x σ H Δ Q sr q => sa x σ H Δ _ sr (q.bind fun a Δ1 q1 v x1 H1 k1 sr1 h1 => ?_)⟩
  have q2 := q1.step k1 fun a Δ q => okV.step k1 q
  obtain ⟨dx, r1, q3⟩ := Post.get sr1 h1 q2
  exact h x1.Av H1 dx v Q sr1.fr r1 (Post.outV sr1 q3)
theorem sound_cb {t : TA} {r : List V → Hp → VK → Prop} {g : List D → Option D} (s : SoundA c W t fs) (h : CaD c.toGc r g) : SoundE c W (tCB r t) (mCb g fs) := by
  refine fun x σ H Δ Q sr q => s x σ H Δ _ sr (q.bind fun a Δ1 q1 v x1 H1 k1 sr1 h1 => ?_)
  have q2 := q1.step k1 fun a Δ q => okV.step k1 q
  obtain ⟨ds, r1, q3⟩ := Post.gets sr1 h1 q2
  exact h x1.Av H1 ds v Q sr1.fr r1 (Post.outV sr1 q3)
theorem sound_cbN {t : TA} {r : List V → Hp → VK → Prop} {g : List D → Option D} (s : SoundA c W t fs) (h : CaN c.toGc r g) : SoundF c W (tCB r t) (mCb g fs) := by
  refine fun x σ H Δ Q sr q => s x σ H Δ _ sr (q.bind fun a Δ1 q1 v x1 H1 k1 sr1 h1 => ?_)
  have q2 := q1.step k1 fun a Δ q => okF.step k1 q
  obtain ⟨ds, r1, q3⟩ := Post.gets sr1 h1 q2
  exact h x1.Av H1 ds v Q sr1.fr r1 (Post.outN sr1 q3)
variable {r' : List V → Hp → VK → Prop} {g' : List D → Option D} {nm : Str} {id T : String} {p : Pos} {e : Expr}
theorem de_callB (hc : CallR X (.builtin id) r') (h : CaD c.toGc r' g') (hg : Gl X nm) (hm : X.mg nm = none) (hv : bootBuiltins nm = some (.builtin id)) (ha : DA X c W (e :: es) fs) (hn : nm ≠ "__name__" := by decide) (hdb : (nm == ("__debug__" : Str)) = false := by decide)
    (he : starEach (e :: es) X.env = (false, eval e X.env) :: starEach es X.env := by rfl) (hpl : (backTo pos (starEach es X.env)).any (·.1) = false := by rfl) : DE X c W (.Call (.Name nm p) (e :: es) [] pos) (mCb g' fs) := by
  obtain ⟨t, pa, s⟩ := ha.out
  exact ⟨_, pe_callB hc hg hm hv pa hn hdb he hpl, sound_cb s h⟩
theorem df_callB (hc : CallR X (.builtin id) r') (h : CaN c.toGc r' g') (hg : Gl X nm) (hm : X.mg nm = none) (hv : bootBuiltins nm = some (.builtin id)) (ha : DA X c W (e :: es) fs) (hn : nm ≠ "__name__" := by decide) (hdb : (nm == ("__debug__" : Str)) = false := by decide)
    (he : starEach (e :: es) X.env = (false, eval e X.env) :: starEach es X.env := by rfl) (hpl : (backTo pos (starEach es X.env)).any (·.1) = false := by rfl) : DF X c W (.Call (.Name nm p) (e :: es) [] pos) (mCb g' fs) := by
  obtain ⟨t, pa, s⟩ := ha.out
  exact ⟨_, pe_callB hc hg hm hv pa hn hdb he hpl, sound_cbN s h⟩
theorem de_callT (hc : CallR X (.type T) r') (h : CaD c.toGc r' g') (hg : Gl X nm) (hm : X.mg nm = none) (hv : bootBuiltins nm = some (.type T)) (ha : DA X c W (e :: es) fs) (hn : nm ≠ "__name__" := by decide) (hdb : (nm == ("__debug__" : Str)) = false := by decide)
    (he : starEach (e :: es) X.env = (false, eval e X.env) :: starEach es X.env := by rfl) (hpl : (backTo pos (starEach es X.env)).any (·.1) = false := by rfl) : DE X c W (.Call (.Name nm p) (e :: es) [] pos) (mCb g' fs) := by
  obtain ⟨t, pa, s⟩ := ha.out
  exact ⟨_, pe_callTy hc hg hm hv pa hn hdb he hpl, sound_cb s h⟩
theorem df_callT (hc : CallR X (.type T) r') (h : CaN c.toGc r' g') (hg : Gl X nm) (hm : X.mg nm = none) (hv : bootBuiltins nm = some (.type T)) (ha : DA X c W (e :: es) fs) (hn : nm ≠ "__name__" := by decide) (hdb : (nm == ("__debug__" : Str)) = false := by decide)
    (he : starEach (e :: es) X.env = (false, eval e X.env) :: starEach es X.env := by rfl) (hpl : (backTo pos (starEach es X.env)).any (·.1) = false := by rfl) : DF X c W (.Call (.Name nm p) (e :: es) [] pos) (mCb g' fs) := by
  obtain ⟨t, pa, s⟩ := ha.out
  exact ⟨_, pe_callTy hc hg hm hv pa hn hdb he hpl, sound_cbN s h⟩
end

/-! ### displays -/
section
variable {X : Cx} {c : Ct} {W : WX} {es : List Expr} {fs : M (List AK)} {pos : Pos}
/-- every part of an aggregate is shared -/
def mVals : List AK → M (List D)
  | [] => mPure []
  | .v d :: as => mBind (mVals as) fun ds => mPure (d :: ds)
  | .s _ :: _ => mBad
theorem Post.vals {α : Type} {ok : α → SD → Prop} {x : Sx} {σ : St} {H : Hp} {Δ : SD} (s : SR c x σ H Δ) : ∀ {as : List AK} {vs : List V} {g : List D → M α}, AKsOk c x σ H as vs → Post c W x σ H ok (mBind (mVals as) g Δ) → ∃ ds, RepL c.toGc x.Av H ds vs ∧ Post c W x σ H ok (g ds Δ)
  | [], vs, g, h, p => ⟨[], by unfold RepL; exact h, p⟩
  | .v d :: as, vs, g, ⟨v, r, e, h1, h2⟩, p => by
    have p' : Post c W x σ H ok (mBind (mVals as) (fun ds => g (d :: ds)) Δ) := by
      refine cast (congrArg _ ?_) p
      show mBind (mBind (mVals as) fun ds => mPure (d :: ds)) g Δ = _
      unfold mBind
      cases mVals as Δ with
      | ok ds Δ2 => rfl
      | ex n d Δ' => rfl
      | bad => rfl
    obtain ⟨ds, r2, p2⟩ := Post.vals s h2 p'
    exact ⟨d :: ds, by unfold RepL; exact ⟨v, r, e, h1, r2⟩, p2⟩
  | .s i :: as, vs, g, h, p => p.elim
def lim : Nat := 1000000
theorem lim_ok {n : Nat} (h : n ≤ lim) : n ≤ sizeLine := Nat.le_trans h (by rw [PySem.sizeLine_eq]; decide)
def mLst (f : M (List AK)) : M D := mBind f fun as => mBind (mVals as) fun ds => if ds.length ≤ lim then mPure (.lst ds) else mBad
def mTup (f : M (List AK)) : M D := mBind f fun as => mBind (mVals as) fun ds => if ds.length ≤ lim then mPure (.tup ds) else mBad
theorem repL_length {G : Gc} {Av : Addr → Prop} {H : Hp} : ∀ {ds : List D} {vs : List V}, RepL G Av H ds vs → vs.length = ds.length
  | [], vs, h => by unfold RepL at h; rw [h]; rfl
  | d :: ds, vs, h => by
    unfold RepL at h
    obtain ⟨v, r, e, _, h2⟩ := h
    rw [e, List.length_cons, List.length_cons, repL_length h2]
/-- parts at a heap with one object more, that object left out -/
theorem RepL.out {G : Gc} {Av : Addr → Prop} {H H' : Hp} {p : Addr} (hp : H p = none) (e : Ex H H') {ds : List D} {vs : List V} (h : RepL G Av H ds vs) : RepL G (fun a => Av a ∧ a ≠ p) H' ds vs := by
  have k0 := e.keep (G := G) (Av := Av)
  exact h.keep ⟨k0.rd, k0.lst, k0.tup, k0.ins, fun a u ha r => ⟨ha, fun z => by
    subst z
    rcases r with r | ⟨o, r⟩ <;> (rw [hp] at r; cases r)⟩⟩
theorem df_lst (h : DA X c W es fs) : DF X c W (.List es pos) (mLst fs) := by
  obtain ⟨t, p, s⟩ := h.out
  refine ⟨_, pe_lst p, fun x σ H Δ Q sr q => s x σ H Δ _ sr (q.bind fun as Δ1 q1 vs x1 H1 k1 sr1 h1 => ?_)⟩
  obtain ⟨ds, rl, q2⟩ := Post.vals sr1 h1 (q1.step k1 fun a Δ q => okF.step k1 q)
  by_cases hz : ds.length ≤ lim
  · rw [if_pos hz] at q2
    refine ⟨by rw [repL_length rl]; exact lim_ok hz, fun a ha => ?_⟩
    obtain ⟨k, sr2, h0, nr⟩ := sr1.alloc ha (Ex.new (o := .lst vs) ha)
    exact q2 a _ _ k (sr2 (by rw [upd_same]; intro z; cases z)) h0 ha (fun z => z.2 rfl) nr ⟨vs, upd_same, rl.out ha (Ex.new ha)⟩
  · rw [if_neg hz] at q2
    exact q2.elim
theorem de_tup {n} (h : DA X c W es fs) : DE X c W (.Tuple es n pos) (mTup fs) := by
  obtain ⟨t, p, s⟩ := h.out
  refine ⟨_, pe_tup p, fun x σ H Δ Q sr q => s x σ H Δ _ sr (q.bind fun as Δ1 q1 vs x1 H1 k1 sr1 h1 => ?_)⟩
  obtain ⟨ds, rl, q2⟩ := Post.vals sr1 h1 (q1.step k1 fun a Δ q => okV.step k1 q)
  by_cases hz : ds.length ≤ lim
  · rw [if_pos hz] at q2
    refine ⟨by rw [repL_length rl]; exact lim_ok hz, fun a ha => ?_⟩
    have e : Ex H1 (upd H1 a (.tup vs)) := Ex.new ha
    exact q2 _ x1 _ (Kp.ex e x1) (sr1.ex e) (by unfold Rep; exact ⟨a, vs, rfl, sr1.fr a ha, upd_same, rl.keep e.keep⟩)
  · rw [if_neg hz] at q2
    exact q2.elim
end
end DL

namespace DL
open PySem L2

section
variable {G : Gc} {Av : Addr → Prop} {H : Hp} {v : V}
theorem rep_non (h : Rep1 G Av H .non v) : v = .non := by
  rcases h with h | ⟨a, e, h⟩
  · unfold Rep at h; exact h
  · exact h.elim
theorem rep_int {i : Int} (h : Rep1 G Av H (.int i) v) : v = .int i := by
  rcases h with h | ⟨a, e, h⟩
  · unfold Rep at h; exact h
  · exact h.elim
theorem rep_bl {i : Bool} (h : Rep1 G Av H (.bl i) v) : v = .bl i := by
  rcases h with h | ⟨a, e, h⟩
  · unfold Rep at h; exact h
  · exact h.elim
theorem rep_str {i : Str} (h : Rep1 G Av H (.str i) v) : v = .str i := by
  rcases h with h | ⟨a, e, h⟩
  · unfold Rep at h; exact h
  · exact h.elim
theorem rep_lst {ds : List D} (h : Rep1 G Av H (.lst ds) v) : ∃ a vs, v = .ref a ∧ H a = some (.lst vs) ∧ RepL G Av H ds vs := by
  rcases h with h | ⟨a, e, h⟩
  · unfold Rep at h
    obtain ⟨a, vs, e, _, hh, r⟩ := h
    exact ⟨a, vs, e, hh, r⟩
  · obtain ⟨vs, hh, r⟩ := h
    exact ⟨a, vs, e, hh, r⟩
theorem rep_tup {ds : List D} (h : Rep1 G Av H (.tup ds) v) : ∃ a vs, v = .ref a ∧ Av a ∧ H a = some (.tup vs) ∧ RepL G Av H ds vs := by
  rcases h with h | ⟨a, e, h⟩
  · unfold Rep at h
    exact h
  · exact h.elim
theorem rep_scr {ns : List Int} (h : Rep1 G Av H (.scr ns) v) : ∃ a, v = .ref a ∧ SqL G.K H a (ns.map V.int) := by
  rcases h with h | ⟨a, e, h⟩
  · unfold Rep at h
    obtain ⟨a, e, h⟩ := h
    refine ⟨a, e, ?_⟩
    rcases h with ⟨_, h⟩ | h
    · exact .inl h
    · exact h H
  · exact h.elim
theorem mk_int {i : Int} : Rep G Av H (.int i) (.int i) := by unfold Rep; rfl
theorem mk_bl {i : Bool} : Rep G Av H (.bl i) (.bl i) := by unfold Rep; rfl
theorem mk_str {i : Str} : Rep G Av H (.str i) (.str i) := by unfold Rep; rfl
theorem mk_non : Rep G Av H .non .non := by unfold Rep; rfl
theorem RepL.app : ∀ {ds es : List D} {vs us : List V}, RepL G Av H ds vs → RepL G Av H es us → RepL G Av H (ds ++ es) (vs ++ us)
  | [], es, vs, us, h, h' => by unfold RepL at h; subst h; exact h'
  | d :: ds, es, vs, us, h, h' => by
    unfold RepL at h
    obtain ⟨v, r, e, h1, h2⟩ := h
    subst e
    show RepL G Av H (d :: (ds ++ es)) (v :: (r ++ us))
    unfold RepL
    exact ⟨v, _, rfl, h1, h2.app h'⟩
theorem RepL.at : ∀ {ds : List D} {vs : List V} {i : Nat} {d : D}, RepL G Av H ds vs → ds[i]? = some d → ∃ v, vs[i]? = some v ∧ Rep G Av H d v
  | [], vs, i, d, h, e => by simp at e
  | d0 :: ds, vs, i, d, h, e => by
    unfold RepL at h
    obtain ⟨v, r, rfl, h1, h2⟩ := h
    cases i with
    | zero => simp at e; subst e; exact ⟨v, rfl, h1⟩
    | succ i => simpa using h2.at (by simpa using e)
theorem RepL.get : ∀ {ds : List D} {vs : List V} {i : Nat} {v : V}, RepL G Av H ds vs → vs[i]? = some v → ∃ d, ds[i]? = some d ∧ Rep G Av H d v := fun {ds vs i v} h e => by
  have hl := repL_length h
  have hi : i < ds.length := by rw [← hl]; exact (List.getElem?_eq_some_iff.mp e).1
  obtain ⟨u, e', r⟩ := h.at (i := i) (d := ds[i]) (by simp [hi])
  rw [e] at e'; cases e'
  exact ⟨_, by simp [hi], r⟩
theorem RepL.take : ∀ {ds : List D} {vs : List V} (n : Nat), RepL G Av H ds vs → RepL G Av H (ds.take n) (vs.take n)
  | ds, vs, 0, h => by simp [RepL]
  | [], vs, n + 1, h => by unfold RepL at h; subst h; simp [RepL]
  | d :: ds, vs, n + 1, h => by
    unfold RepL at h
    obtain ⟨v, r, rfl, h1, h2⟩ := h
    show RepL G Av H (d :: ds.take n) (v :: r.take n)
    unfold RepL
    exact ⟨v, _, rfl, h1, h2.take n⟩
theorem RepL.drop : ∀ {ds : List D} {vs : List V} (n : Nat), RepL G Av H ds vs → RepL G Av H (ds.drop n) (vs.drop n)
  | ds, vs, 0, h => h
  | [], vs, n + 1, h => by unfold RepL at h; subst h; simp [RepL]
  | d :: ds, vs, n + 1, h => by
    unfold RepL at h
    obtain ⟨v, r, rfl, h1, h2⟩ := h
    exact h2.drop n
theorem RepL.rev : ∀ {ds : List D} {vs : List V}, RepL G Av H ds vs → RepL G Av H ds.reverse vs.reverse
  | [], vs, h => by unfold RepL at h; subst h; simp [RepL]
  | d :: ds, vs, h => by
    unfold RepL at h
    obtain ⟨v, r, rfl, h1, h2⟩ := h
    rw [List.reverse_cons, List.reverse_cons]
    exact h2.rev.app (by unfold RepL; exact ⟨v, [], rfl, h1, by unfold RepL; rfl⟩)
theorem RepL.rep {ds : List D} {vs : List V} (h : RepL G Av H ds vs) : ∀ k : Nat, RepL G Av H (List.replicate k ds).flatten (List.replicate k vs).flatten
  | 0 => by simp [RepL]
  | k + 1 => by
    rw [List.replicate_succ, List.replicate_succ, List.flatten_cons, List.flatten_cons]
    exact h.app (h.rep k)
/-- a list of ints -/
def dInts : List D → Option (List Int)
  | [] => some []
  | .int i :: ds => (dInts ds).map (i :: ·)
  | _ :: _ => none
def dBls : List D → Option (List Bool)
  | [] => some []
  | .bl i :: ds => (dBls ds).map (i :: ·)
  | _ :: _ => none
def dStrs : List D → Option (List Str)
  | [] => some []
  | .str i :: ds => (dStrs ds).map (i :: ·)
  | _ :: _ => none
theorem repL_ints : ∀ {ds : List D} {ns : List Int} {vs : List V}, dInts ds = some ns → RepL G Av H ds vs → vs = ns.map V.int
  | [], ns, vs, e, h => by unfold RepL at h; cases e; exact h
  | d :: ds, ns, vs, e, h => by
    unfold RepL at h
    obtain ⟨v, r, rfl, h1, h2⟩ := h
    cases d <;> first
      | (cases e; done)
      | skip
    simp only [dInts, Option.map_eq_some_iff] at e
    obtain ⟨ms, e1, rfl⟩ := e
    rw [repL_ints e1 h2, rep_int (.inl h1)]
    rfl
theorem repL_bls : ∀ {ds : List D} {ns : List Bool} {vs : List V}, dBls ds = some ns → RepL G Av H ds vs → vs = ns.map V.bl
  | [], ns, vs, e, h => by unfold RepL at h; cases e; exact h
  | d :: ds, ns, vs, e, h => by
    unfold RepL at h
    obtain ⟨v, r, rfl, h1, h2⟩ := h
    cases d <;> first
      | (cases e; done)
      | skip
    simp only [dBls, Option.map_eq_some_iff] at e
    obtain ⟨ms, e1, rfl⟩ := e
    rw [repL_bls e1 h2, rep_bl (.inl h1)]
    rfl
theorem repL_strs : ∀ {ds : List D} {ns : List Str} {vs : List V}, dStrs ds = some ns → RepL G Av H ds vs → vs = ns.map V.str
  | [], ns, vs, e, h => by unfold RepL at h; cases e; exact h
  | d :: ds, ns, vs, e, h => by
    unfold RepL at h
    obtain ⟨v, r, rfl, h1, h2⟩ := h
    cases d <;> first
      | (cases e; done)
      | skip
    simp only [dStrs, Option.map_eq_some_iff] at e
    obtain ⟨ms, e1, rfl⟩ := e
    rw [repL_strs e1 h2, rep_str (.inl h1)]
    rfl
theorem mkL_ints : ∀ (ns : List Int), RepL G Av H (ns.map D.int) (ns.map V.int)
  | [] => by unfold RepL; rfl
  | n :: ns => by
    show RepL G Av H (D.int n :: ns.map D.int) (V.int n :: ns.map V.int)
    unfold RepL
    exact ⟨_, _, rfl, mk_int, mkL_ints ns⟩
end

/-! ### + - * // % ** -/
section
variable {G : Gc}
def dAdd : D → D → Option D
  | .int i, .int j => some (.int (i + j))
  | .str a, .str b => if a.length + b.length ≤ lim then some (.str (a ++ b)) else none
  | .lst a, .lst b => if a.length + b.length ≤ lim then some (.lst (a ++ b)) else none
  | .tup a, .tup b => if a ≠ [] ∧ b ≠ [] ∧ a.length + b.length ≤ lim then some (.tup (a ++ b)) else none
  | _, _ => none
def dCat : D → D → Option D
  | .lst a, .lst b => if a.length + b.length ≤ lim then some (.lst (a ++ b)) else none
  | _, _ => none
def rAddS : R2 := fun x y H Q => ∃ i j, x = .str i ∧ y = .str j ∧ i.length + j.length ≤ sizeLine ∧ Q (.str (i ++ j)) H
def rAddD (K : PySem.W.Frag) : R2 := fun x y H Q => rI0 (fun i j => .int (i + j)) x y H Q ∨ (rAddS x y H Q ∨ (rCat x y H Q ∨ rCatT K x y H Q))
theorem op_addD {X : Cx} : OpR X (binaryOp .Add) (rAddD X.K) := op_add.or ((show OpR X (binaryOp .Add) rAddS from op_add_str).or (op_cat.or op_catT))
theorem d_cat_core {Av : Addr → Prop} {H : Hp} {a b : List D} {x y : V} {Q : VK} (rx : Rep1 G Av H (.lst a) x) (ry : Rep1 G Av H (.lst b) y) (hz : a.length + b.length ≤ lim)
    (q : ∀ p vs, H p = none → RepL G Av H (a ++ b) vs → Q (.ref p) (upd H p (.lst vs))) : rCat x y H Q := by
  obtain ⟨l, vs, rfl, h1, r1⟩ := rep_lst rx
  obtain ⟨l2, us, rfl, h2, r2⟩ := rep_lst ry
  exact ⟨l, l2, vs, us, rfl, rfl, h1, h2, by rw [repL_length r1, repL_length r2]; exact lim_ok hz, fun p hp => q p _ hp (r1.app r2)⟩
/-- a new list, shared at once -/
theorem newL {Av : Addr → Prop} {H : Hp} {Q : VK} {ds : List D} {vs : List V} {p : Addr} (fr : Fresh H Av) (hp : H p = none) (r : RepL G Av H ds vs) (q : outV G Av H Q (some (.lst ds))) : Q (.ref p) (upd H p (.lst vs)) :=
  q _ _ (Ex.new hp) (by unfold Rep; exact ⟨p, vs, rfl, fr p hp, upd_same, r.keep (Ex.new hp).keep⟩)
theorem newT {Av : Addr → Prop} {H : Hp} {Q : VK} {ds : List D} {vs : List V} {p : Addr} (fr : Fresh H Av) (hp : H p = none) (r : RepL G Av H ds vs) (q : outV G Av H Q (some (.tup ds))) : Q (.ref p) (upd H p (.tup vs)) :=
  q _ _ (Ex.new hp) (by unfold Rep; exact ⟨p, vs, rfl, fr p hp, upd_same, r.keep (Ex.new hp).keep⟩)
/-- .. held by nobody -/
theorem newLN {Av : Addr → Prop} {H : Hp} {Q : VK} {ds : List D} {vs : List V} {p : Addr} (hp : H p = none) (r : RepL G Av H ds vs) (q : outN G Av H Q (some (.lst ds))) : Q (.ref p) (upd H p (.lst vs)) :=
  q p _ hp (by rw [upd_same]; intro z; cases z) (Ex.new hp) ⟨vs, upd_same, r.out hp (Ex.new hp)⟩
theorem outV.now {Av : Addr → Prop} {H : Hp} {Q : VK} {d : D} {v : V} (q : outV G Av H Q (some d)) (r : Rep G Av H d v) : Q v H := q v H (Ex.refl H) r
theorem d_add : OpD G (rAddD G.K) dAdd := by
  intro Av H dx dy x y Q fr rx ry q
  unfold dAdd at q
  split at q
  · rw [rep_int rx, rep_int ry]; exact .inl ⟨_, _, rfl, rfl, q.now mk_int⟩
  · split at q
    · rename_i hz
      rw [rep_str rx, rep_str ry]; exact .inr (.inl ⟨_, _, rfl, rfl, lim_ok hz, q.now mk_str⟩)
    · exact q.elim
  · split at q
    · rename_i hz
      exact .inr (.inr (.inl (d_cat_core rx ry hz fun p vs hp r => newL fr hp r q)))
    · exact q.elim
  · split at q
    · rename_i hz
      obtain ⟨l, vs, rfl, a1, h1, r1⟩ := rep_tup rx
      obtain ⟨l2, us, rfl, a2, h2, r2⟩ := rep_tup ry
      have n1 : vs ≠ [] := fun z => by
        have := repL_length r1
        rw [z] at this
        exact hz.1 (List.length_eq_zero_iff.mp this.symm)
      have n2 : us ≠ [] := fun z => by
        have := repL_length r2
        rw [z] at this
        exact hz.2.1 (List.length_eq_zero_iff.mp this.symm)
      exact .inr (.inr (.inr ⟨l, l2, vs, us, rfl, rfl, SqT.of h1, SqT.of h2, n1, by rw [repL_length r1, repL_length r2]; exact lim_ok hz.2.2, fun z => absurd z n2, fun _ p hp => newT fr hp (r1.app r2) q⟩))
    · exact q.elim
  · exact q.elim
theorem d_cat : OpN G (rAddD G.K) dCat := by
  intro Av H dx dy x y Q fr rx ry q
  unfold dCat at q
  split at q
  · split at q
    · rename_i hz
      exact .inr (.inr (.inl (d_cat_core rx ry hz fun p vs hp r => newLN hp r q)))
    · exact q.elim
  · exact q.elim
def dSub : D → D → Option D
  | .int i, .int j => some (.int (i - j))
  | _, _ => none
theorem d_sub : OpD G (rI0 fun i j => .int (i - j)) dSub := by
  intro Av H dx dy x y Q fr rx ry q
  unfold dSub at q
  split at q
  · rw [rep_int rx, rep_int ry]; exact ⟨_, _, rfl, rfl, q.now mk_int⟩
  · exact q.elim
instance {i j : Int} : Decidable (CMul i j) := by unfold CMul; infer_instance
/-- a product of ints of less than a million bits together, or one of them below 2 ** 64; a list so often -/
def bitsOk (i j : Int) : Bool := decide (i.natAbs.log2 + j.natAbs.log2 < 1000000) || decide (CMul i j)
def dMul : D → D → Option D
  | .int i, .int j => if bitsOk i j = true then some (.int (i * j)) else none
  | .lst a, .int k => if a.length * k.toNat ≤ lim ∧ -1000000 ≤ k ∧ k ≤ 1000000 then some (.lst (List.replicate k.toNat a).flatten) else none
  | _, _ => none
def dRep : D → D → Option D
  | .lst a, .int k => if a.length * k.toNat ≤ lim ∧ -1000000 ≤ k ∧ k ≤ 1000000 then some (.lst (List.replicate k.toNat a).flatten) else none
  | _, _ => none
def rMulD : R2 := fun x y H Q => (rI CMulW (fun i j => .int (i * j)) x y H Q ∨ rI CMul (fun i j => .int (i * j)) x y H Q) ∨ rRep x y H Q
theorem op_mulD {X : Cx} : OpR X (binaryOp .Mult) rMulD := (op_mulW.or op_mul).or op_rep
theorem d_rep_core {Av : Addr → Prop} {H : Hp} {a : List D} {k : Int} {x y : V} {Q : VK} (rx : Rep1 G Av H (.lst a) x) (ry : Rep1 G Av H (.int k) y) (hz : a.length * k.toNat ≤ lim ∧ -1000000 ≤ k ∧ k ≤ 1000000)
    (q : ∀ p vs, H p = none → RepL G Av H (List.replicate k.toNat a).flatten vs → Q (.ref p) (upd H p (.lst vs))) : rRep x y H Q := by
  obtain ⟨l, vs, rfl, h1, r1⟩ := rep_lst rx
  rw [rep_int ry]
  exact ⟨l, k, vs, rfl, rfl, h1, by omega, by omega, by rw [repL_length r1]; exact lim_ok hz.1, fun p hp => q p _ hp (r1.rep k.toNat)⟩
theorem d_mul : OpD G rMulD dMul := by
  intro Av H dx dy x y Q fr rx ry q
  unfold dMul at q
  split at q
  · split at q
    · rename_i hz
      rw [rep_int rx, rep_int ry]
      unfold bitsOk at hz
      rw [Bool.or_eq_true] at hz
      rcases hz with hz | hz
      · exact .inl (.inl ⟨_, _, rfl, rfl, (by have z := of_decide_eq_true hz; exact z), q.now mk_int⟩)
      · exact .inl (.inr ⟨_, _, rfl, rfl, of_decide_eq_true hz, q.now mk_int⟩)
    · exact q.elim
  · split at q
    · rename_i hz
      exact .inr (d_rep_core rx ry hz fun p vs hp r => newL fr hp r q)
    · exact q.elim
  · exact q.elim
theorem d_rep : OpN G rMulD dRep := by
  intro Av H dx dy x y Q fr rx ry q
  unfold dRep at q
  split at q
  · split at q
    · rename_i hz
      exact .inr (d_rep_core rx ry hz fun p vs hp r => newLN hp r q)
    · exact q.elim
  · exact q.elim
/-- by a positive divisor of less than 9000 bits -/
def divOk (j : Int) : Bool := decide (0 < j ∧ j.natAbs.log2 < 9000)
def dDiv : D → D → Option D
  | .int i, .int j => if divOk j = true then some (.int (i / j)) else none
  | _, _ => none
theorem d_div : OpD G (rI CDivW fun i j => .int (i / j)) dDiv := by
  intro Av H dx dy x y Q fr rx ry q
  unfold dDiv at q
  split at q
  · split at q
    · rename_i hz
      rw [rep_int rx, rep_int ry]; exact ⟨_, _, rfl, rfl, (by have z := of_decide_eq_true hz; exact z), q.now mk_int⟩
    · exact q.elim
  · exact q.elim
def dMod : D → D → Option D
  | .int i, .int j => if 0 < j then some (.int (i % j)) else none
  | _, _ => none
theorem d_mod : OpD G (rI (fun _ j => 0 < j) fun i j => .int (i % j)) dMod := by
  intro Av H dx dy x y Q fr rx ry q
  unfold dMod at q
  split at q
  · split at q
    · rename_i hz
      rw [rep_int rx, rep_int ry]; exact ⟨_, _, rfl, rfl, hz, q.now mk_int⟩
    · exact q.elim
  · exact q.elim
def dPow : D → D → Option D
  | .int i, .int j => if 0 ≤ j ∧ j ≤ 1000 ∧ i.natAbs < 2 ^ 64 then some (.int (i ^ j.toNat)) else none
  | _, _ => none
theorem d_pow : OpD G (rI CPow fun i j => .int (i ^ j.toNat)) dPow := by
  intro Av H dx dy x y Q fr rx ry q
  unfold dPow at q
  split at q
  · split at q
    · rename_i hz
      rw [rep_int rx, rep_int ry]; exact ⟨_, _, rfl, rfl, ⟨hz.1, by omega, hz.2.2⟩, q.now mk_int⟩
    · exact q.elim
  · exact q.elim
def dNeg : D → Option D
  | .int i => some (.int (-i))
  | _ => none
theorem d_neg : UnD G (rU fun i => .int (-i)) dNeg := by
  intro Av H dx x Q fr rx q
  unfold dNeg at q
  split at q
  · rw [rep_int rx]; exact ⟨_, rfl, q.now mk_int⟩
  · exact q.elim

/-! ### order of ints, is -/
def dCmp (p : Int → Int → Bool) : D → D → Option D
  | .int i, .int j => some (.bl (p i j))
  | _, _ => none
theorem d_cmp (p : Int → Int → Bool) : OpD G (rI0 fun i j => .bl (p i j)) (dCmp p) := by
  intro Av H dx dy x y Q fr rx ry q
  unfold dCmp at q
  split at q
  · rw [rep_int rx, rep_int ry]; exact ⟨_, _, rfl, rfl, q.now mk_bl⟩
  · exact q.elim
abbrev dLt := dCmp fun i j => decide (i < j)
abbrev dLe := dCmp fun i j => decide (i ≤ j)
abbrev dGt := dCmp fun i j => decide (j < i)
abbrev dGe := dCmp fun i j => decide (j ≤ i)
def isNon : D → Bool
  | .non => true
  | _ => false
theorem rep_isNon {Av : Addr → Prop} {H : Hp} {d : D} {v : V} (h : Rep1 G Av H d v) : decide (v = .non) = isNon d := by
  rcases h with h | ⟨a, e, h⟩
  · cases d <;> unfold Rep at h <;> simp only [isNon] <;> first
      | (rw [h]; simp; done)
      | (rw [h.1]; simp; done)
      | (obtain ⟨a, vs, e, _⟩ := h; rw [e]; simp; done)
      | (obtain ⟨a, C, dx, vs, e, _⟩ := h; rw [e]; simp; done)
      | (obtain ⟨a, e, e2⟩ := h; first | (rw [e]; simp; done) | (rw [e2]; simp; done))
  · rw [e]
    cases d <;> first | exact h.elim | (simp [isNon])
/-- is, is not: None on the right, or two bools -/
def dIs : D → D → Option D
  | .bl a, .bl b => some (.bl (decide (a = b)))
  | d, .non => some (.bl (isNon d))
  | _, _ => none
def dIsNot : D → D → Option D
  | .bl a, .bl b => some (.bl (!decide (a = b)))
  | d, .non => some (.bl (!isNon d))
  | _, _ => none
def rIsD : R2 := fun x y H Q => (y = .non ∧ Q (.bl (decide (x = .non))) H) ∨ rIsB x y H Q
def rIsNotD : R2 := fun x y H Q => (y = .non ∧ Q (.bl (!decide (x = .non))) H) ∨ rNotB x y H Q
theorem op_isD {X : Cx} : OpR X (compareOp .Is) rIsD := op_isN.or op_isBl
theorem op_isNotD {X : Cx} : OpR X (compareOp .IsNot) rIsNotD := op_notN.or op_notBl
theorem d_is : OpD G rIsD dIs := by
  intro Av H dx dy x y Q fr rx ry q
  unfold dIs at q
  split at q
  · rw [rep_bl rx, rep_bl ry]; exact .inr ⟨_, _, rfl, rfl, q.now mk_bl⟩
  · rw [rep_non ry]; exact .inl ⟨rfl, by rw [rep_isNon rx]; exact q.now mk_bl⟩
  · exact q.elim
theorem d_isNot : OpD G rIsNotD dIsNot := by
  intro Av H dx dy x y Q fr rx ry q
  unfold dIsNot at q
  split at q
  · rw [rep_bl rx, rep_bl ry]; exact .inr ⟨_, _, rfl, rfl, q.now mk_bl⟩
  · rw [rep_non ry]; exact .inl ⟨rfl, by rw [rep_isNon rx]; exact q.now mk_bl⟩
  · exact q.elim
end
end DL

namespace DL
open PySem L2

/-! ### == by the library's data -/
mutual
def toPy : D → Option PyData
  | .non => some .none
  | .bl b => some (.bool b)
  | .int i => some (.int i)
  | .str x => if PySem.PyData.strOk x = true then some (.str x) else none
  | .lst xs => (toPyL xs).map .list
  | .tup xs => (toPyL xs).map .tuple
  | _ => none
def toPyL : List D → Option (List PyData)
  | [] => some []
  | d :: ds => (toPy d).bind fun p => (toPyL ds).map (p :: ·)
end
mutual
theorem canLay_of : ∀ {d : D} {p : PyData}, toPy d = some p → p.canLay0 = true
  | .non, p, e => by cases e; rfl
  | .bl _, p, e => by cases e; rfl
  | .int _, p, e => by cases e; rfl
  | .str x, p, e => by
    simp only [toPy] at e
    split at e
    · rename_i h
      cases e
      simpa [PyData.canLay0] using h
    · cases e
  | .lst xs, p, e => by
    simp only [toPy, Option.map_eq_some_iff] at e
    obtain ⟨ps, e1, rfl⟩ := e
    simpa [PyData.canLay0] using canLayL_of e1
  | .tup xs, p, e => by
    simp only [toPy, Option.map_eq_some_iff] at e
    obtain ⟨ps, e1, rfl⟩ := e
    simpa [PyData.canLay0] using canLayL_of e1
  | .dct _, p, e => by cases e
  | .dcT _, p, e => by cases e
  | .dcN _, p, e => by cases e
  | .obj _ _, p, e => by cases e
  | .scr _, p, e => by cases e
  | .cls _, p, e => by cases e
  | .ty _, p, e => by cases e
theorem canLayL_of : ∀ {ds : List D} {ps : List PyData}, toPyL ds = some ps → PyData.canLayAll0 ps = true
  | [], ps, e => by cases e; rfl
  | d :: ds, ps, e => by
    simp only [toPyL, Option.bind_eq_some_iff, Option.map_eq_some_iff] at e
    obtain ⟨p, e1, qs, e2, rfl⟩ := e
    simp [PyData.canLayAll0, canLay_of e1, canLayL_of e2]
end
section
variable {G : Gc} {Av : Addr → Prop} {H : Hp}
mutual
theorem Rep.dp : ∀ {d : D} {p : PyData} {v : V}, toPy d = some p → Rep G Av H d v → Dp G.K H v p
  | .non, p, v, e, h => by cases e; unfold Rep at h; rw [h]; exact .non
  | .bl _, p, v, e, h => by cases e; unfold Rep at h; rw [h]; exact .bl _
  | .int _, p, v, e, h => by cases e; unfold Rep at h; rw [h]; exact .int _
  | .str _, p, v, e, h => by
    simp only [toPy] at e
    split at e
    · cases e; unfold Rep at h; rw [h]; exact .str _
    · cases e
  | .lst xs, p, v, e, h => by
    simp only [toPy, Option.map_eq_some_iff] at e
    obtain ⟨ps, e1, rfl⟩ := e
    unfold Rep at h
    obtain ⟨a, vs, rfl, _, hh, r⟩ := h
    exact .lst (SqL.of hh) (RepL.dp e1 r)
  | .tup xs, p, v, e, h => by
    simp only [toPy, Option.map_eq_some_iff] at e
    obtain ⟨ps, e1, rfl⟩ := e
    unfold Rep at h
    obtain ⟨a, vs, rfl, _, hh, r⟩ := h
    exact .tup (SqT.of hh) (RepL.dp e1 r)
  | .dct _, p, v, e, h => by cases e
  | .dcT _, p, v, e, h => by cases e
  | .dcN _, p, v, e, h => by cases e
  | .obj _ _, p, v, e, h => by cases e
  | .scr _, p, v, e, h => by cases e
  | .cls _, p, v, e, h => by cases e
  | .ty _, p, v, e, h => by cases e
theorem RepL.dp : ∀ {ds : List D} {ps : List PyData} {vs : List V}, toPyL ds = some ps → RepL G Av H ds vs → DpAll G.K H vs ps
  | [], ps, vs, e, h => by cases e; unfold RepL at h; rw [h]; exact .nil
  | d :: ds, ps, vs, e, h => by
    simp only [toPyL, Option.bind_eq_some_iff, Option.map_eq_some_iff] at e
    obtain ⟨p, e1, qs, e2, rfl⟩ := e
    unfold RepL at h
    obtain ⟨v, r, rfl, h1, h2⟩ := h
    exact .cons (Rep.dp e1 h1) (RepL.dp e2 h2)
end
theorem Rep1.dp {d : D} {p : PyData} {v : V} (e : toPy d = some p) (h : Rep1 G Av H d v) : Dp G.K H v p := by
  rcases h with h | ⟨a, rfl, h⟩
  · exact Rep.dp e h
  · cases d <;> first
      | exact h.elim
      | (cases e; done)
      | skip
    simp only [toPy, Option.map_eq_some_iff] at e
    obtain ⟨ps, e1, rfl⟩ := e
    obtain ⟨vs, hh, r⟩ := h
    exact .lst (SqL.of hh) (RepL.dp e1 r)
end
/-- == of data without dicts, objects -/
def eqP (x y : D) : Option Bool := match toPy x, toPy y with
  | some p, some q => if p.depth ≤ 64 ∧ q.depth ≤ 64 then some (PyData.eqv p q) else none
  | _, _ => none
/-- two texts of any signs; otherwise by eqP -/
def eqD : D → D → Option Bool
  | .str a, .str b => some (decide (a = b))
  | x, y => eqP x y
def rEqX (K : PySem.W.Frag) : R2 := fun x y H Q => rEqD K x y H Q ∨ rEq x y H Q
def rNeX (K : PySem.W.Frag) : R2 := fun x y H Q => rNeD K x y H Q ∨ rNe x y H Q
theorem op_eqX {X : Cx} (hu : X.A.units + 64 < cLine) : OpR X (compareOp .Eq) (rEqX X.K) := (op_eqD hu).or op_eq
theorem op_neX {X : Cx} (hu : X.A.units + 64 < cLine) : OpR X (compareOp .NotEq) (rNeX X.K) := (op_neD hu).or op_ne
def dEq (x y : D) : Option D := (eqD x y).map D.bl
def dNe (x y : D) : Option D := (eqD x y).map fun b => D.bl (!b)
section
variable {G : Gc}
theorem eqP_some {x y : D} {b : Bool} (h : eqP x y = some b) : ∃ p q, toPy x = some p ∧ toPy y = some q ∧ SeqAt.shaped p = true ∧ SeqAt.shaped q = true ∧ b = PyData.eqv p q := by
  unfold eqP at h
  cases e1 : toPy x with
  | none => rw [e1] at h; cases h
  | some p =>
    cases e2 : toPy y with
    | none => rw [e1, e2] at h; cases h
    | some q =>
      rw [e1, e2] at h
      dsimp only at h
      split at h
      · rename_i hd
        cases h
        exact ⟨p, q, rfl, rfl, by simp [SeqAt.shaped, canLay_of e1, hd.1], by simp [SeqAt.shaped, canLay_of e2, hd.2], rfl⟩
      · cases h
theorem eqD_cases {x y : D} {b : Bool} (h : eqD x y = some b) : (∃ i j, x = .str i ∧ y = .str j ∧ b = decide (i = j)) ∨ eqP x y = some b := by
  unfold eqD at h
  split at h
  · cases h; exact .inl ⟨_, _, rfl, rfl, rfl⟩
  · exact .inr h
theorem d_eq : OpD G (rEqX G.K) dEq := by
  intro Av H dx dy x y Q fr rx ry q
  unfold dEq at q
  cases e : eqD dx dy with
  | none => rw [e] at q; exact q.elim
  | some b =>
    rw [e] at q
    rcases eqD_cases e with ⟨i, j, rfl, rfl, rfl⟩ | e
    · rw [rep_str rx, rep_str ry]
      refine .inr ⟨rfl, ?_⟩
      have z : decide (V.str i = V.str j) = decide (i = j) := by simp
      rw [z]
      exact outV.now (G := G) (Av := Av) q mk_bl
    · obtain ⟨p, p', e1, e2, s1, s2, rfl⟩ := eqP_some e
      exact .inl ⟨p, p', rx.dp e1, ry.dp e2, s1, s2, outV.now (G := G) (Av := Av) q mk_bl⟩
theorem d_ne : OpD G (rNeX G.K) dNe := by
  intro Av H dx dy x y Q fr rx ry q
  unfold dNe at q
  cases e : eqD dx dy with
  | none => rw [e] at q; exact q.elim
  | some b =>
    rw [e] at q
    rcases eqD_cases e with ⟨i, j, rfl, rfl, rfl⟩ | e
    · rw [rep_str rx, rep_str ry]
      refine .inr ⟨rfl, ?_⟩
      have z : decide (V.str i = V.str j) = decide (i = j) := by simp
      rw [z]
      exact outV.now (G := G) (Av := Av) q mk_bl
    · obtain ⟨p, p', e1, e2, s1, s2, rfl⟩ := eqP_some e
      exact .inl ⟨p, p', rx.dp e1, ry.dp e2, s1, s2, outV.now (G := G) (Av := Av) q mk_bl⟩
end

/-! ### x in a list or tuple of flat things, a text in a text -/
def flatD : D → Bool
  | .non | .bl _ | .int _ | .str _ => true
  | _ => false
def flatEq : D → D → Bool
  | .non, .non => true
  | .bl a, .bl b => a == b
  | .bl a, .int j => (if a then 1 else 0) == j
  | .int i, .bl b => i == (if b then 1 else 0)
  | .int i, .int j => i == j
  | .str x, .str y => x == y
  | _, _ => false
def inD (x : D) (ds : List D) : Bool := ds.any fun y => flatEq y x
def inStr (a b : Str) : Bool := !(Builtin.Str.occurrences b a 0 b.length 1).isEmpty
def inB (x y : D) : Option Bool := match x, y with
  | .str a, .str b => some (inStr a b)
  | x, .lst ds => if flatD x = true ∧ ds.all flatD = true then some (inD x ds) else none
  | x, .tup ds => if flatD x = true ∧ ds.all flatD = true then some (inD x ds) else none
  | _, _ => none
def dIn (x y : D) : Option D := (inB x y).map D.bl
def dNotIn (x y : D) : Option D := (inB x y).map fun b => D.bl (!b)
section
variable {G : Gc} {Av : Addr → Prop} {H : Hp}
/-- the flat values -/
def fV : D → V
  | .bl b => .bl b
  | .int i => .int i
  | .str x => .str x
  | _ => .non
theorem flat_rep {d : D} {v : V} (f : flatD d = true) (h : Rep1 G Av H d v) : v = fV d := by
  cases d <;> first
    | (cases f; done)
    | exact rep_non h
    | exact rep_bl h
    | exact rep_int h
    | exact rep_str h
theorem flat_V {d : D} (f : flatD d = true) : flatV (fV d) = true := by
  cases d <;> first | (cases f; done) | rfl
theorem flat_eqV {x y : D} (fx : flatD x = true) (fy : flatD y = true) : eqV (fV x) (fV y) = flatEq x y := by
  cases x <;> cases y <;> first
    | (cases fx; done)
    | (cases fy; done)
    | rfl
theorem flat_L : ∀ {ds : List D} {vs : List V}, ds.all flatD = true → RepL G Av H ds vs → vs = ds.map fV
  | [], vs, f, h => by unfold RepL at h; exact h
  | d :: ds, vs, f, h => by
    unfold RepL at h
    obtain ⟨v, r, rfl, h1, h2⟩ := h
    rw [List.all_cons, Bool.and_eq_true] at f
    rw [flat_rep f.1 (.inl h1), flat_L f.2 h2]
    rfl
theorem flat_allV {ds : List D} (f : ds.all flatD = true) : (ds.map fV).all flatV = true := by
  rw [List.all_map, List.all_eq_true]
  intro d hd
  exact flat_V (List.all_eq_true.mp f d hd)
theorem flat_inV {x : D} {ds : List D} (fx : flatD x = true) (f : ds.all flatD = true) : inV (fV x) (ds.map fV) = inD x ds := by
  unfold inV inD
  induction ds with
  | nil => rfl
  | cons d ds ih =>
    rw [List.all_cons, Bool.and_eq_true] at f
    rw [List.map_cons, List.any_cons, List.any_cons, ih f.2, flat_eqV f.1 fx]
def rInD (K : PySem.W.Frag) : R2 := fun x y H Q => rIn K false x y H Q ∨ ∃ i j, x = .str i ∧ y = .str j ∧ Q (.bl (inStr i j)) H
def rNotInD (K : PySem.W.Frag) : R2 := fun x y H Q => rIn K true x y H Q ∨ ∃ i j, x = .str i ∧ y = .str j ∧ Q (.bl (!inStr i j)) H
theorem op_inD {X : Cx} : OpR X (compareOp .In) (rInD X.K) := op_in_seq.or op_in_str
theorem op_notInD {X : Cx} : OpR X (compareOp .NotIn) (rNotInD X.K) := op_notIn_seq.or op_notIn_str
theorem in_core {K : PySem.W.Frag} {neg : Bool} {dx dy : D} {x y : V} {Q : VK} {b : Bool} (rx : Rep1 G Av H dx x) (ry : Rep1 G Av H dy y) (e : inB dx dy = some b) (q : Q (.bl (if neg then !b else b)) H) :
    rIn K neg x y H Q ∨ ∃ i j, x = .str i ∧ y = .str j ∧ Q (.bl (if neg then !inStr i j else inStr i j)) H := by
  unfold inB at e
  split at e
  · cases e
    exact .inr ⟨_, _, rep_str rx, rep_str ry, q⟩
  · split at e
    · rename_i hf
      cases e
      obtain ⟨a, vs, rfl, hh, r⟩ := rep_lst ry
      rw [flat_L hf.2 r] at hh
      rw [flat_rep hf.1 rx]
      exact .inl ⟨a, _, rfl, .inl (SqL.of hh), flat_V hf.1, flat_allV hf.2, by rw [flat_inV hf.1 hf.2]; exact q⟩
    · cases e
  · split at e
    · rename_i hf
      cases e
      obtain ⟨a, vs, rfl, _, hh, r⟩ := rep_tup ry
      rw [flat_L hf.2 r] at hh
      rw [flat_rep hf.1 rx]
      exact .inl ⟨a, _, rfl, .inr (SqT.of hh), flat_V hf.1, flat_allV hf.2, by rw [flat_inV hf.1 hf.2]; exact q⟩
    · cases e
  · cases e
end
theorem d_in {G : Gc} : OpD G (rInD G.K) dIn := by
  intro Av H dx dy x y Q fr rx ry q
  unfold dIn at q
  cases e : inB dx dy with
  | none => rw [e] at q; exact q.elim
  | some b =>
    rw [e] at q
    exact in_core (neg := false) rx ry e (outV.now (G := G) (Av := Av) q mk_bl)
theorem d_notIn {G : Gc} : OpD G (rNotInD G.K) dNotIn := by
  intro Av H dx dy x y Q fr rx ry q
  unfold dNotIn at q
  cases e : inB dx dy with
  | none => rw [e] at q; exact q.elim
  | some b =>
    rw [e] at q
    exact in_core (neg := true) rx ry e (outV.now (G := G) (Av := Av) q mk_bl)

/-! ### places -/
section
variable {X : Cx} {c : Ct} {W : WX} {ea eb : Expr} {fa fb : M AK} {pos : Pos} {g : D → D → Option D} {r : R2}
theorem de_ixR (ho : IxR X r) (h : OpD c.toGc r g) (ha : DO X c W ea fa) (hb : DO X c W eb fb) (hs : PlainIx eb) : DE X c W (.Subscript ea eb pos) (mOp g fa fb) := by
  obtain ⟨ta, pa, sa⟩ := ha.out
  obtain ⟨tb, pb, sb⟩ := hb.out
  exact ⟨_, pe_ix ho pa pb hs, sound_op sa sb h⟩
end
/-- the place that an index means -/
def dIx : D → D → Option D
  | .lst ds, .int i => atI ds i
  | .tup ds, .int i => atI ds i
  | .scr ns, .int i => (atI ns i).map D.int
  | .str z, .int i => if z.length ≤ lim then (atI z.cps.toList i).map fun c => .str ⟨#[c]⟩ else none
  | _, _ => none
section
variable {G : Gc} {Av : Addr → Prop} {H : Hp}
theorem atI_rep {ds : List D} {vs : List V} {i : Int} {d : D} (r : RepL G Av H ds vs) (e : atI ds i = some d) : ∃ v, atI vs i = some v ∧ Rep G Av H d v := by
  unfold atI at e ⊢
  rw [repL_length r]
  cases q : ixN ds.length i with
  | none => rw [q] at e; cases e
  | some j => rw [q] at e; exact r.at e
theorem atI_map {α β : Type} (f : α → β) (xs : List α) (i : Int) : atI (xs.map f) i = (atI xs i).map f := by
  unfold atI
  rw [List.length_map]
  cases ixN xs.length i with
  | none => rfl
  | some j => simp
theorem d_ix : OpD G (rIx G.K) dIx := by
  intro Av H dx dy x y Q fr rx ry q
  unfold dIx at q
  split at q
  · rename_i ds i
    cases e : atI ds i with
    | none => rw [e] at q; exact q.elim
    | some d =>
      rw [e] at q
      obtain ⟨a, vs, rfl, hh, r⟩ := rep_lst rx
      obtain ⟨v, e1, r1⟩ := atI_rep r e
      rw [rep_int ry]
      exact .inl ⟨a, vs, i, v, rfl, rfl, SqL.of hh, e1, q.now r1⟩
  · rename_i ds i
    cases e : atI ds i with
    | none => rw [e] at q; exact q.elim
    | some d =>
      rw [e] at q
      obtain ⟨a, vs, rfl, _, hh, r⟩ := rep_tup rx
      obtain ⟨v, e1, r1⟩ := atI_rep r e
      rw [rep_int ry]
      exact .inr (.inl ⟨a, vs, i, v, rfl, rfl, SqT.of hh, e1, q.now r1⟩)
  · rename_i ns i
    cases e : atI ns i with
    | none => rw [e] at q; exact q.elim
    | some n =>
      rw [e] at q
      obtain ⟨a, rfl, hh⟩ := rep_scr rx
      rw [rep_int ry]
      exact .inl ⟨a, _, i, .int n, rfl, rfl, hh, by rw [atI_map, e]; rfl, outV.now (G := G) (Av := Av) q mk_int⟩
  · rename_i z i
    split at q
    · rename_i hz
      cases e : atI z.cps.toList i with
      | none => rw [e] at q; exact q.elim
      | some n =>
        rw [e] at q
        rw [rep_str rx, rep_int ry]
        exact .inr (.inr ⟨z, i, n, rfl, rfl, lim_ok hz, e, outV.now (G := G) (Av := Av) q mk_str⟩)
    · exact q.elim
  · exact q.elim
end

/-! ### cuts -/
def cutG {α : Type} (xs : List α) (lo hi : Option Int) : List α := (xs.drop (HT.sIx xs.length 0 lo)).take (HT.sIx xs.length xs.length hi - HT.sIx xs.length 0 lo)
def intOf : Option D → Option (Option Int)
  | none => some none
  | some (.int i) => some (some i)
  | _ => none
/-- the parts of a cut -/
def okP (c : Ct) (x : Sx) (σ : St) (H : Hp) (Q : Option Int → Hp → Prop) (o : Option Int) (Δ' : SD) : Prop := ∀ x' H', Kp x H x' H' → SR c x' σ H' Δ' → Q o H'
def SoundP (c : Ct) (W : WX) (t : TO) (f : M (Option Int)) : Prop := ∀ x σ H Δ Q, SR c x σ H Δ → Post c W x σ H (okP c x σ H Q) (f Δ) → t σ H Q
structure DP (X : Cx) (c : Ct) (W : WX) (e : Option Expr) (f : M (Option Int)) : Prop where
  out : ∃ t, PO X e t ∧ SoundP c W t f
def asInt : D → Option (Option Int)
  | .int i => some (some i)
  | _ => none
def mPart (f : M AK) : M (Option Int) := mBind f fun a => mBind (mGet a) fun d => mOpt (asInt d)
section
variable {X : Cx} {c : Ct} {W : WX} {e : Expr} {lo hi : Option Expr} {fa : M AK} {fl fh : M (Option Int)} {pos p2 : Pos}
theorem okP.step {x x1 : Sx} {σ : St} {H H1 : Hp} {Q : Option Int → Hp → Prop} {o : Option Int} {Δ : SD} (k : Kp x H x1 H1) (h : okP c x σ H Q o Δ) : okP c x1 σ H1 Q o Δ := fun x' H' k' => h x' H' (k.trans k')
theorem dp_none : DP X c W none (mPure none) := ⟨_, po_none, fun x σ H Δ Q sr q => q x H (Kp.refl _ _) sr⟩
theorem dp_some (h : DO X c W e fa) : DP X c W (some e) (mPart fa) := by
  obtain ⟨t, p, s⟩ := h.out
  refine ⟨_, po_some p, fun x σ H Δ Q sr q => s x σ H Δ _ sr (q.bind fun a Δ1 q1 v x1 H1 k1 sr1 h1 => ?_)⟩
  obtain ⟨d, r, q2⟩ := Post.get sr1 h1 (q1.step k1 fun a Δ q => okP.step k1 q)
  cases d <;> first
    | exact q2.elim
    | skip
  rw [rep_int r]
  exact ⟨_, rfl, q2 x1 H1 (Kp.refl _ _) sr1⟩
def mCut (g : D → Option Int → Option Int → Option D) (fa : M AK) (fl fh : M (Option Int)) : M D := mBind fa fun a => mBind fl fun l => mBind fh fun h => mBind (mGet a) fun d => mOpt (g d l h)
def SlD (G : Gc) (r : V → Option Int → Option Int → Hp → VK → Prop) (f : D → Option Int → Option Int → Option D) : Prop := ∀ Av H dx x l h Q, Fresh H Av → Rep1 G Av H dx x → outV G Av H Q (f dx l h) → r x l h H Q
def SlN (G : Gc) (r : V → Option Int → Option Int → Hp → VK → Prop) (f : D → Option Int → Option Int → Option D) : Prop := ∀ Av H dx x l h Q, Fresh H Av → Rep1 G Av H dx x → outN G Av H Q (f dx l h) → r x l h H Q
variable {r : V → Option Int → Option Int → Hp → VK → Prop} {g : D → Option Int → Option Int → Option D}
theorem de_slice (hr : SlR X r) (hg : SlD c.toGc r g) (he : DO X c W e fa) (hl : DP X c W lo fl) (hh : DP X c W hi fh) : DE X c W (.Subscript e (.Slice lo hi none p2) pos) (mCut g fa fl fh) := by
  obtain ⟨t, p, s⟩ := he.out
  obtain ⟨tl, pl, sl⟩ := hl.out
  obtain ⟨th, ph, sh⟩ := hh.out
  refine ⟨_, pe_slice hr p pl ph, fun x σ H Δ Q sr q => s x σ H Δ _ sr (q.bind fun a Δ1 q1 v x1 H1 k1 sr1 h1 => ?_)⟩
  refine sl x1 σ H1 Δ1 _ sr1 ((q1.step k1 fun a Δ q => okV.step k1 q).bind fun l Δ2 q2 x2 H2 k2 sr2 => ?_)
  refine sh x2 σ H2 Δ2 _ sr2 ((q2.step k2 fun a Δ q => okV.step k2 q).bind fun u Δ3 q3 x3 H3 k3 sr3 => ?_)
  obtain ⟨d, rd, q4⟩ := Post.get sr3 ((h1.kp sr1 k2).kp sr2 k3) (q3.step k3 fun a Δ q => okV.step k3 q)
  exact hg x3.Av H3 d v l u Q sr3.fr rd (Post.outV sr3 q4)
theorem df_slice (hr : SlR X r) (hg : SlN c.toGc r g) (he : DO X c W e fa) (hl : DP X c W lo fl) (hh : DP X c W hi fh) : DF X c W (.Subscript e (.Slice lo hi none p2) pos) (mCut g fa fl fh) := by
  obtain ⟨t, p, s⟩ := he.out
  obtain ⟨tl, pl, sl⟩ := hl.out
  obtain ⟨th, ph, sh⟩ := hh.out
  refine ⟨_, pe_slice hr p pl ph, fun x σ H Δ Q sr q => s x σ H Δ _ sr (q.bind fun a Δ1 q1 v x1 H1 k1 sr1 h1 => ?_)⟩
  refine sl x1 σ H1 Δ1 _ sr1 ((q1.step k1 fun a Δ q => okF.step k1 q).bind fun l Δ2 q2 x2 H2 k2 sr2 => ?_)
  refine sh x2 σ H2 Δ2 _ sr2 ((q2.step k2 fun a Δ q => okF.step k2 q).bind fun u Δ3 q3 x3 H3 k3 sr3 => ?_)
  obtain ⟨d, rd, q4⟩ := Post.get sr3 ((h1.kp sr1 k2).kp sr2 k3) (q3.step k3 fun a Δ q => okF.step k3 q)
  exact hg x3.Av H3 d v l u Q sr3.fr rd (Post.outN sr3 q4)
end
theorem RepL.cut {G : Gc} {Av : Addr → Prop} {H : Hp} {ds : List D} {vs : List V} (r : RepL G Av H ds vs) (lo hi : Option Int) : RepL G Av H (cutG ds lo hi) (cutV vs lo hi) := by
  unfold cutG cutV
  rw [repL_length r]
  exact (r.drop _).take _
def rSlD (K : PySem.W.Frag) : V → Option Int → Option Int → Hp → VK → Prop := fun x lo hi H Q => rSlL K x lo hi H Q ∨ (rSlT K x lo hi H Q ∨ ∃ z, x = .str z ∧ z.length ≤ sizeLine ∧ Q (.str (cutS z lo hi)) H)
def dCut : D → Option Int → Option Int → Option D
  | .lst ds, lo, hi => some (.lst (cutG ds lo hi))
  | .tup ds, lo, hi => if HT.sIx ds.length 0 lo = 0 ∧ HT.sIx ds.length ds.length hi = ds.length then none else some (.tup (cutG ds lo hi))
  | .str z, lo, hi => if z.length ≤ lim then some (.str (cutS z lo hi)) else none
  | _, _, _ => none
def dCutN : D → Option Int → Option Int → Option D
  | .lst ds, lo, hi => some (.lst (cutG ds lo hi))
  | _, _, _ => none
theorem d_cut {G : Gc} : SlD G (rSlD G.K) dCut := by
  intro Av H dx x lo hi Q fr rx q
  unfold dCut at q
  split at q
  · obtain ⟨a, vs, rfl, hh, r⟩ := rep_lst rx
    exact .inl ⟨a, vs, rfl, SqL.of hh, fun p hp => newL fr hp (r.cut _ _) q⟩
  · split at q
    · exact q.elim
    · rename_i hw
      obtain ⟨a, vs, rfl, _, hh, r⟩ := rep_tup rx
      refine .inr (.inl ⟨a, vs, rfl, SqT.of hh, by rw [repL_length r]; exact hw, fun p hp => newT fr hp (r.cut _ _) q⟩)
  · split at q
    · rename_i hz
      rw [rep_str rx]
      exact .inr (.inr ⟨_, rfl, lim_ok hz, outV.now (G := G) (Av := Av) q mk_str⟩)
    · exact q.elim
  · exact q.elim
theorem d_cutN {G : Gc} : SlN G (rSlD G.K) dCutN := by
  intro Av H dx x lo hi Q fr rx q
  unfold dCutN at q
  split at q
  · obtain ⟨a, vs, rfl, hh, r⟩ := rep_lst rx
    exact .inl ⟨a, vs, rfl, SqL.of hh, fun p hp => newLN hp (r.cut _ _) q⟩
  · exact q.elim

/-! ### truth -/
def truD : D → Option Bool
  | .non => some false
  | .bl b => some b
  | .int i => some (i != 0)
  | .str y => if y.length ≤ lim then some ((y.length : Int) != 0) else none
  | .lst ds => some (!ds.isEmpty)
  | .tup ds => some (!ds.isEmpty)
  | _ => none
theorem empty_eq {α β : Type} {xs : List α} {ys : List β} (h : ys.length = xs.length) : (!xs.isEmpty) = !ys.isEmpty := by
  cases xs <;> cases ys <;> first | rfl | (simp at h)
theorem truV_of {G : Gc} {Av : Addr → Prop} {H : Hp} {d : D} {v : V} {b : Bool} (r : Rep1 G Av H d v) (e : truD d = some b) : TruV G.K v H b := by
  cases d <;> simp only [truD] at e <;> first
    | (cases e; done)
    | skip
  · cases e; rw [rep_non r]; rfl
  · cases e; rw [rep_bl r]; rfl
  · cases e; rw [rep_int r]; rfl
  · split at e
    · rename_i hz
      cases e; rw [rep_str r]; exact ⟨lim_ok hz, rfl⟩
    · cases e
  · cases e
    obtain ⟨a, vs, rfl, hh, rl⟩ := rep_lst r
    refine .inl ⟨vs, SqL.of hh, ?_⟩
    exact empty_eq (repL_length rl)
  · cases e
    obtain ⟨a, vs, rfl, _, hh, rl⟩ := rep_tup r
    refine .inr (.inl ⟨vs, SqT.of hh, ?_⟩)
    exact empty_eq (repL_length rl)
def mTru (f : M AK) : M Bool := mBind f fun a => mBind (mGet a) fun d => mOpt (truD d)
def asBl : D → Option Bool
  | .bl b => some b
  | _ => none
def mBl (f : M D) : M Bool := mBind f fun d => mOpt (asBl d)
def mAnd (f g : M Bool) : M Bool := mBind f fun b => if b = true then g else mPure false
def mOr (f g : M Bool) : M Bool := mBind f fun b => if b = true then mPure true else g
def mNot (f : M Bool) : M Bool := mBind f fun b => mPure (!b)
def mIte {α : Type} (t : M Bool) (f g : M α) : M α := mBind t fun b => if b = true then f else g
section
variable {X : Cx} {c : Ct} {W : WX} {a b : Expr} {fa : M AK} {rest : List Expr} {f g : M Bool} {pos : Pos}
theorem dt_tru (hK : c.K = X.K) (ha : DO X c W a fa) (he : ∀ whole, isTrue a X.env whole = (do let v ← whole; standAt a.pos; holding [v] (truthy v)) := by intro _; rfl) : DT X c W a (mTru fa) := by
  obtain ⟨t, p, s⟩ := ha.out
  refine ⟨_, pt_truth p he, fun x σ H Δ Q sr q => s x σ H Δ _ sr (q.bind fun a Δ1 q1 v x1 H1 k1 sr1 h1 => ?_)⟩
  obtain ⟨d, r, q2⟩ := Post.get sr1 h1 (q1.step k1 fun a Δ q => okT.step k1 q)
  cases e : truD d with
  | none => rw [e] at q2; exact q2.elim
  | some k =>
    rw [e] at q2
    exact ⟨k, by rw [← hK]; exact truV_of r e, q2 x1 H1 (Kp.refl _ _) sr1⟩
theorem asBl_some {d : D} {k : Bool} (h : asBl d = some k) : d = .bl k := by
  cases d <;> first | (cases h; rfl) | cases h
/-- a comparison, a call .. whose value is a bool, as a test -/
theorem bl_end {x : Sx} {σ : St} {H : Hp} {Q : Bool → Hp → Prop} {d : D} {Δ : SD} (q : Post c W x σ H (okT c x σ H Q) (mOpt (asBl d) Δ)) : okV c x σ H (fun v H' => ∃ k, v = .bl k ∧ Q k H') d Δ := by
  intro v x' H' k' s' r
  cases e : asBl d with
  | none => rw [e] at q; exact q.elim
  | some k =>
    rw [e] at q
    have e' := asBl_some e
    subst e'
    exact ⟨k, rep_bl (.inl r), q x' H' k' s'⟩
theorem dt_val {fd : M D} (h : DE X c W a fd) (he : ∀ whole, isTrue a X.env whole = (do let v ← whole; standAt a.pos; holding [v] (truthy v)) := by intro _; rfl) : DT X c W a (mBl fd) := by
  obtain ⟨t, p, s⟩ := h.out
  exact ⟨_, pt_val p he, fun x σ H Δ Q sr q => s x σ H Δ _ sr (q.bind fun d Δ1 q1 => bl_end q1)⟩
theorem dt_cmp {op : CmpOp} {r : R2} {gd : D → D → Option D} {ga gb : M AK} (ho : OpR X (compareOp op) r) (h : OpD c.toGc r gd) (ha : DO X c W a ga) (hb : DO X c W b gb) (hm : behindInMarks op b = false) : DT X c W (.Compare a [op] [b] pos) (mBl (mOp gd ga gb)) := by
  obtain ⟨ta, pa, sa⟩ := ha.out
  obtain ⟨tb, pb, sb⟩ := hb.out
  refine ⟨_, pt_cmpR ho pa pb hm, fun x σ H Δ Q sr q => ?_⟩
  have s := sound_op (W := W) sa sb h
  exact s x σ H Δ _ sr (q.bind fun d Δ1 q1 => bl_end q1)
theorem dw_and1 (h : DT X c W a f) : DW X c W (.BoolOp .And [a] pos) f := by
  obtain ⟨t, p, s⟩ := h.out
  exact ⟨_, pw_and1 p, s⟩
theorem dw_or1 (h : DT X c W a f) : DW X c W (.BoolOp .Or [a] pos) f := by
  obtain ⟨t, p, s⟩ := h.out
  exact ⟨_, pw_or1 p, s⟩
theorem dw_and (ha : DT X c W a f) (hb : DW X c W (.BoolOp .And (b :: rest) pos) g) : DW X c W (.BoolOp .And (a :: b :: rest) pos) (mAnd f g) := by
  obtain ⟨t, p, s⟩ := ha.out
  obtain ⟨u, p', s'⟩ := hb.out
  refine ⟨_, pw_and p p', fun x σ H Δ Q sr q => s x σ H Δ _ sr (q.bind fun k Δ1 q1 x1 H1 k1 sr1 => ?_)⟩
  cases k with
  | true => exact s' x1 σ H1 Δ1 Q sr1 (q1.step k1 fun a Δ q => okT.step k1 q)
  | false => exact q1 x1 H1 k1 sr1
theorem dw_or (ha : DT X c W a f) (hb : DW X c W (.BoolOp .Or (b :: rest) pos) g) : DW X c W (.BoolOp .Or (a :: b :: rest) pos) (mOr f g) := by
  obtain ⟨t, p, s⟩ := ha.out
  obtain ⟨u, p', s'⟩ := hb.out
  refine ⟨_, pw_or p p', fun x σ H Δ Q sr q => s x σ H Δ _ sr (q.bind fun k Δ1 q1 x1 H1 k1 sr1 => ?_)⟩
  cases k with
  | false => exact s' x1 σ H1 Δ1 Q sr1 (q1.step k1 fun a Δ q => okT.step k1 q)
  | true => exact q1 x1 H1 k1 sr1
theorem DW.t (h : DW X c W a f) : DT X c W a f := by
  obtain ⟨t, p, s⟩ := h.out
  exact ⟨_, p.pt, s⟩
theorem dt_not (h : DT X c W a f) : DT X c W (.UnaryOp .Not a pos) (mNot f) := by
  obtain ⟨t, p, s⟩ := h.out
  exact ⟨_, pt_not p, fun x σ H Δ Q sr q => s x σ H Δ _ sr (q.bind fun k Δ1 q1 x1 H1 k1 sr1 => q1 x1 H1 k1 sr1)⟩
theorem de_ite {e : Expr} {fa fb : M D} (ht : DT X c W e f) (ha : DE X c W a fa) (hb : DE X c W b fb) : DE X c W (.IfExp e a b pos) (mIte f fa fb) := by
  obtain ⟨t, p, s⟩ := ht.out
  obtain ⟨ta, pa, sa⟩ := ha.out
  obtain ⟨tb, pb, sb⟩ := hb.out
  refine ⟨_, pe_ifExp p pa pb, fun x σ H Δ Q sr q => s x σ H Δ _ sr (q.bind fun k Δ1 q1 x1 H1 k1 sr1 => ?_)⟩
  cases k with
  | true => exact sa x1 σ H1 Δ1 Q sr1 (q1.step k1 fun a Δ q => okV.step k1 q)
  | false => exact sb x1 σ H1 Δ1 Q sr1 (q1.step k1 fun a Δ q => okV.step k1 q)
theorem df_ite {e : Expr} {fa fb : M D} (ht : DT X c W e f) (ha : DF X c W a fa) (hb : DF X c W b fb) : DF X c W (.IfExp e a b pos) (mIte f fa fb) := by
  obtain ⟨t, p, s⟩ := ht.out
  obtain ⟨ta, pa, sa⟩ := ha.out
  obtain ⟨tb, pb, sb⟩ := hb.out
  refine ⟨_, pe_ifExp p pa pb, fun x σ H Δ Q sr q => s x σ H Δ _ sr (q.bind fun k Δ1 q1 x1 H1 k1 sr1 => ?_)⟩
  cases k with
  | true => exact sa x1 σ H1 Δ1 Q sr1 (q1.step k1 fun a Δ q => okF.step k1 q)
  | false => exact sb x1 σ H1 Δ1 Q sr1 (q1.step k1 fun a Δ q => okF.step k1 q)

/-! ### and, or, not as values (by truth) -/
def mAndV (f g : M D) : M D := mBind f fun d => mBind (mOpt (truD d)) fun b => if b = true then g else mPure d
def mOrV (f g : M D) : M D := mBind f fun d => mBind (mOpt (truD d)) fun b => if b = true then mPure d else g
def mNotV (f : M AK) : M D := mBind (mTru f) fun b => mPure (.bl (!b))
theorem de_one {op} {fa : M D} (h : DE X c W a fa) : DE X c W (.BoolOp op [a] pos) fa := by
  obtain ⟨t, p, s⟩ := h.out
  exact ⟨_, pe_one p, s⟩
theorem Post.tru {x : Sx} {σ : St} {H : Hp} {Q : VK} {d : D} {v : V} {Δ : SD} {kk : Bool → M D} (hK : c.K = X.K) (r : Rep1 c.toGc x.Av H d v) (q : Post c W x σ H (okV c x σ H Q) (mBind (mOpt (truD d)) kk Δ)) :
    ∃ k, TruV X.K v H k ∧ Post c W x σ H (okV c x σ H Q) (kk k Δ) := by
  cases e : truD d with
  | none => rw [e] at q; exact q.elim
  | some k =>
    rw [e] at q
    exact ⟨k, by rw [← hK]; exact truV_of r e, q⟩
theorem de_and {fa fb : M D} (hK : c.K = X.K) (ha : DE X c W a fa) (hb : DE X c W (.BoolOp .And (b :: rest) pos) fb) : DE X c W (.BoolOp .And (a :: b :: rest) pos) (mAndV fa fb) := by
  obtain ⟨t, p, s⟩ := ha.out
  obtain ⟨u, p', s'⟩ := hb.out
  refine ⟨_, pe_andT p p', fun x σ H Δ Q sr q => s x σ H Δ _ sr (q.bind fun d Δ1 q1 v x1 H1 k1 sr1 r => ?_)⟩
  obtain ⟨k, tv, q2⟩ := Post.tru hK (.inl r) (q1.step k1 fun a Δ q => okV.step k1 q)
  refine ⟨k, tv, ?_⟩
  cases k with
  | true => exact s' x1 σ H1 Δ1 Q sr1 q2
  | false => exact q2 v x1 H1 (Kp.refl _ _) sr1 r
theorem de_or {fa fb : M D} (hK : c.K = X.K) (ha : DE X c W a fa) (hb : DE X c W (.BoolOp .Or (b :: rest) pos) fb) : DE X c W (.BoolOp .Or (a :: b :: rest) pos) (mOrV fa fb) := by
  obtain ⟨t, p, s⟩ := ha.out
  obtain ⟨u, p', s'⟩ := hb.out
  refine ⟨_, pe_orT p p', fun x σ H Δ Q sr q => s x σ H Δ _ sr (q.bind fun d Δ1 q1 v x1 H1 k1 sr1 r => ?_)⟩
  obtain ⟨k, tv, q2⟩ := Post.tru hK (.inl r) (q1.step k1 fun a Δ q => okV.step k1 q)
  refine ⟨k, tv, ?_⟩
  cases k with
  | false => exact s' x1 σ H1 Δ1 Q sr1 q2
  | true => exact q2 v x1 H1 (Kp.refl _ _) sr1 r
theorem de_not (hK : c.K = X.K) (ha : DO X c W a fa) : DE X c W (.UnaryOp .Not a pos) (mNotV fa) := by
  obtain ⟨t, p, s⟩ := ha.out
  refine ⟨_, pe_notT p, fun x σ H Δ Q sr q => ?_⟩
  refine s x σ H Δ _ sr ((q.bind (ok := okT c x σ H fun k H' => Q (.bl (!k)) H') fun k Δ1 q1 x1 H1 k1 sr1 => q1 _ x1 H1 k1 sr1 mk_bl).bind fun a Δ1 q1 v x1 H1 k1 sr1 h1 => ?_)
  obtain ⟨d, r, q2⟩ := Post.get sr1 h1 (q1.step k1 fun a Δ q => okT.step k1 q)
  cases e : truD d with
  | none => rw [e] at q2; exact q2.elim
  | some k =>
    rw [e] at q2
    exact ⟨k, by rw [← hK]; exact truV_of r e, q2 x1 H1 (Kp.refl _ _) sr1⟩

/-! ### chains -/
def mChain (g g' : D → D → Option D) (fa fb fc : M AK) : M D := mBind fa fun a => mBind fb fun b => mBind (mGet a) fun x => mBind (mGet b) fun y => mBind (mOpt (g x y)) fun d => mBind (mOpt (asBl d)) fun k =>
  if k = true then mBind fc fun w => mBind (mGet b) fun y => mBind (mGet w) fun z => mOpt (g' y z) else mPure (.bl false)
theorem sound_chain {ta tb tc : TE} {ga gb gc : M AK} {r r' : R2} {g g' : D → D → Option D} (sa : SoundO c W ta ga) (sb : SoundO c W tb gb) (sc : SoundO c W tc gc) (h : OpD c.toGc r g) (h' : OpD c.toGc r' g') : SoundE c W (tChain r r' ta tb tc) (mChain g g' ga gb gc) := by
  refine fun x σ H Δ Q sr q => sa x σ H Δ _ sr (q.bind fun a Δ1 q1 v x1 H1 k1 sr1 h1 => ?_)
  refine sb x1 σ H1 Δ1 _ sr1 ((q1.step k1 fun a Δ q => okV.step k1 q).bind fun b Δ2 q2 u x2 H2 k2 sr2 h2 => ?_)
  obtain ⟨dx, r1, q4⟩ := Post.get sr2 (h1.kp sr1 k2) (q2.step k2 fun a Δ q => okV.step k2 q)
  obtain ⟨dy, r2, q5⟩ := Post.get sr2 h2 q4
  refine h x2.Av H2 dx dy v u _ sr2.fr r1 r2 ?_
  cases e : g dx dy with
  | none => rw [e] at q5; exact q5.elim
  | some d =>
    rw [e] at q5
    intro z H3 ex rz
    cases e2 : asBl d with
    | none =>
      have q6 : Post c W x2 σ H2 (okV c x2 σ H2 Q) (mBind (mOpt (asBl d)) _ Δ2) := q5
      rw [e2] at q6; exact q6.elim
    | some k =>
      have q6 : Post c W x2 σ H2 (okV c x2 σ H2 Q) (mBind (mOpt (asBl d)) _ Δ2) := q5
      rw [e2] at q6
      have ed := asBl_some e2
      subst ed
      refine ⟨k, rep_bl (.inl rz), ?_⟩
      have k3 : Kp x2 H2 x2 H3 := Kp.ex ex x2
      have sr3 := sr2.ex ex
      cases k with
      | false => exact q6 _ x2 H3 k3 sr3 mk_bl
      | true =>
        have q6' : Post c W x2 σ H2 (okV c x2 σ H2 Q) (mBind gc (fun w => mBind (mGet b) fun y => mBind (mGet w) fun z => mOpt (g' y z)) Δ2) := q6
        refine sc x2 σ H3 Δ2 _ sr3 ((q6'.step k3 fun a Δ q => okV.step k3 q).bind fun w Δ3 q7 y x4 H4 k4 sr4 h4 => ?_)
        obtain ⟨dy', r3, q8⟩ := Post.get sr4 ((h2.kp sr2 k3).kp sr3 k4) (q7.step k4 fun a Δ q => okV.step k4 q)
        obtain ⟨dz, r4, q9⟩ := Post.get sr4 h4 q8
        exact h' x4.Av H4 dy' dz u y Q sr4.fr r3 r4 (Post.outV sr4 q9)
theorem de_chain {op op' : CmpOp} {e : Expr} {ga gb gc : M AK} {r r' : R2} {g g' : D → D → Option D} (ho : OpR X (compareOp op) r) (ho' : OpR X (compareOp op') r') (h : OpD c.toGc r g) (h' : OpD c.toGc r' g') (ha : DO X c W a ga) (hb : DO X c W b gb) (hc : DO X c W e gc)
    (hm : lastMarks [op, op'] [b, e] = false := by with_unfolding_all rfl) : DE X c W (.Compare a [op, op'] [b, e] pos) (mChain g g' ga gb gc) := by
  obtain ⟨ta, pa, sa⟩ := ha.out
  obtain ⟨tb, pb, sb⟩ := hb.out
  obtain ⟨tc, pc, sc⟩ := hc.out
  exact ⟨_, pe_chain ho ho' pa pb pc hm, sound_chain sa sb sc h h'⟩
theorem dt_chain {op op' : CmpOp} {e : Expr} {ga gb gc : M AK} {r r' : R2} {g g' : D → D → Option D} (ho : OpR X (compareOp op) r) (ho' : OpR X (compareOp op') r') (h : OpD c.toGc r g) (h' : OpD c.toGc r' g') (ha : DO X c W a ga) (hb : DO X c W b gb) (hc : DO X c W e gc)
    (hm : lastMarks [op, op'] [b, e] = false := by with_unfolding_all rfl) : DT X c W (.Compare a [op, op'] [b, e] pos) (mBl (mChain g g' ga gb gc)) := by
  obtain ⟨ta, pa, sa⟩ := ha.out
  obtain ⟨tb, pb, sb⟩ := hb.out
  obtain ⟨tc, pc, sc⟩ := hc.out
  refine ⟨_, pt_chain ho ho' pa pb pc hm, fun x σ H Δ Q sr q => ?_⟩
  have s := sound_chain (W := W) sa sb sc h h'
  exact s x σ H Δ _ sr (q.bind fun d Δ1 q1 => bl_end q1)
end
end DL

namespace DL
open PySem L2
section
variable {G : Gc} {Av : Addr → Prop} {H : Hp}
theorem rl_one {d : D} {vs : List V} (h : Rep1L G Av H [d] vs) : ∃ v, vs = [v] ∧ Rep1 G Av H d v := by
  obtain ⟨v, r, e, h1, h2⟩ := h
  exact ⟨v, by rw [e, show r = [] from h2], h1⟩
theorem rl_two {d e : D} {vs : List V} (h : Rep1L G Av H [d, e] vs) : ∃ v u, vs = [v, u] ∧ Rep1 G Av H d v ∧ Rep1 G Av H e u := by
  obtain ⟨v, r, e, h1, h2⟩ := h
  obtain ⟨u, rfl, h3⟩ := rl_one h2
  exact ⟨v, u, e, h1, h3⟩
end
section
variable {G : Gc}
/-! ### len -/
def dLen : List D → Option D
  | [.lst ds] => some (.int ds.length)
  | [.tup ds] => some (.int ds.length)
  | [.scr ns] => some (.int ns.length)
  | [.str z] => if z.length ≤ lim then some (.int z.length) else none
  | _ => none
def rLenD (K : PySem.W.Frag) : List V → Hp → VK → Prop := fun xs H Q => (∃ x n, xs = [x] ∧ LenV K x H n ∧ Q (.int n) H) ∨ ∃ a kvs, xs = [V.ref a] ∧ H a = some (.dK kvs) ∧ Q (.int kvs.length) H
theorem call_lenX {X : Cx} : CallR X (.builtin "len") (rLenD X.K) := call_len.or call_lenD
theorem repK_length {Av : Addr → Prop} {H : Hp} : ∀ {kvs : List (Key × D)} {us : List (Key × V)}, RepK G Av H kvs us → us.length = kvs.length
  | [], us, h => by unfold RepK at h; rw [h]; rfl
  | (k, d) :: ds, us, h => by
    unfold RepK at h
    obtain ⟨v, r, e, _, h2⟩ := h
    rw [e, List.length_cons, List.length_cons, repK_length h2]
/-- a dict that is not locked -/
def Unlocked (H : Hp) : Prop := ∀ a o u, H a ≠ some (.frz o u)
theorem d_len : CaD G (fun xs H Q => ∃ x n, xs = [x] ∧ LenV G.K x H n ∧ Q (.int n) H) dLen := by
  intro Av H ds vs Q fr r q
  unfold dLen at q
  split at q
  · obtain ⟨v, rfl, r1⟩ := rl_one r
    obtain ⟨a, vs, rfl, hh, rl⟩ := rep_lst r1
    exact ⟨_, _, rfl, .inl ⟨vs, SqL.of hh, rfl⟩, by rw [repL_length rl]; exact outV.now (G := G) (Av := Av) q mk_int⟩
  · obtain ⟨v, rfl, r1⟩ := rl_one r
    obtain ⟨a, vs, rfl, _, hh, rl⟩ := rep_tup r1
    exact ⟨_, _, rfl, .inr ⟨vs, SqT.of hh, rfl⟩, by rw [repL_length rl]; exact outV.now (G := G) (Av := Av) q mk_int⟩
  · obtain ⟨v, rfl, r1⟩ := rl_one r
    obtain ⟨a, rfl, hh⟩ := rep_scr r1
    exact ⟨_, _, rfl, .inl ⟨_, hh, rfl⟩, by rw [List.length_map]; exact outV.now (G := G) (Av := Av) q mk_int⟩
  · split at q
    · rename_i hz
      obtain ⟨v, rfl, r1⟩ := rl_one r
      rw [rep_str r1]
      exact ⟨_, _, rfl, ⟨lim_ok hz, rfl⟩, outV.now (G := G) (Av := Av) q mk_int⟩
    · exact q.elim
  · exact q.elim

/-! ### list, tuple -/
def dListN : List D → Option D
  | [.lst ds] => some (.lst ds)
  | [.tup ds] => some (.lst ds)
  | _ => none
def rListD (K : PySem.W.Frag) : List V → Hp → VK → Prop := fun xs H Q => ∃ p ys, xs = [.ref p] ∧ (SqL K H p ys ∨ SqT K H p ys) ∧ ∀ l, H l = none → Q (.ref l) (upd H l (.lst ys))
theorem d_listN : CaN G (rListD G.K) dListN := by
  intro Av H ds vs Q fr r q
  unfold dListN at q
  split at q
  · obtain ⟨v, rfl, r1⟩ := rl_one r
    obtain ⟨a, vs, rfl, hh, rl⟩ := rep_lst r1
    exact ⟨a, vs, rfl, .inl (SqL.of hh), fun p hp => newLN hp rl q⟩
  · obtain ⟨v, rfl, r1⟩ := rl_one r
    obtain ⟨a, vs, rfl, _, hh, rl⟩ := rep_tup r1
    exact ⟨a, vs, rfl, .inr (SqT.of hh), fun p hp => newLN hp rl q⟩
  · exact q.elim
def dTuple : List D → Option D
  | [.lst ds] => some (.tup ds)
  | [.tup ds] => some (.tup ds)
  | _ => none
def rTupleD (K : PySem.W.Frag) : List V → Hp → VK → Prop := fun xs H Q => ∃ p ys, xs = [.ref p] ∧ ((SqL K H p ys ∧ ∀ l, H l = none → Q (.ref l) (upd H l (.tup ys))) ∨ (SqT K H p ys ∧ Q (.ref p) H))
theorem d_tuple : CaD G (rTupleD G.K) dTuple := by
  intro Av H ds vs Q fr r q
  unfold dTuple at q
  split at q
  · obtain ⟨v, rfl, r1⟩ := rl_one r
    obtain ⟨a, vs, rfl, hh, rl⟩ := rep_lst r1
    exact ⟨a, vs, rfl, .inl ⟨SqL.of hh, fun p hp => newT fr hp rl q⟩⟩
  · obtain ⟨v, rfl, r1⟩ := rl_one r
    rcases r1 with r1 | ⟨_, _, r1⟩
    · obtain ⟨a, vs, rfl, _, hh, rl⟩ := rep_tup (.inl r1)
      exact ⟨a, vs, rfl, .inr ⟨SqT.of hh, q.now r1⟩⟩
    · exact r1.elim
  · exact q.elim

/-! ### numbers -/
def dAbs : List D → Option D
  | [.int i] => some (.int (if i < 0 then -i else i))
  | _ => none
theorem d_abs : CaD G (fun xs H Q => ∃ i, xs = [.int i] ∧ Q (.int (if i < 0 then -i else i)) H) dAbs := by
  intro Av H ds vs Q fr r q
  unfold dAbs at q
  split at q
  · obtain ⟨v, rfl, r1⟩ := rl_one r
    rw [rep_int r1]
    exact ⟨_, rfl, outV.now (G := G) (Av := Av) q mk_int⟩
  · exact q.elim
def dInt : List D → Option D
  | [.int i] => some (.int i)
  | [.bl b] => some (.int (if b then 1 else 0))
  | _ => none
theorem d_int : CaD G (fun xs H Q => (∃ i, xs = [.int i] ∧ Q (.int i) H) ∨ ∃ k, xs = [.bl k] ∧ Q (.int (if k then 1 else 0)) H) dInt := by
  intro Av H ds vs Q fr r q
  unfold dInt at q
  split at q
  · obtain ⟨v, rfl, r1⟩ := rl_one r
    rw [rep_int r1]
    exact .inl ⟨_, rfl, outV.now (G := G) (Av := Av) q mk_int⟩
  · obtain ⟨v, rfl, r1⟩ := rl_one r
    rw [rep_bl r1]
    exact .inr ⟨_, rfl, outV.now (G := G) (Av := Av) q mk_int⟩
  · exact q.elim
/-- the greatest, the least of some ints -/
def maxI : List Int → Option Int
  | [] => none
  | n :: ns => some (ns.foldl max n)
def minI : List Int → Option Int
  | [] => none
  | n :: ns => some (ns.foldl min n)
theorem foldl_max_le : ∀ (ns : List Int) (n : Int), n ≤ ns.foldl max n ∧ ∀ y ∈ ns, y ≤ ns.foldl max n
  | [], n => ⟨Int.le_refl _, fun _ h => nomatch h⟩
  | m :: ns, n => by
    obtain ⟨h1, h2⟩ := foldl_max_le ns (max n m)
    rw [List.foldl_cons]
    refine ⟨by omega, fun y hy => ?_⟩
    rcases List.mem_cons.mp hy with rfl | hy
    · omega
    · exact h2 y hy
theorem foldl_max_mem : ∀ (ns : List Int) (n : Int), ns.foldl max n = n ∨ ns.foldl max n ∈ ns
  | [], n => .inl rfl
  | m :: ns, n => by
    rw [List.foldl_cons]
    rcases foldl_max_mem ns (max n m) with h | h
    · rw [h]
      by_cases e : n ≤ m
      · exact .inr (by rw [Int.max_eq_right e]; exact List.mem_cons_self ..)
      · exact .inl (Int.max_eq_left (by omega))
    · exact .inr (List.mem_cons_of_mem _ h)
theorem foldl_min_le : ∀ (ns : List Int) (n : Int), ns.foldl min n ≤ n ∧ ∀ y ∈ ns, ns.foldl min n ≤ y
  | [], n => ⟨Int.le_refl _, fun _ h => nomatch h⟩
  | m :: ns, n => by
    obtain ⟨h1, h2⟩ := foldl_min_le ns (min n m)
    rw [List.foldl_cons]
    refine ⟨by omega, fun y hy => ?_⟩
    rcases List.mem_cons.mp hy with rfl | hy
    · omega
    · exact h2 y hy
theorem foldl_min_mem : ∀ (ns : List Int) (n : Int), ns.foldl min n = n ∨ ns.foldl min n ∈ ns
  | [], n => .inl rfl
  | m :: ns, n => by
    rw [List.foldl_cons]
    rcases foldl_min_mem ns (min n m) with h | h
    · rw [h]
      by_cases e : n ≤ m
      · exact .inl (Int.min_eq_left e)
      · exact .inr (by rw [Int.min_eq_right (by omega)]; exact List.mem_cons_self ..)
    · exact .inr (List.mem_cons_of_mem _ h)
theorem maxI_is {ns : List Int} {m : Int} (h : maxI ns = some m) : m ∈ ns ∧ ∀ y ∈ ns, y ≤ m := by
  cases ns with
  | nil => cases h
  | cons n ns =>
    cases h
    obtain ⟨h1, h2⟩ := foldl_max_le ns n
    refine ⟨?_, fun y hy => ?_⟩
    · rcases foldl_max_mem ns n with e | e
      · rw [e]; exact List.mem_cons_self ..
      · exact List.mem_cons_of_mem _ e
    · rcases List.mem_cons.mp hy with rfl | hy
      · exact h1
      · exact h2 y hy
theorem minI_is {ns : List Int} {m : Int} (h : minI ns = some m) : m ∈ ns ∧ ∀ y ∈ ns, m ≤ y := by
  cases ns with
  | nil => cases h
  | cons n ns =>
    cases h
    obtain ⟨h1, h2⟩ := foldl_min_le ns n
    refine ⟨?_, fun y hy => ?_⟩
    · rcases foldl_min_mem ns n with e | e
      · rw [e]; exact List.mem_cons_self ..
      · exact List.mem_cons_of_mem _ e
    · rcases List.mem_cons.mp hy with rfl | hy
      · exact h1
      · exact h2 y hy
def dMax : List D → Option D
  | [.int i, .int j] => some (.int (if j > i then j else i))
  | [.lst ds] => ((dInts ds).bind maxI).map D.int
  | _ => none
def dMin : List D → Option D
  | [.int i, .int j] => some (.int (if j < i then j else i))
  | [.lst ds] => ((dInts ds).bind minI).map D.int
  | _ => none
def rMaxD (K : PySem.W.Frag) : List V → Hp → VK → Prop := fun xs H Q => (∃ i j, xs = [.int i, .int j] ∧ Q (.int (if j > i then j else i)) H) ∨ rMax K xs H Q
def rMinD (K : PySem.W.Frag) : List V → Hp → VK → Prop := fun xs H Q => (∃ i j, xs = [.int i, .int j] ∧ Q (.int (if j < i then j else i)) H) ∨ rMin K xs H Q
theorem call_maxX {X : Cx} (hc : X.calm = true) : CallR X (.builtin "max") (rMaxD X.K) := (call_max2 hc).or (cr_max hc)
theorem call_minX {X : Cx} (hc : X.calm = true) : CallR X (.builtin "min") (rMinD X.K) := (call_min2 hc).or (cr_min hc)
theorem d_max : CaD G (rMaxD G.K) dMax := by
  intro Av H ds vs Q fr r q
  unfold dMax at q
  split at q
  · obtain ⟨v, u, rfl, r1, r2⟩ := rl_two r
    rw [rep_int r1, rep_int r2]
    exact .inl ⟨_, _, rfl, outV.now (G := G) (Av := Av) q mk_int⟩
  · obtain ⟨v, rfl, r1⟩ := rl_one r
    obtain ⟨a, vs, rfl, hh, rl⟩ := rep_lst r1
    cases e : dInts _ with
    | none => rw [e] at q; exact q.elim
    | some ns =>
      rw [e, Option.bind_some] at q
      cases e2 : maxI ns with
      | none => rw [e2] at q; exact q.elim
      | some m =>
        rw [e2] at q
        rw [repL_ints e rl] at hh
        obtain ⟨h1, h2⟩ := maxI_is e2
        refine .inr ⟨a, ns, rfl, SqL.of hh, List.length_pos_of_mem h1, fun k hk hle => ?_⟩
        have ek : k = m := Int.le_antisymm (h2 k hk) (hle m h1)
        rw [ek]
        exact outV.now (G := G) (Av := Av) q mk_int
  · exact q.elim
theorem d_min : CaD G (rMinD G.K) dMin := by
  intro Av H ds vs Q fr r q
  unfold dMin at q
  split at q
  · obtain ⟨v, u, rfl, r1, r2⟩ := rl_two r
    rw [rep_int r1, rep_int r2]
    exact .inl ⟨_, _, rfl, outV.now (G := G) (Av := Av) q mk_int⟩
  · obtain ⟨v, rfl, r1⟩ := rl_one r
    obtain ⟨a, vs, rfl, hh, rl⟩ := rep_lst r1
    cases e : dInts _ with
    | none => rw [e] at q; exact q.elim
    | some ns =>
      rw [e, Option.bind_some] at q
      cases e2 : minI ns with
      | none => rw [e2] at q; exact q.elim
      | some m =>
        rw [e2] at q
        rw [repL_ints e rl] at hh
        obtain ⟨h1, h2⟩ := minI_is e2
        refine .inr ⟨a, ns, rfl, SqL.of hh, List.length_pos_of_mem h1, fun k hk hle => ?_⟩
        have ek : k = m := Int.le_antisymm (hle m h1) (h2 k hk)
        rw [ek]
        exact outV.now (G := G) (Av := Av) q mk_int
  · exact q.elim
def dSum : List D → Option D
  | [.lst ds] => (dInts ds).map fun ns => .int ns.sum
  | _ => none
theorem d_sum : CaD G (rSum G.K) dSum := by
  intro Av H ds vs Q fr r q
  unfold dSum at q
  split at q
  · obtain ⟨v, rfl, r1⟩ := rl_one r
    obtain ⟨a, vs, rfl, hh, rl⟩ := rep_lst r1
    cases e : dInts _ with
    | none => rw [e] at q; exact q.elim
    | some ns =>
      rw [e] at q
      rw [repL_ints e rl] at hh
      exact ⟨a, ns, rfl, SqL.of hh, outV.now (G := G) (Av := Av) q mk_int⟩
  · exact q.elim
def dAll : List D → Option D
  | [.lst ds] => (dBls ds).map fun ns => .bl (ns.all id)
  | _ => none
def dAny : List D → Option D
  | [.lst ds] => (dBls ds).map fun ns => .bl (ns.any id)
  | _ => none
theorem d_all : CaD G (rAll G.K) dAll := by
  intro Av H ds vs Q fr r q
  unfold dAll at q
  split at q
  · obtain ⟨v, rfl, r1⟩ := rl_one r
    obtain ⟨a, vs, rfl, hh, rl⟩ := rep_lst r1
    cases e : dBls _ with
    | none => rw [e] at q; exact q.elim
    | some ns =>
      rw [e] at q
      rw [repL_bls e rl] at hh
      exact ⟨a, ns, rfl, SqL.of hh, outV.now (G := G) (Av := Av) q mk_bl⟩
  · exact q.elim
theorem d_any : CaD G (rAny G.K) dAny := by
  intro Av H ds vs Q fr r q
  unfold dAny at q
  split at q
  · obtain ⟨v, rfl, r1⟩ := rl_one r
    obtain ⟨a, vs, rfl, hh, rl⟩ := rep_lst r1
    cases e : dBls _ with
    | none => rw [e] at q; exact q.elim
    | some ns =>
      rw [e] at q
      rw [repL_bls e rl] at hh
      exact ⟨a, ns, rfl, SqL.of hh, outV.now (G := G) (Av := Av) q mk_bl⟩
  · exact q.elim

/-! ### isinstance -/
/-- the built-in type of data -/
def kindOf : D → Option String
  | .non => some "NoneType"
  | .bl _ => some "bool"
  | .int _ => some "int"
  | .str _ => some "str"
  | .lst _ => some "list"
  | .tup _ => some "tuple"
  | .dct _ => some "dict"
  | .scr _ => some "list"
  | _ => none
def isiT (k T : String) : Bool := decide (k = T) || (decide (k = "bool") && decide (T = "int"))
theorem isiT_ok : ∀ k ∈ tyNames, ∀ T ∈ tyNames, kitB k T = some (isiT k T) := by decide +kernel
/-- isinstance of a class's name: tb n m tells whether an instance of n is one of m -/
def isiOne (tb : Str → Str → Option Bool) (d : D) : D → Option Bool
  | .ty T => if T ∈ tyNames then (match kindOf d with
    | some k => some (isiT k T)
    | none => match d with
      | .obj _ _ => some false
      | _ => none) else none
  | .cls m => if (tb m m).isSome then (match kindOf d with
    | some _ => some false
    | none => match d with
      | .obj n _ => tb n m
      | _ => none) else none
  | _ => none
def dTys : List D → Option (List String)
  | [] => some []
  | .ty T :: ds => (dTys ds).map (T :: ·)
  | _ :: _ => none
def isiAny (d : D) (Ts : List String) : Option Bool := if Ts.all (fun T => decide (T ∈ tyNames)) = true then (match kindOf d with
  | some k => some (Ts.any (isiT k))
  | none => match d with
    | .obj _ _ => some false
    | _ => none) else none
def dIsi (tb : Str → Str → Option Bool) : List D → Option D
  | [d, .tup ts] => ((dTys ts).bind (isiAny d)).map D.bl
  | [d, t] => (isiOne tb d t).map D.bl
  | _ => none
/-- what the written part must say of tb -/
structure TbOk (G : Gc) (tb : Str → Str → Option Bool) : Prop where
  own : ∀ n m b C E, tb n m = some b → G.mg n = some (.ref C) → G.mg m = some (.ref E) → PySem.W.kitOne G.K (.ref C) (.ref E) = some b
  blt : ∀ m E, (tb m m).isSome = true → G.mg m = some (.ref E) → ∀ k ∈ tyNames, PySem.W.kitOne G.K (.type k) (.ref E) = some false
theorem kind_mem {d : D} {k : String} (h : kindOf d = some k) : k ∈ tyNames := by
  cases d <;> first
    | (cases h; done)
    | (cases h; decide)
theorem kind_ty {Av : Addr → Prop} {H : Hp} {d : D} {v : V} {k : String} (h : kindOf d = some k) (r : Rep1 G Av H d v) : TyX G.K H v (.type k) := by
  cases d <;> first
    | (cases h; done)
    | skip
  · cases h; rw [rep_non r]; exact .base .non
  · cases h; rw [rep_bl r]; exact .base (.bl _)
  · cases h; rw [rep_int r]; exact .base (.int _)
  · cases h; rw [rep_str r]; exact .base (.str _)
  · cases h
    obtain ⟨a, vs, rfl, hh, _⟩ := rep_lst r
    exact .base (.lst hh)
  · cases h
    obtain ⟨a, vs, rfl, _, hh, _⟩ := rep_tup r
    exact .base (.tup hh)
  · cases h
    have key : ∀ {a : Addr} {us : List (Key × V)}, Rd H a (.dK us) → TyX G.K H (.ref a) (.type "dict") := fun {a us} q => by
      rcases q with q | ⟨o, q⟩
      · exact .base (.dK q)
      · exact .fDict q
    rcases r with r | ⟨a, rfl, us, hh, _⟩
    · unfold Rep at r
      obtain ⟨a, us, rfl, _, hh, _⟩ := r
      exact key hh
    · exact key (.inl hh)
  · cases h
    obtain ⟨a, rfl, hh⟩ := rep_scr r
    rcases hh with (hh | ⟨o, hh⟩) | ⟨o, its, n, hk, hc, _⟩
    · exact .base (.lst hh)
    · exact .base (.frz hh)
    · exact .kList hk hc
theorem obj_ty {Av : Addr → Prop} {H : Hp} {n : Str} {fs : List (Str × D)} {v : V} (q : Rep1 G Av H (.obj n fs) v) : ∃ a C, v = .ref a ∧ G.mg n = some (.ref C) ∧ ObjK G.K C ∧ TyX G.K H v (.ref C) := by
  have mk : ∀ {a C dx : Addr} {us : List (Str × V)}, v = .ref a → G.mg n = some (.ref C) ∧ ObjK G.K C → H a = some (.ins C dx us) → ∃ a C, v = .ref a ∧ G.mg n = some (.ref C) ∧ ObjK G.K C ∧ TyX G.K H v (.ref C) := fun {a C dx us} e1 e2 e3 =>
    ⟨a, C, e1, e2.1, e2.2, by rw [e1]; exact .base (.ins e3 e2.2.cl e2.2.ha e2.2.hn e2.2.htk e2.2.hm)⟩
  rcases q with q | ⟨a, e1, C, dx, us, e2, e3, _⟩
  · unfold Rep at q
    obtain ⟨a, C, dx, us, e1, _, e2, e3, _⟩ := q
    exact mk e1 e2 e3
  · exact mk e1 e2 e3
theorem isi_one {Av : Addr → Prop} {H : Hp} {tb : Str → Str → Option Bool} (T : TbOk G tb) {d t : D} {v u : V} {b : Bool} (e : isiOne tb d t = some b) (r : Rep1 G Av H d v) (rt : Rep1 G Av H t u) :
    ∃ ty w, ClsV u w ∧ TyX G.K H v ty ∧ PySem.W.kitOne G.K ty w = some b := by
  unfold isiOne at e
  split at e
  · rename_i T'
    split at e
    · rename_i hT
      have eu : u = .ty T' := by
        rcases rt with rt | ⟨_, _, rt⟩
        · unfold Rep at rt; exact rt
        · exact rt.elim
      subst eu
      split at e
      · rename_i k hk
        cases e
        exact ⟨_, _, .ty _, kind_ty hk r, kit_ty (isiT_ok k (kind_mem hk) T' hT)⟩
      · split at e
        · cases e
          obtain ⟨a, C, _, _, ok, ty⟩ := obj_ty r
          exact ⟨_, _, .ty _, ty, ok.ki T' hT⟩
        · cases e
    · cases e
  · rename_i m
    split at e
    · rename_i hm
      have eu : ∃ E, G.mg m = some (.ref E) ∧ u = .ref E := by
        rcases rt with rt | ⟨_, _, rt⟩
        · unfold Rep at rt; exact rt
        · exact rt.elim
      obtain ⟨E, hE, rfl⟩ := eu
      split at e
      · rename_i k hk
        cases e
        exact ⟨_, _, .own _, kind_ty hk r, T.blt m E hm hE k (kind_mem hk)⟩
      · split at e
        · obtain ⟨a, C, _, hC, ok, ty⟩ := obj_ty r
          exact ⟨_, _, .own _, ty, T.own _ _ b C E e hC hE⟩
        · cases e
    · cases e
  · cases e
theorem tys_rep {Av : Addr → Prop} {H : Hp} : ∀ {ts : List D} {Ts : List String} {us : List V}, dTys ts = some Ts → RepL G Av H ts us → Paired ClsV us (Ts.map Value.type)
  | [], Ts, us, e, h => by unfold RepL at h; cases e; subst h; exact .nil
  | d :: ds, Ts, us, e, h => by
    unfold RepL at h
    obtain ⟨v, r, rfl, h1, h2⟩ := h
    cases d <;> first
      | (cases e; done)
      | skip
    simp only [dTys, Option.map_eq_some_iff] at e
    obtain ⟨Us, e1, rfl⟩ := e
    unfold Rep at h1
    subst h1
    exact .cons (.ty _) (tys_rep e1 h2)
theorem kit_any {t : Value} {p : String → Bool} (h : ∀ T ∈ tyNames, PySem.W.kitOne G.K t (.type T) = some (p T)) : ∀ {Ts : List String}, Ts.all (fun T => decide (T ∈ tyNames)) = true → PySem.W.kitAny G.K t (Ts.map Value.type) = some (Ts.any p)
  | [], _ => rfl
  | T :: Ts, e => by
    rw [List.all_cons, Bool.and_eq_true] at e
    rw [List.map_cons, List.any_cons]
    refine kitAny_cons (h T (of_decide_eq_true e.1)) (fun hb => ?_) (fun hb => by rw [hb]; rfl)
    rw [hb, Bool.false_or]
    exact kit_any h e.2
def rIsiD (K : PySem.W.Frag) : List V → Hp → VK → Prop := fun xs H Q => rIsi K xs H Q ∨ rIsiT K xs H Q
theorem call_isiX {X : Cx} : CallR X (.builtin "isinstance") (rIsiD X.K) := call_isi.or call_isiT
theorem d_isi {tb : Str → Str → Option Bool} (T : TbOk G tb) : CaD G (rIsiD G.K) (dIsi tb) := by
  intro Av H ds vs Q fr r q
  unfold dIsi at q
  split at q
  · rename_i d ts
    obtain ⟨v, u, rfl, r1, r2⟩ := rl_two r
    cases e : dTys ts with
    | none => rw [e] at q; exact q.elim
    | some Ts =>
      rw [e, Option.bind_some] at q
      obtain ⟨a, us, rfl, _, hh, rl⟩ := rep_tup r2
      have pr := tys_rep e rl
      unfold isiAny at q
      split at q
      · rename_i hall
        split at q
        · rename_i k hk
          exact .inr ⟨v, a, us, _, _, _, rfl, hh, pr, kind_ty hk r1, kit_any (fun T' hT' => kit_ty (isiT_ok k (kind_mem hk) T' hT')) hall, outV.now (G := G) (Av := Av) q mk_bl⟩
        · split at q
          · obtain ⟨a', C, _, _, ok, ty⟩ := obj_ty r1
            have ka := kit_any (G := G) (p := fun _ => false) ok.ki hall
            refine .inr ⟨v, a, us, _, _, _, rfl, hh, pr, ty, ka, ?_⟩
            have e2 : (Ts.any fun _ => false) = false := by simp
            rw [e2]
            exact outV.now (G := G) (Av := Av) q mk_bl
          · exact q.elim
      · exact q.elim
  · rename_i d t _
    obtain ⟨v, u, rfl, r1, r2⟩ := rl_two r
    cases e : isiOne tb d t with
    | none => rw [e] at q; exact q.elim
    | some b =>
      rw [e] at q
      obtain ⟨ty, w, c1, c2, c3⟩ := isi_one T e r1 r2
      exact .inl ⟨v, u, ty, w, b, rfl, c1, c2, c3, outV.now (G := G) (Av := Av) q mk_bl⟩
  · exact q.elim
theorem tb_none : TbOk G (fun _ _ => none) := ⟨fun _ _ _ _ _ h => (nomatch h), fun _ _ h => (nomatch h)⟩
end
end DL

namespace DL
open PySem L2

inductive Fl where
  | nx | bk | ct | rt (d : D) | rf (d : D)
def okS (c : Ct) (x : Sx) (H : Hp) (E : Ends) : Fl → SD → Prop
  | .nx, Δ' => ∀ σ' x' H', Kp x H x' H' → SR c x' σ' H' Δ' → E.nx σ' H'
  | .bk, Δ' => ∀ σ' x' H', Kp x H x' H' → SR c x' σ' H' Δ' → E.bk σ' H'
  | .ct, Δ' => ∀ σ' x' H', Kp x H x' H' → SR c x' σ' H' Δ' → E.ct σ' H'
  | .rt d, Δ' => ∀ v σ' x' H', Kp x H x' H' → SR c x' σ' H' Δ' → Rep c.toGc x'.Av H' d v → E.rt v H'
  | .rf d, Δ' => ∀ a σ' x' H', Kp x H x' H' → SR c x' σ' H' Δ' → c.H0 a = none → ¬ x'.Av a → (∀ i, x'.ρ i ≠ some a) → Own c.toGc x'.Av H' a d → E.rt (.ref a) H'
def PostS (c : Ct) (W : WX) (x : Sx) (H : Hp) (E : Ends) : Res Fl → Prop
  | .ok fl Δ' => okS c x H E fl Δ'
  | .ex n d Δ' => ∀ C dx σ' x' H', Kp x H x' H' → SR c x' σ' H' Δ' → ExR c x' H' n d C dx → W (.ref C) dx σ' H'
  | .bad => False
def SoundS (c : Ct) (W : WX) (t : TS) (f : M Fl) : Prop := ∀ x σ H Δ E, SR c x σ H Δ → PostS c W x H E (f Δ) → t E σ H
structure DS (X : Cx) (c : Ct) (W : WX) (st : Stmt) (f : M Fl) : Prop where
  out : ∃ t, PS X st t ∧ SoundS c W t f
structure DB (X : Cx) (c : Ct) (W : WX) (st : List Stmt) (f : M Fl) : Prop where
  out : ∃ t, PSs X st t ∧ SoundS c W t f

section
variable {c : Ct} {W : WX} {x x1 : Sx} {σ : St} {H H1 : Hp} {E : Ends}
theorem okS.step {fl : Fl} {Δ : SD} (k : Kp x H x1 H1) (h : okS c x H E fl Δ) : okS c x1 H1 E fl Δ := by
  cases fl with
  | nx => exact fun σ' x' H' k' => h σ' x' H' (k.trans k')
  | bk => exact fun σ' x' H' k' => h σ' x' H' (k.trans k')
  | ct => exact fun σ' x' H' k' => h σ' x' H' (k.trans k')
  | rt d => exact fun v σ' x' H' k' => h v σ' x' H' (k.trans k')
  | rf d => exact fun a σ' x' H' k' => h a σ' x' H' (k.trans k')
theorem PostS.step {r : Res Fl} (h : PostS c W x H E r) (k : Kp x H x1 H1) : PostS c W x1 H1 E r := by
  cases r with
  | ok fl Δ' => exact okS.step k h
  | ex n d Δ' => exact fun C dx σ' x' H' k' => h C dx σ' x' H' (k.trans k')
  | bad => exact h
/-- an expression ahead -/
theorem PostS.bind {α : Type} {ok : α → SD → Prop} {f : M α} {g : α → M Fl} {Δ : SD} (h : PostS c W x H E (mBind f g Δ)) (k : ∀ a Δ1, PostS c W x H E (g a Δ1) → ok a Δ1) : Post c W x σ H ok (f Δ) := by
  unfold mBind at h
  cases e : f Δ with
  | ok a Δ1 => rw [e] at h; exact k a Δ1 h
  | ex n d Δ1 => rw [e] at h; exact fun C dx x' H' => h C dx σ x' H'
  | bad => rw [e] at h; exact h
end

/-! ### blocks -/
def mNx : M Fl := mPure .nx
def mSeq (f g : M Fl) : M Fl := mBind f fun fl => match fl with
  | .nx => g
  | fl => mPure fl
def mRet (f : M D) : M Fl := mBind f fun d => mPure (.rt d)
def mRetF (f : M D) : M Fl := mBind f fun d => mPure (.rf d)
def mRetN : M Fl := mPure (.rt .non)
def mDrop {α : Type} (f : M α) : M Fl := mBind f fun _ => mPure .nx
def mSet (i : Nat) (f : M D) : M Fl := mBind f fun d Δ => if i < Δ.length then .ok .nx (Δ.set i (.sh d)) else .bad
def mSetO (i : Nat) (f : M D) : M Fl := mBind f fun d Δ => if i < Δ.length then .ok .nx (Δ.set i (.ow d)) else .bad
section
variable {X : Cx} {c : Ct} {W : WX} {st : Stmt} {rest : List Stmt} {f g : M Fl} {e : Expr} {fe : M D} {pos : Pos}
theorem sound_seq {t u : TS} (s : SoundS c W t f) (s' : SoundS c W u g) : SoundS c W (tSeq t u) (mSeq f g) := by
  refine fun x σ H Δ E sr q => s x σ H Δ _ sr ?_
  unfold mSeq mBind at q
  cases ef : f Δ with
  | bad => rw [ef] at q; exact q
  | ex n d Δ' => rw [ef] at q; exact q
  | ok fl Δ1 =>
    rw [ef] at q
    cases fl with
    | nx => exact fun σ' x' H' k sr' => s' x' σ' H' Δ1 E sr' (PostS.step q k)
    | bk => exact q
    | ct => exact q
    | rt d => exact q
    | rf d => exact q
theorem db_nil : DB X c W [] mNx := ⟨tNext, pss_nil, fun x σ H Δ E sr q => q σ x H (Kp.refl _ _) sr⟩
theorem db_one (h : DS X c W st f) : DB X c W [st] f := by
  obtain ⟨t, p, s⟩ := h.out
  exact ⟨t, pss_one p, s⟩
theorem db_cons (h : DS X c W st f) (r : DB X c W rest g) : DB X c W (st :: rest) (mSeq f g) := by
  obtain ⟨t, p, s⟩ := h.out
  obtain ⟨u, p', s'⟩ := r.out
  exact ⟨_, pss_cons p p', sound_seq s s'⟩
theorem ds_pass : DS X c W (.Pass pos) mNx := ⟨tNext, ps_pass, fun x σ H Δ E sr q => q σ x H (Kp.refl _ _) sr⟩
theorem ds_break : DS X c W (.Break pos) (mPure .bk) := ⟨tBreak, ps_break, fun x σ H Δ E sr q => q σ x H (Kp.refl _ _) sr⟩
theorem ds_continue : DS X c W (.Continue pos) (mPure .ct) := ⟨tCont, ps_continue, fun x σ H Δ E sr q => q σ x H (Kp.refl _ _) sr⟩
theorem ds_never : DS X c W st mBad := ⟨tNever, ps_never, fun x σ H Δ E sr q => q.elim⟩
theorem db_never : DB X c W rest mBad := ⟨tNever, pss_never, fun x σ H Δ E sr q => q.elim⟩
theorem ds_ret (h : DE X c W e fe) : DS X c W (.Return (some e) pos) (mRet fe) := by
  obtain ⟨t, p, s⟩ := h.out
  exact ⟨_, ps_ret p, fun x σ H Δ E sr q => s x σ H Δ _ sr (q.bind fun d Δ1 q1 v x' H' k' sr' r => q1 v σ x' H' k' sr' r)⟩
theorem ds_retF (h : DF X c W e fe) : DS X c W (.Return (some e) pos) (mRetF fe) := by
  obtain ⟨t, p, s⟩ := h.out
  exact ⟨_, ps_ret p, fun x σ H Δ E sr q => s x σ H Δ _ sr (q.bind fun d Δ1 q1 a x' H' k' sr' h0 _ nv nr o => q1 a σ x' H' k' sr' h0 nv nr o)⟩
theorem ds_retN : DS X c W (.Return none pos) mRetN := ⟨_, ps_retN, fun x σ H Δ E sr q => q .non σ x H (Kp.refl _ _) sr mk_non⟩
theorem ds_drop (h : DE X c W e fe) (hs : swapsWith e none pos.line X.env = pure false := by rfl) : DS X c W (.Expr e pos) (mDrop fe) := by
  obtain ⟨t, p, s⟩ := h.out
  exact ⟨_, ps_expr p hs, fun x σ H Δ E sr q => s x σ H Δ _ sr (q.bind fun d Δ1 q1 v x' H' k' sr' r => q1 σ x' H' k' sr')⟩
theorem ds_if {ce : Expr} {a b : List Stmt} {fc : M Bool} (hc : DT X c W ce fc) (ha : DB X c W a f) (hb : DB X c W b g) : DS X c W (.If ce a b pos) (mIte fc f g) := by
  obtain ⟨t, p, s⟩ := hc.out
  obtain ⟨ta, pa, sa⟩ := ha.out
  obtain ⟨tb, pb, sb⟩ := hb.out
  refine ⟨_, ps_if p pa pb, fun x σ H Δ E sr q => s x σ H Δ _ sr (q.bind fun k Δ1 q1 x1 H1 k1 sr1 => ?_)⟩
  cases k with
  | true => exact sa x1 σ H1 Δ1 E sr1 (PostS.step q1 k1)
  | false => exact sb x1 σ H1 Δ1 E sr1 (PostS.step q1 k1)
end

/-! ### a slot is stored -/
section
variable {c : Ct} {x : Sx} {σ : St} {H : Hp} {Δ : SD} {i : Nat}
theorem rho_ne {ρ : Nat → Option Addr} {i j : Nat} {o : Option Addr} {b : Addr} (h : (if j = i then o else ρ j) = some b) : (j = i ∧ o = some b) ∨ (j ≠ i ∧ ρ j = some b) := by
  by_cases e : j = i
  · rw [if_pos e] at h; exact .inl ⟨e, h⟩
  · rw [if_neg e] at h; exact .inr ⟨e, h⟩
theorem SR.setSh (s : SR c x σ H Δ) (hio : ∀ p ∈ c.io, p.1 ≠ i) (hi : i < Δ.length) {v : V} {d : D} (r : Rep c.toGc x.Av H d v) :
    Kp x H ⟨x.Av, fun j => if j = i then none else x.ρ j⟩ H ∧ SR c ⟨x.Av, fun j => if j = i then none else x.ρ j⟩ (σ.set i (some v)) H (Δ.set i (.sh d)) := by
  have rho : ∀ {j b}, (if j = i then none else x.ρ j) = some b → j ≠ i ∧ x.ρ j = some b := fun {j b} q => by
    rcases rho_ne q with ⟨_, h⟩ | h
    · cases h
    · exact h
  refine ⟨⟨fun p o h _ _ => h, fun p h => h, fun j p h => .inl ⟨j, (rho h).2⟩, fun p h _ => h, fun p h => .inl h⟩, ?_⟩
  exact {
    len := by rw [List.length_set, List.length_set]; exact s.len
    base := s.base
    tab := s.tab
    trk := s.trk
    fr := s.fr
    av := s.av
    a0 := s.a0
    ow := fun j b q => s.ow j b (rho q).2
    inj := fun j l b q1 q2 => s.inj _ _ _ (rho q1).2 (rho q2).2
    slot := fun j => by
      by_cases e : j = i
      · subst e
        rw [List.getElem?_set_self hi]
        exact ⟨v, List.getElem?_set_self (by rw [s.len]; exact hi), r⟩
      · rw [List.getElem?_set_ne (Ne.symm e)]
        have z := s.slot j
        revert z
        cases Δ[j]? with
        | none => intro _; trivial
        | some w =>
          cases w with
          | un => intro _; trivial
          | sh d' => exact fun ⟨v', z1, z2⟩ => ⟨v', by rw [List.getElem?_set_ne (Ne.symm e)]; exact z1, z2⟩
          | ow d' => exact fun ⟨b, z0, z1, z2⟩ => ⟨b, by show (if j = i then none else x.ρ j) = some b; rw [if_neg e]; exact z0, by rw [List.getElem?_set_ne (Ne.symm e)]; exact z1, z2⟩
    ios := fun p hp => by show (if p.1 = i then none else x.ρ p.1) = some p.2; rw [if_neg (hio p hp)]; exact s.ios p hp }
theorem SR.setOw (s : SR c x σ H Δ) (hio : ∀ p ∈ c.io, p.1 ≠ i) (hi : i < Δ.length) {a : Addr} {d : D} (h0 : c.H0 a = none) (nv : ¬ x.Av a) (nr : ∀ j, x.ρ j ≠ some a) (o : Own c.toGc x.Av H a d) :
    SR c ⟨x.Av, fun j => if j = i then some a else x.ρ j⟩ (σ.set i (some (.ref a))) H (Δ.set i (.ow d)) := by
  have ha : H a ≠ none := by
    intro z
    cases d <;> first
      | exact o.elim
      | (obtain ⟨vs, h1, h2⟩ := o; rw [z] at h1; cases h1)
      | (obtain ⟨C, dx, us, _, h1, h2⟩ := o; rw [z] at h1; cases h1)
  exact {
    len := by rw [List.length_set, List.length_set]; exact s.len
    base := s.base
    tab := s.tab
    trk := s.trk
    fr := s.fr
    av := s.av
    a0 := s.a0
    ow := fun j b q => by
      rcases rho_ne q with ⟨_, h⟩ | ⟨_, h⟩
      · cases h; exact ⟨nv, ha, .inl h0⟩
      · exact s.ow j b h
    inj := fun j l b q1 q2 => by
      rcases rho_ne q1 with ⟨e1, h1⟩ | ⟨e1, h1⟩ <;> rcases rho_ne q2 with ⟨e2, h2⟩ | ⟨e2, h2⟩
      · rw [e1, e2]
      · cases h1; exact absurd h2 (nr l)
      · cases h2; exact absurd h1 (nr j)
      · exact s.inj _ _ _ h1 h2
    slot := fun j => by
      by_cases e : j = i
      · subst e
        rw [List.getElem?_set_self hi]
        exact ⟨a, if_pos rfl, List.getElem?_set_self (by rw [s.len]; exact hi), o⟩
      · rw [List.getElem?_set_ne (Ne.symm e)]
        have z := s.slot j
        revert z
        cases Δ[j]? with
        | none => intro _; trivial
        | some w =>
          cases w with
          | un => intro _; trivial
          | sh d' => exact fun ⟨v', z1, z2⟩ => ⟨v', by rw [List.getElem?_set_ne (Ne.symm e)]; exact z1, z2⟩
          | ow d' => exact fun ⟨b, z0, z1, z2⟩ => ⟨b, by show (if j = i then some a else x.ρ j) = some b; rw [if_neg e]; exact z0, by rw [List.getElem?_set_ne (Ne.symm e)]; exact z1, z2⟩
    ios := fun p hp => by show (if p.1 = i then some a else x.ρ p.1) = some p.2; rw [if_neg (hio p hp)]; exact s.ios p hp }
theorem Kp.setOw {x0 : Sx} {H0 : Hp} {a : Addr} (k : Kp x0 H0 x H) (h : H0 a = none) (i : Nat) : Kp x0 H0 ⟨x.Av, fun j => if j = i then some a else x.ρ j⟩ H :=
  ⟨k.frame, k.trk, fun j p q => by
    rcases rho_ne q with ⟨_, e⟩ | ⟨_, e⟩
    · cases e; exact .inr h
    · exact k.own j p e, k.av, k.avb⟩
end
section
variable {X : Cx} {c : Ct} {W : WX} {e : Expr} {fe : M D} {pos pos' : Pos} {i : Nat} {n : Str}
theorem ds_set (hio : ∀ p ∈ c.io, p.1 ≠ i) (hN : X.N.Nodup) (hi : X.N[i]? = some n) (hx : Loc X.env.scope n) (he : DE X c W e fe) (hs : swapsWith e (some (.Name n pos')) pos.line X.env = pure false := by rfl) (hf : X.fn n = true ∨ X.env.scope.names.lookup n = some .local := by first | exact .inl rfl | exact .inr rfl | assumption) :
    DS X c W (.Assign [.Name n pos'] e pos) (mSet i fe) := by
  obtain ⟨t, p, s⟩ := he.out
  refine ⟨_, ps_set hN hi hx p hs hf, fun x σ H Δ E sr q => s x σ H Δ _ sr (q.bind fun d Δ1 q1 v x1 H1 k1 sr1 r => ?_)⟩
  have q2 : PostS c W x H E (if i < Δ1.length then .ok .nx (Δ1.set i (.sh d)) else .bad) := q1
  split at q2
  · rename_i hl
    obtain ⟨k2, sr2⟩ := sr1.setSh hio hl r
    exact q2 _ _ _ (k1.trans k2) sr2
  · exact q2.elim
theorem ds_setO (hio : ∀ p ∈ c.io, p.1 ≠ i) (hN : X.N.Nodup) (hi : X.N[i]? = some n) (hx : Loc X.env.scope n) (he : DF X c W e fe) (hs : swapsWith e (some (.Name n pos')) pos.line X.env = pure false := by rfl) (hf : X.fn n = true ∨ X.env.scope.names.lookup n = some .local := by first | exact .inl rfl | exact .inr rfl | assumption) :
    DS X c W (.Assign [.Name n pos'] e pos) (mSetO i fe) := by
  obtain ⟨t, p, s⟩ := he.out
  refine ⟨_, ps_set hN hi hx p hs hf, fun x σ H Δ E sr q => s x σ H Δ _ sr (q.bind fun d Δ1 q1 a x1 H1 k1 sr1 h0 h1 nv nr o => ?_)⟩
  have q2 : PostS c W x H E (if i < Δ1.length then .ok .nx (Δ1.set i (.ow d)) else .bad) := q1
  split at q2
  · rename_i hl
    exact q2 _ _ _ (k1.setOw h1 i) (sr1.setOw hio hl h0 nv nr o)
  · exact q2.elim
end

/-! ### targets -/
def mTg1 (i : Nat) (d : D) : M Unit := fun Δ => if i < Δ.length then .ok () (Δ.set i (.sh d)) else .bad
def mTgs : List (D → M Unit) → List D → M Unit
  | [], [] => mPure ()
  | t :: ts, d :: ds => mBind (t d) fun _ => mTgs ts ds
  | _, _ => mBad
def mTgT (ts : List (D → M Unit)) : D → M Unit
  | .tup ds => mTgs ts ds
  | .lst ds => mTgs ts ds
  | _ => mBad
/-- slots outside of js as they were -/
def Off (js : List Nat) (σ σ' : St) : Prop := σ'.length = σ.length ∧ ∀ i, i ∉ js → σ'[i]? = σ[i]?
theorem Off.refl {js : List Nat} {σ : St} : Off js σ σ := ⟨rfl, fun _ _ => rfl⟩
theorem Off.trans {js ks : List Nat} {σ σ1 σ2 : St} (a : Off js σ σ1) (b : Off ks σ1 σ2) : Off (js ++ ks) σ σ2 := ⟨b.1.trans a.1, fun i h => by
  rw [b.2 i fun q => h (List.mem_append_right _ q), a.2 i fun q => h (List.mem_append_left _ q)]⟩
def okG (c : Ct) (x : Sx) (js : List Nat) (σ : St) (H : Hp) (Q : St → Hp → Prop) : Res Unit → Prop
  | .ok _ Δ' => ∀ σ' x', Kp x H x' H → SR c x' σ' H Δ' → Off js σ σ' → Q σ' H
  | _ => False
def SoundG (c : Ct) (t : TG) (js : List Nat) (f : D → M Unit) : Prop := ∀ x σ H Δ v d Q, SR c x σ H Δ → Rep c.toGc x.Av H d v → okG c x js σ H Q (f d Δ) → t v σ H Q
def SoundGs (c : Ct) (t : TGs) (js : List Nat) (f : List D → M Unit) : Prop := ∀ x σ H Δ vs ds Q, SR c x σ H Δ → RepL c.toGc x.Av H ds vs → okG c x js σ H Q (f ds Δ) → t vs σ H Q
structure DG (X : Cx) (c : Ct) (e : Expr) (js : List Nat) (f : D → M Unit) : Prop where
  out : ∃ t, PG X e t ∧ SoundG c t js f
structure DGs (X : Cx) (c : Ct) (es : List Expr) (js : List Nat) (f : List D → M Unit) : Prop where
  out : ∃ t, PGs X es t ∧ SoundGs c t js f
section
variable {X : Cx} {c : Ct} {W : WX} {e : Expr} {es : List Expr} {pos : Pos} {i : Nat} {n : Str} {js ks : List Nat}
theorem PG.or {t t' : TG} (h : PG X e t) (h' : PG X e t') : PG X e (fun v σ H Q => t v σ H Q ∨ t' v σ H Q) :=
  ⟨fun pins s σ H v u Q I r q => q.elim (h.run pins s σ H v u Q I r) (h'.run pins s σ H v u Q I r)⟩
theorem dg_name (hio : ∀ p ∈ c.io, p.1 ≠ i) (hN : X.N.Nodup) (hi : X.N[i]? = some n) (hx : Loc X.env.scope n) (hf : X.fn n = true ∨ X.env.scope.names.lookup n = some .local := by first | exact .inl rfl | exact .inr rfl | assumption) : DG X c (.Name n pos) [i] (mTg1 i) := by
  refine ⟨_, pg_name hN hi hx hf, fun x σ H Δ v d Q sr r q => ?_⟩
  unfold mTg1 at q
  split at q
  · rename_i hl
    obtain ⟨k2, sr2⟩ := sr.setSh hio hl r
    exact q _ _ k2 sr2 ⟨List.length_set, fun j hj => List.getElem?_set_ne (fun z => hj (by rw [z]; exact List.mem_singleton_self _))⟩
  · exact q.elim
theorem dgs_nil : DGs X c [] [] (mTgs []) := by
  refine ⟨_, pgs_nil, fun x σ H Δ vs ds Q sr r q => ?_⟩
  cases ds with
  | nil => unfold RepL at r; exact ⟨r, q σ x (Kp.refl _ _) sr Off.refl⟩
  | cons d ds => exact q.elim
theorem dgs_cons {t : D → M Unit} {ts : List (D → M Unit)} (h : DG X c e js t) (r : DGs X c es ks (mTgs ts)) (hs : (assignEach (e :: es) X.env).map (·.2) = assign e X.env :: (assignEach es X.env).map (·.2) := by rfl) : DGs X c (e :: es) (js ++ ks) (mTgs (t :: ts)) := by
  obtain ⟨tg, p, s⟩ := h.out
  obtain ⟨ug, p', s'⟩ := r.out
  refine ⟨_, pgs_cons p p' hs, fun x σ H Δ vs ds Q sr rl q => ?_⟩
  cases ds with
  | nil => exact q.elim
  | cons d ds =>
    unfold RepL at rl
    obtain ⟨v, r, rfl, h1, h2⟩ := rl
    refine ⟨v, r, rfl, s x σ H Δ v d _ sr h1 ?_⟩
    have q' : okG c x (js ++ ks) σ H Q (mBind (t d) (fun _ => mTgs ts ds) Δ) := q
    unfold mBind at q'
    cases ed : t d Δ with
    | ok a Δ1 =>
      rw [ed] at q'
      refine fun σ1 x1 k1 sr1 o1 => s' x1 σ1 H Δ1 r ds Q sr1 (h2.kp sr k1) ?_
      dsimp only at q'
      revert q'
      cases mTgs ts ds Δ1 with
      | ok b Δ2 => exact fun q' σ2 x2 k2 sr2 o2 => q' σ2 x2 (k1.trans k2) sr2 (o1.trans o2)
      | ex _ _ _ => exact fun q' => q'
      | bad => exact fun q' => q'
    | ex n d Δ1 => rw [ed] at q'; exact q'.elim
    | bad => rw [ed] at q'; exact q'.elim
theorem dg_tup {ts : List (D → M Unit)} {k m : Nat} (hc : X.calm = true) (h : DGs X c es js (mTgs ts)) (hm : ts.length = m := by rfl)
    (hn : (assignEach es X.env).length = m := by rfl) (hst : (assignEach es X.env).findIdx? (·.1) = none := by rfl) : DG X c (.Tuple es k pos) js (mTgT ts) := by
  obtain ⟨tg, p, s⟩ := h.out
  refine ⟨_, PG.or (pg_tup hc p hn hst) (pg_unl hc p hn hst), fun x σ H Δ v d Q sr r q => ?_⟩
  have len : ∀ {ts : List (D → M Unit)} {ds : List D} {Δ : SD}, okG c x js σ H Q (mTgs ts ds Δ) → ds.length = ts.length := by
    intro ts
    induction ts with
    | nil =>
      intro ds Δ q
      cases ds with
      | nil => rfl
      | cons d ds => exact q.elim
    | cons t ts ih =>
      intro ds Δ q
      cases ds with
      | nil => exact q.elim
      | cons d ds =>
        have q' : okG c x js σ H Q (mBind (t d) (fun _ => mTgs ts ds) Δ) := q
        unfold mBind at q'
        cases ed : t d Δ with
        | ok a Δ1 =>
          rw [ed] at q'
          rw [List.length_cons, List.length_cons, ih q']
        | ex n d Δ1 => rw [ed] at q'; exact q'.elim
        | bad => rw [ed] at q'; exact q'.elim
  cases d <;> first
    | exact q.elim
    | skip
  · obtain ⟨a, vs, rfl, hh, rl⟩ := rep_lst (.inl r)
    exact .inr ⟨a, vs, rfl, SqL.of hh, by rw [repL_length rl, ← hm]; exact len q, s x σ H Δ vs _ Q sr rl q⟩
  · obtain ⟨a, vs, rfl, _, hh, rl⟩ := rep_tup (.inl r)
    exact .inl ⟨a, vs, rfl, SqT.of hh, by rw [repL_length rl, ← hm]; exact len q, s x σ H Δ vs _ Q sr rl q⟩
/-- a target takes a value -/
def mTake (t : D → M Unit) (d : D) : M Fl := fun Δ => match t d Δ with
  | .ok _ Δ' => .ok .nx Δ'
  | _ => .bad
theorem PostS.take {x : Sx} {σ : St} {H : Hp} {E : Ends} {t : D → M Unit} {d : D} {Δ : SD} (q : PostS c W x H E (mTake t d Δ)) : okG c x js σ H (fun σ' H' => E.nx σ' H') (t d Δ) := by
  unfold mTake at q
  cases ed : t d Δ with
  | ok a Δ2 => rw [ed] at q; exact fun σ2 x2 k2 sr2 _ => q σ2 x2 H k2 sr2
  | ex n d Δ2 => rw [ed] at q; exact q.elim
  | bad => rw [ed] at q; exact q.elim
def mAsg (t : D → M Unit) (f : M D) : M Fl := mBind f (mTake t)
theorem ds_asg {fe : M D} {t : D → M Unit} {v : Expr} (he : DE X c W v fe) (hg : DG X c e js t) (hs : swapsWithSole [e] v pos.line X.env = pure false := by rfl) (hw : swappedStores [e] v X.env = pure none := by rfl)
    (h1 : (assignEach [e] X.env).map (·.2) = [assign e X.env] := by rfl) : DS X c W (.Assign [e] v pos) (mAsg t fe) := by
  obtain ⟨te, p, s⟩ := he.out
  obtain ⟨tg, pg, sg⟩ := hg.out
  exact ⟨_, ps_asg p pg hs hw h1, fun x σ H Δ E sr q => s x σ H Δ _ sr (q.bind fun d Δ1 q1 v x1 H1 k1 sr1 r =>
    sg x1 σ H1 Δ1 v d _ sr1 r (PostS.take (PostS.step q1 k1)))⟩
end
end DL

namespace DL
open PySem L2

/-- an iterator that yields just these data -/
def ItOk (c : Ct) (x : Sx) (H : Hp) (J : It) (ds : List D) : Prop := ∀ x' σ' H' Δ' i, Kp x H x' H' → SR c x' σ' H' Δ' →
  (ds.length ≤ i → J.stop i H') ∧ ∀ d, ds[i]? = some d → J.go i H' ∧ ∀ v H'', J.yld i H' v H'' → Ex H' H'' ∧ Rep c.toGc x'.Av H'' d v
def okI (c : Ct) (x : Sx) (σ : St) (H : Hp) (R : It → Hp → Prop) (ds : List D) (Δ' : SD) : Prop := ∀ J x' H', Kp x H x' H' → SR c x' σ H' Δ' → ItOk c x' H' J ds → R J H'
def SoundI (c : Ct) (W : WX) (wi : TI) (f : M (List D)) : Prop := ∀ x σ H Δ R, SR c x σ H Δ → Post c W x σ H (okI c x σ H R) (f Δ) → wi σ H R
structure DI (X : Cx) (c : Ct) (W : WX) (tg iter : Expr) (f : M (List D)) : Prop where
  out : ∃ wi, PI X tg iter wi ∧ SoundI c W wi f

def dItems : D → Option (List D)
  | .lst ds => some ds
  | .tup ds => some ds
  | _ => none
def mItems (f : M D) : M (List D) := mBind f fun d => mOpt (dItems d)
def mRng (g : List D → Option (List D)) (f : M (List AK)) : M (List D) := mBind f fun as => mBind (mGets as) fun ds => mOpt (g ds)
def intsFrom (lo : Int) (n : Nat) : List D := (List.range n).map fun i => D.int (lo + (i : Nat))
def big62 : Int := 4611686018427387904
def dRng1 : List D → Option (List D)
  | [.int j] => if -1000000000 < j ∧ j < 1000000000 then some (intsFrom 0 j.toNat) else none
  | _ => none
def dRng2 : List D → Option (List D)
  | [.int i, .int j] => if -1000000000 < i ∧ i < 1000000000 ∧ -1000000000 < j ∧ j < 1000000000 then some (intsFrom i (j - i).toNat) else none
  | _ => none
def enumD : Nat → List D → List D
  | _, [] => []
  | i, d :: ds => .tup [.int (i : Nat), d] :: enumD (i + 1) ds
def dEnum : List D → Option (List D)
  | [.lst ds] => some (enumD 0 ds)
  | _ => none
def zipD : List D → List D → List D
  | d :: ds, e :: es => .tup [d, e] :: zipD ds es
  | _, _ => []
def dZip : List D → Option (List D)
  | [.lst ds, .lst es] => some (zipD ds es)
  | _ => none

section
variable {c : Ct} {W : WX} {x : Sx} {σ : St} {H : Hp} {Δ : SD}
theorem okI.step {x1 : Sx} {H1 : Hp} {R : It → Hp → Prop} {ds : List D} {Δ' : SD} (k : Kp x H x1 H1) (h : okI c x σ H R ds Δ') : okI c x1 σ H1 R ds Δ' := fun J x' H' k' => h J x' H' (k.trans k')
theorem it_list (sr : SR c x σ H Δ) {a : Addr} {vs : List V} {ds : List D} (ha : x.Av a) (hh : H a = some (.lst vs)) (r : RepL c.toGc x.Av H ds vs) : ItOk c x H (Itl c.K a) ds := by
  intro x' σ' H' Δ' i k sr'
  have kp := sr.keep k
  have q : SqL c.K H' a vs := SqL.of (kp.lst a vs ha hh)
  have r' := r.keep kp
  refine ⟨fun hi => ⟨vs, q, by rw [repL_length r]; exact hi⟩, fun d hd => ?_⟩
  obtain ⟨v, hv, rv⟩ := r'.at hd
  refine ⟨⟨vs, v, q, hv⟩, fun u H'' y => ?_⟩
  obtain ⟨e, y⟩ := y
  subst e
  have := y vs q
  rw [hv] at this; cases this
  exact ⟨Ex.refl _, rv⟩
theorem it_tup (sr : SR c x σ H Δ) {a : Addr} {vs : List V} {ds : List D} (ha : x.Av a) (hh : H a = some (.tup vs)) (r : RepL c.toGc x.Av H ds vs) : ItOk c x H (Itt c.K a) ds := by
  intro x' σ' H' Δ' i k sr'
  have kp := sr.keep k
  have q : SqT c.K H' a vs := SqT.of (kp.tup a vs ha hh)
  have r' := r.keep kp
  refine ⟨fun hi => ⟨vs, q, by rw [repL_length r]; exact hi⟩, fun d hd => ?_⟩
  obtain ⟨v, hv, rv⟩ := r'.at hd
  refine ⟨⟨vs, v, q, hv⟩, fun u H'' y => ?_⟩
  obtain ⟨e, y⟩ := y
  subst e
  have := y vs q
  rw [hv] at this; cases this
  exact ⟨Ex.refl _, rv⟩
theorem intsFrom_at (lo : Int) (n i : Nat) : (intsFrom lo n)[i]? = if i < n then some (.int (lo + (i : Nat))) else none := by
  unfold intsFrom
  rw [List.getElem?_map]
  by_cases h : i < n
  · rw [if_pos h, List.getElem?_range h]; rfl
  · rw [if_neg h, List.getElem?_eq_none (by rw [List.length_range]; omega)]; rfl
theorem intsFrom_length (lo : Int) (n : Nat) : (intsFrom lo n).length = n := by simp [intsFrom]
theorem it_range {lo : Int} {n : Nat} : ItOk c x H (Itr lo n) (intsFrom lo n) := by
  intro x' σ' H' Δ' i k sr'
  refine ⟨fun hi => by rw [intsFrom_length] at hi; exact hi, fun d hd => ?_⟩
  rw [intsFrom_at] at hd
  split at hd
  · rename_i h
    cases hd
    refine ⟨h, fun v H'' y => ?_⟩
    obtain ⟨e1, e2⟩ := y
    subst e1 e2
    exact ⟨Ex.refl _, mk_int⟩
  · cases hd
theorem mk_pair {G : Gc} {Av : Addr → Prop} {H : Hp} {T : Addr} {d e : D} {v u : V} (fr : Fresh H Av) (hT : H T = none) (r1 : Rep G Av H d v) (r2 : Rep G Av H e u) : Ex H (upd H T (.tup [v, u])) ∧ Rep G Av (upd H T (.tup [v, u])) (.tup [d, e]) (.ref T) := by
  have ex : Ex H (upd H T (.tup [v, u])) := Ex.new hT
  refine ⟨ex, ?_⟩
  unfold Rep
  refine ⟨T, [v, u], rfl, fr T hT, upd_same, ?_⟩
  unfold RepL
  refine ⟨v, [u], rfl, r1.keep ex.keep, ?_⟩
  unfold RepL
  refine ⟨u, [], rfl, r2.keep ex.keep, ?_⟩
  unfold RepL; rfl
theorem enumD_at : ∀ (ds : List D) (k i : Nat), (enumD k ds)[i]? = (ds[i]?).map fun d => .tup [.int ((k + i : Nat) : Int), d]
  | [], k, i => by simp [enumD]
  | d :: ds, k, 0 => by simp [enumD]
  | d :: ds, k, i + 1 => by
    have := enumD_at ds (k + 1) i
    simp only [enumD, List.getElem?_cons_succ, this]
    have e : k + 1 + i = k + (i + 1) := by omega
    rw [e]
theorem enumD_length : ∀ (ds : List D) (k : Nat), (enumD k ds).length = ds.length
  | [], _ => rfl
  | _ :: ds, k => by simp [enumD, enumD_length ds (k + 1)]
theorem it_enum (sr : SR c x σ H Δ) {a : Addr} {vs : List V} {ds : List D} (ha : x.Av a) (hh : H a = some (.lst vs)) (r : RepL c.toGc x.Av H ds vs) : ItOk c x H (Ite c.K a) (enumD 0 ds) := by
  intro x' σ' H' Δ' i k sr'
  have kp := sr.keep k
  have q : SqL c.K H' a vs := SqL.of (kp.lst a vs ha hh)
  have r' := r.keep kp
  refine ⟨fun hi => ⟨vs, q, by rw [repL_length r, ← enumD_length ds 0]; exact hi⟩, fun d hd => ?_⟩
  rw [enumD_at, Option.map_eq_some_iff] at hd
  obtain ⟨d', hd', rfl⟩ := hd
  obtain ⟨v, hv, rv⟩ := r'.at hd'
  refine ⟨⟨vs, v, q, hv⟩, fun u H'' y => ?_⟩
  obtain ⟨T, w, rfl, hT, rfl, y⟩ := y
  have := y vs q
  rw [hv] at this; cases this
  rw [Nat.zero_add]
  exact mk_pair sr'.fr hT mk_int rv
theorem zipD_at : ∀ (ds es : List D) (i : Nat), (zipD ds es)[i]? = (ds[i]?).bind fun d => (es[i]?).map fun e => .tup [d, e]
  | [], es, i => by simp [zipD]
  | d :: ds, [], i => by simp [zipD]
  | d :: ds, e :: es, 0 => by simp [zipD]
  | d :: ds, e :: es, i + 1 => by simp [zipD, zipD_at ds es i]
theorem zipD_length : ∀ (ds es : List D), (zipD ds es).length = min ds.length es.length
  | [], es => by simp [zipD]
  | d :: ds, [] => by simp [zipD]
  | d :: ds, e :: es => by simp [zipD, zipD_length ds es]
theorem it_zip (sr : SR c x σ H Δ) {a b : Addr} {vs us : List V} {ds es : List D} (ha : x.Av a) (hh : H a = some (.lst vs)) (r : RepL c.toGc x.Av H ds vs) (hb : x.Av b) (hh2 : H b = some (.lst us)) (r2 : RepL c.toGc x.Av H es us) : ItOk c x H (Itz c.K a b) (zipD ds es) := by
  intro x' σ' H' Δ' i k sr'
  have kp := sr.keep k
  have q : SqL c.K H' a vs := SqL.of (kp.lst a vs ha hh)
  have q2 : SqL c.K H' b us := SqL.of (kp.lst b us hb hh2)
  have r' := r.keep kp
  have r2' := r2.keep kp
  refine ⟨fun hi => ⟨vs, us, q, q2, by rw [zipD_length] at hi; rw [repL_length r, repL_length r2]; omega⟩, fun d hd => ?_⟩
  rw [zipD_at, Option.bind_eq_some_iff] at hd
  obtain ⟨d1, hd1, hd⟩ := hd
  rw [Option.map_eq_some_iff] at hd
  obtain ⟨d2, hd2, rfl⟩ := hd
  obtain ⟨v, hv, rv⟩ := r'.at hd1
  obtain ⟨w, hw, rw'⟩ := r2'.at hd2
  refine ⟨⟨vs, us, v, w, q, q2, hv, hw⟩, fun u H'' y => ?_⟩
  obtain ⟨T, v', w', rfl, hT, rfl, y1, y2⟩ := y
  have e1 := y1 vs q
  have e2 := y2 us q2
  rw [hv] at e1; cases e1
  rw [hw] at e2; cases e2
  exact mk_pair sr'.fr hT rv rw'
end
section
variable {X : Cx} {c : Ct} {W : WX} {tg e e2 : Expr} {es : List Expr} {fe : M D} {fs : M (List AK)} {p pos tpos : Pos}
theorem PI.or {w w' : TI} (h : PI X tg e w) (h' : PI X tg e w') : PI X tg e (fun σ H R => w σ H R ∨ w' σ H R) :=
  ⟨fun pins s σ H R I q => q.elim (h.run pins s σ H R I) (h'.run pins s σ H R I)⟩
theorem di_seq (hK : c.K = X.K) (h : DE X c W e fe) : DI X c W tg e (mItems fe) := by
  obtain ⟨t, p, s⟩ := h.out
  refine ⟨_, PI.or (pi_list p) (pi_tup p), fun x σ H Δ R sr q => ?_⟩
  rw [← hK]
  cases ef : fe Δ with
  | bad => unfold mItems mBind at q; rw [ef] at q; exact q.elim
  | ex n d Δ1 =>
    refine .inl (s x σ H Δ _ sr ?_)
    unfold mItems mBind at q; rw [ef] at q; rw [ef]; exact q
  | ok d Δ1 =>
    unfold mItems mBind at q; rw [ef] at q
    dsimp only at q
    cases d <;> first
      | exact q.elim
      | skip
    · refine .inl (s x σ H Δ _ sr ?_)
      rw [ef]
      intro v x1 H1 k1 sr1 r
      unfold Rep at r
      obtain ⟨a, vs, rfl, ha, hh, rl⟩ := r
      exact ⟨a, rfl, ⟨vs, SqL.of hh⟩, q _ x1 H1 k1 sr1 (it_list sr1 ha hh rl)⟩
    · refine .inr (s x σ H Δ _ sr ?_)
      rw [ef]
      intro v x1 H1 k1 sr1 r
      unfold Rep at r
      obtain ⟨a, vs, rfl, ha, hh, rl⟩ := r
      exact ⟨a, rfl, ⟨vs, SqT.of hh⟩, q _ x1 H1 k1 sr1 (it_tup sr1 ha hh rl)⟩
theorem Post.rng {α : Type} {x : Sx} {σ : St} {H : Hp} {Δ : SD} {ok : α → SD → Prop} {o : Option α} (q : Post c W x σ H ok (mOpt o Δ)) : ∃ a, o = some a ∧ ok a Δ := by
  cases o with
  | none => exact q.elim
  | some a => exact ⟨a, rfl, q⟩
theorem di_rng1 (hg : Gl X "range") (hm : X.mg "range" = none) (h : DA X c W [e] fs) (hs : starEach [e] X.env = [(false, eval e X.env)] := by rfl) : DI X c W tg (.Call (.Name "range" p) [e] [] pos) (mRng dRng1 fs) := by
  obtain ⟨t, pa, s⟩ := h.out
  refine ⟨_, pi_range1 hg hm pa hs, fun x σ H Δ R sr q => s x σ H Δ _ sr (q.bind fun as Δ1 q1 vs x1 H1 k1 sr1 h1 => ?_)⟩
  obtain ⟨ds, r, q2⟩ := Post.gets sr1 h1 (q1.step k1 fun a Δ q => okI.step k1 q)
  obtain ⟨ys, ey, q3⟩ := Post.rng q2
  unfold dRng1 at ey
  split at ey
  · split at ey
    · rename_i hz
      cases ey
      obtain ⟨v, rfl, r1⟩ := rl_one r
      rename_i j
      rw [rep_int r1]
      exact ⟨j, rfl, by omega, by omega, q3 _ x1 H1 (Kp.refl _ _) sr1 it_range⟩
    · cases ey
  · cases ey
theorem di_rng2 (hg : Gl X "range") (hm : X.mg "range" = none) (h : DA X c W [e, e2] fs) (hs : starEach [e, e2] X.env = [(false, eval e X.env), (false, eval e2 X.env)] := by rfl) (hs2 : starEach [e2] X.env = [(false, eval e2 X.env)] := by rfl) : DI X c W tg (.Call (.Name "range" p) [e, e2] [] pos) (mRng dRng2 fs) := by
  obtain ⟨t, pa, s⟩ := h.out
  refine ⟨_, pi_range2 hg hm pa hs hs2, fun x σ H Δ R sr q => s x σ H Δ _ sr (q.bind fun as Δ1 q1 vs x1 H1 k1 sr1 h1 => ?_)⟩
  obtain ⟨ds, r, q2⟩ := Post.gets sr1 h1 (q1.step k1 fun a Δ q => okI.step k1 q)
  obtain ⟨ys, ey, q3⟩ := Post.rng q2
  unfold dRng2 at ey
  split at ey
  · split at ey
    · rename_i hz
      cases ey
      obtain ⟨v, u, rfl, r1, r2⟩ := rl_two r
      rw [rep_int r1, rep_int r2]
      exact ⟨_, _, rfl, ⟨by omega, by omega, by omega, by omega⟩, q3 _ x1 H1 (Kp.refl _ _) sr1 it_range⟩
    · cases ey
  · cases ey
theorem lst_sh {G : Gc} {Av : Addr → Prop} {H : Hp} {ds : List D} {v : V} (r : Rep G Av H (.lst ds) v) : ∃ a vs, v = .ref a ∧ Av a ∧ H a = some (.lst vs) ∧ RepL G Av H ds vs := by
  unfold Rep at r; exact r
/-- the list in enumerate(..), the lists in zip(..) are shared -/
def mEnum (f : M D) : M (List D) := mBind f fun d => mOpt (dEnum [d])
def mZip (f g : M D) : M (List D) := mBind f fun d => mBind g fun e => mOpt (dZip [d, e])
theorem di_enum {elts : List Expr} {kk : Nat} (hK : c.K = X.K) (hg : Gl X "enumerate") (hm : X.mg "enumerate" = none) (h : DE X c W e fe) (hs : starEach [e] X.env = [(false, eval e X.env)] := by rfl) : DI X c W (.Tuple elts kk tpos) (.Call (.Name "enumerate" p) [e] [] pos) (mEnum fe) := by
  obtain ⟨t, pe, s⟩ := h.out
  refine ⟨_, pi_enum hg hm (pa_cons pe pa_nil (by rw [hs]; rfl)) hs, fun x σ H Δ R sr q => s x σ H Δ _ sr (q.bind fun d Δ1 q1 v x1 H1 k1 sr1 r => ?_)⟩
  obtain ⟨ys, ey, q3⟩ := Post.rng (q1.step k1 fun a Δ q => okI.step k1 q)
  unfold dEnum at ey
  split at ey
  · rename_i heq
    cases heq
    cases ey
    obtain ⟨a, vs, rfl, ha, hh, rl⟩ := lst_sh r
    rw [← hK]
    exact ⟨a, vs, rfl, SqL.of hh, q3 _ x1 H1 (Kp.refl _ _) sr1 (it_enum sr1 ha hh rl)⟩
  · cases ey
theorem di_zip {elts : List Expr} {kk : Nat} {fe2 : M D} (hK : c.K = X.K) (hg : Gl X "zip") (hm : X.mg "zip" = none) (h : DE X c W e fe) (h2 : DE X c W e2 fe2) (hs : starEach [e, e2] X.env = (false, eval e X.env) :: starEach [e2] X.env := by rfl) (hs2 : starEach [e2] X.env = (false, eval e2 X.env) :: starEach [] X.env := by rfl)
    (hpl : (backTo pos (starEach [e2] X.env)).any (·.1) = false := by rfl) : DI X c W (.Tuple elts kk tpos) (.Call (.Name "zip" p) [e, e2] [] pos) (mZip fe fe2) := by
  obtain ⟨t, pe, s⟩ := h.out
  obtain ⟨t2, pe2, s2⟩ := h2.out
  refine ⟨_, pi_zip hg hm (pa_cons pe (pa_cons pe2 pa_nil hs2) hs) hs hpl, fun x σ H Δ R sr q => s x σ H Δ _ sr (q.bind fun d Δ1 q1 v x1 H1 k1 sr1 r => ?_)⟩
  refine s2 x1 σ H1 Δ1 _ sr1 ((q1.step k1 fun a Δ q => okI.step k1 q).bind fun d2 Δ2 q2 u x2 H2 k2 sr2 r2 => ?_)
  obtain ⟨ys, ey, q3⟩ := Post.rng (q2.step k2 fun a Δ q => okI.step k2 q)
  unfold dZip at ey
  split at ey
  · rename_i heq
    cases heq
    cases ey
    obtain ⟨a, vs, rfl, ha, hh, rl⟩ := lst_sh (r.kp sr1 k2)
    obtain ⟨b, us, rfl, hb, hh2, rl2⟩ := lst_sh r2
    rw [← hK]
    exact ⟨a, b, vs, us, rfl, SqL.of hh, SqL.of hh2, q3 _ x2 H2 (Kp.refl _ _) sr2 (it_zip sr2 ha hh rl hb hh2 rl2)⟩
  · cases ey
end

/-! ### for -/
def mFor (t : D → M Unit) (body : M Fl) : List D → M Fl
  | [] => mNx
  | d :: ds => fun Δ => match t d Δ with
    | .ok _ Δ1 => mBind body (fun fl => match fl with
      | .nx => mFor t body ds
      | .ct => mFor t body ds
      | .bk => mNx
      | fl => mPure fl) Δ1
    | _ => .bad
def mForE (fi : M (List D)) (t : D → M Unit) (body : M Fl) : M Fl := mBind fi (mFor t body)
section
variable {X : Cx} {c : Ct} {W : WX} {tg iter : Expr} {body : List Stmt} {fi : M (List D)} {t : D → M Unit} {fb : M Fl} {pos : Pos}
/-- one turn's body -/
theorem turn_body {tb : TS} {x : Sx} {σ : St} {H : Hp} {Δ : SD} {E : Ends} {N : St → Hp → Prop} {rest : M Fl} (sb : SoundS c W tb fb) (sr : SR c x σ H Δ)
    (q : PostS c W x H E (mBind fb (fun fl => match fl with
      | .nx => rest
      | .ct => rest
      | .bk => mNx
      | fl => mPure fl) Δ))
    (hN : ∀ σ' x' H' Δ', Kp x H x' H' → SR c x' σ' H' Δ' → PostS c W x' H' E (rest Δ') → N σ' H') : tb { E with nx := N, ct := N, bk := E.nx } σ H := by
  refine sb x σ H Δ _ sr ?_
  unfold mBind at q
  cases eb : fb Δ with
  | bad => rw [eb] at q; exact q
  | ex n d Δ' => rw [eb] at q; exact q
  | ok fl Δ1 =>
    rw [eb] at q
    cases fl with
    | nx => exact fun σ' x' H' k sr' => hN σ' x' H' Δ1 k sr' (PostS.step q k)
    | ct => exact fun σ' x' H' k sr' => hN σ' x' H' Δ1 k sr' (PostS.step q k)
    | bk => exact q
    | rt d => exact q
    | rf d => exact q
theorem ds_for (hp : PassesOwn (model X.prog X.w) X.A X.env X.xe) (hc : X.calm = true) (hi : DI X c W tg iter fi) {js : List Nat} (hg : DG X c tg js t) (hb : DB X c W body fb) (hs : ∀ x, foldedSetIterable iter X.env x = pure x := by intro _; rfl) : DS X c W (.For tg iter body [] pos) (mForE fi t fb) := by
  obtain ⟨wi, pi, si⟩ := hi.out
  obtain ⟨g, pg, sg⟩ := hg.out
  obtain ⟨tb, pb, sb⟩ := hb.out
  refine ⟨_, ps_for hp hc pi pg pb hs, fun x σ H Δ E sr q => si x σ H Δ _ sr (q.bind fun ds Δ1 q1 J x1 H1 k1 sr1 it => ?_)⟩
  refine ⟨fun i m σ' H' => m = ds.length - i ∧ i ≤ ds.length ∧ ∃ x' Δ', Kp x1 H1 x' H' ∧ SR c x' σ' H' Δ' ∧ PostS c W x' H' E (mFor t fb (ds.drop i) Δ'), ⟨ds.length, rfl, Nat.zero_le _, x1, Δ1, Kp.refl _ _, sr1, PostS.step q1 k1⟩, ?_⟩
  rintro i m σ' H' ⟨rfl, hi', x', Δ', k', sr', q'⟩
  obtain ⟨stop, go⟩ := it x' σ' H' Δ' i k' sr'
  by_cases hlt : i < ds.length
  · obtain ⟨gi, yi⟩ := go ds[i] (by simp [hlt])
    rw [List.drop_eq_getElem_cons hlt] at q'
    refine .inr ⟨gi, fun σ3 H3 => ∃ x3 Δ3, Kp x1 H1 x3 H3 ∧ SR c x3 σ3 H3 Δ3 ∧ PostS c W x3 H3 E (mFor t fb (ds.drop (i + 1)) Δ3), fun σ3 H3 n3 => ⟨ds.length - (i + 1), by omega, rfl, hlt, n3⟩, fun v H2 hy => ?_⟩
    obtain ⟨ex, r⟩ := yi v H2 hy
    have k2 := Kp.ex ex x'
    have sr2 := sr'.ex ex
    refine sg x' σ' H2 Δ' v _ _ sr2 r ?_
    have q2 : PostS c W x' H2 E (mFor t fb (ds[i] :: ds.drop (i + 1)) Δ') := PostS.step q' k2
    unfold mFor at q2
    cases et : t ds[i] Δ' with
    | bad => rw [et] at q2; exact q2.elim
    | ex _ _ _ => rw [et] at q2; exact q2.elim
    | ok u Δ2 =>
      rw [et] at q2
      exact fun σ2 x2 k3 sr3 _ => turn_body sb sr3 (PostS.step q2 k3) fun σ3 x3 H3 Δ3 k4 sr4 q4 => ⟨x3, Δ3, ((k'.trans k2).trans k3).trans k4, sr4, q4⟩
  · have e : i = ds.length := by omega
    refine .inl ⟨stop (by omega), ?_⟩
    rw [e, List.drop_length] at q'
    exact q' σ' x' H' (Kp.refl _ _) sr'

/-! ### while -/
def mWhile (fc : M Bool) (body : M Fl) : Nat → M Fl
  | 0 => mBad
  | n + 1 => mBind fc fun b => if b = true then mBind body (fun fl => match fl with
      | .nx => mWhile fc body n
      | .ct => mWhile fc body n
      | .bk => mNx
      | fl => mPure fl) else mNx
theorem ds_while {ce : Expr} {fc : M Bool} (n : Nat) (hp : PassesOwn (model X.prog X.w) X.A X.env X.xe) (hc : DT X c W ce fc) (hb : DB X c W body fb) : DS X c W (.While ce body [] pos) (mWhile fc fb n) := by
  obtain ⟨tc, pc, sc⟩ := hc.out
  obtain ⟨tb, pb, sb⟩ := hb.out
  refine ⟨_, ps_while hp pc pb, fun x σ H Δ E sr q => ?_⟩
  refine ⟨fun m σ' H' => ∃ x' Δ', Kp x H x' H' ∧ SR c x' σ' H' Δ' ∧ PostS c W x' H' E (mWhile fc fb m Δ'), ⟨n, x, Δ, Kp.refl _ _, sr, q⟩, ?_⟩
  rintro m σ' H' ⟨x', Δ', k', sr', q'⟩
  cases m with
  | zero => exact q'.elim
  | succ m =>
    refine sc x' σ' H' Δ' _ sr' (PostS.bind q' fun b Δ2 q2 x2 H2 k2 sr2 => ?_)
    cases b with
    | false => exact q2 σ' x2 H2 k2 sr2
    | true => exact ⟨fun σ3 H3 => ∃ x3 Δ3, Kp x H x3 H3 ∧ SR c x3 σ3 H3 Δ3 ∧ PostS c W x3 H3 E (mWhile fc fb m Δ3), fun σ3 H3 n3 => ⟨m, Nat.lt_succ_self m, n3⟩,
        turn_body sb sr2 (PostS.step q2 k2) fun σ3 x3 H3 Δ3 k3 sr3 q3 => ⟨x3, Δ3, (k'.trans k2).trans k3, sr3, q3⟩⟩
end
end DL

namespace DL
open PySem L2

/-- no exception is wished for -/
abbrev noW : WX := fun _ _ _ _ => False
theorem takes_no {X : Cx} : Takes X noW := fun _ _ ⟨_, _, _, _, _, _, _, _, _, _, _, _, _, _, _, _, w⟩ => w.elim

/-! ### readings that are just the mirror -/
def tE (c : Ct) (W : WX) (f : M D) : TE := fun σ H Q => ∃ x Δ, SR c x σ H Δ ∧ Post c W x σ H (okV c x σ H Q) (f Δ)
def tT (c : Ct) (W : WX) (f : M Bool) : TT := fun σ H Q => ∃ x Δ, SR c x σ H Δ ∧ Post c W x σ H (okT c x σ H Q) (f Δ)
def tG (c : Ct) (js : List Nat) (f : D → M Unit) : TG := fun v σ H Q => ∃ x Δ d, SR c x σ H Δ ∧ Rep c.toGc x.Av H d v ∧ okG c x js σ H Q (f d Δ)
section
variable {X : Cx} {c : Ct} {W : WX} {e : Expr}
theorem DE.pe {f : M D} (h : DE X c W e f) : PE X e (tE c W f) := by
  obtain ⟨t, p, s⟩ := h.out
  exact ⟨fun pins st σ H Q I ⟨x, Δ, sr, q⟩ => p.run pins st σ H Q I (s x σ H Δ Q sr q)⟩
theorem DT.pt {f : M Bool} (h : DT X c W e f) : PT X e (tT c W f) := by
  obtain ⟨t, p, s⟩ := h.out
  exact ⟨fun pins st σ H Q I ⟨x, Δ, sr, q⟩ => p.run pins st σ H Q I (s x σ H Δ Q sr q)⟩
theorem DG.pg {js : List Nat} {f : D → M Unit} (h : DG X c e js f) : PG X e (tG c js f) := by
  obtain ⟨t, p, s⟩ := h.out
  exact ⟨fun pins st σ H v u Q I r ⟨x, Δ, d, sr, rd, q⟩ => p.run pins st σ H v u Q I r (s x σ H Δ v d Q sr rd q)⟩
end

/-! ### the block's slots -/
def wipeD (Δ : SD) : List Nat → SD
  | [] => Δ
  | i :: vs => (wipeD Δ vs).set i .un
/-- behind the block: its own slots as they were -/
def backD (Δ : SD) (Δ' : SD) : List Nat → SD
  | [] => Δ'
  | i :: vs => (backD Δ Δ' vs).set i (Δ.getD i .un)
theorem wipe_at (σ : St) : ∀ (vs : List Nat) (i : Nat), (wipe σ vs)[i]? = if i ∈ vs then (σ[i]?).map (fun _ => none) else σ[i]?
  | [], i => rfl
  | j :: vs, i => by
    show ((wipe σ vs).set j none)[i]? = _
    rw [List.getElem?_set]
    have ih := wipe_at σ vs i
    by_cases e : j = i
    · subst e
      simp only [List.mem_cons, true_or, if_true]
      by_cases hl : j < (wipe σ vs).length
      · rw [if_pos hl]
        rw [wipe_length] at hl
        simp [hl]
      · rw [if_neg hl]
        rw [wipe_length] at hl
        simp [hl]
    · rw [if_neg e, ih]
      have : (i ∈ j :: vs) ↔ i ∈ vs := by simp [Ne.symm e]
      simp only [this]
theorem wipeD_length (Δ : SD) : ∀ vs, (wipeD Δ vs).length = Δ.length
  | [] => rfl
  | i :: vs => by simp [wipeD, wipeD_length Δ vs]
theorem backD_length (Δ Δ' : SD) : ∀ vs, (backD Δ Δ' vs).length = Δ'.length
  | [] => rfl
  | i :: vs => by simp [backD, backD_length Δ Δ' vs]
theorem wipeD_at (Δ : SD) : ∀ (vs : List Nat) (i : Nat), (wipeD Δ vs)[i]? = if i ∈ vs then (Δ[i]?).map (fun _ => SC.un) else Δ[i]?
  | [], i => rfl
  | j :: vs, i => by
    show ((wipeD Δ vs).set j .un)[i]? = _
    rw [List.getElem?_set]
    have ih := wipeD_at Δ vs i
    by_cases e : j = i
    · subst e
      simp only [List.mem_cons, true_or, if_true]
      by_cases hl : j < (wipeD Δ vs).length
      · rw [if_pos hl]
        rw [wipeD_length] at hl
        simp [hl]
      · rw [if_neg hl]
        rw [wipeD_length] at hl
        simp [hl]
    · rw [if_neg e, ih]
      have : (i ∈ j :: vs) ↔ i ∈ vs := by simp [Ne.symm e]
      simp only [this]
theorem backD_at (Δ Δ' : SD) (hl : Δ'.length = Δ.length) : ∀ (vs : List Nat) (i : Nat), (backD Δ Δ' vs)[i]? = if i ∈ vs then Δ[i]? else Δ'[i]?
  | [], i => rfl
  | j :: vs, i => by
    show ((backD Δ Δ' vs).set j (Δ.getD j .un))[i]? = _
    rw [List.getElem?_set]
    have ih := backD_at Δ Δ' hl vs i
    by_cases e : j = i
    · subst e
      simp only [List.mem_cons, true_or, if_true]
      rw [backD_length, hl]
      by_cases h : j < Δ.length
      · rw [if_pos h]; simp [h]
      · rw [if_neg h]; simp [h]
    · rw [if_neg e, ih]
      have : (i ∈ j :: vs) ↔ i ∈ vs := by simp [Ne.symm e]
      simp only [this]

section
variable {c : Ct} {x x' : Sx} {σ : St} {H H' : Hp} {Δ Δ' : SD} {vs : List Nat}
def wipeX (x : Sx) (vs : List Nat) : Sx := ⟨x.Av, fun i => if i ∈ vs then none else x.ρ i⟩
theorem wipeX_rho {i : Nat} {a : Addr} (h : (wipeX x vs).ρ i = some a) : i ∉ vs ∧ x.ρ i = some a := by
  have h' : (if i ∈ vs then none else x.ρ i) = some a := h
  by_cases e : i ∈ vs
  · rw [if_pos e] at h'; cases h'
  · rw [if_neg e] at h'; exact ⟨e, h'⟩
theorem SR.wipe (s : SR c x σ H Δ) (hio : ∀ p ∈ c.io, p.1 ∉ vs) : SR c (wipeX x vs) (L2.wipe σ vs) H (wipeD Δ vs) where
  len := by rw [wipe_length, wipeD_length]; exact s.len
  base := s.base
  tab := s.tab
  trk := s.trk
  fr := s.fr
  av := s.av
  a0 := s.a0
  ow := fun i a h => s.ow i a (wipeX_rho h).2
  inj := fun i j a h1 h2 => s.inj i j a (wipeX_rho h1).2 (wipeX_rho h2).2
  slot := fun i => by
    rw [wipeD_at]
    by_cases e : i ∈ vs
    · rw [if_pos e]
      cases Δ[i]? with
      | none => trivial
      | some z => trivial
    · rw [if_neg e]
      have z := s.slot i
      revert z
      cases Δ[i]? with
      | none => intro _; trivial
      | some w =>
        cases w with
        | un => intro _; trivial
        | sh d => exact fun ⟨v, h1, h2⟩ => ⟨v, by rw [wipe_at, if_neg e]; exact h1, h2⟩
        | ow d => exact fun ⟨a, h0, h1, h2⟩ => ⟨a, by show (if i ∈ vs then none else x.ρ i) = some a; rw [if_neg e]; exact h0, by rw [wipe_at, if_neg e]; exact h1, h2⟩
  ios := fun p hp => by show (if p.1 ∈ vs then none else x.ρ p.1) = some p.2; rw [if_neg (hio p hp)]; exact s.ios p hp
/-- wiping once more, in the block -/
theorem SR.rewipe {σ2 : St} (s : SR c x' σ2 H' Δ') (hw : L2.wipe σ2 vs = L2.wipe σ vs) (hio : ∀ p ∈ c.io, p.1 ∉ vs) : SR c (wipeX x' vs) (L2.wipe σ vs) H' (wipeD Δ' vs) := by
  have q := s.wipe (vs := vs) hio
  rw [hw] at q
  exact q
theorem Kp.wipe (x : Sx) (H : Hp) (vs : List Nat) : Kp x H (wipeX x vs) H := ⟨fun _ _ h _ _ => h, fun _ h => h, fun i a h => .inl ⟨i, (wipeX_rho h).2⟩, fun _ h _ => h, fun _ h => .inl h⟩
/-- the owners behind the block -/
def backX (x x' : Sx) (vs : List Nat) : Sx := ⟨x'.Av, fun i => if i ∈ vs then x.ρ i else x'.ρ i⟩
/-- the state behind the block: k from the block's start -/
theorem SR.back (s : SR c x σ H Δ) (k : Kp (wipeX x vs) H x' H') (s' : SR c x' (L2.wipe σ vs) H' Δ') (hio : ∀ p ∈ c.io, p.1 ∉ vs) : Kp x H (backX x x' vs) H' ∧ SR c (backX x x' vs) σ H' (backD Δ Δ' vs) := by
  have hlen : Δ'.length = Δ.length := by rw [← s'.len, wipe_length, s.len]
  have notOwn : ∀ {a : Addr} {j : Nat}, x'.ρ j = some a → ∀ i, i ∈ vs → x.ρ i ≠ some a := fun {a j} h i hi e => by
    rcases k.own j a h with ⟨l, q⟩ | q
    · have ql := wipeX_rho q
      exact ql.1 (s.inj _ _ _ e ql.2 ▸ hi)
    · exact (s.ow i a e).2.1 q
  have keptOwn : ∀ {i : Nat} {a : Addr}, i ∈ vs → x.ρ i = some a → (∀ o, H a = some o → Fx o → H' a = some o) ∧ ¬ x'.Av a := fun {i a} hi e => by
    have no : ∀ l, (wipeX x vs).ρ l ≠ some a := fun l q => by
      have ql := wipeX_rho q
      exact ql.1 (s.inj _ _ _ e ql.2 ▸ hi)
    refine ⟨fun o ho f => k.frame a o ho f no, fun q => ?_⟩
    rcases k.avb a q with h | h | ⟨l, h⟩
    · exact (s.ow i a e).1 h
    · exact (s.ow i a e).2.1 h
    · exact no l h
  have rho : ∀ {i a}, (backX x x' vs).ρ i = some a → (i ∈ vs ∧ x.ρ i = some a) ∨ (i ∉ vs ∧ x'.ρ i = some a) := fun {i a} h => by
    have h' : (if i ∈ vs then x.ρ i else x'.ρ i) = some a := h
    by_cases e : i ∈ vs
    · rw [if_pos e] at h'; exact .inl ⟨e, h'⟩
    · rw [if_neg e] at h'; exact .inr ⟨e, h'⟩
  have kp : Keep c.toGc x.Av x'.Av H H' := by
    have nv : ∀ {a : Addr}, x.Av a → ∀ l, (wipeX x vs).ρ l ≠ some a := fun ha l q => (s.ow l _ (wipeX_rho q).2).1 ha
    exact ⟨fun a u ha f h => by
      rcases h with h | ⟨o, h⟩
      · exact .inl (k.frame a _ h f (nv ha))
      · exact .inr ⟨o, k.frame a _ h fx_frz (nv ha)⟩, fun a v ha h => k.frame a _ h fx_lst (nv ha), fun a v ha h => k.frame a _ h fx_tup (nv ha), fun a C dx us ha h => k.frame a _ h fx_ins (nv ha),
      fun a u ha h => k.av a ha (by rcases h with h | ⟨o, h⟩ <;> (rw [h]; intro q; cases q))⟩
  refine ⟨⟨fun a o h f n => k.frame a o h f fun l q => n l (wipeX_rho q).2, k.trk, fun i a h => ?_, k.av, fun a h => ?_⟩, ?_⟩
  · rcases rho h with ⟨_, h⟩ | ⟨_, h⟩
    · exact .inl ⟨i, h⟩
    · rcases k.own i a h with ⟨l, q⟩ | q
      · exact .inl ⟨l, (wipeX_rho q).2⟩
      · exact .inr q
  · rcases k.avb a h with q | q | ⟨l, q⟩
    · exact .inl q
    · exact .inr (.inl q)
    · exact .inr (.inr ⟨l, (wipeX_rho q).2⟩)
  · exact {
      len := by rw [backD_length, hlen]; exact s.len
      base := s'.base
      tab := s'.tab
      trk := s'.trk
      fr := s'.fr
      av := s'.av
      a0 := s.a0
      ow := fun i a h => by
        rcases rho h with ⟨hi, h⟩ | ⟨_, h⟩
        · exact ⟨(keptOwn hi h).2, fun q => (s.ow i a h).2.1 (k.trk a q), (s.ow i a h).2.2⟩
        · exact s'.ow i a h
      inj := fun i j a h1 h2 => by
        rcases rho h1 with ⟨i1, h1⟩ | ⟨i1, h1⟩ <;> rcases rho h2 with ⟨i2, h2⟩ | ⟨i2, h2⟩
        · exact s.inj i j a h1 h2
        · exact absurd h1 (notOwn h2 i i1)
        · exact absurd h2 (notOwn h1 j i2)
        · exact s'.inj i j a h1 h2
      slot := fun i => by
        rw [backD_at Δ Δ' hlen]
        by_cases e : i ∈ vs
        · rw [if_pos e]
          have z := s.slot i
          revert z
          cases Δ[i]? with
          | none => intro _; trivial
          | some w =>
            cases w with
            | un => intro _; trivial
            | sh d => exact fun ⟨v, h1, h2⟩ => ⟨v, h1, h2.keep kp⟩
            | ow d =>
              rintro ⟨a, h0, h1, h2⟩
              refine ⟨a, by show (if i ∈ vs then x.ρ i else x'.ρ i) = some a; rw [if_pos e]; exact h0, h1, ?_⟩
              have kf := (keptOwn e h0).1
              show Own c.toGc x'.Av H' a d
              cases d <;> first
                | exact h2.elim
                | (obtain ⟨us, q1, q2⟩ := h2; exact ⟨us, kf _ q1 (by first | exact fx_lst | exact fx_dK | exact fx_dT | exact fx_nd), q2.keep kp⟩)
                | (obtain ⟨C, dx, us, q0, q1, q2⟩ := h2; exact ⟨C, dx, us, q0, kf _ q1 fx_ins, q2.keep kp⟩)
        · rw [if_neg e]
          have z := s'.slot i
          revert z
          cases Δ'[i]? with
          | none => intro _; trivial
          | some w =>
            cases w with
            | un => intro _; trivial
            | sh d => exact fun ⟨v, h1, h2⟩ => ⟨v, by rw [wipe_at, if_neg e] at h1; exact h1, h2⟩
            | ow d => exact fun ⟨a, h0, h1, h2⟩ => ⟨a, by show (if i ∈ vs then x.ρ i else x'.ρ i) = some a; rw [if_neg e]; exact h0, by rw [wipe_at, if_neg e] at h1; exact h1, h2⟩
      ios := fun p hp => by show (if p.1 ∈ vs then x.ρ p.1 else x'.ρ p.1) = some p.2; rw [if_neg (hio p hp)]; exact s'.ios p hp }
end

/-! ### [elt for target in iter if test] -/
def mTurns (vs : List Nat) (t : D → M Unit) (ft : M Bool) (fe : M D) : List D → M (List D)
  | [] => fun Δ => .ok [] (wipeD Δ vs)
  | d :: ds => fun Δ => match t d (wipeD Δ vs) with
    | .ok _ Δ1 => mBind ft (fun b => if b = true then mBind fe fun e => mBind (mTurns vs t ft fe ds) fun es => mPure (e :: es) else mTurns vs t ft fe ds) Δ1
    | _ => .bad
def mLc (vs : List Nat) (fi : M (List D)) (t : D → M Unit) (ft : M Bool) (fe : M D) : M D := mBind fi fun ds Δ => match mTurns vs t ft fe ds (wipeD Δ vs) with
  | .ok es Δ2 => if es.length ≤ lim then .ok (.lst es) (backD Δ Δ2 vs) else .bad
  | _ => .bad
theorem bind_ok {α β : Type} {f : M α} {g : α → M β} {Δ Δ' : SD} {b : β} (h : mBind f g Δ = .ok b Δ') : ∃ a Δ1, f Δ = .ok a Δ1 ∧ g a Δ1 = .ok b Δ' := by
  unfold mBind at h
  cases e : f Δ with
  | ok a Δ1 => rw [e] at h; exact ⟨a, Δ1, rfl, h⟩
  | ex _ _ _ => rw [e] at h; cases h
  | bad => rw [e] at h; cases h
theorem wipeD_twice (Δ : SD) (vs : List Nat) : wipeD (wipeD Δ vs) vs = wipeD Δ vs := by
  apply List.ext_getElem?
  intro i
  rw [wipeD_at, wipeD_at]
  by_cases e : i ∈ vs
  · rw [if_pos e, if_pos e]
    cases Δ[i]? <;> rfl
  · rw [if_neg e, if_neg e]
theorem mTurns_wipe (vs : List Nat) (t : D → M Unit) (ft : M Bool) (fe : M D) (ds : List D) (Δ : SD) : mTurns vs t ft fe ds (wipeD Δ vs) = mTurns vs t ft fe ds Δ := by
  cases ds with
  | nil => show Res.ok [] (wipeD (wipeD Δ vs) vs) = Res.ok [] (wipeD Δ vs); rw [wipeD_twice]
  | cons d ds => unfold mTurns; rw [wipeD_twice]
theorem Keep.temp {G : Gc} {Av : Addr → Prop} {H : Hp} {D : Addr} (o : HO) (nv : ¬ Av D) : Keep G Av Av H (upd H D o) := by
  have ne : ∀ {a}, Av a → a ≠ D := fun ha z => nv (z ▸ ha)
  exact ⟨fun a u ha _ h => by
    rcases h with h | ⟨ob, h⟩
    · exact .inl (by rw [upd_ne (ne ha)]; exact h)
    · exact .inr ⟨ob, by rw [upd_ne (ne ha)]; exact h⟩, fun a v ha h => by rw [upd_ne (ne ha)]; exact h, fun a v ha h => by rw [upd_ne (ne ha)]; exact h, fun a C dx us ha h => by rw [upd_ne (ne ha)]; exact h, fun a u ha _ => ha⟩
/-- a thing that no slot holds and no data shows is changed -/
theorem SR.temp {c : Ct} {x : Sx} {σ : St} {H : Hp} {Δ : SD} (s : SR c x σ H Δ) {D : Addr} (o : HO) (hD : ∃ u, H D = some u ∧ Pln u) (nv : ¬ x.Av D) (nr : ∀ j, x.ρ j ≠ some D) (h0 : c.H0 D = none) : SR c x σ (upd H D o) Δ := by
  obtain ⟨u0, hD, hp⟩ := hD
  have kp : Keep c.toGc x.Av x.Av H (upd H D o) := Keep.temp o nv
  have nn : ∀ {a}, upd H D o a = none → H a = none := fun {a} h => by
    by_cases e : a = D
    · rw [e, upd_same] at h; cases h
    · rw [upd_ne e] at h; exact h
  exact {
    len := s.len
    base := fun a u h f n => by
      have e : a ≠ D := fun z => by rw [z, h0] at h; cases h
      rw [upd_ne e]; exact s.base a u h f n
    tab := tabs_upd s.tab hD hp
    trk := fun a h => s.trk a (nn h)
    fr := fun a h => s.fr a (nn h)
    av := s.av
    a0 := s.a0
    ow := fun i a h => ⟨(s.ow i a h).1, fun q => (s.ow i a h).2.1 (nn q), (s.ow i a h).2.2⟩
    inj := s.inj
    slot := fun i => by
      have z := s.slot i
      revert z
      cases Δ[i]? with
      | none => intro _; trivial
      | some w =>
        cases w with
        | un => intro _; trivial
        | sh d => exact fun ⟨v, h1, h2⟩ => ⟨v, h1, h2.keep kp⟩
        | ow d =>
          rintro ⟨a, h0, h1, h2⟩
          have e : a ≠ D := fun z => nr i (z ▸ h0)
          refine ⟨a, h0, h1, ?_⟩
          show Own c.toGc x.Av (upd H D o) a d
          cases d <;> first
            | exact h2.elim
            | (obtain ⟨us, q1, q2⟩ := h2; exact ⟨us, by rw [upd_ne e]; exact q1, q2.keep kp⟩)
            | (obtain ⟨C, dx, us, q0, q1, q2⟩ := h2; exact ⟨C, dx, us, q0, by rw [upd_ne e]; exact q1, q2.keep kp⟩)
    ios := s.ios }
theorem upd_none {H : Hp} {D a : Addr} {o : HO} (h : upd H D o a = none) : a ≠ D ∧ H a = none := by
  by_cases e : a = D
  · rw [e, upd_same] at h; cases h
  · rw [upd_ne e] at h; exact ⟨e, h⟩
/-- a step seen without that thing -/
theorem Kp.hide {x x' : Sx} {H H' : Hp} (k : Kp x H x' H') {D : Addr} (o : HO) (hD : H D ≠ none) : Kp x (upd H D o) x' (upd H' D o) where
  frame := fun a u h f n => by
    by_cases e : a = D
    · rw [e, upd_same] at h ⊢; exact h
    · rw [upd_ne e] at h ⊢; exact k.frame a u h f n
  trk := fun a h => by
    obtain ⟨e, h⟩ := upd_none h
    rw [upd_ne e]; exact k.trk a h
  own := fun i a h => by
    rcases k.own i a h with q | q
    · exact .inl q
    · have e : a ≠ D := fun z => hD (z ▸ q)
      exact .inr (by rw [upd_ne e]; exact q)
  av := fun a h n => by
    by_cases e : a = D
    · exact k.av a h (e ▸ hD)
    · rw [upd_ne e] at n; exact k.av a h n
  avb := fun a h => by
    rcases k.avb a h with q | q | q
    · exact .inl q
    · have e : a ≠ D := fun z => hD (z ▸ q)
      exact .inr (.inl (by rw [upd_ne e]; exact q))
    · exact .inr (.inr q)
/-- from ahead of that thing's making -/
theorem Kp.show_ {x x' : Sx} {H H' : Hp} {D : Addr} {o : HO} (hD : H D = none) (hD' : H' D ≠ none) (k : Kp ⟨fun a => x.Av a ∧ a ≠ D, x.ρ⟩ (upd H D o) x' (upd H' D o)) : Kp x H x' H' where
  frame := fun a u h f n => by
    have e : a ≠ D := fun z => by rw [z, hD] at h; cases h
    have q := k.frame a u (by rw [upd_ne e]; exact h) f n
    rw [upd_ne e] at q; exact q
  trk := fun a h => by
    have e : a ≠ D := fun z => hD' (z ▸ h)
    have q := k.trk a (by rw [upd_ne e]; exact h)
    rw [upd_ne e] at q; exact q
  own := fun i a h => by
    rcases k.own i a h with q | q
    · exact .inl q
    · exact .inr (upd_none q).2
  av := fun a h n => k.av a ⟨h, fun z => n (z ▸ hD)⟩ fun z => n (upd_none z).2
  avb := fun a h => by
    rcases k.avb a h with q | q | q
    · exact .inl q.1
    · exact .inr (.inl (upd_none q).2)
    · exact .inr (.inr q)
theorem wipe_off {σ σ2 : St} {js vs : List Nat} (h : Off js (L2.wipe σ vs) σ2) (hj : ∀ j ∈ js, j ∈ vs) : L2.wipe σ2 vs = L2.wipe σ vs := by
  apply List.ext_getElem?
  intro i
  rw [wipe_at, wipe_at]
  by_cases e : i ∈ vs
  · rw [if_pos e, if_pos e]
    have hl : σ2.length = σ.length := by rw [h.1, wipe_length]
    by_cases hi : i < σ.length
    · rw [List.getElem?_eq_getElem (by omega), List.getElem?_eq_getElem hi]; rfl
    · rw [List.getElem?_eq_none (by omega), List.getElem?_eq_none (by omega)]
  · rw [if_neg e, if_neg e, h.2 i fun q => e (hj i q), wipe_at, if_neg e]
section
variable {X : Cx} {c : Ct} {W : WX} {elt tg iter : Expr} {ifs : List Expr} {scope : Scope} {own : List (Str × Nat)} {pos : Pos} {fi : M (List D)} {t : D → M Unit} {ft : M Bool} {fe : M D} {js : List Nat}
structure DTs (X : Cx) (c : Ct) (W : WX) (ifs : List Expr) (f : M Bool) : Prop where
  pts : PTs X ifs (tT c W f)
theorem dts_nil : DTs X c W [] (mPure true) := ⟨⟨fun pins s σ H Q I h => pts_nil.run pins s σ H Q I (by
  obtain ⟨x, Δ, sr, q⟩ := h
  exact q x H (Kp.refl _ _) sr)⟩⟩
theorem dts_one {e : Expr} (h : DT X c W e ft) : DTs X c W [e] ft := ⟨pts_one h.pt⟩
theorem lc_read {wi : TI} {vs : List Nat} {σ : St} {H : Hp} {Q : VK} {x : Sx} {Δ : SD} (si : SoundI c W wi fi) (hio : ∀ p ∈ c.io, p.1 ∉ vs) (hj : ∀ j ∈ js, j ∈ vs) (sr : SR c x σ H Δ) (q : Post c W x σ H (okF c x σ H Q) (mLc vs fi t ft fe Δ)) :
    tLc wi (tG c js t) (tT c noW ft) (tE c noW fe) vs σ H Q := by
  refine si x σ H Δ _ sr (q.bind fun ds Δ1 q1 J x1 H1 k1 sr1 it => ?_)
  intro D hD
  have q2 : Post c W x σ H (okF c x σ H Q) (match mTurns vs t ft fe ds (wipeD Δ1 vs) with
    | .ok es Δ2 => if es.length ≤ lim then Res.ok (.lst es) (backD Δ1 Δ2 vs) else .bad
    | _ => .bad) := q1
  cases em : mTurns vs t ft fe ds (wipeD Δ1 vs) with
  | bad => rw [em] at q2; exact q2.elim
  | ex _ _ _ => rw [em] at q2; exact q2.elim
  | ok es Δf =>
  rw [em] at q2
  dsimp only at q2
  by_cases hz : es.length ≤ lim
  case neg => rw [if_neg hz] at q2; exact q2.elim
  rw [if_pos hz] at q2
  -- the new list stands outside of all data
  obtain ⟨kD, sD, hD0, nrD⟩ := sr1.alloc hD (Ex.new (o := .lst []) hD)
  have sW := (sD (by rw [upd_same]; intro z; cases z)).wipe (vs := vs) hio
  refine ⟨fun i m H' => m = ds.length - i ∧ i ≤ ds.length ∧ ∃ x' Δ' acc us, Kp ⟨fun a => (wipeX x1 vs).Av a ∧ a ≠ D, (wipeX x1 vs).ρ⟩ (upd H1 D (.lst [])) x' (upd H' D (.lst [])) ∧ SR c x' (L2.wipe σ vs) H' Δ' ∧ H' D = some (.lst us) ∧ ¬ x'.Av D ∧ (∀ j, x'.ρ j ≠ some D) ∧ RepL c.toGc x'.Av H' acc us ∧
    ∃ es', mTurns vs t ft fe (ds.drop i) Δ' = .ok es' Δf ∧ acc ++ es' = es, ?_, ?_⟩
  · refine ⟨ds.length, rfl, Nat.zero_le _, _, _, [], [], ?_, sW, upd_same, fun z => z.2 rfl, fun j h => nrD j (wipeX_rho h).2, by unfold RepL; rfl, es, em, rfl⟩
    rw [upd_upd]
    exact Kp.refl _ _
  · rintro i m H' ⟨rfl, hi', x', Δ', acc, us, k', sr', hDu, nv, nr, ra, es', em', ea⟩
    have kx : Kp (wipeX x1 vs) H1 x' H' := Kp.show_ hD (by rw [hDu]; intro z; cases z) k'
    have kx1 : Kp x1 H1 x' H' := (Kp.wipe x1 H1 vs).trans kx
    obtain ⟨stop, go⟩ := it x' _ H' Δ' i kx1 sr'
    by_cases hlt : i < ds.length
    · obtain ⟨gi, yi⟩ := go ds[i] (by simp [hlt])
      rw [List.drop_eq_getElem_cons hlt] at em'
      refine .inr ⟨gi, fun H3 => ∃ x3 Δ3 acc3 us3, Kp ⟨fun a => (wipeX x1 vs).Av a ∧ a ≠ D, (wipeX x1 vs).ρ⟩ (upd H1 D (.lst [])) x3 (upd H3 D (.lst [])) ∧ SR c x3 (L2.wipe σ vs) H3 Δ3 ∧ H3 D = some (.lst us3) ∧ ¬ x3.Av D ∧ (∀ j, x3.ρ j ≠ some D) ∧ RepL c.toGc x3.Av H3 acc3 us3 ∧
        ∃ es3, mTurns vs t ft fe (ds.drop (i + 1)) Δ3 = .ok es3 Δf ∧ acc3 ++ es3 = es, fun H3 n3 => ⟨ds.length - (i + 1), by omega, rfl, hlt, n3⟩, fun v H2 hy => ?_⟩
      obtain ⟨ex, r⟩ := yi v H2 hy
      have k2 := Kp.ex ex x'
      have srw := (sr'.ex ex).rewipe (vs := vs) (σ := σ) (σ2 := L2.wipe σ vs) (wipe_off (js := []) Off.refl fun _ z => nomatch z) hio
      -- what stays true of the new list over a step
      have stay : ∀ {x4 : Sx} {H4 : Hp}, Kp x' H' x4 H4 → H4 D = some (.lst us) ∧ ¬ x4.Av D ∧ (∀ j, x4.ρ j ≠ some D) ∧ Kp ⟨fun a => (wipeX x1 vs).Av a ∧ a ≠ D, (wipeX x1 vs).ρ⟩ (upd H1 D (.lst [])) x4 (upd H4 D (.lst [])) := fun {x4 H4} k4 => by
        have hDn : H' D ≠ none := by rw [hDu]; intro z; cases z
        refine ⟨k4.frame D _ hDu fx_lst nr, fun z => ?_, fun j z => ?_, k'.trans (k4.hide _ hDn)⟩
        · rcases k4.avb D z with w | w | ⟨l, w⟩
          · exact nv w
          · exact hDn w
          · exact nr l w
        · rcases k4.own j D z with ⟨l, w⟩ | w
          · exact nr l w
          · exact hDn w
      have kw : Kp x' H' (wipeX x' vs) H2 := k2.trans (Kp.wipe x' H2 vs)
      refine ⟨wipeX x' vs, wipeD Δ' vs, ds[i], srw, r, ?_⟩
      have em2 : (match t ds[i] (wipeD Δ' vs) with
        | .ok _ Δ1 => mBind ft (fun b => if b = true then mBind fe fun e => mBind (mTurns vs t ft fe (ds.drop (i + 1))) fun es => mPure (e :: es) else mTurns vs t ft fe (ds.drop (i + 1))) Δ1
        | _ => .bad) = Res.ok es' Δf := em'
      cases et : t ds[i] (wipeD Δ' vs) with
      | bad => rw [et] at em2; cases em2
      | ex _ _ _ => rw [et] at em2; cases em2
      | ok u Δ2 =>
        rw [et] at em2
        dsimp only at em2
        obtain ⟨b, Δ3, eft, em3⟩ := bind_ok em2
        intro σ2 x2 k3 sr2 off
        refine ⟨wipe_off off hj, x2, Δ2, sr2, ?_⟩
        rw [eft]
        intro x3 H3 k4 sr3
        have kk := (kw.trans k3).trans k4
        cases b with
        | false =>
          obtain ⟨d1, d2, d3, d4⟩ := stay (kk.trans (Kp.wipe x3 H3 vs))
          have sr3' := sr3.rewipe (vs := vs) (wipe_off off hj) hio
          refine ⟨wipeX x3 vs, wipeD Δ3 vs, acc, us, d4, sr3', d1, d2, d3, RepL.kp sr' (kk.trans (Kp.wipe x3 H3 vs)) ra, es', ?_, ea⟩
          rw [mTurns_wipe]
          rw [if_neg Bool.false_ne_true] at em3
          exact em3
        | true =>
          rw [if_pos rfl] at em3
          obtain ⟨e, Δ4, efe, em4⟩ := bind_ok em3
          obtain ⟨es3, Δ5, em5, em6⟩ := bind_ok em4
          cases em6
          refine ⟨x3, Δ3, sr3, ?_⟩
          rw [efe]
          intro y x5 H5 k5 sr5 ry
          have kk5 := kk.trans k5
          obtain ⟨d1, d2, d3, d4⟩ := stay (kk5.trans (Kp.wipe x5 H5 vs))
          have ra5 := RepL.kp sr' kk5 ra
          have hlen : us.length = acc.length := repL_length ra
          refine ⟨us, d1, ?_, ?_⟩
          · have : acc.length < es.length := by rw [← ea]; simp
            exact Nat.lt_of_lt_of_le (by omega) (lim_ok hz)
          · have sr5' := (sr5.rewipe (vs := vs) (wipe_off off hj) hio)
            have sr6 := sr5'.temp (D := D) (.lst (us ++ [y])) ⟨_, d1, pln_lst⟩ d2 d3 hD0
            have kpU : Keep c.toGc x5.Av x5.Av H5 (upd H5 D (.lst (us ++ [y]))) := Keep.temp _ d2
            refine ⟨wipeX x5 vs, wipeD Δ4 vs, acc ++ [e], us ++ [y], by rw [upd_upd]; exact d4, sr6, upd_same, d2, d3, ?_, es3, ?_, by rw [List.append_assoc]; exact ea⟩
            · exact (ra5.app (by unfold RepL; exact ⟨y, [], rfl, ry, by unfold RepL; rfl⟩)).keep kpU
            · rw [mTurns_wipe]; exact em5
    · have e : i = ds.length := by omega
      refine .inl ⟨stop (by omega), ?_⟩
      rw [e, List.drop_length] at em'
      have em2 : Res.ok [] (wipeD Δ' vs) = Res.ok es' Δf := em'
      cases em2
      rw [List.append_nil] at ea
      subst ea
      have srw := sr'.rewipe (vs := vs) (σ := σ) (σ2 := L2.wipe σ vs) (wipe_off (js := []) Off.refl fun _ z => nomatch z) hio
      obtain ⟨kb, sb⟩ := sr1.back (kx.trans (Kp.wipe x' H' vs)) srw hio
      refine q2 D _ H' (k1.trans kb) sb hD0 (k1.trk D hD) nv (fun l z => ?_) ⟨us, hDu, ra⟩
      have z' : (if l ∈ vs then x1.ρ l else (wipeX x' vs).ρ l) = some D := z
      by_cases hl : l ∈ vs
      · rw [if_pos hl] at z'; exact nrD l z'
      · rw [if_neg hl] at z'; exact nr l (wipeX_rho z').2
/-- a comprehension -/
theorem df_lc (hc : X.calm = true) (hN : X.N.Nodup) (hio : ∀ p ∈ c.io, p.1 ∉ own.map (·.2)) (hj : ∀ j ∈ js, j ∈ own.map (·.2)) (hi : DI X c W tg iter fi) (ok : BlkOk X.N X.env.scope scope own)
    (hg : ∀ (s : Shared) (H : Hp) (C : Addr) (cl : List (Str × Addr)) (fp : List Addr), DG (X.blk s H scope (compEnvC scope cl C X.env) fp) c tg js t)
    (ht : ∀ (s : Shared) (H : Hp) (C : Addr) (cl : List (Str × Addr)) (fp : List Addr), DTs (X.blk s H scope (compEnvC scope cl C X.env) fp) c noW ifs ft)
    (he : ∀ (s : Shared) (H : Hp) (C : Addr) (cl : List (Str × Addr)) (fp : List Addr), DE (X.blk s H scope (compEnvC scope cl C X.env) fp) c noW elt fe) (hs : ∀ x, foldedSetIterable iter X.env x = pure x := by intro _; rfl) :
    DF X c W (.ListComp elt [⟨tg, iter, ifs, 0⟩] scope pos) (mLc (own.map (·.2)) fi t ft fe) := by
  obtain ⟨wi, pi, si⟩ := hi.out
  exact ⟨_, pe_lc hc hN pi ok (fun s H C cl fp => (hg s H C cl fp).pg) (fun s H C cl fp => (ht s H C cl fp).pts) (fun s H C cl fp => (he s H C cl fp).pe) hs, fun x σ H Δ Q sr q => lc_read si hio hj sr q⟩
/-- name = [..] on one line -/
theorem ds_setLcO {i : Nat} {y : Str} {py spos : Pos} (hioi : ∀ p ∈ c.io, p.1 ≠ i) (hc : X.calm = true) (hN : X.N.Nodup) (hio : ∀ p ∈ c.io, p.1 ∉ own.map (·.2)) (hj : ∀ j ∈ js, j ∈ own.map (·.2)) (hy : X.N[i]? = some y) (hyl : X.env.scope.names.lookup y = some .local)
    (hsw : swapsWith (.ListComp elt [⟨tg, iter, ifs, 0⟩] scope pos) (some (.Name y py)) spos.line X.env = pure true) (hi : DI X c W tg iter fi) (ok : BlkOk X.N X.env.scope scope own)
    (hg : ∀ (s : Shared) (H : Hp) (C : Addr) (cl : List (Str × Addr)) (fp : List Addr), DG (X.blk s H scope (compEnvC scope cl C X.env) fp) c tg js t)
    (ht : ∀ (s : Shared) (H : Hp) (C : Addr) (cl : List (Str × Addr)) (fp : List Addr), DTs (X.blk s H scope (compEnvC scope cl C X.env) fp) c noW ifs ft)
    (he : ∀ (s : Shared) (H : Hp) (C : Addr) (cl : List (Str × Addr)) (fp : List Addr), DE (X.blk s H scope (compEnvC scope cl C X.env) fp) c noW elt fe) (hs : ∀ x, foldedSetIterable iter X.env x = pure x := by intro _; rfl) :
    DS X c W (.Assign [.Name y py] (.ListComp elt [⟨tg, iter, ifs, 0⟩] scope pos) spos) (mSetO i (mLc (own.map (·.2)) fi t ft fe)) := by
  obtain ⟨wi, pi, si⟩ := hi.out
  refine ⟨_, ps_setLc hc hN hy hyl hsw pi ok (fun s H C cl fp => (hg s H C cl fp).pg) (fun s H C cl fp => (ht s H C cl fp).pts) (fun s H C cl fp => (he s H C cl fp).pe) hs, fun x σ H Δ E sr q => ?_⟩
  refine lc_read si hio hj sr (q.bind fun d Δ1 q1 a x1 H1 k1 sr1 h0 h1 nv nr o => ?_)
  have q2 : PostS c W x H E (if i < Δ1.length then .ok .nx (Δ1.set i (.ow d)) else .bad) := q1
  split at q2
  · rename_i hl
    exact q2 _ _ _ (k1.setOw h1 i) (sr1.setOw hioi hl h0 nv nr o)
  · exact q2.elim
theorem ds_setLc {i : Nat} {y : Str} {py spos : Pos} (hioi : ∀ p ∈ c.io, p.1 ≠ i) (hc : X.calm = true) (hN : X.N.Nodup) (hio : ∀ p ∈ c.io, p.1 ∉ own.map (·.2)) (hj : ∀ j ∈ js, j ∈ own.map (·.2)) (hy : X.N[i]? = some y) (hyl : X.env.scope.names.lookup y = some .local)
    (hsw : swapsWith (.ListComp elt [⟨tg, iter, ifs, 0⟩] scope pos) (some (.Name y py)) spos.line X.env = pure true) (hi : DI X c W tg iter fi) (ok : BlkOk X.N X.env.scope scope own)
    (hg : ∀ (s : Shared) (H : Hp) (C : Addr) (cl : List (Str × Addr)) (fp : List Addr), DG (X.blk s H scope (compEnvC scope cl C X.env) fp) c tg js t)
    (ht : ∀ (s : Shared) (H : Hp) (C : Addr) (cl : List (Str × Addr)) (fp : List Addr), DTs (X.blk s H scope (compEnvC scope cl C X.env) fp) c noW ifs ft)
    (he : ∀ (s : Shared) (H : Hp) (C : Addr) (cl : List (Str × Addr)) (fp : List Addr), DE (X.blk s H scope (compEnvC scope cl C X.env) fp) c noW elt fe) (hs : ∀ x, foldedSetIterable iter X.env x = pure x := by intro _; rfl) :
    DS X c W (.Assign [.Name y py] (.ListComp elt [⟨tg, iter, ifs, 0⟩] scope pos) spos) (mSet i (mLc (own.map (·.2)) fi t ft fe)) := by
  obtain ⟨wi, pi, si⟩ := hi.out
  refine ⟨_, ps_setLc hc hN hy hyl hsw pi ok (fun s H C cl fp => (hg s H C cl fp).pg) (fun s H C cl fp => (ht s H C cl fp).pts) (fun s H C cl fp => (he s H C cl fp).pe) hs, fun x σ H Δ E sr q => ?_⟩
  have se : SoundE c W (tLc wi (tG c js t) (tT c noW ft) (tE c noW fe) (own.map (·.2))) (mLc (own.map (·.2)) fi t ft fe) := SoundF.e fun x σ H Δ Q sr q => lc_read si hio hj sr q
  refine se x σ H Δ _ sr (q.bind fun d Δ1 q1 v x1 H1 k1 sr1 r => ?_)
  have q2 : PostS c W x H E (if i < Δ1.length then .ok .nx (Δ1.set i (.sh d)) else .bad) := q1
  split at q2
  · rename_i hl
    obtain ⟨k2, sr2⟩ := sr1.setSh hioi hl r
    exact q2 _ _ _ (k1.trans k2) sr2
  · exact q2.elim
end
end DL

namespace DL
open PySem L2 PySem.Spec PyProof.Rows

/-- what a def's mirror answers: a value (new and held by nobody, where fr), the lent objects' contents -/
inductive RD where
  | ok (d : D) (fr : Bool) (ios : List D)
  | ex (n : Str) (d : Option D) (ios : List D)
  | bad
def startAt (io : List Nat) : Nat → List D → SD
  | _, [] => []
  | i, d :: ds => (if i ∈ io then SC.ow d else SC.sh d) :: startAt io (i + 1) ds
def startD (len : Nat) (io : List Nat) (ds : List D) : SD := startAt io 0 ds ++ List.replicate (len - ds.length) .un
def iosOf (Δ : SD) : List Nat → Option (List D)
  | [] => some []
  | i :: io => match Δ[i]? with
    | some (.ow d) => (iosOf Δ io).map (d :: ·)
    | _ => none
def mDef (len : Nat) (io : List Nat) (body : M Fl) (ds : List D) : RD := match body (startD len io ds) with
  | .ok fl Δ' => (match iosOf Δ' io with
    | some ios => (match fl with
      | .rt d => .ok d false ios
      | .rf d => .ok d true ios
      | .nx => .ok .non false ios
      | _ => .bad)
    | none => .bad)
  | .ex n d Δ' => (match iosOf Δ' io with
    | some ios => .ex n d ios
    | none => .bad)
  | .bad => .bad

/-- behind a call: what is kept, what the lent objects hold -/
structure EndC (G : Gc) (Av : Addr → Prop) (H : Hp) (ios : List (Nat × Addr)) (Av' : Addr → Prop) (H' : Hp) (ds : List D) : Prop where
  keep : ∀ a o, H a = some o → Fx o → (∀ p ∈ ios, p.2 ≠ a) → H' a = some o
  tab : LamX.Tabs G.T H'
  trk : ∀ a, H' a = none → H a = none
  sub : ∀ a, Av' a → Av a
  av : ∀ a, Av a → H a ≠ none → Av' a
  fr : ∀ p, H' p = none → Av' p
  own : Paired (fun (p : Nat × Addr) (d : D) => ¬ Av' p.2 ∧ Own G Av' H' p.2 d) ios ds
def OutD (G : Gc) (Av : Addr → Prop) (H : Hp) (ios : List (Nat × Addr)) (Q : VK) (E : XK) : RD → Prop
  | .ok d fr ds => (fr = false → ∀ v Av' H', EndC G Av H ios Av' H' ds → Rep G Av' H' d v → Q v H') ∧
      (fr = true → ∀ a Av' H', EndC G Av H ios Av' H' ds → H a = none → ¬ Av' a → (∀ p ∈ ios, p.2 ≠ a) → Own G Av' H' a d → Q (.ref a) H')
  | .ex n d ds => ∀ C dx Av' H', EndC G Av H ios Av' H' ds → ExG G Av' H' n d C dx → E (.ref C) dx H'
  | .bad => False
/-- the arguments: a lent object, or shared data -/
def ArgOk (G : Gc) (Av : Addr → Prop) (H : Hp) (ios : List (Nat × Addr)) : Nat → List D → List V → Prop
  | _, [], vs => vs = []
  | i, d :: ds, vs => ∃ v r, vs = v :: r ∧ (if i ∈ ios.map (·.1) then ∃ a, (i, a) ∈ ios ∧ v = .ref a ∧ ¬ Av a ∧ Own G Av H a d else Rep G Av H d v) ∧ ArgOk G Av H ios (i + 1) ds r
def spD (G : Gc) (np : Nat) (io : List Nat) (g : List D → RD) : Sp := fun vs H Q E => ∃ (Av : Addr → Prop) (ds : List D) (ios : List (Nat × Addr)),
  vs.length = np ∧ Fresh H Av ∧ LamX.Tabs G.T H ∧ ios.map (·.1) = io ∧ (ios.map (·.2)).Nodup ∧ io.Nodup ∧ (∀ p ∈ ios, ¬ Av p.2 ∧ H p.2 ≠ none) ∧ (∀ i ∈ io, i < np) ∧ ArgOk G Av H ios 0 ds vs ∧ OutD G Av H ios Q E (g ds)
/-- a def keeps to its mirror -/
structure DFn (P : Program) (w : World) (K : PySem.W.Frag) (mg : Str → Option Value) (base : Heap) (T : List (Addr × Str)) (k : Nat) (f : Addr) (fd : FuncData) (ps : List Str) (io : List Nat) (g : List D → RD) : Prop where
  run : ∀ (A : Around) (outer : List Env) (s : Shared) (H : Hp) (args : Args) (us : List Value) (vs : List V) (Q : VK) (E : XK), Room k A → (20 ≤ k → A.guards = some []) → Env0 P w K mg base A outer s H → BindsTo s fd args (ps.zip us) → Vals vs us →
    spD ⟨K, mg, T⟩ ps.length io g vs H Q E → codeAny (model P w) A (.call (.ref f) args) (CR (L2.CX P w) outer P w H s Q E) s

/-! ### a def's body -/
section
variable {G : Gc} {Av : Addr → Prop} {H : Hp} {ios : List (Nat × Addr)}
theorem argOk_length : ∀ {ds : List D} {vs : List V} {i : Nat}, ArgOk G Av H ios i ds vs → vs.length = ds.length
  | [], vs, i, h => by rw [show vs = [] from h]; rfl
  | d :: ds, vs, i, ⟨v, r, e, _, h⟩ => by rw [e, List.length_cons, List.length_cons, argOk_length h]
theorem startAt_length (io : List Nat) : ∀ (ds : List D) (i : Nat), (startAt io i ds).length = ds.length
  | [], _ => rfl
  | d :: ds, i => by simp [startAt, startAt_length io ds (i + 1)]
theorem start_slot (hio : io' = ios.map (·.1)) : ∀ {ds : List D} {vs : List V} {i j : Nat} {z : SC}, ArgOk G Av H ios i ds vs → (startAt io' i ds)[j]? = some z →
    ∃ v, vs[j]? = some v ∧ ((∃ d, z = .sh d ∧ Rep G Av H d v) ∨ ∃ d a, z = .ow d ∧ (i + j, a) ∈ ios ∧ v = .ref a ∧ ¬ Av a ∧ Own G Av H a d)
  | [], vs, i, j, z, h, e => by simp [startAt] at e
  | d :: ds, vs, i, 0, z, ⟨v, r, ev, h1, h2⟩, e => by
    subst ev
    refine ⟨v, rfl, ?_⟩
    simp only [startAt, List.getElem?_cons_zero, Option.some.injEq] at e
    subst e
    rw [← hio] at h1
    by_cases q : i ∈ io'
    · rw [if_pos q] at h1 ⊢
      obtain ⟨a, h3, h4, h5, h6⟩ := h1
      exact .inr ⟨d, a, rfl, h3, h4, h5, h6⟩
    · rw [if_neg q] at h1 ⊢
      exact .inl ⟨d, rfl, h1⟩
  | d :: ds, vs, i, j + 1, z, ⟨v, r, ev, h1, h2⟩, e => by
    subst ev
    simp only [startAt, List.getElem?_cons_succ] at e
    obtain ⟨u, hu, w⟩ := start_slot hio h2 e
    refine ⟨u, by simpa using hu, ?_⟩
    have ea : i + 1 + j = i + (j + 1) := by omega
    rw [ea] at w
    exact w
end
theorem nodup_fst {α β : Type} {l : List (α × β)} (h : (l.map (·.1)).Nodup) {a : α} {b b' : β} (h1 : (a, b) ∈ l) (h2 : (a, b') ∈ l) : b = b' := by
  induction l with
  | nil => cases h1
  | cons p l ih =>
    rw [List.map_cons, List.nodup_cons] at h
    rcases List.mem_cons.mp h1 with e1 | h1 <;> rcases List.mem_cons.mp h2 with e2 | h2
    · rw [← e1] at e2; cases e2; rfl
    · exact absurd (by rw [← e1]; exact List.mem_map_of_mem (f := (·.1)) h2) h.1
    · exact absurd (by rw [← e2]; exact List.mem_map_of_mem (f := (·.1)) h1) h.1
    · exact ih h.2 h1 h2
theorem nodup_snd {α β : Type} {l : List (α × β)} (h : (l.map (·.2)).Nodup) {a a' : α} {b : β} (h1 : (a, b) ∈ l) (h2 : (a', b) ∈ l) : a = a' := by
  induction l with
  | nil => cases h1
  | cons p l ih =>
    rw [List.map_cons, List.nodup_cons] at h
    rcases List.mem_cons.mp h1 with e1 | h1 <;> rcases List.mem_cons.mp h2 with e2 | h2
    · rw [← e1] at e2; cases e2; rfl
    · exact absurd (by rw [← e1]; exact List.mem_map_of_mem (f := (·.2)) h2) h.1
    · exact absurd (by rw [← e2]; exact List.mem_map_of_mem (f := (·.2)) h1) h.1
    · exact ih h.2 h1 h2
/-- the owners at a def's entry -/
def rhoOf (ios : List (Nat × Addr)) (i : Nat) : Option Addr := ios.lookup i
theorem rhoOf_some {ios : List (Nat × Addr)} {i : Nat} {a : Addr} (h : rhoOf ios i = some a) : (i, a) ∈ ios := by
  unfold rhoOf at h
  induction ios with
  | nil => cases h
  | cons p l ih =>
    obtain ⟨j, b⟩ := p
    rw [List.lookup_cons] at h
    by_cases e : i = j
    · subst e; simp at h; subst h; exact List.mem_cons_self ..
    · rw [show (i == j) = false from by simpa using e] at h
      exact List.mem_cons_of_mem _ (ih h)
theorem rhoOf_mem {ios : List (Nat × Addr)} (hn : (ios.map (·.1)).Nodup) {i : Nat} {a : Addr} (h : (i, a) ∈ ios) : rhoOf ios i = some a := by
  cases q : rhoOf ios i with
  | some b => rw [nodup_fst hn (rhoOf_some q) h]
  | none =>
    exfalso
    unfold rhoOf at q
    induction ios with
    | nil => cases h
    | cons p l ih =>
      obtain ⟨j, b⟩ := p
      rw [List.lookup_cons] at q
      by_cases e : i = j
      · subst e; simp at q
      · rw [show (i == j) = false from by simpa using e] at q
        rcases List.mem_cons.mp h with w | w
        · cases w; exact e rfl
        · exact ih (by rw [List.map_cons, List.nodup_cons] at hn; exact hn.2) w q
section
variable {K : PySem.W.Frag} {mg : Str → Option Value} {T : List (Addr × Str)} {Av : Addr → Prop} {H : Hp} {ios : List (Nat × Addr)} {N ps : List Str} {ds : List D} {vs : List V} {io : List Nat}
theorem SR.start (hN : ps.length ≤ N.length) (hv : vs.length = ps.length) (fr : Fresh H Av) (htab : LamX.Tabs T H) (hio : ios.map (·.1) = io) (n2 : (ios.map (·.2)).Nodup) (n1 : io.Nodup) (hav : ∀ p ∈ ios, ¬ Av p.2 ∧ H p.2 ≠ none) (ha : ArgOk ⟨K, mg, T⟩ Av H ios 0 ds vs) :
    SR ⟨⟨K, mg, T⟩, H, Av, ios⟩ ⟨Av, rhoOf ios⟩ (L2.start N vs) H (startD N.length io ds) := by
  have hl := argOk_length ha
  have n1' : (ios.map (·.1)).Nodup := by rw [hio]; exact n1
  exact {
    len := by
      unfold L2.start startD
      simp only [List.length_append, List.length_map, List.length_replicate, startAt_length]
      omega
    base := fun a o h _ _ => h
    tab := htab
    trk := fun a h => h
    fr := fr
    av := fun a h => h
    a0 := fr
    ow := fun i a h => by
      have m := rhoOf_some h
      exact ⟨(hav _ m).1, (hav _ m).2, .inr ⟨_, m, rfl⟩⟩
    inj := fun i j a h1 h2 => nodup_snd n2 (rhoOf_some h1) (rhoOf_some h2)
    slot := fun i => by
      unfold startD
      by_cases hi : i < ds.length
      · rw [List.getElem?_append_left (by rw [startAt_length]; exact hi)]
        cases e : (startAt io 0 ds)[i]? with
        | none => trivial
        | some z =>
          obtain ⟨v, hv', w⟩ := start_slot (io' := io) hio.symm ha e
          have hs : (L2.start N vs)[i]? = some (some v) := by
            unfold L2.start
            rw [List.getElem?_append_left (by rw [List.length_map]; omega), List.getElem?_map, hv']; rfl
          rcases w with ⟨d, rfl, r⟩ | ⟨d, a, rfl, hm, rfl, nv, o⟩
          · exact ⟨v, hs, r⟩
          · rw [Nat.zero_add] at hm
            exact ⟨a, rhoOf_mem n1' hm, hs, o⟩
      · rw [List.getElem?_append_right (by rw [startAt_length]; omega)]
        cases e : (List.replicate (N.length - ds.length) SC.un)[i - (startAt io 0 ds).length]? with
        | none => trivial
        | some z =>
          rw [List.getElem?_replicate] at e
          split at e
          · cases e; trivial
          · cases e
    ios := fun p hp => rhoOf_mem n1' hp }
/-- the lent objects at the end -/
theorem ios_end {c : Ct} {x : Sx} {σ : L2.St} {H' : Hp} {Δ : SD} (sr : SR c x σ H' Δ) : ∀ {l : List (Nat × Addr)} {ds' : List D}, (∀ p ∈ l, p ∈ c.io) → iosOf Δ (l.map (·.1)) = some ds' → Paired (fun (p : Nat × Addr) (d : D) => ¬ x.Av p.2 ∧ Own c.toGc x.Av H' p.2 d) l ds'
  | [], ds', _, e => by cases e; exact .nil
  | p :: l, ds', hm, e => by
    rw [List.map_cons] at e
    unfold iosOf at e
    have sl := sr.slot p.1
    revert e sl
    cases Δ[p.1]? with
    | none => intro e; cases e
    | some z =>
      cases z with
      | un => intro e; cases e
      | sh d => intro e; cases e
      | ow d =>
        rintro e ⟨a, h0, _, o⟩
        dsimp only at e
        rw [Option.map_eq_some_iff] at e
        obtain ⟨es, e1, rfl⟩ := e
        have hp := sr.ios p (hm p (List.mem_cons_self ..))
        rw [hp] at h0
        cases h0
        exact .cons ⟨(sr.ow _ _ hp).1, o⟩ (ios_end sr (fun q hq => hm q (List.mem_cons_of_mem _ hq)) e1)
end
/-- where a def's body stands -/
abbrev cxD (P : Program) (w : World) (K : PySem.W.Frag) (mg : Str → Option Value) (base : Heap) (N : List Str) (qual : Str) (scope : Scope) (f : Addr) (cd : Value) (A : Around) (outer : List Env) (s : Shared) (H : Hp) (E : XK) : Cx := cxOf (L2.CX P w) P w K mg base N qual scope f cd A outer s H E
/-- a def by its body's mirror -/
theorem dfn_of {P : Program} {w : World} {K : PySem.W.Frag} {mg : Str → Option Value} {base : Heap} {T : List (Addr × Str)} {nm qual : Str} {st : Stmt} {f : Addr} {fd : FuncData} {N ps : List Str} {io : List Nat} {k : Nat} {fb : M Fl} (F : Fun K nm qual st f fd) (S : FnScope N ps (defScope st))
    (hb : ∀ (cd : Value) (A : Around) (outer : List Env) (s : Shared) (H : Hp) (E : XK) (c : Ct) (W : WX), Ok (cxD P w K mg base N qual (defScope st) f cd A outer s H E) c W k → c.T = T → c.io.map (·.1) = io → fd.code = cd → DB (cxD P w K mg base N qual (defScope st) f cd A outer s H E) c W (defBody st) fb) :
    DFn P w K mg base T (k + 1) f fd ps io (mDef N.length io fb) := by
  obtain ⟨oc, od, kV, doc, pm, an, cdv, ct, osl, rfl, lk, hcd⟩ := F.ex
  constructor
  intro A outer s H args us vs Q E room guards env0 hbind hvals ⟨Av, ds, ios, hvl, fresh, htab, hio, n2, n1, hav, hlt, harg, hout⟩
  have KX : K.In s.heap := env0.mod.kin.keeps fun b o e => (env0.bs b o e).1
  have nolim : s.heap.NoLimit := env0.mod.nolimit.keeps fun b o e => (env0.bs b o e).1
  have hkinds : ∀ y ∈ ps.zip us, (defScope st).names.lookup y.1 = some .local ∨ ((defScope st).names.lookup y.1 = some .cell ∧ ((cellsFrom (s.heap.objs.size + 1) (defScope st).names []).lookup y.1).isSome = true) := by
    rintro ⟨a, b⟩ hy
    exact (S.par a (List.of_mem_zip hy).1).imp id fun q => ⟨q, PySem.W.cellsFrom_some _ _ _ (.inl q)⟩
  have hNp : ps.length ≤ N.length := by
    have z := congrArg List.length S.pre
    rw [List.length_take] at z
    omega
  refine codeAny_call_function room.depth (KX _ _ lk) rfl S.co S.gen rfl (PySem.W.codeRec_of KX hcd) (hbind _ _ _ _ ?_)
  refine wpAny_newFunctionEnv_cells S.kind hkinds fun env henv s1 inc => ?_
  subst henv
  refine ⟨nolim.keeps inc.toInCall.keep, codeAny_func ?_⟩
  have I : Inv (cxD P w K mg base N qual (defScope st) f cdv A outer s H E) [] (L2.start N vs) H s1 := inv_start S room.hd env0 hvl hvals inc
  have ok : Ok (cxD P w K mg base N qual (defScope st) f cdv A outer s H E) ⟨⟨K, mg, T⟩, H, Av, ios⟩ (fun cls d _ H => E cls d H) k := ⟨rfl, rfl, rfl, room.deeper _, fun h => guards (Nat.le_succ_of_le h), takes_of rfl rfl rfl rfl, passes_of rfl, S.nd⟩
  obtain ⟨t, pt, snd⟩ := (hb cdv A outer s H E ⟨⟨K, mg, T⟩, H, Av, ios⟩ _ ok rfl hio rfl).out
  have sr : SR ⟨⟨K, mg, T⟩, H, Av, ios⟩ ⟨Av, rhoOf ios⟩ (L2.start N vs) H (startD N.length io ds) := SR.start hNp hvl fresh htab hio n2 n1 hav harg
  -- what a mirror's end means to the caller
  have endc : ∀ {σ' x' H' Δ' ds'}, Kp ⟨Av, rhoOf ios⟩ H x' H' → SR ⟨⟨K, mg, T⟩, H, Av, ios⟩ x' σ' H' Δ' → iosOf Δ' io = some ds' → EndC ⟨K, mg, T⟩ Av H ios x'.Av H' ds' := fun {σ' x' H' Δ' ds'} kp sr' e =>
    ⟨sr'.base, sr'.tab, sr'.trk, sr'.av, kp.av, sr'.fr, ios_end (c := ⟨⟨K, mg, T⟩, H, Av, ios⟩) sr' (fun _ h => h) (by rw [hio]; exact e)⟩
  have goal : t { nx := fun _ H' => Q .non H', rt := Q } (L2.start N vs) H := by
    refine snd _ _ _ _ _ sr ?_
    unfold mDef at hout
    cases eb : fb (startD N.length io ds) with
    | bad => rw [eb] at hout; exact hout
    | ex n d Δ' =>
      rw [eb] at hout
      dsimp only at hout
      cases ei : iosOf Δ' io with
      | none => rw [ei] at hout; exact hout.elim
      | some ds' =>
        rw [ei] at hout
        exact fun C dx σ' x' H' kp sr' xr => hout C dx x'.Av H' (endc kp sr' ei) xr
    | ok fl Δ' =>
      rw [eb] at hout
      dsimp only at hout
      cases ei : iosOf Δ' io with
      | none => rw [ei] at hout; exact hout.elim
      | some ds' =>
        rw [ei] at hout
        cases fl with
        | nx => exact fun σ' x' H' kp sr' => hout.1 rfl .non x'.Av H' (endc kp sr' ei) mk_non
        | bk => exact hout.elim
        | ct => exact hout.elim
        | rt d => exact fun v σ' x' H' kp sr' r => hout.1 rfl v x'.Av H' (endc kp sr' ei) r
        | rf d => exact fun a σ' x' H' kp sr' h0 nv nr o => hout.2 rfl a x'.Av H' (endc kp sr' ei) h0 nv (fun p hp z => nr p.1 (by rw [← z]; exact sr'.ios p hp)) o
  refine wpAny_mono (pt.run [] s1 (L2.start N vs) H _ I goal) (fun fl s' hs => ?_) fun e s' hs => hs
  have fin : ∀ {σ' : L2.St} {H' : Hp} {v : V} {u : Value}, Inv (cxD P w K mg base N qual (defScope st) f cdv A outer s H E) [] σ' H' s' → RelV v u → Q v H' → CE outer P w H s Q u s' := fun {σ' H' v u} J r q => ⟨v, H', J.os, J.bare, J.base, J.hok, r, q⟩
  cases fl with
  | ret u =>
    obtain ⟨v, σ', H', J, r, q⟩ := hs
    exact fin J r q
  | next =>
    obtain ⟨σ', H', J, q⟩ := hs
    exact fin (v := .non) (u := .none) J rfl q
  | brk => exact hs.elim fun _ z => z.elim fun _ z => z.2.elim
  | cont => exact hs.elim fun _ z => z.elim fun _ z => z.2.elim
end DL

namespace DL
open PySem L2 PySem.Spec PyProof.Rows

/-- the data of a call's arguments, the lent slots with their places -/
def callArgs (io : List Nat) (Δ : SD) : Nat → List AK → Option (List D × List (Nat × Nat))
  | _, [] => some ([], [])
  | j, a :: as => (callArgs io Δ (j + 1) as).bind fun r =>
    if j ∈ io then (match a with
      | .s i => (match Δ[i]? with
        | some (.ow d) => if i ∈ r.2.map (·.2) then none else some (d :: r.1, (j, i) :: r.2)
        | _ => none)
      | .v _ => none)
    else (match a with
      | .v d => some (d :: r.1, r.2)
      | .s i => (match Δ[i]? with
        | some (.sh d) => some (d :: r.1, r.2)
        | _ => none))
def setOws : SD → List Nat → List D → Option SD
  | Δ, [], [] => some Δ
  | Δ, i :: is, d :: ds => setOws (Δ.set i (.ow d)) is ds
  | _, _, _ => none
/-- what a call answers: the value, whether it is new, the state -/
def callRes (np : Nat) (io : List Nat) (g : List D → RD) (as : List AK) : M (D × Bool) := fun Δ => if as.length = np then (match callArgs io Δ 0 as with
  | some r => if r.2.map (·.1) = io then (match g r.1 with
    | .ok d fr es => (match setOws Δ (r.2.map (·.2)) es with
      | some Δ' => .ok (d, fr) Δ'
      | none => .bad)
    | .ex n d es => (match setOws Δ (r.2.map (·.2)) es with
      | some Δ' => .ex n d Δ'
      | none => .bad)
    | .bad => .bad) else .bad
  | none => .bad) else .bad
def mCall (np : Nat) (io : List Nat) (g : List D → RD) (f : M (List AK)) : M D := mBind f fun as => mBind (callRes np io g as) fun r => mPure r.1
def mCallN (np : Nat) (io : List Nat) (g : List D → RD) (f : M (List AK)) : M D := mBind f fun as => mBind (callRes np io g as) fun r => if r.2 = true then mPure r.1 else mBad

theorem setOws_at : ∀ {is : List Nat} {es : List D} {Δ Δ2 : SD}, setOws Δ is es = some Δ2 → is.Nodup → Δ2.length = Δ.length ∧ (∀ i, i ∉ is → Δ2[i]? = Δ[i]?) ∧ ∀ i e, (i, e) ∈ is.zip es → i < Δ.length → Δ2[i]? = some (.ow e)
  | [], [], Δ, Δ2, h, _ => by cases h; exact ⟨rfl, fun _ _ => rfl, fun _ _ h => (nomatch h)⟩
  | [], _ :: _, Δ, Δ2, h, _ => by cases h
  | _ :: _, [], Δ, Δ2, h, _ => by cases h
  | i :: is, d :: ds, Δ, Δ2, h, nd => by
    rw [List.nodup_cons] at nd
    obtain ⟨h1, h2, h3⟩ := setOws_at (show setOws (Δ.set i (.ow d)) is ds = some Δ2 from h) nd.2
    rw [List.length_set] at h1
    refine ⟨h1, fun j hj => ?_, fun j e hm hl => ?_⟩
    · rw [h2 j fun q => hj (List.mem_cons_of_mem _ q), List.getElem?_set_ne (fun z => hj (by rw [z]; exact List.mem_cons_self ..))]
    · rw [List.zip_cons_cons] at hm
      rcases List.mem_cons.mp hm with z | z
      · cases z
        rw [h2 i nd.1, List.getElem?_set_self hl]
      · exact h3 j e z (by rw [List.length_set]; exact hl)
theorem setOws_len : ∀ {is : List Nat} {es : List D} {Δ Δ2 : SD}, setOws Δ is es = some Δ2 → es.length = is.length
  | [], [], _, _, _ => rfl
  | [], _ :: _, _, _, h => by cases h
  | _ :: _, [], _, _, h => by cases h
  | i :: is, d :: ds, Δ, Δ2, h => by rw [List.length_cons, List.length_cons, setOws_len (show setOws (Δ.set i (.ow d)) is ds = some Δ2 from h)]

section
variable {c : Ct} {x : Sx} {σ : L2.St} {H H' : Hp} {Δ Δ2 : SD} {io : List Nat}
/-- the address that a slot owns -/
def adr (x : Sx) (i : Nat) : Addr := (x.ρ i).getD 0
def iosL (x : Sx) (ls : List (Nat × Nat)) : List (Nat × Addr) := ls.map fun p => (p.1, adr x p.2)
theorem iosL_fst (x : Sx) (ls : List (Nat × Nat)) : (iosL x ls).map (·.1) = ls.map (·.1) := by simp [iosL, List.map_map, Function.comp_def]
theorem args_own (s : SR c x σ H Δ) : ∀ {as : List AK} {j : Nat} {ds : List D} {ls : List (Nat × Nat)}, callArgs io Δ j as = some (ds, ls) → (∀ p ∈ ls, ∃ d, Δ[p.2]? = some (.ow d) ∧ x.ρ p.2 = some (adr x p.2)) ∧ (ls.map (·.2)).Nodup
  | [], j, ds, ls, h => by cases h; exact ⟨fun _ h => (nomatch h), List.nodup_nil⟩
  | a :: as, j, ds, ls, h => by
    unfold callArgs at h
    rw [Option.bind_eq_some_iff] at h
    obtain ⟨⟨ds', ls'⟩, h1, h2⟩ := h
    obtain ⟨q1, q2⟩ := args_own s h1
    split at h2
    · cases a with
      | v d => cases h2
      | s i =>
        dsimp only at h2
        have sl := s.slot i
        revert h2 sl
        cases e : Δ[i]? with
        | none => intro h2; cases h2
        | some z =>
          cases z with
          | un => intro h2; cases h2
          | sh d => intro h2; cases h2
          | ow d =>
            rintro h2 ⟨b, h0, _, _⟩
            dsimp only at h2
            split at h2
            · cases h2
            · rename_i hni
              cases h2
              refine ⟨fun p hp => ?_, ?_⟩
              · rcases List.mem_cons.mp hp with z | z
                · cases z
                  exact ⟨d, e, by unfold adr; rw [h0]; rfl⟩
                · exact q1 p z
              · rw [List.map_cons, List.nodup_cons]
                exact ⟨hni, q2⟩
    · cases a with
      | v d => cases h2; exact ⟨q1, q2⟩
      | s i =>
        dsimp only at h2
        split at h2
        · cases h2; exact ⟨q1, q2⟩
        · cases h2
theorem args_ok (s : SR c x σ H Δ) {L : List (Nat × Nat)} (hL : L.map (·.1) = io) : ∀ {as : List AK} {vs : List V} {j : Nat} {ds : List D} {ls : List (Nat × Nat)}, callArgs io Δ j as = some (ds, ls) → (∀ p ∈ ls, p ∈ L) → AKsOk c x σ H as vs → ArgOk c.toGc x.Av H (iosL x L) j ds vs
  | [], vs, j, ds, ls, h, _, ha => by cases h; exact ha
  | a :: as, vs, j, ds, ls, h, hs, ⟨v, r, ev, h1, h2⟩ => by
    unfold callArgs at h
    rw [Option.bind_eq_some_iff] at h
    obtain ⟨⟨ds', ls'⟩, h3, h4⟩ := h
    have fst : (iosL x L).map (·.1) = io := by rw [iosL_fst, hL]
    split at h4
    · rename_i hj
      cases a with
      | v d => cases h4
      | s i =>
        dsimp only at h4
        have sl := s.slot i
        revert h4 sl
        cases e : Δ[i]? with
        | none => intro h4; cases h4
        | some z =>
          cases z with
          | un => intro h4; cases h4
          | sh d => intro h4; cases h4
          | ow d =>
            rintro h4 ⟨b, h0, hb, o⟩
            dsimp only at h4
            split at h4
            · cases h4
            · cases h4
              have hv : σ[i]? = some (some v) := h1
              rw [hb] at hv; cases hv
              refine ⟨.ref b, r, ev, ?_, args_ok s hL h3 (fun p hp => hs p (List.mem_cons_of_mem _ hp)) h2⟩
              rw [if_pos (by rw [fst]; exact hj)]
              refine ⟨b, ?_, rfl, (s.ow i b h0).1, o⟩
              have hm := hs (j, i) (List.mem_cons_self ..)
              have hm2 : (j, adr x i) ∈ iosL x L := List.mem_map_of_mem (f := fun p : Nat × Nat => (p.1, adr x p.2)) hm
              have ea : adr x i = b := by unfold adr; rw [h0]; rfl
              rw [ea] at hm2
              exact hm2
    · rename_i hj
      cases a with
      | v d =>
        cases h4
        refine ⟨v, r, ev, ?_, args_ok s hL h3 hs h2⟩
        rw [if_neg (by rw [fst]; exact hj)]
        exact h1
      | s i =>
        dsimp only at h4
        have sl := s.slot i
        revert h4 sl
        cases e : Δ[i]? with
        | none => intro h4; cases h4
        | some z =>
          cases z with
          | un => intro h4; cases h4
          | ow d => intro h4; cases h4
          | sh d =>
            rintro h4 ⟨v', hb, rr⟩
            cases h4
            have hv : σ[i]? = some (some v) := h1
            rw [hb] at hv; cases hv
            refine ⟨v, r, ev, ?_, args_ok s hL h3 hs h2⟩
            rw [if_neg (by rw [fst]; exact hj)]
            exact rr
theorem args_lt : ∀ {as : List AK} {j : Nat} {ds : List D} {ls : List (Nat × Nat)}, callArgs io Δ j as = some (ds, ls) → (∀ p ∈ ls, p.1 < j + as.length) ∧ (ls.map (·.1)).Nodup ∧ ∀ p ∈ ls, j ≤ p.1
  | [], j, ds, ls, h => by cases h; exact ⟨fun _ h => (nomatch h), List.nodup_nil, fun _ h => (nomatch h)⟩
  | a :: as, j, ds, ls, h => by
    unfold callArgs at h
    rw [Option.bind_eq_some_iff] at h
    obtain ⟨⟨ds', ls'⟩, h1, h2⟩ := h
    obtain ⟨q1, q2, q3⟩ := args_lt h1
    have same : ls = ls' → (∀ p ∈ ls, p.1 < j + (a :: as).length) ∧ (ls.map (·.1)).Nodup ∧ ∀ p ∈ ls, j ≤ p.1 := fun e => by
      subst e
      exact ⟨fun p hp => by have := q1 p hp; rw [List.length_cons]; omega, q2, fun p hp => by have := q3 p hp; omega⟩
    split at h2
    · cases a with
      | v d => cases h2
      | s i =>
        dsimp only at h2
        split at h2
        · split at h2
          · cases h2
          · cases h2
            refine ⟨fun p hp => ?_, ?_, fun p hp => ?_⟩
            · rcases List.mem_cons.mp hp with z | z
              · cases z; rw [List.length_cons]; dsimp only; omega
              · have := q1 p z; rw [List.length_cons]; omega
            · rw [List.map_cons, List.nodup_cons]
              refine ⟨fun z => ?_, q2⟩
              obtain ⟨p, hp, e⟩ := List.mem_map.mp z
              have := q3 p hp
              rw [e] at this
              dsimp only at this
              omega
            · rcases List.mem_cons.mp hp with z | z
              · cases z; exact Nat.le_refl _
              · have := q3 p z; omega
        · cases h2
    · cases a with
      | v d => cases h2; exact same rfl
      | s i =>
        dsimp only at h2
        split at h2
        · cases h2; exact same rfl
        · cases h2
theorem nodup_map_inj {α β : Type} {f : α → β} : ∀ {l : List α}, (∀ a ∈ l, ∀ b ∈ l, f a = f b → a = b) → l.Nodup → (l.map f).Nodup
  | [], _, _ => List.nodup_nil
  | a :: l, h, n => by
    rw [List.nodup_cons] at n
    rw [List.map_cons, List.nodup_cons]
    refine ⟨fun z => ?_, nodup_map_inj (fun b hb d hd => h b (List.mem_cons_of_mem _ hb) d (List.mem_cons_of_mem _ hd)) n.2⟩
    obtain ⟨b, hb, e⟩ := List.mem_map.mp z
    exact n.1 (h b (List.mem_cons_of_mem _ hb) a (List.mem_cons_self ..) e ▸ hb)
theorem nodup_of_map {α β : Type} {f : α → β} : ∀ {l : List α}, (l.map f).Nodup → l.Nodup
  | [], _ => List.nodup_nil
  | a :: l, n => by
    rw [List.map_cons, List.nodup_cons] at n
    rw [List.nodup_cons]
    exact ⟨fun z => n.1 (List.mem_map_of_mem (f := f) z), nodup_of_map n.2⟩
/-- the state behind a call -/
theorem SR.called (s : SR c x σ H Δ) {ls : List (Nat × Nat)} (hown : ∀ p ∈ ls, ∃ d, Δ[p.2]? = some (.ow d) ∧ x.ρ p.2 = some (adr x p.2)) (nd : (ls.map (·.2)).Nodup) {Av' : Addr → Prop} {es : List D} (e : EndC c.toGc x.Av H (iosL x ls) Av' H' es) (hs : setOws Δ (ls.map (·.2)) es = some Δ2) :
    Kp x H ⟨Av', x.ρ⟩ H' ∧ SR c ⟨Av', x.ρ⟩ σ H' Δ2 := by
  obtain ⟨l1, l2, l3⟩ := setOws_at hs nd
  have mem : ∀ {p}, p ∈ iosL x ls → ∃ i, i ∈ ls.map (·.2) ∧ x.ρ i = some p.2 := fun {p} hp => by
    obtain ⟨q, hq, rfl⟩ := List.mem_map.mp hp
    obtain ⟨d, _, h⟩ := hown q hq
    exact ⟨q.2, List.mem_map_of_mem (f := (·.2)) hq, h⟩
  have notIo : ∀ {a}, (∀ i, x.ρ i ≠ some a) → ∀ p ∈ iosL x ls, p.2 ≠ a := fun {a} n p hp z => by
    obtain ⟨i, _, h⟩ := mem hp
    exact n i (by rw [h, z])
  have kp : Keep c.toGc x.Av Av' H H' := by
    have nv : ∀ {a}, x.Av a → ∀ p ∈ iosL x ls, p.2 ≠ a := fun ha => notIo (s.notOwned ha)
    exact ⟨fun a u ha f h => by
      rcases h with h | ⟨o, h⟩
      · exact .inl (e.keep a _ h f (nv ha))
      · exact .inr ⟨o, e.keep a _ h fx_frz (nv ha)⟩, fun a v ha h => e.keep a _ h fx_lst (nv ha), fun a v ha h => e.keep a _ h fx_tup (nv ha), fun a C dx us ha h => e.keep a _ h fx_ins (nv ha),
      fun a u ha h => e.av a ha (by rcases h with h | ⟨o, h⟩ <;> (rw [h]; intro q; cases q))⟩
  refine ⟨⟨fun a o h f n => e.keep a o h f (notIo n), e.trk, fun i a h => .inl ⟨i, h⟩, e.av, fun a h => .inl (e.sub a h)⟩, ?_⟩
  exact {
    len := by rw [l1]; exact s.len
    tab := e.tab
    base := fun a o h f n => e.keep a o (s.base a o h f n) f fun p hp z => by
      obtain ⟨i, _, hi⟩ := mem hp
      rw [z] at hi
      rcases (s.ow i a hi).2.2 with q | ⟨p', hp', q⟩
      · rw [q] at h; cases h
      · exact n p' hp' q
    trk := fun a h => s.trk a (e.trk a h)
    fr := e.fr
    av := fun a h => s.av a (e.sub a h)
    a0 := s.a0
    ow := fun i a h => ⟨fun q => (s.ow i a h).1 (e.sub a q), fun q => (s.ow i a h).2.1 (e.trk a q), (s.ow i a h).2.2⟩
    inj := s.inj
    slot := fun i => by
      by_cases hi : i ∈ ls.map (·.2)
      · obtain ⟨p, hp, rfl⟩ := List.mem_map.mp hi
        obtain ⟨d, hd, hr⟩ := hown p hp
        have sl := s.slot p.2
        rw [hd] at sl
        obtain ⟨a, h0, h1, h2⟩ := sl
        rw [hr] at h0; cases h0
        -- its new content
        have key : ∀ {ls : List (Nat × Nat)} {es : List D}, Paired (fun (p : Nat × Addr) (d : D) => ¬ Av' p.2 ∧ Own c.toGc Av' H' p.2 d) (iosL x ls) es → p ∈ ls → ∃ e', (p.2, e') ∈ (ls.map (·.2)).zip es ∧ Own c.toGc Av' H' (adr x p.2) e' := by
          intro ls
          induction ls with
          | nil => intro es _ hp; cases hp
          | cons q ls ih =>
            intro es pr hp
            cases pr with
            | cons h1 h2 =>
              rcases List.mem_cons.mp hp with z | z
              · subst z
                exact ⟨_, List.mem_cons_self .., h1.2⟩
              · obtain ⟨e', m, o⟩ := ih h2 z
                exact ⟨e', List.mem_cons_of_mem _ m, o⟩
        obtain ⟨e', m, o⟩ := key e.own hp
        rw [l3 p.2 e' m (List.getElem?_eq_some_iff.mp hd).1]
        exact ⟨adr x p.2, hr, h1, o⟩
      · rw [l2 i hi]
        have sl := s.slot i
        revert sl
        cases Δ[i]? with
        | none => intro _; trivial
        | some z =>
          cases z with
          | un => intro _; trivial
          | sh d => exact fun ⟨v, h1, h2⟩ => ⟨v, h1, h2.keep kp⟩
          | ow d =>
            rintro ⟨a, h0, h1, h2⟩
            refine ⟨a, h0, h1, ?_⟩
            have na : ∀ p ∈ iosL x ls, p.2 ≠ a := fun p hp z => by
              obtain ⟨j, hj, hr⟩ := mem hp
              rw [z] at hr
              exact hi (s.inj _ _ _ h0 hr ▸ hj)
            show Own c.toGc Av' H' a d
            cases d <;> first
              | exact h2.elim
              | (obtain ⟨us, q1, q2⟩ := h2; exact ⟨us, e.keep _ _ q1 (by first | exact fx_lst | exact fx_dK | exact fx_dT | exact fx_nd) na, q2.keep kp⟩)
              | (obtain ⟨C, dx, us, q0, q1, q2⟩ := h2; exact ⟨C, dx, us, q0, e.keep _ _ q1 fx_ins na, q2.keep kp⟩)
    ios := s.ios }
end

/-! ### the rules -/
def tF (c : Ct) (W : WX) (f : M D) : TE := fun σ H Q => ∃ x Δ, SR c x σ H Δ ∧ Post c W x σ H (okF c x σ H Q) (f Δ)
theorem DF.pe {X : Cx} {c : Ct} {W : WX} {e : Expr} {f : M D} (h : DF X c W e f) : PE X e (tF c W f) := by
  obtain ⟨t, p, s⟩ := h.out
  exact ⟨fun pins st σ H Q I ⟨x, Δ, sr, q⟩ => p.run pins st σ H Q I (s x σ H Δ Q sr q)⟩
theorem DE.of {X : Cx} {c : Ct} {W : WX} {e : Expr} {f : M D} (h : PE X e (tE c W f)) : DE X c W e f := ⟨_, h, fun x _ _ Δ _ sr q => ⟨x, Δ, sr, q⟩⟩
theorem DF.of {X : Cx} {c : Ct} {W : WX} {e : Expr} {f : M D} (h : PE X e (tF c W f)) : DF X c W e f := ⟨_, h, fun x _ _ Δ _ sr q => ⟨x, Δ, sr, q⟩⟩
section
variable {X : Cx} {c : Ct} {W : WX} {k kf : Nat} {f : Addr} {fd : FuncData} {ps : List Str} {io : List Nat} {g : List D → RD}
/-- the callee runs -/
theorem run_dfn {pins : List (Addr × Obj)} {σ : L2.St} {H : Hp} {s : Shared} {Q : VK} {us : List Value} {vs : List V} (F : DFn X.prog X.w X.K X.mg X.base c.T kf f fd ps io g) (o : Ok X c W k) (hk : kf ≤ k) (hb : Binds X.K fd ps []) (I : Inv X pins σ H s) (r : Vals vs us)
    (h : spD ⟨X.K, X.mg, c.T⟩ ps.length io g vs H Q (fun cls d H' => W cls d σ H')) : wpAny (model X.prog X.w) X.A (call (.ref f) us) (EP X pins σ Q) X.xe s := by
  have hl : us.length = ps.length := by
    obtain ⟨_, _, _, e, _⟩ := h
    rw [← r.length, e]
  have hbind := hb s us I.kIn (by rw [List.append_nil]; exact hl)
  rw [List.append_nil] at hbind
  refine wpAny_call (codeAny_mono (F.run X.A X.stack s H ⟨us, []⟩ us vs Q _ (o.room.mono hk) (fun h => o.gd (by omega)) I.env0 hbind r h) fun res s' hq => ?_)
  cases res with
  | error e => exact o.tk _ _ (XE.of_call I (fun _ _ _ z => z) hq)
  | ok fl =>
    cases fl with
    | ret u => exact I.after hq
    | next => exact hq.elim
    | brk => exact hq.elim
    | cont => exact hq.elim
theorem aks_len {x : Sx} {σ : L2.St} {H : Hp} : ∀ {as : List AK} {vs : List V}, AKsOk c x σ H as vs → vs.length = as.length
  | [], vs, h => by rw [show vs = [] from h]; rfl
  | a :: as, vs, ⟨v, r, e, _, h⟩ => by rw [e, List.length_cons, List.length_cons, aks_len h]
/-- what a call asks of the callee, at the state behind the arguments -/
theorem call_sp {x : Sx} {σ : L2.St} {H : Hp} {Δ : SD} {Q : VK} {ok : D × Bool → SD → Prop} {as : List AK} {vs : List V} (hG : c.toGc = ⟨X.K, X.mg, c.T⟩) (sr : SR c x σ H Δ) (ha : AKsOk c x σ H as vs)
    (q : Post c W x σ H ok (callRes ps.length io g as Δ))
    (hV : ∀ d Δ2, ok (d, false) Δ2 → okV c x σ H Q d Δ2) (hF : ∀ d Δ2, ok (d, true) Δ2 → okF c x σ H Q d Δ2) : spD ⟨X.K, X.mg, c.T⟩ ps.length io g vs H Q (fun cls d H' => W cls d σ H') := by
  rw [← hG]
  unfold callRes at q
  by_cases hn : as.length = ps.length
  case neg => rw [if_neg hn] at q; exact q.elim
  rw [if_pos hn] at q
  cases ec : callArgs io Δ 0 as with
  | none => rw [ec] at q; exact q.elim
  | some r =>
    obtain ⟨ds, ls⟩ := r
    rw [ec] at q
    dsimp only at q
    by_cases hio : ls.map (·.1) = io
    case neg => rw [if_neg hio] at q; exact q.elim
    rw [if_pos hio] at q
    obtain ⟨own, nd⟩ := args_own sr ec
    obtain ⟨lt, nd1, _⟩ := args_lt ec
    have alen := aks_len ha
    refine ⟨x.Av, ds, iosL x ls, by rw [alen, hn], sr.fr, sr.tab, by rw [iosL_fst, hio], ?_, by rw [← hio]; exact nd1, fun p hp => ?_, fun i hi => ?_, args_ok sr hio ec (fun _ h => h) ha, ?_⟩
    · have e : (iosL x ls).map (·.2) = (ls.map (·.2)).map (adr x) := by simp [iosL, List.map_map, Function.comp_def]
      rw [e]
      refine nodup_map_inj (fun i hi j hj e => ?_) nd
      obtain ⟨p, hp, rfl⟩ := List.mem_map.mp hi
      obtain ⟨p', hp', rfl⟩ := List.mem_map.mp hj
      obtain ⟨_, _, h1⟩ := own p hp
      obtain ⟨_, _, h2⟩ := own p' hp'
      rw [← e] at h2
      exact sr.inj _ _ _ h1 h2
    · obtain ⟨p', hp', rfl⟩ := List.mem_map.mp hp
      obtain ⟨_, _, h1⟩ := own p' hp'
      exact ⟨(sr.ow _ _ h1).1, (sr.ow _ _ h1).2.1⟩
    · rw [← hio] at hi
      obtain ⟨p, hp, rfl⟩ := List.mem_map.mp hi
      have := lt p hp
      omega
    · cases eg : g ds with
      | bad => rw [eg] at q; exact q.elim
      | ex n d es =>
        rw [eg] at q
        dsimp only at q
        cases es' : setOws Δ (ls.map (·.2)) es with
        | none => rw [es'] at q; exact q.elim
        | some Δ2 =>
          rw [es'] at q
          intro C dx Av' H' e xr
          obtain ⟨k, s2⟩ := sr.called own nd e es'
          exact q C dx _ H' k s2 xr
      | ok d fr es =>
        rw [eg] at q
        dsimp only at q
        cases es' : setOws Δ (ls.map (·.2)) es with
        | none => rw [es'] at q; exact q.elim
        | some Δ2 =>
          rw [es'] at q
          refine ⟨fun hfr v Av' H' e r => ?_, fun hfr a Av' H' e h0 nv na o => ?_⟩
          · obtain ⟨k, s2⟩ := sr.called own nd e es'
            subst hfr
            exact hV d Δ2 q v _ H' k s2 r
          · obtain ⟨k, s2⟩ := sr.called own nd e es'
            subst hfr
            exact hF d Δ2 q a _ H' k s2 (sr.trk a h0) h0 nv (fun i z => (sr.ow i a z).2.1 h0) o
theorem okF.okV {x : Sx} {σ : L2.St} {H : Hp} {Q : VK} {d : D} {Δ : SD} (h : okV c x σ H Q d Δ) : okF c x σ H Q d Δ := fun a x' H' k s h0 h1 nv nr o =>
  h (.ref a) ⟨fun b => x'.Av b ∨ b = a, x'.ρ⟩ H' ⟨k.frame, k.trk, k.own, fun b hb n => .inl (k.av b hb n), fun b hb => hb.elim (k.avb b) fun e => .inr (.inl (e ▸ h1))⟩ (s.share nr (s.a0 a h0)) o.rep
variable {nm : Str} {p pos : Pos} {e : Expr} {es : List Expr} {fs : M (List AK)}
/-- the arguments, then the callee -/
theorem pe_dcall {t : TA} {T : TE} (F : DFn X.prog X.w X.K X.mg X.base c.T kf f fd ps io g) (o : Ok X c W k) (hk : kf ≤ k) (hg : Gl X nm) (hm : X.mg nm = some (.ref f)) (hkp : PySem.W.keepIn X.K (.ref f) = true) (hb : Binds X.K fd ps []) (pa : PA X (e :: es) t)
    (hT : ∀ σ H Q, T σ H Q → t σ H fun vs H1 => spD ⟨X.K, X.mg, c.T⟩ ps.length io g vs H1 Q fun cls d H' => W cls d σ H')
    (hdb : (nm == ("__debug__" : Str)) = false := by decide) (he : starEach (e :: es) X.env = (false, eval e X.env) :: starEach es X.env := by rfl) (hpl : (backTo pos (starEach es X.env)).any (·.1) = false := by rfl) : PE X (.Call (.Name nm p) (e :: es) [] pos) T := by
  constructor
  intro pins s σ H Q I h
  refine wpAny_Call_Name_kw (ld_glob I hg hm ?_ hdb)
  have args := thn (pa.run pos pins s σ H _ I (hT σ H Q h)) fun us s1 ⟨vs, H1, I1, r, q⟩ =>
    (⟨I1.kIn, run_dfn F o hk hb I1 r q⟩ : X.K.In s1.heap ∧ wpAny (model X.prog X.w) X.A (call (.ref f) ([] ++ us)) (EP X pins σ Q) X.xe s1)
  exact PySem.W.callWith_K (h₀ := X.base) I.ok.mod.kin hkp args he hpl
theorem pe_dcall0 {T : TE} (F : DFn X.prog X.w X.K X.mg X.base c.T kf f fd ps io g) (o : Ok X c W k) (hk : kf ≤ k) (hg : Gl X nm) (hm : X.mg nm = some (.ref f)) (hkp : PySem.W.keepIn X.K (.ref f) = true) (hb : Binds X.K fd ps [])
    (hT : ∀ σ H Q, T σ H Q → spD ⟨X.K, X.mg, c.T⟩ ps.length io g [] H Q fun cls d H' => W cls d σ H')
    (hdb : (nm == ("__debug__" : Str)) = false := by decide) : PE X (.Call (.Name nm p) [] [] pos) T := by
  constructor
  intro pins s σ H Q I h
  refine wpAny_Call_Name_kw (ld_glob I hg hm ?_ hdb)
  exact PySem.W.callWith_K0 I.kIn hkp (run_dfn (us := []) F o hk hb I .nil (hT σ H Q h))
theorem post_call {α : Type} {x : Sx} {σ : L2.St} {H : Hp} {Δ : SD} {okr : α → SD → Prop} {m : M (D × Bool)} {kk : D × Bool → M α} (q : Post c W x σ H okr (mBind m kk Δ)) : Post c W x σ H (fun r Δ2 => Post c W x σ H okr (kk r Δ2)) (m Δ) := q.bind fun _ _ z => z
section
variable (F : DFn X.prog X.w X.K X.mg X.base c.T kf f fd ps io g) (o : Ok X c W k) (hk : kf ≤ k) (hg : Gl X nm) (hm : X.mg nm = some (.ref f)) (hkp : PySem.W.keepIn X.K (.ref f) = true) (hb : Binds X.K fd ps [])
theorem gc_eq (o : Ok X c W k) : c.toGc = ⟨X.K, X.mg, c.T⟩ := by
  obtain ⟨⟨K, mg, T⟩, _, _, _⟩ := c
  have h1 : K = X.K := o.hK
  have h2 : mg = X.mg := o.hmg
  rw [h1, h2]
include F o hk hg hm hkp hb
theorem de_call (ha : DA X c W (e :: es) fs) (hdb : (nm == ("__debug__" : Str)) = false := by decide) (he : starEach (e :: es) X.env = (false, eval e X.env) :: starEach es X.env := by rfl) (hpl : (backTo pos (starEach es X.env)).any (·.1) = false := by rfl) :
    DE X c W (.Call (.Name nm p) (e :: es) [] pos) (mCall ps.length io g fs) := by
  obtain ⟨t, pa, sa⟩ := ha.out
  refine DE.of (pe_dcall F o hk hg hm hkp hb pa (fun σ H Q ⟨x, Δ, sr, q⟩ => ?_) hdb he hpl)
  refine sa x σ H Δ _ sr (Post.bind q fun as Δ1 q1 vs x1 H1 k1 sr1 h1 => ?_)
  have q2 := post_call (q1.step k1 fun a Δ q => okV.step k1 q)
  exact call_sp (gc_eq o) sr1 h1 q2 (fun d Δ2 z => z) (fun d Δ2 z => okF.okV z)
theorem df_call (ha : DA X c W (e :: es) fs) (hdb : (nm == ("__debug__" : Str)) = false := by decide) (he : starEach (e :: es) X.env = (false, eval e X.env) :: starEach es X.env := by rfl) (hpl : (backTo pos (starEach es X.env)).any (·.1) = false := by rfl) :
    DF X c W (.Call (.Name nm p) (e :: es) [] pos) (mCallN ps.length io g fs) := by
  obtain ⟨t, pa, sa⟩ := ha.out
  refine DF.of (pe_dcall F o hk hg hm hkp hb pa (fun σ H Q ⟨x, Δ, sr, q⟩ => ?_) hdb he hpl)
  refine sa x σ H Δ _ sr (Post.bind q fun as Δ1 q1 vs x1 H1 k1 sr1 h1 => ?_)
  have q2 := post_call (q1.step k1 fun a Δ q => okF.step k1 q)
  exact call_sp (gc_eq o) sr1 h1 q2 (fun d Δ2 z => z.elim) (fun d Δ2 z => z)
theorem de_call0 (hdb : (nm == ("__debug__" : Str)) = false := by decide) : DE X c W (.Call (.Name nm p) [] [] pos) (mCall ps.length io g mNil) := by
  refine DE.of (pe_dcall0 F o hk hg hm hkp hb (fun σ H Q ⟨x, Δ, sr, q⟩ => ?_) hdb)
  exact call_sp (as := []) (gc_eq o) sr rfl (post_call q) (fun d Δ2 z => z) (fun d Δ2 z => okF.okV z)
theorem df_call0 (hdb : (nm == ("__debug__" : Str)) = false := by decide) : DF X c W (.Call (.Name nm p) [] [] pos) (mCallN ps.length io g mNil) := by
  refine DF.of (pe_dcall0 F o hk hg hm hkp hb (fun σ H Q ⟨x, Δ, sr, q⟩ => ?_) hdb)
  exact call_sp (as := []) (gc_eq o) sr rfl (post_call q) (fun d Δ2 z => z.elim) (fun d Δ2 z => z)
end
end
end DL

namespace DL
open PySem L2 PySem.Spec PyProof.Rows

section
variable {P : Program} {w : World} {K : PySem.W.Frag} {mg mb : Str → Option Value} {k : Nat} {fa a : Addr} {fd : FuncData} {x : Str} {g : List D → RD} {s₁ : Shared} {vs : List Value} {ns : List Int}
/-- what a law's call leaves -/
abbrev LawEnd (s₁ : Shared) (r : Result) (s' : Shared) : Prop := r = .ok (.ret (.bool true)) ∧ OldK s₁.heap s'.heap ∧ s'.os = s₁.os ∧ AllBare s'.gens
theorem law_core {T : List (Addr × Str)} {cs : List (Addr × Addr)} (KX : K.In s₁.heap) (hns : s₁.heap.Ns mainGlobals mg) (hb : s₁.heap.Ns builtinsNs mb) (hbb : ∀ x : Str, x ≠ "__name__" → mb x = bootBuiltins x) (hlim : s₁.heap.NoLimit) (hg : s₁.gens = #[])
    (hT : ∀ p ∈ cs, s₁.heap.get? p.2 = some { cls := .none, data := .fields #[] }) (nT : ∀ p ∈ cs, K.lookup p.2 = none) (C : ∀ p ∈ cs, PySem.W.CodeHd s₁.heap p.1 p.2)
    (hbm : ∃ (bm : Addr) (ob : Obj), mg "__builtins__" = some (.ref bm) ∧ bm ≠ builtinsNs ∧ s₁.heap.get? bm = some ob ∧ ob.cls = .type "module" ∧ ob.dict = some builtinsNs ∧ ob.data = .plain) (hTc : ∀ t ∈ T, ∃ p ∈ cs, p.2 = t.1)
    (ha : s₁.heap.get? a = some { cls := .type "list", data := .seq vs.toArray }) (hr : Room k callerA)
    (F : ∀ base : Heap, K.In base → base.Ns mainGlobals mg → (∀ p ∈ cs, LamX.TabB base mg p.1 p.2) → DFn P w K mg base T k fa fd [x] [] g) (hbind : ∀ (s : Shared) (u : Value), BindsTo s fd ⟨[u], []⟩ [(x, u)])
    (hmir : ∃ fr, g [.scr ns] = .ok (.bl true) fr [])
    (H : Hp) (hH : ∀ p ∈ cs, H p.2 = some (.tbl #[])) (hO : ∀ b, H b = none ∨ b ∈ cs.map (·.2) ∨ ∃ o xs, H b = some (.frz o (.lst xs))) (hS : (Rd H a (.lst (ns.map V.int))) ∨ ∀ H', SqL K H' a (ns.map V.int)) (hok : HOk P w H s₁.heap) (hA : ∀ b, H b ≠ none → b = a ∨ b ∈ cs.map (·.2)) (hK : H a ≠ none → K.lookup a = none) :
    codeAny (model P w) callerA (.call (.ref fa) ⟨[.ref a], []⟩) (LawEnd s₁) s₁ := by
  have isT : ∀ b : Addr, b ∈ cs.map (·.2) → s₁.heap.get? b = some { cls := .none, data := .fields #[] } := fun b hb => by
    obtain ⟨p, hp, e⟩ := List.mem_map.mp hb
    rw [← e]
    exact hT p hp
  -- what is neither the script nor a table is not tracked
  have free : ∀ {b : Addr} {o : Obj}, s₁.heap.get? b = some o → (∀ vs n, o.data ≠ .seq vs n) → o.data ≠ .fields #[] → H b = none := fun {b o} e h1 h2 => by
    cases q : H b with
    | none => rfl
    | some u =>
      rcases hA b (by rw [q]; intro z; cases z) with e' | e'
      · rw [e', ha] at e
        cases e
        exact (h1 _ _ rfl).elim
      · rw [isT b e'] at e
        cases e
        exact (h2 rfl).elim
  have dictFree : ∀ {b : Addr} {m : Str → Option Value}, s₁.heap.Ns b m → (hidT s₁.heap H).Ns b m := fun {b m} ⟨o, es, ep, e, d, r⟩ =>
    ⟨o, es, ep, hidT_get e (free e (fun _ _ z => by rw [d] at z; cases z) fun z => by rw [d] at z; cases z), d, r⟩
  have kin : K.In (hidT s₁.heap H) := fun b o e => hidT_get (KX b o e) (by
    cases q : H b with
    | none => rfl
    | some u =>
      rcases hA b (by rw [q]; intro z; cases z) with z | z
      · subst z
        rw [hK (by rw [q]; intro z; cases z)] at e
        cases e
      · obtain ⟨p, hp, ep⟩ := List.mem_map.mp z
        rw [← ep, nT p hp] at e
        cases e)
  have md : Mod K mg (hidT s₁.heap H) := ⟨kin, dictFree hns, ⟨mb, dictFree hb, hbb⟩, hlim.elim fun mc z => ⟨mc, dictFree z.1, z.2⟩⟩
  have TB : ∀ p ∈ cs, LamX.TabB (hidT s₁.heap H) mg p.1 p.2 := fun p hp => by
    have hTp := hT p hp
    refine ⟨?_, ?_, fun z => ?_⟩
    · obtain ⟨o, us, file, tf, flags, tg, inF, text, tt, e1, r1, r2, r3, r4, r5, r6, r7, r8, hne⟩ := C p hp
      refine ⟨o, us, file, tf, flags, tg, inF, text, tt, hidT_get e1 (free e1 (fun vs n z => by rw [r2] at z; cases z) fun z => ?_), r1, r2, r3, r4, r5, r6, r7, r8, hne⟩
      rw [r2] at z
      cases z
      simp at r3
    · obtain ⟨bm, ob, b1, b2, b3, b4, b5, b6⟩ := hbm
      have nG : bm ≠ mainGlobals := fun q => by
        obtain ⟨o, es, ep, e, hd, _⟩ := hns
        rw [q, e] at b3
        cases b3
        rw [hd] at b6
        cases b6
      have nP : bm ≠ p.2 := fun q => by
        rw [q, hTp] at b3
        cases b3
        cases b6
      exact ⟨bm, ob, b1, b2, nG, nP, hidT_get b3 (free b3 (fun _ _ z => by rw [b6] at z; cases z) fun z => by rw [b6] at z; cases z), b4, b5, b6⟩
    · obtain ⟨o, es, ep, e, hd, _⟩ := hns
      rw [z, hTp] at e
      cases e
      cases hd
  have env0 : Env0 P w K mg (hidT s₁.heap H) callerA [] s₁ H := ⟨rfl, md, fun b o e => of_hidT e, Nat.le_of_eq (hidT_size _ _), trivial, fun b z => (nomatch z), hok, .of_eq hg⟩
  obtain ⟨fr, hm⟩ := hmir
  have tabs : LamX.Tabs T H := fun t ht => by
    obtain ⟨p, hp, e⟩ := hTc t ht
    exact LamX.TabS.nil (by rw [← e]; exact hH p hp)
  have sp : spD ⟨K, mg, T⟩ [x].length [] g [.ref a] H (fun v _ => v = .bl true) (fun _ _ _ => False) := by
    refine ⟨fun _ => True, [.scr ns], [], rfl, fun _ _ => trivial, tabs, rfl, List.nodup_nil, List.nodup_nil, fun _ h => (nomatch h), fun _ h => (nomatch h), ⟨_, [], rfl, ?_, rfl⟩, ?_⟩
    · rw [if_neg (by simp)]
      unfold Rep
      exact ⟨a, rfl, hS.imp (fun z => ⟨trivial, z⟩) id⟩
    · rw [hm]
      exact ⟨fun _ v Av' H' _ r => rep_bl (.inl r), fun _ b Av' H' _ _ _ _ o => o.elim⟩
  refine codeAny_mono ((F _ kin (dictFree hns) TB).run callerA [] s₁ H ⟨[.ref a], []⟩ [.ref a] [.ref a] _ _ hr (fun _ => rfl) env0 (hbind s₁ (.ref a)) (.cons rfl .nil) sp) fun r s' h => ?_
  cases r with
  | error e =>
    obtain ⟨_, _, _, _, _, _, _, _, _, _, _, _, z⟩ := h
    exact z.elim
  | ok fl =>
    cases fl with
    | next => exact h.elim
    | brk => exact h.elim
    | cont => exact h.elim
    | ret u =>
      obtain ⟨v, H', os, bare, un, hok', r, q⟩ := h
      have q' : v = .bl true := q
      subst q'
      cases (show u = Value.bool true from r)
      have key : ∀ b o, b ∉ cs.map (·.2) → s₁.heap.get? b = some o → s'.heap.get? b = some o := fun b o nb e => by
        cases q : H b with
        | none => exact un.keep b o e q (fun z => nomatch z) (fun z => nomatch z)
        | some u =>
          rcases hO b with z | z | ⟨ob, xs, z⟩
          · rw [q] at z; cases z
          · exact absurd z nb
          · have e1 := (hok b _ z).1
            have e2 := (hok' b _ (un.frzs b ob _ z)).1
            rw [e] at e1; cases e1
            exact e2
      have grown : ∀ p ∈ cs, ∃ more : Array Value, s'.heap.get? p.2 = some { cls := .none, data := .fields more } := fun p hp => by
        obtain ⟨more, z⟩ := un.tbls p.2 #[] (hH p hp)
        exact ⟨_, hok' p.2 _ z⟩
      refine ⟨rfl, ⟨fun b o e => ?_, fun b o e => ?_⟩, os, bare⟩
      · by_cases hb : b ∈ cs.map (·.2)
        · obtain ⟨p, hp, ep⟩ := List.mem_map.mp hb
          obtain ⟨more, hm⟩ := grown p hp
          rw [← ep] at e ⊢
          rw [hT p hp] at e
          cases e
          exact .inr (.inl ⟨((C p hp).tab (hT p hp)).isCodeTable, rfl, #[], more, rfl, by rw [Array.empty_append]; exact hm⟩)
        · exact .inl (key b o hb e)
      · by_cases hb : b ∈ cs.map (·.2)
        · obtain ⟨p, hp, ep⟩ := List.mem_map.mp hb
          obtain ⟨more, hm⟩ := grown p hp
          rw [← ep]
          exact ⟨_, hm⟩
        · exact ⟨o, key b o hb e⟩
theorem law_run {T : List (Addr × Str)} {cs : List (Addr × Addr)} (KX : K.In s₁.heap) (hns : s₁.heap.Ns mainGlobals mg) (hb : s₁.heap.Ns builtinsNs mb) (hbb : ∀ x : Str, x ≠ "__name__" → mb x = bootBuiltins x) (hlim : s₁.heap.NoLimit) (hg : s₁.gens = #[])
    (hT : ∀ p ∈ cs, s₁.heap.get? p.2 = some { cls := .none, data := .fields #[] }) (nT : ∀ p ∈ cs, K.lookup p.2 = none) (C : ∀ p ∈ cs, PySem.W.CodeHd s₁.heap p.1 p.2)
    (hbm : ∃ (bm : Addr) (ob : Obj), mg "__builtins__" = some (.ref bm) ∧ bm ≠ builtinsNs ∧ s₁.heap.get? bm = some ob ∧ ob.cls = .type "module" ∧ ob.dict = some builtinsNs ∧ ob.data = .plain) (hTc : ∀ t ∈ T, ∃ p ∈ cs, p.2 = t.1)
    (ha : s₁.heap.get? a = some { cls := .type "list", data := .seq vs.toArray }) (hi : IntsAre vs ns) (hl : ns.length ≤ sizeLine) (hr : Room k callerA)
    (F : ∀ base : Heap, K.In base → base.Ns mainGlobals mg → (∀ p ∈ cs, LamX.TabB base mg p.1 p.2) → DFn P w K mg base T k fa fd [x] [] g) (hbind : ∀ (s : Shared) (u : Value), BindsTo s fd ⟨[u], []⟩ [(x, u)])
    (hmir : ∃ fr, g [.scr ns] = .ok (.bl true) fr []) : codeAny (model P w) callerA (.call (.ref fa) ⟨[.ref a], []⟩) (LawEnd s₁) s₁ := by
  have rv := vals_ints hi
  have lenV := hi.length
  have memT : ∀ p ∈ cs, p.2 ∈ cs.map (·.2) := fun p hp => List.mem_map.mpr ⟨p, hp, rfl⟩
  have isT : ∀ b : Addr, b ∈ cs.map (·.2) → s₁.heap.get? b = some { cls := .none, data := .fields #[] } := fun b hb => by
    obtain ⟨p, hp, e⟩ := List.mem_map.mp hb
    rw [← e]
    exact hT p hp
  have aT : a ∉ cs.map (·.2) := fun z => by
    have q := isT a z
    rw [ha] at q
    exact nomatch (congrArg Obj.data (Option.some.inj q) : Data.seq vs.toArray _ = Data.fields #[])
  cases hk : K.lookup a with
  | some o =>
    have e := KX a o hk
    rw [ha] at e
    cases e
    have sq : ∀ H', SqL K H' a (ns.map V.int) := fun H' => .inr ⟨_, vs.toArray, _, hk, rfl, rfl, rfl, by rw [List.size_toArray, lenV]; exact hl, by simpa using rv⟩
    refine law_core KX hns hb hbb hlim hg hT nT C hbm hTc ha hr F hbind hmir (fun b => if b ∈ cs.map (·.2) then some (.tbl #[]) else none) (fun p hp => if_pos (memT p hp)) (fun b => ?_) (.inr sq) (fun b u z => ?_) (fun b z => ?_) fun z => absurd (show (if a ∈ cs.map (·.2) then some (HO.tbl #[]) else none) = none from if_neg aT) z
    · by_cases hb : b ∈ cs.map (·.2)
      · exact .inr (.inl hb)
      · exact .inl (if_neg hb)
    · by_cases hb : b ∈ cs.map (·.2)
      · cases (if_pos hb).symm.trans z
        exact isT b hb
      · cases (if_neg hb).symm.trans z
    · by_cases hb : b ∈ cs.map (·.2)
      · exact .inr hb
      · exact absurd (if_neg hb) z
  | none =>
    refine law_core KX hns hb hbb hlim hg hT nT C hbm hTc ha hr F hbind hmir (fun b => if b = a then some (.frz { cls := .type "list", data := .seq vs.toArray } (.lst (ns.map V.int))) else if b ∈ cs.map (·.2) then some (.tbl #[]) else none) (fun p hp => (if_neg (show ¬ p.2 = a from fun z => aT (by rw [← z]; exact memT p hp))).trans (if_pos (memT p hp))) (fun b => ?_)
      (.inl (.inr ⟨{ cls := .type "list", data := .seq vs.toArray }, if_pos rfl⟩)) (fun b u z => ?_) (fun b z => ?_) fun _ => hk
    · by_cases hb : b = a
      · exact .inr (.inr ⟨_, _, if_pos hb⟩)
      · by_cases hb2 : b ∈ cs.map (·.2)
        · exact .inr (.inl hb2)
        · exact .inl ((if_neg hb).trans (if_neg hb2))
    · by_cases hb : b = a
      · cases (if_pos hb).symm.trans z
        rw [hb]
        exact ⟨ha, by rw [List.length_map]; exact hl, vs, _, rv, ha⟩
      · have z1 := (if_neg hb).symm.trans z
        by_cases hb2 : b ∈ cs.map (·.2)
        · cases (if_pos hb2).symm.trans z1
          exact isT b hb2
        · cases (if_neg hb2).symm.trans z1
    · by_cases hb : b = a
      · exact .inl hb
      · by_cases hb2 : b ∈ cs.map (·.2)
        · exact .inr hb2
        · exact absurd ((if_neg hb).trans (if_neg hb2)) z
end
/-- the goal behind the head, from the law's mirror -/
theorem law_walk {l : PySem.W.OpenLaw} {n k : Nat} {q : Program} {loose : List Str} {XP : (Str → Option Value) → Heap → Prop} {YP : World → Heap → Prop} {d : DefRec} {K : Params → PySem.W.Frag} {x : Str} {g : List D → RD}
    (hn : l.most = some n) (hn2 : n ≤ 1000) (hdf : d.params.defaults = []) (hr : Room k callerA) (hY : ∀ (w : World) (h : Heap), YP w h → (K w.params).In h)
    (F : ∀ (w : World) (mg : Str → Option Value) (fa : Addr) (h : Heap), YP w h → (K w.params).In h → h.Ns mainGlobals mg → mg d.name = some (.ref fa) →
      ∃ (fd : FuncData) (cs : List (Addr × Addr)) (T : List (Addr × Str)), (∀ p ∈ cs, h.get? p.2 = some { cls := .none, data := .fields #[] }) ∧ (∀ p ∈ cs, (K w.params).lookup p.2 = none) ∧ (∀ p ∈ cs, PySem.W.CodeHd h p.1 p.2) ∧ (∀ t ∈ T, ∃ p ∈ cs, p.2 = t.1) ∧
        (∀ (s : Shared) (u : Value), BindsTo s fd ⟨[u], []⟩ [(x, u)]) ∧ ∀ base : Heap, (K w.params).In base → base.Ns mainGlobals mg → (∀ p ∈ cs, LamX.TabB base mg p.1 p.2) → DFn l.prog w (K w.params) mg base T k fa fd [x] [] g)
    (hmir : ∀ ns : List Int, ns.length ≤ n → ∃ fr, g [.scr ns] = .ok (.bl true) fr []) :
    PySem.W.WalkO q loose XP YP l.row.toRowW d [] (fun f vs => PySem.call f vs) := by
  refine Att.attach_call hn hdf fun w s₀ s₁ mg mb fa o pm cd doc a vs ns G Y ho hd hcd hmg hobj hints hlen hg => ?_
  obtain ⟨fd, cs, T, hT, nT, C, hTc, hb, hF⟩ := F w mg fa _ Y (hY w _ Y) G.T.g hmg
  exact law_run (hY w _ Y) G.T.g G.T.b G.T.builtins G.T.nolimit hg hT nT C G.T.bmain hTc hobj hints (Nat.le_trans hlen (Nat.le_trans hn2 (by rw [PySem.sizeLine_eq]; decide))) hr hF hb (hmir ns hlen)
end DL

namespace DL
open PySem L2

section
variable {c : Ct} {W : WX} {x : Sx} {σ : St} {H : Hp} {Δ : SD}
/-- the content of a slot's own object is changed -/
theorem SR.ownUpd (s : SR c x σ H Δ) {i : Nat} {a : Addr} {d d' : D} {o' : HO} (hd : Δ[i]? = some (.ow d)) (ha : x.ρ i = some a) (ho : Own c.toGc x.Av (upd H a o') a d') :
    Kp x H x (upd H a o') ∧ SR c x σ (upd H a o') (Δ.set i (.ow d')) := by
  obtain ⟨nav, nn, hor⟩ := s.ow i a ha
  have ne : ∀ {b : Addr}, x.Av b → b ≠ a := fun hb z => nav (z ▸ hb)
  have kn : ∀ {b : Addr}, upd H a o' b = none → H b = none := fun h => (upd_none h).2
  have kp : Keep c.toGc x.Av x.Av H (upd H a o') := Keep.temp o' nav
  refine ⟨⟨fun b o h _ n => ?_, fun b h => kn h, fun j b h => .inl ⟨j, h⟩, fun b h _ => h, fun b h => .inl h⟩, ?_⟩
  · have e : b ≠ a := fun z => n i (z ▸ ha)
    rw [upd_ne e]; exact h
  exact {
    len := by rw [List.length_set]; exact s.len
    tab := by
      obtain ⟨_, _, _, o0⟩ := (show SlotOk c x σ H i (some (.ow d)) from by rw [← hd]; exact s.slot i)
      rename_i a0 e0 _
      rw [ha] at e0
      cases e0
      obtain ⟨u, hu, hp, _⟩ := o0.pln
      exact tabs_upd s.tab hu hp
    base := fun b o h f n => by
      have e : b ≠ a := fun z => by
        subst z
        rcases hor with q | ⟨p, hp, e⟩
        · rw [h] at q; cases q
        · exact n p hp e
      rw [upd_ne e]; exact s.base b o h f n
    trk := fun b h => s.trk b (kn h)
    fr := fun b h => s.fr b (kn h)
    av := s.av
    a0 := s.a0
    ow := fun j b h => ⟨(s.ow j b h).1, fun q => (s.ow j b h).2.1 (kn q), (s.ow j b h).2.2⟩
    inj := s.inj
    slot := fun j => by
      have z := s.slot j
      by_cases e : j = i
      · subst e
        have hl : j < Δ.length := (List.getElem?_eq_some_iff.mp hd).1
        rw [List.getElem?_set_self hl]
        rw [hd] at z
        obtain ⟨b, h0, h1, _⟩ := z
        rw [ha] at h0; cases h0
        exact ⟨a, ha, h1, ho⟩
      · rw [List.getElem?_set_ne (Ne.symm e)]
        revert z
        cases Δ[j]? with
        | none => intro _; trivial
        | some w =>
          cases w with
          | un => intro _; trivial
          | sh d => exact fun ⟨v, h1, h2⟩ => ⟨v, h1, h2.keep kp⟩
          | ow d =>
            rintro ⟨b, h0, h1, h2⟩
            have eb : b ≠ a := fun z => e (s.inj _ _ _ (z ▸ h0) ha)
            refine ⟨b, h0, h1, ?_⟩
            show Own c.toGc x.Av (upd H a o') b d
            cases d <;> first
              | exact h2.elim
              | (obtain ⟨us, q1, q2⟩ := h2; exact ⟨us, by rw [upd_ne eb]; exact q1, q2.keep kp⟩)
              | (obtain ⟨C, dx, us, q0, q1, q2⟩ := h2; exact ⟨C, dx, us, q0, by rw [upd_ne eb]; exact q1, q2.keep kp⟩)
    ios := s.ios }
theorem SR.owAt (s : SR c x σ H Δ) {i : Nat} {d : D} (hd : Δ[i]? = some (.ow d)) : ∃ a, x.ρ i = some a ∧ σ[i]? = some (some (.ref a)) ∧ Own c.toGc x.Av H a d ∧ ¬ x.Av a := by
  have z := s.slot i
  rw [hd] at z
  obtain ⟨a, h0, h1, h2⟩ := z
  exact ⟨a, h0, h1, h2, (s.ow i a h0).1⟩
end

/-- a slot holds an object of its own -/
def mHold (p : D → Bool) (i : Nat) : M Unit := fun Δ => match Δ[i]? with
  | some (.ow d) => if p d = true then .ok () Δ else .bad
  | _ => .bad
/-- its content is changed -/
def mUpd {α : Type} (i : Nat) (g : D → Option (α × D)) : M α := fun Δ => match Δ[i]? with
  | some (.ow d) => (match g d with
    | some (a, d') => .ok a (Δ.set i (.ow d'))
    | none => .bad)
  | _ => .bad
def isLst : D → Bool
  | .lst _ => true
  | _ => false
section
variable {c : Ct} {W : WX} {x : Sx} {σ : St} {H : Hp} {Δ : SD}
theorem Post.hold {α : Type} {ok : α → SD → Prop} {p : D → Bool} {i : Nat} {g : Unit → M α} (h : Post c W x σ H ok (mBind (mHold p i) g Δ)) : ∃ d, Δ[i]? = some (.ow d) ∧ p d = true ∧ Post c W x σ H ok (g () Δ) := by
  unfold mBind mHold at h
  cases e : Δ[i]? with
  | none => rw [e] at h; exact h.elim
  | some z =>
    rw [e] at h
    cases z with
    | un => exact h.elim
    | sh d => exact h.elim
    | ow d =>
      dsimp only at h
      by_cases hp : p d = true
      · rw [if_pos hp] at h; exact ⟨d, rfl, hp, h⟩
      · rw [if_neg hp] at h; exact h.elim
theorem Post.upd {α β : Type} {ok : α → SD → Prop} {i : Nat} {u : D → Option (β × D)} {g : β → M α} (h : Post c W x σ H ok (mBind (mUpd i u) g Δ)) : ∃ d b d', Δ[i]? = some (.ow d) ∧ u d = some (b, d') ∧ Post c W x σ H ok (g b (Δ.set i (.ow d'))) := by
  unfold mBind mUpd at h
  cases e : Δ[i]? with
  | none => rw [e] at h; exact h.elim
  | some z =>
    rw [e] at h
    cases z with
    | un => exact h.elim
    | sh d => exact h.elim
    | ow d =>
      dsimp only at h
      cases eu : u d with
      | none => rw [eu] at h; exact h.elim
      | some r => rw [eu] at h; exact ⟨d, r.1, r.2, rfl, eu, h⟩
theorem PostS.post {α : Type} {f : M α} {g : α → M Fl} {E : Ends} (h : PostS c W x H E (mBind f g Δ)) : Post c W x σ H (fun a Δ1 => PostS c W x H E (g a Δ1)) (f Δ) := h.bind fun _ _ z => z
end

/-! ### x.append(e) -/
def gApp (d : D) : D → Option (Unit × D)
  | .lst ds => if ds.length < lim then some ((), .lst (ds ++ [d])) else none
  | _ => none
def mApp (i : Nat) (f : M D) : M D := mBind (mHold isLst i) fun _ => mBind f fun d => mBind (mUpd i (gApp d)) fun _ => mPure .non
section
variable {X : Cx} {c : Ct} {W : WX} {e : Expr} {fe : M D} {pos p1 p2 p3 : Pos} {i : Nat} {n : Str}
theorem isLst_some {d : D} (h : isLst d = true) : ∃ ds, d = .lst ds := by
  cases d with
  | lst ds => exact ⟨ds, rfl⟩
  | _ => cases h
theorem gApp_some {d x x' : D} {u : Unit} (h : gApp d x = some (u, x')) : ∃ ds, x = .lst ds ∧ ds.length < lim ∧ x' = .lst (ds ++ [d]) := by
  cases x with
  | lst ds =>
    have h' : (if ds.length < lim then some ((), D.lst (ds ++ [d])) else none) = some (u, x') := h
    by_cases z : ds.length < lim
    · rw [if_pos z] at h'; cases h'; exact ⟨ds, rfl, z, rfl⟩
    · rw [if_neg z] at h'; cases h'
  | _ => cases h
theorem lim_lt {n : Nat} (h : n < lim) : n < sizeLine := Nat.lt_of_lt_of_le h (by rw [PySem.sizeLine_eq]; decide)
theorem de_append (hK : c.K = X.K) (hN : X.N[i]? = some n) (hv : Vis X.env.scope n) (h : DE X c W e fe)
    (hd : (n == ("__debug__" : Str)) = false := by decide) (hcd : (n == ("__classdict__" : Str)) = false := by decide)
    (hbase : attributeBase (.Name n p1) "append" X.env (eval (.Name n p1) X.env) = eval (.Name n p1) X.env := by rfl)
    (hfew : ((backTo pos (starEach [e] X.env)).all (fun x => !x.1) && (backToKw pos (keywordEach [] X.env)).all (fun x => x.1.isSome)
      && decide ([e].length + ([] : List Keyword).length + (if ([] : List Keyword).isEmpty then 0 else 1) < 30)) = true := by rfl)
    (hline : (p2.endLine == pos.line) = true := by rfl) (hs : starEach [e] X.env = (false, eval e X.env) :: starEach [] X.env := by rfl) (hplain : (backTo pos (starEach [] X.env)).any (·.1) = false := by rfl) :
    DE X c W (.Call (.Attribute (.Name n p1) "append" p2) [e] [] pos) (mApp i fe) := by
  obtain ⟨t, p, s⟩ := h.out
  refine ⟨_, pe_bm PySem.F.plainAttrs_list PySem.F.slot_list_append PySem.F.type_list_append mt_append (pe_var hN hv hd hcd) (pa_cons p pa_nil hs) hbase hfew hline hs hplain, fun x σ H Δ Q sr q => ?_⟩
  obtain ⟨d0, e0, hp0, q1⟩ := Post.hold q
  obtain ⟨a, ha, hσ, ho, _⟩ := sr.owAt e0
  obtain ⟨ds0, rfl⟩ := isLst_some hp0
  obtain ⟨vs0, hH0, _⟩ := ho
  refine ⟨.ref a, hσ, .inl ⟨rfl, vs0, SqL.of hH0⟩, s x σ H Δ _ sr (q1.bind fun d Δ1 q2 v x1 H1 k1 sr1 r1 => ?_)⟩
  obtain ⟨dl, b, d', e1, eu, q3⟩ := Post.upd (q2.step k1 fun a Δ q => okV.step k1 q)
  obtain ⟨a', ha', hσ', ho', nav⟩ := sr1.owAt e1
  rw [hσ] at hσ'; cases hσ'
  obtain ⟨ds, rfl, hl, rfl⟩ := gApp_some eu
  obtain ⟨vs, hH, rl⟩ := ho'
  refine ⟨a, vs, v, rfl, rfl, hH, by rw [repL_length rl]; exact lim_lt hl, ?_⟩
  have kp : Keep c.toGc x1.Av x1.Av H1 (L2.upd H1 a (.lst (vs ++ [v]))) := Keep.temp _ nav
  obtain ⟨k2, sr2⟩ := sr1.ownUpd (o' := .lst (vs ++ [v])) (d' := .lst (ds ++ [d])) e1 ha' ⟨_, upd_same, (rl.keep kp).app (by unfold RepL; exact ⟨v, [], rfl, r1.keep kp, by unfold RepL; rfl⟩)⟩
  exact q3 .non x1 _ k2 sr2 mk_non
end
end DL

namespace DL
open PySem L2

section
variable {c : Ct} {W : WX} {x : Sx} {σ : St} {H : Hp} {Δ : SD} {E : Ends}
theorem PostS.toPost {r : Res Fl} (h : PostS c W x H E r) : Post c W x σ H (okS c x H E) r := by
  cases r with
  | ok fl Δ' => exact h
  | ex n d Δ' => exact fun C dx x' H' => h C dx σ x' H'
  | bad => exact h
theorem Post.stepS {x1 : Sx} {H1 : Hp} {r : Res Fl} (h : Post c W x σ H (okS c x H E) r) (k : Kp x H x1 H1) : Post c W x1 σ H1 (okS c x1 H1 E) r := h.step k fun _ _ q => okS.step k q
theorem RepL.set {G : Gc} {Av : Addr → Prop} {d : D} {v : V} (r : Rep G Av H d v) : ∀ {ds : List D} {vs : List V} (j : Nat), RepL G Av H ds vs → RepL G Av H (ds.set j d) (vs.set j v)
  | [], vs, j, h => by unfold RepL at h; rw [h]; exact (by unfold RepL; rfl : RepL G Av H [] [])
  | d' :: ds, vs, 0, h => by
    unfold RepL at h
    obtain ⟨v', u, e, h1, h2⟩ := h
    rw [e]
    show RepL G Av H (d :: ds) (v :: u)
    unfold RepL
    exact ⟨v, u, rfl, r, h2⟩
  | d' :: ds, vs, j + 1, h => by
    unfold RepL at h
    obtain ⟨v', u, e, h1, h2⟩ := h
    rw [e]
    show RepL G Av H (d' :: ds.set j d) (v' :: u.set j v)
    unfold RepL
    exact ⟨v', _, rfl, h1, RepL.set r j h2⟩
end

/-- bind from a later state, the rest seen from the first -/
theorem Post.bind2 {α β : Type} {c : Ct} {W : WX} {x x1 : Sx} {σ : St} {H H1 : Hp} {ok : α → SD → Prop} {ok' : β → SD → Prop} {f : M α} {g : α → M β} {Δ : SD} (h : Post c W x σ H ok' (mBind f g Δ)) (k : Kp x H x1 H1) (m : ∀ a Δ1, Post c W x σ H ok' (g a Δ1) → ok a Δ1) : Post c W x1 σ H1 ok (f Δ) := by
  unfold mBind at h
  cases e : f Δ with
  | ok a Δ1 => rw [e] at h; exact m a Δ1 h
  | ex n d Δ1 => rw [e] at h; exact fun C dx x' H' k' => h C dx x' H' (k.trans k')
  | bad => rw [e] at h; exact h

/-! ### o[k] = v -/
def SetD (G : Gc) (t : TSet) (g : D → D → D → Option D) : Prop := ∀ (Av : Addr → Prop) (H : Hp) (a : Addr) (d dk dv d' : D) (k v : V) (Q : Hp → Prop), ¬ Av a → Own G Av H a d → Rep1 G Av H dk k → Rep G Av H dv v → g d dk dv = some d' →
  (∀ o', Own G Av (upd H a o') a d' → Q (upd H a o')) → t (.ref a) k v H Q
def mSetIx (i : Nat) (g : D → D → D → Option D) (fe : M D) (fk : M AK) : M Fl := mBind fe fun v => mBind (mHold (fun _ => true) i) fun _ => mBind fk fun a => mBind (mGet a) fun k => mBind (mUpd i fun d => (g d k v).map fun d' => ((), d')) fun _ => mPure .nx
def gSetL : D → D → D → Option D
  | .lst ds, .int k, v => (ixN ds.length k).map fun j => .lst (ds.set j v)
  | _, _, _ => none
theorem set_listD {G : Gc} : SetD G rSetL gSetL := by
  intro Av H a d dk dv d' k v Q nav ho rk rv e q
  unfold gSetL at e
  split at e
  · rename_i ds i
    obtain ⟨vs, hH, rl⟩ := ho
    rw [Option.map_eq_some_iff] at e
    obtain ⟨j, ej, rfl⟩ := e
    have kp : Keep G Av Av H (upd H a (.lst (vs.set j v))) := Keep.temp _ nav
    rw [rep_int rk]
    exact ⟨a, vs, i, j, rfl, rfl, hH, by rw [repL_length rl]; exact ej, q _ ⟨_, upd_same, RepL.set (rv.keep kp) j (rl.keep kp)⟩⟩
  · cases e
section
variable {X : Cx} {c : Ct} {W : WX} {e ei : Expr} {fe : M D} {fk : M AK} {pos p1 p2 p3 : Pos} {i : Nat} {n : Str} {t : TSet} {g : D → D → D → Option D}
theorem ds_setIx (hs : PSet X t) (hd : SetD c.toGc t g) (hN : X.N[i]? = some n) (hv : Vis X.env.scope n) (he : DE X c W e fe) (hk : DO X c W ei fk)
    (hdb : (n == ("__debug__" : Str)) = false := by decide) (hcd : (n == ("__classdict__" : Str)) = false := by decide)
    (ha : ∀ v, assign (.Subscript (.Name n p1) ei p2) X.env v = (do
      let ov ← holding [v] (eval (.Name n p1) X.env)
      let iv ← holding [v, ov] (eval ei X.env)
      standAt p2
      holding [v, ov, iv] (setItem ov iv v)
      release [v, ov, iv] []) := by intro _; rfl)
    (hsw : swapsWithSole [.Subscript (.Name n p1) ei p2] e pos.line X.env = pure false := by rfl) (hw : swappedStores [.Subscript (.Name n p1) ei p2] e X.env = pure none := by rfl)
    (h1 : (assignEach [.Subscript (.Name n p1) ei p2] X.env).map (·.2) = [assign (.Subscript (.Name n p1) ei p2) X.env] := by rfl) :
    DS X c W (.Assign [.Subscript (.Name n p1) ei p2] e pos) (mSetIx i g fe fk) := by
  obtain ⟨te, pe, se⟩ := he.out
  obtain ⟨tk, pk, sk⟩ := hk.out
  refine ⟨_, ps_asg pe (pg_sub (pe_var hN hv hdb hcd) pk hs ha) hsw hw h1, fun x σ H Δ E sr q => ?_⟩
  refine se x σ H Δ _ sr (Post.bind (q.toPost (σ := σ)) fun v Δ1 q1 u x1 H1 k1 sr1 r1 => ?_)
  obtain ⟨d0, e0, _, q2⟩ := Post.hold (q1.stepS k1)
  obtain ⟨a, ha0, hσ, _, _⟩ := sr1.owAt e0
  refine ⟨.ref a, hσ, sk x1 σ H1 Δ1 _ sr1 (Post.bind q2 fun ak Δ2 q3 w x2 H2 k2 sr2 h2 => ?_)⟩
  obtain ⟨dk, rk, q4⟩ := Post.get sr2 h2 (q3.stepS k2)
  obtain ⟨d, b, d', e2, eu, q5⟩ := Post.upd q4
  obtain ⟨a', ha', hσ', ho', nav⟩ := sr2.owAt e2
  rw [hσ] at hσ'; cases hσ'
  rw [Option.map_eq_some_iff] at eu
  obtain ⟨d'', eg, eq⟩ := eu
  cases eq
  refine hd x2.Av H2 a d dk v d' w u _ nav ho' rk (r1.kp sr1 k2) eg fun o' ho2 => ?_
  obtain ⟨k3, sr3⟩ := sr2.ownUpd e2 ha' ho2
  exact q5 σ x2 _ k3 sr3
end

/-! ### name op= e -/
def mAug (g : D → D → Option D) (i : Nat) (fb : M AK) : M Fl := fun Δ => match Δ[i]? with
  | some (.sh dx) => mBind fb (fun b => mBind (mGet b) fun dy => mBind (mOpt (g dx dy)) fun z Δ' => if i < Δ'.length then .ok .nx (Δ'.set i (.sh z)) else .bad) Δ
  | _ => .bad
/-- xs += ys, the slot's own list -/
def gExt : D → D → Option (Unit × D)
  | .lst bs, .lst ds => if ds.length + bs.length ≤ lim then some ((), .lst (ds ++ bs)) else none
  | _, _ => none
def mExt (i : Nat) (fb : M AK) : M Fl := mBind (mHold isLst i) fun _ => mBind fb fun b => mBind (mGet b) fun y => mBind (mUpd i (gExt y)) fun _ => mPure .nx
theorem gExt_some {y d d' : D} {u : Unit} (h : gExt y d = some (u, d')) : ∃ ds bs, y = .lst bs ∧ d = .lst ds ∧ ds.length + bs.length ≤ lim ∧ d' = .lst (ds ++ bs) := by
  unfold gExt at h
  split at h
  · rename_i bs ds
    have h' : (if ds.length + bs.length ≤ lim then some ((), D.lst (ds ++ bs)) else none) = some (u, d') := h
    by_cases z : ds.length + bs.length ≤ lim
    · rw [if_pos z] at h'; cases h'; exact ⟨ds, bs, rfl, rfl, z, rfl⟩
    · rw [if_neg z] at h'; cases h'
  · cases h
section
variable {X : Cx} {c : Ct} {W : WX} {e : Expr} {fb : M AK} {pos p1 : Pos} {i : Nat} {n : Str} {op : Operator} {t : TIp} {g : D → D → Option D}
theorem ds_aug (hio : ∀ p ∈ c.io, p.1 ≠ i) (ho : PIp X op t) (hd : OpD c.toGc t g) (hN : X.N.Nodup) (hi : X.N[i]? = some n) (hx : Loc X.env.scope n) (he : DO X c W e fb) (hf : X.fn n = true ∨ X.env.scope.names.lookup n = some .local := by first | exact .inl rfl | exact .inr rfl | assumption) :
    DS X c W (.AugAssign (.Name n p1) op e pos) (mAug g i fb) := by
  obtain ⟨te, pe, se⟩ := he.out
  refine ⟨_, ps_aug hN hi hx pe ho hf, fun x σ H Δ E sr q => ?_⟩
  have sl := sr.slot i
  unfold mAug at q
  cases ei : Δ[i]? with
  | none => rw [ei] at q; exact q.elim
  | some z =>
    rw [ei] at q sl
    cases z with
    | un => exact q.elim
    | ow d => exact q.elim
    | sh dx =>
      obtain ⟨v, hσ, r⟩ := sl
      refine ⟨v, hσ, se x σ H Δ _ sr (Post.bind (q.toPost (σ := σ)) fun b Δ1 q1 u x1 H1 k1 sr1 h1 => ?_)⟩
      obtain ⟨dy, ry, q2⟩ := Post.get sr1 h1 (q1.stepS k1)
      refine hd x1.Av H1 dx dy v u _ sr1.fr (.inl (r.kp sr k1)) ry ?_
      cases eg : g dx dy with
      | none => rw [eg] at q2; exact q2.elim
      | some z =>
        rw [eg] at q2
        intro w H2 ex rw2
        have q3 : Post c W x1 σ H1 (okS c x1 H1 E) (if i < Δ1.length then .ok .nx (Δ1.set i (.sh z)) else .bad) := q2
        split at q3
        · rename_i hl
          obtain ⟨k2, sr2⟩ := (sr1.ex ex).setSh hio hl rw2
          exact q3 _ _ _ ((Kp.ex ex x1).trans k2) sr2
        · exact q3.elim
theorem ds_ext (hN : X.N.Nodup) (hi : X.N[i]? = some n) (hx : Loc X.env.scope n) (he : DO X c W e fb) (hf : X.fn n = true ∨ X.env.scope.names.lookup n = some .local := by first | exact .inl rfl | exact .inr rfl | assumption) :
    DS X c W (.AugAssign (.Name n p1) .Add e pos) (mExt i fb) := by
  obtain ⟨te, pe, se⟩ := he.out
  refine ⟨_, ps_aug hN hi hx pe (show PIp X .Add rExt2 from iop_ext) hf, fun x σ H Δ E sr q => ?_⟩
  obtain ⟨d0, e0, hp0, q1⟩ := Post.hold (q.toPost (σ := σ))
  obtain ⟨a, ha, hσ, ho, _⟩ := sr.owAt e0
  refine ⟨.ref a, hσ, se x σ H Δ _ sr (Post.bind q1 fun b Δ1 q2 u x1 H1 k1 sr1 h1 => ?_)⟩
  obtain ⟨dy, ry, q3⟩ := Post.get sr1 h1 (q2.stepS k1)
  obtain ⟨d, b', d', e2, eu, q4⟩ := Post.upd q3
  obtain ⟨ds, bs, rfl, rfl, hl, rfl⟩ := gExt_some eu
  obtain ⟨a', ha', hσ', ho', nav⟩ := sr1.owAt e2
  rw [hσ] at hσ'; cases hσ'
  obtain ⟨vs, hH, rl⟩ := ho'
  obtain ⟨p, us, rfl, hH2, rl2⟩ := rep_lst ry
  have kp : Keep c.toGc x1.Av x1.Av H1 (L2.upd H1 a (.lst (vs ++ us))) := Keep.temp _ nav
  refine ⟨a, p, vs, us, rfl, rfl, hH, hH2, by rw [repL_length rl, repL_length rl2]; exact lim_ok hl, ?_⟩
  obtain ⟨k2, sr2⟩ := sr1.ownUpd (o' := .lst (vs ++ us)) (d' := .lst (ds ++ bs)) e2 ha' ⟨_, upd_same, (rl.keep kp).app (rl2.keep kp)⟩
  have es : σ.set i (some (.ref a)) = σ := by
    apply List.ext_getElem?
    intro j
    rw [List.getElem?_set]
    by_cases ej : i = j
    · subst ej
      rw [if_pos rfl, hσ]
      split
      · rfl
      · rename_i hl'
        rw [List.getElem?_eq_none (by omega)] at hσ
        cases hσ
    · rw [if_neg ej]
  show E.nx (σ.set i (some (.ref a))) _
  rw [es]
  exact q4 σ x1 _ k2 sr2
end

/-! ### values, shared or new -/
def okQ (fr : Bool) (c : Ct) (x : Sx) (σ : St) (H : Hp) (Q : VK) (d : D) (Δ' : SD) : Prop := match fr with
  | true => okF c x σ H Q d Δ'
  | false => okV c x σ H Q d Δ'
structure DQ (X : Cx) (c : Ct) (W : WX) (fr : Bool) (e : Expr) (f : M D) : Prop where
  out : ∃ t, PE X e t ∧ ∀ x σ H Δ Q, SR c x σ H Δ → Post c W x σ H (okQ fr c x σ H Q) (f Δ) → t σ H Q
theorem DE.q {X : Cx} {c : Ct} {W : WX} {e : Expr} {f : M D} (h : DE X c W e f) : DQ X c W false e f := ⟨h.out⟩
theorem DF.q {X : Cx} {c : Ct} {W : WX} {e : Expr} {f : M D} (h : DF X c W e f) : DQ X c W true e f := ⟨h.out⟩
theorem okQ.step {fr : Bool} {c : Ct} {x x1 : Sx} {σ : St} {H H1 : Hp} {Q : VK} {d : D} {Δ : SD} (k : Kp x H x1 H1) (h : okQ fr c x σ H Q d Δ) : okQ fr c x1 σ H1 Q d Δ := by
  cases fr with
  | true => exact okF.step k h
  | false => exact okV.step k h
/-- a value that waits: how it stands later -/
def WaitOk (fr : Bool) (c : Ct) (x : Sx) (H : Hp) (d : D) (v : V) : Prop := match fr with
  | true => ∃ a, v = .ref a ∧ c.H0 a = none ∧ H a ≠ none ∧ ¬ x.Av a ∧ (∀ i, x.ρ i ≠ some a) ∧ Own c.toGc x.Av H a d
  | false => Rep c.toGc x.Av H d v
section
variable {c : Ct} {x x' : Sx} {σ : St} {H H' : Hp} {Δ : SD}
theorem own_some {G : Gc} {Av : Addr → Prop} {a : Addr} {d : D} (h : Own G Av H a d) : H a ≠ none := by
  intro z
  cases d <;> first
    | exact h.elim
    | (obtain ⟨vs, h1, h2⟩ := h; rw [z] at h1; cases h1)
    | (obtain ⟨C, dx, us, _, h1, h2⟩ := h; rw [z] at h1; cases h1)
theorem own_keepAt {G : Gc} {Av Av' : Addr → Prop} {a : Addr} {d : D} (kp : Keep G Av Av' H H') (ha : ∀ o, H a = some o → Fx o → H' a = some o) (h : Own G Av H a d) : Own G Av' H' a d := by
  cases d <;> first
    | exact h.elim
    | (obtain ⟨vs, h1, h2⟩ := h; exact ⟨vs, ha _ h1 (by first | exact fx_lst | exact fx_dK | exact fx_dT | exact fx_nd), h2.keep kp⟩)
    | (obtain ⟨C, dx, us, h0, h1, h2⟩ := h; exact ⟨C, dx, us, h0, ha _ h1 fx_ins, h2.keep kp⟩)
theorem WaitOk.kp {fr : Bool} {d : D} {v : V} (s : SR c x σ H Δ) (k : Kp x H x' H') (h : WaitOk fr c x H d v) : WaitOk fr c x' H' d v := by
  cases fr with
  | false => exact Rep.kp s k h
  | true =>
    obtain ⟨a, rfl, h0, hn, nav, nr, o⟩ := h
    have fa : ∀ o, H a = some o → Fx o → H' a = some o := fun o e f => k.frame a o e f nr
    refine ⟨a, rfl, h0, fun z => hn (k.trk a z), fun z => ?_, fun i z => ?_, own_keepAt (s.keep k) fa o⟩
    · rcases k.avb a z with q | q | ⟨j, q⟩
      · exact nav q
      · exact hn q
      · exact nr j q
    · rcases k.own i a z with ⟨j, q⟩ | q
      · exact nr j q
      · exact hn q
theorem okQ.wait {fr : Bool} {Q : VK} {d : D} {Δ' : SD} (h : ∀ v x' H', Kp x H x' H' → SR c x' σ H' Δ' → WaitOk fr c x' H' d v → (∀ a, v = .ref a → fr = true → H a = none) → Q v H') : okQ fr c x σ H Q d Δ' := by
  cases fr with
  | false => exact fun v x' H' k s r => h v x' H' k s r fun _ _ z => nomatch z
  | true => exact fun a x' H' k s h0 h1 nv nr o => h (.ref a) x' H' k s ⟨a, rfl, h0, own_some o, nv, nr, o⟩ fun b e _ => by cases e; exact h1
def putQ (fr : Bool) (d : D) : SC := match fr with
  | true => .ow d
  | false => .sh d
/-- a waiting value is stored; seen from any earlier heap -/
theorem SR.setQ {fr : Bool} {i : Nat} {d : D} {v : V} {x0 : Sx} {H0 : Hp} (s : SR c x σ H Δ) (k : Kp x0 H0 x H) (hio : ∀ p ∈ c.io, p.1 ≠ i) (hi : i < Δ.length) (w : WaitOk fr c x H d v) (hf : ∀ a, v = .ref a → fr = true → H0 a = none) :
    ∃ x', Kp x0 H0 x' H ∧ SR c x' (σ.set i (some v)) H (Δ.set i (putQ fr d)) ∧ ∀ (g : Bool) (e : D) (u : V), (∀ a b, v = .ref a → u = .ref b → fr = true → g = true → a ≠ b) → WaitOk g c x H e u → WaitOk g c x' H e u := by
  cases fr with
  | false =>
    obtain ⟨k2, s2⟩ := s.setSh hio hi w
    exact ⟨_, k.trans k2, s2, fun g e u _ h => h.kp s k2⟩
  | true =>
    obtain ⟨a, rfl, h0, hn, nav, nr, o⟩ := w
    have s2 := s.setOw hio hi h0 nav nr o
    refine ⟨_, k.setOw (hf a rfl rfl) i, s2, fun g e u ne h => ?_⟩
    cases g with
    | false => exact h
    | true =>
      obtain ⟨b, rfl, z0, zn, zav, zr, zo⟩ := h
      refine ⟨b, rfl, z0, zn, zav, fun j z => ?_, zo⟩
      rcases rho_ne z with ⟨_, q⟩ | ⟨_, q⟩
      · cases q; exact ne _ _ rfl rfl rfl rfl rfl
      · exact zr j q
end
theorem wait_ne {c : Ct} {x : Sx} {H : Hp} {f g : Bool} {d : D} {v u : V} (w : WaitOk f c x H d v) (h : ∀ a, u = .ref a → g = true → H a = none) : ∀ a b, v = .ref a → u = .ref b → f = true → g = true → a ≠ b := fun a b e1 e2 g1 g2 z => by
  subst z
  have hb := h a e2 g2
  subst g1
  obtain ⟨a', e', _, hn, _⟩ := w
  rw [e1] at e'; cases e'
  exact hn hb
def mPut2 (i j : Nat) (f1 f2 : Bool) (fa fb : M D) : M Fl := mBind fa fun a => mBind fb fun b Δ => if i < Δ.length ∧ j < Δ.length then .ok .nx ((Δ.set i (putQ f1 a)).set j (putQ f2 b)) else .bad
def mPut3 (i j l : Nat) (f1 f2 f3 : Bool) (fa fb fc : M D) : M Fl := mBind fa fun a => mBind fb fun b => mBind fc fun c Δ => if i < Δ.length ∧ j < Δ.length ∧ l < Δ.length then .ok .nx (((Δ.set i (putQ f1 a)).set j (putQ f2 b)).set l (putQ f3 c)) else .bad
section
variable {X : Cx} {c : Ct} {W : WX} {a b e : Expr} {fa fb fe : M D} {pos px py pz pt pt2 : Pos} {kt k2 i j l : Nat} {x y z : Str} {f1 f2 f3 : Bool}
theorem ds_par (hio : ∀ p ∈ c.io, p.1 ≠ i) (hio2 : ∀ p ∈ c.io, p.1 ≠ j) (hc : X.calm = true) (hN : X.N.Nodup) (hi : X.N[i]? = some x) (hj : X.N[j]? = some y) (hij : i ≠ j) (hx : X.env.scope.names.lookup x = some .local) (hy : X.env.scope.names.lookup y = some .local)
    (ha : DQ X c W f1 a fa) (hb : DQ X c W f2 b fb)
    (hw : swappedStores [.Tuple [.Name x px, .Name y py] kt pt] (.Tuple [a, b] k2 pt2) X.env = pure (some [x, y]))
    (hs : swapsWithSole [.Tuple [.Name x px, .Name y py] kt pt] (.Tuple [a, b] k2 pt2) pos.line X.env = pure false := by rfl)
    (h1 : starEach [a, b] X.env = (false, eval a X.env) :: starEach [b] X.env := by rfl) (h2 : starEach [b] X.env = (false, eval b X.env) :: starEach [] X.env := by rfl) :
    DS X c W (.Assign [.Tuple [.Name x px, .Name y py] kt pt] (.Tuple [a, b] k2 pt2) pos) (mPut2 i j f1 f2 fa fb) := by
  obtain ⟨ta, pa, sa⟩ := ha.out
  obtain ⟨tb, pb, sb⟩ := hb.out
  refine ⟨_, ps_par hc hN hi hj hij hx hy (pa_cons pa (pa_cons pb pa_nil h2) h1) hw hs, fun x σ H Δ E sr q => ?_⟩
  refine sa x σ H Δ _ sr (Post.bind (q.toPost (σ := σ)) fun d1 Δ1 q1 => okQ.wait fun v x1 H1 k1 sr1 w1 fr1 => ?_)
  refine sb x1 σ H1 Δ1 _ sr1 (Post.bind2 q1 k1 fun d2 Δ2 q2 => okQ.wait fun u x2 H2 k2 sr2 w2 fr2 => ?_)
  refine ⟨v, u, rfl, ?_⟩
  have q3 : Post c W x σ H (okS c x H E) (if i < Δ2.length ∧ j < Δ2.length then .ok .nx ((Δ2.set i (putQ f1 d1)).set j (putQ f2 d2)) else .bad) := q2
  split at q3
  · rename_i hl
    obtain ⟨x3, k3, s3, keep⟩ := sr2.setQ (i := i) (x0 := x) (H0 := H) (k1.trans k2) hio hl.1 (w1.kp sr1 k2) fr1
    have w2' := keep f2 d2 u (wait_ne w1 fr2) w2
    obtain ⟨x4, k4, s4, _⟩ := s3.setQ (i := j) k3 hio2 (by rw [List.length_set]; exact hl.2) w2' fun a e g => k1.trk a (fr2 a e g)
    have q4 : okS c x H E .nx ((Δ2.set i (putQ f1 d1)).set j (putQ f2 d2)) := q3
    exact q4 _ x4 H2 k4 s4
  · exact q3.elim
theorem ds_par3 (hio : ∀ p ∈ c.io, p.1 ≠ i) (hio2 : ∀ p ∈ c.io, p.1 ≠ j) (hio3 : ∀ p ∈ c.io, p.1 ≠ l) (hc : X.calm = true) (hN : X.N.Nodup) (hi : X.N[i]? = some x) (hj : X.N[j]? = some y) (hl : X.N[l]? = some z) (hij : i ≠ j) (hil : i ≠ l) (hjl : j ≠ l)
    (hx : X.env.scope.names.lookup x = some .local) (hy : X.env.scope.names.lookup y = some .local) (hz : X.env.scope.names.lookup z = some .local)
    (ha : DQ X c W f1 a fa) (hb : DQ X c W f2 b fb) (he : DQ X c W f3 e fe)
    (hw : swappedStores [.Tuple [.Name x px, .Name y py, .Name z pz] kt pt] (.Tuple [a, b, e] k2 pt2) X.env = pure (some [x, y, z]))
    (hs : swapsWithSole [.Tuple [.Name x px, .Name y py, .Name z pz] kt pt] (.Tuple [a, b, e] k2 pt2) pos.line X.env = pure false := by rfl)
    (h1 : starEach [a, b, e] X.env = (false, eval a X.env) :: starEach [b, e] X.env := by rfl) (h2 : starEach [b, e] X.env = (false, eval b X.env) :: starEach [e] X.env := by rfl) (h3 : starEach [e] X.env = (false, eval e X.env) :: starEach [] X.env := by rfl) :
    DS X c W (.Assign [.Tuple [.Name x px, .Name y py, .Name z pz] kt pt] (.Tuple [a, b, e] k2 pt2) pos) (mPut3 i j l f1 f2 f3 fa fb fe) := by
  obtain ⟨ta, pa, sa⟩ := ha.out
  obtain ⟨tb, pb, sb⟩ := hb.out
  obtain ⟨te, pe, se⟩ := he.out
  refine ⟨_, ps_par3 hc hN hi hj hl hij hil hjl hx hy hz (pa_cons pa (pa_cons pb (pa_cons pe pa_nil h3) h2) h1) hw hs, fun x σ H Δ E sr q => ?_⟩
  refine sa x σ H Δ _ sr (Post.bind (q.toPost (σ := σ)) fun d1 Δ1 q1 => okQ.wait fun v x1 H1 k1 sr1 w1 fr1 => ?_)
  refine sb x1 σ H1 Δ1 _ sr1 (Post.bind2 q1 k1 fun d2 Δ2 q2 => okQ.wait fun u x2 H2 k2 sr2 w2 fr2 => ?_)
  refine se x2 σ H2 Δ2 _ sr2 (Post.bind2 q2 (k1.trans k2) fun d3 Δ3 q3 => okQ.wait fun w x3 H3 k3 sr3 w3 fr3 => ?_)
  refine ⟨v, u, w, rfl, ?_⟩
  have q4 : Post c W x σ H (okS c x H E) (if i < Δ3.length ∧ j < Δ3.length ∧ l < Δ3.length then .ok .nx (((Δ3.set i (putQ f1 d1)).set j (putQ f2 d2)).set l (putQ f3 d3)) else .bad) := q3
  split at q4
  · rename_i hl
    obtain ⟨x4, k4, s4, keep⟩ := sr3.setQ (i := i) (x0 := x) (H0 := H) ((k1.trans k2).trans k3) hio hl.1 ((w1.kp sr1 k2).kp sr2 k3) fr1
    have w2' := keep f2 d2 u (wait_ne w1 fr2) (w2.kp sr2 k3)
    have w3' := keep f3 d3 w (wait_ne (w1.kp sr1 k2) fr3) w3
    obtain ⟨x5, k5, s5, keep2⟩ := s4.setQ (i := j) k4 hio2 (by rw [List.length_set]; exact hl.2.1) w2' fun a e g => k1.trk a (fr2 a e g)
    have w3'' := keep2 f3 d3 w (wait_ne w2 fr3) w3'
    obtain ⟨x6, k6, s6, _⟩ := s5.setQ (i := l) k5 hio3 (by rw [List.length_set, List.length_set]; exact hl.2.2) w3'' fun a e g => (k1.trans k2).trk a (fr3 a e g)
    have q5 : okS c x H E .nx (((Δ3.set i (putQ f1 d1)).set j (putQ f2 d2)).set l (putQ f3 d3)) := q4
    exact q5 _ x6 H3 k6 s6
  · exact q4.elim
end
end DL

namespace DL
open PySem L2

def reprOk (p : PyData) : Bool := p.showable && decide (p.shown.length ≤ lim) && decide (p.depth < 60)
def dRepr : List D → Option D
  | [d] => (toPy d).bind fun p => if reprOk p = true then some (.str p.shown) else none
  | _ => none
def rReprD (K : PySem.W.Frag) : List V → Hp → VK → Prop := fun xs H Q => ∃ v p, xs = [v] ∧ Dp K H v p ∧ p.canLay0 = true ∧ reprOk p = true ∧ Q (.str p.shown) H
theorem call_reprD {X : Cx} (hg : X.A.guards = some []) (hu : X.A.units + 64 < cLine) : CallR X (.builtin "repr") (rReprD X.K) := by
  intro pins s σ H xs us Q I r h
  obtain ⟨v, p, rfl, hd, hl, ok, q⟩ := h
  obtain ⟨u, rfl, rv⟩ := vals1 r
  unfold reprOk at ok
  simp only [Bool.and_eq_true, decide_eq_true_eq] at ok
  obtain ⟨⟨hs, hz⟩, hdp⟩ := ok
  have hz := lim_ok hz
  cases hd with
  | non => cases rv; exact P.repr_of_none ⟨.str _, H, I.tok _, ⟨_, rfl⟩, by simpa only [PyData.shown] using q⟩
  | bl b => cases rv; exact P.repr_of_bool ⟨.str _, H, I.tok _, ⟨_, rfl⟩, by simpa only [PyData.shown] using q⟩
  | int i =>
    obtain ⟨t, rfl⟩ := rv
    exact P.repr_of_int (by simpa [PyData.showable] using hs) ⟨.str _, H, I.tok _, ⟨_, rfl⟩, by simpa only [PyData.shown] using q⟩
  | str x =>
    obtain ⟨t, rfl⟩ := rv
    exact P.repr_of_str ⟨.str _, H, I.tok _, ⟨_, rfl⟩, by simpa only [PyData.shown] using q⟩ (by simpa only [PyData.shown] using hz)
  | lst h1 h2 =>
    cases rv
    obtain ⟨as, rd⟩ := Dp.reads I _ _ _ (.lst h1 h2) rfl
    exact repr_of_reads' rd hs (PyData.noDict_hsm (PyData.hasDict_of_canLay _ hl)) hg (by omega) (fun _ _ e => e) (fun h' u tk hk => ⟨.str _, H, I.kept hk, ⟨_, rfl⟩, q⟩) hz
  | tup h1 h2 =>
    cases rv
    obtain ⟨as, rd⟩ := Dp.reads I _ _ _ (.tup h1 h2) rfl
    exact repr_of_reads' rd hs (PyData.noDict_hsm (PyData.hasDict_of_canLay _ hl)) hg (by omega) (fun _ _ e => e) (fun h' u tk hk => ⟨.str _, H, I.kept hk, ⟨_, rfl⟩, q⟩) hz
theorem d_repr {G : Gc} : CaD G (rReprD G.K) dRepr := by
  intro Av H ds vs Q fr r q
  cases ds with
  | nil => exact q.elim
  | cons d ds =>
    cases ds with
    | cons _ _ => exact q.elim
    | nil =>
      obtain ⟨v, rfl, r1⟩ := rl_one r
      have q0 : outV G Av H Q ((toPy d).bind fun p => if reprOk p = true then some (.str p.shown) else none) := q
      cases e : toPy d with
      | none => rw [e] at q0; exact q0.elim
      | some p =>
        rw [e] at q0
        have q' : outV G Av H Q (if reprOk p = true then some (.str p.shown) else none) := q0
        by_cases ok : reprOk p = true
        · rw [if_pos ok] at q'
          exact ⟨v, p, rfl, r1.dp e, canLay_of e, ok, outV.now (G := G) (Av := Av) q' mk_str⟩
        · rw [if_neg ok] at q'; exact q'.elim
end DL

namespace DL
open PySem L2 PySem.Spec PyProof.Rows

/-- the built-ins' names are not taken by the text -/
structure Bn (mg : Str → Option Value) : Prop where
  isinstance : mg "isinstance" = none
  len : mg "len" = none
  all : mg "all" = none
  any : mg "any" = none
  max : mg "max" = none
  min : mg "min" = none
  sum : mg "sum" = none
  abs : mg "abs" = none
  range : mg "range" = none
  enumerate : mg "enumerate" = none
  zip : mg "zip" = none
  repr : mg "repr" = none
  sorted : mg "sorted" = none
  int : mg "int" = none
  bool : mg "bool" = none
  str : mg "str" = none
  list : mg "list" = none
  tuple : mg "tuple" = none
  dict : mg "dict" = none
  set : mg "set" = none
/-- a def of the text -/
structure FnAt (K : PySem.W.Frag) (mg : Str → Option Value) (nm qual : Str) (st : Stmt) (ps : List Str) : Prop where
  out : ∃ (f : Addr) (fd : FuncData), mg nm = some (.ref f) ∧ Fun K nm qual st f fd ∧ Binds K fd ps []
/-- .. with its mirror -/
structure CallD (P : Program) (w : World) (K : PySem.W.Frag) (mg : Str → Option Value) (base : Heap) (T : List (Addr × Str)) (nm : Str) (k : Nat) (ps : List Str) (io : List Nat) (g : List D → RD) : Prop where
  out : ∃ (f : Addr) (fd : FuncData), mg nm = some (.ref f) ∧ PySem.W.keepIn K (.ref f) = true ∧ Binds K fd ps [] ∧ DFn P w K mg base T k f fd ps io g
section
variable {P : Program} {w : World} {K : PySem.W.Frag} {mg : Str → Option Value} {base : Heap} {T : List (Addr × Str)} {nm qual : Str} {st : Stmt} {N ps : List Str} {io : List Nat} {k : Nat} {fb : M Fl}
theorem dfn_mk (F : FnAt K mg nm qual st ps) (S : FnScope N ps (defScope st))
    (hb : ∀ (f : Addr) (cd : Value) (A : Around) (outer : List Env) (s : Shared) (H : Hp) (E : XK) (H0 : Hp) (A0 : Addr → Prop) (ios : List (Nat × Addr)) (W : WX), Ok (cxD P w K mg base N qual (defScope st) f cd A outer s H E) ⟨⟨K, mg, T⟩, H0, A0, ios⟩ W k → ios.map (·.1) = io →
      DB (cxD P w K mg base N qual (defScope st) f cd A outer s H E) ⟨⟨K, mg, T⟩, H0, A0, ios⟩ W (defBody st) fb) : CallD P w K mg base T nm (k + 1) ps io (mDef N.length io fb) := by
  obtain ⟨f, fd, hm, F, hbd⟩ := F.out
  refine ⟨f, fd, hm, F.kp, hbd, dfn_of F S fun cd A outer s H E c W o hT hio _ => ?_⟩
  obtain ⟨⟨K', mg', T'⟩, H0, A0, ios⟩ := c
  have e1 : K' = K := o.hK
  have e2 : mg' = mg := o.hmg
  have e3 : T' = T := hT
  subst e1 e2 e3
  exact hb f cd A outer s H E H0 A0 ios W o hio
end
theorem nio {ios : List (Nat × Addr)} {io : List Nat} {i : Nat} (h : ios.map (·.1) = io) (hi : i ∉ io) : ∀ p ∈ ios, p.1 ≠ i := fun p hp e => hi (by rw [← h, ← e]; exact List.mem_map_of_mem (f := (·.1)) hp)
theorem nios {ios : List (Nat × Addr)} {io l : List Nat} (h : ios.map (·.1) = io) (hi : ∀ i ∈ io, i ∉ l) : ∀ p ∈ ios, p.1 ∉ l := fun p hp => hi p.1 (by rw [← h]; exact List.mem_map_of_mem (f := (·.1)) hp)
section
variable {X : Cx} {c : Ct} {W : WX} {k : Nat}
theorem Ok.blk (o : Ok X c W k) (s : Shared) (H : Hp) (scope : Scope) (cenv : Env) (fp : List Addr) : Ok (X.blk s H scope cenv fp) c noW k :=
  ⟨o.hK, o.hmg, o.calm, o.room, o.gd, takes_no, PassesOwn.never, o.nd⟩
theorem Ok.units (o : Ok X c W k) : X.A.units + 64 < cLine := by have := o.room.un; omega
variable {nm : Str} {kf : Nat} {ps : List Str} {io : List Nat} {g : List D → RD} {p pos : Pos} {e : Expr} {es : List Expr} {fs : M (List AK)}
theorem de_own (F : CallD X.prog X.w X.K X.mg X.base c.T nm kf ps io g) (o : Ok X c W k) (hk : kf ≤ k) (hg : Gl X nm) (ha : DA X c W (e :: es) fs) (hdb : (nm == ("__debug__" : Str)) = false := by decide) (he : starEach (e :: es) X.env = (false, eval e X.env) :: starEach es X.env := by rfl) (hpl : (backTo pos (starEach es X.env)).any (·.1) = false := by rfl) :
    DE X c W (.Call (.Name nm p) (e :: es) [] pos) (mCall ps.length io g fs) := by
  obtain ⟨f, fd, hm, hkp, hb, F⟩ := F.out
  exact de_call F o hk hg hm hkp hb ha hdb he hpl
theorem df_own (F : CallD X.prog X.w X.K X.mg X.base c.T nm kf ps io g) (o : Ok X c W k) (hk : kf ≤ k) (hg : Gl X nm) (ha : DA X c W (e :: es) fs) (hdb : (nm == ("__debug__" : Str)) = false := by decide) (he : starEach (e :: es) X.env = (false, eval e X.env) :: starEach es X.env := by rfl) (hpl : (backTo pos (starEach es X.env)).any (·.1) = false := by rfl) :
    DF X c W (.Call (.Name nm p) (e :: es) [] pos) (mCallN ps.length io g fs) := by
  obtain ⟨f, fd, hm, hkp, hb, F⟩ := F.out
  exact df_call F o hk hg hm hkp hb ha hdb he hpl
theorem de_own0 (F : CallD X.prog X.w X.K X.mg X.base c.T nm kf ps io g) (o : Ok X c W k) (hk : kf ≤ k) (hg : Gl X nm) (hdb : (nm == ("__debug__" : Str)) = false := by decide) :
    DE X c W (.Call (.Name nm p) [] [] pos) (mCall ps.length io g mNil) := by
  obtain ⟨f, fd, hm, hkp, hb, F⟩ := F.out
  exact de_call0 F o hk hg hm hkp hb hdb
theorem df_own0 (F : CallD X.prog X.w X.K X.mg X.base c.T nm kf ps io g) (o : Ok X c W k) (hk : kf ≤ k) (hg : Gl X nm) (hdb : (nm == ("__debug__" : Str)) = false := by decide) :
    DF X c W (.Call (.Name nm p) [] [] pos) (mCallN ps.length io g mNil) := by
  obtain ⟨f, fd, hm, hkp, hb, F⟩ := F.out
  exact df_call0 F o hk hg hm hkp hb hdb
/-! ### names of types, of classes -/
theorem de_ty {x : Str} {T : String} (hg : Gl X x) (hm : X.mg x = none) (hv : bootBuiltins x = some (.type T)) (hn : x ≠ "__name__" := by decide) (hd : (x == ("__debug__" : Str)) = false := by decide) : DE X c W (.Name x pos) (mPure (.ty T)) :=
  de_c (pe_bltn hg hm hv (show RelV (.ty T) (.type T) from rfl) hn hd) fun _ _ => by unfold Rep; rfl
theorem de_cls {x : Str} (o : Ok X c W k) (hg : Gl X x) (hm : ∃ C, X.mg x = some (.ref C)) (hd : (x == ("__debug__" : Str)) = false := by decide) : DE X c W (.Name x pos) (mPure (.cls x)) := by
  obtain ⟨C, hm⟩ := hm
  refine de_c (pe_glob hg hm (show RelV (.ref C) (.ref C) from rfl) hd) fun _ _ => ?_
  unfold Rep
  exact ⟨C, by rw [o.hmg]; exact hm, rfl⟩
/-! ### {} -/
theorem df_dct0 : DF X c W (.Dict [] [] pos) (mPure (.dct [])) := by
  refine ⟨_, pe_dnewK, fun x σ H Δ Q sr q p hp => ?_⟩
  obtain ⟨k, sr2, h0, nr⟩ := sr.alloc hp (Ex.new (o := .dK []) hp)
  exact q p _ _ k (sr2 (by rw [upd_same]; intro z; cases z)) h0 hp (fun z => z.2 rfl) nr ⟨[], upd_same, by unfold RepK; rfl⟩
theorem df_dcT0 : DF X c W (.Dict [] [] pos) (mPure (.dcT [])) := by
  refine ⟨_, pe_dnewT, fun x σ H Δ Q sr q p hp => ?_⟩
  obtain ⟨k, sr2, h0, nr⟩ := sr.alloc hp (Ex.new (o := .dT []) hp)
  exact q p _ _ k (sr2 (by rw [upd_same]; intro z; cases z)) h0 hp (fun z => z.2 rfl) nr ⟨[], upd_same, by unfold RepT; rfl⟩
end

/-! ### return of a name: an own object goes out with it -/
def mRetVar (i : Nat) : M Fl := fun Δ => match Δ[i]? with
  | some (.ow d) => .ok (.rf d) (Δ.set i .un)
  | some (.sh d) => .ok (.rt d) Δ
  | _ => .bad
section
variable {c : Ct} {x : Sx} {σ : L2.St} {H : Hp} {Δ : SD}
theorem SR.take (s : SR c x σ H Δ) {i : Nat} {a : Addr} {d : D} (hd : Δ[i]? = some (.ow d)) (ha : x.ρ i = some a) (hio : ∀ p ∈ c.io, p.1 ≠ i) :
    Kp x H ⟨x.Av, fun j => if j = i then none else x.ρ j⟩ H ∧ SR c ⟨x.Av, fun j => if j = i then none else x.ρ j⟩ σ H (Δ.set i .un) ∧ c.H0 a = none ∧ ¬ x.Av a ∧ (∀ j, (if j = i then none else x.ρ j) ≠ some a) ∧ Own c.toGc x.Av H a d := by
  obtain ⟨nav, nn, hor⟩ := s.ow i a ha
  have rho : ∀ {j b}, (if j = i then none else x.ρ j) = some b → j ≠ i ∧ x.ρ j = some b := fun {j b} q => by
    rcases rho_ne q with ⟨_, h⟩ | h
    · cases h
    · exact h
  have h0 : c.H0 a = none := by
    rcases hor with q | ⟨p, hp, e⟩
    · exact q
    · exact absurd (s.inj _ _ _ (by rw [← e]; exact s.ios p hp) ha) (hio p hp)
  have z := s.slot i
  rw [hd] at z
  obtain ⟨b, hb, _, ho⟩ := z
  rw [ha] at hb; cases hb
  refine ⟨⟨fun p o h _ _ => h, fun p h => h, fun j p h => .inl ⟨j, (rho h).2⟩, fun p h _ => h, fun p h => .inl h⟩, ?_, h0, nav, fun j q => (rho q).1 (s.inj _ _ _ (rho q).2 ha), ho⟩
  exact {
    len := by rw [List.length_set]; exact s.len
    base := s.base
    tab := s.tab
    trk := s.trk
    fr := s.fr
    av := s.av
    a0 := s.a0
    ow := fun j b q => s.ow j b (rho q).2
    inj := fun j l b q1 q2 => s.inj _ _ _ (rho q1).2 (rho q2).2
    slot := fun j => by
      by_cases e : j = i
      · subst e
        cases q : (Δ.set j SC.un)[j]? with
        | none => trivial
        | some w =>
          rw [List.getElem?_set_self (List.getElem?_eq_some_iff.mp hd).1] at q
          cases q; trivial
      · rw [List.getElem?_set_ne (Ne.symm e)]
        have z := s.slot j
        revert z
        cases Δ[j]? with
        | none => intro _; trivial
        | some w =>
          cases w with
          | un => intro _; trivial
          | sh d' => exact fun z => z
          | ow d' => exact fun ⟨b, z0, z1, z2⟩ => ⟨b, by show (if j = i then none else x.ρ j) = some b; rw [if_neg e]; exact z0, z1, z2⟩
    ios := fun p hp => by show (if p.1 = i then none else x.ρ p.1) = some p.2; rw [if_neg (hio p hp)]; exact s.ios p hp }
end
section
variable {X : Cx} {c : Ct} {W : WX} {i : Nat} {n : Str} {pos p1 : Pos}
theorem ds_retVar (hio : ∀ p ∈ c.io, p.1 ≠ i) (hN : X.N[i]? = some n) (hv : Vis X.env.scope n) (hd : (n == ("__debug__" : Str)) = false := by decide) (hcd : (n == ("__classdict__" : Str)) = false := by decide) :
    DS X c W (.Return (some (.Name n p1)) pos) (mRetVar i) := by
  refine ⟨_, ps_ret (pe_var hN hv hd hcd), fun x σ H Δ E sr q => ?_⟩
  have sl := sr.slot i
  unfold mRetVar at q
  cases e : Δ[i]? with
  | none => rw [e] at q; exact q.elim
  | some z =>
    rw [e] at q sl
    cases z with
    | un => exact q.elim
    | sh d =>
      obtain ⟨v, h1, h2⟩ := sl
      exact ⟨v, h1, q v σ x H (Kp.refl _ _) sr h2⟩
    | ow d =>
      obtain ⟨a, h0, h1, h2⟩ := sl
      obtain ⟨k, s2, z0, nav, nr, o⟩ := sr.take e h0 hio
      exact ⟨.ref a, h1, q a σ _ H k s2 z0 nav nr o⟩
end
end DL

namespace DL
open PySem L2
theorem bt_isinstance : bootBuiltins "isinstance" = some (.builtin "isinstance") := by decide +kernel
theorem bt_len : bootBuiltins "len" = some (.builtin "len") := by decide +kernel
theorem bt_all : bootBuiltins "all" = some (.builtin "all") := by decide +kernel
theorem bt_any : bootBuiltins "any" = some (.builtin "any") := by decide +kernel
theorem bt_max : bootBuiltins "max" = some (.builtin "max") := by decide +kernel
theorem bt_min : bootBuiltins "min" = some (.builtin "min") := by decide +kernel
theorem bt_sum : bootBuiltins "sum" = some (.builtin "sum") := by decide +kernel
theorem bt_abs : bootBuiltins "abs" = some (.builtin "abs") := by decide +kernel
theorem bt_repr : bootBuiltins "repr" = some (.builtin "repr") := by decide +kernel
theorem bt_int : bootBuiltins "int" = some (.type "int") := by decide +kernel
theorem bt_bool : bootBuiltins "bool" = some (.type "bool") := by decide +kernel
theorem bt_str : bootBuiltins "str" = some (.type "str") := by decide +kernel
theorem bt_list : bootBuiltins "list" = some (.type "list") := by decide +kernel
theorem bt_dict : bootBuiltins "dict" = some (.type "dict") := by decide +kernel
theorem bt_tuple : bootBuiltins "tuple" = some (.type "tuple") := by decide +kernel
section
variable {X : Cx} {c : Ct} {W : WX} {k : Nat} {e : Expr} {es : List Expr} {fs : M (List AK)} {p pos : Pos}
/-- a cut of a list, a tuple, a text -/
theorem sl_all {X : Cx} : SlR X (rSlD X.K) := (sl_list.or (sl_tup.or sl_str))
end
end DL

namespace DL
open PySem L2 PySem.Spec PyProof.Rows
section
variable {K : PySem.W.Frag} {h : Heap} {mg : Str → Option Value}
theorem fnat_mk {nm qual : Str} {st : Stmt} {ps : List Str} {f : Addr} {oc : Value} {od an : Option Addr} {osl : Array (Option Value)} {kV doc pm cdv ct : Value} (X : K.In h) (G : h.Ns mainGlobals mg)
    (a : PySem.W.nsIn K mainGlobals nm = some (some (.ref f))) (l : K.lookup f = some ⟨oc, od, .func (PySem.W.fnOf nm qual (defArgs st) (defBody st) (defScope st) .none kV doc pm an cdv ct), osl⟩) (c : PySem.W.codeIn K cdv qual = true) (k : PySem.W.keepIn K (.ref f) = true)
    (hb : ∀ (kV doc pm : Value) (an : Option Addr) (cdv ct : Value) (us : List Value), us.length = ps.length → bindArgs (PySem.W.fnOf nm qual (defArgs st) (defBody st) (defScope st) .none kV doc pm an cdv ct) ⟨us, []⟩ = pure (ps.zip us)) : FnAt K mg nm qual st ps :=
  ⟨f, _, PySem.W.mg_of X G a, fun_mk l c k, (fun_mk l c k).binds hb⟩
theorem bn_mk (X : K.In h) (G : h.Ns mainGlobals mg) (z1 : PySem.W.nsIn K mainGlobals "isinstance" = some none) (z2 : PySem.W.nsIn K mainGlobals "len" = some none) (z3 : PySem.W.nsIn K mainGlobals "all" = some none) (z4 : PySem.W.nsIn K mainGlobals "any" = some none) (z5 : PySem.W.nsIn K mainGlobals "max" = some none) (z6 : PySem.W.nsIn K mainGlobals "min" = some none)
    (z7 : PySem.W.nsIn K mainGlobals "sum" = some none) (z8 : PySem.W.nsIn K mainGlobals "abs" = some none) (z9 : PySem.W.nsIn K mainGlobals "range" = some none) (z10 : PySem.W.nsIn K mainGlobals "enumerate" = some none) (z11 : PySem.W.nsIn K mainGlobals "zip" = some none) (z12 : PySem.W.nsIn K mainGlobals "repr" = some none)
    (z13 : PySem.W.nsIn K mainGlobals "sorted" = some none) (z14 : PySem.W.nsIn K mainGlobals "int" = some none) (z15 : PySem.W.nsIn K mainGlobals "bool" = some none) (z16 : PySem.W.nsIn K mainGlobals "str" = some none) (z17 : PySem.W.nsIn K mainGlobals "list" = some none) (z18 : PySem.W.nsIn K mainGlobals "tuple" = some none)
    (z19 : PySem.W.nsIn K mainGlobals "dict" = some none) (z20 : PySem.W.nsIn K mainGlobals "set" = some none) : Bn mg :=
  ⟨PySem.W.mg_none_of X G z1, PySem.W.mg_none_of X G z2, PySem.W.mg_none_of X G z3, PySem.W.mg_none_of X G z4, PySem.W.mg_none_of X G z5, PySem.W.mg_none_of X G z6, PySem.W.mg_none_of X G z7, PySem.W.mg_none_of X G z8, PySem.W.mg_none_of X G z9, PySem.W.mg_none_of X G z10,
    PySem.W.mg_none_of X G z11, PySem.W.mg_none_of X G z12, PySem.W.mg_none_of X G z13, PySem.W.mg_none_of X G z14, PySem.W.mg_none_of X G z15, PySem.W.mg_none_of X G z16, PySem.W.mg_none_of X G z17, PySem.W.mg_none_of X G z18, PySem.W.mg_none_of X G z19, PySem.W.mg_none_of X G z20⟩
/-- a law's def, its mirror -/
theorem dfn_mk0 {P : Program} {w : World} {base : Heap} {nm qual : Str} {st : Stmt} {f : Addr} {fd : FuncData} {N ps : List Str} {io : List Nat} {k : Nat} {fb : M Fl} (F : Fun K nm qual st f fd) (S : FnScope N ps (defScope st))
    (hb : ∀ (cd : Value) (A : Around) (outer : List Env) (s : Shared) (H : Hp) (E : XK) (H0 : Hp) (A0 : Addr → Prop) (ios : List (Nat × Addr)) (W : WX), Ok (cxD P w K mg base N qual (defScope st) f cd A outer s H E) ⟨⟨K, mg, T⟩, H0, A0, ios⟩ W k → ios.map (·.1) = io →
      DB (cxD P w K mg base N qual (defScope st) f cd A outer s H E) ⟨⟨K, mg, T⟩, H0, A0, ios⟩ W (defBody st) fb) : DFn P w K mg base T (k + 1) f fd ps io (mDef N.length io fb) := by
  refine dfn_of F S fun cd A outer s H E c W o hT hio _ => ?_
  obtain ⟨⟨K', mg', T'⟩, H0, A0, ios⟩ := c
  have e1 : K' = K := o.hK
  have e2 : mg' = mg := o.hmg
  have e3 : T' = T := hT
  subst e1 e2 e3
  exact hb cd A outer s H E H0 A0 ios W o hio
end
end DL

namespace DL
open PySem L2 PySem.Spec PyProof.Rows
section
variable {X : Cx} {c : Ct} {W : WX} {k : Nat} {p pos p1 p2 p3 : Pos} {e : Expr} {fa : M AK}
theorem de_gint {x : Str} {n : Int} (hg : Gl X x) (hm : ∃ t, X.mg x = some (.int n t)) (hd : (x == ("__debug__" : Str)) = false := by decide) : DE X c W (.Name x pos) (mPure (.int n)) := by
  obtain ⟨t, hm⟩ := hm
  exact de_c (pe_glob hg hm (show RelV (.int n) (.int n t) from ⟨t, rfl⟩) hd) fun _ _ => by unfold Rep; rfl
theorem de_gstr {x n : Str} (hg : Gl X x) (hm : ∃ t, X.mg x = some (.str n t)) (hd : (x == ("__debug__" : Str)) = false := by decide) : DE X c W (.Name x pos) (mPure (.str n)) := by
  obtain ⟨t, hm⟩ := hm
  exact de_c (pe_glob hg hm (show RelV (.str n) (.str n t) from ⟨t, rfl⟩) hd) fun _ _ => by unfold Rep; rfl
/-- a list backwards -/
def dRev : D → Option D
  | .lst ds => some (.lst ds.reverse)
  | _ => none
theorem df_rev (o : Ok X c W k) (h : DO X c W e fa) {j : Nat} : DF X c W (.Subscript e (.Slice none none (some (.UnaryOp .USub (.Constant (.int 1) j p1) p2)) p3) pos) (mUn dRev fa) := by
  obtain ⟨t, pe, s⟩ := h.out
  refine ⟨_, pe_revL pe, fun x σ H Δ Q sr q => s x σ H Δ _ sr (q.bind fun a Δ1 q1 v x1 H1 k1 sr1 h1 => ?_)⟩
  obtain ⟨d, r, q2⟩ := Post.get sr1 h1 (q1.step k1 fun a Δ q => okF.step k1 q)
  cases d with
  | lst ds =>
    obtain ⟨l, vs, rfl, hh, rl⟩ := rep_lst r
    have q3 := Post.outN sr1 q2
    rw [← o.hK]
    exact ⟨l, vs, rfl, SqL.of hh, fun p hp => newLN hp rl.rev q3⟩
  | _ => exact q2.elim
/-! ### xs[::k], k of 1, -1 -/
def tStepL (K : PySem.W.Frag) (te : TE) (ts : TO) : TE := fun σ H Q => te σ H fun x H1 => ts σ H1 fun o H2 => ∃ (a : Addr) (xs : List V) (b : Bool), x = .ref a ∧ SqL K H2 a xs ∧ o = some (if b then 1 else -1) ∧ ∀ p, H2 p = none → Q (.ref p) (upd H2 p (.lst (if b then xs else xs.reverse)))
theorem pick_one (items : Array Value) : slicePick items none none (some 1) = items := by
  have e : slicePick items none none (some 1) = slicePick items none none none := rfl
  have h := slicePick_cut (its := items.toList) (lo := none) (hi := none)
  rw [e]
  rw [show items = items.toList.toArray from rfl, h]
  show (List.take (items.toList.length - 0) (List.drop 0 items.toList)).toArray = _
  rw [List.drop_zero, Nat.sub_zero, List.take_length]
theorem pe_stepL {e st : Expr} {te : TE} {ts : TO} (he : PE X e te) (hst : PO X (some st) ts)
    (hsub : ∀ o i, subscripted (.Slice none none (some st) p3) false o i = operate [o, i] (getItem o i) := by intro _ _; with_unfolding_all rfl) : PE X (.Subscript e (.Slice none none (some st) p3) pos) (tStepL X.K te ts) := by
  refine ⟨fun pins s σ H Q I h => ?_⟩
  refine Subscript_ (thn (he.run pins s σ H _ I h) fun v s1 ⟨x, H1, I1, r1, q1⟩ => ?_)
  refine wpAny_Slice (thn (po_none.run pins s1 σ H1 (fun o H2 => o = none ∧ H2 = H1) I1 ⟨rfl, rfl⟩) fun vl s2 ⟨l, H2, I2, pl, el, e2⟩ => ?_)
  subst el e2
  refine thn (po_none.run pins s2 σ H2 (fun o H3 => o = none ∧ H3 = H2) I2 ⟨rfl, rfl⟩) fun vu s3 ⟨u, H3, I3, pu, eu, e3⟩ => ?_
  subst eu e3
  refine thn (hst.run pins s3 σ H3 _ I3 q1) fun vs s4 ⟨o, H4, I4, ps, a, xs, b, ex, hx, eo, q⟩ => ?_
  subst ex eo
  cases r1
  have I5 : Inv X pins σ H4 { s4 with heap := s4.heap.push { cls := .type "slice", data := .fields #[vl, vu, vs] } } := I4.kept (t' := s4.toks) fun b ob q => Heap.get?_push_of_some _ q
  obtain ⟨its, r, ht, hz⟩ := I5.list hx
  have hlen := r.length
  refine tail_any (ops := [.ref a, .ref s4.heap.objs.size]) ht.isList.typeIs (PySem.slot_list_getitem.lookup) ?_ (hsub _ _)
  refine wpAny_getItem_list_slice ht.isList (Heap.IsSliceOf.new _ vl vu vs) pl pu ps (by cases b <;> decide) ?_ (by rw [List.size_toArray]; omega)
  cases b with
  | false =>
    have e1 : slicePick its.toArray none none (some (if false = true then 1 else -1)) = its.reverse.toArray := PySem.W.krv_pick _
    rw [e1]
    refine ⟨.ref _, _, I5.laid (t' := s4.toks) (o := .lst xs.reverse) (fun b ob q => Heap.get?_push_of_some _ q) (Nat.le_refl _) ?_, rfl, q _ (I5.hok.fresh (Nat.le_refl _))⟩
    exact ⟨by rw [List.length_reverse]; exact hz, _, 0, r.reverse, Heap.get?_push_size _ rfl⟩
  | true =>
    have e1 : slicePick its.toArray none none (some (if true = true then 1 else -1)) = its.toArray := pick_one _
    rw [e1]
    refine ⟨.ref _, _, I5.laid (t' := s4.toks) (o := .lst xs) (fun b ob q => Heap.get?_push_of_some _ q) (Nat.le_refl _) ?_, rfl, q _ (I5.hok.fresh (Nat.le_refl _))⟩
    exact ⟨hz, _, 0, r, Heap.get?_push_size _ rfl⟩
def dStep : D → Option Int → Option D
  | .lst ds, some 1 => some (.lst ds)
  | .lst ds, some (-1) => some (.lst ds.reverse)
  | _, _ => none
def mStep (fa : M AK) (fs : M (Option Int)) : M D := mBind fa fun a => mBind fs fun o => mBind (mGet a) fun d => mOpt (dStep d o)
theorem dStep_some {d e : D} {o : Option Int} (h : dStep d o = some e) : ∃ (ds : List D) (b : Bool), d = .lst ds ∧ o = some (if b then 1 else -1) ∧ e = .lst (if b then ds else ds.reverse) := by
  unfold dStep at h
  split at h
  · cases h; exact ⟨_, true, rfl, rfl, rfl⟩
  · cases h; exact ⟨_, false, rfl, rfl, rfl⟩
  · cases h
theorem df_step {st : Expr} {fs : M (Option Int)} (o : Ok X c W k) (h : DO X c W e fa) (hs : DP X c W (some st) fs)
    (hsub : ∀ o i, subscripted (.Slice none none (some st) p3) false o i = operate [o, i] (getItem o i) := by intro _ _; with_unfolding_all rfl) : DF X c W (.Subscript e (.Slice none none (some st) p3) pos) (mStep fa fs) := by
  obtain ⟨t, pe, s⟩ := h.out
  obtain ⟨u, po, s2⟩ := hs.out
  refine ⟨_, pe_stepL pe po hsub, fun x σ H Δ Q sr q => s x σ H Δ _ sr (q.bind fun a Δ1 q1 v x1 H1 k1 sr1 h1 => ?_)⟩
  refine s2 x1 σ H1 Δ1 _ sr1 ((q1.step k1 fun a Δ q => okF.step k1 q).bind fun w Δ2 q2 x2 H2 k2 sr2 => ?_)
  obtain ⟨d, r, q3⟩ := Post.get sr2 (h1.kp sr1 k2) (q2.step k2 fun a Δ q => okF.step k2 q)
  cases ed : dStep d w with
  | none => rw [ed] at q3; exact q3.elim
  | some e' =>
    rw [ed] at q3
    obtain ⟨ds, b, rfl, rfl, rfl⟩ := dStep_some ed
    obtain ⟨l, vs, rfl, hh, rl⟩ := rep_lst r
    have q4 := Post.outN sr2 q3
    rw [← o.hK]
    refine ⟨l, vs, b, rfl, SqL.of hh, rfl, fun p hp => ?_⟩
    cases b with
    | true => exact newLN hp rl q4
    | false => exact newLN hp rl.rev q4
end
end DL

namespace DL
open PySem L2
abbrev EX := Str → Option D → SD → Prop
/-- what is wanted of an answer; given as an instance, so that simp leaves it alone -/
class Ko (α : Type) where
  ok : α → SD → Prop
  ex : EX
class Kr where
  ok : D → Bool → List D → Prop
  ex : Str → Option D → List D → Prop
class K1 (T : Type) where
  k : T → Prop
class K2 where
  k : D → SD → Prop
class K3 where
  k : List D → List (Nat × Nat) → Prop
@[irreducible] def wp {α : Type} (f : M α) (Δ : SD) [K : Ko α] : Prop := match f Δ with
  | .ok a Δ' => K.ok a Δ'
  | .ex n d Δ' => K.ex n d Δ'
  | .bad => False
/-- of a def's answer -/
@[irreducible] def wpR (r : RD) [K : Kr] : Prop := match r with
  | .ok d fr es => K.ok d fr es
  | .ex n d es => K.ex n d es
  | .bad => False
section
variable {α β : Type} {f : M α} {g : α → M β} {Δ : SD} {P : α → SD → Prop} {R : β → SD → Prop} {E : EX}
theorem wp_ext {P' : α → SD → Prop} (h : ∀ a Δ1, P a Δ1 = P' a Δ1) : wp f Δ (K := ⟨P, E⟩) = wp f Δ (K := ⟨P', E⟩) := by
  have e : P = P' := funext fun a => funext fun Δ1 => h a Δ1
  rw [e]
theorem wp_mono {P' : α → SD → Prop} {E' : EX} (h : wp f Δ (K := ⟨P, E⟩)) (k : ∀ a Δ', P a Δ' → P' a Δ') (ke : ∀ n d Δ', E n d Δ' → E' n d Δ') : wp f Δ (K := ⟨P', E'⟩) := by
  unfold wp at h ⊢
  generalize f Δ = r at h ⊢
  cases r with
  | ok a Δ' => exact k a Δ' h
  | ex n d Δ' => exact ke n d Δ' h
  | bad => exact h
theorem wpR_mono {r : RD} {Q Q' : D → Bool → List D → Prop} {F F' : Str → Option D → List D → Prop} (h : wpR r (K := ⟨Q, F⟩)) (k : ∀ d fr es, Q d fr es → Q' d fr es) (ke : ∀ n d es, F n d es → F' n d es) : wpR r (K := ⟨Q', F'⟩) := by
  unfold wpR at h ⊢
  cases r with
  | ok d fr es => exact k d fr es h
  | ex n d es => exact ke n d es h
  | bad => exact h
/-- no exception is awaited -/
abbrev noE : EX := fun _ _ _ => False
abbrev noF : Str → Option D → List D → Prop := fun _ _ _ => False
theorem wpR_use {r : RD} {Q Q' : D → Bool → List D → Prop} {F' : Str → Option D → List D → Prop} (h : wpR r (K := ⟨Q, noF⟩)) (k : ∀ d fr es, Q d fr es → Q' d fr es) : wpR r (K := ⟨Q', F'⟩) := wpR_mono h k fun _ _ _ z => z.elim
@[simp] theorem wp_pure {a : α} : wp (mPure a) Δ (K := ⟨P, E⟩) = P a Δ := by unfold wp; rfl
@[simp] theorem wp_bad : wp (mBad : M α) Δ (K := ⟨P, E⟩) = False := by unfold wp; rfl
@[simp] theorem wp_bind : wp (mBind f g) Δ (K := ⟨R, E⟩) = wp f Δ (K := ⟨(fun a Δ' => wp (g a) Δ' (K := ⟨R, E⟩)), E⟩) := by
  unfold wp mBind
  cases f Δ <;> rfl
@[simp] theorem wp_optS {a : α} : wp (mOpt (some a)) Δ (K := ⟨P, E⟩) = P a Δ := by unfold wp; rfl
@[simp] theorem wp_optN : wp (mOpt (none : Option α)) Δ (K := ⟨P, E⟩) = False := by unfold wp; rfl
@[simp] theorem wp_optIf {c : Prop} [Decidable c] {x y : Option α} : wp (mOpt (if c then x else y)) Δ (K := ⟨P, E⟩) = if c then wp (mOpt x) Δ (K := ⟨P, E⟩) else wp (mOpt y) Δ (K := ⟨P, E⟩) := by
  by_cases h : c <;> simp [h]
@[simp] theorem wp_optMap {o : Option α} {h : α → β} : wp (mOpt (o.map h)) Δ (K := ⟨R, E⟩) = wp (mOpt o) Δ (K := ⟨(fun a => R (h a)), E⟩) := by
  cases o <;> (unfold wp; rfl)
@[simp] theorem wp_optBind {o : Option α} {h : α → Option β} : wp (mOpt (o.bind h)) Δ (K := ⟨R, E⟩) = wp (mOpt o) Δ (K := ⟨(fun a Δ' => wp (mOpt (h a)) Δ' (K := ⟨R, E⟩)), E⟩) := by
  cases o <;> (unfold wp; rfl)
theorem wp_opt {o : Option α} : wp (mOpt o) Δ (K := ⟨P, E⟩) = ∃ a, o = some a ∧ P a Δ := by
  cases o with
  | none => simp
  | some a => simp
@[simp] theorem rd_sh {d : D} : SC.rd (some (.sh d)) = some d := (rfl)
@[simp] theorem rd_ow {d : D} : SC.rd (some (.ow d)) = some d := (rfl)
@[simp] theorem rd_un : SC.rd (some .un) = none := (rfl)
@[simp] theorem rd_none : SC.rd none = none := (rfl)
end
/-- reads, by what a slot holds -/
def onRd (o : Option D) [K : K1 D] : Prop := match o with
  | some d => K.k d
  | none => False
@[simp] theorem onRd_some {d : D} {P : D → Prop} : onRd (some d) (K := ⟨P⟩) = P d := (rfl)
@[simp] theorem onRd_none {P : D → Prop} : onRd none (K := ⟨P⟩) = False := (rfl)
section
variable {Δ : SD} {E : EX}
@[simp] theorem wp_getV {d : D} {P : D → SD → Prop} : wp (mGet (.v d)) Δ (K := ⟨P, E⟩) = P d Δ := by unfold wp; rfl
@[simp] theorem wp_getS {i : Nat} {P : D → SD → Prop} : wp (mGet (.s i)) Δ (K := ⟨P, E⟩) = onRd (SC.rd Δ[i]?) (K := ⟨fun d => P d Δ⟩) := by
  have e : mGet (.s i) Δ = match SC.rd Δ[i]? with
    | some d => .ok d Δ
    | none => .bad := (rfl)
  unfold wp
  rw [e]
  cases SC.rd Δ[i]? <;> rfl
@[simp] theorem wp_getsN {P : List D → SD → Prop} : wp (mGets []) Δ (K := ⟨P, E⟩) = P [] Δ := by unfold wp; rfl
@[simp] theorem wp_getsC {a : AK} {as : List AK} {P : List D → SD → Prop} : wp (mGets (a :: as)) Δ (K := ⟨P, E⟩) = wp (mGet a) Δ (K := ⟨(fun d Δ' => wp (mGets as) Δ' (K := ⟨(fun ds Δ2 => P (d :: ds) Δ2), E⟩)), E⟩) := by
  show wp (mBind (mGet a) fun d => mBind (mGets as) fun ds => mPure (d :: ds)) Δ (K := ⟨P, E⟩) = _
  repeat (first | rfl | rw [wp_bind] | rw [wp_pure] | refine wp_ext fun _ _ => ?_)
@[simp] theorem wp_slot {i : Nat} {P : AK → SD → Prop} : wp (mSlot i) Δ (K := ⟨P, E⟩) = onRd (SC.rd Δ[i]?) (K := ⟨fun _ => P (.s i) Δ⟩) := by
  have e : mSlot i Δ = match SC.rd Δ[i]? with
    | some _ => .ok (.s i) Δ
    | none => .bad := (rfl)
  unfold wp
  rw [e]
  cases SC.rd Δ[i]? <;> rfl
@[simp] theorem wp_v {f : M D} {P : AK → SD → Prop} : wp (mV f) Δ (K := ⟨P, E⟩) = wp f Δ (K := ⟨(fun d Δ' => P (.v d) Δ'), E⟩) := by
  unfold mV
  repeat (first | rfl | rw [wp_bind] | rw [wp_pure] | refine wp_ext fun _ _ => ?_)
@[simp] theorem wp_nil {P : List AK → SD → Prop} : wp mNil Δ (K := ⟨P, E⟩) = P [] Δ := by unfold wp; rfl
@[simp] theorem wp_cons {f : M AK} {r : M (List AK)} {P : List AK → SD → Prop} : wp (mCons f r) Δ (K := ⟨P, E⟩) = wp f Δ (K := ⟨(fun a Δ' => wp r Δ' (K := ⟨(fun as Δ2 => P (a :: as) Δ2), E⟩)), E⟩) := by
  unfold mCons
  repeat (first | rfl | rw [wp_bind] | rw [wp_pure] | refine wp_ext fun _ _ => ?_)
@[simp] theorem wp_valsN {P : List D → SD → Prop} : wp (mVals []) Δ (K := ⟨P, E⟩) = P [] Δ := by unfold wp; rfl
@[simp] theorem wp_valsC {d : D} {as : List AK} {P : List D → SD → Prop} : wp (mVals (.v d :: as)) Δ (K := ⟨P, E⟩) = wp (mVals as) Δ (K := ⟨(fun ds Δ2 => P (d :: ds) Δ2), E⟩) := by
  show wp (mBind (mVals as) fun ds => mPure (d :: ds)) Δ (K := ⟨P, E⟩) = _
  repeat (first | rfl | rw [wp_bind] | rw [wp_pure] | refine wp_ext fun _ _ => ?_)
/-- a name read for good -/
def onVar (o : Option SC) (Δ : SD) (i : Nat) [K : K2] : Prop := match o with
  | some (.sh d) => K.k d Δ
  | some (.ow d) => K.k d (Δ.set i (.sh d))
  | _ => False
@[simp] theorem onVar_sh {d : D} {i : Nat} {P : D → SD → Prop} : onVar (some (.sh d)) Δ i (K := ⟨P⟩) = P d Δ := (rfl)
@[simp] theorem onVar_ow {d : D} {i : Nat} {P : D → SD → Prop} : onVar (some (.ow d)) Δ i (K := ⟨P⟩) = P d (Δ.set i (.sh d)) := (rfl)
@[simp] theorem wp_var {i : Nat} {P : D → SD → Prop} : wp (mVar i) Δ (K := ⟨P, E⟩) = onVar Δ[i]? Δ i (K := ⟨P⟩) := by
  unfold wp mVar onVar
  cases Δ[i]? with
  | none => rfl
  | some z => cases z <;> rfl
@[simp] theorem wp_op {g : D → D → Option D} {fa fb : M AK} {P : D → SD → Prop} : wp (mOp g fa fb) Δ (K := ⟨P, E⟩) = wp fa Δ (K := ⟨(fun a Δ1 => wp fb Δ1 (K := ⟨(fun b Δ2 => wp (mGet a) Δ2 (K := ⟨(fun x Δ3 => wp (mGet b) Δ3 (K := ⟨(fun y Δ4 => wp (mOpt (g x y)) Δ4 (K := ⟨P, E⟩)), E⟩)), E⟩)), E⟩)), E⟩) := by
  unfold mOp
  repeat (first | rfl | rw [wp_bind] | rw [wp_pure] | refine wp_ext fun _ _ => ?_)
@[simp] theorem wp_un {g : D → Option D} {fa : M AK} {P : D → SD → Prop} : wp (mUn g fa) Δ (K := ⟨P, E⟩) = wp fa Δ (K := ⟨(fun a Δ1 => wp (mGet a) Δ1 (K := ⟨(fun x Δ3 => wp (mOpt (g x)) Δ3 (K := ⟨P, E⟩)), E⟩)), E⟩) := by
  unfold mUn
  repeat (first | rfl | rw [wp_bind] | rw [wp_pure] | refine wp_ext fun _ _ => ?_)
@[simp] theorem wp_cb {g : List D → Option D} {fs : M (List AK)} {P : D → SD → Prop} : wp (mCb g fs) Δ (K := ⟨P, E⟩) = wp fs Δ (K := ⟨(fun as Δ1 => wp (mGets as) Δ1 (K := ⟨(fun ds Δ3 => wp (mOpt (g ds)) Δ3 (K := ⟨P, E⟩)), E⟩)), E⟩) := by
  unfold mCb
  repeat (first | rfl | rw [wp_bind] | rw [wp_pure] | refine wp_ext fun _ _ => ?_)
@[simp] theorem wp_ite {α : Type} {c : Prop} [Decidable c] {f g : M α} {P : α → SD → Prop} : wp (if c then f else g) Δ (K := ⟨P, E⟩) = if c then wp f Δ (K := ⟨P, E⟩) else wp g Δ (K := ⟨P, E⟩) := by
  by_cases h : c <;> simp [h]
@[simp] theorem wp_lst {f : M (List AK)} {P : D → SD → Prop} : wp (mLst f) Δ (K := ⟨P, E⟩) = wp f Δ (K := ⟨(fun as Δ1 => wp (mVals as) Δ1 (K := ⟨(fun ds Δ2 => ds.length ≤ lim ∧ P (.lst ds) Δ2), E⟩)), E⟩) := by
  unfold mLst
  rw [wp_bind]
  refine wp_ext fun as Δ1 => ?_
  rw [wp_bind]
  refine wp_ext fun ds Δ2 => ?_
  by_cases h : ds.length ≤ lim <;> simp [h]
@[simp] theorem wp_tup {f : M (List AK)} {P : D → SD → Prop} : wp (mTup f) Δ (K := ⟨P, E⟩) = wp f Δ (K := ⟨(fun as Δ1 => wp (mVals as) Δ1 (K := ⟨(fun ds Δ2 => ds.length ≤ lim ∧ P (.tup ds) Δ2), E⟩)), E⟩) := by
  unfold mTup
  rw [wp_bind]
  refine wp_ext fun as Δ1 => ?_
  rw [wp_bind]
  refine wp_ext fun ds Δ2 => ?_
  by_cases h : ds.length ≤ lim <;> simp [h]
@[simp] theorem wp_part {f : M AK} {P : Option Int → SD → Prop} : wp (mPart f) Δ (K := ⟨P, E⟩) = wp f Δ (K := ⟨(fun a Δ1 => wp (mGet a) Δ1 (K := ⟨(fun d Δ2 => wp (mOpt (asInt d)) Δ2 (K := ⟨P, E⟩)), E⟩)), E⟩) := by
  unfold mPart
  repeat (first | rfl | rw [wp_bind] | rw [wp_pure] | refine wp_ext fun _ _ => ?_)
@[simp] theorem wp_cut {g : D → Option Int → Option Int → Option D} {fa : M AK} {fl fh : M (Option Int)} {P : D → SD → Prop} : wp (mCut g fa fl fh) Δ (K := ⟨P, E⟩) = wp fa Δ (K := ⟨(fun a Δ1 => wp fl Δ1 (K := ⟨(fun l Δ2 => wp fh Δ2 (K := ⟨(fun h Δ3 => wp (mGet a) Δ3 (K := ⟨(fun d Δ4 => wp (mOpt (g d l h)) Δ4 (K := ⟨P, E⟩)), E⟩)), E⟩)), E⟩)), E⟩) := by
  unfold mCut
  repeat (first | rfl | rw [wp_bind] | rw [wp_pure] | refine wp_ext fun _ _ => ?_)
@[simp] theorem wp_tru {f : M AK} {P : Bool → SD → Prop} : wp (mTru f) Δ (K := ⟨P, E⟩) = wp f Δ (K := ⟨(fun a Δ1 => wp (mGet a) Δ1 (K := ⟨(fun d Δ2 => wp (mOpt (truD d)) Δ2 (K := ⟨P, E⟩)), E⟩)), E⟩) := by
  unfold mTru
  repeat (first | rfl | rw [wp_bind] | rw [wp_pure] | refine wp_ext fun _ _ => ?_)
@[simp] theorem wp_bl {f : M D} {P : Bool → SD → Prop} : wp (mBl f) Δ (K := ⟨P, E⟩) = wp f Δ (K := ⟨(fun d Δ1 => wp (mOpt (asBl d)) Δ1 (K := ⟨P, E⟩)), E⟩) := by
  unfold mBl
  repeat (first | rfl | rw [wp_bind] | rw [wp_pure] | refine wp_ext fun _ _ => ?_)
@[simp] theorem wp_and {f g : M Bool} {P : Bool → SD → Prop} : wp (mAnd f g) Δ (K := ⟨P, E⟩) = wp f Δ (K := ⟨(fun b Δ1 => if b = true then wp g Δ1 (K := ⟨P, E⟩) else P false Δ1), E⟩) := by
  unfold mAnd
  repeat (first | rfl | rw [wp_bind] | rw [wp_pure] | refine wp_ext fun _ _ => ?_)
  simp
@[simp] theorem wp_or {f g : M Bool} {P : Bool → SD → Prop} : wp (mOr f g) Δ (K := ⟨P, E⟩) = wp f Δ (K := ⟨(fun b Δ1 => if b = true then P true Δ1 else wp g Δ1 (K := ⟨P, E⟩)), E⟩) := by
  unfold mOr
  repeat (first | rfl | rw [wp_bind] | rw [wp_pure] | refine wp_ext fun _ _ => ?_)
  simp
@[simp] theorem wp_not {f : M Bool} {P : Bool → SD → Prop} : wp (mNot f) Δ (K := ⟨P, E⟩) = wp f Δ (K := ⟨(fun b Δ1 => P (!b) Δ1), E⟩) := by
  unfold mNot
  repeat (first | rfl | rw [wp_bind] | rw [wp_pure] | refine wp_ext fun _ _ => ?_)
@[simp] theorem wp_mite {α : Type} {t : M Bool} {f g : M α} {P : α → SD → Prop} : wp (mIte t f g) Δ (K := ⟨P, E⟩) = wp t Δ (K := ⟨(fun b Δ1 => if b = true then wp f Δ1 (K := ⟨P, E⟩) else wp g Δ1 (K := ⟨P, E⟩)), E⟩) := by
  unfold mIte
  repeat (first | rfl | rw [wp_bind] | rw [wp_pure] | refine wp_ext fun _ _ => ?_)
  simp
@[simp] theorem wp_andV {f g : M D} {P : D → SD → Prop} : wp (mAndV f g) Δ (K := ⟨P, E⟩) = wp f Δ (K := ⟨(fun d Δ1 => wp (mOpt (truD d)) Δ1 (K := ⟨(fun b Δ2 => if b = true then wp g Δ2 (K := ⟨P, E⟩) else P d Δ2), E⟩)), E⟩) := by
  unfold mAndV
  repeat (first | rfl | rw [wp_bind] | rw [wp_pure] | refine wp_ext fun _ _ => ?_)
  simp
@[simp] theorem wp_orV {f g : M D} {P : D → SD → Prop} : wp (mOrV f g) Δ (K := ⟨P, E⟩) = wp f Δ (K := ⟨(fun d Δ1 => wp (mOpt (truD d)) Δ1 (K := ⟨(fun b Δ2 => if b = true then P d Δ2 else wp g Δ2 (K := ⟨P, E⟩)), E⟩)), E⟩) := by
  unfold mOrV
  repeat (first | rfl | rw [wp_bind] | rw [wp_pure] | refine wp_ext fun _ _ => ?_)
  simp
@[simp] theorem wp_notV {f : M AK} {P : D → SD → Prop} : wp (mNotV f) Δ (K := ⟨P, E⟩) = wp (mTru f) Δ (K := ⟨(fun b Δ1 => P (.bl (!b)) Δ1), E⟩) := by
  unfold mNotV
  repeat (first | rfl | rw [wp_bind] | rw [wp_pure] | refine wp_ext fun _ _ => ?_)
@[simp] theorem wp_chain {g g' : D → D → Option D} {fa fb fc : M AK} {P : D → SD → Prop} : wp (mChain g g' fa fb fc) Δ (K := ⟨P, E⟩) = wp fa Δ (K := ⟨(fun a Δ1 => wp fb Δ1 (K := ⟨(fun b Δ2 => wp (mGet a) Δ2 (K := ⟨(fun x Δ3 => wp (mGet b) Δ3 (K := ⟨(fun y Δ4 => wp (mOpt (g x y)) Δ4 (K := ⟨(fun d Δ5 => wp (mOpt (asBl d)) Δ5 (K := ⟨(fun k Δ6 =>
    wp (if k = true then mBind fc fun c => mBind (mGet b) fun y => mBind (mGet c) fun z => mOpt (g' y z) else mPure (.bl false)) Δ6 (K := ⟨P, E⟩)), E⟩)), E⟩)), E⟩)), E⟩)), E⟩)), E⟩) := by
  unfold mChain
  repeat (first | rfl | rw [wp_bind] | rw [wp_pure] | refine wp_ext fun _ _ => ?_)
/-! statements -/
@[simp] theorem wp_nx {P : Fl → SD → Prop} : wp mNx Δ (K := ⟨P, E⟩) = P .nx Δ := by unfold wp; rfl
@[simp] theorem wp_seq {f g : M Fl} {P : Fl → SD → Prop} : wp (mSeq f g) Δ (K := ⟨P, E⟩) = wp f Δ (K := ⟨(fun fl Δ1 => match fl with
    | .nx => wp g Δ1 (K := ⟨P, E⟩)
    | fl => P fl Δ1), E⟩) := by
  unfold mSeq
  rw [wp_bind]
  refine wp_ext fun fl Δ1 => ?_
  cases fl <;> (unfold wp; rfl)
@[simp] theorem wp_ret {f : M D} {P : Fl → SD → Prop} : wp (mRet f) Δ (K := ⟨P, E⟩) = wp f Δ (K := ⟨(fun d Δ1 => P (.rt d) Δ1), E⟩) := by
  unfold mRet
  repeat (first | rfl | rw [wp_bind] | rw [wp_pure] | refine wp_ext fun _ _ => ?_)
@[simp] theorem wp_retF {f : M D} {P : Fl → SD → Prop} : wp (mRetF f) Δ (K := ⟨P, E⟩) = wp f Δ (K := ⟨(fun d Δ1 => P (.rf d) Δ1), E⟩) := by
  unfold mRetF
  repeat (first | rfl | rw [wp_bind] | rw [wp_pure] | refine wp_ext fun _ _ => ?_)
@[simp] theorem wp_retN {P : Fl → SD → Prop} : wp mRetN Δ (K := ⟨P, E⟩) = P (.rt .non) Δ := by unfold wp; rfl
@[simp] theorem wp_drop {α : Type} {f : M α} {P : Fl → SD → Prop} : wp (mDrop f) Δ (K := ⟨P, E⟩) = wp f Δ (K := ⟨(fun _ Δ1 => P .nx Δ1), E⟩) := by
  unfold mDrop
  repeat (first | rfl | rw [wp_bind] | rw [wp_pure] | refine wp_ext fun _ _ => ?_)
@[simp] theorem wp_set {i : Nat} {f : M D} {P : Fl → SD → Prop} : wp (mSet i f) Δ (K := ⟨P, E⟩) = wp f Δ (K := ⟨(fun d Δ1 => i < Δ1.length ∧ P .nx (Δ1.set i (.sh d))), E⟩) := by
  unfold mSet
  rw [wp_bind]
  refine wp_ext fun d Δ1 => ?_
  unfold wp
  by_cases h : i < Δ1.length <;> simp [h]
@[simp] theorem wp_setO {i : Nat} {f : M D} {P : Fl → SD → Prop} : wp (mSetO i f) Δ (K := ⟨P, E⟩) = wp f Δ (K := ⟨(fun d Δ1 => i < Δ1.length ∧ P .nx (Δ1.set i (.ow d))), E⟩) := by
  unfold mSetO
  rw [wp_bind]
  refine wp_ext fun d Δ1 => ?_
  unfold wp
  by_cases h : i < Δ1.length <;> simp [h]
@[simp] theorem wp_put2 {i j : Nat} {f1 f2 : Bool} {fa fb : M D} {P : Fl → SD → Prop} : wp (mPut2 i j f1 f2 fa fb) Δ (K := ⟨P, E⟩) = wp fa Δ (K := ⟨(fun a Δ1 => wp fb Δ1 (K := ⟨(fun b Δ2 => (i < Δ2.length ∧ j < Δ2.length) ∧ P .nx ((Δ2.set i (putQ f1 a)).set j (putQ f2 b))), E⟩)), E⟩) := by
  unfold mPut2
  rw [wp_bind]
  refine wp_ext fun a Δ1 => ?_
  rw [wp_bind]
  refine wp_ext fun b Δ2 => ?_
  unfold wp
  dsimp only
  by_cases h : i < Δ2.length ∧ j < Δ2.length
  · rw [if_pos h]; simp [h]
  · rw [if_neg h]; simp [h]
@[simp] theorem wp_put3 {i j l : Nat} {f1 f2 f3 : Bool} {fa fb fc : M D} {P : Fl → SD → Prop} : wp (mPut3 i j l f1 f2 f3 fa fb fc) Δ (K := ⟨P, E⟩) = wp fa Δ (K := ⟨(fun a Δ1 => wp fb Δ1 (K := ⟨(fun b Δ2 => wp fc Δ2 (K := ⟨(fun c Δ3 => (i < Δ3.length ∧ j < Δ3.length ∧ l < Δ3.length) ∧ P .nx (((Δ3.set i (putQ f1 a)).set j (putQ f2 b)).set l (putQ f3 c))), E⟩)), E⟩)), E⟩) := by
  unfold mPut3
  rw [wp_bind]
  refine wp_ext fun a Δ1 => ?_
  rw [wp_bind]
  refine wp_ext fun b Δ2 => ?_
  rw [wp_bind]
  refine wp_ext fun c Δ3 => ?_
  unfold wp
  dsimp only
  by_cases h : i < Δ3.length ∧ j < Δ3.length ∧ l < Δ3.length
  · rw [if_pos h]; simp [h]
  · rw [if_neg h]; simp [h]
@[simp] theorem putQ_true {d : D} : putQ true d = .ow d := (rfl)
@[simp] theorem putQ_false {d : D} : putQ false d = .sh d := (rfl)
@[simp] theorem wp_tg1 {i : Nat} {d : D} {P : Unit → SD → Prop} : wp (mTg1 i d) Δ (K := ⟨P, E⟩) = (i < Δ.length ∧ P () (Δ.set i (.sh d))) := by
  unfold wp mTg1
  by_cases h : i < Δ.length <;> simp [h]
@[simp] theorem wp_tgsN {P : Unit → SD → Prop} : wp (mTgs [] []) Δ (K := ⟨P, E⟩) = P () Δ := by unfold wp; rfl
@[simp] theorem wp_tgsC {t : D → M Unit} {ts : List (D → M Unit)} {d : D} {ds : List D} {P : Unit → SD → Prop} : wp (mTgs (t :: ts) (d :: ds)) Δ (K := ⟨P, E⟩) = wp (t d) Δ (K := ⟨(fun _ Δ1 => wp (mTgs ts ds) Δ1 (K := ⟨P, E⟩)), E⟩) := by
  show wp (mBind (t d) fun _ => mTgs ts ds) Δ (K := ⟨P, E⟩) = _
  repeat (first | rfl | rw [wp_bind] | rw [wp_pure] | refine wp_ext fun _ _ => ?_)
@[simp] theorem wp_tgT {ts : List (D → M Unit)} {ds : List D} {P : Unit → SD → Prop} : wp (mTgT ts (.tup ds)) Δ (K := ⟨P, E⟩) = wp (mTgs ts ds) Δ (K := ⟨P, E⟩) := by unfold wp; rfl
@[simp] theorem wp_tgL {ts : List (D → M Unit)} {ds : List D} {P : Unit → SD → Prop} : wp (mTgT ts (.lst ds)) Δ (K := ⟨P, E⟩) = wp (mTgs ts ds) Δ (K := ⟨P, E⟩) := by unfold wp; rfl
theorem tg_noex {t : D → M Unit} {d : D} : wp (t d) Δ (K := ⟨(fun _ _ => True), noE⟩) → ∃ Δ', t d Δ = .ok () Δ' := by
  unfold wp
  cases t d Δ with
  | ok a Δ' => exact fun _ => ⟨Δ', rfl⟩
  | ex n d Δ' => exact fun h => h.elim
  | bad => exact fun h => h.elim
@[simp] theorem wp_takeE {t : D → M Unit} {d : D} {P : Fl → SD → Prop} : wp (mTake t d) Δ (K := ⟨P, E⟩) = wp (t d) Δ (K := ⟨fun _ Δ1 => P .nx Δ1, noE⟩) := by
  unfold wp mTake
  cases e : t d Δ <;> rfl
@[simp] theorem wp_asgE {t : D → M Unit} {f : M D} {P : Fl → SD → Prop} : wp (mAsg t f) Δ (K := ⟨P, E⟩) = wp f Δ (K := ⟨fun d Δ1 => wp (t d) Δ1 (K := ⟨fun _ Δ2 => P .nx Δ2, noE⟩), E⟩) := by
  unfold mAsg
  rw [wp_bind]
  exact wp_ext fun d Δ1 => wp_takeE
theorem wp_take {t : D → M Unit} {d : D} {P : Fl → SD → Prop} (h : wp (t d) Δ (K := ⟨(fun _ Δ1 => P .nx Δ1), noE⟩)) : wp (mTake t d) Δ (K := ⟨P, E⟩) := by
  unfold wp mTake at *
  cases e : t d Δ with
  | ok a Δ' => rw [e] at h; exact h
  | ex n d Δ' => rw [e] at h; exact h.elim
  | bad => rw [e] at h; exact h.elim
theorem wp_asg {t : D → M Unit} {f : M D} {P : Fl → SD → Prop} (h : wp f Δ (K := ⟨(fun d Δ1 => wp (t d) Δ1 (K := ⟨(fun _ Δ2 => P .nx Δ2), noE⟩)), E⟩)) : wp (mAsg t f) Δ (K := ⟨P, E⟩) := by
  unfold mAsg
  rw [wp_bind]
  exact wp_mono h (fun d Δ1 q => wp_take q) fun _ _ _ z => z
/-- a slot's own object -/
def onOw (o : Option SC) [K : K1 D] : Prop := match o with
  | some (.ow d) => K.k d
  | _ => False
@[simp] theorem onOw_ow {d : D} {P : D → Prop} : onOw (some (.ow d)) (K := ⟨P⟩) = P d := (rfl)
@[simp] theorem onOw_sh {d : D} {P : D → Prop} : onOw (some (.sh d)) (K := ⟨P⟩) = False := (rfl)
@[simp] theorem onOw_un {P : D → Prop} : onOw (some .un) (K := ⟨P⟩) = False := (rfl)
@[simp] theorem wp_hold {p : D → Bool} {i : Nat} {P : Unit → SD → Prop} : wp (mHold p i) Δ (K := ⟨P, E⟩) = onOw Δ[i]? (K := ⟨fun d => p d = true ∧ P () Δ⟩) := by
  unfold wp mHold onOw
  cases Δ[i]? with
  | none => rfl
  | some z =>
    cases z with
    | ow d => by_cases h : p d = true <;> simp [h]
    | sh d => rfl
    | un => rfl
@[simp] theorem wp_upd {α : Type} {i : Nat} {g : D → Option (α × D)} {P : α → SD → Prop} : wp (mUpd i g) Δ (K := ⟨P, E⟩) = onOw Δ[i]? (K := ⟨fun d => wp (mOpt (g d)) Δ (K := ⟨(fun r Δ' => P r.1 (Δ.set i (.ow r.2))), E⟩)⟩) := by
  unfold wp mUpd onOw
  cases Δ[i]? with
  | none => rfl
  | some z =>
    cases z with
    | ow d =>
      dsimp only
      cases g d with
      | none => rfl
      | some r => rfl
    | sh d => rfl
    | un => rfl
@[simp] theorem wp_app {i : Nat} {f : M D} {P : D → SD → Prop} : wp (mApp i f) Δ (K := ⟨P, E⟩) = wp (mHold isLst i) Δ (K := ⟨(fun _ Δ1 => wp f Δ1 (K := ⟨(fun d Δ2 => wp (mUpd i (gApp d)) Δ2 (K := ⟨(fun _ Δ3 => P .non Δ3), E⟩)), E⟩)), E⟩) := by
  unfold mApp
  repeat (first | rfl | rw [wp_bind] | rw [wp_pure] | refine wp_ext fun _ _ => ?_)
@[simp] theorem wp_setIx {i : Nat} {g : D → D → D → Option D} {fe : M D} {fk : M AK} {P : Fl → SD → Prop} : wp (mSetIx i g fe fk) Δ (K := ⟨P, E⟩) = wp fe Δ (K := ⟨(fun v Δ1 => wp (mHold (fun _ => true) i) Δ1 (K := ⟨(fun _ Δ2 => wp fk Δ2 (K := ⟨(fun a Δ3 => wp (mGet a) Δ3 (K := ⟨(fun k Δ4 => wp (mUpd i fun d => (g d k v).map fun d' => ((), d')) Δ4 (K := ⟨(fun _ Δ5 => P .nx Δ5), E⟩)), E⟩)), E⟩)), E⟩)), E⟩) := by
  unfold mSetIx
  repeat (first | rfl | rw [wp_bind] | rw [wp_pure] | refine wp_ext fun _ _ => ?_)
@[simp] theorem wp_mext {i : Nat} {fb : M AK} {P : Fl → SD → Prop} : wp (mExt i fb) Δ (K := ⟨P, E⟩) = wp (mHold isLst i) Δ (K := ⟨(fun _ Δ1 => wp fb Δ1 (K := ⟨(fun b Δ2 => wp (mGet b) Δ2 (K := ⟨(fun y Δ3 => wp (mUpd i (gExt y)) Δ3 (K := ⟨(fun _ Δ4 => P .nx Δ4), E⟩)), E⟩)), E⟩)), E⟩) := by
  unfold mExt
  repeat (first | rfl | rw [wp_bind] | rw [wp_pure] | refine wp_ext fun _ _ => ?_)
/-- a slot's shared data -/
def onSh (o : Option SC) [K : K1 D] : Prop := match o with
  | some (.sh d) => K.k d
  | _ => False
@[simp] theorem onSh_sh {d : D} {P : D → Prop} : onSh (some (.sh d)) (K := ⟨P⟩) = P d := (rfl)
@[simp] theorem wp_aug {i : Nat} {g : D → D → Option D} {fb : M AK} {P : Fl → SD → Prop} : wp (mAug g i fb) Δ (K := ⟨P, E⟩) = onSh Δ[i]? (K := ⟨fun dx => wp fb Δ (K := ⟨(fun b Δ1 => wp (mGet b) Δ1 (K := ⟨(fun dy Δ2 => wp (mOpt (g dx dy)) Δ2 (K := ⟨(fun z Δ3 => i < Δ3.length ∧ P .nx (Δ3.set i (.sh z))), E⟩)), E⟩)), E⟩)⟩) := by
  have key : ∀ (dx : D), wp (mBind fb (fun b => mBind (mGet b) fun dy => mBind (mOpt (g dx dy)) fun z Δ' => if i < Δ'.length then .ok .nx (Δ'.set i (.sh z)) else .bad)) Δ (K := ⟨P, E⟩) = wp fb Δ (K := ⟨(fun b Δ1 => wp (mGet b) Δ1 (K := ⟨(fun dy Δ2 => wp (mOpt (g dx dy)) Δ2 (K := ⟨(fun z Δ3 => i < Δ3.length ∧ P .nx (Δ3.set i (.sh z))), E⟩)), E⟩)), E⟩) := by
    intro dx
    rw [wp_bind]; refine wp_ext fun b Δ1 => ?_
    rw [wp_bind]; refine wp_ext fun dy Δ2 => ?_
    rw [wp_bind]; refine wp_ext fun z Δ3 => ?_
    unfold wp
    dsimp only
    by_cases h : i < Δ3.length <;> simp [h]
  cases h : Δ[i]? with
  | none =>
    have e : mAug g i fb Δ = .bad := by unfold mAug; rw [h]
    unfold wp; rw [e]; rfl
  | some z =>
    cases z with
    | un =>
      have e : mAug g i fb Δ = .bad := by unfold mAug; rw [h]
      unfold wp; rw [e]; rfl
    | ow d =>
      have e : mAug g i fb Δ = .bad := by unfold mAug; rw [h]
      unfold wp; rw [e]; rfl
    | sh dx =>
      refine Eq.trans ?_ (key dx)
      have e : mAug g i fb Δ = (mBind fb (fun b => mBind (mGet b) fun dy => mBind (mOpt (g dx dy)) fun z Δ' => if i < Δ'.length then .ok .nx (Δ'.set i (.sh z)) else .bad)) Δ := by unfold mAug; rw [h]
      unfold wp; rw [e]
@[simp] theorem wp_retVar {i : Nat} {P : Fl → SD → Prop} : wp (mRetVar i) Δ (K := ⟨P, E⟩) = match Δ[i]? with
    | some (.ow d) => P (.rf d) (Δ.set i .un)
    | some (.sh d) => P (.rt d) Δ
    | _ => False := by
  unfold wp mRetVar
  cases Δ[i]? with
  | none => rfl
  | some z => cases z <;> rfl
/-! calls -/
/-- what is asked of the state behind a call -/
def onSD (o : Option SD) [K : K1 SD] : Prop := match o with
  | some Δ => K.k Δ
  | none => False
@[simp] theorem onSD_some {P : SD → Prop} : onSD (some Δ) (K := ⟨P⟩) = P Δ := (rfl)
@[simp] theorem onSD_none {P : SD → Prop} : onSD none (K := ⟨P⟩) = False := (rfl)
def onArgs (o : Option (List D × List (Nat × Nat))) [K : K3] : Prop := match o with
  | some r => K.k r.1 r.2
  | none => False
@[simp] theorem onArgs_some {a : List D} {b : List (Nat × Nat)} {P : List D → List (Nat × Nat) → Prop} : onArgs (some (a, b)) (K := ⟨P⟩) = P a b := (rfl)
@[simp] theorem wp_callRes {np : Nat} {io : List Nat} {g : List D → RD} {as : List AK} {P : D × Bool → SD → Prop} : wp (callRes np io g as) Δ (K := ⟨P, E⟩) = (as.length = np ∧ onArgs (callArgs io Δ 0 as) (K := ⟨fun ds ls => ls.map (·.1) = io ∧
    wpR (g ds) (K := ⟨(fun d fr es => onSD (setOws Δ (ls.map (·.2)) es) (K := ⟨fun Δ' => P (d, fr) Δ'⟩)), (fun n d es => onSD (setOws Δ (ls.map (·.2)) es) (K := ⟨fun Δ' => E n d Δ'⟩))⟩)⟩)) := by
  unfold wp callRes
  by_cases h : as.length = np
  · rw [if_pos h]
    cases callArgs io Δ 0 as with
    | none => simp [onArgs]
    | some r =>
      simp only [onArgs]
      by_cases h2 : r.2.map (·.1) = io
      · rw [if_pos h2]
        cases g r.1 with
        | ok d fr es =>
          simp only [wpR, onSD]
          cases setOws Δ (r.2.map (·.2)) es <;> simp [h, h2]
        | ex n d es =>
          simp only [wpR, onSD]
          cases setOws Δ (r.2.map (·.2)) es <;> simp [h, h2]
        | bad => simp [wpR]
      · rw [if_neg h2]; simp [h2]
  · rw [if_neg h]; simp [h]
@[simp] theorem wp_call {np : Nat} {io : List Nat} {g : List D → RD} {f : M (List AK)} {P : D → SD → Prop} : wp (mCall np io g f) Δ (K := ⟨P, E⟩) = wp f Δ (K := ⟨(fun as Δ1 => wp (callRes np io g as) Δ1 (K := ⟨(fun r Δ2 => P r.1 Δ2), E⟩)), E⟩) := by
  unfold mCall
  repeat (first | rfl | rw [wp_bind] | rw [wp_pure] | refine wp_ext fun _ _ => ?_)
@[simp] theorem wp_callN {np : Nat} {io : List Nat} {g : List D → RD} {f : M (List AK)} {P : D → SD → Prop} : wp (mCallN np io g f) Δ (K := ⟨P, E⟩) = wp f Δ (K := ⟨(fun as Δ1 => wp (callRes np io g as) Δ1 (K := ⟨(fun r Δ2 => r.2 = true ∧ P r.1 Δ2), E⟩)), E⟩) := by
  unfold mCallN
  rw [wp_bind]
  refine wp_ext fun as Δ1 => ?_
  rw [wp_bind]
  refine wp_ext fun r Δ2 => ?_
  by_cases h : r.2 = true <;> simp [h]
def onIos (o : Option (List D)) [K : K1 (List D)] : Prop := match o with
  | some ds => K.k ds
  | none => False
@[simp] theorem onIos_some {ds : List D} {P : List D → Prop} : onIos (some ds) (K := ⟨P⟩) = P ds := (rfl)
theorem wpR_def {len : Nat} {io : List Nat} {body : M Fl} {ds : List D} {P : D → Bool → List D → Prop} {F : Str → Option D → List D → Prop} : wpR (mDef len io body ds) (K := ⟨P, F⟩) = wp body (startD len io ds) (K := ⟨(fun fl Δ' => onIos (iosOf Δ' io) (K := ⟨fun ios => match fl with
    | .rt d => P d false ios
    | .rf d => P d true ios
    | .nx => P .non false ios
    | _ => False⟩)), (fun n d Δ' => onIos (iosOf Δ' io) (K := ⟨fun ios => F n d ios⟩))⟩) := by
  unfold wpR mDef wp onIos
  cases body (startD len io ds) with
  | ok fl Δ' =>
    dsimp only
    cases iosOf Δ' io with
    | none => rfl
    | some ios => cases fl <;> rfl
  | ex n d Δ' =>
    dsimp only
    cases iosOf Δ' io <;> rfl
  | bad => rfl
end
end DL

namespace DL
open PySem L2
section
variable {Δ : SD} {E : EX}
@[simp] theorem wp_items {f : M D} {P : List D → SD → Prop} : wp (mItems f) Δ (K := ⟨P, E⟩) = wp f Δ (K := ⟨(fun d Δ1 => wp (mOpt (dItems d)) Δ1 (K := ⟨P, E⟩)), E⟩) := by
  unfold mItems
  repeat (first | rfl | rw [wp_bind] | rw [wp_pure] | refine wp_ext fun _ _ => ?_)
@[simp] theorem wp_rng {g : List D → Option (List D)} {f : M (List AK)} {P : List D → SD → Prop} : wp (mRng g f) Δ (K := ⟨P, E⟩) = wp f Δ (K := ⟨(fun as Δ1 => wp (mGets as) Δ1 (K := ⟨(fun ds Δ2 => wp (mOpt (g ds)) Δ2 (K := ⟨P, E⟩)), E⟩)), E⟩) := by
  unfold mRng
  repeat (first | rfl | rw [wp_bind] | rw [wp_pure] | refine wp_ext fun _ _ => ?_)
@[simp] theorem wp_enum {f : M D} {P : List D → SD → Prop} : wp (mEnum f) Δ (K := ⟨P, E⟩) = wp f Δ (K := ⟨(fun d Δ1 => wp (mOpt (dEnum [d])) Δ1 (K := ⟨P, E⟩)), E⟩) := by
  unfold mEnum
  repeat (first | rfl | rw [wp_bind] | rw [wp_pure] | refine wp_ext fun _ _ => ?_)
@[simp] theorem wp_zip {f g : M D} {P : List D → SD → Prop} : wp (mZip f g) Δ (K := ⟨P, E⟩) = wp f Δ (K := ⟨(fun d Δ1 => wp g Δ1 (K := ⟨(fun e Δ2 => wp (mOpt (dZip [d, e])) Δ2 (K := ⟨P, E⟩)), E⟩)), E⟩) := by
  unfold mZip
  repeat (first | rfl | rw [wp_bind] | rw [wp_pure] | refine wp_ext fun _ _ => ?_)
@[simp] theorem wp_forE {fi : M (List D)} {t : D → M Unit} {body : M Fl} {P : Fl → SD → Prop} : wp (mForE fi t body) Δ (K := ⟨P, E⟩) = wp fi Δ (K := ⟨(fun ds Δ1 => wp (mFor t body ds) Δ1 (K := ⟨P, E⟩)), E⟩) := by
  unfold mForE
  repeat (first | rfl | rw [wp_bind] | rw [wp_pure] | refine wp_ext fun _ _ => ?_)
@[simp] theorem wp_for_nil {t : D → M Unit} {body : M Fl} {P : Fl → SD → Prop} : wp (mFor t body []) Δ (K := ⟨P, E⟩) = P .nx Δ := by unfold wp; rfl
/-- a target that took, then the rest -/
theorem wp_tg {α : Type} {t : D → M Unit} {d : D} {k : SD → Res α} {P : α → SD → Prop} (h : wp (t d) Δ (K := ⟨(fun _ Δ1 => wp k Δ1 (K := ⟨P, E⟩)), noE⟩)) : wp (fun Δ => match t d Δ with
    | .ok _ Δ1 => k Δ1
    | _ => .bad) Δ (K := ⟨P, E⟩) := by
  unfold wp at *
  dsimp only
  cases e : t d Δ with
  | ok a Δ' => rw [e] at h; exact h
  | ex n d Δ' => rw [e] at h; exact h.elim
  | bad => rw [e] at h; exact h.elim
theorem wp_for_cons {t : D → M Unit} {body : M Fl} {d : D} {ds : List D} {P : Fl → SD → Prop} (h : wp (t d) Δ (K := ⟨(fun _ Δ1 => wp body Δ1 (K := ⟨(fun fl Δ2 => match fl with
    | .nx => wp (mFor t body ds) Δ2 (K := ⟨P, E⟩)
    | .ct => wp (mFor t body ds) Δ2 (K := ⟨P, E⟩)
    | .bk => P .nx Δ2
    | .rt d => P (.rt d) Δ2
    | .rf d => P (.rf d) Δ2), E⟩)), noE⟩)) : wp (mFor t body (d :: ds)) Δ (K := ⟨P, E⟩) := by
  unfold mFor
  refine wp_tg (wp_mono h (fun _ Δ1 q => ?_) fun _ _ _ z => z)
  show wp (mBind body _) Δ1 (K := ⟨P, E⟩)
  rw [wp_bind]
  refine wp_mono q (fun fl Δ2 q2 => ?_) fun _ _ _ z => z
  cases fl <;> (first | exact q2 | (unfold wp; exact q2))
/-- a for by an invariant of what is left -/
theorem wp_for_inv {t : D → M Unit} {body : M Fl} {ds : List D} {P : Fl → SD → Prop} (I : List D → SD → Prop) (h0 : I ds Δ)
    (step : ∀ d rest Δ, I (d :: rest) Δ → wp (t d) Δ (K := ⟨(fun _ Δ1 => wp body Δ1 (K := ⟨(fun fl Δ2 => match fl with
      | .nx => I rest Δ2
      | .ct => I rest Δ2
      | .bk => P .nx Δ2
      | .rt d => P (.rt d) Δ2
      | .rf d => P (.rf d) Δ2), E⟩)), noE⟩)) (fin : ∀ Δ, I [] Δ → P .nx Δ) : wp (mFor t body ds) Δ (K := ⟨P, E⟩) := by
  induction ds generalizing Δ with
  | nil => rw [wp_for_nil]; exact fin Δ h0
  | cons d ds ih =>
    refine wp_for_cons (wp_mono (step d ds Δ h0) (fun _ Δ1 q => wp_mono q (fun fl Δ2 q2 => ?_) fun _ _ _ z => z) fun _ _ _ z => z)
    cases fl with
    | nx => exact ih q2
    | ct => exact ih q2
    | bk => exact q2
    | rt d => exact q2
    | rf d => exact q2
/-- .. by the turn's number -/
theorem wp_for_ix {t : D → M Unit} {body : M Fl} {ds : List D} {P : Fl → SD → Prop} (I : Nat → SD → Prop) (h0 : I 0 Δ)
    (step : ∀ i d Δ, ds[i]? = some d → I i Δ → wp (t d) Δ (K := ⟨(fun _ Δ1 => wp body Δ1 (K := ⟨(fun fl Δ2 => match fl with
      | .nx => I (i + 1) Δ2
      | .ct => I (i + 1) Δ2
      | .bk => P .nx Δ2
      | .rt d => P (.rt d) Δ2
      | .rf d => P (.rf d) Δ2), E⟩)), noE⟩)) (fin : ∀ Δ, I ds.length Δ → P .nx Δ) : wp (mFor t body ds) Δ (K := ⟨P, E⟩) := by
  refine wp_for_inv (fun rest Δ => ∃ i, rest = ds.drop i ∧ i ≤ ds.length ∧ I i Δ) ⟨0, rfl, Nat.zero_le _, h0⟩ (fun d rest Δ h => ?_) (fun Δ h => ?_)
  · obtain ⟨i, e, hi, q⟩ := h
    have hlt : i < ds.length := by
      rcases Nat.lt_or_ge i ds.length with h | h
      · exact h
      · rw [List.drop_eq_nil_of_le h] at e; cases e
    rw [List.drop_eq_getElem_cons hlt] at e
    cases e
    refine wp_mono (step i _ Δ (by simp [hlt]) q) (fun _ Δ1 q => wp_mono q (fun fl Δ2 q2 => ?_) fun _ _ _ z => z) fun _ _ _ z => z
    cases fl with
    | nx => exact ⟨i + 1, rfl, hlt, q2⟩
    | ct => exact ⟨i + 1, rfl, hlt, q2⟩
    | bk => exact q2
    | rt d => exact q2
    | rf d => exact q2
  · obtain ⟨i, e, hi, q⟩ := h
    have : i = ds.length := by
      have z := congrArg List.length e
      rw [List.length_drop, List.length_nil] at z
      omega
    subst this
    exact fin Δ q
/-- .. over a range -/
theorem wp_for_ints {t : D → M Unit} {body : M Fl} {lo : Int} {n : Nat} {P : Fl → SD → Prop} (I : Nat → SD → Prop) (h0 : I 0 Δ)
    (step : ∀ i Δ, i < n → I i Δ → wp (t (.int (lo + (i : Nat)))) Δ (K := ⟨(fun _ Δ1 => wp body Δ1 (K := ⟨(fun fl Δ2 => match fl with
      | .nx => I (i + 1) Δ2
      | .ct => I (i + 1) Δ2
      | .bk => P .nx Δ2
      | .rt d => P (.rt d) Δ2
      | .rf d => P (.rf d) Δ2), E⟩)), noE⟩)) (fin : ∀ Δ, I n Δ → P .nx Δ) : wp (mFor t body (intsFrom lo n)) Δ (K := ⟨P, E⟩) := by
  refine wp_for_ix I h0 (fun i d Δ hd q => ?_) (by rw [intsFrom_length]; exact fin)
  rw [intsFrom_at] at hd
  split at hd
  · rename_i h
    cases hd
    exact step i Δ h q
  · cases hd
/-! comprehensions -/
@[simp] theorem wp_lc {vs : List Nat} {fi : M (List D)} {t : D → M Unit} {ft : M Bool} {fe : M D} {P : D → SD → Prop} : wp (mLc vs fi t ft fe) Δ (K := ⟨P, E⟩) = wp fi Δ (K := ⟨(fun ds Δ1 => wp (mTurns vs t ft fe ds) (wipeD Δ1 vs) (K := ⟨(fun es Δ2 => es.length ≤ lim ∧ P (.lst es) (backD Δ1 Δ2 vs)), noE⟩)), E⟩) := by
  unfold mLc
  rw [wp_bind]
  refine wp_ext fun ds Δ1 => ?_
  unfold wp
  dsimp only
  cases mTurns vs t ft fe ds (wipeD Δ1 vs) with
  | ok es Δ2 => by_cases h : es.length ≤ lim <;> simp [h]
  | ex n d Δ' => rfl
  | bad => rfl
theorem wp_turns_nil {vs : List Nat} {t : D → M Unit} {ft : M Bool} {fe : M D} {P : List D → SD → Prop} : wp (mTurns vs t ft fe []) Δ (K := ⟨P, E⟩) = P [] (wipeD Δ vs) := by unfold wp; rfl
theorem wp_turns_cons {vs : List Nat} {t : D → M Unit} {ft : M Bool} {fe : M D} {d : D} {ds : List D} {P : List D → SD → Prop} (h : wp (t d) (wipeD Δ vs) (K := ⟨(fun _ Δ1 => wp ft Δ1 (K := ⟨(fun b Δ2 => if b = true then wp fe Δ2 (K := ⟨(fun e Δ3 => wp (mTurns vs t ft fe ds) Δ3 (K := ⟨(fun es Δ4 => P (e :: es) Δ4), E⟩)), E⟩) else wp (mTurns vs t ft fe ds) Δ2 (K := ⟨P, E⟩)), E⟩)), noE⟩)) :
    wp (mTurns vs t ft fe (d :: ds)) Δ (K := ⟨P, E⟩) := by
  have e : wp (mTurns vs t ft fe (d :: ds)) Δ (K := ⟨P, E⟩) = wp (fun Δ => match t d Δ with
    | .ok _ Δ1 => mBind ft (fun b => if b = true then mBind fe fun e => mBind (mTurns vs t ft fe ds) fun es => mPure (e :: es) else mTurns vs t ft fe ds) Δ1
    | _ => .bad) (wipeD Δ vs) (K := ⟨P, E⟩) := by unfold wp; rfl
  rw [e]
  refine wp_tg (wp_mono h (fun _ Δ1 q => ?_) fun _ _ _ z => z)
  rw [wp_bind]
  refine wp_mono q (fun b Δ2 q2 => ?_) fun _ _ _ z => z
  by_cases hb : b = true
  · rw [if_pos hb] at q2 ⊢
    rw [wp_bind]
    refine wp_mono q2 (fun e Δ3 q3 => ?_) fun _ _ _ z => z
    rw [wp_bind]
    exact wp_mono q3 (fun es Δ4 q4 => by rw [wp_pure]; exact q4) fun _ _ _ z => z
  · rw [if_neg hb] at q2 ⊢
    exact q2
/-- by an invariant of the turn's number, of what is collected -/
theorem wp_turns_inv {vs : List Nat} {t : D → M Unit} {ft : M Bool} {fe : M D} {ds : List D} {P : List D → SD → Prop} (I : Nat → List D → SD → Prop) (h0 : I 0 [] (wipeD Δ vs))
    (step : ∀ i d acc Δ, ds[i]? = some d → I i acc Δ → wp (t d) Δ (K := ⟨(fun _ Δ1 => wp ft Δ1 (K := ⟨(fun b Δ2 => if b = true then wp fe Δ2 (K := ⟨(fun e Δ3 => I (i + 1) (acc ++ [e]) (wipeD Δ3 vs)), E⟩) else I (i + 1) acc (wipeD Δ2 vs)), E⟩)), noE⟩))
    (fin : ∀ acc Δ, I ds.length acc Δ → P acc Δ) : wp (mTurns vs t ft fe ds) Δ (K := ⟨P, E⟩) := by
  have go : ∀ (rest : List D) (i : Nat) (acc : List D) (Δ : SD), rest = ds.drop i → i ≤ ds.length → I i acc (wipeD Δ vs) → wp (mTurns vs t ft fe rest) Δ (K := ⟨(fun es Δ' => P (acc ++ es) Δ'), E⟩) := by
    intro rest
    induction rest with
    | nil =>
      intro i acc Δ e hi q
      have : i = ds.length := by
        have z := congrArg List.length e
        rw [List.length_drop, List.length_nil] at z
        omega
      subst this
      rw [wp_turns_nil, List.append_nil]
      exact fin acc _ q
    | cons d rest ih =>
      intro i acc Δ e hi q
      have hlt : i < ds.length := by
        rcases Nat.lt_or_ge i ds.length with h | h
        · exact h
        · rw [List.drop_eq_nil_of_le h] at e; cases e
      rw [List.drop_eq_getElem_cons hlt] at e
      simp only [List.cons.injEq] at e
      obtain ⟨e1, e2⟩ := e
      subst e1
      refine wp_turns_cons (wp_mono (step i _ acc _ (by simp [hlt]) q) (fun _ Δ1 q => wp_mono q (fun b Δ2 q2 => ?_) fun _ _ _ z => z) fun _ _ _ z => z)
      by_cases hb : b = true
      · rw [if_pos hb] at q2 ⊢
        refine wp_mono q2 (fun e Δ3 q3 => ?_) fun _ _ _ z => z
        refine wp_mono (ih (i + 1) (acc ++ [e]) Δ3 e2 hlt q3) (fun es Δ4 q4 => ?_) fun _ _ _ z => z
        rw [List.append_assoc] at q4
        exact q4
      · rw [if_neg hb] at q2 ⊢
        exact ih (i + 1) acc Δ2 e2 hlt q2
  exact go ds 0 [] Δ rfl (Nat.zero_le _) h0
/-- a comprehension that changes nothing -/
theorem wp_turns_map {vs : List Nat} {t : D → M Unit} {ft : M Bool} {fe : M D} {ds : List D} {P : List D → SD → Prop} (g : D → Option D)
    (step : ∀ d ∈ ds, wp (t d) (wipeD Δ vs) (K := ⟨(fun _ Δ1 => wp ft Δ1 (K := ⟨(fun b Δ2 => if b = true then wp fe Δ2 (K := ⟨(fun e Δ3 => g d = some e ∧ wipeD Δ3 vs = wipeD Δ vs), E⟩) else g d = none ∧ wipeD Δ2 vs = wipeD Δ vs), E⟩)), noE⟩))
    (fin : P (ds.filterMap g) (wipeD Δ vs)) : wp (mTurns vs t ft fe ds) Δ (K := ⟨P, E⟩) := by
  refine wp_turns_inv (fun i acc Δ' => i ≤ ds.length ∧ acc = (ds.take i).filterMap g ∧ Δ' = wipeD Δ vs) ⟨Nat.zero_le _, rfl, rfl⟩ (fun i d acc Δ' hd q => ?_) (fun acc Δ' q => ?_)
  · obtain ⟨hi, rfl, rfl⟩ := q
    have hlt := (List.getElem?_eq_some_iff.mp hd).1
    have hm : d ∈ ds := List.mem_of_getElem? hd
    have et : ds.take (i + 1) = ds.take i ++ [d] := by
      rw [List.take_add_one, hd]; rfl
    refine wp_mono (step d hm) (fun _ Δ1 q => wp_mono q (fun b Δ2 q2 => ?_) fun _ _ _ z => z) fun _ _ _ z => z
    by_cases hb : b = true
    · rw [if_pos hb] at q2 ⊢
      refine wp_mono q2 (fun e Δ3 q3 => ⟨hlt, ?_, q3.2⟩) fun _ _ _ z => z
      rw [et, List.filterMap_append]
      simp [q3.1]
    · rw [if_neg hb] at q2 ⊢
      refine ⟨hlt, ?_, q2.2⟩
      rw [et, List.filterMap_append]
      simp [q2.1]
  · obtain ⟨_, rfl, rfl⟩ := q
    rw [List.take_length]
    exact fin
end
/-! operators on plain data -/
@[simp] theorem dAdd_int {i j : Int} : dAdd (.int i) (.int j) = some (.int (i + j)) := (rfl)
@[simp] theorem dAdd_str {a b : Str} : dAdd (.str a) (.str b) = if a.length + b.length ≤ lim then some (.str (a ++ b)) else none := (rfl)
@[simp] theorem dAdd_lst {a b : List D} : dAdd (.lst a) (.lst b) = if a.length + b.length ≤ lim then some (.lst (a ++ b)) else none := (rfl)
@[simp] theorem dAdd_tup {a b : List D} : dAdd (.tup a) (.tup b) = if a ≠ [] ∧ b ≠ [] ∧ a.length + b.length ≤ lim then some (.tup (a ++ b)) else none := (rfl)
@[simp] theorem dCat_lst {a b : List D} : dCat (.lst a) (.lst b) = if a.length + b.length ≤ lim then some (.lst (a ++ b)) else none := (rfl)
@[simp] theorem dSub_int {i j : Int} : dSub (.int i) (.int j) = some (.int (i - j)) := (rfl)
@[simp] theorem dMul_int {i j : Int} : dMul (.int i) (.int j) = if bitsOk i j = true then some (.int (i * j)) else none := (rfl)
@[simp] theorem dRep_lst {a : List D} {k : Int} : dRep (.lst a) (.int k) = if a.length * k.toNat ≤ lim ∧ -1000000 ≤ k ∧ k ≤ 1000000 then some (.lst (List.replicate k.toNat a).flatten) else none := (rfl)
@[simp] theorem dDiv_int {i j : Int} : dDiv (.int i) (.int j) = if divOk j = true then some (.int (i / j)) else none := (rfl)
@[simp] theorem dMod_int {i j : Int} : dMod (.int i) (.int j) = if 0 < j then some (.int (i % j)) else none := (rfl)
@[simp] theorem dPow_int {i j : Int} : dPow (.int i) (.int j) = if 0 ≤ j ∧ j ≤ 1000 ∧ i.natAbs < 2 ^ 64 then some (.int (i ^ j.toNat)) else none := (rfl)
@[simp] theorem dNeg_int {i : Int} : dNeg (.int i) = some (.int (-i)) := (rfl)
@[simp] theorem dLt_int {i j : Int} : dLt (.int i) (.int j) = some (.bl (decide (i < j))) := (rfl)
@[simp] theorem dLe_int {i j : Int} : dLe (.int i) (.int j) = some (.bl (decide (i ≤ j))) := (rfl)
@[simp] theorem dGt_int {i j : Int} : dGt (.int i) (.int j) = some (.bl (decide (j < i))) := (rfl)
@[simp] theorem dGe_int {i j : Int} : dGe (.int i) (.int j) = some (.bl (decide (j ≤ i))) := (rfl)
@[simp] theorem dIs_bl {a b : Bool} : dIs (.bl a) (.bl b) = some (.bl (decide (a = b))) := (rfl)
@[simp] theorem dIsNot_bl {a b : Bool} : dIsNot (.bl a) (.bl b) = some (.bl (!decide (a = b))) := (rfl)
@[simp] theorem dIs_non {d : D} : dIs d .non = some (.bl (isNon d)) := by cases d <;> rfl
@[simp] theorem dIsNot_non {d : D} : dIsNot d .non = some (.bl (!isNon d)) := by cases d <;> rfl
@[simp] theorem isNon_non : isNon .non = true := (rfl)
@[simp] theorem isNon_int {i : Int} : isNon (.int i) = false := (rfl)
@[simp] theorem isNon_lst {i : List D} : isNon (.lst i) = false := (rfl)
@[simp] theorem isNon_tup {i : List D} : isNon (.tup i) = false := (rfl)
@[simp] theorem isNon_str {i : Str} : isNon (.str i) = false := (rfl)
@[simp] theorem isNon_bl {i : Bool} : isNon (.bl i) = false := (rfl)
@[simp] theorem isNon_obj {n : Str} {fs : List (Str × D)} : isNon (.obj n fs) = false := (rfl)
@[simp] theorem dEq_map {x y : D} : dEq x y = (eqD x y).map D.bl := (rfl)
@[simp] theorem dNe_map {x y : D} : dNe x y = (eqD x y).map fun b => D.bl (!b) := (rfl)
@[simp] theorem dIn_map {x y : D} : dIn x y = (inB x y).map D.bl := (rfl)
@[simp] theorem dNotIn_map {x y : D} : dNotIn x y = (inB x y).map fun b => D.bl (!b) := (rfl)
@[simp] theorem dIx_lst {ds : List D} {i : Int} : dIx (.lst ds) (.int i) = atI ds i := (rfl)
@[simp] theorem dIx_tup {ds : List D} {i : Int} : dIx (.tup ds) (.int i) = atI ds i := (rfl)
@[simp] theorem dIx_scr {ns : List Int} {i : Int} : dIx (.scr ns) (.int i) = (atI ns i).map D.int := (rfl)
@[simp] theorem asBl_bl {b : Bool} : asBl (.bl b) = some b := (rfl)
@[simp] theorem truD_bl {b : Bool} : truD (.bl b) = some b := (rfl)
@[simp] theorem truD_int {b : Int} : truD (.int b) = some (b != 0) := (rfl)
@[simp] theorem truD_lst {b : List D} : truD (.lst b) = some (!b.isEmpty) := (rfl)
@[simp] theorem truD_tup {b : List D} : truD (.tup b) = some (!b.isEmpty) := (rfl)
@[simp] theorem truD_non : truD .non = some false := (rfl)
@[simp] theorem asInt_int {i : Int} : asInt (.int i) = some (some i) := (rfl)
@[simp] theorem dCut_lst {ds : List D} {lo hi : Option Int} : dCut (.lst ds) lo hi = some (.lst (cutG ds lo hi)) := (rfl)
@[simp] theorem dCutN_lst {ds : List D} {lo hi : Option Int} : dCutN (.lst ds) lo hi = some (.lst (cutG ds lo hi)) := (rfl)
@[simp] theorem dItems_lst {ds : List D} : dItems (.lst ds) = some ds := (rfl)
@[simp] theorem dItems_tup {ds : List D} : dItems (.tup ds) = some ds := (rfl)
@[simp] theorem dRng1_int {j : Int} : dRng1 [.int j] = if -1000000000 < j ∧ j < 1000000000 then some (intsFrom 0 j.toNat) else none := (rfl)
@[simp] theorem dRng2_int {i j : Int} : dRng2 [.int i, .int j] = if -1000000000 < i ∧ i < 1000000000 ∧ -1000000000 < j ∧ j < 1000000000 then some (intsFrom i (j - i).toNat) else none := (rfl)
@[simp] theorem dEnum_lst {ds : List D} : dEnum [.lst ds] = some (enumD 0 ds) := (rfl)
@[simp] theorem dZip_lst {ds es : List D} : dZip [.lst ds, .lst es] = some (zipD ds es) := (rfl)
@[simp] theorem dLen_lst {ds : List D} : dLen [.lst ds] = some (.int ds.length) := (rfl)
@[simp] theorem dLen_tup {ds : List D} : dLen [.tup ds] = some (.int ds.length) := (rfl)
@[simp] theorem dLen_scr {ns : List Int} : dLen [.scr ns] = some (.int ns.length) := (rfl)
@[simp] theorem dLen_str {z : Str} : dLen [.str z] = if z.length ≤ lim then some (.int z.length) else none := (rfl)
@[simp] theorem dListN_lst {ds : List D} : dListN [.lst ds] = some (.lst ds) := (rfl)
@[simp] theorem dListN_tup {ds : List D} : dListN [.tup ds] = some (.lst ds) := (rfl)
@[simp] theorem dTuple_lst {ds : List D} : dTuple [.lst ds] = some (.tup ds) := (rfl)
@[simp] theorem dTuple_tup {ds : List D} : dTuple [.tup ds] = some (.tup ds) := (rfl)
@[simp] theorem dAbs_int {i : Int} : dAbs [.int i] = some (.int (if i < 0 then -i else i)) := (rfl)
@[simp] theorem dInt_int {i : Int} : dInt [.int i] = some (.int i) := (rfl)
@[simp] theorem dInt_bl {b : Bool} : dInt [.bl b] = some (.int (if b then 1 else 0)) := (rfl)
@[simp] theorem dMax_two {i j : Int} : dMax [.int i, .int j] = some (.int (if j > i then j else i)) := (rfl)
@[simp] theorem dMin_two {i j : Int} : dMin [.int i, .int j] = some (.int (if j < i then j else i)) := (rfl)
@[simp] theorem dMax_lst {ds : List D} : dMax [.lst ds] = ((dInts ds).bind maxI).map D.int := (rfl)
@[simp] theorem dMin_lst {ds : List D} : dMin [.lst ds] = ((dInts ds).bind minI).map D.int := (rfl)
@[simp] theorem dAll_lst {ds : List D} : dAll [.lst ds] = (dBls ds).map fun ns => .bl (ns.all id) := (rfl)
@[simp] theorem dAny_lst {ds : List D} : dAny [.lst ds] = (dBls ds).map fun ns => .bl (ns.any id) := (rfl)
@[simp] theorem gApp_lst {d : D} {ds : List D} : gApp d (.lst ds) = if ds.length < lim then some ((), .lst (ds ++ [d])) else none := (rfl)
@[simp] theorem gSetL_lst {ds : List D} {i : Int} {v : D} : gSetL (.lst ds) (.int i) v = (ixN ds.length i).map fun j => .lst (ds.set j v) := (rfl)
@[simp] theorem isLst_lst {ds : List D} : isLst (.lst ds) = true := (rfl)
@[simp] theorem gExt_lst {bs ds : List D} : gExt (.lst bs) (.lst ds) = if ds.length + bs.length ≤ lim then some ((), .lst (ds ++ bs)) else none := (rfl)
@[simp] theorem dIsi_ty {tb : Str → Str → Option Bool} {d : D} {T : String} : dIsi tb [d, .ty T] = (isiOne tb d (.ty T)).map D.bl := by cases d <;> rfl
@[simp] theorem atI_0 {α : Type} {x : α} {xs : List α} : atI (x :: xs) 0 = some x := by
  have h : ixN (x :: xs).length 0 = some 0 := by unfold ixN; simp
  unfold atI; rw [h]; rfl
@[simp] theorem atI_1 {α : Type} {x y : α} {xs : List α} : atI (x :: y :: xs) 1 = some y := by
  have h : ixN (x :: y :: xs).length 1 = some 1 := by
    unfold ixN
    rw [if_pos (by decide), if_pos (by simp only [List.length_cons]; omega)]; rfl
  unfold atI; rw [h]; rfl
@[simp] theorem atI_2 {α : Type} {x y z : α} {xs : List α} : atI (x :: y :: z :: xs) 2 = some z := by
  have h : ixN (x :: y :: z :: xs).length 2 = some 2 := by
    unfold ixN
    rw [if_pos (by decide), if_pos (by simp only [List.length_cons]; omega)]; rfl
  unfold atI; rw [h]; rfl
theorem atI_nat {α : Type} {xs : List α} {n : Nat} (h : n < xs.length) : atI xs (n : Int) = some xs[n] := by
  have e : ixN xs.length (n : Int) = some n := by
    unfold ixN
    rw [if_pos (by omega), if_pos (by omega)]; simp
  unfold atI; rw [e]; simp [h]
@[simp] theorem ixN_0 {n : Nat} : ixN (n + 1) 0 = some 0 := by
  unfold ixN
  rw [if_pos (by decide), if_pos (by omega)]; rfl
@[simp] theorem ixN_1 {n : Nat} : ixN (n + 1 + 1) 1 = some 1 := by
  unfold ixN
  rw [if_pos (by decide), if_pos (by omega)]; rfl
theorem log2_le {n k : Nat} (h : n < 2 ^ k) : n.log2 ≤ k := by
  rcases Nat.eq_zero_or_pos n with e | e
  · rw [e]; exact Nat.zero_le _
  · exact Nat.le_of_lt ((Nat.log2_lt (by omega)).mpr h)
theorem bits_ok {i j : Int} (hi : i.natAbs < 2 ^ 200) (hj : j.natAbs < 2 ^ 200) : bitsOk i j = true := by
  have h1 := log2_le hi
  have h2 := log2_le hj
  unfold bitsOk
  rw [Bool.or_eq_true]
  exact .inl (decide_eq_true (by omega))
/-- one of the two is small -/
theorem bits_small {i j : Int} (h : (-(2 ^ 64) < i ∧ i < 2 ^ 64) ∨ (-(2 ^ 64) < j ∧ j < 2 ^ 64)) : bitsOk i j = true := by
  unfold bitsOk
  rw [Bool.or_eq_true]
  exact .inr (decide_eq_true h)
theorem div_ok {j : Int} (h : 0 < j) (hj : j < 2 ^ 200) : divOk j = true := by
  have h1 := log2_le (n := j.natAbs) (k := 200) (by omega)
  exact decide_eq_true ⟨h, by omega⟩
/-! states -/
@[simp] theorem onIos_nil {Δ : SD} {P : List D → Prop} : onIos (iosOf Δ []) (K := ⟨P⟩) = P [] := (rfl)
@[simp] theorem onIos_cons {Δ : SD} {i : Nat} {io : List Nat} {P : List D → Prop} : onIos (iosOf Δ (i :: io)) (K := ⟨P⟩) = onOw Δ[i]? (K := ⟨fun d => onIos (iosOf Δ io) (K := ⟨fun ds => P (d :: ds)⟩)⟩) := by
  cases h : Δ[i]? with
  | none =>
    have e : iosOf Δ (i :: io) = none := by unfold iosOf; rw [h]
    rw [e]; rfl
  | some z =>
    cases z with
    | un =>
      have e : iosOf Δ (i :: io) = none := by unfold iosOf; rw [h]
      rw [e]; rfl
    | sh d =>
      have e : iosOf Δ (i :: io) = none := by unfold iosOf; rw [h]
      rw [e]; rfl
    | ow d =>
      have e : iosOf Δ (i :: io) = (iosOf Δ io).map (d :: ·) := by rw [iosOf]; rw [h]
      rw [e, onOw_ow]
      cases iosOf Δ io <;> rfl
@[simp] theorem onSD_nil {Δ : SD} {P : SD → Prop} : onSD (setOws Δ [] []) (K := ⟨P⟩) = P Δ := (rfl)
@[simp] theorem onSD_cons {Δ : SD} {i : Nat} {is : List Nat} {d : D} {ds : List D} {P : SD → Prop} : onSD (setOws Δ (i :: is) (d :: ds)) (K := ⟨P⟩) = onSD (setOws (Δ.set i (.ow d)) is ds) (K := ⟨P⟩) := (rfl)
@[simp] theorem onArgs_nil {io : List Nat} {Δ : SD} {j : Nat} {P : List D → List (Nat × Nat) → Prop} : onArgs (callArgs io Δ j []) (K := ⟨P⟩) = P [] [] := (rfl)
@[simp] theorem onArgs_v {io : List Nat} {Δ : SD} {j : Nat} {d : D} {as : List AK} {P : List D → List (Nat × Nat) → Prop} : onArgs (callArgs io Δ j (.v d :: as)) (K := ⟨P⟩) = if j ∈ io then False else onArgs (callArgs io Δ (j + 1) as) (K := ⟨fun ds ls => P (d :: ds) ls⟩) := by
  rw [callArgs]
  cases callArgs io Δ (j + 1) as with
  | none => by_cases h : j ∈ io <;> simp [h, onArgs]
  | some r => by_cases h : j ∈ io <;> simp [h, onArgs]
@[simp] theorem onArgs_s {io : List Nat} {Δ : SD} {j i : Nat} {as : List AK} {P : List D → List (Nat × Nat) → Prop} : onArgs (callArgs io Δ j (.s i :: as)) (K := ⟨P⟩) = onArgs (callArgs io Δ (j + 1) as) (K := ⟨fun ds ls => if j ∈ io then onOw Δ[i]? (K := ⟨fun d => i ∉ ls.map (·.2) ∧ P (d :: ds) ((j, i) :: ls)⟩) else onSh Δ[i]? (K := ⟨fun d => P (d :: ds) ls⟩)⟩) := by
  rw [callArgs]
  cases callArgs io Δ (j + 1) as with
  | none => rfl
  | some r =>
    rw [Option.bind_some]
    by_cases h : j ∈ io
    · rw [if_pos h]
      show _ = if j ∈ io then _ else _
      rw [if_pos h]
      cases e : Δ[i]? with
      | none => simp [e, onArgs, onOw]
      | some z =>
        cases z with
        | un => simp [e, onArgs, onOw]
        | sh d => simp [e, onArgs, onOw]
        | ow d =>
          by_cases h2 : i ∈ r.2.map (·.2)
          · simp only [e, if_pos h2, onOw_ow]
            simp [onArgs, h2]
          · simp only [e, if_neg h2, onOw_ow]
            simp [onArgs, h2]
    · rw [if_neg h]
      show _ = if j ∈ io then _ else _
      rw [if_neg h]
      cases e : Δ[i]? with
      | none => simp [e, onArgs, onSh]
      | some z =>
        cases z with
        | un => simp [e, onArgs, onSh]
        | ow d => simp [e, onArgs, onSh]
        | sh d => simp [e, onArgs]
@[simp] theorem wipeD_nil {Δ : SD} : wipeD Δ [] = Δ := (rfl)
@[simp] theorem wipeD_cons {Δ : SD} {i : Nat} {vs : List Nat} : wipeD Δ (i :: vs) = (wipeD Δ vs).set i .un := (rfl)
@[simp] theorem backD_nil {Δ Δ' : SD} : backD Δ Δ' [] = Δ' := (rfl)
@[simp] theorem backD_cons {Δ Δ' : SD} {i : Nat} {vs : List Nat} : backD Δ Δ' (i :: vs) = (backD Δ Δ' vs).set i (Δ.getD i .un) := (rfl)
@[simp] theorem startAt_nil {io : List Nat} {j : Nat} : startAt io j [] = [] := (rfl)
@[simp] theorem startAt_cons {io : List Nat} {j : Nat} {d : D} {ds : List D} : startAt io j (d :: ds) = (if j ∈ io then SC.ow d else SC.sh d) :: startAt io (j + 1) ds := (rfl)
end DL

namespace DL
open PySem L2
/-- None, a whole number, a text -/
def Sc : D → Bool
  | .non | .int _ => true
  | .str x => PyData.strOk x
  | _ => false
/-- data of such, nested at most n deep -/
def Pl : Nat → D → Bool
  | 0, d => Sc d
  | n + 1, .lst ds => ds.all (Pl n)
  | n + 1, .tup ds => ds.all (Pl n)
  | _ + 1, d => Sc d
theorem sc_py {d : D} (h : Sc d = true) : ∃ p, toPy d = some p ∧ p.depth = 0 := by
  cases d <;> first
    | (cases h; done)
    | exact ⟨_, rfl, rfl⟩
    | skip
  rename_i x
  have h' : PyData.strOk x = true := h
  exact ⟨.str x, by simp [toPy, h'], rfl⟩
theorem pl_pyL {n : Nat} (ih : ∀ d, Pl n d = true → ∃ p, toPy d = some p ∧ p.depth ≤ n) : ∀ {ds : List D}, ds.all (Pl n) = true → ∃ ps, toPyL ds = some ps ∧ PyData.depthAll ps ≤ n
  | [], _ => ⟨[], rfl, Nat.zero_le _⟩
  | d :: ds, h => by
    rw [List.all_cons, Bool.and_eq_true] at h
    obtain ⟨p, e1, h1⟩ := ih d h.1
    obtain ⟨ps, e2, h2⟩ := pl_pyL ih h.2
    refine ⟨p :: ps, by simp [toPyL, e1, e2], ?_⟩
    simp only [PyData.depthAll]
    omega
theorem pl_py : ∀ {n : Nat} {d : D}, Pl n d = true → ∃ p, toPy d = some p ∧ p.depth ≤ n
  | 0, d, h => by
    obtain ⟨p, e, z⟩ := sc_py h
    exact ⟨p, e, by omega⟩
  | n + 1, d, h => by
    cases d with
    | lst ds =>
      obtain ⟨ps, e, z⟩ := pl_pyL (fun d => pl_py (n := n)) (show ds.all (Pl n) = true from h)
      exact ⟨.list ps, by simp [toPy, e], by simp only [PyData.depth]; omega⟩
    | tup ds =>
      obtain ⟨ps, e, z⟩ := pl_pyL (fun d => pl_py (n := n)) (show ds.all (Pl n) = true from h)
      exact ⟨.tuple ps, by simp [toPy, e], by simp only [PyData.depth]; omega⟩
    | _ =>
      obtain ⟨p, e, z⟩ := sc_py (show Sc _ = true from h)
      exact ⟨p, e, by omega⟩
/-- no bools within -/
theorem pl_eqvL {n : Nat} (ih : ∀ d e p q, Pl n d = true → Pl n e = true → toPy d = some p → toPy e = some q → (PyData.eqv p q = true ↔ d = e)) : ∀ {ds es : List D} {ps qs : List PyData}, ds.all (Pl n) = true → es.all (Pl n) = true → toPyL ds = some ps → toPyL es = some qs → (PyData.eqvAll ps qs = true ↔ ds = es)
  | [], [], ps, qs, _, _, e1, e2 => by cases e1; cases e2; simp [PyData.eqvAll]
  | [], e :: es, ps, qs, _, _, e1, e2 => by
    cases e1
    simp only [toPyL, Option.bind_eq_some_iff, Option.map_eq_some_iff] at e2
    obtain ⟨q, _, qs', _, rfl⟩ := e2
    simp [PyData.eqvAll]
  | d :: ds, [], ps, qs, _, _, e1, e2 => by
    cases e2
    simp only [toPyL, Option.bind_eq_some_iff, Option.map_eq_some_iff] at e1
    obtain ⟨q, _, qs', _, rfl⟩ := e1
    simp [PyData.eqvAll]
  | d :: ds, e :: es, ps, qs, h1, h2, e1, e2 => by
    rw [List.all_cons, Bool.and_eq_true] at h1 h2
    simp only [toPyL, Option.bind_eq_some_iff, Option.map_eq_some_iff] at e1 e2
    obtain ⟨p, p1, ps', p2, rfl⟩ := e1
    obtain ⟨q, q1, qs', q2, rfl⟩ := e2
    have a := ih d e p q h1.1 h2.1 p1 q1
    have b := pl_eqvL ih h1.2 h2.2 p2 q2
    simp only [PyData.eqvAll, Bool.and_eq_true, a, b, List.cons.injEq]
theorem sc_py' {d : D} {p : PyData} (h : Sc d = true) (e : toPy d = some p) : (d = .non ∧ p = .none) ∨ (∃ i, d = .int i ∧ p = .int i) ∨ ∃ x, d = .str x ∧ p = .str x := by
  cases d <;> first
    | (cases h; done)
    | skip
  · cases e; exact .inl ⟨rfl, rfl⟩
  · cases e; exact .inr (.inl ⟨_, rfl, rfl⟩)
  · rename_i x
    have h' : PyData.strOk x = true := h
    have e' : (if PyData.strOk x = true then some (PyData.str x) else none) = some p := by
      have z : toPy (.str x) = if PyData.strOk x = true then some (PyData.str x) else none := by simp [toPy]
      rw [← z]; exact e
    rw [if_pos h'] at e'
    cases e'
    exact .inr (.inr ⟨x, rfl, rfl⟩)
theorem sc_eqv {d e : D} {p q : PyData} (h1 : Sc d = true) (h2 : Sc e = true) (e1 : toPy d = some p) (e2 : toPy e = some q) : PyData.eqv p q = true ↔ d = e := by
  rcases sc_py' h1 e1 with ⟨rfl, rfl⟩ | ⟨i, rfl, rfl⟩ | ⟨x, rfl, rfl⟩ <;> rcases sc_py' h2 e2 with ⟨rfl, rfl⟩ | ⟨j, rfl, rfl⟩ | ⟨y, rfl, rfl⟩ <;> simp [PyData.eqv]
theorem pl_eqv : ∀ {n : Nat} {d e : D} {p q : PyData}, Pl n d = true → Pl n e = true → toPy d = some p → toPy e = some q → (PyData.eqv p q = true ↔ d = e)
  | 0, d, e, p, q, h1, h2, e1, e2 => sc_eqv h1 h2 e1 e2
  | n + 1, d, e, p, q, h1, h2, e1, e2 => by
    have ih := fun d e p q => pl_eqv (n := n) (d := d) (e := e) (p := p) (q := q)
    cases d <;> cases e <;> first
      | (cases h1; done)
      | (cases h2; done)
      | exact sc_eqv h1 h2 e1 e2
      | skip
    all_goals
      (try simp only [toPy, Option.map_eq_some_iff] at e1)
      (try simp only [toPy, Option.map_eq_some_iff] at e2)
      (try obtain ⟨ps, p1, rfl⟩ := e1)
      (try obtain ⟨qs, q1, rfl⟩ := e2)
    all_goals first
      | (have k := pl_eqvL ih (show List.all _ (Pl n) = true from h1) (show List.all _ (Pl n) = true from h2) p1 q1
         simp only [PyData.eqv, k, D.lst.injEq, D.tup.injEq]; done)
      | (simp [PyData.eqv]; done)
      | (first | (cases e1; simp [PyData.eqv]; done) | (cases e2; simp [PyData.eqv]; done))
      | (split at e1 <;> first | (cases e1; simp [PyData.eqv]; done) | (cases e1; done))
      | (split at e2 <;> first | (cases e2; simp [PyData.eqv]; done) | (cases e2; done))
open Classical in
/-- two data the same -/
noncomputable def eqB (x y : D) : Bool := decide (x = y)
theorem eqB_iff {x y : D} : eqB x y = true ↔ x = y := by unfold eqB; simp
theorem Pl.mono : ∀ {n : Nat} {d : D}, Pl n d = true → Pl (n + 1) d = true
  | 0, d, h => by cases d <;> first | exact h | cases h
  | n + 1, d, h => by
    cases d with
    | lst ds =>
      have h' : ds.all (Pl n) = true := h
      show ds.all (Pl (n + 1)) = true
      rw [List.all_eq_true] at h' ⊢
      exact fun x hx => Pl.mono (h' x hx)
    | tup ds =>
      have h' : ds.all (Pl n) = true := h
      show ds.all (Pl (n + 1)) = true
      rw [List.all_eq_true] at h' ⊢
      exact fun x hx => Pl.mono (h' x hx)
    | _ => exact h
theorem Pl.le {n m : Nat} {d : D} (h : Pl n d = true) (hm : n ≤ m) : Pl m d = true := by
  induction m with
  | zero =>
    have : n = 0 := by omega
    subst this; exact h
  | succ m ih =>
    rcases Nat.lt_or_ge n (m + 1) with q | q
    · exact Pl.mono (ih (by omega))
    · have : n = m + 1 := by omega
      subst this; exact h
theorem eqP_pl {n : Nat} {x y : D} (hn : n ≤ 60) (hx : Pl n x = true) (hy : Pl n y = true) : eqP x y = some (eqB x y) := by
  obtain ⟨p, e1, d1⟩ := pl_py hx
  obtain ⟨q, e2, d2⟩ := pl_py hy
  have k := pl_eqv hx hy e1 e2
  unfold eqP
  rw [e1, e2]
  show (if p.depth ≤ 64 ∧ q.depth ≤ 64 then some (PyData.eqv p q) else none) = _
  rw [if_pos ⟨by omega, by omega⟩]
  congr 1
  rw [Bool.eq_iff_iff, k, eqB_iff]
theorem eqD_pl {n : Nat} {x y : D} (hn : n ≤ 60) (hx : Pl n x = true) (hy : Pl n y = true) : eqD x y = some (eqB x y) := by
  unfold eqD
  split
  · rename_i a b
    congr 1
    rw [Bool.eq_iff_iff, eqB_iff]
    simp
  · exact eqP_pl hn hx hy
@[simp] theorem eqD_str {a b : Str} : eqD (.str a) (.str b) = some (decide (a = b)) := (rfl)
@[simp] theorem eqD_int {i j : Int} : eqD (.int i) (.int j) = some (decide (i = j)) := by
  have e := eqD_pl (n := 0) (x := .int i) (y := .int j) (by omega) rfl rfl
  rw [e]
  congr 1
  rw [Bool.eq_iff_iff, eqB_iff]
  simp
/-! ### the length of a text of data -/
mutual
/-- at least the signs of d's text -/
def wt : D → Nat
  | .int i => i.natAbs.log2 + 2
  | .str x => (reprText x).length
  | .lst ds => wtL ds + 2
  | .tup ds => wtL ds + 4
  | _ => 5
def wtL : List D → Nat
  | [] => 0
  | d :: ds => wt d + 2 + wtL ds
end
theorem listText_le : ∀ ts : List Str, (listText ts).length ≤ piled ts + 2
  | [] => by decide
  | t :: r => by
    have h := textFrom_length_pos r 1 (("[" : Str) ++ (if (0 : Nat) > 0 then ", " else "" : String) ++ t) (Nat.succ_pos 0)
    have e : ((("[" : Str) ++ (if (0 : Nat) > 0 then ", " else "" : String) ++ t)).length = 1 + t.length := by
      rw [strLen_append, strLen_append]
      rfl
    have hX : (listText (t :: r)).length = (textFrom 1 (("[" : Str) ++ (if (0 : Nat) > 0 then ", " else "" : String) ++ t) r).length + 1 := by
      show (textFrom 1 _ r ++ "]").length = _
      rw [strLen_append]
      rfl
    rw [hX, h, e, piled_cons]
    omega
theorem tupleText_le (ts : List Str) : (tupleText ts).length ≤ piled ts + 4 := by
  unfold tupleText
  rw [strLen_append, strLen_append]
  have e1 : ((("(" : String) : Str)).length = 1 := rfl
  have e3 : (((if ts.length == 1 then ",)" else ")" : String) : Str)).length ≤ 2 := by split <;> decide
  have e2 : (Str.join ", " ts).length ≤ piled ts := by
    cases ts with
    | nil => decide
    | cons t r => have := join_length_add (t :: r) (by simp); omega
  rw [e1]
  omega
mutual
theorem shown_le : ∀ {d : D} {p : PyData}, toPy d = some p → p.shown.length ≤ wt d
  | .non, p, e => by cases e; simp only [PyData.shown, wt]; decide
  | .bl b, p, e => by cases e; simp only [PyData.shown, wt]; cases b <;> decide
  | .int i, p, e => by
    cases e
    simp only [PyData.shown, wt]
    have h := int_text_length_le (a := i) (k := i.natAbs.log2 + 1) (by omega) (by omega)
    rw [ofString_length]
    omega
  | .str x, p, e => by
    simp only [toPy] at e
    split at e
    · cases e; simp only [PyData.shown, wt]; exact Nat.le_refl _
    · cases e
  | .lst xs, p, e => by
    simp only [toPy, Option.map_eq_some_iff] at e
    obtain ⟨ps, e1, rfl⟩ := e
    simp only [PyData.shown, wt]
    have h := shownL_le e1
    have h2 := listText_le (PyData.shownAll ps)
    omega
  | .tup xs, p, e => by
    simp only [toPy, Option.map_eq_some_iff] at e
    obtain ⟨ps, e1, rfl⟩ := e
    simp only [PyData.shown, wt]
    have h := shownL_le e1
    have h2 := tupleText_le (PyData.shownAll ps)
    omega
  | .dct _, p, e => by cases e
  | .dcT _, p, e => by cases e
  | .dcN _, p, e => by cases e
  | .obj _ _, p, e => by cases e
  | .scr _, p, e => by cases e
  | .cls _, p, e => by cases e
  | .ty _, p, e => by cases e
  | .clo _ _ _, p, e => by cases e
theorem shownL_le : ∀ {ds : List D} {ps : List PyData}, toPyL ds = some ps → piled (PyData.shownAll ps) ≤ wtL ds
  | [], ps, e => by cases e; simp only [PyData.shownAll, wtL]; exact Nat.le_refl _
  | d :: ds, ps, e => by
    simp only [toPyL, Option.bind_eq_some_iff, Option.map_eq_some_iff] at e
    obtain ⟨p, e1, qs, e2, rfl⟩ := e
    have h1 := shown_le e1
    have h2 := shownL_le e2
    simp only [PyData.shownAll, wtL]
    rw [piled_cons]
    omega
end
mutual
/-- every number is short enough to be shown -/
def shD : D → Bool
  | .int i => decide (i.natAbs.log2 < 1920)
  | .lst ds => shL ds
  | .tup ds => shL ds
  | _ => true
def shL : List D → Bool
  | [] => true
  | d :: ds => shD d && shL ds
end
mutual
theorem showable_of : ∀ {d : D} {p : PyData}, toPy d = some p → shD d = true → p.showable = true
  | .non, p, e, _ => by cases e; rfl
  | .bl b, p, e, _ => by cases e; rfl
  | .int i, p, e, h => by cases e; simpa [PyData.showable, shD] using h
  | .str x, p, e, _ => by
    simp only [toPy] at e
    split at e
    · cases e; rfl
    · cases e
  | .lst xs, p, e, h => by
    simp only [toPy, Option.map_eq_some_iff] at e
    obtain ⟨ps, e1, rfl⟩ := e
    simp only [PyData.showable]
    exact showableL_of e1 (by simpa [shD] using h)
  | .tup xs, p, e, h => by
    simp only [toPy, Option.map_eq_some_iff] at e
    obtain ⟨ps, e1, rfl⟩ := e
    simp only [PyData.showable]
    exact showableL_of e1 (by simpa [shD] using h)
  | .dct _, p, e, _ => by cases e
  | .dcT _, p, e, _ => by cases e
  | .dcN _, p, e, _ => by cases e
  | .obj _ _, p, e, _ => by cases e
  | .scr _, p, e, _ => by cases e
  | .cls _, p, e, _ => by cases e
  | .ty _, p, e, _ => by cases e
  | .clo _ _ _, p, e, _ => by cases e
theorem showableL_of : ∀ {ds : List D} {ps : List PyData}, toPyL ds = some ps → shL ds = true → PyData.showableAll ps = true
  | [], ps, e, _ => by cases e; rfl
  | d :: ds, ps, e, h => by
    simp only [toPyL, Option.bind_eq_some_iff, Option.map_eq_some_iff] at e
    obtain ⟨p, e1, qs, e2, rfl⟩ := e
    simp only [shL, Bool.and_eq_true] at h
    simp only [PyData.showableAll, Bool.and_eq_true]
    exact ⟨showable_of e1 h.1, showableL_of e2 h.2⟩
end
/-- the text of plain data -/
theorem repr_pl {n : Nat} {d : D} (hn : n ≤ 50) (h : Pl n d = true) (hs : shD d = true) (hw : wt d ≤ lim) : ∃ x, dRepr [d] = some (.str x) := by
  obtain ⟨p, e, hd⟩ := pl_py h
  refine ⟨p.shown, ?_⟩
  show (toPy d).bind _ = _
  rw [e, Option.bind_some, if_pos]
  unfold reprOk
  simp only [Bool.and_eq_true, decide_eq_true_eq]
  exact ⟨⟨showable_of e hs, Nat.le_trans (shown_le e) hw⟩, by omega⟩
end DL

namespace DL
open PySem L2
theorem cutG_sub {α : Type} {xs : List α} {lo hi : Option Int} : (cutG xs lo hi).Sublist xs := (List.take_sublist _ _).trans (List.drop_sublist _ _)
theorem cutG_mem {α : Type} {xs : List α} {lo hi : Option Int} {x : α} (h : x ∈ cutG xs lo hi) : x ∈ xs := cutG_sub.subset h
theorem cutG_len {α : Type} {xs : List α} {lo hi : Option Int} : (cutG xs lo hi).length ≤ xs.length := cutG_sub.length_le
theorem atI_mem {α : Type} {xs : List α} {i : Int} {x : α} (h : atI xs i = some x) : x ∈ xs := by
  unfold atI at h
  rw [Option.bind_eq_some_iff] at h
  obtain ⟨j, _, h⟩ := h
  exact List.mem_of_getElem? h
theorem atI_last {α : Type} {xs : List α} (h : xs ≠ []) : atI xs (-1) = some (xs.getLast h) := by
  have hl : 0 < xs.length := List.length_pos_iff.mpr h
  have e : ixN xs.length (-1) = some (xs.length - 1) := by
    unfold ixN
    rw [if_neg (by omega), if_pos (by omega)]
    congr 1
    omega
  unfold atI
  rw [e, Option.bind_some, List.getLast_eq_getElem]
  simp [hl]
theorem atI_first {α : Type} {xs : List α} (h : xs ≠ []) : ∃ x, atI xs 0 = some x ∧ x ∈ xs := by
  cases xs with
  | nil => exact absurd rfl h
  | cons x xs => exact ⟨x, atI_0, List.mem_cons_self ..⟩
theorem atI_lastM {α : Type} {xs : List α} (h : xs ≠ []) : ∃ x, atI xs (-1) = some x ∧ x ∈ xs := ⟨_, atI_last h, List.getLast_mem h⟩
theorem eqD_nil {n : Nat} {ds : List D} (hn : n ≤ 59) (h : ds.all (Pl n) = true) : eqD (.lst ds) (.lst []) = some ds.isEmpty := by
  rw [eqD_pl (n := n + 1) (x := .lst ds) (y := .lst []) (by omega) (show ds.all (Pl n) = true from h) rfl]
  congr 1
  rw [Bool.eq_iff_iff, eqB_iff]
  cases ds <;> simp
/-! the words -/
@[simp] theorem ok_put : PyData.strOk "put" = true := by decide +kernel
@[simp] theorem ok_take : PyData.strOk "take" = true := by decide +kernel
@[simp] theorem ok_left : PyData.strOk "left" = true := by decide +kernel
@[simp] theorem ok_right : PyData.strOk "right" = true := by decide +kernel
@[simp] theorem ne_take_put : (("take" : Str) = "put") = False := eq_false (by decide +kernel)
@[simp] theorem ne_put_take : (("put" : Str) = "take") = False := eq_false (by decide +kernel)
@[simp] theorem ne_left_right : (("left" : Str) = "right") = False := eq_false (by decide +kernel)
@[simp] theorem ne_right_left : (("right" : Str) = "left") = False := eq_false (by decide +kernel)
end DL

namespace DL
open PySem L2
theorem isi_k {tb : Str → Str → Option Bool} {d : D} {T k : String} {b : Bool} (h : T ∈ tyNames) (hk : kindOf d = some k) (hb : isiT k T = b) : isiOne tb d (.ty T) = some b := by
  unfold isiOne
  dsimp only
  rw [if_pos h, hk]
  exact congrArg _ hb
theorem obj_k {tb : Str → Str → Option Bool} {n : Str} {fs : List (Str × D)} {T : String} (h : T ∈ tyNames) : isiOne tb (.obj n fs) (.ty T) = some false := by
  unfold isiOne
  dsimp only
  rw [if_pos h]
  rfl
@[simp] theorem isi_non_int {tb : Str → Str → Option Bool} : isiOne tb .non (.ty "int") = some false := isi_k (by decide +kernel) rfl (by decide +kernel)
@[simp] theorem isi_non_bool {tb : Str → Str → Option Bool} : isiOne tb .non (.ty "bool") = some false := isi_k (by decide +kernel) rfl (by decide +kernel)
@[simp] theorem isi_non_str {tb : Str → Str → Option Bool} : isiOne tb .non (.ty "str") = some false := isi_k (by decide +kernel) rfl (by decide +kernel)
@[simp] theorem isi_non_list {tb : Str → Str → Option Bool} : isiOne tb .non (.ty "list") = some false := isi_k (by decide +kernel) rfl (by decide +kernel)
@[simp] theorem isi_non_tuple {tb : Str → Str → Option Bool} : isiOne tb .non (.ty "tuple") = some false := isi_k (by decide +kernel) rfl (by decide +kernel)
@[simp] theorem isi_non_dict {tb : Str → Str → Option Bool} : isiOne tb .non (.ty "dict") = some false := isi_k (by decide +kernel) rfl (by decide +kernel)
@[simp] theorem isi_bl_int {tb : Str → Str → Option Bool} {b : Bool} : isiOne tb (.bl b) (.ty "int") = some true := isi_k (by decide +kernel) rfl (by decide +kernel)
@[simp] theorem isi_bl_bool {tb : Str → Str → Option Bool} {b : Bool} : isiOne tb (.bl b) (.ty "bool") = some true := isi_k (by decide +kernel) rfl (by decide +kernel)
@[simp] theorem isi_bl_str {tb : Str → Str → Option Bool} {b : Bool} : isiOne tb (.bl b) (.ty "str") = some false := isi_k (by decide +kernel) rfl (by decide +kernel)
@[simp] theorem isi_bl_list {tb : Str → Str → Option Bool} {b : Bool} : isiOne tb (.bl b) (.ty "list") = some false := isi_k (by decide +kernel) rfl (by decide +kernel)
@[simp] theorem isi_bl_tuple {tb : Str → Str → Option Bool} {b : Bool} : isiOne tb (.bl b) (.ty "tuple") = some false := isi_k (by decide +kernel) rfl (by decide +kernel)
@[simp] theorem isi_bl_dict {tb : Str → Str → Option Bool} {b : Bool} : isiOne tb (.bl b) (.ty "dict") = some false := isi_k (by decide +kernel) rfl (by decide +kernel)
@[simp] theorem isi_int_int {tb : Str → Str → Option Bool} {i : Int} : isiOne tb (.int i) (.ty "int") = some true := isi_k (by decide +kernel) rfl (by decide +kernel)
@[simp] theorem isi_int_bool {tb : Str → Str → Option Bool} {i : Int} : isiOne tb (.int i) (.ty "bool") = some false := isi_k (by decide +kernel) rfl (by decide +kernel)
@[simp] theorem isi_int_str {tb : Str → Str → Option Bool} {i : Int} : isiOne tb (.int i) (.ty "str") = some false := isi_k (by decide +kernel) rfl (by decide +kernel)
@[simp] theorem isi_int_list {tb : Str → Str → Option Bool} {i : Int} : isiOne tb (.int i) (.ty "list") = some false := isi_k (by decide +kernel) rfl (by decide +kernel)
@[simp] theorem isi_int_tuple {tb : Str → Str → Option Bool} {i : Int} : isiOne tb (.int i) (.ty "tuple") = some false := isi_k (by decide +kernel) rfl (by decide +kernel)
@[simp] theorem isi_int_dict {tb : Str → Str → Option Bool} {i : Int} : isiOne tb (.int i) (.ty "dict") = some false := isi_k (by decide +kernel) rfl (by decide +kernel)
@[simp] theorem isi_str_int {tb : Str → Str → Option Bool} {x : Str} : isiOne tb (.str x) (.ty "int") = some false := isi_k (by decide +kernel) rfl (by decide +kernel)
@[simp] theorem isi_str_bool {tb : Str → Str → Option Bool} {x : Str} : isiOne tb (.str x) (.ty "bool") = some false := isi_k (by decide +kernel) rfl (by decide +kernel)
@[simp] theorem isi_str_str {tb : Str → Str → Option Bool} {x : Str} : isiOne tb (.str x) (.ty "str") = some true := isi_k (by decide +kernel) rfl (by decide +kernel)
@[simp] theorem isi_str_list {tb : Str → Str → Option Bool} {x : Str} : isiOne tb (.str x) (.ty "list") = some false := isi_k (by decide +kernel) rfl (by decide +kernel)
@[simp] theorem isi_str_tuple {tb : Str → Str → Option Bool} {x : Str} : isiOne tb (.str x) (.ty "tuple") = some false := isi_k (by decide +kernel) rfl (by decide +kernel)
@[simp] theorem isi_str_dict {tb : Str → Str → Option Bool} {x : Str} : isiOne tb (.str x) (.ty "dict") = some false := isi_k (by decide +kernel) rfl (by decide +kernel)
@[simp] theorem isi_lst_int {tb : Str → Str → Option Bool} {xs : List D} : isiOne tb (.lst xs) (.ty "int") = some false := isi_k (by decide +kernel) rfl (by decide +kernel)
@[simp] theorem isi_lst_bool {tb : Str → Str → Option Bool} {xs : List D} : isiOne tb (.lst xs) (.ty "bool") = some false := isi_k (by decide +kernel) rfl (by decide +kernel)
@[simp] theorem isi_lst_str {tb : Str → Str → Option Bool} {xs : List D} : isiOne tb (.lst xs) (.ty "str") = some false := isi_k (by decide +kernel) rfl (by decide +kernel)
@[simp] theorem isi_lst_list {tb : Str → Str → Option Bool} {xs : List D} : isiOne tb (.lst xs) (.ty "list") = some true := isi_k (by decide +kernel) rfl (by decide +kernel)
@[simp] theorem isi_lst_tuple {tb : Str → Str → Option Bool} {xs : List D} : isiOne tb (.lst xs) (.ty "tuple") = some false := isi_k (by decide +kernel) rfl (by decide +kernel)
@[simp] theorem isi_lst_dict {tb : Str → Str → Option Bool} {xs : List D} : isiOne tb (.lst xs) (.ty "dict") = some false := isi_k (by decide +kernel) rfl (by decide +kernel)
@[simp] theorem isi_tup_int {tb : Str → Str → Option Bool} {xs : List D} : isiOne tb (.tup xs) (.ty "int") = some false := isi_k (by decide +kernel) rfl (by decide +kernel)
@[simp] theorem isi_tup_bool {tb : Str → Str → Option Bool} {xs : List D} : isiOne tb (.tup xs) (.ty "bool") = some false := isi_k (by decide +kernel) rfl (by decide +kernel)
@[simp] theorem isi_tup_str {tb : Str → Str → Option Bool} {xs : List D} : isiOne tb (.tup xs) (.ty "str") = some false := isi_k (by decide +kernel) rfl (by decide +kernel)
@[simp] theorem isi_tup_list {tb : Str → Str → Option Bool} {xs : List D} : isiOne tb (.tup xs) (.ty "list") = some false := isi_k (by decide +kernel) rfl (by decide +kernel)
@[simp] theorem isi_tup_tuple {tb : Str → Str → Option Bool} {xs : List D} : isiOne tb (.tup xs) (.ty "tuple") = some true := isi_k (by decide +kernel) rfl (by decide +kernel)
@[simp] theorem isi_tup_dict {tb : Str → Str → Option Bool} {xs : List D} : isiOne tb (.tup xs) (.ty "dict") = some false := isi_k (by decide +kernel) rfl (by decide +kernel)
@[simp] theorem isi_dct_int {tb : Str → Str → Option Bool} {kvs : List (Key × D)} : isiOne tb (.dct kvs) (.ty "int") = some false := isi_k (by decide +kernel) rfl (by decide +kernel)
@[simp] theorem isi_dct_bool {tb : Str → Str → Option Bool} {kvs : List (Key × D)} : isiOne tb (.dct kvs) (.ty "bool") = some false := isi_k (by decide +kernel) rfl (by decide +kernel)
@[simp] theorem isi_dct_str {tb : Str → Str → Option Bool} {kvs : List (Key × D)} : isiOne tb (.dct kvs) (.ty "str") = some false := isi_k (by decide +kernel) rfl (by decide +kernel)
@[simp] theorem isi_dct_list {tb : Str → Str → Option Bool} {kvs : List (Key × D)} : isiOne tb (.dct kvs) (.ty "list") = some false := isi_k (by decide +kernel) rfl (by decide +kernel)
@[simp] theorem isi_dct_tuple {tb : Str → Str → Option Bool} {kvs : List (Key × D)} : isiOne tb (.dct kvs) (.ty "tuple") = some false := isi_k (by decide +kernel) rfl (by decide +kernel)
@[simp] theorem isi_dct_dict {tb : Str → Str → Option Bool} {kvs : List (Key × D)} : isiOne tb (.dct kvs) (.ty "dict") = some true := isi_k (by decide +kernel) rfl (by decide +kernel)
@[simp] theorem isi_scr_int {tb : Str → Str → Option Bool} {ns : List Int} : isiOne tb (.scr ns) (.ty "int") = some false := isi_k (by decide +kernel) rfl (by decide +kernel)
@[simp] theorem isi_scr_bool {tb : Str → Str → Option Bool} {ns : List Int} : isiOne tb (.scr ns) (.ty "bool") = some false := isi_k (by decide +kernel) rfl (by decide +kernel)
@[simp] theorem isi_scr_str {tb : Str → Str → Option Bool} {ns : List Int} : isiOne tb (.scr ns) (.ty "str") = some false := isi_k (by decide +kernel) rfl (by decide +kernel)
@[simp] theorem isi_scr_list {tb : Str → Str → Option Bool} {ns : List Int} : isiOne tb (.scr ns) (.ty "list") = some true := isi_k (by decide +kernel) rfl (by decide +kernel)
@[simp] theorem isi_scr_tuple {tb : Str → Str → Option Bool} {ns : List Int} : isiOne tb (.scr ns) (.ty "tuple") = some false := isi_k (by decide +kernel) rfl (by decide +kernel)
@[simp] theorem isi_scr_dict {tb : Str → Str → Option Bool} {ns : List Int} : isiOne tb (.scr ns) (.ty "dict") = some false := isi_k (by decide +kernel) rfl (by decide +kernel)
@[simp] theorem isi_obj_int {tb : Str → Str → Option Bool} {n : Str} {fs : List (Str × D)} : isiOne tb (.obj n fs) (.ty "int") = some false := obj_k (by decide +kernel)
@[simp] theorem isi_obj_bool {tb : Str → Str → Option Bool} {n : Str} {fs : List (Str × D)} : isiOne tb (.obj n fs) (.ty "bool") = some false := obj_k (by decide +kernel)
@[simp] theorem isi_obj_str {tb : Str → Str → Option Bool} {n : Str} {fs : List (Str × D)} : isiOne tb (.obj n fs) (.ty "str") = some false := obj_k (by decide +kernel)
@[simp] theorem isi_obj_list {tb : Str → Str → Option Bool} {n : Str} {fs : List (Str × D)} : isiOne tb (.obj n fs) (.ty "list") = some false := obj_k (by decide +kernel)
@[simp] theorem isi_obj_tuple {tb : Str → Str → Option Bool} {n : Str} {fs : List (Str × D)} : isiOne tb (.obj n fs) (.ty "tuple") = some false := obj_k (by decide +kernel)
@[simp] theorem isi_obj_dict {tb : Str → Str → Option Bool} {n : Str} {fs : List (Str × D)} : isiOne tb (.obj n fs) (.ty "dict") = some false := obj_k (by decide +kernel)
/-! flat things in flat lists -/
@[simp] theorem inB_str2 {a b c : Str} : inB (.str a) (.tup [.str b, .str c]) = some (decide (a = b) || decide (a = c)) := by
  have e : inB (.str a) (.tup [.str b, .str c]) = some (inD (.str a) [.str b, .str c]) := rfl
  rw [e]
  have h : ∀ x y : Str, (x == y) = decide (y = x) := fun x y => by
    rw [Bool.eq_iff_iff, beq_iff_eq, decide_eq_true_eq]
    exact eq_comm
  simp only [inD, List.any_cons, List.any_nil, flatEq, Bool.or_false, h]
end DL

namespace DL
open PySem L2
@[simp] theorem eqD_bl {a b : Bool} : eqD (.bl a) (.bl b) = some (decide (a = b)) := by
  cases a <;> cases b <;> rfl
@[simp] theorem dMul_lst {a : List D} {k : Int} : dMul (.lst a) (.int k) = if a.length * k.toNat ≤ lim ∧ -1000000 ≤ k ∧ k ≤ 1000000 then some (.lst (List.replicate k.toNat a).flatten) else none := (rfl)
@[simp] theorem dRev_lst {a : List D} : dRev (.lst a) = some (.lst a.reverse) := (rfl)
@[simp] theorem dStep_one {a : List D} : dStep (.lst a) (some 1) = some (.lst a) := (rfl)
@[simp] theorem dStep_neg {a : List D} : dStep (.lst a) (some (-1)) = some (.lst a.reverse) := (rfl)
@[simp] theorem wp_step {Δ : SD} {E : EX} {fa : M AK} {fs : M (Option Int)} {P : D → SD → Prop} : wp (mStep fa fs) Δ (K := ⟨P, E⟩) = wp fa Δ (K := ⟨fun a Δ1 => wp fs Δ1 (K := ⟨fun o Δ2 => wp (mGet a) Δ2 (K := ⟨fun d Δ3 => wp (mOpt (dStep d o)) Δ3 (K := ⟨P, E⟩), E⟩), E⟩), E⟩) := by
  unfold mStep
  repeat (first | rfl | rw [wp_bind] | rw [wp_pure] | refine wp_ext fun _ _ => ?_)
/-- a row of whole numbers -/
def rowD (ns : List Int) : D := .lst (ns.map D.int)
theorem rowD_inj {a b : List Int} : rowD a = rowD b ↔ a = b := by
  constructor
  · intro h
    have h' : a.map D.int = b.map D.int := by unfold rowD at h; exact D.lst.inj h
    exact (List.map_inj_right (fun x y e => D.int.inj e)).mp h'
  · intro h; rw [h]
theorem pl_ints (ns : List Int) : (ns.map D.int).all (Pl 0) = true := by
  rw [List.all_eq_true]
  intro x hx
  obtain ⟨n, _, rfl⟩ := List.mem_map.mp hx
  rfl
theorem eqD_row {a b : List Int} : eqD (rowD a) (rowD b) = some (decide (a = b)) := by
  rw [eqD_pl (n := 1) (x := rowD a) (y := rowD b) (by omega) (pl_ints a) (pl_ints b)]
  congr 1
  rw [Bool.eq_iff_iff, eqB_iff, decide_eq_true_eq, rowD_inj]
theorem eqD_rowN {a : List Int} : eqD (rowD a) (.lst []) = some a.isEmpty := by
  have e : eqD (rowD a) (rowD []) = some (decide (a = [])) := eqD_row
  have e2 : eqD (rowD a) (.lst []) = some (decide (a = [])) := e
  rw [e2]
  congr 1
  cases a <;> simp
end DL

namespace DL
open PySem L2 PySem.Spec PyProof.Rows

/-! ### a promise by positional values -/
structure DRn (P : Program) (w : World) (K : PySem.W.Frag) (mg : Str → Option Value) (base : Heap) (T : List (Addr × Str)) (k : Nat) (f : Addr) (sp : Sp) : Prop where
  run : ∀ (A : Around) (outer : List Env) (s : Shared) (H : Hp) (us : List Value) (vs : List V) (Q : VK) (E : XK), Room k A → (20 ≤ k → A.guards = some []) → Env0 P w K mg base A outer s H → Vals vs us → sp vs H Q E →
    codeAny (model P w) A (.call (.ref f) ⟨us, []⟩) (CR (L2.CX P w) outer P w H s Q E) s
section
variable {P : Program} {w : World} {K : PySem.W.Frag} {mg : Str → Option Value} {base : Heap} {k : Nat} {f : Addr} {fd : FuncData} {ps : List Str} {io : List Nat} {g : List D → RD}
theorem DFn.raw (F : DFn P w K mg base T k f fd ps io g) (hb : Binds K fd ps []) : DRn P w K mg base T k f (spD ⟨K, mg, T⟩ ps.length io g) := by
  constructor
  intro A outer s H us vs Q E hr hg e0 r h
  have hl : us.length = ps.length := by
    obtain ⟨_, _, _, e, _⟩ := h
    rw [← r.length, e]
  have hbind := hb s us (e0.mod.kin.keeps fun b o e => (e0.bs b o e).1) (by rw [List.append_nil]; exact hl)
  rw [List.append_nil] at hbind
  exact F.run A outer s H ⟨us, []⟩ us vs Q E hr hg e0 hbind r h
end
section
variable {X : Cx} {c : Ct} {W : WX} {k kf : Nat} {f : Addr} {sp : Sp}
/-- the callee runs, within a step that lies above the caller -/
theorem code_drn {A : Around} {pins : List (Addr × Obj)} {σ : L2.St} {H : Hp} {s : Shared} {Q : VK} {us : List Value} {vs : List V} (F : DRn X.prog X.w X.K X.mg X.base c.T kf f sp) (o : Ok X c W k) (hr : Room kf A) (hg : 20 ≤ kf → A.guards = some []) (e0 : Env0 X.prog X.w X.K X.mg X.base A X.stack s H) (I : Inv X pins σ H s) (r : Vals vs us)
    (h : sp vs H Q (fun cls d H' => W cls d σ H')) : codeAny (model X.prog X.w) A (.call (.ref f) ⟨us, []⟩) (fun r s' => match r with | .ok (.ret v) => EP X pins σ Q v s' | .ok _ => False | .error e => X.xe e s') s := by
  refine codeAny_mono (F.run A X.stack s H us vs Q _ hr hg e0 r h) fun res s' hq => ?_
  cases res with
  | error e => exact o.tk _ _ (XE.of_call I (fun _ _ _ z => z) hq)
  | ok fl =>
    cases fl with
    | ret u => exact I.after hq
    | next => exact hq.elim
    | brk => exact hq.elim
    | cont => exact hq.elim
theorem run_drn {pins : List (Addr × Obj)} {σ : L2.St} {H : Hp} {s : Shared} {Q : VK} {us : List Value} {vs : List V} (F : DRn X.prog X.w X.K X.mg X.base c.T kf f sp) (o : Ok X c W k) (hk : kf ≤ k) (I : Inv X pins σ H s) (r : Vals vs us)
    (h : sp vs H Q (fun cls d H' => W cls d σ H')) : wpAny (model X.prog X.w) X.A (call (.ref f) us) (EP X pins σ Q) X.xe s :=
  wpAny_call (codeAny_mono (code_drn F o (o.room.mono hk) (fun h => o.gd (by omega)) I.env0 I r h) fun res s' hq => by
    cases res with
    | error e => exact hq
    | ok fl =>
      cases fl with
      | ret u => exact hq
      | next => exact hq.elim
      | brk => exact hq.elim
      | cont => exact hq.elim)
end

/-! ### attributes -/
theorem repF_lookup {G : Gc} {Av : Addr → Prop} {H : Hp} {f : Str} : ∀ {fs : List (Str × D)} {us : List (Str × V)}, RepF G Av H fs us → match fs.lookup f with
    | some d => ∃ v, us.lookup f = some v ∧ Rep G Av H d v
    | none => us.lookup f = none
  | [], us, h => by unfold RepF at h; subst h; rfl
  | (q, d) :: fs, us, h => by
    unfold RepF at h
    obtain ⟨v, r, rfl, h1, h2⟩ := h
    rw [List.lookup_cons, List.lookup_cons]
    cases f == q with
    | true => exact ⟨v, rfl, h1⟩
    | false => exact repF_lookup h2
theorem repF_length {G : Gc} {Av : Addr → Prop} {H : Hp} : ∀ {fs : List (Str × D)} {us : List (Str × V)}, RepF G Av H fs us → us.length = fs.length
  | [], us, h => by unfold RepF at h; subst h; rfl
  | (q, d) :: fs, us, h => by
    unfold RepF at h
    obtain ⟨v, r, rfl, h1, h2⟩ := h
    rw [List.length_cons, List.length_cons, repF_length h2]
theorem rep1_obj {G : Gc} {Av : Addr → Prop} {H : Hp} {n : Str} {fs : List (Str × D)} {v : V} (h : Rep1 G Av H (.obj n fs) v) : ∃ a C dx us, v = .ref a ∧ G.mg n = some (.ref C) ∧ ObjK G.K C ∧ H a = some (.ins C dx us) ∧ RepF G Av H fs us := by
  rcases h with h | ⟨a, rfl, C, dx, us, ⟨hm, ok⟩, hh, r⟩
  · unfold Rep at h
    obtain ⟨a, C, dx, us, e, _, ⟨hm, ok⟩, hh, r⟩ := h
    exact ⟨a, C, dx, us, e, hm, ok, hh, r⟩
  · exact ⟨a, C, dx, us, rfl, hm, ok, hh, r⟩
def dFld (n f : Str) : D → Option D
  | .obj m fs => if m = n then fs.lookup f else none
  | _ => none
/-- the class n has no attribute f of its own -/
def NoA (K : PySem.W.Frag) (mg : Str → Option Value) (n f : Str) : Prop := ∃ C, mg n = some (.ref C) ∧ NoAttr K C f
section
variable {X : Cx} {c : Ct} {W : WX} {k : Nat} {n f : Str} {e : Expr} {fa : M AK} {pos : Pos}
theorem de_fld (o : Ok X c W k) (na : NoA X.K X.mg n f) (ha : DO X c W e fa) (hb : attributeBase e f X.env (eval e X.env) = eval e X.env := by rfl) : DE X c W (.Attribute e f pos) (mUn (dFld n f) fa) := by
  obtain ⟨ta, pa, sa⟩ := ha.out
  refine ⟨_, pe_fld pa hb, fun x σ H Δ Q sr q => sa x σ H Δ _ sr (q.bind fun a Δ1 q1 v x1 H1 k1 sr1 h1 => ?_)⟩
  have q2 := q1.step k1 fun a Δ q => okV.step k1 q
  obtain ⟨dx, r1, q3⟩ := Post.get sr1 h1 q2
  have q4 := Post.outV sr1 q3
  cases dx <;> first | exact q4.elim | skip
  rename_i m fs
  change outV c.toGc x1.Av H1 Q (if m = n then fs.lookup f else none) at q4
  by_cases hm : m = n
  case neg => rw [if_neg hm] at q4; exact q4.elim
  rw [if_pos hm] at q4
  subst hm
  obtain ⟨a, C, dx, us, rfl, hg, ok, hh, rf⟩ := rep1_obj r1
  obtain ⟨C', hC, no⟩ := na
  rw [← o.hmg, hg] at hC
  cases hC
  have l := repF_lookup (f := f) rf
  revert q4 l
  cases fs.lookup f with
  | none => intro q4; exact q4.elim
  | some d =>
    rintro q4 ⟨v, hv, rv⟩
    exact ⟨a, C, dx, us, v, rfl, hh, o.hK ▸ ok.cl, no, hv, q4 v H1 (Ex.refl _) rv⟩
end

/-! ### e.f = value, the object a slot's own -/
def putFD (f : Str) (v : D) : List (Str × D) → List (Str × D)
  | [] => [(f, v)]
  | (g, x) :: r => if g = f then (g, v) :: r else (g, x) :: putFD f v r
theorem repF_put {G : Gc} {Av : Addr → Prop} {H : Hp} {f : Str} {d : D} {v : V} (hv : Rep G Av H d v) : ∀ {fs : List (Str × D)} {us : List (Str × V)}, RepF G Av H fs us → RepF G Av H (putFD f d fs) (putF f v us)
  | [], us, h => by
    unfold RepF at h; subst h
    show RepF G Av H [(f, d)] [(f, v)]
    unfold RepF
    exact ⟨v, [], rfl, hv, by unfold RepF; rfl⟩
  | (q, x) :: fs, us, h => by
    unfold RepF at h
    obtain ⟨u, r, rfl, h1, h2⟩ := h
    show RepF G Av H (if q = f then (q, d) :: fs else (q, x) :: putFD f d fs) (if q = f then (q, v) :: r else (q, u) :: putF f v r)
    by_cases e : q = f
    · rw [if_pos e, if_pos e]
      unfold RepF
      exact ⟨v, r, rfl, hv, h2⟩
    · rw [if_neg e, if_neg e]
      unfold RepF
      exact ⟨u, _, rfl, h1, repF_put hv h2⟩
def isObjD (n : Str) : D → Bool
  | .obj m fs => decide (m = n) && decide (fs.length < 100)
  | _ => false
def gSetF (f : Str) (v : D) : D → Option (Unit × D)
  | .obj n fs => some ((), .obj n (putFD f v fs))
  | _ => none
def mSetF (i : Nat) (n f : Str) (fe : M D) : M Fl := mBind fe fun v => mBind (mHold (isObjD n) i) fun _ => mBind (mUpd i (gSetF f v)) fun _ => mNx
section
variable {X : Cx} {c : Ct} {W : WX} {k i : Nat} {n f x : Str} {e : Expr} {fe : M D} {pos p1 p2 : Pos}
theorem ds_setF (o : Ok X c W k) (na : NoA X.K X.mg n f) (hN : X.N[i]? = some x) (hv : Vis X.env.scope x) (he : DE X c W e fe) (hdb : (x == ("__debug__" : Str)) = false := by decide) (hcd : (x == ("__classdict__" : Str)) = false := by decide)
    (hs : swapsWith e (some (.Attribute (.Name x p1) f p2)) pos.line X.env = pure false := by rfl) : DS X c W (.Assign [.Attribute (.Name x p1) f p2] e pos) (mSetF i n f fe) := by
  obtain ⟨te, pe, se⟩ := he.out
  refine ⟨_, ps_fld (pe_var hN hv hdb hcd) pe hs, fun y σ H Δ E sr q => ?_⟩
  refine se y σ H Δ _ sr (Post.bind (q.toPost (σ := σ)) fun v Δ1 q1 u x1 H1 k1 sr1 r1 => ?_)
  obtain ⟨d0, e0, hp, q2⟩ := Post.hold (q1.stepS k1)
  obtain ⟨d, b, d', e2, eu, q3⟩ := Post.upd q2
  rw [e0] at e2
  cases e2
  obtain ⟨a, ha0, hσ, ho, nav⟩ := sr1.owAt e0
  cases d0 <;> first | cases hp | skip
  rename_i m fs
  change (decide (m = n) && decide (fs.length < 100)) = true at hp
  rw [Bool.and_eq_true, decide_eq_true_eq, decide_eq_true_eq] at hp
  obtain ⟨rfl, hl⟩ := hp
  cases eu
  obtain ⟨C, dx, us, ⟨hm, ok⟩, hh, rf⟩ := ho
  obtain ⟨C', hC, no⟩ := na
  rw [o.hmg] at hm
  rw [hm] at hC
  cases hC
  have hok : ObjK X.K C := o.hK ▸ ok
  refine ⟨.ref a, hσ, a, C, dx, us, rfl, hh, hok.cl, no, by rw [repF_length rf]; omega, ?_⟩
  have key : Own c.toGc x1.Av (upd H1 a (.ins C dx (putF f u us))) a (.obj m (putFD f v fs)) := ⟨C, dx, _, ⟨by rw [o.hmg]; exact hm, ok⟩, upd_same, (repF_put r1 rf).keep (Keep.temp _ nav)⟩
  obtain ⟨k3, sr3⟩ := sr1.ownUpd e0 ha0 key
  exact q3 σ x1 _ k3 sr3
end

/-! ### methods -/
structure MtD (P : Program) (w : World) (K : PySem.W.Frag) (mg : Str → Option Value) (base : Heap) (T : List (Addr × Str)) (n m : Str) (k : Nat) (ps : List Str) (io : List Nat) (g : List D → RD) : Prop where
  out : ∃ (C f : Addr) (fd : FuncData), mg n = some (.ref C) ∧ Cls K C ∧ Meth K C m f ∧ Binds K fd ps [] ∧ DFn P w K mg base T k f fd ps io g
def chkO (n m : Str) : D → Bool
  | .obj k fs => decide (k = n) && (fs.lookup m).isNone
  | _ => false
def mMeth (n m : Str) (np : Nat) (io : List Nat) (g : List D → RD) (fo : M AK) (fs : M (List AK)) : M D := mBind fo fun a => mBind (mGet a) fun d => mBind (mOpt (if chkO n m d = true then some () else none)) fun _ => mBind fs fun as => mBind (callRes np io g (a :: as)) fun r => mPure r.1
def mMethN (n m : Str) (np : Nat) (io : List Nat) (g : List D → RD) (fo : M AK) (fs : M (List AK)) : M D := mBind fo fun a => mBind (mGet a) fun d => mBind (mOpt (if chkO n m d = true then some () else none)) fun _ => mBind fs fun as => mBind (callRes np io g (a :: as)) fun r => if r.2 = true then mPure r.1 else mBad
section
variable {X : Cx} {c : Ct} {W : WX} {k kf : Nat} {C f : Addr} {fd : FuncData} {ps : List Str} {io : List Nat} {g : List D → RD} {n m : Str} {ob e : Expr} {es : List Expr} {fo : M AK} {fs : M (List AK)} {pos apos : Pos}
theorem pe_dmeth {sp : Sp} {ta : TE} {t : TA} {T : TE} {pl : Sem Bool} (F : DRn X.prog X.w X.K X.mg X.base c.T kf f sp) (o : Ok X c W k) (hk : kf ≤ k) (cl : Cls X.K C) (hm : Meth X.K C m f) (pe : PE X ob ta) (pa : PA X (e :: es) t)
    (hT : ∀ σ H Q, T σ H Q → ta σ H fun x H1 => ∃ a dx us, x = .ref a ∧ H1 a = some (.ins C dx us) ∧ us.lookup m = none ∧ t σ H1 fun vs H2 => sp (x :: vs) H2 Q fun cls d H' => W cls d σ H')
    (hst : starEach (e :: es) X.env = (false, eval e X.env) :: starEach es X.env := by rfl) (hpl : (backTo pos (starEach es X.env)).any (·.1) = false := by rfl)
    (ht : eval (.Call (.Attribute ob m apos) (e :: es) [] pos) X.env = (do
      let ov ← eval ob X.env
      standAt apos.atName
      let (f, first) ← holding [ov] (getMethod ov m pl)
      callWith pos f first (backTo pos (starEach (e :: es) X.env)) (backToKw pos (keywordEach [] X.env))) := by rfl) : PE X (.Call (.Attribute ob m apos) (e :: es) [] pos) T := by
  refine ⟨fun pins s σ H Q I h => ?_⟩
  refine PySem.W.methodCall_KW (pl := pl) (thn (pe.run pins s σ H _ I (hT σ H Q h)) fun u s1 ⟨x, H1, I1, rx, a, dx, us, ex, ea, l, q⟩ => ?_) ht
  subst ex
  obtain rfl : u = Value.ref a := rx
  refine getmeth_ok I1 ea cl hm l ?_
  refine PySem.W.callWith_K (first := [.ref a]) (h₀ := X.base) I.ok.mod.kin hm.kp (thn (pa.run pos pins s1 σ H1 _ I1 q) fun us s2 ⟨vs, H2, I2, r, q2⟩ => ⟨I2.kIn, ?_⟩) hst hpl
  exact run_drn (us := .ref a :: us) (vs := .ref a :: vs) F o hk I2 (.cons rfl r) q2
theorem pe_dmeth0 {sp : Sp} {ta : TE} {T : TE} {pl : Sem Bool} (F : DRn X.prog X.w X.K X.mg X.base c.T kf f sp) (o : Ok X c W k) (hk : kf ≤ k) (cl : Cls X.K C) (hm : Meth X.K C m f) (pe : PE X ob ta)
    (hT : ∀ σ H Q, T σ H Q → ta σ H fun x H1 => ∃ a dx us, x = .ref a ∧ H1 a = some (.ins C dx us) ∧ us.lookup m = none ∧ sp [x] H1 Q fun cls d H' => W cls d σ H')
    (ht : eval (.Call (.Attribute ob m apos) [] [] pos) X.env = (do
      let ov ← eval ob X.env
      standAt apos.atName
      let (f, first) ← holding [ov] (getMethod ov m pl)
      callWith pos f first (backTo pos (starEach [] X.env)) (backToKw pos (keywordEach [] X.env))) := by rfl) : PE X (.Call (.Attribute ob m apos) [] [] pos) T := by
  refine ⟨fun pins s σ H Q I h => ?_⟩
  refine PySem.W.methodCall_KW (pl := pl) (thn (pe.run pins s σ H _ I (hT σ H Q h)) fun u s1 ⟨x, H1, I1, rx, a, dx, us, ex, ea, l, q⟩ => ?_) ht
  subst ex
  obtain rfl : u = Value.ref a := rx
  refine getmeth_ok I1 ea cl hm l ?_
  exact PySem.W.callWith_K0 (first := [.ref a]) I1.kIn hm.kp (run_drn (us := [.ref a]) (vs := [.ref a]) F o hk I1 (.cons rfl .nil) q)
theorem chk_some {d : D} {ok : Unit → SD → Prop} {x : Sx} {σ : L2.St} {H : Hp} {Δ : SD} {α : Type} {okr : α → SD → Prop} {r : Unit → M α} (q : Post c W x σ H okr (mBind (mOpt (if chkO n m d = true then some () else none)) r Δ)) : (∃ fs, d = .obj n fs ∧ fs.lookup m = none) ∧ Post c W x σ H okr (r () Δ) := by
  by_cases h : chkO n m d = true
  case neg => rw [if_neg h] at q; exact q.elim
  rw [if_pos h] at q
  refine ⟨?_, q⟩
  cases d <;> first | cases h | skip
  rename_i k fs
  change (decide (k = n) && (fs.lookup m).isNone) = true at h
  rw [Bool.and_eq_true, decide_eq_true_eq, Option.isNone_iff_eq_none] at h
  exact ⟨fs, by rw [h.1], h.2⟩
/-- the receiver, read; the arguments; what is asked of the callee -/
theorem meth_ask {x : Sx} {σ : L2.St} {H : Hp} {Δ : SD} {Q : VK} {ta : TE} {t : TA} {okr : Sx → Hp → D → SD → Prop} {kk : D × Bool → M D} (o : Ok X c W k) (hC : X.mg n = some (.ref C)) (so : SoundO c W ta fo) (sa : SoundA c W t fs) (sr : SR c x σ H Δ)
    (q : Post c W x σ H (okr x H) (mBind fo (fun a => mBind (mGet a) fun d => mBind (mOpt (if chkO n m d = true then some () else none)) fun _ => mBind fs fun as => mBind (callRes ps.length io g (a :: as)) kk) Δ))
    (step : ∀ {x x1 H H1} (d : D) (Δ : SD), Kp x H x1 H1 → okr x H d Δ → okr x1 H1 d Δ)
    (hV : ∀ {x H d Δ2}, Post c W x σ H (okr x H) (kk (d, false) Δ2) → okV c x σ H Q d Δ2) (hF : ∀ {x H d Δ2}, Post c W x σ H (okr x H) (kk (d, true) Δ2) → okF c x σ H Q d Δ2) :
    ta σ H fun v H1 => ∃ a dx us, v = .ref a ∧ H1 a = some (.ins C dx us) ∧ us.lookup m = none ∧ t σ H1 fun vs H2 => spD ⟨X.K, X.mg, c.T⟩ ps.length io g (v :: vs) H2 Q fun cls d H' => W cls d σ H' := by
  refine so x σ H Δ _ sr (q.bind fun a Δ1 q1 v x1 H1 k1 sr1 h1 => ?_)
  obtain ⟨d, r1, q2⟩ := Post.get sr1 h1 (q1.step k1 fun a Δ => step a Δ k1)
  obtain ⟨⟨fl, rfl, hl⟩, q3⟩ := chk_some (ok := fun _ _ => True) q2
  obtain ⟨b, C', dx, us, rfl, hm, ok, hh, rf⟩ := rep1_obj r1
  rw [o.hmg, hC] at hm
  cases hm
  have hn := repF_lookup (f := m) rf
  rw [hl] at hn
  refine ⟨b, dx, us, rfl, hh, hn, sa x1 σ H1 Δ1 _ sr1 (Post.bind q3 fun as Δ2 q4 vs x2 H2 k2 sr2 h2 => ?_)⟩
  have q5 := post_call (q4.step k2 fun a Δ => step a Δ k2)
  exact call_sp (as := a :: as) (gc_eq o) sr2 ⟨_, _, rfl, AKOk.kp sr1 k2 h1, h2⟩ q5 (fun d Δ2 z => hV z) (fun d Δ2 z => hF z)
theorem meth_ask0 {x : Sx} {σ : L2.St} {H : Hp} {Δ : SD} {Q : VK} {ta : TE} {okr : Sx → Hp → D → SD → Prop} {kk : D × Bool → M D} (o : Ok X c W k) (hC : X.mg n = some (.ref C)) (so : SoundO c W ta fo) (sr : SR c x σ H Δ)
    (q : Post c W x σ H (okr x H) (mBind fo (fun a => mBind (mGet a) fun d => mBind (mOpt (if chkO n m d = true then some () else none)) fun _ => mBind mNil fun as => mBind (callRes ps.length io g (a :: as)) kk) Δ))
    (step : ∀ {x x1 H H1} (d : D) (Δ : SD), Kp x H x1 H1 → okr x H d Δ → okr x1 H1 d Δ)
    (hV : ∀ {x H d Δ2}, Post c W x σ H (okr x H) (kk (d, false) Δ2) → okV c x σ H Q d Δ2) (hF : ∀ {x H d Δ2}, Post c W x σ H (okr x H) (kk (d, true) Δ2) → okF c x σ H Q d Δ2) :
    ta σ H fun v H1 => ∃ a dx us, v = .ref a ∧ H1 a = some (.ins C dx us) ∧ us.lookup m = none ∧ spD ⟨X.K, X.mg, c.T⟩ ps.length io g [v] H1 Q fun cls d H' => W cls d σ H' := by
  refine so x σ H Δ _ sr (q.bind fun a Δ1 q1 v x1 H1 k1 sr1 h1 => ?_)
  obtain ⟨d, r1, q2⟩ := Post.get sr1 h1 (q1.step k1 fun a Δ => step a Δ k1)
  obtain ⟨⟨fl, rfl, hl⟩, q3⟩ := chk_some (ok := fun _ _ => True) q2
  obtain ⟨b, C', dx, us, rfl, hm, ok, hh, rf⟩ := rep1_obj r1
  rw [o.hmg, hC] at hm
  cases hm
  have hn := repF_lookup (f := m) rf
  rw [hl] at hn
  exact ⟨b, dx, us, rfl, hh, hn, call_sp (as := [a]) (gc_eq o) sr1 ⟨_, _, rfl, h1, rfl⟩ (post_call q3) (fun d Δ2 z => hV z) (fun d Δ2 z => hF z)⟩
section
variable (F : MtD X.prog X.w X.K X.mg X.base c.T n m kf ps io g) (o : Ok X c W k) (hk : kf ≤ k) (ho : DO X c W ob fo) {pl : Sem Bool}
include F o hk ho
theorem de_meth (ha : DA X c W (e :: es) fs) (hst : starEach (e :: es) X.env = (false, eval e X.env) :: starEach es X.env := by rfl) (hpl : (backTo pos (starEach es X.env)).any (·.1) = false := by rfl)
    (ht : eval (.Call (.Attribute ob m apos) (e :: es) [] pos) X.env = (do
      let ov ← eval ob X.env
      standAt apos.atName
      let (f, first) ← holding [ov] (getMethod ov m pl)
      callWith pos f first (backTo pos (starEach (e :: es) X.env)) (backToKw pos (keywordEach [] X.env))) := by rfl) : DE X c W (.Call (.Attribute ob m apos) (e :: es) [] pos) (mMeth n m ps.length io g fo fs) := by
  obtain ⟨C, f, fd, hC, cl, hm, hb, dfn⟩ := F.out
  obtain ⟨ta, pa, sa⟩ := ho.out
  obtain ⟨t, pt, st⟩ := ha.out
  refine DE.of (pe_dmeth (dfn.raw hb) o hk cl hm pa pt (fun σ H Q ⟨x, Δ, sr, q⟩ => ?_) hst hpl ht)
  exact meth_ask (okr := fun x H => okV c x σ H Q) o hC sa st sr q (fun d Δ k z => okV.step k z) (fun z => z) (fun z => okF.okV z)
theorem df_meth (ha : DA X c W (e :: es) fs) (hst : starEach (e :: es) X.env = (false, eval e X.env) :: starEach es X.env := by rfl) (hpl : (backTo pos (starEach es X.env)).any (·.1) = false := by rfl)
    (ht : eval (.Call (.Attribute ob m apos) (e :: es) [] pos) X.env = (do
      let ov ← eval ob X.env
      standAt apos.atName
      let (f, first) ← holding [ov] (getMethod ov m pl)
      callWith pos f first (backTo pos (starEach (e :: es) X.env)) (backToKw pos (keywordEach [] X.env))) := by rfl) : DF X c W (.Call (.Attribute ob m apos) (e :: es) [] pos) (mMethN n m ps.length io g fo fs) := by
  obtain ⟨C, f, fd, hC, cl, hm, hb, dfn⟩ := F.out
  obtain ⟨ta, pa, sa⟩ := ho.out
  obtain ⟨t, pt, st⟩ := ha.out
  refine DF.of (pe_dmeth (dfn.raw hb) o hk cl hm pa pt (fun σ H Q ⟨x, Δ, sr, q⟩ => ?_) hst hpl ht)
  exact meth_ask (okr := fun x H => okF c x σ H Q) o hC sa st sr q (fun d Δ k z => okF.step k z) (fun z => z.elim) (fun z => z)
theorem de_meth0 (ht : eval (.Call (.Attribute ob m apos) [] [] pos) X.env = (do
      let ov ← eval ob X.env
      standAt apos.atName
      let (f, first) ← holding [ov] (getMethod ov m pl)
      callWith pos f first (backTo pos (starEach [] X.env)) (backToKw pos (keywordEach [] X.env))) := by rfl) : DE X c W (.Call (.Attribute ob m apos) [] [] pos) (mMeth n m ps.length io g fo mNil) := by
  obtain ⟨C, f, fd, hC, cl, hm, hb, dfn⟩ := F.out
  obtain ⟨ta, pa, sa⟩ := ho.out
  refine DE.of (pe_dmeth0 (dfn.raw hb) o hk cl hm pa (fun σ H Q ⟨x, Δ, sr, q⟩ => ?_) ht)
  exact meth_ask0 (okr := fun x H => okV c x σ H Q) o hC sa sr q (fun d Δ k z => okV.step k z) (fun z => z) (fun z => okF.okV z)
theorem df_meth0 (ht : eval (.Call (.Attribute ob m apos) [] [] pos) X.env = (do
      let ov ← eval ob X.env
      standAt apos.atName
      let (f, first) ← holding [ov] (getMethod ov m pl)
      callWith pos f first (backTo pos (starEach [] X.env)) (backToKw pos (keywordEach [] X.env))) := by rfl) : DF X c W (.Call (.Attribute ob m apos) [] [] pos) (mMethN n m ps.length io g fo mNil) := by
  obtain ⟨C, f, fd, hC, cl, hm, hb, dfn⟩ := F.out
  obtain ⟨ta, pa, sa⟩ := ho.out
  refine DF.of (pe_dmeth0 (dfn.raw hb) o hk cl hm pa (fun σ H Q ⟨x, Δ, sr, q⟩ => ?_) ht)
  exact meth_ask0 (okr := fun x H => okF c x σ H Q) o hC sa sr q (fun d Δ k z => okF.step k z) (fun z => z.elim) (fun z => z)
end
end

/-! ### properties -/
structure PrD (P : Program) (w : World) (K : PySem.W.Frag) (mg : Str → Option Value) (base : Heap) (T : List (Addr × Str)) (n m : Str) (k : Nat) (ps : List Str) (io : List Nat) (g : List D → RD) : Prop where
  out : ∃ (C p f : Addr) (fd : FuncData), mg n = some (.ref C) ∧ Cls K C ∧ PropOf K C m p f ∧ (PySem.W.clsIn K C).isSome = true ∧ Binds K fd ps [] ∧ DFn P w K mg base T k f fd ps io g
section
variable {X : Cx} {c : Ct} {W : WX} {k kf : Nat} {C f p : Addr} {ps : List Str} {io : List Nat} {g : List D → RD} {n m : Str} {ob : Expr} {fo : M AK} {pos : Pos}
theorem Env0.tok {P : Program} {w : World} {K : PySem.W.Frag} {mg : Str → Option Value} {base : Heap} {A : Around} {outer : List Env} {s : Shared} {H : Hp} {t : Nat} (e : Env0 P w K mg base A outer s H) : Env0 P w K mg base A outer { s with toks := t } H := ⟨e.frames, e.mod, e.bs, e.bsz, e.funs, e.frf, e.hok, e.bare⟩
theorem pe_dprop {sp : Sp} {ta : TE} {T : TE} (F : DRn X.prog X.w X.K X.mg X.base c.T kf f sp) (o : Ok X c W k) (hk : kf + 1 ≤ k) (cl : Cls X.K C) (hp : PropOf X.K C m p f) (hc : (PySem.W.clsIn X.K C).isSome = true) (pe : PE X ob ta)
    (hT : ∀ σ H Q, T σ H Q → ta σ H fun x H1 => ∃ a dx us, x = .ref a ∧ H1 a = some (.ins C dx us) ∧ sp [x] H1 Q fun _ _ _ => False)
    (hab : attributeBase ob m X.env (eval ob X.env) = eval ob X.env) : PE X (.Attribute ob m pos) T := by
  refine ⟨fun pins s σ H Q I h => ?_⟩
  refine attr_of hab (thn (pe.run pins s σ H _ I (hT σ H Q h)) fun u s1 ⟨x, H1, I1, rx, a, dx, us, ex, ea, q⟩ => ?_)
  subst ex
  obtain rfl : u = Value.ref a := rx
  obtain ⟨mA, O, _, _, _, _⟩ := ins_get I1.hok ea
  obtain ⟨od, J, _⟩ := O.look
  obtain ⟨rest, hrec⟩ := hp.rec_
  have I2 := I1.tok (s1.toks + 1)
  refine PySem.W.get_bind I1.kIn J (PySem.W.plainGet_of (cl.get m)).1 (PySem.W.findObj_data hc hp.at_ hp.get hp.tak) (PySem.W.plainGet_of (cl.get m)).2 (wpAny_call (PySem.W.prop_get (s := { s1 with toks := s1.toks + 1 }) I1.kIn hrec ?_))
  refine codeAny_mono (F.run X.A.in1 X.stack _ H1 [.ref a] [.ref a] Q _ ((o.room.mono hk).in1) (fun h => show X.A.in1.guards = some [] from o.gd (by omega)) I2.env0.in1 (.cons rfl .nil) q) fun r s' hq => ?_
  cases r with
  | error er =>
    obtain ⟨_, _, _, _, _, _, _, _, _, _, _, _, z⟩ := hq
    exact z.elim
  | ok fl =>
    cases fl with
    | ret u =>
      obtain ⟨v, H', I3, rv, q3⟩ := I2.after hq
      show wpAny _ _ (handedOut u) _ _ _
      rw [PySem.W.handedOut_of (handed_of rv)]
      exact wpAny_pure ⟨v, H', I3, rv, q3⟩
    | next => exact hq.elim
    | brk => exact hq.elim
    | cont => exact hq.elim
/-- no exception leaves -/
def mNoX {α : Type} (f : M α) : M α := fun Δ => match f Δ with
  | .ok a Δ' => .ok a Δ'
  | _ => .bad
theorem Post.noX {α : Type} {x : Sx} {σ : L2.St} {H : Hp} {ok : α → SD → Prop} {f : M α} {Δ : SD} (h : Post c W x σ H ok (mNoX f Δ)) : Post c noW x σ H ok (f Δ) := by
  unfold mNoX at h
  cases e : f Δ with
  | ok a Δ' => rw [e] at h; exact h
  | ex n d Δ' => rw [e] at h; exact h.elim
  | bad => rw [e] at h; exact h.elim
def chkC (n : Str) : D → Bool
  | .obj k _ => decide (k = n)
  | _ => false
theorem chkC_some {d : D} {x : Sx} {σ : L2.St} {H : Hp} {Δ : SD} {α : Type} {okr : α → SD → Prop} {r : Unit → M α} (q : Post c W x σ H okr (mBind (mOpt (if chkC n d = true then some () else none)) r Δ)) : (∃ fs, d = .obj n fs) ∧ Post c W x σ H okr (r () Δ) := by
  by_cases h : chkC n d = true
  case neg => rw [if_neg h] at q; exact q.elim
  rw [if_pos h] at q
  refine ⟨?_, q⟩
  cases d <;> first | cases h | skip
  rename_i k fs
  have h' : k = n := of_decide_eq_true h
  exact ⟨fs, by rw [h']⟩
def mProp (n : Str) (io : List Nat) (g : List D → RD) (fo : M AK) : M D := mBind fo fun a => mBind (mGet a) fun d => mBind (mOpt (if chkC n d = true then some () else none)) fun _ => mBind (mNoX (callRes 1 io g [a])) fun r => mPure r.1
def mPropN (n : Str) (io : List Nat) (g : List D → RD) (fo : M AK) : M D := mBind fo fun a => mBind (mGet a) fun d => mBind (mOpt (if chkC n d = true then some () else none)) fun _ => mBind (mNoX (callRes 1 io g [a])) fun r => if r.2 = true then mPure r.1 else mBad
theorem prop_ask {x : Sx} {σ : L2.St} {H : Hp} {Δ : SD} {Q : VK} {ta : TE} {okr : Sx → Hp → D → SD → Prop} {kk : D × Bool → M D} (o : Ok X c W k) (hC : X.mg n = some (.ref C)) (so : SoundO c W ta fo) (sr : SR c x σ H Δ)
    (q : Post c W x σ H (okr x H) (mBind fo (fun a => mBind (mGet a) fun d => mBind (mOpt (if chkC n d = true then some () else none)) fun _ => mBind (mNoX (callRes 1 io g [a])) kk) Δ))
    (step : ∀ {x x1 H H1} (d : D) (Δ : SD), Kp x H x1 H1 → okr x H d Δ → okr x1 H1 d Δ)
    (hV : ∀ {x H d Δ2}, Post c W x σ H (okr x H) (kk (d, false) Δ2) → okV c x σ H Q d Δ2) (hF : ∀ {x H d Δ2}, Post c W x σ H (okr x H) (kk (d, true) Δ2) → okF c x σ H Q d Δ2) :
    ta σ H fun v H1 => ∃ a dx us, v = .ref a ∧ H1 a = some (.ins C dx us) ∧ spD ⟨X.K, X.mg, c.T⟩ 1 io g [v] H1 Q fun _ _ _ => False := by
  refine so x σ H Δ _ sr (q.bind fun a Δ1 q1 v x1 H1 k1 sr1 h1 => ?_)
  obtain ⟨d, r1, q2⟩ := Post.get sr1 h1 (q1.step k1 fun a Δ => step a Δ k1)
  obtain ⟨⟨fl, rfl⟩, q3⟩ := chkC_some q2
  obtain ⟨b, C', dx, us, rfl, hm, ok, hh, rf⟩ := rep1_obj r1
  rw [o.hmg, hC] at hm
  cases hm
  exact ⟨b, dx, us, rfl, hh, call_sp (W := noW) (ps := [n]) (as := [a]) (gc_eq o) sr1 ⟨_, _, rfl, h1, rfl⟩ (Post.noX (post_call q3)) (fun d Δ2 z => hV z) (fun d Δ2 z => hF z)⟩
section
variable {x0 : Str} (F : PrD X.prog X.w X.K X.mg X.base c.T n m kf [x0] io g) (o : Ok X c W k) (hk : kf + 1 ≤ k) (ho : DO X c W ob fo) (hab : attributeBase ob m X.env (eval ob X.env) = eval ob X.env)
include F o hk ho hab
theorem de_prop : DE X c W (.Attribute ob m pos) (mProp n io g fo) := by
  obtain ⟨C, p, f, fd, hC, cl, hp, hc, hb, dfn⟩ := F.out
  obtain ⟨ta, pa, sa⟩ := ho.out
  refine DE.of (pe_dprop (dfn.raw hb) o hk cl hp hc pa (fun σ H Q ⟨x, Δ, sr, q⟩ => ?_) hab)
  exact prop_ask (okr := fun x H => okV c x σ H Q) o hC sa sr q (fun d Δ k z => okV.step k z) (fun z => z) (fun z => okF.okV z)
theorem df_prop : DF X c W (.Attribute ob m pos) (mPropN n io g fo) := by
  obtain ⟨C, p, f, fd, hC, cl, hp, hc, hb, dfn⟩ := F.out
  obtain ⟨ta, pa, sa⟩ := ho.out
  refine DF.of (pe_dprop (dfn.raw hb) o hk cl hp hc pa (fun σ H Q ⟨x, Δ, sr, q⟩ => ?_) hab)
  exact prop_ask (okr := fun x H => okF c x σ H Q) o hC sa sr q (fun d Δ k z => okF.step k z) (fun z => z.elim) (fun z => z)
end
end
end DL

namespace DL
open PySem L2 PySem.Spec PyProof.Rows

theorem make_guards {A : Around} {C : Addr} {us : List Value} {kw : List (Str × Value)} (h : A.guards = some []) : (A.under (.builtin "type.__call__" ⟨.ref C :: us, kw⟩)).guards = some [] := by
  simp [Around.under, Code.guards, Code.isGuard, guardIds, pushGuards, h]
structure InD (P : Program) (w : World) (K : PySem.W.Frag) (mg : Str → Option Value) (base : Heap) (T : List (Addr × Str)) (n : Str) (k : Nat) (ps : List Str) (g : List D → RD) : Prop where
  out : ∃ (C f : Addr) (fd : FuncData), mg n = some (.ref C) ∧ ObjK K C ∧ Mk K C f ∧ Binds K fd ps [] ∧ DFn P w K mg base T k f fd ps [0] g
section
variable {c : Ct} {x : Sx} {σ : L2.St} {H H1 H2 : Hp} {Δ : SD} {p : Addr} {o : D} {Av2 : Addr → Prop}
/-- the state behind a call that was lent a new object -/
theorem SR.made (s : SR c x σ H Δ) (hp : H p = none) (ex : Ex H H1) (hn : H1 p ≠ none) (e : EndC c.toGc (fun a => x.Av a ∧ a ≠ p) H1 [(0, p)] Av2 H2 [o]) :
    Kp x H ⟨Av2, x.ρ⟩ H2 ∧ SR c ⟨Av2, x.ρ⟩ σ H2 Δ ∧ ¬ Av2 p ∧ Own c.toGc Av2 H2 p o ∧ ∀ i, x.ρ i ≠ some p := by
  have ne : ∀ {a : Addr} {u : HO}, H a = some u → a ≠ p := fun h z => by rw [z, hp] at h; cases h
  have nr : ∀ i, x.ρ i ≠ some p := fun i h => (s.ow i p h).2.1 hp
  have kk : ∀ a u, H a = some u → Fx u → H2 a = some u := fun a u h f => e.keep a u (ex a u h) f fun q hq z => by
    rw [List.mem_singleton] at hq
    rw [hq] at z
    exact ne h z.symm
  have tr : ∀ a, H2 a = none → H a = none := fun a h => ex.none (e.trk a h)
  have kp : Keep c.toGc x.Av Av2 H H2 := ⟨fun a u ha f h => by
      rcases h with h | ⟨o, h⟩
      · exact .inl (kk a _ h f)
      · exact .inr ⟨o, kk a _ h fx_frz⟩, fun a v ha h => kk a _ h fx_lst, fun a v ha h => kk a _ h fx_tup, fun a C dx us ha h => kk a _ h fx_ins,
      fun a u ha h => by
        have q : ∃ u', H a = some u' := by
          rcases h with h | ⟨o, h⟩
          · exact ⟨_, h⟩
          · exact ⟨_, h⟩
        obtain ⟨u', q⟩ := q
        exact e.av a ⟨ha, ne q⟩ (by rw [ex a _ q]; intro z; cases z)⟩
  obtain ⟨nav, ow⟩ : ¬ Av2 p ∧ Own c.toGc Av2 H2 p o := by
    cases e.own with
    | cons h _ => exact h
  refine ⟨⟨fun a u h f n => kk a u h f, tr, fun i a h => .inl ⟨i, h⟩, fun a h n => ?_, fun a h => .inl (e.sub a h).1⟩, ?_, nav, ow, nr⟩
  · cases q : H a with
    | none => exact absurd q n
    | some u => exact e.av a ⟨h, ne q⟩ (by rw [ex a _ q]; intro z; cases z)
  exact {
    len := s.len
    base := fun a u h f n => kk a u (s.base a u h f n) f
    tab := e.tab
    trk := fun a h => s.trk a (tr a h)
    fr := e.fr
    av := fun a h => s.av a (e.sub a h).1
    a0 := s.a0
    ow := fun i a h => ⟨fun q => (s.ow i a h).1 (e.sub a q).1, fun q => (s.ow i a h).2.1 (tr a q), (s.ow i a h).2.2⟩
    inj := s.inj
    slot := fun i => by
      have sl := s.slot i
      revert sl
      cases Δ[i]? with
      | none => intro _; trivial
      | some z =>
        cases z with
        | un => intro _; trivial
        | sh d => exact fun ⟨v, h1, h2⟩ => ⟨v, h1, h2.keep kp⟩
        | ow d =>
          rintro ⟨a, h0, h1, h2⟩
          refine ⟨a, h0, h1, ?_⟩
          show Own c.toGc Av2 H2 a d
          cases d <;> first
            | exact h2.elim
            | (obtain ⟨us, q1, q2⟩ := h2; exact ⟨us, kk _ _ q1 (by first | exact fx_lst | exact fx_dK | exact fx_dT | exact fx_nd), q2.keep kp⟩)
            | (obtain ⟨C, dx, us, q0, q1, q2⟩ := h2; exact ⟨C, dx, us, q0, kk _ _ q1 fx_ins, q2.keep kp⟩)
    ios := s.ios }
theorem argOk_lend {G : Gc} {Av Av' : Addr → Prop} {H H' : Hp} {p : Addr} (k : Keep G Av Av' H H') : ∀ {ds : List D} {vs : List V} {j : Nat}, ArgOk G Av H [] (j + 1) ds vs → ArgOk G Av' H' [(0, p)] (j + 1) ds vs
  | [], vs, j, h => h
  | d :: ds, vs, j, ⟨v, r, e, h1, h2⟩ => ⟨v, r, e, by
      rw [if_neg (by simp)] at h1 ⊢
      exact h1.keep k, argOk_lend k h2⟩
end
def mMakeRes (n : Str) (np : Nat) (g : List D → RD) (as : List AK) : M D := fun Δ => if as.length + 1 = np then (match callArgs [] Δ 1 as with
  | some r => (match g (.obj n [] :: r.1) with
    | .ok .non false [o] => .ok o Δ
    | .ex m d [_] => .ex m d Δ
    | _ => .bad)
  | none => .bad) else .bad
def mMake (n : Str) (np : Nat) (g : List D → RD) (fs : M (List AK)) : M D := mBind fs fun as => mMakeRes n np g as
theorem callArgs_nil {Δ : SD} : ∀ {as : List AK} {j : Nat} {ds : List D} {ls : List (Nat × Nat)}, callArgs [] Δ j as = some (ds, ls) → ls = []
  | [], j, ds, ls, h => by cases h; rfl
  | a :: as, j, ds, ls, h => by
    unfold callArgs at h
    rw [Option.bind_eq_some_iff] at h
    obtain ⟨⟨ds', ls'⟩, h3, h4⟩ := h
    have e := callArgs_nil h3
    subst e
    rw [if_neg (by simp)] at h4
    cases a with
    | v d => cases h4; rfl
    | s i =>
      dsimp only at h4
      split at h4
      · cases h4; rfl
      · cases h4
section
variable {X : Cx} {c : Ct} {W : WX} {k kf : Nat} {C f : Addr} {ps : List Str} {g : List D → RD} {n : Str} {e : Expr} {es : List Expr} {fs : M (List AK)} {p pos : Pos}
/-- what making asks -/
theorem make_sp {x : Sx} {σ : L2.St} {H : Hp} {Δ : SD} {Q : VK} {as : List AK} {vs : List V} (hG : c.toGc = ⟨X.K, X.mg, c.T⟩) (hC : X.mg n = some (.ref C)) (ok : ObjK X.K C) (sr : SR c x σ H Δ) (ha : AKsOk c x σ H as vs)
    (q : Post c W x σ H (okF c x σ H Q) (mMakeRes n ps.length g as Δ)) :
    ∀ a dx, H a = none → H dx = none → dx ≠ a → spD ⟨X.K, X.mg, c.T⟩ ps.length [0] g (.ref a :: vs) (upd (upd H dx (.own a)) a (.ins C dx [])) (fun v H2 => v = .non ∧ Q (.ref a) H2) (fun cls d H' => W cls d σ H') := by
  intro a dx ha0 hd0 hne
  have ex : Ex H (upd (upd H dx (.own a)) a (.ins C dx [])) := (Ex.new hd0).trans (Ex.new (by rw [upd_ne (Ne.symm hne)]; exact ha0))
  have hn : (upd (upd H dx (.own a)) a (.ins C dx [])) a ≠ none := by rw [upd_same]; intro z; cases z
  obtain ⟨k1, s1, h0, nr⟩ := sr.alloc ha0 ex
  have s1 := s1 hn
  unfold mMakeRes at q
  by_cases hl : as.length + 1 = ps.length
  case neg => rw [if_neg hl] at q; exact q.elim
  rw [if_pos hl] at q
  cases ec : callArgs [] Δ 1 as with
  | none => rw [ec] at q; exact q.elim
  | some r =>
    obtain ⟨ds, ls⟩ := r
    rw [ec] at q
    have el := callArgs_nil ec
    subst el
    have ao := args_ok (io := []) (L := []) sr rfl ec (fun _ h => h) ha
    rw [← hG]
    refine ⟨fun b => x.Av b ∧ b ≠ a, .obj n [] :: ds, [(0, a)], by rw [List.length_cons, aks_len ha, hl], s1.fr, s1.tab, rfl, by simp, by simp, fun q hq => ?_, fun i hi => ?_, ?_, ?_⟩
    · rw [List.mem_singleton] at hq
      subst hq
      exact ⟨fun z => z.2 rfl, hn⟩
    · rw [List.mem_singleton] at hi
      omega
    · refine ⟨.ref a, vs, rfl, ?_, argOk_lend (sr.keep k1) ao⟩
      rw [if_pos (by simp)]
      refine ⟨a, by simp, rfl, fun z => z.2 rfl, C, dx, [], ⟨?_, ?_⟩, upd_same, by unfold RepF; rfl⟩
      · rw [hG]; exact hC
      · rw [hG]; exact ok
    · dsimp only at q
      cases eg : g (.obj n [] :: ds) with
      | bad => rw [eg] at q; exact q.elim
      | ex m d es =>
        rw [eg] at q
        match es, q with
        | [_], q =>
          intro C' d' Av' H' e xr
          obtain ⟨kp, s2, _, _, _⟩ := sr.made ha0 ex hn e
          exact q C' d' _ H' kp s2 xr
      | ok d fr es =>
        rw [eg] at q
        match d, fr, es, q with
        | .non, false, [o], q =>
          refine ⟨fun _ v Av' H' e r => ?_, fun z => (by cases z)⟩
          obtain ⟨kp, s2, nav, ow, nr2⟩ := sr.made ha0 ex hn e
          refine ⟨by unfold Rep at r; exact r, q a _ H' kp s2 h0 ha0 nav nr2 ow⟩
theorem pe_dmake {t : TA} {T : TE} (F : DRn X.prog X.w X.K X.mg X.base c.T kf f (spD ⟨X.K, X.mg, c.T⟩ ps.length [0] g)) (M : Mk X.K C f) (o : Ok X c W k) (hk : kf + 1 ≤ k) (hg : Gl X n) (hm : X.mg n = some (.ref C)) (pa : PA X (e :: es) t)
    (hT : ∀ σ H Q, T σ H Q → t σ H fun vs H1 => ∀ a dx, H1 a = none → H1 dx = none → dx ≠ a → spD ⟨X.K, X.mg, c.T⟩ ps.length [0] g (.ref a :: vs) (upd (upd H1 dx (.own a)) a (.ins C dx [])) (fun v H2 => v = .non ∧ Q (.ref a) H2) (fun cls d H' => W cls d σ H'))
    (hdb : (n == ("__debug__" : Str)) = false := by decide) (he : starEach (e :: es) X.env = (false, eval e X.env) :: starEach es X.env := by rfl) (hpl : (backTo pos (starEach es X.env)).any (·.1) = false := by rfl) : PE X (.Call (.Name n p) (e :: es) [] pos) T := by
  refine ⟨fun pins s σ H Q I h => ?_⟩
  refine wpAny_Call_Name_kw (ld_glob I hg hm ?_ hdb)
  refine PySem.W.callWith_K (h₀ := X.base) I.ok.mod.kin M.kp (thn (pa.run pos pins s σ H _ I (hT σ H Q h)) fun us s1 ⟨vs, H1, I1, r, q⟩ => ⟨I1.kIn, ?_⟩) he hpl
  show wpAny _ _ (call (.ref C) us) _ _ _
  have hq := q (s1.heap.objs.size + 1) s1.heap.objs.size (I1.hok.fresh (Nat.le_succ _)) (I1.hok.fresh (Nat.le_refl _)) (Nat.ne_of_lt (Nat.lt_succ_self _))
  have I2 := Inv.made (C := C) I1
  have r2 : Vals (V.ref (s1.heap.objs.size + 1) :: vs) (Value.ref (s1.heap.objs.size + 1) :: us) := .cons rfl r
  refine wpAny_call (make_map (f := f) I1.kIn M.makes M.init (beq_iff_eq.mp M.fn) (codeAny_mono (F.run _ X.stack _ _ (Value.ref (s1.heap.objs.size + 1) :: us) _ _ _ ((o.room.mono hk).make C us []) (fun h => make_guards (o.gd (by omega))) (I2.env0.make C us []) r2 hq) fun r s' hq' => ?_))
  cases r with
  | error e => exact o.tk _ _ (XE.of_call I2 (fun _ _ _ z => z) hq')
  | ok fl =>
    cases fl with
    | ret u =>
      obtain ⟨v, H', I3, rv, ev, q3⟩ := I2.after hq'
      subst ev
      exact ⟨rv, ⟨V.ref (s1.heap.objs.size + 1), H', I3, rfl, q3⟩⟩
    | next => exact False.elim hq'
    | brk => exact False.elim hq'
    | cont => exact False.elim hq'
theorem df_make (F : InD X.prog X.w X.K X.mg X.base c.T n kf ps g) (o : Ok X c W k) (hk : kf + 1 ≤ k) (hg : Gl X n) (ha : DA X c W (e :: es) fs)
    (hdb : (n == ("__debug__" : Str)) = false := by decide) (he : starEach (e :: es) X.env = (false, eval e X.env) :: starEach es X.env := by rfl) (hpl : (backTo pos (starEach es X.env)).any (·.1) = false := by rfl) : DF X c W (.Call (.Name n p) (e :: es) [] pos) (mMake n ps.length g fs) := by
  obtain ⟨C, f, fd, hC, ok, mk, hb, dfn⟩ := F.out
  obtain ⟨t, pt, st⟩ := ha.out
  refine DF.of (pe_dmake (dfn.raw hb) mk o hk hg hC pt (fun σ H Q ⟨x, Δ, sr, q⟩ => ?_) hdb he hpl)
  exact st x σ H Δ _ sr (Post.bind q fun as Δ2 q4 vs x2 H2 k2 sr2 h2 => make_sp (gc_eq o) hC ok sr2 h2 (q4.step k2 fun a Δ z => okF.step k2 z))
end

/-! ### the class in a local name -/
def mMakeL (n : Str) (np : Nat) (g : List D → RD) (i : Nat) (fs : M (List AK)) : M D := mBind (mSlotC i n) fun _ => mBind fs fun as => mMakeRes n np g as
where mSlotC (i : Nat) (n : Str) : M Unit := fun Δ => match Δ[i]? with
  | some (.sh (.cls m)) => if m = n then .ok () Δ else .bad
  | _ => .bad
section
variable {X : Cx} {c : Ct} {W : WX} {k kf i : Nat} {C f : Addr} {ps : List Str} {g : List D → RD} {n x : Str} {e : Expr} {es : List Expr} {fs : M (List AK)} {p pos : Pos}
theorem run_dmake {pins : List (Addr × Obj)} {σ : L2.St} {H1 : Hp} {s1 : Shared} {Q : VK} {us : List Value} {vs : List V} (F : DRn X.prog X.w X.K X.mg X.base c.T kf f (spD ⟨X.K, X.mg, c.T⟩ ps.length [0] g)) (M : Mk X.K C f) (o : Ok X c W k) (hk : kf + 1 ≤ k) (I1 : Inv X pins σ H1 s1) (r : Vals vs us)
    (q : ∀ a dx, H1 a = none → H1 dx = none → dx ≠ a → spD ⟨X.K, X.mg, c.T⟩ ps.length [0] g (.ref a :: vs) (upd (upd H1 dx (.own a)) a (.ins C dx [])) (fun v H2 => v = .non ∧ Q (.ref a) H2) (fun cls d H' => W cls d σ H')) :
    wpAny (model X.prog X.w) X.A (call (.ref C) us) (EP X pins σ Q) X.xe s1 := by
  have hq := q (s1.heap.objs.size + 1) s1.heap.objs.size (I1.hok.fresh (Nat.le_succ _)) (I1.hok.fresh (Nat.le_refl _)) (Nat.ne_of_lt (Nat.lt_succ_self _))
  have I2 := Inv.made (C := C) I1
  have r2 : Vals (V.ref (s1.heap.objs.size + 1) :: vs) (Value.ref (s1.heap.objs.size + 1) :: us) := .cons rfl r
  refine wpAny_call (make_map (f := f) I1.kIn M.makes M.init (beq_iff_eq.mp M.fn) (codeAny_mono (F.run _ X.stack _ _ (Value.ref (s1.heap.objs.size + 1) :: us) _ _ _ ((o.room.mono hk).make C us []) (fun h => make_guards (o.gd (by omega))) (I2.env0.make C us []) r2 hq) fun r s' hq' => ?_))
  cases r with
  | error e => exact o.tk _ _ (XE.of_call I2 (fun _ _ _ z => z) hq')
  | ok fl =>
    cases fl with
    | ret u =>
      obtain ⟨v, H', I3, rv, ev, q3⟩ := I2.after hq'
      subst ev
      exact ⟨rv, ⟨V.ref (s1.heap.objs.size + 1), H', I3, rfl, q3⟩⟩
    | next => exact False.elim hq'
    | brk => exact False.elim hq'
    | cont => exact False.elim hq'
theorem df_makeL (F : InD X.prog X.w X.K X.mg X.base c.T n kf ps g) (o : Ok X c W k) (hk : kf + 1 ≤ k) (hN : X.N[i]? = some x) (hv : Vis X.env.scope x) (ha : DA X c W (e :: es) fs)
    (hdb : (x == ("__debug__" : Str)) = false := by decide) (hcd : (x == ("__classdict__" : Str)) = false := by decide) (he : starEach (e :: es) X.env = (false, eval e X.env) :: starEach es X.env := by rfl) (hpl : (backTo pos (starEach es X.env)).any (·.1) = false := by rfl) : DF X c W (.Call (.Name x p) (e :: es) [] pos) (mMakeL n ps.length g i fs) := by
  obtain ⟨C, f, fd, hC, ok, mk, hb, dfn⟩ := F.out
  obtain ⟨t, pt, st⟩ := ha.out
  refine DF.of ⟨fun pins s σ H Q I ⟨y, Δ, sr, q⟩ => ?_⟩
  have q' : Post c W y σ H (okF c y σ H Q) (mBind (mMakeL.mSlotC i n) (fun _ => mBind fs fun as => mMakeRes n ps.length g as) Δ) := q
  unfold mBind at q'
  have sl := sr.slot i
  unfold mMakeL.mSlotC at q'
  revert q' sl
  cases Δ[i]? with
  | none => intro q'; exact q'.elim
  | some z =>
    cases z with
    | un => intro q'; exact q'.elim
    | ow d => intro q'; exact q'.elim
    | sh d =>
      cases d <;> first | (intro q'; exact q'.elim) | skip
      rename_i m
      dsimp only
      by_cases hmn : m = n
      case neg => rw [if_neg hmn]; intro q'; exact q'.elim
      rw [if_pos hmn]
      subst hmn
      rintro q' ⟨v, hσ, rv⟩
      unfold Rep at rv
      obtain ⟨C', hC', rfl⟩ := rv
      rw [o.hmg, hC] at hC'
      cases hC'
      refine wpAny_Call_Name_kw (thn ((pe_var (pos := p) (i := i) hN hv hdb hcd).run pins s σ H (fun v H1 => v = .ref C ∧ H1 = H) I ⟨.ref C, hσ, rfl, rfl⟩) fun u s1 ⟨v, H1, I1, r1, ev, eH⟩ => ?_)
      subst ev
      rw [eH] at I1
      cases r1
      refine PySem.W.callWith_K (h₀ := X.base) I.ok.mod.kin mk.kp (thn (pt.run pos pins s1 σ H _ I1 (st y σ H Δ _ sr (Post.bind q' fun as Δ2 q4 vs x2 H2 k2 sr2 h2 => make_sp (gc_eq o) hC ok sr2 h2 (q4.step k2 fun a Δ z => okF.step k2 z)))) fun us s2 ⟨vs, H2, I2, r, q⟩ => ⟨I2.kIn, ?_⟩) he hpl
      exact run_dmake (dfn.raw hb) mk o hk I2 r q
end

/-! ### class methods, static methods -/
structure CmD (P : Program) (w : World) (K : PySem.W.Frag) (mg : Str → Option Value) (base : Heap) (T : List (Addr × Str)) (n m : Str) (k : Nat) (ps : List Str) (io : List Nat) (g : List D → RD) : Prop where
  out : ∃ (C p f : Addr) (mc : Value) (fd : FuncData), mg n = some (.ref C) ∧ ClX.CRead K C mc ∧ ClX.CMet K C mc m p f ∧ Binds K fd ps [] ∧ DFn P w K mg base T k f fd ps io g
/-- C.m is a static method: its record at p, its def at g -/
structure SMet (K : PySem.W.Frag) (C : Addr) (mc : Value) (m : Str) (p g : Addr) : Prop where
  at_ : PySem.W.findCls K (.ref C) mc m = some (.get (.builtin "staticmethod.__get__") (.ref p) .none (.ref C))
  rc : ∃ rest, PySem.W.recIn K p "staticmethod" = some (.ref g :: rest)
  kp : PySem.W.keepIn K (.ref g) = true
structure SmD (P : Program) (w : World) (K : PySem.W.Frag) (mg : Str → Option Value) (base : Heap) (T : List (Addr × Str)) (n m : Str) (k : Nat) (ps : List Str) (io : List Nat) (g : List D → RD) : Prop where
  out : ∃ (C p f : Addr) (mc : Value) (fd : FuncData), mg n = some (.ref C) ∧ ClX.CRead K C mc ∧ SMet K C mc m p f ∧ Binds K fd ps [] ∧ DFn P w K mg base T k f fd ps io g
section
variable {X : Cx} {c : Ct} {W : WX} {k kf : Nat} {C f pr : Addr} {mc : Value} {ps : List Str} {io : List Nat} {g : List D → RD} {n m : Str} {e : Expr} {es : List Expr} {fs : M (List AK)} {p pos apos : Pos} {pl : Sem Bool}
theorem pe_dcm {sp : Sp} {t : TA} {T : TE} (F : DRn X.prog X.w X.K X.mg X.base c.T kf f sp) (o : Ok X c W k) (hk : kf ≤ k) (hg : Gl X n) (hC : X.mg n = some (.ref C)) (r : ClX.CRead X.K C mc) (cm : ClX.CMet X.K C mc m pr f) (pa : PA X (e :: es) t)
    (hT : ∀ σ H Q, T σ H Q → t σ H fun vs H2 => sp (.ref C :: vs) H2 Q fun cls d H' => W cls d σ H') (hdb : (n == ("__debug__" : Str)) = false := by decide)
    (hst : starEach (e :: es) X.env = (false, eval e X.env) :: starEach es X.env := by rfl) (hpl : (backTo pos (starEach es X.env)).any (·.1) = false := by rfl)
    (ht : eval (.Call (.Attribute (.Name n p) m apos) (e :: es) [] pos) X.env = (do
      let ov ← eval (.Name n p) X.env
      standAt apos.atName
      let (f, first) ← holding [ov] (getMethod ov m pl)
      callWith pos f first (backTo pos (starEach (e :: es) X.env)) (backToKw pos (keywordEach [] X.env))) := by rfl) : PE X (.Call (.Attribute (.Name n p) m apos) (e :: es) [] pos) T := by
  refine ⟨fun pins s σ H Q I h => ?_⟩
  refine PySem.W.methodCall_KW (pl := pl) (ld_glob I hg hC ?_ hdb) ht
  have I1 := I.tok s.toks
  refine ClX.getmethcm_ok I r cm fun s2 I2 => ?_
  refine ClX.callwith_cm I2 (ClX.base_none I (Nat.le_refl _)) cm.fi (thn (pa.run pos _ s2 σ H _ I2 (hT σ H Q h)) fun us s3 ⟨vs, H2, I3, rv, q2⟩ => ⟨⟨ClX.pin_at I3, I3.kIn⟩, ?_⟩) hst hpl
  refine thn (wpAny_call (PySem.W.method_call (ClX.pin_at I3) (code_drn (us := .ref C :: us) (vs := .ref C :: vs) F o (o.room.mono hk) (fun h => o.gd (by omega)) I3.env0 I3 (.cons rfl rv) q2))) fun _ _ y => ClX.unpinE y
theorem pe_dsm {sp : Sp} {t : TA} {T : TE} (F : DRn X.prog X.w X.K X.mg X.base c.T kf f sp) (o : Ok X c W k) (hk : kf ≤ k) (hg : Gl X n) (hC : X.mg n = some (.ref C)) (r : ClX.CRead X.K C mc) (sm : SMet X.K C mc m pr f) (pa : PA X (e :: es) t)
    (hT : ∀ σ H Q, T σ H Q → t σ H fun vs H2 => sp vs H2 Q fun cls d H' => W cls d σ H') (hdb : (n == ("__debug__" : Str)) = false := by decide)
    (hst : starEach (e :: es) X.env = (false, eval e X.env) :: starEach es X.env := by rfl) (hpl : (backTo pos (starEach es X.env)).any (·.1) = false := by rfl)
    (ht : eval (.Call (.Attribute (.Name n p) m apos) (e :: es) [] pos) X.env = (do
      let ov ← eval (.Name n p) X.env
      standAt apos.atName
      let (f, first) ← holding [ov] (getMethod ov m pl)
      callWith pos f first (backTo pos (starEach (e :: es) X.env)) (backToKw pos (keywordEach [] X.env))) := by rfl) : PE X (.Call (.Attribute (.Name n p) m apos) (e :: es) [] pos) T := by
  refine ⟨fun pins s σ H Q I h => ?_⟩
  refine PySem.W.methodCall_KW (pl := pl) (ld_glob I hg hC ?_ hdb) ht
  obtain ⟨rest, hp⟩ := sm.rc
  refine PySem.W.method_cls I.kIn r.ga (PySem.W.cls_bind I.kIn r.rd sm.at_ (wpAny_call (PySem.W.sm_get (s := { s with toks := s.toks + 1 }) I.kIn hp (PySem.W.handed_on rfl ?_))))
  have I2 := I.tok (s.toks + 1)
  refine PySem.W.callWith_K (h₀ := X.base) I.ok.mod.kin sm.kp (thn (pa.run pos _ _ σ H _ I2 (hT σ H Q h)) fun us s3 ⟨vs, H2, I3, rv, q2⟩ => ⟨I3.kIn, ?_⟩) hst hpl
  exact run_drn F o hk I3 rv q2
theorem pe_dsm0 {sp : Sp} {T : TE} (F : DRn X.prog X.w X.K X.mg X.base c.T kf f sp) (o : Ok X c W k) (hk : kf ≤ k) (hg : Gl X n) (hC : X.mg n = some (.ref C)) (r : ClX.CRead X.K C mc) (sm : SMet X.K C mc m pr f)
    (hT : ∀ σ H Q, T σ H Q → sp [] H Q fun cls d H' => W cls d σ H') (hdb : (n == ("__debug__" : Str)) = false := by decide)
    (ht : eval (.Call (.Attribute (.Name n p) m apos) [] [] pos) X.env = (do
      let ov ← eval (.Name n p) X.env
      standAt apos.atName
      let (f, first) ← holding [ov] (getMethod ov m pl)
      callWith pos f first (backTo pos (starEach [] X.env)) (backToKw pos (keywordEach [] X.env))) := by rfl) : PE X (.Call (.Attribute (.Name n p) m apos) [] [] pos) T := by
  refine ⟨fun pins s σ H Q I h => ?_⟩
  refine PySem.W.methodCall_KW (pl := pl) (ld_glob I hg hC ?_ hdb) ht
  obtain ⟨rest, hp⟩ := sm.rc
  refine PySem.W.method_cls I.kIn r.ga (PySem.W.cls_bind I.kIn r.rd sm.at_ (wpAny_call (PySem.W.sm_get (s := { s with toks := s.toks + 1 }) I.kIn hp (PySem.W.handed_on rfl ?_))))
  have I2 := I.tok (s.toks + 1)
  exact PySem.W.callWith_K0 I2.kIn sm.kp (run_drn (us := []) F o hk I2 .nil (hT σ H Q h))
theorem aks_cls {x : Sx} {σ : L2.St} {H : Hp} {as : List AK} {vs : List V} (o : Ok X c W k) (hC : X.mg n = some (.ref C)) (h : AKsOk c x σ H as vs) : AKsOk c x σ H (.v (.cls n) :: as) (.ref C :: vs) := ⟨_, _, rfl, by show Rep _ _ _ _ _; unfold Rep; exact ⟨C, by rw [o.hmg]; exact hC, rfl⟩, h⟩
def mCm (n : Str) (np : Nat) (io : List Nat) (g : List D → RD) (fs : M (List AK)) : M D := mBind fs fun as => mBind (callRes np io g (.v (.cls n) :: as)) fun r => mPure r.1
def mCmN (n : Str) (np : Nat) (io : List Nat) (g : List D → RD) (fs : M (List AK)) : M D := mBind fs fun as => mBind (callRes np io g (.v (.cls n) :: as)) fun r => if r.2 = true then mPure r.1 else mBad
section
variable (F : CmD X.prog X.w X.K X.mg X.base c.T n m kf ps io g) (o : Ok X c W k) (hk : kf ≤ k) (hg : Gl X n)
include F o hk hg
theorem de_cm (ha : DA X c W (e :: es) fs) (hdb : (n == ("__debug__" : Str)) = false := by decide) (hst : starEach (e :: es) X.env = (false, eval e X.env) :: starEach es X.env := by rfl) (hpl : (backTo pos (starEach es X.env)).any (·.1) = false := by rfl)
    (ht : eval (.Call (.Attribute (.Name n p) m apos) (e :: es) [] pos) X.env = (do
      let ov ← eval (.Name n p) X.env
      standAt apos.atName
      let (f, first) ← holding [ov] (getMethod ov m pl)
      callWith pos f first (backTo pos (starEach (e :: es) X.env)) (backToKw pos (keywordEach [] X.env))) := by rfl) : DE X c W (.Call (.Attribute (.Name n p) m apos) (e :: es) [] pos) (mCm n ps.length io g fs) := by
  obtain ⟨C, pr, f, mc, fd, hC, r, cm, hb, dfn⟩ := F.out
  obtain ⟨t, pt, st⟩ := ha.out
  refine DE.of (pe_dcm (dfn.raw hb) o hk hg hC r cm pt (fun σ H Q ⟨x, Δ, sr, q⟩ => ?_) hdb hst hpl ht)
  refine st x σ H Δ _ sr (Post.bind q fun as Δ2 q4 vs x2 H2 k2 sr2 h2 => ?_)
  exact call_sp (gc_eq o) sr2 (aks_cls o hC h2) (post_call (q4.step k2 fun a Δ z => okV.step k2 z)) (fun d Δ2 z => z) (fun d Δ2 z => okF.okV z)
theorem df_cm (ha : DA X c W (e :: es) fs) (hdb : (n == ("__debug__" : Str)) = false := by decide) (hst : starEach (e :: es) X.env = (false, eval e X.env) :: starEach es X.env := by rfl) (hpl : (backTo pos (starEach es X.env)).any (·.1) = false := by rfl)
    (ht : eval (.Call (.Attribute (.Name n p) m apos) (e :: es) [] pos) X.env = (do
      let ov ← eval (.Name n p) X.env
      standAt apos.atName
      let (f, first) ← holding [ov] (getMethod ov m pl)
      callWith pos f first (backTo pos (starEach (e :: es) X.env)) (backToKw pos (keywordEach [] X.env))) := by rfl) : DF X c W (.Call (.Attribute (.Name n p) m apos) (e :: es) [] pos) (mCmN n ps.length io g fs) := by
  obtain ⟨C, pr, f, mc, fd, hC, r, cm, hb, dfn⟩ := F.out
  obtain ⟨t, pt, st⟩ := ha.out
  refine DF.of (pe_dcm (dfn.raw hb) o hk hg hC r cm pt (fun σ H Q ⟨x, Δ, sr, q⟩ => ?_) hdb hst hpl ht)
  refine st x σ H Δ _ sr (Post.bind q fun as Δ2 q4 vs x2 H2 k2 sr2 h2 => ?_)
  exact call_sp (gc_eq o) sr2 (aks_cls o hC h2) (post_call (q4.step k2 fun a Δ z => okF.step k2 z)) (fun d Δ2 z => z.elim) (fun d Δ2 z => z)
end
section
variable (F : SmD X.prog X.w X.K X.mg X.base c.T n m kf ps io g) (o : Ok X c W k) (hk : kf ≤ k) (hg : Gl X n)
include F o hk hg
theorem de_sm (ha : DA X c W (e :: es) fs) (hdb : (n == ("__debug__" : Str)) = false := by decide) (hst : starEach (e :: es) X.env = (false, eval e X.env) :: starEach es X.env := by rfl) (hpl : (backTo pos (starEach es X.env)).any (·.1) = false := by rfl)
    (ht : eval (.Call (.Attribute (.Name n p) m apos) (e :: es) [] pos) X.env = (do
      let ov ← eval (.Name n p) X.env
      standAt apos.atName
      let (f, first) ← holding [ov] (getMethod ov m pl)
      callWith pos f first (backTo pos (starEach (e :: es) X.env)) (backToKw pos (keywordEach [] X.env))) := by rfl) : DE X c W (.Call (.Attribute (.Name n p) m apos) (e :: es) [] pos) (mCall ps.length io g fs) := by
  obtain ⟨C, pr, f, mc, fd, hC, r, cm, hb, dfn⟩ := F.out
  obtain ⟨t, pt, st⟩ := ha.out
  refine DE.of (pe_dsm (dfn.raw hb) o hk hg hC r cm pt (fun σ H Q ⟨x, Δ, sr, q⟩ => ?_) hdb hst hpl ht)
  refine st x σ H Δ _ sr (Post.bind q fun as Δ2 q4 vs x2 H2 k2 sr2 h2 => ?_)
  exact call_sp (gc_eq o) sr2 h2 (post_call (q4.step k2 fun a Δ z => okV.step k2 z)) (fun d Δ2 z => z) (fun d Δ2 z => okF.okV z)
theorem df_sm (ha : DA X c W (e :: es) fs) (hdb : (n == ("__debug__" : Str)) = false := by decide) (hst : starEach (e :: es) X.env = (false, eval e X.env) :: starEach es X.env := by rfl) (hpl : (backTo pos (starEach es X.env)).any (·.1) = false := by rfl)
    (ht : eval (.Call (.Attribute (.Name n p) m apos) (e :: es) [] pos) X.env = (do
      let ov ← eval (.Name n p) X.env
      standAt apos.atName
      let (f, first) ← holding [ov] (getMethod ov m pl)
      callWith pos f first (backTo pos (starEach (e :: es) X.env)) (backToKw pos (keywordEach [] X.env))) := by rfl) : DF X c W (.Call (.Attribute (.Name n p) m apos) (e :: es) [] pos) (mCallN ps.length io g fs) := by
  obtain ⟨C, pr, f, mc, fd, hC, r, cm, hb, dfn⟩ := F.out
  obtain ⟨t, pt, st⟩ := ha.out
  refine DF.of (pe_dsm (dfn.raw hb) o hk hg hC r cm pt (fun σ H Q ⟨x, Δ, sr, q⟩ => ?_) hdb hst hpl ht)
  refine st x σ H Δ _ sr (Post.bind q fun as Δ2 q4 vs x2 H2 k2 sr2 h2 => ?_)
  exact call_sp (gc_eq o) sr2 h2 (post_call (q4.step k2 fun a Δ z => okF.step k2 z)) (fun d Δ2 z => z.elim) (fun d Δ2 z => z)
theorem de_sm0 (hdb : (n == ("__debug__" : Str)) = false := by decide)
    (ht : eval (.Call (.Attribute (.Name n p) m apos) [] [] pos) X.env = (do
      let ov ← eval (.Name n p) X.env
      standAt apos.atName
      let (f, first) ← holding [ov] (getMethod ov m pl)
      callWith pos f first (backTo pos (starEach [] X.env)) (backToKw pos (keywordEach [] X.env))) := by rfl) : DE X c W (.Call (.Attribute (.Name n p) m apos) [] [] pos) (mCall ps.length io g mNil) := by
  obtain ⟨C, pr, f, mc, fd, hC, r, cm, hb, dfn⟩ := F.out
  refine DE.of (pe_dsm0 (dfn.raw hb) o hk hg hC r cm (fun σ H Q ⟨x, Δ, sr, q⟩ => ?_) hdb ht)
  exact call_sp (as := []) (gc_eq o) sr rfl (post_call q) (fun d Δ2 z => z) (fun d Δ2 z => okF.okV z)
end
end
end DL

namespace DLE
open PySem PySem.W PySem.Calls PyProof.Rows PySem.HandSPX
section
open Builtin Builtin.ObjectAttr
/-- a built-in exception class that own ones stand on -/
structure ExB (B newId initId : String) (tl : List Value) : Prop where
  bf : ExcBaseFacts B newId initId tl
  sf : ∀ self, refuseLoop self "__setattr__" tl = pure ()
  ob : tl.contains (.type "object") = true
  ty : typeOf (.type B) = pure (.type "type")
  st : Manifest.isStub B = false
  hi : W.handedIn (.builtin initId) = true
/-- own classes, then the built-in one's order -/
def refsT (tl : List Value) : List Value → Bool
  | .ref _ :: r => refsT tl r
  | l => l == tl
theorem refsT_cases (tl : List Value) : ∀ l : List Value, refsT tl l = true → (∃ c r, l = .ref c :: r ∧ refsT tl r = true) ∨ l = tl := fun l e => by
  cases l with
  | nil => exact .inr (beq_iff_eq.mp e)
  | cons a r =>
    cases a <;> first
      | exact .inl ⟨_, _, rfl, e⟩
      | exact .inr (beq_iff_eq.mp e)
variable {B newId initId : String} {tl : List Value}
theorem ExB.pass (x : ExB B newId initId tl) (self : Value) : ∀ l : List Value, refsT tl l = true → refuseLoop self "__setattr__" l = pure ()
  | [], e => by
    rcases refsT_cases tl _ e with ⟨c, r, q, h⟩ | q
    · cases q
    · rw [q]; exact x.sf self
  | a :: l, e => by
    rcases refsT_cases tl _ e with ⟨c, r, q, h⟩ | q
    · obtain ⟨rfl, rfl⟩ := List.cons.inj q
      rw [refuseLoop_ref]
      exact x.pass self l h
    · rw [q]; exact x.sf self
theorem refsT_has (Y : String) : ∀ l : List Value, refsT tl l = true → l.contains (.type Y) = tl.contains (.type Y)
  | [], e => by
    rcases refsT_cases tl _ e with ⟨c, r, q, h⟩ | q
    · cases q
    · rw [q]
  | a :: l, e => by
    rcases refsT_cases tl _ e with ⟨c, r, q, h⟩ | q
    · obtain ⟨rfl, rfl⟩ := List.cons.inj q
      rw [List.contains_cons, refsT_has Y l h]
      rfl
    · rw [q]
theorem ExB.ne (x : ExB B newId initId tl) {l : List Value} (e : refsT tl l = true) : l.isEmpty = false := by
  cases l with
  | nil =>
    have h := x.ob
    rw [← refsT_has "object" [] e] at h
    cases h
  | cons _ _ => rfl
variable {prog : Program} {w : World} {A : Around} {R : Result → Shared → Prop} {hp : Heap} {g : Array GenState} {d : Drawn} {t : Nat} {os : OsState}
/-- the first field of an exception is stored -/
theorem osa1 {K : W.Frag} {name : Str} {tk : Tok} {v : Value} {x C : Addr} {fv : Array Value} {cd : ClassData} (xb : ExB B newId initId tl)
    (X : K.In hp) (hx : hp.get? x = some { cls := .ref C, data := .fields fv }) (hcd : W.clsIn K C = some cd) (hm : refsT tl cd.mro = true) (hh : cd.hasDict = true) (ha : W.findIn K (.ref C) name = some none)
    (hq : ∀ h' tk' dx, (∀ b o, b ≠ x → hp.get? b = some o → h'.get? b = some o) → hp.objs.size ≤ dx → dx ≠ x → h'.get? x = some { cls := .ref C, dict := some dx, data := .fields fv } →
      h'.Ns1 dx (fun y => if y = name then some v else none) → R (.ok (.ret .none)) ⟨h', g, d, tk', os⟩) :
    codeAny (model prog w) A (.call (.builtin "object.__setattr__") ⟨[.ref x, .str name tk, v], []⟩) R ⟨hp, g, d, t, os⟩ := by
  have I : W.InstAt hp x { cls := .ref C, data := .fields fv } C none := ⟨hx, rfl, rfl, trivial⟩
  have SF := F.store_object
  have ne := xb.ne hm
  have hob : cd.mro.contains (.type "object") = true := (refsT_has "object" _ hm).trans xb.ob
  have hxs : x ≠ hp.objs.size := Nat.ne_of_lt (Heap.lt_size hx)
  have sub : W.Looks (model prog w) hp (isInstance (.ref x) (.type "object")) true := I.type.andThen (W.looks_mroIn X (by unfold W.mroIn; rw [hcd, Option.bind_some, if_neg (by rw [ne]; decide), hob]))
  refine codeAny_call_builtin SF.slot.plain SF.entry (@W.check_slot (model prog w) _ _ ⟨hp, g, d, t, os⟩ "object.__setattr__" "object" "__setattr__" (.ref x) [.str name tk, v] [] _ SF.kind SF.split sub (SF.args (.ref x) (.str name tk) v) ?_)
  have hmr : W.Looks (model prog w) hp (mroOf (.ref C)) cd.mro := (W.looks_clsIn X hcd).andThen .now
  have L3 : W.Looks (model prog w) hp (storeTaker? none) none := .now
  have hcls : W.Looks (model prog w) hp (classData C) cd := W.looks_clsIn X hcd
  rw [W.osa_eq, refuse_eq]
  refine wpAny_bind (wpAny_bind (I.type.at (wpAny_bind (hmr.at ?_))))
  rw [xb.pass _ _ hm]
  refine wpAny_pure (wpAny_bind (I.type.at (wpAny_bind ((W.looks_findIn X ha).at (wpAny_bind (L3.at ?_))))))
  show wpAny _ _ (storeInOwnDict (.ref x) (.ref C) (.str name tk) name v false) _ _ _
  obtain ⟨nm, bs, mro, ns, qn, hd, sn, sb, ab, col, del⟩ := cd
  dsimp only at hh
  subst hh
  unfold storeInOwnDict ownDictForStores
  repeat (first | with_reducible refine store_in_new ?_ ?_ | with_reducible refine wpAny_loadPart_at hx ?_ | with_reducible refine hcls.at ?_ | wp_step)
  · exact ⟨_, #[], _, (Heap.get?_update_ne _ _ _ _ hxs.symm).trans (Heap.get?_push_at rfl rfl), rfl, fun e he => absurd he (by simp), fun _ => rfl⟩
  · intro h' tk' hn' hs
    have hx₁ : (hp.push { cls := .type "dict", data := .dict #[] }).get? x = some { cls := .ref C, data := .fields fv } := Heap.get?_push_of_some _ hx
    refine hq h' tk' hp.objs.size (fun b o hb ho => ?_) (Nat.le_refl _) hxs.symm ?_ hn'
    · exact (hs.2 b (Nat.ne_of_lt (Heap.lt_size ho))).trans ((Heap.get?_update_ne _ _ _ _ hb).trans (Heap.get?_push_of_some _ ho))
    · exact (hs.2 x hxs).trans (Heap.get?_update_self _ hx₁ rfl)
end
theorem exb_V : ExB "ValueError" "ValueError.__new__" "ValueError.__init__" veTail := ⟨F.excBase_ValueError, F.store_ValueError.passes, by decide +kernel, by kernel_rfl, by decide +kernel, rfl⟩
theorem exb_R : ExB "RuntimeError" "RuntimeError.__new__" "RuntimeError.__init__" [.type "RuntimeError", .type "Exception", .type "BaseException", .type "object"] := ⟨F.excBase_RuntimeError, F.store_RuntimeError.passes, by decide +kernel, by kernel_rfl, by decide +kernel, rfl⟩
theorem exb_O : ExB "OverflowError" "OverflowError.__new__" "OverflowError.__init__" [.type "OverflowError", .type "ArithmeticError", .type "Exception", .type "BaseException", .type "object"] := ⟨F.excBase_OverflowError, F.store_OverflowError.passes, by decide +kernel, by kernel_rfl, by decide +kernel, rfl⟩
theorem exb_I : ExB "IndexError" "IndexError.__new__" "IndexError.__init__" [.type "IndexError", .type "LookupError", .type "Exception", .type "BaseException", .type "object"] := ⟨F.excBase_IndexError, F.store_IndexError.passes, by decide +kernel, by kernel_rfl, by decide +kernel, rfl⟩
end DLE
namespace DL
open PySem L2 PySem.Spec PyProof.Rows DLE
/-- what the written part says of an own exception class over B -/
structure OexB (K : PySem.W.Frag) (C : Addr) (B newId initId : String) (tl : List Value) : Prop where
  xb : ExB B newId initId tl
  cls : ∃ nm q N bs bm sn sub ab col dd k0 k1 k2 k3 k5, K.lookup C = some (excClassObj nm q C N bs bm true sn sub ab col dd k0 k1 k2 k3 k5 newId) ∧ refsT tl bm = true
  sa : PySem.W.findIn K (.ref C) "__setattr__" = some (some (.builtin "object.__setattr__"))
  exC : PySem.W.subIn K (.ref C) (.type "BaseException") = some true
  tyC : PySem.W.typeIn K (.ref C) = some (.type "type")
  kC : PySem.W.keepIn K (.ref C) = true
section
variable {X : Cx} {pins : List (Addr × Obj)} {σ : L2.St} {H : Hp} {s : Shared} {a C dx : Addr} {f : Str} {y : V} {u : Value} {fs : List (Str × V)} {Q : Unit → Shared → Prop} {E : Value → Shared → Prop} {A : Around} {B newId initId : String} {tl : List Value}
theorem ostB_new (T : OexB X.K C B newId initId tl) (I : Inv X pins σ H s) (e : H a = some (exo a C none)) (hno : PySem.W.findIn X.K (.ref C) f = some none) (ry : RelV y u)
    (h : ∀ dx s', H dx = none → dx ≠ a → Inv X pins σ (upd (upd H dx (exd dx [(f, y)])) a (exo a C (some dx))) s' → Q () s') : wpAny (model X.prog X.w) A (setAttr (.ref a) f u) Q E s := by
  obtain ⟨nm, q, N, bs, bm, sn, sub, ab, col, dd, k0, k1, k2, k3, k5, hC, hbm⟩ := T.cls
  have hcl : PySem.W.clsIn X.K C = some { name := nm, bases := bs, mro := .ref C :: bm, ns := N, qualname := q, hasDict := true, slotNames := sn, subclasses := sub, abstract := ab, collection := col, hasDel := false } := by unfold PySem.W.clsIn; rw [hC] <;> rfl
  obtain ⟨t1, ho⟩ := exo_at I.hok e
  obtain ⟨hp, g, d, t, os⟩ := s
  refine PySem.W.set_plain I.kIn (ox := { cls := .ref C, dict := none, data := .fields #[.ref t1, .none, .none, .none, .bool false, .none] }) (od := none) ⟨ho, rfl, rfl, trivial⟩ T.sa ?_
  refine osa1 T.xb I.kIn ho hcl (show refsT tl (.ref C :: bm) = true from hbm) rfl hno (fun h' tk' dx k dn dne hx hn => ?_)
  have hnd : H dx = none := I.hok.fresh dn
  have nd : ∀ {b : Addr} {o : Obj}, hp.get? b = some o → b ≠ dx := fun {b o} q => Nat.ne_of_lt (Nat.lt_of_lt_of_le (Heap.lt_size q) dn)
  have na : ∀ {b : Addr}, H b = none → b ≠ a := fun {b} n z => by rw [z, e] at n; cases n
  have U : Un X.fs [] H (upd (upd H dx (exd dx [(f, y)])) a (exo a C (some dx))) hp h' := {
    keep := fun b o q n _ _ => k b o (na n) q
    slot := fun b o q n _ _ => ⟨o.slots, k b o (na n) q⟩
    free := fun b o q n _ => by rw [upd_ne (na n), upd_ne (nd q)]; exact n
    there := fun b o q _ => (Classical.em (b = a)).elim (fun hb => ⟨_, hb ▸ hx⟩) fun hb => ⟨o, k b o hb q⟩
    tups := fun b xs q => by rw [upd_ne (at_ne e q exo_tup), upd_ne (ne_of_none q hnd)]; exact q
    frzs := fun b o v q => by rw [upd_ne (at_ne e q exo_frz), upd_ne (ne_of_none q hnd)]; exact q
    tbls := fun b ps q => ⟨#[], by rw [upd_ne (at_ne e q exo_tbl), upd_ne (ne_of_none q hnd), q]; simp⟩ }
  refine h dx _ hnd dne (I.un (t' := tk') U fun b o q => ?_)
  by_cases hb : b = a
  · subst hb
    rw [upd_same] at q
    cases q
    exact exo_ok hx
  · rw [upd_ne hb] at q
    by_cases hd : b = dx
    · subst hd
      rw [upd_same] at q
      cases q
      exact exd_ok hn (relO_put (fs := []) ry fun g => True.intro)
    · rw [upd_ne hd] at q
      exact (I.hok b o q).stay (fun c v hc z => k c v (hc.elim (fun hc => by rw [hc]; exact hb) fun hc => at_ne e hc exo_own) z)
        (fun c hc => by rw [upd_ne (at_ne e hc exo_own), upd_ne (ne_of_none hc hnd)]; exact hc) (fun c xs hc => by rw [upd_ne (at_ne e hc exo_tup), upd_ne (ne_of_none hc hnd)]; exact hc)
theorem oinitB_ok {us : List Value} {Q : Value → Shared → Prop} (T : OexB X.K C B newId initId tl) (I : Inv X pins σ H s) (e : H a = some (exo a C none)) (hl : us.length ≤ sizeLine) (h : ∀ s', Inv X pins σ H s' → Q .none s') :
    wpAny (model X.prog X.w) A (call (.builtin initId) (.ref a :: us)) Q E s := by
  obtain ⟨nm, q, N, bs, bm, sn, sub, ab, col, dd, k0, k1, k2, k3, k5, hC, hbm⟩ := T.cls
  obtain ⟨t1, ho⟩ := exo_at I.hok e
  obtain ⟨hp, g, d, t, os⟩ := s
  refine wpAny_call (PySem.HandSPX.init_base T.xb.bf (fun Y => refsT_has Y bm hbm) (I.kIn _ _ hC) ho hl fun h' t2 k hx => ?_)
  have J := I.write (t' := t) (x := a) (e := a) (o := exo a C none) (by rw [e]; exact True.intro) (.inl rfl) k ⟨_, hx⟩ (exo_ok hx)
  have eu : upd H a (exo a C none) = H := by
    funext b
    by_cases hb : b = a
    · rw [hb, upd_same, e]
    · rw [upd_ne hb]
  rw [eu] at J
  exact h _ J
end

/-! ### readings -/
/-- B.__init__(self, ..) -/
def tBI (K : PySem.W.Frag) (B newId initId : String) (tl : List Value) (ta : TA) : TE := fun σ H Q => ta σ H fun vs H1 => ∃ (a C : Addr) (ws : List V), vs = .ref a :: ws ∧ ws.length ≤ 1000 ∧ OexB K C B newId initId tl ∧ H1 a = some (exo a C none) ∧ Q .non H1
/-- self.f = e, the first field -/
def tOs1 (K : PySem.W.Frag) (B newId initId : String) (tl : List Value) (f : Str) (to te : TE) : TS := fun D σ H => te σ H fun y H1 => to σ H1 fun x H2 => ∃ a C : Addr, x = .ref a ∧ OexB K C B newId initId tl ∧ PySem.W.findIn K (.ref C) f = some none ∧
  H2 a = some (exo a C none) ∧ ∀ dx, H2 dx = none → dx ≠ a → D.nx σ (upd (upd H2 dx (exd dx [(f, y)])) a (exo a C (some dx)))
section
variable {X : Cx} {B newId initId : String} {tl : List Value} {o e : Expr} {es : List Expr} {to te : TE} {ta : TA} {f nm : Str} {p p' p1 p2 pos : Pos} {pl : Sem Bool}
theorem bi_end {pins : List (Addr × Obj)} {σ : L2.St} {H : Hp} {s : Shared} {Q : VK} (I : Inv X pins σ H s) (ha : PA X (e :: es) ta) (h : tBI X.K B newId initId tl ta σ H Q)
    (he : starEach (e :: es) X.env = (false, eval e X.env) :: starEach es X.env) (hpl : (backTo pos (starEach es X.env)).any (·.1) = false) :
    wpAny (model X.prog X.w) X.A (callWith pos (Value.builtin initId) [] (backTo pos (starEach (e :: es) X.env)) []) (EP X pins σ Q) X.xe s := by
  refine PyProof.Rows.callWith_method1 (thn (ha.run pos pins _ σ H _ I h) fun us s1 ⟨vs, H1, I1, r1, a, C, ws, ev, hl, T, ea, q⟩ => ?_) he hpl
  subst ev
  cases r1 with
  | @cons _ u0 _ ur ra rw' =>
    obtain rfl : u0 = Value.ref a := ra
    have hlen : ur.length ≤ sizeLine := by
      rw [← Paired.length rw', sizeLine_eq]
      omega
    exact oinitB_ok T I1 ea hlen fun s' J => ⟨.non, H1, J, rfl, q⟩
/-- .. B the built-in class, by its name -/
theorem pe_bi (xb : ExB B newId initId tl) (hg : Gl X nm) (hm : X.mg nm = none) (hv : bootBuiltins nm = some (.type B)) (vV : PySem.W.findCls X.K (.type B) (.type "type") "__init__" = some (.val (.builtin initId))) (ha : PA X (e :: es) ta)
    (hn : nm ≠ "__name__" := by decide) (hdb : (nm == ("__debug__" : Str)) = false := by decide)
    (hc : eval (.Call (.Attribute (.Name nm p1) "__init__" p2) (e :: es) [] pos) X.env = (do
      let ov ← eval (.Name nm p1) X.env
      standAt p2.atName
      let (f, first) ← holding [ov] (getMethod ov "__init__" pl)
      callWith pos f first (backTo pos (starEach (e :: es) X.env)) (backToKw pos (keywordEach [] X.env))) := by rfl)
    (he : starEach (e :: es) X.env = (false, eval e X.env) :: starEach es X.env := by rfl) (hpl : (backTo pos (starEach es X.env)).any (·.1) = false := by rfl) :
    PE X (.Call (.Attribute (.Name nm p1) "__init__" p2) (e :: es) [] pos) (tBI X.K B newId initId tl ta) := by
  refine ⟨fun pins s σ H Q I h => ?_⟩
  refine PySem.W.methodCall_KW (ld_blt I hg hm hv ?_ hn hdb) hc
  obtain ⟨m, fr⟩ := I.fr
  refine PySem.W.method_type fr I.ok.mod.kin xb.ty xb.st vV xb.hi ?_
  exact bi_end (I.tok _) ha h he hpl
/-- .. an own class that has B's -/
theorem pe_bio {D : Addr} {mc : Value} (xb : ExB B newId initId tl) (hg : Gl X nm) (hm : X.mg nm = some (.ref D)) (r : ClX.CRead X.K D mc) (vV : PySem.W.findCls X.K (.ref D) mc "__init__" = some (.val (.builtin initId))) (ha : PA X (e :: es) ta)
    (hdb : (nm == ("__debug__" : Str)) = false := by decide)
    (hc : eval (.Call (.Attribute (.Name nm p1) "__init__" p2) (e :: es) [] pos) X.env = (do
      let ov ← eval (.Name nm p1) X.env
      standAt p2.atName
      let (f, first) ← holding [ov] (getMethod ov "__init__" pl)
      callWith pos f first (backTo pos (starEach (e :: es) X.env)) (backToKw pos (keywordEach [] X.env))) := by rfl)
    (he : starEach (e :: es) X.env = (false, eval e X.env) :: starEach es X.env := by rfl) (hpl : (backTo pos (starEach es X.env)).any (·.1) = false := by rfl) :
    PE X (.Call (.Attribute (.Name nm p1) "__init__" p2) (e :: es) [] pos) (tBI X.K B newId initId tl ta) := by
  refine ⟨fun pins s σ H Q I h => ?_⟩
  refine PySem.W.methodCall_KW (ld_glob I hg hm ?_ hdb) hc
  refine PySem.W.method_cls I.kIn r.ga (PySem.W.cls_value I.kIn r.rd vV xb.hi ?_)
  exact bi_end (I.tok _) ha h he hpl
theorem ps_os1 (ho : PE X o to) (he : PE X e te) (hs : swapsWith e (some (.Attribute o f p')) pos.line X.env = pure false := by rfl) : PS X (.Assign [.Attribute o f p'] e pos) (tOs1 X.K B newId initId tl f to te) := by
  refine ⟨fun pins s σ H D I h => ?_⟩
  refine plainObj_wpAny_Assign_Attribute (thn (he.run pins s σ H _ I h) fun v s1 ⟨y, H1, I1, r1, q1⟩ => thn (ho.run pins s1 σ H1 _ I1 q1) fun u s2 ⟨x, H2, I2, r2, a, C, ex, T, hno, ea, q⟩ => ?_) hs
  subst ex
  obtain rfl : u = Value.ref a := r2
  exact ostB_new T I2 ea hno r1 fun dx s' n ne J => ⟨σ, _, J, q dx n ne⟩
end

/-! ### the promise of such an __init__; making -/
def spI (K : PySem.W.Frag) (B newId initId : String) (tl : List Value) : Sp := fun vs H Q _ => ∃ a C v, vs = [.ref a, v] ∧ OexB K C B newId initId tl ∧ PySem.W.findIn K (.ref C) "value" = some none ∧ H a = some (exo a C none) ∧ ∀ dx, H dx = none → dx ≠ a → Q .non (upd (upd H dx (exd dx [("value", v)])) a (exo a C (some dx)))
theorem ok_init {P : Program} {w : World} {K : PySem.W.Frag} {mg : Str → Option Value} {base : Heap} {st : Stmt} {qual : Str} {f : Addr} {fd : FuncData} {B newId initId : String} {tl : List Value} (F : Fun K "__init__" qual st f fd) (S : FnScope ["self", "value"] ["self", "value"] (defScope st))
    (hb : ∀ (cd : Value) (A : Around) (outer : List Env) (s : Shared) (H : Hp) (E : XK), PSs (cxOf (L2.CX P w) P w K mg base ["self", "value"] qual (defScope st) f cd A outer s H E) (defBody st) (tSeq (tDrop (tBI K B newId initId tl (tCons (tVar 0) (tCons (tVar 1) tNil)))) (tOs1 K B newId initId tl "value" (tVar 0) (tVar 1)))) :
    FnOk P w K mg base (L2.CX P w) 1 f fd ["self", "value"] (spI K B newId initId tl) := by
  refine F.okX S (fun vs H Q E h => ?_) (fun cd A outer s H vs Q E hr h => ⟨_, hb cd A outer s H E, ?_⟩)
  · obtain ⟨a, C, v, rfl, _⟩ := h
    rfl
  · obtain ⟨a, C, v, rfl, T, hno, ea, q⟩ := h
    exact ⟨.ref a, rfl, v, rfl, a, C, [v], rfl, (show 1 ≤ 1000 by decide), T, ea, v, rfl, .ref a, rfl, a, C, rfl, T, hno, ea, fun dx n ne => q dx n ne⟩
/-- the exception class n, made of one value -/
structure ExD (P : Program) (w : World) (K : PySem.W.Frag) (mg : Str → Option Value) (base : Heap) (n : Str) : Prop where
  out : ∃ (C fI : Addr) (B newId initId : String) (tl : List Value) (fd : FuncData), mg n = some (.ref C) ∧ OexB K C B newId initId tl ∧ PySem.W.findIn K (.ref C) "value" = some none ∧ PySem.W.findIn K (.ref C) "__init__" = some (some (.ref fI)) ∧
    PySem.W.typeIn K (.ref fI) = some (.type "function") ∧ Binds K fd ["self", "value"] [] ∧ FnOk P w K mg base (L2.CX P w) 1 fI fd ["self", "value"] (spI K B newId initId tl)
theorem passes_no {X : Cx} : Passes (L2.CX X.prog X.w) X (fun _ _ _ => False) := fun pins σ H s e s' I h => by
  obtain ⟨_, _, _, _, _, _, _, _, _, _, _, _, z⟩ := h
  exact z.elim
section
variable {X : Cx} {n : Str} {e : Expr} {es : List Expr} {ta : TA} {p pos : Pos}
theorem pmk_D (x : ExD X.prog X.w X.K X.mg X.base n) (hr : Room 2 X.A) (hg : Gl X n) (ha : PA X (e :: es) ta)
    (hdb : (n == ("__debug__" : Str)) = false := by decide) (he : starEach (e :: es) X.env = (false, eval e X.env) :: starEach es X.env := by rfl) (hpl : (backTo pos (starEach es X.env)).any (·.1) = false := by rfl) :
    PMk X (.Call (.Name n p) (e :: es) [] pos) (fun σ H Q => ta σ H fun vs H1 => ∃ v, vs = [v] ∧ ∃ C, X.mg n = some (.ref C) ∧ ∀ d, H1 d = none → Q (.ref C) (some d) (upd H1 d (.xd [("value", v)]))) := by
  intro pins s σ H Q I h
  obtain ⟨C, fI, B, newId, initId, tl, fd, hm, T, hno, iC, tI, hb, F1⟩ := x.out
  obtain ⟨nm, q, N, bs, bm, sn, sub, ab, col, dd, k0, k1, k2, k3, k5, hC, hbm⟩ := T.cls
  refine wpAny_Call_Name_kw (ld_glob I hg hm ?_ hdb)
  refine PySem.W.callWith_K (h₀ := X.base) I.ok.mod.kin T.kC (thn (ha.run pos pins s σ H _ I h) fun us s1 ⟨vs, H1, I1, r1, v, ev, C', hC', q1⟩ => ⟨I1.kIn, ?_⟩) he hpl
  subst ev
  rw [hm] at hC'
  cases hC'
  show wpAny _ _ (call (.ref C) us) _ _ _
  obtain ⟨hp, g, dr, tk, os⟩ := s1
  have hsz : hp.objs.size ≤ hp.objs.size + 1 := Nat.le_succ _
  have hn : H1 (hp.objs.size + 1) = none := I1.hok.fresh hsz
  have kk : ∀ b o, hp.get? b = some o → ((hp.push (PySem.W.kdv_tup us)).push (PySem.HandSPX.excO C hp.objs.size)).get? b = some o := fun b o e => Heap.get?_push_of_some _ (Heap.get?_push_of_some _ e)
  have hget : ((hp.push (PySem.W.kdv_tup us)).push (PySem.HandSPX.excO C hp.objs.size)).get? (hp.objs.size + 1) = some (PySem.HandSPX.excO C hp.objs.size) := by heap_get
  have I2 : Inv X pins σ (upd H1 (hp.objs.size + 1) (exo (hp.objs.size + 1) C none)) ⟨(hp.push (PySem.W.kdv_tup us)).push (PySem.HandSPX.excO C hp.objs.size), g, dr, tk, os⟩ :=
    I1.laid (t' := tk) (a := hp.objs.size + 1) (o := exo (hp.objs.size + 1) C none) (h' := (hp.push (PySem.W.kdv_tup us)).push (PySem.HandSPX.excO C hp.objs.size)) kk hsz (exo_ok hget)
  have r2 : Vals (V.ref (hp.objs.size + 1) :: [v]) (Value.ref (hp.objs.size + 1) :: us) := .cons rfl r1
  have hus : us.length ≤ sizeLine := by
    rw [← Paired.length r1, sizeLine_eq]
    show 1 ≤ _
    decide
  have hl : ((Value.ref (hp.objs.size + 1) :: us) ++ ([] : List Value)).length = (["self", "value"] : List Str).length := by
    rw [List.append_nil, ← r2.length]
    rfl
  have hbind := hb ⟨(hp.push (PySem.W.kdv_tup us)).push (PySem.HandSPX.excO C hp.objs.size), g, dr, tk, os⟩ (Value.ref (hp.objs.size + 1) :: us) I2.kIn hl
  rw [List.append_nil] at hbind
  refine wpAny_call (PySem.HandSPX.call_own T.xb.bf (fun Y => refsT_has Y bm hbm) (I1.kIn _ _ hC) (PySem.W.looks_findIn I1.kIn iC) (fun self => PySem.W.bind_fn I1.kIn self tI) hus
    (codeAny_mono (F1.run _ X.stack _ _ ⟨Value.ref (hp.objs.size + 1) :: us, []⟩ (Value.ref (hp.objs.size + 1) :: us) _
      (fun z H2 => z = .non ∧ ∃ (d : Addr), H2 (hp.objs.size + 1) = some (exo (hp.objs.size + 1) C (some d)) ∧ H2 d = some (exd d [("value", v)]) ∧ H1 d = none ∧ upd (del H2 (hp.objs.size + 1)) d (.xd [("value", v)]) = upd H1 d (.xd [("value", v)]))
      (fun _ _ _ => False) (hr.make C us []) (I2.env0.make C us []) hbind r2 ?_) fun r s' hq' => ?_))
  · refine ⟨_, C, v, rfl, T, hno, upd_same, fun dx nd ne => ⟨rfl, dx, upd_same, ?_, ?_, ?_⟩⟩
    · rw [upd_ne ne, upd_same]
    · rw [upd_ne ne] at nd
      exact nd
    · funext b
      by_cases hbd : b = dx
      · rw [hbd, upd_same, upd_same]
      · rw [upd_ne hbd, upd_ne hbd]
        by_cases hba : b = hp.objs.size + 1
        · rw [hba, del_same, hn]
        · rw [del_ne hba, upd_ne hba, upd_ne hbd, upd_ne hba]
  · cases r with
    | error er => exact passes_no pins σ _ _ er s' I2 hq'
    | ok fl =>
      cases fl with
      | ret u =>
        obtain ⟨z, H2, os2, bare2, un2, hok2, rv, ev, d, ea, ed, hd1, eq⟩ := hq'
        subst ev
        obtain ⟨h2, g2, d2, t2, os'⟩ := s'
        exact ⟨rv, mk_end (raises_own T.exC T.tyC) I1 hsz kk un2 hok2 os2 bare2 ea ed hd1 (by rw [eq]; exact q1 d hd1)⟩
      | next => exact False.elim hq'
      | brk => exact False.elim hq'
      | cont => exact False.elim hq'
end

/-! ### raise n(e) -/
def mRaise (n : Str) (fs : M (List AK)) : M Fl := mBind fs fun as => mBind (mVals as) fun ds Δ => match ds with
  | [d] => .ex n (some d) Δ
  | _ => .bad
section
variable {X : Cx} {c : Ct} {W : WX} {k : Nat} {n : Str} {e : Expr} {es : List Expr} {fs : M (List AK)} {p pos pos' : Pos}
theorem ds_raise (x : ExD X.prog X.w X.K X.mg X.base n) (o : Ok X c W k) (hk : 2 ≤ k) (hg : Gl X n) (ha : DA X c W (e :: es) fs) (hdb : (n == ("__debug__" : Str)) = false := by decide)
    (he : starEach (e :: es) X.env = (false, eval e X.env) :: starEach es X.env := by rfl) (hpl : (backTo pos (starEach es X.env)).any (·.1) = false := by rfl) :
    DS X c W (.Raise (some (.Call (.Name n p) (e :: es) [] pos)) none pos') (mRaise n fs) := by
  obtain ⟨t, pt, st⟩ := ha.out
  refine ⟨_, L2.ps_raise o.calm o.tk (pmk_D x (o.room.mono hk) hg pt hdb he hpl), fun y σ H Δ E sr q => ?_⟩
  refine st y σ H Δ _ sr (Post.bind (q.toPost (σ := σ)) fun as Δ1 q1 vs x1 H1 k1 sr1 h1 => ?_)
  obtain ⟨ds, rl, q2⟩ := Post.vals sr1 h1 (q1.stepS k1)
  match ds, rl, q2 with
  | [], rl, q2 => exact q2.elim
  | _ :: _ :: _, rl, q2 => exact q2.elim
  | [d], rl, q2 =>
    unfold RepL at rl
    obtain ⟨v, r, rfl, h2, h3⟩ := rl
    unfold RepL at h3
    subst h3
    obtain ⟨C, fI, B, newId, initId, tl, fd, hm, _⟩ := x.out
    refine ⟨v, rfl, C, hm, fun d' hd' => ?_⟩
    have ex : Ex H1 (upd H1 d' (.xd [("value", v)])) := Ex.new hd'
    exact q2 C (some d') x1 _ (Kp.ex ex x1) (sr1.ex ex) ⟨by rw [o.hmg]; exact hm, d', v, rfl, sr1.fr d' hd', upd_same, h2.keep ex.keep⟩
end
end DL

namespace DL
open PySem L2 PySem.Spec PyProof.Rows
abbrev Suite := Addr → Value → Option Addr → TS
/-- the ends behind a clause that names its exception -/
def behind (D : Ends) : Option Nat → Ends
  | none => D
  | some i => { nx := fun σ' H' => D.nx (σ'.set i none) H', rt := D.rt, bk := fun σ' H' => D.bk (σ'.set i none) H', ct := fun σ' H' => D.ct (σ'.set i none) H' }
def named (σ : L2.St) (a : Addr) : Option Nat → L2.St
  | none => σ
  | some i => σ.set i (some (.ref a))
/-- what the clauses wish of an exception -/
def wG (K : PySem.W.Frag) (Wout : WX) (D : Ends) : List (Value × Option Nat × Suite) → WX
  | [] => Wout
  | (c, o, ts) :: r => fun cls d σ H => ∃ b, PySem.W.exmOne K cls c = some b ∧ (b = true → ∀ a, H a = none → ts a cls d (behind D o) (named σ a o) H) ∧ (b = false → wG K Wout D r cls d σ H)
def SuiteOk (X : Cx) (suite : List Stmt) (ts : Suite) : Prop := ∀ (a : Addr) (oe : Obj) (cls : Value) (d : Option Addr) (pn : List (Addr × Obj)), Zc cls d oe → (∃ vs, oe.data = .fields vs) → PSs (X.suite a ((a, oe) :: pn)) suite (ts a cls d)
inductive HdsG (X : Cx) : List ExceptHandler → List (Value × Option Nat × Suite) → Prop
  | nil : HdsG X [] []
  | bare {x : Str} {c : Value} {ts : Suite} {b₀ : Stmt} {suite : List Stmt} {np pos' : Pos} {hds : List ExceptHandler} {l : List (Value × Option Nat × Suite)} (hc : Names X x c) (hsu : SuiteOk X (b₀ :: suite) ts) (r : HdsG X hds l) :
      HdsG X (.ExceptHandler (some (.Name x np)) none (b₀ :: suite) pos' :: hds) ((c, none, ts) :: l)
  | as {x n : Str} {i : Nat} {c : Value} {ts : Suite} {b₀ : Stmt} {suite : List Stmt} {np pos' : Pos} {hds : List ExceptHandler} {l : List (Value × Option Nat × Suite)} (hc : Names X x c) (hN : X.N.Nodup) (hi : X.N[i]? = some n) (hln : X.env.kindOf n = some .local)
      (hsu : SuiteOk X (b₀ :: suite) ts) (r : HdsG X hds l) : HdsG X (.ExceptHandler (some (.Name x np)) (some n) (b₀ :: suite) pos' :: hds) ((c, some i, ts) :: l)
section
variable {X : Cx} {body : List Stmt} {h₀ : ExceptHandler} {hds : List ExceptHandler} {l : List (Value × Option Nat × Suite)} {pos : Pos} {tb : WX → TS} {Wout : WX}
theorem ps_tryG (hs : X.stack = X.env :: X.outer) (hf : X.env.frame = some X.env.locals) (tk : Takes X Wout)
    (hb : ∀ (W : WX) (pn : List (Addr × Obj)) (xe : Value → Shared → Prop), Takes (X.tr pn xe) W → PassesOwn (model X.prog X.w) X.A X.env xe → PSs (X.tr pn xe) body (tb W))
    (hh : HdsG X (h₀ :: hds) l) : PS X (.Try body (h₀ :: hds) [] [] pos) (fun D σ H => tb (wG X.K Wout D l) D σ H) := by
  refine ⟨fun pins s σ H D I h => ?_⟩
  have ok := I.ok
  have hfr : X.A.frames = some (X.env :: X.outer) := by rw [ok.frames, hs]
  refine wpAny_Try_except ?_
  refine wpAny_mono ((hb (wG X.K Wout D l) (X.pn ++ pins) (fun e s₁ => wpAny (model X.prog X.w) X.A (noteFrame e X.env) (fun _ s₂ => wpAny (model X.prog X.w) X.A (setFlight e none) (fun _ s₃ =>
    wpAny (model X.prog X.w) X.A (handleBy e X.env (h₀ :: hds)) (SP X pins D) X.xe s₃) X.xe s₂) X.xe s₁) (fun u s' xx => ?_) PassesOwn.looking).run [] s σ H D (I.toTry _) h) (fun f s1 hsp => ?_) (fun e s1 he => he)
  · obtain ⟨a, B, sI, pins', σ', H', cls, d, rfl, J', nb, up, sky, na, os, ag, w⟩ := xx
    have J : Inv X pins σ' H' sI := J'.ofTry ok
    have sky' : Sky B (X.env :: X.outer) a (Zc cls d) X.env.locals s'.heap := by rw [← hs]; exact sky
    show wpAny (model X.prog X.w) X.A (noteFrame (.ref a) X.env) _ _ _
    refine Sky.land Zc.steady hfr hf sky' fun h3 fl3 up3 => ?_
    have J3 : Inv X pins σ' H' { s' with heap := h3 } := J.landed nb fl3.1 (up.trans up3) os ag
    obtain ⟨oe3, vs3, he3, hz3, hd3⟩ := fl3.there
    have notFr : ∀ {h : Heap} {o : Obj} {vs : Array Value}, h.FunFrames B (X.env :: X.outer) → h.get? a = some o → o.data = .fields vs → a ∉ frs (X.env :: X.outer) := fun {h o vs} ff e dd hm => by
      obtain ⟨_, o', e', hnf⟩ := ff.mem hm
      rw [e] at e'; cases e'
      exact hnf _ dd
    have nfr := notFr fl3.2.2.1 he3 hd3
    have nL : a ≠ X.env.locals := fun z => nfr (List.mem_filterMap.mpr ⟨X.env, List.mem_cons_self, by rw [hf, z]⟩)
    have nF : a ∉ X.fs := fun hm => by
      obtain ⟨e, he, q⟩ := List.mem_filterMap.mp hm
      exact nfr (List.mem_filterMap.mpr ⟨e, List.mem_cons_of_mem _ he, q⟩)
    have S3 := J3.suite he3 hd3 na nL nF
    have LT : PySem.W.Looks (model X.prog X.w) h3 (typeOf (.ref a)) cls := fun A Q E s k q => wpAny_typeOf_ref (k _ _ he3) (by rw [hz3.1]; exact q)
    have test : ∀ {x : Str} {np : Pos} {c : Value} {Q : Value → Shared → Prop} {E : Value → Shared → Prop}, Names X x c → Q c { s' with heap := h3 } → wpAny (model X.prog X.w) (X.A.mark (some (.ref a))) (eval (.Name x np) X.env) Q E { s' with heap := h3 } := fun {x np c Q E} hc q => by
      obtain ⟨hg, hdbg, hm | ⟨hm, hv, hnn⟩⟩ := hc
      · exact ld_glob (X := X.suite a ((a, oe3) :: (X.pn ++ pins))) S3 hg hm q hdbg
      · exact ld_blt (X := X.suite a ((a, oe3) :: (X.pn ++ pins))) S3 hg hm hv q hnn hdbg
    have go : ∀ {hds' : List ExceptHandler} {l' : List (Value × Option Nat × Suite)}, HdsG X hds' l' → wG X.K Wout D l' cls d σ' H' →
        wpAny (model X.prog X.w) X.A (handleBy (.ref a) X.env hds') (SP X pins D) X.xe { s' with heap := h3 } := by
      intro hds' l' hk
      induction hk with
      | nil =>
        intro w
        refine wpAny_handleBy_nil ?_
        obtain ⟨k1, k2, k3, oe, vs, T, oT, ts', he, hz, hd, h1, hr⟩ := id fl3
        unfold PySem.passOn
        refine wpAny_bind (wpAny_field he hd h1 ?_)
        rw [if_neg (show ¬ ((Value.ref T == Value.none) = true) from by simp)]
        have fin : wpAny (model X.prog X.w) X.A (setFlight (.ref a) X.env.frame) (fun _ s4 => wpAny (model X.prog X.w) X.A (throw (.ref a) : Sem Flow) (SP X pins D) X.xe s4) X.xe { s' with heap := h3 } := by
          rw [hf]
          refine HandSPX.setFlight_upZ fl3 fun h4 hh4 up4 => wpAny_throw (tk _ _ ?_)
          exact ⟨a, B, sI, pins, σ', H', cls, d, rfl, J, nb, (up.trans up3).trans up4, .inr (.inr (by rw [hs]; exact hh4)), na, os, ag, w⟩
        first
          | exact wpAny_bind (wpAny_pure (wpAny_bind fin))
          | exact wpAny_bind fin
      | @bare x c ts b₀ suite np pos' hds2 l2 hc hsu r ih =>
        intro w
        obtain ⟨b, hb1, hyes, hno⟩ := w
        refine wpAny_handleBy_cons (codeAny_handlers_test ?_) (by intro q; cases q)
        have LM := PySem.W.exm_one (M := model X.prog X.w) (J3.kIn) LT hb1
        refine test hc (LM.here ?_)
        cases b with
        | true =>
          refine codeAny_handlers_suite ?_
          refine HandSPX.lands_againZ fl3 fun h4 fl4 up4 => ?_
          have J4 : Inv X pins σ' H' { s' with heap := h4 } := J.landed nb fl4.1 ((up.trans up3).trans up4) os ag
          obtain ⟨oe4, vs4, he4, hz4, hd4⟩ := fl4.there
          have S4 := J4.suite he4 hd4 na nL nF
          refine wpAny_mono ((hsu a oe4 cls d (X.pn ++ pins) hz4 ⟨_, hd4⟩).run [] _ _ H' _ S4 (hyes rfl a na)) (fun f s6 hsp => ?_) (fun _ _ z => False.elim z)
          cases f <;> first
            | (obtain ⟨σ6, H6, S6, q6⟩ := hsp; exact ⟨_, _, S6.unsuite ok, q6⟩)
            | (obtain ⟨v6, σ6, H6, S6, r6, q6⟩ := hsp; exact ⟨_, _, _, S6.unsuite ok, r6, q6⟩)
        | false =>
          show wpAny _ X.A (handleBy (.ref a) X.env hds2) _ _ _
          exact ih (hno rfl)
      | @as x n i c ts b₀ suite np pos' hds2 l2 hc hN hi hln hsu r ih =>
        intro w
        obtain ⟨b, hb1, hyes, hno⟩ := w
        refine wpAny_handleBy_cons (codeAny_handlers_test ?_) (by intro q; cases q)
        have LM := PySem.W.exm_one (M := model X.prog X.w) (J3.kIn) LT hb1
        refine test hc (LM.here ?_)
        cases b with
        | true =>
          refine codeAny_handlers_suite_as ?_
          refine HandSPX.lands_againZ fl3 fun h4 fl4 up4 => ?_
          have J4 : Inv X pins σ' H' { s' with heap := h4 } := J.landed nb fl4.1 ((up.trans up3).trans up4) os ag
          obtain ⟨oe4, vs4, he4, hz4, hd4⟩ := fl4.there
          have S4 := J4.suite he4 hd4 na nL nF
          refine store_ok (X := X.suite a ((a, oe4) :: (X.pn ++ pins))) (v := .ref a) S4 hN hi (.inl hln) rfl (fun s5 S5 => ?_) (.inr hln)
          refine wpAny_mono ((hsu a oe4 cls d (X.pn ++ pins) hz4 ⟨_, hd4⟩).run [] s5 _ H' _ S5 (hyes rfl a na)) (fun f s6 hsp => ?_) (fun _ _ z => False.elim z)
          have end_ : ∀ {σ6 : L2.St} {H6 : Hp} {Q : Shared → Prop}, Inv (X.suite a ((a, oe4) :: (X.pn ++ pins))) [] σ6 H6 s6 → (∀ s7, Inv X pins (σ6.set i none) H6 s7 → Q s7) →
              wpAny (model X.prog X.w) X.A (do bindName X.env n .none; unbindBehindTheSuite X.env n pos') (fun _ s7 => Q s7) X.xe s6 := fun {σ6 H6 Q} S6 hq => gone_ok (S6.unsuite ok) hN hi hln hq
          cases f <;> first
            | (obtain ⟨σ6, H6, S6, q6⟩ := hsp; exact end_ S6 fun s7 J7 => ⟨_, _, J7, q6⟩)
            | (obtain ⟨v6, σ6, H6, S6, r6, q6⟩ := hsp; exact end_ S6 fun s7 J7 => ⟨_, _, _, J7, r6, q6⟩)
        | false =>
          show wpAny _ X.A (handleBy (.ref a) X.env hds2) _ _ _
          exact ih (hno rfl)
    exact go hh w
  · cases f <;> first
      | (obtain ⟨σ', H', J', q⟩ := hsp; exact wpAny_execs_nil ⟨σ', H', J'.ofTry ok, q⟩)
      | (obtain ⟨σ', H', J', q⟩ := hsp; exact ⟨σ', H', J'.ofTry ok, q⟩)
      | (obtain ⟨v, σ', H', J', r, q⟩ := hsp; exact ⟨v, σ', H', J'.ofTry ok, r, q⟩)
end
end DL

namespace DL
open PySem L2 PySem.Spec PyProof.Rows

theorem ExG.kp {c : Ct} {x x' : Sx} {σ : L2.St} {H H' : Hp} {Δ : SD} {n : Str} {d : Option D} {C : Addr} {dx : Option Addr} (s : SR c x σ H Δ) (k : Kp x H x' H') (h : ExR c x H n d C dx) : ExR c x' H' n d C dx := by
  obtain ⟨hm, h⟩ := h
  refine ⟨hm, ?_⟩
  cases d with
  | none => exact h
  | some d =>
    obtain ⟨p, v, e, hp, hh, r⟩ := h
    exact ⟨p, v, e, k.av p hp (by rw [hh]; intro z; cases z), k.frame p _ hh fx_xd (s.notOwned hp), r.kp s k⟩
/-- a slot forgets -/
theorem SR.setUn {c : Ct} {x : Sx} {σ : L2.St} {H : Hp} {Δ : SD} {i : Nat} (s : SR c x σ H Δ) (hio : ∀ p ∈ c.io, p.1 ≠ i) (o : Option V) :
    Kp x H ⟨x.Av, fun j => if j = i then none else x.ρ j⟩ H ∧ SR c ⟨x.Av, fun j => if j = i then none else x.ρ j⟩ (σ.set i o) H (Δ.set i .un) := by
  have rho : ∀ {j b}, (if j = i then none else x.ρ j) = some b → j ≠ i ∧ x.ρ j = some b := fun {j b} q => by
    by_cases e : j = i
    · rw [if_pos e] at q; cases q
    · rw [if_neg e] at q; exact ⟨e, q⟩
  refine ⟨⟨fun p o h _ _ => h, fun p h => h, fun j p h => .inl ⟨j, (rho h).2⟩, fun p h _ => h, fun p h => .inl h⟩, ?_⟩
  exact {
    len := by rw [List.length_set, List.length_set]; exact s.len
    base := s.base
    tab := s.tab
    trk := s.trk
    fr := s.fr
    av := s.av
    a0 := s.a0
    ow := fun j a h => s.ow j a (rho h).2
    inj := fun j l a h1 h2 => s.inj j l a (rho h1).2 (rho h2).2
    slot := fun j => by
      by_cases e : j = i
      · subst e
        by_cases hl : j < Δ.length
        · rw [List.getElem?_set_self hl]; trivial
        · rw [List.getElem?_eq_none (by rw [List.length_set]; omega)]; trivial
      · rw [List.getElem?_set_ne (Ne.symm e)]
        have sl := s.slot j
        revert sl
        cases Δ[j]? with
        | none => intro _; trivial
        | some z =>
          cases z with
          | un => intro _; trivial
          | sh d => exact fun ⟨v, h1, h2⟩ => ⟨v, by rw [List.getElem?_set_ne (Ne.symm e)]; exact h1, h2⟩
          | ow d => exact fun ⟨a, h0, h1, h2⟩ => ⟨a, (if_neg e).trans h0, by rw [List.getElem?_set_ne (Ne.symm e)]; exact h1, h2⟩
    ios := fun p hp => (if_neg (hio p hp)).trans (s.ios p hp) }

/-! ### mirrors -/
abbrev HMir := Str → Option D → M Fl
def unAt (o : Option Nat) (Δ : SD) : SD := match o with
  | none => Δ
  | some i => Δ.set i .un
def okAt (o : Option Nat) (Δ : SD) : Bool := match o with
  | none => true
  | some i => decide (i < Δ.length)
def mSuite (o : Option Nat) (f : M Fl) : M Fl := fun Δ => if okAt o Δ = true then (match f (unAt o Δ) with
  | .ok .nx Δ' => .ok .nx (unAt o Δ')
  | .ok .bk Δ' => .ok .bk (unAt o Δ')
  | .ok .ct Δ' => .ok .ct (unAt o Δ')
  | .ok (.rt d) Δ' => .ok (.rt d) Δ'
  | .ok (.rf d) Δ' => .ok (.rf d) Δ'
  | _ => .bad) else .bad
def mCatch (tx : Str → Str → Option Bool) : List (Str × Option Nat × HMir) → HMir
  | [], n, d => fun Δ => .ex n d Δ
  | (m, o, h) :: r, n, d => match tx n m with
    | some true => mSuite o (h n d)
    | some false => mCatch tx r n d
    | none => mBad
def mTry (f : M Fl) (h : HMir) : M Fl := fun Δ => match f Δ with
  | .ok fl Δ' => .ok fl Δ'
  | .ex n d Δ' => h n d Δ'
  | .bad => .bad

/-! ### suites -/
structure DSu (X : Cx) (c : Ct) (suite : List Stmt) (o : Option Nat) (h : HMir) : Prop where
  out : ∃ ts : Suite, SuiteOk X suite ts ∧ ∀ a C dx n d x σ H Δ E, (∀ i, o = some i → σ[i]? = some (some (.ref a))) → H a = none → SR c x σ H Δ → ExR c x H n d C dx → PostS c noW x H E (h n d Δ) → ts a (.ref C) dx E σ H
/-- where a suite stands -/
structure OkS (X : Cx) (c : Ct) (k : Nat) : Prop where
  hK : c.K = X.K
  hmg : c.mg = X.mg
  gd : 20 ≤ k → X.A.guards = some []
  units : X.A.units + 64 < cLine
  nd : X.N.Nodup
theorem Ok.suite {X : Cx} {c : Ct} {W : WX} {k : Nat} (o : Ok X c W k) {a : Addr} {pn : List (Addr × Obj)} : OkS (X.suite a pn) c k := ⟨o.hK, o.hmg, o.gd, o.units, o.nd⟩
theorem Ok.tr {X : Cx} {c : Ct} {W W' : WX} {k : Nat} (o : Ok X c W k) {pn : List (Addr × Obj)} {xe : Value → Shared → Prop} (tk : Takes (X.tr pn xe) W') (po : PassesOwn (model X.prog X.w) X.A X.env xe) : Ok (X.tr pn xe) c W' k :=
  ⟨o.hK, o.hmg, o.calm, o.room, o.gd, tk, po, o.nd⟩
theorem noW_false {C : Value} {dx : Option Addr} {σ : L2.St} {H : Hp} : noW C dx σ H → False := fun h => h
/-- a suite without the exception -/
def tSu (c : Ct) (f : M Fl) : TS := fun E σ H => ∃ x Δ, SR c x σ H Δ ∧ PostS c noW x H E (f Δ)
theorem dsu_plain {X : Cx} {c : Ct} {suite : List Stmt} {o : Option Nat} {f : M Fl} (hb : ∀ (a : Addr) (pn : List (Addr × Obj)), DB (X.suite a pn) c noW suite f) : DSu X c suite o (fun _ _ => f) := by
  refine ⟨fun _ _ _ => tSu c f, fun a oe cls d pn hz hf => ?_, fun a C dx n d x σ H Δ E hi ha sr xr p => ⟨x, Δ, sr, p⟩⟩
  obtain ⟨t, pt, st⟩ := (hb a ((a, oe) :: pn)).out
  exact ⟨fun pins s σ H D I ⟨x, Δ, sr, p⟩ => pt.run pins s σ H D I (st x σ H Δ D sr p)⟩

/-! ### expressions with the exception -/
structure DX (X : Cx) (c : Ct) (i : Nat) (e : Expr) (f : Str → Option D → M D) : Prop where
  out : ∀ (a : Addr) (oe : Obj) (C : Addr) (dx : Option Addr) (pn : List (Addr × Obj)), Zc (.ref C) dx oe → (∃ vs, oe.data = .fields vs) → ∃ t : TE, PE (X.suite a ((a, oe) :: pn)) e t ∧
    ∀ n d x σ H Δ Q, σ[i]? = some (some (.ref a)) → SR c x σ H Δ → ExR c x H n d C dx → Post c noW x σ H (okV c x σ H Q) (f n d Δ) → t σ H Q
structure DXs (X : Cx) (c : Ct) (i : Nat) (es : List Expr) (f : Str → Option D → M (List D)) : Prop where
  out : ∀ (a : Addr) (oe : Obj) (C : Addr) (dx : Option Addr) (pn : List (Addr × Obj)), Zc (.ref C) dx oe → (∃ vs, oe.data = .fields vs) → ∃ t : TA, PA (X.suite a ((a, oe) :: pn)) es t ∧
    ∀ n d x σ H Δ Q, σ[i]? = some (some (.ref a)) → SR c x σ H Δ → ExR c x H n d C dx → Post c noW x σ H (fun ds Δ' => ∀ vs x' H', Kp x H x' H' → SR c x' σ H' Δ' → RepL c.toGc x'.Av H' ds vs → Q vs H') (f n d Δ) → t σ H Q
/-- what the text says of a class whose exceptions are looked at -/
structure EcD (K : PySem.W.Frag) (mg : Str → Option Value) (n : Str) : Prop where
  out : ∃ C, mg n = some (.ref C) ∧ XfC K C ∧ PySem.W.findIn K (.ref C) "value" = some none
def inNames (ns : List Str) (n : Str) : Bool := decide (n ∈ ns)
def mVal (ns : List Str) (n : Str) (d : Option D) : M D := if inNames ns n = true then mOpt d else mBad
section
variable {X : Cx} {c : Ct} {i : Nat} {e : Expr} {es : List Expr} {pos p1 p2 : Pos} {f : Str → Option D → M D} {fs : Str → Option D → M (List D)}
theorem dx_val {x : Str} {ns : List Str} (hG : c.toGc = ⟨X.K, X.mg, c.T⟩) (hx : ∀ n ∈ ns, EcD X.K X.mg n) (hN : X.N[i]? = some x) (hv : Vis X.env.scope x) (hd : (x == ("__debug__" : Str)) = false := by decide) (hcd : (x == ("__classdict__" : Str)) = false := by decide) : DX X c i (.Attribute (.Name x p1) "value" p2) (mVal ns) := by
  refine ⟨fun a oe C dx pn hz hf => ?_⟩
  by_cases hC : ∃ n ∈ ns, X.mg n = some (.ref C)
  case neg =>
    refine ⟨fun _ _ _ => False, ⟨fun _ _ _ _ _ _ h => h.elim⟩, fun n d x σ H Δ Q hs sr xr p => ?_⟩
    unfold mVal inNames at p
    by_cases hn : n ∈ ns
    · exact hC ⟨n, hn, by have h := xr.1; rw [hG] at h; exact h⟩
    · rw [if_neg (by simpa using hn)] at p
      exact p
  obtain ⟨n, hn, hm⟩ := hC
  obtain ⟨C', hm', T, hno⟩ := (hx n hn).out
  rw [hm] at hm'
  cases hm'
  refine ⟨_, pe_xf T hno hz hf (pe_var (X := X.suite a ((a, oe) :: pn)) hN hv hd hcd) (by rfl), fun n d y σ H Δ Q hs sr xr p => ?_⟩
  unfold mVal at p
  by_cases hn : inNames ns n = true
  case neg => rw [if_neg hn] at p; exact p.elim
  rw [if_pos hn] at p
  cases d with
  | none => exact p.elim
  | some d =>
    obtain ⟨q, v, rfl, hq, hh, r⟩ := xr.2
    exact ⟨.ref a, hs, rfl, rfl, q, _, v, rfl, hh, rfl, p v y H (Kp.refl _ _) sr r⟩
theorem dx_of {g : M D} (h : ∀ (a : Addr) (pn : List (Addr × Obj)), DE (X.suite a pn) c noW e g) : DX X c i e (fun _ _ => g) := by
  refine ⟨fun a oe C dx pn hz hf => ?_⟩
  obtain ⟨t, p, s⟩ := (h a ((a, oe) :: pn)).out
  exact ⟨t, p, fun n d x σ H Δ Q hs sr xr q => s x σ H Δ Q sr q⟩
theorem dxs_nil : DXs X c i [] (fun _ _ => mPure []) := ⟨fun a oe C dx pn hz hf => ⟨_, pa_nil, fun n d x σ H Δ Q hs sr xr p => p [] x H (Kp.refl _ _) sr (by unfold RepL; rfl)⟩⟩
theorem dxs_cons (h : DX X c i e f) (r : DXs X c i es fs) (hst : ∀ (a : Addr) (pn : List (Addr × Obj)), starEach (e :: es) (X.suite a pn).env = (false, eval e (X.suite a pn).env) :: starEach es (X.suite a pn).env := by intro _ _; rfl) : DXs X c i (e :: es) (fun n d => mBind (f n d) fun v => mBind (fs n d) fun vs => mPure (v :: vs)) := by
  refine ⟨fun a oe C dx pn hz hf => ?_⟩
  obtain ⟨t, p, s⟩ := h.out a oe C dx pn hz hf
  obtain ⟨u, q, w⟩ := r.out a oe C dx pn hz hf
  refine ⟨_, pa_cons p q (hst a _), fun n d x σ H Δ Q hs sr xr z => ?_⟩
  refine s n d x σ H Δ _ hs sr xr (Post.bind z fun v Δ1 z1 vv x1 H1 k1 sr1 r1 => ?_)
  refine w n d x1 σ H1 Δ1 _ hs sr1 (ExG.kp sr k1 xr) (Post.bind (z1.step k1 fun a Δ q => q) fun vs Δ2 z2 us x2 H2 k2 sr2 r2 => ?_)
  have z3 := z2 (vv :: us) x2 H2
  exact z2 (vv :: us) x2 H2 (k1.trans k2) sr2 (by unfold RepL; exact ⟨vv, us, rfl, r1.kp sr1 k2, r2⟩)
def mXl (fs : M (List D)) : M D := mBind fs fun ds => if ds.length ≤ lim then mPure (.lst ds) else mBad
theorem dx_lst (h : DXs X c i es fs) : DX X c i (.List es pos) (fun n d => mXl (fs n d)) := by
  refine ⟨fun a oe C dx pn hz hf => ?_⟩
  obtain ⟨t, p, s⟩ := h.out a oe C dx pn hz hf
  refine ⟨_, pe_lst p, fun n d x σ H Δ Q hs sr xr z => s n d x σ H Δ _ hs sr xr (Post.bind z fun ds Δ1 z1 vs x1 H1 k1 sr1 r1 => ?_)⟩
  by_cases hl : ds.length ≤ lim
  · rw [if_pos hl] at z1
    refine ⟨by rw [repL_length r1]; exact lim_ok hl, fun q hq => ?_⟩
    have ex : Ex H1 (upd H1 q (.lst vs)) := Ex.new hq
    exact z1 _ x1 _ (k1.trans (Kp.ex ex x1)) (sr1.ex ex) (by unfold Rep; exact ⟨q, vs, rfl, sr1.fr q hq, upd_same, r1.keep ex.keep⟩)
  · rw [if_neg hl] at z1
    exact z1.elim
def mX1 (g : List D → Option D) (f : M D) : M D := mBind f fun v => mOpt (g [v])
theorem dx_callB {nm : Str} {id : String} {r : List V → Hp → VK → Prop} {g : List D → Option D} (hc : ∀ (a : Addr) (pn : List (Addr × Obj)), CallR (X.suite a pn) (.builtin id) r) (hr : CaD c.toGc r g) (hg : Gl X nm) (hm : X.mg nm = none) (hv : bootBuiltins nm = some (.builtin id)) (h : DX X c i e f)
    (hn : nm ≠ "__name__" := by decide) (hdb : (nm == ("__debug__" : Str)) = false := by decide) (he : ∀ (a : Addr) (pn : List (Addr × Obj)), starEach [e] (X.suite a pn).env = [(false, eval e (X.suite a pn).env)] := by intro _ _; rfl) :
    DX X c i (.Call (.Name nm p1) [e] [] pos) (fun n d => mX1 g (f n d)) := by
  refine ⟨fun a oe C dx pn hz hf => ?_⟩
  obtain ⟨t, p, s⟩ := h.out a oe C dx pn hz hf
  refine ⟨_, pe_callB (X := X.suite a ((a, oe) :: pn)) (hc a _) hg hm hv (pa_cons p pa_nil (he a _)) hn hdb (he a _) rfl, fun n d x σ H Δ Q hs sr xr z => ?_⟩
  refine s n d x σ H Δ _ hs sr xr (Post.bind z fun v Δ1 z1 vv x1 H1 k1 sr1 r1 => ?_)
  have z2 := Post.outV sr1 (z1.step k1 fun a Δ q => okV.step k1 q)
  exact hr x1.Av H1 [v] [vv] Q sr1.fr ⟨vv, [], rfl, .inl r1, rfl⟩ z2
end

/-! ### statements of suites -/
section
variable {X : Cx} {c : Ct} {i : Nat} {e : Expr} {f : Str → Option D → M D} {pos p1 p2 : Pos}
/-- the canonical reading of a suite of one statement -/
def tSx (c : Ct) (i : Nat) (f : HMir) : Suite := fun a cls dx E σ H => ∃ x Δ n d C, cls = .ref C ∧ σ[i]? = some (some (.ref a)) ∧ SR c x σ H Δ ∧ ExR c x H n d C dx ∧ PostS c noW x H E (f n d Δ)
theorem dsu_of {suite : List Stmt} {h : HMir} (hp : ∀ (a : Addr) (oe : Obj) (C : Addr) (dx : Option Addr) (pn : List (Addr × Obj)), Zc (.ref C) dx oe → (∃ vs, oe.data = .fields vs) → ∃ t : TS, PSs (X.suite a ((a, oe) :: pn)) suite t ∧
    ∀ n d x σ H Δ E, σ[i]? = some (some (.ref a)) → SR c x σ H Δ → ExR c x H n d C dx → PostS c noW x H E (h n d Δ) → t E σ H) : DSu X c suite (some i) h := by
  refine ⟨tSx c i h, fun a oe cls dx pn hz hf => ⟨fun pins s σ H D I ⟨x, Δ, n, d, C, ec, hs, sr, xr, p⟩ => ?_⟩, fun a C dx n d x σ H Δ E hi ha sr xr p => ⟨x, Δ, n, d, C, rfl, hi i rfl, sr, xr, p⟩⟩
  subst ec
  obtain ⟨t, pt, st⟩ := hp a oe C dx pn hz hf
  exact pt.run pins s σ H D I (st n d x σ H Δ D hs sr xr p)
theorem dsu_set {j : Nat} {y : Str} (hio : ∀ p ∈ c.io, p.1 ≠ j) (hN : X.N.Nodup) (hj : X.N[j]? = some y) (hy : Loc X.env.scope y) (h : DX X c i e f) (hs : ∀ (a : Addr) (pn : List (Addr × Obj)), swapsWith e (some (.Name y p1)) pos.line (X.suite a pn).env = pure false := by intro _ _; rfl)
    (hf : X.fn y = true ∨ X.env.scope.names.lookup y = some .local := by first | exact .inl rfl | exact .inr rfl) : DSu X c [.Assign [.Name y p1] e pos] (some i) (fun n d => mSet j (f n d)) := by
  refine dsu_of fun a oe C dx pn hz hfv => ?_
  obtain ⟨t, p, s⟩ := h.out a oe C dx pn hz hfv
  refine ⟨_, pss_one (ps_set (X := X.suite a ((a, oe) :: pn)) hN hj hy p (hs a _) hf), fun n d x σ H Δ E hi sr xr q => ?_⟩
  refine s n d x σ H Δ _ hi sr xr (PostS.bind q fun v Δ1 q1 u x1 H1 k1 sr1 r1 => ?_)
  have q2 : PostS c noW x H E (if j < Δ1.length then .ok .nx (Δ1.set j (.sh v)) else .bad) := q1
  split at q2
  · rename_i hl
    obtain ⟨k2, sr2⟩ := sr1.setSh hio hl r1
    exact q2 _ _ _ (k1.trans k2) sr2
  · exact q2.elim
theorem dsu_ret (h : DX X c i e f) : DSu X c [.Return (some e) pos] (some i) (fun n d => mRet (f n d)) := by
  refine dsu_of fun a oe C dx pn hz hfv => ?_
  obtain ⟨t, p, s⟩ := h.out a oe C dx pn hz hfv
  refine ⟨_, pss_one (ps_ret p), fun n d x σ H Δ E hi sr xr q => ?_⟩
  exact s n d x σ H Δ _ hi sr xr (PostS.bind q fun v Δ1 q1 u x1 H1 k1 sr1 r1 => q1 u σ x1 H1 k1 sr1 r1)
end

/-! ### the clauses, the statement -/
/-- which classes are under which -/
def TxOk (G : Gc) (tx : Str → Str → Option Bool) : Prop := ∀ n m b, tx n m = some b → ∃ C C', G.mg n = some (.ref C) ∧ G.mg m = some (.ref C') ∧ PySem.W.exmOne G.K (.ref C) (.ref C') = some b
inductive DHs (X : Cx) (c : Ct) : List ExceptHandler → List (Str × Option Nat × HMir) → Prop
  | nil : DHs X c [] []
  | bare {x : Str} {b₀ : Stmt} {suite : List Stmt} {np pos' : Pos} {hds : List ExceptHandler} {l : List (Str × Option Nat × HMir)} {h : HMir} (hg : Gl X x) (hm : ∃ C, X.mg x = some (.ref C)) (hdb : (x == ("__debug__" : Str)) = false) (hsu : DSu X c (b₀ :: suite) none h) (r : DHs X c hds l) :
      DHs X c (.ExceptHandler (some (.Name x np)) none (b₀ :: suite) pos' :: hds) ((x, none, h) :: l)
  | as {x n : Str} {i : Nat} {b₀ : Stmt} {suite : List Stmt} {np pos' : Pos} {hds : List ExceptHandler} {l : List (Str × Option Nat × HMir)} {h : HMir} (hg : Gl X x) (hm : ∃ C, X.mg x = some (.ref C)) (hdb : (x == ("__debug__" : Str)) = false) (hi : X.N[i]? = some n) (hln : X.env.kindOf n = some .local) (hio : ∀ p ∈ c.io, p.1 ≠ i)
      (hsu : DSu X c (b₀ :: suite) (some i) h) (r : DHs X c hds l) : DHs X c (.ExceptHandler (some (.Name x np)) (some n) (b₀ :: suite) pos' :: hds) ((x, some i, h) :: l)
section
variable {X : Cx} {c : Ct} {W : WX} {k : Nat} {body : List Stmt} {h₀ : ExceptHandler} {hds : List ExceptHandler} {mh : List (Str × Option Nat × HMir)} {pos : Pos} {fb : M Fl} {tx : Str → Str → Option Bool}
def tB0 (c : Ct) (fb : M Fl) (W : WX) : TS := fun E σ H => ∃ x Δ, SR c x σ H Δ ∧ PostS c W x H E (fb Δ)
theorem hds_ok (o : Ok X c W k) (ht : TxOk c.toGc tx) : ∀ {hds : List ExceptHandler} {mh : List (Str × Option Nat × HMir)}, DHs X c hds mh → ∃ l, HdsG X hds l ∧
    ∀ (D : Ends) n d C dx x σ H Δ, SR c x σ H Δ → ExR c x H n d C dx → PostS c W x H D (mCatch tx mh n d Δ) → wG X.K W D l (.ref C) dx σ H := by
  intro hds mh h
  induction h with
  | nil => exact ⟨[], .nil, fun D n d C dx x σ H Δ sr xr p => p C dx σ x H (Kp.refl _ _) sr xr⟩
  | @bare x b₀ suite np pos' hds l h hg hm hdb hsu r ih =>
    obtain ⟨l', h1, h2⟩ := ih
    obtain ⟨Cx, hm⟩ := hm
    obtain ⟨ts, hts, st⟩ := hsu.out
    refine ⟨(.ref Cx, none, ts) :: l', .bare ⟨hg, hdb, .inl hm⟩ hts h1, fun D n d C dx y σ H Δ sr xr p => ?_⟩
    change PostS c W y H D ((match tx n x with
      | some true => mSuite none (h n d)
      | some false => mCatch tx l n d
      | none => mBad) Δ) at p
    cases e : tx n x with
    | none => rw [e] at p; exact p.elim
    | some b =>
      rw [e] at p
      obtain ⟨C1, C2, g1, g2, ex⟩ := ht n x b e
      rw [xr.1] at g1
      cases g1
      rw [o.hmg, hm] at g2
      cases g2
      refine ⟨b, by rw [← o.hK]; exact ex, fun hb a ha => ?_, fun hb => ?_⟩
      · subst hb
        refine st a C dx n d y σ H Δ D (fun _ z => (by cases z)) ha sr xr ?_
        dsimp only at p
        unfold mSuite at p
        rw [if_pos (show okAt none Δ = true from rfl)] at p
        unfold unAt at p
        dsimp only at p
        cases eh : h n d Δ with
        | ok fl Δ' => rw [eh] at p; cases fl <;> exact p
        | ex n' d' Δ' => rw [eh] at p; exact p.elim
        | bad => rw [eh] at p; exact p.elim
      · subst hb
        exact h2 D n d C dx y σ H Δ sr xr p
  | @as x n0 i b₀ suite np pos' hds l h hg hm hdb hi hln hio hsu r ih =>
    obtain ⟨l', h1, h2⟩ := ih
    obtain ⟨Cx, hm⟩ := hm
    obtain ⟨ts, hts, st⟩ := hsu.out
    refine ⟨(.ref Cx, some i, ts) :: l', .as ⟨hg, hdb, .inl hm⟩ o.nd hi hln hts h1, fun D n d C dx y σ H Δ sr xr p => ?_⟩
    change PostS c W y H D ((match tx n x with
      | some true => mSuite (some i) (h n d)
      | some false => mCatch tx l n d
      | none => mBad) Δ) at p
    cases e : tx n x with
    | none => rw [e] at p; exact p.elim
    | some b =>
      rw [e] at p
      obtain ⟨C1, C2, g1, g2, ex⟩ := ht n x b e
      rw [xr.1] at g1
      cases g1
      rw [o.hmg, hm] at g2
      cases g2
      refine ⟨b, by rw [← o.hK]; exact ex, fun hb a ha => ?_, fun hb => ?_⟩
      · subst hb
        obtain ⟨k1, sr1⟩ := sr.setUn hio (some (.ref a))
        dsimp only at p
        unfold mSuite at p
        by_cases hok : okAt (some i) Δ = true
        case neg => rw [if_neg hok] at p; exact p.elim
        rw [if_pos hok] at p
        have hil : i < σ.length := by
          rw [sr.len]
          exact of_decide_eq_true hok
        refine st a C dx n d _ _ H _ _ (fun j z => by cases z; exact List.getElem?_set_self hil) ha sr1 (ExG.kp sr k1 xr) ?_
        unfold unAt at p
        dsimp only at p
        cases eh : h n d (Δ.set i .un) with
        | ok fl Δ' =>
          rw [eh] at p
          cases fl with
          | nx =>
            intro σ' x' H' k' s'
            obtain ⟨k2, sr2⟩ := s'.setUn hio none
            exact p _ _ _ ((k1.trans k').trans k2) sr2
          | bk =>
            intro σ' x' H' k' s'
            obtain ⟨k2, sr2⟩ := s'.setUn hio none
            exact p _ _ _ ((k1.trans k').trans k2) sr2
          | ct =>
            intro σ' x' H' k' s'
            obtain ⟨k2, sr2⟩ := s'.setUn hio none
            exact p _ _ _ ((k1.trans k').trans k2) sr2
          | rt v => exact fun v σ' x' H' k' s' => p v σ' x' H' (k1.trans k') s'
          | rf v => exact fun v σ' x' H' k' s' => p v σ' x' H' (k1.trans k') s'
        | ex n' d' Δ' => rw [eh] at p; exact p.elim
        | bad => rw [eh] at p; exact p.elim
      · subst hb
        exact h2 D n d C dx y σ H Δ sr xr p
theorem ds_try (o : Ok X c W k) (ht : TxOk c.toGc tx) (hs : X.stack = X.env :: X.outer) (hf : X.env.frame = some X.env.locals)
    (hb : ∀ (W' : WX) (pn : List (Addr × Obj)) (xe : Value → Shared → Prop), Takes (X.tr pn xe) W' → PassesOwn (model X.prog X.w) X.A X.env xe → DB (X.tr pn xe) c W' body fb) (hh : DHs X c (h₀ :: hds) mh) : DS X c W (.Try body (h₀ :: hds) [] [] pos) (mTry fb (mCatch tx mh)) := by
  obtain ⟨l, hl, hw⟩ := hds_ok o ht hh
  refine ⟨_, ps_tryG (tb := tB0 c fb) hs hf o.tk (fun W' pn xe tk po => ?_) hl, fun x σ H Δ E sr q => ⟨x, Δ, sr, ?_⟩⟩
  · obtain ⟨t, p, s⟩ := (hb W' pn xe tk po).out
    exact ⟨fun pins st σ H D I ⟨x, Δ, sr, q⟩ => p.run pins st σ H D I (s x σ H Δ D sr q)⟩
  · unfold mTry at q
    cases e : fb Δ with
    | ok fl Δ' => rw [e] at q; exact q
    | ex n d Δ' =>
      rw [e] at q
      exact fun C dx σ' x' H' k' s' xr => hw E n d C dx x' σ' H' Δ' s' xr (PostS.step q k')
    | bad => rw [e] at q; exact q
end
end DL

namespace DL
open PySem L2 PySem.Spec PyProof.Rows

/-- the def at a place of a class's body -/
def clsAt (s : Stmt) (i : Nat) : Stmt := match s with
  | .ClassDef (body := b) .. => b.getD i (.Pass ⟨0, 0, 0, 0⟩)
  | _ => .Pass ⟨0, 0, 0, 0⟩
structure MtAt (K : PySem.W.Frag) (mg : Str → Option Value) (n m qual : Str) (st : Stmt) (ps : List Str) : Prop where
  out : ∃ (C f : Addr) (fd : FuncData), mg n = some (.ref C) ∧ Cls K C ∧ Meth K C m f ∧ Fun K m qual st f fd ∧ Binds K fd ps []
structure PrAt (K : PySem.W.Frag) (mg : Str → Option Value) (n m qual : Str) (st : Stmt) (ps : List Str) : Prop where
  out : ∃ (C p f : Addr) (fd : FuncData), mg n = some (.ref C) ∧ Cls K C ∧ PropOf K C m p f ∧ (PySem.W.clsIn K C).isSome = true ∧ Fun K m qual st f fd ∧ Binds K fd ps []
structure CmAt (K : PySem.W.Frag) (mg : Str → Option Value) (n m qual : Str) (st : Stmt) (ps : List Str) : Prop where
  out : ∃ (C p f : Addr) (mc : Value) (fd : FuncData), mg n = some (.ref C) ∧ ClX.CRead K C mc ∧ ClX.CMet K C mc m p f ∧ Fun K m qual st f fd ∧ Binds K fd ps []
structure SmAt (K : PySem.W.Frag) (mg : Str → Option Value) (n m qual : Str) (st : Stmt) (ps : List Str) : Prop where
  out : ∃ (C p f : Addr) (mc : Value) (fd : FuncData), mg n = some (.ref C) ∧ ClX.CRead K C mc ∧ SMet K C mc m p f ∧ Fun K m qual st f fd ∧ Binds K fd ps []
structure InAt (K : PySem.W.Frag) (mg : Str → Option Value) (n qual : Str) (st : Stmt) (ps : List Str) : Prop where
  out : ∃ (C f : Addr) (fd : FuncData), mg n = some (.ref C) ∧ ObjK K C ∧ Mk K C f ∧ Fun K "__init__" qual st f fd ∧ Binds K fd ps []
section
variable {P : Program} {w : World} {K : PySem.W.Frag} {mg : Str → Option Value} {base : Heap} {T : List (Addr × Str)} {n m qual : Str} {st : Stmt} {N ps : List Str} {io : List Nat} {k : Nat} {fb : M Fl}
/-- what each derivation of a def's body shows -/
abbrev BodyD (P : Program) (w : World) (K : PySem.W.Frag) (mg : Str → Option Value) (base : Heap) (T : List (Addr × Str)) (qual : Str) (st : Stmt) (N : List Str) (io : List Nat) (k : Nat) (fb : M Fl) : Prop :=
  ∀ (f : Addr) (cd : Value) (A : Around) (outer : List Env) (s : Shared) (H : Hp) (E : XK) (H0 : Hp) (A0 : Addr → Prop) (ios : List (Nat × Addr)) (W : WX), Ok (cxD P w K mg base N qual (defScope st) f cd A outer s H E) ⟨⟨K, mg, T⟩, H0, A0, ios⟩ W k → ios.map (·.1) = io →
      DB (cxD P w K mg base N qual (defScope st) f cd A outer s H E) ⟨⟨K, mg, T⟩, H0, A0, ios⟩ W (defBody st) fb
theorem dfn_body {nm : Str} {f : Addr} {fd : FuncData} (F : Fun K nm qual st f fd) (S : FnScope N ps (defScope st)) (hb : BodyD P w K mg base T qual st N io k fb) : DFn P w K mg base T (k + 1) f fd ps io (mDef N.length io fb) := by
  refine dfn_of F S fun cd A outer s H E c W o hT hio _ => ?_
  obtain ⟨⟨K', mg', T'⟩, H0, A0, ios⟩ := c
  have e1 : K' = K := o.hK
  have e2 : mg' = mg := o.hmg
  have e3 : T' = T := hT
  subst e1 e2 e3
  exact hb f cd A outer s H E H0 A0 ios W o hio
theorem mtd_mk (F : MtAt K mg n m qual st ps) (S : FnScope N ps (defScope st)) (hb : BodyD P w K mg base T qual st N io k fb) : MtD P w K mg base T n m (k + 1) ps io (mDef N.length io fb) := by
  obtain ⟨C, f, fd, hm, cl, mt, F, b⟩ := F.out
  exact ⟨C, f, fd, hm, cl, mt, b, dfn_body F S hb⟩
theorem prd_mk (F : PrAt K mg n m qual st ps) (S : FnScope N ps (defScope st)) (hb : BodyD P w K mg base T qual st N io k fb) : PrD P w K mg base T n m (k + 1) ps io (mDef N.length io fb) := by
  obtain ⟨C, p, f, fd, hm, cl, mt, hc, F, b⟩ := F.out
  exact ⟨C, p, f, fd, hm, cl, mt, hc, b, dfn_body F S hb⟩
theorem cmd_mk (F : CmAt K mg n m qual st ps) (S : FnScope N ps (defScope st)) (hb : BodyD P w K mg base T qual st N io k fb) : CmD P w K mg base T n m (k + 1) ps io (mDef N.length io fb) := by
  obtain ⟨C, p, f, mc, fd, hm, r, cm, F, b⟩ := F.out
  exact ⟨C, p, f, mc, fd, hm, r, cm, b, dfn_body F S hb⟩
theorem smd_mk (F : SmAt K mg n m qual st ps) (S : FnScope N ps (defScope st)) (hb : BodyD P w K mg base T qual st N io k fb) : SmD P w K mg base T n m (k + 1) ps io (mDef N.length io fb) := by
  obtain ⟨C, p, f, mc, fd, hm, r, cm, F, b⟩ := F.out
  exact ⟨C, p, f, mc, fd, hm, r, cm, b, dfn_body F S hb⟩
theorem ind_mk (F : InAt K mg n qual st ps) (S : FnScope N ps (defScope st)) (hb : BodyD P w K mg base T qual st N [0] k fb) : InD P w K mg base T n (k + 1) ps (mDef N.length [0] fb) := by
  obtain ⟨C, f, fd, hm, ok, mk, F, b⟩ := F.out
  exact ⟨C, f, fd, hm, ok, mk, b, dfn_body F S hb⟩
end

/-! ### from what the top has written -/
/-- the text's facts of an own class with a dict -/
structure ClK (K : PySem.W.Frag) (C : Addr) : Prop where
  pg : PySem.W.plainGet K C Str.empty = true
  hd : PySem.W.hasDictIn K C = true
  po : PySem.W.plainOver K C = true
  sa : PySem.W.findIn K (.ref C) "__setattr__" = some (some (.builtin "object.__setattr__"))
  ha : PySem.W.findIn K (.ref C) "__class__" = some (some (.builtin "object.__class__"))
  hn : PySem.W.specialIn K (.builtin "object.__class__") "__get__" = some (some (.builtin "getset_descriptor.__get__"))
  ht : PySem.W.takesIn K (.builtin "object.__class__") = some true
  hm : PySem.W.mroIn K C (.type "object") = some true
  k1 : PySem.W.subIn K (.ref C) (.type "NoneType") = some false
  k2 : PySem.W.subIn K (.ref C) (.type "bool") = some false
  k3 : PySem.W.subIn K (.ref C) (.type "int") = some false
  k4 : PySem.W.subIn K (.ref C) (.type "str") = some false
  k5 : PySem.W.subIn K (.ref C) (.type "list") = some false
  k6 : PySem.W.subIn K (.ref C) (.type "tuple") = some false
  k7 : PySem.W.subIn K (.ref C) (.type "dict") = some false
  ic : PySem.W.isClsIn K C = true
  ty : PySem.W.typeIn K (.ref C) = some (.type "type")
theorem ClK.cls {K : PySem.W.Frag} {C : Addr} (c : ClK K C) : Cls K C := ⟨c.pg, c.hd, c.po, c.sa⟩
theorem kit_ref {K : PySem.W.Frag} {C : Addr} {T : String} (hT : PySem.W.kitMeta T = true) (h : PySem.W.subIn K (.ref C) (.type T) = some false) : PySem.W.kitOne K (.ref C) (.type T) = some false := by
  have e : ((Value.ref C : Value) == .type T) = false := rfl
  unfold PySem.W.kitOne
  rw [e, if_neg Bool.false_ne_true]
  show (if PySem.W.kitMeta T = true then PySem.W.subIn K (.ref C) (.type T) else none) = some false
  rw [if_pos hT]
  exact h
theorem ClK.obj {K : PySem.W.Frag} {C : Addr} (c : ClK K C) : ObjK K C := ⟨c.cls, c.ha, c.hn, c.ht, c.hm, fun T hT => by
  simp only [tyNames, List.mem_cons, List.mem_nil_iff, or_false] at hT
  rcases hT with rfl | rfl | rfl | rfl | rfl | rfl | rfl
  · exact kit_ref (by decide +kernel) c.k1
  · exact kit_ref (by decide +kernel) c.k2
  · exact kit_ref (by decide +kernel) c.k3
  · exact kit_ref (by decide +kernel) c.k4
  · exact kit_ref (by decide +kernel) c.k5
  · exact kit_ref (by decide +kernel) c.k6
  · exact kit_ref (by decide +kernel) c.k7⟩
theorem kit_cl {K : PySem.W.Frag} {C : Addr} {t : Value} {b : Bool} (hi : PySem.W.isClsIn K C = true) (ht : PySem.W.typeIn K (.ref C) = some (.type "type")) (hne : (t == .ref C) = false) (h : PySem.W.subIn K t (.ref C) = some b) : PySem.W.kitOne K t (.ref C) = some b := by
  unfold PySem.W.kitOne
  rw [hne, if_neg Bool.false_ne_true]
  have e2 : ((PySem.W.clsIn K C).isSome && PySem.W.typeIn K (.ref C) == some (.type "type")) = true := by
    have h2 : (PySem.W.clsIn K C).isSome = true := hi
    rw [h2, ht] <;> rfl
  show (if ((PySem.W.clsIn K C).isSome && PySem.W.typeIn K (.ref C) == some (.type "type")) = true then PySem.W.subIn K t (.ref C) else none) = some b
  rw [if_pos e2]
  exact h
theorem kit_self {K : PySem.W.Frag} {C : Addr} : PySem.W.kitOne K (.ref C) (.ref C) = some true := by
  unfold PySem.W.kitOne
  rw [if_pos (by simp)]
theorem ClK.blt {K : PySem.W.Frag} {C : Addr} (c : ClK K C) : ∀ k ∈ tyNames, PySem.W.kitOne K (.type k) (.ref C) = some false := fun k hk => by
  refine kit_cl c.ic c.ty rfl ?_
  simp only [tyNames, List.mem_cons, List.mem_nil_iff, or_false] at hk
  have key : ∀ {l : List Value}, PySem.W.subIn K (.type k) (.ref C) = some (l.contains (.ref C)) → (∀ v ∈ l, ∃ n, v = .type n) → PySem.W.subIn K (.type k) (.ref C) = some false := fun {l} e h => by
    rw [e]
    congr 1
    cases q : l.contains (.ref C) with
    | false => rfl
    | true =>
      obtain ⟨n, hn⟩ := h _ (by simpa using q)
      cases hn
  rcases hk with rfl | rfl | rfl | rfl | rfl | rfl | rfl <;> exact key (l := _) (by unfold PySem.W.subIn; rfl) fun v hv => by
    obtain ⟨n, _, rfl⟩ := List.mem_map.mp hv
    exact ⟨n, rfl⟩
abbrev tl_ValueError : List Value := PySem.HandSPX.veTail
abbrev tl_RuntimeError : List Value := [.type "RuntimeError", .type "Exception", .type "BaseException", .type "object"]
abbrev tl_OverflowError : List Value := [.type "OverflowError", .type "ArithmeticError", .type "Exception", .type "BaseException", .type "object"]
abbrev tl_IndexError : List Value := [.type "IndexError", .type "LookupError", .type "Exception", .type "BaseException", .type "object"]
/-- the isinstance table of the program's classes -/
def tbG (n m : Str) : Option Bool := if n = m then (if n = "Effect" ∨ n = "Yard" ∨ n = "Session" then some true else none) else if n = "KeptSession" ∧ m = "Session" then some true else none
/-- a class of the program is there as it is said, or not there -/
def ThereK (K : PySem.W.Frag) (mg : Str → Option Value) (n : Str) : Prop := (∃ C, mg n = some (.ref C) ∧ ClK K C) ∨ mg n = none
theorem tb_ok {G : Gc} (h1 : ThereK G.K G.mg "Effect") (h2 : ThereK G.K G.mg "Yard") (h3 : ThereK G.K G.mg "Session") (h4 : ∀ C E, G.mg "KeptSession" = some (.ref C) → G.mg "Session" = some (.ref E) → PySem.W.kitOne G.K (.ref C) (.ref E) = some true) : TbOk G tbG := by
  have th : ∀ {m : Str} {E : Addr}, (m = "Effect" ∨ m = "Yard" ∨ m = "Session") → G.mg m = some (.ref E) → ClK G.K E := fun {m E} hm e => by
    have key : ∀ {m : Str}, ThereK G.K G.mg m → G.mg m = some (.ref E) → ClK G.K E := fun {m} t e => by
      rcases t with ⟨C, hC, c⟩ | t
      · rw [e] at hC; cases hC; exact c
      · rw [e] at t; cases t
    rcases hm with rfl | rfl | rfl
    · exact key h1 e
    · exact key h2 e
    · exact key h3 e
  refine ⟨fun n m b C E hb hC hE => ?_, fun m E hb hE => ?_⟩
  · unfold tbG at hb
    split at hb
    · rename_i e
      subst e
      rw [hC] at hE
      cases hE
      split at hb
      · cases hb; exact kit_self
      · cases hb
    · split at hb
      · rename_i e
        obtain ⟨rfl, rfl⟩ := e
        cases hb
        exact h4 C E hC hE
      · cases hb
  · unfold tbG at hb
    rw [if_pos rfl] at hb
    split at hb
    · rename_i e
      exact (th e hE).blt
    · cases hb
end DL

namespace DL
open PySem L2
theorem rNil : D.lst [] = rowD [] := rfl
theorem rOne {n : Int} : D.lst [.int n] = rowD [n] := rfl
@[simp] theorem dAdd_row {a b : List Int} : dAdd (rowD a) (rowD b) = if a.length + b.length ≤ lim then some (rowD (a ++ b)) else none := by
  simp [rowD]
@[simp] theorem dCat_row {a b : List Int} : dCat (rowD a) (rowD b) = if a.length + b.length ≤ lim then some (rowD (a ++ b)) else none := by
  simp [rowD]
@[simp] theorem dIx_row {a : List Int} {i : Int} : dIx (rowD a) (.int i) = (atI a i).map D.int := by
  simp [rowD, atI_map]
@[simp] theorem dLen_row {a : List Int} : dLen [rowD a] = some (.int a.length) := by simp [rowD]
@[simp] theorem dListN_row {a : List Int} : dListN [rowD a] = some (rowD a) := (rfl)
@[simp] theorem dRev_row {a : List Int} : dRev (rowD a) = some (rowD a.reverse) := by simp [rowD]
@[simp] theorem dItems_row {a : List Int} : dItems (rowD a) = some (a.map D.int) := (rfl)
theorem cutG_map {α β : Type} (f : α → β) (xs : List α) (lo hi : Option Int) : cutG (xs.map f) lo hi = (cutG xs lo hi).map f := by
  simp [cutG, List.map_take, List.map_drop]
@[simp] theorem dCut_row {a : List Int} {lo hi : Option Int} : dCut (rowD a) lo hi = some (rowD (cutG a lo hi)) := by
  simp [rowD, cutG_map]
@[simp] theorem dCutN_row {a : List Int} {lo hi : Option Int} : dCutN (rowD a) lo hi = some (rowD (cutG a lo hi)) := by
  simp [rowD, cutG_map]
theorem rep_flat_len {α : Type} (a : List α) (k : Nat) : (List.replicate k a).flatten.length = k * a.length := by
  simp [List.length_flatten]
@[simp] theorem dMul_row {a : List Int} {k : Int} : dMul (rowD a) (.int k) = if a.length * k.toNat ≤ lim ∧ -1000000 ≤ k ∧ k ≤ 1000000 then some (rowD (List.replicate k.toNat a).flatten) else none := by
  simp [rowD, List.map_flatten]
@[simp] theorem dRep_row {a : List Int} {k : Int} : dRep (rowD a) (.int k) = if a.length * k.toNat ≤ lim ∧ -1000000 ≤ k ∧ k ≤ 1000000 then some (rowD (List.replicate k.toNat a).flatten) else none := by
  simp [rowD, List.map_flatten]
@[simp] theorem eqD_row' {a b : List Int} : eqD (rowD a) (rowD b) = some (decide (a = b)) := eqD_row
@[simp] theorem eqD_rowNil {a : List Int} : eqD (rowD a) (.lst []) = some (decide (a = [])) := eqD_row (b := [])
@[simp] theorem isNon_row {a : List Int} : isNon (rowD a) = false := (rfl)
@[simp] theorem isi_row_list {tb : Str → Str → Option Bool} {a : List Int} : isiOne tb (rowD a) (.ty "list") = some true := isi_lst_list
@[simp] theorem isi_row_tuple {tb : Str → Str → Option Bool} {a : List Int} : isiOne tb (rowD a) (.ty "tuple") = some false := isi_lst_tuple
@[simp] theorem cutG_tl {α : Type} {x : α} {xs : List α} : cutG (x :: xs) (some 1) none = xs := by
  simp only [cutG, HT.sIx, List.length_cons]
  have e : min (Int.toNat 1) (xs.length + 1) = 1 := by omega
  rw [if_neg (by omega), e]
  simp
@[simp] theorem cutG_to {α : Type} {xs : List α} {n : Nat} : cutG xs none (some (n : Int)) = xs.take n := by
  simp only [cutG, HT.sIx]
  rw [if_neg (by omega)]
  simp
@[simp] theorem cutG_from {α : Type} {xs : List α} {n : Nat} : cutG xs (some (n : Int)) none = xs.drop n := by
  simp only [cutG, HT.sIx]
  rw [if_neg (by omega)]
  simp
  rcases Nat.le_total n xs.length with h | h
  · rw [Nat.min_eq_left h, List.take_of_length_le (by simp)]
  · rw [Nat.min_eq_right h, List.drop_eq_nil_of_le h]; simp
theorem isi_lt {tb : Str → Str → Option Bool} {d : D} {k : String} (h : kindOf d = some k) : dIsi tb [d, .tup [.ty "list", .ty "tuple"]] = some (.bl (isiT k "list" || isiT k "tuple")) := by
  have e : dIsi tb [d, .tup [.ty "list", .ty "tuple"]] = (isiAny d ["list", "tuple"]).map D.bl := by cases d <;> rfl
  rw [e]
  unfold isiAny
  have e2 : (["list", "tuple"] : List String).all (fun T => decide (T ∈ tyNames)) = true := by decide +kernel
  rw [if_pos e2, h]
  simp
@[simp] theorem isi_lt_lst {tb : Str → Str → Option Bool} {xs : List D} : dIsi tb [.lst xs, .tup [.ty "list", .ty "tuple"]] = some (.bl true) := isi_lt (k := "list") rfl
@[simp] theorem isi_lt_tup {tb : Str → Str → Option Bool} {xs : List D} : dIsi tb [.tup xs, .tup [.ty "list", .ty "tuple"]] = some (.bl true) := isi_lt (k := "tuple") rfl
/-- a step -/
structure Stp where
  put : Bool
  left : Bool
  n : Int
deriving DecidableEq
def wD (b : Bool) : Str := if b then "put" else "take"
def eD (b : Bool) : Str := if b then "left" else "right"
@[simp] theorem wD_t : wD true = "put" := (rfl)
@[simp] theorem wD_f : wD false = "take" := (rfl)
@[simp] theorem eD_t : eD true = "left" := (rfl)
@[simp] theorem eD_f : eD false = "right" := (rfl)
@[simp] theorem eD_inj {a b : Bool} : (eD a = eD b) = (a = b) := by cases a <;> cases b <;> simp
@[simp] theorem wD_inj {a b : Bool} : (wD a = wD b) = (a = b) := by cases a <;> cases b <;> simp
@[simp] theorem wD_put {a : Bool} : (wD a = "put") = (a = true) := by cases a <;> simp
@[simp] theorem eD_left {a : Bool} : (eD a = "left") = (a = true) := by cases a <;> simp
def stD (s : Stp) : D := .tup [.str (wD s.put), .str (eD s.left), .int s.n]
/-- steps -/
def stpsD (ss : List Stp) : D := .lst (ss.map stD)
@[simp] theorem dItems_steps {a : List Stp} : dItems (stpsD a) = some (a.map stD) := (rfl)
@[simp] theorem dLen_steps {a : List Stp} : dLen [stpsD a] = some (.int a.length) := by simp [stpsD]
@[simp] theorem isi_steps_list {tb : Str → Str → Option Bool} {a : List Stp} : isiOne tb (stpsD a) (.ty "list") = some true := isi_lst_list
@[simp] theorem dRep_steps {a : List Stp} {k : Int} : dRep (stpsD a) (.int k) = if a.length * k.toNat ≤ lim ∧ -1000000 ≤ k ∧ k ≤ 1000000 then some (stpsD (List.replicate k.toNat a).flatten) else none := by
  simp [stpsD, List.map_flatten]
@[simp] theorem dMul_steps {a : List Stp} {k : Int} : dMul (stpsD a) (.int k) = if a.length * k.toNat ≤ lim ∧ -1000000 ≤ k ∧ k ≤ 1000000 then some (stpsD (List.replicate k.toNat a).flatten) else none := by
  simp [stpsD, List.map_flatten]
@[simp] theorem dAdd_steps {a b : List Stp} : dAdd (stpsD a) (stpsD b) = if a.length + b.length ≤ lim then some (stpsD (a ++ b)) else none := by
  simp [stpsD]
@[simp] theorem dCat_steps {a b : List Stp} : dCat (stpsD a) (stpsD b) = if a.length + b.length ≤ lim then some (stpsD (a ++ b)) else none := by
  simp [stpsD]
@[simp] theorem dRev_steps {a : List Stp} : dRev (stpsD a) = some (stpsD a.reverse) := by simp [stpsD]
@[simp] theorem isi_lt_steps {tb : Str → Str → Option Bool} {xs : List Stp} : dIsi tb [stpsD xs, .tup [.ty "list", .ty "tuple"]] = some (.bl true) := isi_lt_lst
/-- an answer -/
def Is (v : D) (d : D) (_ : Bool) (es : List D) : Prop := d = v ∧ es = []
/-- a two-part answer or None -/
def sideD : Option (List Int × List Int) → D
  | none => .non
  | some (a, b) => .tup [rowD a, rowD b]
def longD : Option (List Int × List Int × List Int × List Int) → D
  | none => .non
  | some (p, x, s, y) => .tup [rowD p, rowD x, rowD s, rowD y]
/-- a step at one end, on what is needed and what is given, the outermost first -/
def oStep (b : Bool) (o : List Int × List Int) (s : Stp) : Option (List Int × List Int) :=
  if s.left = b then (if s.put then some (o.1, s.n :: o.2) else match o.2 with
    | [] => some (o.1 ++ [s.n], [])
    | g :: gs => if g = s.n then some (o.1, gs) else none) else some o
def oRun (b : Bool) : List Stp → List Int × List Int → Option (List Int × List Int)
  | [], o => some o
  | s :: ss, o => (oStep b o s).bind (oRun b ss)
def ordS (b : Bool) (ss : List Stp) : Option (List Int × List Int) := (oRun b ss ([], [])).map fun o => if b then o else (o.1.reverse, o.2.reverse)
def longP (ss : List Stp) : Option (List Int × List Int × List Int × List Int) := match ordS true ss, ordS false ss with
  | some (p, x), some (s, y) => some (p, x, s, y)
  | _, _ => none
theorem oStep_len {b : Bool} {o o' : List Int × List Int} {s : Stp} (h : oStep b o s = some o') : o'.1.length ≤ o.1.length + 1 ∧ o'.2.length ≤ o.2.length + 1 := by
  unfold oStep at h
  split at h
  · split at h
    · cases h; simp
    · split at h
      · cases h; simp [*]
      · split at h
        · cases h; simp [*]; omega
        · cases h
  · cases h; omega
/-- a comprehension over typed things -/
theorem wp_turns_mapA {α : Type} {Δ : SD} {E : EX} {vs : List Nat} {t : D → M Unit} {ft : M Bool} {fe : M D} {xs : List α} {cv : α → D} {P : List D → SD → Prop} (F : α → D)
    (step : ∀ a ∈ xs, wp (t (cv a)) (wipeD Δ vs) (K := ⟨(fun _ Δ1 => wp ft Δ1 (K := ⟨(fun b Δ2 => b = true ∧ wp fe Δ2 (K := ⟨(fun e Δ3 => e = F a ∧ wipeD Δ3 vs = wipeD Δ vs), E⟩)), E⟩)), noE⟩))
    (fin : P (xs.map F) (wipeD Δ vs)) : wp (mTurns vs t ft fe (xs.map cv)) Δ (K := ⟨P, E⟩) := by
  refine wp_turns_inv (fun i acc Δ' => i ≤ xs.length ∧ acc = (xs.take i).map F ∧ Δ' = wipeD Δ vs) ⟨Nat.zero_le _, rfl, rfl⟩ (fun i d acc Δ' hd q => ?_) (fun acc Δ' q => ?_)
  · obtain ⟨hi, rfl, rfl⟩ := q
    rw [List.getElem?_map] at hd
    obtain ⟨a, ha, rfl⟩ := Option.map_eq_some_iff.mp hd
    have hlt := (List.getElem?_eq_some_iff.mp ha).1
    have hm : a ∈ xs := List.mem_of_getElem? ha
    have et : xs.take (i + 1) = xs.take i ++ [a] := by
      rw [List.take_add_one, ha]; rfl
    refine wp_mono (step a hm) (fun _ Δ1 q => wp_mono q (fun b Δ2 q2 => ?_) fun _ _ _ z => z) fun _ _ _ z => z
    rw [if_pos q2.1]
    refine wp_mono q2.2 (fun e Δ3 q3 => ⟨hlt, ?_, q3.2⟩) fun _ _ _ z => z
    rw [et, List.map_append, q3.1]
    rfl
  · obtain ⟨_, rfl, rfl⟩ := q
    rw [List.length_map, List.take_length]
    exact fin
theorem rStps {ss : List Stp} : D.lst (ss.map stD) = stpsD ss := rfl
theorem bls_mapA {α : Type} {f : α → Bool} : ∀ {xs : List α}, dBls (xs.map fun a => D.bl (f a)) = some (xs.map f)
  | [] => rfl
  | x :: xs => by
    have e : dBls ((x :: xs).map fun a => D.bl (f a)) = (dBls (xs.map fun a => D.bl (f a))).map (f x :: ·) := rfl
    rw [e, bls_mapA]; rfl
@[simp] theorem bls_rep {b : Bool} {n : Nat} : dBls (List.replicate n (D.bl b)) = some (List.replicate n b) := by
  have e := bls_mapA (f := fun _ : Unit => b) (xs := List.replicate n ())
  simpa using e
/-- an answer whose object is new -/
def IsF (v : D) (d : D) (fr : Bool) (es : List D) : Prop := d = v ∧ fr = true ∧ es = []
@[simp] theorem isLst_steps {ss : List Stp} : isLst (stpsD ss) = true := (rfl)
@[simp] theorem isLst_row {ss : List Int} : isLst (rowD ss) = true := (rfl)
@[simp] theorem gApp_steps {ss : List Stp} {s : Stp} : gApp (stD s) (stpsD ss) = if ss.length < lim then some ((), stpsD (ss ++ [s])) else none := by simp [stpsD]
@[simp] theorem gApp_row {ss : List Int} {n : Int} : gApp (.int n) (rowD ss) = if ss.length < lim then some ((), rowD (ss ++ [n])) else none := by simp [rowD]
theorem stD_fold {w e : Bool} {n : Int} : D.tup [.str (wD w), .str (eD e), .int n] = stD ⟨w, e, n⟩ := rfl
theorem sNil : D.lst [] = stpsD [] := rfl
@[simp] theorem dSum_lst {ds : List D} : dSum [.lst ds] = (dInts ds).map fun ns => D.int ns.sum := (rfl)
@[simp] theorem dInts_nil : dInts [] = some [] := (rfl)
@[simp] theorem dInts_cons {i : Int} {ds : List D} : dInts (.int i :: ds) = (dInts ds).map (i :: ·) := (rfl)
@[simp] theorem dInts_map {ns : List Int} : dInts (ns.map D.int) = some ns := by
  induction ns with
  | nil => rfl
  | cons n ns ih => rw [List.map_cons, dInts_cons, ih]; rfl
/-- a row after a step -/
def stepped (r : List Int) (s : Stp) : Option (List Int) :=
  if s.put then some (if s.left then s.n :: r else r ++ [s.n])
  else if s.left then (match r with
    | [] => none
    | x :: xs => if x = s.n then some xs else none)
  else (match r.getLast? with
    | none => none
    | some x => if x = s.n then some r.dropLast else none)
def runS (r : List Int) : List Stp → Option (List Int)
  | [] => some r
  | s :: ss => (stepped r s).bind fun r' => runS r' ss
def rowO : Option (List Int) → D
  | none => .non
  | some r => rowD r
theorem stepped_len {r r' : List Int} {s : Stp} (h : stepped r s = some r') : r'.length ≤ r.length + 1 := by
  unfold stepped at h
  split at h
  · cases h; split <;> simp
  · split at h
    · split at h
      · cases h
      · split at h
        · cases h; simp; omega
        · cases h
    · split at h
      · cases h
      · split at h
        · cases h; simp; omega
        · cases h
theorem atI_endx {α : Type} {r : List α} {x : α} : atI (r ++ [x]) (-1) = some x := by
  rw [atI_last (by simp)]; simp
theorem cutG_endx {α : Type} {r : List α} {x : α} : cutG (r ++ [x]) none (some (-1)) = r := by
  simp only [cutG, HT.sIx]
  rw [if_pos (by omega)]
  have e : ((-1 : Int) + ((r ++ [x]).length : Nat)).toNat = r.length := by simp; omega
  rw [e]
  simp
def StB (k : Int) (ss : List Stp) : Prop := ∀ s ∈ ss, 0 ≤ s.n ∧ s.n < k
/-- a side's power, told as (needed, given, unit, times at needed, times at given) -/
abbrev Pow5 : Type := List Int × List Int × List Int × Int × Int
def powD : Option Pow5 → D
  | none => .non
  | some (a, b, c, i, j) => .tup [rowD a, rowD b, rowD c, .int i, .int j]
def outPow (N G : List Int) (e : Int) : Option Pow5 :=
  if e = 0 then some ([], [], [], 0, 0)
  else if N = G then some (N, G, [], 0, 0)
  else if G.take N.length = N then some (N, N, G.drop N.length, 0, e)
  else if N.take G.length = G then some (G, G, N.drop G.length, e, 0)
  else if e = 1 then some (N, G, [], 0, 0) else none
def lpowD : Option (Pow5 × Pow5) → D
  | none => .non
  | some (l, r) => .tup [powD (some l), powD (some r)]
def longPow (p x s y : List Int) (e : Int) : Option (Pow5 × Pow5) := match outPow p x e, outPow s.reverse y.reverse e with
  | some l, some (a, b, c, i, j) => some (l, (a.reverse, b.reverse, c.reverse, i, j))
  | _, _ => none
def stepsOf (p x s y : List Int) : List Stp := ((p.map (Stp.mk false true) ++ x.reverse.map (Stp.mk true true)) ++ s.reverse.map (Stp.mk false false)) ++ y.map (Stp.mk true false)
@[simp] theorem atI_3 {α : Type} {x y z u : α} {xs : List α} : atI (x :: y :: z :: u :: xs) 3 = some u := by
  have h : ixN (x :: y :: z :: u :: xs).length 3 = some 3 := by
    unfold ixN
    rw [if_pos (by decide), if_pos (by simp only [List.length_cons]; omega)]; rfl
  unfold atI; rw [h]; rfl
@[simp] theorem atI_4 {α : Type} {x y z u v : α} {xs : List α} : atI (x :: y :: z :: u :: v :: xs) 4 = some v := by
  have h : ixN (x :: y :: z :: u :: v :: xs).length 4 = some 4 := by
    unfold ixN
    rw [if_pos (by decide), if_pos (by simp only [List.length_cons]; omega)]; rfl
  unfold atI; rw [h]; rfl
/-- rows of items that are not too great -/
def Nb (xs : List Int) : Prop := ∀ x ∈ xs, 0 ≤ x ∧ x < 10 ^ 30
theorem log_nb {x : Int} (h : 0 ≤ x ∧ x < 10 ^ 30) : x.natAbs.log2 < 100 := by
  rcases Nat.eq_zero_or_pos x.natAbs with e | e
  · rw [e]; decide
  · rw [Nat.log2_lt (by omega)]; omega
theorem sh_nb : ∀ {xs : List Int}, Nb xs → shL (xs.map D.int) = true
  | [], _ => rfl
  | x :: xs, h => by
    have h1 := log_nb (h x (List.mem_cons_self ..))
    have h2 := sh_nb (xs := xs) fun y hy => h y (List.mem_cons_of_mem _ hy)
    simp only [List.map_cons, shL, shD, h2, Bool.and_true, decide_eq_true_eq]
    omega
theorem wt_nb : ∀ {xs : List Int}, Nb xs → wtL (xs.map D.int) ≤ 104 * xs.length
  | [], _ => Nat.le_refl _
  | x :: xs, h => by
    have h1 := log_nb (h x (List.mem_cons_self ..))
    have h2 := wt_nb (xs := xs) fun y hy => h y (List.mem_cons_of_mem _ hy)
    simp only [List.map_cons, wtL, wt, List.length_cons]
    omega
theorem pl_row {xs : List Int} : Pl 1 (rowD xs) = true := pl_ints xs
theorem repr_long {p x s y : List Int} (hp : Nb p) (hx : Nb x) (hs : Nb s) (hy : Nb y) (h : p.length ≤ 1000 ∧ x.length ≤ 1000 ∧ s.length ≤ 1000 ∧ y.length ≤ 1000) : ∃ z, dRepr [longD (some (p, x, s, y))] = some (.str z) := by
  refine repr_pl (n := 2) (by omega) ?_ ?_ ?_
  · show List.all [rowD p, rowD x, rowD s, rowD y] (Pl 1) = true
    simp [pl_row]
  · show shL [rowD p, rowD x, rowD s, rowD y] = true
    simp [shL, shD, rowD, sh_nb hp, sh_nb hx, sh_nb hs, sh_nb hy]
  · show wtL [rowD p, rowD x, rowD s, rowD y] + 4 ≤ lim
    have a := wt_nb hp
    have b := wt_nb hx
    have c := wt_nb hs
    have d := wt_nb hy
    simp only [wtL, rowD, wt]
    unfold lim
    omega
theorem longD_inj {a b : List Int × List Int × List Int × List Int} : longD (some a) = longD (some b) ↔ a = b := by
  obtain ⟨p, x, s, y⟩ := a
  obtain ⟨p', x', s', y'⟩ := b
  constructor
  · intro h
    have h' : [rowD p, rowD x, rowD s, rowD y] = [rowD p', rowD x', rowD s', rowD y'] := D.tup.inj h
    simp only [List.cons.injEq, rowD_inj] at h'
    obtain ⟨rfl, rfl, rfl, rfl, _⟩ := h'
    rfl
  · intro h; rw [h]
theorem eqD_long {a b : List Int × List Int × List Int × List Int} : eqD (longD (some a)) (longD (some b)) = some (decide (a = b)) := by
  have pl : ∀ {a : List Int × List Int × List Int × List Int}, Pl 2 (longD (some a)) = true := fun {a} => by
    show List.all [rowD a.1, rowD a.2.1, rowD a.2.2.1, rowD a.2.2.2] (Pl 1) = true
    simp [pl_row]
  rw [eqD_pl (n := 2) (by omega) pl pl]
  congr 1
  rw [Bool.eq_iff_iff, eqB_iff, decide_eq_true_eq, longD_inj]
theorem Nb.nn {xs : List Int} (h : Nb xs) : ∀ x ∈ xs, 0 ≤ x := fun x hx => (h x hx).1
theorem Nb.rev {xs : List Int} (h : Nb xs) : Nb xs.reverse := fun x hx => h x (List.mem_reverse.mp hx)
theorem Nb.app {xs ys : List Int} (h : Nb xs) (h2 : Nb ys) : Nb (xs ++ ys) := fun x hx => by
  rcases List.mem_append.mp hx with q | q
  · exact h x q
  · exact h2 x q
/-- whole rows only -/
def Nn (xs : List Int) : Prop := ∀ x ∈ xs, 0 ≤ x
def NnS (ss : List Stp) : Prop := ∀ s ∈ ss, 0 ≤ s.n
end DL

namespace DL
open PySem L2 DLE PySem.Spec PyProof.Rows
def mXop (g : D → D → Option D) (fa fb : M D) : M D := mBind fa fun x => mBind fb fun y => mOpt (g x y)
section
variable {X : Cx} {c : Ct} {i : Nat} {e ea eb : Expr} {es : List Expr} {pos p1 p2 p3 pos' : Pos} {f fa fb : Str → Option D → M D}
theorem dx_cmp {op : CmpOp} {r : R2} {g : D → D → Option D} (ho : ∀ (a : Addr) (pn : List (Addr × Obj)), OpR (X.suite a pn) (compareOp op) r) (h : OpD c.toGc r g) (ha : DX X c i ea fa) (hb : DX X c i eb fb) (hm : behindInMarks op eb = false) : DX X c i (.Compare ea [op] [eb] pos) (fun n d => mXop g (fa n d) (fb n d)) := by
  refine ⟨fun a oe C dx pn hz hf => ?_⟩
  obtain ⟨ta, pa, sa⟩ := ha.out a oe C dx pn hz hf
  obtain ⟨tb, pb, sb⟩ := hb.out a oe C dx pn hz hf
  refine ⟨_, pe_cmpR (ho a _) pa pb hm, fun n d x σ H Δ Q hs sr xr z => ?_⟩
  refine sa n d x σ H Δ _ hs sr xr (Post.bind z fun v Δ1 z1 vv x1 H1 k1 sr1 r1 => ?_)
  refine sb n d x1 σ H1 Δ1 _ hs sr1 (ExG.kp sr k1 xr) (Post.bind (z1.step k1 fun a Δ q => okV.step k1 q) fun u Δ2 z2 uu x2 H2 k2 sr2 r2 => ?_)
  exact h x2.Av H2 v u vv uu Q sr2.fr (.inl (r1.kp sr1 k2)) (.inl r2) (Post.outV sr2 (z2.step k2 fun a Δ q => okV.step k2 q))
theorem dsu_app {j : Nat} {y : Str} (hK : c.K = X.K) (hN : X.N[j]? = some y) (hv : Vis X.env.scope y) (h : DX X c i e f)
    (hd : (y == ("__debug__" : Str)) = false := by decide) (hcd : (y == ("__classdict__" : Str)) = false := by decide)
    (hbase : ∀ (a : Addr) (pn : List (Addr × Obj)), attributeBase (.Name y p1) "append" (X.suite a pn).env (eval (.Name y p1) (X.suite a pn).env) = eval (.Name y p1) (X.suite a pn).env := by intro _ _; rfl)
    (hfew : ∀ (a : Addr) (pn : List (Addr × Obj)), ((backTo pos (starEach [e] (X.suite a pn).env)).all (fun x => !x.1) && (backToKw pos (keywordEach [] (X.suite a pn).env)).all (fun x => x.1.isSome)
      && decide ([e].length + ([] : List Keyword).length + (if ([] : List Keyword).isEmpty then 0 else 1) < 30)) = true := by intro _ _; rfl)
    (hline : (p2.endLine == pos.line) = true := by rfl) (hs : ∀ (a : Addr) (pn : List (Addr × Obj)), starEach [e] (X.suite a pn).env = (false, eval e (X.suite a pn).env) :: starEach [] (X.suite a pn).env := by intro _ _; rfl)
    (hplain : ∀ (a : Addr) (pn : List (Addr × Obj)), (backTo pos (starEach [] (X.suite a pn).env)).any (·.1) = false := by intro _ _; rfl)
    (hsw : ∀ (a : Addr) (pn : List (Addr × Obj)), swapsWith (.Call (.Attribute (.Name y p1) "append" p2) [e] [] pos) none pos'.line (X.suite a pn).env = pure false := by intro _ _; rfl) :
    DSu X c [.Expr (.Call (.Attribute (.Name y p1) "append" p2) [e] [] pos) pos'] (some i) (fun n d => mDrop (mApp j (f n d))) := by
  refine dsu_of fun a oe C dx pn hz hfv => ?_
  obtain ⟨t, p, s⟩ := h.out a oe C dx pn hz hfv
  refine ⟨_, pss_one (ps_expr (pe_bm (X := X.suite a ((a, oe) :: pn)) PySem.F.plainAttrs_list PySem.F.slot_list_append PySem.F.type_list_append mt_append (pe_var hN hv hd hcd) (pa_cons p pa_nil (hs a _)) (hbase a _) (hfew a _) hline (hs a _) (hplain a _)) (hsw a _)), fun n d x σ H Δ E hi sr xr q => ?_⟩
  have q0 : Post c noW x σ H (fun _ Δ1 => okS c x H E .nx Δ1) (mApp j (f n d) Δ) := PostS.bind q fun v Δ1 q1 => q1
  obtain ⟨d0, e0, hp0, q1⟩ := Post.hold q0
  obtain ⟨al, ha, hσ, ho, _⟩ := sr.owAt e0
  obtain ⟨ds0, rfl⟩ := isLst_some hp0
  obtain ⟨vs0, hH0, _⟩ := ho
  refine ⟨.ref al, hσ, .inl ⟨rfl, vs0, SqL.of hH0⟩, s n d x σ H Δ _ hi sr xr (q1.bind fun v Δ1 q2 vv x1 H1 k1 sr1 r1 => ?_)⟩
  obtain ⟨dl, b, d', e1, eu, q3⟩ := Post.upd q2
  obtain ⟨a', ha', hσ', ho', nav⟩ := sr1.owAt e1
  rw [hσ] at hσ'; cases hσ'
  obtain ⟨ds, rfl, hl, rfl⟩ := gApp_some eu
  obtain ⟨vs, hH, rl⟩ := ho'
  refine ⟨al, vs, vv, rfl, rfl, hH, by rw [repL_length rl]; exact lim_lt hl, ?_⟩
  have kp : Keep c.toGc x1.Av x1.Av H1 (L2.upd H1 al (.lst (vs ++ [vv]))) := Keep.temp _ nav
  obtain ⟨k2, sr2⟩ := sr1.ownUpd (o' := .lst (vs ++ [vv])) (d' := .lst (ds ++ [v])) e1 ha' ⟨_, upd_same, (rl.keep kp).app (by unfold RepL; exact ⟨vv, [], rfl, r1.keep kp, by unfold RepL; rfl⟩)⟩
  exact q3 σ x1 _ (k1.trans k2) sr2
end

/-! the classes that are caught: lists -/
def txOf (l : List (Str × Str × Bool)) (n m : Str) : Option Bool := (l.find? fun t => t.1 == n && t.2.1 == m).map (·.2.2)
theorem tx_nil {G : Gc} : TxOk G (txOf []) := fun _ _ _ h => by simp [txOf] at h
theorem tx_cons {G : Gc} {l : List (Str × Str × Bool)} {n m : Str} {b : Bool} {C C' : Addr} (h1 : G.mg n = some (.ref C)) (h2 : G.mg m = some (.ref C')) (h3 : PySem.W.exmOne G.K (.ref C) (.ref C') = some b) (r : TxOk G (txOf l)) : TxOk G (txOf ((n, m, b) :: l)) := by
  intro n' m' b' h
  unfold txOf at h
  rw [List.find?_cons] at h
  by_cases e : (n == n' && m == m') = true
  · rw [e] at h
    rw [Bool.and_eq_true, beq_iff_eq, beq_iff_eq] at e
    obtain ⟨rfl, rfl⟩ := e
    cases h
    exact ⟨C, C', h1, h2, h3⟩
  · rw [Bool.not_eq_true] at e
    rw [e] at h
    exact r n' m' b' h
theorem ec_nil {K : PySem.W.Frag} {mg : Str → Option Value} : ∀ n ∈ ([] : List Str), EcD K mg n := fun _ h => nomatch h
theorem ec_cons {K : PySem.W.Frag} {mg : Str → Option Value} {m : Str} {ns : List Str} (h : EcD K mg m) (r : ∀ n ∈ ns, EcD K mg n) : ∀ n ∈ m :: ns, EcD K mg n := fun n hn => by
  rcases List.mem_cons.mp hn with rfl | hn
  · exact h
  · exact r n hn
/-! what they answer -/
section
variable {Δ : SD} {E : EX}
@[simp] theorem wp_mraise {n : Str} {fs : M (List AK)} {P : Fl → SD → Prop} : wp (mRaise n fs) Δ (K := ⟨P, E⟩) = wp fs Δ (K := ⟨fun as Δ1 => wp (mVals as) Δ1 (K := ⟨fun ds Δ2 => ∃ d, ds = [d] ∧ E n (some d) Δ2, E⟩), E⟩) := by
  unfold mRaise
  rw [wp_bind]
  refine wp_ext fun as Δ1 => ?_
  rw [wp_bind]
  refine wp_ext fun ds Δ2 => ?_
  unfold wp
  rcases ds with _ | ⟨d, _ | ⟨d2, ds⟩⟩ <;> simp
@[simp] theorem wp_try {f : M Fl} {h : HMir} {P : Fl → SD → Prop} : wp (mTry f h) Δ (K := ⟨P, E⟩) = wp f Δ (K := ⟨P, fun n d Δ1 => wp (h n d) Δ1 (K := ⟨P, E⟩)⟩) := by
  unfold mTry wp
  dsimp only
  cases f Δ <;> rfl
def onTx (o : Option Bool) (a b : Prop) : Prop := match o with
  | some true => a
  | some false => b
  | none => False
@[simp] theorem onTx_t {a b : Prop} : onTx (some true) a b = a := (rfl)
@[simp] theorem onTx_f {a b : Prop} : onTx (some false) a b = b := (rfl)
theorem wp_catch {tx : Str → Str → Option Bool} {m n : Str} {o : Option Nat} {h : HMir} {r : List (Str × Option Nat × HMir)} {d : Option D} {P : Fl → SD → Prop} : wp (mCatch tx ((m, o, h) :: r) n d) Δ (K := ⟨P, E⟩) = onTx (tx n m) (wp (mSuite o (h n d)) Δ (K := ⟨P, E⟩)) (wp (mCatch tx r n d) Δ (K := ⟨P, E⟩)) := by
  show wp (match tx n m with
    | some true => mSuite o (h n d)
    | some false => mCatch tx r n d
    | none => mBad) Δ (K := ⟨P, E⟩) = _
  cases tx n m with
  | none => unfold wp; rfl
  | some b => cases b <;> (unfold wp; rfl)
@[simp] theorem wp_catchN {tx : Str → Str → Option Bool} {n : Str} {d : Option D} {P : Fl → SD → Prop} : wp (mCatch tx [] n d) Δ (K := ⟨P, E⟩) = E n d Δ := by unfold wp; rfl
@[simp] theorem unAt_some {i : Nat} : unAt (some i) Δ = Δ.set i .un := (rfl)
@[simp] theorem unAt_none : unAt none Δ = Δ := (rfl)
@[simp] theorem okAt_some {i : Nat} : (okAt (some i) Δ = true) = (i < Δ.length) := by simp [okAt]
@[simp] theorem okAt_none : (okAt none Δ = true) = True := by simp [okAt]
@[simp] theorem wp_suite {o : Option Nat} {f : M Fl} {P : Fl → SD → Prop} : wp (mSuite o f) Δ (K := ⟨P, E⟩) = (okAt o Δ = true ∧ wp f (unAt o Δ) (K := ⟨fun fl Δ1 => match fl with
    | .nx => P .nx (unAt o Δ1)
    | .bk => P .bk (unAt o Δ1)
    | .ct => P .ct (unAt o Δ1)
    | .rt d => P (.rt d) Δ1
    | .rf d => P (.rf d) Δ1, noE⟩)) := by
  unfold wp mSuite
  by_cases h : okAt o Δ = true
  · rw [if_pos h]
    cases f (unAt o Δ) with
    | ok fl Δ' => cases fl <;> simp [h]
    | ex n d Δ' => simp
    | bad => simp
  · rw [if_neg h]; simp [h]
@[simp] theorem wp_mval {ns : List Str} {n : Str} {d : Option D} {P : D → SD → Prop} : wp (mVal ns n d) Δ (K := ⟨P, E⟩) = (inNames ns n = true ∧ wp (mOpt d) Δ (K := ⟨P, E⟩)) := by
  unfold mVal
  by_cases h : inNames ns n = true
  · rw [if_pos h]; simp [h]
  · rw [if_neg h]; simp [h]
@[simp] theorem wp_mxl {f : M (List D)} {P : D → SD → Prop} : wp (mXl f) Δ (K := ⟨P, E⟩) = wp f Δ (K := ⟨fun ds Δ1 => ds.length ≤ lim ∧ P (.lst ds) Δ1, E⟩) := by
  unfold mXl
  rw [wp_bind]
  refine wp_ext fun ds Δ1 => ?_
  by_cases h : ds.length ≤ lim <;> simp [h]
@[simp] theorem wp_mx1 {g : List D → Option D} {f : M D} {P : D → SD → Prop} : wp (mX1 g f) Δ (K := ⟨P, E⟩) = wp f Δ (K := ⟨fun v Δ1 => wp (mOpt (g [v])) Δ1 (K := ⟨P, E⟩), E⟩) := by
  unfold mX1
  rw [wp_bind]
@[simp] theorem wp_mxop {g : D → D → Option D} {fa fb : M D} {P : D → SD → Prop} : wp (mXop g fa fb) Δ (K := ⟨P, E⟩) = wp fa Δ (K := ⟨fun v Δ1 => wp fb Δ1 (K := ⟨fun u Δ2 => wp (mOpt (g v u)) Δ2 (K := ⟨P, E⟩), E⟩), E⟩) := by
  unfold mXop
  rw [wp_bind]
  refine wp_ext fun _ _ => ?_
  rw [wp_bind]
end
end DL

namespace DL
open PySem L2 PySem.Spec PyProof.Rows
section
variable {prog : Program} {w : World} {A : Around} {E : Value → Shared → Prop} {s : Shared} {K : PySem.W.Frag} {x C f : Addr} {ox : Obj} {od : Option Obj}
theorem lenO_run {Q : Value → Shared → Prop} (X : K.In s.heap) (I : PySem.W.InstAt s.heap x ox C od) (hs : PySem.W.findIn K (.ref C) "__len__" = some (some (.ref f))) (hf : PySem.W.isFn K (.ref f) = true)
    (h : wpAny (model prog w) A.in1 (call (.ref f) [.ref x]) (fun r s1 => ∃ n u, r = Value.int n u ∧ 0 ≤ n ∧ n < 2 ^ 63 ∧ Q (.int n s1.toks) { s1 with toks := s1.toks + 1 }) E s) : wpAny (model prog w) A (call (.builtin "len") [.ref x]) Q E s := by
  refine Calls.call_function_entry kind_len plain_len entry_len (args_len1 _) ?_
  unfold Builtin.«len»
  refine wpAny_bind (m := oneArg "len" _) (wpAny_pure ?_)
  refine wpAny_bind (m := callSpecial? (.ref x) (PySem.Str.ofString "__len__")) (PySem.W.special_fn X I hs (beq_iff_eq.mp hf) (wpAny_mono h (fun r s1 hr => ?_) fun _ _ y => y))
  obtain ⟨n, u, rfl, h0, h1, q⟩ := hr
  refine wpAny_bind (wpAny_holding (wpAny_pure ?_))
  refine wpAny_bind (wpAny_letGo ?_)
  show wpAny _ _ (if n < 0 then _ else _) _ _ _
  rw [if_neg (by omega)]
  show wpAny _ _ (if n ≥ 2 ^ 63 then _ else _) _ _ _
  rw [if_neg (by omega)]
  exact wpAny_bind (wpAny_mkInt (wpAny_pure ⟨_, rfl, q⟩))
end
section
variable {X : Cx} {c : Ct} {W : WX} {k kf : Nat} {C f : Addr} {ps : List Str} {io : List Nat} {g : List D → RD} {n : Str} {ob : Expr} {fo : M AK} {pos p : Pos}
def rLenO (C : Addr) (sp : Sp) : List V → Hp → VK → Prop := fun xs H Q => match xs with
  | [v] => ∃ a dx us, v = .ref a ∧ H a = some (.ins C dx us) ∧ sp [v] H (fun z H' => ∃ i : Int, z = .int i ∧ 0 ≤ i ∧ i < 2 ^ 63 ∧ Q z H') fun _ _ _ => False
  | _ => False
theorem cr_lenO {sp : Sp} (F : DRn X.prog X.w X.K X.mg X.base c.T kf f sp) (o : Ok X c W k) (hk : kf + 1 ≤ k) (hm : Meth X.K C "__len__" f) : CallR X (.builtin "len") (rLenO C sp) := by
  intro pins s σ H xs us Q I r h
  match xs, h, r with
  | [v], h, r =>
  obtain ⟨a, dx, fs, rfl, ea, q⟩ := h
  obtain ⟨u, rfl, ru⟩ := r.one
  cases (show u = Value.ref a from ru)
  obtain ⟨mA, O, _, _, _, _⟩ := ins_get I.hok ea
  obtain ⟨od, J, _⟩ := O.look
  refine lenO_run I.kIn J hm.at_ hm.fn (wpAny_call (codeAny_mono (F.run X.A.in1 X.stack s H [.ref a] [.ref a] _ _ ((o.room.mono hk).in1) (fun h => show X.A.in1.guards = some [] from o.gd (by omega)) I.env0.in1 (.cons rfl .nil) q) fun r s' hq => ?_))
  cases r with
  | error er =>
    obtain ⟨_, _, _, _, _, _, _, _, _, _, _, _, z⟩ := hq
    exact z.elim
  | ok fl =>
    cases fl with
    | ret u =>
      obtain ⟨v, H', I3, rv, i, rfl, h0, h1, q3⟩ := I.after hq
      obtain ⟨t, e⟩ := (show ∃ t, u = Value.int i t from rv)
      cases e
      exact ⟨i, t, rfl, h0, h1, .int i, H', I3.tok _, ⟨_, rfl⟩, q3⟩
    | next => exact hq.elim
    | brk => exact hq.elim
    | cont => exact hq.elim
def lenD : D → Option D
  | .int i => if 0 ≤ i ∧ i < 2 ^ 60 then some (.int i) else none
  | _ => none
def mLenO (n : Str) (g : List D → RD) (fo : M AK) : M D := mBind fo fun a => mBind (mGet a) fun d => mBind (mOpt (if chkC n d = true then some () else none)) fun _ => mBind (mNoX (callRes 1 [] g [a])) fun r => mOpt (lenD r.1)
theorem de_lenO {x0 : Str} (F : MtD X.prog X.w X.K X.mg X.base c.T n "__len__" kf [x0] [] g) (o : Ok X c W k) (hk : kf + 1 ≤ k) (hg : Gl X "len") (hm : X.mg "len" = none) (hv : bootBuiltins "len" = some (.builtin "len")) (ho : DO X c W ob fo)
    (he : starEach [ob] X.env = (false, eval ob X.env) :: starEach [] X.env := by rfl) : DE X c W (.Call (.Name "len" p) [ob] [] pos) (mLenO n g fo) := by
  obtain ⟨C, f, fd, hC, cl, hmt, hb, dfn⟩ := F.out
  obtain ⟨ta, pa, sa⟩ := ho.out
  refine ⟨_, pe_callB (cr_lenO (dfn.raw hb) o hk hmt) hg hm hv (pa_cons pa pa_nil he) (by decide) (by decide) he rfl, fun x σ H Δ Q sr q => ?_⟩
  have key : ∀ {x : Sx} {H : Hp} {d : D} {Δ2 : SD}, Post c W x σ H (okV c x σ H Q) (mOpt (lenD d) Δ2) → okV c x σ H (fun z H' => ∃ i : Int, z = .int i ∧ 0 ≤ i ∧ i < 2 ^ 63 ∧ Q z H') d Δ2 := by
    intro x H d Δ2 z
    cases d with
    | int i =>
      have z : Post c W x σ H (okV c x σ H Q) (mOpt (if 0 ≤ i ∧ i < 2 ^ 60 then some (.int i) else none) Δ2) := z
      split at z
      · rename_i hi
        intro v x' H' k' s' r'
        have e : v = .int i := by unfold Rep at r'; exact r'
        exact ⟨i, e, hi.1, by omega, z v x' H' k' s' r'⟩
      · exact z.elim
    | _ => exact z.elim
  refine prop_ask (okr := fun x H => okV c x σ H Q) (Q := fun z H' => ∃ i : Int, z = .int i ∧ 0 ≤ i ∧ i < 2 ^ 63 ∧ Q z H') (kk := fun r => mOpt (lenD r.1)) o hC sa sr q (fun d Δ k z => okV.step k z) key (fun z => okF.okV (key z))
end
end DL

namespace DL
open PySem L2 PySem.Spec PyProof.Rows

theorem RepL.erase {G : Gc} {Av : Addr → Prop} {H : Hp} {ds : List D} {vs : List V} (r : RepL G Av H ds vs) (j : Nat) : RepL G Av H (ds.eraseIdx j) (vs.eraseIdx j) := by
  rw [List.eraseIdx_eq_take_drop_succ, List.eraseIdx_eq_take_drop_succ]
  exact (r.take j).app (r.drop (j + 1))
/-! ### x.pop(i), x.pop() -/
def gPopAt (k : D) : D → Option (D × D)
  | .lst ds => match k with
    | .int i => if -1000000 ≤ i ∧ i ≤ 1000000 then (ixN ds.length i).bind fun j => (ds[j]?).map fun d => (d, .lst (ds.eraseIdx j)) else none
    | _ => none
  | _ => none
def gPop : D → Option (D × D)
  | .lst ds => (ds[ds.length - 1]?).map fun d => (d, .lst ds.dropLast)
  | _ => none
def mPopAt (i : Nat) (fk : M AK) : M D := mBind (mHold isLst i) fun _ => mBind fk fun a => mBind (mGet a) fun k => mBind (mUpd i (gPopAt k)) fun d => mPure d
def mPop (i : Nat) : M D := mBind (mHold isLst i) fun _ => mBind (mUpd i gPop) fun d => mPure d
theorem gPopAt_some {k x x' y : D} (h : gPopAt k x = some (y, x')) : ∃ ds i j, k = .int i ∧ x = .lst ds ∧ (-1000000 ≤ i ∧ i ≤ 1000000) ∧ ixN ds.length i = some j ∧ ds[j]? = some y ∧ x' = .lst (ds.eraseIdx j) := by
  unfold gPopAt at h
  split at h
  · rename_i ds
    split at h
    · rename_i i
      split at h
      · rename_i hi
        rw [Option.bind_eq_some_iff] at h
        obtain ⟨j, ej, h⟩ := h
        rw [Option.map_eq_some_iff] at h
        obtain ⟨d, ed, h⟩ := h
        cases h
        exact ⟨ds, i, j, rfl, rfl, hi, ej, ed, rfl⟩
      · cases h
    · cases h
  · cases h
theorem gPop_some {x x' y : D} (h : gPop x = some (y, x')) : ∃ ds, x = .lst ds ∧ ds[ds.length - 1]? = some y ∧ x' = .lst ds.dropLast := by
  unfold gPop at h
  split at h
  · rename_i ds
    rw [Option.map_eq_some_iff] at h
    obtain ⟨d, ed, h⟩ := h
    cases h
    exact ⟨ds, rfl, ed, rfl⟩
  · cases h
section
variable {X : Cx} {c : Ct} {W : WX} {e : Expr} {fk : M AK} {pos p1 p2 p3 : Pos} {i : Nat} {n : Str}
theorem de_popAt (hN : X.N[i]? = some n) (hv : Vis X.env.scope n) (h : DO X c W e fk)
    (hd : (n == ("__debug__" : Str)) = false := by decide) (hcd : (n == ("__classdict__" : Str)) = false := by decide)
    (hbase : attributeBase (.Name n p1) "pop" X.env (eval (.Name n p1) X.env) = eval (.Name n p1) X.env := by rfl)
    (hfew : ((backTo pos (starEach [e] X.env)).all (fun q => !q.1) && (backToKw pos (keywordEach [] X.env)).all (fun q => q.1.isSome)
      && decide ([e].length + ([] : List Keyword).length + (if ([] : List Keyword).isEmpty then 0 else 1) < 30)) = true := by rfl)
    (hline : (p2.endLine == pos.line) = true := by rfl) (hs : starEach [e] X.env = (false, eval e X.env) :: starEach [] X.env := by rfl) (hplain : (backTo pos (starEach [] X.env)).any (·.1) = false := by rfl) :
    DE X c W (.Call (.Attribute (.Name n p1) "pop" p2) [e] [] pos) (mPopAt i fk) := by
  obtain ⟨t, p, s⟩ := h.out
  refine ⟨_, pe_bm PySem.F.plainAttrs_list PySem.F.slot_list_pop PySem.F.type_list_pop mt_popAt (pe_var hN hv hd hcd) (pa_cons p pa_nil hs) hbase hfew hline hs hplain, fun x σ H Δ Q sr q => ?_⟩
  obtain ⟨d0, e0, hp0, q1⟩ := Post.hold q
  obtain ⟨a, ha, hσ, ho, _⟩ := sr.owAt e0
  obtain ⟨ds0, rfl⟩ := isLst_some hp0
  obtain ⟨vs0, hH0, _⟩ := ho
  refine ⟨.ref a, hσ, .inl ⟨rfl, vs0, SqL.of hH0⟩, s x σ H Δ _ sr (q1.bind fun ak Δ1 q2 v x1 H1 k1 sr1 r1 => ?_)⟩
  obtain ⟨dk, rk, q3⟩ := Post.get sr1 r1 (q2.step k1 fun a Δ q => okV.step k1 q)
  obtain ⟨dl, b, d', e1, eu, q4⟩ := Post.upd q3
  obtain ⟨a', ha', hσ', ho', nav⟩ := sr1.owAt e1
  rw [hσ] at hσ'; cases hσ'
  obtain ⟨ds, z, j, rfl, rfl, hz, ej, ed, rfl⟩ := gPopAt_some eu
  obtain ⟨vs, hH, rl⟩ := ho'
  obtain ⟨y, ey, ry⟩ := rl.at ed
  have ej' : ixN vs.length z = some j := by rw [repL_length rl]; exact ej
  have hk := (ixN_seq ej').1
  rw [rep_int rk]
  refine ⟨a, vs, z, j, y, rfl, rfl, hH, by omega, by omega, hk, ey, ?_⟩
  have kp : Keep c.toGc x1.Av x1.Av H1 (L2.upd H1 a (.lst (vs.eraseIdx j))) := Keep.temp _ nav
  obtain ⟨k2, sr2⟩ := sr1.ownUpd (o' := .lst (vs.eraseIdx j)) (d' := .lst (ds.eraseIdx j)) e1 ha' ⟨_, upd_same, (rl.keep kp).erase j⟩
  exact q4 y x1 _ k2 sr2 (ry.keep kp)
theorem de_pop (hN : X.N[i]? = some n) (hv : Vis X.env.scope n)
    (hd : (n == ("__debug__" : Str)) = false := by decide) (hcd : (n == ("__classdict__" : Str)) = false := by decide)
    (hbase : attributeBase (.Name n p1) "pop" X.env (eval (.Name n p1) X.env) = eval (.Name n p1) X.env := by rfl)
    (hline : (p2.endLine == pos.line) = true := by rfl) :
    DE X c W (.Call (.Attribute (.Name n p1) "pop" p2) [] [] pos) (mPop i) := by
  refine ⟨_, pe_bm0 PySem.F.plainAttrs_list PySem.F.slot_list_pop PySem.F.type_list_pop mt_pop (pe_var hN hv hd hcd) hbase hline, fun x σ H Δ Q sr q => ?_⟩
  obtain ⟨d0, e0, hp0, q1⟩ := Post.hold q
  obtain ⟨a, ha, hσ, ho, _⟩ := sr.owAt e0
  obtain ⟨ds0, rfl⟩ := isLst_some hp0
  obtain ⟨vs0, hH0, _⟩ := ho
  refine ⟨.ref a, hσ, .inl ⟨rfl, vs0, SqL.of hH0⟩, ?_⟩
  obtain ⟨dl, b, d', e1, eu, q4⟩ := Post.upd q1
  obtain ⟨a', ha', hσ', ho', nav⟩ := sr.owAt e1
  rw [hσ] at hσ'; cases hσ'
  obtain ⟨ds, rfl, ed, rfl⟩ := gPop_some eu
  obtain ⟨vs, hH, rl⟩ := ho'
  obtain ⟨y, ey, ry⟩ := rl.at ed
  refine ⟨a, vs, y, rfl, rfl, hH, by rw [repL_length rl]; exact ey, ?_⟩
  have kp : Keep c.toGc x.Av x.Av H (L2.upd H a (.lst vs.dropLast)) := Keep.temp _ nav
  have rl2 : RepL c.toGc x.Av (L2.upd H a (.lst vs.dropLast)) ds.dropLast vs.dropLast := by
    have e1 : ds.dropLast = ds.take (ds.length - 1) := List.dropLast_eq_take
    have e2 : vs.dropLast = vs.take (ds.length - 1) := by rw [List.dropLast_eq_take, repL_length rl]
    rw [e1]
    exact cast (congrArg (RepL c.toGc x.Av (L2.upd H a (.lst vs.dropLast)) (ds.take (ds.length - 1))) e2.symm) ((rl.keep kp).take _)
  obtain ⟨k2, sr2⟩ := sr.ownUpd (o' := .lst vs.dropLast) (d' := .lst ds.dropLast) e1 ha' ⟨_, upd_same, rl2⟩
  exact q4 y x _ k2 sr2 (ry.keep kp)
end

/-! ### list(range(n)), list(range(m, n)) -/
def mLRng (g : List D → Option (List D)) (f : M (List AK)) : M D := mBind (mRng g f) fun ds => if ds.length ≤ lim then mPure (.lst ds) else mBad
theorem rg_ints {G : Gc} {Av : Addr → Prop} {H : Hp} {lo hi : Int} : RepL G Av H (intsFrom lo (hi - lo).toNat) (rgV lo hi) := by
  have h := mkL_ints (G := G) (Av := Av) (H := H) ((List.range (hi - lo).toNat).map fun i => lo + (i : Nat))
  rw [List.map_map, List.map_map] at h
  exact h
section
variable {X : Cx} {c : Ct} {W : WX} {e e2 : Expr} {fs : M (List AK)} {fa fb : M AK} {p p' pos pos' : Pos}
theorem df_lrng1 (hc : X.calm = true) (hl : Gl X "list") (hml : X.mg "list" = none) (hg : Gl X "range") (hm : X.mg "range" = none) (h : DO X c W e fa) (hs : starEach [e] X.env = (false, eval e X.env) :: starEach [] X.env := by rfl)
    (hs2 : starEach [.Call (.Name "range" p') [e] [] pos'] X.env = (false, eval (.Call (.Name "range" p') [e] [] pos') X.env) :: starEach [] X.env := by rfl) :
    DF X c W (.Call (.Name "list" p) [.Call (.Name "range" p') [e] [] pos'] [] pos) (mLRng dRng1 (mCons fa mNil)) := by
  obtain ⟨t, pt, s⟩ := h.out
  refine ⟨_, pe_listRg hc hl hml (prg_1 hg hm pt hs) hs2, fun x σ H Δ Q sr q => ?_⟩
  have q0 : Post c W x σ H (okF c x σ H Q) (mBind fa (fun a => mBind (mGet a) fun d => mBind (mOpt (dRng1 [d])) fun ds => if ds.length ≤ lim then mPure (.lst ds) else mBad) Δ) := by
    refine cast (congrArg _ ?_) q
    simp only [mLRng, mRng, mCons, mNil, mBind, mPure]
    cases fa Δ with
    | ok a Δ1 =>
      dsimp only
      simp only [mGets, mBind, mPure]
      cases mGet a Δ1 <;> rfl
    | ex n d Δ1 => rfl
    | bad => rfl
  refine s x σ H Δ _ sr (q0.bind fun a Δ1 q1 v x1 H1 k1 sr1 r1 => ?_)
  obtain ⟨d, rd, q2⟩ := Post.get sr1 r1 (q1.step k1 fun a Δ q => okF.step k1 q)
  unfold mBind at q2
  cases ed : dRng1 [d] with
  | none => rw [ed] at q2; exact q2.elim
  | some ds =>
    rw [ed] at q2
    unfold dRng1 at ed
    split at ed
    · rename_i j e1
      cases e1
      split at ed
      · rename_i hj
        cases ed
        rw [rep_int rd]
        dsimp only [mOpt, mPure] at q2
        split at q2
        · rename_i hlim
          rw [intsFrom_length] at hlim
          refine ⟨j, rfl, ⟨by omega, by omega, by omega, by omega, by unfold lim at hlim; omega⟩, fun a ha => ?_⟩
          obtain ⟨k2, sr2, h0, nr⟩ := sr1.alloc ha (Ex.new (o := .lst (rgV 0 j)) ha)
          have rr := rg_ints (G := c.toGc) (Av := fun b => x1.Av b ∧ b ≠ a) (H := L2.upd H1 a (.lst (rgV 0 j))) (lo := 0) (hi := j)
          rw [Int.sub_zero] at rr
          exact q2 a _ _ k2 (sr2 (by rw [upd_same]; intro z; cases z)) h0 ha (fun z => z.2 rfl) nr ⟨_, upd_same, rr⟩
        · exact q2.elim
      · cases ed
    · cases ed
theorem df_lrng2 (hc : X.calm = true) (hl : Gl X "list") (hml : X.mg "list" = none) (hg : Gl X "range") (hm : X.mg "range" = none) (h : DO X c W e fa) (h2 : DO X c W e2 fb) (hs : starEach [e, e2] X.env = (false, eval e X.env) :: starEach [e2] X.env := by rfl)
    (hs1 : starEach [e2] X.env = (false, eval e2 X.env) :: starEach [] X.env := by rfl) (hp : (backTo pos' (starEach [e2] X.env)).any (·.1) = false := by rfl)
    (hs2 : starEach [.Call (.Name "range" p') [e, e2] [] pos'] X.env = (false, eval (.Call (.Name "range" p') [e, e2] [] pos') X.env) :: starEach [] X.env := by rfl) :
    DF X c W (.Call (.Name "list" p) [.Call (.Name "range" p') [e, e2] [] pos'] [] pos) (mLRng dRng2 (mCons fa (mCons fb mNil))) := by
  obtain ⟨t, pt, s⟩ := h.out
  obtain ⟨t2, pt2, s2⟩ := h2.out
  refine ⟨_, pe_listRg hc hl hml (prg_2 hg hm pt pt2 hs hs1 hp) hs2, fun x σ H Δ Q sr q => ?_⟩
  have q0 : Post c W x σ H (okF c x σ H Q) (mBind fa (fun a => mBind fb fun b => mBind (mGet a) fun d => mBind (mGet b) fun d2 => mBind (mOpt (dRng2 [d, d2])) fun ds => if ds.length ≤ lim then mPure (.lst ds) else mBad) Δ) := by
    refine cast (congrArg _ ?_) q
    simp only [mLRng, mRng, mCons, mNil, mBind, mPure]
    cases fa Δ with
    | ok a Δ1 =>
      dsimp only
      cases fb Δ1 with
      | ok b Δ2 =>
        dsimp only
        simp only [mGets, mBind, mPure]
        cases mGet a Δ2 with
        | ok d Δ3 =>
          dsimp only
          cases mGet b Δ3 <;> rfl
        | ex n d Δ3 => rfl
        | bad => rfl
      | ex n d Δ1 => rfl
      | bad => rfl
    | ex n d Δ1 => rfl
    | bad => rfl
  refine s x σ H Δ _ sr (q0.bind fun a Δ1 q1 v x1 H1 k1 sr1 r1 => ?_)
  refine s2 x1 σ H1 Δ1 _ sr1 ((q1.step k1 fun a Δ q => okF.step k1 q).bind fun b Δ2 q2 u x2 H2 k2 sr2 r2 => ?_)
  have q3 := q2.step k2 fun a Δ q => okF.step k2 q
  obtain ⟨d, rd, q4⟩ := Post.get sr2 (r1.kp sr1 k2) q3
  obtain ⟨d2, rd2, q5⟩ := Post.get sr2 r2 q4
  unfold mBind at q5
  cases ed : dRng2 [d, d2] with
  | none => rw [ed] at q5; exact q5.elim
  | some ds =>
    rw [ed] at q5
    unfold dRng2 at ed
    split at ed
    · rename_i i j e1
      cases e1
      split at ed
      · rename_i hj
        cases ed
        rw [rep_int rd, rep_int rd2]
        dsimp only [mOpt, mPure] at q5
        split at q5
        · rename_i hlim
          rw [intsFrom_length] at hlim
          refine ⟨i, j, rfl, rfl, ⟨by omega, by omega, by omega, by omega, by unfold lim at hlim; omega⟩, fun a ha => ?_⟩
          obtain ⟨k2, sr3, h0, nr⟩ := sr2.alloc ha (Ex.new (o := .lst (rgV i j)) ha)
          exact q5 a _ _ k2 (sr3 (by rw [upd_same]; intro z; cases z)) h0 ha (fun z => z.2 rfl) nr ⟨_, upd_same, rg_ints⟩
        · exact q5.elim
      · cases ed
    · cases ed
end

/-! ### o[i] op= e -/
def rGetL (K : PySem.W.Frag) : V → V → Hp → VK → Prop := fun x y H Q => ∃ p xs i v, x = .ref p ∧ y = .int i ∧ SqL K H p xs ∧ 0 ≤ i ∧ i < 1000000000 ∧ xs[i.toNat]? = some v ∧ Q v H
theorem pget_list {X : Cx} : PGet X (rGetL X.K) := by
  intro pins s σ H x y v u Q I rx ry h
  obtain ⟨p, xs, i, z, rfl, rfl, hq, h0, h1, he, q⟩ := h
  cases rx
  obtain ⟨t, rfl⟩ := ry
  obtain ⟨its, r, pl, hz⟩ := I.list hq
  obtain ⟨w, ew, rw'⟩ := r.get he
  exact wpAny_getItem_list pl.isList h0 (by omega) (by simpa using ew) ⟨z, H, I, rw', q⟩
def mAugIx (g : D → D → Option D) (i : Nat) (fk fe : M AK) : M Fl := mBind (mHold isLst i) fun _ => mBind fk fun a => mBind (mGet a) fun k => mBind (mUpd i fun d => (dIxN d k).map fun v => (v, d)) fun old =>
  mBind fe fun b => mBind (mGet b) fun y => mBind (mOpt (g old y)) fun z => mBind (mUpd i fun d => (gSetL d k z).map fun d' => ((), d')) fun _ => mPure .nx
where
  dIxN : D → D → Option D
  | .lst ds, .int j => if 0 ≤ j ∧ j < 1000000000 then ds[j.toNat]? else none
  | _, _ => none
theorem set_self {Δ : SD} {i : Nat} {z : SC} (h : Δ[i]? = some z) : Δ.set i z = Δ := by
  apply List.ext_getElem?
  intro j
  by_cases e : j = i
  · subst e
    have hl : j < Δ.length := (List.getElem?_eq_some_iff.mp h).1
    rw [List.getElem?_set_self hl, h]
  · rw [List.getElem?_set_ne (Ne.symm e)]
section
variable {X : Cx} {c : Ct} {W : WX} {e ei : Expr} {fe fk : M AK} {pos p1 p2 p3 : Pos} {i : Nat} {n : Str} {op : Operator} {t : TIp} {g : D → D → Option D}
theorem ds_augIx (ho : PIp X op t) (hd : OpD c.toGc t g) (hK : c.K = X.K) (hN : X.N[i]? = some n) (hv : Vis X.env.scope n) (hk : DO X c W ei fk) (he : DO X c W e fe)
    (hdb : (n == ("__debug__" : Str)) = false := by decide) (hcd : (n == ("__classdict__" : Str)) = false := by decide)
    (ha : ∀ ov iv new, augStore ei ov iv new = (do holding [new, ov, iv] (setItem ov iv new); release [new, ov, iv] []; pure .next) := by intros; rfl) :
    DS X c W (.AugAssign (.Subscript (.Name n p1) ei p2) op e pos) (mAugIx g i fk fe) := by
  obtain ⟨te, pe, se⟩ := he.out
  obtain ⟨tk, pk, sk⟩ := hk.out
  refine ⟨_, ps_augS (pe_var hN hv hdb hcd) pk pget_list pe ho set_list ha, fun x σ H Δ E sr q => ?_⟩
  obtain ⟨d0, e0, hp0, q1⟩ := Post.hold (q.toPost (σ := σ))
  obtain ⟨a, ha0, hσ, ho0, _⟩ := sr.owAt e0
  refine ⟨.ref a, hσ, sk x σ H Δ _ sr (q1.bind fun ak Δ1 q2 v x1 H1 k1 sr1 r1 => ?_)⟩
  obtain ⟨k, rk, q3⟩ := Post.get sr1 r1 (q2.stepS k1)
  obtain ⟨d, old, d1, e1, eu, q4⟩ := Post.upd q3
  obtain ⟨a1, ha1, hσ1, ho1, nav1⟩ := sr1.owAt e1
  rw [hσ] at hσ1; cases hσ1
  rw [Option.map_eq_some_iff] at eu
  obtain ⟨old', eo, eq⟩ := eu
  cases eq
  have e1' := set_self e1
  rw [e1'] at q4
  unfold mAugIx.dIxN at eo
  split at eo
  case h_2 => cases eo
  rename_i ds j
  split at eo
  case isFalse => cases eo
  rename_i hj
  obtain ⟨vs, hH, rl⟩ := ho1
  obtain ⟨y, ey, ry⟩ := rl.at eo
  rw [rep_int rk]
  refine ⟨a, vs, j, y, rfl, rfl, SqL.of hH, hj.1, hj.2, ey, ?_⟩
  refine se x1 σ H1 Δ1 _ sr1 (q4.bind fun b Δ2 q5 u x2 H2 k2 sr2 r2 => ?_)
  obtain ⟨dy, rdy, q6⟩ := Post.get sr2 r2 (q5.stepS k2)
  refine hd x2.Av H2 old dy y u _ sr2.fr (.inl (ry.kp sr1 k2)) rdy ?_
  unfold mBind at q6
  cases eg : g old dy with
  | none => rw [eg] at q6; exact q6.elim
  | some z =>
    rw [eg] at q6
    intro w H3 ex rz
    have sr3 := sr2.ex ex
    have q7 := q6.stepS (Kp.ex ex x2)
    obtain ⟨d2, b2, d3, e3, eu2, q8⟩ := Post.upd q7
    obtain ⟨a3, ha3, hσ3, ho3, nav3⟩ := sr3.owAt e3
    rw [hσ] at hσ3; cases hσ3
    rw [Option.map_eq_some_iff] at eu2
    obtain ⟨d4, eset, eq⟩ := eu2
    cases eq
    refine set_listD x2.Av H3 a d2 (.int j) z d3 (.int j) w _ nav3 ho3 (.inl mk_int) rz eset fun o' hown => ?_
    obtain ⟨k4, sr4⟩ := sr3.ownUpd e3 ha3 hown
    exact q8 σ x2 _ k4 sr4
end

/-! ### isinstance(e, C), e the exception that a suite holds -/
/-- what the text says of a class whose exceptions are asked for their kind -/
structure EiD (K : PySem.W.Frag) (C : Addr) : Prop where
  xf : XfC K C
  ic : (PySem.W.clsIn K C).isSome = true
  ha : PySem.W.findIn K (.ref C) "__class__" = some (some (.builtin "object.__class__"))
  hm : PySem.W.mroIn K C (.type "object") = some true
  hn : PySem.W.specialIn K (.builtin "object.__class__") "__get__" = some (some (.builtin "getset_descriptor.__get__"))
  ht : PySem.W.takesIn K (.builtin "object.__class__") = some true
/-- a table of such answers -/
def EiOk (G : Gc) (cv : Value) (l : List (Str × Bool)) : Prop := ∀ n b, l.lookup n = some b → ∃ C, G.mg n = some (.ref C) ∧ EiD G.K C ∧ PySem.W.kitOne G.K (.ref C) cv = some b
theorem ei_nil {G : Gc} {cv : Value} : EiOk G cv [] := fun _ _ h => nomatch h
theorem ei_cons {G : Gc} {cv : Value} {l : List (Str × Bool)} {n : Str} {b : Bool} {C : Addr} (h1 : G.mg n = some (.ref C)) (h2 : EiD G.K C) (h3 : PySem.W.kitOne G.K (.ref C) cv = some b) (r : EiOk G cv l) : EiOk G cv ((n, b) :: l) := by
  intro m k h
  rw [List.lookup_cons] at h
  split at h
  · rename_i e
    cases h
    have e' : m = n := by simpa using e
    subst e'
    exact ⟨C, h1, h2, h3⟩
  · exact r m k h
def mIsE (l : List (Str × Bool)) (n : Str) (d : Option D) : M D := match d with
  | none => mBad
  | some _ => mOpt ((l.lookup n).map D.bl)
def rIsX (K : PySem.W.Frag) (D a : Addr) : List V → Hp → VK → Prop := fun xs H Q => ∃ (w : V) (cv : Value) (b : Bool) (dd : Addr) (fs : List (Str × V)), xs = [.ref a, w] ∧ (∀ u, RelV w u → u = cv) ∧ PySem.W.kitOne K (.ref D) cv = some b ∧ H dd = some (.xd fs) ∧ Q (.bl b) H
theorem call_isX {X : Cx} {a D dd : Addr} {oe : Obj} {pn : List (Addr × Obj)} (Z : EiD X.K D) (hz : Zc (.ref D) (some dd) oe) (hf : ∃ vs, oe.data = .fields vs) : CallR (X.suite a ((a, oe) :: pn)) (.builtin "isinstance") (fun xs H Q => ∃ (w : V) (cv : Value) (b : Bool) (fs : List (Str × V)), xs = [.ref a, w] ∧ (∀ u, RelV w u → u = cv) ∧ PySem.W.kitOne X.K (.ref D) cv = some b ∧ H dd = some (.xd fs) ∧ Q (.bl b) H) := by
  intro pins s σ H xs us Q I r ⟨w, cv, b, fs, exs, hcv, hb, hd, q⟩
  subst exs
  obtain ⟨u1, u2, rfl, r1, r2⟩ := vals2 r
  cases r1
  rw [hcv u2 r2]
  have pin := (I.pin (a, oe) (List.mem_append.mpr (.inl List.mem_cons_self))).1
  have hx : ObjOk X.prog X.w H s.heap dd (.xd fs) := I.hok dd _ hd
  obtain ⟨mA, hns, hr⟩ := hx
  obtain ⟨od, ho, hl⟩ := lookIn_ns hns
  obtain ⟨vs, hv⟩ := hf
  have J : PySem.W.InstAt s.heap a oe D (some od) := ⟨pin, hz.1, by unfold PySem.W.notCls; rw [hv] <;> rfl, by rw [hz.2]; exact ho⟩
  have T := PySem.W.kitx_exc (x := a) (ox := oe) (od := some od) Z.ic Z.xf.ga Z.xf.gg Z.xf.exC Z.ha Z.hn Z.ht Z.hm
  refine PySem.W.kia_one T I.kIn J hb (fun z => by cases z) fun tk => ?_
  exact ⟨.bl b, H, I.kept (t' := tk) (fun _ _ z => z), rfl, q⟩
section
variable {X : Cx} {c : Ct} {i : Nat} {p0 p1 p2 pos : Pos}
theorem dx_isi {x : Str} {l : List (Str × Bool)} {ec : Expr} {w : V} {cv : Value} (hG : c.toGc = ⟨X.K, X.mg, c.T⟩) (hl : EiOk ⟨X.K, X.mg, []⟩ cv l) (hw : ∀ u, RelV w u → u = cv) (hec : ∀ (a : Addr) (pn : List (Addr × Obj)), PE (X.suite a pn) ec (tC w))
    (hg : Gl X "isinstance") (hm : X.mg "isinstance" = none) (hN : X.N[i]? = some x) (hv : Vis X.env.scope x) (hd : (x == ("__debug__" : Str)) = false := by decide) (hcd : (x == ("__classdict__" : Str)) = false := by decide)
    (h1 : ∀ (a : Addr) (pn : List (Addr × Obj)), starEach [.Name x p1, ec] (X.suite a pn).env = (false, eval (.Name x p1) (X.suite a pn).env) :: starEach [ec] (X.suite a pn).env := by intro _ _; rfl)
    (h2 : ∀ (a : Addr) (pn : List (Addr × Obj)), starEach [ec] (X.suite a pn).env = (false, eval ec (X.suite a pn).env) :: starEach [] (X.suite a pn).env := by intro _ _; rfl)
    (h3 : ∀ (a : Addr) (pn : List (Addr × Obj)), (backTo pos (starEach [ec] (X.suite a pn).env)).any (·.1) = false := by intro _ _; rfl) :
    DX X c i (.Call (.Name "isinstance" p0) [.Name x p1, ec] [] pos) (mIsE l) := by
  refine ⟨fun a oe C dx pn hz hf => ?_⟩
  by_cases hC : (∃ dd, dx = some dd) ∧ ∃ n b, l.lookup n = some b ∧ X.mg n = some (.ref C)
  case neg =>
    refine ⟨fun _ _ _ => False, ⟨fun _ _ _ _ _ _ h => h.elim⟩, fun n d y σ H Δ Q hs sr xr p => ?_⟩
    unfold mIsE at p
    cases d with
    | none => exact p
    | some d =>
      dsimp only at p
      cases e : l.lookup n with
      | none => rw [e] at p; exact p
      | some b =>
        refine hC ⟨?_, n, b, e, by have h := xr.1; rw [hG] at h; exact h⟩
        obtain ⟨q, v, e1, _⟩ := xr.2
        exact ⟨q, e1⟩
  obtain ⟨⟨dd, rfl⟩, n, b, hn, hmn⟩ := hC
  obtain ⟨C', hm', Z, kb⟩ := hl n b hn
  have hm2 : X.mg n = some (.ref C') := hm'
  rw [hmn] at hm2
  cases hm2
  refine ⟨_, pe_callB (X := X.suite a ((a, oe) :: pn)) (call_isX Z hz hf) hg hm (by decide +kernel) (pa_cons (pe_var (X := X.suite a ((a, oe) :: pn)) hN hv hd hcd) (pa_cons (hec a _) pa_nil (h2 a _)) (h1 a _)) (by decide) (by decide) (h1 a _) (h3 a _), fun n' d y σ H Δ Q hs sr xr p => ?_⟩
  unfold mIsE at p
  cases d with
  | none => exact p.elim
  | some d =>
    dsimp only at p
    obtain ⟨q, v, e1, hq, hh, r⟩ := xr.2
    cases e1
    cases e : l.lookup n' with
    | none => rw [e] at p; exact p.elim
    | some b' =>
      rw [e] at p
      obtain ⟨C', hm', Z', kb'⟩ := hl n' b' e
      have hx : X.mg n' = some (.ref C) := by have h := xr.1; rw [hG] at h; exact h
      have hm2 : X.mg n' = some (.ref C') := hm'
      rw [hx] at hm2
      cases hm2
      exact ⟨.ref a, hs, w, cv, b', _, rfl, hw, kb', hh, p (.bl b') y H (Kp.refl _ _) sr mk_bl⟩
end

/-- the answers of isinstance for a class of the text; for a built-in one -/
def EiC (K : PySem.W.Frag) (mg : Str → Option Value) (x : Str) (l : List (Str × Bool)) : Prop := ∃ C, mg x = some (.ref C) ∧ EiOk ⟨K, mg, []⟩ (.ref C) l
def EiB (K : PySem.W.Frag) (mg : Str → Option Value) (x : Str) (l : List (Str × Bool)) : Prop := mg x = none ∧ ∃ T, bootBuiltins x = some (.type T) ∧ EiOk ⟨K, mg, []⟩ (.type T) l
section
variable {X : Cx} {c : Ct} {i : Nat} {p0 p1 p2 pos : Pos}
theorem dx_isC {x y : Str} {l : List (Str × Bool)} (hG : c.toGc = ⟨X.K, X.mg, c.T⟩) (hl : EiC X.K X.mg y l) (hgy : Gl X y)
    (hg : Gl X "isinstance") (hm : X.mg "isinstance" = none) (hN : X.N[i]? = some x) (hv : Vis X.env.scope x) (hd : (x == ("__debug__" : Str)) = false := by decide) (hcd : (x == ("__classdict__" : Str)) = false := by decide) (hdy : (y == ("__debug__" : Str)) = false := by decide) :
    DX X c i (.Call (.Name "isinstance" p0) [.Name x p1, .Name y p2] [] pos) (mIsE l) := by
  obtain ⟨C, hy, hl⟩ := hl
  exact dx_isi (w := .ref C) (cv := .ref C) hG hl (fun u h => h) (fun a pn => pe_glob (X := X.suite a pn) hgy hy (show RelV (.ref C) (.ref C) from rfl) hdy) hg hm hN hv hd hcd
theorem dx_isB {x y : Str} {l : List (Str × Bool)} (hG : c.toGc = ⟨X.K, X.mg, c.T⟩) (hl : EiB X.K X.mg y l) (hgy : Gl X y)
    (hg : Gl X "isinstance") (hm : X.mg "isinstance" = none) (hN : X.N[i]? = some x) (hv : Vis X.env.scope x) (hd : (x == ("__debug__" : Str)) = false := by decide) (hcd : (x == ("__classdict__" : Str)) = false := by decide) (hdy : (y == ("__debug__" : Str)) = false := by decide) (hny : y ≠ "__name__" := by decide) :
    DX X c i (.Call (.Name "isinstance" p0) [.Name x p1, .Name y p2] [] pos) (mIsE l) := by
  obtain ⟨hy, T, hb, hl⟩ := hl
  exact dx_isi (w := .ty T) (cv := .type T) hG hl (fun u h => h) (fun a pn => pe_bltn (X := X.suite a pn) hgy hy hb (show RelV (.ty T) (.type T) from rfl) hny hdy) hg hm hN hv hd hcd
end
/-! ### what the mirrors answer -/
section
variable {Δ : SD} {E : EX}
@[simp] theorem wp_popAt {i : Nat} {fk : M AK} {P : D → SD → Prop} : wp (mPopAt i fk) Δ (K := ⟨P, E⟩) = wp (mHold isLst i) Δ (K := ⟨(fun _ Δ1 => wp fk Δ1 (K := ⟨(fun a Δ2 => wp (mGet a) Δ2 (K := ⟨(fun k Δ3 => wp (mUpd i (gPopAt k)) Δ3 (K := ⟨P, E⟩)), E⟩)), E⟩)), E⟩) := by
  unfold mPopAt
  repeat (first | rfl | rw [wp_bind] | rw [wp_pure] | refine wp_ext fun _ _ => ?_)
@[simp] theorem wp_pop {i : Nat} {P : D → SD → Prop} : wp (mPop i) Δ (K := ⟨P, E⟩) = wp (mHold isLst i) Δ (K := ⟨(fun _ Δ1 => wp (mUpd i gPop) Δ1 (K := ⟨P, E⟩)), E⟩) := by
  unfold mPop
  repeat (first | rfl | rw [wp_bind] | rw [wp_pure] | refine wp_ext fun _ _ => ?_)
@[simp] theorem gPopAt_lst {ds : List D} {i : Int} : gPopAt (.int i) (.lst ds) = if -1000000 ≤ i ∧ i ≤ 1000000 then (ixN ds.length i).bind fun j => (ds[j]?).map fun d => (d, .lst (ds.eraseIdx j)) else none := (rfl)
@[simp] theorem gPop_lst {ds : List D} : gPop (.lst ds) = (ds[ds.length - 1]?).map fun d => (d, .lst ds.dropLast) := (rfl)
@[simp] theorem wp_lrng {g : List D → Option (List D)} {f : M (List AK)} {P : D → SD → Prop} : wp (mLRng g f) Δ (K := ⟨P, E⟩) = wp (mRng g f) Δ (K := ⟨fun ds Δ1 => ds.length ≤ lim ∧ P (.lst ds) Δ1, E⟩) := by
  unfold mLRng
  rw [wp_bind]
  refine wp_ext fun ds Δ1 => ?_
  by_cases h : ds.length ≤ lim <;> simp [h]
@[simp] theorem dIxN_lst {ds : List D} {i : Int} : mAugIx.dIxN (.lst ds) (.int i) = if 0 ≤ i ∧ i < 1000000000 then ds[i.toNat]? else none := (rfl)
@[simp] theorem wp_augIx {g : D → D → Option D} {i : Nat} {fk fe : M AK} {P : Fl → SD → Prop} : wp (mAugIx g i fk fe) Δ (K := ⟨P, E⟩) = wp (mHold isLst i) Δ (K := ⟨(fun _ Δ1 => wp fk Δ1 (K := ⟨(fun a Δ2 => wp (mGet a) Δ2 (K := ⟨(fun k Δ3 => wp (mUpd i fun d => (mAugIx.dIxN d k).map fun v => (v, d)) Δ3 (K := ⟨(fun old Δ4 => wp fe Δ4 (K := ⟨(fun b Δ5 => wp (mGet b) Δ5 (K := ⟨(fun y Δ6 => wp (mOpt (g old y)) Δ6 (K := ⟨(fun z Δ7 => wp (mUpd i fun d => (gSetL d k z).map fun d' => ((), d')) Δ7 (K := ⟨(fun _ Δ8 => P .nx Δ8), E⟩)), E⟩)), E⟩)), E⟩)), E⟩)), E⟩)), E⟩)), E⟩) := by
  unfold mAugIx
  repeat (first | rfl | rw [wp_bind] | rw [wp_pure] | refine wp_ext fun _ _ => ?_)
@[simp] theorem wp_isE {l : List (Str × Bool)} {n : Str} {d : D} {P : D → SD → Prop} : wp (mIsE l n (some d)) Δ (K := ⟨P, E⟩) = wp (mOpt ((l.lookup n).map D.bl)) Δ (K := ⟨P, E⟩) := by unfold wp; rfl
end
end DL

namespace DL
open PySem L2 PySem.Spec PyProof.Rows PySem.Calls

abbrev tupItO (t : Addr) : Obj := { cls := .type "tuple_iterator", data := .fields #[.ref t, .int 0 0] }
abbrev enumO (p : Addr) : Obj := { cls := .type "enumerate", data := .fields #[.none, .bool false, .ref p, rawInt 0, .none, .none] }
theorem meets_enumT (t : Addr) (its : Array Value) (ot : Obj) (hcls : ot.cls = .type "tuple") (m : Nat) (hdat : ot.data = .seq its m) :
    Meets (Builtin.«enumerate.__new__» ⟨[.type "enumerate", .ref t], []⟩) (fun _ R s => s.heap.get? t = some ot ∧
      R (.ok (.ret (.ref (s.heap.push (tupItO t)).objs.size))) { s with heap := (s.heap.push (tupItO t)).push (enumO s.heap.objs.size) }) :=
  .of_wp fun prog w A R s hyp => by
    obtain ⟨hp, gs, dr, tk, os⟩ := s
    obtain ⟨ht, hyp⟩ := hyp
    have hsub := sub_enumerate
    have hT : Heap.IsTuple (Shared.heap ⟨hp, gs, dr, tk, os⟩) t its := ⟨_, ht, hcls, m, hdat⟩
    have hT2 : Heap.IsTuple hp t its := ⟨_, ht, hcls, m, hdat⟩
    obtain ⟨oc, od, oda, osl⟩ := ot
    dsimp only at hcls hdat
    subst hcls hdat
    wp_walk using wpAny_loadPart' ht
    refine wpAny_stack_any fun st => wpAny_pure ?_
    split
    · rename_i q _ _ _ _ _
      cases (q == Value.type "enumerate") with
      | false =>
        wp_walk using wpAny_loadPart' ht, wpAny_pyIter_tuple hT
        exact ⟨_, rfl, hyp⟩
      | true =>
        wp_walk using wpAny_loadPart' ht, wpAny_pyIter_tuple hT
        exact ⟨_, rfl, hyp⟩
    · wp_walk using wpAny_loadPart' ht, wpAny_pyIter_tuple hT
      exact ⟨_, rfl, hyp⟩
theorem call_enumT {prog : Program} {w : World} {A : Around} {E : Value → Shared → Prop} {s : Shared} {t : Addr} {its : Array Value} {Q : Value → Shared → Prop} (hT : s.heap.IsTuple t its)
    (hyp : ∀ h', IsEnum h' (s.heap.objs.size + 1) s.heap.objs.size 0 .none → h'.IsTupleIter s.heap.objs.size t 0 → (∀ b o, s.heap.get? b = some o → h'.get? b = some o) → Q (.ref (s.heap.objs.size + 1)) { s with heap := h' }) :
    wpAny (model prog w) A (call (.type "enumerate") [.ref t]) Q E s := by
  obtain ⟨ot, ht, hcls, m, hdat⟩ := hT
  refine callType_new F.called_enumerate (by decide) (F.typeCall_enumerate_1 _) (F.newCall_enumerate_1 _) (fun ob => F.args_object_init_2 ob _) F.entry_enumerate_new (meets_enumT t its ot hcls m hdat) ⟨ht, ?_⟩
  have sz : (s.heap.push (tupItO t)).objs.size = s.heap.objs.size + 1 := Heap.size_push ..
  show _ ∧ _
  rw [sz]
  have he : IsEnum ((s.heap.push (tupItO t)).push (enumO s.heap.objs.size)) (s.heap.objs.size + 1) s.heap.objs.size 0 .none := by
    have q := Heap.get?_push_size (s.heap.push (tupItO t)) (o := enumO s.heap.objs.size) rfl
    rw [sz] at q
    exact q
  have hi : ((s.heap.push (tupItO t)).push (enumO s.heap.objs.size)).get? s.heap.objs.size = some (tupItO t) := Heap.get?_push_of_some _ (Heap.get?_push_size _ rfl)
  exact ⟨⟨_, he, rfl⟩, hyp _ he ⟨_, hi, rfl, rfl⟩ fun b o q => Heap.get?_push_of_some _ (Heap.get?_push_of_some _ q)⟩

/-- the tuple at a, its items in new pairs with their numbers -/
def IteT (K : PySem.W.Frag) (a : Addr) : It where
  go := fun i H => ∃ (vs : List V) (v : V), SqT K H a vs ∧ vs[i]? = some v
  yld := fun i H r H' => ∃ T v, r = .ref T ∧ H T = none ∧ H' = upd H T (.tup [.int (i : Nat), v]) ∧ ∀ vs, SqT K H a vs → vs[i]? = some v
  stop := fun i H => ∃ vs : List V, SqT K H a vs ∧ vs.length ≤ i
theorem turn_enumT {P : Program} {w : World} {K : PySem.W.Frag} {elts : List Expr} {kk : Nat} {tpos : Pos} (a e it : Addr) (ne0 : a ≠ it) (ne1 : a ≠ e) :
    Turn P w K (.Tuple elts kk tpos) (IteT K a) [e, it] e (fun i hp => (∃ old, IsEnum hp e it ((i : Nat) : Int) old) ∧ hp.IsTupleIter it a i ∧ e ≠ it) where
  mem := List.mem_cons_self
  obj := fun i hp st b hb => by
    obtain ⟨⟨old, he⟩, ⟨ob, ho, hcl, hda⟩, _⟩ := st
    have two : b = e ∨ b = it := by simpa using hb
    rcases two with rfl | rfl
    · exact ⟨_, he, fun v q => nomatch q⟩
    · exact ⟨ob, ho, fun v q => by rw [hda] at q; cases q⟩
  keep := fun i hp hp' st kp => by
    obtain ⟨⟨old, he⟩, ⟨ob, ho, hcl, hda⟩, hne⟩ := st
    exact ⟨⟨old, kp e (by simp) _ he⟩, ⟨ob, kp it (by simp) _ ho, hcl, hda⟩, hne⟩
  item := by
    intro X e1 e2 e3 hc i pins s σ H E I hf st hg
    subst e1 e2 e3
    obtain ⟨⟨old, he⟩, hit, hne⟩ := st
    obtain ⟨vs, v, hq, hv⟩ := hg
    obtain ⟨its, rv, tp, _⟩ := I.tuple hq
    obtain ⟨u, hu, ru⟩ := rv.get hv
    have el : e < s.heap.objs.size := Heap.lt_size he
    have il : it < s.heap.objs.size := by obtain ⟨_, q, _⟩ := hit; exact Heap.lt_size q
    have lt : i < its.toArray.size := by
      have := (List.getElem?_eq_some_iff.mp hu).1
      simpa using this
    have hA : X.A.in1.handled = none := I.ok.hd hc
    have notin : e ∉ [it, a] := by
      intro q
      rcases List.mem_cons.mp q with q | q
      · exact hne q
      · exact ne1 (List.mem_singleton.mp q).symm
    refine wpAny_pyNext_enum_itemD (Draws.tuple hA it a ne0 its.toArray) he ⟨hit, tp⟩ lt hne notin fun y h' tk hy ho st' hT sz hk => ?_
    have yu : y = u := by
      have q : its[i]? = some y := by simpa using hy
      rw [hu] at q; exact (Option.some.inj q).symm
    subst yu
    refine ⟨_, rfl, wpAny_letOwnedTupleGo_enum (s := { s with heap := h', toks := tk + 1 }) ho fun h2 he2 sb => ?_⟩
    have hT2 : h2.get? s.heap.objs.size = some { cls := .type "tuple", data := .seq #[.int i tk, y] } := (sb.2 _ (Nat.ne_of_gt el)).trans hT
    have fresh : ObjOk X.prog X.w (upd H s.heap.objs.size (.tup [.int (i : Nat), v])) h2 s.heap.objs.size (.tup [.int (i : Nat), v]) := by
      refine ⟨by show 2 ≤ sizeLine; decide, [.int i tk, y], .cons ⟨_, rfl⟩ (.cons ru .nil), ?_⟩
      exact ⟨_, hT2, rfl, _, rfl⟩
    have J : Inv X pins σ (upd H s.heap.objs.size (.tup [.int (i : Nat), v])) { s with heap := h2, toks := tk + 1 } := by
      refine I.turnedNew (ch := [e, it]) (fun b ob hb q => ?_) hf (Nat.le_refl _) fresh
      have nb1 : b ≠ e := fun z => hb (by simp [z])
      have nb2 : b ≠ it := fun z => hb (by simp [z])
      exact (sb.2 b nb1).trans (hk b ob nb1 nb2 q)
    have hit2 : h2.IsTupleIter it a (i + 1) := by
      obtain ⟨ob, q1, q2⟩ := st'.1
      exact ⟨ob, (sb.2 it (Ne.symm hne)).trans q1, q2⟩
    refine ⟨.ref s.heap.objs.size, _, J, rfl, ⟨_, v, rfl, I.hok.fresh (Nat.le_refl _), rfl, fun ws hw => by rw [I.tuple_inj hw hq]; exact hv⟩, ⟨⟨y, ?_⟩, hit2, hne⟩, fun b hb => ?_⟩
    · have ei : ((i + 1 : Nat) : Int) = (i : Int) + 1 := by omega
      rw [ei]
      exact he2
    · have lb : b < s.heap.objs.size := by
        have two : b = e ∨ b = it := by simpa using hb
        rcases two with rfl | rfl
        · exact el
        · exact il
      rw [upd_ne (Nat.ne_of_lt lb)]
      exact (hf b hb).1
  done := by
    intro X e1 e2 e3 hc i pins s σ H E I hf st hg
    subst e1 e2 e3
    obtain ⟨⟨old, he⟩, hit, hne⟩ := st
    obtain ⟨vs, hq, hv⟩ := hg
    obtain ⟨its, rv, tp, _⟩ := I.tuple hq
    obtain ⟨g0, g1, g2, g3, g4, g5⟩ := hf it (by simp)
    have hA : X.A.in1.handled = none := I.ok.hd hc
    have hl := rv.length
    refine enum_end (A := X.A) hA he hit tp (by simpa using (by omega : its.length ≤ i)) fun h' eb => ?_
    exact ⟨rfl, I.turned (t' := s.toks) (fun b o hb q => eb b o hb q) g0 g1 g3 g4 g5⟩
  self := fun A i s Q E st hyp => by
    obtain ⟨⟨_, he⟩, _⟩ := st
    exact wpAny_pyIter_enum he hyp
where
  enum_end {P : Program} {w : World} {A : Around} {E : Value → Shared → Prop} {s : Shared} {e it a : Addr} {i : Nat} {its : Array Value} {old : Value} {Q : Option Value → Shared → Prop} (hA : A.in1.handled = none) (he : IsEnum s.heap e it ((i : Nat) : Int) old) (hit : s.heap.IsTupleIter it a i) (tp : s.heap.IsTuple a its) (hl : its.size ≤ i)
      (hQ : ∀ h', Heap.ExtBut it s.heap h' → Q none { s with heap := h' }) : wpAny (model P w) A (pyNext (.ref e)) Q E s := by
    have hT : s.TypeIs (.ref e) "enumerate" := ⟨_, he, rfl⟩
    unfold pyNext
    refine wpAny_bind (wpAny_attempt (wpAny_callSpecial?_slot (name := Str.ofString "__next__") hT F.slot_enumerate_next (wpAny_call_entry F.slot_enumerate_next hT F.entry_enumerate_next ?_ (F.args_enumerate_next_1 _))))
    show wpAny _ _ (field (.ref e) 2 >>= _) _ _ _
    refine wpAny_bind (wpAny_field he rfl (x := .ref it) rfl ?_)
    refine wpAny_bind (wpAny_nextOf_tuple_end hA hit tp (by simp [hl]) fun h' x ex isx => ?_)
    obtain ⟨ob, ho, hcl⟩ := isx
    refine wpAny_bind (wpAny_isInstance (T := "StopIteration") (b := true) ⟨ob, ho, hcl⟩ isSubtype_stop ?_)
    exact wpAny_pure (hQ _ ex)
def iEnumT (K : PySem.W.Frag) (ta : TA) : TI := fun σ H R => ta σ H fun us H1 => ∃ a vs, us = [.ref a] ∧ SqT K H1 a vs ∧ R (IteT K a) H1
theorem pi_enumT {X : Cx} {e : Expr} {ta : TA} {p pos tpos : Pos} {elts : List Expr} {kk : Nat} (hg : Gl X "enumerate") (hm : X.mg "enumerate" = none) (ha : PA X [e] ta) (hs : starEach [e] X.env = [(false, eval e X.env)] := by rfl) :
    PI X (.Tuple elts kk tpos) (.Call (.Name "enumerate" p) [e] [] pos) (iEnumT X.K ta) := by
  refine ⟨fun pins s σ H R I hyp => Call_ (ld_blt I hg hm boot_enumerate ?_)⟩
  refine PyProof.Rows.callWith_type1 (thn (ha.run pos pins s σ H _ I hyp) fun us s1 ⟨ws, H1, I1, r1, a, vs, ew, hq, q⟩ => ?_) hs rfl
  subst ew
  cases r1 with
  | cons ra rr =>
    cases rr
    cases ra
    obtain ⟨its, rv, tp, _⟩ := I1.tuple hq
    refine call_enumT tp fun h' he hit hk => wpAny_pyIter_enum he ?_
    have I2 : Inv X pins σ H1 { s1 with heap := h' } := I1.kept (t' := s1.toks) hk
    have al : a < s1.heap.objs.size := by obtain ⟨_, q1, _⟩ := tp; exact Heap.lt_size q1
    refine ⟨s1.heap.objs.size + 1, [s1.heap.objs.size + 1, s1.heap.objs.size], _, _, H1, rfl, I2, turn_enumT a (s1.heap.objs.size + 1) s1.heap.objs.size (Nat.ne_of_lt al) (Nat.ne_of_lt (Nat.lt_succ_of_lt al)), ⟨⟨.none, he⟩, hit, Nat.succ_ne_self _⟩, fun b hb => ?_, q⟩
    have le : s1.heap.objs.size ≤ b := by
      have two : b = s1.heap.objs.size + 1 ∨ b = s1.heap.objs.size := by simpa using hb
      rcases two with rfl | rfl
      · exact Nat.le_succ _
      · exact Nat.le_refl _
    exact I1.fpOk le (I1.hok.fresh le)

theorem it_enumT {c : Ct} {x : Sx} {σ : L2.St} {H : Hp} {Δ : SD} (sr : SR c x σ H Δ) {a : Addr} {vs : List V} {ds : List D} (ha : x.Av a) (hh : H a = some (.tup vs)) (r : RepL c.toGc x.Av H ds vs) : ItOk c x H (IteT c.K a) (enumD 0 ds) := by
  intro x' σ' H' Δ' i k sr'
  have kp := sr.keep k
  have q : SqT c.K H' a vs := SqT.of (kp.tup a vs ha hh)
  have r' := r.keep kp
  refine ⟨fun hi => ⟨vs, q, by rw [repL_length r, ← enumD_length ds 0]; exact hi⟩, fun d hd => ?_⟩
  rw [enumD_at, Option.map_eq_some_iff] at hd
  obtain ⟨d', hd', rfl⟩ := hd
  obtain ⟨v, hv, rv⟩ := r'.at hd'
  refine ⟨⟨vs, v, q, hv⟩, fun u H'' y => ?_⟩
  obtain ⟨T, w, rfl, hT, rfl, y⟩ := y
  have e := y vs q
  rw [hv] at e; cases e
  rw [Nat.zero_add]
  exact mk_pair sr'.fr hT mk_int rv
def dEnumX : D → Option (List D)
  | .lst ds => some (enumD 0 ds)
  | .tup ds => some (enumD 0 ds)
  | _ => none
def mEnumX (f : M D) : M (List D) := mBind f fun d => mOpt (dEnumX d)
section
variable {X : Cx} {c : Ct} {W : WX} {e : Expr} {fe : M D} {p pos tpos : Pos}
theorem di_enumX {elts : List Expr} {kk : Nat} (hK : c.K = X.K) (hg : Gl X "enumerate") (hm : X.mg "enumerate" = none) (h : DE X c W e fe) (hs : starEach [e] X.env = [(false, eval e X.env)] := by rfl) : DI X c W (.Tuple elts kk tpos) (.Call (.Name "enumerate" p) [e] [] pos) (mEnumX fe) := by
  have pa := pa_cons h.pe pa_nil (by rw [hs]; rfl)
  refine ⟨_, PI.or (pi_enum hg hm pa hs) (pi_enumT hg hm pa hs), fun x σ H Δ R sr q => ?_⟩
  unfold mEnumX mBind at q
  cases ef : fe Δ with
  | bad => rw [ef] at q; exact q.elim
  | ex n d Δ1 =>
    rw [ef] at q
    exact .inl ⟨x, Δ, sr, by rw [ef]; exact q⟩
  | ok d Δ1 =>
    rw [ef] at q
    cases d with
    | lst ds =>
      refine .inl ⟨x, Δ, sr, ?_⟩
      rw [ef]
      intro v x1 H1 k1 sr1 r
      obtain ⟨a, vs, rfl, ha, hh, rl⟩ := lst_sh r
      rw [← hK]
      exact ⟨a, vs, rfl, SqL.of hh, q _ x1 H1 k1 sr1 (it_enum sr1 ha hh rl)⟩
    | tup ds =>
      refine .inr ⟨x, Δ, sr, ?_⟩
      rw [ef]
      intro v x1 H1 k1 sr1 r
      unfold Rep at r
      obtain ⟨a, vs, rfl, ha, hh, rl⟩ := r
      rw [← hK]
      exact ⟨a, vs, rfl, SqT.of hh, q _ x1 H1 k1 sr1 (it_enumT sr1 ha hh rl)⟩
    | _ => exact q.elim
variable {Δ : SD} {E : EX}
@[simp] theorem wp_enumX {f : M D} {P : List D → SD → Prop} : wp (mEnumX f) Δ (K := ⟨P, E⟩) = wp f Δ (K := ⟨(fun d Δ1 => wp (mOpt (dEnumX d)) Δ1 (K := ⟨P, E⟩)), E⟩) := by
  unfold mEnumX
  repeat (first | rfl | rw [wp_bind] | rw [wp_pure] | refine wp_ext fun _ _ => ?_)
@[simp] theorem dEnumX_lst {ds : List D} : dEnumX (.lst ds) = some (enumD 0 ds) := (rfl)
@[simp] theorem dEnumX_tup {ds : List D} : dEnumX (.tup ds) = some (enumD 0 ds) := (rfl)
end
end DL

namespace DL
open PySem L2 PySem.Spec PyProof.Rows

def dReprX : List D → Option D
  | [.dct []] => some (.str "{}")
  | ds => dRepr ds
def rRepr0 : List V → Hp → VK → Prop := fun xs H Q => ∃ a, xs = [V.ref a] ∧ Rd H a (.dK []) ∧ Q (.str "{}") H
theorem call_repr0 {X : Cx} (hg : X.A.guards = some []) (hu : X.A.units + 64 < cLine) : CallR X (.builtin "repr") rRepr0 := by
  intro pins s σ H xs us Q I r ⟨a, e, hd, q⟩
  subst e
  obtain ⟨u, rfl, rv⟩ := vals1 r
  cases rv
  obtain ⟨_, hns, vs, kv, o, es, ep, ho, ex, hda, _, pr, _⟩ := dk_rd I.hok hd
  have ev : vs = [] := by cases kv; rfl
  subst ev
  have ee : es.toList = [] := by
    revert pr
    generalize es.toList = l
    intro pr
    cases l with
    | nil => rfl
    | cons q l => cases pr
  have rd : Reads s.heap (.ref a) (.dict []) [a] := by
    have z := Reads.dict (h := s.heap) (a := a) (o := o) (es := es) (n := ep) (kvs := []) (as := []) (bs := []) ho ex.1 hda (by rw [ee]; exact .nil) (by rw [ee]; exact .nil)
    exact z
  have hdep : (PyData.dict []).depth ≤ 2 := by decide
  refine repr_of_reads' rd rfl (fun _ hm => ?_) hg (by omega) (fun _ _ e => e) (fun h' u tk hk => ⟨.str "{}", H, I.kept hk, ⟨_, rfl⟩, q⟩) (by decide)
  rw [List.mem_singleton] at hm
  rw [hm] at hns
  simp at hns
theorem call_reprX {X : Cx} (hg : X.A.guards = some []) (hu : X.A.units + 64 < cLine) : CallR X (.builtin "repr") (fun xs H Q => rRepr0 xs H Q ∨ rReprD X.K xs H Q) := (call_repr0 hg hu).or (call_reprD hg hu)
theorem d_reprX {G : Gc} : CaD G (fun xs H Q => rRepr0 xs H Q ∨ rReprD G.K xs H Q) dReprX := by
  intro Av H ds vs Q fr r q
  unfold dReprX at q
  split at q
  · obtain ⟨v, rfl, r1⟩ := rl_one r
    refine .inl ?_
    rcases r1 with r1 | ⟨a, rfl, us, hh, rk⟩
    · unfold Rep at r1
      obtain ⟨a, us, rfl, _, hh, rk⟩ := r1
      unfold RepK at rk
      subst rk
      exact ⟨a, rfl, hh, outV.now (G := G) (Av := Av) q mk_str⟩
    · unfold RepK at rk
      subst rk
      exact ⟨a, rfl, .inl hh, outV.now (G := G) (Av := Av) q mk_str⟩
  · exact .inr (d_repr Av H ds vs Q fr r q)
@[simp] theorem dReprX_lst {x : List D} : dReprX [.lst x] = dRepr [.lst x] := (rfl)
@[simp] theorem dReprX_tup {x : List D} : dReprX [.tup x] = dRepr [.tup x] := (rfl)
@[simp] theorem dReprX_int {x : Int} : dReprX [.int x] = dRepr [.int x] := (rfl)
@[simp] theorem dReprX_str {x : Str} : dReprX [.str x] = dRepr [.str x] := (rfl)
@[simp] theorem dReprX_bl {x : Bool} : dReprX [.bl x] = dRepr [.bl x] := (rfl)
@[simp] theorem dReprX_non : dReprX [.non] = dRepr [.non] := (rfl)
@[simp] theorem dReprX_row {x : List Int} : dReprX [rowD x] = dRepr [rowD x] := (rfl)
@[simp] theorem dReprX_stps {x : List Stp} : dReprX [stpsD x] = dRepr [stpsD x] := (rfl)
theorem dReprX_of {d z : D} (h : dRepr [d] = some z) : dReprX [d] = some z := by
  unfold dReprX
  split
  · rename_i e
    cases e
    cases h
  · exact h

/-- one thing with itself -/
theorem eqD_self {d : D} {p : PyData} (e : toPy d = some p) (h : p.depth ≤ 64) : eqD d d = some true := by
  have k : eqP d d = some true := by
    unfold eqP
    rw [e]
    dsimp only
    rw [if_pos ⟨h, h⟩, SeqAt.eqv_refl p (canLay_of e)]
  cases d with
  | str x => simp
  | _ => exact k
theorem toPyL_some {ds : List D} (h : ∀ d ∈ ds, ∃ p, toPy d = some p ∧ p.depth ≤ 10) : ∃ ps, toPyL ds = some ps ∧ PyData.depthAll ps ≤ 10 := by
  induction ds with
  | nil => exact ⟨[], rfl, Nat.zero_le _⟩
  | cons d ds ih =>
    obtain ⟨p, e, hp⟩ := h d (List.mem_cons_self ..)
    obtain ⟨ps, es, hps⟩ := ih fun x hx => h x (List.mem_cons_of_mem _ hx)
    exact ⟨p :: ps, by simp [toPyL, e, es], by simp only [PyData.depthAll]; omega⟩
theorem eqD_selfL {ds : List D} (h : ∀ d ∈ ds, ∃ p, toPy d = some p ∧ p.depth ≤ 10) : eqD (.lst ds) (.lst ds) = some true := by
  obtain ⟨ps, e, hd⟩ := toPyL_some h
  exact eqD_self (p := .list ps) (by simp [toPy, e]) (by simp only [PyData.depth]; omega)
theorem py_str {x : Str} (h : PyData.strOk x = true) : ∃ p, toPy (.str x) = some p ∧ p.depth ≤ 10 := ⟨.str x, by simp [toPy, h], by simp [PyData.depth]⟩
theorem py_bl {b : Bool} : ∃ p, toPy (.bl b) = some p ∧ p.depth ≤ 10 := ⟨.bool b, rfl, by simp [PyData.depth]⟩
theorem py_int {i : Int} : ∃ p, toPy (.int i) = some p ∧ p.depth ≤ 10 := ⟨.int i, rfl, by simp [PyData.depth]⟩

/-! ### answers of closed calls, by the kernel -/
def okBl (b : Bool) : RD → Bool
  | .ok (.bl x) _ [] => x == b
  | _ => false
theorem okBl_wp {b : Bool} {r : RD} (h : okBl b r = true) : wpR r (K := ⟨Is (.bl b), noF⟩) := by
  unfold okBl at h
  split at h
  · rename_i x fr
    have e : x = b := by simpa using h
    subst e
    unfold wpR
    exact ⟨rfl, rfl⟩
  · cases h
/-- the text of closed data -/
def reprOf (d : D) : Str := match dReprX [d] with
  | some (.str z) => z
  | _ => Str.empty
def reprB (d : D) : Bool := match dReprX [d] with
  | some (.str z) => z.cps.toList.all (fun k => decide (k < 0x110000))
  | _ => false
theorem reprB_ok {d : D} (h : reprB d = true) : dReprX [d] = some (.str (reprOf d)) ∧ PyData.strOk (reprOf d) = true := by
  unfold reprB at h
  unfold reprOf
  split at h
  · rename_i z e
    rw [e]
    refine ⟨rfl, ?_⟩
    unfold PyData.strOk
    rw [← Array.all_toList]
    exact h
  · cases h

/-! texts whose signs are signs -/
theorem ok_app {a b : Str} : PyData.strOk (a ++ b) = (PyData.strOk a && PyData.strOk b) := by
  unfold PyData.strOk
  rw [← Array.all_toList, ← Array.all_toList, ← Array.all_toList]
  have e : (a ++ b).cps.toList = a.cps.toList ++ b.cps.toList := by
    show (a.cps ++ b.cps).toList = _
    rw [Array.toList_append]
  rw [e, List.all_append]
theorem ok_string (x : String) : PyData.strOk (x : Str) = true := by
  unfold PyData.strOk
  rw [← Array.all_toList, List.all_eq_true]
  intro k hk
  rw [Str.ofString_eq_toList] at hk
  have e : k ∈ x.toList.map Char.toNat := by simpa using hk
  obtain ⟨c, _, rfl⟩ := List.mem_map.mp e
  have v := c.valid
  refine decide_eq_true ?_
  rcases v with v | v
  · exact Nat.lt_trans v (by decide)
  · exact v.2
theorem ok_from : ∀ (ts : List Str) (k : Nat) (acc : Str), PyData.strOk acc = true → (∀ t ∈ ts, PyData.strOk t = true) → PyData.strOk (textFrom k acc ts) = true
  | [], _, _, h, _ => h
  | t :: ts, k, acc, h, ht => ok_from ts (k + 1) _ (by rw [ok_app, ok_app, h, ht t (List.mem_cons_self ..), ok_string]; rfl) fun u hu => ht u (List.mem_cons_of_mem _ hu)
theorem ok_list {ts : List Str} (h : ∀ t ∈ ts, PyData.strOk t = true) : PyData.strOk (listText ts) = true := by
  unfold listText
  rw [ok_app, ok_from ts 0 _ (ok_string _) h, ok_string]
  rfl
theorem ok_join : ∀ {ts : List Str}, (∀ t ∈ ts, PyData.strOk t = true) → PyData.strOk (Str.join ", " ts) = true
  | [], _ => by decide +kernel
  | [x], h => h x (List.mem_cons_self ..)
  | x :: y :: r, h => by
    show PyData.strOk (x ++ ", " ++ Str.join ", " (y :: r)) = true
    rw [ok_app, ok_app, h x (List.mem_cons_self ..), ok_string, ok_join fun t ht => h t (List.mem_cons_of_mem _ ht)]
    rfl
theorem ok_tup {ts : List Str} (h : ∀ t ∈ ts, PyData.strOk t = true) : PyData.strOk (tupleText ts) = true := by
  unfold tupleText
  rw [ok_app, ok_app, ok_string, ok_join h, ok_string]
  rfl
mutual
/-- every text within is shown by signs -/
def txs : D → Bool
  | .str x => PyData.strOk (reprText x)
  | .lst ds => txsL ds
  | .tup ds => txsL ds
  | _ => true
def txsL : List D → Bool
  | [] => true
  | d :: ds => txs d && txsL ds
end
mutual
theorem txs_shown : ∀ {d : D} {p : PyData}, toPy d = some p → txs d = true → PyData.strOk p.shown = true
  | .non, p, e, _ => by cases e; exact ok_string _
  | .bl b, p, e, _ => by cases e; cases b <;> exact ok_string _
  | .int i, p, e, _ => by cases e; exact ok_string _
  | .str x, p, e, h => by
    simp only [toPy] at e
    split at e
    · cases e; simpa only [PyData.shown, txs] using h
    · cases e
  | .lst xs, p, e, h => by
    simp only [toPy, Option.map_eq_some_iff] at e
    obtain ⟨ps, e1, rfl⟩ := e
    simp only [PyData.shown]
    exact ok_list (txsL_shown e1 (by simpa only [txs] using h))
  | .tup xs, p, e, h => by
    simp only [toPy, Option.map_eq_some_iff] at e
    obtain ⟨ps, e1, rfl⟩ := e
    simp only [PyData.shown]
    exact ok_tup (txsL_shown e1 (by simpa only [txs] using h))
  | .dct _, p, e, _ => by cases e
  | .dcT _, p, e, _ => by cases e
  | .dcN _, p, e, _ => by cases e
  | .obj _ _, p, e, _ => by cases e
  | .scr _, p, e, _ => by cases e
  | .cls _, p, e, _ => by cases e
  | .ty _, p, e, _ => by cases e
theorem txsL_shown : ∀ {ds : List D} {ps : List PyData}, toPyL ds = some ps → txsL ds = true → ∀ t ∈ PyData.shownAll ps, PyData.strOk t = true
  | [], ps, e, _, t, ht => by cases e; exact nomatch ht
  | d :: ds, ps, e, h, t, ht => by
    simp only [toPyL, Option.bind_eq_some_iff, Option.map_eq_some_iff] at e
    obtain ⟨p, e1, qs, e2, rfl⟩ := e
    simp only [txsL, Bool.and_eq_true] at h
    simp only [PyData.shownAll, List.mem_cons] at ht
    rcases ht with rfl | ht
    · exact txs_shown e1 h.1
    · exact txsL_shown e2 h.2 t ht
end
/-- data has a text, of signs -/
def ReprG (d : D) : Prop := ∃ z, dReprX [d] = some (.str z) ∧ PyData.strOk z = true
theorem dRepr_okS {d : D} {z : Str} (h : dRepr [d] = some (.str z)) (ho : txs d = true) : PyData.strOk z = true := by
  have h' : (toPy d).bind (fun p => if reprOk p = true then some (D.str p.shown) else none) = some (.str z) := h
  rw [Option.bind_eq_some_iff] at h'
  obtain ⟨p, e, h2⟩ := h'
  split at h2
  · cases h2; exact txs_shown e ho
  · cases h2
/-- .. of plain data, by sizes -/
def bigB (d : D) : Bool := Pl 20 d && shD d && decide (wt d ≤ lim) && txs d
def reprGB (d : D) : Bool := bigB d || reprB d
theorem reprGB_ok {d : D} (h : reprGB d = true) : ReprG d := by
  unfold reprGB at h
  rw [Bool.or_eq_true] at h
  rcases h with h | h
  · unfold bigB at h
    simp only [Bool.and_eq_true, decide_eq_true_eq] at h
    obtain ⟨⟨⟨h1, h2⟩, h3⟩, h4⟩ := h
    obtain ⟨z, hz⟩ := repr_pl (by omega) h1 h2 h3
    refine ⟨z, dReprX_of hz, ?_⟩
    cases d with
    | dct _ => cases hz
    | _ => exact dRepr_okS hz h4
  · obtain ⟨a, b⟩ := reprB_ok h
    exact ⟨_, a, b⟩
/-! ### comprehensions over typed things, with a test -/
theorem wp_turns_filtA {α : Type} {Δ : SD} {E : EX} {vs : List Nat} {t : D → M Unit} {ft : M Bool} {fe : M D} {xs : List α} {cv : α → D} {P : List D → SD → Prop} (F : α → Bool) (G : α → D)
    (step : ∀ a ∈ xs, wp (t (cv a)) (wipeD Δ vs) (K := ⟨(fun _ Δ1 => wp ft Δ1 (K := ⟨(fun b Δ2 => b = F a ∧ (F a = true → wp fe Δ2 (K := ⟨(fun e Δ3 => e = G a ∧ wipeD Δ3 vs = wipeD Δ vs), E⟩)) ∧ (F a = false → wipeD Δ2 vs = wipeD Δ vs)), E⟩)), noE⟩))
    (fin : P ((xs.filter F).map G) (wipeD Δ vs)) : wp (mTurns vs t ft fe (xs.map cv)) Δ (K := ⟨P, E⟩) := by
  refine wp_turns_inv (fun i acc Δ' => i ≤ xs.length ∧ acc = ((xs.take i).filter F).map G ∧ Δ' = wipeD Δ vs) ⟨Nat.zero_le _, rfl, rfl⟩ (fun i d acc Δ' hd q => ?_) (fun acc Δ' q => ?_)
  · obtain ⟨hi, rfl, rfl⟩ := q
    rw [List.getElem?_map] at hd
    obtain ⟨a, ha, rfl⟩ := Option.map_eq_some_iff.mp hd
    have hlt := (List.getElem?_eq_some_iff.mp ha).1
    have hm : a ∈ xs := List.mem_of_getElem? ha
    have et : xs.take (i + 1) = xs.take i ++ [a] := by
      rw [List.take_add_one, ha]; rfl
    refine wp_mono (step a hm) (fun _ Δ1 q => wp_mono q (fun b Δ2 q2 => ?_) fun _ _ _ z => z) fun _ _ _ z => z
    obtain ⟨rfl, q3, q4⟩ := q2
    cases hF : F a with
    | true =>
      rw [if_pos rfl]
      refine wp_mono (q3 hF) (fun e Δ3 q5 => ⟨hlt, ?_, q5.2⟩) fun _ _ _ z => z
      rw [et, List.filter_append, List.map_append, q5.1]
      simp [hF]
    | false =>
      rw [if_neg (by simp)]
      refine ⟨hlt, ?_, q4 hF⟩
      rw [et, List.filter_append, List.map_append]
      simp [hF]
  · obtain ⟨_, rfl, rfl⟩ := q
    rw [List.length_map, List.take_length]
    exact fin

/-! ### sizes of data that is shown -/
def Cz (n w : Nat) (d : D) : Prop := Pl n d = true ∧ shD d = true ∧ wt d ≤ w
theorem cz_all {n w : Nat} {ds : List D} (h : ∀ d ∈ ds, Cz n w d) : ds.all (Pl n) = true ∧ shL ds = true ∧ wtL ds ≤ ds.length * (w + 2) := by
  induction ds with
  | nil => exact ⟨rfl, rfl, Nat.zero_le _⟩
  | cons d ds ih =>
    obtain ⟨a1, a2, a3⟩ := ih fun x hx => h x (List.mem_cons_of_mem _ hx)
    obtain ⟨b1, b2, b3⟩ := h d (List.mem_cons_self ..)
    refine ⟨by rw [List.all_cons, b1, a1]; rfl, by simp only [shL, b2, a2]; rfl, ?_⟩
    simp only [wtL, List.length_cons, Nat.succ_mul]
    omega
theorem cz_lst {n w m k : Nat} {ds : List D} (h : ∀ d ∈ ds, Cz n w d) (hl : ds.length ≤ m) (hk : m * (w + 2) + 4 ≤ k) : Cz (n + 1) k (.lst ds) := by
  obtain ⟨a1, a2, a3⟩ := cz_all h
  have h2 : ds.length * (w + 2) ≤ m * (w + 2) := Nat.mul_le_mul_right _ hl
  exact ⟨a1, by simpa only [shD] using a2, by simp only [wt]; omega⟩
theorem cz_tup {n w m k : Nat} {ds : List D} (h : ∀ d ∈ ds, Cz n w d) (hl : ds.length ≤ m) (hk : m * (w + 2) + 4 ≤ k) : Cz (n + 1) k (.tup ds) := by
  obtain ⟨a1, a2, a3⟩ := cz_all h
  have h2 : ds.length * (w + 2) ≤ m * (w + 2) := Nat.mul_le_mul_right _ hl
  exact ⟨a1, by simpa only [shD] using a2, by simp only [wt]; omega⟩
theorem pl_up {n : Nat} {d : D} (h : Pl n d = true) : Pl (n + 1) d = true := by
  induction n generalizing d with
  | zero => cases d <;> first | exact h | cases h
  | succ n ih =>
    cases d with
    | lst ds =>
      have h' : ds.all (Pl n) = true := h
      show ds.all (Pl (n + 1)) = true
      rw [List.all_eq_true] at h' ⊢
      exact fun x hx => ih (h' x hx)
    | tup ds =>
      have h' : ds.all (Pl n) = true := h
      show ds.all (Pl (n + 1)) = true
      rw [List.all_eq_true] at h' ⊢
      exact fun x hx => ih (h' x hx)
    | _ => exact h
theorem Cz.up {n w k : Nat} {d : D} (h : Cz n w d) (hk : w ≤ k) : Cz (n + 1) k d := ⟨pl_up h.1, h.2.1, Nat.le_trans h.2.2 hk⟩
theorem Cz.le {n w k : Nat} {d : D} (h : Cz n w d) (hk : w ≤ k) : Cz n k d := ⟨h.1, h.2.1, Nat.le_trans h.2.2 hk⟩
theorem Cz.repr {n w : Nat} {d : D} (h : Cz n w d) (hn : n ≤ 50 := by omega) (hw : w ≤ lim := by decide) : ∃ x, dRepr [d] = some (.str x) := repr_pl hn h.1 h.2.1 (Nat.le_trans h.2.2 hw)
theorem cz_int {i : Int} (h : 0 ≤ i ∧ i < 10 ^ 30) : Cz 0 110 (.int i) := by
  have z := log_nb h
  exact ⟨rfl, by simp only [shD]; exact decide_eq_true (by omega), by simp only [wt]; omega⟩
theorem cz_non : Cz 0 110 .non := ⟨rfl, rfl, by decide⟩
theorem cz_word {x : Str} (h : x = "put" ∨ x = "take" ∨ x = "left" ∨ x = "right") : Cz 0 110 (.str x) := by
  rcases h with rfl | rfl | rfl | rfl <;> exact ⟨by show PyData.strOk _ = true; simp, rfl, by decide +kernel⟩
theorem cz_row {m k : Nat} {r : List Int} (h : Nb r) (hl : r.length ≤ m) (hk : m * 112 + 4 ≤ k) : Cz 1 k (rowD r) := cz_lst (n := 0) (w := 110) (m := m) (fun d hd => by
  obtain ⟨i, hi, rfl⟩ := List.mem_map.mp hd
  exact cz_int (h i hi)) (by simpa using hl) hk
theorem cz_st {s : Stp} (h : 0 ≤ s.n ∧ s.n < 10 ^ 30) : Cz 1 340 (stD s) := cz_tup (n := 0) (w := 110) (m := 3) (fun d hd => by
  simp only [List.mem_cons, List.not_mem_nil, or_false] at hd
  rcases hd with rfl | rfl | rfl
  · exact cz_word (by cases s.put <;> simp)
  · exact cz_word (by cases s.left <;> simp)
  · exact cz_int h) (by simp) (by omega)
theorem cz_stps {m k : Nat} {ss : List Stp} (h : ∀ s ∈ ss, 0 ≤ s.n ∧ s.n < 10 ^ 30) (hl : ss.length ≤ m) (hk : m * 342 + 4 ≤ k) : Cz 2 k (stpsD ss) := cz_lst (n := 1) (w := 340) (m := m) (fun d hd => by
  obtain ⟨s, hs, rfl⟩ := List.mem_map.mp hd
  exact cz_st (h s hs)) (by simpa using hl) hk

theorem pl_st {s : Stp} : Pl 1 (stD s) = true := by
  obtain ⟨p, l, n⟩ := s
  cases p <;> cases l <;> simp [stD, Pl, Sc]
theorem pl_stps {ss : List Stp} : Pl 2 (stpsD ss) = true := by
  show (ss.map stD).all (Pl 1) = true
  rw [List.all_eq_true]
  intro d hd
  obtain ⟨s, _, rfl⟩ := List.mem_map.mp hd
  exact pl_st
theorem pl_all {α : Type} {n : Nat} {f : α → D} (h : ∀ a, Pl n (f a) = true) {xs : List α} : (xs.map f).all (Pl n) = true := by
  rw [List.all_eq_true]
  intro d hd
  obtain ⟨a, _, rfl⟩ := List.mem_map.mp hd
  exact h a
theorem atI_in {α β : Type} {f : α → β} {xs : List α} {r : Int} (h0 : 0 ≤ r) (h1 : r < xs.length) : ∃ a ∈ xs, atI (xs.map f) r = some (f a) := by
  obtain ⟨j, rfl⟩ := Int.eq_ofNat_of_zero_le h0
  have hj : j < xs.length := by simpa using h1
  refine ⟨xs[j], List.getElem_mem hj, ?_⟩
  have e := atI_nat (xs := xs.map f) (n := j) (by simpa using hj)
  simpa using e
/-! ### rows under steps -/
theorem stepped_all {Q : Int → Prop} {r r' : List Int} {s : Stp} (h : ∀ x ∈ r, Q x) (hs : Q s.n) (e : stepped r s = some r') : ∀ x ∈ r', Q x := by
  unfold stepped at e
  split at e
  · cases e
    split
    · intro x hx
      rcases List.mem_cons.mp hx with rfl | hx
      · exact hs
      · exact h x hx
    · intro x hx
      rcases List.mem_append.mp hx with hx | hx
      · exact h x hx
      · rw [List.mem_singleton] at hx; rw [hx]; exact hs
  · split at e
    · split at e
      · cases e
      · split at e
        · cases e; exact fun x hx => h x (List.mem_cons_of_mem _ hx)
        · cases e
    · split at e
      · cases e
      · split at e
        · cases e; exact fun x hx => h x (List.dropLast_subset _ hx)
        · cases e
theorem runS_all {Q : Int → Prop} : ∀ {ss : List Stp} {r r' : List Int}, (∀ x ∈ r, Q x) → (∀ s ∈ ss, Q s.n) → runS r ss = some r' → ∀ x ∈ r', Q x
  | [], r, r', h, _, e => by cases e; exact h
  | s :: ss, r, r', h, hs, e => by
    rw [runS, Option.bind_eq_some_iff] at e
    obtain ⟨r1, e1, e2⟩ := e
    exact runS_all (stepped_all h (hs s (List.mem_cons_self ..)) e1) (fun x hx => hs x (List.mem_cons_of_mem _ hx)) e2
theorem runS_len : ∀ {ss : List Stp} {r r' : List Int}, runS r ss = some r' → r'.length ≤ r.length + ss.length
  | [], r, r', e => by cases e; exact Nat.le_refl _
  | s :: ss, r, r', e => by
    rw [runS, Option.bind_eq_some_iff] at e
    obtain ⟨r1, e1, e2⟩ := e
    have h1 := stepped_len e1
    have h2 := runS_len e2
    simp only [List.length_cons]
    omega
/-- the law's answer, from what is wanted of it -/
theorem law_key {f : List D → RD} {ns : List Int} (h : wpR (f [.scr ns]) (K := ⟨Is (.bl true), noF⟩)) : ∃ fr, f [.scr ns] = .ok (.bl true) fr [] := by
  unfold wpR at h
  cases hr : f [.scr ns] with
  | ok d fr es => rw [hr] at h; obtain ⟨rfl, rfl⟩ := h; exact ⟨fr, rfl⟩
  | ex n d es => rw [hr] at h; exact h.elim
  | bad => rw [hr] at h; exact h.elim
end DL

namespace DL
open PySem L2
section
variable {α : Type} {Δ : SD} {E : EX}
@[simp] theorem wp_setF {i : Nat} {n f : Str} {fe : M D} {P : Fl → SD → Prop} : wp (mSetF i n f fe) Δ (K := ⟨P, E⟩) = wp fe Δ (K := ⟨(fun v Δ1 => wp (mHold (isObjD n) i) Δ1 (K := ⟨(fun _ Δ2 => wp (mUpd i (gSetF f v)) Δ2 (K := ⟨(fun _ Δ3 => P .nx Δ3), E⟩)), E⟩)), E⟩) := by
  unfold mSetF
  repeat (first | rfl | rw [wp_bind] | rw [wp_pure] | rw [wp_nx] | refine wp_ext fun _ _ => ?_)
@[simp] theorem isObjD_obj {n m : Str} {fs : List (Str × D)} : isObjD n (.obj m fs) = (decide (m = n) && decide (fs.length < 100)) := (rfl)
@[simp] theorem gSetF_obj {n f : Str} {v : D} {fs : List (Str × D)} : gSetF f v (.obj n fs) = some ((), .obj n (putFD f v fs)) := (rfl)
@[simp] theorem wp_noX {f : M α} {P : α → SD → Prop} : wp (mNoX f) Δ (K := ⟨P, E⟩) = wp f Δ (K := ⟨P, noE⟩) := by
  unfold wp mNoX
  cases f Δ <;> rfl
@[simp] theorem wp_chk {b : Bool} {P : Unit → SD → Prop} : wp (mOpt (if b = true then some () else none)) Δ (K := ⟨P, E⟩) = (b = true ∧ P () Δ) := by
  cases b <;> simp
@[simp] theorem wp_mmeth {n m : Str} {np : Nat} {io : List Nat} {g : List D → RD} {fo : M AK} {fs : M (List AK)} {P : D → SD → Prop} : wp (mMeth n m np io g fo fs) Δ (K := ⟨P, E⟩) = wp fo Δ (K := ⟨(fun a Δ1 => wp (mGet a) Δ1 (K := ⟨(fun d Δ2 => chkO n m d = true ∧ wp fs Δ2 (K := ⟨(fun as Δ3 => wp (callRes np io g (a :: as)) Δ3 (K := ⟨(fun r Δ4 => P r.1 Δ4), E⟩)), E⟩)), E⟩)), E⟩) := by
  unfold mMeth
  rw [wp_bind]; refine wp_ext fun a Δ1 => ?_
  rw [wp_bind]; refine wp_ext fun d Δ2 => ?_
  rw [wp_bind, wp_chk]
  congr 1
  repeat (first | rfl | rw [wp_bind] | rw [wp_pure] | rw [wp_nx] | refine wp_ext fun _ _ => ?_)
@[simp] theorem wp_mmethN {n m : Str} {np : Nat} {io : List Nat} {g : List D → RD} {fo : M AK} {fs : M (List AK)} {P : D → SD → Prop} : wp (mMethN n m np io g fo fs) Δ (K := ⟨P, E⟩) = wp fo Δ (K := ⟨(fun a Δ1 => wp (mGet a) Δ1 (K := ⟨(fun d Δ2 => chkO n m d = true ∧ wp fs Δ2 (K := ⟨(fun as Δ3 => wp (callRes np io g (a :: as)) Δ3 (K := ⟨(fun r Δ4 => r.2 = true ∧ P r.1 Δ4), E⟩)), E⟩)), E⟩)), E⟩) := by
  unfold mMethN
  rw [wp_bind]; refine wp_ext fun a Δ1 => ?_
  rw [wp_bind]; refine wp_ext fun d Δ2 => ?_
  rw [wp_bind, wp_chk]
  congr 1
  rw [wp_bind]; refine wp_ext fun as Δ3 => ?_
  rw [wp_bind]; refine wp_ext fun r Δ4 => ?_
  cases r.2 <;> simp
@[simp] theorem wp_mprop {n : Str} {io : List Nat} {g : List D → RD} {fo : M AK} {P : D → SD → Prop} : wp (mProp n io g fo) Δ (K := ⟨P, E⟩) = wp fo Δ (K := ⟨(fun a Δ1 => wp (mGet a) Δ1 (K := ⟨(fun d Δ2 => chkC n d = true ∧ wp (callRes 1 io g [a]) Δ2 (K := ⟨(fun r Δ4 => P r.1 Δ4), noE⟩)), E⟩)), E⟩) := by
  unfold mProp
  rw [wp_bind]; refine wp_ext fun a Δ1 => ?_
  rw [wp_bind]; refine wp_ext fun d Δ2 => ?_
  rw [wp_bind, wp_chk, wp_bind, wp_noX]
  congr 1
  refine wp_ext fun r Δ4 => ?_
  rw [wp_pure]
@[simp] theorem wp_mpropN {n : Str} {io : List Nat} {g : List D → RD} {fo : M AK} {P : D → SD → Prop} : wp (mPropN n io g fo) Δ (K := ⟨P, E⟩) = wp fo Δ (K := ⟨(fun a Δ1 => wp (mGet a) Δ1 (K := ⟨(fun d Δ2 => chkC n d = true ∧ wp (callRes 1 io g [a]) Δ2 (K := ⟨(fun r Δ4 => r.2 = true ∧ P r.1 Δ4), noE⟩)), E⟩)), E⟩) := by
  unfold mPropN
  rw [wp_bind]; refine wp_ext fun a Δ1 => ?_
  rw [wp_bind]; refine wp_ext fun d Δ2 => ?_
  rw [wp_bind, wp_chk, wp_bind, wp_noX]
  congr 1
  refine wp_ext fun r Δ4 => ?_
  cases r.2 <;> simp
theorem wp_mlenO {n : Str} {g : List D → RD} {fo : M AK} {P : D → SD → Prop} : wp (mLenO n g fo) Δ (K := ⟨P, E⟩) = wp fo Δ (K := ⟨(fun a Δ1 => wp (mGet a) Δ1 (K := ⟨(fun d Δ2 => chkC n d = true ∧ wp (callRes 1 [] g [a]) Δ2 (K := ⟨(fun r Δ4 => wp (mOpt (lenD r.1)) Δ4 (K := ⟨P, E⟩)), noE⟩)), E⟩)), E⟩) := by
  unfold mLenO
  rw [wp_bind]; refine wp_ext fun a Δ1 => ?_
  rw [wp_bind]; refine wp_ext fun d Δ2 => ?_
  rw [wp_bind, wp_chk, wp_bind, wp_noX]
@[simp] theorem chkO_obj {n m k : Str} {fs : List (Str × D)} : chkO n m (.obj k fs) = (decide (k = n) && (fs.lookup m).isNone) := (rfl)
@[simp] theorem chkC_obj {n k : Str} {fs : List (Str × D)} : chkC n (.obj k fs) = decide (k = n) := (rfl)
@[simp] theorem dFld_obj {n f k : Str} {fs : List (Str × D)} : dFld n f (.obj k fs) = if k = n then fs.lookup f else none := (rfl)
@[simp] theorem wp_cm {n : Str} {np : Nat} {io : List Nat} {g : List D → RD} {fs : M (List AK)} {P : D → SD → Prop} : wp (mCm n np io g fs) Δ (K := ⟨P, E⟩) = wp fs Δ (K := ⟨(fun as Δ1 => wp (callRes np io g (.v (.cls n) :: as)) Δ1 (K := ⟨(fun r Δ2 => P r.1 Δ2), E⟩)), E⟩) := by
  unfold mCm
  repeat (first | rfl | rw [wp_bind] | rw [wp_pure] | rw [wp_nx] | refine wp_ext fun _ _ => ?_)
@[simp] theorem wp_cmN {n : Str} {np : Nat} {io : List Nat} {g : List D → RD} {fs : M (List AK)} {P : D → SD → Prop} : wp (mCmN n np io g fs) Δ (K := ⟨P, E⟩) = wp fs Δ (K := ⟨(fun as Δ1 => wp (callRes np io g (.v (.cls n) :: as)) Δ1 (K := ⟨(fun r Δ2 => r.2 = true ∧ P r.1 Δ2), E⟩)), E⟩) := by
  unfold mCmN
  rw [wp_bind]; refine wp_ext fun a Δ1 => ?_
  rw [wp_bind]; refine wp_ext fun r Δ2 => ?_
  cases r.2 <;> simp
/-- what is wanted of an __init__ -/
def MkK (P : D → SD → Prop) (Δ : SD) (d : D) (fr : Bool) (es : List D) : Prop := d = .non ∧ fr = false ∧ ∃ o, es = [o] ∧ P o Δ
def MkE (E : EX) (Δ : SD) (m : Str) (d : Option D) (es : List D) : Prop := ∃ o, es = [o] ∧ E m d Δ
@[simp] theorem wp_makeRes {n : Str} {np : Nat} {g : List D → RD} {as : List AK} {P : D → SD → Prop} : wp (mMakeRes n np g as) Δ (K := ⟨P, E⟩) = (as.length + 1 = np ∧ onArgs (callArgs [] Δ 1 as) (K := ⟨fun ds ls => wpR (g (.obj n [] :: ds)) (K := ⟨MkK P Δ, MkE E Δ⟩)⟩)) := by
  unfold wp mMakeRes
  by_cases h : as.length + 1 = np
  case neg => simp [h]
  rw [if_pos h]
  cases e : callArgs [] Δ 1 as with
  | none => simp [onArgs]
  | some r =>
    obtain ⟨ds, ls⟩ := r
    simp only [onArgs, h, true_and]
    unfold wpR MkK MkE
    dsimp only
    cases e2 : g (.obj n [] :: ds) with
    | bad => rfl
    | ex m d es =>
      cases es with
      | nil => simp
      | cons o es => cases es <;> simp
    | ok d fr es =>
      cases d <;> cases fr <;> (cases es with
        | nil => simp
        | cons o es => cases es <;> simp)
@[simp] theorem wp_make {n : Str} {np : Nat} {g : List D → RD} {fs : M (List AK)} {P : D → SD → Prop} : wp (mMake n np g fs) Δ (K := ⟨P, E⟩) = wp fs Δ (K := ⟨(fun as Δ1 => wp (mMakeRes n np g as) Δ1 (K := ⟨P, E⟩)), E⟩) := by
  unfold mMake
  rw [wp_bind]
def isClsD (n : Str) : D → Bool
  | .cls m => decide (m = n)
  | _ => false
@[simp] theorem isClsD_cls {n m : Str} : isClsD n (.cls m) = decide (m = n) := (rfl)
@[simp] theorem wp_slotC {i : Nat} {n : Str} {P : Unit → SD → Prop} : wp (mMakeL.mSlotC i n) Δ (K := ⟨P, E⟩) = onSh Δ[i]? (K := ⟨fun d => isClsD n d = true ∧ P () Δ⟩) := by
  unfold wp mMakeL.mSlotC onSh
  cases Δ[i]? with
  | none => rfl
  | some z =>
    cases z with
    | un => rfl
    | ow d => rfl
    | sh d =>
      cases d with
      | cls m =>
        by_cases h : m = n <;> simp [h]
      | _ => simp [isClsD]
@[simp] theorem wp_makeL {n : Str} {np : Nat} {g : List D → RD} {i : Nat} {fs : M (List AK)} {P : D → SD → Prop} : wp (mMakeL n np g i fs) Δ (K := ⟨P, E⟩) = wp (mMakeL.mSlotC i n) Δ (K := ⟨(fun _ Δ1 => wp fs Δ1 (K := ⟨(fun as Δ2 => wp (mMakeRes n np g as) Δ2 (K := ⟨P, E⟩)), E⟩)), E⟩) := by
  unfold mMakeL
  repeat (first | rfl | rw [wp_bind] | rw [wp_pure] | rw [wp_nx] | refine wp_ext fun _ _ => ?_)
theorem lenD_int {i : Int} : lenD (.int i) = if 0 ≤ i ∧ i < 2 ^ 60 then some (.int i) else none := (rfl)
theorem lenD_nat {n : Nat} (h : n ≤ 1000000) : lenD (.int (n : Nat)) = some (.int (n : Nat)) := by
  have a : (1000000 : Int) < 2 ^ 60 := by decide +kernel
  have b : (n : Int) < 2 ^ 60 := Int.lt_of_le_of_lt (Int.ofNat_le.mpr h) a
  have c : 0 ≤ (n : Int) := Int.natCast_nonneg n
  rw [lenD_int, if_pos (And.intro c b)]
end
theorem eqD_rowO {a b : Option (List Int)} : eqD (rowO a) (rowO b) = some (decide (a = b)) := by
  cases a with
  | none =>
    cases b with
    | none =>
      show eqD .non .non = _
      rw [eqD_pl (n := 1) (by omega) rfl rfl]; simp [eqB]
    | some b =>
      show eqD .non (rowD b) = _
      rw [eqD_pl (n := 1) (by omega) rfl pl_row]; simp [eqB, rowD]
  | some a =>
    cases b with
    | none =>
      show eqD (rowD a) .non = _
      rw [eqD_pl (n := 1) (by omega) pl_row rfl]; simp [eqB, rowD]
    | some b => simp only [rowO, eqD_row]; simp
@[simp] theorem eqD_rowO' {a b : Option (List Int)} : eqD (rowO a) (rowO b) = some (decide (a = b)) := eqD_rowO
@[simp] theorem isNon_rowO' {o : Option (List Int)} : isNon (rowO o) = o.isNone := by cases o <;> rfl
end DL

namespace DL
open PySem L2 PySem.Spec PyProof.Rows

section
variable {prog : Program} {w : World} {A : Around} {E : Value → Shared → Prop} {s : Shared} {l : Addr} {its : List Value} {ns : List Int} {d : Value} {Q : Value → Shared → Prop}
theorem max_rawD (hh : A.handled = none) (hl : s.heap.IsList l its.toArray) (hi : IntsAre its ns)
    (h0 : ns = [] → ∀ h' tk, (∀ b o, s.heap.get? b = some o → h'.get? b = some o) → Q d { s with heap := h', toks := tk })
    (h : 0 < ns.length → ∀ h' tk M t', (∀ b o, s.heap.get? b = some o → h'.get? b = some o) → M ∈ ns → (∀ a, a ∈ ns → a ≤ M) → Q (.int M t') { s with heap := h', toks := tk }) :
    wpAny (model prog w) A (call (.builtin "max") [.ref l] [(Str.ofString "default", d)]) Q E s := by
  obtain ⟨xs, e⟩ := hi.allInts.items
  have hn : numsOf (intItems xs).toList = ns := by rw [← e]; exact hi.numsOf
  rw [nums_intItems] at hn
  subst hn
  rw [e] at hl
  have hs : (intItems xs).size = xs.size := by simp [intItems]
  refine call_max_walkD (PySem.W.iter_listW (A := A.in1) hh hl fun s₂ e W st hfp hw hk => ?_)
  refine ⟨_, _, _, _, _, _, _, s.heap, (fun i j => decide (numAt xs i > numAt xs j)), rfl, W, st, hfp, hw, hk, fun hz s' m => ?_, fun hp => ⟨fun i j vi vj s Q E _ hi hj h => CmpOf.ints_gt (numAt xs) (fun _ _ => intItems_at) i j vi vj s Q E hi hj h, fun v s' hP m => ?_⟩⟩
  · obtain ⟨h', tk, rfl, hk'⟩ := PySem.W.moved_old e rfl m
    refine h0 ?_ h' tk hk'
    rw [hs] at hz
    have : xs = #[] := Array.eq_empty_of_size_eq_zero hz
    rw [this]; rfl
  · obtain ⟨h', tk, rfl, hk'⟩ := PySem.W.moved_old e rfl m
    rw [hs] at hP hp
    obtain ⟨t, rfl⟩ := intItems_at hP
    obtain ⟨h1, h2⟩ := argBest_gt (numAt xs) (xs.size - 1)
    refine h (by rw [List.length_map, Array.length_toList]; exact hp) h' tk _ t hk' ?_ fun a ha => ?_
    · rw [numAt_eq]; exact PySem.getD_mem (by rw [List.length_map, Array.length_toList]; omega)
    · obtain ⟨j, hj, rfl⟩ := mem_getD ha
      rw [List.length_map, Array.length_toList] at hj
      rw [← numAt_eq]; exact h2 j (by omega)
end

/-- max(xs, default=d), xs a list of ints -/
def rMaxK (K : PySem.W.Frag) : V → V → Hp → VK → Prop := fun v d H Q => ∃ (a : Addr) (ns : List Int), v = V.ref a ∧ SqL K H a (ns.map V.int) ∧ (ns = [] → Q d H) ∧ (0 < ns.length → ∀ m, m ∈ ns → (∀ y, y ∈ ns → y ≤ m) → Q (.int m) H)
section
variable {X : Cx} {x : Str} {p pos kpos : Pos} {e d : Expr} {te td : TE}
theorem pe_maxK (hc : X.calm = true) (hg : Gl X x) (hm : X.mg x = none) (hv : bootBuiltins x = some (.builtin "max")) (ha : PE X e te) (hd : PE X d td) (hn : x ≠ "__name__" := by decide) (hdb : (x == ("__debug__" : Str)) = false := by decide)
    (hs : starEach [e] X.env = (false, eval e X.env) :: starEach [] X.env := by rfl)
    (he : backTo pos (starEach [e] X.env) = (false, eval e X.env) :: backTo pos (starEach [] X.env) := by rfl)
    (hplain : (backTo pos (starEach [e] X.env)).any (·.1) = false := by rfl)
    (hall : (backToKw pos (keywordEach [⟨some "default", d, kpos⟩] X.env)).all (·.1.isSome) = true := by rfl)
    (hkw : (backToKw pos (keywordEach [⟨some "default", d, kpos⟩] X.env)).any (·.1.isNone) = false := by rfl) :
    PE X (.Call (.Name x p) [e] [⟨some "default", d, kpos⟩] pos) (tOp (rMaxK X.K) te td) := by
  refine ⟨fun pins s σ H Q I h => ?_⟩
  refine wpAny_Call_Name_kw (ld_blt I hg hm hv ?_ hn hdb)
  refine PyProof.Rows.callWith_kw ?_ he hplain hall hkw
  have pa : PA X [e] (tCons te tNil) := pa_cons ha pa_nil hs
  have pk : PK X [⟨some "default", d, kpos⟩] (tCons td tNil) := pk_cons hd pk_nil
  refine thn (pa.run pos pins s σ H (fun vs H1 => match vs with | [v] => td σ H1 fun u H2 => rMaxK X.K v u H2 Q | _ => False) I ?_) fun us s1 ⟨vs, H1, I1, r1, q1⟩ => ?_
  · exact h
  match vs, r1, q1 with
  | [v], r1, q1 =>
    refine thn (pk.run pos pins s1 σ H1 (fun ws H2 => match ws with | [u] => rMaxK X.K v u H2 Q | _ => False) I1 q1) fun ws s2 ⟨zs, H2, I2, r2, q2⟩ => ?_
    match zs, r2, q2 with
    | [u], r2, q2 =>
      obtain ⟨a, ns, rfl, hs, q0, q2⟩ := q2
      obtain ⟨its, rv, hl, _⟩ := I2.list hs
      rw [Vals.ref1 r1]
      cases r2 with
      | cons ru t =>
        cases t
        exact max_rawD (I2.ok.hd hc) hl.isList rv.ints (fun hz h' tk hk => ⟨u, H2, I2.kept hk, ru, q0 hz⟩) (fun hp h' tk m t' hk h1 h2 => ⟨.int _, H2, I2.kept hk, ⟨_, rfl⟩, q2 hp m h1 h2⟩)
end
def dMaxK : D → D → Option D
  | .lst ds, .int k => (dInts ds).map fun ns => .int ((maxI ns).getD k)
  | _, _ => none
@[simp] theorem dMaxK_lst {ds : List D} {k : Int} : dMaxK (.lst ds) (.int k) = (dInts ds).map fun ns => .int ((maxI ns).getD k) := (rfl)
theorem d_maxK {G : Gc} : OpD G (rMaxK G.K) dMaxK := by
  intro Av H dx dy v u Q fr r1 r2 q
  unfold dMaxK at q
  split at q
  · obtain ⟨a, vs, rfl, hh, rl⟩ := rep_lst r1
    rw [rep_int r2]
    cases e : dInts _ with
    | none => rw [e] at q; exact q.elim
    | some ns =>
      rw [e] at q
      rw [repL_ints e rl] at hh
      refine ⟨a, ns, rfl, SqL.of hh, fun hz => ?_, fun hp k hk hle => ?_⟩
      · subst hz
        exact outV.now (G := G) (Av := Av) q mk_int
      · cases e2 : maxI ns with
        | none =>
          cases ns with
          | nil => exact absurd hp (Nat.lt_irrefl 0)
          | cons n ns => cases e2
        | some m =>
          obtain ⟨h1, h2⟩ := maxI_is e2
          have ek : k = m := Int.le_antisymm (h2 k hk) (hle m h1)
          rw [Option.map_some, e2] at q
          rw [ek]
          exact outV.now (G := G) (Av := Av) q mk_int
  · exact q.elim
section
variable {X : Cx} {c : Ct} {W : WX} {ea eb : Expr} {fa fb : M AK} {pos p kpos : Pos} {nm : Str}
theorem de_maxK (hc : X.calm = true) (hK : X.K = c.toGc.K) (hg : Gl X nm) (hm : X.mg nm = none) (hv : bootBuiltins nm = some (.builtin "max")) (ha : DO X c W ea fa) (hb : DO X c W eb fb) (hn : nm ≠ "__name__" := by decide) (hdb : (nm == ("__debug__" : Str)) = false := by decide)
    (hs : starEach [ea] X.env = (false, eval ea X.env) :: starEach [] X.env := by rfl)
    (he : backTo pos (starEach [ea] X.env) = (false, eval ea X.env) :: backTo pos (starEach [] X.env) := by rfl)
    (hplain : (backTo pos (starEach [ea] X.env)).any (·.1) = false := by rfl)
    (hall : (backToKw pos (keywordEach [⟨some "default", eb, kpos⟩] X.env)).all (·.1.isSome) = true := by rfl)
    (hkw : (backToKw pos (keywordEach [⟨some "default", eb, kpos⟩] X.env)).any (·.1.isNone) = false := by rfl) :
    DE X c W (.Call (.Name nm p) [ea] [⟨some "default", eb, kpos⟩] pos) (mOp dMaxK fa fb) := by
  obtain ⟨ta, pa, sa⟩ := ha.out
  obtain ⟨tb, pb, sb⟩ := hb.out
  exact ⟨_, pe_maxK hc hg hm hv pa pb hn hdb hs he hplain hall hkw, sound_op sa sb (hK ▸ d_maxK)⟩
end
/-! x += y, x *= y of ints -/
def dAddI : D → D → Option D
  | .int i, .int j => some (.int (i + j))
  | _, _ => none
@[simp] theorem dAddI_int {i j : Int} : dAddI (.int i) (.int j) = some (.int (i + j)) := (rfl)
theorem d_addI {G : Gc} : OpD G (rI0 fun i j => .int (i + j)) dAddI := by
  intro Av H dx dy x y Q fr rx ry q
  unfold dAddI at q
  split at q
  · rw [rep_int rx, rep_int ry]; exact ⟨_, _, rfl, rfl, q.now mk_int⟩
  · exact q.elim
def dMulI : D → D → Option D
  | .int i, .int j => if CMul i j then some (.int (i * j)) else none
  | _, _ => none
@[simp] theorem dMulI_int {i j : Int} : dMulI (.int i) (.int j) = if CMul i j then some (.int (i * j)) else none := (rfl)
theorem d_mulI {G : Gc} : OpD G (rI CMul fun i j => .int (i * j)) dMulI := by
  intro Av H dx dy x y Q fr rx ry q
  unfold dMulI at q
  split at q
  · split at q
    · rename_i hc
      rw [rep_int rx, rep_int ry]; exact ⟨_, _, rfl, rfl, hc, q.now mk_int⟩
    · exact q.elim
  · exact q.elim
end DL

namespace DL
open PySem L2
/-- a while by an invariant with a measure -/
theorem wp_while {fc : M Bool} {body : M Fl} {P : Fl → SD → Prop} {E : EX} (I : Nat → SD → Prop) : ∀ {n k : Nat} {Δ : SD}, k < n → I k Δ →
    (∀ k Δ, I k Δ → wp fc Δ (K := ⟨(fun b Δ1 => if b = true then wp body Δ1 (K := ⟨(fun fl Δ2 => match fl with
      | .nx => ∃ j, j < k ∧ I j Δ2
      | .ct => ∃ j, j < k ∧ I j Δ2
      | .bk => P .nx Δ2
      | .rt d => P (.rt d) Δ2
      | .rf d => P (.rf d) Δ2), E⟩) else P .nx Δ1), E⟩)) → wp (mWhile fc body n) Δ (K := ⟨P, E⟩)
  | 0, k, Δ, hk, _, _ => absurd hk (Nat.not_lt_zero _)
  | n + 1, k, Δ, hk, h, step => by
    show wp (mBind fc _) Δ (K := ⟨P, E⟩)
    rw [wp_bind]
    refine wp_mono (step k Δ h) (fun b Δ1 q => ?_) fun _ _ _ z => z
    cases b with
    | false => unfold wp; exact q
    | true =>
      show wp (mBind body _) Δ1 (K := ⟨P, E⟩)
      rw [wp_bind]
      refine wp_mono q (fun fl Δ2 q2 => ?_) fun _ _ _ z => z
      cases fl with
      | nx => obtain ⟨j, hj, q3⟩ := q2; exact wp_while I (by omega) q3 step
      | ct => obtain ⟨j, hj, q3⟩ := q2; exact wp_while I (by omega) q3 step
      | bk => unfold wp; exact q2
      | rt d => unfold wp; exact q2
      | rf d => unfold wp; exact q2
end DL

namespace DL
open PySem L2 PySem.Spec PyProof.Rows
section
variable {X : Cx} {c : Ct} {W : WX} {k kf : Nat} {C f : Addr} {ps : List Str} {g : List D → RD} {n : Str} {ea eb : Expr} {fa fb : M AK} {pos : Pos}
/-- an answer that no operator passes over -/
def PlV (v : V) : Prop := (∃ b, v = .bl b) ∨ ∃ a, v = .ref a
def rOpO (C : Addr) (sp : Sp) : R2 := fun x y H Q => ∃ a dx us b dy gs, x = V.ref a ∧ H a = some (.ins C dx us) ∧ y = V.ref b ∧ H b = some (.ins C dy gs) ∧ sp [.ref a, .ref b] H (fun z H' => PlV z ∧ Q z H') fun _ _ _ => False
theorem cmpBack_of {Q : Value → Shared → Prop} {z : V} {u : Value} {s' : Shared} (r : RelV z u) (h : PlV z) (q : Q u s') : PySem.W.CmpBack Q u s' := by
  rcases h with ⟨b, rfl⟩ | ⟨a, rfl⟩
  · cases (show u = Value.bool b from r)
    exact q
  · cases (show u = Value.ref a from r)
    exact q
theorem opO_back {sp : Sp} {pins : List (Addr × Obj)} {s : Shared} {σ : L2.St} {H : Hp} {Q : VK} {a b : Addr} (F : DRn X.prog X.w X.K X.mg X.base c.T kf f sp) (o : Ok X c W k) (hk : kf ≤ k) (I : Inv X pins σ H s)
    (q : sp [.ref a, .ref b] H (fun z H' => PlV z ∧ Q z H') fun _ _ _ => False) :
    wpAny (model X.prog X.w) X.A (call (.ref f) [.ref a, .ref b]) (PySem.W.CmpBack (EP X pins σ Q)) X.xe s := by
  refine wpAny_call (codeAny_mono (F.run X.A X.stack s H [.ref a, .ref b] [.ref a, .ref b] _ _ (o.room.mono hk) (fun h => o.gd (by omega)) I.env0 (.cons rfl (.cons rfl .nil)) q) fun r s' hq => ?_)
  cases r with
  | error er =>
    obtain ⟨_, _, _, _, _, _, _, _, _, _, _, _, z⟩ := hq
    exact z.elim
  | ok fl =>
    cases fl with
    | ret u =>
      obtain ⟨v, H', I3, rv, hp, q3⟩ := I.after hq
      exact cmpBack_of rv hp ⟨v, H', I3, rv, q3⟩
    | next => exact hq.elim
    | brk => exact hq.elim
    | cont => exact hq.elim
theorem op_eqO {sp : Sp} (F : DRn X.prog X.w X.K X.mg X.base c.T kf f sp) (o : Ok X c W k) (hk : kf ≤ k) (hm : Meth X.K C "__eq__" f) : OpR X (compareOp .Eq) (rOpO C sp) := by
  intro pins s σ H x y v u Q I rx ry h
  obtain ⟨a, dx, us, b, dy, gs, rfl, ea, rfl, eb, q⟩ := h
  cases (show v = Value.ref a from rx)
  cases (show u = Value.ref b from ry)
  obtain ⟨mA, O, _, _, _, _⟩ := ins_get I.hok ea
  obtain ⟨mB, O', _, _, _, _⟩ := ins_get I.hok eb
  obtain ⟨od, J, _⟩ := O.look
  obtain ⟨od', J', _⟩ := O'.look
  obtain ⟨m, hF⟩ := I.fr
  show wpAny (model X.prog X.w) X.A (richCompare .Eq (.ref a) (.ref b)) _ _ s
  exact PySem.W.cmp_K (op := .Eq) (tb := .ref C) (o.room.mono hk).units0 hF I.ok.mod.kin J J'.type (by simp [PySem.W.notFirst]) hm.at_ hm.fn (opO_back F o hk I q)
theorem op_mulO {sp : Sp} (F : DRn X.prog X.w X.K X.mg X.base c.T kf f sp) (o : Ok X c W k) (hk : kf ≤ k) (hc : PySem.W.selfFirst X.K C = true) (hm : Meth X.K C "__mul__" f) : OpR X (binaryOp .Mult) (rOpO C sp) := by
  intro pins s σ H x y v u Q I rx ry h
  obtain ⟨a, dx, us, b, dy, gs, rfl, ea, rfl, eb, q⟩ := h
  cases (show v = Value.ref a from rx)
  cases (show u = Value.ref b from ry)
  obtain ⟨mA, O, _, _, _, _⟩ := ins_get I.hok ea
  obtain ⟨mB, O', _, _, _, _⟩ := ins_get I.hok eb
  obtain ⟨od, J, _⟩ := O.look
  obtain ⟨od', J', _⟩ := O'.look
  obtain ⟨m, hF⟩ := I.fr
  exact PySem.W.binop_K (op := .Mult) hF I.ok.mod.kin J J'.type hc hm.at_ hm.fn (opO_back F o hk I q)
def plD : D → Option D
  | .bl b => some (.bl b)
  | .obj m fs => some (.obj m fs)
  | _ => none
def mOpO (n : Str) (g : List D → RD) (fa fb : M AK) : M D := mBind fa fun a => mBind fb fun b => mBind (mGet a) fun x => mBind (mOpt (if chkC n x = true then some () else none)) fun _ => mBind (mGet b) fun y => mBind (mOpt (if chkC n y = true then some () else none)) fun _ => mBind (mNoX (callRes 2 [] g [a, b])) fun r => mOpt (plD r.1)
theorem opO_sound {ta tb : TE} (o : Ok X c W k) (hC : X.mg n = some (.ref C)) (sa : SoundO c W ta fa) (sb : SoundO c W tb fb) : SoundE c W (tOp (rOpO C (spD ⟨X.K, X.mg, c.T⟩ 2 [] g)) ta tb) (mOpO n g fa fb) := by
  intro x σ H Δ Q sr q
  refine sa x σ H Δ _ sr (Post.bind (ok' := okV c x σ H Q) q fun a Δ1 q1 v x1 H1 k1 sr1 h1 => ?_)
  refine sb x1 σ H1 Δ1 _ sr1 (Post.bind (ok' := okV c x1 σ H1 Q) (q1.step k1 fun a Δ => okV.step k1) fun b Δ2 q2 u x2 H2 k2 sr2 h2 => ?_)
  have h1' := AKOk.kp sr1 k2 h1
  obtain ⟨d, r1, q3⟩ := Post.get sr2 h1' (q2.step k2 fun a Δ => okV.step k2)
  obtain ⟨⟨fl, rfl⟩, q4⟩ := chkC_some q3
  obtain ⟨e, r2, q5⟩ := Post.get sr2 h2 q4
  obtain ⟨⟨gl, rfl⟩, q6⟩ := chkC_some q5
  obtain ⟨p, C', dx, us, rfl, hm, ok, hh, rf⟩ := rep1_obj r1
  obtain ⟨p', C2, dy, gs, rfl, hm2, ok2, hh2, rf2⟩ := rep1_obj r2
  rw [o.hmg, hC] at hm hm2
  cases hm
  cases hm2
  have key : ∀ {x : Sx} {H : Hp} {d : D} {Δ2 : SD}, Post c W x σ H (okV c x σ H Q) (mOpt (plD d) Δ2) → okV c x σ H (fun z H' => PlV z ∧ Q z H') d Δ2 := by
    intro x H d Δ2 z
    cases d with
    | bl b =>
      intro v x' H' k' s' r'
      have e : v = .bl b := by unfold Rep at r'; exact r'
      exact ⟨.inl ⟨b, e⟩, (show okV c x σ H Q (.bl b) Δ2 from z) v x' H' k' s' r'⟩
    | obj m fs =>
      intro v x' H' k' s' r'
      have e : ∃ a, v = .ref a := by
        unfold Rep at r'
        obtain ⟨a, _, _, _, e, _⟩ := r'
        exact ⟨a, e⟩
      exact ⟨.inr e, (show okV c x σ H Q (.obj m fs) Δ2 from z) v x' H' k' s' r'⟩
    | _ => exact z.elim
  exact ⟨p, dx, us, p', dy, gs, rfl, hh, rfl, hh2, call_sp (W := noW) (ps := [n, n]) (as := [a, b]) (gc_eq o) sr2 ⟨_, _, rfl, h1', _, _, rfl, h2, rfl⟩ (Post.noX (post_call q6)) (fun d Δ2 z => key z) (fun d Δ2 z => okF.okV (key z))⟩
theorem de_eqO {x0 y0 : Str} (F : MtD X.prog X.w X.K X.mg X.base c.T n "__eq__" kf [x0, y0] [] g) (o : Ok X c W k) (hk : kf ≤ k) (ha : DO X c W ea fa) (hb : DO X c W eb fb) (hm : behindInMarks .Eq eb = false) : DE X c W (.Compare ea [.Eq] [eb] pos) (mOpO n g fa fb) := by
  obtain ⟨C, f, fd, hC, cl, hmt, hbi, dfn⟩ := F.out
  obtain ⟨ta, pa, sa⟩ := ha.out
  obtain ⟨tb, pb, sb⟩ := hb.out
  exact ⟨_, pe_cmpR (op_eqO (dfn.raw hbi) o hk hmt) pa pb hm, opO_sound o hC sa sb⟩
theorem dt_eqO {x0 y0 : Str} (F : MtD X.prog X.w X.K X.mg X.base c.T n "__eq__" kf [x0, y0] [] g) (o : Ok X c W k) (hk : kf ≤ k) (ha : DO X c W ea fa) (hb : DO X c W eb fb) (hm : behindInMarks .Eq eb = false) : DT X c W (.Compare ea [.Eq] [eb] pos) (mBl (mOpO n g fa fb)) := by
  obtain ⟨C, f, fd, hC, cl, hmt, hbi, dfn⟩ := F.out
  obtain ⟨ta, pa, sa⟩ := ha.out
  obtain ⟨tb, pb, sb⟩ := hb.out
  exact ⟨_, pt_cmpR (op_eqO (dfn.raw hbi) o hk hmt) pa pb hm, fun x σ H Δ Q sr q => opO_sound o hC sa sb x σ H Δ _ sr (q.bind fun d Δ1 q1 => bl_end q1)⟩
theorem de_mulO {x0 y0 : Str} (F : MtD X.prog X.w X.K X.mg X.base c.T n "__mul__" kf [x0, y0] [] g) (hsf : ∀ C, X.mg n = some (.ref C) → PySem.W.selfFirst X.K C = true) (o : Ok X c W k) (hk : kf ≤ k) (ha : DO X c W ea fa) (hb : DO X c W eb fb) : DE X c W (.BinOp ea .Mult eb pos) (mOpO n g fa fb) := by
  obtain ⟨C, f, fd, hC, cl, hmt, hbi, dfn⟩ := F.out
  obtain ⟨ta, pa, sa⟩ := ha.out
  obtain ⟨tb, pb, sb⟩ := hb.out
  exact ⟨_, pe_op (op_mulO (dfn.raw hbi) o hk (hsf C hC) hmt) pa pb, opO_sound o hC sa sb⟩
end
/-! what they answer -/
section
variable {Δ : SD} {E : EX}
theorem wp_opO {n : Str} {g : List D → RD} {fa fb : M AK} {P : D → SD → Prop} : wp (mOpO n g fa fb) Δ (K := ⟨P, E⟩) = wp fa Δ (K := ⟨fun a Δ1 => wp fb Δ1 (K := ⟨fun b Δ2 => wp (mGet a) Δ2 (K := ⟨fun x Δ3 => chkC n x = true ∧ wp (mGet b) Δ3 (K := ⟨fun y Δ4 => chkC n y = true ∧ wp (callRes 2 [] g [a, b]) Δ4 (K := ⟨fun r Δ5 => wp (mOpt (plD r.1)) Δ5 (K := ⟨P, E⟩), noE⟩), E⟩), E⟩), E⟩), E⟩) := by
  unfold mOpO
  rw [wp_bind]; refine wp_ext fun a Δ1 => ?_
  rw [wp_bind]; refine wp_ext fun b Δ2 => ?_
  rw [wp_bind]; refine wp_ext fun x Δ3 => ?_
  rw [wp_bind, wp_chk]; congr 1
  rw [wp_bind]; refine wp_ext fun y Δ4 => ?_
  rw [wp_bind, wp_chk]; congr 1
  rw [wp_bind, wp_noX]
@[simp] theorem plD_bl {b : Bool} : plD (.bl b) = some (.bl b) := (rfl)
@[simp] theorem plD_obj {m : Str} {fs : List (Str × D)} : plD (.obj m fs) = some (.obj m fs) := (rfl)
end
end DL

namespace DL
open PySem L2
theorem Ok.units65 {X : Cx} {c : Ct} {W : WX} {k : Nat} (o : Ok X c W k) : X.A.units + 65 < cLine := by have := o.room.un; omega
def dInDeep (x y : D) : Option D := match toPy x, y with
  | some p, .lst ds => match toPyL ds with
    | some ps => if p.depth ≤ 64 ∧ (PyData.list ps).depth ≤ 64 then some (.bl (ps.any fun z => PyData.eqv z p)) else none
    | none => none
  | _, _ => none
theorem d_inDeep {G : Gc} : OpD G (L2.rInD G.K) dInDeep := by
  intro Av H dx dy x y Q fr rx ry q
  unfold dInDeep at q
  cases e1 : toPy dx with
  | none => rw [e1] at q; exact q.elim
  | some p =>
    rw [e1] at q
    cases dy with
    | lst ds =>
      cases e2 : toPyL ds with
      | none => simp only [e2] at q; exact q.elim
      | some ps =>
        simp only [e2] at q
        have e3 : toPy (.lst ds) = some (.list ps) := by simp [toPy, e2]
        split at q
        · rename_i h
          exact ⟨p, ps, rx.dp e1, ry.dp e3, by simp [SeqAt.shaped, canLay_of e1, h.1], by simp [SeqAt.shaped, canLay_of e3, h.2], outV.now (G := G) (Av := Av) q mk_bl⟩
        · exact q.elim
    | _ => exact q.elim
theorem inDeep_row {r : List Int} {rs : List (List Int)} : dInDeep (rowD r) (.lst (rs.map rowD)) = some (.bl (decide (r ∈ rs))) := by
  obtain ⟨p, e1, d1⟩ := pl_py (n := 1) (d := rowD r) pl_row
  have hall : (rs.map rowD).all (Pl 1) = true := by
    rw [List.all_map, List.all_eq_true]
    exact fun _ _ => pl_row
  obtain ⟨ps, e2, d2⟩ := pl_pyL (fun d => pl_py (n := 1) (d := d)) hall
  unfold dInDeep
  simp only [e1, e2]
  rw [if_pos ⟨by omega, by simp only [PyData.depth]; omega⟩]
  congr 2
  have key : ∀ {rs : List (List Int)} {ps : List PyData}, toPyL (rs.map rowD) = some ps → (ps.any fun z => PyData.eqv z p) = decide (r ∈ rs) := by
    intro rs
    induction rs with
    | nil => intro ps h; cases h; simp
    | cons a rs ih =>
      intro ps h
      rw [List.map_cons] at h
      unfold toPyL at h
      obtain ⟨q, e3, d3⟩ := pl_py (n := 1) (d := rowD a) pl_row
      rw [e3] at h
      cases e4 : toPyL (rs.map rowD) with
      | none => simp [e4] at h
      | some qs =>
        simp [e4] at h
        subst h
        rw [List.any_cons, ih e4]
        have k := pl_eqv (pl_row (xs := a)) (pl_row (xs := r)) e3 e1
        rw [Bool.eq_iff_iff, Bool.or_eq_true, k]
        simp only [decide_eq_true_eq, List.mem_cons]
        constructor
        · rintro (h | h)
          · left
            have h : D.lst (a.map D.int) = D.lst (r.map D.int) := h
            have h2 := D.lst.inj h
            have : ∀ {a r : List Int}, a.map D.int = r.map D.int → r = a := by
              intro a
              induction a with
              | nil => intro r h; cases r with
                | nil => rfl
                | cons => cases h
              | cons x xs ih => intro r h; cases r with
                | nil => cases h
                | cons y ys =>
                  rw [List.map_cons, List.map_cons] at h
                  injection h with h1 h2
                  injection h1 with h1
                  rw [h1, ih h2]
            exact this h2
          · exact .inr h
        · rintro (rfl | h)
          · exact .inl rfl
          · exact .inr h
  exact key e2
/-! len(set(xs)), xs ints, each once -/
def dLenSet : D → Option D
  | .lst ds => (dInts ds).bind fun ns => if ns.Nodup ∧ ns.length ≤ 4000 then some (.int ns.length) else none
  | _ => none
section
variable {X : Cx} {c : Ct} {W : WX} {k : Nat} {e : Expr} {fa : M AK} {p p2 q pos : Pos}
theorem de_lenSet (o : Ok X c W k) (h : DO X c W e fa) (hg : Gl X "len") (hm : X.mg "len" = none) (hg2 : Gl X "set") (hm2 : X.mg "set" = none)
    (na : starEach [e] X.env = (false, eval e X.env) :: starEach [] X.env := by rfl) : DE X c W (.Call (.Name "len" p) [.Call (.Name "set" p2) [e] [] q] [] pos) (mUn dLenSet fa) := by
  obtain ⟨t, pe, s⟩ := h.out
  refine ⟨_, RZ.pe_lenSetI hg hm hg2 hm2 pe o.calm na, fun x σ H Δ Q sr q => s x σ H Δ _ sr (q.bind fun a Δ1 q1 v x1 H1 k1 sr1 h1 => ?_)⟩
  obtain ⟨d, r, q3⟩ := Post.get sr1 h1 (q1.step k1 fun a Δ q => okV.step k1 q)
  cases d with
  | lst ds =>
    have q3 : Post c W x1 σ H1 (okV c x1 σ H1 Q) (mOpt ((dInts ds).bind fun ns => if ns.Nodup ∧ ns.length ≤ 4000 then some (.int ns.length) else none) Δ1) := q3
    cases ei : dInts ds with
    | none => rw [ei] at q3; exact q3.elim
    | some ns =>
      rw [ei, Option.bind_some] at q3
      split at q3
      · rename_i hl
        obtain ⟨l, vs, rfl, hh, rl⟩ := rep_lst r
        have ev := repL_ints ei rl
        subst ev
        have q4 := Post.outV sr1 q3
        rw [← o.hK]
        exact ⟨l, ns, rfl, SqL.of hh, hl.1, hl.2, outV.now (G := c.toGc) (Av := x1.Av) q4 mk_int⟩
      · exact q3.elim
  | _ => exact q3.elim
end
@[simp] theorem dLenSet_row {ns : List Int} : dLenSet (rowD ns) = if ns.Nodup ∧ ns.length ≤ 4000 then some (.int ns.length) else none := by
  show (dInts (ns.map D.int)).bind _ = _
  rw [dInts_map]; rfl
/-! == of lists of typed things -/
theorem mapInj {α : Type} {f : α → D} (inj : ∀ a b, f a = f b → a = b) : ∀ {xs ys : List α}, xs.map f = ys.map f → xs = ys
  | [], [], _ => rfl
  | [], y :: ys, h => by cases h
  | x :: xs, [], h => by cases h
  | x :: xs, y :: ys, h => by
    rw [List.map_cons, List.map_cons] at h
    injection h with h1 h2
    rw [inj x y h1, mapInj inj h2]
theorem rowO_inj {a b : Option (List Int)} (h : rowO a = rowO b) : a = b := by
  cases a <;> cases b
  · rfl
  · cases h
  · cases h
  · rw [rowD_inj.mp h]
theorem pl_rowO {o : Option (List Int)} : Pl 1 (rowO o) = true := by
  cases o with
  | none => rfl
  | some r => exact pl_row
theorem eqD_mapL {α : Type} [DecidableEq α] {f : α → D} {n : Nat} {xs ys : List α} (hn : n ≤ 59) (hf : ∀ a, Pl n (f a) = true) (inj : ∀ a b, f a = f b → a = b) : eqD (.lst (xs.map f)) (.lst (ys.map f)) = some (decide (xs = ys)) := by
  have h : ∀ zs : List α, Pl (n + 1) (.lst (zs.map f)) = true := fun zs => by
    show (zs.map f).all (Pl n) = true
    rw [List.all_map, List.all_eq_true]
    exact fun a _ => hf a
  rw [eqD_pl (n := n + 1) (by omega) (h xs) (h ys)]
  congr 1
  rw [Bool.eq_iff_iff, eqB_iff, decide_eq_true_eq]
  exact ⟨fun e => mapInj inj (D.lst.inj e), fun e => by rw [e]⟩
end DL

namespace DL
open PySem L2
def selIx : D → Option Bool
  | .int z => if z = 0 then some false else if z = 1 then some true else none
  | _ => none
theorem selIx_some {d : D} {b : Bool} (h : selIx d = some b) : d = .int (if b then 1 else 0) := by
  unfold selIx at h
  split at h
  · rename_i z
    split at h
    · rename_i e; cases h; rw [e]; rfl
    · split at h
      · rename_i e; cases h; rw [e]; rfl
      · cases h
  · cases h
def mSelPop (i j : Nat) (fk : M AK) : M D := mBind (mHold isLst i) fun _ => mBind (mHold isLst j) fun _ => mBind fk fun a => mBind (mGet a) fun k => mBind (mOpt (selIx k)) fun b => mBind (mUpd (if b = true then j else i) (gPopAt (.int 0))) fun d => mPure d
section
variable {X : Cx} {c : Ct} {W : WX} {e : Expr} {fk : M AK} {pos p0 p1 p2 lpos spos kpos : Pos} {i j : Nat} {n0 n1 : Str}
theorem de_selPop {kk} (hN0 : X.N[i]? = some n0) (hv0 : Vis X.env.scope n0) (hN1 : X.N[j]? = some n1) (hv1 : Vis X.env.scope n1) (h : DO X c W e fk) (hsl : PlainIx e)
    (hd0 : (n0 == ("__debug__" : Str)) = false := by decide) (hcd0 : (n0 == ("__classdict__" : Str)) = false := by decide)
    (hd1 : (n1 == ("__debug__" : Str)) = false := by decide) (hcd1 : (n1 == ("__classdict__" : Str)) = false := by decide)
    (hst : starEach [.Name n0 p0, .Name n1 p1] X.env = (false, eval (.Name n0 p0) X.env) :: starEach [.Name n1 p1] X.env := by rfl)
    (hst1 : starEach [.Name n1 p1] X.env = (false, eval (.Name n1 p1) X.env) :: starEach [] X.env := by rfl)
    (hbase : attributeBase (.Subscript (.List [.Name n0 p0, .Name n1 p1] lpos) e spos) "pop" X.env (eval (.Subscript (.List [.Name n0 p0, .Name n1 p1] lpos) e spos) X.env) = eval (.Subscript (.List [.Name n0 p0, .Name n1 p1] lpos) e spos) X.env := by rfl)
    (hfew : ((backTo pos (starEach [.Constant (.int 0) kk kpos] X.env)).all (fun q => !q.1) && (backToKw pos (keywordEach [] X.env)).all (fun q => q.1.isSome)
      && decide ([Expr.Constant (.int 0) kk kpos].length + ([] : List Keyword).length + (if ([] : List Keyword).isEmpty then 0 else 1) < 30)) = true := by rfl)
    (hline : (p2.endLine == pos.line) = true := by rfl) (hs : starEach [.Constant (.int 0) kk kpos] X.env = (false, eval (.Constant (.int 0) kk kpos) X.env) :: starEach [] X.env := by rfl) (hplain : (backTo pos (starEach [] X.env)).any (·.1) = false := by rfl) :
    DE X c W (.Call (.Attribute (.Subscript (.List [.Name n0 p0, .Name n1 p1] lpos) e spos) "pop" p2) [.Constant (.int 0) kk kpos] [] pos) (mSelPop i j fk) := by
  obtain ⟨t, p, s⟩ := h.out
  have pl := pe_lst (pos := lpos) (pa_cons (pe_var (X := X) (pos := p0) hN0 hv0 hd0 hcd0) (pa_cons (pe_var (X := X) (pos := p1) hN1 hv1 hd1 hcd1) pa_nil hst1) hst)
  have px := pe_ix (pos := spos) (ix_list (X := X)) pl p hsl
  refine ⟨_, pe_bm PySem.F.plainAttrs_list PySem.F.slot_list_pop PySem.F.type_list_pop mt_popAt px (pa_cons pe_int pa_nil hs) hbase hfew hline hs hplain, fun x σ H Δ Q sr q => ?_⟩
  obtain ⟨d0, e0, hp0, q1⟩ := Post.hold q
  obtain ⟨d1, e1, hp1, q2⟩ := Post.hold q1
  obtain ⟨a0, ha0, hσ0, ho0, _⟩ := sr.owAt e0
  obtain ⟨a1, ha1, hσ1, ho1, _⟩ := sr.owAt e1
  obtain ⟨ds0, rfl⟩ := isLst_some hp0
  obtain ⟨ds1, rfl⟩ := isLst_some hp1
  obtain ⟨vs0, hH0, _⟩ := ho0
  obtain ⟨vs1, hH1, _⟩ := ho1
  refine ⟨.ref a0, hσ0, .ref a1, hσ1, lim_ok (by show 2 ≤ lim; decide), fun pn hpn => ?_⟩
  have ex : Ex H (L2.upd H pn (.lst [.ref a0, .ref a1])) := Ex.new hpn
  have sr' := sr.ex ex
  have kp0 := Kp.ex ex x
  have hno : ∀ l, x.ρ l ≠ some pn := fun l z => (sr.ow l pn z).2.1 hpn
  refine s x σ _ Δ _ sr' (Post.bind (q2.step kp0 fun a Δ => okV.step kp0) fun ak Δ1 q3 v x1 H1 k1 sr1 r1 => ?_)
  obtain ⟨dk, rk, q4⟩ := Post.get sr1 r1 (q3.step k1 fun a Δ => okV.step k1)
  have hpn1 : H1 pn = some (.lst [.ref a0, .ref a1]) := k1.frame pn _ upd_same fx_lst hno
  have fin : ∀ (l : Nat) (al : Addr), σ[l]? = some (some (.ref al)) → Post c W x1 σ H1 (okV c x1 σ H1 Q) (mBind (mUpd l (gPopAt (.int 0))) (fun d => mPure d) Δ1) →
      tyV X.K "list" (.ref al) H1 ∧ ∃ (b : Addr) (xs : List V) (z : Int) (k : Nat) (y : V), V.ref al = .ref b ∧ [V.int 0] = [.int z] ∧ H1 b = some (.lst xs) ∧ -(2 ^ 63) ≤ z ∧ z < 2 ^ 63 ∧ seqIndex? z xs.length = some k ∧ xs[k]? = some y ∧ Q y (L2.upd H1 b (.lst (xs.eraseIdx k))) := by
    intro l al hσl qq
    obtain ⟨dl, b, d', el, eu, q5⟩ := Post.upd qq
    obtain ⟨a', ha', hσ', ho', nav⟩ := sr1.owAt el
    rw [hσl] at hσ'; cases hσ'
    obtain ⟨ds, z, jj, hz1, rfl, hz, ej, ed, rfl⟩ := gPopAt_some eu
    cases hz1
    obtain ⟨vs, hH, rl⟩ := ho'
    obtain ⟨y, ey, ry⟩ := rl.at ed
    have ej' : ixN vs.length 0 = some jj := by rw [repL_length rl]; exact ej
    have hk := (ixN_seq ej').1
    refine ⟨.inl ⟨rfl, vs, SqL.of hH⟩, al, vs, 0, jj, y, rfl, rfl, hH, by omega, by omega, hk, ey, ?_⟩
    have kp : Keep c.toGc x1.Av x1.Av H1 (L2.upd H1 al (.lst (vs.eraseIdx jj))) := Keep.temp _ nav
    obtain ⟨k2, sr2⟩ := sr1.ownUpd (o' := .lst (vs.eraseIdx jj)) (d' := .lst (ds.eraseIdx jj)) el ha' ⟨_, upd_same, (rl.keep kp).erase jj⟩
    exact q5 y x1 _ k2 sr2 (ry.keep kp)
  cases es : selIx dk with
  | none => rw [es] at q4; exact q4.elim
  | some b =>
    rw [es] at q4
    have ed := selIx_some es
    subst ed
    rw [rep_int rk]
    cases b with
    | false => exact ⟨pn, [.ref a0, .ref a1], 0, .ref a0, rfl, rfl, SqL.of hpn1, atI_0, fin i a0 hσ0 q4⟩
    | true => exact ⟨pn, [.ref a0, .ref a1], 1, .ref a1, rfl, rfl, SqL.of hpn1, atI_1, fin j a1 hσ1 q4⟩
end
theorem wp_selPop {i j : Nat} {fk : M AK} {Δ : SD} {E : EX} {P : D → SD → Prop} : wp (mSelPop i j fk) Δ (K := ⟨P, E⟩) = wp (mHold isLst i) Δ (K := ⟨fun _ Δ1 => wp (mHold isLst j) Δ1 (K := ⟨fun _ Δ2 => wp fk Δ2 (K := ⟨fun a Δ3 => wp (mGet a) Δ3 (K := ⟨fun k Δ4 => wp (mOpt (selIx k)) Δ4 (K := ⟨fun b Δ5 => wp (mUpd (if b = true then j else i) (gPopAt (.int 0))) Δ5 (K := ⟨P, E⟩), E⟩), E⟩), E⟩), E⟩), E⟩) := by
  unfold mSelPop
  rw [wp_bind]; refine wp_ext fun _ _ => ?_
  rw [wp_bind]; refine wp_ext fun _ _ => ?_
  rw [wp_bind]; refine wp_ext fun _ _ => ?_
  rw [wp_bind]; refine wp_ext fun _ _ => ?_
  rw [wp_bind]; refine wp_ext fun _ _ => ?_
  rw [wp_bind]; refine wp_ext fun _ _ => ?_
  rw [wp_pure]
/-- a call raises n with v -/
def RaE (n : Str) (v : D) (m : Str) (d : Option D) (es : List D) : Prop := m = n ∧ d = some v ∧ es = []
/-- no answer -/
def noA : D → Bool → List D → Prop := fun _ _ _ => False
end DL

namespace DL
open PySem L2
/-- the module's table x: text keys, text values -/
def KdD (K : PySem.W.Frag) (w : World) (mg : Str → Option Value) (x : Str) (l : List (Str × Str)) : Prop := ∃ p, mg x = some (.ref p) ∧ ∀ q ∈ l, L2.KDct K w p q.1 (.str q.2)
theorem kd_mk {K : PySem.W.Frag} {w : World} {mg : Str → Option Value} {x : Str} {l : List (Str × Str)} {p : Addr} {es : Array DictEntry} {n : Nat} (hp : mg x = some (.ref p)) (hl : K.lookup p = some ⟨.type "dict", none, .dict es n, #[]⟩)
    (hk : PySem.W.KeysLit w.params es.toList) (h : ∀ q ∈ l, ∃ t, PySem.W.nsIn K p q.1 = some (some (.str q.2 t))) : KdD K w mg x l :=
  ⟨p, hp, fun q hq => by obtain ⟨t, e⟩ := h q hq; exact ⟨es, n, _, hl, hk, e, ⟨t, rfl⟩⟩⟩
def dKd (l : List (Str × Str)) : D → Option D
  | .str z => ((l.find? fun q => decide (q.1 = z)).map fun q => D.str q.2)
  | _ => none
def rKd (K : PySem.W.Frag) (w : World) : V → V → Hp → VK → Prop := L2.rIxD K w
section
variable {X : Cx} {c : Ct} {W : WX} {k : Nat} {e : Expr} {fa : M AK} {x : Str} {l : List (Str × Str)} {pos p1 : Pos}
theorem de_kd (kd : KdD X.K X.w X.mg x l) (hg : Gl X x) (h : DO X c W e fa) (hs : PlainIx e) (hdb : (x == ("__debug__" : Str)) = false := by decide) :
    DE X c W (.Subscript (.Name x p1) e pos) (mUn (dKd l) fa) := by
  obtain ⟨p, hp, hl⟩ := kd
  obtain ⟨t, pe, s⟩ := h.out
  refine ⟨_, pe_ix ix_kdict (pe_glob (v := .ref p) hg hp rfl hdb) pe hs, fun y σ H Δ Q sr q => s y σ H Δ _ sr (q.bind fun a Δ1 q1 v x1 H1 k1 sr1 h1 => ?_)⟩
  obtain ⟨d, r, q3⟩ := Post.get sr1 h1 (q1.step k1 fun a Δ q => okV.step k1 q)
  cases d with
  | str z =>
    have q3 : Post c W x1 σ H1 (okV c x1 σ H1 Q) (mOpt ((l.find? fun q => decide (q.1 = z)).map fun q => D.str q.2) Δ1) := q3
    cases ef : l.find? fun q => decide (q.1 = z) with
    | none => rw [ef] at q3; exact q3.elim
    | some kv =>
      rw [ef] at q3
      have hm := List.mem_of_find?_eq_some ef
      have hz := List.find?_some ef
      simp at hz
      rw [rep_str r, ← hz]
      exact ⟨p, kv.1, .str kv.2, rfl, rfl, hl kv hm, (Post.outV sr1 q3) (.str kv.2) H1 (Ex.refl H1) (by unfold Rep; rfl)⟩
  | _ => exact q3.elim
end
/-! [*xs, ..] -/
def stI : D → Option (List D)
  | .lst ds => some ds
  | .tup ds => some ds
  | _ => none
def mStar (fe : M D) (fr : M (List AK)) : M (List AK) := mBind fe fun d => mBind (mOpt (stI d)) fun ds => mBind fr fun as => mPure (ds.map AK.v ++ as)
theorem aks_v {c : Ct} {x : Sx} {σ : L2.St} {H : Hp} : ∀ {ds : List D} {vs : List V} {as : List AK} {us : List V}, RepL c.toGc x.Av H ds vs → AKsOk c x σ H as us → AKsOk c x σ H (ds.map AK.v ++ as) (vs ++ us)
  | [], vs, as, us, h, h2 => by
    unfold RepL at h
    subst h
    exact h2
  | d :: ds, vs, as, us, h, h2 => by
    unfold RepL at h
    obtain ⟨v, r, rfl, h3, h4⟩ := h
    exact ⟨v, r ++ us, rfl, h3, aks_v h4 h2⟩
section
variable {X : Cx} {c : Ct} {W : WX} {e : Expr} {es : List Expr} {fe : M D} {fr : M (List AK)} {p : Pos}
theorem da_star (hK : c.K = X.K) (h : DE X c W e fe) (r : DA X c W es fr) (hs : starEach (.Starred e p :: es) X.env = (true, eval e X.env) :: starEach es X.env := by rfl) : DA X c W (.Starred e p :: es) (mStar fe fr) := by
  obtain ⟨te, pe, se⟩ := h.out
  obtain ⟨tr, pr, sr0⟩ := r.out
  refine ⟨_, StX.pa_star pe pr hs, fun x σ H Δ Q sr q => se x σ H Δ _ sr (q.bind fun d Δ1 q1 v x1 H1 k1 sr1 h1 => ?_)⟩
  have q1 := q1.step k1 fun a Δ => okA.step k1
  have fin : ∀ ds, stI d = some ds → ∀ pp vs, v = V.ref pp → (SqT X.K H1 pp vs ∨ SqL X.K H1 pp vs) → RepL c.toGc x1.Av H1 ds vs → ∃ p xs, v = V.ref p ∧ (SqT X.K H1 p xs ∨ SqL X.K H1 p xs) ∧ tr σ H1 fun ys H2 => Q (xs ++ ys) H2 := by
    intro ds hds pp vs hv hsq hrl
    rw [hds] at q1
    refine ⟨pp, vs, hv, hsq, sr0 x1 σ H1 Δ1 _ sr1 (Post.bind (show Post c W x1 σ H1 (okA c x1 σ H1 Q) (mBind fr (fun as => mPure (ds.map AK.v ++ as)) Δ1) from q1) fun as Δ2 q2 us x2 H2 k2 sr2 h2 => ?_)⟩
    exact (show okA c x1 σ H1 Q (ds.map AK.v ++ as) Δ2 from q2) (vs ++ us) x2 H2 k2 sr2 (aks_v (RepL.kp sr1 k2 hrl) h2)
  cases d with
  | lst ds =>
    unfold Rep at h1
    obtain ⟨a, vs, rfl, _, hh, rl⟩ := h1
    exact fin ds rfl a vs rfl (.inr (SqL.of hh)) rl
  | tup ds =>
    unfold Rep at h1
    obtain ⟨a, vs, rfl, _, hh, rl⟩ := h1
    exact fin ds rfl a vs rfl (.inl (SqT.of hh)) rl
  | _ => exact q1.elim
end
/-! what they answer -/
section
variable {Δ : SD} {E : EX}
@[simp] theorem wp_star {fe : M D} {fr : M (List AK)} {P : List AK → SD → Prop} : wp (mStar fe fr) Δ (K := ⟨P, E⟩) = wp fe Δ (K := ⟨fun d Δ1 => wp (mOpt (stI d)) Δ1 (K := ⟨fun ds Δ2 => wp fr Δ2 (K := ⟨fun as Δ3 => P (ds.map AK.v ++ as) Δ3, E⟩), E⟩), E⟩) := by
  unfold mStar
  rw [wp_bind]; refine wp_ext fun _ _ => ?_
  rw [wp_bind]; refine wp_ext fun _ _ => ?_
  rw [wp_bind]; refine wp_ext fun _ _ => ?_
  rw [wp_pure]
theorem wp_vals {ds : List D} {as : List AK} {P : List D → SD → Prop} : wp (mVals (ds.map AK.v ++ as)) Δ (K := ⟨P, E⟩) = wp (mVals as) Δ (K := ⟨fun es Δ1 => P (ds ++ es) Δ1, E⟩) := by
  induction ds generalizing P with
  | nil => rfl
  | cons d ds ih =>
    rw [List.map_cons, List.cons_append, wp_valsC, ih]
    first | done | rfl
theorem wp_vals0 {ds : List D} {P : List D → SD → Prop} : wp (mVals (ds.map AK.v)) Δ (K := ⟨P, E⟩) = P ds Δ := by
  have := wp_vals (Δ := Δ) (E := E) (ds := ds) (as := []) (P := P)
  rw [List.append_nil] at this
  rw [this, wp_valsN, List.append_nil]
end
end DL

namespace DL
open PySem L2 PySem.Spec PyProof.Rows
section
variable {prog : Program} {w : World} {A : Around} {E : Value → Shared → Prop} {s : Shared}
theorem adjust_rev (n : Nat) : Builtin.Slice.sliceAdjust none none (-1) (n : Int) = ((n : Int) - 1, -1) := by
  unfold Builtin.Slice.sliceAdjust
  rfl
theorem places_rev (n : Nat) : Builtin.Slice.slicePlaces ((n : Int) - 1) (-1) (-1) = n := by
  unfold Builtin.Slice.slicePlaces
  have h1 : ¬ (-1 : Int) > 0 := by omega
  simp only [h1, if_false]
  have e : ∀ z : Int, z / - -1 = z := fun z => by rw [show (- -1 : Int) = 1 from rfl, Int.ediv_one]
  simp only [e]
  split <;> omega
theorem fmap_map {α β : Type} {f : α → Option β} {g : α → β} : ∀ {l : List α}, (∀ m ∈ l, f m = some (g m)) → l.filterMap f = l.map g
  | [], _ => rfl
  | a :: l, h => by
    rw [List.filterMap_cons, h a (List.mem_cons_self ..), List.map_cons]
    dsimp only
    rw [fmap_map fun m hm => h m (List.mem_cons_of_mem _ hm)]
theorem sliceApplied_rev {sl : Addr} {vl vu vs : Value} {n : Nat} {Q : Int × Int × Nat → Shared → Prop} (hs : s.heap.IsSliceOf sl vl vu vs) (pl : IsPart vl none) (pu : IsPart vu none) (ps : IsPart vs (some (-1)))
    (h : Q ((n : Int) - 1, -1, n) s) : wpAny (model prog w) A (Builtin.Slice.sliceApplied (.ref sl) (pure (n : Int))) Q E s := by
  obtain ⟨os, hos, hcs, hds⟩ := id hs
  unfold Builtin.Slice.sliceApplied Builtin.Slice.sliceFields
  refine wpAny_bind (wpAny_bind (wpAny_field hos hds (x := vl) rfl (wpAny_bind (wpAny_field hos hds (x := vu) rfl (wpAny_bind (wpAny_field hos hds (x := vs) rfl (wpAny_pure ?_)))))))
  refine wpAny_bind (HT.slicePart_ ps ?_)
  show wpAny _ _ (if ((-1 : Int) == 0) = true then _ else _) _ _ s
  rw [if_neg (by decide)]
  refine wpAny_bind (HT.slicePart_ pl (wpAny_bind (HT.slicePart_ pu (wpAny_bind (wpAny_pure ?_)))))
  show wpAny _ _ (match Builtin.Slice.sliceAdjust none none (-1) (n : Int) with | (lo, hi) => pure (lo, (-1 : Int), Builtin.Slice.slicePlaces lo hi (-1))) _ _ s
  rw [adjust_rev n]
  show wpAny _ _ (pure ((n : Int) - 1, (-1 : Int), Builtin.Slice.slicePlaces ((n : Int) - 1) (-1) (-1))) _ _ s
  rw [places_rev]
  exact wpAny_pure h
theorem pick_rev (xs : Array Value) : ((List.range xs.size).filterMap fun (m : Nat) => xs[(((xs.size : Int) - 1) + (m : Int) * (-1)).toNat]?).toArray = xs.toList.reverse.toArray := by
  congr 1
  refine List.ext_getElem? fun i => ?_
  have e : ((List.range xs.size).filterMap fun (m : Nat) => xs[(((xs.size : Int) - 1) + (m : Int) * (-1)).toNat]?) = (List.range xs.size).map fun m => xs.toList.getD (xs.size - 1 - m) default := by
    refine fmap_map fun m hm => ?_
    have hm := List.mem_range.mp hm
    have e1 : (((xs.size : Int) - 1) + (m : Int) * (-1)).toNat = xs.size - 1 - m := by omega
    rw [e1]
    have hlt : xs.size - 1 - m < xs.size := by omega
    simp [List.getD, hlt]
  rw [e]
  by_cases hi : i < xs.size
  · rw [List.getElem?_map, List.getElem?_range hi, List.getElem?_reverse (by simpa using hi)]
    have hlt : xs.size - 1 - i < xs.size := by omega
    simp [List.getD, hlt]
  · rw [List.getElem?_eq_none (by simpa using hi), List.getElem?_eq_none (by simpa using hi)]
theorem getItem_tuple_rev {t sl : Addr} {items : Array Value} {vl vu vs : Value} {Q : Value → Shared → Prop} (ht : IsTup s.heap t items) (hs : s.heap.IsSliceOf sl vl vu vs) (pl : IsPart vl none) (pu : IsPart vu none) (ps : IsPart vs (some (-1)))
    (h : Q (.ref s.heap.objs.size) { s with heap := s.heap.push { cls := .type "tuple", data := .seq items.toList.reverse.toArray } })
    (hsz : items.size ≤ sizeLine) : wpAny (model prog w) A (getItem (.ref t) (.ref sl)) Q E s := by
  have htake : sizeOk (.seq items.toList.reverse.toArray) := by
    show items.toList.reverse.toArray.size ≤ sizeLine
    rw [List.size_toArray, List.length_reverse, Array.length_toList]
    exact hsz
  obtain ⟨os, hos, hcs, hds⟩ := id hs
  have hTs : s.TypeIs (.ref sl) "slice" := ⟨os, hos, hcs⟩
  unfold getItem
  try with_reducible refine wpAny_holding ?_
  first | refine wpAny_bind (wpAny_pure ?_) | skip
  refine wpAny_bind (wpAny_sequenceKey ht.typeIs (by decide) ?_)
  refine wpAny_bind (wpAny_callSpecial?_slot (name := Str.ofString "__getitem__") ht.typeIs PyProof.Rows.slot_tuple_getitem
    (wpAny_call_entry PyProof.Rows.slot_tuple_getitem ht.typeIs entry_tuple_getitem ?_ (args_tuple_getitem _ _)))
  show wpAny _ _ (Builtin.Tuple.tupleItemsOf (.ref t) >>= _) _ _ s
  refine wpAny_bind (tupleItemsOf_ ht ?_)
  refine wpAny_bind (wpAny_typeOf hTs ?_)
  rw [if_pos (by decide)]
  refine wpAny_bind (sliceApplied_rev hs pl pu ps ?_)
  have hno : ¬ ((((items.size : Int) - 1) == 0 && (-1 : Int) == 1 && items.size == items.size) = true) := by
    intro q
    rw [Bool.and_eq_true, Bool.and_eq_true] at q
    exact absurd q.1.2 (by decide)
  show wpAny _ _ (if (((items.size : Int) - 1) == 0 && (-1 : Int) == 1 && items.size == items.size) = true then _ else _) _ _ s
  rw [if_neg hno, pick_rev]
  first
    | exact wpAny_bind (m := Builtin.Tuple.tupleExact _) (wpAny_newObj_type (wpAny_pure ⟨_, rfl, wpAny_pure h⟩) htake)
    | exact wpAny_bind (m := Builtin.Tuple.tupleExact _) (wpAny_newObj_type (wpAny_bind (wpAny_pure (wpAny_pure ⟨_, rfl, wpAny_pure h⟩))) htake)
    | exact wpAny_bind (wpAny_bind (m := Builtin.Tuple.tupleExact _) (wpAny_newObj_type (wpAny_pure (wpAny_pure ⟨_, rfl, wpAny_pure h⟩)) htake))
    | exact wpAny_bind (wpAny_bind (m := Builtin.Tuple.tupleExact _) (wpAny_newObj_type (wpAny_pure ⟨_, rfl, wpAny_pure h⟩) htake))
end
def tRevX (K : PySem.W.Frag) (te : TE) : TE := fun σ H Q => te σ H fun x H1 => ∃ a xs, x = .ref a ∧ ((SqL K H1 a xs ∧ ∀ p, H1 p = none → Q (.ref p) (L2.upd H1 p (.lst xs.reverse))) ∨ (SqT K H1 a xs ∧ ∀ p, H1 p = none → Q (.ref p) (L2.upd H1 p (.tup xs.reverse))))
theorem pe_revX {X : Cx} {e : Expr} {te : TE} {k : Nat} {p1 p2 p3 pos : Pos} (he : PE X e te) : PE X (.Subscript e (.Slice none none (some (.UnaryOp .USub (.Constant (.int 1) k p1) p2)) p3) pos) (tRevX X.K te) := by
  refine ⟨fun pins s σ H Q I h => ?_⟩
  refine Subscript_ (thn (he.run pins s σ H _ I h) fun v s1 ⟨x, H1, I1, r1, q1⟩ => ?_)
  obtain ⟨a, xs, ex, q⟩ := q1
  subst ex
  cases r1
  have hst : PO X (some (.UnaryOp .USub (.Constant (.int 1) k p1) p2)) (tPart (tUn (rU fun i => .int (-i)) (tC (.int 1)))) := po_some (pe_un un_neg pe_int)
  refine wpAny_Slice (thn (po_none.run pins s1 σ H1 (fun o H2 => o = none ∧ H2 = H1) I1 ⟨rfl, rfl⟩) fun vl s2 ⟨l, H2, I2, pl, el, e2⟩ => ?_)
  subst el e2
  refine thn (po_none.run pins s2 σ H2 (fun o H3 => o = none ∧ H3 = H2) I2 ⟨rfl, rfl⟩) fun vu s3 ⟨u, H3, I3, pu, eu, e3⟩ => ?_
  subst eu e3
  refine thn (hst.run pins s3 σ H3 (fun o H4 => o = some (-1) ∧ H4 = H3) I3 ⟨1, rfl, -1, rfl, rfl, rfl⟩) fun vs s4 ⟨o, H4, I4, ps, eo, e4⟩ => ?_
  subst eo e4
  have I5 : Inv X pins σ H4 { s4 with heap := s4.heap.push { cls := .type "slice", data := .fields #[vl, vu, vs] } } := I4.kept (t' := s4.toks) fun b ob q => Heap.get?_push_of_some _ q
  show wpAny (model X.prog X.w) X.A (subscriptTail e (.Slice none none (some (.UnaryOp .USub (.Constant (.int 1) k p1) p2)) p3) (.ref a) (.ref s4.heap.objs.size)) (EP X pins σ Q) X.xe { s4 with heap := s4.heap.push { cls := .type "slice", data := .fields #[vl, vu, vs] } }
  rcases q with ⟨hx, q⟩ | ⟨hx, q⟩
  · obtain ⟨its, r, ht, hz⟩ := I5.list hx
    have hlen := r.length
    refine tail_any (ops := [.ref a, .ref s4.heap.objs.size]) ht.isList.typeIs (PySem.slot_list_getitem.lookup) ?_ (by with_unfolding_all rfl)
    refine wpAny_getItem_list_slice ht.isList (Heap.IsSliceOf.new _ vl vu vs) pl pu ps (by decide) ?_ (by rw [List.size_toArray]; omega)
    rw [PySem.W.krv_pick]
    refine ⟨.ref _, _, I5.laid (t' := s4.toks) (o := .lst xs.reverse) (fun b ob q => Heap.get?_push_of_some _ q) (Nat.le_refl _) ?_, rfl, q _ (I5.hok.fresh (Nat.le_refl _))⟩
    exact ⟨by rw [List.length_reverse]; exact hz, _, 0, r.reverse, Heap.get?_push_size _ rfl⟩
  · obtain ⟨its, r, ht, hz⟩ := I5.tuple hx
    have hlen := r.length
    refine tail_any (ops := [.ref a, .ref s4.heap.objs.size]) ht.typeIs (PyProof.Rows.slot_tuple_getitem.lookup) ?_ (by with_unfolding_all rfl)
    refine getItem_tuple_rev ht (Heap.IsSliceOf.new _ vl vu vs) pl pu ps ?_ (by rw [List.size_toArray]; omega)
    refine ⟨.ref _, _, I5.laid (t' := s4.toks) (o := .tup xs.reverse) (fun b ob q => Heap.get?_push_of_some _ q) (Nat.le_refl _) ?_, rfl, q _ (I5.hok.fresh (Nat.le_refl _))⟩
    exact ⟨by rw [List.length_reverse]; exact hz, _, r.reverse, IsTup.new _ _⟩
def dRevX : D → Option D
  | .lst ds => some (.lst ds.reverse)
  | .tup ds => some (.tup ds.reverse)
  | _ => none
@[simp] theorem dRevX_lst {ds : List D} : dRevX (.lst ds) = some (.lst ds.reverse) := (rfl)
@[simp] theorem dRevX_tup {ds : List D} : dRevX (.tup ds) = some (.tup ds.reverse) := (rfl)
section
variable {X : Cx} {c : Ct} {W : WX} {k : Nat} {e : Expr} {fa : M AK} {pos p1 p2 p3 : Pos}
theorem de_revX (o : Ok X c W k) (h : DO X c W e fa) {j : Nat} : DE X c W (.Subscript e (.Slice none none (some (.UnaryOp .USub (.Constant (.int 1) j p1) p2)) p3) pos) (mUn dRevX fa) := by
  obtain ⟨t, pe, s⟩ := h.out
  refine ⟨_, pe_revX pe, fun x σ H Δ Q sr q => s x σ H Δ _ sr (q.bind fun a Δ1 q1 v x1 H1 k1 sr1 h1 => ?_)⟩
  obtain ⟨d, r, q2⟩ := Post.get sr1 h1 (q1.step k1 fun a Δ q => okV.step k1 q)
  cases d with
  | lst ds =>
    obtain ⟨l, vs, rfl, hh, rl⟩ := rep_lst r
    have q3 := Post.outV sr1 q2
    rw [← o.hK]
    exact ⟨l, vs, rfl, .inl ⟨SqL.of hh, fun p hp => newL sr1.fr hp rl.rev q3⟩⟩
  | tup ds =>
    obtain ⟨l, vs, rfl, _, hh, rl⟩ := rep_tup r
    have q3 := Post.outV sr1 q2
    rw [← o.hK]
    exact ⟨l, vs, rfl, .inr ⟨SqT.of hh, fun p hp => newT sr1.fr hp rl.rev q3⟩⟩
  | _ => exact q2.elim
end
section
variable {Δ : SD} {E : EX}
@[simp] theorem wp_chk2 {c : Prop} [Decidable c] {P : Unit → SD → Prop} : wp (mOpt (if c then some () else none)) Δ (K := ⟨P, E⟩) = (c ∧ P () Δ) := by
  by_cases h : c <;> simp [h]
end
def isLstD : D → Bool
  | .lst _ => true
  | _ => false
@[simp] theorem isLstD_lst {ds : List D} : isLstD (.lst ds) = true := (rfl)
theorem hio_nil {l : List (Nat × Addr)} (h : l.map (·.1) = []) : l = [] := List.map_eq_nil_iff.mp h
/-- in its place, or at the end -/
def putA {κ α : Type} [DecidableEq κ] (kvs : List (κ × α)) (k : κ) (v : α) : List (κ × α) :=
  if (kvs.any fun p => decide (p.1 = k)) = true then kvs.map (fun p => if p.1 = k then (p.1, v) else p) else kvs ++ [(k, v)]
theorem putA_len {κ α : Type} [DecidableEq κ] {kvs : List (κ × α)} {k : κ} {v : α} : (putA kvs k v).length ≤ kvs.length + 1 := by
  unfold putA
  split
  · rw [List.length_map]; omega
  · rw [List.length_append]; exact Nat.le_refl _
end DL

-- gives: mDoor mSortVals mSortComp mSortRow mLendT mLendF mWreckP
namespace DL
open PySem L2 PySem.Spec PyProof.Rows

/-- nothing but tables is changed -/
structure Gr (H H1 : Hp) : Prop where
  fx : ∀ b o, H b = some o → Fx o → H1 b = some o
  th : ∀ b, H1 b = none → H b = none
theorem Gr.refl (H : Hp) : Gr H H := ⟨fun _ _ h _ => h, fun _ h => h⟩
section
variable {H H1 : Hp}
theorem Gr.keep {G : Gc} {Av : Addr → Prop} (g : Gr H H1) : Keep G Av Av H H1 :=
  ⟨fun a u _ f h => by
    rcases h with h | ⟨o, h⟩
    · exact .inl (g.fx a _ h f)
    · exact .inr ⟨o, g.fx a _ h fx_frz⟩, fun a vs _ h => g.fx a _ h fx_lst, fun a vs _ h => g.fx a _ h fx_tup, fun a C dx us _ h => g.fx a _ h fx_ins, fun _ _ h _ => h⟩
theorem Own.gr {G : Gc} {Av : Addr → Prop} (g : Gr H H1) {a : Addr} {d : D} (h : Own G Av H a d) : Own G Av H1 a d := by
  cases d <;> first
    | exact h.elim
    | (obtain ⟨vs, h1, h2⟩ := h; exact ⟨vs, g.fx a _ h1 (by first | exact fx_lst | exact fx_dK | exact fx_dT | exact fx_nd), h2.keep g.keep⟩)
    | (obtain ⟨C, dx, us, h0, h1, h2⟩ := h; exact ⟨C, dx, us, h0, g.fx a _ h1 fx_ins, h2.keep g.keep⟩)
variable {c : Ct} {x : Sx} {σ : L2.St} {Δ : SD}
theorem SR.gr (s : SR c x σ H Δ) (g : Gr H H1) (t : LamX.Tabs c.T H1) : Kp x H x H1 ∧ SR c x σ H1 Δ := by
  refine ⟨⟨fun a o h f _ => g.fx a o h f, g.th, fun i a h => .inl ⟨i, h⟩, fun _ h _ => h, fun _ h => .inl h⟩, ?_⟩
  exact {
    len := s.len
    base := fun a o h f n => g.fx a o (s.base a o h f n) f
    tab := t
    trk := fun a h => s.trk a (g.th a h)
    fr := fun p h => s.fr p (g.th p h)
    av := s.av
    a0 := s.a0
    ow := fun i a h => ⟨(s.ow i a h).1, fun q => (s.ow i a h).2.1 (g.th a q), (s.ow i a h).2.2⟩
    inj := s.inj
    slot := fun i => by
      have h := s.slot i
      revert h
      cases Δ[i]? with
      | none => intro _; trivial
      | some z =>
        cases z with
        | un => intro _; trivial
        | sh d => exact fun ⟨v, h1, h2⟩ => ⟨v, h1, h2.keep g.keep⟩
        | ow d => exact fun ⟨a, h0, h1, h2⟩ => ⟨a, h0, h1, h2.gr g⟩
    ios := s.ios }
end

/-! ### what a door holds -/
def capD : SD → List D
  | [] => []
  | z :: r => match z with
    | .sh d => d :: capD r
    | _ => capD r
def capV : SD → L2.St → List V
  | [], _ => []
  | _ :: _, [] => []
  | z :: r, o :: t => match z, o with
    | .sh _, some v => v :: capV r t
    | _, _ => capV r t
def bare1 : SC → SC
  | .sh d => .sh d
  | _ => .un
/-- the slots' shared data, nothing owned -/
def strip (Δ : SD) : SD := Δ.map bare1
def ShOk (G : Gc) (Av : Addr → Prop) (H : Hp) (Δ : SD) (σ : L2.St) : Prop := ∀ (i : Nat) (d : D), Δ[i]? = some (SC.sh d) → ∃ v : V, σ[i]? = some (some v) ∧ Rep G Av H d v
section
variable {G : Gc} {Av Av' : Addr → Prop} {H H' : Hp}
theorem ShOk.tail {z : SC} {Δ : SD} {o : Option V} {σ : L2.St} (h : ShOk G Av H (z :: Δ) (o :: σ)) : ShOk G Av H Δ σ := fun i d e => by
  obtain ⟨v, e1, r⟩ := h (i + 1) d (by simpa using e)
  exact ⟨v, by simpa using e1, r⟩
theorem cap_rep : ∀ {Δ : SD} {σ : L2.St}, ShOk G Av H Δ σ → σ.length = Δ.length → RepL G Av H (capD Δ) (capV Δ σ)
  | [], _, _, _ => by unfold capD capV RepL; rfl
  | z :: Δ, [], _, l => by simp at l
  | z :: Δ, o :: σ, h, l => by
    have ih := cap_rep h.tail (by simpa using l)
    cases z with
    | un => exact ih
    | ow d => exact ih
    | sh d =>
      obtain ⟨v, e, r⟩ := h 0 d rfl
      have eo : o = some v := by simpa using e
      subst eo
      show RepL G Av H (d :: capD Δ) (v :: capV Δ σ)
      unfold RepL
      exact ⟨v, _, rfl, r, ih⟩
theorem cap_ok : ∀ {Δ : SD} {σ : L2.St}, ShOk G Av H Δ σ → σ.length = Δ.length → RepL G Av' H' (capD Δ) (capV Δ σ) → ShOk G Av' H' Δ σ
  | [], _, _, _, _ => fun i d e => by simp at e
  | z :: Δ, [], _, l, _ => by simp at l
  | z :: Δ, o :: σ, h, l, r => by
    intro i d e
    cases z with
    | un =>
      cases i with
      | zero => simp at e
      | succ i =>
        obtain ⟨v, e1, q⟩ := cap_ok h.tail (by simpa using l) r i d (by simpa using e)
        exact ⟨v, by simpa using e1, q⟩
    | ow d' =>
      cases i with
      | zero => simp at e
      | succ i =>
        obtain ⟨v, e1, q⟩ := cap_ok h.tail (by simpa using l) r i d (by simpa using e)
        exact ⟨v, by simpa using e1, q⟩
    | sh d' =>
      obtain ⟨v, e', _⟩ := h 0 d' rfl
      have eo : o = some v := by simpa using e'
      subst eo
      have r' : RepL G Av' H' (d' :: capD Δ) (v :: capV Δ σ) := r
      unfold RepL at r'
      obtain ⟨v', r2, ee, r3, r4⟩ := r'
      cases ee
      cases i with
      | zero =>
        have : d' = d := by simpa using e
        subst this
        exact ⟨v, rfl, r3⟩
      | succ i =>
        obtain ⟨w, e1, q⟩ := cap_ok h.tail (by simpa using l) r4 i d (by simpa using e)
        exact ⟨w, by simpa using e1, q⟩
theorem SR.shok {c : Ct} {x : Sx} {σ : L2.St} {Δ : SD} (s : SR c x σ H Δ) : ShOk c.toGc x.Av H Δ σ := fun i d e => by
  have sl := s.slot i
  rw [e] at sl
  exact sl
end
section
variable {c : Ct} {x x2 : Sx} {σ σ2 : L2.St} {H H2 : Hp} {Δ Δ0 Δ2 : SD}
/-- a door is opened: the maker's shared data, the opener's heap -/
theorem SR.inner (s : SR c x σ H Δ) (hio : c.io = []) (hl : σ2.length = Δ0.length) (sh : ShOk c.toGc x.Av H Δ0 σ2) : SR c ⟨x.Av, fun _ => none⟩ σ2 H (strip Δ0) where
  len := by unfold strip; rw [List.length_map, hl]
  base := s.base
  tab := s.tab
  trk := s.trk
  fr := s.fr
  av := s.av
  a0 := s.a0
  ow := fun _ _ h => nomatch h
  inj := fun _ _ _ h => nomatch h
  slot := fun i => by
    unfold strip
    rw [List.getElem?_map]
    cases e : Δ0[i]? with
    | none => trivial
    | some z =>
      cases z with
      | un => trivial
      | ow d => trivial
      | sh d => exact sh i d e
  ios := by rw [hio]; exact fun _ h => nomatch h
/-- .. and left -/
theorem SR.outer (s : SR c x σ H Δ) (hio : c.io = []) (hl : σ2.length = Δ0.length) (sh : ShOk c.toGc x.Av H Δ0 σ2) (k : Kp ⟨x.Av, fun _ => none⟩ H x2 H2) (s2 : SR c x2 σ2 H2 Δ2) : Kp x H ⟨x2.Av, x.ρ⟩ H2 ∧ SR c ⟨x2.Av, x.ρ⟩ σ H2 Δ := by
  have kp : Keep c.toGc x.Av x2.Av H H2 := (s.inner hio hl sh).keep k
  have fr : ∀ a o, H a = some o → Fx o → H2 a = some o := fun a o h f => k.frame a o h f fun i e => nomatch e
  have back : ∀ a, x2.Av a → x.Av a ∨ H a = none := fun a h => by
    rcases k.avb a h with q | q | ⟨j, q⟩
    · exact .inl q
    · exact .inr q
    · cases q
  refine ⟨⟨fun a o h f _ => fr a o h f, k.trk, fun i a h => .inl ⟨i, h⟩, k.av, fun a h => (back a h).imp id .inl⟩, ?_⟩
  exact {
    len := s.len
    base := fun a o h f n => fr a o (s.base a o h f n) f
    tab := s2.tab
    trk := fun a h => s.trk a (k.trk a h)
    fr := s2.fr
    av := s2.av
    a0 := s.a0
    ow := fun i a h => ⟨fun q => (back a q).elim (s.ow i a h).1 (s.ow i a h).2.1, fun q => (s.ow i a h).2.1 (k.trk a q), (s.ow i a h).2.2⟩
    inj := s.inj
    slot := fun i => by
      have h := s.slot i
      revert h
      cases Δ[i]? with
      | none => intro _; trivial
      | some z =>
        cases z with
        | un => intro _; trivial
        | sh d => exact fun ⟨v, h1, h2⟩ => ⟨v, h1, h2.keep kp⟩
        | ow d =>
          rintro ⟨a, h0, h1, h2⟩
          refine ⟨a, h0, h1, ?_⟩
          show Own c.toGc x2.Av H2 a d
          cases d <;> first
            | exact h2.elim
            | (obtain ⟨vs, q1, q2⟩ := h2; exact ⟨vs, fr a _ q1 (by first | exact fx_lst | exact fx_dK | exact fx_dT | exact fx_nd), q2.keep kp⟩)
            | (obtain ⟨C, dx, us, q0, q1, q2⟩ := h2; exact ⟨C, dx, us, q0, fr a _ q1 fx_ins, q2.keep kp⟩)
    ios := s.ios }
end
open Classical in
/-- the door is opened: z lies in the first slot, o is what comes out -/
noncomputable def mOut (z : D) (o : Res D) : M D := fun Δ => if Δ[0]? = some (SC.sh z) then (match o with
  | .ok d _ => .ok d Δ
  | .ex n d _ => .ex n d Δ
  | .bad => .bad) else .bad
/-- what the def makes of the door -/
def mDoorR (len : Nat) (mb : D → Res D → M Fl) (o : Res D) (z : D) : RD := mDef len [] (mb z o) [z]
open Classical in
/-- f(lambda: body): the same whatever the door is -/
noncomputable def mDoor (len : Nat) (mb : D → Res D → M Fl) (fb : M D) : M D := fun Δ => if ∀ z, mDoorR len mb (fb (strip Δ)) z = mDoorR len mb (fb (strip Δ)) .non then (match mDoorR len mb (fb (strip Δ)) .non with
  | .ok d _ [] => .ok d Δ
  | _ => .bad) else .bad
end DL

-- gives: mWreck2 mWreckT mWreckP
namespace DL
open PySem L2 PySem.Spec PyProof.Rows
section
variable {c : Ct} {x x2 : Sx} {σ : L2.St} {H H2 : Hp} {Δ Δ2 : SD} {i : Nat} {d : D} {v : V} {R : Addr → Prop}
/-- a region that nobody else sees, read through one slot; owned objects are out of sight -/
theorem SR.lendR (s : SR c x σ H Δ) (hio : c.io = []) (hR : ∀ a, R a → c.H0 a = none) (hi : i < Δ.length) (hσ : σ[i]? = some (some v)) (hv : Rep c.toGc (fun b => x.Av b ∨ R b) H d v) : SR c ⟨fun b => x.Av b ∨ R b, fun _ => none⟩ σ H ((strip Δ).set i (.sh d)) where
  len := by unfold strip; rw [List.length_set, List.length_map]; exact s.len
  base := s.base
  tab := s.tab
  trk := s.trk
  fr := fun p h => .inl (s.fr p h)
  av := fun b h => h.elim (s.av b) fun e => s.a0 b (hR b e)
  a0 := s.a0
  ow := fun _ _ h => nomatch h
  inj := fun _ _ _ h => nomatch h
  slot := fun j => by
    have h := s.slot j
    rw [List.getElem?_set]
    by_cases e : i = j
    · subst e
      have hl : i < (strip Δ).length := by
        unfold strip
        rw [List.length_map]
        exact hi
      rw [if_pos rfl, if_pos hl]
      exact ⟨v, hσ, hv⟩
    · rw [if_neg e]
      unfold strip
      rw [List.getElem?_map]
      revert h
      cases Δ[j]? with
      | none => intro _; trivial
      | some z =>
        cases z with
        | un => intro _; trivial
        | ow d => intro _; trivial
        | sh d => exact fun ⟨v, h1, h2⟩ => ⟨v, h1, h2.keep (Keep.sub fun _ _ q => .inl q)⟩
  ios := by rw [hio]; exact fun _ h => nomatch h
/-- .. and the others' view again -/
theorem SR.unlendR (s : SR c x σ H Δ) (hR : ∀ a, R a → H a ≠ none ∧ ¬ x.Av a) (k : Kp ⟨fun b => x.Av b ∨ R b, fun _ => none⟩ H x2 H2) (s2 : SR c x2 σ H2 Δ2) :
    Kp x H ⟨fun b => x2.Av b ∧ ¬ R b, x.ρ⟩ H2 ∧ SR c ⟨fun b => x2.Av b ∧ ¬ R b, x.ρ⟩ σ H2 Δ ∧ ∀ a o, H a = some o → Fx o → H2 a = some o := by
  have fr : ∀ a o, H a = some o → Fx o → H2 a = some o := fun a o h f => k.frame a o h f fun i e => nomatch e
  have bk : ∀ a, x2.Av a ∧ ¬ R a → x.Av a ∨ H a = none := fun a h => by
    rcases k.avb a h.1 with (q | q) | q | ⟨j, q⟩
    · exact .inl q
    · exact absurd q h.2
    · exact .inr q
    · cases q
  have kp : Kp x H ⟨fun b => x2.Av b ∧ ¬ R b, x.ρ⟩ H2 := ⟨fun a o h f _ => fr a o h f, k.trk, fun i a h => .inl ⟨i, h⟩, fun a h n => ⟨k.av a (.inl h) n, fun e => (hR a e).2 h⟩, fun a h => (bk a h).imp id .inl⟩
  refine ⟨kp, ?_, fr⟩
  have ke := s.keep kp
  exact {
    len := s.len
    base := fun a o h f n => fr a o (s.base a o h f n) f
    tab := s2.tab
    trk := fun a h => s.trk a (k.trk a h)
    fr := fun p h => ⟨s2.fr p h, fun e => (hR p e).1 (k.trk p h)⟩
    av := fun a h => s2.av a h.1
    a0 := s.a0
    ow := fun j a h => ⟨fun q => (bk a q).elim (s.ow j a h).1 (s.ow j a h).2.1, fun q => (s.ow j a h).2.1 (k.trk a q), (s.ow j a h).2.2⟩
    inj := s.inj
    slot := fun j => by
      have h := s.slot j
      revert h
      cases Δ[j]? with
      | none => intro _; trivial
      | some z =>
        cases z with
        | un => intro _; trivial
        | sh d => exact fun ⟨v, h1, h2⟩ => ⟨v, h1, h2.keep ke⟩
        | ow d =>
          rintro ⟨a, h0, h1, h2⟩
          refine ⟨a, h0, h1, ?_⟩
          show Own c.toGc (fun b => x2.Av b ∧ ¬ R b) H2 a d
          cases d <;> first
            | exact h2.elim
            | (obtain ⟨vs, q1, q2⟩ := h2; exact ⟨vs, fr a _ q1 (by first | exact fx_lst | exact fx_dK | exact fx_dT | exact fx_nd), q2.keep ke⟩)
            | (obtain ⟨C, dx, us, q0, q1, q2⟩ := h2; exact ⟨C, dx, us, q0, fr a _ q1 fx_ins, q2.keep ke⟩)
    ios := s.ios }
/-- an object apart is changed -/
theorem Kp.apartUpd {x0 : Sx} {H0 : Hp} {a : Addr} {o : HO} (k : Kp x0 H0 x H) (h : H0 a = none) : Kp x0 H0 x (upd H a o) :=
  ⟨fun b u hb f n => by
    have ne : b ≠ a := fun z => by rw [z, h] at hb; cases hb
    rw [upd_ne ne]; exact k.frame b u hb f n, fun b hb => k.trk b (upd_none hb).2, k.own, k.av, k.avb⟩
end
/-- x = [new list, new list]; if test: return False; x[0].append(0); x[1].append(0) -/
def mWreck2 (i : Nat) (f1 f2 : M D) (ft : M Bool) : M Fl := mBind f1 fun d1 => mBind f2 fun d2 Δ => match d1, d2 with
  | .lst ds1, .lst ds2 => if i < Δ.length ∧ ds1.length < lim ∧ ds2.length < lim then (match ft ((strip (Δ.set i .un)).set i (.sh (.lst [.lst ds1, .lst ds2]))) with
    | .ok true _ => .ok (.rt (.bl false)) (Δ.set i .un)
    | .ok false _ => .ok .nx (Δ.set i .un)
    | _ => .bad) else .bad
  | _, _ => .bad
section
variable {X : Cx} {c : Ct} {W : WX} {e1 e2 test : Expr} {f1 f2 : M D} {ft : M Bool} {i : Nat} {n : Str}
/-- the place of the k-th list is changed -/
theorem wreck_step {H : Hp} {σ : L2.St} {l a : Addr} {k : Int} {vs us : List V} {D : Ends} (hK : c.K = X.K) (hσ : σ[i]? = some (some (.ref l))) (hl : H l = some (.lst us)) (hk : atI us k = some (.ref a)) (ha : H a = some (.lst vs)) (hz : vs.length < lim)
    (q : D.nx σ (upd H a (.lst (vs ++ [.int 0])))) : tDrop (tBM X.K "list" rAppend (tOp (rIx X.K) (tVar i) (tC (.int k))) (tCons (tC (.int 0)) tNil)) D σ H := by
  refine ⟨.ref l, hσ, .inl ⟨l, us, k, .ref a, rfl, rfl, SqL.of hl, hk, ?_⟩⟩
  refine ⟨.inl ⟨rfl, vs, SqL.of ha⟩, ?_⟩
  exact ⟨a, vs, .int 0, rfl, rfl, ha, lim_lt hz, q⟩
theorem db_wreck2 {j0 j1 j2 j3 jb : Nat} {pn pl pa pb pr pif a1 a2 a3 a4 a5 a6 a7 b1 b2 b3 b4 b5 b6 b7 : Pos} (hK : c.K = X.K) (hio : c.io = []) (hN : X.N.Nodup) (hi : X.N[i]? = some n) (hx : Loc X.env.scope n) (hv : Vis X.env.scope n)
    (h1 : DF X c W e1 f1) (h2 : DF X c W e2 f2) (ht : DT X c W test ft)
    (hd : (n == ("__debug__" : Str)) = false := by decide) (hcd : (n == ("__classdict__" : Str)) = false := by decide)
    (hf : X.fn n = true ∨ X.env.scope.names.lookup n = some .local := by first | exact .inl rfl | exact .inr rfl | assumption)
    (hs1 : starEach [e1, e2] X.env = (false, eval e1 X.env) :: starEach [e2] X.env := by rfl) (hs2 : starEach [e2] X.env = (false, eval e2 X.env) :: starEach [] X.env := by rfl)
    (hsw : swapsWith (.List [e1, e2] pl) (some (.Name n pn)) pa.line X.env = pure false := by rfl)
    (hl1 : (a4.endLine == a6.line) = true := by rfl) (hl2 : (b4.endLine == b6.line) = true := by rfl)
    (hb1 : attributeBase (.Subscript (.Name n a1) (.Constant (.int 0) j0 a2) a3) "append" X.env (eval (.Subscript (.Name n a1) (.Constant (.int 0) j0 a2) a3) X.env) = eval (.Subscript (.Name n a1) (.Constant (.int 0) j0 a2) a3) X.env := by rfl)
    (hb2 : attributeBase (.Subscript (.Name n b1) (.Constant (.int 1) j2 b2) b3) "append" X.env (eval (.Subscript (.Name n b1) (.Constant (.int 1) j2 b2) b3) X.env) = eval (.Subscript (.Name n b1) (.Constant (.int 1) j2 b2) b3) X.env := by rfl)
    (hw1 : ((backTo a6 (starEach [.Constant (.int 0) j1 a5] X.env)).all (fun x => !x.1) && (backToKw a6 (keywordEach [] X.env)).all (fun x => x.1.isSome)
      && decide ([Expr.Constant (.int 0) j1 a5].length + ([] : List Keyword).length + (if ([] : List Keyword).isEmpty then 0 else 1) < 30)) = true := by rfl)
    (hw2 : ((backTo b6 (starEach [.Constant (.int 0) j3 b5] X.env)).all (fun x => !x.1) && (backToKw b6 (keywordEach [] X.env)).all (fun x => x.1.isSome)
      && decide ([Expr.Constant (.int 0) j3 b5].length + ([] : List Keyword).length + (if ([] : List Keyword).isEmpty then 0 else 1) < 30)) = true := by rfl)
    (hd1 : swapsWith (.Call (.Attribute (.Subscript (.Name n a1) (.Constant (.int 0) j0 a2) a3) "append" a4) [.Constant (.int 0) j1 a5] [] a6) none a7.line X.env = pure false := by rfl)
    (hd2 : swapsWith (.Call (.Attribute (.Subscript (.Name n b1) (.Constant (.int 1) j2 b2) b3) "append" b4) [.Constant (.int 0) j3 b5] [] b6) none b7.line X.env = pure false := by rfl)
    (hp1 : (backTo a6 (starEach [] X.env)).any (·.1) = false := by rfl) (hp2 : (backTo b6 (starEach [] X.env)).any (·.1) = false := by rfl)
    (hc1 : starEach [.Constant (.int 0) j1 a5] X.env = (false, eval (.Constant (.int 0) j1 a5) X.env) :: starEach [] X.env := by rfl) (hc2 : starEach [.Constant (.int 0) j3 b5] X.env = (false, eval (.Constant (.int 0) j3 b5) X.env) :: starEach [] X.env := by rfl) :
    DB X c W [.Assign [.Name n pn] (.List [e1, e2] pl) pa, .If test [.Return (some (.Constant (.bool false) jb pb)) pr] [] pif,
      .Expr (.Call (.Attribute (.Subscript (.Name n a1) (.Constant (.int 0) j0 a2) a3) "append" a4) [.Constant (.int 0) j1 a5] [] a6) a7,
      .Expr (.Call (.Attribute (.Subscript (.Name n b1) (.Constant (.int 1) j2 b2) b3) "append" b4) [.Constant (.int 0) j3 b5] [] b6) b7] (mWreck2 i f1 f2 ft) := by
  obtain ⟨t1, p1, s1⟩ := h1.out
  obtain ⟨t2, p2, s2⟩ := h2.out
  obtain ⟨tt, pt, st⟩ := ht.out
  have pv : ∀ {p : Pos}, PE X (.Name n p) (tVar i) := pe_var hi hv hd hcd
  refine ⟨_, pss_cons (ps_set hN hi hx (pe_lst (pa_cons p1 (pa_cons p2 pa_nil hs2) hs1)) hsw hf) (pss_cons (ps_if pt (pss_one (ps_ret pe_bl)) pss_nil)
    (pss_cons (ps_expr (pe_bm PySem.F.plainAttrs_list PySem.F.slot_list_append PySem.F.type_list_append mt_append (pe_ix ix_seq pv pe_int (fun _ _ => rfl)) (pa_cons pe_int pa_nil hc1) hb1 hw1 hl1 hc1 hp1) hd1)
      (pss_one (ps_expr (pe_bm PySem.F.plainAttrs_list PySem.F.slot_list_append PySem.F.type_list_append mt_append (pe_ix ix_seq pv pe_int (fun _ _ => rfl)) (pa_cons pe_int pa_nil hc2) hb2 hw2 hl2 hc2 hp2) hd2)))), fun x σ H Δ E sr q => ?_⟩
  have q : PostS c W x H E (mBind f1 (fun d1 => mBind f2 fun d2 Δ => match d1, d2 with
    | .lst ds1, .lst ds2 => if i < Δ.length ∧ ds1.length < lim ∧ ds2.length < lim then (match ft ((strip (Δ.set i .un)).set i (.sh (.lst [.lst ds1, .lst ds2]))) with
      | .ok true _ => .ok (.rt (.bl false)) (Δ.set i .un)
      | .ok false _ => .ok .nx (Δ.set i .un)
      | _ => .bad) else .bad
    | _, _ => .bad) Δ) := q
  unfold mBind at q
  refine s1 x σ H Δ _ sr ?_
  cases ef1 : f1 Δ with
  | bad => rw [ef1] at q; exact q
  | ex m d Δ1 => rw [ef1] at q; exact fun C dx x' H' k s r => q C dx σ x' H' k s r
  | ok d1 Δ1 =>
  rw [ef1] at q
  intro r1 x1 H1 k1 sr1 h01 hn1 nv1 nr1 o1
  refine s2 x1 σ H1 Δ1 _ sr1 ?_
  dsimp only at q
  cases ef2 : f2 Δ1 with
  | bad => rw [ef2] at q; exact q
  | ex m d Δ2 => rw [ef2] at q; exact fun C dx x' H' k s r => q C dx σ x' H' (k1.trans k) s r
  | ok d2 Δ2 =>
  rw [ef2] at q
  intro r2 x2 H2 k2 sr2 h02 hn2 nv2 nr2 o2
  cases d1 <;> first | exact q.elim | skip
  rename_i ds1
  cases d2 <;> first | exact q.elim | skip
  rename_i ds2
  have q3 : PostS c W x H E (if i < Δ2.length ∧ ds1.length < lim ∧ ds2.length < lim then (match ft ((strip (Δ2.set i .un)).set i (.sh (.lst [.lst ds1, .lst ds2]))) with
    | .ok true _ => Res.ok (.rt (.bl false)) (Δ2.set i .un)
    | .ok false _ => .ok .nx (Δ2.set i .un)
    | _ => .bad) else .bad) := q
  clear q
  split at q3
  case isFalse => exact q3.elim
  rename_i hz
  obtain ⟨hil, hz1, hz2⟩ := hz
  obtain ⟨vs1, g1, rl1⟩ := o1
  obtain ⟨vs2, g2, rl2⟩ := o2
  have n1 : H1 r1 ≠ none := by rw [g1]; intro z; cases z
  have g1' : H2 r1 = some (.lst vs1) := k2.frame r1 _ g1 fx_lst nr1
  have rl1' := rl1.kp sr1 k2
  have nv1' : ¬ x2.Av r1 := fun z => by
    rcases k2.avb r1 z with z | z | ⟨j, z⟩
    · exact nv1 z
    · exact n1 z
    · exact nr1 j z
  have nr1' : ∀ j, x2.ρ j ≠ some r1 := fun j z => by
    rcases k2.own j r1 z with ⟨l, z⟩ | z
    · exact nr1 l z
    · exact n1 z
  have n12 : r1 ≠ r2 := fun z => n1 (z ▸ hn2)
  show [V.ref r1, V.ref r2].length ≤ sizeLine ∧ ∀ l, H2 l = none → _
  refine ⟨lim_ok (show 2 ≤ lim by decide), fun l hl => ?_⟩
  have nl1 : l ≠ r1 := fun z => by rw [z, g1'] at hl; cases hl
  have nl2 : l ≠ r2 := fun z => by rw [z, g2] at hl; cases hl
  obtain ⟨k3, sr3, h0l, nrl⟩ := sr2.alloc hl (Ex.new (o := .lst [.ref r1, .ref r2]) hl)
  have sr3 := sr3 (by rw [upd_same]; intro z; cases z)
  obtain ⟨k4, sr4⟩ := sr3.setUn (i := i) (fun p hp => by rw [hio] at hp; cases hp) (some (.ref l))
  have lσ : i < σ.length := by rw [sr2.len]; exact hil
  have hσ : (σ.set i (some (V.ref l)))[i]? = some (some (.ref l)) := List.getElem?_set_self lσ
  have hl3 : upd H2 l (.lst [.ref r1, .ref r2]) l = some (.lst [.ref r1, .ref r2]) := upd_same
  have g13 : upd H2 l (.lst [.ref r1, .ref r2]) r1 = some (.lst vs1) := by rw [upd_ne (Ne.symm nl1)]; exact g1'
  have g23 : upd H2 l (.lst [.ref r1, .ref r2]) r2 = some (.lst vs2) := by rw [upd_ne (Ne.symm nl2)]; exact g2
  have ex : Ex H2 (upd H2 l (.lst [.ref r1, .ref r2])) := Ex.new hl
  have e1 := rl1'.out hl ex
  have e2 := rl2.out hl ex
  have hz3 : H l = none := k1.trk l (k2.trk l hl)
  have hr1n : H r1 = none := hn1
  have hr2n : H r2 = none := k1.trk r2 hn2
  have kk := ((k1.trans k2).trans k3).trans k4
  show tIfS tt (tRet (tC (.bl false))) tNext _ (σ.set i (some (.ref l))) (upd H2 l (.lst [.ref r1, .ref r2]))
  generalize hH3 : upd H2 l (.lst [.ref r1, .ref r2]) = H3 at *
  generalize hx4 : (⟨fun a => x2.Av a ∧ a ≠ l, fun j => if j = i then none else x2.ρ j⟩ : Sx) = x4 at *
  have nvl : ¬ x4.Av l := by rw [← hx4]; exact fun z => z.2 rfl
  have nv14 : ¬ x4.Av r1 := by rw [← hx4]; exact fun z => nv1' z.1
  have nv24 : ¬ x4.Av r2 := by rw [← hx4]; exact fun z => nv2 z.1
  have own4 : ∀ j b, x4.ρ j = some b → x2.ρ j = some b := fun j b z => by
    rw [← hx4] at z
    by_cases e : j = i
    · have z : (if j = i then none else x2.ρ j) = some b := z
      rw [if_pos e] at z; cases z
    · have z : (if j = i then none else x2.ρ j) = some b := z
      rw [if_neg e] at z; exact z
  have e1 : RepL c.toGc x4.Av H3 ds1 vs1 := by rw [← hx4]; exact e1
  have e2 : RepL c.toGc x4.Av H3 ds2 vs2 := by rw [← hx4]; exact e2
  have hR0 : ∀ a, (a = l ∨ a = r1 ∨ a = r2) → c.H0 a = none := fun a z => by
    rcases z with rfl | rfl | rfl
    · exact h0l
    · exact h01
    · exact h02
  have hRn : ∀ a, (a = l ∨ a = r1 ∨ a = r2) → H3 a ≠ none ∧ ¬ x4.Av a := fun a z => by
    rcases z with rfl | rfl | rfl
    · exact ⟨(by rw [hl3]; intro z; cases z), nvl⟩
    · exact ⟨(by rw [g13]; intro z; cases z), nv14⟩
    · exact ⟨(by rw [g23]; intro z; cases z), nv24⟩
  have rep : Rep c.toGc (fun b => x4.Av b ∨ (b = l ∨ b = r1 ∨ b = r2)) H3 (.lst [.lst ds1, .lst ds2]) (.ref l) := by
    have sub : Keep c.toGc x4.Av (fun b => x4.Av b ∨ (b = l ∨ b = r1 ∨ b = r2)) H3 H3 := Keep.sub fun _ _ z => .inl z
    unfold Rep
    refine ⟨l, _, rfl, .inr (.inl rfl), hl3, ?_⟩
    unfold RepL
    refine ⟨_, _, rfl, ?_, ?_⟩
    · unfold Rep; exact ⟨r1, vs1, rfl, .inr (.inr (.inl rfl)), g13, e1.keep sub⟩
    · unfold RepL
      refine ⟨_, _, rfl, ?_, ?_⟩
      · unfold Rep; exact ⟨r2, vs2, rfl, .inr (.inr (.inr rfl)), g23, e2.keep sub⟩
      · unfold RepL; rfl
  have lend := sr4.lendR hio hR0 (by rw [List.length_set]; exact hil) hσ rep
  refine st _ _ H3 _ _ lend ?_
  cases et : ft ((strip (Δ2.set i .un)).set i (.sh (.lst [.lst ds1, .lst ds2]))) with
  | bad => rw [et] at q3; exact q3.elim
  | ex m d Δ3 => rw [et] at q3; exact q3.elim
  | ok b Δ3 =>
    rw [et] at q3
    intro x5 H5 k5 sr5
    obtain ⟨kA, srA, fr⟩ := sr4.unlendR hRn k5 sr5
    cases b with
    | true => exact q3 (.bl false) _ _ H5 (kk.trans kA) srA mk_bl
    | false =>
      have hl5 := fr l _ hl3 fx_lst
      have g15 := fr r1 _ g13 fx_lst
      have g25 := fr r2 _ g23 fx_lst
      have notA : ∀ a, (a = l ∨ a = r1 ∨ a = r2) → ¬ (x5.Av a ∧ ¬ (a = l ∨ a = r1 ∨ a = r2)) := fun a z w => w.2 z
      refine wreck_step (l := l) (a := r1) (vs := vs1) (us := [.ref r1, .ref r2]) hK hσ hl5 rfl g15 (by rw [repL_length rl1]; exact hz1) ?_
      have hl6 : upd H5 r1 (.lst (vs1 ++ [.int 0])) l = some (.lst [.ref r1, .ref r2]) := by rw [upd_ne nl1]; exact hl5
      have g26 : upd H5 r1 (.lst (vs1 ++ [.int 0])) r2 = some (.lst vs2) := by rw [upd_ne (Ne.symm n12)]; exact g25
      refine wreck_step (l := l) (a := r2) (vs := vs2) (us := [.ref r1, .ref r2]) hK hσ hl6 rfl g26 (by rw [repL_length rl2]; exact hz2) ?_
      have srB := srA.temp (D := r1) (.lst (vs1 ++ [.int 0])) ⟨_, g15, pln_lst⟩ (notA r1 (.inr (.inl rfl))) (fun j z => nr1' j (own4 j r1 z)) h01
      have srC := srB.temp (D := r2) (.lst (vs2 ++ [.int 0])) ⟨_, g26, pln_lst⟩ (notA r2 (.inr (.inr rfl))) (fun j z => nr2 j (own4 j r2 z)) h02
      exact q3 _ _ _ (((kk.trans kA).apartUpd hr1n).apartUpd hr2n) srC
end
/-! ### what it answers -/
section
variable {Δ : SD} {E : EX} {P : Fl → SD → Prop} {f1 f2 : M D} {ft : M Bool} {i : Nat}
theorem wp_wreck2 (h : wp f1 Δ (K := ⟨fun d1 Δ1 => wp f2 Δ1 (K := ⟨fun d2 Δ2 => ∃ ds1 ds2, d1 = .lst ds1 ∧ d2 = .lst ds2 ∧ i < Δ2.length ∧ ds1.length < lim ∧ ds2.length < lim ∧
    wp ft ((strip (Δ2.set i .un)).set i (.sh (.lst [.lst ds1, .lst ds2]))) (K := ⟨fun b _ => if b = true then P (.rt (.bl false)) (Δ2.set i .un) else P .nx (Δ2.set i .un), noE⟩), E⟩), E⟩)) : wp (mWreck2 i f1 f2 ft) Δ (K := ⟨P, E⟩) := by
  unfold mWreck2
  rw [wp_bind]
  refine wp_mono h (fun d1 Δ1 h => ?_) fun _ _ _ z => z
  rw [wp_bind]
  refine wp_mono h (fun d2 Δ2 h => ?_) fun _ _ _ z => z
  obtain ⟨ds1, ds2, rfl, rfl, h1, h2, h3, h⟩ := h
  unfold wp at h ⊢
  dsimp only
  rw [if_pos ⟨h1, h2, h3⟩]
  cases ef : ft ((strip (Δ2.set i .un)).set i (.sh (.lst [.lst ds1, .lst ds2]))) with
  | ok b Δ3 =>
    rw [ef] at h
    cases b with
    | true => exact h
    | false => exact h
  | ex n d Δ3 => rw [ef] at h; exact h.elim
  | bad => rw [ef] at h; exact h.elim
end
end DL

-- gives: mRR mCallNw mWreckP
namespace DL
open PySem L2 PySem.Spec PyProof.Rows
def isSc : D → Bool
  | .non => true
  | .bl _ => true
  | .int _ => true
  | .str _ => true
  | _ => false
theorem rep_sc {G : Gc} {Av Av' : Addr → Prop} {H H' : Hp} {d : D} {v : V} (h : isSc d = true) (r : Rep G Av H d v) : Rep G Av' H' d v := by
  cases d <;> first
    | (unfold Rep at r ⊢; exact r)
    | cases h
theorem repL_sc {G : Gc} {Av Av' : Addr → Prop} {H H' : Hp} : ∀ {ds : List D} {vs : List V}, ds.all isSc = true → RepL G Av H ds vs → RepL G Av' H' ds vs
  | [], vs, _, r => by unfold RepL at r ⊢; exact r
  | d :: ds, vs, h, r => by
    rw [List.all_cons, Bool.and_eq_true] at h
    unfold RepL at r ⊢
    obtain ⟨v, q, e, r1, r2⟩ := r
    exact ⟨v, q, e, rep_sc h.1 r1, repL_sc h.2 r2⟩
theorem Rep.subset {G : Gc} {Av Av' : Addr → Prop} {H : Hp} {d : D} {v : V} (h : ∀ a, H a ≠ none → Av a → Av' a) (r : Rep G Av H d v) : Rep G Av' H d v := r.keep (Keep.sub h)
/-- a part of what is seen stays as it is -/
theorem Rep.kpR {c : Ct} {x x' : Sx} {σ : L2.St} {H H' : Hp} {Δ : SD} {P : Addr → Prop} (s : SR c x σ H Δ) (k : Kp x H x' H') {d : D} {v : V} (r : Rep c.toGc (fun a => x.Av a ∧ P a) H d v) : Rep c.toGc (fun a => x'.Av a ∧ P a) H' d v := by
  have q := s.keep k
  exact r.keep ⟨fun a u h => q.rd a u h.1, fun a vs h => q.lst a vs h.1, fun a vs h => q.tup a vs h.1, fun a C dx us h => q.ins a C dx us h.1, fun a u h z => ⟨q.av a u h.1 z, h.2⟩⟩
/-- only what was not there at the def's beginning is seen -/
@[reducible] def newC (c : Ct) : Ct := { c with A0 := fun a => c.H0 a = none, io := [] }
theorem Ok.newC {X : Cx} {c : Ct} {W : WX} {k : Nat} (o : Ok X c W k) : Ok X (newC c) W k := ⟨o.hK, o.hmg, o.calm, o.room, o.gd, o.tk, o.pass, o.nd⟩
def fgD (Δ : SD) : SD := Δ.map fun z => match z with
  | .sh d => if isSc d = true then .sh d else .un
  | _ => .un
theorem fgD_length (Δ : SD) : (fgD Δ).length = Δ.length := by unfold fgD; rw [List.length_map]
theorem SR.forget {c : Ct} {x : Sx} {σ : L2.St} {H : Hp} {Δ : SD} (s : SR c x σ H Δ) (hio : c.io = []) : SR (newC c) ⟨fun a => x.Av a ∧ c.H0 a = none, fun _ => none⟩ σ H (fgD Δ) where
  len := by rw [fgD_length]; exact s.len
  base := fun a o h f _ => s.base a o h f (by rw [hio]; exact fun _ h => nomatch h)
  tab := s.tab
  trk := s.trk
  fr := fun p h => ⟨s.fr p h, s.trk p h⟩
  av := fun a h => h.2
  a0 := fun _ h => h
  ow := fun _ _ h => nomatch h
  inj := fun _ _ _ h => nomatch h
  slot := fun j => by
    have h := s.slot j
    unfold fgD
    rw [List.getElem?_map]
    revert h
    cases Δ[j]? with
    | none => intro _; trivial
    | some z =>
      cases z with
      | un => intro _; trivial
      | ow d => intro _; trivial
      | sh d =>
        rintro ⟨v, h1, h2⟩
        show SlotOk _ _ _ _ _ (some (if isSc d = true then SC.sh d else .un))
        by_cases q : isSc d = true
        · rw [if_pos q]; exact ⟨v, h1, rep_sc q h2⟩
        · rw [if_neg q]; trivial
  ios := fun _ h => nomatch h
/-- a slot whose value is new throughout is known again -/
theorem SR.known {c : Ct} {x : Sx} {σ : L2.St} {H : Hp} {Δ : SD} {i : Nat} {v : V} {d : D} (s : SR c x σ H Δ) (hn : x.ρ = fun _ => none) (hi : i < Δ.length) (hσ : σ[i]? = some (some v)) (r : Rep c.toGc x.Av H d v) : SR c x σ H (Δ.set i (.sh d)) where
  len := by rw [List.length_set]; exact s.len
  base := s.base
  tab := s.tab
  trk := s.trk
  fr := s.fr
  av := s.av
  a0 := s.a0
  ow := s.ow
  inj := s.inj
  slot := fun j => by
    by_cases e : i = j
    · subst e
      rw [List.getElem?_set_self hi]
      exact ⟨v, hσ, r⟩
    · rw [List.getElem?_set_ne e]
      exact s.slot j
  ios := s.ios
/-! ### bodies -/
structure RtR (c : Ct) (H' : Hp) (d : D) (v : V) : Prop where
  base : ∀ a o, c.H0 a = some o → Fx o → H' a = some o
  tab : LamX.Tabs c.T H'
  trk : ∀ a, H' a = none → c.H0 a = none
  rep : Rep c.toGc (fun a => c.H0 a = none) H' d v
def okR (c : Ct) (x : Sx) (H : Hp) (E : Ends) : Fl → SD → Prop
  | .nx, Δ' => ∀ σ' x' H', Kp x H x' H' → SR c x' σ' H' Δ' → E.nx σ' H'
  | .rt d, _ => ∀ v H', RtR c H' d v → E.rt v H'
  | _, _ => False
def PostR (c : Ct) (W : WX) (x : Sx) (H : Hp) (E : Ends) : Res Fl → Prop
  | .ok fl Δ' => okR c x H E fl Δ'
  | .ex n d Δ' => ∀ C dx σ' x' H', Kp x H x' H' → SR c x' σ' H' Δ' → ExR c x' H' n d C dx → W (.ref C) dx σ' H'
  | .bad => False
def SoundR (c : Ct) (W : WX) (t : TS) (f : M Fl) : Prop := ∀ x σ H Δ E, SR c x σ H Δ → PostR c W x H E (f Δ) → t E σ H
structure DBR (X : Cx) (c : Ct) (W : WX) (st : List Stmt) (f : M Fl) : Prop where
  out : ∃ t, PSs X st t ∧ SoundR c W t f
theorem PostR.step {c : Ct} {W : WX} {x x1 : Sx} {H H1 : Hp} {E : Ends} {r : Res Fl} (h : PostR c W x H E r) (k : Kp x H x1 H1) : PostR c W x1 H1 E r := by
  cases r with
  | ok fl Δ' =>
    cases fl with
    | nx => exact fun σ' x' H' k' => h σ' x' H' (k.trans k')
    | rt d => exact h
    | bk => exact h
    | ct => exact h
    | rf d => exact h
  | ex n d Δ' => exact fun C dx σ' x' H' k' => h C dx σ' x' H' (k.trans k')
  | bad => exact h
theorem SR.rtR {c : Ct} {x : Sx} {σ : L2.St} {H : Hp} {Δ : SD} (s : SR c x σ H Δ) (hio : c.io = []) {d : D} {v : V} (r : Rep c.toGc (fun a => c.H0 a = none) H d v) : RtR c H d v :=
  ⟨fun a o h f => s.base a o h f (by rw [hio]; exact fun _ h => nomatch h), s.tab, s.trk, r⟩
def mScR (f g : M Fl) : M Fl := mBind f fun fl => match fl with
  | .nx => g
  | .rt d => if isSc d = true then mPure (.rt d) else mBad
  | _ => mBad
def mRetNw (f : M D) : M Fl := fun Δ => match f (fgD Δ) with
  | .ok d _ => .ok (.rt d) Δ
  | _ => .bad
def mEndR (Δ0 : SD) : Res Fl → Res Fl
  | .ok (.rt d) _ => .ok (.rt d) Δ0
  | _ => .bad
def mIfNw (fc : M Bool) (f : M D) (g : M Fl) : M Fl := mBind fc fun b => if b = true then mRetNw f else g
def mSetNw2 (i j : Nat) (f1 f2 : M D) (g : M Fl) : M Fl := mBind f1 fun d1 Δ => if i < Δ.length ∧ j < Δ.length ∧ i ≠ j then
  mBind f2 (fun d2 Δ2 => if i < Δ2.length ∧ j < Δ2.length then mEndR Δ2 (g (((fgD Δ2).set i (.sh d1)).set j (.sh d2))) else .bad) (Δ.set i (.sh d1)) else .bad
/-- an expression whose value is new since the def's beginning -/
def okNw (c : Ct) (x : Sx) (σ : L2.St) (H : Hp) (Q : VK) (d : D) (Δ' : SD) : Prop := ∀ v x' H', Kp x H x' H' → SR c x' σ H' Δ' → Rep c.toGc (fun a => x'.Av a ∧ c.H0 a = none) H' d v → Q v H'
structure DNw (X : Cx) (c : Ct) (W : WX) (e : Expr) (f : M D) : Prop where
  out : ∃ t, PE X e t ∧ ∀ x σ H Δ Q, SR c x σ H Δ → Post c W x σ H (okNw c x σ H Q) (f Δ) → t σ H Q
section
variable {X : Cx} {c : Ct} {W : WX} {k : Nat} {st s1 : Stmt} {rest : List Stmt} {f g : M Fl} {e e1 e2 ce : Expr} {fe f1 f2 : M D} {fc : M Bool} {pos pr : Pos}
theorem dbr_cons (hio : c.io = []) (a : DS X c W st f) (b : DBR X c W rest g) : DBR X c W (st :: rest) (mScR f g) := by
  obtain ⟨t, p, s⟩ := a.out
  obtain ⟨u, p', s'⟩ := b.out
  refine ⟨_, pss_cons p p', fun x σ H Δ E sr q => s x σ H Δ _ sr ?_⟩
  unfold mScR mBind at q
  cases ef : f Δ with
  | bad => rw [ef] at q; exact q
  | ex n d Δ' => rw [ef] at q; exact q
  | ok fl Δ1 =>
    rw [ef] at q
    cases fl with
    | nx => exact fun σ' x' H' k sr' => s' x' σ' H' Δ1 E sr' (PostR.step q k)
    | bk => exact q.elim
    | ct => exact q.elim
    | rf d => exact q.elim
    | rt d =>
      dsimp only at q
      by_cases hs : isSc d = true
      · rw [if_pos hs] at q
        exact fun v σ' x' H' k sr' r => q v H' (sr'.rtR hio (rep_sc hs r))
      · rw [if_neg hs] at q; exact q.elim
/-- what the forgetting def's end says -/
theorem end_new {x : Sx} {σ : L2.St} {H : Hp} {Δ Δ0 : SD} {E : Ends} {x0 : Sx} {H0 : Hp} {r : Res Fl} (q : PostR c W x0 H0 E (mEndR Δ0 r)) (hio : c.io = []) : PostS (newC c) W x H E r := by
  cases r with
  | bad => exact q.elim
  | ex n d Δ' => exact q.elim
  | ok fl Δ' =>
    cases fl with
    | nx => exact q.elim
    | bk => exact q.elim
    | ct => exact q.elim
    | rf d => exact q.elim
    | rt d => exact fun v σ' x' H' _ sr' r => q v H' ⟨fun a o h f => sr'.base a o h f (fun _ h => (nomatch h)), sr'.tab, sr'.trk, r.subset fun a _ h => sr'.av a h⟩
theorem dbr_new (hio : c.io = []) (b : DB X (newC c) W rest g) : DBR X c W rest (fun Δ => mEndR Δ (g (fgD Δ))) := by
  obtain ⟨t, p, s⟩ := b.out
  exact ⟨t, p, fun x σ H Δ E sr q => s _ σ H _ _ (sr.forget hio) (end_new (σ := σ) (Δ := Δ) q hio)⟩
theorem dbr_ifNw (hio : c.io = []) (hc : DT X c W ce fc) (he : DE X (newC c) W e fe) (b : DBR X c W rest g) : DBR X c W (.If ce [.Return (some e) pr] [] pos :: rest) (mIfNw fc fe g) := by
  obtain ⟨tc, pc, sc⟩ := hc.out
  obtain ⟨te, pe, se⟩ := he.out
  obtain ⟨u, p', s'⟩ := b.out
  refine ⟨_, pss_cons (ps_if pc (pss_one (ps_ret pe)) pss_nil) p', fun x σ H Δ E sr q => sc x σ H Δ _ sr ?_⟩
  unfold mIfNw mBind at q
  cases ef : fc Δ with
  | bad => rw [ef] at q; exact q
  | ex n d Δ' => rw [ef] at q; exact fun C dx x' H' k' s r => q C dx σ x' H' k' s r
  | ok b Δ1 =>
    rw [ef] at q
    cases b with
    | false => exact fun x' H' k' sr' => s' x' σ H' Δ1 E sr' (PostR.step q k')
    | true =>
      intro x' H' k' sr'
      refine se _ σ H' _ _ (sr'.forget hio) ?_
      have q : PostR c W x H E (mRetNw fe Δ1) := q
      unfold mRetNw at q
      cases eg : fe (fgD Δ1) with
      | bad => rw [eg] at q; exact q.elim
      | ex n d Δ' => rw [eg] at q; exact q.elim
      | ok d Δ' =>
        rw [eg] at q
        exact fun v x2 H2 _ s2 r => q v H2 ⟨fun a o h f => s2.base a o h f (fun _ h => (nomatch h)), s2.tab, s2.trk, r.subset fun a _ h => s2.av a h⟩
theorem dbr_set2 {i j : Nat} {n m : Str} {p1 p2 q1 q2 : Pos} (hio : c.io = []) (hN : X.N.Nodup) (hi : X.N[i]? = some n) (hx : Loc X.env.scope n) (hj : X.N[j]? = some m) (hy : Loc X.env.scope m) (h1 : DNw X c W e1 f1) (h2 : DNw X c W e2 f2) (b : DB X (newC c) W rest g)
    (hs : swapsWith e1 (some (.Name n p1)) q1.line X.env = pure false := by rfl) (hs2 : swapsWith e2 (some (.Name m p2)) q2.line X.env = pure false := by rfl)
    (hf : X.fn n = true ∨ X.env.scope.names.lookup n = some .local := by first | exact .inl rfl | exact .inr rfl | assumption) (hf2 : X.fn m = true ∨ X.env.scope.names.lookup m = some .local := by first | exact .inl rfl | exact .inr rfl | assumption) :
    DBR X c W (.Assign [.Name n p1] e1 q1 :: .Assign [.Name m p2] e2 q2 :: rest) (mSetNw2 i j f1 f2 g) := by
  obtain ⟨t1, pe1, se1⟩ := h1.out
  obtain ⟨t2, pe2, se2⟩ := h2.out
  obtain ⟨u, p', s'⟩ := b.out
  have ni : ∀ k, ∀ p ∈ c.io, p.1 ≠ k := fun k p hp => by rw [hio] at hp; cases hp
  refine ⟨_, pss_cons (ps_set hN hi hx pe1 hs hf) (pss_cons (ps_set hN hj hy pe2 hs2 hf2) p'), fun x σ H Δ E sr q => se1 x σ H Δ _ sr ?_⟩
  unfold mSetNw2 at q
  unfold mBind at q
  cases ef1 : f1 Δ with
  | bad => rw [ef1] at q; exact q
  | ex n d Δ' => rw [ef1] at q; exact fun C dx x' H' k' s r => q C dx σ x' H' k' s r
  | ok d1 Δ1 =>
  rw [ef1] at q
  intro v1 x1 H1 k1 sr1 r1
  have q : PostR c W x H E (if i < Δ1.length ∧ j < Δ1.length ∧ i ≠ j then _ else Res.bad) := q
  split at q
  case isFalse => exact q.elim
  rename_i hl
  obtain ⟨hl1, hl2, hij⟩ := hl
  obtain ⟨k2, sr2⟩ := sr1.setSh (ni i) hl1 (r1.subset fun a _ h => h.1)
  refine se2 _ _ H1 _ _ sr2 ?_
  cases ef2 : f2 (Δ1.set i (.sh d1)) with
  | bad => rw [ef2] at q; exact q.elim
  | ex n d Δ' => rw [ef2] at q; exact fun C dx x' H' k' s r => q C dx _ x' H' ((k1.trans k2).trans k') s r
  | ok d2 Δ2 =>
  rw [ef2] at q
  intro v2 x3 H3 k3 sr3 r2
  have q : PostR c W x H E (if i < Δ2.length ∧ j < Δ2.length then _ else Res.bad) := q
  split at q
  case isFalse => exact q.elim
  rename_i hl
  obtain ⟨hm1, hm2⟩ := hl
  have r1' : Rep c.toGc (fun a => x3.Av a ∧ c.H0 a = none) H3 d1 v1 := Rep.kpR sr2 k3 r1
  have ls : (σ.set i (some v1)).length = Δ2.length := sr3.len
  obtain ⟨k4, sr4⟩ := sr3.setUn (ni j) (some v2)
  have fg := sr4.forget hio
  have e : fgD (Δ2.set j .un) = (fgD Δ2).set j .un := by
    unfold fgD
    rw [List.map_set]
  rw [e] at fg
  have g1 := SR.known (i := i) (v := v1) (d := d1) fg rfl (by rw [List.length_set, fgD_length]; exact hm1) (by rw [List.getElem?_set_ne (Ne.symm hij), List.getElem?_set_self (by rw [List.length_set] at ls; omega)]) r1'
  have g2 := SR.known (i := j) (v := v2) (d := d2) g1 rfl (by rw [List.length_set, List.length_set, fgD_length]; exact hm2) (by rw [List.getElem?_set_self (by omega)]) r2
  have e2 : (((fgD Δ2).set j .un).set i (.sh d1)).set j (.sh d2) = ((fgD Δ2).set i (.sh d1)).set j (.sh d2) := by
    rw [List.set_comm _ _ (Ne.symm hij), List.set_set]
  rw [e2] at g2
  exact s' _ _ H3 _ _ g2 (end_new (σ := σ) (Δ := Δ) q hio)
end
/-! ### a call whose arguments are new lists of scalars, and a scalar -/
def nwEnd (g : List D → RD) : D → D → D → M D
  | .lst ds1, .lst ds2, d3, Δ => if ds1.all isSc = true ∧ ds2.all isSc = true ∧ isSc d3 = true then (match g [.lst ds1, .lst ds2, d3] with
    | .ok d false [] => .ok d Δ
    | _ => .bad) else .bad
  | _, _, _, _ => .bad
def mCallNw (g : List D → RD) (f1 f2 f3 : M D) : M D := mBind f1 fun d1 => mBind f2 fun d2 => mBind f3 fun d3 => nwEnd g d1 d2 d3
section
variable {X : Cx} {c : Ct} {W : WX} {k kf : Nat} {nm a1 a2 a3 : Str} {g : List D → RD} {e1 e2 e3 : Expr} {f1 f2 f3 : M D} {p pos : Pos}
theorem dnw_call (hT : c.T = T) (F : CallD X.prog X.w X.K X.mg X.base T nm kf [a1, a2, a3] [] g) (o : Ok X c W k) (hk : kf ≤ k) (hg : Gl X nm) (h1 : DF X c W e1 f1) (h2 : DF X c W e2 f2) (h3 : DE X c W e3 f3) (hdb : (nm == ("__debug__" : Str)) = false := by decide)
    (he : starEach [e1, e2, e3] X.env = (false, eval e1 X.env) :: starEach [e2, e3] X.env := by rfl) (he2 : starEach [e2, e3] X.env = (false, eval e2 X.env) :: starEach [e3] X.env := by rfl) (he3 : starEach [e3] X.env = (false, eval e3 X.env) :: starEach [] X.env := by rfl) (hpl : (backTo pos (starEach [e2, e3] X.env)).any (·.1) = false := by rfl) :
    DNw X c W (.Call (.Name nm p) [e1, e2, e3] [] pos) (mCallNw g f1 f2 f3) := by
  subst hT
  obtain ⟨f, fd, hm, hkp, hb, F⟩ := F.out
  obtain ⟨t1, p1, s1⟩ := h1.out
  obtain ⟨t2, p2, s2⟩ := h2.out
  obtain ⟨t3, p3, s3⟩ := h3.out
  have ge := gc_eq o
  refine ⟨fun σ H Q => ∃ x Δ, SR c x σ H Δ ∧ Post c W x σ H (okNw c x σ H Q) (mCallNw g f1 f2 f3 Δ), pe_dcall F o hk hg hm hkp hb (pa_cons p1 (pa_cons p2 (pa_cons p3 pa_nil he3) he2) he) (fun σ H Q ⟨x, Δ, sr, q⟩ => ?_) hdb he hpl, fun x σ H Δ Q sr q => ⟨x, Δ, sr, q⟩⟩
  unfold mCallNw at q
  refine s1 x σ H Δ _ sr (q.bind fun d1 Δ1 q1 r1 x1 H1 k1 sr1 h01 hn1 nv1 nr1 o1 => ?_)
  refine s2 x1 σ H1 Δ1 _ sr1 ((Post.bind (ok := fun d2 Δ2 => Post c W x σ H (okNw c x σ H Q) ((mBind f3 fun d3 => nwEnd g d1 d2 d3) Δ2)) q1 fun d2 Δ2 q2 => q2).step k1 fun d2 Δ2 q2 r2 x2 H2 k2 sr2 h02 hn2 nv2 nr2 o2 => ?_)
  refine s3 x2 σ H2 Δ2 _ sr2 ((Post.bind (ok := fun d3 Δ3 => Post c W x σ H (okNw c x σ H Q) (nwEnd g d1 d2 d3 Δ3)) q2 fun d3 Δ3 q3 => q3).step (k1.trans k2) fun d3 Δ3 q3 v3 x3 H3 k3 sr3 rp3 => ?_)
  cases d1 <;> first | exact q3.elim | skip
  rename_i ds1
  cases d2 <;> first | exact q3.elim | skip
  rename_i ds2
  have q3 : Post c W x σ H (okNw c x σ H Q) (if ds1.all isSc = true ∧ ds2.all isSc = true ∧ isSc d3 = true then (match g [.lst ds1, .lst ds2, d3] with
    | .ok d false [] => Res.ok d Δ3
    | _ => .bad) else .bad) := q3
  split at q3
  case isFalse => exact q3.elim
  rename_i hz
  obtain ⟨hz1, hz2, hz3⟩ := hz
  obtain ⟨vs1, g1, rl1⟩ := o1
  obtain ⟨vs2, g2, rl2⟩ := o2
  have n1 : H1 r1 ≠ none := by rw [g1]; intro z; cases z
  have n2 : H2 r2 ≠ none := by rw [g2]; intro z; cases z
  have nr13 : ∀ j, x2.ρ j ≠ some r1 := fun j z => by
    rcases k2.own j r1 z with ⟨l, z⟩ | z
    · exact nr1 l z
    · exact n1 z
  have g13 : H3 r1 = some (.lst vs1) := k3.frame r1 _ (k2.frame r1 _ g1 fx_lst nr1) fx_lst nr13
  have g23 : H3 r2 = some (.lst vs2) := k3.frame r2 _ g2 fx_lst nr2
  have nr33 : ∀ {r}, H2 r ≠ none → (∀ j, x2.ρ j ≠ some r) → ∀ j, x3.ρ j ≠ some r := fun {r} hn h j z => by
    rcases k3.own j r z with ⟨l, z⟩ | z
    · exact h l z
    · exact hn z
  have nA := nr33 (r := r1) (by rw [k2.frame r1 _ g1 fx_lst nr1]; intro z; cases z) nr13
  have nB := nr33 n2 nr2
  have kk := (k1.trans k2).trans k3
  -- the two lists are let go
  have sA := sr3.share (a := r1) nA (sr3.a0 r1 h01)
  have sB := sA.share (a := r2) nB (sr3.a0 r2 h02)
  have kB : Kp x H ⟨fun b => (x3.Av b ∨ b = r1) ∨ b = r2, x3.ρ⟩ H3 := ⟨kk.frame, kk.trk, kk.own, fun a h n => .inl (.inl (kk.av a h n)), fun a h => by
    rcases h with (h | rfl) | rfl
    · exact kk.avb a h
    · exact .inr (.inl hn1)
    · exact .inr (.inl (k1.trk _ hn2))⟩
  show spD ⟨X.K, X.mg, c.T⟩ _ _ _ _ _ _ _
  rw [← ge]
  refine ⟨fun b => H3 b = none ∨ b = r1 ∨ b = r2, [.lst ds1, .lst ds2, d3], [], rfl, fun p h => .inl h, sr3.tab, rfl, List.nodup_nil, List.nodup_nil, (fun p hp => nomatch hp), (fun i hi => nomatch hi), ?_, ?_⟩
  · refine ⟨_, _, rfl, ?_, _, _, rfl, ?_, _, _, rfl, ?_, rfl⟩
    · rw [if_neg (by simp)]
      unfold Rep
      exact ⟨r1, vs1, rfl, .inr (.inl rfl), g13, repL_sc hz1 rl1⟩
    · rw [if_neg (by simp)]
      unfold Rep
      exact ⟨r2, vs2, rfl, .inr (.inr rfl), g23, repL_sc hz2 rl2⟩
    · rw [if_neg (by simp)]
      exact rep_sc hz3 rp3
  · cases eg : g [.lst ds1, .lst ds2, d3] with
    | bad => rw [eg] at q3; exact q3.elim
    | ex n d es => rw [eg] at q3; exact q3.elim
    | ok d fr es =>
      rw [eg] at q3
      cases fr with
      | true => exact q3.elim
      | false =>
        cases es with
        | cons _ _ => exact q3.elim
        | nil =>
          refine ⟨fun _ v Av' H' e r => ?_, fun z => by cases z⟩
          obtain ⟨kc, sc⟩ := sB.called (Av' := fun b => (((x3.Av b ∨ b = r1) ∨ b = r2) ∧ H3 b ≠ none) ∨ Av' b) (H' := H') (ls := []) (es := []) (Δ2 := Δ3) (fun p hp => nomatch hp) List.nodup_nil
            ⟨fun a o h f n => e.keep a o h f (fun p hp => (nomatch hp)), e.tab, e.trk, fun a h => by
              rcases h with h | h
              · exact h.1
              · rcases e.sub a h with h | h | h
                · exact .inl (.inl (sr3.fr a h))
                · exact .inl (.inr h)
                · exact .inr h, fun a h n => .inl ⟨h, n⟩, fun p h => .inr (e.fr p h), .nil⟩ rfl
          refine q3 v _ H' (kB.trans kc) sc (r.subset fun a _ h => ⟨.inr h, ?_⟩)
          · rcases e.sub a h with h | rfl | rfl
            · exact sr3.trk a h
            · exact h01
            · exact h02
end
/-! ### defs -/
def OutR (G : Gc) (Av : Addr → Prop) (H : Hp) (Q : VK) (E : XK) : RD → Prop
  | .ok d fr es => fr = false ∧ es = [] ∧ ∀ v Av' H', EndC G Av H [] Av' H' [] → Rep G (fun a => Av' a ∧ H a = none) H' d v → Q v H'
  | .ex n d es => es = [] ∧ ∀ C dx Av' H', EndC G Av H [] Av' H' [] → ExG G Av' H' n d C dx → E (.ref C) dx H'
  | .bad => False
def spR (G : Gc) (np : Nat) (g : List D → RD) : Sp := fun vs H Q E => ∃ (Av : Addr → Prop) (ds : List D),
  vs.length = np ∧ Fresh H Av ∧ LamX.Tabs G.T H ∧ ArgOk G Av H [] 0 ds vs ∧ OutR G Av H Q E (g ds)
structure FnR (P : Program) (w : World) (K : PySem.W.Frag) (mg : Str → Option Value) (base : Heap) (T : List (Addr × Str)) (k : Nat) (f : Addr) (fd : FuncData) (ps : List Str) (g : List D → RD) : Prop where
  run : ∀ (A : Around) (outer : List Env) (s : Shared) (H : Hp) (args : Args) (us : List Value) (vs : List V) (Q : VK) (E : XK), Room k A → (20 ≤ k → A.guards = some []) → Env0 P w K mg base A outer s H → BindsTo s fd args (ps.zip us) → Vals vs us →
    spR ⟨K, mg, T⟩ ps.length g vs H Q E → codeAny (model P w) A (.call (.ref f) args) (CR (L2.CX P w) outer P w H s Q E) s
structure CallR (P : Program) (w : World) (K : PySem.W.Frag) (mg : Str → Option Value) (base : Heap) (T : List (Addr × Str)) (nm : Str) (k : Nat) (ps : List Str) (g : List D → RD) : Prop where
  out : ∃ (f : Addr) (fd : FuncData), mg nm = some (.ref f) ∧ PySem.W.keepIn K (.ref f) = true ∧ Binds K fd ps [] ∧ FnR P w K mg base T k f fd ps g
/-- nothing but scalars and what is new is handed back -/
def mDefR (len : Nat) (body : M Fl) (ds : List D) : RD := match body (startD len [] ds) with
  | .ok .nx _ => .ok .non false []
  | .ok (.rt d) _ => .ok d false []
  | .ex n d _ => .ex n d []
  | _ => .bad
theorem fnR_of {P : Program} {w : World} {K : PySem.W.Frag} {mg : Str → Option Value} {base : Heap} {T : List (Addr × Str)} {nm qual : Str} {st : Stmt} {f : Addr} {fd : FuncData} {N ps : List Str} {k : Nat} {fb : M Fl} (F : Fun K nm qual st f fd) (S : FnScope N ps (defScope st))
    (hb : ∀ (cd : Value) (A : Around) (outer : List Env) (s : Shared) (H : Hp) (E : XK) (H0 : Hp) (A0 : Addr → Prop) (W : WX), Ok (cxD P w K mg base N qual (defScope st) f cd A outer s H E) ⟨⟨K, mg, T⟩, H0, A0, []⟩ W k → DBR (cxD P w K mg base N qual (defScope st) f cd A outer s H E) ⟨⟨K, mg, T⟩, H0, A0, []⟩ W (defBody st) fb) :
    FnR P w K mg base T (k + 1) f fd ps (mDefR N.length fb) := by
  obtain ⟨oc, od, kV, doc, pm, an, cdv, ct, osl, rfl, lk, hcd⟩ := F.ex
  constructor
  intro A outer s H args us vs Q E room guards env0 hbind hvals ⟨Av, ds, hvl, fresh, htab, harg, hout⟩
  have KX : K.In s.heap := env0.mod.kin.keeps fun b o e => (env0.bs b o e).1
  have nolim : s.heap.NoLimit := env0.mod.nolimit.keeps fun b o e => (env0.bs b o e).1
  have hkinds : ∀ y ∈ ps.zip us, (defScope st).names.lookup y.1 = some .local ∨ ((defScope st).names.lookup y.1 = some .cell ∧ ((cellsFrom (s.heap.objs.size + 1) (defScope st).names []).lookup y.1).isSome = true) := by
    rintro ⟨a, b⟩ hy
    exact (S.par a (List.of_mem_zip hy).1).imp id fun q => ⟨q, PySem.W.cellsFrom_some _ _ _ (.inl q)⟩
  have hNp : ps.length ≤ N.length := by
    have z := congrArg List.length S.pre
    rw [List.length_take] at z
    omega
  refine codeAny_call_function room.depth (KX _ _ lk) rfl S.co S.gen rfl (PySem.W.codeRec_of KX hcd) (hbind _ _ _ _ ?_)
  refine wpAny_newFunctionEnv_cells S.kind hkinds fun env henv s1 inc => ?_
  subst henv
  refine ⟨nolim.keeps inc.toInCall.keep, codeAny_func ?_⟩
  have I : Inv (cxD P w K mg base N qual (defScope st) f cdv A outer s H E) [] (L2.start N vs) H s1 := inv_start S room.hd env0 hvl hvals inc
  have ok : Ok (cxD P w K mg base N qual (defScope st) f cdv A outer s H E) ⟨⟨K, mg, T⟩, H, Av, []⟩ (fun cls d _ H => E cls d H) k := ⟨rfl, rfl, rfl, room.deeper _, fun h => guards (Nat.le_succ_of_le h), takes_of rfl rfl rfl rfl, passes_of rfl, S.nd⟩
  obtain ⟨t, pt, snd⟩ := (hb cdv A outer s H E H Av _ ok).out
  have sr : SR ⟨⟨K, mg, T⟩, H, Av, []⟩ ⟨Av, rhoOf []⟩ (L2.start N vs) H (startD N.length [] ds) := SR.start hNp hvl fresh htab rfl List.nodup_nil List.nodup_nil (fun p hp => nomatch hp) harg
  have endc : ∀ {σ' x' H' Δ'}, Kp ⟨Av, rhoOf []⟩ H x' H' → SR ⟨⟨K, mg, T⟩, H, Av, []⟩ x' σ' H' Δ' → EndC ⟨K, mg, T⟩ Av H [] x'.Av H' [] := fun {σ' x' H' Δ'} kp sr' => ⟨sr'.base, sr'.tab, sr'.trk, sr'.av, kp.av, sr'.fr, .nil⟩
  have goal : t { nx := fun _ H' => Q .non H', rt := Q } (L2.start N vs) H := by
    refine snd _ _ _ _ _ sr ?_
    unfold mDefR at hout
    cases eb : fb (startD N.length [] ds) with
    | bad => rw [eb] at hout; exact hout
    | ex n d Δ' =>
      rw [eb] at hout
      exact fun C dx σ' x' H' kp sr' xr => hout.2 C dx x'.Av H' (endc kp sr') xr
    | ok fl Δ' =>
      rw [eb] at hout
      cases fl with
      | nx => exact fun σ' x' H' kp sr' => hout.2.2 .non x'.Av H' (endc kp sr') mk_non
      | bk => exact hout.elim
      | ct => exact hout.elim
      | rf d => exact hout.elim
      | rt d => exact fun v H' r => hout.2.2 v Av H' ⟨fun a o h f _ => r.base a o h f, r.tab, r.trk, fun _ h => h, fun _ h _ => h, fun p h => fresh p (r.trk p h), .nil⟩ (r.rep.subset fun a _ h => ⟨fresh a h, h⟩)
  refine wpAny_mono (pt.run [] s1 (L2.start N vs) H _ I goal) (fun fl s' hs => ?_) fun e s' hs => hs
  have fin : ∀ {σ' : L2.St} {H' : Hp} {v : V} {u : Value}, Inv (cxD P w K mg base N qual (defScope st) f cdv A outer s H E) [] σ' H' s' → RelV v u → Q v H' → CE outer P w H s Q u s' := fun {σ' H' v u} J r q => ⟨v, H', J.os, J.bare, J.base, J.hok, r, q⟩
  cases fl with
  | ret u =>
    obtain ⟨v, σ', H', J, r, q⟩ := hs
    exact fin J r q
  | next =>
    obtain ⟨σ', H', J, q⟩ := hs
    exact fin (v := .non) (u := .none) J rfl q
  | brk => exact hs.elim fun _ z => z.elim fun _ z => z.2.elim
  | cont => exact hs.elim fun _ z => z.elim fun _ z => z.2.elim
section
variable {P : Program} {w : World} {K : PySem.W.Frag} {mg : Str → Option Value} {base : Heap} {T : List (Addr × Str)} {nm qual : Str} {st : Stmt} {N ps : List Str} {k len : Nat} {fb : M Fl}
theorem fnR_mk (F : FnAt K mg nm qual st ps) (S : FnScope N ps (defScope st))
    (hb : ∀ (f : Addr) (cd : Value) (A : Around) (outer : List Env) (s : Shared) (H : Hp) (E : XK) (H0 : Hp) (A0 : Addr → Prop) (W : WX), Ok (cxD P w K mg base N qual (defScope st) f cd A outer s H E) ⟨⟨K, mg, T⟩, H0, A0, []⟩ W k → ([] : List (Nat × Addr)).map (·.1) = [] →
      DBR (cxD P w K mg base N qual (defScope st) f cd A outer s H E) ⟨⟨K, mg, T⟩, H0, A0, []⟩ W (defBody st) fb) : CallR P w K mg base T nm (k + 1) ps (mDefR N.length fb) := by
  obtain ⟨f, fd, hm, F, hbd⟩ := F.out
  exact ⟨f, fd, hm, F.kp, hbd, fnR_of F S fun cd A outer s H E H0 A0 W o => hb f cd A outer s H E H0 A0 W o rfl⟩
/-- such a def is a def -/
theorem CallR.toD (h : CallR P w K mg base T nm k ps (mDefR len fb)) : CallD P w K mg base T nm k ps [] (mDefR len fb) := by
  obtain ⟨f, fd, hm, kp, hbd, F⟩ := h.out
  refine ⟨f, fd, hm, kp, hbd, ⟨fun A outer s H args us vs Q E r g e b v ⟨Av, ds, ios, h1, h2, h3, h4, _, _, _, _, h5, h6⟩ => F.run A outer s H args us vs Q E r g e b v ⟨Av, ds, h1, h2, h3, ?_, ?_⟩⟩⟩
  · obtain rfl : ios = [] := List.map_eq_nil_iff.mp h4
    exact h5
  · obtain rfl : ios = [] := List.map_eq_nil_iff.mp h4
    unfold mDefR at h6 ⊢
    cases e : fb (startD len [] ds) with
    | bad => rw [e] at h6; exact h6
    | ex n d Δ' => rw [e] at h6; exact ⟨rfl, h6⟩
    | ok fl Δ' =>
      rw [e] at h6
      cases fl with
      | nx => exact ⟨rfl, rfl, fun v Av' H' ec r => h6.1 rfl v Av' H' ec (r.subset fun _ _ z => z.1)⟩
      | rt d => exact ⟨rfl, rfl, fun v Av' H' ec r => h6.1 rfl v Av' H' ec (r.subset fun _ _ z => z.1)⟩
      | bk => exact h6
      | ct => exact h6
      | rf d => exact h6
end
end DL

-- gives: mWreckP
namespace DL
open PySem L2 PySem.Spec PyProof.Rows
def okNR (c : Ct) (x : Sx) (σ : L2.St) (H : Hp) (Q : VK) (d : D) (Δ' : SD) : Prop := ∀ v x' H' (R : Addr → Prop), Kp x H x' H' → SR c x' σ H' Δ' → (∀ a, R a → H' a ≠ none ∧ ¬ x'.Av a ∧ c.H0 a = none ∧ H a = none ∧ ∀ i, x'.ρ i ≠ some a) → Rep c.toGc R H' d v → Q v H'
structure DNR (X : Cx) (c : Ct) (W : WX) (e : Expr) (f : M D) : Prop where
  out : ∃ t, PE X e t ∧ ∀ x σ H Δ Q, SR c x σ H Δ → Post c W x σ H (okNR c x σ H Q) (f Δ) → t σ H Q
theorem okNR.step {c : Ct} {x x1 : Sx} {σ : L2.St} {H H1 : Hp} {Q : VK} (k : Kp x H x1 H1) {d : D} {Δ : SD} (q : okNR c x σ H Q d Δ) : okNR c x1 σ H1 Q d Δ := fun v x' H' R k' s' h r =>
  q v x' H' R (k.trans k') s' (fun a ha => ⟨(h a ha).1, (h a ha).2.1, (h a ha).2.2.1, k.trk a (h a ha).2.2.2.1, (h a ha).2.2.2.2⟩) r
section
variable {X : Cx} {c : Ct} {W : WX} {k kf : Nat} {f : Addr} {fd : FuncData} {ps : List Str} {g : List D → RD}
theorem run_fnR {pins : List (Addr × Obj)} {σ : L2.St} {H : Hp} {s : Shared} {Q : VK} {us : List Value} {vs : List V} (F : FnR X.prog X.w X.K X.mg X.base c.T kf f fd ps g) (o : Ok X c W k) (hk : kf ≤ k) (hb : Binds X.K fd ps []) (I : Inv X pins σ H s) (r : Vals vs us)
    (h : spR ⟨X.K, X.mg, c.T⟩ ps.length g vs H Q (fun cls d H' => W cls d σ H')) : wpAny (model X.prog X.w) X.A (call (.ref f) us) (EP X pins σ Q) X.xe s := by
  have hl : us.length = ps.length := by
    obtain ⟨_, _, e, _⟩ := h
    rw [← r.length, e]
  have hbind := hb s us I.kIn (by rw [List.append_nil]; exact hl)
  rw [List.append_nil] at hbind
  refine wpAny_call (codeAny_mono (F.run X.A X.stack s H ⟨us, []⟩ us vs Q _ (o.room.mono hk) (fun h => o.gd (by omega)) I.env0 hbind r h) fun res s' hq => ?_)
  cases res with
  | error e => exact o.tk _ _ (XE.of_call I (fun _ _ _ z => z) hq)
  | ok fl =>
    cases fl with
    | ret u => exact I.after hq
    | next => exact hq.elim
    | brk => exact hq.elim
    | cont => exact hq.elim
theorem call_spR {x : Sx} {σ : L2.St} {H : Hp} {Δ : SD} {Q : VK} {ok : D × Bool → SD → Prop} {as : List AK} {vs : List V} (hG : c.toGc = ⟨X.K, X.mg, c.T⟩) (sr : SR c x σ H Δ) (ha : AKsOk c x σ H as vs)
    (hg : ∀ ds, match g ds with | .ok _ fr es => fr = false ∧ es = [] | .ex _ _ es => es = [] | .bad => True)
    (q : Post c W x σ H ok (callRes ps.length [] g as Δ)) (hV : ∀ d Δ2, ok (d, false) Δ2 → okNR c x σ H Q d Δ2) : spR ⟨X.K, X.mg, c.T⟩ ps.length g vs H Q (fun cls d H' => W cls d σ H') := by
  rw [← hG]
  unfold callRes at q
  by_cases hn : as.length = ps.length
  case neg => rw [if_neg hn] at q; exact q.elim
  rw [if_pos hn] at q
  cases ec : callArgs [] Δ 0 as with
  | none => rw [ec] at q; exact q.elim
  | some r =>
    obtain ⟨ds, ls⟩ := r
    rw [ec] at q
    dsimp only at q
    by_cases hio : ls.map (·.1) = []
    case neg => rw [if_neg hio] at q; exact q.elim
    rw [if_pos hio] at q
    have ls0 : ls = [] := List.map_eq_nil_iff.mp hio
    subst ls0
    obtain ⟨own, nd⟩ := args_own sr ec
    have alen := aks_len ha
    refine ⟨x.Av, ds, by rw [alen, hn], sr.fr, sr.tab, args_ok (ls := []) sr hio ec (fun _ h => h) ha, ?_⟩
    have gg := hg ds
    cases eg : g ds with
    | bad => rw [eg] at q; exact q.elim
    | ex n d es =>
      rw [eg] at q gg
      have gg : es = [] := gg
      subst gg
      refine ⟨rfl, fun C dx Av' H' e xr => ?_⟩
      obtain ⟨kk, s2⟩ := sr.called own nd e (es := []) rfl
      exact q C dx _ H' kk s2 xr
    | ok d fr es =>
      rw [eg] at q gg
      obtain ⟨g1, g2⟩ := gg
      subst g1 g2
      refine ⟨rfl, rfl, fun v Av' H' e r => ?_⟩
      obtain ⟨kk, s2⟩ := sr.called (Av' := fun a => Av' a ∧ (H a ≠ none ∨ H' a = none)) own nd ⟨e.keep, e.tab, e.trk, fun a h => e.sub a h.1, fun a h n => ⟨e.av a h n, .inl n⟩, fun p h => ⟨e.fr p h, .inr h⟩, .nil⟩ (es := []) rfl
      refine hV d Δ q v _ H' (fun a => H a = none ∧ H' a ≠ none) kk s2 (fun a ha => ⟨ha.2, fun z => z.2.elim (fun n => n ha.1) ha.2, sr.trk a ha.1, ha.1, fun i z => (sr.ow i a z).2.1 ha.1⟩) (r.subset fun a n h => ⟨h.2, n⟩)
variable {nm : Str} {p pos : Pos} {e : Expr} {es : List Expr} {fs : M (List AK)} {T0 : List (Addr × Str)} {len : Nat} {fb : M Fl}
theorem dq_own (hT : c.T = T0) (F : CallR X.prog X.w X.K X.mg X.base T0 nm kf ps (mDefR len fb)) (o : Ok X c W k) (hk : kf ≤ k) (hg : Gl X nm) (ha : DA X c W (e :: es) fs) (hdb : (nm == ("__debug__" : Str)) = false := by decide) (he : starEach (e :: es) X.env = (false, eval e X.env) :: starEach es X.env := by rfl) (hpl : (backTo pos (starEach es X.env)).any (·.1) = false := by rfl) :
    DNR X c W (.Call (.Name nm p) (e :: es) [] pos) (mCall ps.length [] (mDefR len fb) fs) := by
  subst hT
  obtain ⟨f, fd, hm, hkp, hb, F⟩ := F.out
  obtain ⟨t, pa, sa⟩ := ha.out
  refine ⟨fun σ H Q => ∃ x Δ, SR c x σ H Δ ∧ Post c W x σ H (okNR c x σ H Q) (mCall ps.length [] (mDefR len fb) fs Δ), ⟨fun pins s σ H Q I ⟨x, Δ, sr, q⟩ => ?_⟩, fun x σ H Δ Q sr q => ⟨x, Δ, sr, q⟩⟩
  refine wpAny_Call_Name_kw (ld_glob I hg hm ?_ hdb)
  have args := thn (pa.run pos pins s σ H (fun vs H1 => spR ⟨X.K, X.mg, c.T⟩ ps.length (mDefR len fb) vs H1 Q fun cls d H' => W cls d σ H') I ?_) fun us s1 ⟨vs, H1, I1, r, q⟩ =>
    (⟨I1.kIn, run_fnR F o hk hb I1 r q⟩ : X.K.In s1.heap ∧ wpAny (model X.prog X.w) X.A (call (.ref f) ([] ++ us)) (EP X pins σ Q) X.xe s1)
  · exact PySem.W.callWith_K (h₀ := X.base) I.ok.mod.kin hkp args he hpl
  · unfold mCall at q
    refine sa x σ H Δ _ sr (Post.bind q fun as Δ1 q1 vs x1 H1 k1 sr1 h1 => ?_)
    have q2 := Post.bind (ok := fun (r : D × Bool) Δ2 => okNR c x σ H Q r.1 Δ2) q1 fun r Δ2 z => z
    refine call_spR (gc_eq o) sr1 h1 (fun ds => ?_) (q2.step k1 fun a Δ q => okNR.step k1 q) fun d Δ2 z => z
    unfold mDefR
    cases fb (startD len [] ds) with
    | bad => trivial
    | ex n d Δ' => rfl
    | ok fl Δ' => cases fl <;> first | trivial | exact ⟨rfl, rfl⟩
end
/-! ### what is changed -/
def tPath (K : PySem.W.Frag) (i : Nat) (p : Int × Int) : TE := tOp (rIx K) (tOp (rIx K) (tVar i) (tC (.int p.1))) (tC (.int p.2))
def tPaths (K : PySem.W.Frag) (i : Nat) : List (Int × Int) → TA
  | [] => tNil
  | p :: ps => tCons (tPath K i p) (tPaths K i ps)
def pathOk (n : Nat) (d : D) (p : Int × Int) : Bool := match d with
  | .tup ds => (match atI ds p.1 with
    | some (.tup es) => (match atI es p.2 with
      | some (.lst xs) => decide (xs.length + n < lim)
      | _ => false)
    | _ => false)
  | _ => false
/-- the place of an inner list -/
def Pth (H : Hp) (v : V) (p : Int × Int) (a : Addr) : Prop := ∃ t us t2 us2, v = .ref t ∧ H t = some (.tup us) ∧ atI us p.1 = some (.ref t2) ∧ H t2 = some (.tup us2) ∧ atI us2 p.2 = some (.ref a)
theorem repL_atI {G : Gc} {Av : Addr → Prop} {H : Hp} {ds : List D} {vs : List V} {k : Int} {d : D} (r : RepL G Av H ds vs) (h : atI ds k = some d) : ∃ v, atI vs k = some v ∧ Rep G Av H d v := by
  have hl := repL_length r
  unfold atI at h ⊢
  rw [hl]
  cases e : ixN ds.length k with
  | none => rw [e] at h; cases h
  | some j =>
    rw [e] at h
    exact r.at h
theorem path_at {G : Gc} {R : Addr → Prop} {H : Hp} {d : D} {v : V} {n : Nat} {p : Int × Int} (r : Rep G R H d v) (h : pathOk n d p = true) : ∃ a, Pth H v p a ∧ R a ∧ ∃ vs, H a = some (.lst vs) ∧ vs.length + n < lim := by
  unfold pathOk at h
  cases d <;> first | cases h | skip
  rename_i ds
  dsimp only at h
  unfold Rep at r
  obtain ⟨t, us, rfl, _, ht, rl⟩ := r
  cases e1 : atI ds p.1 with
  | none => rw [e1] at h; cases h
  | some d1 =>
    rw [e1] at h
    cases d1 <;> first | cases h | skip
    rename_i es
    dsimp only at h
    obtain ⟨v1, a1, r1⟩ := repL_atI rl e1
    unfold Rep at r1
    obtain ⟨t2, us2, rfl, _, ht2, rl2⟩ := r1
    cases e2 : atI es p.2 with
    | none => rw [e2] at h; cases h
    | some d2 =>
      rw [e2] at h
      cases d2 <;> first | cases h | skip
      rename_i xs
      have h := of_decide_eq_true h
      obtain ⟨v2, a2, r2⟩ := repL_atI rl2 e2
      unfold Rep at r2
      obtain ⟨a, vs, rfl, hR, ha, rl3⟩ := r2
      exact ⟨a, ⟨t, us, t2, us2, rfl, ht, a1, ht2, a2⟩, hR, vs, ha, by rw [repL_length rl3]; exact h⟩
theorem paths_at {G : Gc} {R : Addr → Prop} {H : Hp} {d : D} {v : V} {n : Nat} (r : Rep G R H d v) : ∀ {ps : List (Int × Int)}, ps.all (pathOk n d) = true → ∃ as : List Addr, Paired (fun p a => Pth H v p a) ps as ∧ ∀ a ∈ as, R a ∧ ∃ vs, H a = some (.lst vs) ∧ vs.length + n < lim
  | [], _ => ⟨[], .nil, fun _ h => nomatch h⟩
  | p :: ps, h => by
    rw [List.all_cons, Bool.and_eq_true] at h
    obtain ⟨a, h1, h2⟩ := path_at r h.1
    obtain ⟨as, h3, h4⟩ := paths_at r h.2
    refine ⟨a :: as, .cons h1 h3, fun b hb => ?_⟩
    rcases List.mem_cons.mp hb with rfl | hb
    · exact h2
    · exact h4 b hb
theorem paths_read {K : PySem.W.Frag} {i : Nat} {σ : L2.St} {H : Hp} {v : V} (hσ : σ[i]? = some (some v)) : ∀ {ps : List (Int × Int)} {as : List Addr} {Q : List V → Hp → Prop}, Paired (fun p a => Pth H v p a) ps as → Q (as.map V.ref) H → tPaths K i ps σ H Q
  | [], [], Q, _, q => q
  | p :: ps, a :: as, Q, .cons h hs, q => by
    obtain ⟨t, us, t2, us2, rfl, h1, h2, h3, h4⟩ := h
    exact ⟨_, hσ, .inr (.inl ⟨t, us, p.1, .ref t2, rfl, rfl, SqT.of h1, h2, .inr (.inl ⟨t2, us2, p.2, .ref a, rfl, rfl, SqT.of h3, h4, paths_read (Q := fun vs H2 => Q (V.ref a :: vs) H2) hσ hs q⟩)⟩)⟩
theorem pth_keep {H H' : Hp} {v : V} {p : Int × Int} {a : Addr} (h : ∀ b xs, H b = some (.tup xs) → H' b = some (.tup xs)) (z : Pth H v p a) : Pth H' v p a := by
  obtain ⟨t, us, t2, us2, e, h1, h2, h3, h4⟩ := z
  exact ⟨t, us, t2, us2, e, h _ _ h1, h2, h _ _ h3, h4⟩
def lendD (i : Nat) (d : D) (Δ : SD) : SD := (strip (Δ.set i .un)).set i (.sh d)
def mWreckP (i j : Nat) (ps : List (Int × Int)) (fc : M D) (ft fn : M Bool) (fm fr : M Fl) : M Fl := mBind fc fun d Δ => if i < Δ.length ∧ j < Δ.length ∧ i ≠ j ∧ ps.length ≤ 1000 then (match ft (lendD i d Δ) with
  | .ok true _ => .ok (.rt (.bl false)) (Δ.set i .un)
  | .ok false _ => (match fn (lendD i d Δ) with
    | .ok true _ => if ps.all (pathOk ps.length d) = true then mSeq fm fr ((Δ.set i .un).set j .un) else .bad
    | .ok false _ => fr (Δ.set i .un)
    | _ => .bad)
  | _ => .bad) else .bad
section
variable {X : Cx} {c : Ct} {W : WX} {e test test2 : Expr} {es : List Expr} {body more rest : List Stmt} {fc : M D} {ft fn : M Bool} {fm fr : M Fl} {i j : Nat} {n m : Str} {ps : List (Int × Int)}
/-- all the inner lists get None -/
theorem wreck_loop {x0 x : Sx} {σ : L2.St} {H0 H : Hp} {Δ : SD} {D : Ends} {l : Addr} {as : List Addr} (k0 : Kp x0 H0 x H) (sr : SR c x σ H Δ) (hio : c.io = []) (hl : H l = some (.lst (as.map V.ref))) (hla : ∀ a ∈ as, a ≠ l)
    (hjl : j < σ.length) (ha : ∀ a ∈ as, ¬ x.Av a ∧ (∀ k, x.ρ k ≠ some a) ∧ c.H0 a = none ∧ H0 a = none ∧ ∃ vs, H a = some (.lst vs) ∧ vs.length + as.length < lim)
    (q : ∀ σ' x' H', Kp x0 H0 x' H' → SR c x' σ' H' (Δ.set j .un) → D.nx σ' H') :
    ∃ WW : Nat → Nat → L2.St → Hp → Prop, (∃ m, WW 0 m σ H) ∧ ∀ i m σ H, WW i m σ H → ((Itl X.K l).stop i H ∧ D.nx σ H) ∨ ((Itl X.K l).go i H ∧ ∃ N : L2.St → Hp → Prop, (∀ σ' H', N σ' H' → ∃ m', m' < m ∧ WW (i + 1) m' σ' H') ∧ ∀ v H', (Itl X.K l).yld i H v H' → gName j v σ H' fun σ2 H2 =>
      tDrop (tBM X.K "list" rAppend (tVar j) (tCons (tC .non) tNil)) { D with nx := N, ct := N, bk := D.nx } σ2 H2) := by
  have hjD : j < Δ.length := by rw [← sr.len]; exact hjl
  obtain ⟨k1, sr1⟩ := sr.setUn (i := j) (fun p hp => by rw [hio] at hp; cases hp) (σ[j]?.getD none)
  have es : σ.set j (σ[j]?.getD none) = σ := by
    apply List.ext_getElem?
    intro k
    by_cases e : j = k
    · subst e
      rw [List.getElem?_set_self hjl, List.getElem?_eq_getElem hjl]
      rfl
    · rw [List.getElem?_set_ne e]
  rw [es] at sr1
  refine ⟨fun n m σ' H' => m = as.length - n ∧ n ≤ as.length ∧ σ'.length = σ.length ∧ H' l = some (.lst (as.map V.ref)) ∧ ∃ x', Kp x0 H0 x' H' ∧ SR c x' σ' H' (Δ.set j .un) ∧ ∀ a ∈ as, ¬ x'.Av a ∧ (∀ k, x'.ρ k ≠ some a) ∧ ∃ vs, H' a = some (.lst vs) ∧ vs.length + (as.length - n) < lim,
    ⟨as.length, rfl, Nat.zero_le _, rfl, hl, _, k0.trans k1, sr1, fun a h => ?_⟩, ?_⟩
  · obtain ⟨h1, h2, _, _, vs, h3, h4⟩ := ha a h
    refine ⟨h1, fun k z => ?_, vs, h3, by omega⟩
    have z : (if k = j then none else x.ρ k) = some a := z
    by_cases e : k = j
    · rw [if_pos e] at z; cases z
    · rw [if_neg e] at z; exact h2 k z
  · rintro n m σ' H' ⟨rfl, hn, hs, hl', x', k', s', h'⟩
    by_cases hlt : n < as.length
    · have hat : (as.map V.ref)[n]? = some (.ref as[n]) := by rw [List.getElem?_map, List.getElem?_eq_getElem hlt]; rfl
      refine .inr ⟨⟨_, _, SqL.of hl', hat⟩, fun σ3 H3 => σ3.length = σ.length ∧ H3 l = some (.lst (as.map V.ref)) ∧ ∃ x', Kp x0 H0 x' H3 ∧ SR c x' σ3 H3 (Δ.set j .un) ∧ ∀ a ∈ as, ¬ x'.Av a ∧ (∀ k, x'.ρ k ≠ some a) ∧ ∃ vs, H3 a = some (.lst vs) ∧ vs.length + (as.length - (n + 1)) < lim,
        fun σ3 H3 h3 => ⟨as.length - (n + 1), by omega, rfl, hlt, h3⟩, fun v H2 hy => ?_⟩
      obtain ⟨rfl, hy⟩ := hy
      have ev := hy _ (SqL.of hl')
      rw [hat] at ev
      cases ev
      have hm : as[n] ∈ as := List.getElem_mem hlt
      obtain ⟨h1, h2, vs, h3, h4⟩ := h' _ hm
      obtain ⟨_, _, g1, g2, _⟩ := ha _ hm
      generalize as[n] = a at *
      have na : a ≠ l := hla a hm
      refine ⟨.ref a, List.getElem?_set_self (by rw [hs]; exact hjl), .inl ⟨rfl, vs, SqL.of h3⟩, ?_⟩
      refine ⟨a, vs, .non, rfl, rfl, h3, lim_lt (by omega), ?_⟩
      obtain ⟨k2, s2⟩ := s'.setUn (i := j) (fun p hp => by rw [hio] at hp; cases hp) (some (.ref a))
      rw [List.set_set] at s2
      have av2 : ∀ b ∈ as, ¬ x'.Av b ∧ ∀ k, (⟨x'.Av, fun k => if k = j then none else x'.ρ k⟩ : Sx).ρ k ≠ some b := fun b hb => ⟨(h' b hb).1, fun k z => by
        have z : (if k = j then none else x'.ρ k) = some b := z
        by_cases e : k = j
        · rw [if_pos e] at z; cases z
        · rw [if_neg e] at z; exact (h' b hb).2.1 k z⟩
      refine ⟨by rw [List.length_set]; exact hs, by rw [upd_ne (Ne.symm na)]; exact hl', _, (k'.trans k2).apartUpd g2, s2.temp (D := a) (.lst (vs ++ [.non])) ⟨_, h3, pln_lst⟩ h1 (av2 a hm).2 g1, fun b hb => ⟨(av2 b hb).1, (av2 b hb).2, ?_⟩⟩
      by_cases e : b = a
      · subst e
        exact ⟨_, upd_same, by rw [List.length_append, List.length_singleton]; omega⟩
      · obtain ⟨_, _, ws, w1, w2⟩ := h' b hb
        exact ⟨ws, by rw [upd_ne e]; exact w1, by omega⟩
    · exact .inl ⟨⟨_, SqL.of hl', by rw [List.length_map]; omega⟩, q σ' x' H' k' s'⟩
theorem db_wreckP {pn pl pa pr pif pif2 pf pm pb : Pos} {jb : Nat} (hK : c.K = X.K) (hio : c.io = []) (hp : PassesOwn (model X.prog X.w) X.A X.env X.xe) (hcm : X.calm = true) (hN : X.N.Nodup) (hi : X.N[i]? = some n) (hx : Loc X.env.scope n) (hj : X.N[j]? = some m) (hy : Loc X.env.scope m)
    (hc : DNR X c W e fc) (ht : DT X c W test ft) (hn : DT X c W test2 fn) (hpa : PA X es (tPaths X.K i ps)) (hbody : PSs X body (tDrop (tBM X.K "list" rAppend (tVar j) (tCons (tC .non) tNil)))) (hm : DB X c W more fm) (hr : DB X c W rest fr)
    (hsw : swapsWith e (some (.Name n pn)) pa.line X.env = pure false := by rfl) (hf : X.fn n = true ∨ X.env.scope.names.lookup n = some .local := by first | exact .inl rfl | exact .inr rfl | assumption) (hf2 : X.fn m = true ∨ X.env.scope.names.lookup m = some .local := by first | exact .inl rfl | exact .inr rfl | assumption)
    (hs : ∀ x, foldedSetIterable (.List es pl) X.env x = pure x := by intro _; rfl) :
    DB X c W (.Assign [.Name n pn] e pa :: .If test [.Return (some (.Constant (.bool false) jb pb)) pr] [] pif :: .If test2 (.For (.Name m pm) (.List es pl) body [] pf :: more) [] pif2 :: rest) (mWreckP i j ps fc ft fn fm fr) := by
  obtain ⟨tc, pc, sc⟩ := hc.out
  obtain ⟨tt, pt, st⟩ := ht.out
  obtain ⟨tn, ptn, sn⟩ := hn.out
  obtain ⟨tm, pm, sm⟩ := hm.out
  obtain ⟨tr, pr, sR⟩ := hr.out
  refine ⟨_, pss_cons (ps_set hN hi hx pc hsw hf) (pss_cons (ps_if pt (pss_one (ps_ret pe_bl)) pss_nil) (pss_cons (ps_if ptn (pss_cons (ps_for hp hcm (pi_list (pe_lst hpa)) (pg_name hN hj hy hf2) hbody hs) pm) pss_nil) pr)), fun x σ H Δ E sr q => sc x σ H Δ _ sr ?_⟩
  unfold mWreckP mBind at q
  cases efc : fc Δ with
  | bad => rw [efc] at q; exact q
  | ex n d Δ' => rw [efc] at q; exact fun C dx x' H' k' s r => q C dx σ x' H' k' s r
  | ok d Δ1 =>
  rw [efc] at q
  intro v x1 H1 R k1 sr1 hR rep
  have q : PostS c W x H E (if i < Δ1.length ∧ j < Δ1.length ∧ i ≠ j ∧ ps.length ≤ 1000 then _ else Res.bad) := q
  split at q
  case isFalse => exact q.elim
  rename_i hz
  obtain ⟨hil, hjl, hij, hps⟩ := hz
  obtain ⟨k2, sr2⟩ := sr1.setUn (i := i) (fun p hp => by rw [hio] at hp; cases hp) (some v)
  have lσ : i < σ.length := by rw [sr1.len]; exact hil
  have hσ : (σ.set i (some v))[i]? = some (some v) := List.getElem?_set_self lσ
  have kk := k1.trans k2
  show tSeq (tIfS tt (tRet (tC (.bl false))) tNext) _ E (σ.set i (some v)) H1
  generalize hx2 : (⟨x1.Av, fun j => if j = i then none else x1.ρ j⟩ : Sx) = x2 at *
  have eAv : x2.Av = x1.Av := by rw [← hx2]
  have eρ : ∀ j b, x2.ρ j = some b → x1.ρ j = some b := fun j b z => by
    rw [← hx2] at z
    have z : (if j = i then none else x1.ρ j) = some b := z
    by_cases e : j = i
    · rw [if_pos e] at z; cases z
    · rw [if_neg e] at z; exact z
  have hR2 : ∀ a, R a → c.H0 a = none := fun a h => (hR a h).2.2.1
  have lend : ∀ {x3 : Sx} {H3 : Hp}, SR c x3 (σ.set i (some v)) H3 (Δ1.set i .un) → Rep c.toGc R H3 d v → SR c ⟨fun b => x3.Av b ∨ R b, fun _ => none⟩ (σ.set i (some v)) H3 (lendD i d Δ1) := fun {x3 H3} s3 r3 =>
    s3.lendR hio hR2 (by rw [List.length_set]; exact hil) hσ (r3.subset fun a _ h => .inr h)
  refine st _ _ H1 _ _ (lend sr2 rep) ?_
  cases et : ft (lendD i d Δ1) with
  | bad => rw [et] at q; exact q.elim
  | ex m d Δ3 => rw [et] at q; exact q.elim
  | ok b Δ3 =>
  rw [et] at q
  intro x3 H3 k3 sr3
  obtain ⟨kA, srA, frA⟩ := sr2.unlendR (fun a h => ⟨(hR a h).1, by rw [eAv]; exact (hR a h).2.1⟩) k3 sr3
  cases b with
  | true => exact q (.bl false) _ _ H3 (kk.trans kA) srA mk_bl
  | false =>
  have repA : Rep c.toGc R H3 d v := rep.keep ⟨fun a u _ f h => by
      rcases h with h | ⟨o, h⟩
      · exact .inl (frA a _ h f)
      · exact .inr ⟨o, frA a _ h fx_frz⟩, fun a vs _ h => frA a _ h fx_lst, fun a vs _ h => frA a _ h fx_tup, fun a C dx us _ h => frA a _ h fx_ins, fun a u h _ => h⟩
  refine sn _ _ H3 _ _ (lend srA repA) ?_
  dsimp only at q
  cases en : fn (lendD i d Δ1) with
  | bad => rw [en] at q; exact q.elim
  | ex m d Δ3 => rw [en] at q; exact q.elim
  | ok b Δ4 =>
  rw [en] at q
  intro x4 H4 k4 sr4
  have nA : ∀ a, R a → H3 a ≠ none := fun a h z => (hR a h).1 (k3.trk a z)
  obtain ⟨kB, srB, frB⟩ := srA.unlendR (fun a h => ⟨nA a h, fun z => z.2 h⟩) k4 sr4
  cases b with
  | false => exact sR _ _ H4 _ E srB (PostS.step q ((kk.trans kA).trans kB))
  | true =>
  have q : PostS c W x H E (if ps.all (pathOk ps.length d) = true then mSeq fm fr ((Δ1.set i .un).set j .un) else Res.bad) := q
  split at q
  case isFalse => exact q.elim
  rename_i hok
  have repB : Rep c.toGc R H4 d v := repA.keep ⟨fun a u _ f h => by
      rcases h with h | ⟨o, h⟩
      · exact .inl (frB a _ h f)
      · exact .inr ⟨o, frB a _ h fx_frz⟩, fun a vs _ h => frB a _ h fx_lst, fun a vs _ h => frB a _ h fx_tup, fun a C dx us _ h => frB a _ h fx_ins, fun a u h _ => h⟩
  obtain ⟨as, pth, asR⟩ := paths_at repB hok
  have las : ps.length = as.length := pth.length
  show tPaths X.K i ps (σ.set i (some v)) H4 _
  refine paths_read hσ pth ⟨lim_ok (by rw [List.length_map, ← las]; exact Nat.le_trans hps (by decide)), fun l hl => ?_⟩
  obtain ⟨k5, sr5, h0l, nrl⟩ := srB.alloc hl (Ex.new (o := .lst (as.map V.ref)) hl)
  have sr5 := sr5 (by rw [upd_same]; intro z; cases z)
  refine ⟨l, rfl, ⟨_, SqL.of upd_same⟩, ?_⟩
  refine wreck_loop (((kk.trans kA).trans kB).trans k5) sr5 hio upd_same (fun a h z => ?_) (by rw [List.length_set, sr1.len]; exact hjl) (fun a h => ?_) ?_
  · obtain ⟨vs, h1, _⟩ := (asR a h).2
    rw [z, hl] at h1; cases h1
  · obtain ⟨h1, vs, h2, h3⟩ := asR a h
    obtain ⟨g1, g2, g3, g4, g5⟩ := hR a h1
    have ne : a ≠ l := fun z => by rw [z, hl] at h2; cases h2
    refine ⟨fun z => z.1.2 h1, fun k z => g5 k (eρ k a z), g3, g4, vs, by rw [upd_ne ne]; exact h2, by rw [← las]; exact h3⟩
  · exact fun σ' x' H' k' s' => sound_seq sm sR x' σ' H' _ E s' (PostS.step q k')
end
end DL

-- gives: mWreckP
namespace DL
open PySem L2
@[simp] theorem isSc_non : isSc .non = true := (rfl)
@[simp] theorem isSc_bl {b : Bool} : isSc (.bl b) = true := (rfl)
@[simp] theorem isSc_int {i : Int} : isSc (.int i) = true := (rfl)
@[simp] theorem isSc_str {z : Str} : isSc (.str z) = true := (rfl)
@[simp] theorem isSc_lst {ds : List D} : isSc (.lst ds) = false := (rfl)
@[simp] theorem isSc_tup {ds : List D} : isSc (.tup ds) = false := (rfl)
@[simp] theorem isSc_scr {ds : List Int} : isSc (.scr ds) = false := (rfl)
@[simp] theorem isSc_cls {n : Str} : isSc (.cls n) = false := (rfl)
@[simp] theorem isSc_obj {n : Str} {fs : List (Str × D)} : isSc (.obj n fs) = false := (rfl)
@[simp] theorem fgD_nil : fgD [] = [] := (rfl)
@[simp] theorem fgD_un {Δ : SD} : fgD (.un :: Δ) = .un :: fgD Δ := (rfl)
@[simp] theorem fgD_ow {Δ : SD} {d : D} : fgD (.ow d :: Δ) = .un :: fgD Δ := (rfl)
@[simp] theorem fgD_sh {Δ : SD} {d : D} : fgD (.sh d :: Δ) = (if isSc d = true then SC.sh d else .un) :: fgD Δ := (rfl)
theorem all_isSc {xs : List Int} : (xs.map D.int).all isSc = true := by
  rw [List.all_eq_true]
  intro d hd
  obtain ⟨i, _, rfl⟩ := List.mem_map.mp hd
  rfl
section
variable {Δ : SD} {P : Fl → SD → Prop} {E : EX} {f g : M Fl} {fe f1 f2 f3 : M D} {fc : M Bool} {i j : Nat}
theorem wpR_defR {len : Nat} {body : M Fl} {ds : List D} {P : D → Bool → List D → Prop} {F : Str → Option D → List D → Prop} : wpR (mDefR len body ds) (K := ⟨P, F⟩) = wp body (startD len [] ds) (K := ⟨(fun fl _ => match fl with
    | .rt d => P d false []
    | .nx => P .non false []
    | _ => False), (fun n d _ => F n d [])⟩) := by
  unfold wpR mDefR wp
  cases body (startD len [] ds) with
  | ok fl Δ' => cases fl <;> rfl
  | ex n d Δ' => rfl
  | bad => rfl
theorem wp_scR : wp (mScR f g) Δ (K := ⟨P, E⟩) = wp f Δ (K := ⟨(fun fl Δ1 => match fl with
    | .nx => wp g Δ1 (K := ⟨P, E⟩)
    | .rt d => isSc d = true ∧ P (.rt d) Δ1
    | _ => False), E⟩) := by
  unfold mScR
  rw [wp_bind]
  refine wp_ext fun fl Δ1 => ?_
  cases fl with
  | nx => rfl
  | bk => exact wp_bad
  | ct => exact wp_bad
  | rf d => exact wp_bad
  | rt d =>
    dsimp only
    by_cases h : isSc d = true
    · rw [if_pos h, wp_pure, eq_true h, true_and]
    · rw [if_neg h, wp_bad, eq_false h, false_and]
theorem wp_retNw : wp (mRetNw fe) Δ (K := ⟨P, E⟩) = wp fe (fgD Δ) (K := ⟨(fun d _ => P (.rt d) Δ), noE⟩) := by
  unfold mRetNw wp
  dsimp only
  cases fe (fgD Δ) <;> rfl
theorem wp_ifNw : wp (mIfNw fc fe g) Δ (K := ⟨P, E⟩) = wp fc Δ (K := ⟨(fun b Δ1 => if b = true then wp fe (fgD Δ1) (K := ⟨(fun d _ => P (.rt d) Δ1), noE⟩) else wp g Δ1 (K := ⟨P, E⟩)), E⟩) := by
  unfold mIfNw
  rw [wp_bind]
  refine wp_ext fun b Δ1 => ?_
  cases b <;> simp [wp_retNw]
theorem wp_setNw2 : wp (mSetNw2 i j f1 f2 g) Δ (K := ⟨P, E⟩) = wp f1 Δ (K := ⟨(fun d1 Δ1 => (i < Δ1.length ∧ j < Δ1.length ∧ i ≠ j) ∧ wp f2 (Δ1.set i (.sh d1)) (K := ⟨(fun d2 Δ2 => (i < Δ2.length ∧ j < Δ2.length) ∧ wp g (((fgD Δ2).set i (.sh d1)).set j (.sh d2)) (K := ⟨(fun fl _ => match fl with
    | .rt d => P (.rt d) Δ2
    | _ => False), noE⟩)), E⟩)), E⟩) := by
  unfold mSetNw2
  rw [wp_bind]
  refine wp_ext fun d1 Δ1 => ?_
  by_cases h : i < Δ1.length ∧ j < Δ1.length ∧ i ≠ j
  · rw [eq_true h, true_and]
    have e : wp (fun Δ => if i < Δ.length ∧ j < Δ.length ∧ i ≠ j then mBind f2 (fun d2 Δ2 => if i < Δ2.length ∧ j < Δ2.length then mEndR Δ2 (g (((fgD Δ2).set i (.sh d1)).set j (.sh d2))) else .bad) (Δ.set i (.sh d1)) else .bad) Δ1 (K := ⟨P, E⟩)
        = wp (mBind f2 (fun d2 Δ2 => if i < Δ2.length ∧ j < Δ2.length then mEndR Δ2 (g (((fgD Δ2).set i (.sh d1)).set j (.sh d2))) else .bad)) (Δ1.set i (.sh d1)) (K := ⟨P, E⟩) := by
      unfold wp
      dsimp only
      rw [if_pos h]
    rw [e, wp_bind]
    refine wp_ext fun d2 Δ2 => ?_
    unfold wp
    dsimp only
    by_cases h2 : i < Δ2.length ∧ j < Δ2.length
    · rw [if_pos h2, eq_true h2, true_and]
      cases g (((fgD Δ2).set i (.sh d1)).set j (.sh d2)) with
      | ok fl Δ' => cases fl <;> rfl
      | ex n d Δ' => rfl
      | bad => rfl
    · rw [if_neg h2, eq_false h2, false_and]
  · rw [eq_false h, false_and]
    unfold wp
    dsimp only
    rw [if_neg h]
theorem wp_callNw {g : List D → RD} {P : D → SD → Prop} : wp (mCallNw g f1 f2 f3) Δ (K := ⟨P, E⟩) = wp f1 Δ (K := ⟨(fun d1 Δ1 => wp f2 Δ1 (K := ⟨(fun d2 Δ2 => wp f3 Δ2 (K := ⟨(fun d3 Δ3 => wp (nwEnd g d1 d2 d3) Δ3 (K := ⟨P, E⟩)), E⟩)), E⟩)), E⟩) := by
  unfold mCallNw
  rw [wp_bind]
  refine wp_ext fun d1 Δ1 => ?_
  rw [wp_bind]
  refine wp_ext fun d2 Δ2 => ?_
  rw [wp_bind]
theorem wp_nwEnd {g : List D → RD} {P : D → SD → Prop} {ds1 ds2 : List D} {d3 : D} (h1 : ds1.all isSc = true) (h2 : ds2.all isSc = true) (h3 : isSc d3 = true) (h : wpR (g [.lst ds1, .lst ds2, d3]) (K := ⟨(fun d fr es => fr = false ∧ es = [] ∧ P d Δ), noF⟩)) : wp (nwEnd g (.lst ds1) (.lst ds2) d3) Δ (K := ⟨P, E⟩) := by
  have e0 : nwEnd g (.lst ds1) (.lst ds2) d3 Δ = (if ds1.all isSc = true ∧ ds2.all isSc = true ∧ isSc d3 = true then (match g [.lst ds1, .lst ds2, d3] with
    | .ok d false [] => Res.ok d Δ
    | _ => .bad) else .bad) := rfl
  unfold wp
  rw [e0, if_pos ⟨h1, h2, h3⟩]
  unfold wpR at h
  cases eg : g [.lst ds1, .lst ds2, d3] with
  | ok d fr es =>
    rw [eg] at h
    obtain ⟨q1, q2, h⟩ := h
    have q1 : fr = false := q1
    have q2 : es = [] := q2
    subst q1 q2
    exact h
  | ex n d es => rw [eg] at h; exact h.elim
  | bad => rw [eg] at h; exact h.elim
theorem wp_wreckP {ps : List (Int × Int)} {ft fn : M Bool} {fm fr : M Fl} : wp (mWreckP i j ps fe ft fn fm fr) Δ (K := ⟨P, E⟩) = wp fe Δ (K := ⟨(fun d Δ1 => (i < Δ1.length ∧ j < Δ1.length ∧ i ≠ j ∧ ps.length ≤ 1000) ∧ wp ft (lendD i d Δ1) (K := ⟨(fun b _ => if b = true then P (.rt (.bl false)) (Δ1.set i .un) else
    wp fn (lendD i d Δ1) (K := ⟨(fun b2 _ => if b2 = true then ps.all (pathOk ps.length d) = true ∧ wp (mSeq fm fr) ((Δ1.set i .un).set j .un) (K := ⟨P, E⟩) else wp fr (Δ1.set i .un) (K := ⟨P, E⟩)), noE⟩)), noE⟩)), E⟩) := by
  unfold mWreckP
  rw [wp_bind]
  refine wp_ext fun d Δ1 => ?_
  unfold wp
  dsimp only
  by_cases h : i < Δ1.length ∧ j < Δ1.length ∧ i ≠ j ∧ ps.length ≤ 1000
  · rw [if_pos h, eq_true h, true_and]
    cases ft (lendD i d Δ1) with
    | bad => rfl
    | ex n d Δ' => rfl
    | ok b Δ' =>
      cases b with
      | true => rfl
      | false =>
        dsimp only
        rw [if_neg (show ¬ (false = true) from nofun)]
        cases fn (lendD i d Δ1) with
        | bad => rfl
        | ex n d Δ' => rfl
        | ok b Δ' =>
          cases b with
          | true =>
            dsimp only
            rw [if_pos rfl]
            by_cases h2 : ps.all (pathOk ps.length d) = true
            · rw [if_pos h2, eq_true h2, true_and]
            · rw [if_neg h2, eq_false h2, false_and]
          | false =>
            dsimp only
            rw [if_neg (show ¬ (false = true) from nofun)]
  · rw [if_neg h, eq_false h, false_and]
end
end DL

/-! plain law 1: powers of long parts -/
namespace DL
open PySem L2
theorem oRun_app {b : Bool} : ∀ {xs ys : List Stp} {o : List Int × List Int}, oRun b (xs ++ ys) o = (oRun b xs o).bind (oRun b ys)
  | [], ys, o => rfl
  | s :: xs, ys, o => by
    rw [List.cons_append, oRun, oRun]
    cases oStep b o s with
    | none => rfl
    | some o' => exact oRun_app (xs := xs)
theorem oRun_off {b d c : Bool} (h : c ≠ b) : ∀ {xs : List Int} {o : List Int × List Int}, oRun b (xs.map (Stp.mk d c)) o = some o
  | [], o => rfl
  | x :: xs, o => by
    rw [List.map_cons, oRun]
    have e : oStep b o ⟨d, c, x⟩ = some o := by
      unfold oStep; rw [if_neg h]
    rw [e]
    exact oRun_off h
theorem oRun_put {b : Bool} : ∀ {xs N G : List Int}, oRun b (xs.map (Stp.mk true b)) (N, G) = some (N, xs.reverse ++ G)
  | [], N, G => rfl
  | x :: xs, N, G => by
    rw [List.map_cons, oRun]
    have e : oStep b (N, G) ⟨true, b, x⟩ = some (N, x :: G) := by
      unfold oStep; simp
    rw [e]
    simp [oRun_put (xs := xs)]
def tk : List Int → List Int × List Int → Option (List Int × List Int)
  | [], o => some o
  | n :: ns, (N, []) => tk ns (N ++ [n], [])
  | n :: ns, (N, g :: gs) => if g = n then tk ns (N, gs) else none
theorem oRun_take {b : Bool} : ∀ {xs N G : List Int}, oRun b (xs.map (Stp.mk false b)) (N, G) = tk xs (N, G)
  | [], N, G => rfl
  | x :: xs, N, [] => by
    rw [List.map_cons, oRun, tk]
    have e : oStep b (N, []) ⟨false, b, x⟩ = some (N ++ [x], []) := by
      unfold oStep; simp
    rw [e]
    exact oRun_take
  | x :: xs, N, g :: gs => by
    rw [List.map_cons, oRun, tk]
    have e : oStep b (N, g :: gs) ⟨false, b, x⟩ = if g = x then some (N, gs) else none := by
      unfold oStep; simp
    rw [e]
    by_cases h : g = x
    · rw [if_pos h, if_pos h]
      exact oRun_take
    · rw [if_neg h, if_neg h]; rfl
theorem tk_pre : ∀ {xs N r : List Int}, tk xs (N, xs ++ r) = some (N, r)
  | [], N, r => rfl
  | x :: xs, N, r => by
    rw [List.cons_append, tk, if_pos rfl]
    exact tk_pre
theorem tk_nil : ∀ {xs N : List Int}, tk xs (N, []) = some (N ++ xs, [])
  | [], N => by simp [tk]
  | x :: xs, N => by rw [tk, tk_nil]; simp
theorem tk_over : ∀ {G N q : List Int}, tk (G ++ q) (N, G) = some (N ++ q, [])
  | [], N, q => tk_nil
  | g :: G, N, q => by
    rw [List.cons_append, tk, if_pos rfl]
    exact tk_over
theorem tk_none : ∀ {xs G N : List Int}, G.take xs.length ≠ xs → xs.take G.length ≠ G → tk xs (N, G) = none
  | [], G, N, h, _ => (h (by simp)).elim
  | x :: xs, [], N, _, h => (h (by simp)).elim
  | x :: xs, g :: G, N, h, h2 => by
    rw [tk]
    by_cases e : g = x
    · subst e
      rw [if_pos rfl]
      exact tk_none (fun z => h (by simp [z])) (fun z => h2 (by simp [z]))
    · rw [if_neg e]
/-- one more time -/
def rnd (p x : List Int) (o : List Int × List Int) : Option (List Int × List Int) := (tk p o).map fun o => (o.1, x ++ o.2)
def its (p x : List Int) : Nat → Option (List Int × List Int)
  | 0 => some ([], [])
  | e + 1 => (its p x e).bind (rnd p x)
theorem oRun_steps_t {p x s y N G : List Int} : oRun true (stepsOf p x s y) (N, G) = rnd p x (N, G) := by
  unfold stepsOf rnd
  rw [oRun_app, oRun_app, oRun_app, oRun_take]
  cases tk p (N, G) with
  | none => rfl
  | some o =>
    obtain ⟨N', G'⟩ := o
    simp only [Option.bind_some, Option.map_some]
    rw [oRun_put]
    simp only [Option.bind_some]
    rw [oRun_off (by decide)]
    simp only [Option.bind_some]
    rw [oRun_off (by decide)]
    simp
theorem oRun_steps_f {p x s y N G : List Int} : oRun false (stepsOf p x s y) (N, G) = rnd s.reverse y.reverse (N, G) := by
  unfold stepsOf rnd
  rw [oRun_app, oRun_app, oRun_app, oRun_off (by decide)]
  simp only [Option.bind_some]
  rw [oRun_off (by decide)]
  simp only [Option.bind_some]
  rw [oRun_take]
  cases tk s.reverse (N, G) with
  | none => rfl
  | some o =>
    obtain ⟨N', G'⟩ := o
    simp only [Option.bind_some, Option.map_some]
    rw [oRun_put]
theorem its_t {p x s y : List Int} : ∀ {e : Nat}, oRun true (List.replicate e (stepsOf p x s y)).flatten ([], []) = its p x e
  | 0 => rfl
  | e + 1 => by
    rw [List.replicate_succ', List.flatten_append, oRun_app, its_t, its]
    congr 1
    funext o
    obtain ⟨N, G⟩ := o
    simp only [List.flatten_cons, List.flatten_nil, List.append_nil]
    exact oRun_steps_t
theorem its_f {p x s y : List Int} : ∀ {e : Nat}, oRun false (List.replicate e (stepsOf p x s y)).flatten ([], []) = its s.reverse y.reverse e
  | 0 => rfl
  | e + 1 => by
    rw [List.replicate_succ', List.flatten_append, oRun_app, its_f, its]
    congr 1
    funext o
    obtain ⟨N, G⟩ := o
    simp only [List.flatten_cons, List.flatten_nil, List.append_nil]
    exact oRun_steps_f
def rept (e : Nat) (c : List Int) : List Int := (List.replicate e c).flatten
theorem rept_succ {e : Nat} {c : List Int} : rept (e + 1) c = c ++ rept e c := by simp [rept, List.replicate_succ]
theorem rept_succ' {e : Nat} {c : List Int} : rept (e + 1) c = rept e c ++ c := by simp [rept, List.replicate_succ']
theorem rept_rev {e : Nat} {c : List Int} : (rept e c).reverse = rept e c.reverse := by
  simp [rept, List.reverse_flatten]
def wr (q : Pow5) : List Int × List Int := (q.1 ++ rept q.2.2.2.1.toNat q.2.2.1, q.2.1 ++ rept q.2.2.2.2.toNat q.2.2.1)
theorem its_one {p x : List Int} : its p x 1 = some (p, x) := by
  simp [its, rnd, tk_nil]
theorem its_pow {p x : List Int} {e : Nat} : its p x e = (outPow p x e).map wr := by
  unfold outPow
  rcases e with _ | e
  · simp [its, wr, rept]
  · rw [if_neg (by omega)]
    by_cases h1 : p = x
    · subst h1
      rw [if_pos rfl]
      simp [wr, rept]
      induction e with
      | zero => exact its_one
      | succ e ih =>
        rw [its, ih]
        have z := tk_pre (xs := p) (N := p) (r := [])
        rw [List.append_nil] at z
        simp [rnd, z]
    rw [if_neg h1]
    by_cases h2 : x.take p.length = p
    · rw [if_pos h2]
      have hx : x = p ++ x.drop p.length := by
        conv => lhs; rw [← List.take_append_drop p.length x, h2]
      generalize x.drop p.length = r at hx
      subst hx
      have key : its p (p ++ r) (e + 1) = some (p, p ++ rept (e + 1) r) := by
        clear h1 h2
        induction e with
        | zero => rw [its_one]; simp [rept]
        | succ e ih =>
          rw [its, ih]
          simp only [Option.bind_some, rnd, tk_pre, Option.map_some]
          rw [rept_succ (e := e + 1)]
          simp
      rw [key]
      simp [wr, rept]
    rw [if_neg h2]
    by_cases h3 : p.take x.length = x
    · rw [if_pos h3]
      have hp : p = x ++ p.drop x.length := by
        conv => lhs; rw [← List.take_append_drop x.length p, h3]
      generalize p.drop x.length = r at hp
      subst hp
      have key : its (x ++ r) x (e + 1) = some (x ++ rept (e + 1) r, x) := by
        clear h1 h2 h3
        induction e with
        | zero => rw [its_one]; simp [rept]
        | succ e ih =>
          rw [its, ih]
          simp only [Option.bind_some, rnd, tk_over, Option.map_some]
          rw [rept_succ' (e := e + 1)]
          simp
      rw [key]
      simp [wr, rept]
    rw [if_neg h3]
    rcases e with _ | e
    · rw [if_pos (by omega), its_one]
      simp [wr, rept]
    · rw [if_neg (by omega)]
      simp only [Option.map_none]
      induction e with
      | zero => rw [its, its_one]; simp [rnd, tk_none h2 h3]
      | succ e ih => rw [its, ih]; rfl
def expandP (l r : Pow5) : List Int × List Int × List Int × List Int :=
  (l.1 ++ rept l.2.2.2.1.toNat l.2.2.1, l.2.1 ++ rept l.2.2.2.2.toNat l.2.2.1,
   rept r.2.2.2.1.toNat r.2.2.1 ++ r.1, rept r.2.2.2.2.toNat r.2.2.1 ++ r.2.1)
theorem long_its {p x s y : List Int} {e : Nat} : longP (List.replicate e (stepsOf p x s y)).flatten = (longPow p x s y e).map fun q => expandP q.1 q.2 := by
  unfold longP ordS longPow
  rw [its_t, its_f, its_pow, its_pow]
  rcases outPow p x e with _ | ⟨a, b, c, i, j⟩ <;> rcases outPow s.reverse y.reverse e with _ | ⟨a', b', c', i', j'⟩ <;> simp [wr, expandP, rept_rev]
theorem outPow_small {p x : List Int} {e : Nat} {q : Pow5} {m : Nat} (hp : p.length ≤ m) (hx : x.length ≤ m) (h : outPow p x e = some q) : q.1.length ≤ m ∧ q.2.1.length ≤ m ∧ q.2.2.1.length ≤ m ∧ 0 ≤ q.2.2.2.1 ∧ q.2.2.2.1 ≤ e ∧ 0 ≤ q.2.2.2.2 ∧ q.2.2.2.2 ≤ e := by
  unfold outPow at h
  repeat' split at h
  all_goals first
    | (cases h; done)
    | (cases h; simp; omega)
    | (cases h; simp)
theorem NnS_steps {p x s y : List Int} (hp : Nn p) (hx : Nn x) (hs : Nn s) (hy : Nn y) : NnS (stepsOf p x s y) := by
  intro t ht
  simp only [stepsOf, List.mem_append, List.mem_map, List.mem_reverse] at ht
  rcases ht with ((⟨n, hn, rfl⟩ | ⟨n, hn, rfl⟩) | ⟨n, hn, rfl⟩) | ⟨n, hn, rfl⟩
  · exact hp n hn
  · exact hx n hn
  · exact hs n hn
  · exact hy n hn
theorem NnS_rep {ss : List Stp} {e : Nat} (h : NnS ss) : NnS (List.replicate e ss).flatten := by
  intro t ht
  obtain ⟨l, hl, h2⟩ := List.mem_flatten.mp ht
  rw [(List.mem_replicate.mp hl).2] at h2
  exact h t h2
theorem stepsOf_len {p x s y : List Int} : (stepsOf p x s y).length = p.length + x.length + s.length + y.length := by
  simp [stepsOf]; omega
end DL

namespace Pg
open PySem L2 DL
def b_is_integer : M Fl := (mRet (mAndV (mCb (dIsi tbG) (mCons (mSlot 0) (mCons (mV (mPure (.ty "int"))) mNil))) (mNotV (mV (mCb (dIsi tbG) (mCons (mSlot 0) (mCons (mV (mPure (.ty "bool"))) mNil)))))))
def m_is_integer : List D → RD := mDef 1 [] Pg.b_is_integer
def b_is_item : M Fl := (mRet (mAndV (mCall 1 [] Pg.m_is_integer (mCons (mV (mVar 0)) mNil)) (mOp dGe (mSlot 0) (mV (mPure (.int 0))))))
def m_is_item : List D → RD := mDef 1 [] Pg.b_is_item
def b_is_row : M Fl := (mRet (mAndV (mCb (dIsi tbG) (mCons (mSlot 0) (mCons (mV (mPure (.ty "list"))) mNil))) (mCb dAll (mCons (mV (mLc [1] (mItems (mVar 0)) (mTg1 1) (mPure true) (mCall 1 [] Pg.m_is_item (mCons (mV (mVar 1)) mNil)))) mNil))))
def m_is_row : List D → RD := mDef 2 [] Pg.b_is_row
def b_is_long : M Fl := (mRet (mAndV (mCb (dIsi tbG) (mCons (mSlot 0) (mCons (mV (mPure (.ty "tuple"))) mNil))) (mAndV (mOp dEq (mV (mCb dLen (mCons (mSlot 0) mNil))) (mV (mPure (.int 4)))) (mCb dAll (mCons (mV (mLc [1] (mItems (mVar 0)) (mTg1 1) (mPure true) (mCall 1 [] Pg.m_is_row (mCons (mV (mVar 1)) mNil)))) mNil)))))
def m_is_long : List D → RD := mDef 2 [] Pg.b_is_long
def b_is_within : M Fl := (mRet (mAndV (mCall 1 [] Pg.m_is_integer (mCons (mV (mVar 0)) mNil)) (mChain dLe dLe (mSlot 1) (mSlot 0) (mSlot 2))))
def m_is_within : List D → RD := mDef 3 [] Pg.b_is_within
def x_outer_power_1 : M Fl := (mIte (mBl (mOp dEq (mSlot 2) (mV (mPure (.int 0))))) (mRet (mTup (mCons (mV (mLst mNil)) (mCons (mV (mLst mNil)) (mCons (mV (mLst mNil)) (mCons (mV (mPure (.int 0))) (mCons (mV (mPure (.int 0))) mNil))))))) mNx)
def x_outer_power_2 : M Fl := (mIte (mBl (mOp dEq (mSlot 0) (mSlot 1))) (mRet (mTup (mCons (mV (mVar 0)) (mCons (mV (mVar 1)) (mCons (mV (mLst mNil)) (mCons (mV (mPure (.int 0))) (mCons (mV (mPure (.int 0))) mNil))))))) mNx)
def x_outer_power_3 : M Fl := (mIte (mBl (mOp dEq (mV (mCut dCut (mSlot 1) (mPure none) (mPart (mV (mCb dLen (mCons (mSlot 0) mNil)))))) (mSlot 0))) (mRet (mTup (mCons (mV (mVar 0)) (mCons (mV (mVar 0)) (mCons (mV (mCut dCut (mSlot 1) (mPart (mV (mCb dLen (mCons (mSlot 0) mNil)))) (mPure none))) (mCons (mV (mPure (.int 0))) (mCons (mV (mVar 2)) mNil))))))) mNx)
def x_outer_power_4 : M Fl := (mIte (mBl (mOp dEq (mV (mCut dCut (mSlot 0) (mPure none) (mPart (mV (mCb dLen (mCons (mSlot 1) mNil)))))) (mSlot 1))) (mRet (mTup (mCons (mV (mVar 1)) (mCons (mV (mVar 1)) (mCons (mV (mCut dCut (mSlot 0) (mPart (mV (mCb dLen (mCons (mSlot 1) mNil)))) (mPure none))) (mCons (mV (mVar 2)) (mCons (mV (mPure (.int 0))) mNil))))))) mNx)
def b_outer_power : M Fl := (mSeq Pg.x_outer_power_1
  (mSeq Pg.x_outer_power_2
  (mSeq Pg.x_outer_power_3
  (mSeq Pg.x_outer_power_4
  (mRet (mIte (mBl (mOp dEq (mSlot 2) (mV (mPure (.int 1))))) (mTup (mCons (mV (mVar 0)) (mCons (mV (mVar 1)) (mCons (mV (mLst mNil)) (mCons (mV (mPure (.int 0))) (mCons (mV (mPure (.int 0))) mNil)))))) (mPure .non)))))))
def m_outer_power : List D → RD := mDef 3 [] Pg.b_outer_power
def x_long_power_1 : M Fl := (mIte (mAnd (mBl (mOp dIsNot (mSlot 0) (mV (mPure .non)))) (mNot (mTru (mV (mCall 1 [] Pg.m_is_long (mCons (mV (mVar 0)) mNil)))))) (mRaise "InvalidLong" (mCons (mV (mVar 0)) mNil)) mNx)
def x_long_power_2 : M Fl := (mIte (mNot (mTru (mV (mCall 3 [] Pg.m_is_within (mCons (mV (mVar 1)) (mCons (mV (mPure (.int 0))) (mCons (mV (mPure (.int 1000000000000000000000000000000))) mNil))))))) (mRaise "InvalidNumber" (mCons (mV (mVar 1)) mNil)) mNx)
def x_long_power_3 : M Fl := (mIte (mOr (mBl (mOp dIs (mSlot 6) (mV (mPure .non)))) (mBl (mOp dIs (mSlot 7) (mV (mPure .non))))) (mRet (mPure .non)) mNx)
def b_long_power : M Fl := (mScR Pg.x_long_power_1
  (mScR Pg.x_long_power_2
  (mIfNw (mBl (mOp dIs (mSlot 0) (mV (mPure .non)))) (mIte (mBl (mOp dGt (mSlot 1) (mV (mPure (.int 0))))) (mPure .non) (mTup (mCons (mV (mCall 3 [] Pg.m_outer_power (mCons (mV (mLst mNil)) (mCons (mV (mLst mNil)) (mCons (mV (mPure (.int 0))) mNil))))) (mCons (mV (mCall 3 [] Pg.m_outer_power (mCons (mV (mLst mNil)) (mCons (mV (mLst mNil)) (mCons (mV (mPure (.int 0))) mNil))))) mNil))))
  (mScR (mAsg (mTgT [(mTg1 2), (mTg1 3), (mTg1 4), (mTg1 5)]) (mVar 0))
  (mSetNw2 6 7 (mCallNw Pg.m_outer_power (mCb dListN (mCons (mSlot 2) mNil)) (mCb dListN (mCons (mSlot 3) mNil)) (mVar 1)) (mCallNw Pg.m_outer_power (mUn dRev (mSlot 4)) (mUn dRev (mSlot 5)) (mVar 1))
  (mSeq Pg.x_long_power_3
  (mSeq (mAsg (mTgT [(mTg1 8), (mTg1 9), (mTg1 10), (mTg1 11), (mTg1 12)]) (mVar 6))
  (mRet (mTup (mCons (mV (mTup (mCons (mV (mCb dListN (mCons (mSlot 8) mNil))) (mCons (mV (mCb dListN (mCons (mSlot 9) mNil))) (mCons (mV (mVar 10)) (mCons (mV (mVar 11)) (mCons (mV (mVar 12)) mNil))))))) (mCons (mV (mTup (mCons (mV (mUn dRev (mV (mOp dIx (mSlot 7) (mV (mPure (.int 0))))))) (mCons (mV (mUn dRev (mV (mOp dIx (mSlot 7) (mV (mPure (.int 1))))))) (mCons (mV (mUn dRev (mV (mOp dIx (mSlot 7) (mV (mPure (.int 2))))))) (mCons (mV (mOp dIx (mSlot 7) (mV (mPure (.int 3))))) (mCons (mV (mOp dIx (mSlot 7) (mV (mPure (.int 4))))) mNil))))))) mNil)))))))))))
def m_long_power : List D → RD := mDefR 13 Pg.b_long_power
end Pg
namespace Tk37
open PySem L2 DL DLE PySem.Spec PyProof.Rows
theorem d_lenX {G : Gc} : CaD G (rLenD G.K) dLen := fun Av H ds vs Q fr r q => .inl (d_len Av H ds vs Q fr r q)
def x__law_take_1 : M Fl := (mIte (mBl (mOp dGt (mV (mOp dIx (mSlot 0) (mV (mPure (.int 0))))) (mV (mPure (.int 0))))) (mSeq (mSet 2 (mOp dMod (mV (mOp dIx (mSlot 0) (mV (mPure (.int 0))))) (mSlot 1)))
  (mSeq (mSetIx 0 gSetL (mOp dDiv (mV (mOp dIx (mSlot 0) (mV (mPure (.int 0))))) (mSlot 1)) (mV (mPure (.int 0))))
  (mRetVar 2))) mNx)
def b__law_take : M Fl := (mSeq x__law_take_1
  (mSeq (mSetIx 0 gSetL (mOp dMod (mV (mOp dAdd (mV (mOp dMul (mV (mOp dIx (mSlot 0) (mV (mPure (.int 1))))) (mV (mPure (.int 48271))))) (mV (mPure (.int 11))))) (mV (mPure (.int 2147483647)))) (mV (mPure (.int 1))))
  (mRet (mOp dMod (mV (mOp dDiv (mV (mOp dMod (mV (mOp dMul (mV (mOp dIx (mSlot 0) (mV (mPure (.int 1))))) (mV (mOp dIx (mSlot 0) (mV (mPure (.int 1))))))) (mV (mPure (.int 2147483629))))) (mV (mPure (.int 64))))) (mSlot 1)))))
def m__law_take : List D → RD := mDef 3 [0] b__law_take
def b__law_word : M Fl := (mRetF (mLc [2] (mRng dRng1 (mCons (mV (mCall 2 [0] m__law_take (mCons (mSlot 0) (mCons (mV (mOp dAdd (mSlot 1) (mV (mPure (.int 1))))) mNil)))) mNil)) (mTg1 2) (mPure true) (mOp dAdd (mV (mPure (.int 1))) (mV (mCall 2 [0] m__law_take (mCons (mSlot 0) (mCons (mV (mPure (.int 3))) mNil)))))))
def m__law_word : List D → RD := mDef 3 [0] b__law_word
def b__law_pair : M Fl := (mSeq (mPut2 1 2 false false (mCall 2 [0] m__law_word (mCons (mSlot 0) (mCons (mV (mPure (.int 3))) mNil))) (mCall 2 [0] m__law_word (mCons (mSlot 0) (mCons (mV (mPure (.int 3))) mNil))))
  (mSeq (mSet 3 (mOp dIx (mV (mLst (mCons (mV (mOp dAdd (mSlot 1) (mSlot 2))) (mCons (mV (mCall 2 [0] m__law_word (mCons (mSlot 0) (mCons (mV (mPure (.int 4))) mNil)))) (mCons (mV (mCb dListN (mCons (mSlot 1) mNil))) mNil))))) (mV (mOp dIx (mV (mLst (mCons (mV (mPure (.int 0))) (mCons (mV (mPure (.int 0))) (mCons (mV (mPure (.int 0))) (mCons (mV (mPure (.int 1))) (mCons (mV (mPure (.int 2))) mNil))))))) (mV (mCall 2 [0] m__law_take (mCons (mSlot 0) (mCons (mV (mPure (.int 5))) mNil))))))))
  (mRetF (mStep (mV (mLst (mCons (mV (mVar 1)) (mCons (mV (mVar 3)) mNil)))) (mPart (mV (mOp dIx (mV (mLst (mCons (mV (mPure (.int 1))) (mCons (mV (mUn dNeg (mV (mPure (.int 1))))) mNil)))) (mV (mCall 2 [0] m__law_take (mCons (mSlot 0) (mCons (mV (mPure (.int 2))) mNil)))))))))))
def m__law_pair : List D → RD := mDef 4 [0] b__law_pair
def x__law_pool_1 : M Fl := (mIte (mBl (mOp dLt (mSlot 1) (mV (mCb dLen (mCons (mSlot 0) mNil))))) (mSet 2 (mOp dIx (mSlot 0) (mSlot 1))) mNx)
def b__law_pool : M Fl := (mSeq (mSet 2 (mPure (.int 0)))
  (mSeq x__law_pool_1
  (mSeq (mSet 3 (mCb dAbs (mCons (mSlot 2) mNil)))
  (mSeq (mSet 4 (mOp dMod (mV (mOp dMul (mV (mOp dAdd (mV (mOp dAdd (mV (mOp dMod (mSlot 3) (mV (mPure (.int 2147483629))))) (mV (mOp dMul (mV (mOp dMul (mV (mPure (.int 7919))) (mSlot 1))) (mSlot 1))))) (mV (mPure (.int 13))))) (mV (mPure (.int 48271))))) (mV (mPure (.int 2147483647)))))
  (mRetF (mLst (mCons (mV (mOp dMul (mSlot 3) (mV (mCb dInt (mCons (mV (mOp dGe (mSlot 3) (mV (mOp dPow (mV (mPure (.int 10))) (mV (mPure (.int 18))))))) mNil))))) (mCons (mV (mVar 4)) mNil))))))))
def m__law_pool : List D → RD := mDef 5 [] b__law_pool
def x__law_raised_1 : M Fl := (mIte (mBl (mOp dEq (mSlot 2) (mV (mPure (.int 0))))) (mRet (mTup (mCons (mV (mLst mNil)) (mCons (mV (mLst mNil)) (mCons (mV (mLst mNil)) (mCons (mV (mPure (.int 0))) (mCons (mV (mPure (.int 0))) mNil))))))) mNx)
def x__law_raised_2 : M Fl := (mIte (mBl (mOp dEq (mSlot 0) (mSlot 1))) (mRet (mTup (mCons (mV (mVar 0)) (mCons (mV (mVar 1)) (mCons (mV (mLst mNil)) (mCons (mV (mPure (.int 0))) (mCons (mV (mPure (.int 0))) mNil))))))) mNx)
def x__law_raised_3 : M Fl := (mIte (mBl (mOp dEq (mV (mCut dCut (mSlot 1) (mPure none) (mPart (mV (mCb dLen (mCons (mSlot 0) mNil)))))) (mSlot 0))) (mRet (mTup (mCons (mV (mVar 0)) (mCons (mV (mVar 0)) (mCons (mV (mCut dCut (mSlot 1) (mPart (mV (mCb dLen (mCons (mSlot 0) mNil)))) (mPure none))) (mCons (mV (mPure (.int 0))) (mCons (mV (mVar 2)) mNil))))))) mNx)
def x__law_raised_4 : M Fl := (mIte (mBl (mOp dEq (mV (mCut dCut (mSlot 0) (mPure none) (mPart (mV (mCb dLen (mCons (mSlot 1) mNil)))))) (mSlot 1))) (mRet (mTup (mCons (mV (mVar 1)) (mCons (mV (mVar 1)) (mCons (mV (mCut dCut (mSlot 0) (mPart (mV (mCb dLen (mCons (mSlot 1) mNil)))) (mPure none))) (mCons (mV (mVar 2)) (mCons (mV (mPure (.int 0))) mNil))))))) mNx)
def b__law_raised : M Fl := (mSeq x__law_raised_1
  (mSeq x__law_raised_2
  (mSeq x__law_raised_3
  (mSeq x__law_raised_4
  (mRet (mIte (mBl (mOp dEq (mSlot 2) (mV (mPure (.int 1))))) (mTup (mCons (mV (mVar 0)) (mCons (mV (mVar 1)) (mCons (mV (mLst mNil)) (mCons (mV (mPure (.int 0))) (mCons (mV (mPure (.int 0))) mNil)))))) (mPure .non)))))))
def m__law_raised : List D → RD := mDef 3 [] b__law_raised
def x_law_1 : M Fl := (mIte (mAnd (mBl (mOp dIsNot (mSlot 8) (mV (mPure .non)))) (mBl (mOp dIsNot (mSlot 9) (mV (mPure .non))))) (mSeq (mSet 11 (mLc [13] (mItems (mCut dCut (mSlot 9) (mPure none) (mPart (mV (mPure (.int 3)))))) (mTg1 13) (mPure true) (mUn dRev (mSlot 13))))
  (mSet 10 (mTup (mCons (mV (mVar 8)) (mCons (mV (mTup (mCons (mV (mOp dIx (mSlot 11) (mV (mPure (.int 0))))) (mCons (mV (mOp dIx (mSlot 11) (mV (mPure (.int 1))))) (mCons (mV (mOp dIx (mSlot 11) (mV (mPure (.int 2))))) (mCons (mV (mOp dIx (mSlot 9) (mV (mPure (.int 3))))) (mCons (mV (mOp dIx (mSlot 9) (mV (mPure (.int 4))))) mNil))))))) mNil))))) mNx)
def x_law_2 : M Fl := (mIte (mBl (mOp dNe (mV (mCb dReprX (mCons (mV (mCall 2 [] Pg.m_long_power (mCons (mV (mVar 6)) (mCons (mV (mVar 7)) mNil)))) mNil))) (mV (mCb dReprX (mCons (mSlot 10) mNil))))) (mRet (mPure (.bl false))) mNx)
def x_law_3 : M Fl := (mIte (mBl (mOp dNe (mV (mCb dReprX (mCons (mV (mCall 2 [] Pg.m_long_power (mCons (mV (mPure .non)) (mCons (mV (mVar 7)) mNil)))) mNil))) (mV (mCb dReprX (mCons (mV (mIte (mBl (mOp dEq (mSlot 7) (mV (mPure (.int 0))))) (mTup (mCons (mV (mVar 1)) (mCons (mV (mVar 1)) mNil))) (mPure .non))) mNil))))) (mRet (mPure (.bl false))) mNx)
def x_law_4 : M Fl := (mForE (mItems (mLst (mCons (mV (mPure (.int 0))) (mCons (mV (mPure (.int 1))) (mCons (mV (mPure (.int 2))) (mCons (mV (mPure (.int 3))) (mCons (mV (mCall 2 [0] m__law_take (mCons (mSlot 3) (mCons (mV (mOp dPow (mV (mPure (.int 10))) (mV (mPure (.int 12))))) mNil)))) (mCons (mV (mOp dPow (mV (mCall 2 [0] m__law_take (mCons (mSlot 3) (mCons (mV (mOp dPow (mV (mPure (.int 10))) (mV (mPure (.int 15))))) mNil)))) (mV (mPure (.int 2))))) (mCons (mV (mOp dPow (mV (mPure (.int 10))) (mV (mPure (.int 30))))) mNil))))))))) (mTg1 7) (mSeq (mSet 8 (mCall 3 [] m__law_raised (mCons (mV (mOp dIx (mSlot 4) (mV (mPure (.int 0))))) (mCons (mV (mOp dIx (mSlot 4) (mV (mPure (.int 1))))) (mCons (mV (mVar 7)) mNil)))))
  (mSeq (mSet 9 (mCall 3 [] m__law_raised (mCons (mV (mOp dIx (mSlot 5) (mV (mPure (.int 0))))) (mCons (mV (mOp dIx (mSlot 5) (mV (mPure (.int 1))))) (mCons (mV (mVar 7)) mNil)))))
  (mSeq (mSet 10 (mPure .non))
  (mSeq x_law_1
  (mWreckP 12 13 [(0, 0), (0, 1), (0, 2), (1, 0), (1, 1), (1, 2)] (mCall 2 [] Pg.m_long_power (mCons (mV (mVar 6)) (mCons (mV (mVar 7)) mNil))) (mBl (mOp dNe (mV (mCb dReprX (mCons (mSlot 12) mNil))) (mV (mCb dReprX (mCons (mSlot 10) mNil))))) (mBl (mOp dIsNot (mSlot 12) (mV (mPure .non)))) x_law_2
  x_law_3))))))
def x_law_5 : M Fl := (mForE (mRng dRng1 (mCons (mV (mCb dMax (mCons (mV (mPure (.int 1))) (mCons (mV (mCb dMin (mCons (mV (mPure (.int 6))) (mCons (mV (mCb dLen (mCons (mSlot 0) mNil))) mNil)))) mNil)))) mNil)) (mTg1 2) (mSeq (mSetO 3 (mCallN 2 [] m__law_pool (mCons (mV (mVar 0)) (mCons (mV (mVar 2)) mNil))))
  (mSeq (mPut2 4 5 false false (mCall 1 [0] m__law_pair (mCons (mSlot 3) mNil)) (mCall 1 [0] m__law_pair (mCons (mSlot 3) mNil)))
  (mSeq (mSet 6 (mTup (mCons (mV (mOp dIx (mSlot 4) (mV (mPure (.int 0))))) (mCons (mV (mOp dIx (mSlot 4) (mV (mPure (.int 1))))) (mCons (mV (mUn dRev (mV (mOp dIx (mSlot 5) (mV (mPure (.int 0))))))) (mCons (mV (mUn dRev (mV (mOp dIx (mSlot 5) (mV (mPure (.int 1))))))) mNil))))))
  x_law_4))))
def b_law : M Fl := (mSeq (mSet 1 (mTup (mCons (mV (mLst mNil)) (mCons (mV (mLst mNil)) (mCons (mV (mLst mNil)) (mCons (mV (mPure (.int 0))) (mCons (mV (mPure (.int 0))) mNil)))))))
  (mSeq x_law_5
  (mRet (mPure (.bl true)))))
def m_law : List D → RD := mDef 14 [] b_law
def tops (i : Nat) : Stmt := PySem.Challenge.pw_dequeeffect_k37_great_long_powers.main.body.getD i (.Pass ⟨0, 0, 0, 0⟩)
abbrev s__law_take : Stmt := (tops 17)
theorem sc__law_take : FnScope ["_law_pool_here", "_law_many", "_law_found"] ["_law_pool_here", "_law_many"] (defScope s__law_take) := ⟨rfl, rfl, rfl, by decide +kernel, rfl, by decide +kernel, by decide +kernel⟩
theorem wk__law_take {P : Program} {w : World} {K : PySem.W.Frag} {mg : Str → Option Value} {base : Heap} {T : List (Addr × Str)} (B : Bn mg) (TB : TbOk ⟨K, mg, T⟩ tbG) (F : FnAt K mg "_law_take" "_law_take" s__law_take ["_law_pool_here", "_law_many"])  : CallD P w K mg base T "_law_take" 1 ["_law_pool_here", "_law_many"] [0] m__law_take :=
  dfn_mk F sc__law_take fun f cd A outer s H E H0 A0 ios W o hio =>
  (db_cons (ds_if (dt_cmp op_gt (d_cmp _) (DE.o (de_ixR ix_seq d_ix (do_slot rfl (.inl (by rfl))) (DE.o de_int) (fun _ _ => rfl))) (DE.o de_int) (by rfl)) (db_cons (ds_set (nio hio (by decide)) o.nd rfl (.inl (by rfl)) (de_op op_mod d_mod (DE.o (de_ixR ix_seq d_ix (do_slot rfl (.inl (by rfl))) (DE.o de_int) (fun _ _ => rfl))) (do_slot rfl (.inl (by rfl)))))
  (db_cons (ds_setIx set_list set_listD rfl (.inl (by rfl)) (de_op op_fdivW d_div (DE.o (de_ixR ix_seq d_ix (do_slot rfl (.inl (by rfl))) (DE.o de_int) (fun _ _ => rfl))) (do_slot rfl (.inl (by rfl)))) (DE.o de_int))
  (db_one (ds_retVar (nio hio (by decide)) rfl (.inl (by rfl)))))) db_nil)
  (db_cons (ds_setIx set_list set_listD rfl (.inl (by rfl)) (de_op op_mod d_mod (DE.o (de_op op_addD d_add (DE.o (de_op op_mulD d_mul (DE.o (de_ixR ix_seq d_ix (do_slot rfl (.inl (by rfl))) (DE.o de_int) (fun _ _ => rfl))) (DE.o de_int))) (DE.o de_int))) (DE.o de_int)) (DE.o de_int))
  (db_one (ds_ret (de_op op_mod d_mod (DE.o (de_op op_fdivW d_div (DE.o (de_op op_mod d_mod (DE.o (de_op op_mulD d_mul (DE.o (de_ixR ix_seq d_ix (do_slot rfl (.inl (by rfl))) (DE.o de_int) (fun _ _ => rfl))) (DE.o (de_ixR ix_seq d_ix (do_slot rfl (.inl (by rfl))) (DE.o de_int) (fun _ _ => rfl))))) (DE.o de_int))) (DE.o de_int))) (do_slot rfl (.inl (by rfl))))))))
abbrev s__law_word : Stmt := (tops 18)
theorem sc__law_word : FnScope ["_law_pool_here", "_law_most", "_law_turn"] ["_law_pool_here", "_law_most"] (defScope s__law_word) := ⟨rfl, rfl, rfl, by decide +kernel, rfl, by decide +kernel, by decide +kernel⟩
theorem wk__law_word {P : Program} {w : World} {K : PySem.W.Frag} {mg : Str → Option Value} {base : Heap} {T : List (Addr × Str)} (B : Bn mg) (TB : TbOk ⟨K, mg, T⟩ tbG) (F : FnAt K mg "_law_word" "_law_word" s__law_word ["_law_pool_here", "_law_most"]) (c__law_take : CallD P w K mg base T "_law_take" 1 ["_law_pool_here", "_law_many"] [0] m__law_take) : CallD P w K mg base T "_law_word" 2 ["_law_pool_here", "_law_most"] [0] m__law_word :=
  dfn_mk F sc__law_word fun f cd A outer s H E H0 A0 ios W o hio =>
  (db_one (ds_retF (df_lc (own := [("_law_turn", 2)]) rfl o.nd (nios hio (by decide)) (by decide) (di_rng1 (by rfl) B.range (da_cons (DE.o (de_own (ps := ["_law_pool_here", "_law_many"]) c__law_take o (by decide) (by rfl) (da_cons (do_slot rfl (.inr (.inl (by rfl)))) (da_cons (DE.o (de_op op_addD d_add (do_slot rfl (.inl (by rfl))) (DE.o de_int))) da_nil)))) da_nil)) (blkOk_by (N := ["_law_pool_here", "_law_most", "_law_turn"]) (sc := defScope s__law_word) (by decide +kernel)) (fun s1 H1 C1 cl1 fp1 => (dg_name (nio hio (by decide)) (o.blk s1 H1 _ _ fp1).nd rfl (.inl (by rfl)))) (fun s1 H1 C1 cl1 fp1 => dts_nil) (fun s1 H1 C1 cl1 fp1 => (de_op op_addD d_add (DE.o de_int) (DE.o (de_own (ps := ["_law_pool_here", "_law_many"]) c__law_take (o.blk s1 H1 _ _ fp1) (by decide) (by rfl) (da_cons (do_slot rfl (.inr (.inl (by rfl)))) (da_cons (DE.o de_int) da_nil)))))))))
abbrev s__law_pair : Stmt := (tops 19)
theorem sc__law_pair : FnScope ["_law_pool_here", "_law_first", "_law_more", "_law_other"] ["_law_pool_here"] (defScope s__law_pair) := ⟨rfl, rfl, rfl, by decide +kernel, rfl, by decide +kernel, by decide +kernel⟩
theorem wk__law_pair {P : Program} {w : World} {K : PySem.W.Frag} {mg : Str → Option Value} {base : Heap} {T : List (Addr × Str)} (B : Bn mg) (TB : TbOk ⟨K, mg, T⟩ tbG) (F : FnAt K mg "_law_pair" "_law_pair" s__law_pair ["_law_pool_here"]) (c__law_take : CallD P w K mg base T "_law_take" 1 ["_law_pool_here", "_law_many"] [0] m__law_take) (c__law_word : CallD P w K mg base T "_law_word" 2 ["_law_pool_here", "_law_most"] [0] m__law_word) : CallD P w K mg base T "_law_pair" 3 ["_law_pool_here"] [0] m__law_pair :=
  dfn_mk F sc__law_pair fun f cd A outer s H E H0 A0 ios W o hio =>
  (db_cons (ds_par (nio hio (by decide)) (nio hio (by decide)) rfl o.nd rfl rfl (by decide) rfl rfl (DE.q (de_own (ps := ["_law_pool_here", "_law_most"]) c__law_word o (by decide) (by rfl) (da_cons (do_slot rfl (.inl (by rfl))) (da_cons (DE.o de_int) da_nil)))) (DE.q (de_own (ps := ["_law_pool_here", "_law_most"]) c__law_word o (by decide) (by rfl) (da_cons (do_slot rfl (.inl (by rfl))) (da_cons (DE.o de_int) da_nil)))) (by rfl))
  (db_cons (ds_set (nio hio (by decide)) o.nd rfl (.inl (by rfl)) (de_ixR ix_seq d_ix (DE.o (DF.de (df_lst (da_cons (DE.o (de_op op_addD d_add (do_slot rfl (.inl (by rfl))) (do_slot rfl (.inl (by rfl))))) (da_cons (DE.o (de_own (ps := ["_law_pool_here", "_law_most"]) c__law_word o (by decide) (by rfl) (da_cons (do_slot rfl (.inl (by rfl))) (da_cons (DE.o de_int) da_nil)))) (da_cons (DE.o (DF.de (df_callT call_list_of d_listN (by rfl) B.list bt_list (da_cons (do_slot rfl (.inl (by rfl))) da_nil)))) da_nil)))))) (DE.o (de_ixR ix_seq d_ix (DE.o (DF.de (df_lst (da_cons (DE.o de_int) (da_cons (DE.o de_int) (da_cons (DE.o de_int) (da_cons (DE.o de_int) (da_cons (DE.o de_int) da_nil)))))))) (DE.o (de_own (ps := ["_law_pool_here", "_law_many"]) c__law_take o (by decide) (by rfl) (da_cons (do_slot rfl (.inl (by rfl))) (da_cons (DE.o de_int) da_nil)))) (fun _ _ => rfl))) (fun _ _ => rfl)))
  (db_one (ds_retF (df_step o (DE.o (DF.de (df_lst (da_cons (DE.o (de_var (nio hio (by decide)) rfl (.inl (by rfl)))) (da_cons (DE.o (de_var (nio hio (by decide)) rfl (.inl (by rfl)))) da_nil))))) (dp_some (DE.o (de_ixR ix_seq d_ix (DE.o (DF.de (df_lst (da_cons (DE.o de_int) (da_cons (DE.o (de_un un_neg d_neg (DE.o de_int))) da_nil))))) (DE.o (de_own (ps := ["_law_pool_here", "_law_many"]) c__law_take o (by decide) (by rfl) (da_cons (do_slot rfl (.inl (by rfl))) (da_cons (DE.o de_int) da_nil)))) (fun _ _ => rfl)))))))))
abbrev s__law_pool : Stmt := (tops 16)
theorem sc__law_pool : FnScope ["_law_script", "_law_k", "_law_cell", "_law_whole", "_law_seed"] ["_law_script", "_law_k"] (defScope s__law_pool) := ⟨rfl, rfl, rfl, by decide +kernel, rfl, by decide +kernel, by decide +kernel⟩
theorem wk__law_pool {P : Program} {w : World} {K : PySem.W.Frag} {mg : Str → Option Value} {base : Heap} {T : List (Addr × Str)} (B : Bn mg) (TB : TbOk ⟨K, mg, T⟩ tbG) (F : FnAt K mg "_law_pool" "_law_pool" s__law_pool ["_law_script", "_law_k"])  : CallD P w K mg base T "_law_pool" 1 ["_law_script", "_law_k"] [] m__law_pool :=
  dfn_mk F sc__law_pool fun f cd A outer s H E H0 A0 ios W o hio =>
  (db_cons (ds_set (nio hio (by decide)) o.nd rfl (.inl (by rfl)) de_int)
  (db_cons (ds_if (dt_cmp op_lt (d_cmp _) (do_slot rfl (.inl (by rfl))) (DE.o (de_callB call_lenX d_lenX (by rfl) B.len bt_len (da_cons (do_slot rfl (.inl (by rfl))) da_nil))) (by rfl)) (db_one (ds_set (nio hio (by decide)) o.nd rfl (.inl (by rfl)) (de_ixR ix_seq d_ix (do_slot rfl (.inl (by rfl))) (do_slot rfl (.inl (by rfl))) (fun _ _ => rfl)))) db_nil)
  (db_cons (ds_set (nio hio (by decide)) o.nd rfl (.inl (by rfl)) (de_callB call_abs d_abs (by rfl) B.abs bt_abs (da_cons (do_slot rfl (.inl (by rfl))) da_nil)))
  (db_cons (ds_set (nio hio (by decide)) o.nd rfl (.inl (by rfl)) (de_op op_mod d_mod (DE.o (de_op op_mulD d_mul (DE.o (de_op op_addD d_add (DE.o (de_op op_addD d_add (DE.o (de_op op_mod d_mod (do_slot rfl (.inl (by rfl))) (DE.o de_int))) (DE.o (de_op op_mulD d_mul (DE.o (de_op op_mulD d_mul (DE.o de_int) (do_slot rfl (.inl (by rfl))))) (do_slot rfl (.inl (by rfl))))))) (DE.o de_int))) (DE.o de_int))) (DE.o de_int)))
  (db_one (ds_retF (df_lst (da_cons (DE.o (de_op op_mulD d_mul (do_slot rfl (.inl (by rfl))) (DE.o (de_callT call_int1 d_int (by rfl) B.int bt_int (da_cons (DE.o (de_cmp op_ge (d_cmp _) (do_slot rfl (.inl (by rfl))) (DE.o (de_op op_pow d_pow (DE.o de_int) (DE.o de_int))) (by rfl))) da_nil))))) (da_cons (DE.o (de_var (nio hio (by decide)) rfl (.inl (by rfl)))) da_nil)))))))))
abbrev s__law_raised : Stmt := (tops 20)
theorem sc__law_raised : FnScope ["_law_needed", "_law_given", "_law_exponent"] ["_law_needed", "_law_given", "_law_exponent"] (defScope s__law_raised) := ⟨rfl, rfl, rfl, by decide +kernel, rfl, by decide +kernel, by decide +kernel⟩
theorem wk__law_raised {P : Program} {w : World} {K : PySem.W.Frag} {mg : Str → Option Value} {base : Heap} {T : List (Addr × Str)} (B : Bn mg) (TB : TbOk ⟨K, mg, T⟩ tbG) (F : FnAt K mg "_law_raised" "_law_raised" s__law_raised ["_law_needed", "_law_given", "_law_exponent"])  : CallD P w K mg base T "_law_raised" 1 ["_law_needed", "_law_given", "_law_exponent"] [] m__law_raised :=
  dfn_mk F sc__law_raised fun f cd A outer s H E H0 A0 ios W o hio =>
  (db_cons (ds_if (dt_cmp (op_eqX o.units) d_eq (do_slot rfl (.inl (by rfl))) (DE.o de_int) (by rfl)) (db_one (ds_ret (de_tup (da_cons (DE.o (DF.de (df_lst da_nil))) (da_cons (DE.o (DF.de (df_lst da_nil))) (da_cons (DE.o (DF.de (df_lst da_nil))) (da_cons (DE.o de_int) (da_cons (DE.o de_int) da_nil)))))))) db_nil)
  (db_cons (ds_if (dt_cmp (op_eqX o.units) d_eq (do_slot rfl (.inl (by rfl))) (do_slot rfl (.inl (by rfl))) (by rfl)) (db_one (ds_ret (de_tup (da_cons (DE.o (de_var (nio hio (by decide)) rfl (.inl (by rfl)))) (da_cons (DE.o (de_var (nio hio (by decide)) rfl (.inl (by rfl)))) (da_cons (DE.o (DF.de (df_lst da_nil))) (da_cons (DE.o de_int) (da_cons (DE.o de_int) da_nil)))))))) db_nil)
  (db_cons (ds_if (dt_cmp (op_eqX o.units) d_eq (DE.o (de_slice sl_all d_cut (do_slot rfl (.inl (by rfl))) dp_none (dp_some (DE.o (de_callB call_lenX d_lenX (by rfl) B.len bt_len (da_cons (do_slot rfl (.inl (by rfl))) da_nil)))))) (do_slot rfl (.inl (by rfl))) (by rfl)) (db_one (ds_ret (de_tup (da_cons (DE.o (de_var (nio hio (by decide)) rfl (.inl (by rfl)))) (da_cons (DE.o (de_var (nio hio (by decide)) rfl (.inl (by rfl)))) (da_cons (DE.o (de_slice sl_all d_cut (do_slot rfl (.inl (by rfl))) (dp_some (DE.o (de_callB call_lenX d_lenX (by rfl) B.len bt_len (da_cons (do_slot rfl (.inl (by rfl))) da_nil)))) dp_none)) (da_cons (DE.o de_int) (da_cons (DE.o (de_var (nio hio (by decide)) rfl (.inl (by rfl)))) da_nil)))))))) db_nil)
  (db_cons (ds_if (dt_cmp (op_eqX o.units) d_eq (DE.o (de_slice sl_all d_cut (do_slot rfl (.inl (by rfl))) dp_none (dp_some (DE.o (de_callB call_lenX d_lenX (by rfl) B.len bt_len (da_cons (do_slot rfl (.inl (by rfl))) da_nil)))))) (do_slot rfl (.inl (by rfl))) (by rfl)) (db_one (ds_ret (de_tup (da_cons (DE.o (de_var (nio hio (by decide)) rfl (.inl (by rfl)))) (da_cons (DE.o (de_var (nio hio (by decide)) rfl (.inl (by rfl)))) (da_cons (DE.o (de_slice sl_all d_cut (do_slot rfl (.inl (by rfl))) (dp_some (DE.o (de_callB call_lenX d_lenX (by rfl) B.len bt_len (da_cons (do_slot rfl (.inl (by rfl))) da_nil)))) dp_none)) (da_cons (DE.o (de_var (nio hio (by decide)) rfl (.inl (by rfl)))) (da_cons (DE.o de_int) da_nil)))))))) db_nil)
  (db_one (ds_ret (de_ite (dt_cmp (op_eqX o.units) d_eq (do_slot rfl (.inl (by rfl))) (DE.o de_int) (by rfl)) (de_tup (da_cons (DE.o (de_var (nio hio (by decide)) rfl (.inl (by rfl)))) (da_cons (DE.o (de_var (nio hio (by decide)) rfl (.inl (by rfl)))) (da_cons (DE.o (DF.de (df_lst da_nil))) (da_cons (DE.o de_int) (da_cons (DE.o de_int) da_nil)))))) de_non)))))))
abbrev s_is_integer : Stmt := (tops 5)
theorem sc_is_integer : FnScope ["thing"] ["thing"] (defScope s_is_integer) := ⟨rfl, rfl, rfl, by decide +kernel, rfl, by decide +kernel, by decide +kernel⟩
theorem wk_is_integer {P : Program} {w : World} {K : PySem.W.Frag} {mg : Str → Option Value} {base : Heap} {T : List (Addr × Str)} (B : Bn mg) (TB : TbOk ⟨K, mg, T⟩ tbG) (F : FnAt K mg "is_integer" "is_integer" s_is_integer ["thing"])  : CallD P w K mg base T "is_integer" 1 ["thing"] [] Pg.m_is_integer :=
  dfn_mk F sc_is_integer fun f cd A outer s H E H0 A0 ios W o hio =>
  (db_one (ds_ret (de_and rfl (de_callB call_isiX (d_isi TB) (by rfl) B.isinstance bt_isinstance (da_cons (do_slot rfl (.inl (by rfl))) (da_cons (DE.o (de_ty (by rfl) B.int bt_int)) da_nil))) (de_one (de_not rfl (DE.o (de_callB call_isiX (d_isi TB) (by rfl) B.isinstance bt_isinstance (da_cons (do_slot rfl (.inl (by rfl))) (da_cons (DE.o (de_ty (by rfl) B.bool bt_bool)) da_nil)))))))))
abbrev s_is_item : Stmt := (tops 7)
theorem sc_is_item : FnScope ["thing"] ["thing"] (defScope s_is_item) := ⟨rfl, rfl, rfl, by decide +kernel, rfl, by decide +kernel, by decide +kernel⟩
theorem wk_is_item {P : Program} {w : World} {K : PySem.W.Frag} {mg : Str → Option Value} {base : Heap} {T : List (Addr × Str)} (B : Bn mg) (TB : TbOk ⟨K, mg, T⟩ tbG) (F : FnAt K mg "is_item" "is_item" s_is_item ["thing"]) (c_is_integer : CallD P w K mg base T "is_integer" 1 ["thing"] [] Pg.m_is_integer) : CallD P w K mg base T "is_item" 2 ["thing"] [] Pg.m_is_item :=
  dfn_mk F sc_is_item fun f cd A outer s H E H0 A0 ios W o hio =>
  (db_one (ds_ret (de_and rfl (de_own (ps := ["thing"]) c_is_integer o (by decide) (by rfl) (da_cons (DE.o (de_var (nio hio (by decide)) rfl (.inl (by rfl)))) da_nil)) (de_one (de_cmp op_ge (d_cmp _) (do_slot rfl (.inl (by rfl))) (DE.o de_int) (by rfl))))))
abbrev s_is_row : Stmt := (tops 8)
theorem sc_is_row : FnScope ["thing", "item"] ["thing"] (defScope s_is_row) := ⟨rfl, rfl, rfl, by decide +kernel, rfl, by decide +kernel, by decide +kernel⟩
theorem wk_is_row {P : Program} {w : World} {K : PySem.W.Frag} {mg : Str → Option Value} {base : Heap} {T : List (Addr × Str)} (B : Bn mg) (TB : TbOk ⟨K, mg, T⟩ tbG) (F : FnAt K mg "is_row" "is_row" s_is_row ["thing"]) (c_is_item : CallD P w K mg base T "is_item" 2 ["thing"] [] Pg.m_is_item) : CallD P w K mg base T "is_row" 3 ["thing"] [] Pg.m_is_row :=
  dfn_mk F sc_is_row fun f cd A outer s H E H0 A0 ios W o hio =>
  (db_one (ds_ret (de_and rfl (de_callB call_isiX (d_isi TB) (by rfl) B.isinstance bt_isinstance (da_cons (do_slot rfl (.inl (by rfl))) (da_cons (DE.o (de_ty (by rfl) B.list bt_list)) da_nil))) (de_one (de_callB (cr_all rfl) d_all (by rfl) B.all bt_all (da_cons (DE.o (DF.de (df_lc (own := [("item", 1)]) rfl o.nd (nios hio (by decide)) (by decide) (di_seq rfl (de_var (nio hio (by decide)) rfl (.inl (by rfl)))) (blkOk_by (N := ["thing", "item"]) (sc := defScope s_is_row) (by decide +kernel)) (fun s1 H1 C1 cl1 fp1 => (dg_name (nio hio (by decide)) (o.blk s1 H1 _ _ fp1).nd rfl (.inl (by rfl)))) (fun s1 H1 C1 cl1 fp1 => dts_nil) (fun s1 H1 C1 cl1 fp1 => (de_own (ps := ["thing"]) c_is_item (o.blk s1 H1 _ _ fp1) (by decide) (by rfl) (da_cons (DE.o (de_var (nio hio (by decide)) rfl (.inl (by rfl)))) da_nil)))))) da_nil))))))
abbrev s_is_long : Stmt := (tops 10)
theorem sc_is_long : FnScope ["thing", "part"] ["thing"] (defScope s_is_long) := ⟨rfl, rfl, rfl, by decide +kernel, rfl, by decide +kernel, by decide +kernel⟩
theorem wk_is_long {P : Program} {w : World} {K : PySem.W.Frag} {mg : Str → Option Value} {base : Heap} {T : List (Addr × Str)} (B : Bn mg) (TB : TbOk ⟨K, mg, T⟩ tbG) (F : FnAt K mg "is_long" "is_long" s_is_long ["thing"]) (c_is_row : CallD P w K mg base T "is_row" 3 ["thing"] [] Pg.m_is_row) : CallD P w K mg base T "is_long" 4 ["thing"] [] Pg.m_is_long :=
  dfn_mk F sc_is_long fun f cd A outer s H E H0 A0 ios W o hio =>
  (db_one (ds_ret (de_and rfl (de_callB call_isiX (d_isi TB) (by rfl) B.isinstance bt_isinstance (da_cons (do_slot rfl (.inl (by rfl))) (da_cons (DE.o (de_ty (by rfl) B.tuple bt_tuple)) da_nil))) (de_and rfl (de_cmp (op_eqX o.units) d_eq (DE.o (de_callB call_lenX d_lenX (by rfl) B.len bt_len (da_cons (do_slot rfl (.inl (by rfl))) da_nil))) (DE.o de_int) (by rfl)) (de_one (de_callB (cr_all rfl) d_all (by rfl) B.all bt_all (da_cons (DE.o (DF.de (df_lc (own := [("part", 1)]) rfl o.nd (nios hio (by decide)) (by decide) (di_seq rfl (de_var (nio hio (by decide)) rfl (.inl (by rfl)))) (blkOk_by (N := ["thing", "part"]) (sc := defScope s_is_long) (by decide +kernel)) (fun s1 H1 C1 cl1 fp1 => (dg_name (nio hio (by decide)) (o.blk s1 H1 _ _ fp1).nd rfl (.inl (by rfl)))) (fun s1 H1 C1 cl1 fp1 => dts_nil) (fun s1 H1 C1 cl1 fp1 => (de_own (ps := ["thing"]) c_is_row (o.blk s1 H1 _ _ fp1) (by decide) (by rfl) (da_cons (DE.o (de_var (nio hio (by decide)) rfl (.inl (by rfl)))) da_nil)))))) da_nil)))))))
abbrev s_is_within : Stmt := (tops 6)
theorem sc_is_within : FnScope ["thing", "least", "most"] ["thing", "least", "most"] (defScope s_is_within) := ⟨rfl, rfl, rfl, by decide +kernel, rfl, by decide +kernel, by decide +kernel⟩
theorem wk_is_within {P : Program} {w : World} {K : PySem.W.Frag} {mg : Str → Option Value} {base : Heap} {T : List (Addr × Str)} (B : Bn mg) (TB : TbOk ⟨K, mg, T⟩ tbG) (F : FnAt K mg "is_within" "is_within" s_is_within ["thing", "least", "most"]) (c_is_integer : CallD P w K mg base T "is_integer" 1 ["thing"] [] Pg.m_is_integer) : CallD P w K mg base T "is_within" 2 ["thing", "least", "most"] [] Pg.m_is_within :=
  dfn_mk F sc_is_within fun f cd A outer s H E H0 A0 ios W o hio =>
  (db_one (ds_ret (de_and rfl (de_own (ps := ["thing"]) c_is_integer o (by decide) (by rfl) (da_cons (DE.o (de_var (nio hio (by decide)) rfl (.inl (by rfl)))) da_nil)) (de_one (de_chain op_le op_le (d_cmp _) (d_cmp _) (do_slot rfl (.inl (by rfl))) (do_slot rfl (.inl (by rfl))) (do_slot rfl (.inl (by rfl))))))))
abbrev s_outer_power : Stmt := (tops 13)
theorem sc_outer_power : FnScope ["needed", "given", "exponent"] ["needed", "given", "exponent"] (defScope s_outer_power) := ⟨rfl, rfl, rfl, by decide +kernel, rfl, by decide +kernel, by decide +kernel⟩
theorem wk_outer_power {P : Program} {w : World} {K : PySem.W.Frag} {mg : Str → Option Value} {base : Heap} {T : List (Addr × Str)} (B : Bn mg) (TB : TbOk ⟨K, mg, T⟩ tbG) (F : FnAt K mg "outer_power" "outer_power" s_outer_power ["needed", "given", "exponent"])  : CallD P w K mg base T "outer_power" 1 ["needed", "given", "exponent"] [] Pg.m_outer_power :=
  dfn_mk F sc_outer_power fun f cd A outer s H E H0 A0 ios W o hio =>
  (db_cons (ds_if (dt_cmp (op_eqX o.units) d_eq (do_slot rfl (.inl (by rfl))) (DE.o de_int) (by rfl)) (db_one (ds_ret (de_tup (da_cons (DE.o (DF.de (df_lst da_nil))) (da_cons (DE.o (DF.de (df_lst da_nil))) (da_cons (DE.o (DF.de (df_lst da_nil))) (da_cons (DE.o de_int) (da_cons (DE.o de_int) da_nil)))))))) db_nil)
  (db_cons (ds_if (dt_cmp (op_eqX o.units) d_eq (do_slot rfl (.inl (by rfl))) (do_slot rfl (.inl (by rfl))) (by rfl)) (db_one (ds_ret (de_tup (da_cons (DE.o (de_var (nio hio (by decide)) rfl (.inl (by rfl)))) (da_cons (DE.o (de_var (nio hio (by decide)) rfl (.inl (by rfl)))) (da_cons (DE.o (DF.de (df_lst da_nil))) (da_cons (DE.o de_int) (da_cons (DE.o de_int) da_nil)))))))) db_nil)
  (db_cons (ds_if (dt_cmp (op_eqX o.units) d_eq (DE.o (de_slice sl_all d_cut (do_slot rfl (.inl (by rfl))) dp_none (dp_some (DE.o (de_callB call_lenX d_lenX (by rfl) B.len bt_len (da_cons (do_slot rfl (.inl (by rfl))) da_nil)))))) (do_slot rfl (.inl (by rfl))) (by rfl)) (db_one (ds_ret (de_tup (da_cons (DE.o (de_var (nio hio (by decide)) rfl (.inl (by rfl)))) (da_cons (DE.o (de_var (nio hio (by decide)) rfl (.inl (by rfl)))) (da_cons (DE.o (de_slice sl_all d_cut (do_slot rfl (.inl (by rfl))) (dp_some (DE.o (de_callB call_lenX d_lenX (by rfl) B.len bt_len (da_cons (do_slot rfl (.inl (by rfl))) da_nil)))) dp_none)) (da_cons (DE.o de_int) (da_cons (DE.o (de_var (nio hio (by decide)) rfl (.inl (by rfl)))) da_nil)))))))) db_nil)
  (db_cons (ds_if (dt_cmp (op_eqX o.units) d_eq (DE.o (de_slice sl_all d_cut (do_slot rfl (.inl (by rfl))) dp_none (dp_some (DE.o (de_callB call_lenX d_lenX (by rfl) B.len bt_len (da_cons (do_slot rfl (.inl (by rfl))) da_nil)))))) (do_slot rfl (.inl (by rfl))) (by rfl)) (db_one (ds_ret (de_tup (da_cons (DE.o (de_var (nio hio (by decide)) rfl (.inl (by rfl)))) (da_cons (DE.o (de_var (nio hio (by decide)) rfl (.inl (by rfl)))) (da_cons (DE.o (de_slice sl_all d_cut (do_slot rfl (.inl (by rfl))) (dp_some (DE.o (de_callB call_lenX d_lenX (by rfl) B.len bt_len (da_cons (do_slot rfl (.inl (by rfl))) da_nil)))) dp_none)) (da_cons (DE.o (de_var (nio hio (by decide)) rfl (.inl (by rfl)))) (da_cons (DE.o de_int) da_nil)))))))) db_nil)
  (db_one (ds_ret (de_ite (dt_cmp (op_eqX o.units) d_eq (do_slot rfl (.inl (by rfl))) (DE.o de_int) (by rfl)) (de_tup (da_cons (DE.o (de_var (nio hio (by decide)) rfl (.inl (by rfl)))) (da_cons (DE.o (de_var (nio hio (by decide)) rfl (.inl (by rfl)))) (da_cons (DE.o (DF.de (df_lst da_nil))) (da_cons (DE.o de_int) (da_cons (DE.o de_int) da_nil)))))) de_non)))))))
abbrev s_long_power : Stmt := (tops 14)
theorem sc_long_power : FnScope ["long", "exponent", "p", "x", "s", "y", "left", "right", "needed", "given", "extra", "at_needed", "at_given"] ["long", "exponent"] (defScope s_long_power) := ⟨rfl, rfl, rfl, by decide +kernel, rfl, by decide +kernel, by decide +kernel⟩
theorem wk_long_power {P : Program} {w : World} {K : PySem.W.Frag} {mg : Str → Option Value} {base : Heap} {T : List (Addr × Str)} (B : Bn mg) (TB : TbOk ⟨K, mg, T⟩ tbG) (F : FnAt K mg "long_power" "long_power" s_long_power ["long", "exponent"]) (c_is_long : CallD P w K mg base T "is_long" 4 ["thing"] [] Pg.m_is_long) (c_is_within : CallD P w K mg base T "is_within" 2 ["thing", "least", "most"] [] Pg.m_is_within) (c_outer_power : CallD P w K mg base T "outer_power" 1 ["needed", "given", "exponent"] [] Pg.m_outer_power) (gc_MOST_LONG_POWER : ∃ t, mg "MOST_LONG_POWER" = some (.int 1000000000000000000000000000000 t)) (ex_InvalidLong : ExD P w K mg base "InvalidLong") (ex_InvalidNumber : ExD P w K mg base "InvalidNumber") : CallR P w K mg base T "long_power" 5 ["long", "exponent"] Pg.m_long_power :=
  fnR_mk F sc_long_power fun f cd A outer s H E H0 A0 W o hio =>
  (dbr_cons rfl (ds_if (DW.t (dw_and (dt_cmp op_isNotD d_isNot (do_slot rfl (.inl (by rfl))) (DE.o de_non) (by rfl)) (dw_and1 (dt_not (dt_tru rfl (DE.o (de_own (ps := ["thing"]) c_is_long o (by decide) (by rfl) (da_cons (DE.o (de_var (nio hio (by decide)) rfl (.inl (by rfl)))) da_nil)))))))) (db_one (ds_raise ex_InvalidLong o (by decide) (by rfl) (da_cons (DE.o (de_var (nio hio (by decide)) rfl (.inl (by rfl)))) da_nil))) db_nil)
  (dbr_cons rfl (ds_if (dt_not (dt_tru rfl (DE.o (de_own (ps := ["thing", "least", "most"]) c_is_within o (by decide) (by rfl) (da_cons (DE.o (de_var (nio hio (by decide)) rfl (.inl (by rfl)))) (da_cons (DE.o de_int) (da_cons (DE.o (de_gint (by rfl) gc_MOST_LONG_POWER)) da_nil))))))) (db_one (ds_raise ex_InvalidNumber o (by decide) (by rfl) (da_cons (DE.o (de_var (nio hio (by decide)) rfl (.inl (by rfl)))) da_nil))) db_nil)
  (dbr_ifNw rfl (dt_cmp op_isD d_is (do_slot rfl (.inl (by rfl))) (DE.o de_non) (by rfl)) (de_ite (dt_cmp op_gt (d_cmp _) (do_slot rfl (.inl (by rfl))) (DE.o de_int) (by rfl)) de_non (de_tup (da_cons (DE.o (de_own (ps := ["needed", "given", "exponent"]) c_outer_power o.newC (by decide) (by rfl) (da_cons (DE.o (DF.de (df_lst da_nil))) (da_cons (DE.o (DF.de (df_lst da_nil))) (da_cons (DE.o de_int) da_nil))))) (da_cons (DE.o (de_own (ps := ["needed", "given", "exponent"]) c_outer_power o.newC (by decide) (by rfl) (da_cons (DE.o (DF.de (df_lst da_nil))) (da_cons (DE.o (DF.de (df_lst da_nil))) (da_cons (DE.o de_int) da_nil))))) da_nil))))
  (dbr_cons rfl (ds_asg (de_var (nio hio (by decide)) rfl (.inl (by rfl))) (dg_tup rfl (dgs_cons (dg_name (nio hio (by decide)) o.nd rfl (.inl (by rfl))) (dgs_cons (dg_name (nio hio (by decide)) o.nd rfl (.inl (by rfl))) (dgs_cons (dg_name (nio hio (by decide)) o.nd rfl (.inl (by rfl))) (dgs_cons (dg_name (nio hio (by decide)) o.nd rfl (.inl (by rfl))) dgs_nil))))))
  (dbr_set2 rfl o.nd rfl (.inl (by rfl)) rfl (.inl (by rfl)) (dnw_call rfl c_outer_power o (by decide) (by rfl) (df_callT call_list_of d_listN (by rfl) B.list bt_list (da_cons (do_slot rfl (.inl (by rfl))) da_nil)) (df_callT call_list_of d_listN (by rfl) B.list bt_list (da_cons (do_slot rfl (.inl (by rfl))) da_nil)) (de_var (nio hio (by decide)) rfl (.inl (by rfl)))) (dnw_call rfl c_outer_power o (by decide) (by rfl) (df_rev o (do_slot rfl (.inl (by rfl)))) (df_rev o (do_slot rfl (.inl (by rfl)))) (de_var (nio hio (by decide)) rfl (.inl (by rfl))))
  (db_cons (ds_if (DW.t (dw_or (dt_cmp op_isD d_is (do_slot rfl (.inl (by rfl))) (DE.o de_non) (by rfl)) (dw_or1 (dt_cmp op_isD d_is (do_slot rfl (.inl (by rfl))) (DE.o de_non) (by rfl))))) (db_one (ds_ret de_non)) db_nil)
  (db_cons (ds_asg (de_var (nio hio (by decide)) rfl (.inl (by rfl))) (dg_tup rfl (dgs_cons (dg_name (nio hio (by decide)) o.newC.nd rfl (.inl (by rfl))) (dgs_cons (dg_name (nio hio (by decide)) o.newC.nd rfl (.inl (by rfl))) (dgs_cons (dg_name (nio hio (by decide)) o.newC.nd rfl (.inl (by rfl))) (dgs_cons (dg_name (nio hio (by decide)) o.newC.nd rfl (.inl (by rfl))) (dgs_cons (dg_name (nio hio (by decide)) o.newC.nd rfl (.inl (by rfl))) dgs_nil)))))))
  (db_one (ds_ret (de_tup (da_cons (DE.o (de_tup (da_cons (DE.o (DF.de (df_callT call_list_of d_listN (by rfl) B.list bt_list (da_cons (do_slot rfl (.inl (by rfl))) da_nil)))) (da_cons (DE.o (DF.de (df_callT call_list_of d_listN (by rfl) B.list bt_list (da_cons (do_slot rfl (.inl (by rfl))) da_nil)))) (da_cons (DE.o (de_var (nio hio (by decide)) rfl (.inl (by rfl)))) (da_cons (DE.o (de_var (nio hio (by decide)) rfl (.inl (by rfl)))) (da_cons (DE.o (de_var (nio hio (by decide)) rfl (.inl (by rfl)))) da_nil))))))) (da_cons (DE.o (de_tup (da_cons (DE.o (DF.de (df_rev o.newC (DE.o (de_ixR ix_seq d_ix (do_slot rfl (.inl (by rfl))) (DE.o de_int) (fun _ _ => rfl)))))) (da_cons (DE.o (DF.de (df_rev o.newC (DE.o (de_ixR ix_seq d_ix (do_slot rfl (.inl (by rfl))) (DE.o de_int) (fun _ _ => rfl)))))) (da_cons (DE.o (DF.de (df_rev o.newC (DE.o (de_ixR ix_seq d_ix (do_slot rfl (.inl (by rfl))) (DE.o de_int) (fun _ _ => rfl)))))) (da_cons (DE.o (de_ixR ix_seq d_ix (do_slot rfl (.inl (by rfl))) (DE.o de_int) (fun _ _ => rfl))) (da_cons (DE.o (de_ixR ix_seq d_ix (do_slot rfl (.inl (by rfl))) (DE.o de_int) (fun _ _ => rfl))) da_nil))))))) da_nil))))))))))))
abbrev s_law : Stmt := (tops 21)
theorem sc_law : FnScope ["_law_script", "_law_nothing", "_law_k", "_law_pool_here", "_law_one", "_law_other", "_law_long", "_law_exponent", "_law_left", "_law_right", "_law_due", "_law_back", "_law_found", "_law_part"] ["_law_script"] (defScope s_law) := ⟨rfl, rfl, rfl, by decide +kernel, rfl, by decide +kernel, by decide +kernel⟩
theorem wk_law {P : Program} {w : World} {K : PySem.W.Frag} {mg : Str → Option Value} {base : Heap} {T : List (Addr × Str)} (B : Bn mg) (TB : TbOk ⟨K, mg, T⟩ tbG) {f : Addr} {fd : FuncData} (F : Fun K "law" "law" s_law f fd) (c__law_pair : CallD P w K mg base T "_law_pair" 3 ["_law_pool_here"] [0] m__law_pair) (c__law_pool : CallD P w K mg base T "_law_pool" 1 ["_law_script", "_law_k"] [] m__law_pool) (c__law_raised : CallD P w K mg base T "_law_raised" 1 ["_law_needed", "_law_given", "_law_exponent"] [] m__law_raised) (c__law_take : CallD P w K mg base T "_law_take" 1 ["_law_pool_here", "_law_many"] [0] m__law_take) (c_long_power : CallR P w K mg base T "long_power" 5 ["long", "exponent"] Pg.m_long_power) : DFn P w K mg base T 21 f fd ["_law_script"] [] m_law :=
  @dfn_body P w K mg base T "law" s_law ["_law_script", "_law_nothing", "_law_k", "_law_pool_here", "_law_one", "_law_other", "_law_long", "_law_exponent", "_law_left", "_law_right", "_law_due", "_law_back", "_law_found", "_law_part"] ["_law_script"] [] 20 b_law "law" f fd F sc_law (fun f cd A outer s H E H0 A0 ios W o hio =>
  (db_cons (ds_set (nio hio (by decide)) o.nd rfl (.inl (by rfl)) (de_tup (da_cons (DE.o (DF.de (df_lst da_nil))) (da_cons (DE.o (DF.de (df_lst da_nil))) (da_cons (DE.o (DF.de (df_lst da_nil))) (da_cons (DE.o de_int) (da_cons (DE.o de_int) da_nil)))))))
  (db_cons (ds_for o.pass rfl (di_rng1 (by rfl) B.range (da_cons (DE.o (de_callB (call_maxX rfl) d_max (by rfl) B.max bt_max (da_cons (DE.o de_int) (da_cons (DE.o (de_callB (call_minX rfl) d_min (by rfl) B.min bt_min (da_cons (DE.o de_int) (da_cons (DE.o (de_callB call_lenX d_lenX (by rfl) B.len bt_len (da_cons (do_slot rfl (.inl (by rfl))) da_nil))) da_nil)))) da_nil)))) da_nil)) (dg_name (nio hio (by decide)) o.nd rfl (.inl (by rfl))) (db_cons (ds_setO (nio hio (by decide)) o.nd rfl (.inl (by rfl)) (df_own (ps := ["_law_script", "_law_k"]) c__law_pool o (by decide) (by rfl) (da_cons (DE.o (de_var (nio hio (by decide)) rfl (.inl (by rfl)))) (da_cons (DE.o (de_var (nio hio (by decide)) rfl (.inl (by rfl)))) da_nil))))
  (db_cons (ds_par (nio hio (by decide)) (nio hio (by decide)) rfl o.nd rfl rfl (by decide) rfl rfl (DE.q (de_own (ps := ["_law_pool_here"]) c__law_pair o (by decide) (by rfl) (da_cons (do_slot rfl (.inl (by rfl))) da_nil))) (DE.q (de_own (ps := ["_law_pool_here"]) c__law_pair o (by decide) (by rfl) (da_cons (do_slot rfl (.inl (by rfl))) da_nil))) (by rfl))
  (db_cons (ds_set (nio hio (by decide)) o.nd rfl (.inl (by rfl)) (de_tup (da_cons (DE.o (de_ixR ix_seq d_ix (do_slot rfl (.inl (by rfl))) (DE.o de_int) (fun _ _ => rfl))) (da_cons (DE.o (de_ixR ix_seq d_ix (do_slot rfl (.inl (by rfl))) (DE.o de_int) (fun _ _ => rfl))) (da_cons (DE.o (DF.de (df_rev o (DE.o (de_ixR ix_seq d_ix (do_slot rfl (.inl (by rfl))) (DE.o de_int) (fun _ _ => rfl)))))) (da_cons (DE.o (DF.de (df_rev o (DE.o (de_ixR ix_seq d_ix (do_slot rfl (.inl (by rfl))) (DE.o de_int) (fun _ _ => rfl)))))) da_nil))))))
  (db_one (ds_for o.pass rfl (di_seq rfl (DF.de (df_lst (da_cons (DE.o de_int) (da_cons (DE.o de_int) (da_cons (DE.o de_int) (da_cons (DE.o de_int) (da_cons (DE.o (de_own (ps := ["_law_pool_here", "_law_many"]) c__law_take o (by decide) (by rfl) (da_cons (do_slot rfl (.inl (by rfl))) (da_cons (DE.o (de_op op_pow d_pow (DE.o de_int) (DE.o de_int))) da_nil)))) (da_cons (DE.o (de_op op_pow d_pow (DE.o (de_own (ps := ["_law_pool_here", "_law_many"]) c__law_take o (by decide) (by rfl) (da_cons (do_slot rfl (.inl (by rfl))) (da_cons (DE.o (de_op op_pow d_pow (DE.o de_int) (DE.o de_int))) da_nil)))) (DE.o de_int))) (da_cons (DE.o (de_op op_pow d_pow (DE.o de_int) (DE.o de_int))) da_nil)))))))))) (dg_name (nio hio (by decide)) o.nd rfl (.inl (by rfl))) (db_cons (ds_set (nio hio (by decide)) o.nd rfl (.inl (by rfl)) (de_own (ps := ["_law_needed", "_law_given", "_law_exponent"]) c__law_raised o (by decide) (by rfl) (da_cons (DE.o (de_ixR ix_seq d_ix (do_slot rfl (.inl (by rfl))) (DE.o de_int) (fun _ _ => rfl))) (da_cons (DE.o (de_ixR ix_seq d_ix (do_slot rfl (.inl (by rfl))) (DE.o de_int) (fun _ _ => rfl))) (da_cons (DE.o (de_var (nio hio (by decide)) rfl (.inl (by rfl)))) da_nil)))))
  (db_cons (ds_set (nio hio (by decide)) o.nd rfl (.inl (by rfl)) (de_own (ps := ["_law_needed", "_law_given", "_law_exponent"]) c__law_raised o (by decide) (by rfl) (da_cons (DE.o (de_ixR ix_seq d_ix (do_slot rfl (.inl (by rfl))) (DE.o de_int) (fun _ _ => rfl))) (da_cons (DE.o (de_ixR ix_seq d_ix (do_slot rfl (.inl (by rfl))) (DE.o de_int) (fun _ _ => rfl))) (da_cons (DE.o (de_var (nio hio (by decide)) rfl (.inl (by rfl)))) da_nil)))))
  (db_cons (ds_set (nio hio (by decide)) o.nd rfl (.inl (by rfl)) de_non)
  (db_cons (ds_if (DW.t (dw_and (dt_cmp op_isNotD d_isNot (do_slot rfl (.inl (by rfl))) (DE.o de_non) (by rfl)) (dw_and1 (dt_cmp op_isNotD d_isNot (do_slot rfl (.inl (by rfl))) (DE.o de_non) (by rfl))))) (db_cons (ds_setLc (own := [("_law_part", 13)]) (nio hio (by decide)) rfl o.nd (nios hio (by decide)) (by decide) rfl rfl (by rfl) (di_seq rfl (de_slice sl_all d_cut (do_slot rfl (.inl (by rfl))) dp_none (dp_some (DE.o de_int)))) (blkOk_by (N := ["_law_script", "_law_nothing", "_law_k", "_law_pool_here", "_law_one", "_law_other", "_law_long", "_law_exponent", "_law_left", "_law_right", "_law_due", "_law_back", "_law_found", "_law_part"]) (sc := defScope s_law) (by decide +kernel)) (fun s1 H1 C1 cl1 fp1 => (dg_name (nio hio (by decide)) (o.blk s1 H1 _ _ fp1).nd rfl (.inl (by rfl)))) (fun s1 H1 C1 cl1 fp1 => dts_nil) (fun s1 H1 C1 cl1 fp1 => (DF.de (df_rev (o.blk s1 H1 _ _ fp1) (do_slot rfl (.inl (by rfl)))))))
  (db_one (ds_set (nio hio (by decide)) o.nd rfl (.inl (by rfl)) (de_tup (da_cons (DE.o (de_var (nio hio (by decide)) rfl (.inl (by rfl)))) (da_cons (DE.o (de_tup (da_cons (DE.o (de_ixR ix_seq d_ix (do_slot rfl (.inl (by rfl))) (DE.o de_int) (fun _ _ => rfl))) (da_cons (DE.o (de_ixR ix_seq d_ix (do_slot rfl (.inl (by rfl))) (DE.o de_int) (fun _ _ => rfl))) (da_cons (DE.o (de_ixR ix_seq d_ix (do_slot rfl (.inl (by rfl))) (DE.o de_int) (fun _ _ => rfl))) (da_cons (DE.o (de_ixR ix_seq d_ix (do_slot rfl (.inl (by rfl))) (DE.o de_int) (fun _ _ => rfl))) (da_cons (DE.o (de_ixR ix_seq d_ix (do_slot rfl (.inl (by rfl))) (DE.o de_int) (fun _ _ => rfl))) da_nil))))))) da_nil)))))) db_nil)
  (db_wreckP rfl (hio_nil hio) o.pass o.calm o.nd rfl (.inl (by rfl)) rfl (.inl (by rfl)) (dq_own (ps := ["long", "exponent"]) rfl c_long_power o (by decide) (by rfl) (da_cons (DE.o (de_var (nio hio (by decide)) rfl (.inl (by rfl)))) (da_cons (DE.o (de_var (nio hio (by decide)) rfl (.inl (by rfl)))) da_nil))) (dt_cmp (op_neX o.units) d_ne (DE.o (de_callB (call_reprX (o.gd (by decide)) o.units) d_reprX (by rfl) B.repr bt_repr (da_cons (do_slot rfl (.inl (by rfl))) da_nil))) (DE.o (de_callB (call_reprX (o.gd (by decide)) o.units) d_reprX (by rfl) B.repr bt_repr (da_cons (do_slot rfl (.inl (by rfl))) da_nil))) (by rfl)) (dt_cmp op_isNotD d_isNot (do_slot rfl (.inl (by rfl))) (DE.o de_non) (by rfl)) (pa_cons (pe_ix ix_seq (pe_ix ix_seq (pe_var (i := 12) rfl (.inl (by rfl))) pe_int (fun _ _ => rfl)) pe_int (fun _ _ => rfl)) (pa_cons (pe_ix ix_seq (pe_ix ix_seq (pe_var (i := 12) rfl (.inl (by rfl))) pe_int (fun _ _ => rfl)) pe_int (fun _ _ => rfl)) (pa_cons (pe_ix ix_seq (pe_ix ix_seq (pe_var (i := 12) rfl (.inl (by rfl))) pe_int (fun _ _ => rfl)) pe_int (fun _ _ => rfl)) (pa_cons (pe_ix ix_seq (pe_ix ix_seq (pe_var (i := 12) rfl (.inl (by rfl))) pe_int (fun _ _ => rfl)) pe_int (fun _ _ => rfl)) (pa_cons (pe_ix ix_seq (pe_ix ix_seq (pe_var (i := 12) rfl (.inl (by rfl))) pe_int (fun _ _ => rfl)) pe_int (fun _ _ => rfl)) (pa_cons (pe_ix ix_seq (pe_ix ix_seq (pe_var (i := 12) rfl (.inl (by rfl))) pe_int (fun _ _ => rfl)) pe_int (fun _ _ => rfl)) pa_nil)))))) (pss_one (ps_expr (pe_bm PySem.F.plainAttrs_list PySem.F.slot_list_append PySem.F.type_list_append mt_append (pe_var (i := 13) rfl (.inl (by rfl))) (pa_cons pe_non pa_nil)))) (db_one (ds_if (dt_cmp (op_neX o.units) d_ne (DE.o (de_callB (call_reprX (o.gd (by decide)) o.units) d_reprX (by rfl) B.repr bt_repr (da_cons (DE.o (de_own (ps := ["long", "exponent"]) (CallR.toD c_long_power) o (by decide) (by rfl) (da_cons (DE.o (de_var (nio hio (by decide)) rfl (.inl (by rfl)))) (da_cons (DE.o (de_var (nio hio (by decide)) rfl (.inl (by rfl)))) da_nil)))) da_nil))) (DE.o (de_callB (call_reprX (o.gd (by decide)) o.units) d_reprX (by rfl) B.repr bt_repr (da_cons (do_slot rfl (.inl (by rfl))) da_nil))) (by rfl)) (db_one (ds_ret de_bl)) db_nil)) (db_one (ds_if (dt_cmp (op_neX o.units) d_ne (DE.o (de_callB (call_reprX (o.gd (by decide)) o.units) d_reprX (by rfl) B.repr bt_repr (da_cons (DE.o (de_own (ps := ["long", "exponent"]) (CallR.toD c_long_power) o (by decide) (by rfl) (da_cons (DE.o de_non) (da_cons (DE.o (de_var (nio hio (by decide)) rfl (.inl (by rfl)))) da_nil)))) da_nil))) (DE.o (de_callB (call_reprX (o.gd (by decide)) o.units) d_reprX (by rfl) B.repr bt_repr (da_cons (DE.o (de_ite (dt_cmp (op_eqX o.units) d_eq (do_slot rfl (.inl (by rfl))) (DE.o de_int) (by rfl)) (de_tup (da_cons (DE.o (de_var (nio hio (by decide)) rfl (.inl (by rfl)))) (da_cons (DE.o (de_var (nio hio (by decide)) rfl (.inl (by rfl)))) da_nil))) de_non)) da_nil))) (by rfl)) (db_one (ds_ret de_bl)) db_nil)))))))))))))
  (db_one (ds_ret de_bl)))))
abbrev s_ex_InvalidLong : Stmt := (clsAt (tops 3) 0)
theorem sc_ex_InvalidLong : FnScope ["self", "value"] ["self", "value"] (defScope s_ex_InvalidLong) := ⟨rfl, rfl, rfl, by decide +kernel, rfl, by decide +kernel, by decide +kernel⟩
theorem wk_ex_InvalidLong {P : Program} {w : World} {K : PySem.W.Frag} {mg : Str → Option Value} {base : Heap} {f : Addr} {fd : FuncData} (F : Fun K "__init__" "InvalidLong.__init__" s_ex_InvalidLong f fd) {D : Addr} {mc : Value} (hD : mg "RowError" = some (.ref D)) (r : ClX.CRead K D mc) (vV : PySem.W.findCls K (.ref D) mc "__init__" = some (.val (.builtin "ValueError.__init__"))) : FnOk P w K mg base (L2.CX P w) 1 f fd ["self", "value"] (spI K "ValueError" "ValueError.__new__" "ValueError.__init__" (tl_ValueError)) :=
  ok_init F sc_ex_InvalidLong fun cd A outer s H E => pss_cons (ps_expr (pe_bio exb_V (by rfl) hD r vV (pa_cons (pe_var (i := 0) rfl (.inl (by rfl))) (pa_cons (pe_var (i := 1) rfl (.inl (by rfl))) pa_nil)))) (pss_one (ps_os1 (pe_var (i := 0) rfl (.inl (by rfl))) (pe_var (i := 1) rfl (.inl (by rfl)))))
abbrev s_ex_InvalidNumber : Stmt := (clsAt (tops 2) 0)
theorem sc_ex_InvalidNumber : FnScope ["self", "value"] ["self", "value"] (defScope s_ex_InvalidNumber) := ⟨rfl, rfl, rfl, by decide +kernel, rfl, by decide +kernel, by decide +kernel⟩
theorem wk_ex_InvalidNumber {P : Program} {w : World} {K : PySem.W.Frag} {mg : Str → Option Value} {base : Heap} {f : Addr} {fd : FuncData} (F : Fun K "__init__" "InvalidNumber.__init__" s_ex_InvalidNumber f fd) {D : Addr} {mc : Value} (hD : mg "RowError" = some (.ref D)) (r : ClX.CRead K D mc) (vV : PySem.W.findCls K (.ref D) mc "__init__" = some (.val (.builtin "ValueError.__init__"))) : FnOk P w K mg base (L2.CX P w) 1 f fd ["self", "value"] (spI K "ValueError" "ValueError.__new__" "ValueError.__init__" (tl_ValueError)) :=
  ok_init F sc_ex_InvalidNumber fun cd A outer s H E => pss_cons (ps_expr (pe_bio exb_V (by rfl) hD r vV (pa_cons (pe_var (i := 0) rfl (.inl (by rfl))) (pa_cons (pe_var (i := 1) rfl (.inl (by rfl))) pa_nil)))) (pss_one (ps_os1 (pe_var (i := 0) rfl (.inl (by rfl))) (pe_var (i := 1) rfl (.inl (by rfl)))))
theorem all_facts {P : Program} {w : World} {K : PySem.W.Frag} {h : Heap} {mg : Str → Option Value} {fa : Addr} (X : K.In h) (G : h.Ns mainGlobals mg) (hfa : mg "law" = some (.ref fa))
  (No_Effect : PySem.W.nsIn K mainGlobals "Effect" = some none)
  (No_Yard : PySem.W.nsIn K mainGlobals "Yard" = some none)
  (No_Session : PySem.W.nsIn K mainGlobals "Session" = some none)
  {f0 : Addr} {oc0 kV0 dc0 pm0 cd0 ct0 : Value} {od0 an0 : Option Addr} {sl0 : Array (Option Value)}
  (a0 : PySem.W.nsIn K mainGlobals "_law_take" = some (some (.ref f0)))
  (l0 : K.lookup f0 = some ⟨oc0, od0, .func (PySem.W.fnOf "_law_take" "_law_take" (defArgs s__law_take) (defBody s__law_take) (defScope s__law_take) .none kV0 dc0 pm0 an0 cd0 ct0), sl0⟩)
  (c0 : PySem.W.codeIn K cd0 "_law_take" = true)
  (k0 : PySem.W.keepIn K (.ref f0) = true)
  {f1 : Addr} {oc1 kV1 dc1 pm1 cd1 ct1 : Value} {od1 an1 : Option Addr} {sl1 : Array (Option Value)}
  (a1 : PySem.W.nsIn K mainGlobals "_law_word" = some (some (.ref f1)))
  (l1 : K.lookup f1 = some ⟨oc1, od1, .func (PySem.W.fnOf "_law_word" "_law_word" (defArgs s__law_word) (defBody s__law_word) (defScope s__law_word) .none kV1 dc1 pm1 an1 cd1 ct1), sl1⟩)
  (c1 : PySem.W.codeIn K cd1 "_law_word" = true)
  (k1 : PySem.W.keepIn K (.ref f1) = true)
  {f2 : Addr} {oc2 kV2 dc2 pm2 cd2 ct2 : Value} {od2 an2 : Option Addr} {sl2 : Array (Option Value)}
  (a2 : PySem.W.nsIn K mainGlobals "_law_pair" = some (some (.ref f2)))
  (l2 : K.lookup f2 = some ⟨oc2, od2, .func (PySem.W.fnOf "_law_pair" "_law_pair" (defArgs s__law_pair) (defBody s__law_pair) (defScope s__law_pair) .none kV2 dc2 pm2 an2 cd2 ct2), sl2⟩)
  (c2 : PySem.W.codeIn K cd2 "_law_pair" = true)
  (k2 : PySem.W.keepIn K (.ref f2) = true)
  {f3 : Addr} {oc3 kV3 dc3 pm3 cd3 ct3 : Value} {od3 an3 : Option Addr} {sl3 : Array (Option Value)}
  (a3 : PySem.W.nsIn K mainGlobals "_law_pool" = some (some (.ref f3)))
  (l3 : K.lookup f3 = some ⟨oc3, od3, .func (PySem.W.fnOf "_law_pool" "_law_pool" (defArgs s__law_pool) (defBody s__law_pool) (defScope s__law_pool) .none kV3 dc3 pm3 an3 cd3 ct3), sl3⟩)
  (c3 : PySem.W.codeIn K cd3 "_law_pool" = true)
  (k3 : PySem.W.keepIn K (.ref f3) = true)
  {f4 : Addr} {oc4 kV4 dc4 pm4 cd4 ct4 : Value} {od4 an4 : Option Addr} {sl4 : Array (Option Value)}
  (a4 : PySem.W.nsIn K mainGlobals "_law_raised" = some (some (.ref f4)))
  (l4 : K.lookup f4 = some ⟨oc4, od4, .func (PySem.W.fnOf "_law_raised" "_law_raised" (defArgs s__law_raised) (defBody s__law_raised) (defScope s__law_raised) .none kV4 dc4 pm4 an4 cd4 ct4), sl4⟩)
  (c4 : PySem.W.codeIn K cd4 "_law_raised" = true)
  (k4 : PySem.W.keepIn K (.ref f4) = true)
  {f5 : Addr} {oc5 kV5 dc5 pm5 cd5 ct5 : Value} {od5 an5 : Option Addr} {sl5 : Array (Option Value)}
  (a5 : PySem.W.nsIn K mainGlobals "is_integer" = some (some (.ref f5)))
  (l5 : K.lookup f5 = some ⟨oc5, od5, .func (PySem.W.fnOf "is_integer" "is_integer" (defArgs s_is_integer) (defBody s_is_integer) (defScope s_is_integer) .none kV5 dc5 pm5 an5 cd5 ct5), sl5⟩)
  (c5 : PySem.W.codeIn K cd5 "is_integer" = true)
  (k5 : PySem.W.keepIn K (.ref f5) = true)
  {f6 : Addr} {oc6 kV6 dc6 pm6 cd6 ct6 : Value} {od6 an6 : Option Addr} {sl6 : Array (Option Value)}
  (a6 : PySem.W.nsIn K mainGlobals "is_item" = some (some (.ref f6)))
  (l6 : K.lookup f6 = some ⟨oc6, od6, .func (PySem.W.fnOf "is_item" "is_item" (defArgs s_is_item) (defBody s_is_item) (defScope s_is_item) .none kV6 dc6 pm6 an6 cd6 ct6), sl6⟩)
  (c6 : PySem.W.codeIn K cd6 "is_item" = true)
  (k6 : PySem.W.keepIn K (.ref f6) = true)
  {f7 : Addr} {oc7 kV7 dc7 pm7 cd7 ct7 : Value} {od7 an7 : Option Addr} {sl7 : Array (Option Value)}
  (a7 : PySem.W.nsIn K mainGlobals "is_row" = some (some (.ref f7)))
  (l7 : K.lookup f7 = some ⟨oc7, od7, .func (PySem.W.fnOf "is_row" "is_row" (defArgs s_is_row) (defBody s_is_row) (defScope s_is_row) .none kV7 dc7 pm7 an7 cd7 ct7), sl7⟩)
  (c7 : PySem.W.codeIn K cd7 "is_row" = true)
  (k7 : PySem.W.keepIn K (.ref f7) = true)
  {f8 : Addr} {oc8 kV8 dc8 pm8 cd8 ct8 : Value} {od8 an8 : Option Addr} {sl8 : Array (Option Value)}
  (a8 : PySem.W.nsIn K mainGlobals "is_long" = some (some (.ref f8)))
  (l8 : K.lookup f8 = some ⟨oc8, od8, .func (PySem.W.fnOf "is_long" "is_long" (defArgs s_is_long) (defBody s_is_long) (defScope s_is_long) .none kV8 dc8 pm8 an8 cd8 ct8), sl8⟩)
  (c8 : PySem.W.codeIn K cd8 "is_long" = true)
  (k8 : PySem.W.keepIn K (.ref f8) = true)
  {f9 : Addr} {oc9 kV9 dc9 pm9 cd9 ct9 : Value} {od9 an9 : Option Addr} {sl9 : Array (Option Value)}
  (a9 : PySem.W.nsIn K mainGlobals "is_within" = some (some (.ref f9)))
  (l9 : K.lookup f9 = some ⟨oc9, od9, .func (PySem.W.fnOf "is_within" "is_within" (defArgs s_is_within) (defBody s_is_within) (defScope s_is_within) .none kV9 dc9 pm9 an9 cd9 ct9), sl9⟩)
  (c9 : PySem.W.codeIn K cd9 "is_within" = true)
  (k9 : PySem.W.keepIn K (.ref f9) = true)
  {f10 : Addr} {oc10 kV10 dc10 pm10 cd10 ct10 : Value} {od10 an10 : Option Addr} {sl10 : Array (Option Value)}
  (a10 : PySem.W.nsIn K mainGlobals "outer_power" = some (some (.ref f10)))
  (l10 : K.lookup f10 = some ⟨oc10, od10, .func (PySem.W.fnOf "outer_power" "outer_power" (defArgs s_outer_power) (defBody s_outer_power) (defScope s_outer_power) .none kV10 dc10 pm10 an10 cd10 ct10), sl10⟩)
  (c10 : PySem.W.codeIn K cd10 "outer_power" = true)
  (k10 : PySem.W.keepIn K (.ref f10) = true)
  {f11 : Addr} {oc11 kV11 dc11 pm11 cd11 ct11 : Value} {od11 an11 : Option Addr} {sl11 : Array (Option Value)}
  (a11 : PySem.W.nsIn K mainGlobals "long_power" = some (some (.ref f11)))
  (l11 : K.lookup f11 = some ⟨oc11, od11, .func (PySem.W.fnOf "long_power" "long_power" (defArgs s_long_power) (defBody s_long_power) (defScope s_long_power) .none kV11 dc11 pm11 an11 cd11 ct11), sl11⟩)
  (c11 : PySem.W.codeIn K cd11 "long_power" = true)
  (k11 : PySem.W.keepIn K (.ref f11) = true)
  {f12 : Addr} {oc12 kV12 dc12 pm12 cd12 ct12 : Value} {od12 an12 : Option Addr} {sl12 : Array (Option Value)}
  (a12 : PySem.W.nsIn K mainGlobals "law" = some (some (.ref f12)))
  (l12 : K.lookup f12 = some ⟨oc12, od12, .func (PySem.W.fnOf "law" "law" (defArgs s_law) (defBody s_law) (defScope s_law) .none kV12 dc12 pm12 an12 cd12 ct12), sl12⟩)
  (c12 : PySem.W.codeIn K cd12 "law" = true)
  (k12 : PySem.W.keepIn K (.ref f12) = true)
  {C_InvalidLong : Addr}
  (A_InvalidLong : PySem.W.nsIn K mainGlobals "InvalidLong" = some (some (.ref C_InvalidLong)))
  {nm_InvalidLong q_InvalidLong : Str} {N_InvalidLong : Addr} {bs_InvalidLong bm_InvalidLong : List Value} {sn_InvalidLong : List Str} {sub_InvalidLong : List Value} {ab_InvalidLong : Bool} {col_InvalidLong : Option Bool} {dd_InvalidLong : Option Addr} {y0_InvalidLong y1_InvalidLong y2_InvalidLong y3_InvalidLong y5_InvalidLong : Option Value}
  (X_InvalidLong : K.lookup C_InvalidLong = some (excClassObj nm_InvalidLong q_InvalidLong C_InvalidLong N_InvalidLong bs_InvalidLong bm_InvalidLong true sn_InvalidLong sub_InvalidLong ab_InvalidLong col_InvalidLong dd_InvalidLong y0_InvalidLong y1_InvalidLong y2_InvalidLong y3_InvalidLong y5_InvalidLong "ValueError.__new__"))
  (InvalidLong_sa : PySem.W.findIn K (.ref C_InvalidLong) "__setattr__" = some (some (.builtin "object.__setattr__")))
  (InvalidLong_ex : PySem.W.subIn K (.ref C_InvalidLong) (.type "BaseException") = some true)
  (InvalidLong_ty : PySem.W.typeIn K (.ref C_InvalidLong) = some (.type "type"))
  (InvalidLong_kC : PySem.W.keepIn K (.ref C_InvalidLong) = true)
  (InvalidLong_va : PySem.W.findIn K (.ref C_InvalidLong) "value" = some none)
  {fxInvalidLong : Addr} {ocxInvalidLong kVxInvalidLong dcxInvalidLong pmxInvalidLong cdxInvalidLong ctxInvalidLong : Value} {odxInvalidLong anxInvalidLong : Option Addr} {slxInvalidLong : Array (Option Value)}
  (axInvalidLong : PySem.W.findIn K (.ref C_InvalidLong) "__init__" = some (some (.ref fxInvalidLong)))
  (txInvalidLong : PySem.W.typeIn K (.ref fxInvalidLong) = some (.type "function"))
  (lxInvalidLong : K.lookup fxInvalidLong = some ⟨ocxInvalidLong, odxInvalidLong, .func (PySem.W.fnOf "__init__" "InvalidLong.__init__" (defArgs s_ex_InvalidLong) (defBody s_ex_InvalidLong) (defScope s_ex_InvalidLong) .none kVxInvalidLong dcxInvalidLong pmxInvalidLong anxInvalidLong cdxInvalidLong ctxInvalidLong), slxInvalidLong⟩)
  (cxInvalidLong : PySem.W.codeIn K cdxInvalidLong "InvalidLong.__init__" = true)
  (kxInvalidLong : PySem.W.keepIn K (.ref fxInvalidLong) = true)
  {C_RowError : Addr}
  (A_RowError : PySem.W.nsIn K mainGlobals "RowError" = some (some (.ref C_RowError)))
  (RowError_rd : PySem.W.readsIn K C_RowError (.type "type") = true)
  (RowError_ga : PySem.W.specialIn K (.ref C_RowError) "__getattribute__" = some (some (.builtin "type.__getattribute__")))
  (RowError_in : PySem.W.findCls K (.ref C_RowError) (.type "type") "__init__" = some (.val (.builtin "ValueError.__init__")))
  {C_InvalidNumber : Addr}
  (A_InvalidNumber : PySem.W.nsIn K mainGlobals "InvalidNumber" = some (some (.ref C_InvalidNumber)))
  {nm_InvalidNumber q_InvalidNumber : Str} {N_InvalidNumber : Addr} {bs_InvalidNumber bm_InvalidNumber : List Value} {sn_InvalidNumber : List Str} {sub_InvalidNumber : List Value} {ab_InvalidNumber : Bool} {col_InvalidNumber : Option Bool} {dd_InvalidNumber : Option Addr} {y0_InvalidNumber y1_InvalidNumber y2_InvalidNumber y3_InvalidNumber y5_InvalidNumber : Option Value}
  (X_InvalidNumber : K.lookup C_InvalidNumber = some (excClassObj nm_InvalidNumber q_InvalidNumber C_InvalidNumber N_InvalidNumber bs_InvalidNumber bm_InvalidNumber true sn_InvalidNumber sub_InvalidNumber ab_InvalidNumber col_InvalidNumber dd_InvalidNumber y0_InvalidNumber y1_InvalidNumber y2_InvalidNumber y3_InvalidNumber y5_InvalidNumber "ValueError.__new__"))
  (InvalidNumber_sa : PySem.W.findIn K (.ref C_InvalidNumber) "__setattr__" = some (some (.builtin "object.__setattr__")))
  (InvalidNumber_ex : PySem.W.subIn K (.ref C_InvalidNumber) (.type "BaseException") = some true)
  (InvalidNumber_ty : PySem.W.typeIn K (.ref C_InvalidNumber) = some (.type "type"))
  (InvalidNumber_kC : PySem.W.keepIn K (.ref C_InvalidNumber) = true)
  (InvalidNumber_va : PySem.W.findIn K (.ref C_InvalidNumber) "value" = some none)
  {fxInvalidNumber : Addr} {ocxInvalidNumber kVxInvalidNumber dcxInvalidNumber pmxInvalidNumber cdxInvalidNumber ctxInvalidNumber : Value} {odxInvalidNumber anxInvalidNumber : Option Addr} {slxInvalidNumber : Array (Option Value)}
  (axInvalidNumber : PySem.W.findIn K (.ref C_InvalidNumber) "__init__" = some (some (.ref fxInvalidNumber)))
  (txInvalidNumber : PySem.W.typeIn K (.ref fxInvalidNumber) = some (.type "function"))
  (lxInvalidNumber : K.lookup fxInvalidNumber = some ⟨ocxInvalidNumber, odxInvalidNumber, .func (PySem.W.fnOf "__init__" "InvalidNumber.__init__" (defArgs s_ex_InvalidNumber) (defBody s_ex_InvalidNumber) (defScope s_ex_InvalidNumber) .none kVxInvalidNumber dcxInvalidNumber pmxInvalidNumber anxInvalidNumber cdxInvalidNumber ctxInvalidNumber), slxInvalidNumber⟩)
  (cxInvalidNumber : PySem.W.codeIn K cdxInvalidNumber "InvalidNumber.__init__" = true)
  (kxInvalidNumber : PySem.W.keepIn K (.ref fxInvalidNumber) = true)
  {tk0 : Tok}
  (g0 : PySem.W.nsIn K mainGlobals "MOST_LONG_POWER" = some (some (.int 1000000000000000000000000000000 tk0)))
  (z0 : PySem.W.nsIn K mainGlobals "isinstance" = some none)
  (z1 : PySem.W.nsIn K mainGlobals "len" = some none)
  (z2 : PySem.W.nsIn K mainGlobals "all" = some none)
  (z3 : PySem.W.nsIn K mainGlobals "any" = some none)
  (z4 : PySem.W.nsIn K mainGlobals "max" = some none)
  (z5 : PySem.W.nsIn K mainGlobals "min" = some none)
  (z6 : PySem.W.nsIn K mainGlobals "sum" = some none)
  (z7 : PySem.W.nsIn K mainGlobals "abs" = some none)
  (z8 : PySem.W.nsIn K mainGlobals "range" = some none)
  (z9 : PySem.W.nsIn K mainGlobals "enumerate" = some none)
  (z10 : PySem.W.nsIn K mainGlobals "zip" = some none)
  (z11 : PySem.W.nsIn K mainGlobals "repr" = some none)
  (z12 : PySem.W.nsIn K mainGlobals "sorted" = some none)
  (z13 : PySem.W.nsIn K mainGlobals "int" = some none)
  (z14 : PySem.W.nsIn K mainGlobals "bool" = some none)
  (z15 : PySem.W.nsIn K mainGlobals "str" = some none)
  (z16 : PySem.W.nsIn K mainGlobals "list" = some none)
  (z17 : PySem.W.nsIn K mainGlobals "tuple" = some none)
  (z18 : PySem.W.nsIn K mainGlobals "dict" = some none)
  (z19 : PySem.W.nsIn K mainGlobals "set" = some none)
  (R_InvalidLong : DLE.refsT tl_ValueError bm_InvalidLong = true)
  (R_InvalidNumber : DLE.refsT tl_ValueError bm_InvalidNumber = true) :
  ∃ (fd : FuncData) (cs : List (Addr × Addr)) (T : List (Addr × Str)), (∀ p ∈ cs, h.get? p.2 = some { cls := .none, data := .fields #[] }) ∧ (∀ p ∈ cs, K.lookup p.2 = none) ∧ (∀ p ∈ cs, PySem.W.CodeHd h p.1 p.2) ∧ (∀ t ∈ T, ∃ p ∈ cs, p.2 = t.1) ∧ (∀ (s : Shared) (u : Value), BindsTo s fd ⟨[u], []⟩ [("_law_script", u)]) ∧ ∀ base : Heap, K.In base → base.Ns mainGlobals mg → (∀ p ∈ cs, LamX.TabB base mg p.1 p.2) → DFn P w K mg base T 21 fa fd ["_law_script"] [] m_law := by
  have e := hfa.symm.trans (PySem.W.mg_of X G a12)
  cases e
  have B : Bn mg := bn_mk X G z0 z1 z2 z3 z4 z5 z6 z7 z8 z9 z10 z11 z12 z13 z14 z15 z16 z17 z18 z19
  refine ⟨PySem.W.fnOf "law" "law" (defArgs s_law) (defBody s_law) (defScope s_law) .none kV12 dc12 pm12 an12 cd12 ct12, [], [], fun _ h => (nomatch h), fun _ h => (nomatch h), fun _ h => (nomatch h), fun _ h => (nomatch h), fun s v => .of_eq rfl, fun base _ _ TBs => ?_⟩
  have TB : TbOk ⟨K, mg, []⟩ tbG := tb_ok (.inr (PySem.W.mg_none_of X G No_Effect)) (.inr (PySem.W.mg_none_of X G No_Yard)) (.inr (PySem.W.mg_none_of X G No_Session)) (fun C E _ h => nomatch (h.symm.trans (PySem.W.mg_none_of X G No_Session) : some _ = none))
  have E_InvalidLong : ExD P w K mg base "InvalidLong" := ⟨_, _, _, _, _, _, _, PySem.W.mg_of X G A_InvalidLong, ⟨exb_V, ⟨_, _, _, _, _, _, _, _, _, _, _, _, _, _, _, X_InvalidLong, R_InvalidLong⟩, InvalidLong_sa, InvalidLong_ex, InvalidLong_ty, InvalidLong_kC⟩, InvalidLong_va, axInvalidLong, txInvalidLong, (fun_mk lxInvalidLong cxInvalidLong kxInvalidLong).binds (fun _ _ _ _ _ _ us hl => match us, hl with | [_, _], _ => rfl), wk_ex_InvalidLong (fun_mk lxInvalidLong cxInvalidLong kxInvalidLong) (PySem.W.mg_of X G A_RowError) ⟨RowError_rd, RowError_ga⟩ RowError_in⟩
  have E_InvalidNumber : ExD P w K mg base "InvalidNumber" := ⟨_, _, _, _, _, _, _, PySem.W.mg_of X G A_InvalidNumber, ⟨exb_V, ⟨_, _, _, _, _, _, _, _, _, _, _, _, _, _, _, X_InvalidNumber, R_InvalidNumber⟩, InvalidNumber_sa, InvalidNumber_ex, InvalidNumber_ty, InvalidNumber_kC⟩, InvalidNumber_va, axInvalidNumber, txInvalidNumber, (fun_mk lxInvalidNumber cxInvalidNumber kxInvalidNumber).binds (fun _ _ _ _ _ _ us hl => match us, hl with | [_, _], _ => rfl), wk_ex_InvalidNumber (fun_mk lxInvalidNumber cxInvalidNumber kxInvalidNumber) (PySem.W.mg_of X G A_RowError) ⟨RowError_rd, RowError_ga⟩ RowError_in⟩
  have C_f__law_take := wk__law_take (P := P) (w := w) (base := base) B TB (fnat_mk X G a0 l0 c0 k0 fun _ _ _ _ _ _ us hl => match us, hl with | [_, _], _ => rfl) 
  have C_f__law_word := wk__law_word (P := P) (w := w) (base := base) B TB (fnat_mk X G a1 l1 c1 k1 fun _ _ _ _ _ _ us hl => match us, hl with | [_, _], _ => rfl) C_f__law_take
  have C_f__law_pair := wk__law_pair (P := P) (w := w) (base := base) B TB (fnat_mk X G a2 l2 c2 k2 fun _ _ _ _ _ _ us hl => match us, hl with | [_], _ => rfl) C_f__law_take C_f__law_word
  have C_f__law_pool := wk__law_pool (P := P) (w := w) (base := base) B TB (fnat_mk X G a3 l3 c3 k3 fun _ _ _ _ _ _ us hl => match us, hl with | [_, _], _ => rfl) 
  have C_f__law_raised := wk__law_raised (P := P) (w := w) (base := base) B TB (fnat_mk X G a4 l4 c4 k4 fun _ _ _ _ _ _ us hl => match us, hl with | [_, _, _], _ => rfl) 
  have C_f_is_integer := wk_is_integer (P := P) (w := w) (base := base) B TB (fnat_mk X G a5 l5 c5 k5 fun _ _ _ _ _ _ us hl => match us, hl with | [_], _ => rfl) 
  have C_f_is_item := wk_is_item (P := P) (w := w) (base := base) B TB (fnat_mk X G a6 l6 c6 k6 fun _ _ _ _ _ _ us hl => match us, hl with | [_], _ => rfl) C_f_is_integer
  have C_f_is_row := wk_is_row (P := P) (w := w) (base := base) B TB (fnat_mk X G a7 l7 c7 k7 fun _ _ _ _ _ _ us hl => match us, hl with | [_], _ => rfl) C_f_is_item
  have C_f_is_long := wk_is_long (P := P) (w := w) (base := base) B TB (fnat_mk X G a8 l8 c8 k8 fun _ _ _ _ _ _ us hl => match us, hl with | [_], _ => rfl) C_f_is_row
  have C_f_is_within := wk_is_within (P := P) (w := w) (base := base) B TB (fnat_mk X G a9 l9 c9 k9 fun _ _ _ _ _ _ us hl => match us, hl with | [_, _, _], _ => rfl) C_f_is_integer
  have C_f_outer_power := wk_outer_power (P := P) (w := w) (base := base) B TB (fnat_mk X G a10 l10 c10 k10 fun _ _ _ _ _ _ us hl => match us, hl with | [_, _, _], _ => rfl) 
  have C_f_long_power := wk_long_power (P := P) (w := w) (base := base) B TB (fnat_mk X G a11 l11 c11 k11 fun _ _ _ _ _ _ us hl => match us, hl with | [_, _], _ => rfl) C_f_is_long C_f_is_within C_f_outer_power ⟨_, PySem.W.mg_of X G g0⟩ E_InvalidLong E_InvalidNumber
  exact wk_law B TB (fun_mk l12 c12 k12) C_f__law_pair C_f__law_pool C_f__law_raised C_f__law_take C_f_long_power
end Tk37

namespace Tk37
open PySem L2 DL
theorem integer_ok {n : Int} : wpR (Pg.m_is_integer [.int n]) (K := ⟨Is (.bl true), noF⟩) := by
  unfold Pg.m_is_integer Pg.b_is_integer
  rw [wpR_def]
  simp [startD]
  exact ⟨rfl, rfl⟩
theorem item_ok {n : Int} : wpR (Pg.m_is_item [.int n]) (K := ⟨Is (.bl (decide (0 ≤ n))), noF⟩) := by
  unfold Pg.m_is_item Pg.b_is_item
  rw [wpR_def]
  simp [startD]
  refine wpR_use integer_ok ?_
  rintro d fr es ⟨rfl, rfl⟩
  simp
  exact ⟨rfl, rfl⟩
theorem row_ok {xs : List Int} (h : Nn xs) (hl : xs.length ≤ lim) : wpR (Pg.m_is_row [rowD xs]) (K := ⟨Is (.bl true), noF⟩) := by
  unfold Pg.m_is_row Pg.b_is_row
  rw [wpR_def]
  simp [startD]
  refine wp_turns_mapA (fun _ => .bl true) (fun n hn => ?_) ?_
  · simp
    refine wpR_use item_ok ?_
    rintro d fr es ⟨rfl, rfl⟩
    simp [h n hn]
  · have e : (xs.all fun _ => true) = true := by simp
    simp [hl, bls_mapA (f := fun _ : Int => true), e]
    exact ⟨rfl, rfl⟩
theorem long_ok {p x s y : List Int} (hp : Nn p) (hx : Nn x) (hs : Nn s) (hy : Nn y) (h : p.length ≤ lim ∧ x.length ≤ lim ∧ s.length ≤ lim ∧ y.length ≤ lim) : wpR (Pg.m_is_long [longD (some (p, x, s, y))]) (K := ⟨Is (.bl true), noF⟩) := by
  unfold Pg.m_is_long Pg.b_is_long longD
  rw [wpR_def]
  have e : [rowD p, rowD x, rowD s, rowD y] = [p, x, s, y].map rowD := rfl
  simp only [e]
  simp [startD]
  have h4 : 4 ≤ lim := by decide
  refine wp_turns_mapA (xs := [p, x, s, y]) (fun _ => .bl true) (fun n hn => ?_) ?_
  · have : Nn n ∧ n.length ≤ lim := by
      simp at hn
      rcases hn with rfl | rfl | rfl | rfl
      · exact ⟨hp, h.1⟩
      · exact ⟨hx, h.2.1⟩
      · exact ⟨hs, h.2.2.1⟩
      · exact ⟨hy, h.2.2.2⟩
    simp
    refine wpR_use (row_ok this.1 this.2) ?_
    rintro d fr es ⟨rfl, rfl⟩
    simp
  · first
      | (simp [h4]; exact ⟨rfl, rfl⟩)
      | (simp [h4, dBls]; exact ⟨rfl, rfl⟩)
theorem within_ok {n lo hi : Int} : wpR (Pg.m_is_within [.int n, .int lo, .int hi]) (K := ⟨Is (.bl (decide (lo ≤ n) && decide (n ≤ hi))), noF⟩) := by
  unfold Pg.m_is_within Pg.b_is_within
  rw [wpR_def]
  simp [startD]
  refine wpR_use integer_ok ?_
  rintro d fr es ⟨rfl, rfl⟩
  simp
  by_cases h : lo ≤ n
  · simp [h]; exact ⟨rfl, rfl⟩
  · simp [h]; exact ⟨rfl, rfl⟩
theorem outer_power_ok {N G : List Int} {e : Int} : wpR (Pg.m_outer_power [rowD N, rowD G, .int e]) (K := ⟨Is (powD (outPow N G e)), noF⟩) := by
  unfold Pg.m_outer_power Pg.b_outer_power Pg.x_outer_power_1 Pg.x_outer_power_2 Pg.x_outer_power_3 Pg.x_outer_power_4
  rw [wpR_def]
  have h5 : 5 ≤ lim := by decide
  unfold outPow
  simp [startD, rNil, h5]
  by_cases h0 : e = 0
  · simp [h0, h5]; exact ⟨rfl, rfl⟩
  by_cases h1 : N = G
  · simp [h0, h1, h5]; exact ⟨rfl, rfl⟩
  by_cases h2 : G.take N.length = N
  · simp [h0, h1, h2, h5]; exact ⟨rfl, rfl⟩
  by_cases h3 : N.take G.length = G
  · simp [h0, h1, h2, h3, h5]; exact ⟨rfl, rfl⟩
  by_cases h4 : e = 1
  · simp [h0, h1, h2, h3, h4, h5]; exact ⟨rfl, rfl⟩
  · simp [h0, h1, h2, h3, h4, h5]; exact ⟨rfl, rfl⟩
def IsV (x d : D) (fr : Bool) (es : List D) : Prop := d = x ∧ fr = false ∧ es = []
theorem outer_power_okV {N G : List Int} {e : Int} : wpR (Pg.m_outer_power [rowD N, rowD G, .int e]) (K := ⟨IsV (powD (outPow N G e)), noF⟩) := by
  unfold Pg.m_outer_power Pg.b_outer_power Pg.x_outer_power_1 Pg.x_outer_power_2 Pg.x_outer_power_3 Pg.x_outer_power_4
  rw [wpR_def]
  have h5 : 5 ≤ lim := by decide
  unfold outPow
  simp [startD, rNil, h5]
  by_cases h0 : e = 0
  · simp [h0, h5]; exact ⟨rfl, rfl, rfl⟩
  by_cases h1 : N = G
  · simp [h0, h1, h5]; exact ⟨rfl, rfl, rfl⟩
  by_cases h2 : G.take N.length = N
  · simp [h0, h1, h2, h5]; exact ⟨rfl, rfl, rfl⟩
  by_cases h3 : N.take G.length = G
  · simp [h0, h1, h2, h3, h5]; exact ⟨rfl, rfl, rfl⟩
  by_cases h4 : e = 1
  · simp [h0, h1, h2, h3, h4, h5]; exact ⟨rfl, rfl, rfl⟩
  · simp [h0, h1, h2, h3, h4, h5]; exact ⟨rfl, rfl, rfl⟩
theorem long_power_okR {p x s y : List Int} {e : Int} (hp : Nn p) (hx : Nn x) (hs : Nn s) (hy : Nn y) (h : p.length ≤ lim ∧ x.length ≤ lim ∧ s.length ≤ lim ∧ y.length ≤ lim) (he : 0 ≤ e ∧ e ≤ 10 ^ 30) : wpR (Pg.m_long_power [longD (some (p, x, s, y)), .int e]) (K := ⟨Is (lpowD (longPow p x s y e)), noF⟩) := by
  unfold Pg.m_long_power Pg.b_long_power Pg.x_long_power_1 Pg.x_long_power_2 Pg.x_long_power_3
  rw [wpR_defR]
  have h5 : 5 ≤ lim := by decide
  have nn : isNon (longD (some (p, x, s, y))) = false := rfl
  rw [wp_scR]
  simp [startD, nn]
  refine wpR_use (long_ok hp hx hs hy h) ?_
  rintro d fr es ⟨rfl, rfl⟩
  simp
  rw [wp_scR]
  simp
  refine wpR_use within_ok ?_
  rintro d fr es ⟨rfl, rfl⟩
  have he2 : e ≤ 1000000000000000000000000000000 := he.2
  simp [he.1, he2]
  rw [wp_ifNw]
  simp [nn]
  rw [wp_scR]
  unfold longD
  simp
  rw [wp_setNw2, wp_callNw]
  simp
  refine wp_nwEnd all_isSc all_isSc rfl (wpR_use (outer_power_okV (N := p) (G := x)) ?_)
  rintro d fr es ⟨rfl, rfl, rfl⟩
  refine ⟨rfl, rfl, ?_⟩
  simp
  rw [wp_callNw]
  simp
  refine wp_nwEnd all_isSc all_isSc rfl (wpR_use (outer_power_okV (N := s.reverse) (G := y.reverse)) ?_)
  rintro d fr es ⟨rfl, rfl, rfl⟩
  refine ⟨rfl, rfl, ?_⟩
  unfold longPow
  have h2 : 2 ≤ lim := by decide
  rcases outPow p x e with _ | ⟨a, b, c, i, j⟩ <;> rcases outPow s.reverse y.reverse e with _ | ⟨a', b', c', i', j'⟩ <;> simp [powD, h5, h2] <;> exact ⟨rfl, rfl⟩
theorem long_power_noneR {e : Int} (he : 0 ≤ e ∧ e ≤ 10 ^ 30) : wpR (Pg.m_long_power [.non, .int e]) (K := ⟨Is (if e = 0 then .tup [powD (outPow [] [] 0), powD (outPow [] [] 0)] else .non), noF⟩) := by
  unfold Pg.m_long_power Pg.b_long_power Pg.x_long_power_1 Pg.x_long_power_2 Pg.x_long_power_3
  rw [wpR_defR]
  rw [wp_scR]
  simp [startD]
  rw [wp_scR]
  simp
  refine wpR_use within_ok ?_
  rintro d fr es ⟨rfl, rfl⟩
  have he2 : e ≤ 1000000000000000000000000000000 := he.2
  simp [he.1, he2]
  rw [wp_ifNw]
  simp
  have h2 : 2 ≤ lim := by decide
  by_cases h0 : 0 < e
  · rw [if_pos h0, if_neg (show ¬ e = 0 by omega)]
    exact ⟨rfl, rfl⟩
  · rw [if_neg h0, if_pos (show e = 0 by omega)]
    have rn : D.lst [] = rowD [] := rfl
    rw [rn]
    refine wpR_use (outer_power_okV (N := []) (G := [])) ?_
    rintro d fr es ⟨rfl, rfl, rfl⟩
    simp
    rw [rn]
    refine wpR_use (outer_power_okV (N := []) (G := [])) ?_
    rintro d fr es ⟨rfl, rfl, rfl⟩
    simp [h2]
    exact ⟨rfl, rfl⟩
/-- what is_item says -/
def itB : D → Bool
  | .int n => decide (0 ≤ n)
  | _ => false
def flat : D → Bool
  | .non | .bl _ | .int _ | .str _ => true
  | _ => false
theorem integer_flat {x : D} (h : flat x = true) : wpR (Pg.m_is_integer [x]) (K := ⟨Is (.bl (match x with | .int _ => true | _ => false)), noF⟩) := by
  unfold Pg.m_is_integer Pg.b_is_integer
  rw [wpR_def]
  cases x <;> first
    | (cases h; done)
    | (simp [startD]; exact ⟨rfl, rfl⟩)
theorem item_flat {x : D} (h : flat x = true) : wpR (Pg.m_is_item [x]) (K := ⟨Is (.bl (itB x)), noF⟩) := by
  unfold Pg.m_is_item Pg.b_is_item
  rw [wpR_def]
  simp [startD]
  refine wpR_use (integer_flat h) ?_
  rintro d fr es ⟨rfl, rfl⟩
  cases x <;> first
    | (cases h; done)
    | (simp [itB]; exact ⟨rfl, rfl⟩)
theorem row_flat {xs : List D} (h : ∀ x ∈ xs, flat x = true) (hl : xs.length ≤ lim) : wpR (Pg.m_is_row [.lst xs]) (K := ⟨Is (.bl (xs.all itB)), noF⟩) := by
  unfold Pg.m_is_row Pg.b_is_row
  rw [wpR_def]
  simp [startD]
  have e0 : xs = xs.map fun x => x := by simp
  conv => lhs; rw [e0]
  refine wp_turns_mapA (cv := fun x => x) (fun x => .bl (itB x)) (fun x hx => ?_) ?_
  · simp
    refine wpR_use (item_flat (h x hx)) ?_
    rintro d fr es ⟨rfl, rfl⟩
    simp
  · simp [hl, bls_mapA (f := itB)]
    exact ⟨rfl, rfl⟩
/-- not a list, not an object -/
def offL : D → Bool
  | .non | .bl _ | .int _ | .str _ | .tup _ | .dct _ => true
  | _ => false
theorem row_no {x : D} (h : offL x = true) : wpR (Pg.m_is_row [x]) (K := ⟨Is (.bl false), noF⟩) := by
  unfold Pg.m_is_row Pg.b_is_row
  rw [wpR_def]
  cases x <;> first
    | (cases h; done)
    | (simp [startD]; exact ⟨rfl, rfl⟩)
end Tk37
-- use: PL1 | PS1 PS2
namespace Tk37
open PySem L2 DL
theorem two_lim : 2 ≤ lim := by decide
/-! the pool -/
def PoolD (a b : Int) : D := .lst [.int a, .int b]
def PO (b : Int) : Prop := 0 ≤ b ∧ b < 2147483648
def IsPool (d : D) : Prop := ∃ a b, d = PoolD a b ∧ PO b
def TakeR (s : Int) (d : D) (fr : Bool) (es : List D) : Prop := ∃ r p, d = .int r ∧ es = [p] ∧ 0 ≤ r ∧ r < s ∧ IsPool p
theorem take_ok {p : D} {s : Int} (hp : IsPool p) (hs : 0 < s) (hs2 : s < 10 ^ 30) : wpR (m__law_take [p, .int s]) (K := ⟨TakeR s, noF⟩) := by
  obtain ⟨a, b, rfl, h0, h1⟩ := hp
  unfold m__law_take b__law_take x__law_take_1 PoolD
  rw [wpR_def]
  simp [startD]
  split
  · exact ⟨hs, div_ok hs (by omega), _, _, rfl, rfl, Int.emod_nonneg _ (by omega), Int.emod_lt_of_pos _ hs, _, _, rfl, h0, h1⟩
  · have e := Int.emod_nonneg (b * 48271 + 11) (b := 2147483647) (by omega)
    have e2 := Int.emod_lt_of_pos (b * 48271 + 11) (b := 2147483647) (by omega)
    exact ⟨bits_ok (by omega) (by omega), bits_ok (by omega) (by omega), div_ok (by omega) (by omega), hs, _, _, rfl, rfl, Int.emod_nonneg _ (by omega), Int.emod_lt_of_pos _ hs, _, _, rfl, e, by omega⟩
def PoolR (d : D) (fr : Bool) (es : List D) : Prop := IsPool d ∧ fr = true ∧ es = []
theorem pool_ok {ns : List Int} {k : Nat} (hk : k < 100) : wpR (m__law_pool [.scr ns, .int k]) (K := ⟨PoolR, noF⟩) := by
  unfold m__law_pool b__law_pool x__law_pool_1
  rw [wpR_def]
  simp [startD]
  have fin : ∀ c : Int, ∀ s : Int, IsPool (.lst [.int c, .int (s % 2147483647)]) := fun c s => by
    have e := Int.emod_nonneg s (b := 2147483647) (by omega)
    have e2 := Int.emod_lt_of_pos s (b := 2147483647) (by omega)
    exact ⟨_, _, rfl, by constructor <;> omega⟩
  have hb1 : bitsOk 7919 k = true := bits_ok (by omega) (by omega)
  have hb2 : bitsOk (7919 * k) k = true := bits_ok (by omega) (by omega)
  have nl : ∀ c : Int, 0 ≤ c → c < 2147483629 → bitsOk (c + 7919 * k * k + 13) 48271 = true := fun c h0 h1 => bits_small (.inr (by omega))
  split
  · rename_i hk2
    rw [atI_nat hk2]
    simp
    generalize ns[k] = c
    have hz : ∃ z : Int, (if c < 0 then -c else c) = z ∧ 0 ≤ z := by
      split
      · exact ⟨-c, rfl, by omega⟩
      · exact ⟨c, rfl, by omega⟩
    obtain ⟨z, ez, hz⟩ := hz
    rw [ez]
    have c0 := Int.emod_nonneg z (b := 2147483629) (by omega)
    have c1 := Int.emod_lt_of_pos z (b := 2147483629) (by omega)
    refine ⟨hb1, hb2, nl _ c0 c1, bits_small (.inr ?_), two_lim, fin _ _, rfl, rfl⟩
    split <;> omega
  · have q := nl 0 (by omega) (by omega)
    rw [Int.zero_add] at q
    exact ⟨hb1, hb2, q, bits_small (.inl (by omega)), two_lim, fin _ _, rfl, rfl⟩
def RowR (m : Nat) (d : D) (fr : Bool) (es : List D) : Prop := ∃ xs p, d = rowD xs ∧ fr = true ∧ es = [p] ∧ IsPool p ∧ xs.length ≤ m ∧ Nb xs
def WoI (m : D) (i : Nat) (acc : List D) (Δ : SD) : Prop := ∃ p xs, Δ = [.ow p, .sh m, .un] ∧ IsPool p ∧ acc = xs.map D.int ∧ xs.length = i ∧ Nb xs
theorem word_g {p : D} {m : Nat} (hp : IsPool p) (hm : m ≤ 100) : wpR (m__law_word [p, .int m]) (K := ⟨RowR m, noF⟩) := by
  unfold m__law_word b__law_word
  rw [wpR_def]
  simp [startD]
  refine wpR_use (take_ok hp (by omega) (by omega)) ?_
  rintro d fr es ⟨r, p1, rfl, rfl, h0, h1, hp1⟩
  simp
  refine ⟨by omega, wp_turns_inv (WoI (.int m)) ⟨_, [], rfl, hp1, rfl, rfl, fun _ h => (nomatch h)⟩ ?_ ?_⟩
  · rintro i d acc Δ hd ⟨p, xs, rfl, hp, rfl, hl, hn⟩
    simp
    refine wpR_use (take_ok hp (by omega) (by omega)) ?_
    rintro d fr es ⟨r, p1, rfl, rfl, a0, a1, hp1⟩
    simp
    exact ⟨_, xs ++ [1 + r], rfl, hp1, by simp, by simp [hl], fun x hx => by
      rcases List.mem_append.mp hx with q | q
      · exact hn x q
      · rw [List.mem_singleton] at q; subst q; exact ⟨by omega, by omega⟩⟩
  · rintro acc Δ ⟨p, xs, rfl, hp, rfl, hl, hn⟩
    rw [intsFrom_length] at hl
    have ll : xs.length ≤ lim := by unfold lim; omega
    simp [ll]
    exact ⟨xs, p, rfl, rfl, rfl, hp, by omega, hn⟩
def PairR (d : D) (fr : Bool) (es : List D) : Prop := ∃ a b p, d = .lst [rowD a, rowD b] ∧ es = [p] ∧ IsPool p ∧ a.length ≤ 6 ∧ b.length ≤ 6 ∧ Nb a ∧ Nb b
theorem pair_ok {p : D} (hp : IsPool p) : wpR (m__law_pair [p]) (K := ⟨PairR, noF⟩) := by
  unfold m__law_pair b__law_pair
  rw [wpR_def]
  have l3 : 3 ≤ lim := by decide
  have l5 : 5 ≤ lim := by decide
  simp [startD]
  refine wpR_use (word_g (m := 3) hp (by omega)) ?_
  rintro d fr es ⟨xs, p1, rfl, rfl, rfl, hp1, hx, nx⟩
  simp
  refine wpR_use (word_g (m := 3) hp1 (by omega)) ?_
  rintro d fr es ⟨ys, p2, rfl, rfl, rfl, hp2, hy, ny⟩
  have lxy : xs.length + ys.length ≤ lim := by unfold lim; omega
  simp [lxy]
  refine wpR_use (word_g (m := 4) hp2 (by omega)) ?_
  rintro d fr es ⟨zs, p3, rfl, rfl, rfl, hp3, hz, nz⟩
  simp [l3, l5]
  refine wpR_use (take_ok hp3 (by omega) (by omega)) ?_
  rintro d fr es ⟨r, p4, rfl, rfl, h0, h1, hp4⟩
  simp [l3, l5]
  have key : ∃ (j : Int) (o : List Int), atI [D.int 0, D.int 0, D.int 0, D.int 1, D.int 2] r = some (.int j) ∧ atI [rowD (xs ++ ys), rowD zs, rowD xs] j = some (rowD o) ∧ o.length ≤ 6 ∧ Nb o := by
    have n1 : Nb (xs ++ ys) := fun x h => by
      rcases List.mem_append.mp h with h | h
      · exact nx x h
      · exact ny x h
    have : r = 0 ∨ r = 1 ∨ r = 2 ∨ r = 3 ∨ r = 4 := by omega
    rcases this with rfl | rfl | rfl | rfl | rfl
    · exact ⟨0, xs ++ ys, rfl, rfl, by simp; omega, n1⟩
    · exact ⟨0, xs ++ ys, rfl, rfl, by simp; omega, n1⟩
    · exact ⟨0, xs ++ ys, rfl, rfl, by simp; omega, n1⟩
    · exact ⟨1, zs, rfl, rfl, by omega, nz⟩
    · exact ⟨2, xs, rfl, rfl, by omega, nx⟩
  obtain ⟨j, o, e1, e2, ho, no⟩ := key
  simp [e1, e2, two_lim]
  refine wpR_use (take_ok hp4 (by omega) (by omega)) ?_
  rintro d fr es ⟨r, p5, rfl, rfl, h0, h1, hp5⟩
  have : r = 0 ∨ r = 1 := by omega
  rcases this with rfl | rfl
  · simp [two_lim]
    exact ⟨_, _, _, rfl, rfl, hp5, by omega, by omega, nx, no⟩
  · simp [two_lim]
    exact ⟨_, _, _, rfl, rfl, hp5, by omega, by omega, no, nx⟩
theorem raised_ok {N G : List Int} {e : Int} : wpR (m__law_raised [rowD N, rowD G, .int e]) (K := ⟨Is (powD (outPow N G e)), noF⟩) := by
  unfold m__law_raised b__law_raised x__law_raised_1 x__law_raised_2 x__law_raised_3 x__law_raised_4
  rw [wpR_def]
  have h5 : 5 ≤ lim := by decide
  unfold outPow
  simp [startD, rNil, h5]
  by_cases h0 : e = 0
  · simp [h0, h5]; exact ⟨rfl, rfl⟩
  by_cases h1 : N = G
  · simp [h0, h1, h5]; exact ⟨rfl, rfl⟩
  by_cases h2 : G.take N.length = N
  · simp [h0, h1, h2, h5]; exact ⟨rfl, rfl⟩
  by_cases h3 : N.take G.length = G
  · simp [h0, h1, h2, h3, h5]; exact ⟨rfl, rfl⟩
  by_cases h4 : e = 1
  · simp [h0, h1, h2, h3, h4, h5]; exact ⟨rfl, rfl⟩
  · simp [h0, h1, h2, h3, h4, h5]; exact ⟨rfl, rfl⟩
/-! ### texts -/
def Cy (n w : Nat) (d : D) : Prop := (∃ p, toPy d = some p ∧ p.depth ≤ n) ∧ shD d = true ∧ wt d ≤ w
theorem cy_cz {n w : Nat} {d : D} (h : Cz n w d) : Cy n w d := ⟨pl_py h.1, h.2.1, h.2.2⟩
theorem cy_bl {b : Bool} : Cy 0 110 (.bl b) := ⟨⟨_, rfl, Nat.le_refl _⟩, rfl, by cases b <;> decide⟩
theorem cy_pyL {n : Nat} : ∀ {ds : List D}, (∀ d ∈ ds, ∃ p, toPy d = some p ∧ p.depth ≤ n) → ∃ ps, toPyL ds = some ps ∧ PyData.depthAll ps ≤ n
  | [], _ => ⟨[], rfl, Nat.zero_le _⟩
  | d :: ds, h => by
    obtain ⟨p, e1, h1⟩ := h d (List.mem_cons_self ..)
    obtain ⟨ps, e2, h2⟩ := cy_pyL (n := n) fun d hd => h d (List.mem_cons_of_mem _ hd)
    refine ⟨p :: ps, by simp [toPyL, e1, e2], ?_⟩
    simp only [PyData.depthAll]
    omega
theorem cy_all {n w : Nat} : ∀ {ds : List D}, (∀ d ∈ ds, Cy n w d) → shL ds = true ∧ wtL ds ≤ ds.length * (w + 2)
  | [], _ => ⟨rfl, Nat.zero_le _⟩
  | d :: ds, h => by
    obtain ⟨h1, h2⟩ := cy_all (n := n) (w := w) fun d hd => h d (List.mem_cons_of_mem _ hd)
    obtain ⟨_, q1, q2⟩ := h d (List.mem_cons_self ..)
    refine ⟨by simp [shL, q1, h1], ?_⟩
    simp only [wtL, List.length_cons, Nat.add_mul]
    omega
theorem cy_lst {n w m k : Nat} {ds : List D} (h : ∀ d ∈ ds, Cy n w d) (hl : ds.length ≤ m) (hk : m * (w + 2) + 4 ≤ k) : Cy (n + 1) k (.lst ds) := by
  obtain ⟨ps, e, hd⟩ := cy_pyL (n := n) fun d hd => (h d hd).1
  obtain ⟨h1, h2⟩ := cy_all h
  have := Nat.mul_le_mul_right (w + 2) hl
  exact ⟨⟨.list ps, by simp [toPy, e], by simp only [PyData.depth]; omega⟩, h1, by simp only [wt]; omega⟩
theorem cy_tup {n w m k : Nat} {ds : List D} (h : ∀ d ∈ ds, Cy n w d) (hl : ds.length ≤ m) (hk : m * (w + 2) + 4 ≤ k) : Cy (n + 1) k (.tup ds) := by
  obtain ⟨ps, e, hd⟩ := cy_pyL (n := n) fun d hd => (h d hd).1
  obtain ⟨h1, h2⟩ := cy_all h
  have := Nat.mul_le_mul_right (w + 2) hl
  exact ⟨⟨.tuple ps, by simp [toPy, e], by simp only [PyData.depth]; omega⟩, h1, by simp only [wt]; omega⟩
theorem Cy.repr {n w : Nat} {d : D} (h : Cy n w d) (hn : n ≤ 50 := by omega) (hw : w ≤ lim := by decide) : ∃ x, dReprX [d] = some (.str x) := by
  obtain ⟨⟨p, e, hd⟩, hs, hw'⟩ := h
  refine ⟨p.shown, dReprX_of ?_⟩
  show (toPy d).bind _ = _
  rw [e, Option.bind_some, if_pos]
  unfold reprOk
  simp only [Bool.and_eq_true, decide_eq_true_eq]
  exact ⟨⟨showable_of e hs, Nat.le_trans (shown_le e) (Nat.le_trans hw' hw)⟩, by omega⟩
theorem Cy.up {n w k : Nat} {d : D} (h : Cy n w d) (hk : w ≤ k) : Cy (n + 1) k d := ⟨h.1.imp fun p q => ⟨q.1, by omega⟩, h.2.1, Nat.le_trans h.2.2 hk⟩
theorem cy_exp {i : Int} (h : 0 ≤ i ∧ i ≤ 10 ^ 30) : Cy 0 110 (.int i) := by
  by_cases e : i = 10 ^ 30
  · subst e
    exact ⟨⟨_, rfl, Nat.le_refl _⟩, by decide +kernel, by decide +kernel⟩
  · exact (cy_cz (cz_int ⟨h.1, by omega⟩))
def Pw5 (e : Int) (l : Pow5) : Prop := Nb l.1 ∧ Nb l.2.1 ∧ Nb l.2.2.1 ∧ l.1.length ≤ 6 ∧ l.2.1.length ≤ 6 ∧ l.2.2.1.length ≤ 6 ∧ (0 ≤ l.2.2.2.1 ∧ l.2.2.2.1 ≤ e) ∧ (0 ≤ l.2.2.2.2 ∧ l.2.2.2.2 ≤ e)
theorem nb_drop {xs : List Int} {n : Nat} (h : Nb xs) : Nb (xs.drop n) := fun x hx => h x (List.mem_of_mem_drop hx)
theorem nb_nil : Nb [] := fun _ h => nomatch h
theorem pw_of {N G : List Int} {e : Int} {l : Pow5} (hN : Nb N) (hG : Nb G) (lN : N.length ≤ 6) (lG : G.length ≤ 6) (he : 0 ≤ e) (h : outPow N G e = some l) : Pw5 e l := by
  unfold outPow at h
  have z : ([] : List Int).length ≤ 6 := by simp
  have d1 : (G.drop N.length).length ≤ 6 := by rw [List.length_drop]; omega
  have d2 : (N.drop G.length).length ≤ 6 := by rw [List.length_drop]; omega
  split at h
  · cases h; exact ⟨nb_nil, nb_nil, nb_nil, z, z, z, ⟨Int.le_refl _, he⟩, Int.le_refl _, he⟩
  split at h
  · cases h; exact ⟨hN, hG, nb_nil, lN, lG, z, ⟨Int.le_refl _, he⟩, Int.le_refl _, he⟩
  split at h
  · cases h; exact ⟨hN, hN, nb_drop hG, lN, lN, d1, ⟨Int.le_refl _, he⟩, he, Int.le_refl _⟩
  split at h
  · cases h; exact ⟨hG, hG, nb_drop hN, lG, lG, d2, ⟨he, Int.le_refl _⟩, Int.le_refl _, he⟩
  split at h
  · cases h; exact ⟨hN, hG, nb_nil, lN, lG, z, ⟨Int.le_refl _, he⟩, Int.le_refl _, he⟩
  · cases h
theorem cy_pow {e : Int} {l : Pow5} (he : e ≤ 10 ^ 30) (h : Pw5 e l) : Cy 2 4000 (powD (some l)) := by
  obtain ⟨a, b, c, i, j⟩ := l
  obtain ⟨h1, h2, h3, h4, h5, h6, h7, h8⟩ := h
  refine cy_tup (n := 1) (w := 700) (m := 5) (fun d hd => ?_) (by simp) (by omega)
  simp only [List.mem_cons, List.not_mem_nil, or_false] at hd
  rcases hd with rfl | rfl | rfl | rfl | rfl
  · exact cy_cz (cz_row h1 h4 (by omega))
  · exact cy_cz (cz_row h2 h5 (by omega))
  · exact cy_cz (cz_row h3 h6 (by omega))
  · exact Cy.up (cy_exp ⟨h7.1, Int.le_trans h7.2 he⟩) (by omega)
  · exact Cy.up (cy_exp ⟨h8.1, Int.le_trans h8.2 he⟩) (by omega)
theorem nb_rev {a : List Int} (h : Nb a) : Nb a.reverse := fun x hx => h x (List.mem_reverse.mp hx)
theorem pws_of {p x s y : List Int} {e : Int} {l r : Pow5} (hp : Nb p) (hx : Nb x) (hs : Nb s) (hy : Nb y) (h : p.length ≤ 6 ∧ x.length ≤ 6 ∧ s.length ≤ 6 ∧ y.length ≤ 6) (he : 0 ≤ e) (hq : longPow p x s y e = some (l, r)) : Pw5 e l ∧ Pw5 e r := by
  unfold longPow at hq
  split at hq
  · rename_i l' a b c i j h1 h2
    cases hq
    have q1 := pw_of hp hx h.1 h.2.1 he h1
    obtain ⟨g1, g2, g3, g4, g5, g6, g7, g8⟩ := pw_of (nb_rev hs) (nb_rev hy) (by rw [List.length_reverse]; exact h.2.2.1) (by rw [List.length_reverse]; exact h.2.2.2) he h2
    refine ⟨q1, nb_rev g1, nb_rev g2, nb_rev g3, ?_, ?_, ?_, g7, g8⟩ <;> (rw [List.length_reverse]; assumption)
  · cases hq
theorem repr_pow {p x s y : List Int} {e : Int} (hp : Nb p) (hx : Nb x) (hs : Nb s) (hy : Nb y) (h : p.length ≤ 6 ∧ x.length ≤ 6 ∧ s.length ≤ 6 ∧ y.length ≤ 6) (he : 0 ≤ e ∧ e ≤ 10 ^ 30) : ∃ z, dReprX [lpowD (longPow p x s y e)] = some (.str z) := by
  cases hq : longPow p x s y e with
  | none => exact ⟨_, rfl⟩
  | some q =>
    obtain ⟨l, r⟩ := q
    obtain ⟨h1, h2⟩ := pws_of hp hx hs hy h he.1 hq
    refine Cy.repr (n := 3) (w := 9000) (cy_tup (n := 2) (w := 4000) (m := 2) (fun d hd => ?_) (by simp) (by omega))
    simp only [List.mem_cons, List.not_mem_nil, or_false] at hd
    rcases hd with rfl | rfl
    · exact cy_pow he.2 h1
    · exact cy_pow he.2 h2
theorem paths_ok {e : Int} {l r : Pow5} (hl : Pw5 e l) (hr : Pw5 e r) : [((0 : Int), (0 : Int)), (0, 1), (0, 2), (1, 0), (1, 1), (1, 2)].all (pathOk 6 (lpowD (some (l, r)))) = true := by
  obtain ⟨a, b, c, i, j⟩ := l
  obtain ⟨a', b', c', i', j'⟩ := r
  obtain ⟨h1, h2, h3, h4, h5, h6, h7, h8⟩ := hl
  obtain ⟨g1, g2, g3, g4, g5, g6, g7, g8⟩ := hr
  have hL : lim = 1000000 := rfl
  dsimp only at h4 h5 h6 g4 g5 g6
  simp only [List.all_cons, List.all_nil, Bool.and_eq_true, and_true]
  refine ⟨?_, ?_, ?_, ?_, ?_, ?_⟩ <;> (simp [pathOk, lpowD, powD, rowD, hL]; omega)
/-! ### the law -/
def nothD : D := .tup [.lst [], .lst [], .lst [], .int 0, .int 0]
def Lw (ns a b a' b' : List Int) (Δ : SD) : Prop := ∃ k p s7 s8 s9 s10 s11 s12 s13, Δ = [.sh (.scr ns), .sh nothD, .sh (.int k), .ow p, .sh (.lst [rowD a, rowD b]), .sh (.lst [rowD a', rowD b']), .sh (longD (some (a, b, a'.reverse, b'.reverse))), s7, s8, s9, s10, s11, s12, s13] ∧ IsPool p
theorem turn_ok {ns a b a' b' : List Int} {e k : Int} {p : D} {s8 s9 s10 s11 s12 s13 : SC} (ha : Nb a) (hb : Nb b) (ha' : Nb a') (hb' : Nb b') (h : a.length ≤ 6 ∧ b.length ≤ 6 ∧ a'.length ≤ 6 ∧ b'.length ≤ 6) (he : 0 ≤ e ∧ e ≤ 10 ^ 30) (hp : IsPool p) (f : M Fl)
    (hf : f = (mSeq (mSet 8 (mCall 3 [] m__law_raised (mCons (mV (mOp dIx (mSlot 4) (mV (mPure (.int 0))))) (mCons (mV (mOp dIx (mSlot 4) (mV (mPure (.int 1))))) (mCons (mV (mVar 7)) mNil)))))
  (mSeq (mSet 9 (mCall 3 [] m__law_raised (mCons (mV (mOp dIx (mSlot 5) (mV (mPure (.int 0))))) (mCons (mV (mOp dIx (mSlot 5) (mV (mPure (.int 1))))) (mCons (mV (mVar 7)) mNil)))))
  (mSeq (mSet 10 (mPure .non))
  (mSeq x_law_1
  (mWreckP 12 13 [(0, 0), (0, 1), (0, 2), (1, 0), (1, 1), (1, 2)] (mCall 2 [] Pg.m_long_power (mCons (mV (mVar 6)) (mCons (mV (mVar 7)) mNil))) (mBl (mOp dNe (mV (mCb dReprX (mCons (mSlot 12) mNil))) (mV (mCb dReprX (mCons (mSlot 10) mNil))))) (mBl (mOp dIsNot (mSlot 12) (mV (mPure .non)))) x_law_2
  x_law_3)))))) :
    wp f [.sh (.scr ns), .sh nothD, .sh (.int k), .ow p, .sh (.lst [rowD a, rowD b]), .sh (.lst [rowD a', rowD b']), .sh (longD (some (a, b, a'.reverse, b'.reverse))), .sh (.int e), s8, s9, s10, s11, s12, s13] (K := ⟨fun fl Δ => fl = .nx ∧ Lw ns a b a' b' Δ, noE⟩) := by
  subst hf
  simp
  refine wpR_use raised_ok ?_
  rintro d fr es ⟨rfl, rfl⟩
  simp
  refine wpR_use raised_ok ?_
  rintro d fr es ⟨rfl, rfl⟩
  simp
  have hl : longPow a b a'.reverse b'.reverse e = match outPow a b e, outPow a' b' e with
    | some l, some (x, y, z, i, j) => some (l, (x.reverse, y.reverse, z.reverse, i, j))
    | _, _ => none := by
    unfold longPow
    rw [List.reverse_reverse, List.reverse_reverse]
    all_goals (cases outPow a b e <;> cases outPow a' b' e <;> rfl)
  -- what is due
  have due : wp x_law_1 [.sh (.scr ns), .sh nothD, .sh (.int k), .ow p, .sh (.lst [rowD a, rowD b]), .sh (.lst [rowD a', rowD b']), .sh (longD (some (a, b, a'.reverse, b'.reverse))), .sh (.int e), .sh (powD (outPow a b e)), .sh (powD (outPow a' b' e)), .sh .non, s11, s12, s13]
      (K := ⟨fun fl Δ => fl = .nx ∧ ∃ s11 s13, Δ = [.sh (.scr ns), .sh nothD, .sh (.int k), .ow p, .sh (.lst [rowD a, rowD b]), .sh (.lst [rowD a', rowD b']), .sh (longD (some (a, b, a'.reverse, b'.reverse))), .sh (.int e), .sh (powD (outPow a b e)), .sh (powD (outPow a' b' e)), .sh (lpowD (longPow a b a'.reverse b'.reverse e)), s11, s12, s13], noE⟩) := by
    rw [hl]
    unfold x_law_1
    rcases outPow a b e with _ | l
    · simp [powD]
      rfl
    · rcases outPow a' b' e with _ | ⟨x, y, z, i, j⟩
      · simp [powD]
        rfl
      · have ec : dCut (.tup [rowD x, rowD y, rowD z, .int i, .int j]) none (some 3) = some (.tup ([x, y, z].map rowD)) := rfl
        have l5 : 5 ≤ lim := by decide
        have l3 : 3 ≤ lim := by decide
        simp [powD, ec, -List.map_cons]
        refine wp_turns_mapA (xs := [x, y, z]) (fun r => rowD r.reverse) (fun r hr => ?_) ?_
        · simp
        · simp [l3, l5, two_lim]
          exact ⟨rfl, rfl, rfl⟩
  refine wp_mono due ?_ fun _ _ _ z => z.elim
  rintro fl Δ ⟨rfl, s11, s13, rfl⟩
  simp
  rw [wp_wreckP]
  simp
  refine wpR_use (long_power_okR ha.nn hb.nn (nb_rev ha').nn (nb_rev hb').nn (by have : lim = 1000000 := rfl; simp; omega) he) ?_
  rintro d fr es ⟨rfl, rfl⟩
  obtain ⟨z, hz⟩ := repr_pow ha hb (nb_rev ha') (nb_rev hb') (by simp; exact h) he
  simp [lendD, strip, bare1, hz]
  have fin : ∀ {s12 s13 : SC}, wp x_law_3 [.sh (.scr ns), .sh nothD, .sh (.int k), .ow p, .sh (.lst [rowD a, rowD b]), .sh (.lst [rowD a', rowD b']), .sh (longD (some (a, b, a'.reverse, b'.reverse))), .sh (.int e), .sh (powD (outPow a b e)), .sh (powD (outPow a' b' e)), .sh (lpowD (longPow a b a'.reverse b'.reverse e)), s11, s12, s13] (K := ⟨fun fl Δ => fl = .nx ∧ Lw ns a b a' b' Δ, noE⟩) := by
    intro s12 s13
    unfold x_law_3
    simp
    refine wpR_use (long_power_noneR he) ?_
    rintro d fr es ⟨rfl, rfl⟩
    have en : D.tup [powD (outPow [] [] 0), powD (outPow [] [] 0)] = .tup [nothD, nothD] := rfl
    obtain ⟨w, hw, _⟩ := reprGB_ok (d := .tup [nothD, nothD]) (by decide +kernel)
    by_cases h0 : e = 0
    · simp [h0, en, hw, two_lim]
      exact ⟨_, _, _, _, _, _, _, _, _, rfl, hp⟩
    · obtain ⟨u, hu⟩ : ∃ u, dRepr [D.non] = some (.str u) := ⟨_, rfl⟩
      simp [h0, hu]
      exact ⟨_, _, _, _, _, _, _, _, _, rfl, hp⟩
  cases hq : longPow a b a'.reverse b'.reverse e with
  | none =>
    rw [hq] at fin
    have n1 : isNon (lpowD none) = true := rfl
    rw [if_pos n1]
    exact fin
  | some q =>
    obtain ⟨l, r⟩ := q
    have n1 : ¬ isNon (lpowD (some (l, r))) = true := by
      intro z
      cases z
    rw [if_neg n1]
    obtain ⟨q1, q2⟩ := pws_of ha hb (nb_rev ha') (nb_rev hb') (by simp; exact h) he.1 hq
    have po := paths_ok q1 q2
    simp only [List.all_cons, List.all_nil, Bool.and_eq_true, and_true] at po
    refine ⟨po, ?_⟩
    unfold x_law_2
    simp
    refine wpR_use (long_power_okR ha.nn hb.nn (nb_rev ha').nn (nb_rev hb').nn (by have : lim = 1000000 := rfl; simp; omega) he) ?_
    rintro d fr es ⟨rfl, rfl⟩
    rw [hq] at fin hz ⊢
    simp [hz]
    exact fin
def LI (ns : List Int) (i : Nat) (Δ : SD) : Prop := ∃ s2 s3 s4 s5 s6 s7 s8 s9 s10 s11 s12 s13, Δ = [.sh (.scr ns), .sh nothD, s2, s3, s4, s5, s6, s7, s8, s9, s10, s11, s12, s13]
def EI (ns a b a' b' : List Int) (ds : List D) (Δ : SD) : Prop := Lw ns a b a' b' Δ ∧ ∀ d ∈ ds, ∃ e : Int, d = .int e ∧ 0 ≤ e ∧ e ≤ 10 ^ 30
theorem law_holds (ns : List Int) (hns : ns.length ≤ 63) : ∃ fr, m_law [.scr ns] = .ok (.bl true) fr [] := by
  have key : wpR (m_law [.scr ns]) (K := ⟨Is (.bl true), noF⟩) := by
    unfold m_law b_law x_law_5
    rw [wpR_def]
    have l5 : 5 ≤ lim := by decide
    simp [startD, l5]
    obtain ⟨m, hm, h0, h6⟩ : ∃ m : Int, (if 1 < if (ns.length : Int) < 6 then (ns.length : Int) else 6 then if (ns.length : Int) < 6 then (ns.length : Int) else 6 else 1) = m ∧ 0 ≤ m ∧ m ≤ 6 := by
      refine ⟨_, rfl, ?_⟩
      split <;> split <;> omega
    rw [hm]
    refine ⟨by omega, ?_⟩
    refine wp_for_ints (LI ns) ⟨_, _, _, _, _, _, _, _, _, _, _, _, rfl⟩ ?_ ?_
    · rintro k Δ hk ⟨s2, s3, s4, s5, s6, s7, s8, s9, s10, s11, s12, s13, rfl⟩
      simp
      refine wpR_use (pool_ok (by omega)) ?_
      rintro d fr es ⟨hp0, rfl, rfl⟩
      simp
      refine wpR_use (pair_ok hp0) ?_
      rintro d fr es ⟨a, b, p1, rfl, rfl, hp1, la, lb, na, nb⟩
      simp
      refine wpR_use (pair_ok hp1) ?_
      rintro d fr es ⟨a', b', p2, rfl, rfl, hp2, la', lb', na', nb'⟩
      have h4 : 4 ≤ lim := by decide
      have eL : D.tup [rowD a, rowD b, rowD a'.reverse, rowD b'.reverse] = longD (some (a, b, a'.reverse, b'.reverse)) := rfl
      simp [h4, eL]
      unfold x_law_4
      simp
      refine wpR_use (take_ok hp2 (by omega) (by omega)) ?_
      rintro d fr es ⟨t, p3, rfl, rfl, t0, t1, hp3⟩
      simp
      refine wpR_use (take_ok hp3 (by omega) (by omega)) ?_
      rintro d fr es ⟨u, p4, rfl, rfl, u0, u1, hp4⟩
      simp
      refine ⟨by omega, by decide, wp_for_inv (EI ns a b a' b') ⟨⟨_, _, _, _, _, _, _, _, _, rfl, hp4⟩, ?_⟩ ?_ ?_⟩
      · have u2 : u ^ 2 ≤ 10 ^ 30 := by
          have z := Int.mul_le_mul (a := u) (b := u) (c := 10 ^ 15) (d := 10 ^ 15) (by omega) (by omega) u0 (by omega)
          rw [Int.pow_succ, Int.pow_succ, Int.pow_zero, Int.one_mul]
          omega
        have u3 : 0 ≤ u ^ 2 := by
          rw [Int.pow_succ, Int.pow_succ, Int.pow_zero, Int.one_mul]
          exact Int.mul_nonneg u0 u0
        intro d hd
        simp only [List.mem_cons, List.not_mem_nil, or_false] at hd
        rcases hd with rfl | rfl | rfl | rfl | rfl | rfl | rfl
        · exact ⟨_, rfl, by omega⟩
        · exact ⟨_, rfl, by omega⟩
        · exact ⟨_, rfl, by omega⟩
        · exact ⟨_, rfl, by omega⟩
        · exact ⟨_, rfl, by omega⟩
        · exact ⟨_, rfl, u3, u2⟩
        · exact ⟨_, rfl, by omega⟩
      · rintro d rest Δ ⟨⟨k, p, s7, s8, s9, s10, s11, s12, s13, rfl, hp⟩, hr⟩
        obtain ⟨e, rfl, he⟩ := hr d (List.mem_cons_self ..)
        rw [wp_tg1]
        refine ⟨by simp, ?_⟩
        refine wp_mono (turn_ok na nb na' nb' ⟨la, lb, la', lb'⟩ he hp _ rfl) ?_ fun _ _ _ z => z.elim
        rintro fl Δ ⟨rfl, hl⟩
        exact ⟨hl, fun d hd => hr d (List.mem_cons_of_mem _ hd)⟩
      · rintro Δ ⟨⟨k, p, s7, s8, s9, s10, s11, s12, s13, rfl, hp⟩, _⟩
        simp
        exact ⟨_, _, _, _, _, _, _, _, _, _, _, _, rfl⟩
    · rintro Δ ⟨s2, s3, s4, s5, s6, s7, s8, s9, s10, s11, s12, s13, rfl⟩
      simp
      exact ⟨rfl, rfl⟩
  unfold wpR at key
  cases hr : m_law [.scr ns] with
  | ok d fr es => rw [hr] at key; obtain ⟨rfl, rfl⟩ := key; exact ⟨fr, rfl⟩
  | ex n d es => rw [hr] at key; exact key.elim
  | bad => rw [hr] at key; exact key.elim
end Tk37

open PySem PySem.W PyProof.Rows in
set_option maxRecDepth 100000 in
set_option maxHeartbeats 0 in
theorem PySem.Challenge.cw_dequeeffect_k37_great_long_powers_holds : PySem.Challenge.rw_dequeeffect_k37_great_long_powers.Holds := by
  w_on; o_law; k_head; (case hw => w_witness2)
  k_fill
  refine DL.law_walk (l := PySem.Challenge.rw_dequeeffect_k37_great_long_powers) (k := 21) (x := "_law_script") (g := Tk37.m_law) rfl (by decide) rfl ⟨rfl, by decide, by decide⟩ (fun w h Y => by first | exact PySem.W.kIn_of Y | exact PySem.W.km_in_of Y | exact Y.1) ?F Tk37.law_holds
  case F =>
    intro w mg fa h YP KX G hmg
    refine' Tk37.all_facts KX G hmg ?qq_No_Effect ?qq_No_Yard ?qq_No_Session ?qq_a0 ?qq_l0 ?qq_c0 ?qq_k0 ?qq_a1 ?qq_l1 ?qq_c1 ?qq_k1 ?qq_a2 ?qq_l2 ?qq_c2 ?qq_k2 ?qq_a3 ?qq_l3 ?qq_c3 ?qq_k3 ?qq_a4 ?qq_l4 ?qq_c4 ?qq_k4 ?qq_a5 ?qq_l5 ?qq_c5 ?qq_k5 ?qq_a6 ?qq_l6 ?qq_c6 ?qq_k6 ?qq_a7 ?qq_l7 ?qq_c7 ?qq_k7 ?qq_a8 ?qq_l8 ?qq_c8 ?qq_k8 ?qq_a9 ?qq_l9 ?qq_c9 ?qq_k9 ?qq_a10 ?qq_l10 ?qq_c10 ?qq_k10 ?qq_a11 ?qq_l11 ?qq_c11 ?qq_k11 ?qq_a12 ?qq_l12 ?qq_c12 ?qq_k12 ?qq_A_InvalidLong ?qq_X_InvalidLong ?qq_InvalidLong_sa ?qq_InvalidLong_ex ?qq_InvalidLong_ty ?qq_InvalidLong_kC ?qq_InvalidLong_va ?qq_axInvalidLong ?qq_txInvalidLong ?qq_lxInvalidLong ?qq_cxInvalidLong ?qq_kxInvalidLong ?qq_A_RowError ?qq_RowError_rd ?qq_RowError_ga ?qq_RowError_in ?qq_A_InvalidNumber ?qq_X_InvalidNumber ?qq_InvalidNumber_sa ?qq_InvalidNumber_ex ?qq_InvalidNumber_ty ?qq_InvalidNumber_kC ?qq_InvalidNumber_va ?qq_axInvalidNumber ?qq_txInvalidNumber ?qq_lxInvalidNumber ?qq_cxInvalidNumber ?qq_kxInvalidNumber ?qq_g0 ?qq_z0 ?qq_z1 ?qq_z2 ?qq_z3 ?qq_z4 ?qq_z5 ?qq_z6 ?qq_z7 ?qq_z8 ?qq_z9 ?qq_z10 ?qq_z11 ?qq_z12 ?qq_z13 ?qq_z14 ?qq_z15 ?qq_z16 ?qq_z17 ?qq_z18 ?qq_z19 ?qq_R_InvalidLong ?qq_R_InvalidNumber
    (case qq_No_Effect => k_is)
    (case qq_No_Yard => k_is)
    (case qq_No_Session => k_is)
    (case qq_a0 => k_is)
    (case qq_l0 => k_is)
    (case qq_c0 => k_is)
    (case qq_k0 => k_is)
    (case qq_a1 => k_is)
    (case qq_l1 => k_is)
    (case qq_c1 => k_is)
    (case qq_k1 => k_is)
    (case qq_a2 => k_is)
    (case qq_l2 => k_is)
    (case qq_c2 => k_is)
    (case qq_k2 => k_is)
    (case qq_a3 => k_is)
    (case qq_l3 => k_is)
    (case qq_c3 => k_is)
    (case qq_k3 => k_is)
    (case qq_a4 => k_is)
    (case qq_l4 => k_is)
    (case qq_c4 => k_is)
    (case qq_k4 => k_is)
    (case qq_a5 => k_is)
    (case qq_l5 => k_is)
    (case qq_c5 => k_is)
    (case qq_k5 => k_is)
    (case qq_a6 => k_is)
    (case qq_l6 => k_is)
    (case qq_c6 => k_is)
    (case qq_k6 => k_is)
    (case qq_a7 => k_is)
    (case qq_l7 => k_is)
    (case qq_c7 => k_is)
    (case qq_k7 => k_is)
    (case qq_a8 => k_is)
    (case qq_l8 => k_is)
    (case qq_c8 => k_is)
    (case qq_k8 => k_is)
    (case qq_a9 => k_is)
    (case qq_l9 => k_is)
    (case qq_c9 => k_is)
    (case qq_k9 => k_is)
    (case qq_a10 => k_is)
    (case qq_l10 => k_is)
    (case qq_c10 => k_is)
    (case qq_k10 => k_is)
    (case qq_a11 => k_is)
    (case qq_l11 => k_is)
    (case qq_c11 => k_is)
    (case qq_k11 => k_is)
    (case qq_a12 => k_is)
    (case qq_l12 => k_is)
    (case qq_c12 => k_is)
    (case qq_k12 => k_is)
    (case qq_A_InvalidLong => k_is)
    (case qq_X_InvalidLong => k_is)
    (case qq_InvalidLong_sa => k_is)
    (case qq_InvalidLong_ex => k_is)
    (case qq_InvalidLong_ty => k_is)
    (case qq_InvalidLong_kC => k_is)
    (case qq_InvalidLong_va => k_is)
    (case qq_axInvalidLong => k_is)
    (case qq_txInvalidLong => k_is)
    (case qq_lxInvalidLong => k_is)
    (case qq_cxInvalidLong => k_is)
    (case qq_kxInvalidLong => k_is)
    (case qq_A_RowError => k_is)
    (case qq_RowError_rd => k_is)
    (case qq_RowError_ga => k_is)
    (case qq_RowError_in => k_is)
    (case qq_A_InvalidNumber => k_is)
    (case qq_X_InvalidNumber => k_is)
    (case qq_InvalidNumber_sa => k_is)
    (case qq_InvalidNumber_ex => k_is)
    (case qq_InvalidNumber_ty => k_is)
    (case qq_InvalidNumber_kC => k_is)
    (case qq_InvalidNumber_va => k_is)
    (case qq_axInvalidNumber => k_is)
    (case qq_txInvalidNumber => k_is)
    (case qq_lxInvalidNumber => k_is)
    (case qq_cxInvalidNumber => k_is)
    (case qq_kxInvalidNumber => k_is)
    (case qq_g0 => k_is)
    (case qq_z0 => k_is)
    (case qq_z1 => k_is)
    (case qq_z2 => k_is)
    (case qq_z3 => k_is)
    (case qq_z4 => k_is)
    (case qq_z5 => k_is)
    (case qq_z6 => k_is)
    (case qq_z7 => k_is)
    (case qq_z8 => k_is)
    (case qq_z9 => k_is)
    (case qq_z10 => k_is)
    (case qq_z11 => k_is)
    (case qq_z12 => k_is)
    (case qq_z13 => k_is)
    (case qq_z14 => k_is)
    (case qq_z15 => k_is)
    (case qq_z16 => k_is)
    (case qq_z17 => k_is)
    (case qq_z18 => k_is)
    (case qq_z19 => k_is)
    (case qq_R_InvalidLong => decide +kernel)
    (case qq_R_InvalidNumber => decide +kernel)
